import PyProof.Rows.All
import Wide.All
import OpenK.AllK
import Wide.FinOn
import PySem.Challenge.RW_whicheverturning_k12_pictures_looked_at
import HandS.ForMost
import HandS.Wide
import HandS.Evl
import HandS.Star
import HandS.Zip
import HandS.IsInst
import HandS.Style
import HandS.TupAny
import HandS.Walk
import HandS.SetFor
import HandS.RaiseMore
import KE.DataMinMax
import KE.GoesMore
import KE.GoesEnum
import HandS.Conv
import HandS.Deep
import HandS.Codes
import HandS.StrSplit
import HandS.Slots
import HandS.Dict
import HandS.Small
import HandS.SlotsOwn
import HandS.Strs
import PyProof.ReprLen
import HandS.TryOnly
import HandS.DictComp
import KE.KDictDisplayH
import KE.SortData
import HandS.TupLen
import HandS.TupSets
import HandS.SortInts
import HandS.Iter
import KE.KDictCopyH
import HandS.DictTup
import HandS.ExcInit
import HandS.ExcIs
import HandS.ExcField
import HandS.ExcSuper
import HandS.ExcValue
import KE.KExcSuper
import HandS.Lambda
import KE.KExcIs
import HandS.WordsExc
import HandS.EndTab
import KE.KDictZip
import PyProof.StrLawsRepr
import PyProof.Rows.StrFit
import HandS.TupMul
set_option Elab.async false
set_option linter.all false
set_option maxRecDepth 100000
set_option maxHeartbeats 4000000
namespace WT
open PySem PySem.Spec PyProof.Rows L2 Evl
/-- a tuple: a plain one, or one known to the last and without a dict -/
def TupAt (H : Hp) (a : Addr) (xs : List V) : Prop := H a = some (.tup xs) ∨ ∃ o : Obj, o.dict = none ∧ H a = some (.frz o (.tup xs))
def Tup1 : HO → Prop
  | .tup _ => True
  | .frz _ (.tup _) => True
  | .frz _ (.lst _) => True
  | _ => False
mutual
def Fz (K : PySem.W.Frag) (H : Hp) : PyData → V → Prop
  | .none, v => v = .non
  | .bool b, v => v = .bl b
  | .int i, v => v = .int i
  | .str s, v => v = .str s
  | .tuple ds, v => ∃ a xs, v = .ref a ∧ TupAt H a xs ∧ FzL K H ds xs
  | .list ds, v => ∃ a o xs, v = .ref a ∧ H a = some (.frz o (.lst xs)) ∧ FzL K H ds xs
  | .dict _, _ => False
def FzL (K : PySem.W.Frag) (H : Hp) : List PyData → List V → Prop
  | [], xs => xs = []
  | d :: ds, xs => ∃ v r, xs = v :: r ∧ Fz K H d v ∧ FzL K H ds r
end
/-- what was a tuple is one still -/
def TEx (H H' : Hp) : Prop := ∀ a u, Tup1 u → H a = some u → H' a = some u
theorem TEx.refl (H : Hp) : TEx H H := fun _ _ _ h => h
theorem TEx.trans {H H1 H2 : Hp} (a : TEx H H1) (b : TEx H1 H2) : TEx H H2 := fun x u t h => b x u t (a x u t h)
theorem tex_of {H H' : Hp} (e : Ex H H') : TEx H H' := fun _ _ _ h => e _ _ h
theorem TEx.tup {H H' : Hp} {a : Addr} {xs : List V} (e : TEx H H') (h : H a = some (.tup xs)) : H' a = some (.tup xs) := e _ _ trivial h
theorem TupAt.mono {H H' : Hp} {a : Addr} {xs : List V} (h : TupAt H a xs) (e : TEx H H') : TupAt H' a xs := by
  rcases h with h | ⟨o, h1, h2⟩
  · exact .inl (e _ _ trivial h)
  · exact .inr ⟨o, h1, e _ _ trivial h2⟩
theorem TupAt.sq {K : PySem.W.Frag} {H : Hp} {a : Addr} {xs : List V} (h : TupAt H a xs) : SqT K H a xs := by
  rcases h with h | ⟨o, _, h2⟩
  · exact st_of h
  · exact .inl (.inr ⟨o, h2⟩)
/-- a list is changed -/
theorem tex_lst {H : Hp} {p : Addr} {xs : List V} {o : HO} (h : H p = some (.lst xs)) : TEx H (upd H p o) := fun a u t r => by
  have n : a ≠ p := fun e => by
    subst e
    rw [h] at r
    cases r
    exact t
  rw [upd_ne n]
  exact r
theorem tex_t {K : PySem.W.Frag} {H H' : Hp} {a : Addr} {xs : List V} (e : TEx H H') (h : TupAt H a xs) : SqT K H' a xs := (h.mono e).sq
section
variable {K : PySem.W.Frag} {H H' : Hp}
mutual
theorem Fz.mono (e : TEx H H') : ∀ (d : PyData) (v : V), Fz K H d v → Fz K H' d v
  | .none, _, h => h
  | .bool _, _, h => h
  | .int _, _, h => h
  | .str _, _, h => h
  | .tuple ds, v, h => by
    simp only [Fz] at h ⊢
    obtain ⟨a, xs, hv, hs, hf⟩ := h
    exact ⟨a, xs, hv, hs.mono e, FzL.mono e ds xs hf⟩
  | .list ds, v, h => by
    simp only [Fz] at h ⊢
    obtain ⟨a, o, xs, hv, hs, hf⟩ := h
    exact ⟨a, o, xs, hv, e _ _ trivial hs, FzL.mono e ds xs hf⟩
  | .dict _, _, h => h
theorem FzL.mono (e : TEx H H') : ∀ (ds : List PyData) (xs : List V), FzL K H ds xs → FzL K H' ds xs
  | [], _, h => h
  | d :: ds, xs, h => by
    simp only [FzL] at h ⊢
    obtain ⟨v, r, hx, h1, h2⟩ := h
    exact ⟨v, r, hx, Fz.mono e d v h1, FzL.mono e ds r h2⟩
end
theorem fz_ex {d : PyData} {v : V} (e : Ex H H') (h : Fz K H d v) : Fz K H' d v := Fz.mono (tex_of e) d v h
theorem fzl_ex {ds : List PyData} {xs : List V} (e : Ex H H') (h : FzL K H ds xs) : FzL K H' ds xs := FzL.mono (tex_of e) ds xs h
theorem fz_int {i : Int} : Fz K H (.int i) (.int i) := by simp only [Fz]
theorem fz_str {s : Str} : Fz K H (.str s) (.str s) := by simp only [Fz]
theorem fz_bl {b : Bool} : Fz K H (.bool b) (.bl b) := by simp only [Fz]
theorem fz_non : Fz K H .none .non := by simp only [Fz]
theorem fz_tup {ds : List PyData} {a : Addr} {xs : List V} (h : H a = some (.tup xs)) (f : FzL K H ds xs) : Fz K H (.tuple ds) (.ref a) := by
  simp only [Fz]
  exact ⟨a, xs, rfl, .inl h, f⟩
theorem fz_at {ds : List PyData} {a : Addr} {xs : List V} (h : TupAt H a xs) (f : FzL K H ds xs) : Fz K H (.tuple ds) (.ref a) := by
  simp only [Fz]
  exact ⟨a, xs, rfl, h, f⟩
theorem fz_tupS {ds : List PyData} {v : V} (h : Fz K H (.tuple ds) v) : ∃ a xs, v = .ref a ∧ TupAt H a xs ∧ FzL K H ds xs := by
  simpa only [Fz] using h
theorem fz_tupI {ds : List PyData} {v : V} (h : Fz K H (.tuple ds) v) : ∃ a xs, v = .ref a ∧ SqT K H a xs ∧ FzL K H ds xs := by
  obtain ⟨a, xs, rfl, h1, h2⟩ := fz_tupS h
  exact ⟨a, xs, rfl, h1.sq, h2⟩
/-- a list that stays -/
theorem fz_lst {ds : List PyData} {a : Addr} {o : Obj} {xs : List V} (h : H a = some (.frz o (.lst xs))) (f : FzL K H ds xs) : Fz K H (.list ds) (.ref a) := by
  simp only [Fz]
  exact ⟨a, o, xs, rfl, h, f⟩
theorem fz_lstI {ds : List PyData} {v : V} (h : Fz K H (.list ds) v) : ∃ a o xs, v = .ref a ∧ H a = some (.frz o (.lst xs)) ∧ FzL K H ds xs := by
  simpa only [Fz] using h
theorem fz_intI {i : Int} {v : V} (h : Fz K H (.int i) v) : v = .int i := by simpa only [Fz] using h
theorem fz_strI {i : Str} {v : V} (h : Fz K H (.str i) v) : v = .str i := by simpa only [Fz] using h
theorem fz_blI {i : Bool} {v : V} (h : Fz K H (.bool i) v) : v = .bl i := by simpa only [Fz] using h
theorem fz_nonI {v : V} (h : Fz K H .none v) : v = .non := by simpa only [Fz] using h
theorem fzl_nil : FzL K H [] [] := by simp only [FzL]
theorem fzl_cons {d : PyData} {ds : List PyData} {v : V} {xs : List V} (h : Fz K H d v) (f : FzL K H ds xs) : FzL K H (d :: ds) (v :: xs) := by
  simp only [FzL]
  exact ⟨v, xs, rfl, h, f⟩
theorem fzl_nilI {xs : List V} (h : FzL K H [] xs) : xs = [] := by simpa only [FzL] using h
theorem fzl_consI {d : PyData} {ds : List PyData} {xs : List V} (h : FzL K H (d :: ds) xs) : ∃ v r, xs = v :: r ∧ Fz K H d v ∧ FzL K H ds r := by
  simpa only [FzL] using h
theorem fzl_len : ∀ {ds : List PyData} {xs : List V}, FzL K H ds xs → xs.length = ds.length
  | [], _, h => by
    rw [fzl_nilI h]
    rfl
  | d :: ds, _, h => by
    obtain ⟨v, r, rfl, _, h2⟩ := fzl_consI h
    rw [List.length_cons, List.length_cons, fzl_len h2]
theorem fzl_get : ∀ {ds : List PyData} {xs : List V} {i : Nat} {d : PyData}, FzL K H ds xs → ds[i]? = some d → ∃ v, xs[i]? = some v ∧ Fz K H d v
  | [], _, _, _, _, e => by simp at e
  | d :: ds, _, 0, _, h, e => by
    obtain ⟨v, r, rfl, h1, _⟩ := fzl_consI h
    cases (Option.some.inj e)
    exact ⟨v, rfl, h1⟩
  | d :: ds, _, i + 1, _, h, e => by
    obtain ⟨v, r, rfl, _, h2⟩ := fzl_consI h
    exact fzl_get (ds := ds) (i := i) h2 (by simpa using e)
theorem fzl_getV {ds : List PyData} {xs : List V} {i : Nat} {v : V} (h : FzL K H ds xs) (e : xs[i]? = some v) : ∃ d, ds[i]? = some d ∧ Fz K H d v := by
  have hl := fzl_len h
  have hi := (List.getElem?_eq_some_iff.mp e).1
  have hd : ds[i]? = some (ds[i]'(by omega)) := List.getElem?_eq_getElem _
  obtain ⟨v', e', f⟩ := fzl_get h hd
  rw [e] at e'
  cases e'
  exact ⟨_, hd, f⟩
theorem fzl_append : ∀ {ds es : List PyData} {xs ys : List V}, FzL K H ds xs → FzL K H es ys → FzL K H (ds ++ es) (xs ++ ys)
  | [], _, _, _, h, k => by
    rw [fzl_nilI h]
    exact k
  | d :: ds, _, _, _, h, k => by
    obtain ⟨v, r, rfl, h1, h2⟩ := fzl_consI h
    exact fzl_cons h1 (fzl_append h2 k)
theorem fzl_set : ∀ {ds : List PyData} {xs : List V} {d : PyData} {v : V} (i : Nat), FzL K H ds xs → Fz K H d v → FzL K H (ds.set i d) (xs.set i v)
  | [], _, _, _, _, h, _ => by
    rw [fzl_nilI h]
    exact fzl_nil
  | d :: ds, _, _, _, 0, h, k => by
    obtain ⟨v, r, rfl, h1, h2⟩ := fzl_consI h
    exact fzl_cons k h2
  | d :: ds, _, _, _, i + 1, h, k => by
    obtain ⟨v, r, rfl, h1, h2⟩ := fzl_consI h
    exact fzl_cons h1 (fzl_set i h2 k)
theorem fzl_take : ∀ {ds : List PyData} {xs : List V} (i : Nat), FzL K H ds xs → FzL K H (ds.take i) (xs.take i)
  | _, _, 0, _ => by simpa using fzl_nil
  | [], _, _ + 1, h => by
    rw [fzl_nilI h]
    exact fzl_nil
  | d :: ds, _, i + 1, h => by
    obtain ⟨v, r, rfl, h1, h2⟩ := fzl_consI h
    exact fzl_cons h1 (fzl_take i h2)
theorem fzl_drop : ∀ {ds : List PyData} {xs : List V} (i : Nat), FzL K H ds xs → FzL K H (ds.drop i) (xs.drop i)
  | _, _, 0, h => by simpa using h
  | [], _, _ + 1, h => by
    rw [fzl_nilI h]
    exact fzl_nil
  | d :: ds, _, i + 1, h => by
    obtain ⟨v, r, rfl, h1, h2⟩ := fzl_consI h
    exact fzl_drop i h2
theorem fzl_ints : ∀ {ns : List Int} {xs : List V}, FzL K H (ns.map PyData.int) xs ↔ xs = ns.map V.int
  | [], xs => by simp only [List.map_nil, FzL]
  | n :: ns, xs => by
    simp only [List.map_cons, FzL, Fz]
    constructor
    · rintro ⟨v, r, rfl, rfl, h⟩
      rw [fzl_ints.mp h]
    · rintro rfl
      exact ⟨_, _, rfl, rfl, fzl_ints.mpr rfl⟩
mutual
theorem fz_dp : ∀ (d : PyData) (v : V), Fz K H d v → Dp K H v d
  | .none, _, h => by rw [fz_nonI h]; exact .non
  | .bool b, _, h => by rw [fz_blI h]; exact .bl b
  | .int i, _, h => by rw [fz_intI h]; exact .int i
  | .str s, _, h => by rw [fz_strI h]; exact .str s
  | .tuple ds, v, h => by
    obtain ⟨a, xs, rfl, hs, hf⟩ := fz_tupI h
    exact .tup hs (fzl_dp ds xs hf)
  | .list ds, v, h => by
    simp only [Fz] at h
    obtain ⟨a, o, xs, rfl, hs, hf⟩ := h
    exact .lst (.inl (.inr ⟨o, hs⟩)) (fzl_dp ds xs hf)
  | .dict _, _, h => by simp only [Fz] at h
theorem fzl_dp : ∀ (ds : List PyData) (xs : List V), FzL K H ds xs → DpAll K H xs ds
  | [], _, h => by rw [fzl_nilI h]; exact .nil
  | d :: ds, _, h => by
    obtain ⟨v, r, rfl, h1, h2⟩ := fzl_consI h
    exact .cons (fz_dp d v h1) (fzl_dp ds r h2)
end
end
mutual
def plain : PyData → Bool
  | .none | .int _ => true
  | .str s => PyData.strOk s
  | .tuple ds => plainL ds
  | .bool _ | .list _ | .dict _ => false
def plainL : List PyData → Bool
  | [] => true
  | d :: ds => plain d && plainL ds
end
mutual
theorem eqv_iff : ∀ (d e : PyData), plain d = true → plain e = true → (PyData.eqv d e = true ↔ d = e)
  | .none, e, _, he => by cases e <;> simp_all [PyData.eqv, plain]
  | .int i, e, _, he => by cases e <;> simp_all [PyData.eqv, plain]
  | .str s, e, _, he => by cases e <;> simp_all [PyData.eqv, plain]
  | .tuple ds, e, hd, he => by
    cases e with
    | tuple es =>
      have h := eqv_iffL ds es (by simpa only [plain] using hd) (by simpa only [plain] using he)
      simp only [PyData.eqv, PyData.tuple.injEq]
      exact h
    | _ => simp_all [PyData.eqv, plain]
  | .bool _, _, hd, _ => by simp [plain] at hd
  | .list _, _, hd, _ => by simp [plain] at hd
  | .dict _, _, hd, _ => by simp [plain] at hd
theorem eqv_iffL : ∀ (ds es : List PyData), plainL ds = true → plainL es = true → (PyData.eqvAll ds es = true ↔ ds = es)
  | [], [], _, _ => by simp [PyData.eqvAll]
  | [], _ :: _, _, _ => by simp [PyData.eqvAll]
  | _ :: _, [], _, _ => by simp [PyData.eqvAll]
  | d :: ds, e :: es, hd, he => by
    simp only [plainL, Bool.and_eq_true] at hd he
    simp only [PyData.eqvAll, Bool.and_eq_true, List.cons.injEq, eqv_iff d e hd.1 he.1, eqv_iffL ds es hd.2 he.2]
end
mutual
theorem plain_lay : ∀ d : PyData, plain d = true → d.canLay0 = true
  | .none, _ => by simp only [PyData.canLay0]
  | .int _, _ => by simp only [PyData.canLay0]
  | .str _, h => by simpa only [PyData.canLay0, plain] using h
  | .tuple ds, h => by
    simp only [PyData.canLay0]
    exact plain_layL ds (by simpa only [plain] using h)
  | .bool _, h => by simp [plain] at h
  | .list _, h => by simp [plain] at h
  | .dict _, h => by simp [plain] at h
theorem plain_layL : ∀ ds : List PyData, plainL ds = true → PyData.canLayAll0 ds = true
  | [], _ => by simp only [PyData.canLayAll0]
  | d :: ds, h => by
    simp only [plainL, Bool.and_eq_true] at h
    simp only [PyData.canLayAll0, Bool.and_eq_true]
    exact ⟨plain_lay d h.1, plain_layL ds h.2⟩
end
/-- plain and not deep -/
def Plain (d : PyData) : Prop := plain d = true ∧ d.depth ≤ 60
theorem Plain.shaped {d : PyData} (h : Plain d) : SeqAt.shaped d = true := by
  unfold SeqAt.shaped
  rw [plain_lay d h.1, decide_eq_true (Nat.le_trans h.2 (by decide : (60 : Nat) ≤ 64))]
  rfl
theorem plainL_all : ∀ {ds : List PyData}, (∀ d ∈ ds, plain d = true) → plainL ds = true
  | [], _ => rfl
  | d :: ds, h => by
    simp only [plainL, Bool.and_eq_true]
    exact ⟨h d List.mem_cons_self, plainL_all fun e he => h e (List.mem_cons_of_mem _ he)⟩
theorem depthAll_le {n : Nat} : ∀ {ds : List PyData}, (∀ d ∈ ds, d.depth ≤ n) → PyData.depthAll ds ≤ n
  | [], _ => by simp only [PyData.depthAll]; omega
  | d :: ds, h => by
    simp only [PyData.depthAll]
    have h1 := h d List.mem_cons_self
    have h2 := depthAll_le (ds := ds) fun e he => h e (List.mem_cons_of_mem _ he)
    omega
theorem Plain.tup {ds : List PyData} {n : Nat} (h : ∀ d ∈ ds, plain d = true ∧ d.depth ≤ n) : plain (.tuple ds) = true ∧ (PyData.tuple ds).depth ≤ n + 1 := by
  refine ⟨?_, ?_⟩
  · simp only [plain]
    exact plainL_all fun d hd => (h d hd).1
  · simp only [PyData.depth]
    have := depthAll_le (ds := ds) fun d hd => (h d hd).2
    omega
theorem Plain.of {d : PyData} {n : Nat} (h : plain d = true ∧ d.depth ≤ n) (hn : n ≤ 60 := by decide) : Plain d := ⟨h.1, Nat.le_trans h.2 hn⟩
theorem plain_int (i : Int) : plain (.int i) = true ∧ (PyData.int i).depth ≤ 0 := ⟨by simp only [plain], by simp only [PyData.depth]; omega⟩
theorem plain_str (i : Str) (h : PyData.strOk i = true) : plain (.str i) = true ∧ (PyData.str i).depth ≤ 0 := ⟨by simpa only [plain] using h, by simp only [PyData.depth]; omega⟩
/-- a tuple of naturals -/
def tN (ns : List Nat) : PyData := .tuple (ns.map fun n : Nat => .int (n : Int))
/-- a tuple of tuples of naturals -/
def tNN (rs : List (List Nat)) : PyData := .tuple (rs.map tN)
theorem tN_plain (ns : List Nat) : plain (tN ns) = true ∧ (tN ns).depth ≤ 1 := Plain.tup (n := 0) fun d hd => by
  obtain ⟨n, _, rfl⟩ := List.mem_map.mp hd
  exact plain_int _
theorem tNN_plain (rs : List (List Nat)) : plain (tNN rs) = true ∧ (tNN rs).depth ≤ 2 := Plain.tup (n := 1) fun d hd => by
  obtain ⟨n, _, rfl⟩ := List.mem_map.mp hd
  exact tN_plain _
theorem map_inj {α β : Type} {f : α → β} (hf : ∀ x y, f x = f y → x = y) : ∀ {a b : List α}, a.map f = b.map f → a = b
  | [], [], _ => rfl
  | [], _ :: _, h => by simp at h
  | _ :: _, [], h => by simp at h
  | x :: a, y :: b, h => by
    rw [List.map_cons, List.map_cons] at h
    injection h with h1 h2
    rw [hf x y h1, map_inj hf h2]
theorem tN_inj {a b : List Nat} (h : tN a = tN b) : a = b := by
  exact map_inj (fun x y e => Int.ofNat.inj (PyData.int.inj e)) (PyData.tuple.inj h)
theorem tNN_inj {a b : List (List Nat)} (h : tNN a = tNN b) : a = b :=
  map_inj (fun _ _ e => tN_inj e) (PyData.tuple.inj h)
section
variable {K : PySem.W.Frag} {H H' : Hp}
/-- the values of naturals -/
def vN (ns : List Nat) : List V := ns.map fun n : Nat => V.int (n : Int)
theorem fzl_nats : ∀ {ns : List Nat} {xs : List V}, FzL K H (ns.map fun n : Nat => .int (n : Int)) xs ↔ xs = vN ns
  | [], xs => by simp only [List.map_nil, FzL, vN]
  | n :: ns, xs => by
    simp only [List.map_cons, FzL, Fz, vN]
    constructor
    · rintro ⟨v, r, rfl, rfl, h⟩
      rw [fzl_nats.mp h]
      rfl
    · rintro rfl
      exact ⟨_, _, rfl, rfl, fzl_nats.mpr rfl⟩
theorem fz_tN {ns : List Nat} {v : V} : Fz K H (tN ns) v ↔ ∃ a, v = .ref a ∧ TupAt H a (vN ns) := by
  unfold tN
  constructor
  · intro h
    obtain ⟨a, xs, rfl, hs, hf⟩ := fz_tupS h
    rw [fzl_nats.mp hf] at hs
    exact ⟨a, rfl, hs⟩
  · rintro ⟨a, rfl, hs⟩
    exact fz_at hs (fzl_nats.mpr rfl)
theorem vN_get {ns : List Nat} {i : Nat} : (vN ns)[i]? = ns[i]?.map fun n : Nat => V.int (n : Int) := by
  unfold vN
  rw [List.getElem?_map]
theorem vN_len (ns : List Nat) : (vN ns).length = ns.length := by
  unfold vN
  rw [List.length_map]
end
end WT
namespace WT
open PySem PySem.Spec PyProof.Rows L2 Evl
/-- an argument: frozen data, or a very value -/
inductive Ag where
  | d (x : PyData) | v (x : V)
def AgO (K : PySem.W.Frag) (H : Hp) : Ag → V → Prop
  | .d x, v => Fz K H x v
  | .v x, v => v = x
def AgL (K : PySem.W.Frag) (H : Hp) : List Ag → List V → Prop
  | [], xs => xs = []
  | a :: as, xs => ∃ v r, xs = v :: r ∧ AgO K H a v ∧ AgL K H as r
def Ed (K : PySem.W.Frag) (te : TE) (σ : L2.St) (H : Hp) (d : PyData) : Prop := ∀ H1, Ex H H1 → ∀ Q : VK, (∀ v H2, Ex H1 H2 → Fz K H2 d v → Q v H2) → te σ H1 Q
/-- a new list of frozen data -/
def El (K : PySem.W.Frag) (te : TE) (σ : L2.St) (H : Hp) (ds : List PyData) : Prop := ∀ H1, Ex H H1 → ∀ Q : VK, (∀ p xs H2, H1 p = none → Ex H1 H2 → H2 p = some (.lst xs) → FzL K H2 ds xs → Q (.ref p) H2) → te σ H1 Q
def Ea (K : PySem.W.Frag) (ta : TA) (σ : L2.St) (H : Hp) (as : List Ag) : Prop := ∀ H1, Ex H H1 → ∀ Q : List V → Hp → Prop, (∀ vs H2, Ex H1 H2 → AgL K H2 as vs → Q vs H2) → ta σ H1 Q
section
variable {K : PySem.W.Frag} {σ : L2.St} {H H' : Hp} {ta tb te : TE} {tr : TA} {t u : TT} {d e : PyData} {ds es : List PyData} {v x y : V}
theorem agl_fz : ∀ {ds : List PyData} {xs : List V}, AgL K H (ds.map Ag.d) xs → FzL K H ds xs
  | [], _, h => by
    rw [show _ = [] from h]
    exact fzl_nil
  | _ :: _, _, ⟨v, r, h, h1, h2⟩ => by
    rw [h]
    exact fzl_cons h1 (agl_fz h2)
theorem fz_agl : ∀ {ds : List PyData} {xs : List V}, FzL K H ds xs → AgL K H (ds.map Ag.d) xs
  | [], _, h => fzl_nilI h
  | _ :: _, _, h => by
    obtain ⟨v, r, h, h1, h2⟩ := fzl_consI h
    exact ⟨v, r, h, h1, fz_agl h2⟩
theorem agl_app : ∀ {as bs : List Ag} {xs ys : List V}, AgL K H as xs → AgL K H bs ys → AgL K H (as ++ bs) (xs ++ ys)
  | [], _, _, _, h, k => by
    rw [show _ = [] from h]
    exact k
  | _ :: _, _, _, _, ⟨v, r, h, h1, h2⟩, k => by
    rw [h]
    exact ⟨v, _, rfl, h1, agl_app h2 k⟩
theorem agl_len : ∀ {as : List Ag} {xs : List V}, AgL K H as xs → xs.length = as.length
  | [], _, h => by
    rw [show _ = [] from h]
    rfl
  | _ :: _, _, ⟨v, r, h, h1, h2⟩ => by
    rw [h, List.length_cons, List.length_cons, agl_len h2]
theorem Ed.mono (e : Ex H H') (h : Ed K te σ H d) : Ed K te σ H' d := fun H1 a Q q => h H1 (e.trans a) Q q
theorem El.mono (e : Ex H H') (h : El K te σ H ds) : El K te σ H' ds := fun H1 a Q q => h H1 (e.trans a) Q q
theorem ed_ev (h : Ev te σ H v) (f : Fz K H d v) : Ed K te σ H d := fun H1 e Q q => h H1 e Q fun H2 e2 => q v H2 e2 (fz_ex (e.trans e2) f)
theorem ed_var {i : Nat} (h : σ[i]? = some (some v)) (f : Fz K H d v) : Ed K (tVar i) σ H d := ed_ev (ev_var h) f
theorem ev_ed (h : Ed K te σ H d) (f : ∀ H2 v, Fz K H2 d v → v = x) : Ev te σ H x := fun H1 e Q q => h H1 e Q fun v H2 e2 hf => by
  rw [f H2 v hf]
  exact q H2 e2
theorem ev_int {i : Int} (h : Ed K te σ H (.int i)) : Ev te σ H (.int i) := ev_ed h fun _ _ => fz_intI
theorem ev_bool {i : Bool} (h : Ed K te σ H (.bool i)) : Ev te σ H (.bl i) := ev_ed h fun _ _ => fz_blI
theorem ea_nil : Ea K tNil σ H [] := fun H1 _ _ q => q _ H1 (Ex.refl H1) rfl
theorem ea_d {as : List Ag} (h : Ed K te σ H d) (hr : Ea K tr σ H as) : Ea K (tCons te tr) σ H (.d d :: as) := fun H1 e _ q =>
  h H1 e _ fun v H2 e2 f => hr H2 (e.trans e2) _ fun vs H3 e3 k => q (v :: vs) H3 (e2.trans e3) ⟨v, vs, rfl, fz_ex e3 f, k⟩
theorem ea_v {as : List Ag} (h : Ev te σ H v) (hr : Ea K tr σ H as) : Ea K (tCons te tr) σ H (.v v :: as) := fun H1 e _ q =>
  h H1 e _ fun H2 e2 => hr H2 (e.trans e2) _ fun vs H3 e3 k => q (v :: vs) H3 (e2.trans e3) ⟨v, vs, rfl, rfl, k⟩
/-- *e, e a list that stands -/
theorem ea_starL {as : List Ag} {p : Addr} {xs : List V} (h : Ev te σ H (.ref p)) (hp : SqL K H p xs) (hf : FzL K H ds xs) (hr : Ea K tr σ H as) : Ea K (StX.tStar K te tr) σ H (ds.map Ag.d ++ as) := fun H1 e _ q =>
  h H1 e _ fun H2 e2 => ⟨p, xs, rfl, .inr (ex_l (e.trans e2) hp), hr H2 (e.trans e2) _ fun vs H3 e3 k => q (xs ++ vs) H3 (e2.trans e3) (agl_app (fz_agl (fzl_ex ((e.trans e2).trans e3) hf)) k)⟩
theorem ed_tup (h : Ea K tr σ H (ds.map Ag.d)) (hl : ds.length ≤ 100000) : Ed K (tTup tr) σ H (.tuple ds) := fun H1 e _ q =>
  h H1 e _ fun vs H2 e2 k => by
    have f := agl_fz k
    exact ⟨sz_of (by rw [fzl_len f]; exact hl), fun p hp => q (.ref p) _ (e2.trans (Ex.new hp)) (fz_tup upd_same (fzl_ex (Ex.new hp) f))⟩
theorem el_lst (h : Ea K tr σ H (ds.map Ag.d)) (hl : ds.length ≤ 100000) : El K (tLst tr) σ H ds := fun H1 e _ q =>
  h H1 e _ fun vs H2 e2 k => by
    have f := agl_fz k
    exact ⟨sz_of (by rw [fzl_len f]; exact hl), fun p hp => q p vs _ (fresh_back e2 hp) (e2.trans (Ex.new hp)) upd_same (fzl_ex (Ex.new hp) f)⟩
theorem atI_of {α : Type} {xs : List α} {i : Nat} {x : α} (h : xs[i]? = some x) : atI xs (i : Int) = some x := atI_nat h
/-- t[i] -/
theorem ed_ixT {i : Nat} (h : Ed K ta σ H (.tuple ds)) (hi : Ev tb σ H (.int (i : Int))) (hd : ds[i]? = some d) : Ed K (tOp (rIxT K) ta tb) σ H d := fun H1 e Q q =>
  h H1 e _ fun v H2 e2 f => by
    obtain ⟨a, xs, rfl, hs, hf⟩ := fz_tupI f
    obtain ⟨w, hw, fw⟩ := fzl_get hf hd
    exact hi H2 (e.trans e2) _ fun H3 e3 => ⟨a, xs, i, w, rfl, rfl, ex_t e3 hs, atI_of hw, q w H3 (e2.trans e3) (fz_ex e3 fw)⟩
/-- xs[i] of a list that stands -/
theorem ed_ixL {i : Nat} {p : Addr} {xs : List V} (h : Ev ta σ H (.ref p)) (hp : SqL K H p xs) (hf : FzL K H ds xs) (hi : Ev tb σ H (.int (i : Int))) (hd : ds[i]? = some d) : Ed K (tOp (rIxL K) ta tb) σ H d := by
  obtain ⟨w, hw, fw⟩ := fzl_get hf hd
  exact ed_ev (ev_op h hi (rv_ixL hp (atI_of hw))) fw
/-- len(t) -/
theorem ev_lenT (h : Ed K ta σ H (.tuple ds)) : Ev (tCB (rLenS K) (tCons ta tNil)) σ H (.int (ds.length : Int)) := fun H1 e Q q =>
  h H1 e _ fun v H2 e2 f => by
    obtain ⟨a, xs, rfl, hs, hf⟩ := fz_tupI f
    refine ⟨a, xs, rfl, .inr hs, ?_⟩
    rw [fzl_len hf]
    exact q H2 e2
/-- tuple(list made on the way) -/
def rTupOf (K : PySem.W.Frag) : List V → Hp → VK → Prop := fun xs H Q => ∃ p ys, xs = [.ref p] ∧ ((SqL K H p ys ∧ ∀ l, H l = none → Q (.ref l) (upd H l (.tup ys))) ∨ (SqT K H p ys ∧ Q (.ref p) H))
theorem ed_tupOf (h : El K ta σ H ds) : Ed K (tCB (rTupOf K) (tCons ta tNil)) σ H (.tuple ds) := fun H1 e Q q =>
  h H1 e _ fun p xs H2 _ e2 h2 f => ⟨p, xs, rfl, .inl ⟨sq_of h2, fun l hl => q (.ref l) _ (e2.trans (Ex.new hl)) (fz_tup upd_same (fzl_ex (Ex.new hl) f))⟩⟩
/-- tuple(xs), xs a list that stands -/
theorem ed_tupOfL {p : Addr} {xs : List V} (h : Ev ta σ H (.ref p)) (hp : SqL K H p xs) (hf : FzL K H ds xs) : Ed K (tCB (rTupOf K) (tCons ta tNil)) σ H (.tuple ds) := fun H1 e Q q =>
  h H1 e _ fun H2 e2 => ⟨p, xs, rfl, .inl ⟨ex_l (e.trans e2) hp, fun l hl => q (.ref l) _ (e2.trans (Ex.new hl)) (fz_tup upd_same (fzl_ex ((e.trans e2).trans (Ex.new hl)) hf))⟩⟩
theorem el_listOfT (h : Ed K ta σ H (.tuple ds)) : El K (tCB (rListS K) (tCons ta tNil)) σ H ds := fun H1 e Q q =>
  h H1 e _ fun v H2 e2 f => by
    obtain ⟨a, xs, rfl, hs, hf⟩ := fz_tupI f
    exact ⟨a, xs, rfl, .inr hs, fun l hl => q l xs _ (fresh_back e2 hl) (e2.trans (Ex.new hl)) upd_same (fzl_ex (Ex.new hl) hf)⟩
/-- all([..]) -/
theorem ev_all {bs : List Bool} (h : El K ta σ H (bs.map PyData.bool)) : Ev (tCB (rAll K) (tCons ta tNil)) σ H (.bl (bs.all id)) := fun H1 e Q q =>
  h H1 e _ fun p xs H2 _ e2 h2 f => by
    have ex : ∀ {bs : List Bool} {xs : List V}, FzL K H2 (bs.map PyData.bool) xs → xs = bs.map V.bl := by
      intro bs
      induction bs with
      | nil => intro xs f; exact fzl_nilI f
      | cons b bs ih =>
        intro xs f
        obtain ⟨v, r, rfl, h1, h2⟩ := fzl_consI f
        rw [fz_blI h1, ih h2]
        rfl
    exact ⟨p, bs, rfl, by rw [← ex f]; exact sq_of h2, q H2 e2⟩
/-- d == e, d != e -/
theorem ev_eqD (h : Ed K ta σ H d) (k : Ed K tb σ H e) (pd : Plain d) (pe : Plain e) : Ev (tOp (rEqD K) ta tb) σ H (.bl (PyData.eqv d e)) := fun H1 e1 Q q =>
  h H1 e1 _ fun v H2 e2 f => k H2 (e1.trans e2) _ fun w H3 e3 g => ⟨d, e, fz_dp _ _ (fz_ex e3 f), fz_dp _ _ g, pd.shaped, pe.shaped, q H3 (e2.trans e3)⟩
theorem ev_neD (h : Ed K ta σ H d) (k : Ed K tb σ H e) (pd : Plain d) (pe : Plain e) : Ev (tOp (rNeD K) ta tb) σ H (.bl (!PyData.eqv d e)) := fun H1 e1 Q q =>
  h H1 e1 _ fun v H2 e2 f => k H2 (e1.trans e2) _ fun w H3 e3 g => ⟨d, e, fz_dp _ _ (fz_ex e3 f), fz_dp _ _ g, pd.shaped, pe.shaped, q H3 (e2.trans e3)⟩
/-- a call -/
def Pr (K : PySem.W.Frag) (sp : Sp) (as : List Ag) (H : Hp) (d : PyData) : Prop := ∀ H1, Ex H H1 → ∀ vs, AgL K H1 as vs → ∀ Q : VK, (∀ v H2, Ex H1 H2 → Fz K H2 d v → Q v H2) → ∀ E : XK, sp vs H1 Q E
theorem ed_call {sp : Sp} {E : XK} {as : List Ag} (h : Ea K tr σ H as) (hs : Pr K sp as H d) : Ed K (tCall sp [] E tr) σ H d := fun H1 e Q q =>
  h H1 e _ fun vs H2 e2 k => by
    rw [List.append_nil]
    exact hs H2 (e.trans e2) vs k Q (fun v H3 e3 f => q v H3 (e2.trans e3) f) E
variable {Dn : Ends} {tu tw tz : TS} {g : TG}
theorem s_asgD {i : Nat} (h : Ed K te σ H d) (k : ∀ v H1, Ex H H1 → Fz K H1 d v → Dn.nx (σ.set i (some v)) H1) : tAsg te (gName i) Dn σ H := h H (Ex.refl H) _ fun v H1 e f => k v H1 e f
theorem q_asgD {i : Nat} (h : Ed K te σ H d) (k : ∀ v H1, Ex H H1 → Fz K H1 d v → tz Dn (σ.set i (some v)) H1) : tSeq (tAsg te (gName i)) tz Dn σ H := s_asgD (Dn := { Dn with nx := tz Dn }) h k
theorem s_asgE {i : Nat} (h : El K te σ H ds) (k : ∀ p xs H1, H p = none → Ex H H1 → H1 p = some (.lst xs) → FzL K H1 ds xs → Dn.nx (σ.set i (some (.ref p))) H1) : tAsg te (gName i) Dn σ H := h H (Ex.refl H) _ fun p xs H1 hp e h1 f => k p xs H1 hp e h1 f
theorem q_asgE {i : Nat} (h : El K te σ H ds) (k : ∀ p xs H1, H p = none → Ex H H1 → H1 p = some (.lst xs) → FzL K H1 ds xs → tz Dn (σ.set i (some (.ref p))) H1) : tSeq (tAsg te (gName i)) tz Dn σ H := s_asgE (Dn := { Dn with nx := tz Dn }) h k
theorem s_retD (h : Ed K te σ H d) (k : ∀ v H1, Ex H H1 → Fz K H1 d v → Dn.rt v H1) : tRet te Dn σ H := h H (Ex.refl H) _ fun v H1 e f => k v H1 e f
theorem s_retE (h : El K te σ H ds) (k : ∀ p xs H1, H p = none → Ex H H1 → H1 p = some (.lst xs) → FzL K H1 ds xs → Dn.rt (.ref p) H1) : tRet te Dn σ H := h H (Ex.refl H) _ k
/-- xs.extend([..]) -/
theorem s_extE {l : Addr} {xs : List V} (hl : H l = some (.lst xs)) (ha : Ev ta σ H (.ref l)) (h : El K te σ H ds) (hz : xs.length + ds.length ≤ 100000) (k : ∀ zs H1, Ex H H1 → FzL K H1 ds zs → Dn.nx σ (upd H1 l (.lst (xs ++ zs)))) :
    tDrop (tBM K "list" rExtend ta (tCons te tNil)) Dn σ H := ha H (Ex.refl H) _ fun H1 e1 =>
  ⟨Or.inl ⟨rfl, xs, sq_of (e1 l _ hl)⟩, h H1 e1 _ fun b zs H2 _ e2 hb f => ⟨l, b, xs, zs, rfl, rfl, e2 l _ (e1 l _ hl), hb, sz_of (by rw [fzl_len f]; exact hz), k zs H2 (e1.trans e2) f⟩⟩
/-- for x in t, t a tuple -/
theorem s_forTd {tl : TE} (h : Ed K tl σ H (.tuple ds)) (k : ∀ H1, Ex H H1 → ∃ Pv : Nat → L2.St → Hp → Prop, Pv 0 σ H1 ∧ (∀ i σ' H', Pv i σ' H' → TEx H1 H') ∧
    (∀ i x d σ' H', ds[i]? = some d → Fz K H' d x → Pv i σ' H' → g x σ' H' fun σ2 H2 => tu { Dn with nx := Pv (i + 1), ct := Pv (i + 1), bk := Dn.nx } σ2 H2) ∧ ∀ σ' H', Pv ds.length σ' H' → Dn.nx σ' H') : tFor (iTup K tl) g tu Dn σ H :=
  h H (Ex.refl H) _ fun v H1 e f => by
    obtain ⟨a, xs, rfl, hs, hf⟩ := fz_tupS f
    obtain ⟨Pv, h0, hT, hb, hd⟩ := k H1 e
    refine ⟨a, rfl, ⟨xs, hs.sq⟩, for_tup Pv h0 (fun i σ' H' _ p => tex_t (hT i σ' H' p) hs) (fun i x σ' H' hx p => ?_) fun σ' H' p => hd σ' H' (by rw [fzl_len hf] at p; exact p)⟩
    obtain ⟨d, hd', fd⟩ := fzl_getV hf hx
    exact hb i x d σ' H' hd' (Fz.mono (hT i σ' H' p) _ _ fd) p
theorem q_forTd {tl : TE} (h : Ed K tl σ H (.tuple ds)) (k : ∀ H1, Ex H H1 → ∃ Pv : Nat → L2.St → Hp → Prop, Pv 0 σ H1 ∧ (∀ i σ' H', Pv i σ' H' → TEx H1 H') ∧
    (∀ i x d σ' H', ds[i]? = some d → Fz K H' d x → Pv i σ' H' → g x σ' H' fun σ2 H2 => tu { Dn with nx := Pv (i + 1), ct := Pv (i + 1), bk := tz Dn } σ2 H2) ∧ ∀ σ' H', Pv ds.length σ' H' → tz Dn σ' H') : tSeq (tFor (iTup K tl) g tu) tz Dn σ H :=
  s_forTd (Dn := { Dn with nx := tz Dn }) h k
def CwD (K : PySem.W.Frag) (H : Hp) (out : Nat → List PyData) (Dl : Addr) (i : Nat) (H' : Hp) : Prop := H Dl = none ∧ Ex H H' ∧ ∃ acc, H' Dl = some (.lst acc) ∧ FzL K H' (out i) acc
/-- one turn's test and element -/
def Turn1 (K : PySem.W.Frag) (tt : TT) (te : TE) (σ2 : L2.St) (H : Hp) (out : Nat → List PyData) (i : Nat) : Prop :=
  ∃ b, EvT tt σ2 H b ∧ (b = true → ∃ d, Ed K te σ2 H d ∧ out (i + 1) = out i ++ [d]) ∧ (b = false → out (i + 1) = out i)
theorem cwd_turn {H H' : Hp} {out : Nat → List PyData} {Dl : Addr} {i : Nat} {σ2 : L2.St} {tt : TT} (p : CwD K H out Dl i H') (hi : (out i).length < 100000) (h : ∀ H3, Ex H H3 → Ex H' H3 → Turn1 K tt te σ2 H3 out i) :
    ∀ H4, Ex H' H4 → tt σ2 H4 fun b H3 => if b = true then te σ2 H3 fun y H4 => ∃ acc, H4 Dl = some (.lst acc) ∧ acc.length < sizeLine ∧ CwD K H out Dl (i + 1) (upd H4 Dl (.lst (acc ++ [y]))) else CwD K H out Dl (i + 1) H3 := by
  intro Hs es
  obtain ⟨p1, p2, acc, p3, p4⟩ := p
  obtain ⟨b, hb, h1, h2⟩ := h Hs (p2.trans es) es
  refine hb Hs (Ex.refl Hs) _ fun H3 e3 => ?_
  cases b with
  | true =>
    obtain ⟨d, hd, eo⟩ := h1 rfl
    show te σ2 H3 fun y H4 => ∃ acc, H4 Dl = some (.lst acc) ∧ acc.length < sizeLine ∧ CwD K H out Dl (i + 1) (upd H4 Dl (.lst (acc ++ [y])))
    refine hd H3 e3 _ fun v H4 e4 f => ?_
    have h4 : H4 Dl = some (.lst acc) := e4 _ _ (e3 _ _ (es _ _ p3))
    refine ⟨acc, h4, sz_lt (by rw [fzl_len p4]; exact hi), p1, Ex.mut (((p2.trans es).trans e3).trans e4) p1, acc ++ [v], upd_same, ?_⟩
    rw [eo]
    have tx : TEx H4 (upd H4 Dl (.lst (acc ++ [v]))) := tex_lst h4
    exact fzl_append (FzL.mono tx _ _ (fzl_ex ((es.trans e3).trans e4) p4)) (fzl_cons (Fz.mono tx _ _ f) fzl_nil)
  | false =>
    show CwD K H out Dl (i + 1) H3
    refine ⟨p1, (p2.trans es).trans e3, acc, e3 _ _ (es _ _ p3), ?_⟩
    rw [h2 rfl]
    exact fzl_ex (es.trans e3) p4
/-- over a tuple, the target a name -/
theorem el_lcTd {tl : TE} {j : Nat} {vs : List Nat} {tt : TT} (out : Nat → List PyData) (h : Ed K tl σ H (.tuple ds)) (h0 : out 0 = []) (hz : ∀ i, i < ds.length → (out i).length < 100000) (hw : ∀ x, wipe ((wipe σ vs).set j (some x)) vs = wipe σ vs)
    (hs : ∀ (i : Nat) (x : V) d H1, Ex H H1 → ds[i]? = some d → Fz K H1 d x → Turn1 K tt te ((wipe σ vs).set j (some x)) H1 out i) :
    El K (tLc (iTup K tl) (gName j) tt te vs) σ H (out ds.length) := fun H0 e Q q => h H0 e _ fun v H1 e1 f => by
  obtain ⟨a, xs, rfl, hx, hf⟩ := fz_tupI f
  refine ⟨a, rfl, ⟨xs, hx⟩, fun Dl hD => lc_tup (xs := xs) (CwD K H1 out Dl) ⟨hD, Ex.new hD, [], upd_same, by rw [h0]; exact fzl_nil⟩ (fun i H' _ p => ex_t p.2.1 hx) (fun i x H' hi p => ?_) (fun H' p => ?_)⟩
  · obtain ⟨d, hd, fd⟩ := fzl_getV hf hi
    exact ⟨hw x, cwd_turn p (hz i (by have := (List.getElem?_eq_some_iff.mp hd).1; omega)) (fun H3 e3 _ => hs i x d H3 ((e.trans e1).trans e3) hd (fz_ex e3 fd)) H' (Ex.refl _)⟩
  · obtain ⟨p1, p2, acc, p3, p4⟩ := p
    rw [fzl_len hf] at p4
    exact q Dl acc H' (fresh_back e1 p1) (e1.trans p2) p3 p4
/-- over a list of frozen data that stands -/
theorem el_lcLd {tl : TE} {j : Nat} {vs : List Nat} {tt : TT} {a : Addr} {xs : List V} (out : Nat → List PyData) (h : Ev tl σ H (.ref a)) (hx : SqL K H a xs) (hf : FzL K H ds xs) (h0 : out 0 = []) (hz : ∀ i, i < ds.length → (out i).length < 100000) (hw : ∀ x, wipe ((wipe σ vs).set j (some x)) vs = wipe σ vs)
    (hs : ∀ (i : Nat) (x : V) d H1, Ex H H1 → ds[i]? = some d → Fz K H1 d x → Turn1 K tt te ((wipe σ vs).set j (some x)) H1 out i) :
    El K (tLc (iList K tl) (gName j) tt te vs) σ H (out ds.length) := fun H0 e Q q => h H0 e _ fun H1 e1 => by
  refine ⟨a, rfl, ⟨xs, ex_l (e.trans e1) hx⟩, fun Dl hD => lc_list (xs := xs) (CwD K H1 out Dl) ⟨hD, Ex.new hD, [], upd_same, by rw [h0]; exact fzl_nil⟩ (fun i H' _ p => ex_l ((e.trans e1).trans p.2.1) hx) (fun i x H' hi p => ?_) (fun H' p => ?_)⟩
  · obtain ⟨d, hd, fd⟩ := fzl_getV hf hi
    exact ⟨hw x, cwd_turn p (hz i (by have := (List.getElem?_eq_some_iff.mp hd).1; omega)) (fun H3 e3 _ => hs i x d H3 ((e.trans e1).trans e3) hd (fz_ex ((e.trans e1).trans e3) fd)) H' (Ex.refl _)⟩
  · obtain ⟨p1, p2, acc, p3, p4⟩ := p
    rw [fzl_len hf] at p4
    exact q Dl acc H' (fresh_back e1 p1) (e1.trans p2) p3 p4
theorem turn_all {tt : TT} {σ2 : L2.St} {out : Nat → List PyData} {i : Nat} (ht : EvT tt σ2 H true) (h : Ed K te σ2 H d) (ho : out (i + 1) = out i ++ [d]) : Turn1 K tt te σ2 H out i := ⟨true, ht, fun _ => ⟨d, h, ho⟩, fun z => nomatch z⟩
theorem et_yes : EvT tYes σ H true := fun H1 _ _ q => q H1 (Ex.refl H1)
end
end WT
namespace WT
open PySem PySem.Spec PyProof.Rows L2 Evl
section
variable {X : Cx}
/-- ** of great numbers -/
def CPowW (i j : Int) : Prop := 0 ≤ j ∧ (Builtin.Int.intBits i : Int) * j ≤ 2 ^ 27
theorem op_powW : OpR X (binaryOp .Pow) (rI CPowW fun i j => .int (i ^ j.toNat)) := opI fun _ _ _ _ _ _ _ hc q => pow_int hc.1 hc.2 q
/-- repr(data); nothing is being written out around -/
def rReprD (K : PySem.W.Frag) : List V → Hp → VK → Prop := fun vs H Q => ∃ (x : V) (d : PyData), vs = [x] ∧ Fz K H d x ∧ d.showable = true ∧ d.depth ≤ 50 ∧ d.shown.length ≤ sizeLine ∧ Q (.str d.shown) H
theorem fz_noDict {K : PySem.W.Frag} {H : Hp} : ∀ (d : PyData) (v : V), Fz K H d v → d.hasDict = false
  | .none, _, _ => by simp only [PyData.hasDict]
  | .bool _, _, _ => by simp only [PyData.hasDict]
  | .int _, _, _ => by simp only [PyData.hasDict]
  | .str _, _, _ => by simp only [PyData.hasDict]
  | .tuple ds, v, h => by
    obtain ⟨a, xs, _, _, hf⟩ := fz_tupI h
    simp only [PyData.hasDict]
    exact go ds xs hf
  | .list ds, v, h => by
    obtain ⟨a, o, xs, _, _, hf⟩ := fz_lstI h
    simp only [PyData.hasDict]
    exact go ds xs hf
  | .dict _, _, h => by simp only [Fz] at h
where go : ∀ (ds : List PyData) (xs : List V), FzL K H ds xs → PyData.hasDictAll ds = false
  | [], _, _ => by simp only [PyData.hasDictAll]
  | d :: ds, _, h => by
    obtain ⟨v, r, _, h1, h2⟩ := fzl_consI h
    simp only [PyData.hasDictAll, fz_noDict d v h1, go ds r h2, Bool.or_false]
theorem call_reprD (hg : X.A.guards = some []) (hu : X.A.units + 64 < cLine) : CallR X (.builtin "repr") (rReprD X.K) := by
  intro pins s σ H vs us Q I r h
  obtain ⟨x, d, rfl, hf, hs, hd, hz, q⟩ := h
  obtain ⟨u, rfl, ru⟩ := vals1 r
  cases d with
  | none =>
    cases (fz_nonI hf)
    cases (show u = Value.none from ru)
    simp only [PyData.shown] at q
    exact PySem.P.repr_of_none ⟨.str _, H, I.tok _, ⟨_, rfl⟩, q⟩
  | bool b =>
    cases (fz_blI hf)
    cases (show u = Value.bool b from ru)
    simp only [PyData.shown] at q
    exact PySem.P.repr_of_bool ⟨.str _, H, I.tok _, ⟨_, rfl⟩, q⟩
  | int i =>
    cases (fz_intI hf)
    obtain ⟨t, rfl⟩ := ru
    simp only [PyData.shown] at q
    exact PySem.P.repr_of_int (by simpa [PyData.showable] using hs) ⟨.str _, H, I.tok _, ⟨_, rfl⟩, q⟩
  | str i =>
    cases (fz_strI hf)
    obtain ⟨t, rfl⟩ := ru
    simp only [PyData.shown] at q hz
    exact PySem.P.repr_of_str ⟨.str _, H, I.tok _, ⟨_, rfl⟩, q⟩ hz
  | tuple ds =>
    obtain ⟨a, xs, rfl, hq, hfl⟩ := fz_tupI hf
    cases (show u = Value.ref a from ru)
    obtain ⟨as, hr⟩ := Dp.reads I (.tuple ds) (.ref a) (.ref a) (fz_dp _ _ hf) rfl
    refine repr_of_reads' hr hs (fun z => ?_) hg (by omega) (fun _ _ e => e) (fun h' t tk hk => ⟨.str _, H, I.kept (t' := tk) hk, ⟨_, rfl⟩, q⟩) hz
    rw [fz_noDict _ _ hf] at z
    cases z
  | list ds =>
    obtain ⟨a, o, xs, rfl, hq, hfl⟩ := fz_lstI hf
    cases (show u = Value.ref a from ru)
    obtain ⟨as, hr⟩ := Dp.reads I (.list ds) (.ref a) (.ref a) (fz_dp _ _ hf) rfl
    refine repr_of_reads' hr hs (fun z => ?_) hg (by omega) (fun _ _ e => e) (fun h' t tk hk => ⟨.str _, H, I.kept (t' := tk) hk, ⟨_, rfl⟩, q⟩) hz
    rw [fz_noDict _ _ hf] at z
    cases z
  | dict _ => simp only [Fz] at hf
set_option maxHeartbeats 8000000 in
theorem meets_enum1 {v : Value} {o : Obj} {G : Heap → Prop} (B : Begins v o G) :
    Meets (Builtin.«enumerate.__new__» ⟨[.type "enumerate", v], []⟩) (fun _ R s => G s.heap ∧
      R (.ok (.ret (.ref (s.heap.push o).objs.size))) { s with heap := (s.heap.push o).push { cls := .type "enumerate", data := .fields #[.none, .bool false, .ref s.heap.objs.size, rawInt 0, .none, .none] } }) :=
  .of_wp fun prog w A R s h => by
    obtain ⟨hp, gs, dr, tks, oss⟩ := s
    obtain ⟨g1, h⟩ := h
    have hsub := sub_enumerate
    have q1 : ∀ {A' : Around} {E : Value → Shared → Prop} {Q : Value → Shared → Prop}, Q (.ref hp.objs.size) ⟨hp.push o, gs, dr, tks, oss⟩ → wpAny (model prog w) A' (pyIter v) Q E ⟨hp, gs, dr, tks, oss⟩ :=
      fun z => B.iter prog w _ _ ⟨hp, gs, dr, tks, oss⟩ _ g1 z
    wp_walk using q1
    refine wpAny_stack_any fun st => wpAny_pure ?_
    split
    · rename_i c _ _ _ _ _
      cases (c == Value.type "enumerate")
      all_goals wp_walk using q1
      all_goals exact ⟨_, rfl, h⟩
    · wp_walk using q1
      exact ⟨_, rfl, h⟩
theorem enum1_made {prog : Program} {w : World} {A : Around} {E : Value → Shared → Prop} {s : Shared} {v : Value} {o : Obj} {G : Heap → Prop} {Q : Value → Shared → Prop} (B : Begins v o G) (g1 : G s.heap)
    (k : ∀ h', IsEnum h' (s.heap.objs.size + 1) s.heap.objs.size 0 .none → h'.get? s.heap.objs.size = some o → (∀ b u, s.heap.get? b = some u → h'.get? b = some u) → Q (.ref (s.heap.objs.size + 1)) { s with heap := h' }) :
    wpAny (model prog w) A (call (.type "enumerate") [v]) Q E s := by
  refine callType_new F.called_enumerate (by decide) (F.typeCall_enumerate_1 _) (F.newCall_enumerate_1 _) (fun obj => F.args_object_init_2 obj _) F.entry_enumerate_new (meets_enum1 B) ⟨g1, ?_⟩
  have sz : (s.heap.push o).objs.size = s.heap.objs.size + 1 := Heap.size_push ..
  show _ ∧ _
  rw [sz]
  have ie : IsEnum ((s.heap.push o).push { cls := .type "enumerate", data := .fields #[.none, .bool false, .ref s.heap.objs.size, rawInt 0, .none, .none] }) (s.heap.objs.size + 1) s.heap.objs.size 0 .none := by
    have z := Heap.get?_push_size (s.heap.push o) (o := { cls := .type "enumerate", data := .fields #[.none, .bool false, .ref s.heap.objs.size, rawInt 0, .none, .none] }) rfl
    rw [sz] at z
    exact z
  exact ⟨⟨_, ie, rfl⟩, k _ ie (Heap.get?_push_of_some _ (Heap.get?_push_size _ B.free)) fun b u z => Heap.get?_push_of_some _ (Heap.get?_push_of_some _ z)⟩
/-- the tuple at a, each item in a new pair with its place -/
def IteT (K : PySem.W.Frag) (a : Addr) : It :=
  ⟨fun i H => ∃ (xs : List V) (x : V), SqT K H a xs ∧ xs[i]? = some x,
    fun i H v H' => ∃ T x, v = .ref T ∧ H T = none ∧ H' = upd H T (.tup [.int (i : Nat), x]) ∧ ∀ xs, SqT K H a xs → xs[i]? = some x,
    fun i H => ∃ xs : List V, SqT K H a xs ∧ xs.length = i⟩
theorem turn_enumT {P : Program} {w : World} {K : PySem.W.Frag} {elts : List Expr} {kk : Nat} {tpos : Pos} (a e it : Addr) (hne : e ≠ it) (hea : a ≠ e) (hia : a ≠ it) :
    Turn P w K (.Tuple elts kk tpos) (IteT K a) [e, it] e (fun i h => (∃ old, IsEnum h e it ((i : Nat) : Int) old) ∧ h.IsTupleIter it a i) where
  mem := List.mem_cons_self
  obj := fun i h st b hb => by
    obtain ⟨⟨old, ie⟩, ⟨o, ho, _, hd⟩⟩ := st
    rcases List.mem_cons.mp hb with z | hb
    · rw [z]; exact ⟨_, ie, fun v q => nomatch q⟩
    · rw [List.mem_singleton.mp hb]; exact ⟨o, ho, fun v q => by rw [hd] at q; cases q⟩
  keep := fun i h h' st k => by
    obtain ⟨⟨old, ie⟩, hi⟩ := st
    exact ⟨⟨old, k e (by simp) _ ie⟩, hi.at fun o q => k it (by simp) o q⟩
  item := by
    intro X hP hw hK hc i pins s σ H E I hf st hg
    subst hP hw hK
    obtain ⟨⟨old, ie⟩, hit⟩ := st
    obtain ⟨xs, x, hq, hx⟩ := hg
    obtain ⟨its, rv, p, hz⟩ := I.tuple hq
    obtain ⟨u, hu, ru⟩ := rv.get hx
    have hel : e < s.heap.objs.size := Heap.lt_size ie
    have hlen : i < its.toArray.size := by
      have := (List.getElem?_eq_some_iff.mp hu).1
      simpa using this
    refine wpAny_pyNext_enum_itemD (D := Draws.tuple (A := X.A.in1) (I.ok.hd hc) it a hia its.toArray) ie ⟨hit, p⟩ hlen hne (by simp [hne, Ne.symm hea]) fun y h' tk hy ho hit' hT hsz hk => ?_
    have ey : y = u := by
      have z : its.toArray[i]? = some y := hy
      have z' : its[i]? = some y := by simpa using z
      rw [hu] at z'
      exact (Option.some.inj z').symm
    subst ey
    refine ⟨_, rfl, wpAny_letOwnedTupleGo_enum (s := { s with heap := h', toks := tk + 1 }) ho fun h'' he' sb => ?_⟩
    have hT2 : h''.get? s.heap.objs.size = some { cls := .type "tuple", data := .seq #[.int i tk, y] } := (sb.2 _ (Nat.ne_of_gt hel)).trans hT
    have new : ObjOk X.prog X.w (upd H s.heap.objs.size (.tup [.int (i : Nat), x])) h'' s.heap.objs.size (.tup [.int (i : Nat), x]) :=
      ⟨by show 2 ≤ sizeLine; decide, [.int i tk, y], .cons ⟨_, rfl⟩ (.cons ru .nil), ⟨_, hT2, rfl, _, rfl⟩⟩
    have I1 : Inv X pins σ (upd H s.heap.objs.size (.tup [.int (i : Nat), x])) { s with heap := h'', toks := tk + 1 } :=
      I.turnedNew (ch := [e, it]) (fun b ob hb q => (sb.2 b (fun z => hb (by simp [z]))).trans (hk b ob (fun z => hb (by simp [z])) (fun z => hb (by simp [z])) q)) hf (Nat.le_refl _) new
    refine ⟨.ref s.heap.objs.size, _, I1, rfl, ⟨_, x, rfl, I.hok.fresh (Nat.le_refl _), rfl, fun ys hy => by rw [I.tuple_inj hy hq]; exact hx⟩, ⟨⟨y, ?_⟩, hit'.1.at fun o q => (sb.2 it (Ne.symm hne)).trans q⟩, fun b hb => ?_⟩
    · have e1 : ((i + 1 : Nat) : Int) = (i : Int) + 1 := by omega
      rw [e1]
      exact he'
    · have hb' : b < s.heap.objs.size := by
        rcases List.mem_cons.mp hb with z | z
        · rw [z]; exact hel
        · rw [List.mem_singleton.mp z]; obtain ⟨_, q, _⟩ := hit; exact Heap.lt_size q
      rw [upd_ne (Nat.ne_of_lt hb')]
      exact (hf b hb).1
  done := by
    intro X hP hw hK hc i pins s σ H E I hf st hg
    subst hP hw hK
    obtain ⟨⟨old, ie⟩, hit⟩ := st
    obtain ⟨xs, hq, hx⟩ := hg
    obtain ⟨its, rv, p, hz⟩ := I.tuple hq
    obtain ⟨f0, f1, f2, f3, f4, f5⟩ := hf it (by simp)
    have hl := rv.length
    have en : its.toArray.size = i := by
      rw [List.size_toArray]
      omega
    subst en
    exact wpAny_pyNext_enum_endD (D := Draws.tuple (A := X.A.in1) (I.ok.hd hc) it a hia its.toArray) ie ⟨hit, p⟩ fun h' eb => ⟨rfl, I.turned (t' := s.toks) (fun b o hb q => eb b o hb q) f0 f1 f3 f4 f5⟩
  self := fun A i s Q E st h => by
    obtain ⟨⟨_, ie⟩, _⟩ := st
    exact wpAny_pyIter_enum ie h
def iEnumT (K : PySem.W.Frag) (ta : TA) : TI := fun σ H R => ta σ H fun vs H1 => ∃ (a : Addr) (xs : List V), vs = [.ref a] ∧ SqT K H1 a xs ∧ R (IteT K a) H1
theorem pi_enumT {e : Expr} {ta : TA} {p pos tpos : Pos} {elts : List Expr} {kk : Nat} (hg : Gl X "enumerate") (hm : X.mg "enumerate" = none) (ha : PA X [e] ta) (hs : starEach [e] X.env = [(false, eval e X.env)] := by rfl) :
    PI X (.Tuple elts kk tpos) (.Call (.Name "enumerate" p) [e] [] pos) (iEnumT X.K ta) := by
  refine ⟨fun pins s σ H R I h => ?_⟩
  refine Call_ (ld_blt I hg hm boot_enumerate (PyProof.Rows.callWith_type1 (thn (ha.run pos pins s σ H _ I h) fun us s1 ⟨vs, H1, I1, r1, q1⟩ => ?_) hs rfl))
  obtain ⟨a, xs, rfl, hq, q⟩ := q1
  obtain ⟨u, rfl, ru⟩ := vals1 r1
  cases (show u = Value.ref a from ru)
  obtain ⟨its, rv, p', hz⟩ := I1.tuple hq
  have hlt : a < s1.heap.objs.size := by
    obtain ⟨o, ho, _⟩ := p'
    exact Heap.lt_size ho
  refine enum1_made (begins_tuple a its.toArray) p' fun h' ie hit hk => wpAny_pyIter_enum ie ?_
  have I2 : Inv X pins σ H1 { s1 with heap := h' } := I1.kept (t' := s1.toks) hk
  refine ⟨s1.heap.objs.size + 1, [s1.heap.objs.size + 1, s1.heap.objs.size], _, _, H1, rfl, I2, turn_enumT a (s1.heap.objs.size + 1) s1.heap.objs.size (Nat.succ_ne_self _) (Nat.ne_of_lt (Nat.lt_succ_of_lt hlt)) (Nat.ne_of_lt hlt), ⟨⟨.none, ie⟩, ⟨_, hit, rfl, rfl⟩⟩, fun b hb => ?_, q⟩
  have hle : s1.heap.objs.size ≤ b := by
    rcases List.mem_cons.mp hb with z | z
    · rw [z]; exact Nat.le_succ _
    · rw [List.mem_singleton.mp z]; exact Nat.le_refl _
  exact I1.fpOk hle (I1.hok.fresh hle)
theorem walk_enumT {K : PySem.W.Frag} {a : Addr} {xs : List V} : Walk (IteT K a) xs.length (fun H => SqT K H a xs) (YPair (fun i => some (.int (i : Nat))) (fun i => xs[i]?)) := by
  refine ⟨fun i _ hi q => ⟨xs, xs[i], q, by simp [hi]⟩, fun _ q => ⟨xs, q, rfl⟩, fun i H v H' _ q y => ?_⟩
  obtain ⟨T, x, h1, h2, h3, h4⟩ := y
  exact ⟨T, .int (i : Nat), x, h1, h2, h3, rfl, h4 xs q⟩
def tLenSetT (K : PySem.W.Frag) (ta : TE) : TE := fun σ H Q => ta σ H fun x H1 => ∃ (a : Addr) (ns : List Int), x = .ref a ∧ SqT K H1 a (ns.map V.int) ∧ ns.length ≤ 1000 ∧ ∀ l : List Int, l.Nodup → (∀ k, k ∈ l ↔ k ∈ ns) → Q (.int (l.length : Int)) H1
theorem pe_lenSetT {a : Expr} {ta : TE} {p p2 q pos : Pos} (hg : Gl X "len") (hm : X.mg "len" = none) (hg2 : Gl X "set") (hm2 : X.mg "set" = none) (ha : PE X a ta) (hc : X.calm = true := by rfl)
    (na : starEach [a] X.env = (false, eval a X.env) :: starEach [] X.env := by rfl) : PE X (.Call (.Name "len" p) [.Call (.Name "set" p2) [a] [] q] [] pos) (tLenSetT X.K ta) := by
  refine ⟨fun pins s σ H Q I h => ?_⟩
  refine Call_ (ld_blt I hg hm boot_len ?_)
  refine PyProof.Rows.callWith_builtin1 (PyProof.Rows.args_cons ?_ rfl) rfl rfl
  refine Call_ (ld_blt I hg2 hm2 boot_set ?_)
  refine PyProof.Rows.callWith_type1 (PyProof.Rows.args_cons (thn (ha.run pins s σ H _ I h) fun v s1 ⟨x, H1, I1, r1, q1⟩ => PyProof.Rows.args_nil ?_) na) na rfl
  obtain ⟨l, ns, rfl, hq, hl, k⟩ := q1
  cases (show v = Value.ref l from r1)
  obtain ⟨its, r, pt, hz⟩ := I1.tuple hq
  refine call_set_tupI ns (I1.ok.hd hc) pt (by simpa using intsAre_of r) (Nat.lt_of_le_of_lt (Nat.succ_le_succ hl) (by decide)) fun h' tk c hS hc' hk => ?_
  refine PyProof.Rows.args_nil ?_
  obtain ⟨o, es, ep, t, ho, hex, hd, _, hnd, hmem, _, hfit, hn, _⟩ := hS
  have I2 : Inv X pins σ H1 { s1 with heap := h', toks := tk } := I1.kept (t' := tk) hk
  have hlen : (es.toList.map keyOf).length = es.size := by rw [List.length_map, Array.length_toList]
  have e1 := k (es.toList.map keyOf) hnd fun j => by rw [← hmem j]; simp
  rw [hlen] at e1
  exact call_len_set ho hex hd hfit (by omega) ⟨.int es.size, H1, I2.tok _, ⟨_, rfl⟩, e1⟩
end
end WT
namespace WT
open PySem PySem.Spec PyProof.Rows L2 Evl
section
variable {K : PySem.W.Frag} {σ : L2.St} {H H' : Hp} {ta tb tc te tl : TE} {tr : TA} {t u : TT} {d e : PyData} {ds es : List PyData} {v x y : V}
variable {Dn : Ends} {tu tw tz : TS} {g : TG}
abbrev g2 (K : PySem.W.Frag) (i j : Nat) : TG := gTup K 2 (gCons (gName i) (gCons (gName j) gNil))
theorem g2_pair {i j : Nat} {T : Addr} {x y : V} {Q : L2.St → Hp → Prop} (h : H T = some (.tup [x, y])) (q : Q ((σ.set i (some x)).set j (some y)) H) : g2 K i j (.ref T) σ H Q :=
  ⟨T, [x, y], rfl, st_of h, rfl, x, [y], rfl, y, [], rfl, rfl, q⟩
/-- for i, x in enumerate(t) -/
theorem s_forEn {i j : Nat} (h : Ed K tl σ H (.tuple ds)) (k : ∀ H1, Ex H H1 → ∃ Pv : Nat → L2.St → Hp → Prop, Pv 0 σ H1 ∧ (∀ n σ' H', Pv n σ' H' → TEx H1 H') ∧
    (∀ n x d σ' H' H'', ds[n]? = some d → Ex H' H'' → Fz K H'' d x → Pv n σ' H' → tu { Dn with nx := Pv (n + 1), ct := Pv (n + 1), bk := Dn.nx } ((σ'.set i (some (.int (n : Int)))).set j (some x)) H'') ∧
    ∀ σ' H', Pv ds.length σ' H' → Dn.nx σ' H') : tFor (iEnumT K (tCons tl tNil)) (g2 K i j) tu Dn σ H :=
  h H (Ex.refl H) _ fun v H1 e f => by
    obtain ⟨a, xs, rfl, hs, hf⟩ := fz_tupS f
    obtain ⟨Pv, h0, hT, hb, hd⟩ := k H1 e
    refine ⟨a, xs, rfl, hs.sq, for_it (walk_enumT (xs := xs)) Pv h0 (fun n σ' H' _ p => tex_t (hT n σ' H' p) hs) (fun n v σ' H' H'' hn p hy => ?_) fun σ' H' p => hd σ' H' (by rw [fzl_len hf] at p; exact p)⟩
    obtain ⟨T, x, y, rfl, hT0, rfl, ex, ey⟩ := hy
    cases (Option.some.inj ex)
    obtain ⟨d, hd', fd⟩ := fzl_getV hf ey
    exact g2_pair upd_same (hb n y d σ' H' _ hd' (Ex.new hT0) (Fz.mono ((hT n σ' H' p).trans (tex_of (Ex.new hT0))) _ _ fd) p)
theorem q_forEn {i j : Nat} (h : Ed K tl σ H (.tuple ds)) (k : ∀ H1, Ex H H1 → ∃ Pv : Nat → L2.St → Hp → Prop, Pv 0 σ H1 ∧ (∀ n σ' H', Pv n σ' H' → TEx H1 H') ∧
    (∀ n x d σ' H' H'', ds[n]? = some d → Ex H' H'' → Fz K H'' d x → Pv n σ' H' → tu { Dn with nx := Pv (n + 1), ct := Pv (n + 1), bk := tz Dn } ((σ'.set i (some (.int (n : Int)))).set j (some x)) H'') ∧
    ∀ σ' H', Pv ds.length σ' H' → tz Dn σ' H') : tSeq (tFor (iEnumT K (tCons tl tNil)) (g2 K i j) tu) tz Dn σ H := s_forEn (Dn := { Dn with nx := tz Dn }) h k
def RowsL (K : PySem.W.Frag) (H : Hp) : List Addr → List (List PyData) → Prop
  | [], rs => rs = []
  | q :: ps, rs => ∃ r rt, rs = r :: rt ∧ (∃ xs, H q = some (.lst xs) ∧ FzL K H r xs) ∧ RowsL K H ps rt
structure RowsP (K : PySem.W.Frag) (H : Hp) (p : Addr) (ps : List Addr) (rss : List (List PyData)) : Prop where
  outer : H p = some (.lst (ps.map V.ref))
  nd : (p :: ps).Nodup
  rows : RowsL K H ps rss
theorem RowsL.len : ∀ {ps : List Addr} {rss : List (List PyData)}, RowsL K H ps rss → ps.length = rss.length
  | [], _, h => by
    rw [show _ = [] from h]
    rfl
  | q :: ps, _, ⟨r, rt, h, _, h2⟩ => by
    rw [h, List.length_cons, List.length_cons, RowsL.len h2]
theorem RowsL.get : ∀ {ps : List Addr} {rss : List (List PyData)} {i : Nat} {r : List PyData}, RowsL K H ps rss → rss[i]? = some r → ∃ q xs, ps[i]? = some q ∧ H q = some (.lst xs) ∧ FzL K H r xs
  | [], _, _, _, h, e => by
    rw [show _ = [] from h] at e
    simp at e
  | q :: ps, _, 0, _, ⟨r, rt, h, ⟨xs, h1, h2⟩, _⟩, e => by
    rw [h] at e
    cases (Option.some.inj e)
    exact ⟨q, xs, rfl, h1, h2⟩
  | q :: ps, _, i + 1, _, ⟨r, rt, h, _, h2⟩, e => by
    rw [h] at e
    exact RowsL.get (i := i) h2 (by simpa using e)
/-- all rows are kept, tuples too -/
theorem RowsL.keep (tx : TEx H H') : ∀ {ps : List Addr} {rss : List (List PyData)}, (∀ q ∈ ps, ∀ o, H q = some o → H' q = some o) → RowsL K H ps rss → RowsL K H' ps rss
  | [], _, _, h => h
  | q :: ps, _, k, ⟨r, rt, h, ⟨xs, h1, h2⟩, h3⟩ => ⟨r, rt, h, ⟨xs, k q List.mem_cons_self _ h1, FzL.mono tx _ _ h2⟩, RowsL.keep tx (fun z hz => k z (List.mem_cons_of_mem _ hz)) h3⟩
theorem RowsL.app : ∀ {ps qs : List Addr} {rss sss : List (List PyData)}, RowsL K H ps rss → RowsL K H qs sss → RowsL K H (ps ++ qs) (rss ++ sss)
  | [], _, _, _, h, k => by
    rw [show _ = [] from h]
    exact k
  | q :: ps, _, _, _, ⟨r, rt, h, h1, h2⟩, k => by
    rw [h]
    exact ⟨r, _, rfl, h1, RowsL.app h2 k⟩
/-- one row changed -/
theorem RowsL.put {xs' : List V} {r' : List PyData} : ∀ {ps : List Addr} {rss : List (List PyData)} {i : Nat} {q : Addr} {xs : List V}, ps.Nodup → ps[i]? = some q → H q = some (.lst xs) → FzL K (upd H q (.lst xs')) r' xs' → RowsL K H ps rss → RowsL K (upd H q (.lst xs')) ps (rss.set i r')
  | [], _, _, _, _, _, e, _, _, _ => by simp at e
  | z :: ps, _, 0, q, xs, nd, e, hq, hf, ⟨r, rt, h, _, h2⟩ => by
    cases (Option.some.inj e)
    rw [h]
    refine ⟨r', rt, rfl, ⟨xs', upd_same, hf⟩, RowsL.keep (tex_lst hq) (fun y hy o ho => ?_) h2⟩
    have ny : y ≠ z := fun w => (List.nodup_cons.mp nd).1 (w ▸ hy)
    rw [upd_ne ny]
    exact ho
  | z :: ps, _, i + 1, q, xs, nd, e, hq, hf, ⟨r, rt, h, ⟨ys, h1, h2⟩, h3⟩ => by
    have e' : ps[i]? = some q := by simpa using e
    have nz : z ≠ q := fun w => (List.nodup_cons.mp nd).1 (w ▸ List.mem_of_getElem? e')
    rw [h]
    exact ⟨r, rt.set i r', rfl, ⟨ys, by rw [upd_ne nz]; exact h1, FzL.mono (tex_lst hq) _ _ h2⟩, RowsL.put (List.nodup_cons.mp nd).2 e' hq hf h3⟩
theorem RowsP.ex {p : Addr} {ps : List Addr} {rss : List (List PyData)} (e : Ex H H') (R : RowsP K H p ps rss) : RowsP K H' p ps rss :=
  ⟨e _ _ R.outer, R.nd, R.rows.keep (tex_of e) fun q _ o ho => e q o ho⟩
/-- kept but for one object that is none of them -/
theorem RowsP.but {p z : Addr} {ps : List Addr} {rss : List (List PyData)} (tx : TEx H H') (k : ∀ a o, a ≠ z → H a = some o → H' a = some o) (hz : z ∉ p :: ps) (R : RowsP K H p ps rss) : RowsP K H' p ps rss :=
  ⟨k _ _ (fun e => hz (e ▸ List.mem_cons_self)) R.outer, R.nd, R.rows.keep tx fun q hq o ho => k q o (fun e => hz (e ▸ List.mem_cons_of_mem _ hq)) ho⟩
theorem RowsP.put {p q : Addr} {ps : List Addr} {rss : List (List PyData)} {i : Nat} {xs xs' : List V} {r' : List PyData} (R : RowsP K H p ps rss) (hq : ps[i]? = some q) (hx : H q = some (.lst xs)) (hf : FzL K (upd H q (.lst xs')) r' xs') :
    RowsP K (upd H q (.lst xs')) p ps (rss.set i r') :=
  have np : p ≠ q := fun w => (List.nodup_cons.mp R.nd).1 (w ▸ List.mem_of_getElem? hq)
  ⟨by rw [upd_ne np]; exact R.outer, R.nd, R.rows.put (List.nodup_cons.mp R.nd).2 hq hx hf⟩
/-- rows[a] -/
theorem ev_rowAt {p q : Addr} {ps : List Addr} {rss : List (List PyData)} {a : Nat} (R : RowsP K H p ps rss) (hA : Ev ta σ H (.ref p)) (hB : Ev tb σ H (.int (a : Int))) (hq : ps[a]? = some q) : Ev (tOp (rIxL K) ta tb) σ H (.ref q) :=
  ev_op hA hB (rv_ixL (sq_of R.outer) (atI_of (by rw [List.getElem?_map, hq]; rfl)))
/-- rows[a][b] -/
theorem ed_rowAt2 {p : Addr} {ps : List Addr} {rss : List (List PyData)} {a b : Nat} {r : List PyData} (R : RowsP K H p ps rss) (hA : Ev ta σ H (.ref p)) (hB : Ev tb σ H (.int (a : Int))) (hC : Ev tc σ H (.int (b : Int))) (hr : rss[a]? = some r) (hd : r[b]? = some d) :
    Ed K (tOp (rIxL K) (tOp (rIxL K) ta tb) tc) σ H d := by
  obtain ⟨q, xs, hq, hx, hf⟩ := R.rows.get hr
  exact ed_ixL (ev_rowAt R hA hB hq) (sq_of hx) hf hC hd
/-- rows[a][b] = e -/
theorem s_setRow {p : Addr} {ps : List Addr} {rss : List (List PyData)} {a b : Nat} {r : List PyData} (R : RowsP K H p ps rss) (he : Ed K te σ H d) (hA : Ev ta σ H (.ref p)) (hB : Ev tb σ H (.int (a : Int))) (hC : Ev tc σ H (.int (b : Int))) (hr : rss[a]? = some r) (hb : b < r.length)
    (k : ∀ H1 q xs v, q ∈ ps → Ex H H1 → H1 q = some (.lst xs) → RowsP K (upd H1 q (.lst (xs.set b v))) p ps (rss.set a (r.set b d)) → Dn.nx σ (upd H1 q (.lst (xs.set b v)))) :
    tAsg te (gSub (tOp (rIxL K) ta tb) tc rSetL) Dn σ H := he H (Ex.refl H) _ fun v H1 e1 fv => by
  obtain ⟨q, xs, hq, hx, hf⟩ := R.rows.get hr
  refine ev_rowAt R hA hB hq H1 e1 _ fun H2 e2 => hC H2 (e1.trans e2) _ fun H3 e3 => ?_
  have e13 := (e1.trans e2).trans e3
  have h3 := e13 _ _ hx
  refine ⟨q, xs, (b : Int), b, rfl, rfl, h3, ixN_nat (by rw [fzl_len hf]; exact hb), k H3 q xs v (List.mem_of_getElem? hq) e13 h3 ?_⟩
  exact (R.ex e13).put hq h3 (FzL.mono (tex_lst h3) _ _ (fzl_set b (fzl_ex e13 hf) (fz_ex (e2.trans e3) fv)))
theorem fzl_repl (n : Nat) (h : Fz K H d v) : FzL K H (List.replicate n d) (List.replicate n v) := by
  induction n with
  | zero => exact fzl_nil
  | succ n ih => exact fzl_cons h ih
/-- [d] * n -/
theorem el_rep {n : Nat} (h : El K ta σ H [d]) (hb : Ev tb σ H (.int (n : Int))) (hn : n ≤ 100000) : El K (tOp rRep ta tb) σ H (List.replicate n d) := fun H1 e Q q =>
  h H1 e _ fun p xs H2 hp e2 hx f => hb H2 (e.trans e2) _ fun H3 e3 => by
    obtain ⟨v, r, rfl, fv, fr⟩ := fzl_consI f
    rw [fzl_nilI fr] at hx
    have en : (List.replicate (n : Int).toNat [v]).flatten = List.replicate n v := by
      rw [Int.toNat_natCast]
      induction n with
      | zero => rfl
      | succ n ih => simp
    refine ⟨p, n, [v], rfl, rfl, e3 _ _ hx, by omega, by omega, sz_of (by simp; omega), fun l hl => ?_⟩
    rw [en]
    refine q l _ _ (fresh_back (e2.trans e3) hl) ((e2.trans e3).trans (Ex.new hl)) upd_same (fzl_ex (Ex.new hl) ?_)
    exact fzl_repl n (fz_ex e3 fv)
def ElR (K : PySem.W.Frag) (te : TE) (σ : L2.St) (H : Hp) (rss : List (List PyData)) : Prop := ∀ H1, Ex H H1 → ∀ Q : VK, (∀ p ps H2, (∀ q ∈ p :: ps, H1 q = none) → Ex H1 H2 → RowsP K H2 p ps rss → Q (.ref p) H2) → te σ H1 Q
def CwR (K : PySem.W.Frag) (H : Hp) (out : Nat → List (List PyData)) (Dl : Addr) (i : Nat) (H' : Hp) : Prop := Ex H H' ∧ ∃ ps, (∀ q ∈ Dl :: ps, H q = none) ∧ RowsP K H' Dl ps (out i)
theorem cwr_turn {out : Nat → List (List PyData)} {Dl : Addr} {i : Nat} {σ2 : L2.St} {r : List PyData} (p : CwR K H out Dl i H') (hi : (out i).length < 100000) (h : ∀ H3, Ex H H3 → Ex H' H3 → El K te σ2 H3 r) (ho : out (i + 1) = out i ++ [r]) :
    ∀ H4, Ex H' H4 → tYes σ2 H4 fun b H3 => if b = true then te σ2 H3 fun y H4 => ∃ acc, H4 Dl = some (.lst acc) ∧ acc.length < sizeLine ∧ CwR K H out Dl (i + 1) (upd H4 Dl (.lst (acc ++ [y]))) else CwR K H out Dl (i + 1) H3 := by
  intro Hs es
  obtain ⟨p1, ps, p2, R⟩ := p
  show te σ2 Hs fun y H4 => ∃ acc, H4 Dl = some (.lst acc) ∧ acc.length < sizeLine ∧ CwR K H out Dl (i + 1) (upd H4 Dl (.lst (acc ++ [y])))
  refine h Hs (p1.trans es) es Hs (Ex.refl _) _ fun q xs H4 hq e4 hx f => ?_
  have R4 := R.ex (es.trans e4)
  have nq : q ∉ Dl :: ps := fun hm => by
    rcases List.mem_cons.mp hm with z | z
    · rw [z, es _ _ R.outer] at hq
      cases hq
    · obtain ⟨j, hj⟩ := List.getElem?_of_mem z
      have hl := R.rows.len
      have hjl := (List.getElem?_eq_some_iff.mp hj).1
      obtain ⟨q', xs', hq', hx', _⟩ := R.rows.get (List.getElem?_eq_getElem (by omega : j < (out i).length))
      rw [hj] at hq'
      cases hq'
      rw [es _ _ hx'] at hq
      cases hq
  have nDl : q ≠ Dl := fun z => nq (z ▸ List.mem_cons_self)
  refine ⟨ps.map V.ref, R4.outer, sz_lt (by rw [List.length_map, R.rows.len]; exact hi), Ex.mut (p1.trans (es.trans e4)) (p2 _ List.mem_cons_self), ps ++ [q], fun z hz => ?_, ?_, ?_, ?_⟩
  · rcases List.mem_cons.mp hz with z' | z'
    · exact z' ▸ p2 _ List.mem_cons_self
    · rcases List.mem_append.mp z' with z' | z'
      · exact p2 _ (List.mem_cons_of_mem _ z')
      · rw [List.mem_singleton.mp z']
        exact fresh_back (p1.trans es) hq
  · rw [List.map_append]
    exact upd_same
  · have nd := R.nd
    rw [List.nodup_cons] at nd ⊢
    refine ⟨fun hm => ?_, ?_⟩
    · rcases List.mem_append.mp hm with z | z
      · exact nd.1 z
      · exact nDl (List.mem_singleton.mp z).symm
    · rw [List.nodup_append]
      exact ⟨nd.2, by simp, fun a ha b hb => by rw [List.mem_singleton.mp hb]; exact fun z => nq (z ▸ List.mem_cons_of_mem _ ha)⟩
  · rw [ho]
    have tx : TEx H4 (upd H4 Dl (.lst (ps.map V.ref ++ [V.ref q]))) := tex_lst R4.outer
    refine RowsL.app (RowsL.keep tx (fun a ha o hao => ?_) R4.rows) ⟨r, [], rfl, ⟨xs, by rw [upd_ne nDl]; exact hx, FzL.mono tx _ _ f⟩, rfl⟩
    have na : a ≠ Dl := fun z => (List.nodup_cons.mp R.nd).1 (z ▸ ha)
    rw [upd_ne na]
    exact hao
theorem cwr_zero {out : Nat → List (List PyData)} {Dl : Addr} (hD : H Dl = none) (h0 : out 0 = []) : CwR K H out Dl 0 (upd H Dl (.lst [])) :=
  ⟨Ex.new hD, [], fun q hq => by rw [List.mem_singleton.mp hq]; exact hD, upd_same, by simp, h0⟩
/-- over a tuple -/
theorem er_lcTd {j : Nat} {vs : List Nat} (out : Nat → List (List PyData)) (h : Ed K tl σ H (.tuple ds)) (h0 : out 0 = []) (hz : ∀ i, i < ds.length → (out i).length < 100000) (hw : ∀ x, wipe ((wipe σ vs).set j (some x)) vs = wipe σ vs)
    (hs : ∀ (i : Nat) (x : V) d H1, Ex H H1 → ds[i]? = some d → Fz K H1 d x → ∃ r, El K te ((wipe σ vs).set j (some x)) H1 r ∧ out (i + 1) = out i ++ [r]) :
    ElR K (tLc (iTup K tl) (gName j) tYes te vs) σ H (out ds.length) := fun H0 e Q q => h H0 e _ fun v H1 e1 f => by
  obtain ⟨a, xs, rfl, hx, hf⟩ := fz_tupI f
  refine ⟨a, rfl, ⟨xs, hx⟩, fun Dl hD => lc_tup (xs := xs) (CwR K H1 out Dl) (cwr_zero hD h0) (fun i H' _ p => ex_t p.1 hx) (fun i x H' hi p => ?_) (fun H' p => ?_)⟩
  · obtain ⟨d, hd, fd⟩ := fzl_getV hf hi
    obtain ⟨r, _, ho⟩ := hs i x d H1 (e.trans e1) hd fd
    refine ⟨hw x, cwr_turn p (hz i (by have := (List.getElem?_eq_some_iff.mp hd).1; omega)) (fun H3 e3 _ => ?_) ho H' (Ex.refl _)⟩
    obtain ⟨r', hr', ho'⟩ := hs i x d H3 ((e.trans e1).trans e3) hd (fz_ex e3 fd)
    rw [ho] at ho'
    have er : r = r' := List.cons.inj (List.append_cancel_left ho') |>.1
    exact er ▸ hr'
  · obtain ⟨p1, ps, p2, R⟩ := p
    rw [fzl_len hf] at R
    exact q Dl ps H' (fun z hz => fresh_back e1 (p2 z hz)) (e1.trans p1) R
/-- over range(n) -/
theorem er_lcRd {ta : TA} {j : Nat} {vs : List Nat} {n : Nat} (out : Nat → List (List PyData)) (h : EvA ta σ H [.int (n : Int)]) (hn : n ≤ 40000) (h0 : out 0 = []) (hz : ∀ i, i < n → (out i).length < 100000) (hw : ∀ x, wipe ((wipe σ vs).set j (some x)) vs = wipe σ vs)
    (hs : ∀ (i : Nat) H1, Ex H H1 → i < n → ∃ r, El K te ((wipe σ vs).set j (some (.int (i : Int)))) H1 r ∧ out (i + 1) = out i ++ [r]) :
    ElR K (tLc (iRng1 ta) (gName j) tYes te vs) σ H (out n) := fun H0 e Q q => h H0 e _ fun H1 e1 => ⟨n, rfl, by omega, by omega, fun Dl hD =>
  lc_range (lo := 0) (n := n) (CwR K H1 out Dl) (cwr_zero hD h0) (fun i H' hi p => by
    have e0 : (0 : Int) + (i : Int) = (i : Int) := Int.zero_add _
    show wipe ((wipe σ vs).set j (some (.int ((0 : Int) + (i : Int))))) vs = wipe σ vs ∧ tYes ((wipe σ vs).set j (some (.int ((0 : Int) + (i : Int))))) H' fun b H3 => if b = true then te ((wipe σ vs).set j (some (.int ((0 : Int) + (i : Int))))) H3 fun y H4 => ∃ acc, H4 Dl = some (.lst acc) ∧ acc.length < sizeLine ∧ CwR K H1 out Dl (i + 1) (upd H4 Dl (.lst (acc ++ [y]))) else CwR K H1 out Dl (i + 1) H3
    rw [e0]
    obtain ⟨r, _, ho⟩ := hs i H1 (e.trans e1) hi
    refine ⟨hw _, cwr_turn p (hz i hi) (fun H3 e3 _ => ?_) ho H' (Ex.refl _)⟩
    obtain ⟨r', hr', ho'⟩ := hs i H3 ((e.trans e1).trans e3) hi
    rw [ho] at ho'
    have er : r = r' := List.cons.inj (List.append_cancel_left ho') |>.1
    exact er ▸ hr') (fun H' p => by
    obtain ⟨p1, ps, p2, R⟩ := p
    exact q Dl ps H' (fun z hz => fresh_back e1 (p2 z hz)) (e1.trans p1) R)⟩
/-- [tuple(row) for row in rows] and its like: over a list of lists -/
theorem el_lcRows {j : Nat} {vs : List Nat} {p : Addr} {ps : List Addr} {rss : List (List PyData)} (out : Nat → List PyData) (h : Ev tl σ H (.ref p)) (R : RowsP K H p ps rss) (h0 : out 0 = []) (hz : ∀ i, i < rss.length → (out i).length < 100000) (hw : ∀ x, wipe ((wipe σ vs).set j (some x)) vs = wipe σ vs)
    (hs : ∀ (i : Nat) q xs r H1, Ex H H1 → rss[i]? = some r → H1 q = some (.lst xs) → FzL K H1 r xs → ∃ d, Ed K te ((wipe σ vs).set j (some (.ref q))) H1 d ∧ out (i + 1) = out i ++ [d]) :
    El K (tLc (iList K tl) (gName j) tYes te vs) σ H (out rss.length) := fun H0 e Q k => h H0 e _ fun H1 e1 => by
  have R1 := R.ex (e.trans e1)
  refine ⟨p, rfl, ⟨_, sq_of R1.outer⟩, fun Dl hD => lc_list (xs := ps.map V.ref) (CwD K H1 out Dl) ⟨hD, Ex.new hD, [], upd_same, by rw [h0]; exact fzl_nil⟩ (fun i H' _ p => sq_of (p.2.1 _ _ R1.outer)) (fun i x H' hi p => ?_) (fun H' p => ?_)⟩
  · rw [List.getElem?_map] at hi
    cases hq : ps[i]? with
    | none =>
      rw [hq] at hi
      cases hi
    | some q =>
      rw [hq] at hi
      cases (Option.some.inj hi)
      have hil : i < rss.length := by
        have := (List.getElem?_eq_some_iff.mp hq).1
        rw [← R.rows.len]
        exact this
      obtain ⟨q', xs, hq', hx, hf⟩ := R1.rows.get (List.getElem?_eq_getElem hil)
      rw [hq] at hq'
      cases hq'
      refine ⟨hw _, cwd_turn p (hz i hil) (fun H3 e3 _ => ?_) H' (Ex.refl _)⟩
      obtain ⟨d, hd, ho⟩ := hs i q xs _ H3 ((e.trans e1).trans e3) (List.getElem?_eq_getElem hil) (e3 _ _ hx) (fzl_ex e3 hf)
      exact turn_all et_yes hd ho
  · obtain ⟨p1, p2, acc, p3, p4⟩ := p
    rw [List.length_map, R.rows.len] at p4
    exact k Dl acc H' (fresh_back e1 p1) (e1.trans p2) p3 p4
theorem q_asgR {i : Nat} {rss : List (List PyData)} (h : ElR K te σ H rss) (k : ∀ p ps H1, (∀ q ∈ p :: ps, H q = none) → Ex H H1 → RowsP K H1 p ps rss → tz Dn (σ.set i (some (.ref p))) H1) : tSeq (tAsg te (gName i)) tz Dn σ H := h H (Ex.refl H) _ fun p ps H1 hp e R => k p ps H1 hp e R
end
end WT
namespace WT
open PySem PySem.Spec PyProof.Rows L2 Evl
structure DefIn (K : PySem.W.Frag) (mg : Str → Option Value) (x : Str) (ps : List Str) (st : Stmt) : Prop where
  ex : ∃ (f : Addr) (fd : FuncData), Fun K x x st f fd ∧ mg x = some (.ref f) ∧ Binds K fd ps []
def Okd (P : Program) (w : World) (K : PySem.W.Frag) (mg : Str → Option Value) (base : Heap) (x : Str) (ps : List Str) (st : Stmt) (k : Nat) (sp : Sp) : Prop :=
  ∃ (f : Addr) (fd : FuncData), mg x = some (.ref f) ∧ Fun K x x st f fd ∧ Binds K fd ps [] ∧ FnOk P w K mg base CX0 k f fd ps sp
/-- a def's promise, kept wherever it is called with nothing being written out (repr) around -/
structure FnG (P : Program) (w : World) (K : PySem.W.Frag) (mg : Str → Option Value) (base : Heap) (k : Nat) (f : Addr) (fd : FuncData) (ps : List Str) (sp : Sp) : Prop where
  len : ∀ vs H Q E, sp vs H Q E → vs.length = ps.length
  run : ∀ (A : Around) (out : List Env) (s : Shared) (H : Hp) (args : Args) (us : List Value) (vs : List V) (Q : VK) (E : XK), A.guards = some [] → Room k A → Env0 P w K mg base A out s H →
    BindsTo s fd args (ps.zip us) → Vals vs us → sp vs H Q E → codeAny (model P w) A (.call (.ref f) args) (CR CX0 out P w H s Q E) s
def Okg (P : Program) (w : World) (K : PySem.W.Frag) (mg : Str → Option Value) (base : Heap) (x : Str) (ps : List Str) (st : Stmt) (k : Nat) (sp : Sp) : Prop :=
  ∃ (f : Addr) (fd : FuncData), mg x = some (.ref f) ∧ Fun K x x st f fd ∧ Binds K fd ps [] ∧ FnG P w K mg base k f fd ps sp
section
variable {P : Program} {w : World} {K : PySem.W.Frag} {mg : Str → Option Value} {base : Heap}
theorem Okd.mk {x : Str} {ps N : List Str} {st : Stmt} {k : Nat} {sp : Sp} (d : DefIn K mg x ps st) (S : FnScope N ps (defScope st)) (len : ∀ vs H Q E, sp vs H Q E → vs.length = ps.length)
    (h : ∀ (f : Addr) (cdv : Value) (A : Around) (outer : List Env) (s : Shared) (H : Hp) (vs : List V) (Q : VK) (E : XK), Room k (A.deeper (envOfC x (defScope st) s.heap.objs.size f cdv)) → sp vs H Q E →
      ∃ t, PSs (cxOf CX0 P w K mg base N x (defScope st) f cdv A outer s H E).nox (defBody st) t ∧ t { nx := fun _ H' => Q .non H', rt := Q } (start N vs) H) : Okd P w K mg base x ps st (k + 1) sp := by
  obtain ⟨f, fd, F, g, b⟩ := d.ex
  exact ⟨f, fd, g, F, b, F.ok S len fun cdv A outer s H vs Q E => h f cdv A outer s H vs Q E⟩
theorem Okd.weak {x : Str} {ps : List Str} {st : Stmt} {k : Nat} {sp sp' : Sp} (o : Okd P w K mg base x ps st k sp) (h : ∀ vs H Q E, sp' vs H Q E → sp vs H Q E) : Okd P w K mg base x ps st k sp' := by
  obtain ⟨f, fd, g, kp, b, G⟩ := o
  exact ⟨f, fd, g, kp, b, G.imp h⟩
/-- a def that is well wherever it is called is well here -/
theorem Okd.g {x : Str} {ps : List Str} {st : Stmt} {k : Nat} {sp : Sp} (o : Okd P w K mg base x ps st k sp) : Okg P w K mg base x ps st k sp := by
  obtain ⟨f, fd, g, kp, b, G⟩ := o
  exact ⟨f, fd, g, kp, b, G.len, fun A out s H args us vs Q E _ hr => G.run A out s H args us vs Q E hr⟩
theorem Okg.mk {x : Str} {ps N : List Str} {st : Stmt} {k : Nat} {sp : Sp} (d : DefIn K mg x ps st) (S : FnScope N ps (defScope st)) (len : ∀ vs H Q E, sp vs H Q E → vs.length = ps.length)
    (h : ∀ (f : Addr) (cdv : Value) (A : Around) (outer : List Env) (s : Shared) (H : Hp) (vs : List V) (Q : VK) (E : XK), A.guards = some [] → Room k (A.deeper (envOfC x (defScope st) s.heap.objs.size f cdv)) → sp vs H Q E →
      ∃ t, PSs (cxOf CX0 P w K mg base N x (defScope st) f cdv A outer s H E).nox (defBody st) t ∧ t { nx := fun _ H' => Q .non H', rt := Q } (start N vs) H) : Okg P w K mg base x ps st (k + 1) sp := by
  obtain ⟨f, fd, F, g, b⟩ := d.ex
  refine ⟨f, fd, g, F, b, len, fun A out s H args us vs Q E hgd hr e0 hb r hsp => ?_⟩
  obtain ⟨oc, od, kV, doc, pm, an, cdv, ct, osl, rfl, lk, hcd⟩ := F.ex
  have hl := len _ _ _ _ hsp
  have kin : K.In s.heap := e0.mod.kin.keeps fun b o e => (e0.bs b o e).1
  have nol : s.heap.NoLimit := e0.mod.nolimit.keeps fun b o e => (e0.bs b o e).1
  have kinds : ∀ y ∈ ps.zip us, (defScope st).names.lookup y.1 = some .local ∨ ((defScope st).names.lookup y.1 = some .cell ∧ ((cellsFrom (s.heap.objs.size + 1) (defScope st).names []).lookup y.1).isSome = true) := fun y hy => by
    have hm : y.1 ∈ ps := (List.of_mem_zip (show (y.1, y.2) ∈ ps.zip us from hy)).1
    rcases S.par y.1 hm with q | q
    · exact .inl q
    · exact .inr ⟨q, PySem.W.cellsFrom_some _ _ _ (.inl q)⟩
  refine codeAny_call_function hr.depth (kin _ _ lk) rfl S.co S.gen rfl (PySem.W.codeRec_of kin hcd) (hb _ _ _ _ ?_)
  refine wpAny_newFunctionEnv_cells S.kind kinds fun env he s1 nx => ?_
  subst he
  refine ⟨nol.keeps nx.toInCall.keep, codeAny_func ?_⟩
  obtain ⟨t, ht, hq⟩ := h f cdv A out s H vs Q E hgd (hr.deeper _) hsp
  have I : Inv (cxOf CX0 P w K mg base N x (defScope st) f cdv A out s H E) [] (start N vs) H s1 := inv_start S hr.hd e0 hl r nx
  refine wpAny_mono (ht.nox.run [] s1 (start N vs) H _ I hq) (fun fl s' hs => ?_) fun e s' hs => hs
  have close : ∀ {σ' : L2.St} {H' : Hp} {v : V} {u : Value}, Inv (cxOf CX0 P w K mg base N x (defScope st) f cdv A out s H E) [] σ' H' s' → RelV v u → Q v H' → CE out P w H s Q u s' :=
    fun {_ H' v _} J rv q => ⟨v, H', J.os, J.bare, J.base, J.hok, rv, q⟩
  match fl, hs with
  | .ret u, ⟨v, σ', H', J, rv, q⟩ => exact close J rv q
  | .next, ⟨σ', H', J, q⟩ => exact close (v := V.non) (u := Value.none) J rfl q
  | .brk, ⟨_, _, _, q⟩ => exact False.elim q
  | .cont, ⟨_, _, _, q⟩ => exact False.elim q
end
section
variable {X : Cx} {k : Nat} {x : Str} {p pos : Pos} {e : Expr} {es : List Expr} {t tk : TA} {ps ks : List Str} {sp : Sp} {st : Stmt} {kws : List Keyword}
theorem pe_fn (o : Okd X.prog X.w X.K X.mg X.base x ps st k sp) (hr : Room k X.A) (ha : PA X (e :: es) t) (hg : Gl X x := by rfl) (hdb : (x == ("__debug__" : Str)) = false := by decide)
    (he : starEach (e :: es) X.env = (false, eval e X.env) :: starEach es X.env := by rfl) (hpl : (backTo pos (starEach es X.env)).any (·.1) = false := by rfl) : PE X (.Call (.Name x p) (e :: es) [] pos) (tCall sp [] E0 t) := by
  obtain ⟨f, fd, g, kp, b, G⟩ := o
  exact pe_call G hr hg g kp.kp b .nil pass0 ha hdb he hpl
theorem pe_fnG (o : Okg X.prog X.w X.K X.mg X.base x ps st k sp) (hgd : X.A.guards = some []) (hr : Room k X.A) (ha : PA X (e :: es) t) (hg : Gl X x := by rfl) (hdb : (x == ("__debug__" : Str)) = false := by decide)
    (he : starEach (e :: es) X.env = (false, eval e X.env) :: starEach es X.env := by rfl) (hpl : (backTo pos (starEach es X.env)).any (·.1) = false := by rfl) : PE X (.Call (.Name x p) (e :: es) [] pos) (tCall sp [] E0 t) := by
  obtain ⟨f, fd, g, kp, b, G⟩ := o
  refine ⟨fun pins s σ H Q I h => wpAny_Call_Name_kw (ld_glob I hg g ?_ hdb)⟩
  refine PySem.W.callWith_K (h₀ := X.base) I.ok.mod.kin kp.kp (thn (ha.run pos pins s σ H _ I h) fun us s1 hvs => ?_) he hpl
  obtain ⟨vs, H1, I1, r, q⟩ := hvs
  refine ⟨I1.kIn, ?_⟩
  rw [List.append_nil] at q
  have hl : us.length = ps.length := by rw [← r.length]; exact G.len _ _ _ _ q
  refine wpAny_call (codeAny_mono (G.run X.A X.stack s1 H1 ⟨us, []⟩ us vs Q E0 hgd hr I1.env0 ?_ r q) fun rs s' hq => ?_)
  · have z := b s1 us I1.kIn (by rw [List.append_nil]; exact hl)
    rw [List.append_nil] at z
    exact z
  · match rs, hq with
    | .ok (.ret u), hq => exact I1.after hq
    | .ok .next, hq => exact False.elim hq
    | .ok .brk, hq => exact False.elim hq
    | .ok .cont, hq => exact False.elim hq
    | .error _, hq => exact False.elim hq
/-- how the arguments and the keywords' values come to the parameters: h is «fun _ _ _ _ _ _ us ws hl => match us, ws, hl with | [_, _], [_], _ => rfl» -/
theorem kbOf {K : PySem.W.Frag} {f : Addr} {fd : FuncData} {g : List Value → List Value → List Value} {gV : List V → List V → List V} (F : Fun K x x st f fd) (rel : ∀ {vs : List V} {us : List Value} {zs : List V} {ws : List Value}, Vals vs us → Vals zs ws → Vals (gV vs zs) (g us ws))
    (h : ∀ (kV doc pm : Value) (an : Option Addr) (cdv ct : Value) (us ws : List Value), (g us ws).length = ps.length → bindArgs (PySem.W.fnOf x x (defArgs st) (defBody st) (defScope st) .none kV doc pm an cdv ct) ⟨us, ks.zip ws⟩ = pure (ps.zip (g us ws))) : KBinds K fd ps ks g gV := by
  obtain ⟨oc, od, kV, doc, pm, an, cdv, ct, osl, rfl, lk, hcd⟩ := F.ex
  exact ⟨fun s us ws _ hl => .of_eq (h kV doc pm an cdv ct us ws hl), rel⟩
/-- f(a, .., k = b, ..) -/
theorem pe_fnK {g : List Value → List Value → List Value} {gV : List V → List V → List V} (o : Okd X.prog X.w X.K X.mg X.base x ps st k sp) (hr : Room k X.A) (hb : ∀ (f : Addr) (fd : FuncData), Fun X.K x x st f fd → KBinds X.K fd ps ks g gV) (ha : PA X (e :: es) t) (hkw : PK X kws tk)
    (hall : (backToKw pos (keywordEach kws X.env)).all (·.1.isSome) = true := by rfl) (hks : (backToKw pos (keywordEach kws X.env)).filterMap (·.1) = ks := by rfl) (hg : Gl X x := by rfl)
    (hdb : (x == ("__debug__" : Str)) = false := by decide) (he : starEach (e :: es) X.env = (false, eval e X.env) :: starEach es X.env := by rfl)
    (hpl : ((backTo pos (starEach (e :: es) X.env)).any (·.1) || (backToKw pos (keywordEach kws X.env)).any (·.1.isNone)) = false := by rfl) : PE X (.Call (.Name x p) (e :: es) kws pos) (tCallK sp gV E0 t tk) := by
  obtain ⟨f, fd, gm, F, b, G⟩ := o
  exact pe_callK G hr hg gm F.kp (hb f fd F) pass0 ha hkw hall hks hdb he hpl
end
end WT
namespace WT
open PySem PySem.Spec PyProof.Rows L2 Evl
abbrev rAbs : List V → Hp → VK → Prop := fun xs H Q => ∃ i, xs = [.int i] ∧ Q (.int (if i < 0 then -i else i)) H
abbrev rInt1 : List V → Hp → VK → Prop := fun xs H Q => (∃ i, xs = [.int i] ∧ Q (.int i) H) ∨ ∃ k, xs = [.bl k] ∧ Q (.int (if k then 1 else 0)) H
abbrev rMin2 : List V → Hp → VK → Prop := fun xs H Q => ∃ i j, xs = [.int i, .int j] ∧ Q (.int (if j < i then j else i)) H
section
variable {K : PySem.W.Frag} {σ : L2.St} {H H' : Hp} {ta tb tc te tl : TE} {tr : TA} {t u : TT} {d e : PyData} {ds es : List PyData} {v x y : V}
theorem ev_abs {i : Int} (h : Ev ta σ H (.int i)) : Ev (tCB rAbs (tCons ta tNil)) σ H (.int (if i < 0 then -i else i)) := fun H1 e Q q => h H1 e _ fun H2 e2 => ⟨i, rfl, q H2 e2⟩
theorem ev_int1 {i : Int} (h : Ev ta σ H (.int i)) : Ev (tCB rInt1 (tCons ta tNil)) σ H (.int i) := fun H1 e Q q => h H1 e _ fun H2 e2 => .inl ⟨i, rfl, q H2 e2⟩
theorem ev_intB {b : Bool} (h : Ev ta σ H (.bl b)) : Ev (tCB rInt1 (tCons ta tNil)) σ H (.int (if b then 1 else 0)) := fun H1 e Q q => h H1 e _ fun H2 e2 => .inr ⟨b, rfl, q H2 e2⟩
theorem ev_min2 {i j : Int} (ha : Ev ta σ H (.int i)) (hb : Ev tb σ H (.int j)) : Ev (tCB rMin2 (tCons ta (tCons tb tNil))) σ H (.int (if j < i then j else i)) := fun H1 e Q q =>
  ha H1 e _ fun H2 e2 => hb H2 (e.trans e2) _ fun H3 e3 => ⟨i, j, rfl, q H3 (e2.trans e3)⟩
/-- sum(xs[..]) of a list of ints made on the way -/
theorem ev_sumN {ns : List Int} (h : El K ta σ H (ns.map PyData.int)) : Ev (tCB (rSum K) (tCons ta tNil)) σ H (.int ns.sum) := fun H1 e Q q => h H1 e _ fun p xs H2 _ e2 hx f => by
  rw [fzl_ints.mp f] at hx
  exact ⟨p, ns, rfl, sq_of hx, q H2 e2⟩
theorem cutV_take {xs : List V} {n : Nat} : cutV xs none (some (n : Int)) = xs.take n := by
  unfold cutV
  rw [HT.sIx_none, show HT.sIx xs.length xs.length (some (n : Int)) = min n xs.length from HT.sIx_nat xs.length xs.length n, List.drop_zero, Nat.sub_zero]
  by_cases h : n ≤ xs.length
  · rw [Nat.min_eq_left h]
  · rw [Nat.min_eq_right (by omega), List.take_of_length_le (Nat.le_refl _), List.take_of_length_le (by omega)]
theorem cutV_all {xs : List V} : cutV xs none none = xs := by
  unfold cutV
  rw [HT.sIx_none, HT.sIx_none, List.drop_zero, Nat.sub_zero, List.take_of_length_le (Nat.le_refl _)]
theorem el_slice {p : Addr} {xs : List V} {tlo thi : TO} {lo hi : Option Int} (h : Ev ta σ H (.ref p)) (h1 : EvO tlo σ H lo) (h2 : EvO thi σ H hi) (hp : SqL K H p xs) (hf : FzL K H ds (cutV xs lo hi)) : El K (tSl (rSlL K) ta tlo thi) σ H ds := fun H1 e Q q =>
  el_sl h h1 h2 hp H1 e Q fun l H2 hl e2 hx => q l _ H2 hl e2 hx (fzl_ex (e.trans e2) hf)
theorem ev_val {te : TE} (h : Ev te σ H v) (e : v = x) : Ev te σ H x := e ▸ h
/-- a op1 b op2 c of ints -/
theorem ev_chain {p q : Int → Int → Bool} {i j k : Int} (ha : Ev ta σ H (.int i)) (hb : Ev tb σ H (.int j)) (hc : Ev tc σ H (.int k)) : Ev (tChain (rI0 fun i j => .bl (p i j)) (rI0 fun i j => .bl (q i j)) ta tb tc) σ H (.bl (p i j && q j k)) := fun H1 e Q z =>
  ha H1 e _ fun H2 e2 => hb H2 (e.trans e2) _ fun H3 e3 => ⟨i, j, rfl, rfl, p i j, rfl, by
    cases hp : p i j with
    | true =>
      rw [hp] at z
      refine iteT (hc H3 ((e.trans e2).trans e3) _ fun H4 e4 => ⟨j, k, rfl, rfl, ?_⟩)
      exact z H4 ((e2.trans e3).trans e4)
    | false =>
      rw [hp] at z
      exact iteF (z H3 (e2.trans e3))⟩
theorem ev_listRg {n : Nat} (h : Ev te σ H (.int (n : Int))) (hn : n ≤ 100000) : El K (tLstRg (tRg1 te)) σ H ((List.range n).map fun i : Nat => PyData.int (i : Int)) := fun H1 e Q q =>
  h H1 e _ fun H2 e2 => ⟨n, rfl, RgOk.of_le (by omega) (by omega) (by omega) (by omega), fun p hp => q p _ _ (fresh_back e2 hp) (e2.trans (Ex.new hp)) upd_same (by
    have ee : rgV 0 (n : Int) = vN (List.range n) := by
      unfold rgV vN
      rw [Int.sub_zero, Int.toNat_natCast]
      refine List.map_congr_left fun i _ => ?_
      rw [Int.zero_add]
    rw [ee]
    exact fzl_nats.mpr rfl)⟩
theorem ed_tupRg {n : Nat} (h : Ev te σ H (.int (n : Int))) (hn : n ≤ 100000) : Ed K (tTupRg (tRg1 te)) σ H (tN (List.range n)) := fun H1 e Q q =>
  h H1 e _ fun H2 e2 => ⟨n, rfl, RgOk.of_le (by omega) (by omega) (by omega) (by omega), fun p hp => q (.ref p) _ (e2.trans (Ex.new hp)) (by
    have ee : rgV 0 (n : Int) = vN (List.range n) := by
      unfold rgV vN
      rw [Int.sub_zero, Int.toNat_natCast]
      refine List.map_congr_left fun i _ => ?_
      rw [Int.zero_add]
    rw [ee]
    exact fz_tN.mpr ⟨p, rfl, .inl upd_same⟩)⟩
/-- isinstance(x, T), T a built-in class -/
theorem ev_isi {A T : String} {r : Bool} (h : Ev ta σ H x) (hx : ∀ H1, Ex H H1 → TyX K H1 x (.type A)) (hr : kitB A T = some r) : Ev (tCB (rIsi K) (tCons ta (tCons (tC (.ty T)) tNil))) σ H (.bl r) := fun H1 e Q q =>
  h H1 e _ fun H2 e2 => ⟨x, .ty T, .type A, .type T, r, rfl, .ty T, hx H2 (e.trans e2), kit_ty hr, q H2 e2⟩
theorem tyx_tup {a : Addr} {xs : List V} (h : SqT K H a xs) : TyX K H (.ref a) (.type "tuple") := by
  rcases h with (h | ⟨o, h⟩) | ⟨o, its, n, h1, h2, _⟩
  · exact .base (.tup h)
  · exact .fTuple h
  · exact .kTuple h1 h2
theorem ev_isiD {A T : String} {r : Bool} (h : Ed K ta σ H d) (hx : ∀ H1 v, Fz K H1 d v → TyX K H1 v (.type A)) (hr : kitB A T = some r) : Ev (tCB (rIsi K) (tCons ta (tCons (tC (.ty T)) tNil))) σ H (.bl r) := fun H1 e Q q =>
  h H1 e _ fun v H2 e2 f => ⟨v, .ty T, .type A, .type T, r, rfl, .ty T, hx H2 v f, kit_ty hr, q H2 e2⟩
theorem ev_isiT {T : String} {r : Bool} (h : Ed K ta σ H (.tuple ds)) (hr : kitB "tuple" T = some r) : Ev (tCB (rIsi K) (tCons ta (tCons (tC (.ty T)) tNil))) σ H (.bl r) :=
  ev_isiD h (fun H1 v f => by
    obtain ⟨a, xs, rfl, hs, _⟩ := fz_tupI f
    exact tyx_tup hs) hr
theorem ev_isiI {i : Int} {T : String} {r : Bool} (h : Ev ta σ H (.int i)) (hr : kitB "int" T = some r) : Ev (tCB (rIsi K) (tCons ta (tCons (tC (.ty T)) tNil))) σ H (.bl r) := ev_isi h (fun H1 _ => .base (.int i)) hr
theorem ev_isiB {i : Bool} {T : String} {r : Bool} (h : Ev ta σ H (.bl i)) (hr : kitB "bool" T = some r) : Ev (tCB (rIsi K) (tCons ta (tCons (tC (.ty T)) tNil))) σ H (.bl r) := ev_isi h (fun H1 _ => .base (.bl i)) hr
theorem ev_isiS {i : Str} {T : String} {r : Bool} (h : Ev ta σ H (.str i)) (hr : kitB "str" T = some r) : Ev (tCB (rIsi K) (tCons ta (tCons (tC (.ty T)) tNil))) σ H (.bl r) := ev_isi h (fun H1 _ => .base (.str i)) hr
/-- repr(d) -/
theorem ev_repr (h : Ed K ta σ H d) (hs : d.showable = true) (hd : d.depth ≤ 50) (hz : d.shown.length ≤ sizeLine) : Ev (tCB (rReprD K) (tCons ta tNil)) σ H (.str d.shown) := fun H1 e Q q => h H1 e _ fun v H2 e2 f => ⟨v, d, rfl, f, hs, hd, hz, q H2 e2⟩
/-- len(set(t)) of unlike naturals -/
theorem ev_lenSet {ns : List Int} (h : Ed K ta σ H (.tuple (ns.map PyData.int))) (hl : ns.length ≤ 1000) (c : Nat) (hc : ∀ l : List Int, l.Nodup → (∀ k, k ∈ l ↔ k ∈ ns) → l.length = c) : Ev (tLenSetT K ta) σ H (.int (c : Int)) := fun H1 e Q q => h H1 e _ fun v H2 e2 f => by
  obtain ⟨a, xs, rfl, hs, hf⟩ := fz_tupI f
  rw [fzl_ints.mp hf] at hs
  exact ⟨a, ns, rfl, hs, hl, fun l h1 h2 => by rw [hc l h1 h2]; exact q H2 e2⟩
theorem nodup_len {l m : List Int} (h1 : l.Nodup) (h2 : m.Nodup) (h : ∀ k, k ∈ l ↔ k ∈ m) : l.length = m.length := ((List.perm_ext_iff_of_nodup h1 h2).mpr h).length_eq
/-- t + u -/
theorem ed_catA (h : Ed K ta σ H (.tuple ds)) (k : Ed K tb σ H (.tuple es)) (hl : ds.length + es.length ≤ 100000) : Ed K (tOp (rCatA K) ta tb) σ H (.tuple (ds ++ es)) := fun H1 e Q q =>
  h H1 e _ fun v H2 e2 f => k H2 (e.trans e2) _ fun w H3 e3 g => by
    obtain ⟨a, xs, rfl, hs, hf⟩ := fz_tupS (fz_ex e3 f)
    obtain ⟨b, ys, rfl, hs', hf'⟩ := fz_tupS g
    refine ⟨a, b, xs, ys, rfl, rfl, hs.sq, hs'.sq, sz_of (by rw [fzl_len hf, fzl_len hf']; exact hl), fun h1 => ?_, fun _ h1 => ?_, fun _ _ p hp => ?_⟩
    · subst h1
      have := fzl_len hf
      have z : ds = [] := List.eq_nil_of_length_eq_zero this.symm
      subst z
      exact q _ H3 (e2.trans e3) (fz_at hs' hf')
    · subst h1
      have := fzl_len hf'
      have z : es = [] := List.eq_nil_of_length_eq_zero this.symm
      subst z
      exact q _ H3 (e2.trans e3) (by rw [List.append_nil]; exact fz_at hs hf)
    · exact q (.ref p) _ ((e2.trans e3).trans (Ex.new hp)) (fz_tup upd_same (fzl_ex (Ex.new hp) (fzl_append hf hf')))
/-- an assignment of something of a kind -/
theorem q_asgX {Dn : Ends} {tz : TS} {i : Nat} {P : V → Prop} (h : ∃ v, P v ∧ Ev te σ H v) (k : ∀ v, P v → ∀ H1, Ex H H1 → tz Dn (σ.set i (some v)) H1) : tSeq (tAsg te (gName i)) tz Dn σ H := by
  obtain ⟨v, p, e⟩ := h
  exact q_asg e (k v p)
theorem cMulL {i j : Int} (h : -(2 ^ 64) < i ∧ i < 2 ^ 64) : CMul i j := .inl h
theorem cMulR {i j : Int} (h : -(2 ^ 64) < j ∧ j < 2 ^ 64) : CMul i j := .inr h
theorem ints_take {ns : List Int} {n : Nat} : FzL K H ((ns.take n).map PyData.int) (cutV (ns.map V.int) none (some (n : Int))) := by
  rw [cutV_take, ← List.map_take]
  exact fzl_ints.mpr rfl
end
end WT
namespace WT
open PySem PySem.Spec PyProof.Rows L2 Evl
section
variable {K : PySem.W.Frag} {σ : L2.St} {H H' : Hp} {ta tb tc te tl : TE} {tr : TA} {t u tt : TT} {d e : PyData} {ds es : List PyData} {v x y : V}
theorem el_is (h : El K te σ H ds) (e : ds = es) : El K te σ H es := e ▸ h
theorem ea_is {as bs : List Ag} (h : Ea K tr σ H as) (e : as = bs) : Ea K tr σ H bs := e ▸ h
theorem elr_is {rs ss : List (List PyData)} (h : ElR K te σ H rs) (e : rs = ss) : ElR K te σ H ss := e ▸ h
theorem take_get {α : Type} {l : List α} {i : Nat} {x : α} (h : l[i]? = some x) : l.take (i + 1) = l.take i ++ [x] := by
  rw [List.take_succ, h]
  rfl
theorem get_of_len {α β : Type} {l : List α} {m : List β} {i : Nat} {x : α} (h : l[i]? = some x) (hl : m.length = l.length) : ∃ y, m[i]? = some y := by
  have := (List.getElem?_eq_some_iff.mp h).1
  exact ⟨m[i]'(by omega), List.getElem?_eq_getElem _⟩
/-- [e for x in t] -/
theorem el_mapT {j : Nat} {vs : List Nat} (h : Ed K tl σ H (.tuple ds)) (hn : ds.length ≤ 50000) (hl : es.length = ds.length) (hw : ∀ x, wipe ((wipe σ vs).set j (some x)) vs = wipe σ vs)
    (hs : ∀ (i : Nat) (x : V) d e H1, Ex H H1 → ds[i]? = some d → es[i]? = some e → Fz K H1 d x → Ed K te ((wipe σ vs).set j (some x)) H1 e) :
    El K (tLc (iTup K tl) (gName j) tYes te vs) σ H es := el_is (el_lcTd (out := fun i => es.take i) h rfl (fun i hi => by rw [List.length_take]; omega) hw fun i x d H1 e1 hd f => by
  obtain ⟨e, he⟩ := get_of_len hd hl
  exact turn_all et_yes (hs i x d e H1 e1 hd he f) (take_get he)) (by rw [List.take_of_length_le (by omega)])
/-- [e for x in xs] -/
theorem el_mapL {j : Nat} {vs : List Nat} {a : Addr} {xs : List V} (h : Ev tl σ H (.ref a)) (hx : SqL K H a xs) (hf : FzL K H ds xs) (hn : ds.length ≤ 50000) (hl : es.length = ds.length) (hw : ∀ x, wipe ((wipe σ vs).set j (some x)) vs = wipe σ vs)
    (hs : ∀ (i : Nat) (x : V) d e H1, Ex H H1 → ds[i]? = some d → es[i]? = some e → Fz K H1 d x → Ed K te ((wipe σ vs).set j (some x)) H1 e) :
    El K (tLc (iList K tl) (gName j) tYes te vs) σ H es := el_is (el_lcLd (out := fun i => es.take i) h hx hf rfl (fun i hi => by rw [List.length_take]; omega) hw fun i x d H1 e1 hd f => by
  obtain ⟨e, he⟩ := get_of_len hd hl
  exact turn_all et_yes (hs i x d e H1 e1 hd he f) (take_get he)) (by rw [List.take_of_length_le (by omega)])
theorem tN_get {ns : List Nat} {i : Nat} {d : PyData} (h : (ns.map fun n : Nat => PyData.int (n : Int))[i]? = some d) : ∃ n : Nat, ns[i]? = some n ∧ d = .int (n : Int) := by
  rw [List.getElem?_map] at h
  cases hn : ns[i]? with
  | none => rw [hn] at h; cases h
  | some n => rw [hn] at h; exact ⟨n, rfl, (Option.some.inj h).symm⟩
theorem map_get {α β : Type} {f : α → β} {l : List α} {i : Nat} {y : β} (h : (l.map f)[i]? = some y) : ∃ x, l[i]? = some x ∧ y = f x := by
  rw [List.getElem?_map] at h
  cases hn : l[i]? with
  | none => rw [hn] at h; cases h
  | some n => rw [hn] at h; exact ⟨n, rfl, (Option.some.inj h).symm⟩
end
section
variable {X : Cx} {K : PySem.W.Frag}
theorem oK {f : Value → Value → Sem Value} {r : PySem.W.Frag → R2} (h : OpR X f (r X.K)) (e : X.K = K) : OpR X f (r K) := e ▸ h
theorem cK {f : Value} {r : PySem.W.Frag → List V → Hp → VK → Prop} (h : CallR X f (r X.K)) (e : X.K = K) : CallR X f (r K) := e ▸ h
end
section
variable {σ : L2.St} {H : Hp} {te ta : TE} {tr : TA} {tz : TS} {Dn : Ends} {Q : VK}
theorem q_parM {i j : Nat} (h : tr σ H fun vs H1 => ∃ v w, vs = [v, w] ∧ tz Dn ((σ.set i (some v)).set j (some w)) H1) : tSeq (tPar i j tr) tz Dn σ H := h
theorem c_cons {R : List V → Hp → Prop} (h : te σ H fun x H1 => tr σ H1 fun xs H2 => R (x :: xs) H2) : tCons te tr σ H R := h
theorem c_nil {R : List V → Hp → Prop} (h : R [] H) : tNil σ H R := h
theorem c_cb {r : List V → Hp → VK → Prop} (h : tr σ H fun vs H1 => r vs H1 Q) : tCB r tr σ H Q := h
theorem c_op {r : R2} (h : te σ H fun x H1 => ta σ H1 fun y H2 => r x y H2 Q) : tOp r te ta σ H Q := h
theorem c_call {sp : Sp} {E : XK} (h : tr σ H fun vs H1 => sp vs H1 Q E) : tCall sp [] E tr σ H Q := by
  show tr σ H fun vs H1 => sp (vs ++ []) H1 Q E
  rw [show (fun vs H1 => sp (vs ++ []) H1 Q E) = fun vs H1 => sp vs H1 Q E from by funext vs H1; rw [List.append_nil]]
  exact h
theorem q_asgM {g : TG} (h : te σ H fun x H1 => g x σ H1 (tz Dn)) : tSeq (tAsg te g) tz Dn σ H := h
theorem s_asgM {g : TG} (h : te σ H fun x H1 => g x σ H1 Dn.nx) : tAsg te g Dn σ H := h
theorem q_dropM (h : te σ H fun _ H1 => tz Dn σ H1) : tSeq (tDrop te) tz Dn σ H := h
theorem s_retM (h : te σ H Dn.rt) : tRet te Dn σ H := h
end
end WT
namespace WT
open PySem PySem.Spec PyProof.Rows L2 Evl
section
variable {K : PySem.W.Frag} {σ : L2.St} {H H' : Hp} {ta tb tc te tl : TE} {tr : TA} {t u tt : TT} {d e : PyData} {ds es : List PyData} {v x y : V} {g : TG} {tu tz : TS} {Dn : Ends}
/-- for i, x in enumerate(xs), xs a list that stands -/
theorem s_forEnL {i j : Nat} {a : Addr} {xs : List V} (h : Ev tl σ H (.ref a)) (hx : SqL K H a xs) (k : ∀ H1, Ex H H1 → ∃ Pv : Nat → L2.St → Hp → Prop, Pv 0 σ H1 ∧ (∀ n σ' H', Pv n σ' H' → SqL K H' a xs) ∧
    (∀ n x σ' H' H'', xs[n]? = some x → Ex H' H'' → Pv n σ' H' → tu { Dn with nx := Pv (n + 1), ct := Pv (n + 1), bk := Dn.nx } ((σ'.set i (some (.int (n : Int)))).set j (some x)) H'') ∧
    ∀ σ' H', Pv xs.length σ' H' → Dn.nx σ' H') : tFor (iEnum K (tCons tl tNil)) (g2 K i j) tu Dn σ H :=
  h H (Ex.refl H) _ fun H1 e => by
    obtain ⟨Pv, h0, hT, hb, hd⟩ := k H1 e
    refine ⟨a, xs, rfl, ex_l e hx, for_it (walk_enum (xs := xs)) Pv h0 (fun n σ' H' _ p => hT n σ' H' p) (fun n v σ' H' H'' hn p hy => ?_) hd⟩
    obtain ⟨T, x, y, rfl, hT0, rfl, ex, ey⟩ := hy
    cases (Option.some.inj ex)
    exact g2_pair upd_same (hb n y σ' H' _ ey (Ex.new hT0) p)
theorem q_forEnL {i j : Nat} {a : Addr} {xs : List V} (h : Ev tl σ H (.ref a)) (hx : SqL K H a xs) (k : ∀ H1, Ex H H1 → ∃ Pv : Nat → L2.St → Hp → Prop, Pv 0 σ H1 ∧ (∀ n σ' H', Pv n σ' H' → SqL K H' a xs) ∧
    (∀ n x σ' H' H'', xs[n]? = some x → Ex H' H'' → Pv n σ' H' → tu { Dn with nx := Pv (n + 1), ct := Pv (n + 1), bk := tz Dn } ((σ'.set i (some (.int (n : Int)))).set j (some x)) H'') ∧
    ∀ σ' H', Pv xs.length σ' H' → tz Dn σ' H') : tSeq (tFor (iEnum K (tCons tl tNil)) (g2 K i j) tu) tz Dn σ H := s_forEnL (Dn := { Dn with nx := tz Dn }) h hx k
/-- a comprehension over a list that is made first -/
theorem c_lcList {vs : List Nat} {Q : VK} (h : tl σ H fun x H1 => ∃ a, x = .ref a ∧ tLc (iList K (tC (.ref a))) g tt te vs σ H1 Q) : tLc (iList K tl) g tt te vs σ H Q := by
  unfold tLc iList at h ⊢
  have e : (fun (x : V) (H1 : Hp) => ∃ a, x = V.ref a ∧ tC (.ref a) σ H1 fun x H1 => ∃ a, x = .ref a ∧ (∃ xs, SqL K H1 a xs) ∧ ∀ D, H1 D = none → ∃ W : Nat → Nat → Hp → Prop, (∃ m, W 0 m (upd H1 D (.lst []))) ∧ ∀ i m H, W i m H →
      ((Itl K a).stop i H ∧ Q (.ref D) H) ∨ ((Itl K a).go i H ∧ ∃ Nx : Hp → Prop, (∀ H', Nx H' → ∃ m', m' < m ∧ W (i + 1) m' H') ∧ ∀ x H', (Itl K a).yld i H x H' → g x (wipe σ vs) H' fun σ2 H2 => wipe σ2 vs = wipe σ vs ∧ tt σ2 H2 fun b H3 =>
        if b = true then te σ2 H3 fun y H4 => ∃ acc, H4 D = some (.lst acc) ∧ acc.length < sizeLine ∧ Nx (upd H4 D (.lst (acc ++ [y]))) else Nx H3)) =
    fun (x : V) (H1 : Hp) => ∃ a, x = .ref a ∧ (∃ xs, SqL K H1 a xs) ∧ ∀ D, H1 D = none → ∃ W : Nat → Nat → Hp → Prop, (∃ m, W 0 m (upd H1 D (.lst []))) ∧ ∀ i m H, W i m H →
      ((Itl K a).stop i H ∧ Q (.ref D) H) ∨ ((Itl K a).go i H ∧ ∃ Nx : Hp → Prop, (∀ H', Nx H' → ∃ m', m' < m ∧ W (i + 1) m' H') ∧ ∀ x H', (Itl K a).yld i H x H' → g x (wipe σ vs) H' fun σ2 H2 => wipe σ2 vs = wipe σ vs ∧ tt σ2 H2 fun b H3 =>
        if b = true then te σ2 H3 fun y H4 => ∃ acc, H4 D = some (.lst acc) ∧ acc.length < sizeLine ∧ Nx (upd H4 D (.lst (acc ++ [y]))) else Nx H3) := by
    funext x H1
    refine propext ⟨?_, ?_⟩
    · rintro ⟨a, rfl, b, hb, k⟩
      cases hb
      exact ⟨a, rfl, k⟩
    · rintro ⟨a, rfl, k⟩
      exact ⟨a, rfl, a, rfl, k⟩
  rw [e] at h
  exact h
theorem fzl_erase {ds : List PyData} {xs : List V} (h : FzL K H ds xs) (k : Nat) : FzL K H (ds.eraseIdx k) (xs.eraseIdx k) := by
  rw [List.eraseIdx_eq_take_drop_succ, List.eraseIdx_eq_take_drop_succ]
  exact fzl_append (fzl_take k h) (fzl_drop (k + 1) h)
end
theorem erase_perm {α : Type} : ∀ {l : List α} {k : Nat} {x : α}, l[k]? = some x → (x :: l.eraseIdx k).Perm l
  | [], _, _, h => by simp at h
  | y :: l, 0, x, h => by
    cases (Option.some.inj h)
    exact .refl _
  | y :: l, k + 1, x, h => (List.Perm.swap y x _).trans ((erase_perm (l := l) (k := k) (by simpa using h)).cons y)
/-- unlike naturals below m are at most m -/
theorem nd_le : ∀ {m : Nat} {l : List Nat}, l.Nodup → (∀ x ∈ l, x < m) → l.length ≤ m
  | 0, [], _, _ => Nat.le_refl _
  | 0, x :: _, _, h => absurd (h x List.mem_cons_self) (Nat.not_lt_zero _)
  | m + 1, l, nd, h => by
    by_cases hm : m ∈ l
    · have h1 := nd_le (m := m) (l := l.erase m) (nd.erase m) fun x hx => by
        have h2 := h x (List.mem_of_mem_erase hx)
        have h3 : x ≠ m := (nd.mem_erase_iff.mp hx).1
        omega
      rw [List.length_erase_of_mem hm] at h1
      omega
    · have h1 := nd_le (m := m) (l := l) nd fun x hx => by
        have h2 := h x hx
        have h3 : x ≠ m := fun z => hm (z ▸ hx)
        omega
      omega
/-- unlike naturals below m, m of them, are all of them -/
theorem perm_of {m : Nat} {l : List Nat} (nd : l.Nodup) (h : ∀ x ∈ l, x < m) (hl : l.length = m) : l.Perm (List.range m) := by
  refine (List.perm_ext_iff_of_nodup nd List.nodup_range).mpr fun x => ⟨fun hx => List.mem_range.mpr (h x hx), fun hx => ?_⟩
  by_cases hm : x ∈ l
  · exact hm
  · have h1 := nd_le (m := m) (l := x :: l) (List.nodup_cons.mpr ⟨hm, nd⟩) fun y hy => by
      rcases List.mem_cons.mp hy with z | z
      · exact z ▸ List.mem_range.mp hx
      · exact h y z
    rw [List.length_cons] at h1
    omega
section
variable {K : PySem.W.Frag} {σ : L2.St} {H : Hp} {te : TE} {tr : TA} {tz : TS} {Dn : Ends} {Q : VK}
theorem c_consX {P : V → Hp → Prop} {R : List V → Hp → Prop} (h : ∀ Q : VK, (∀ v H2, P v H2 → Q v H2) → te σ H Q) (k : ∀ v H2, P v H2 → tr σ H2 fun xs H3 => R (v :: xs) H3) : tCons te tr σ H R := h _ k
theorem q_asgMX {i : Nat} {P : V → Hp → Prop} (h : ∀ Q : VK, (∀ v H2, P v H2 → Q v H2) → te σ H Q) (k : ∀ v H2, P v H2 → tz Dn (σ.set i (some v)) H2) : tSeq (tAsg te (gName i)) tz Dn σ H := h _ k
theorem q_tupM {g : TG} (h : tr σ H fun vs H1 => vs.length ≤ sizeLine ∧ ∀ p, H1 p = none → g (.ref p) σ (upd H1 p (.tup vs)) (tz Dn)) : tSeq (tAsg (tTup tr) g) tz Dn σ H := h
theorem c_I0 {g : Int → Int → V} {i j : Int} {z : V} (e : g i j = z) (h : Q z H) : rI0 g (.int i) (.int j) H Q := ⟨i, j, rfl, rfl, e ▸ h⟩
theorem q_ifMX {tu tw : TS} {t : TT} (J : Hp → Prop) (h : ∀ Nx : L2.St → Hp → Prop, (∀ H2, J H2 → Nx σ H2) → t σ H fun b H1 => if b = true then tu { Dn with nx := Nx } σ H1 else tw { Dn with nx := Nx } σ H1) (k : ∀ H1, J H1 → tz Dn σ H1) : tSeq (tIfS t tu tw) tz Dn σ H := h _ k
theorem c_test {R : Bool → Hp → Prop} (h : te σ H fun v H1 => ∃ b, v = .bl b ∧ R b H1) : tTest te σ H R := h
end
section
variable {K : PySem.W.Frag} {σ : L2.St} {H : Hp} {te : TE} {tr : TA} {tu tz : TS} {Dn : Ends} {Q : VK} {t : TT}
/-- if c: .. ; what is so after it either way -/
theorem q_whenJ {b : Bool} (J : Hp → Prop) (h : EvT t σ H b) (h1 : b = true → ∀ H1, Ex H H1 → ∀ Nx : L2.St → Hp → Prop, (∀ H2, J H2 → Nx σ H2) → tu { Dn with nx := Nx } σ H1) (h2 : b = false → ∀ H1, Ex H H1 → J H1) (k : ∀ H1, J H1 → tz Dn σ H1) :
    tSeq (tIfS t tu tNext) tz Dn σ H := q_when h (fun hb H1 e => h1 hb H1 e _ k) fun hb H1 e => k H1 (h2 hb H1 e)
theorem s_whenJ {b : Bool} (J : Hp → Prop) (h : EvT t σ H b) (h1 : b = true → ∀ H1, Ex H H1 → ∀ Nx : L2.St → Hp → Prop, (∀ H2, J H2 → Nx σ H2) → tu { Dn with nx := Nx } σ H1) (h2 : b = false → ∀ H1, Ex H H1 → J H1) (k : ∀ H1, J H1 → Dn.nx σ H1) :
    tIfS t tu tNext Dn σ H := s_when h (fun hb H1 e => h1 hb H1 e _ k) fun hb H1 e => k H1 (h2 hb H1 e)
end
theorem room64 {k : Nat} {A : Around} (h : Room k A) : A.units + 64 < cLine := by have := h.un; omega
/-- data of naturals, and back -/
def gNat : PyData → Nat
  | .int i => i.toNat
  | _ => 0
theorem perm_ints {es rs : List PyData} {L : List Nat} (h : (es ++ rs).Perm (L.map fun n : Nat => PyData.int (n : Int))) : es = (es.map gNat).map (fun n : Nat => PyData.int (n : Int)) ∧ (es.map gNat ++ rs.map gNat).Perm L := by
  have hm : ∀ d ∈ es ++ rs, PyData.int ((gNat d : Nat) : Int) = d := fun d hd => by
    obtain ⟨n, _, rfl⟩ := List.mem_map.mp (h.subset hd)
    rfl
  refine ⟨?_, ?_⟩
  · rw [List.map_map]
    have : es.map ((fun n : Nat => PyData.int (n : Int)) ∘ gNat) = es.map id := List.map_congr_left fun d hd => hm d (List.mem_append_left _ hd)
    rw [this, List.map_id]
  · have h1 := h.map gNat
    rw [List.map_append, List.map_map] at h1
    have : L.map (gNat ∘ fun n : Nat => PyData.int (n : Int)) = L.map id := List.map_congr_left fun n _ => rfl
    rw [this, List.map_id] at h1
    exact h1
/-- a ring of places, each sent to the next -/
theorem cyc_perm {m : Nat} {ring F : List Nat} (nd : ring.Nodup) (hr : ∀ x ∈ ring, x < m) (hF : F.length = m) (h1 : ∀ i a, ring[i]? = some a → F[a]? = ring[(i + 1) % ring.length]?) (h2 : ∀ x, x < m → x ∉ ring → F[x]? = some x) : F.Perm (List.range m) := by
  have nx : ∀ i a, ring[i]? = some a → ∃ b, ring[(i + 1) % ring.length]? = some b ∧ F[a]? = some b := fun i a h => by
    have hi := (List.getElem?_eq_some_iff.mp h).1
    have hl : (i + 1) % ring.length < ring.length := Nat.mod_lt _ (by omega)
    exact ⟨_, List.getElem?_eq_getElem hl, by rw [h1 i a h, List.getElem?_eq_getElem hl]⟩
  refine perm_of ?_ ?_ hF
  · refine List.pairwise_iff_getElem.mpr fun i j hi0 hj hij e0 => ?_
    have e : F[i]? = F[j]? := by rw [List.getElem?_eq_getElem hi0, List.getElem?_eq_getElem hj, e0]
    by_cases hi : i ∈ ring
    · obtain ⟨a, ha⟩ := List.getElem?_of_mem hi
      obtain ⟨b, hb, hFb⟩ := nx a i ha
      by_cases hj2 : j ∈ ring
      · obtain ⟨c, hc⟩ := List.getElem?_of_mem hj2
        obtain ⟨d, hd, hFd⟩ := nx c j hc
        have hal := (List.getElem?_eq_some_iff.mp ha).1
        have hcl := (List.getElem?_eq_some_iff.mp hc).1
        rw [hFb, hFd] at e
        cases (Option.some.inj e)
        have e2 : (a + 1) % ring.length = (c + 1) % ring.length := by
          have p1 := (List.getElem?_eq_some_iff.mp hb).1
          exact (List.getElem?_inj p1 nd).mp (by rw [hb, hd])
        have e3 : a = c := by
          rcases Nat.lt_or_ge (a + 1) ring.length with q1 | q1
          · rcases Nat.lt_or_ge (c + 1) ring.length with q2 | q2
            · rw [Nat.mod_eq_of_lt q1, Nat.mod_eq_of_lt q2] at e2
              omega
            · have : c + 1 = ring.length := by omega
              rw [Nat.mod_eq_of_lt q1, this, Nat.mod_self] at e2
              omega
          · have : a + 1 = ring.length := by omega
            rw [this, Nat.mod_self] at e2
            rcases Nat.lt_or_ge (c + 1) ring.length with q2 | q2
            · rw [Nat.mod_eq_of_lt q2] at e2
              omega
            · omega
        subst e3
        rw [ha] at hc
        have := Option.some.inj hc
        omega
      · rw [hFb, h2 j (by omega) hj2] at e
        cases (Option.some.inj e)
        exact hj2 (List.mem_of_getElem? hb)
    · rw [h2 i (by omega) hi] at e
      by_cases hj2 : j ∈ ring
      · obtain ⟨c, hc⟩ := List.getElem?_of_mem hj2
        obtain ⟨d, hd, hFd⟩ := nx c j hc
        rw [hFd] at e
        cases (Option.some.inj e)
        exact hi (List.mem_of_getElem? hd)
      · rw [h2 j (by omega) hj2] at e
        have := Option.some.inj e
        omega
  · intro x hx
    obtain ⟨a, ha⟩ := List.getElem?_of_mem hx
    have hal := (List.getElem?_eq_some_iff.mp ha).1
    by_cases hm : a ∈ ring
    · obtain ⟨c, hc⟩ := List.getElem?_of_mem hm
      obtain ⟨d, hd, hFd⟩ := nx c a hc
      rw [ha] at hFd
      cases (Option.some.inj hFd)
      exact hr _ (List.mem_of_getElem? hd)
    · rw [h2 a (by omega) hm] at ha
      have := Option.some.inj ha
      omega
end WT
namespace WT
open PySem PySem.Spec PyProof.Rows L2 Evl
/-- n values by place, m by keyword; the i-th parameter is the one at q i of both, one list behind the other -/
def gKw (n m : Nat) (q : List Nat) {α : Type} (us ws : List α) : List α := if us.length = n ∧ ws.length = m then q.filterMap (fun i => (us ++ ws)[i]?) else []
theorem vals_app : ∀ {vs zs : List V} {us ws : List Value}, Vals vs us → Vals zs ws → Vals (vs ++ zs) (us ++ ws)
  | _, _, _, _, .nil, h => h
  | _, _, _, _, .cons r t, h => .cons r (vals_app t h)
theorem vals_none : ∀ {vs : List V} {us : List Value} {i : Nat}, Vals vs us → vs[i]? = none → us[i]? = none
  | _, _, _, .nil, _ => by simp
  | _, _, 0, .cons _ _, e => by simp at e
  | _, _, i + 1, .cons _ t, e => by
    have := vals_none (i := i) t (by simpa using e)
    simpa using this
theorem vals_some : ∀ {vs : List V} {us : List Value} {i : Nat} {v : V}, Vals vs us → vs[i]? = some v → ∃ u, us[i]? = some u ∧ RelV v u
  | _, _, _, _, .nil, e => by simp at e
  | _, _, 0, _, .cons r _, e => by
    cases (Option.some.inj e)
    exact ⟨_, rfl, r⟩
  | _, _, i + 1, _, .cons _ t, e => by
    obtain ⟨u, h1, h2⟩ := vals_some (i := i) t (by simpa using e)
    exact ⟨u, by simpa using h1, h2⟩
theorem vals_pick {vs : List V} {us : List Value} (h : Vals vs us) : ∀ q : List Nat, Vals (q.filterMap fun i => vs[i]?) (q.filterMap fun i => us[i]?)
  | [] => .nil
  | i :: q => by
    cases e : vs[i]? with
    | none =>
      rw [List.filterMap_cons_none e, List.filterMap_cons_none (vals_none h e)]
      exact vals_pick h q
    | some v =>
      obtain ⟨u, h1, h2⟩ := vals_some h e
      rw [List.filterMap_cons_some e, List.filterMap_cons_some h1]
      exact .cons h2 (vals_pick h q)
theorem gKw_rel {n m : Nat} {q : List Nat} {vs zs : List V} {us ws : List Value} (h : Vals vs us) (k : Vals zs ws) : Vals (gKw n m q vs zs) (gKw n m q us ws) := by
  unfold gKw
  rw [h.length, k.length]
  split
  · exact vals_pick (vals_app h k) q
  · exact .nil
theorem gKw_len {n m : Nat} {q : List Nat} {α : Type} {us ws : List α} {l : Nat} (h : (gKw n m q us ws).length = l + 1) : us.length = n ∧ ws.length = m := by
  unfold gKw at h
  split at h
  · assumption
  · cases h
section
variable {X : Cx} {k : Nat} {x : Str} {p pos : Pos} {tk : TA} {ps ks : List Str} {sp : Sp} {st : Stmt} {kws : List Keyword}
/-- f(k = b, ..) -/
theorem pe_fnK0 {g : List Value → List Value → List Value} {gV : List V → List V → List V} (o : Okd X.prog X.w X.K X.mg X.base x ps st k sp) (hr : Room k X.A) (hb : ∀ (f : Addr) (fd : FuncData), Fun X.K x x st f fd → KBinds X.K fd ps ks g gV) (hkw : PK X kws tk)
    (hall : (backToKw pos (keywordEach kws X.env)).all (·.1.isSome) = true := by rfl) (hks : (backToKw pos (keywordEach kws X.env)).filterMap (·.1) = ks := by rfl) (hg : Gl X x := by rfl)
    (hdb : (x == ("__debug__" : Str)) = false := by decide)
    (hpl : ((backTo pos (starEach [] X.env)).any (·.1) || (backToKw pos (keywordEach kws X.env)).any (·.1.isNone)) = false := by rfl) : PE X (.Call (.Name x p) [] kws pos) (tCallK sp gV E0 tNil tk) := by
  obtain ⟨f, fd, gm, F, b, G⟩ := o
  refine ⟨fun pins s σ H Q I h => ?_⟩
  refine wpAny_Call_Name_kw (ld_glob I hg gm ?_ hdb)
  refine PySem.W.callWith_KW0 (h₀ := X.base) I.ok.mod.kin F.kp hall (L2.thn (hkw.run pos pins s σ H _ I h) fun ws s2 ⟨zs, H2, I2, rz, q2⟩ => ⟨I2.kIn, ?_⟩) hpl
  rw [hks]
  exact run_fnk G hr (hb f fd F) pass0 I2 .nil rz q2
end
end WT
namespace WT
open PySem PySem.Spec PyProof.Rows L2 Evl
structure MethIn (K : PySem.W.Frag) (C : Addr) (m q : Str) (ps : List Str) (st : Stmt) : Prop where
  ex : ∃ (f : Addr) (fd : FuncData), Fun K m q st f fd ∧ Binds K fd ps [] ∧ Meth K C m f
/-- a method's promise, self among the arguments -/
def Okm (P : Program) (w : World) (K : PySem.W.Frag) (mg : Str → Option Value) (base : Heap) (C : Addr) (m : Str) (k : Nat) (sp : Sp) : Prop := ∃ f, Meth K C m f ∧ FnR P w K mg base CX0 k f sp
section
variable {P : Program} {w : World} {K : PySem.W.Frag} {mg : Str → Option Value} {base : Heap} {C : Addr}
theorem Okm.mk {m q : Str} {ps N : List Str} {st : Stmt} {k : Nat} {sp : Sp} (d : MethIn K C m q ps st) (S : FnScope N ps (defScope st)) (len : ∀ vs H Q E, sp vs H Q E → vs.length = ps.length)
    (h : ∀ (f : Addr) (cdv : Value) (A : Around) (outer : List Env) (s : Shared) (H : Hp) (vs : List V) (Q : VK) (E : XK), Room k (A.deeper (envOfC q (defScope st) s.heap.objs.size f cdv)) → sp vs H Q E →
      ∃ t, PSs (cxOf CX0 P w K mg base N q (defScope st) f cdv A outer s H E).nox (defBody st) t ∧ t { nx := fun _ H' => Q .non H', rt := Q } (start N vs) H) : Okm P w K mg base C m (k + 1) sp := by
  obtain ⟨f, fd, F, b, M⟩ := d.ex
  have G : FnOk P w K mg base CX0 (k + 1) f fd ps sp := F.ok S len fun cdv A outer s H vs Q E => h f cdv A outer s H vs Q E
  exact ⟨f, M, (G.raw b .nil).imp fun vs H Q E hs => by rw [List.append_nil]; exact hs⟩
theorem Okm.weak {m : Str} {k : Nat} {sp sp' : Sp} (o : Okm P w K mg base C m k sp) (h : ∀ vs H Q E, sp' vs H Q E → sp vs H Q E) : Okm P w K mg base C m k sp' := by
  obtain ⟨f, M, F⟩ := o
  exact ⟨f, M, F.imp h⟩
end
section
variable {K : PySem.W.Frag} {σ : L2.St} {H H' : Hp} {ta tb te tl : TE} {tr : TA} {tt : TT} {a C dx p : Addr} {vs : List (Option V)} {f : Str} {i : Nat} {v : V} {ds : List PyData}
theorem slt_ex (e : Ex H H') (h : SlX.Slt H a C dx vs) : SlX.Slt H' a C dx vs := by
  rcases h with ⟨h1, h2⟩ | ⟨h1, h2⟩
  · exact .inl ⟨e _ _ h1, h2⟩
  · exact .inr ⟨e _ _ h1, e _ _ h2⟩
end
end WT
namespace WT
open PySem PySem.Spec PyProof.Rows L2 Evl SX TL
def dgT (r : List Nat) : List Nat := joinL [32] (r.map numL)
def ringT (r : List Nat) : List Nat := 40 :: (dgT r ++ [41])
def ringsT (rs : List (List Nat)) : List Nat := (rs.map ringT).flatten
/-- a name -/
structure IsNm (n : List Nat) : Prop where
  pos : 1 ≤ n.length
  le : n.length ≤ 6
  let_ : ∀ c ∈ n, 97 ≤ c ∧ c ≤ 122
theorem IsNm.free {n : List Nat} (h : IsNm n) {c : Nat} (hc : c < 97) : c ∉ n := fun z => by have := h.let_ c z; omega
/-- the rings of a position -/
structure RingsOk (n : Nat) (t : List Nat) (rs : List (List Nat)) : Prop where
  two : ∀ r ∈ rs, 2 ≤ r.length
  nd : rs.flatten.Nodup
  lt : ∀ x ∈ rs.flatten, x < n
  on : ∀ r ∈ rs, ∀ i a, r[i]? = some a → t[a]? = r[(i + 1) % r.length]?
  off : ∀ x, x < n → x ∉ rs.flatten → t[x]? = some x
theorem ringsT_cons (r : List Nat) (rs : List (List Nat)) : ringsT (r :: rs) = 40 :: (dgT r ++ 41 :: ringsT rs) := by
  unfold ringsT ringT
  rw [List.map_cons, List.flatten_cons]
  simp
theorem numL_2 {n : Nat} (h : n < 100) : (numL n).length ≤ 2 := numL_len (k := 2) (by decide) h
theorem joinL_len (s : List Nat) (k : Nat) : ∀ ps : List (List Nat), (∀ p ∈ ps, p.length ≤ k) → (joinL s ps).length ≤ ps.length * (k + s.length)
  | [], _ => by simp [joinL]
  | [p], h => by
    have := h p List.mem_cons_self
    show p.length ≤ _
    simp
    omega
  | p :: q :: ps, h => by
    have h1 := h p List.mem_cons_self
    have ih := joinL_len s k (q :: ps) fun x hx => h x (List.mem_cons_of_mem _ hx)
    show (p ++ (s ++ joinL s (q :: ps))).length ≤ _
    rw [List.length_append, List.length_append, List.length_cons, Nat.succ_mul]
    omega
theorem dgT_len {r : List Nat} (h : ∀ x ∈ r, x < 100) : (dgT r).length ≤ r.length * 3 := by
  have := joinL_len [32] 2 (r.map numL) fun p hp => by
    obtain ⟨x, hx, rfl⟩ := List.mem_map.mp hp
    exact numL_2 (h x hx)
  rw [List.length_map] at this
  exact this
theorem ringsT_len : ∀ {rs : List (List Nat)}, (∀ x ∈ rs.flatten, x < 100) → (ringsT rs).length ≤ rs.length * 2 + rs.flatten.length * 3
  | [], _ => Nat.zero_le _
  | r :: rs, h => by
    rw [List.flatten_cons] at h
    have h1 := dgT_len (r := r) fun x hx => h x (List.mem_append.mpr (.inl hx))
    have ih := ringsT_len (rs := rs) fun x hx => h x (List.mem_append.mpr (.inr hx))
    rw [ringsT_cons, List.flatten_cons, List.length_append]
    simp only [List.length_cons, List.length_append]
    omega
theorem RingsOk.flat {n : Nat} {t : List Nat} {rs : List (List Nat)} (h : RingsOk n t rs) : rs.flatten.length ≤ n := nd_le h.nd h.lt
theorem RingsOk.few {n : Nat} {t : List Nat} {rs : List (List Nat)} (h : RingsOk n t rs) : rs.length ≤ n := by
  have h1 := h.flat
  have h2 : ∀ qs : List (List Nat), (∀ r ∈ qs, 2 ≤ r.length) → 2 * qs.length ≤ qs.flatten.length := fun qs => by
    induction qs with
    | nil => exact fun _ => Nat.le_refl _
    | cons q qs ih =>
      intro hq
      have := ih fun r hr => hq r (List.mem_cons_of_mem _ hr)
      have := hq q List.mem_cons_self
      rw [List.flatten_cons, List.length_append, List.length_cons]
      omega
  have := h2 rs h.two
  omega
theorem RingsOk.len {n : Nat} {t : List Nat} {rs : List (List Nat)} (h : RingsOk n t rs) (hn : n ≤ 100) : (ringsT rs).length ≤ 5 * n := by
  have h1 := h.flat
  have h2 := h.few
  have h3 := ringsT_len (rs := rs) fun x hx => by have := h.lt x hx; omega
  omega
end WT
namespace WT
open PySem PySem.Spec PyProof.Rows L2 Evl SX
abbrev rAddS : R2 := fun x y H Q => ∃ i j, x = .str i ∧ y = .str j ∧ i.length + j.length ≤ sizeLine ∧ Q (.str (i ++ j)) H
abbrev rStrI : List V → Hp → VK → Prop := fun xs H Q => ∃ i : Int, xs = [.int i] ∧ i.natAbs.log2 < 1920 ∧ Q (.str (toString i)) H
def sD (l : List Nat) : PyData := .str (S l)
end WT
namespace WT
open PySem PySem.Spec PyProof.Rows L2 Evl SX
structure PropFact (K : PySem.W.Frag) (C : Addr) (m : Str) (f : Addr) : Prop where
  ex : ∃ p : Addr, PySem.W.findIn K (.ref C) m = some (some (.ref p)) ∧ PySem.W.specialIn K (.ref p) "__get__" = some (some (.builtin "property.__get__")) ∧ PySem.W.takesIn K (.ref p) = some true ∧ ∃ rest, PySem.W.recIn K p "property" = some (.ref f :: rest)
structure PropIn (K : PySem.W.Frag) (C : Addr) (m q : Str) (st : Stmt) : Prop where
  ex : ∃ (f : Addr) (fd : FuncData), Fun K m q st f fd ∧ Binds K fd ["self"] [] ∧ PropFact K C m f
def Okp (P : Program) (w : World) (K : PySem.W.Frag) (mg : Str → Option Value) (base : Heap) (C : Addr) (m : Str) (k : Nat) (sp : Sp) : Prop := ∃ f, PropFact K C m f ∧ FnR P w K mg base CX0 k f sp
section
variable {P : Program} {w : World} {K : PySem.W.Frag} {mg : Str → Option Value} {base : Heap} {C : Addr}
theorem Okp.mk {m q : Str} {N : List Str} {st : Stmt} {k : Nat} {sp : Sp} (d : PropIn K C m q st) (S : FnScope N ["self"] (defScope st)) (len : ∀ vs H Q E, sp vs H Q E → vs.length = 1)
    (h : ∀ (f : Addr) (cdv : Value) (A : Around) (outer : List Env) (s : Shared) (H : Hp) (vs : List V) (Q : VK) (E : XK), Room k (A.deeper (envOfC q (defScope st) s.heap.objs.size f cdv)) → sp vs H Q E →
      ∃ t, PSs (cxOf CX0 P w K mg base N q (defScope st) f cdv A outer s H E).nox (defBody st) t ∧ t { nx := fun _ H' => Q .non H', rt := Q } (start N vs) H) : Okp P w K mg base C m (k + 1) sp := by
  obtain ⟨f, fd, F, b, M⟩ := d.ex
  have G : FnOk P w K mg base CX0 (k + 1) f fd ["self"] sp := F.ok S len fun cdv A outer s H vs Q E => h f cdv A outer s H vs Q E
  exact ⟨f, M, (G.raw b .nil).imp fun vs H Q E hs => by rw [List.append_nil]; exact hs⟩
end
end WT
namespace L2
open PySem PySem.Spec PyProof.Rows
section
variable {X : Cx}
def FrT (H : Hp) (a : Addr) (xs : List V) : Prop := ∃ o : Obj, o.dict = none ∧ H a = some (.frz o (.tup xs))
/-- tuple(a list), so known -/
def rTupOfF (K : PySem.W.Frag) : List V → Hp → VK → Prop := fun xs H Q => ∃ p ys, xs = [.ref p] ∧ SqL K H p ys ∧ ∀ l (o : Obj), o.dict = none → H l = none → Q (.ref l) (upd H l (.frz o (.tup ys)))
theorem call_tuple_ofF : CallR X (.type "tuple") (rTupOfF X.K) := by
  intro pins s σ H xs us Q I r h
  obtain ⟨p, ys, rfl, hq, q⟩ := h
  obtain ⟨u, rfl, rx⟩ := vals1 r
  cases rx
  obtain ⟨its, r', pl, hz⟩ := I.list hq
  have hlen := r'.length
  refine call_tuple_list pl.isList (fun h' kp => ?_) (by simp only [List.size_toArray] <;> omega)
  have I1 : Inv X pins σ H { s with heap := h' } := I.kept (t' := s.toks) kp
  have I2 : Inv X pins σ (upd H h'.objs.size (.frz { cls := .type "tuple", data := .seq its.toArray } (.tup ys))) { s with heap := h'.push { cls := .type "tuple", data := .seq its.toArray } } :=
    I1.laid (t' := s.toks) (fun b o e => Heap.get?_push_of_some _ e) (Nat.le_refl _) (show ObjOk X.prog X.w _ _ _ (.frz _ (.tup ys)) from ⟨Heap.get?_push_size _ rfl, hz, its, r', IsTup.new _ _⟩)
  exact ⟨.ref h'.objs.size, _, I2, rfl, q _ _ rfl (I1.hok.fresh (Nat.le_refl _))⟩
end
end L2
namespace WT
open PySem PySem.Spec PyProof.Rows L2 Evl SX
theorem _root_.L2.FrT.ex {H H' : Hp} {a : Addr} {xs : List V} (h : FrT H a xs) (e : Ex H H') : FrT H' a xs := by
  obtain ⟨o, h1, h2⟩ := h
  exact ⟨o, h1, e _ _ h2⟩
theorem _root_.L2.FrT.mono {H H' : Hp} {a : Addr} {xs : List V} (h : FrT H a xs) (e : TEx H H') : FrT H' a xs := by
  obtain ⟨o, h1, h2⟩ := h
  exact ⟨o, h1, e _ _ trivial h2⟩
theorem _root_.L2.FrT.at_ {a : Addr} {xs : List V} (h : FrT H a xs) : TupAt H a xs := .inr h
/-- all are known tuples -/
def FrL (H : Hp) (xs : List V) : Prop := ∀ v ∈ xs, ∃ p ys, v = .ref p ∧ FrT H p ys
theorem FrL.mono {H H' : Hp} {xs : List V} (h : FrL H xs) (e : TEx H H') : FrL H' xs := fun v hv => by
  obtain ⟨p, ys, h1, h2⟩ := h v hv
  exact ⟨p, ys, h1, h2.mono e⟩
theorem FrL.nil {H : Hp} : FrL H [] := fun v hv => by cases hv
theorem FrT.one {H : Hp} {p : Addr} {xs ys : List V} (h : FrT H p xs) (k : TupAt H p ys) : xs = ys := by
  obtain ⟨o, _, e⟩ := h
  rcases k with k | ⟨o2, _, k⟩
  · rw [e] at k
    cases k
  · rw [e] at k
    cases k
    rfl
end WT
namespace WT
open PySem PySem.Spec PyProof.Rows L2 Evl
def at2 (M : List (List Nat)) (i j : Nat) : Nat := (M.getD i []).getD j 0
structure Sq (k : Nat) (M : List (List Nat)) : Prop where
  len : M.length = k
  row : ∀ r ∈ M, r.length = k
def rNs (r : List Nat) : List PyData := r.map fun n : Nat => PyData.int (n : Int)
def rN (F : List (List Nat)) : List (List PyData) := F.map rNs
/-- the square in which the mark of (place i, place j) stands at (p i, p j) -/
def movedN (k : Nat) (M : List (List Nat)) (p : List Nat) : List (List Nat) := (List.range k).map fun a => (List.range k).map fun b => at2 M (p.idxOf a) (p.idxOf b)
theorem Sq.get {k : Nat} {M : List (List Nat)} (h : Sq k M) {i : Nat} (hi : i < k) : ∃ r, M[i]? = some r ∧ r.length = k ∧ M.getD i [] = r := by
  have hl := h.len
  have e : M[i]? = some (M[i]'(by omega)) := List.getElem?_eq_getElem _
  exact ⟨_, e, h.row _ (List.mem_of_getElem? e), by rw [List.getD_eq_getElem?_getD, e]; rfl⟩
theorem Sq.at {k : Nat} {M : List (List Nat)} (h : Sq k M) {i j : Nat} {r : List Nat} (hr : M[i]? = some r) (hj : j < k) : r[j]? = some (at2 M i j) := by
  have hrl := h.row r (List.mem_of_getElem? hr)
  unfold at2
  rw [List.getD_eq_getElem?_getD, List.getD_eq_getElem?_getD, hr, Option.getD_some, List.getElem?_eq_getElem (by omega : j < r.length)]
  rfl
theorem sq_ext {k : Nat} {M N : List (List Nat)} (h : Sq k M) (g : Sq k N) (e : ∀ i j, i < k → j < k → at2 M i j = at2 N i j) : M = N := by
  refine List.ext_getElem? fun i => ?_
  by_cases hi : i < k
  · obtain ⟨r, hr, hrl, _⟩ := h.get hi
    obtain ⟨s, hs, hsl, _⟩ := g.get hi
    rw [hr, hs]
    congr 1
    refine List.ext_getElem? fun j => ?_
    by_cases hj : j < k
    · rw [h.at hr hj, g.at hs hj, e i j hi hj]
    · rw [List.getElem?_eq_none (by omega), List.getElem?_eq_none (by omega)]
  · have h1 := h.len
    have g1 := g.len
    rw [List.getElem?_eq_none (by omega), List.getElem?_eq_none (by omega)]
theorem at2_tab {k : Nat} {f : Nat → Nat → Nat} {a b : Nat} (ha : a < k) (hb : b < k) : at2 ((List.range k).map fun a => (List.range k).map fun b => f a b) a b = f a b := by
  unfold at2
  simp [List.getD_eq_getElem?_getD, ha, hb]
theorem sq_tab {k : Nat} {f : Nat → Nat → Nat} : Sq k ((List.range k).map fun a => (List.range k).map fun b => f a b) := by
  refine ⟨by simp, fun r hr => ?_⟩
  obtain ⟨a, _, rfl⟩ := List.mem_map.mp hr
  simp
theorem moved_sq {k : Nat} {M : List (List Nat)} {p : List Nat} : Sq k (movedN k M p) := sq_tab
theorem perm_lt {k : Nat} {p : List Nat} (h : p.Perm (List.range k)) {i : Nat} {x : Nat} (e : p[i]? = some x) : x < k := List.mem_range.mp (h.subset (List.mem_of_getElem? e))
theorem perm_nd {k : Nat} {p : List Nat} (h : p.Perm (List.range k)) : p.Nodup := h.nodup_iff.mpr List.nodup_range
theorem perm_len {k : Nat} {p : List Nat} (h : p.Perm (List.range k)) : p.length = k := by rw [h.length_eq, List.length_range]
theorem idx_of_get {p : List Nat} (nd : p.Nodup) {i x : Nat} (e : p[i]? = some x) : p.idxOf x = i := by
  obtain ⟨hi, hx⟩ := List.getElem?_eq_some_iff.mp e
  rw [← hx]
  exact nd.idxOf_getElem i hi
theorem get_idx {p : List Nat} {x : Nat} (h : x ∈ p) : p[p.idxOf x]? = some x := by
  have hl := List.idxOf_lt_length_iff.mpr h
  rw [List.getElem?_eq_getElem hl, List.getElem_idxOf hl]
theorem moved_at {k : Nat} {M : List (List Nat)} {p : List Nat} (hp : p.Perm (List.range k)) {i j a b : Nat} (ha : p[i]? = some a) (hb : p[j]? = some b) : at2 (movedN k M p) a b = at2 M i j := by
  unfold movedN
  rw [at2_tab (perm_lt hp ha) (perm_lt hp hb), idx_of_get (perm_nd hp) ha, idx_of_get (perm_nd hp) hb]
/-- a square is what is moved when it has the marks -/
theorem moved_of {k : Nat} {M N : List (List Nat)} {p : List Nat} (hp : p.Perm (List.range k)) (hN : Sq k N) (h : ∀ i j a b, p[i]? = some a → p[j]? = some b → at2 N a b = at2 M i j) : movedN k M p = N := by
  refine sq_ext moved_sq hN fun a b ha hb => ?_
  have h1 := get_idx (hp.mem_iff.mpr (List.mem_range.mpr ha))
  have h2 := get_idx (hp.mem_iff.mpr (List.mem_range.mpr hb))
  rw [moved_at hp h1 h2, h _ _ _ _ h1 h2]
theorem at2_set {k : Nat} {F : List (List Nat)} (h : Sq k F) {a b x : Nat} {r : List Nat} (hr : F[a]? = some r) (hb : b < k) (c d : Nat) : at2 (F.set a (r.set b x)) c d = if c = a ∧ d = b then x else at2 F c d := by
  have ha := (List.getElem?_eq_some_iff.mp hr).1
  have hrl := h.row r (List.mem_of_getElem? hr)
  unfold at2
  rw [List.getD_eq_getElem?_getD, List.getD_eq_getElem?_getD, List.getD_eq_getElem?_getD, List.getD_eq_getElem?_getD, List.getElem?_set]
  by_cases hc : c = a
  · subst hc
    rw [if_pos rfl, if_pos ha, Option.getD_some, List.getElem?_set, hr, Option.getD_some]
    by_cases hd : d = b
    · subst hd
      rw [if_pos rfl, if_pos (by omega), if_pos ⟨rfl, rfl⟩, Option.getD_some]
    · rw [if_neg (fun z => hd z.symm), if_neg (fun z => hd z.2)]
  · rw [if_neg (fun z => hc z.symm), if_neg (fun z => hc z.1)]
theorem sq_set {k : Nat} {F : List (List Nat)} (h : Sq k F) {a b x : Nat} {r : List Nat} (hr : F[a]? = some r) : Sq k (F.set a (r.set b x)) := by
  refine ⟨by rw [List.length_set, h.len], fun s hs => ?_⟩
  rcases List.mem_or_eq_of_mem_set hs with z | z
  · exact h.row s z
  · rw [z, List.length_set]
    exact h.row r (List.mem_of_getElem? hr)
theorem rN_set {F : List (List Nat)} {a b x : Nat} {r : List Nat} : (rN F).set a ((rNs r).set b (.int (x : Int))) = rN (F.set a (r.set b x)) := by
  unfold rN rNs
  rw [List.map_set, List.map_set]
theorem rN_get {F : List (List Nat)} {a : Nat} {r : List Nat} (h : F[a]? = some r) : (rN F)[a]? = some (rNs r) := by
  unfold rN
  rw [List.getElem?_map, h]
  rfl
theorem sq_zero {k : Nat} : Sq k (List.replicate k (List.replicate k 0)) := ⟨by simp, fun r hr => by rw [List.eq_of_mem_replicate hr]; simp⟩
theorem tNN_rN {F : List (List Nat)} : tNN F = .tuple ((rN F).map PyData.tuple) := by
  unfold tNN rN
  rw [List.map_map]
  rfl
end WT
namespace WT
open PySem PySem.Spec PyProof.Rows L2 Evl
theorem snoc_ind {α : Type} {P : List α → Prop} (h0 : P []) (h1 : ∀ l a, P l → P (l ++ [a])) (l : List α) : P l := by
  have h : ∀ r : List α, P r.reverse := fun r => by
    induction r with
    | nil => exact h0
    | cons a r ih =>
      rw [List.reverse_cons]
      exact h1 _ _ ih
  have := h l.reverse
  rw [List.reverse_reverse] at this
  exact this
/-- the order of rows of naturals -/
def ltN (a b : List Nat) : Bool := HT.lexLt (a.map fun n : Nat => (n : Int)) (b.map fun n : Nat => (n : Int))
theorem ltN_nil (a : List Nat) : ltN a [] = false := by cases a <;> rfl
theorem ltN_cons (a b : Nat) (r s : List Nat) : ltN (a :: r) (b :: s) = (decide (a < b) || (decide (a = b) && ltN r s)) := by
  show HT.lexLt ((a : Int) :: _) ((b : Int) :: _) = _
  rw [HT.lexLt_cons]
  by_cases e : a = b
  · subst e
    rw [if_pos rfl]
    simp [ltN]
  · rw [if_neg (show ¬ (a : Int) = (b : Int) by omega)]
    have e1 : decide ((a : Int) < (b : Int)) = decide (a < b) := decide_eq_decide.mpr (by omega)
    rw [e1]
    simp [e]
theorem ltN_irr : ∀ a : List Nat, ltN a a = false
  | [] => rfl
  | a :: r => by rw [ltN_cons, ltN_irr r]; simp
theorem ltN_trans : ∀ {a b c : List Nat}, ltN a b = true → ltN b c = true → ltN a c = true
  | a, b, [], _, h => by rw [ltN_nil] at h; cases h
  | [], _, c :: t, _, _ => rfl
  | a :: r, [], c :: t, h, _ => by rw [ltN_nil] at h; cases h
  | a :: r, b :: s, c :: t, h, k => by
    rw [ltN_cons] at h k ⊢
    simp only [Bool.or_eq_true, Bool.and_eq_true, decide_eq_true_eq] at h k ⊢
    rcases h with h | ⟨h1, h2⟩
    · rcases k with k | ⟨k1, k2⟩
      · exact .inl (by omega)
      · exact .inl (by omega)
    · rcases k with k | ⟨k1, k2⟩
      · exact .inl (by omega)
      · exact .inr ⟨by omega, ltN_trans h2 k2⟩
/-- what a place p tells, after the places o -/
def tells (M : List (List Nat)) (o : List Nat) (p : Nat) : List Nat := (o.flatMap fun c => [at2 M p c, at2 M c p]) ++ [at2 M p p]
/-- the places not chosen -/
def rest (k : Nat) (o : List Nat) : List Nat := (List.range k).filter fun p => !decide (p ∈ o)
theorem mem_rest {k p : Nat} {o : List Nat} : p ∈ rest k o ↔ p < k ∧ p ∉ o := by
  unfold rest
  rw [List.mem_filter, List.mem_range]
  simp
/-- an order of t places -/
structure Ord (k t : Nat) (o : List Nat) : Prop where
  len : o.length = t
  nd : o.Nodup
  lt : ∀ x ∈ o, x < k
theorem tells_len (M : List (List Nat)) (o : List Nat) (p : Nat) : (tells M o p).length = 2 * o.length + 1 := by
  unfold tells
  rw [List.length_append]
  congr 1
  induction o with
  | nil => rfl
  | cons a o ih =>
    rw [List.flatMap_cons, List.length_append, ih]
    simp
    omega
end WT
namespace WT
open PySem PySem.Spec PyProof.Rows L2 Evl
def invN (k : Nat) (o : List Nat) : List Nat := (List.range k).map fun x => o.idxOf x
theorem tab_get {k : Nat} {f : Nat → Nat} {x : Nat} (h : x < k) : ((List.range k).map f)[x]? = some (f x) := by
  rw [List.getElem?_map, List.getElem?_range h]
  rfl
theorem tab_of {k : Nat} {f : Nat → Nat} {F : List Nat} (hl : F.length = k) (h : ∀ x, x < k → F[x]? = some (f x)) : F = (List.range k).map f := by
  refine List.ext_getElem? fun x => ?_
  by_cases hx : x < k
  · rw [h x hx, tab_get hx]
  · rw [List.getElem?_eq_none (by omega), List.getElem?_eq_none (by rw [List.length_map, List.length_range]; omega)]
theorem tab_perm {k : Nat} {f : Nat → Nat} (h1 : ∀ x, x < k → f x < k) (h2 : ∀ x y, x < k → y < k → f x = f y → x = y) : ((List.range k).map f).Perm (List.range k) := by
  refine perm_of ?_ ?_ (by rw [List.length_map, List.length_range])
  · refine List.pairwise_iff_getElem.mpr fun i j hi hj hij e => ?_
    rw [List.length_map, List.length_range] at hi hj
    simp at e
    have := h2 i j hi hj e
    omega
  · intro x hx
    obtain ⟨y, hy, rfl⟩ := List.mem_map.mp hx
    exact h1 y (List.mem_range.mp hy)
theorem idx_lt {k : Nat} {o : List Nat} (h : o.Perm (List.range k)) {x : Nat} (hx : x < k) : o.idxOf x < k ∧ o[o.idxOf x]? = some x := by
  have h1 := get_idx (h.mem_iff.mpr (List.mem_range.mpr hx))
  have h2 := (List.getElem?_eq_some_iff.mp h1).1
  have h3 := perm_len h
  exact ⟨by omega, h1⟩
theorem inv_perm {k : Nat} {o : List Nat} (h : o.Perm (List.range k)) : (invN k o).Perm (List.range k) := by
  refine tab_perm (fun x hx => (idx_lt h hx).1) fun x y hx hy e => ?_
  have h1 := (idx_lt h hx).2
  have h2 := (idx_lt h hy).2
  rw [e, h2] at h1
  exact (Option.some.inj h1).symm
end WT
namespace WT
/-- powers, by squaring -/
def pm (m : Nat) : Nat → Nat → Nat → Nat
  | 0, _, _ => 1 % m
  | f + 1, b, e => if e = 0 then 1 % m else if e % 2 = 0 then pm m f (b * b % m) (e / 2) else b * pm m f (b * b % m) (e / 2) % m
def bigM : Nat := 2305843009213693907
def prN (j : Nat) : Nat := if j = 0 then 2147483647 else if j = 1 then 2147483629 else if j = 2 then 2147483587 else if j = 3 then 2147483579 else 2147483563
theorem prN_lt (j : Nat) : prN j < 2 ^ 31 ∧ 2147483562 < prN j := by
  unfold prN
  split
  · decide
  split
  · decide
  split
  · decide
  split <;> decide
end WT
namespace WT
def isL (a v : Nat) : Bool := decide (v / 211 % 26 = a)
def blk (a : Nat) : Nat := Nat.rec (motive := fun _ => Nat) 0 (fun n r => r + if isL a n then 1 else 0) 5486
@[irreducible] def blendN (A k : Nat) : Nat := (A + 91199 * k * k + 2477) ^ 3 % prN (k % 5)
@[irreducible] def mixN (A k : Nat) : Nat := blendN A k * (blendN A k % 12659 + 397 * k) % bigM / 211
theorem blendN_lt (A k : Nat) : blendN A k < 2 ^ 31 := by
  unfold blendN
  exact Nat.lt_trans (Nat.mod_lt _ (by have := (prN_lt (k % 5)).2; omega)) (prN_lt _).1
end WT
namespace WT
open PySem PySem.Spec PyProof.Rows L2 Evl
/-- the pot: what is left of the cell's own digits, the mixed number, how many were taken (at most n) -/
def PotS (H : Hp) (p : Addr) (a b c : Nat) : Prop := H p = some (.lst [.int (a : Int), .int (b : Int), .int (c : Int)]) ∧ b < 2 ^ 61
def PotAt (H : Hp) (p : Addr) (n : Nat) : Prop := ∃ a b c : Nat, PotS H p a b c ∧ c ≤ n
theorem PotS.ex {H H' : Hp} {p : Addr} {a b c : Nat} (h : PotS H p a b c) (e : Ex H H') : PotS H' p a b c := ⟨e _ _ h.1, h.2⟩
theorem PotS.at {H : Hp} {p : Addr} {a b c n : Nat} (h : PotS H p a b c) (hn : c ≤ n) : PotAt H p n := ⟨a, b, c, h, hn⟩
theorem PotAt.obj {H : Hp} {p : Addr} {n : Nat} (h : PotAt H p n) : ∃ xs, H p = some (.lst xs) := by
  obtain ⟨a, b, c, h, _⟩ := h
  exact ⟨_, h.1⟩
/-- all but one object is as it was -/
def But (p : Addr) (H H' : Hp) : Prop := ∀ q o, q ≠ p → H q = some o → H' q = some o
theorem But.refl (p : Addr) (H : Hp) : But p H H := fun _ _ _ h => h
theorem But.trans {p : Addr} {H H1 H2 : Hp} (a : But p H H1) (b : But p H1 H2) : But p H H2 := fun q o n h => b q o n (a q o n h)
theorem But.of {p : Addr} {H H' : Hp} (e : Ex H H') : But p H H' := fun q o _ h => e q o h
theorem But.put {p : Addr} {H : Hp} {o : HO} : But p H (upd H p o) := fun q u n h => by rw [upd_ne n]; exact h
theorem PotAt.ex {H H' : Hp} {p : Addr} {n : Nat} (h : PotAt H p n) (e : Ex H H') : PotAt H' p n := by
  obtain ⟨a, b, c, h1, h2⟩ := h
  exact ⟨a, b, c, h1.ex e, h2⟩
theorem PotAt.le {H : Hp} {p : Addr} {n m : Nat} (h : PotAt H p n) (e : n ≤ m) : PotAt H p m := by
  obtain ⟨a, b, c, h1, h2⟩ := h
  exact ⟨a, b, c, h1, Nat.le_trans h2 e⟩
theorem PotAt.but {H H' : Hp} {p q : Addr} {n : Nat} (h : PotAt H p n) (e : But q H H') (hn : p ≠ q) : PotAt H' p n := by
  obtain ⟨a, b, c, h1, h2⟩ := h
  exact ⟨a, b, c, ⟨e _ _ hn h1.1, h1.2⟩, h2⟩
theorem tex_but {p : Addr} {H H' : Hp} {xs : List V} (e : But p H H') (h : H p = some (.lst xs)) : TEx H H' := fun a u t r => by
  have n : a ≠ p := fun z => by
    subst z
    rw [h] at r
    cases r
    exact t
  exact e _ _ n r
theorem PotAt.tex {p : Addr} {H H' : Hp} {n : Nat} (h : PotAt H p n) (e : But p H H') : TEx H H' := by
  obtain ⟨xs, h1⟩ := h.obj
  exact tex_but e h1
/-- fresh ahead is fresh before -/
theorem But.fresh {p q : Addr} {H H' : Hp} (e : But p H H') (h : H' q = none) (n : q ≠ p) : H q = none := by
  cases z : H q with
  | none => rfl
  | some o =>
    rw [e q o n z] at h
    cases h
def spPot (K : PySem.W.Frag) : Sp := fun vs H Q _ => ∃ (a : Addr) (ns : List Int) (i : Nat), vs = [.ref a, .int (i : Int)] ∧ SqL K H a (ns.map V.int) ∧ ns.length ≤ 63 ∧ i < 1000 ∧ ∀ p H', H p = none → Ex H H' → PotAt H' p 0 → Q (.ref p) H'
/-- what is drawn -/
def drawN (a b c u : Nat) : Nat := if 0 < a then a % u else mixN b (c + 1) % u
def nextC (a c : Nat) : Nat := if 0 < a then c else c + 1
/-- a draw, exactly -/
def spTakeX : Sp := fun vs H Q _ => ∃ (p : Addr) (a b c u : Nat), vs = [.ref p, .int (u : Int)] ∧ PotS H p a b c ∧ c < 2 ^ 240 ∧ 0 < u ∧ u < 1073741824 ∧ ∀ H', But p H H' → PotS H' p (a / u) b (nextC a c) → Q (.int (drawN a b c u : Int)) H'
def spTake : Sp := fun vs H Q _ => ∃ (p : Addr) (n u : Nat), vs = [.ref p, .int (u : Int)] ∧ PotAt H p n ∧ n < 2 ^ 240 ∧ 0 < u ∧ u < 1073741824 ∧ ∀ (d : Nat) H', d < u → But p H H' → PotAt H' p (n + 1) → Q (.int (d : Int)) H'
section
variable {P : Program} {w : World} {K : PySem.W.Frag} {mg : Str → Option Value} {base : Heap}
theorem bits_le {i : Int} {n : Nat} (h : i.natAbs < 2 ^ n) (hn : 0 < n) : Builtin.Int.intBits i ≤ n := by
  unfold Builtin.Int.intBits
  split
  · exact Nat.zero_le _
  · have := PySem.Flt.log2_lt_of hn h
    omega
end
/-- what a def answers to arguments of a kind: frozen data -/
def spD (K : PySem.W.Frag) (n : Nat) (R : List Ag → PyData → Prop) : Sp := fun vs H Q _ => ∃ as d, as.length = n ∧ AgL K H as vs ∧ R as d ∧ ∀ v H', Ex H H' → Fz K H' d v → Q v H'
theorem pr_D {K : PySem.W.Frag} {n : Nat} {R : List Ag → PyData → Prop} {as : List Ag} {H : Hp} {d : PyData} (h : R as d) (hl : as.length = n := by rfl) : Pr K (spD K n R) as H d := fun H1 _ vs hv Q q E => ⟨as, d, hl, hv, h, q⟩
theorem spD_len {K : PySem.W.Frag} {n : Nat} {R : List Ag → PyData → Prop} {vs : List V} {H : Hp} {Q : VK} {E : XK} (h : spD K n R vs H Q E) : vs.length = n := by
  obtain ⟨as, d, h1, h2, _⟩ := h
  rw [agl_len h2, h1]
theorem agl1 {K : PySem.W.Frag} {H : Hp} {a : Ag} {vs : List V} (h : AgL K H [a] vs) : ∃ x, vs = [x] ∧ AgO K H a x := by
  obtain ⟨x, r, rfl, hx, hr⟩ := h
  exact ⟨x, by rw [show r = [] from hr], hx⟩
theorem agl2 {K : PySem.W.Frag} {H : Hp} {a b : Ag} {vs : List V} (h : AgL K H [a, b] vs) : ∃ x y, vs = [x, y] ∧ AgO K H a x ∧ AgO K H b y := by
  obtain ⟨x, r, rfl, hx, hr⟩ := h
  obtain ⟨y, rfl, hy⟩ := agl1 hr
  exact ⟨x, y, rfl, hx, hy⟩
theorem agl3 {K : PySem.W.Frag} {H : Hp} {a b c : Ag} {vs : List V} (h : AgL K H [a, b, c] vs) : ∃ x y z, vs = [x, y, z] ∧ AgO K H a x ∧ AgO K H b y ∧ AgO K H c z := by
  obtain ⟨x, r, rfl, hx, hr⟩ := h
  obtain ⟨y, z, rfl, hy, hz⟩ := agl2 hr
  exact ⟨x, y, z, rfl, hx, hy, hz⟩
theorem agd {K : PySem.W.Frag} {H : Hp} {d : PyData} {y : V} (h : AgO K H (.d d) y) : Fz K H d y := h
/-- a picture: a square of marks -/
structure Pic (k : Nat) (M : List (List Nat)) : Prop where
  pos : 1 ≤ k
  le : k ≤ 5
  len : M.length = k
  row : ∀ r ∈ M, r.length = k
  mark : ∀ r ∈ M, ∀ x ∈ r, x ≤ 2
def rIsInt (as : List Ag) (d : PyData) : Prop := ∃ i lo hi : Int, as = [.v (.int i), .v (.int lo), .v (.int hi)] ∧ d = .bool (decide (lo ≤ i) && decide (i ≤ hi))
theorem Pic.sq {k : Nat} {M : List (List Nat)} (h : Pic k M) : Sq k M := ⟨h.len, h.row⟩
theorem But.mut {p r : Addr} {H H' : Hp} {o : HO} (e : But p H H') (h : H r = none) : But p H (upd H' r o) := fun q u n hq => by
  have nr : q ≠ r := fun z => by
    rw [z, h] at hq
    cases hq
  rw [upd_ne nr]
  exact e q u n hq
theorem But.ex {p : Addr} {H H1 H2 : Hp} (e : But p H H1) (x : Ex H1 H2) : But p H H2 := e.trans (But.of x)
theorem But.lst {p r : Addr} {H H' : Hp} {xs : List V} {n : Nat} (e : But p H H') (hP : PotAt H' p n) (h : H r = some (.lst xs)) (hr : r ≠ p) : H' r = some (.lst xs) := e _ _ hr h
theorem fresh_ne {H : Hp} {p r : Addr} {n : Nat} (hP : PotAt H p n) (h : H r = none) : r ≠ p := fun z => by
  obtain ⟨_, h1⟩ := hP.obj
  rw [z, h1] at h
  cases h
theorem x_take {σ : L2.St} {H : Hp} {ta tb : TE} {p : Addr} {n u : Nat} {Q : VK} (ha : Ev ta σ H (.ref p)) (hb : Ev tb σ H (.int (u : Int))) (hP : PotAt H p n) (hn : n < 2 ^ 240) (h0 : 0 < u) (h1 : u < 1073741824)
    (k : ∀ (d : Nat) H', d < u → But p H H' → PotAt H' p (n + 1) → Q (.int (d : Int)) H') : tCall spTake [] E0 (tCons ta (tCons tb tNil)) σ H Q :=
  ha H (Ex.refl H) _ fun H1 e1 => hb H1 e1 _ fun H2 e2 => ⟨p, n, u, rfl, hP.ex (e1.trans e2), hn, h0, h1, fun d H' hd e hP' => k d H' hd ((But.of (e1.trans e2)).trans e) hP'⟩
/-- a new list of some of the pool's, each once -/
def spSome (K : PySem.W.Frag) : Sp := fun vs H Q _ => ∃ (p q : Addr) (n many : Nat) (ds : List PyData) (xs : List V), vs = [.ref p, .ref q, .int (many : Int)] ∧ PotAt H p n ∧ n + many < 2 ^ 240 ∧ SqL K H q xs ∧ FzL K H ds xs ∧ many ≤ ds.length ∧ ds.length ≤ 1000 ∧
  ∀ r H' es ys rs, H r = none → But p H H' → PotAt H' p (n + many) → H' r = some (.lst ys) → FzL K H' es ys → es.length = many → (es ++ rs).Perm ds → Q (.ref r) H'
def Mk (F : List (List Nat)) : Prop := ∀ r ∈ F, ∀ x ∈ r, x ≤ 2
theorem mk_set {F : List (List Nat)} (h : Mk F) {a b x : Nat} {r : List Nat} (hr : F[a]? = some r) (hx : x ≤ 2) : Mk (F.set a (r.set b x)) := fun s hs y hy => by
  rcases List.mem_or_eq_of_mem_set hs with z | z
  · exact h s z y hy
  · subst z
    rcases List.mem_or_eq_of_mem_set hy with z | z
    · exact h r (List.mem_of_getElem? hr) y z
    · exact z ▸ hx
theorem mk_zero {k : Nat} : Mk (List.replicate k (List.replicate k 0)) := fun r hr x hx => by
  rw [List.eq_of_mem_replicate hr] at hx
  rw [List.eq_of_mem_replicate hx]
  exact Nat.zero_le _
theorem rN_zero {m : Nat} : rN (List.replicate m (List.replicate m 0)) = List.replicate m (List.replicate m (.int 0)) := by
  unfold rN rNs
  rw [List.map_replicate, List.map_replicate]
  rfl
theorem rNs_len (r : List Nat) : (rNs r).length = r.length := by
  unfold rNs
  rw [List.length_map]
/-- tuple([tuple(row) for row in rows]) -/
theorem ed_tupRows {K : PySem.W.Frag} {σ : L2.St} {H : Hp} {tl : TE} {j : Nat} {vs : List Nat} {p : Addr} {ps : List Addr} {F : List (List Nat)} (h : Ev tl σ H (.ref p)) (R : RowsP K H p ps (rN F)) (hF : F.length ≤ 1000) (hw : ∀ x, wipe ((wipe σ vs).set j (some x)) vs = wipe σ vs)
    (hv : ∀ q : V, ((wipe σ vs).set j (some q))[j]? = some (some q)) : Ed K (tCB (rTupOf K) (tCons (tLc (iList K tl) (gName j) tYes (tCB (rTupOf K) (tCons (tVar j) tNil)) vs) tNil)) σ H (tNN F) := by
  rw [tNN_rN]
  have hFl : (rN F).length = F.length := by
    unfold rN
    rw [List.length_map]
  refine ed_tupOf (el_is (el_lcRows (out := fun i => ((rN F).map PyData.tuple).take i) h R rfl (fun i hi => ?_) hw fun i q2 xs r H4 e4 hr hx hf => ⟨.tuple r, ed_tupOfL (ev_var (hv _)) (sq_of hx) hf, take_get (by rw [List.getElem?_map, hr]; rfl)⟩) (by rw [List.take_of_length_le (by rw [List.length_map]; exact Nat.le_refl _)]))
  rw [List.length_take]
  omega
section
variable {K : PySem.W.Frag} {σ : L2.St} {H : Hp} {ta tb tc te : TE}
theorem rNs_get {r : List Nat} {j x : Nat} (h : r[j]? = some x) : (rNs r)[j]? = some (.int (x : Int)) := by
  unfold rNs
  rw [List.getElem?_map, h]
  rfl
theorem ed_at2 {k i j : Nat} {M : List (List Nat)} (hM : Sq k M) (h : Ed K ta σ H (tNN M)) (hi : Ev tb σ H (.int (i : Int))) (hj : Ev tc σ H (.int (j : Int))) (hik : i < k) (hjk : j < k) : Ed K (tOp (rIxT K) (tOp (rIxT K) ta tb) tc) σ H (.int ((at2 M i j : Nat) : Int)) := by
  obtain ⟨r, hr, hrl, _⟩ := hM.get hik
  exact ed_ixT (ed_ixT h hi (show (M.map tN)[i]? = some (tN r) by rw [List.getElem?_map, hr]; rfl)) hj (rNs_get (hM.at hr hjk))
end
section
variable {P : Program} {w : World} {K : PySem.W.Frag} {mg : Str → Option Value} {base : Heap}
def bD : Option (List Nat) → PyData
  | none => .none
  | some b => tN b
end
theorem tN_e (r : List Nat) : tN r = .tuple (rNs r) := rfl
def everyN (k : Nat) : Nat → List (List Nat)
  | 0 => [[]]
  | t + 1 => (everyN k t).flatMap fun o => (rest k o).map fun x => o ++ [x]
theorem mem_every {k : Nat} : ∀ {t : Nat} {o : List Nat}, o ∈ everyN k t ↔ Ord k t o
  | 0, o => by
    unfold everyN
    rw [List.mem_singleton]
    exact ⟨fun h => by rw [h]; exact ⟨rfl, List.nodup_nil, fun x hx => by cases hx⟩, fun h => List.eq_nil_of_length_eq_zero h.len⟩
  | t + 1, o => by
    unfold everyN
    rw [List.mem_flatMap]
    constructor
    · rintro ⟨o1, ho1, h⟩
      obtain ⟨x, hx, rfl⟩ := List.mem_map.mp h
      obtain ⟨hxk, hxo⟩ := mem_rest.mp hx
      have O := mem_every.mp ho1
      refine ⟨by simp [O.len], ?_, fun y hy => ?_⟩
      · rw [List.nodup_append]
        exact ⟨O.nd, by simp, fun a ha b hb => by rw [List.mem_singleton.mp hb]; exact fun z => hxo (z ▸ ha)⟩
      · rcases List.mem_append.mp hy with z | z
        · exact O.lt y z
        · rw [List.mem_singleton.mp z]
          exact hxk
    · intro O
      have hne : o ≠ [] := fun z => by
        have := O.len
        rw [z] at this
        simp at this
      have e := List.dropLast_concat_getLast hne
      have nd := O.nd
      rw [← e, List.nodup_append] at nd
      refine ⟨o.dropLast, mem_every.mpr ⟨by rw [List.length_dropLast, O.len]; rfl, nd.1, fun y hy => O.lt y ((List.dropLast_prefix o).subset hy)⟩, List.mem_map.mpr ⟨o.getLast hne, mem_rest.mpr ⟨O.lt _ (List.getLast_mem hne), fun z => nd.2.2 _ z _ (List.mem_singleton.mpr rfl) rfl⟩, e⟩⟩
def rBool2 (as : List Ag) (d : PyData) : Prop := ∃ a b : Bool, as = [.v (.bl a), .v (.bl b)] ∧ d = .bool (decide (V.bl a = V.bl b))
section
variable {P : Program} {w : World} {K : PySem.W.Frag} {mg : Str → Option Value} {base : Heap}
/-- keywords -/
def gK1 {α : Type} : List α → List α → List α
  | [a], [b] => [a, b]
  | _, _ => []
theorem gK1_rel {vs zs : List V} {us ws : List Value} (h : Vals vs us) (k : Vals zs ws) : Vals (gK1 vs zs) (gK1 us ws) := by
  cases h with
  | nil => exact .nil
  | cons r h =>
    cases h with
    | nil =>
      cases k with
      | nil => exact .nil
      | cons r2 k =>
        cases k with
        | nil => exact .cons r (.cons r2 .nil)
        | cons _ _ => exact .nil
    | cons _ _ => exact .nil
end
section
variable {P : Program} {w : World} {K : PySem.W.Frag} {mg : Str → Option Value} {base : Heap}
theorem c_lst {σ : L2.St} {H : Hp} {ta : TA} {Q : VK} (h : ta σ H fun vs H1 => vs.length ≤ sizeLine ∧ ∀ p, H1 p = none → Q (.ref p) (upd H1 p (.lst vs))) : tLst ta σ H Q := h
end
end WT
set_option maxHeartbeats 400000
namespace WT
theorem drawN_lt {a b c u : Nat} (h : 0 < u) : drawN a b c u < u := by
  unfold drawN
  split <;> exact Nat.mod_lt _ h
end WT
namespace WT
abbrev IsP (n : Nat) (u : List Nat) : Prop := u.Perm (List.range n)
def ap (u : List Nat) (i : Nat) : Nat := u.getD i 0
theorem ap_get {u : List Nat} {i : Nat} (h : i < u.length) : u[i]? = some (ap u i) := by
  unfold ap
  rw [List.getD_eq_getElem?_getD, List.getElem?_eq_getElem h]
  rfl
theorem ap_of {u : List Nat} {i x : Nat} (h : u[i]? = some x) : ap u i = x := by
  unfold ap
  rw [List.getD_eq_getElem?_getD, h]
  rfl
theorem ext_ap {n : Nat} {u v : List Nat} (hu : u.length = n) (hv : v.length = n) (h : ∀ i, i < n → ap u i = ap v i) : u = v := by
  refine List.ext_getElem? fun i => ?_
  by_cases hi : i < n
  · rw [ap_get (by omega), ap_get (by omega), h i hi]
  · rw [List.getElem?_eq_none (by omega), List.getElem?_eq_none (by omega)]
def thn (u v : List Nat) : List Nat := u.map fun x => ap v x
theorem thn_len (u v : List Nat) : (thn u v).length = u.length := by
  unfold thn
  rw [List.length_map]
theorem ap_thn {u v : List Nat} {i : Nat} (h : i < u.length) : ap (thn u v) i = ap v (ap u i) := by
  refine ap_of ?_
  unfold thn
  rw [List.getElem?_map, ap_get h]
  rfl
theorem isP_len {n : Nat} {u : List Nat} (h : IsP n u) : u.length = n := perm_len h
theorem ap_lt {n : Nat} {u : List Nat} (h : IsP n u) {i : Nat} (hi : i < n) : ap u i < n := perm_lt h (ap_get (by rw [isP_len h]; exact hi))
theorem ap_inj {n : Nat} {u : List Nat} (h : IsP n u) {i j : Nat} (hi : i < n) (hj : j < n) (e : ap u i = ap u j) : i = j := by
  have hl := isP_len h
  have h1 := idx_of_get (perm_nd h) (ap_get (u := u) (i := i) (by omega))
  have h2 := idx_of_get (perm_nd h) (ap_get (u := u) (i := j) (by omega))
  rw [e, h2] at h1
  exact h1.symm
theorem isP_of {n : Nat} {u : List Nat} (hl : u.length = n) (h1 : ∀ i, i < n → ap u i < n) (h2 : ∀ i j, i < n → j < n → ap u i = ap u j → i = j) : IsP n u := by
  have e : u = (List.range n).map (ap u) := tab_of hl fun x hx => ap_get (by omega)
  rw [e]
  exact tab_perm h1 h2
theorem one_isP (n : Nat) : IsP n (List.range n) := List.Perm.refl _
theorem ap_one {n i : Nat} (h : i < n) : ap (List.range n) i = i := ap_of (List.getElem?_range h)
theorem thn_isP {n : Nat} {u v : List Nat} (hu : IsP n u) (hv : IsP n v) : IsP n (thn u v) := by
  have hl := isP_len hu
  refine isP_of (by rw [thn_len, hl]) (fun i hi => ?_) fun i j hi hj e => ?_
  · rw [ap_thn (by omega)]
    exact ap_lt hv (ap_lt hu hi)
  · rw [ap_thn (by omega), ap_thn (by omega)] at e
    exact ap_inj hu hi hj (ap_inj hv (ap_lt hu hi) (ap_lt hu hj) e)
theorem und_isP {n : Nat} {u : List Nat} (hu : IsP n u) : IsP n (invN n u) := inv_perm hu
theorem ap_und {n : Nat} {u : List Nat} {x : Nat} (hx : x < n) : ap (invN n u) x = u.idxOf x := ap_of (tab_get hx)
theorem und_ap {n : Nat} {u : List Nat} (hu : IsP n u) {i : Nat} (hi : i < n) : ap (invN n u) (ap u i) = i := by
  rw [ap_und (ap_lt hu hi)]
  exact idx_of_get (perm_nd hu) (ap_get (by rw [isP_len hu]; exact hi))
theorem ap_und_ap {n : Nat} {u : List Nat} (hu : IsP n u) {x : Nat} (hx : x < n) : ap u (ap (invN n u) x) = x := by
  rw [ap_und hx]
  exact ap_of (idx_lt hu hx).2
theorem thn_assoc {n : Nat} {u v w : List Nat} (hu : IsP n u) (hv : IsP n v) : thn (thn u v) w = thn u (thn v w) := by
  have hl := isP_len hu
  have hl2 := isP_len hv
  refine ext_ap (n := n) (by rw [thn_len, thn_len, hl]) (by rw [thn_len, hl]) fun i hi => ?_
  have := ap_lt hu hi
  rw [ap_thn (by rw [thn_len]; omega), ap_thn (by omega), ap_thn (by omega), ap_thn (by omega)]
theorem thn_one {n : Nat} {u : List Nat} (hu : IsP n u) : thn u (List.range n) = u := by
  have hl := isP_len hu
  refine ext_ap (n := n) (by rw [thn_len, hl]) hl fun i hi => ?_
  rw [ap_thn (by omega), ap_one (ap_lt hu hi)]
theorem one_thn {n : Nat} {u : List Nat} (hu : IsP n u) : thn (List.range n) u = u := by
  have hl := isP_len hu
  refine ext_ap (n := n) (by rw [thn_len, List.length_range]) hl fun i hi => ?_
  rw [ap_thn (by rw [List.length_range]; exact hi), ap_one hi]
theorem thn_und {n : Nat} {u : List Nat} (hu : IsP n u) : thn u (invN n u) = List.range n := by
  have hl := isP_len hu
  refine ext_ap (n := n) (by rw [thn_len, hl]) List.length_range fun i hi => ?_
  rw [ap_thn (by omega), und_ap hu hi, ap_one hi]
theorem und_thn {n : Nat} {u : List Nat} (hu : IsP n u) : thn (invN n u) u = List.range n := by
  have hl := isP_len (und_isP hu)
  refine ext_ap (n := n) (by rw [thn_len, hl]) List.length_range fun i hi => ?_
  rw [ap_thn (by omega), ap_und_ap hu hi, ap_one hi]
theorem und_mul {n : Nat} {u v : List Nat} (hu : IsP n u) (hv : IsP n v) : invN n (thn u v) = thn (invN n v) (invN n u) := by
  have hl := isP_len (und_isP hv)
  have hl2 := isP_len (und_isP (thn_isP hu hv))
  refine ext_ap (n := n) hl2 (by rw [thn_len, hl]) fun x hx => ?_
  rw [ap_thn (by omega)]
  have h1 := ap_lt (und_isP hv) hx
  have h2 := ap_lt (und_isP hu) h1
  have h3 : ap (thn u v) (ap (invN n u) (ap (invN n v) x)) = x := by
    rw [ap_thn (by rw [isP_len hu]; exact h2), ap_und_ap hu h1, ap_und_ap hv hx]
  have h4 := und_ap (thn_isP hu hv) h2
  rw [h3] at h4
  exact h4
theorem und_und {n : Nat} {u : List Nat} (hu : IsP n u) : invN n (invN n u) = u := by
  refine ext_ap (n := n) (isP_len (und_isP (und_isP hu))) (isP_len hu) fun x hx => ?_
  have h1 := und_ap (und_isP hu) (ap_lt hu hx)
  rw [und_ap hu hx] at h1
  exact h1
theorem und_one {n : Nat} : invN n (List.range n) = List.range n := by
  have := thn_und (one_isP n)
  rw [one_thn (und_isP (one_isP n))] at this
  exact this
/-- u then v' , where v' undoes v -/
theorem thn_und_cancel {n : Nat} {u v : List Nat} (hu : IsP n u) (hv : IsP n v) : thn (thn u (invN n v)) v = u := by
  rw [thn_assoc hu (und_isP hv), und_thn hv, thn_one hu]
inductive Gen (n : Nat) (S : List Nat → Prop) : List Nat → Prop
  | one : Gen n S (List.range n)
  | mul {u s : List Nat} (h : Gen n S u) (hs : S s) : Gen n S (thn u s)
  | div {u s : List Nat} (h : Gen n S u) (hs : S s) : Gen n S (thn u (invN n s))
section
variable {n : Nat} {S T : List Nat → Prop}
theorem Gen.isP (hS : ∀ s, S s → IsP n s) {u : List Nat} (h : Gen n S u) : IsP n u := by
  induction h with
  | one => exact one_isP n
  | mul _ hs ih => exact thn_isP ih (hS _ hs)
  | div _ hs ih => exact thn_isP ih (und_isP (hS _ hs))
theorem Gen.of (hS : ∀ s, S s → IsP n s) {s : List Nat} (h : S s) : Gen n S s := by
  have := Gen.mul (n := n) (Gen.one) h
  rw [one_thn (hS _ h)] at this
  exact this
theorem Gen.thn (hS : ∀ s, S s → IsP n s) {u v : List Nat} (hu : Gen n S u) (hv : Gen n S v) : Gen n S (thn u v) := by
  have pu := hu.isP hS
  induction hv with
  | one =>
    rw [thn_one pu]
    exact hu
  | mul h hs ih =>
    rw [← thn_assoc pu (h.isP hS)]
    exact .mul ih hs
  | div h hs ih =>
    rw [← thn_assoc pu (h.isP hS)]
    exact .div ih hs
theorem Gen.und (hS : ∀ s, S s → IsP n s) {u : List Nat} (hu : Gen n S u) : Gen n S (invN n u) := by
  induction hu with
  | one =>
    rw [und_one]
    exact .one
  | mul h hs ih =>
    rw [und_mul (h.isP hS) (hS _ hs)]
    have h1 := Gen.div (n := n) (Gen.one) hs
    rw [one_thn (und_isP (hS _ hs))] at h1
    exact Gen.thn hS h1 ih
  | div h hs ih =>
    rw [und_mul (h.isP hS) (und_isP (hS _ hs)), und_und (hS _ hs)]
    exact Gen.thn hS (Gen.of hS hs) ih
theorem Gen.mono (hT : ∀ s, T s → IsP n s) (h : ∀ s, S s → Gen n T s) {u : List Nat} (hu : Gen n S u) : Gen n T u := by
  induction hu with
  | one => exact .one
  | mul _ hs ih => exact Gen.thn hT ih (h _ hs)
  | div _ hs ih => exact Gen.thn hT ih (Gen.und hT (h _ hs))
theorem Gen.sub (h : ∀ s, S s → T s) {u : List Nat} (hu : Gen n S u) : Gen n T u := by
  induction hu with
  | one => exact .one
  | mul _ hs ih => exact .mul ih (h _ hs)
  | div _ hs ih => exact .div ih (h _ hs)
/-- all below p stay -/
def Fix (p : Nat) (u : List Nat) : Prop := ∀ i, i < p → ap u i = i
theorem fix_mono {p q : Nat} {u : List Nat} (h : Fix q u) (hpq : p ≤ q) : Fix p u := fun i hi => h i (by omega)
theorem fix_one {p : Nat} (hp : p ≤ n) : Fix p (List.range n) := fun i hi => ap_one (by omega)
theorem fix_thn {p : Nat} (hp : p ≤ n) {u v : List Nat} (pu : IsP n u) (hu : Fix p u) (hv : Fix p v) : Fix p (thn u v) := fun i hi => by
  rw [ap_thn (by rw [isP_len pu]; omega), hu i hi, hv i hi]
theorem fix_und {p : Nat} (hp : p ≤ n) {u : List Nat} (pu : IsP n u) (hu : Fix p u) : Fix p (invN n u) := fun i hi => by
  have h := und_ap pu (i := i) (by omega)
  rw [hu i hi] at h
  exact h
abbrev LaneT := List (Nat × List Nat)
def look (L : LaneT) (x : Nat) : Option (List Nat) := (L.find? fun e => decide (e.1 = x)).map (·.2)
theorem look_mem {L : LaneT} {x : Nat} {u : List Nat} (h : look L x = some u) : (x, u) ∈ L := by
  unfold look at h
  cases z : L.find? fun e => decide (e.1 = x) with
  | none => rw [z] at h; cases h
  | some e =>
    rw [z] at h
    have h1 := List.find?_some z
    have h2 := List.mem_of_find?_eq_some z
    have h3 : e.2 = u := Option.some.inj h
    have h4 : e.1 = x := of_decide_eq_true h1
    rw [← h3, ← h4]
    exact h2
/-- the strong ones from p on -/
def Sp' (strong : List (List Nat)) (p : Nat) (s : List Nat) : Prop := s ∈ strong ∧ Fix p s
structure LaneOk (n p : Nat) (strong : List (List Nat)) (L : LaneT) : Prop where
  base : (p, List.range n) ∈ L
  nd : (L.map (·.1)).Nodup
  el : ∀ x u, (x, u) ∈ L → IsP n u ∧ Fix p u ∧ ap u p = x ∧ Gen n (Sp' strong p) u
def Closed (p : Nat) (strong : List (List Nat)) (L : LaneT) : Prop := ∀ x u, (x, u) ∈ L → ∀ s, Sp' strong p s → ∃ v, (ap s x, v) ∈ L
end
end WT
namespace WT
open PySem PySem.Spec PyProof.Rows L2 Evl SX
/-- one of a list, exactly -/
def spOfX : Sp := fun vs H Q _ => ∃ (p q : Addr) (a b c : Nat) (xs : List V), vs = [.ref p, .ref q] ∧ PotS H p a b c ∧ c < 2 ^ 240 ∧ H q = some (.lst xs) ∧ 0 < xs.length ∧ xs.length < 1073741824 ∧ q ≠ p ∧
  ∀ v H', xs[drawN a b c xs.length]? = some v → But p H H' → PotS H' p (a / xs.length) b (nextC a c) → Q v H'
/-- one of a list -/
def spOf (K : PySem.W.Frag) : Sp := fun vs H Q _ => ∃ (p q : Addr) (n : Nat) (ds : List PyData) (xs : List V), vs = [.ref p, .ref q] ∧ PotAt H p n ∧ n < 2 ^ 240 ∧ H q = some (.lst xs) ∧ FzL K H ds xs ∧ ds ≠ [] ∧ ds.length < 1000000 ∧ q ≠ p ∧
  ∀ d v H', d ∈ ds → Fz K H' d v → But p H H' → PotAt H' p (n + 1) → Q v H'
section
variable {K : PySem.W.Frag} {σ : L2.St} {H H' : Hp} {ta tb : TE} {ds es : List PyData}
theorem sD_plain (l : List Nat) (h : ∀ c ∈ l, c < 55296) : plain (sD l) = true ∧ (sD l).depth ≤ 0 := by
  refine plain_str _ ?_
  unfold PyData.strOk
  show (S l).cps.all _ = true
  rw [← Array.all_toList, List.all_eq_true]
  intro c hc
  have := h c hc
  simp
  omega
theorem IsNm.plain {n : List Nat} (h : IsNm n) : plain (sD n) = true ∧ (sD n).depth ≤ 0 := sD_plain n fun c hc => by have := h.let_ c hc; omega
end
/-- its dict {"many", "names", "turns"} -/
structure OwnAt (K : PySem.W.Frag) (H : Hp) (a : Addr) (m : Nat) (ns ts : List (List Nat)) : Prop where
  ex : ∃ (ln lt : Addr) (xn xt : List V), H a = some (.dK [(Sum.inr "many", .int (m : Int)), (Sum.inr "names", .ref ln), (Sum.inr "turns", .ref lt)]) ∧ H ln = some (.lst xn) ∧ FzL K H (ns.map sD) xn ∧ H lt = some (.lst xt) ∧ FzL K H (ts.map tN) xt ∧ FrL H xt
section
variable {K : PySem.W.Frag} {σ : L2.St} {H H' : Hp} {ta tb : TE} {a : Addr} {m : Nat} {ns ts : List (List Nat)}
/-- kept while the pot alone changes -/
theorem OwnAt.but {p : Addr} {n : Nat} (h : OwnAt K H a m ns ts) (hP : PotAt H p n) (ha : a ≠ p) (hx : ∀ q xs, H q = some (.lst xs) → (∃ ds : List (List Nat), FzL K H (ds.map sD) xs) ∨ (∃ ds : List (List Nat), FzL K H (ds.map tN) xs) → q ≠ p) (e : But p H H') : OwnAt K H' a m ns ts := by
  obtain ⟨ln, lt, xn, xt, h1, h2, h3, h4, h5, h6⟩ := h.ex
  have tx := hP.tex e
  exact ⟨ln, lt, xn, xt, e _ _ ha h1, e _ _ (hx _ _ h2 (.inl ⟨_, h3⟩)) h2, FzL.mono tx _ _ h3, e _ _ (hx _ _ h4 (.inr ⟨_, h5⟩)) h4, FzL.mono tx _ _ h5, h6.mono tx⟩
/-- the pot is no list of texts, none of tuples -/
theorem pot_not {p q : Addr} {n : Nat} {xs : List V} (hP : PotAt H p n) (hq : H q = some (.lst xs)) (h : (∃ ds : List (List Nat), FzL K H (ds.map sD) xs) ∨ (∃ ds : List (List Nat), FzL K H (ds.map tN) xs)) : q ≠ p := fun z => by
  subst z
  obtain ⟨a, b, c, ⟨g, _⟩, _⟩ := hP
  rw [hq] at g
  cases g
  rcases h with ⟨ds, f⟩ | ⟨ds, f⟩
  · cases ds with
    | nil => simp only [List.map_nil, FzL] at f; cases f
    | cons d ds =>
      obtain ⟨v, r, h1, h2, _⟩ := fzl_consI f
      cases h1
      have := fz_strI h2
      cases this
  · cases ds with
    | nil => simp only [List.map_nil, FzL] at f; cases f
    | cons d ds =>
      obtain ⟨v, r, h1, h2, _⟩ := fzl_consI f
      cases h1
      obtain ⟨_, h3, _⟩ := fz_tN.mp h2
      cases h3
theorem OwnAt.keep {p : Addr} {n : Nat} (h : OwnAt K H a m ns ts) (hP : PotAt H p n) (e : But p H H') : OwnAt K H' a m ns ts := by
  refine h.but hP (fun z => ?_) (fun q xs hq f => pot_not hP hq f) e
  obtain ⟨ln, lt, xn, xt, h1, _⟩ := h.ex
  obtain ⟨xs, g⟩ := hP.obj
  rw [z, g] at h1
  cases h1
end
section
variable {K : PySem.W.Frag} {σ : L2.St} {H : Hp} {ta tb : TE} {tlo thi : TO} {ds es : List PyData}
/-- t[lo:hi] -/
theorem ed_slA {lo hi : Option Int} (h : Ed K ta σ H (.tuple ds)) (h1 : EvO tlo σ H lo) (h2 : EvO thi σ H hi) (hz : es = (ds.drop (HT.sIx ds.length 0 lo)).take (HT.sIx ds.length ds.length hi - HT.sIx ds.length 0 lo)) : Ed K (tSl (rSlA K) ta tlo thi) σ H (.tuple es) := fun H1 e Q q =>
  h H1 e _ fun v H2 e2 f => h1 H2 (e.trans e2) _ fun H3 e3 => h2 H3 ((e.trans e2).trans e3) _ fun H4 e4 => by
    obtain ⟨a, xs, rfl, hx, hf⟩ := fz_tupI f
    have hl := fzl_len hf
    have f4 := fzl_ex (e3.trans e4) hf
    refine ⟨a, xs, rfl, ex_t (e3.trans e4) hx, fun hw => ?_, fun _ p hp => ?_⟩
    · rw [hl] at hw
      have : es = ds := by rw [hz, hw.1, hw.2, List.drop_zero, Nat.sub_zero, List.take_length]
      rw [this] at q
      exact q _ H4 ((e2.trans e3).trans e4) (fz_ex (e3.trans e4) f)
    · refine q _ _ (((e2.trans e3).trans e4).trans (Ex.new hp)) (fz_tup upd_same (fzl_ex (Ex.new hp) ?_))
      unfold cutV
      rw [hz, hl]
      exact fzl_take _ (fzl_drop _ f4)
end
end WT
namespace WT
open PySem PySem.Spec PyProof.Rows L2 Evl SX
section
variable {K : PySem.W.Frag} {σ : L2.St} {H : Hp} {ta tb : TE} {Dn : Ends} {tz : TS}
/-- a display, known -/
def EdF (K : PySem.W.Frag) (te : TE) (σ : L2.St) (H : Hp) (ds : List PyData) : Prop := ∀ H1, Ex H H1 → ∀ Q : VK, (∀ a xs H2, Ex H1 H2 → FrT H2 a xs → FzL K H2 ds xs → Q (.ref a) H2) → te σ H1 Q
theorem edF_tupOf {ds : List PyData} (h : El K ta σ H ds) : EdF K (tCB (rTupOfF K) (tCons ta tNil)) σ H ds := fun H1 e Q q =>
  h H1 e _ fun p xs H2 _ e2 hp f => ⟨p, xs, rfl, sq_of hp, fun l o ho hl => q l xs _ (e2.trans (Ex.new hl)) ⟨o, ho, upd_same⟩ (fzl_ex (Ex.new hl) f)⟩
end
end WT
namespace WT
theorem subset_len {α : Type} [DecidableEq α] : ∀ {l m : List α}, l.Nodup → (∀ x ∈ l, x ∈ m) → m.length ≤ l.length → ∀ x ∈ m, x ∈ l
  | [], [], _, _, _ => fun x hx => hx
  | [], y :: m, _, _, h => by simp at h
  | x :: l, m, nd, hs, hl => by
    have hx := hs x List.mem_cons_self
    have h1 := subset_len (l := l) (m := m.erase x) (List.nodup_cons.mp nd).2 (fun y hy => by
      have hne : y ≠ x := fun z => (List.nodup_cons.mp nd).1 (z ▸ hy)
      exact (List.mem_erase_of_ne hne).mpr (hs y (List.mem_cons_of_mem _ hy))) (by
      rw [List.length_erase_of_mem hx]
      rw [List.length_cons] at hl
      omega)
    intro y hy
    by_cases e : y = x
    · exact e ▸ List.mem_cons_self
    · exact List.mem_cons_of_mem _ (h1 y ((List.mem_erase_of_ne e).mpr hy))
section
variable {n p : Nat} {strong : List (List Nat)} {L : LaneT}
theorem LaneOk.key_lt (h : LaneOk n p strong L) (hp : p < n) {x : Nat} {u : List Nat} (hx : (x, u) ∈ L) : x < n := by
  obtain ⟨h1, _, h3, _⟩ := h.el x u hx
  rw [← h3]
  exact ap_lt h1 hp
/-- a lane that is closed is closed backwards -/
theorem Closed.back (hP : ∀ s ∈ strong, IsP n s) (hp : p < n) (h : LaneOk n p strong L) (c : Closed p strong L) {x : Nat} {u : List Nat} (hx : (x, u) ∈ L) {s : List Nat} (hs : Sp' strong p s) : ∃ y v, (y, v) ∈ L ∧ ap s y = x := by
  have ps := hP s hs.1
  have h1 : ((L.map (·.1)).map (ap s)).Nodup := by
    refine List.pairwise_iff_getElem.mpr fun i j hi hj hij e => ?_
    rw [List.length_map] at hi hj
    simp only [List.getElem_map] at e
    have ki : ∀ a (ha : a < L.length), (L[a]).1 < n := fun a ha => h.key_lt hp (x := (L[a]).1) (u := (L[a]).2) (List.getElem_mem ha)
    rw [List.length_map] at hi hj
    have e2 := ap_inj ps (ki i hi) (ki j hj) e
    have nd := List.pairwise_iff_getElem.mp h.nd i j (by rw [List.length_map]; exact hi) (by rw [List.length_map]; exact hj) hij
    simp only [List.getElem_map] at nd
    exact nd e2
  have h2 : ∀ y ∈ (L.map (·.1)).map (ap s), y ∈ L.map (·.1) := fun y hy => by
    obtain ⟨z, hz, rfl⟩ := List.mem_map.mp hy
    obtain ⟨⟨z', v⟩, hv, rfl⟩ := List.mem_map.mp hz
    obtain ⟨w, hw⟩ := c z' v hv s hs
    exact List.mem_map.mpr ⟨_, hw, rfl⟩
  have h3 := subset_len h1 h2 (by rw [List.length_map, List.length_map, List.length_map]; exact Nat.le_refl _) x (List.mem_map.mpr ⟨_, hx, rfl⟩)
  obtain ⟨z, hz, e⟩ := List.mem_map.mp h3
  obtain ⟨⟨z', v⟩, hv, rfl⟩ := List.mem_map.mp hz
  exact ⟨z', v, hv, e⟩
end
structure Ch where
  lanes : List LaneT
  strong : List (List Nat)
  known : List (List (Nat × Nat))
def Ch.lane (c : Ch) (p : Nat) : LaneT := c.lanes.getD p []
def Ch.kn (c : Ch) (p : Nat) : List (Nat × Nat) := c.known.getD p []
structure ChOk (n : Nat) (c : Ch) : Prop where
  nl : c.lanes.length = n
  nk : c.known.length = n
  st : ∀ s ∈ c.strong, IsP n s ∧ s ≠ List.range n
  ok : ∀ p, p < n → LaneOk n p c.strong (c.lane p)
/-- what is known of a pair holds -/
def KnOk (n : Nat) (c : Ch) : Prop := ∀ p, p < n → ∀ x k, (x, k) ∈ c.kn p → ∃ u s v, (x, u) ∈ c.lane p ∧ c.strong[k]? = some s ∧ Fix p s ∧ (ap s x, v) ∈ c.lane p ∧ Gen n (Sp' c.strong (p + 1)) (thn (thn u s) (invN n v))
section
variable {n : Nat} {c : Ch}
theorem ChOk.isP (h : ChOk n c) : ∀ s ∈ c.strong, IsP n s := fun s hs => (h.st s hs).1
end
end WT
namespace WT
section
variable {n p : Nat} {strong : List (List Nat)} {L : LaneT} {c : Ch}
theorem spr_app {r s : List Nat} {p : Nat} (h : Sp' strong p s) : Sp' (strong ++ [r]) p s := ⟨List.mem_append_left _ h.1, h.2⟩
theorem LaneOk.app {r : List Nat} (h : LaneOk n p strong L) : LaneOk n p (strong ++ [r]) L := ⟨h.base, h.nd, fun x u hx => by
  obtain ⟨h1, h2, h3, h4⟩ := h.el x u hx
  exact ⟨h1, h2, h3, Gen.sub (fun s hs => spr_app hs) h4⟩⟩
theorem LaneOk.size (h : LaneOk n p strong L) (hp : p < n) : L.length ≤ n := by
  have := nd_le (m := n) (l := L.map (·.1)) h.nd fun x hx => by
    obtain ⟨⟨a, u⟩, hu, rfl⟩ := List.mem_map.mp hx
    exact h.key_lt hp hu
  rw [List.length_map] at this
  exact this
def Ch.app (c : Ch) (r : List Nat) : Ch := { c with strong := c.strong ++ [r] }
theorem ChOk.app (h : ChOk n c) {r : List Nat} (hr : IsP n r) (h1 : r ≠ List.range n) : ChOk n (c.app r) := ⟨h.nl, h.nk, fun s hs => by
  rcases List.mem_append.mp hs with z | z
  · exact h.st s z
  · rw [List.mem_singleton.mp z]
    exact ⟨hr, h1⟩, fun p hp => (h.ok p hp).app⟩
theorem KnOk.app (h : KnOk n c) {r : List Nat} : KnOk n (c.app r) := fun p hp x k hk => by
  obtain ⟨u, s, v, h1, h2, h3, h4, h5⟩ := h p hp x k hk
  refine ⟨u, s, v, h1, ?_, h3, h4, Gen.sub (fun s hs => spr_app hs) h5⟩
  show (c.strong ++ [r])[k]? = some s
  rw [List.getElem?_append_left (List.getElem?_eq_some_iff.mp h2).1]
  exact h2
def Ch.none (n : Nat) : Ch := ⟨(List.range n).map fun p => [(p, List.range n)], [], List.replicate n []⟩
end
end WT
namespace WT
open PySem PySem.Spec PyProof.Rows L2 Evl
/-- an object's own parts -/
structure LOwn where
  dx : Addr
  ln : Addr
  kn : Addr
  sg : Addr
  dl : List Addr
  kl : List Addr
def LOwn.all (o : LOwn) (a : Addr) : List Addr := a :: o.dx :: o.ln :: o.kn :: o.sg :: (o.dl ++ o.kl)
/-- all but some is as it was -/
def OBut (S : List Addr) (H H' : Hp) : Prop := ∀ q u, q ∉ S → H q = some u → H' q = some u
theorem OBut.refl (S : List Addr) (H : Hp) : OBut S H H := fun _ _ _ h => h
theorem OBut.trans {S : List Addr} {H H1 H2 : Hp} (a : OBut S H H1) (b : OBut S H1 H2) : OBut S H H2 := fun q u n h => b q u n (a q u n h)
theorem OBut.of {S : List Addr} {H H' : Hp} (e : Ex H H') : OBut S H H' := fun q u _ h => e q u h
theorem OBut.ex {S : List Addr} {H H1 H2 : Hp} (a : OBut S H H1) (b : Ex H1 H2) : OBut S H H2 := a.trans (OBut.of b)
theorem OBut.put {S : List Addr} {H : Hp} {p : Addr} {u : HO} (h : p ∈ S) : OBut S H (upd H p u) := fun q v n e => by rw [upd_ne (show q ≠ p from fun z => n (z ▸ h))]; exact e
theorem OBut.mut {S : List Addr} {H H1 : Hp} {p : Addr} {u : HO} (a : OBut S H H1) (h : p ∈ S) : OBut S H (upd H1 p u) := a.trans (OBut.put h)
/-- a lane's dict -/
def DL (K : PySem.W.Frag) (H : Hp) (L : LaneT) (kvs : List (Key × V)) : Prop := kvs.map (·.1) = L.map (fun e => (Sum.inl (e.1 : Int) : Key)) ∧ FzL K H (L.map fun e => tN e.2) (kvs.map (·.2))
/-- the dict of the known pairs -/
def KL (E : List (Nat × Nat)) (kvs : List (List Key × V)) : Prop := kvs.map (·.1) = (E.map fun e => [(Sum.inl (e.1 : Int) : Key), (Sum.inl (e.2 : Int) : Key)]) ∧ E.Nodup
structure LAt (K : PySem.W.Frag) (C a : Addr) (o : LOwn) (n : Nat) (c : Ch) (H : Hp) : Prop where
  slt : SlX.Slt H a C o.dx [some (.int (n : Int)), some (.ref o.kn), some (.ref o.ln), some (.ref o.sg)]
  nd : (o.all a).Nodup
  lanes : H o.ln = some (.lst (o.dl.map V.ref))
  known : H o.kn = some (.lst (o.kl.map V.ref))
  strong : ∃ xs, H o.sg = some (.lst xs) ∧ FzL K H (c.strong.map tN) xs
  dn : o.dl.length = n
  dk : ∀ p q, o.dl[p]? = some q → ∃ kvs, H q = some (.dK kvs) ∧ DL K H (c.lane p) kvs
  kn : o.kl.length = n
  kk : ∀ p q, o.kl[p]? = some q → ∃ kvs, H q = some (.dT kvs) ∧ KL (c.kn p) kvs
section
variable {K : PySem.W.Frag} {C a : Addr} {o : LOwn} {n : Nat} {c : Ch} {H H' : Hp}
theorem DL.tex {L : LaneT} {kvs : List (Key × V)} (h : DL K H L kvs) (e : TEx H H') : DL K H' L kvs := ⟨h.1, FzL.mono e _ _ h.2⟩
theorem LAt.ex (h : LAt K C a o n c H) (e : Ex H H') : LAt K C a o n c H' := by
  obtain ⟨xs, h1, h2⟩ := h.strong
  refine ⟨slt_ex e h.slt, h.nd, e _ _ h.lanes, e _ _ h.known, ⟨xs, e _ _ h1, fzl_ex e h2⟩, h.dn, fun p q hq => ?_, h.kn, fun p q hq => ?_⟩
  · obtain ⟨kvs, k1, k2⟩ := h.dk p q hq
    exact ⟨kvs, e _ _ k1, k2.tex (tex_of e)⟩
  · obtain ⟨kvs, k1, k2⟩ := h.kk p q hq
    exact ⟨kvs, e _ _ k1, k2⟩
/-- none of the parts is a tuple -/
theorem LAt.tex (h : LAt K C a o n c H) (e : OBut (o.all a) H H') : TEx H H' := fun b u t hb => by
  refine e b _ (fun hm => ?_) hb
  unfold LOwn.all at hm
  rcases List.mem_cons.mp hm with z | hm
  · subst z
    rcases h.slt with ⟨h1, _⟩ | ⟨h1, _⟩
    · rw [hb] at h1
      cases h1
      exact t
    · rw [hb] at h1
      unfold SlX.SlO at h1
      cases h1
      exact t
  · rcases List.mem_cons.mp hm with z | hm
    · subst z
      rcases h.slt with ⟨_, h2⟩ | ⟨_, h2⟩
      · cases h2
      · rw [hb] at h2
        cases h2
        exact t
    · rcases List.mem_cons.mp hm with z | hm
      · subst z
        rw [h.lanes] at hb
        cases hb
        exact t
      · rcases List.mem_cons.mp hm with z | hm
        · subst z
          rw [h.known] at hb
          cases hb
          exact t
        · rcases List.mem_cons.mp hm with z | hm
          · subst z
            obtain ⟨ys, h1, _⟩ := h.strong
            rw [h1] at hb
            cases hb
            exact t
          · rcases List.mem_append.mp hm with z | z
            · obtain ⟨i, hi⟩ := List.getElem?_of_mem z
              obtain ⟨kvs, h1, _⟩ := h.dk i _ hi
              rw [h1] at hb
              cases hb
              exact t
            · obtain ⟨i, hi⟩ := List.getElem?_of_mem z
              obtain ⟨kvs, h1, _⟩ := h.kk i _ hi
              rw [h1] at hb
              cases hb
              exact t
/-- what the dict tells of a place -/
theorem DL.get {L : LaneT} {kvs : List (Key × V)} (h : DL K H L kvs) (x : Nat) : (look L x = none → valV kvs (Sum.inl (x : Int) : Key) = none) ∧ ∀ u, look L x = some u → ∃ v, valV kvs (Sum.inl (x : Int) : Key) = some v ∧ Fz K H (tN u) v := by
  obtain ⟨h1, h2⟩ := h
  induction L generalizing kvs with
  | nil =>
    cases kvs with
    | nil => exact ⟨fun _ => rfl, fun u hu => by cases hu⟩
    | cons kv r => simp at h1
  | cons e L ih =>
    cases kvs with
    | nil => simp at h1
    | cons kv r =>
      rw [List.map_cons, List.map_cons] at h1
      injection h1 with e1 e2
      rw [List.map_cons, List.map_cons] at h2
      obtain ⟨v, r', hv, f1, f2⟩ := fzl_consI h2
      injection hv with hv1 hv2
      subst hv1 hv2
      obtain ⟨i1, i2⟩ := ih e2 f2
      by_cases hx : e.1 = x
      · have k1 : kv.1 = (Sum.inl (x : Int) : Key) := by rw [e1, hx]
        have l1 : look (e :: L) x = some e.2 := by simp [look, List.find?_cons, hx]
        rw [l1, valV_pos k1]
        exact ⟨fun z => (by cases z), fun u hu => ⟨_, rfl, by rw [← Option.some.inj hu]; exact f1⟩⟩
      · have k1 : ¬ kv.1 = (Sum.inl (x : Int) : Key) := by
          rw [e1]
          intro z
          injection z with z
          exact hx (by omega)
        have l1 : look (e :: L) x = look L x := by simp [look, List.find?_cons, hx]
        rw [l1, valV_neg k1]
        exact ⟨i1, i2⟩
theorem KL.get {E : List (Nat × Nat)} {kvs : List (List Key × V)} (h : KL E kvs) (x k : Nat) : (valV kvs [(Sum.inl (x : Int) : Key), (Sum.inl (k : Int) : Key)]).isSome = decide ((x, k) ∈ E) := by
  replace h := h.1
  induction E generalizing kvs with
  | nil =>
    cases kvs with
    | nil => simp [valV_nil]
    | cons kv r => simp at h
  | cons e E ih =>
    cases kvs with
    | nil => simp at h
    | cons kv r =>
      rw [List.map_cons, List.map_cons] at h
      injection h with e1 e2
      by_cases hx : e = (x, k)
      · have k1 : kv.1 = [(Sum.inl (x : Int) : Key), (Sum.inl (k : Int) : Key)] := by rw [e1, hx]
        rw [valV_pos k1, hx]
        simp
      · have k1 : ¬ kv.1 = [(Sum.inl (x : Int) : Key), (Sum.inl (k : Int) : Key)] := by
          rw [e1]
          intro z
          injection z with z1 z2
          injection z1 with z1
          injection z2 with z2
          injection z2 with z2
          exact hx (Prod.ext (by omega) (by omega))
        rw [valV_neg k1, ih e2, decide_eq_decide, List.mem_cons]
        exact ⟨fun h => .inr h, fun h => h.resolve_left fun z => hx z.symm⟩
theorem LAt.own (h : LAt K C a o n c H) : a ∈ o.all a ∧ o.sg ∈ o.all a ∧ (∀ q ∈ o.dl, q ∈ o.all a) ∧ ∀ q ∈ o.kl, q ∈ o.all a := by
  unfold LOwn.all
  refine ⟨by simp, by simp, fun q hq => ?_, fun q hq => ?_⟩
  · simp [hq]
  · simp [hq]
end
end WT
set_option maxHeartbeats 1000000
namespace WT
structure Chn (n : Nat) (t : List Nat) (p : Nat) (r : List Nat) : Prop where
  hd : r[0]? = some p
  nd : r.Nodup
  lt : ∀ x ∈ r, x < n
  st : ∀ i a, r[i]? = some a → i + 1 < r.length → t[a]? = r[i + 1]?
/-- the place behind the last one is the first one -/
structure Cyc (n : Nat) (t : List Nat) (p : Nat) (r : List Nat) : Prop extends Chn n t p r where
  cl : ∀ a, r[r.length - 1]? = some a → t[a]? = some p
theorem isP_at {n : Nat} {t : List Nat} (h : IsP n t) {a : Nat} (ha : a < n) : ∃ b, t[a]? = some b ∧ b < n := by
  have hl := isP_len h
  exact ⟨_, List.getElem?_eq_getElem (by omega), List.mem_range.mp (h.subset (List.getElem_mem (by omega)))⟩
theorem isP_one {n : Nat} {t : List Nat} (h : IsP n t) {a b c : Nat} (e1 : t[a]? = some c) (e2 : t[b]? = some c) : a = b := by
  have ha := (List.getElem?_eq_some_iff.mp e1).1
  exact (List.getElem?_inj ha (perm_nd h)).mp (e1.trans e2.symm)
theorem Chn.pos {n : Nat} {t : List Nat} {p : Nat} {r : List Nat} (C : Chn n t p r) : 0 < r.length := (List.getElem?_eq_some_iff.mp C.hd).1
theorem Chn.len {n : Nat} {t : List Nat} {p : Nat} {r : List Nat} (C : Chn n t p r) : r.length ≤ n := nd_le C.nd C.lt
theorem Chn.one {n : Nat} {t : List Nat} {p : Nat} (hp : p < n) : Chn n t p [p] := ⟨rfl, by simp, fun x hx => by rw [List.mem_singleton.mp hx]; exact hp, fun i a h1 h2 => by simp at h2⟩
/-- what comes behind the last one is the first one, or new -/
theorem Chn.next {n : Nat} {t : List Nat} {p : Nat} {r : List Nat} (C : Chn n t p r) (ht : IsP n t) {l h : Nat} (hl : r[r.length - 1]? = some l) (hh : t[l]? = some h) (hp : h ≠ p) : Chn n t p (r ++ [h]) := by
  have hpos := C.pos
  have hn : h ∉ r := fun hm => by
    obtain ⟨j, hj⟩ := List.getElem?_of_mem hm
    cases j with
    | zero =>
      rw [C.hd] at hj
      exact hp (Option.some.inj hj).symm
    | succ j =>
      have hlt := (List.getElem?_eq_some_iff.mp hj).1
      obtain ⟨a, ha⟩ : ∃ a, r[j]? = some a := ⟨_, List.getElem?_eq_getElem (by omega)⟩
      have h1 := C.st j a ha hlt
      rw [hj] at h1
      have e := isP_one ht h1 hh
      rw [e] at ha
      have := (List.getElem?_inj (by omega) C.nd).mp (ha.trans hl.symm)
      omega
  have hb : h < n := by
    obtain ⟨b, h1, h2⟩ := isP_at ht (C.lt l (List.mem_of_getElem? hl))
    rw [hh] at h1
    cases h1
    exact h2
  refine ⟨?_, ?_, fun x hx => ?_, fun i a h1 h2 => ?_⟩
  · rw [List.getElem?_append_left hpos]
    exact C.hd
  · rw [List.nodup_append]
    exact ⟨C.nd, by simp, fun x hx y hy e => hn (by rw [← List.mem_singleton.mp hy, ← e]; exact hx)⟩
  · rcases List.mem_append.mp hx with z | z
    · exact C.lt x z
    · rw [List.mem_singleton.mp z]
      exact hb
  · rw [List.length_append, List.length_singleton] at h2
    rw [List.getElem?_append_left (by omega)] at h1
    by_cases hi : i + 1 < r.length
    · rw [List.getElem?_append_left hi]
      exact C.st i a h1 hi
    · have e : i = r.length - 1 := by omega
      subst e
      rw [hl] at h1
      cases h1
      rw [show r.length - 1 + 1 = r.length by omega, List.getElem?_concat_length]
      exact hh
theorem Cyc.on {n : Nat} {t : List Nat} {p : Nat} {r : List Nat} (C : Cyc n t p r) (i a : Nat) (h : r[i]? = some a) : t[a]? = r[(i + 1) % r.length]? := by
  have hi := (List.getElem?_eq_some_iff.mp h).1
  by_cases hl : i + 1 < r.length
  · rw [Nat.mod_eq_of_lt hl]
    exact C.st i a h hl
  · have e : i = r.length - 1 := by omega
    subst e
    rw [show r.length - 1 + 1 = r.length by omega, Nat.mod_self, C.hd]
    exact C.cl a h
/-- it is left by none -/
theorem Cyc.stay {n : Nat} {t : List Nat} {p : Nat} {r : List Nat} (C : Cyc n t p r) {a b : Nat} (ha : a ∈ r) (h : t[a]? = some b) : b ∈ r := by
  obtain ⟨i, hi⟩ := List.getElem?_of_mem ha
  have := C.on i a hi
  rw [h] at this
  exact List.mem_of_getElem? this.symm
/-- what has the first one and is left by none has all -/
theorem Chn.within {n : Nat} {t : List Nat} {p : Nat} {r : List Nat} (C : Chn n t p r) {S : Nat → Prop} (hS : ∀ a b, S a → t[a]? = some b → S b) {j : Nat} {x : Nat} (hj : r[j]? = some x) (hx : S x) : ∀ i a, j ≤ i → r[i]? = some a → S a := by
  intro i
  induction i with
  | zero =>
    intro a h1 h2
    have : j = 0 := by omega
    subst this
    rw [hj] at h2
    cases h2
    exact hx
  | succ i ih =>
    intro a h1 h2
    by_cases e : j = i + 1
    · subst e
      rw [hj] at h2
      cases h2
      exact hx
    · have hi := (List.getElem?_eq_some_iff.mp h2).1
      obtain ⟨c, hc⟩ : ∃ c, r[i]? = some c := ⟨_, List.getElem?_eq_getElem (by omega)⟩
      have := C.st i c hc hi
      rw [h2] at this
      exact hS c a (ih c (by omega) hc) this
/-- two rings that share a place have the same places -/
theorem Cyc.same {n : Nat} {t : List Nat} {p q : Nat} {r s : List Nat} (C : Cyc n t p r) (D : Cyc n t q s) {x : Nat} (h1 : x ∈ r) (h2 : x ∈ s) : ∀ y, y ∈ r ↔ y ∈ s := by
  have key : ∀ {p q : Nat} {r s : List Nat}, Cyc n t p r → Cyc n t q s → x ∈ r → x ∈ s → ∀ y ∈ r, y ∈ s := fun {p q r s} C D h1 h2 y hy => by
    obtain ⟨j, hj⟩ := List.getElem?_of_mem h1
    have hpos := C.pos
    have hS : ∀ a b, a ∈ s → t[a]? = some b → b ∈ s := fun a b => D.stay
    have up := C.within hS hj h2
    have hjl := (List.getElem?_eq_some_iff.mp hj).1
    obtain ⟨l, hl⟩ : ∃ l, r[r.length - 1]? = some l := ⟨_, List.getElem?_eq_getElem (by omega)⟩
    have hp : p ∈ s := hS l p (up _ l (by omega) hl) (C.cl l hl)
    obtain ⟨i, hi⟩ := List.getElem?_of_mem hy
    exact C.within hS C.hd hp i y (Nat.zero_le _) hi
  exact fun y => ⟨key C D h1 h2 y, key D C h2 h1 y⟩
/-- rings, each from its least place on, by these -/
structure RsInv (n : Nat) (t : List Nat) (i : Nat) (rs : List (List Nat)) : Prop where
  cyc : ∀ r ∈ rs, ∃ p, p < i ∧ Cyc n t p r ∧ 2 ≤ r.length ∧ ∀ x ∈ r, p ≤ x
  asc : rs.Pairwise fun r s => r.headD 0 < s.headD 0
  all : ∀ p r, p < i → Cyc n t p r → 2 ≤ r.length → (∀ x ∈ r, p ≤ x) → r ∈ rs
theorem Cyc.head {n : Nat} {t : List Nat} {p : Nat} {r : List Nat} (C : Chn n t p r) : r.headD 0 = p := by
  have := C.hd
  cases r with
  | nil => simp at this
  | cons a r =>
    cases (Option.some.inj this)
    rfl
/-- one place's ring is one -/
theorem Cyc.uniq {n : Nat} {t : List Nat} {p : Nat} {r s : List Nat} (C : Cyc n t p r) (D : Cyc n t p s) : r = s := by
  have key : ∀ {r s : List Nat}, Cyc n t p r → Cyc n t p s → r.length ≤ s.length → r = s := fun {r s} C D hl => by
    have hrs : ∀ i : Nat, i < r.length → r[i]? = s[i]? := fun i => by
      induction i with
      | zero => exact fun _ => C.hd.trans D.hd.symm
      | succ i ih =>
        intro hi
        have e := ih (by omega)
        obtain ⟨a, ha⟩ : ∃ a, r[i]? = some a := ⟨_, List.getElem?_eq_getElem (by omega)⟩
        rw [← C.st i a ha hi, D.st i a (e ▸ ha) (by omega)]
    have hpos := C.pos
    obtain ⟨l, hlr⟩ : ∃ l, r[r.length - 1]? = some l := ⟨_, List.getElem?_eq_getElem (by omega)⟩
    have hls : s[r.length - 1]? = some l := by rw [← hrs _ (by omega)]; exact hlr
    by_cases h : r.length = s.length
    · apply List.ext_getElem?
      intro i
      by_cases hi : i < r.length
      · exact hrs i hi
      · rw [List.getElem?_eq_none (by omega), List.getElem?_eq_none (by omega)]
    · have h1 := D.st (r.length - 1) l hls (by omega)
      rw [C.cl l hlr, ← D.hd] at h1
      have := (List.getElem?_inj (by omega) D.nd).mp h1
      omega
  by_cases h : r.length ≤ s.length
  · exact key C D h
  · exact (key D C (by omega)).symm
theorem RsInv.zero {n : Nat} {t : List Nat} : RsInv n t 0 [] := ⟨fun r h => (by cases h), List.Pairwise.nil, fun p r h => absurd h (Nat.not_lt_zero _)⟩
theorem RsInv.more {n : Nat} {t : List Nat} {i : Nat} {rs : List (List Nat)} {r : List Nat} (I : RsInv n t i rs) (C : Cyc n t i r) (h2 : 2 ≤ r.length) (hm : ∀ x ∈ r, i ≤ x) : RsInv n t (i + 1) (rs ++ [r]) := by
  refine ⟨fun s hs => ?_, ?_, fun p s hp D hs hx => ?_⟩
  · rcases List.mem_append.mp hs with z | z
    · obtain ⟨p, h1, h⟩ := I.cyc s z
      exact ⟨p, by omega, h⟩
    · rw [List.mem_singleton.mp z]
      exact ⟨i, by omega, C, h2, hm⟩
  · rw [List.pairwise_append]
    refine ⟨I.asc, by simp, fun a ha b hb => ?_⟩
    rw [List.mem_singleton.mp hb, Cyc.head C.toChn]
    obtain ⟨p, h1, D, _⟩ := I.cyc a ha
    rw [Cyc.head D.toChn]
    exact h1
  · by_cases e : p = i
    · subst e
      rw [D.uniq C]
      simp
    · exact List.mem_append.mpr (.inl (I.all p s (by omega) D hs hx))
theorem RsInv.less {n : Nat} {t : List Nat} {i : Nat} {rs : List (List Nat)} {r : List Nat} (I : RsInv n t i rs) (C : Cyc n t i r) (h : ¬ (2 ≤ r.length ∧ ∀ x ∈ r, i ≤ x)) : RsInv n t (i + 1) rs := by
  refine ⟨fun s hs => ?_, I.asc, fun p s hp D hs hx => ?_⟩
  · obtain ⟨p, h1, h⟩ := I.cyc s hs
    exact ⟨p, by omega, h⟩
  · by_cases e : p = i
    · subst e
      rw [D.uniq C] at hs hx
      exact absurd ⟨hs, hx⟩ h
    · exact I.all p s (by omega) D hs hx
/-- each place has a ring -/
theorem cyc_ex {n : Nat} {t : List Nat} (ht : IsP n t) {p : Nat} (hp : p < n) : ∃ r, Cyc n t p r := by
  have key : ∀ k (r : List Nat), Chn n t p r → n - r.length = k → ∃ r, Cyc n t p r := fun k => by
    induction k with
    | zero =>
      intro r C hk
      have hpos := C.pos
      obtain ⟨l, hl⟩ : ∃ l, r[r.length - 1]? = some l := ⟨_, List.getElem?_eq_getElem (by omega)⟩
      obtain ⟨h, hh, _⟩ := isP_at ht (C.lt l (List.mem_of_getElem? hl))
      by_cases e : h = p
      · exact ⟨r, C, fun a ha => by rw [hl] at ha; cases ha; rw [hh, e]⟩
      · have := (C.next ht hl hh e).len
        rw [List.length_append, List.length_singleton] at this
        omega
    | succ k ih =>
      intro r C hk
      have hpos := C.pos
      obtain ⟨l, hl⟩ : ∃ l, r[r.length - 1]? = some l := ⟨_, List.getElem?_eq_getElem (by omega)⟩
      obtain ⟨h, hh, _⟩ := isP_at ht (C.lt l (List.mem_of_getElem? hl))
      by_cases e : h = p
      · exact ⟨r, C, fun a ha => by rw [hl] at ha; cases ha; rw [hh, e]⟩
      · exact ih (r ++ [h]) (C.next ht hl hh e) (by rw [List.length_append, List.length_singleton]; omega)
  exact key _ _ (Chn.one hp) rfl
/-- a ring's least place -/
theorem least_of : ∀ {r : List Nat}, r ≠ [] → ∃ q ∈ r, ∀ x ∈ r, q ≤ x
  | [], h => absurd rfl h
  | [a], _ => ⟨a, by simp, fun x hx => by rw [List.mem_singleton.mp hx]; exact Nat.le_refl _⟩
  | a :: b :: r, _ => by
    obtain ⟨q, h1, h2⟩ := least_of (r := b :: r) (by simp)
    by_cases h : a ≤ q
    · exact ⟨a, by simp, fun x hx => by
        rcases List.mem_cons.mp hx with z | z
        · rw [z]; exact Nat.le_refl _
        · exact Nat.le_trans h (h2 x z)⟩
    · exact ⟨q, List.mem_cons_of_mem _ h1, fun x hx => by
        rcases List.mem_cons.mp hx with z | z
        · rw [z]; omega
        · exact h2 x z⟩
theorem RsInv.ok {n : Nat} {t : List Nat} {rs : List (List Nat)} (ht : IsP n t) (I : RsInv n t n rs) : RingsOk n t rs := by
  refine ⟨fun r hr => ?_, ?_, fun x hx => ?_, fun r hr i a h => ?_, fun x hx hn => ?_⟩
  · obtain ⟨p, _, _, h, _⟩ := I.cyc r hr
    exact h
  · unfold List.Nodup
    rw [List.pairwise_flatten]
    refine ⟨fun r hr => ?_, List.Pairwise.imp_of_mem (fun {r s} hr hs h x hx y hy e => ?_) I.asc⟩
    · obtain ⟨p, _, C, _⟩ := I.cyc r hr
      exact C.nd
    · subst e
      obtain ⟨p, _, C, _, m1⟩ := I.cyc r hr
      obtain ⟨q, _, D, _, m2⟩ := I.cyc s hs
      rw [Cyc.head C.toChn, Cyc.head D.toChn] at h
      have hp : p ∈ s := (C.same D hx hy p).mp (List.mem_of_getElem? C.hd)
      have := m2 p hp
      omega
  · obtain ⟨r, hr, hxr⟩ := List.mem_flatten.mp hx
    obtain ⟨p, _, C, _⟩ := I.cyc r hr
    exact C.lt x hxr
  · obtain ⟨p, _, C, _⟩ := I.cyc r hr
    exact C.on i a h
  · obtain ⟨r, C⟩ := cyc_ex ht hx
    have hxr := List.mem_of_getElem? C.hd
    by_cases h2 : 2 ≤ r.length
    · exfalso
      obtain ⟨q, hq, hmin⟩ := least_of (r := r) (fun z => by rw [z] at hxr; cases hxr)
      obtain ⟨s, D⟩ := cyc_ex ht (C.lt q hq)
      have hqs := List.mem_of_getElem? D.hd
      have hsame := C.same D hq hqs
      have hl : 2 ≤ s.length := by
        have hp : r.Perm s := (List.perm_ext_iff_of_nodup C.nd D.nd).mpr hsame
        rw [← hp.length_eq]
        exact h2
      have := I.all q s (C.lt q hq) D hl fun y hy => hmin y ((hsame y).mpr hy)
      exact hn (List.mem_flatten.mpr ⟨s, this, (hsame x).mp hxr⟩)
    · have hpos := C.pos
      have := C.cl x (by rw [show r.length - 1 = 0 by omega]; exact C.hd)
      exact this
end WT
set_option maxHeartbeats 1000000
namespace WT
def pw (n : Nat) (p : List Nat) : Nat → List Nat
  | 0 => List.range n
  | k + 1 => thn (pw n p k) p
section
variable {n : Nat} {p : List Nat}
theorem pw_isP (hp : IsP n p) : ∀ k, IsP n (pw n p k)
  | 0 => one_isP n
  | k + 1 => thn_isP (pw_isP hp k) hp
theorem pw_one (hp : IsP n p) : pw n p 1 = p := one_thn hp
theorem pw_add (hp : IsP n p) (a : Nat) : ∀ b, pw n p (a + b) = thn (pw n p a) (pw n p b)
  | 0 => (thn_one (pw_isP hp a)).symm
  | b + 1 => by
    show thn (pw n p (a + b)) p = thn (pw n p a) (thn (pw n p b) p)
    rw [pw_add hp a b, thn_assoc (pw_isP hp a) (pw_isP hp b)]
theorem pw_mul (hp : IsP n p) {L : Nat} (h : pw n p L = List.range n) : ∀ k, pw n p (L * k) = List.range n
  | 0 => rfl
  | k + 1 => by
    rw [Nat.mul_succ, pw_add hp, pw_mul hp h k, h, one_thn (one_isP n)]
theorem pw_mod (hp : IsP n p) {L : Nat} (h : pw n p L = List.range n) (k : Nat) : pw n p k = pw n p (k % L) := by
  have e : k = L * (k / L) + k % L := (Nat.div_add_mod k L).symm
  have : pw n p k = pw n p (L * (k / L) + k % L) := congrArg _ e
  rw [this, pw_add hp, pw_mul hp h, one_thn (pw_isP hp _)]
theorem inv_of {u v : List Nat} (hu : IsP n u) (hv : IsP n v) (h : thn u v = List.range n) : v = invN n u := by
  have h1 : thn (thn (invN n u) u) v = v := by rw [und_thn hu, one_thn hv]
  rw [← h1, thn_assoc (und_isP hu) hu, h, thn_one (und_isP hu)]
theorem pw_inv (hp : IsP n p) : ∀ k, pw n (invN n p) k = invN n (pw n p k)
  | 0 => und_one.symm
  | k + 1 => by
    show thn (pw n (invN n p) k) (invN n p) = _
    rw [pw_inv hp k, ← und_mul hp (pw_isP hp k)]
    have e : thn p (pw n p k) = pw n p (1 + k) := by rw [pw_add hp, pw_one hp]
    rw [e, Nat.add_comm]
end
/-- so many times, undone below nought -/
def pz (n : Nat) (p : List Nat) (z : Int) : List Nat := if 0 ≤ z then pw n p z.toNat else pw n (invN n p) (-z).toNat
section
variable {n : Nat} {p : List Nat}
theorem pz_isP (hp : IsP n p) (z : Int) : IsP n (pz n p z) := by
  unfold pz
  split
  · exact pw_isP hp _
  · exact pw_isP (und_isP hp) _
theorem pz_mod (hp : IsP n p) {L : Nat} (h : pw n p L = List.range n) (hL : 0 < L) (z : Int) : pz n p z = pw n p (z % (L : Int)).toNat := by
  unfold pz
  split
  · rename_i hz
    obtain ⟨k, rfl⟩ := Int.eq_ofNat_of_zero_le hz
    rw [Int.toNat_natCast, pw_mod hp h k]
    congr 1
  · rename_i hz
    rw [pw_inv hp]
    refine (inv_of (pw_isP hp _) (pw_isP hp _) ?_).symm
    rw [← pw_add hp, pw_mod hp h]
    have hm : ((-z).toNat + (z % (L : Int)).toNat) % L = 0 := by
      have h1 : 0 ≤ z % (L : Int) := Int.emod_nonneg _ (by omega)
      have h2 : (((-z).toNat + (z % (L : Int)).toNat : Nat) : Int) = (L : Int) * (-(z / (L : Int))) := by
        have := Int.emod_add_mul_ediv z (L : Int)
        rw [Int.mul_neg]
        omega
      have h3 : (((-z).toNat + (z % (L : Int)).toNat : Nat) : Int) % (L : Int) = 0 := by
        rw [h2]
        exact Int.mul_emod_right _ _
      omega
    rw [hm]
    rfl
end
theorem rs_ex {n : Nat} {t : List Nat} (ht : IsP n t) : ∃ rs, RsInv n t n rs := by
  have key : ∀ i, i ≤ n → ∃ rs, RsInv n t i rs := fun i => by
    induction i with
    | zero => exact fun _ => ⟨[], RsInv.zero⟩
    | succ i ih =>
      intro hi
      obtain ⟨rs, I⟩ := ih (by omega)
      obtain ⟨r, C⟩ := cyc_ex ht (p := i) (by omega)
      by_cases h : 2 ≤ r.length ∧ ∀ x ∈ r, i ≤ x
      · exact ⟨rs ++ [r], I.more C h.1 h.2⟩
      · exact ⟨rs, I.less C h⟩
  exact key n (Nat.le_refl _)
section
variable {n : Nat} {t : List Nat} {rs : List (List Nat)}
theorem ring_pw (ht : IsP n t) (R : RingsOk n t rs) {r : List Nat} (hr : r ∈ rs) {i a : Nat} (ha : r[i]? = some a) : ∀ k, some (ap (pw n t k) a) = r[(i + k) % r.length]?
  | 0 => by
    have hi := (List.getElem?_eq_some_iff.mp ha).1
    have han : a < n := R.lt a (List.mem_flatten.mpr ⟨r, hr, List.mem_of_getElem? ha⟩)
    show some (ap (List.range n) a) = _
    rw [ap_one han, Nat.add_zero, Nat.mod_eq_of_lt hi, ha]
  | k + 1 => by
    have ih := ring_pw ht R hr ha k
    have hi := (List.getElem?_eq_some_iff.mp ha).1
    have han : a < n := R.lt a (List.mem_flatten.mpr ⟨r, hr, List.mem_of_getElem? ha⟩)
    have h1 := R.on r hr _ _ ih.symm
    have hbn : ap (pw n t k) a < n := ap_lt (pw_isP ht k) han
    show some (ap (thn (pw n t k) t) a) = _
    rw [ap_thn (by rw [isP_len (pw_isP ht k)]; exact han)]
    rw [ap_get (u := t) (by rw [isP_len ht]; exact hbn)] at h1
    rw [h1, Nat.mod_add_mod]
    rfl
theorem off_pw (ht : IsP n t) (R : RingsOk n t rs) {x : Nat} (hx : x < n) (hn : x ∉ rs.flatten) : ∀ k, ap (pw n t k) x = x
  | 0 => ap_one hx
  | k + 1 => by
    show ap (thn (pw n t k) t) x = _
    rw [ap_thn (by rw [isP_len (pw_isP ht k)]; exact hx), off_pw ht R hx hn k]
    exact ap_of (R.off x hx hn)
/-- a row that goes on so far along each ring -/
theorem rings_pw (ht : IsP n t) (R : RingsOk n t rs) {F : List Nat} {k : Nat} (hF : F.length = n) (h1 : ∀ r ∈ rs, ∀ i a, r[i]? = some a → F[a]? = r[(i + k) % r.length]?) (h2 : ∀ x, x < n → x ∉ rs.flatten → F[x]? = some x) : F = pw n t k := by
  have hl := isP_len (pw_isP ht k)
  apply List.ext_getElem?
  intro x
  by_cases hx : x < n
  · rw [ap_get (u := pw n t k) (by omega)]
    by_cases hm : x ∈ rs.flatten
    · obtain ⟨r, hr, hxr⟩ := List.mem_flatten.mp hm
      obtain ⟨i, hi⟩ := List.getElem?_of_mem hxr
      rw [h1 r hr i x hi, ring_pw ht R hr hi]
    · rw [h2 x hx hm, off_pw ht R hx hm]
  · rw [List.getElem?_eq_none (by omega), List.getElem?_eq_none (by omega)]
/-- after how many times nothing is changed, by the rings -/
def ordL (rs : List (List Nat)) : Nat := rs.foldl (fun f r => f * r.length / Nat.gcd f r.length) 1
theorem ord_fold : ∀ (rs : List (List Nat)) (f : Nat), 0 < f → (∀ r ∈ rs, 2 ≤ r.length) → 0 < rs.foldl (fun f r => f * r.length / Nat.gcd f r.length) f ∧ f ∣ rs.foldl (fun f r => f * r.length / Nat.gcd f r.length) f ∧
    (∀ r ∈ rs, r.length ∣ rs.foldl (fun f r => f * r.length / Nat.gcd f r.length) f) ∧ rs.foldl (fun f r => f * r.length / Nat.gcd f r.length) f ≤ f * 2 ^ rs.flatten.length
  | [], f, hf, _ => ⟨hf, Nat.dvd_refl _, fun r h => absurd h List.not_mem_nil, by show f ≤ f * 2 ^ 0; omega⟩
  | r :: rs, f, hf, h2 => by
    have hr := h2 r List.mem_cons_self
    have hl : 0 < Nat.lcm f r.length := Nat.lcm_pos hf (by omega)
    obtain ⟨g1, g2, g3, g4⟩ := ord_fold rs (Nat.lcm f r.length) hl fun s hs => h2 s (List.mem_cons_of_mem _ hs)
    refine ⟨g1, Nat.dvd_trans (Nat.dvd_lcm_left _ _) g2, fun s hs => ?_, Nat.le_trans g4 ?_⟩
    · rcases List.mem_cons.mp hs with z | z
      · rw [z]
        exact Nat.dvd_trans (Nat.dvd_lcm_right _ _) g2
      · exact g3 s z
    · rw [List.flatten_cons, List.length_append, Nat.pow_add, ← Nat.mul_assoc]
      refine Nat.mul_le_mul_right _ ?_
      have h3 : Nat.lcm f r.length ≤ f * r.length := Nat.div_le_self _ _
      exact Nat.le_trans h3 (Nat.mul_le_mul_left _ (Nat.le_of_lt Nat.lt_two_pow_self))
theorem ordL_pos (R : RingsOk n t rs) : 0 < ordL rs := (ord_fold rs 1 (by decide) R.two).1
theorem ordL_le (R : RingsOk n t rs) : ordL rs ≤ 2 ^ n := by
  have := (ord_fold rs 1 (by decide) R.two).2.2.2
  rw [Nat.one_mul] at this
  exact Nat.le_trans this (Nat.pow_le_pow_right (by decide) R.flat)
theorem ordL_one (ht : IsP n t) (R : RingsOk n t rs) : pw n t (ordL rs) = List.range n := by
  refine (rings_pw ht R List.length_range (fun r hr i a ha => ?_) fun x hx _ => List.getElem?_range hx).symm
  have han : a < n := R.lt a (List.mem_flatten.mpr ⟨r, hr, List.mem_of_getElem? ha⟩)
  have hi := (List.getElem?_eq_some_iff.mp ha).1
  obtain ⟨q, hq⟩ := (ord_fold rs 1 (by decide) R.two).2.2.1 r hr
  rw [List.getElem?_range han, show ordL rs = r.length * q from hq, Nat.add_mul_mod_self_left, Nat.mod_eq_of_lt hi, ha]
end
/-- some power changes nothing -/
theorem pw_ex {n : Nat} {t : List Nat} (ht : IsP n t) : ∃ L, 0 < L ∧ L ≤ 2 ^ n ∧ pw n t L = List.range n := by
  obtain ⟨rs, I⟩ := rs_ex ht
  have R := I.ok ht
  exact ⟨ordL rs, ordL_pos R, ordL_le R, ordL_one ht R⟩
theorem pz_add {n : Nat} {t : List Nat} (ht : IsP n t) (a b : Int) : pz n t (a + b) = thn (pz n t a) (pz n t b) := by
  obtain ⟨L, hL, _, h⟩ := pw_ex ht
  rw [pz_mod ht h hL, pz_mod ht h hL, pz_mod ht h hL, ← pw_add ht, pw_mod ht h ((a % (L : Int)).toNat + _)]
  congr 1
  have h1 : 0 ≤ a % (L : Int) := Int.emod_nonneg _ (by omega)
  have h2 : 0 ≤ b % (L : Int) := Int.emod_nonneg _ (by omega)
  have h3 : 0 ≤ (a + b) % (L : Int) := Int.emod_nonneg _ (by omega)
  have h4 : (((a % (L : Int)).toNat + (b % (L : Int)).toNat : Nat) : Int) % (L : Int) = (a + b) % (L : Int) := by
    rw [show (((a % (L : Int)).toNat + (b % (L : Int)).toNat : Nat) : Int) = a % (L : Int) + b % (L : Int) by omega, ← Int.add_emod]
  omega
theorem pz_zero {n : Nat} {t : List Nat} : pz n t 0 = List.range n := rfl
abbrev Wd := List (Nat × Int)
def posW (n : Nat) (ts : List (List Nat)) (w : Wd) : List Nat := w.foldl (fun f e => thn f (pz n (ts.getD e.1 []) e.2)) (List.range n)
section
variable {n : Nat} {ts : List (List Nat)}
def InW (ts : List (List Nat)) (w : Wd) : Prop := ∀ e ∈ w, e.1 < ts.length
theorem getD_isP (hts : ∀ t ∈ ts, IsP n t) {j : Nat} (h : j < ts.length) : IsP n (ts.getD j []) := by
  rw [List.getD_eq_getElem?_getD, List.getElem?_eq_getElem h, Option.getD_some]
  exact hts _ (List.getElem_mem h)
theorem posW_snoc (w : Wd) (e : Nat × Int) : posW n ts (w ++ [e]) = thn (posW n ts w) (pz n (ts.getD e.1 []) e.2) := by
  unfold posW
  rw [List.foldl_append]
  rfl
theorem posW_isP (hts : ∀ t ∈ ts, IsP n t) {w : Wd} : InW ts w → IsP n (posW n ts w) := by
  refine snoc_ind (P := fun w => InW ts w → IsP n (posW n ts w)) (fun _ => one_isP n) (fun w e ih h => ?_) w
  rw [posW_snoc]
  exact thn_isP (ih fun e he => h e (List.mem_append_left _ he)) (pz_isP (getD_isP hts (h e (by simp))) _)
theorem posW_app (hts : ∀ t ∈ ts, IsP n t) {v w : Wd} (hv : InW ts v) : InW ts w → posW n ts (v ++ w) = thn (posW n ts v) (posW n ts w) := by
  refine snoc_ind (P := fun w => InW ts w → posW n ts (v ++ w) = thn (posW n ts v) (posW n ts w)) (fun _ => ?_) (fun w e ih hw => ?_) w
  · rw [List.append_nil]
    exact (thn_one (posW_isP hts hv)).symm
  · have hw' : InW ts w := fun e he => hw e (List.mem_append_left _ he)
    rw [← List.append_assoc, posW_snoc, posW_snoc, ih hw', thn_assoc (posW_isP hts hv) (posW_isP hts hw')]
end
end WT
set_option maxHeartbeats 1000000
namespace WT
/-- what has been seen: whole rings, of all places below i -/
structure Seen (n : Nat) (t : List Nat) (i : Nat) (D : List Nat) : Prop where
  nd : D.Nodup
  lt : ∀ x ∈ D, x < n
  low : ∀ x, x < i → x ∈ D
  cl : ∀ x y, t[x]? = some y → (x ∈ D ↔ y ∈ D)
  by_ : ∀ x ∈ D, ∃ p r, p < i ∧ Cyc n t p r ∧ x ∈ r
section
variable {n : Nat} {t D r : List Nat} {i : Nat}
theorem Cyc.back (C : Cyc n t i r) (ht : IsP n t) {x y : Nat} (h : t[x]? = some y) (hy : y ∈ r) : x ∈ r := by
  obtain ⟨j, hj⟩ := List.getElem?_of_mem hy
  have hjl := (List.getElem?_eq_some_iff.mp hj).1
  have hpos := C.pos
  cases j with
  | zero =>
    obtain ⟨l, hl⟩ : ∃ l, r[r.length - 1]? = some l := ⟨_, List.getElem?_eq_getElem (by omega)⟩
    have h1 := C.cl l hl
    rw [C.hd] at hj
    cases hj
    rw [isP_one ht h h1]
    exact List.mem_of_getElem? hl
  | succ j =>
    obtain ⟨b, hb⟩ : ∃ b, r[j]? = some b := ⟨_, List.getElem?_eq_getElem (by omega)⟩
    have h1 := C.st j b hb (by omega)
    rw [hj] at h1
    rw [isP_one ht h h1]
    exact List.mem_of_getElem? hb
/-- a new ring -/
theorem Seen.new (S : Seen n t i D) (ht : IsP n t) (hin : i < n) (C : Cyc n t i r) (hr : ∀ x ∈ r, x ∉ D) {rs : List (List Nat)} (I : RsInv n t i rs) : Seen n t (i + 1) (D ++ r) ∧ (2 ≤ r.length → RsInv n t (i + 1) (rs ++ [r])) ∧ (¬ 2 ≤ r.length → RsInv n t (i + 1) rs) := by
  have hge : ∀ x ∈ r, i ≤ x := fun x hx => by
    by_cases h : i ≤ x
    · exact h
    · exact absurd (S.low x (by omega)) (hr x hx)
  refine ⟨⟨?_, fun x hx => ?_, fun x hx => ?_, fun x y h => ?_, fun x hx => ?_⟩, fun h2 => I.more C h2 hge, fun h2 => I.less C fun h => h2 h.1⟩
  · rw [List.nodup_append]
    exact ⟨S.nd, C.nd, fun x hx y hy e => hr y hy (e ▸ hx)⟩
  · rcases List.mem_append.mp hx with z | z
    · exact S.lt x z
    · exact C.lt x z
  · rcases Nat.lt_or_eq_of_le (Nat.le_of_lt_succ hx) with z | z
    · exact List.mem_append_left _ (S.low x z)
    · rw [z]
      exact List.mem_append_right _ (List.mem_of_getElem? C.hd)
  · rw [List.mem_append, List.mem_append, S.cl x y h]
    exact ⟨fun z => z.elim .inl fun z => .inr (C.stay z h), fun z => z.elim .inl fun z => .inr (C.back ht h z)⟩
  · rcases List.mem_append.mp hx with z | z
    · obtain ⟨p, s, h1, h2⟩ := S.by_ x z
      exact ⟨p, s, by omega, h2⟩
    · exact ⟨i, r, Nat.lt_succ_self _, C, z⟩
end
end WT
namespace WT
theorem asc_eq : ∀ {a b : List (List Nat)}, (a.Pairwise fun r s => r.headD 0 < s.headD 0) → (b.Pairwise fun r s => r.headD 0 < s.headD 0) → (∀ x, x ∈ a ↔ x ∈ b) → a = b
  | [], [], _, _, _ => rfl
  | [], y :: b, _, _, h => absurd ((h y).mpr List.mem_cons_self) List.not_mem_nil
  | x :: a, [], _, _, h => absurd ((h x).mp List.mem_cons_self) List.not_mem_nil
  | x :: a, y :: b, ha, hb, h => by
    obtain ⟨a1, a2⟩ := List.pairwise_cons.mp ha
    obtain ⟨b1, b2⟩ := List.pairwise_cons.mp hb
    have e : x = y := Classical.byContradiction fun hne => by
      rcases List.mem_cons.mp ((h x).mp List.mem_cons_self) with z | z
      · exact hne z
      · rcases List.mem_cons.mp ((h y).mpr List.mem_cons_self) with w | w
        · exact hne w.symm
        · have := b1 x z
          have := a1 y w
          omega
    subst e
    have key : ∀ z, z ∈ a ↔ z ∈ b := fun z => by
      constructor
      · intro hz
        rcases List.mem_cons.mp ((h z).mp (List.mem_cons_of_mem _ hz)) with w | w
        · have := a1 z hz
          rw [w] at this
          omega
        · exact w
      · intro hz
        rcases List.mem_cons.mp ((h z).mpr (List.mem_cons_of_mem _ hz)) with w | w
        · have := b1 z hz
          rw [w] at this
          omega
        · exact w
    rw [asc_eq a2 b2 key]
theorem RsInv.uniq {n : Nat} {t : List Nat} {i : Nat} {rs ss : List (List Nat)} (I : RsInv n t i rs) (J : RsInv n t i ss) : rs = ss := asc_eq I.asc J.asc fun x => ⟨fun h => by
  obtain ⟨p, h1, h2, h3, h4⟩ := I.cyc x h
  exact J.all p x h1 h2 h3 h4, fun h => by
  obtain ⟨p, h1, h2, h3, h4⟩ := J.cyc x h
  exact I.all p x h1 h2 h3 h4⟩
end WT
namespace WT
open PySem PySem.Spec PyProof.Rows L2 Evl
section
variable {K : PySem.W.Frag} {C a : Addr} {o : LOwn} {n : Nat} {c : Ch} {H : Hp}
theorem own_ne {o : LOwn} {a : Addr} (nd : (o.all a).Nodup) : (∀ p q : Nat, ∀ x y : Addr, o.dl[p]? = some x → o.dl[q]? = some y → x = y → p = q) ∧ (∀ p q : Nat, ∀ x y : Addr, o.kl[p]? = some x → o.kl[q]? = some y → x = y → p = q) ∧ (∀ x ∈ o.dl, x ∉ o.kl) ∧
    (∀ x ∈ o.dl ++ o.kl, x ≠ a ∧ x ≠ o.dx ∧ x ≠ o.ln ∧ x ≠ o.kn ∧ x ≠ o.sg) ∧ (o.sg ≠ a ∧ o.sg ≠ o.dx ∧ o.sg ≠ o.ln ∧ o.sg ≠ o.kn) := by
  unfold LOwn.all at nd
  obtain ⟨n1, nd⟩ := List.nodup_cons.mp nd
  obtain ⟨n2, nd⟩ := List.nodup_cons.mp nd
  obtain ⟨n3, nd⟩ := List.nodup_cons.mp nd
  obtain ⟨n4, nd⟩ := List.nodup_cons.mp nd
  obtain ⟨n5, nd⟩ := List.nodup_cons.mp nd
  obtain ⟨d1, d2, d3⟩ := List.nodup_append.mp nd
  refine ⟨fun p q x y hx hy e => ?_, fun p q x y hx hy e => ?_, fun x hx hk => d3 x hx x hk rfl, fun x hx => ⟨fun z => n1 ?_, fun z => n2 ?_, fun z => n3 ?_, fun z => n4 ?_, fun z => n5 ?_⟩, fun z => n1 ?_, fun z => n2 ?_, fun z => n3 ?_, fun z => n4 ?_⟩
  · exact (List.getElem?_inj (List.getElem?_eq_some_iff.mp hx).1 d1).mp (by rw [hx, hy, e])
  · exact (List.getElem?_inj (List.getElem?_eq_some_iff.mp hx).1 d2).mp (by rw [hx, hy, e])
  · exact z ▸ List.mem_cons_of_mem _ (List.mem_cons_of_mem _ (List.mem_cons_of_mem _ (List.mem_cons_of_mem _ hx)))
  · exact z ▸ List.mem_cons_of_mem _ (List.mem_cons_of_mem _ (List.mem_cons_of_mem _ hx))
  · exact z ▸ List.mem_cons_of_mem _ (List.mem_cons_of_mem _ hx)
  · exact z ▸ List.mem_cons_of_mem _ hx
  · exact z ▸ hx
  · rw [← z]
    simp
  · rw [← z]
    simp
  · rw [← z]
    simp
  · rw [← z]
    simp
theorem LAt.app (L : LAt K C a o n c H) {r : List Nat} {v : V} {xs : List V} (hx : H o.sg = some (.lst xs)) (fx : FzL K H (c.strong.map tN) xs) (fv : Fz K H (tN r) v) : LAt K C a o n (c.app r) (upd H o.sg (.lst (xs ++ [v]))) := by
  obtain ⟨i1, i2, i3, i4, j1, j2, j3, j4⟩ := own_ne L.nd
  have tx : TEx H (upd H o.sg (.lst (xs ++ [v]))) := tex_lst hx
  refine ⟨?_, L.nd, by rw [upd_ne j3.symm]; exact L.lanes, by rw [upd_ne j4.symm]; exact L.known, ⟨xs ++ [v], upd_same, ?_⟩, L.dn, fun p' q' hq' => ?_, L.kn, fun p' q' hq' => ?_⟩
  · rcases L.slt with ⟨h1, h2⟩ | ⟨h1, h2⟩
    · exact .inl ⟨by rw [upd_ne j1.symm]; exact h1, h2⟩
    · exact .inr ⟨by rw [upd_ne j1.symm]; exact h1, by rw [upd_ne j2.symm]; exact h2⟩
  · show FzL K _ ((c.strong ++ [r]).map tN) _
    rw [List.map_append]
    exact fzl_append (FzL.mono tx _ _ fx) (fzl_cons (Fz.mono tx _ _ fv) fzl_nil)
  · obtain ⟨kv', hk', hD'⟩ := L.dk p' q' hq'
    have e := (i4 q' (List.mem_append_left _ (List.mem_of_getElem? hq'))).2.2.2.2
    exact ⟨kv', by rw [upd_ne e]; exact hk', hD'.tex tx⟩
  · obtain ⟨kv', hk', hD'⟩ := L.kk p' q' hq'
    have e := (i4 q' (List.mem_append_right _ (List.mem_of_getElem? hq'))).2.2.2.2
    exact ⟨kv', by rw [upd_ne e]; exact hk', hD'⟩
/-- a fresh address is none of the parts -/
theorem LAt.fresh (L : LAt K C a o n c H) {q : Addr} (h : H q = none) : q ∉ o.all a := fun hm => by
  unfold LOwn.all at hm
  rcases List.mem_cons.mp hm with z | hm
  · subst z
    rcases L.slt with ⟨h1, _⟩ | ⟨h1, _⟩ <;> rw [h] at h1 <;> cases h1
  · rcases List.mem_cons.mp hm with z | hm
    · subst z
      rcases L.slt with ⟨_, h2⟩ | ⟨_, h2⟩
      · cases h2
      · rw [h] at h2
        cases h2
    · rcases List.mem_cons.mp hm with z | hm
      · subst z
        rw [L.lanes] at h
        cases h
      · rcases List.mem_cons.mp hm with z | hm
        · subst z
          rw [L.known] at h
          cases h
        · rcases List.mem_cons.mp hm with z | hm
          · subst z
            obtain ⟨ys, h1, _⟩ := L.strong
            rw [h1] at h
            cases h
          · rcases List.mem_append.mp hm with z | z
            · obtain ⟨i, hi⟩ := List.getElem?_of_mem z
              obtain ⟨kvs, h1, _⟩ := L.dk i _ hi
              rw [h1] at h
              cases h
            · obtain ⟨i, hi⟩ := List.getElem?_of_mem z
              obtain ⟨kvs, h1, _⟩ := L.kk i _ hi
              rw [h1] at h
              cases h
end
end WT
namespace WT
open PySem PySem.Spec PyProof.Rows L2 Evl
theorem nodup_le {α : Type} [DecidableEq α] {l m : List α} (nd : l.Nodup) (h : ∀ x ∈ l, x ∈ m) : l.length ≤ m.length := by
  induction l generalizing m with
  | nil => exact Nat.zero_le _
  | cons x l ih =>
    obtain ⟨n1, n2⟩ := List.nodup_cons.mp nd
    have hx := h x List.mem_cons_self
    have h1 := ih (m := m.erase x) n2 fun y hy => (List.mem_erase_of_ne (show y ≠ x from fun z => n1 (z ▸ hy))).mpr (h y (List.mem_cons_of_mem _ hy))
    rw [List.length_erase_of_mem hx] at h1
    have : 0 < m.length := List.length_pos_of_mem hx
    rw [List.length_cons]
    omega
/-- lanes grown -/
def Grown (n : Nat) (c c' : Ch) : Prop := ∀ p, p < n → ∀ e ∈ c.lane p, e ∈ c'.lane p
theorem Grown.refl (n : Nat) (c : Ch) : Grown n c c := fun _ _ _ h => h
theorem Grown.trans {n : Nat} {c c1 c2 : Ch} (a : Grown n c c1) (b : Grown n c1 c2) : Grown n c c2 := fun p hp e h => b p hp e (a p hp e h)
end WT
namespace WT
open PySem PySem.Spec PyProof.Rows L2 Evl
def kI (f : List Nat) : List Key := f.map fun x : Nat => (Sum.inl (x : Int) : Key)
def kT (f : List Nat) : List Key × V := (kI f, .bl true)
theorem kI_inj {f g : List Nat} (h : kI f = kI g) : f = g := by
  unfold kI at h
  exact map_inj (fun x y e => by injection e with e; omega) h
end WT
namespace WT
open PySem PySem.Spec PyProof.Rows L2 Evl SX
def pD (ns : List (List Nat)) (e : Nat × Int) : PyData := .tuple [sD (ns.getD e.1 []), .int e.2]
def wD (ns : List (List Nat)) (W : Wd) : PyData := .tuple (W.map (pD ns))
theorem getD_get {α : Type} {l : List α} {j : Nat} {d : α} (h : j < l.length) : l[j]? = some (l.getD j d) := by
  rw [List.getD_eq_getElem?_getD, List.getElem?_eq_getElem h, Option.getD_some]
section
variable {K : PySem.W.Frag} {σ : L2.St} {H : Hp} {ta tb : TE}
theorem c_tup {tr : TA} {Q : VK} (h : tr σ H fun xs H1 => xs.length ≤ sizeLine ∧ ∀ p, H1 p = none → Q (.ref p) (upd H1 p (.tup xs))) : tTup tr σ H Q := h
end
end WT
set_option maxHeartbeats 1000000
namespace WT
/-- a row of unlike places -/
def RowOk (m : Nat) (r : List Nat) : Prop := r.Nodup ∧ ∀ x ∈ r, x < m
section
variable {m : Nat} {ts : List (List Nat)} {r u v : List Nat}
theorem row_thn (hr : ∀ x ∈ r, x < u.length) : thn (thn r u) v = thn r (thn u v) := by
  unfold thn
  rw [List.map_map]
  apply List.map_congr_left
  intro x hx
  have := ap_thn (u := u) (v := v) (hr x hx)
  unfold thn at this
  exact this.symm
theorem row_one (hr : ∀ x ∈ r, x < m) : thn r (List.range m) = r := by
  unfold thn
  have : ∀ x ∈ r, ap (List.range m) x = x := fun x hx => ap_one (hr x hx)
  rw [List.map_congr_left this, List.map_id']
theorem row_ok (hr : RowOk m r) (hu : IsP m u) : RowOk m (thn r u) := by
  have hl := isP_len hu
  refine ⟨?_, fun x hx => ?_⟩
  · unfold thn
    exact List.pairwise_map.mpr (List.Pairwise.imp_of_mem (fun {a b} ha hb hne e => hne (ap_inj hu (hr.2 a ha) (hr.2 b hb) e)) hr.1)
  · unfold thn at hx
    obtain ⟨y, hy, rfl⟩ := List.mem_map.mp hx
    exact ap_lt hu (hr.2 y hy)
/-- rows that are come to -/
def Reach (m : Nat) (ts : List (List Nat)) (one r : List Nat) : Prop := ∃ w : Wd, InW ts w ∧ r = thn one (posW m ts w)
variable {one : List Nat}
theorem Reach.refl (h1 : ∀ x ∈ one, x < m) : Reach m ts one one := ⟨[], fun e h => absurd h List.not_mem_nil, (row_one h1).symm⟩
theorem Reach.step (hts : ∀ t ∈ ts, IsP m t) (h1 : ∀ x ∈ one, x < m) (h : Reach m ts one r) {j : Nat} (hj : j < ts.length) (z : Int) : Reach m ts one (thn r (pz m (ts.getD j []) z)) := by
  obtain ⟨w, hw, rfl⟩ := h
  refine ⟨w ++ [(j, z)], fun e he => ?_, ?_⟩
  · rcases List.mem_append.mp he with q | q
    · exact hw e q
    · rw [List.mem_singleton.mp q]; exact hj
  · rw [posW_snoc, row_thn (fun x hx => by rw [isP_len (posW_isP hts hw)]; exact h1 x hx)]
theorem Reach.ok (hts : ∀ t ∈ ts, IsP m t) (h1 : RowOk m one) (h : Reach m ts one r) : RowOk m r ∧ r.length = one.length := by
  obtain ⟨w, hw, rfl⟩ := h
  exact ⟨row_ok h1 (posW_isP hts hw), thn_len _ _⟩
/-- a lot that turns lead into itself has all that is come to -/
theorem closed_all {F : List (List Nat)} (hts : ∀ t ∈ ts, IsP m t) (h1 : ∀ x ∈ one, x < m) (h : one ∈ F) (hF : ∀ r ∈ F, ∀ x ∈ r, x < m) (hc : ∀ r ∈ F, ∀ j, j < ts.length → thn r (ts.getD j []) ∈ F) {s : List Nat} (hs : Reach m ts one s) : s ∈ F := by
  have hpw : ∀ r ∈ F, ∀ j, j < ts.length → ∀ k, thn r (pw m (ts.getD j []) k) ∈ F := fun r hr j hj k => by
    have ht := getD_isP hts hj
    induction k with
    | zero =>
      show thn r (List.range m) ∈ F
      rw [row_one (hF r hr)]
      exact hr
    | succ k ih =>
      show thn r (thn (pw m (ts.getD j []) k) (ts.getD j [])) ∈ F
      rw [← row_thn (fun x hx => by rw [isP_len (pw_isP ht k)]; exact hF r hr x hx)]
      exact hc _ ih j hj
  obtain ⟨w, hw, rfl⟩ := hs
  have key : InW ts w → thn one (posW m ts w) ∈ F := by
    refine snoc_ind (P := fun w => InW ts w → thn one (posW m ts w) ∈ F) (fun _ => ?_) (fun w e ih hw => ?_) w
    · show thn one (List.range m) ∈ F
      rw [row_one h1]
      exact h
    · have hw' : InW ts w := fun e he => hw e (List.mem_append_left _ he)
      have hj := hw e (by simp)
      obtain ⟨L, hL, _, hLo⟩ := pw_ex (getD_isP hts hj)
      rw [posW_snoc, ← row_thn (fun x hx => by rw [isP_len (posW_isP hts hw')]; exact h1 x hx), pz_mod (getD_isP hts hj) hLo hL]
      exact hpw _ (ih hw') _ hj _
  exact key hw
/-- what is come to comes back -/
theorem Reach.back (hts : ∀ t ∈ ts, IsP m t) (h1 : ∀ x ∈ one, x < m) (h : Reach m ts one r) : Reach m ts r one := by
  obtain ⟨w, hw, rfl⟩ := h
  have key : InW ts w → Reach m ts (thn one (posW m ts w)) one := by
    refine snoc_ind (P := fun w => InW ts w → Reach m ts (thn one (posW m ts w)) one) (fun _ => ?_) (fun w e ih hw => ?_) w
    · show Reach m ts (thn one (List.range m)) one
      rw [row_one h1]
      exact Reach.refl h1
    · have hw' : InW ts w := fun e he => hw e (List.mem_append_left _ he)
      have hj := hw e (by simp)
      have ht := getD_isP hts hj
      have pP := posW_isP hts hw'
      obtain ⟨v, hv, hv2⟩ := ih hw'
      have hin : InW ts ([(e.1, -e.2)] ++ v) := fun x hx => by
        rcases List.mem_append.mp hx with q | q
        · rw [List.mem_singleton.mp q]; exact hj
        · exact hv x q
      have h2 : ∀ x ∈ thn one (posW m ts w), x < m := fun x hx => by
        unfold thn at hx
        obtain ⟨y, hy, rfl⟩ := List.mem_map.mp hx
        exact ap_lt pP (h1 y hy)
      have hone : InW ts [(e.1, -e.2)] := fun x hx => by rw [List.mem_singleton.mp hx]; exact hj
      refine ⟨_, hin, ?_⟩
      rw [posW_app hts hone hv, posW_snoc, ← row_thn (u := posW m ts w) (fun x hx => by rw [isP_len pP]; exact h1 x hx)]
      have e1 : posW m ts [(e.1, -e.2)] = pz m (ts.getD e.1 []) (-e.2) := by
        show thn (List.range m) (pz m (ts.getD e.1 []) (-e.2)) = _
        exact one_thn (pz_isP ht _)
      rw [e1, row_thn (u := pz m (ts.getD e.1 []) e.2) (fun x hx => by rw [isP_len (pz_isP ht _)]; exact h2 x hx), ← thn_assoc (pz_isP ht _) (pz_isP ht _), ← pz_add ht, Int.add_right_neg, pz_zero, one_thn (posW_isP hts hv)]
      exact hv2
  exact key hw
end
def rowsN (m : Nat) : Nat → List (List Nat)
  | 0 => [[]]
  | k + 1 => (rowsN m k).flatMap fun r => (List.range m).map fun x => x :: r
theorem rowsN_len (m : Nat) : ∀ k, (rowsN m k).length = m ^ k
  | 0 => rfl
  | k + 1 => by
    unfold rowsN
    rw [List.length_flatMap]
    have : ∀ l : List (List Nat), (l.map fun r => ((List.range m).map fun x => x :: r).length).sum = l.length * m := fun l => by
      induction l with
      | nil => simp
      | cons a l ih => rw [List.map_cons, List.sum_cons, ih, List.length_map, List.length_range, List.length_cons, Nat.add_mul, Nat.one_mul, Nat.add_comm]
    rw [this, rowsN_len m k, Nat.pow_succ]
theorem rowsN_mem {m : Nat} : ∀ {k : Nat} {r : List Nat}, r.length = k → (∀ x ∈ r, x < m) → r ∈ rowsN m k
  | 0, r, h, _ => by rw [List.eq_nil_of_length_eq_zero h]; exact List.mem_singleton.mpr rfl
  | k + 1, [], h, _ => by cases h
  | k + 1, x :: r, h, hx => by
    unfold rowsN
    exact List.mem_flatMap.mpr ⟨r, rowsN_mem (by simpa using h) fun y hy => hx y (List.mem_cons_of_mem _ hy), List.mem_map.mpr ⟨x, List.mem_range.mpr (hx x List.mem_cons_self), rfl⟩⟩
theorem rows_few {m k : Nat} {F : List (List Nat)} (nd : F.Nodup) (h : ∀ r ∈ F, RowOk m r ∧ r.length = k) (hm : m ≤ 6) (hk : k ≤ 3) : F.length ≤ 216 := by
  have h1 := nodup_le nd (m := rowsN m k) fun r hr => rowsN_mem (h r hr).2 (h r hr).1.2
  rw [rowsN_len] at h1
  refine Nat.le_trans h1 (Nat.le_trans (Nat.pow_le_pow_left hm k) ?_)
  exact Nat.le_trans (Nat.pow_le_pow_right (by decide) hk) (by decide)
abbrev WayL := List (List Nat × Option (List Nat × Nat × Int))
structure Ways (m : Nat) (ts : List (List Nat)) (one : List Nat) (L : WayL) : Prop where
  nd : (L.map (·.1)).Nodup
  hd : L[0]? = some (one, none)
  st : ∀ (k : Nat) (r p : List Nat) (j : Nat) (z : Int), L[k]? = some (r, some (p, j, z)) → (∃ (k' : Nat) (o : Option (List Nat × Nat × Int)), k' < k ∧ L[k']? = some (p, o)) ∧ j < ts.length ∧ (z = 1 ∨ z = -1) ∧ r = thn p (pz m (ts.getD j []) z)
  nn : ∀ (k : Nat) (r : List Nat), L[k]? = some (r, none) → k = 0
section
variable {m : Nat} {ts : List (List Nat)} {one : List Nat} {L : WayL}
theorem Ways.start (one : List Nat) : Ways m ts one [(one, none)] := ⟨by simp, rfl, fun k r p j z h => by
  cases k with
  | zero => cases h
  | succ k => simp at h, fun k r h => by
  cases k with
  | zero => rfl
  | succ k => simp at h⟩
theorem Ways.more (W : Ways m ts one L) {k : Nat} {p : List Nat} {o : Option (List Nat × Nat × Int)} (hk : L[k]? = some (p, o)) {j : Nat} (hj : j < ts.length) {z : Int} (hz : z = 1 ∨ z = -1) (hn : thn p (pz m (ts.getD j []) z) ∉ L.map (·.1)) : Ways m ts one (L ++ [(thn p (pz m (ts.getD j []) z), some (p, j, z))]) := by
  have hkl := (List.getElem?_eq_some_iff.mp hk).1
  refine ⟨?_, ?_, fun k' r' p' j' z' h => ?_, fun k' r' h => ?_⟩
  · rw [List.map_append, List.nodup_append]
    exact ⟨W.nd, by simp, fun x hx y hy e => hn (by rw [List.map_cons, List.map_nil, List.mem_singleton] at hy; rw [e, hy] at hx; exact hx)⟩
  · rw [List.getElem?_append_left (by omega)]
    exact W.hd
  · by_cases hl : k' < L.length
    · rw [List.getElem?_append_left hl] at h
      obtain ⟨⟨k2, o2, h1, h2⟩, h3⟩ := W.st k' r' p' j' z' h
      exact ⟨⟨k2, o2, h1, by rw [List.getElem?_append_left (by omega)]; exact h2⟩, h3⟩
    · have hil := (List.getElem?_eq_some_iff.mp h).1
      rw [List.length_append, List.length_singleton] at hil
      have e : k' = L.length := by omega
      subst e
      rw [List.getElem?_concat_length] at h
      cases h
      exact ⟨⟨k, o, hkl, by rw [List.getElem?_append_left hkl]; exact hk⟩, hj, hz, rfl⟩
  · by_cases hl : k' < L.length
    · rw [List.getElem?_append_left hl] at h
      exact W.nn k' r' h
    · have hil := (List.getElem?_eq_some_iff.mp h).1
      rw [List.length_append, List.length_singleton] at hil
      have e : k' = L.length := by omega
      subst e
      rw [List.getElem?_concat_length] at h
      cases h
theorem Ways.reach (W : Ways m ts one L) (hts : ∀ t ∈ ts, IsP m t) (h1 : ∀ x ∈ one, x < m) : ∀ (k : Nat) {r : List Nat} {o : Option (List Nat × Nat × Int)}, L[k]? = some (r, o) → Reach m ts one r := fun k => by
  induction k using Nat.strongRecOn with
  | _ k ih =>
    intro r o h
    cases o with
    | none =>
      have := W.nn k r h
      subst this
      rw [W.hd] at h
      cases h
      exact Reach.refl h1
    | some e =>
      obtain ⟨p, j, z⟩ := e
      obtain ⟨⟨k', o', hk, hp⟩, hj, _, rfl⟩ := W.st k r p j z h
      exact (ih k' hk hp).step hts h1 hj z
theorem Ways.row (W : Ways m ts one L) (hts : ∀ t ∈ ts, IsP m t) (h1 : RowOk m one) : ∀ r ∈ L.map (·.1), RowOk m r ∧ r.length = one.length := fun r hr => by
  obtain ⟨e, he, rfl⟩ := List.mem_map.mp hr
  obtain ⟨k, hk⟩ := List.getElem?_of_mem he
  exact (W.reach hts h1.2 k hk).ok hts h1
theorem Ways.few (W : Ways m ts one L) (hts : ∀ t ∈ ts, IsP m t) (h1 : RowOk m one) (hm : m ≤ 6) (hk : one.length ≤ 3) : L.length ≤ 216 := by
  have := rows_few W.nd (W.row hts h1) hm hk
  rwa [List.length_map] at this
/-- what a whole search has found is what is come to -/
theorem Ways.mem (W : Ways m ts one L) (hts : ∀ t ∈ ts, IsP m t) (h1 : RowOk m one) (hc : ∀ r ∈ L.map (·.1), ∀ j, j < ts.length → thn r (ts.getD j []) ∈ L.map (·.1)) {r : List Nat} : r ∈ L.map (·.1) ↔ Reach m ts one r := by
  refine ⟨fun h => ?_, fun h => closed_all hts h1.2 (List.mem_map.mpr ⟨_, List.mem_of_getElem? W.hd, rfl⟩) (fun r hr => (W.row hts h1 r hr).1.2) hc h⟩
  obtain ⟨e, he, rfl⟩ := List.mem_map.mp h
  obtain ⟨k, hk⟩ := List.getElem?_of_mem he
  exact W.reach hts h1.2 k hk
end
end WT
namespace L2
open PySem PySem.Spec PyProof.Rows
end L2
namespace WT
open PySem PySem.Spec PyProof.Rows L2 Evl SX
/-- plain tuples of numbers, one by one -/
def PuL (H : Hp) (rs : List (List Nat)) (xs : List V) : Prop := xs.length = rs.length ∧ ∀ (i : Nat) (r : List Nat), rs[i]? = some r → ∃ a, xs[i]? = some (.ref a) ∧ H a = some (.tup (vN r))
theorem PuL.mono {H H' : Hp} {rs : List (List Nat)} {xs : List V} (h : PuL H rs xs) (e : TEx H H') : PuL H' rs xs := ⟨h.1, fun i r hr => by
  obtain ⟨a, h1, h2⟩ := h.2 i r hr
  exact ⟨a, h1, e.tup h2⟩⟩
theorem PuL.ex {H H' : Hp} {rs : List (List Nat)} {xs : List V} (h : PuL H rs xs) (e : Ex H H') : PuL H' rs xs := h.mono (tex_of e)
theorem PuL.nil {H : Hp} : PuL H [] [] := ⟨rfl, fun i r h => by simp at h⟩
theorem PuL.cons {H : Hp} {rs : List (List Nat)} {xs : List V} {r : List Nat} {a : Addr} (h : PuL H rs xs) (ha : H a = some (.tup (vN r))) : PuL H (r :: rs) (.ref a :: xs) := ⟨by rw [List.length_cons, List.length_cons, h.1], fun i s hs => by
  cases i with
  | zero => cases (Option.some.inj hs); exact ⟨a, rfl, ha⟩
  | succ i => exact h.2 i s hs⟩
end WT
namespace WT
open PySem PySem.Spec PyProof.Rows L2 Evl SX
def WV (H : Hp) (ns : List (List Nat)) : Option (List Nat × Nat × Int) → V → Prop
  | none, v => v = .non
  | some (p, j, z), v => ∃ T q s, v = .ref T ∧ H T = some (.tup [.ref q, .ref s]) ∧ H q = some (.tup (vN p)) ∧ H s = some (.tup [.str (S (ns.getD j [])), .int z])
structure WKv (H : Hp) (ns : List (List Nat)) (L : WayL) (kvs : List (List Key × V)) : Prop where
  keys : kvs.map (·.1) = (L.map (·.1)).map kI
  vals : ∀ (k : Nat) (e : List Nat × Option (List Nat × Nat × Int)), L[k]? = some e → ∃ v, kvs[k]? = some (kI e.1, v) ∧ WV H ns e.2 v
section
variable {H H' : Hp} {ns : List (List Nat)} {L : WayL} {kvs : List (List Key × V)}
theorem WV.mono (e : TEx H H') : ∀ {o : Option (List Nat × Nat × Int)} {v : V}, WV H ns o v → WV H' ns o v
  | none, _, h => h
  | some (p, j, z), v, ⟨T, q, s, h1, h2, h3, h4⟩ => ⟨T, q, s, h1, e.tup h2, e.tup h3, e.tup h4⟩
theorem WKv.mono (h : WKv H ns L kvs) (e : TEx H H') : WKv H' ns L kvs := ⟨h.keys, fun k x hx => by
  obtain ⟨v, h1, h2⟩ := h.vals k x hx
  exact ⟨v, h1, h2.mono e⟩⟩
theorem valV_at {κ : Type} [DecidableEq κ] : ∀ {kvs : List (κ × V)} {i : Nat} {k : κ} {v : V}, (kvs.map (·.1)).Nodup → kvs[i]? = some (k, v) → valV kvs k = some v
  | [], i, k, v, _, h => by simp at h
  | p :: kvs, 0, k, v, _, h => by
    cases (Option.some.inj h)
    exact valV_pos rfl
  | p :: kvs, i + 1, k, v, nd, h => by
    rw [List.map_cons, List.nodup_cons] at nd
    have h' : kvs[i]? = some (k, v) := h
    rw [valV_neg (fun z => nd.1 (z ▸ List.mem_map.mpr ⟨(k, v), List.mem_of_getElem? h', rfl⟩))]
    exact valV_at nd.2 h'
theorem WKv.get (h : WKv H ns L kvs) (nd : (L.map (·.1)).Nodup) {k : Nat} {r : List Nat} {o : Option (List Nat × Nat × Int)} (hk : L[k]? = some (r, o)) : ∃ v, valV kvs (kI r) = some v ∧ WV H ns o v := by
  obtain ⟨v, h1, h2⟩ := h.vals k _ hk
  refine ⟨v, valV_at ?_ h1, h2⟩
  rw [h.keys]
  exact List.pairwise_map.mpr (nd.imp fun hne e => hne (kI_inj e))
theorem WKv.len (h : WKv H ns L kvs) : kvs.length = L.length := by
  have := congrArg List.length h.keys
  simpa using this
end
end WT
namespace WT
open PySem PySem.Spec PyProof.Rows L2
/-- going on without bound -/
def gGo : Nat → Nat → Nat
  | 0, x => x
  | n + 1, x => 5 * gGo n x + 1
theorem gGo_add (x : Nat) (a : Nat) : ∀ b, gGo (a + b) x = gGo b (gGo a x)
  | 0 => rfl
  | b + 1 => by
    show 5 * gGo (a + b) x + 1 = 5 * gGo b (gGo a x) + 1
    rw [gGo_add x a b]
theorem gGo_pow (x : Nat) : ∀ n, 4 * gGo n x + 1 = 5 ^ n * (4 * x + 1)
  | 0 => by
    show 4 * x + 1 = _
    rw [Nat.pow_zero, Nat.one_mul]
  | n + 1 => by
    have ih := gGo_pow x n
    show 4 * (5 * gGo n x + 1) + 1 = _
    rw [Nat.pow_succ, Nat.mul_comm (5 ^ n) 5, Nat.mul_assoc, ← ih]
    omega
theorem five_pow : ∀ k : Nat, ∃ v, 5 ^ 2 ^ k = 1 + 4 * (2 ^ k * (2 * v + 1))
  | 0 => ⟨0, rfl⟩
  | k + 1 => by
    obtain ⟨v, e⟩ := five_pow k
    generalize hA : 2 ^ k = A at e
    generalize hV : 2 * v + 1 = V at e
    refine ⟨v + A * (V * V), ?_⟩
    have e2 : 2 * (v + A * (V * V)) + 1 = V + 2 * (A * (V * V)) := by omega
    rw [e2, Nat.pow_succ 2 k, Nat.pow_mul, hA, e, Nat.pow_two]
    have d1 : A * 2 * (V + 2 * (A * (V * V))) = 2 * (A * V) + 4 * (A * (A * (V * V))) := by
      rw [Nat.mul_add, Nat.mul_comm A 2, Nat.mul_assoc 2 A V, Nat.mul_assoc 2 A, Nat.mul_left_comm A 2]
      omega
    have d2 : (A * V) * (A * V) = A * (A * (V * V)) := by
      rw [Nat.mul_assoc, Nat.mul_left_comm V A V]
    rw [d1]
    generalize A * V = W at d2 ⊢
    rw [← d2]
    have d3 : (1 + 4 * W) * (1 + 4 * W) = 1 + 8 * W + 16 * (W * W) := by
      rw [Nat.add_mul, Nat.mul_add, Nat.one_mul, Nat.mul_add, Nat.mul_one]
      have : 4 * W * (4 * W) = 16 * (W * W) := by
        rw [Nat.mul_assoc, Nat.mul_left_comm W 4 W]
        omega
      omega
    omega
/-- after 2 ^ k steps the k-th digit is another one -/
theorem gGo_two (k x : Nat) : ∃ u, gGo (2 ^ k) x = x + 2 ^ k * (2 * u + 1) := by
  obtain ⟨v, e⟩ := five_pow k
  have h := gGo_pow x (2 ^ k)
  rw [e] at h
  generalize 2 ^ k = A at h ⊢
  refine ⟨v * (4 * x + 1) + 2 * x, ?_⟩
  have e2 : 2 * (v * (4 * x + 1) + 2 * x) + 1 = (2 * v + 1) * (4 * x + 1) := by
    rw [Nat.add_mul, Nat.one_mul, Nat.mul_assoc]
    omega
  rw [e2]
  have e3 : (1 + 4 * (A * (2 * v + 1))) * (4 * x + 1) = (4 * x + 1) + 4 * (A * ((2 * v + 1) * (4 * x + 1))) := by
    rw [Nat.add_mul, Nat.one_mul, Nat.mul_assoc, Nat.mul_assoc]
  rw [e3] at h
  omega
theorem gGo_all (x j : Nat) : ∀ k, ∃ n, n < 2 ^ k ∧ gGo n x % 2 ^ k = j % 2 ^ k
  | 0 => ⟨0, by decide, by rw [Nat.pow_zero, Nat.mod_one, Nat.mod_one]⟩
  | k + 1 => by
    obtain ⟨n, hn, e⟩ := gGo_all x j k
    rw [Nat.pow_succ]
    by_cases h : gGo n x % (2 ^ k * 2) = j % (2 ^ k * 2)
    · exact ⟨n, by omega, h⟩
    · refine ⟨n + 2 ^ k, by omega, ?_⟩
      obtain ⟨u, eu⟩ := gGo_two k (gGo n x)
      rw [gGo_add, eu]
      have hp : 0 < 2 ^ k := Nat.pow_pos (by decide)
      generalize gGo n x = y at e h ⊢
      generalize 2 ^ k = A at e h hp ⊢
      rw [Nat.mod_mul, Nat.mod_mul] at h
      rw [Nat.mod_mul, Nat.mod_mul, Nat.add_mul_mod_self_left, Nat.add_mul_div_left _ _ hp, e]
      rw [e] at h
      have h1 : y / A % 2 ≠ j / A % 2 := fun z => h (by rw [z])
      have h2 : (y / A + (2 * u + 1)) % 2 = j / A % 2 := by omega
      rw [h2]
theorem lcgI_go (m i : Nat) : ∀ n, lcgI m i n % (m + 1) = gGo n i % (m + 1)
  | 0 => rfl
  | n + 1 => by
    have ih := lcgI_go m i n
    show (lcgI m i n * 5 + 1) % (m + 1) % (m + 1) = (5 * gGo n i + 1) % (m + 1)
    rw [Nat.mod_mod, Nat.add_mod, Nat.mul_mod, ih, ← Nat.mul_mod, ← Nat.add_mod, Nat.mul_comm]
/-- the masks of tables that grow -/
def MG (m : Nat) : Prop := ∃ k, 3 ≤ k ∧ k ≤ 15 ∧ m + 1 = 2 ^ k
theorem MG.le {m : Nat} (h : MG m) : m ≤ 32767 := by
  obtain ⟨k, _, h2, e⟩ := h
  have : 2 ^ k ≤ 2 ^ 15 := Nat.pow_le_pow_right (by decide) h2
  have e2 : (2 : Nat) ^ 15 = 32768 := by decide
  omega
theorem lcgI_meets {m : Nat} (hm : MG m) {i j : Nat} (hi : i ≤ m) (hj : j ≤ m) : ∃ n, n ≤ m ∧ lcgI m i n = j := by
  obtain ⟨k, _, _, e⟩ := hm
  obtain ⟨n, hn, h⟩ := gGo_all i j k
  rw [← e] at hn h
  refine ⟨n, by omega, ?_⟩
  have h2 := lcgI_go m i n
  rw [h, Nat.mod_eq_of_lt (show j < m + 1 by omega)] at h2
  have hl : lcgI m i n < m + 1 := by
    cases n with
    | zero => exact Nat.lt_succ_of_le hi
    | succ n => exact Nat.mod_lt _ (Nat.succ_pos _)
  rw [Nat.mod_eq_of_lt hl] at h2
  exact h2
theorem runs_meet {m : Nat} (hm : MG m) (h : Int) {j : Nat} (hj : j ≤ m) : ∃ n, n ≤ m + 12 ∧ runI m (SetTable.bits h) n = j := by
  obtain ⟨n, hn, e⟩ := lcgI_meets hm (runI_le m (SetTable.bits h) 12) hj
  exact ⟨12 + n, by omega, (runI_tail (bits_lt h) n).trans e⟩
/-- the way of a search comes to each slot soon enough -/
theorem way_meets {m : Nat} (hm : MG m) (h : Int) {j : Nat} (hj : j ≤ m) : ∃ k, k < 10 * SetTable.turns m ∧ way m h k = j := by
  obtain ⟨n, hn, e⟩ := runs_meet hm h hj
  obtain ⟨k, hk, e2⟩ := run_nth m (SetTable.bits h) n
  exact ⟨k, by unfold SetTable.turns; omega, (congrArg SetTable.Probe.j e2).trans e⟩
theorem way_in (m : Nat) (h : Int) (k : Nat) : way m h k ≤ m := by
  have hi : SetTable.bits h % (m + 1) ≤ m := Nat.le_of_lt_succ (Nat.mod_lt _ (Nat.succ_pos _))
  have r := runEnd_bd hi
  have q := nth_in (m := m) k (runAt m (SetTable.bits h % (m + 1)) (SetTable.bits h)) (by
    show SetTable.bits h % (m + 1) + (SetTable.runEnd m _ - _) ≤ m
    omega)
  exact Nat.le_trans (Nat.le_add_right _ _) q
end WT
namespace WT
open PySem PySem.Spec PyProof.Rows L2
/-- a table, of any size, whose slots are found again from their hashes -/
structure TabG (t : SetTable) (hs : List Int) : Prop where
  ris : Ris t.place.toList
  dm : t.dummies = #[]
  sz : t.place.size = hs.length
  mg : MG t.mask
  bd : ∀ x ∈ t.place.toList, x ≤ t.mask
  back : ∀ (i : Nat) (h : Int) (j : Nat), hs[i]? = some h → t.place.toList[i]? = some j → ∃ k, way t.mask h k = j ∧ ∀ c, c < k → way t.mask h c ∈ t.place.toList
section
variable {t : SetTable} {hs : List Int}
theorem TabG.free (T : TabG t hs) (hl : hs.length ≤ t.mask) (h : Int) : ∃ K, K < 10 * SetTable.turns t.mask ∧ way t.mask h K ∉ t.place.toList ∧ ∀ c, c < K → way t.mask h c ∈ t.place.toList := by
  obtain ⟨j, hj, hn⟩ := st_missing t.place.toList (t.mask + 1) (by rw [Array.length_toList, T.sz]; omega)
  obtain ⟨k, hk, e⟩ := way_meets T.mg h (Nat.le_of_lt_succ hj)
  obtain ⟨K, h1, h2, h3⟩ := st_least (p := fun c => way t.mask h c ∉ t.place.toList) k (e ▸ hn)
  exact ⟨K, Nat.lt_of_le_of_lt h1 hk, h2, fun c hc => Classical.byContradiction (h3 c hc)⟩
/-- what is put in at the end of its way -/
theorem TabG.put (T : TabG t hs) {h : Int} {K : Nat} (hK : way t.mask h K ∉ t.place.toList) (hb : ∀ c, c < K → way t.mask h c ∈ t.place.toList) {t' : SetTable} {p : Nat} (he : t.put (way t.mask h K) = (t', p)) :
    p ≤ hs.length ∧ TabG t' (hs.take p ++ h :: hs.drop p) ∧ t'.mask = t.mask ∧ t'.led = t.led ∧ t'.plain = t.plain ∧ t'.fill = hs.length + 1 := by
  have e1 : t' = (t.put (way t.mask h K)).1 := by rw [he]
  have e2 : SetTable.below t.place (way t.mask h K) = p := congrArg Prod.snd he
  have hw := way_in t.mask h K
  generalize hj : way t.mask h K = j at hK e1 e2 hw
  obtain ⟨c1, _, _⟩ := below_cut T.ris j
  rw [e2] at c1
  have hpl : p ≤ t.place.toList.length := by rw [Array.length_toList]; exact c1
  have hph : p ≤ hs.length := T.sz ▸ c1
  have hpp : t'.place.toList = t.place.toList.take p ++ j :: t.place.toList.drop p := by rw [e1, put_place, e2]
  have hdm : t'.dummies = #[] := by rw [e1]; exact put_dm T.dm j
  have hsz : t'.place.size = hs.length + 1 := by rw [← Array.length_toList, hpp, len_ins _ hpl, Array.length_toList, T.sz]
  have up : ∀ {x : Nat}, x ∈ t.place.toList → x ∈ t'.place.toList := fun hx => by rw [hpp]; exact mem_ins.2 (.inr hx)
  have hm : t'.mask = t.mask := by rw [e1]; rfl
  have hr : Ris t'.place.toList := by
    rw [e1]
    exact ris_insert T.ris fun e => hK (List.mem_of_getElem? (by rw [Array.getElem?_toList]; exact e))
  refine ⟨hph, ⟨hr, hdm, by rw [len_ins _ hph]; exact hsz, hm ▸ T.mg, fun x hx => ?_, fun i h' j' h1 h2 => ?_⟩, hm, by rw [e1]; rfl, by rw [e1]; rfl, ?_⟩
  · rw [hm]
    rw [hpp] at hx
    rcases mem_ins.1 hx with z | z
    · exact z ▸ hw
    · exact T.bd x z
  · rw [tins_get hs hph] at h1
    rw [hpp, tins_get _ hpl] at h2
    rw [hm]
    by_cases c : i < p
    · rw [if_pos c] at h1 h2
      obtain ⟨k, e, z⟩ := T.back i h' j' h1 h2
      exact ⟨k, e, fun c hc => up (z c hc)⟩
    · rw [if_neg c] at h1 h2
      by_cases d : i = p
      · rw [if_pos d] at h1 h2
        cases h1
        cases h2
        exact ⟨K, hj, fun c hc => up (hb c hc)⟩
      · rw [if_neg d] at h1 h2
        obtain ⟨k, e, z⟩ := T.back (i - 1) h' j' h1 h2
        exact ⟨k, e, fun c hc => up (z c hc)⟩
  · show t'.place.size + t'.dummies.size = hs.length + 1
    rw [hsz, hdm]
    rfl
end
end WT
namespace WT
open PySem PySem.Spec PyProof.Rows L2
def MS (m : Nat) : Prop := m = 7 ∨ m = 31 ∨ m = 127 ∨ m = 511 ∨ m = 2047 ∨ m = 8191
theorem MS.mg {m : Nat} (h : MS m) : MG m := by
  rcases h with rfl | rfl | rfl | rfl | rfl | rfl
  · exact ⟨3, by decide, by decide, rfl⟩
  · exact ⟨5, by decide, by decide, rfl⟩
  · exact ⟨7, by decide, by decide, rfl⟩
  · exact ⟨9, by decide, by decide, rfl⟩
  · exact ⟨11, by decide, by decide, rfl⟩
  · exact ⟨13, by decide, by decide, rfl⟩
/-- at a stands a set of the tuples L -/
structure SetG (P : Program) (w : World) (h : Heap) (a : Addr) (L : List (Addr × List Int)) (es : Array (Int × Value)) (ep : Nat) (t : SetTable) : Prop where
  ob : ∃ o, h.get? a = some o ∧ o.ExactSet ∧ o.data = .set es ep t
  rows : es.toList = rowsOf P w L
  tab : TabG t (L.map fun p => thash P w p.2)
  ms : MS t.mask
  nd : (L.map (·.2)).Nodup
  tup : ∀ p ∈ L, IsT P w h p.2 p.1
  plain : t.plain = true
  led : w.params.followText "set-order" = true ∨ t.led = true
  room : L.length * 5 < t.mask * 3
  few : L.length ≤ 4900
end WT
namespace WT
open PySem PySem.Spec PyProof.Rows L2
section
variable {P : Program} {w : World} {A : Around} {E : Value → Shared → Prop} {s : Shared} {a : Addr} {L : List (Addr × List Int)} {es : Array (Int × Value)} {ep : Nat} {t : SetTable}
theorem SetG.keep {h h' : Heap} (R : SetG P w h a L es ep t) (ha : ∀ o, h.get? a = some o → h'.get? a = some o) (ht : ∀ p ∈ L, IsT P w h' p.2 p.1) : SetG P w h' a L es ep t := by
  obtain ⟨o, ho, r⟩ := R.ob
  exact ⟨⟨o, ha o ho, r⟩, R.rows, R.tab, R.ms, R.nd, ht, R.plain, R.led, R.room, R.few⟩
end
end WT
namespace L2
open PySem PySem.Spec PyProof.Rows
end L2
namespace WT
open PySem PySem.Spec PyProof.Rows L2 Evl PySem.W
section
variable {K : PySem.W.Frag} {σ : L2.St} {H : Hp} {ta tb : TE} {ds es : List PyData}
/-- the heap as it was but for d -/
def ExB (d : Addr) (H H' : Hp) : Prop := ∀ q o, q ≠ d → H q = some o → H' q = some o
theorem ExB.ex {d : Addr} {H H1 H2 : Hp} (h : ExB d H H1) (e : Ex H1 H2) : ExB d H H2 := fun q o n hq => e _ _ (h q o n hq)
theorem ExB.tex {d : Addr} {H H' : Hp} {kvs : List (List L2.Key × V)} (h : ExB d H H') (hd : H d = some (.dT kvs)) : TEx H H' := fun q o ht hq => h q o (fun z => by
  rw [z, hd] at hq
  cases hq
  exact ht) hq
theorem c_callKw {sp : Sp} {gV : List V → List V → List V} {E : XK} {tr tk : TA} {Q : VK} (h : tr σ H fun vs H1 => tk σ H1 fun zs H2 => sp (gV vs zs) H2 Q E) : tCallK sp gV E tr tk σ H Q := h
theorem PuL.take {H : Hp} {rs : List (List Nat)} {xs : List V} (h : PuL H rs xs) (k : Nat) : PuL H (rs.take k) (xs.take k) := ⟨by rw [List.length_take, List.length_take, h.1], fun i r hr => by
  rw [List.getElem?_take] at hr
  by_cases z : i < k
  · rw [if_pos z] at hr
    obtain ⟨b, h1, h2⟩ := h.2 i r hr
    exact ⟨b, by rw [List.getElem?_take, if_pos z, h1], h2⟩
  · rw [if_neg z] at hr
    cases hr⟩
end
end WT
set_option maxHeartbeats 1000000
namespace WT
open PySem PySem.W PySem.Calls PyProof.Rows PySem.Spec L2
section
variable {prog : Program} {w : World} {A : Around} {E : Value → Shared → Prop} {h : Heap} {g : Array GenState} {d : Drawn} {t : Nat} {os : OsState}
variable {nm q : Str} {C N : Addr} {bs bm : List Value} {hdct : Bool} {sn : List Str} {sub : List Value} {ab : Bool} {col : Option Bool} {dd : Option Addr} {k0 k1 k2 k3 k5 : Option Value}
/-- ValueError.__init__, bound, called -/
theorem call_mwV {u e t0 : Addr} {rest : List Value} {Q : Value → Shared → Prop}
    (hC : h.get? C = some (excClassObj nm q C N bs bm hdct sn sub ab col dd k0 k1 k2 k3 k5 "ValueError.__new__")) (he : h.get? e = some (HandSPX.excO C t0)) (hu : h.get? u = some (kxs_mw "ValueError.__init__" e)) (hrest : rest.length ≤ sizeLine)
    (hq : ∀ h' t1, (∀ b o, b ≠ e → h.get? b = some o → h'.get? b = some o) → h'.get? e = some (HandSPX.excO C t1) → Q .none ⟨h', g, d, t, os⟩) :
    wpAny (model prog w) A (call (.ref u) rest) Q E ⟨h, g, d, t, os⟩ := by
  refine wpAny_call (codeAny_of_tree ?_)
  show wpAny _ A.in1 (callAny (.ref u) ⟨rest, []⟩) _ _ _
  simp only [callAny]
  refine wpAny_bind (wpAny_load hu ?_)
  simp only [kxs_mw, show (Value.type "method-wrapper" == Value.type "method" || Value.type "method-wrapper" == Value.type "builtin_function_or_method" || Value.type "method-wrapper" == Value.type "method-wrapper") = true by decide, if_true]
  refine W.KFB.if_so (by decide) ?_
  refine wpAny_bind (ESX.check_bound F.excBase_ValueError hC he rfl ?_)
  refine wpAny_bind (wpAny_pure (wpAny_pure ?_))
  refine ⟨Code.quiet_builtin _ (by decide +kernel), codeAny_builtin F.excBase_ValueError.initEntry ?_⟩
  rw [Around.under_plainId F.excBase_ValueError.init.plain _]
  wp_walk
  refine hq _ h.objs.size (fun b o hb ho => ?_) ?_
  · rw [Heap.get?_update_other _ _ (Ne.symm hb)]
    exact Heap.get?_push_of_some _ ho
  · rw [Heap.get?_update_self _ (Heap.get?_push_of_some _ he) rfl]
    rfl
end
abbrev scT : Scope := { kind := .function, names := [("self", .local), ("value", .local), ("__class__", .free), ("super", .globalImplicit)], isGenerator := false, isCoroutine := false, more := [] }
abbrev bdT (q0 q1 q2 q3 q4 q5 q6 q7 q8 q9 : Pos) : List Stmt :=
  [.Expr (.Call (.Attribute (.Call (.Name "super" q0) [] [] q1) "__init__" q2) [.Name "value" q3] [] q4) q5, .Assign [.Attribute (.Name "self" q6) "value" q7] (.Name "value" q8) q9]
theorem scT_super : scT.names.lookup ("super" : Str) = some .globalImplicit := by decide
theorem scT_class : scT.names.lookup ("__class__" : Str) = some .free := by decide
theorem scT_self : scT.names.lookup ("self" : Str) = some .local := by decide
theorem scT_value : scT.names.lookup ("value" : Str) = some .local := by decide
/-- the context of its body -/
def cxT (CX : CXT) (P : Program) (w : World) (K : PySem.W.Frag) (mg : Str → Option Value) (base : Heap) (N : List Str) (qual : Str) (scope : Scope) (f : Addr) (cd : Value) (cc : Addr) (A : Around) (outer : List Env) (s : Shared) (H : Hp) (E : XK) : Cx where
  prog := P
  w := w
  K := K
  mg := mg
  base := base
  A := A.deeper (PySem.W.ksEnv qual scope s.heap.objs.size f cd cc)
  N := N
  s_0 := s
  H_0 := H
  env := PySem.W.ksEnv qual scope s.heap.objs.size f cd cc
  outer := outer
  stack := PySem.W.ksEnv qual scope s.heap.objs.size f cd cc :: outer
  ex := []
  calm := true
  fn := fun _ => false
  pn := []
  xe := fun e s' => wpAny (model P w) (A.deeper (PySem.W.ksEnv qual scope s.heap.objs.size f cd cc)) (leaving (PySem.W.ksEnv qual scope s.heap.objs.size f cd cc) e) (fun _ s'' => CX outer H s E e s'') (fun e' s'' => CX outer H s E e' s'') s'
/-- what the written part says of a class under it -/
structure TurC (K : PySem.W.Frag) (D C : Addr) : Prop where
  ox : OexC K C
  sub : PySem.W.mroIn K C (.ref D) = some true
  sup : PySem.W.ks_superIn K C D "__init__" = some (some (.builtin "ValueError.__init__"))
  ve : PySem.W.subIn K (.ref C) (.type "ValueError") = some true
  va : PySem.W.findIn K (.ref C) "value" = some none
/-- how super().__init__(value) is evaluated (at positions as they stand) -/
def TurEv (q0 q1 q2 q3 q4 : Pos) : Prop := ∀ env : Env, ∃ pl, eval (.Call (.Attribute (.Call (.Name "super" q0) [] [] q1) "__init__" q2) [.Name "value" q3] [] q4) env = (do
  let ov ← attributeBase (.Call (.Name "super" q0) [] [] q1) "__init__" env (eval (.Call (.Name "super" q0) [] [] q1) env)
  standAt q2.atName
  let (f, first) ← holding [ov] (getMethod ov "__init__" pl)
  callWith q4 f first (backTo q4 (starEach [.Name "value" q3] env)) [])
def spTurn (K : PySem.W.Frag) (D : Addr) : Sp := fun vs H Q _ => ∃ (e C : Addr) (y : V), vs = [.ref e, y] ∧ TurC K D C ∧ H e = some (exo e C none) ∧
  ∀ dx, H dx = none → dx ≠ e → Q .non (upd (upd H dx (exd dx [("value", y)])) e (exo e C (some dx)))
theorem turn_ok {P : Program} {w : World} {K : PySem.W.Frag} {mg : Str → Option Value} {base : Heap} {CX : CXT} {k : Nat} {f cda cc D : Addr} {params : Arguments} {ar : Arg} {q0 q1 q2 q3 q4 q5 q6 q7 q8 q9 : Pos} {name qual : Str} {dV kV doc pm ct oc ccl cl : Value} {an od cdd cld : Option Addr} {osl ccs csl : Array (Option Value)} {vs : Array Value} {file : Str} {tf : Tok} {cdD : ClassData}
    (lk : K.lookup f = some ⟨oc, od, .func (PySem.W.ksFn name qual params (bdT q0 q1 q2 q3 q4 q5 q6 q7 q8 q9) scT dV kV doc pm an (.ref cda) ct cc), osl⟩) (hcd : PySem.W.codeIn K (.ref cda) qual = true)
    (hp : (params.posonlyargs ++ params.args).head? = some ar) (har : ar.arg = "self") (hcode : K.lookup cda = some ⟨ccl, cdd, .fields vs, ccs⟩) (hvs : vs[2]? = some (.str file tf)) (hfile : ((P.main.file : Str) == file) = true)
    (hcell : K.lookup cc = some ⟨cl, cld, .cell (some (.ref D)), csl⟩) (hD : PySem.W.clsIn K D = some cdD) (hsuper : mg "super" = none) (htop : (P.main.scope.names.lookup ("super" : Str)).isSome = false) (hany : PySem.W.nsIn K cStatics "thirdparty.any" = some none) (hev : TurEv q0 q1 q2 q3 q4) :
    FnOk P w K mg base CX (k + 1) f (PySem.W.ksFn name qual params (bdT q0 q1 q2 q3 q4 q5 q6 q7 q8 q9) scT dV kV doc pm an (.ref cda) ct cc) ["self", "value"] (spTurn K D) := by
  refine ⟨fun vs H Q E ⟨_, _, _, e, _⟩ => by rw [e]; rfl, fun A outer s H args us vs Q E hr e0 hb r hsp => ?_⟩
  obtain ⟨e, C, y, rfl, T, he, hq⟩ := hsp
  obtain ⟨u, rfl, ry⟩ : ∃ u, us = [.ref e, u] ∧ RelV y u := by
    cases r with
    | @cons _ u0 _ ur ra rw' =>
      obtain rfl : u0 = Value.ref e := ra
      cases rw' with
      | @cons _ u1 _ ur1 rb rw2 =>
        cases rw2
        exact ⟨u1, rfl, rb⟩
  have kb : ∀ b o, base.get? b = some o → s.heap.get? b = some o := fun b o e => (e0.bs b o e).1
  have KX : K.In s.heap := e0.mod.kin.keeps kb
  have lim : s.heap.NoLimit := e0.mod.nolimit.keeps kb
  refine ks_codeAny_call_defAt hr.depth (KX _ _ lk) rfl lim (PySem.W.codeRec_of KX hcd) rfl hb (show ∀ x ∈ scT.names, x.2 ≠ .cell by decide) (fun x hx => ?_) (fun h₀ hns hk => ?_) rfl rfl rfl
  · have z := (List.of_mem_zip (show (x.1, x.2) ∈ _ from hx)).1
    have z : x.1 ∈ (["self", "value"] : List Str) := z
    show scT.names.lookup x.1 = some .local
    rcases List.mem_cons.mp z with z | z
    · rw [z]; decide
    · rw [List.mem_singleton.mp z]; decide
  have I : Inv (cxT CX P w K mg base ["self", "value"] qual scT f (.ref cda) cc A outer s H E) [] [some (V.ref e), some y] H ⟨h₀, s.gens, s.drawn, s.toks + 2, s.os⟩ := by
    have lkc : base.get? cc = some _ := e0.mod.kin _ _ hcell
    have hc1 := e0.bs _ _ lkc
    have cl1 : ∀ x c, (PySem.W.ksEnv qual scT s.heap.objs.size f (.ref cda) cc).cells.lookup x = some c → c = cc := fun x c hx => by
      have hx : List.lookup x [(("__class__" : Str), cc)] = some c := hx
      rw [List.lookup_cons] at hx
      split at hx
      · exact (Option.some.inj hx).symm
      · cases hx
    have cn1 : ∀ x c, (PySem.W.ksEnv qual scT s.heap.objs.size f (.ref cda) cc).cells.lookup x = some c → x = "__class__" := fun x c hx => by
      have hx : List.lookup x [(("__class__" : Str), cc)] = some c := hx
      rw [List.lookup_cons] at hx
      split at hx
      · rename_i z
        exact eq_of_beq z
      · cases hx
    have noA : ∀ b : Addr, b ∉ (cxT CX P w K mg base ["self", "value"] qual scT f (.ref cda) cc A outer s H E).ex := fun b z => absurd (show b ∈ ([] : List Addr) from z) (by simp)
    refine ⟨⟨e0.mod, rfl, rfl, rfl, Nat.le_refl _, fun x y c h1 h2 => ?_, fun x hx => ?_, fun x c h _ => absurd h (by simp [cxT]), fun _ => hr.hd, Around.frames_deeper e0.frames, .inr ⟨rfl, rfl⟩, fun b z => absurd z (noA b), e0.bs, e0.bsz, fun b _ _ => noA b, fun b z => absurd z (noA b), e0.funs, e0.frf⟩,
      rfl, e0.bare, Un.kept hk, ⟨_, hns, fun i x v h1 h2 h3 => ?_⟩, fun x c h => ?_, e0.hok.fresh (Nat.le_refl _), fun x c h => ?_, fun p hp => absurd (show p ∈ ([] : List (Addr × Obj)) from hp) (by simp), e0.hok.kept hk, rfl⟩
    · rw [cn1 x c h1, cn1 y c h2]
    · have z : (x, NameKind.cell) ∈ scT.names ∨ (x, NameKind.free) ∈ scT.names := hx.imp PySem.mem_of_lookup PySem.mem_of_lookup
      have z : x = "__class__" := by
        rcases z with z | z <;> simp [scT] at z
        exact z
      rw [z]
      exact ⟨cc, rfl⟩
    · match i, h1, h2 with
      | 0, h1, h2 =>
        cases h1
        cases h2
        exact ⟨.ref e, rfl, .inl ⟨rfl, rfl⟩⟩
      | 1, h1, h2 =>
        cases h1
        cases h2
        exact ⟨u, ry, .inl ⟨rfl, rfl⟩⟩
      | i + 2, h1, h2 =>
        cases h1
    · rw [cl1 x c h]
      exact ⟨some (.ref D), _, hk _ _ hc1.1, rfl⟩
    · rw [cl1 x c h]
      exact hc1.2
  have kh : ∀ b o, s.heap.get? b = some o → h₀.get? b = some o := hk
  have K0 : K.In h₀ := KX.keeps kh
  obtain ⟨oD, hD1, hD2⟩ : ∃ oD, h₀.get? D = some oD ∧ oD.data = .cls cdD := by
    unfold PySem.W.clsIn at hD
    split at hD
    · rename_i c d cd' sl ho
      cases hD
      exact ⟨_, K0 _ _ ho, rfl⟩
    · cases hD
  obtain ⟨nm, q, N, bs, bm, sn, sub, ab, col, dd, k0, k1, k2, k3, k5, hC, hbm⟩ := T.ox.cls
  have hcl : PySem.W.clsIn K C = some { name := nm, bases := bs, mro := .ref C :: bm, ns := N, qualname := q, hasDict := true, slotNames := sn, subclasses := sub, abstract := ab, collection := col, hasDel := false } := by unfold PySem.W.clsIn; rw [hC] <;> rfl
  obtain ⟨t0, hoe⟩ := exo_at I.hok he
  obtain ⟨mb, hmb, hblt⟩ := e0.mod.blt
  obtain ⟨pl, hev⟩ := hev (PySem.W.ksEnv qual scT s.heap.objs.size f (.ref cda) cc)
  refine ks_wpAt_execs_cons (ks_wpAt_Expr_any (ks_wpAt_MethodCall (pl := pl) ?_ hev))
  refine ks_wpAt_super_base (env := PySem.W.ksEnv qual scT s.heap.objs.size f (.ref cda) cc) scT_super scT_class (by decide) rfl (K0 _ _ lk) rfl hp rfl (K0 _ _ hcode) rfl hvs hfile htop ?_
  refine PySem.W.ks_loadName_global rfl scT_super (loadGlobal_builtin (env := PySem.W.ksEnv qual scT s.heap.objs.size f (.ref cda) cc) (e0.mod.glob.keeps fun b o e => kh _ _ (kb _ _ e)) hsuper (hmb.keeps fun b o e => kh _ _ (kb _ _ e)) ((hblt _ (by decide)).trans (by decide +kernel)) ⟨rfl, ?_⟩)
  refine wpAny_loadName_free rfl scT_class rfl ⟨_, K0 _ _ hcell, rfl⟩ ?_
  rw [har]
  refine wpAny_loadName_local rfl scT_self hns rfl ?_
  refine ks_wpAny_isType_cls hD1 hD2 ⟨rfl, ?_⟩
  refine ks_wpAny_call_super hD1 hD2 hoe rfl (fun c z => nomatch z) (PySem.W.looks_mroIn K0 T.sub) (fun h1 ho1 k1 => ?_)
  have K1 : K.In h1 := K0.keeps k1
  have I1 : Inv (cxT CX P w K mg base ["self", "value"] qual scT f (.ref cda) cc A outer s H E) [] [some (V.ref e), some y] H ⟨h1, s.gens, s.drawn, s.toks + 2, s.os⟩ := I.kept (t' := s.toks + 2) k1
  have hne : e ≠ C := fun z => by
    rw [z, K0 _ _ hC] at hoe
    cases hoe
  have hsup := T.sup
  unfold PySem.W.ks_superIn at hsup
  rw [hcl] at hsup
  refine PySem.W.kxs_getMethod PySem.W.kxs_ValueError ho1 (PySem.W.looks_opaque K1 hany) (l₀ := .ref C :: bm) (fun A Q E s k q => wpAny_bind ((PySem.W.looks_clsIn K1 hcl) A _ E s k (wpAny_pure q))) rfl K1 hsup
    ((PySem.W.InstAt.type (od := none) ⟨k1 _ _ hoe, rfl, rfl, trivial⟩).andThen (PySem.W.looks_subIn K1 T.ve)) hne (by decide) ?_
  have k2 : ∀ b o, h1.get? b = some o → (h1.push (PySem.W.kxs_mw "ValueError.__init__" e)).get? b = some o := fun b o z => Heap.get?_push_of_some _ z
  have I2 : Inv (cxT CX P w K mg base ["self", "value"] qual scT f (.ref cda) cc A outer s H E) [] [some (V.ref e), some y] H ⟨h1.push (PySem.W.kxs_mw "ValueError.__init__" e), s.gens, s.drawn, s.toks + 2 + 1, s.os⟩ := I1.kept (t' := s.toks + 2 + 1) k2
  have hu : (h1.push (PySem.W.kxs_mw "ValueError.__init__" e)).get? h1.objs.size = some (PySem.W.kxs_mw "ValueError.__init__" e) := Heap.get?_push_at rfl rfl
  refine PySem.W.kxs_callWith (i := "ValueError.__init__") (x := e) rfl (evalArgs_plain ?_)
  show wpAny _ _ (spliced ((false, eval (.Name "value" q3) (PySem.W.ksEnv qual scT s.heap.objs.size f (.ref cda) cc)) :: backTo q4 (starEach [] (PySem.W.ksEnv qual scT s.heap.objs.size f (.ref cda) cc)))) _ _ _
  obtain ⟨m2, hn2, hl2⟩ := I2.loc
  have ns2 : (h1.push (PySem.W.kxs_mw "ValueError.__init__" e)).Ns s.heap.objs.size (fun x => ((["self", "value"] : List Str).zip [Value.ref e, u]).reverse.lookup x) := hns.keeps fun b o z => k2 _ _ (k1 _ _ z)
  refine Calls.spliced_cons (wpAny_Name (wpAny_loadName_local rfl scT_value ns2 rfl ?_) (by decide))
  refine Calls.spliced_nil ⟨hu, ?_⟩
  have hC2 := I2.kIn _ _ hC
  refine call_mwV hC2 (k2 _ _ (k1 _ _ hoe)) hu (by rw [sizeLine_eq]; show ([u] : List Value).length ≤ _; simp) (fun h3 t1 k3 he3 => ?_)
  have I3 : Inv (cxT CX P w K mg base ["self", "value"] qual scT f (.ref cda) cc A outer s H E) [] [some (V.ref e), some y] H ⟨h3, s.gens, s.drawn, s.toks + 2 + 1, s.os⟩ := by
    have J := I2.write (t' := s.toks + 2 + 1) (x := e) (e := e) (o := exo e C none) (by rw [he]; exact True.intro) (.inl rfl) k3 ⟨_, he3⟩ (exo_ok he3)
    have eu : upd H e (exo e C none) = H := by
      funext b
      by_cases hb : b = e
      · rw [hb, upd_same, he]
      · rw [upd_ne hb]
    rw [eu] at J
    exact J
  have hLe : s.heap.objs.size ≠ e := fun z => by
    have q := e0.hok.fresh (Nat.le_of_eq z)
    rw [he] at q
    cases q
  have ns3 : h3.Ns s.heap.objs.size (fun x => ((["self", "value"] : List Str).zip [Value.ref e, u]).reverse.lookup x) := by
    obtain ⟨o, es, ep, ho, r⟩ := ns2
    exact ⟨o, es, ep, k3 _ _ hLe ho, r⟩
  show PySem.wpAt _ _ _ (execs [_] _) _ _ _
  refine ks_wpAt_execs_cons (wpAt_of_wpAny (plainObj_wpAny_Assign_Attribute (wpAny_Name (wpAny_loadName_local rfl scT_value ns3 rfl ?_) (by decide)) (by rfl)))
  refine wpAny_Name (wpAny_loadName_local rfl scT_self ns3 rfl ?_) (by decide)
  refine ost_new (X := cxT CX P w K mg base ["self", "value"] qual scT f (.ref cda) cc A outer s H E) T.ox I3 he T.va ry (fun dx s' n ne J => ?_)
  show PySem.wpAt _ _ _ (execs [] _) _ _ _
  rw [execs_nil]
  refine wpAt_of_wpAny (wpAny_pure ?_)
  exact ⟨.non, _, J.os, J.bare, J.base, J.hok, rfl, hq dx n ne⟩
end WT
set_option maxHeartbeats 2000000
namespace WT
open PySem PySem.W PySem.Calls PyProof.Rows PySem.Spec L2
/-- at a: an exception that was caught, of the class cls, its dict at d -/
def excO (a : Addr) (cls : Value) (d : Option Addr) : HO := .ext fun h => ∃ (oe : Obj) (vs : Array Value), h.get? a = some oe ∧ Zc cls d oe ∧ oe.data = .fields vs
theorem excO_ok {P : Program} {w : World} {H : Hp} {h : Heap} {a : Addr} {cls : Value} {d : Option Addr} {oe : Obj} {vs : Array Value} (e : h.get? a = some oe) (z : Zc cls d oe) (q : oe.data = .fields vs) : ObjOk P w H h a (excO a cls d) :=
  ⟨⟨oe, vs, e, z, q⟩, ⟨oe, e⟩, fun _ _ ⟨o, v, x, r⟩ k => ⟨o, v, k o x, r⟩⟩
theorem excO_at {P : Program} {w : World} {H : Hp} {h : Heap} {a : Addr} {cls : Value} {d : Option Addr} (hok : HOk P w H h) (he : H a = some (excO a cls d)) : ∃ (oe : Obj) (vs : Array Value), h.get? a = some oe ∧ Zc cls d oe ∧ oe.data = .fields vs := by
  have x : ObjOk P w H h a (excO a cls d) := hok a _ he
  exact x.1
section
variable {X : Cx} {pins : List (Addr × Obj)} {σ : L2.St} {H : Hp} {s : Shared}
/-- an object that was not there at the entry is tracked from now on -/
theorem inv_track {a : Addr} {cls : Value} {d : Option Addr} {oe : Obj} {vs : Array Value} (I : Inv X pins σ H s) (ha : s.heap.get? a = some oe) (hz : Zc cls d oe) (hd : oe.data = .fields vs) (na : H a = none) (n0 : X.s_0.heap.get? a = none)
    (nL : a ≠ X.env.locals) (np : ∀ p ∈ X.pn ++ pins, p.1 ≠ a) : Inv X pins σ (upd H a (excO a cls d)) s := by
  have ne : ∀ {b : Addr} {o : HO}, H b = some o → b ≠ a := fun {b o} q z => by
    rw [z, na] at q
    cases q
  refine ⟨I.ok, I.os, I.bare, ?_, I.loc, I.cell, ?_, fun x c hx => ?_, fun p hp => ?_, fun b o q => ?_, I.len⟩
  · refine ⟨I.base.keep, I.base.slot, fun b o q n m => ?_, I.base.there, fun b xs q => ?_, fun b o u q => ?_, fun b ps q => ?_⟩
    · have hb : b ≠ a := fun z => by
        rw [z, n0] at q
        cases q
      rw [upd_ne hb]
      exact I.base.free b o q n m
    · have z := I.base.tups b xs q
      rw [upd_ne (ne z)]
      exact z
    · have z := I.base.frzs b o u q
      rw [upd_ne (ne z)]
      exact z
    · obtain ⟨m, z⟩ := I.base.tbls b ps q
      exact ⟨m, by rw [upd_ne (ne z)]; exact z⟩
  · rw [upd_ne (Ne.symm nL)]
    exact I.free
  · have hb : c ≠ a := fun z => by
      obtain ⟨v, o, ho, hdc⟩ := I.cell x c hx
      rw [z, ha] at ho
      cases ho
      rw [hd] at hdc
      cases hdc
    rw [upd_ne hb]
    exact I.freeC x c hx
  · obtain ⟨q1, q2, q3⟩ := I.pin p hp
    exact ⟨q1, by rw [upd_ne (np p hp)]; exact q2, q3⟩
  · by_cases hb : b = a
    · subst hb
      rw [upd_same] at q
      cases q
      exact excO_ok ha hz hd
    · rw [upd_ne hb] at q
      exact (I.hok b o q).stay (fun c v _ z => z) (fun c z => by rw [upd_ne (ne z)]; exact z) fun c xs z => by rw [upd_ne (ne z)]; exact z
/-- what the clause wishes: the caught exception stays tracked behind the suite -/
def wKeep (K : PySem.W.Frag) (c : Value) (i : Nat) (ts : Addr → Value → Option Addr → TS) (Wout : WX) (D : Ends) : WX := fun cls d σ H =>
  ∃ b, PySem.W.exmOne K cls c = some b ∧ (b = true → ∀ a, H a = none → ts a cls d { nx := fun σ' H' => D.nx (σ'.set i none) (upd H' a (excO a cls d)), rt := fun _ _ => False, bk := fun _ _ => False, ct := fun _ _ => False } (σ.set i (some (.ref a))) H) ∧
    (b = false → Wout cls d σ H)
end
section
variable {X : Cx} {x n : Str} {c : Value} {i : Nat} {body suite : List Stmt} {b₀ : Stmt} {npo pos pos' : Pos} {tb : WX → TS} {ts : Addr → Value → Option Addr → TS} {Wout : WX}
/-- try: body / except x as n: suite, the exception kept by a name of the suite's -/
theorem ps_try_keep (hs : X.stack = X.env :: X.outer) (hf : X.env.frame = some X.env.locals) (hex : X.ex = []) (hN : X.N.Nodup) (hi : X.N[i]? = some n) (hln : X.env.kindOf n = some .local) (hc : Names X x c) (tk : Takes X Wout)
    (hb : ∀ (W : WX) (pn : List (Addr × Obj)) (xe : Value → Shared → Prop), Takes (X.tr pn xe) W → PassesOwn (model X.prog X.w) X.A X.env xe → PSs (X.tr pn xe) body (tb W))
    (hsu : ∀ (a : Addr) (oe : Obj) (cls : Value) (d : Option Addr) (pn : List (Addr × Obj)), Zc cls d oe → (∃ vs, oe.data = .fields vs) → PSs (X.suite a ((a, oe) :: pn)) (b₀ :: suite) (ts a cls d)) :
    PS X (.Try body [.ExceptHandler (some (.Name x npo)) (some n) (b₀ :: suite) pos'] [] [] pos) (fun D σ H => tb (wKeep X.K c i ts Wout D) D σ H) := by
  refine ⟨fun pins s σ H D I h => wpAny_Try_except ?_⟩
  have ok := I.ok
  have hfr : X.A.frames = some (X.env :: X.outer) := by rw [ok.frames, hs]
  let air : Value → Shared → Prop := fun e s₁ => wpAny (model X.prog X.w) X.A (noteFrame e X.env) (fun _ s₂ => wpAny (model X.prog X.w) X.A (setFlight e none) (fun _ s₃ =>
    wpAny (model X.prog X.w) X.A (handleBy e X.env [.ExceptHandler (some (.Name x npo)) (some n) (b₀ :: suite) pos']) (SP X pins D) X.xe s₃) X.xe s₂) X.xe s₁
  have hcatch : Takes (X.tr (X.pn ++ pins) air) (wKeep X.K c i ts Wout D) := fun u s' xx => by
    obtain ⟨a, B, sI, pinsT, σ1, H1, cls, d, rfl, J', nb, up, sky, na, os, ag, b, hb1, hyes, hno⟩ := xx
    have J : Inv X pins σ1 H1 sI := J'.ofTry ok
    have sky1 : Sky B (X.env :: X.outer) a (Zc cls d) X.env.locals s'.heap := by rw [← hs]; exact sky
    have Ba : B.get? a = none := by
      rcases sky with z | z | z
      · exact z.2.1
      · exact z.2.1
      · exact z.2.1
    show wpAny (model X.prog X.w) X.A (noteFrame (.ref a) X.env) _ _ _
    refine Sky.land Zc.steady hfr hf sky1 fun h3 fl3 up3 => ?_
    have J3 : Inv X pins σ1 H1 { s' with heap := h3 } := J.landed nb fl3.1 (up.trans up3) os ag
    obtain ⟨oe3, vs3, he3, hz3, hd3⟩ := fl3.there
    have aF : a ∉ frs (X.env :: X.outer) := fun hm => by
      obtain ⟨_, o', e', hnf⟩ := fl3.2.2.1.mem hm
      rw [he3] at e'
      cases e'
      exact hnf _ hd3
    have aS : a ∉ frs X.stack := by rw [hs]; exact aF
    have nL : a ≠ X.env.locals := fun z => aF (List.mem_filterMap.mpr ⟨X.env, List.mem_cons_self, by rw [hf, z]⟩)
    have nF : a ∉ X.fs := fun hm => by
      obtain ⟨e, he, q⟩ := List.mem_filterMap.mp hm
      exact aF (List.mem_filterMap.mpr ⟨e, List.mem_cons_of_mem _ he, q⟩)
    have n0 : X.s_0.heap.get? a = none := by
      cases e : X.s_0.heap.get? a with
      | none => rfl
      | some o =>
        obtain ⟨o', z⟩ := J.base.there a o e (by rw [hex]; exact fun y => nomatch y)
        rw [nb a o' z aS] at Ba
        cases Ba
    have np : ∀ p ∈ X.pn ++ pins, p.1 ≠ a := fun p hp z => by
      obtain ⟨q1, q2, q3, q4, q5⟩ := J.pin p hp
      have nf : p.1 ∉ frs X.stack := by
        rw [z]
        exact aS
      have w := nb _ _ q1 nf
      rw [z, Ba] at w
      cases w
    have S3 := J3.suite he3 hd3 na nL nF
    refine wpAny_handleBy_cons (codeAny_handlers_test ?_) (by intro q; cases q)
    have LT : PySem.W.Looks (model X.prog X.w) h3 (typeOf (.ref a)) cls := fun A Q E s k q => wpAny_typeOf_ref (k _ _ he3) (by rw [hz3.1]; exact q)
    have LM := PySem.W.exm_one (M := model X.prog X.w) J3.kIn LT hb1
    have test : ∀ {Q : Value → Shared → Prop} {E : Value → Shared → Prop}, Q c { s' with heap := h3 } → wpAny (model X.prog X.w) (X.A.mark (some (.ref a))) (eval (.Name x npo) X.env) Q E { s' with heap := h3 } := fun {Q E} q => by
      obtain ⟨hg, hdbg, hm | ⟨hm, hv, hnn⟩⟩ := hc
      · exact ld_glob (X := X.suite a ((a, oe3) :: (X.pn ++ pins))) S3 hg hm q hdbg
      · exact ld_blt (X := X.suite a ((a, oe3) :: (X.pn ++ pins))) S3 hg hm hv q hnn hdbg
    refine test (LM.here ?_)
    cases b with
    | true =>
      refine codeAny_handlers_suite_as ?_
      refine HandSPX.lands_againZ fl3 fun h4 fl4 up4 => ?_
      have J4 : Inv X pins σ1 H1 { s' with heap := h4 } := J.landed nb fl4.1 ((up.trans up3).trans up4) os ag
      obtain ⟨oe4, vs4, he4, hz4, hd4⟩ := fl4.there
      have S4 := J4.suite he4 hd4 na nL nF
      refine store_ok (X := X.suite a ((a, oe4) :: (X.pn ++ pins))) (v := .ref a) S4 hN hi (.inl hln) rfl (fun s5 S5 => ?_) (.inr hln)
      refine wpAny_mono ((hsu a oe4 cls d (X.pn ++ pins) hz4 ⟨_, hd4⟩).run [] s5 _ H1 _ S5 (hyes rfl a na)) (fun f s6 hsp => ?_) (fun _ _ z => False.elim z)
      cases f with
      | next =>
        obtain ⟨σ6, H6, S6, q6⟩ := hsp
        have hpin := S6.pin (a, oe4) (List.mem_append_left _ List.mem_cons_self)
        have T6 : Inv X pins σ6 (upd H6 a (excO a cls d)) s6 := inv_track (S6.unsuite ok) hpin.1 hz4 hd4 hpin.2.1 n0 nL np
        exact gone_ok (Q := fun _ s7 => SP X pins D .next s7) T6 hN hi hln fun s7 J7 => ⟨_, _, J7, q6⟩
      | brk =>
        obtain ⟨_, _, _, q6⟩ := hsp
        exact False.elim q6
      | cont =>
        obtain ⟨_, _, _, q6⟩ := hsp
        exact False.elim q6
      | ret u =>
        obtain ⟨_, _, _, _, _, q6⟩ := hsp
        exact False.elim q6
    | false =>
      show wpAny _ X.A (handleBy (.ref a) X.env []) _ _ _
      refine wpAny_handleBy_nil ?_
      obtain ⟨k1, k2, k3, oe, vs, T, oT, tts, he, hz, hd, h1, hr⟩ := id fl3
      unfold PySem.passOn
      refine wpAny_bind (wpAny_field he hd h1 ?_)
      rw [if_neg (show ¬ ((Value.ref T == Value.none) = true) from by simp)]
      have fin : wpAny (model X.prog X.w) X.A (setFlight (.ref a) X.env.frame) (fun _ s4 => wpAny (model X.prog X.w) X.A (throw (.ref a) : Sem Flow) (SP X pins D) X.xe s4) X.xe { s' with heap := h3 } := by
        rw [hf]
        exact HandSPX.setFlight_upZ fl3 fun h4 hh4 up4 => wpAny_throw (tk _ _ ⟨a, B, sI, pins, σ1, H1, cls, d, rfl, J, nb, (up.trans up3).trans up4, .inr (.inr (by rw [hs]; exact hh4)), na, os, ag, hno rfl⟩)
      first
        | exact wpAny_bind (wpAny_pure (wpAny_bind fin))
        | exact wpAny_bind fin
  refine wpAny_mono ((hb _ (X.pn ++ pins) air hcatch PassesOwn.looking).run [] s σ H D (I.toTry _) h) (fun f s1 hsp => ?_) (fun e s1 he => he)
  cases f with
  | next =>
    obtain ⟨σ2, H2, J2, q⟩ := hsp
    exact wpAny_execs_nil ⟨σ2, H2, J2.ofTry ok, q⟩
  | brk =>
    obtain ⟨σ2, H2, J2, q⟩ := hsp
    exact ⟨σ2, H2, J2.ofTry ok, q⟩
  | cont =>
    obtain ⟨σ2, H2, J2, q⟩ := hsp
    exact ⟨σ2, H2, J2.ofTry ok, q⟩
  | ret u =>
    obtain ⟨v, σ2, H2, J2, r, q⟩ := hsp
    exact ⟨v, σ2, H2, J2.ofTry ok, r, q⟩
end
end WT
set_option maxHeartbeats 2000000
namespace WT
open PySem PySem.W PySem.Calls PyProof.Rows PySem.Spec L2 Evl
abbrev scH : Scope := { kind := .function, names := [("call", .local), ("caught", .local), ("gave", .local), ("error", .local), ("TurnError", .globalImplicit)], isGenerator := false, isCoroutine := false, more := [] }
abbrev NH : List Str := ["call", "caught", "gave", "error"]
section
variable {X : Cx} {pins : List (Addr × Obj)} {σ : L2.St} {H HZ : Hp} {s s1 : Shared}
/-- x(), in the def that got the lambda; the wish of an exception is told at the very slots -/
theorem pe_actS {Ng : List Str} {qg : Str} {sg : Scope} {g f c' : Addr} {cdg pm ctv : Value} {params : Arguments} {body : Expr} {scope : Scope} {k i : Nat} {a : Str} {pn : List (Addr × Obj)} {xe : Value → Shared → Prop} {W : WX} {E : XK} {tb : TE} {p1 p2 : Pos}
    (I : Inv X pins σ H s) (L : LamX.LamS X.env.scope scope) (hf : s.heap.get? f = some (PySem.W.kla_obj "<lambda>" (X.env.qual ++ "<lambda>") params body scope (cloFrom X.env.cells scope.names []) pm c' ctv)) (hfn : H f = none) (hfr : f ∉ frs X.stack)
    (hbind : bindArgs (PySem.W.kla_fn "<lambda>" (X.env.qual ++ "<lambda>") params body scope (cloFrom X.env.cells scope.names []) pm (.ref c') ctv) ⟨[], []⟩ = pure [])
    (tk : Takes ((cxOf CX0 X.prog X.w X.K X.mg X.base Ng qg sg g cdg X.A X.stack s H E0).tr pn xe) W) (hr : Room (k + 1) (X.A.deeper (envOfC qg sg s.heap.objs.size g cdg)))
    (hbody : ∀ (A : Around) (outer : List Env) (s : Shared) (H : Hp), Room k (A.deeper (LamX.lamEnv X scope s.heap.objs.size f c')) → PE (LamX.lamCx X A outer s H E scope f c') body tb)
    (hN : Ng[i]? = some a) (hv : Vis sg a) (hd : (a == ("__debug__" : Str)) = false := by decide) (hcd : (a == ("__classdict__" : Str)) = false := by decide) :
    PE ((cxOf CX0 X.prog X.w X.K X.mg X.base Ng qg sg g cdg X.A X.stack s H E0).tr pn xe) (.Call (.Name a p1) [] [] p2)
      (fun σZ HZ Q => σZ[i]? = some (some (.ref f)) ∧ HZ c' = some (LamX.CodeO c' (X.env.qual ++ "<lambda>")) ∧ (∀ cls d H', E cls d H' → W cls d σZ H') ∧ ∃ R : VK, (∀ v H', R v H' → Q v H') ∧ tb σ HZ R) := by
  refine ⟨fun pinsZ sZ σZ HZ Q IZ ⟨hs, hc, hW, R, hR, ht⟩ => ?_⟩
  refine wpAny_Call_Name_kw (L2.thn ((pe_var (pos := p1) (i := i) hN hv hd hcd).run pinsZ sZ σZ HZ (fun v H1 => v = .ref f ∧ H1 = HZ) IZ ⟨.ref f, hs, rfl, rfl⟩) fun u s1 ⟨v, H1, I1, r1, ev, eH⟩ => ?_)
  subst ev
  subst eH
  obtain rfl : u = Value.ref f := r1
  have of1 : s1.heap.get? f = some (PySem.W.kla_obj "<lambda>" (X.env.qual ++ "<lambda>") params body scope (cloFrom X.env.cells scope.names []) pm c' ctv) := I1.base.keep f _ hf hfn hfr (fun z => nomatch (show f ∈ ([] : List Addr) from z))
  refine PySem.W.callWith_F0 ⟨_, _, _, _, of1⟩ ?_
  obtain ⟨⟨oc, vs, t, hoc, hdc, hvc⟩, _, _⟩ := I1.hok c' _ hc
  have rc : codeAny (model X.prog X.w) (X.A.deeper (envOfC qg sg s.heap.objs.size g cdg)) (.call (.ref f) ⟨[], []⟩) (CR (L2.CX X.prog X.w) (envOfC qg sg s.heap.objs.size g cdg :: X.stack) X.prog X.w H1 s1 Q E) s1 := by
    refine PySem.W.kla_callFunE hr.depth of1 rfl L.co L.gen rfl ⟨c', oc, vs, t, rfl, hoc, hdc, hvc⟩ ?_
    rw [hbind]
    refine wpAny_pure (wpAny_newFunctionEnv (fun y hy => (L.own y hy).2) (fun y hy => absurd hy (by simp)) (fun h₁ hns hsb => ⟨I1.nolimit.fresh _ hsb, ?_⟩) L.kind)
    show codeAny _ _ (.expr body (LamX.lamEnv X scope s1.heap.objs.size f c')) _ _
    have kp : ∀ b o, s1.heap.get? b = some o → h₁.get? b = some o := fun b o e => hsb.extBut b o (Nat.ne_of_lt (Heap.lt_size e)) (Heap.get?_push_of_some _ e)
    have J := LamX.lam_start2 (E := E) (f := f) (c' := c') (tk := s1.toks + ([] : List (Str × Value)).length) I L I1.env0 hr.hd I1.base hns kp
    refine PySem.W.kla_codeExpr (wpAny_mono ((hbody _ _ s1 H1 (hr.deeper _)).run [] _ _ H1 R J ht) (fun v s' hq => ?_) fun e s' hq => hq)
    obtain ⟨w', H', J', rv, q⟩ := hq
    exact ⟨w', H', J'.os, J'.bare, J'.base, J'.hok, rv, hR _ _ q⟩
  refine wpAny_call (codeAny_mono rc fun r s' hq => ?_)
  cases r with
  | error e => exact tk e s' (XE.of_call I1 (fun cls d H' h => hW cls d H' h) hq)
  | ok fl =>
    cases fl with
    | ret u => exact I1.after hq
    | next => exact False.elim hq
    | brk => exact False.elim hq
    | cont => exact False.elim hq
end
/-- the def that calls what it got -/
def Gives (X : Cx) (Ng : List Str) (x : Str) (sg : Scope) (g : Addr) (cdg : Value) (bg : List Stmt) (a : Str) (q : Str) (TT : (XK → Hp → VK → Prop) → Hp → VK → Prop) : Prop :=
  ∀ (f c' : Addr) (s : Shared) (H : Hp) (Q : VK) (tl : XK → Hp → VK → Prop),
    (∀ (W : WX) (pn : List (Addr × Obj)) (xe : Value → Shared → Prop) (E : XK) (p1 p2 : Pos), Takes ((cxOf CX0 X.prog X.w X.K X.mg X.base Ng x sg g cdg X.A X.stack s H E0).tr pn xe) W →
      PE ((cxOf CX0 X.prog X.w X.K X.mg X.base Ng x sg g cdg X.A X.stack s H E0).tr pn xe) (.Call (.Name a p1) [] [] p2) (fun σZ HZ Q => σZ[0]? = some (some (.ref f)) ∧ HZ c' = some (LamX.CodeO c' q) ∧ (∀ cls d H', E cls d H' → W cls d σZ H') ∧ ∃ R : VK, (∀ v H', R v H' → Q v H') ∧ tl E HZ R)) →
    H c' = some (LamX.CodeO c' q) → TT tl H Q →
    ∃ t, PSs (cxOf CX0 X.prog X.w X.K X.mg X.base Ng x sg g cdg X.A X.stack s H E0).nox bg t ∧ t { nx := fun _ H' => Q .non H', rt := Q } (L2.start Ng [.ref f]) H
section
variable {X : Cx}
/-- x(lambda: body), x a def of the text -/
theorem pe_lam {T : List (Addr × Str)} {TT : (XK → Hp → VK → Prop) → Hp → VK → Prop} {x a : Str} {c P : Addr} {k : Nat} {st : Stmt} {Ng : List Str} {params : Arguments} {body : Expr} {scope : Scope} {t : XK → TE} {p lpos pos : Pos}
    (d : DefIn X.K X.mg x [a] st) (hg : Gl X x) (Sg : FnScope Ng [a] (defScope st)) (hNg : Ng[0]? = some a) (hva : Vis (defScope st) a)
    (hG : ∀ g cdv, Gives X Ng x (defScope st) g cdv (defBody st) a (X.env.qual ++ "<lambda>") TT)
    (TB : LamX.TabB X.base X.mg c P) (hcode : X.env.code = .ref c) (hmT : (P, X.env.qual ++ "<lambda>") ∈ T) (hu : ∀ p ∈ T, p.1 = P → p.2 = X.env.qual ++ "<lambda>") (hr : Room (k + 2) X.A) (L : LamX.LamS X.env.scope scope) (hdef : defaultsOf params X.env = ([], []))
    (hbind : ∀ (q : Str) (cl : List (Str × Addr)) (pm cv ctv : Value), bindArgs (PySem.W.kla_fn "<lambda>" q params body scope cl pm cv ctv) ⟨[], []⟩ = pure [])
    (hbody : ∀ (A : Around) (outer : List Env) (s : Shared) (H : Hp) (E : XK) (f c' : Addr), Room k (A.deeper (LamX.lamEnv X scope s.heap.objs.size f c')) → PE (LamX.lamCx X A outer s H E scope f c') body (t E))
    (hdb : (x == ("__debug__" : Str)) = false := by decide) (hd : (a == ("__debug__" : Str)) = false := by decide) (hcd : (a == ("__classdict__" : Str)) = false := by decide) :
    PE X (.Call (.Name x p) [.Lambda params body scope lpos] [] pos) (LamX.tLam T TT t) := by
  obtain ⟨g, fd, F, hm, hb⟩ := d.ex
  have hk := F.kp
  obtain ⟨oc, od, kV, dc, pm, an, cdv, ct, osl, rfl, lk, hcg⟩ := F.ex
  refine ⟨fun pins s σ H Q I h => ?_⟩
  obtain ⟨hT, h⟩ := h
  refine wpAny_Call_Name_kw (ld_glob I hg hm ?_ hdb)
  refine PySem.W.callWith_K (h₀ := X.base) I.ok.mod.kin hk ?_ (by rfl) (by rfl)
  show wpAny _ _ (spliced ((false, eval (.Lambda params body scope lpos) X.env) :: backTo pos (starEach [] X.env))) _ _ s
  refine Calls.spliced_cons (LamX.lam_make2 I TB hcode hmT hu hT hdef (L.has I.ok) fun f c' pm' ctv H1 s' I1 eN T1 hf hfn hfr hco => ?_)
  refine Calls.spliced_nil ⟨I1.kIn, ?_⟩
  have rc : codeAny (model X.prog X.w) X.A (.call (.ref g) ⟨[.ref f], []⟩) (CR CX0 X.stack X.prog X.w H1 s' Q E0) s' := by
    refine LamX.run_ofS (N := Ng) (ps := [a]) (us := [.ref f]) (vs := [.ref f]) lk hcg Sg hr I1.env0 (hb s' [.ref f] I1.kIn rfl) (.cons rfl .nil) rfl fun hr' => ?_
    obtain ⟨t', ht', hq'⟩ := hG g cdv f c' s' H1 Q (fun E H' Q' => t E σ H' Q') (fun W pn xe E p1 p2 tk => pe_actS (i := 0) I1 L hf hfn hfr (hbind _ _ _ _ _) tk hr' (fun A outer s H hr2 => hbody A outer s H E f c' hr2) hNg hva hd hcd) hco (h H1 eN T1)
    exact ⟨t', ht'.nox, hq'⟩
  refine wpAny_call (codeAny_mono rc fun r s2 hq => ?_)
  cases r with
  | error e => exact (show False from hq).elim
  | ok fl =>
    cases fl with
    | ret u => exact I1.after hq
    | next => exact False.elim hq
    | brk => exact False.elim hq
    | cont => exact False.elim hq
end
/-- _law_heard: what the lambda's reading is wished -/
def THeard (K : PySem.W.Frag) (CS : Addr) : (XK → Hp → VK → Prop) → Hp → VK → Prop := fun tl H Q => ∀ H1, Ex H H1 →
  tl (fun cls d H' => PySem.W.exmOne K cls (.ref CS) = some true ∧ ∀ a p, H' a = none → p ≠ a → H' p = none → Q (.ref p) (upd (upd H' a (excO a cls d)) p (.tup [.ref a, .non])))
    H1 (fun v H' => ∀ p, H' p = none → Q (.ref p) (upd H' p (.tup [.non, v])))
theorem sw_none {env : Env} {t1 t2 : Expr} {p3 p4 p5 p6 : Pos} {j1 j2 j3 j4 : Nat} : swappedStores [.Tuple [t1, t2] j1 p3] (.Tuple [.Constant .none j2 p4, .Constant .none j3 p5] j4 p6) env = pure none := by
  unfold swappedStores
  have h : ([Expr.Constant .none j2 p4, .Constant .none j3 p5] : List Expr).all (foldedForSure 8) = true := by rfl
  simp only [h, if_true]
  split
  · rfl
  · split
    · rfl
    · split <;> rfl
theorem heard_gives {X : Cx} {q : Str} {g CS : Addr} {cdg : Value} {p1 p2 p3 p4 p5 p6 p7 p8 p9 r1 r2 r3 r4 r5 r6 r7 r8 u1 u2 u3 u4 : Pos} {j1 j2 j3 j4 j5 : Nat} (hme : X.mg "TurnError" = some (.ref CS)) :
    Gives X NH "_law_heard" scH g cdg [.Assign [.Tuple [.Name "caught" p1, .Name "gave" p2] j1 p3] (.Tuple [.Constant .none j2 p4, .Constant .none j3 p5] j4 p6) p7,
      .Try [.Assign [.Name "gave" p8] (.Call (.Name "call" p9) [] [] r1) r2] [.ExceptHandler (some (.Name "TurnError" r3)) (some "error") [.Assign [.Name "caught" r4] (.Name "error" r5) r6] r7] [] [] r8,
      .Return (some (.Tuple [.Name "caught" u1, .Name "gave" u2] j5 u3)) u4] "call" q (THeard X.K CS) := by
  intro f c' s H Q tl act hc h
  have hl : ∀ {x : Str}, scH.names.lookup x = some .local → Vis scH x ∧ Loc scH x := fun h => ⟨.inl h, .inl h⟩
  have nd : NH.Nodup := by decide
  refine ⟨_, pss_cons (ps_asg (pe_tup (pa_cons pe_non (pa_cons pe_non pa_nil))) (pg_tup rfl (pgs_cons (pg_name (i := 1) nd rfl (.inl rfl)) (pgs_cons (pg_name (i := 2) nd rfl (.inl rfl)) pgs_nil))) (hw := sw_none))
    (pss_cons (ps_try_keep (X := (cxOf CX0 X.prog X.w X.K X.mg X.base NH "_law_heard" scH g cdg X.A X.stack s H E0).nox) (c := .ref CS) (i := 3)
      (tb := fun W D σ H => ∃ Ech : XK, (∀ cls d H', Ech cls d H' → W cls d σ H') ∧ σ[0]? = some (some (.ref f)) ∧ H c' = some (LamX.CodeO c' q) ∧ ∃ R : VK, (∀ v H', R v H' → D.nx (σ.set 2 (some v)) H') ∧ tl Ech H R)
      rfl rfl rfl nd rfl rfl ⟨rfl, rfl, .inl hme⟩ LamX.takes0 (fun W pn xe tk _ => ?_) (fun a oe cls d pn _ _ => pss_one (ps_asg (pe_var (i := 3) rfl (.inl rfl)) (pg_name (i := 1) nd rfl (.inl rfl)))))
    (pss_one (ps_ret (pe_tup (pa_cons (pe_var (i := 1) rfl (.inl rfl)) (pa_cons (pe_var (i := 2) rfl (.inl rfl)) pa_nil)))))), ?_⟩
  · refine ⟨fun pins s' σ H' D I h' => ?_⟩
    obtain ⟨Ech, hW, h1, h2, h3⟩ := h'
    have hp := act W pn xe Ech p9 r1 tk
    have hq := pss_one (ps_asg (pos := r2) hp (pg_name (x := "gave") (i := 2) (pos := p8) nd rfl (.inl rfl)))
    exact hq.run pins s' σ H' D I ⟨h1, h2, hW, h3⟩
  · refine ⟨by decide, fun p hp => ⟨p, [.non, .non], rfl, .inl (.inl upd_same), rfl, ?_⟩⟩
    refine ⟨_, _, rfl, _, _, rfl, rfl, ?_⟩
    have hx : Ex H (upd H p (.tup [.non, .non])) := fun b o hb => by
      rw [upd_ne (ne_of_none hb hp)]
      exact hb
    refine ⟨fun cls d (H' : Hp) => PySem.W.exmOne X.K cls (.ref CS) = some true ∧ ∀ a p, H' a = none → p ≠ a → H' p = none → Q (.ref p) (upd (upd H' a (excO a cls d)) p (.tup [.ref a, .non])), fun cls d H' hE => ?_, rfl, hx _ _ hc, ?_⟩
    rotate_left
    · refine ⟨_, fun v H' hv => ?_, h _ hx⟩
      exact ⟨.non, rfl, v, rfl, by rw [sizeLine_eq]; show 2 ≤ _; decide, hv⟩
    obtain ⟨e1, e2⟩ := hE
    refine ⟨true, e1, fun _ a na => ?_, fun z => nomatch z⟩
    exact ⟨.ref a, rfl, .ref a, rfl, .non, rfl, by rw [sizeLine_eq]; show 2 ≤ _; decide, fun p' hp' => e2 a p' na (fun z => by rw [z, upd_same] at hp'; cases hp') (by rw [upd_ne (fun z => by rw [z, upd_same] at hp'; cases hp')] at hp'; exact hp')⟩
end WT
set_option maxHeartbeats 2000000
namespace WT
open PySem PySem.W PySem.Calls PyProof.Rows PySem.Spec L2 Evl
/-- what the written part says, for its instances to be asked -/
structure AskC (K : PySem.W.Frag) (C : Addr) : Prop where
  xf : XfC K C
  cl : (PySem.W.clsIn K C).isSome = true
  ha : PySem.W.findIn K (.ref C) "__class__" = some (some (.builtin "object.__class__"))
  hn : PySem.W.specialIn K (.builtin "object.__class__") "__get__" = some (some (.builtin "getset_descriptor.__get__"))
  ht : PySem.W.takesIn K (.builtin "object.__class__") = some true
  hm : PySem.W.mroIn K C (.type "object") = some true
/-- the class x, that may be made: C(e) -/
def Okq (P : Program) (w : World) (K : PySem.W.Frag) (mg : Str → Option Value) (base : Heap) (x : Str) (k : Nat) (C D : Addr) : Prop :=
  ∃ (fI : Addr) (fd : FuncData), mg x = some (.ref C) ∧ TurC K D C ∧ PySem.W.findIn K (.ref C) "__init__" = some (some (.ref fI)) ∧ PySem.W.typeIn K (.ref fI) = some (.type "function") ∧ Binds K fd ["self", "value"] [] ∧ FnOk P w K mg base CX0 k fI fd ["self", "value"] (spTurn K D)
/-- C(e): the exception's dict is laid, with the value -/
def tBad (C : Addr) (te : TE) : L2.St → Hp → XK → Prop := fun σ H Q => te σ H fun y H1 => ∀ dx, H1 dx = none → Q (.ref C) (some dx) (upd H1 dx (.xd [("value", y)]))
/-- a weaker wish will do -/
def tUp (te : TE) : TE := fun σ H Q => ∃ R : VK, (∀ v H', R v H' → Q v H') ∧ te σ H R
theorem pe_up {X : Cx} {e : Expr} {te : TE} (he : PE X e te) : PE X e (tUp te) :=
  ⟨fun pins s σ H Q I ⟨R, hR, h⟩ => wpAny_mono (he.run pins s σ H R I h) (fun u s1 ⟨v, H1, I1, r, q⟩ => ⟨v, H1, I1, r, hR _ _ q⟩) fun _ _ x => x⟩
section
variable {X : Cx} {x : Str} {k : Nat} {C D : Addr} {e : Expr} {te : TE} {p pos : Pos}
theorem pmk_bad (o : Okq X.prog X.w X.K X.mg X.base x k C D) (hr : Room (k + 1) X.A) (hg : Gl X x) (he : PE X e te) (hdb : (x == ("__debug__" : Str)) = false := by decide) (hst : starEach [e] X.env = (false, eval e X.env) :: starEach [] X.env := by rfl) :
    PMk X (.Call (.Name x p) [e] [] pos) (tBad C te) := by
  obtain ⟨fI, fd, gC, T, iC, tI, hb, F⟩ := o
  have M := pmk_oex (X := X) (p := p) (pos := pos) T.ox iC tI F hr hb .nil pass0 hg gC (pa_cons (pe_up he) pa_nil hst) hdb hst (by rfl)
  intro pins s σ H Q I h
  refine M pins s σ H Q I ⟨_, fun y H1 q => ?_, h⟩
  refine ⟨by show 1 ≤ 1000; decide, fun a na => ⟨a, C, y, rfl, T, upd_same, fun dx n ne => ⟨rfl, dx, [("value", y)], upd_same, by rw [upd_ne ne, upd_same], ?_, ?_⟩⟩⟩
  · rw [upd_ne ne] at n
    exact n
  · rw [upd_ne ne] at n
    have e1 : upd (del (upd (upd (upd H1 a (exo a C none)) dx (exd dx [("value", y)])) a (exo a C (some dx))) a) dx (.xd [("value", y)]) = upd H1 dx (.xd [("value", y)]) := by
      funext b
      by_cases hb : b = dx
      · rw [hb, upd_same, upd_same]
      · rw [upd_ne hb, upd_ne hb]
        by_cases ha : b = a
        · rw [ha, del_same, na]
        · rw [del_ne ha, upd_ne ha, upd_ne hb, upd_ne ha]
    rw [e1]
    exact q dx n
end
def Okx (P : Program) (w : World) (K : PySem.W.Frag) (mg : Str → Option Value) (base : Heap) (x : Str) (ps : List Str) (st : Stmt) (k : Nat) (sp : Sp) : Prop :=
  ∃ (f : Addr) (fd : FuncData), mg x = some (.ref f) ∧ Fun K x x st f fd ∧ Binds K fd ps [] ∧ FnOk P w K mg base (L2.CX P w) k f fd ps sp
section
variable {P : Program} {w : World} {K : PySem.W.Frag} {mg : Str → Option Value} {base : Heap} {x : Str} {ps N : List Str} {st : Stmt} {k : Nat} {sp : Sp}
theorem Okx.mk (d : DefIn K mg x ps st) (S : FnScope N ps (defScope st)) (len : ∀ vs H Q E, sp vs H Q E → vs.length = ps.length)
    (h : ∀ (f : Addr) (cdv : Value) (A : Around) (outer : List Env) (s : Shared) (H : Hp) (vs : List V) (Q : VK) (E : XK), Room k (A.deeper (envOfC x (defScope st) s.heap.objs.size f cdv)) → sp vs H Q E →
      ∃ t, PSs (cxOf (L2.CX P w) P w K mg base N x (defScope st) f cdv A outer s H E) (defBody st) t ∧ t { nx := fun _ H' => Q .non H', rt := Q } (L2.start N vs) H) : Okx P w K mg base x ps st (k + 1) sp := by
  obtain ⟨f, fd, F, g, b⟩ := d.ex
  exact ⟨f, fd, g, F, b, F.okX S len fun cdv A outer s H vs Q E => h f cdv A outer s H vs Q E⟩
/-- called where nothing may be raised -/
theorem Okx.d (o : Okx P w K mg base x ps st k sp) : Okd P w K mg base x ps st k (fun vs H Q _ => sp vs H Q E0) := by
  obtain ⟨f, fd, g, F, b, G⟩ := o
  refine ⟨f, fd, g, F, b, fun vs H Q _ h => G.len vs H Q E0 h, fun A out s H args us vs Q E hr e0 hb r h => ?_⟩
  refine codeAny_mono (G.run A out s H args us vs Q E0 hr e0 hb r h) fun z s' hq => ?_
  cases z with
  | error e =>
    obtain ⟨_, _, _, _, _, _, _, _, _, _, _, _, z⟩ := hq
    exact z.elim
  | ok fl => cases fl <;> exact hq
end
section
variable {X : Cx} {x : Str} {k : Nat} {ps : List Str} {st : Stmt} {sp : Sp} {W : WX} {e : Expr} {es : List Expr} {t : TA} {p pos : Pos}
theorem pe_fnX (o : Okx X.prog X.w X.K X.mg X.base x ps st k sp) (hr : Room k X.A) (tk : Takes X W) (ha : PA X (e :: es) t) (hg : Gl X x := by rfl) (hdb : (x == ("__debug__" : Str)) = false := by decide)
    (he : starEach (e :: es) X.env = (false, eval e X.env) :: starEach es X.env := by rfl) (hpl : (backTo pos (starEach es X.env)).any (·.1) = false := by rfl) : PE X (.Call (.Name x p) (e :: es) [] pos) (tCallS sp (WE W) t) := by
  obtain ⟨f, fd, g, F, b, G⟩ := o
  exact pe_callS G hr hg g F.kp b (passAt tk) ha hdb he hpl
end
/-- isinstance(e, c), e an exception that was caught and kept -/
def rIsQ (K : PySem.W.Frag) : List V → Hp → VK → Prop := fun xs H Q => ∃ (a C D : Addr) (d : Addr) (fs : List (Str × V)) (b : Bool), xs = [.ref a, .ref D] ∧ AskC K C ∧ H a = some (excO a (.ref C) (some d)) ∧ H d = some (.xd fs) ∧ PySem.W.kitOne K (.ref C) (.ref D) = some b ∧ Q (.bl b) H
theorem excO_inst {P : Program} {w : World} {H : Hp} {h : Heap} {a C d : Addr} {fs : List (Str × V)} (hok : HOk P w H h) (he : H a = some (excO a (.ref C) (some d))) (hd : H d = some (.xd fs)) :
    ∃ (oe od : Obj) (mA : Str → Option Value), PySem.W.InstAt h a oe C (some od) ∧ h.Ns1 d mA ∧ (∀ f, RelO (fs.lookup f) (mA f)) ∧ ∀ n, PySem.W.lookIn n od = some (mA n) := by
  obtain ⟨oe, vs, ho, hz, hv⟩ := excO_at hok he
  have hx : ObjOk P w H h d (.xd fs) := hok d _ hd
  obtain ⟨mA, hns, hr⟩ := hx
  obtain ⟨od, ho2, hl⟩ := lookIn_ns hns
  exact ⟨oe, od, mA, ⟨ho, hz.1, by unfold PySem.W.notCls; rw [hv] <;> rfl, by rw [hz.2]; exact ho2⟩, hns, hr, hl⟩
theorem call_isQ {X : Cx} : CallR X (.builtin "isinstance") (rIsQ X.K) := by
  intro pins s σ H xs us Q I r h
  obtain ⟨a, C, D, d, fs, b, rfl, T, ha, hd, e, q⟩ := h
  obtain ⟨oe, od, mA, J, _, _, _⟩ := excO_inst I.hok ha hd
  cases r with
  | cons rx rr =>
    cases rr with
    | cons rt rr =>
      cases rr
      cases rx
      cases rt
      exact PySem.W.kia_one (PySem.W.kitx_exc T.cl T.xf.ga T.xf.gg T.xf.exC T.ha T.hn T.ht T.hm) I.kIn J e (fun z => nomatch z) fun tk => ⟨.bl b, H, I.kept (t' := tk) fun _ _ z => z, rfl, q⟩
/-- e.n, e an exception that was caught and kept -/
def tXq (K : PySem.W.Frag) (n : Str) (te : TE) : TE := fun σ H Q => te σ H fun x H1 => ∃ (a C d : Addr) (fs : List (Str × V)) (v : V), x = .ref a ∧ AskC K C ∧ PySem.W.findIn K (.ref C) n = some none ∧ H1 a = some (excO a (.ref C) (some d)) ∧ H1 d = some (.xd fs) ∧ fs.lookup n = some v ∧ Q v H1
theorem pe_xq {X : Cx} {e : Expr} {te : TE} {pos : Pos} {n : Str} (he : PE X e te) (hb : attributeBase e n X.env (eval e X.env) = eval e X.env := by rfl) : PE X (.Attribute e n pos) (tXq X.K n te) := by
  refine ⟨fun pins s σ H Q I h => ?_⟩
  refine attr_of hb (L2.thn (he.run pins s σ H _ I h) fun u s1 hh => ?_)
  obtain ⟨x, H1, I1, rx, a, C, d, fs, v, ex, T, hno, ha, hd, l, q⟩ := hh
  subst ex
  obtain rfl : u = Value.ref a := rx
  obtain ⟨oe, od, mA, J, hns, hr, hl⟩ := excO_inst I1.hok ha hd
  obtain ⟨u, hu, ru⟩ := RelO.some_of (v := v) (o := mA n) (by rw [← l]; exact hr n)
  exact HandSPX.exc_get I1.kIn J T.xf.ga T.xf.gg T.xf.exC (PySem.W.findObj_own T.xf.hdC hno rfl (by rw [hl, hu])) (handed_of ru) ⟨v, H1, I1.tok _, ru, q⟩
end WT
set_option maxHeartbeats 2000000
namespace WT
open PySem PySem.Spec PyProof.Rows L2 Evl
/-- the code objects of defs with lambdas, their tables: empty at first, not written -/
structure TabH (K : PySem.W.Frag) (cs : List (Addr × Addr)) (h : Heap) : Prop where
  emp : ∀ p ∈ cs, h.get? p.2 = some (PySem.W.tabObj #[])
  hd : ∀ p ∈ cs, PySem.W.CodeHd h p.1 p.2
  out : ∀ p ∈ cs, K.lookup p.2 = none
/-- what the top tells of the def x: its code object, its table -/
def TabD (mg : Str → Option Value) (h : Heap) (x : Str) : Prop := ∃ (a : Addr) (o : Obj) (fd : FuncData) (c P : Addr), mg x = some (.ref a) ∧ h.get? a = some o ∧ o.data = .func fd ∧ fd.code = .ref c ∧ PySem.W.CodeHd h c P ∧ h.get? P = some (PySem.W.tabObj #[])
section
variable {P : Program} {w : World} {K : PySem.W.Frag} {mg mb : Str → Option Value} {k : Nat} {fa a : Addr} {fd : FuncData} {x : Str} {sp : Sp} {s : Shared} {vs : List Value} {ns : List Int} {cs : List (Addr × Addr)}
theorem call_tabs (kin : K.In s.heap) (glo : s.heap.Ns mainGlobals mg) (blt : s.heap.Ns builtinsNs mb) (bok : ∀ y : Str, y ≠ "__name__" → mb y = bootBuiltins y) (nol : s.heap.NoLimit) (gen : s.gens = #[]) (TH : TabH K cs s.heap)
    (bmo : ∃ (m : Addr) (ob : Obj), mg "__builtins__" = some (.ref m) ∧ m ≠ builtinsNs ∧ s.heap.get? m = some ob ∧ ob.cls = .type "module" ∧ ob.dict = some builtinsNs ∧ ob.data = .plain)
    (ho : s.heap.get? a = some { cls := .type "list", data := .seq vs.toArray }) (hr : Room k callerA) (F : ∀ base : Heap, K.In base → base.Ns mainGlobals mg → (∀ p ∈ cs, LamX.TabB base mg p.1 p.2) → FnG P w K mg base k fa fd [x] sp)
    (hb : ∀ (s : Shared) (u : Value), BindsTo s fd ⟨[u], []⟩ [(x, u)]) (H : Hp) (kind : ∀ b u, H b = some u → (b = a ∧ ∃ ob xs, u = .frz ob (.lst xs)) ∨ (b ∈ cs.map (·.2) ∧ u = .tbl #[])) (htb : ∀ p ∈ cs, H p.2 = some (.tbl #[]))
    (hsp : sp [.ref a] H (fun v _ => v = .bl true) fun _ _ _ => False) (hok : HOk P w H s.heap) (noK : H a ≠ none → K.lookup a = none) :
    codeAny (model P w) callerA (.call (.ref fa) ⟨[.ref a], []⟩) (fun r s' => r = .ok (.ret (.bool true)) ∧ OldK s.heap s'.heap ∧ s'.os = s.os ∧ AllBare s'.gens) s := by
  have empA : ∀ b, b ∈ cs.map (·.2) → s.heap.get? b = some (PySem.W.tabObj #[]) ∧ K.lookup b = none := fun b hb => by
    obtain ⟨p, hp, rfl⟩ := List.mem_map.mp hb
    exact ⟨TH.emp p hp, TH.out p hp⟩
  -- what is no list and no empty table is not tracked
  have other : ∀ {b : Addr} {o : Obj}, s.heap.get? b = some o → (∀ n m, o.data ≠ .seq n m) → o.data ≠ .fields #[] → H b = none := by
    intro b o e n1 n2
    cases q : H b with
    | none => rfl
    | some u =>
      rcases kind b u q with ⟨z, _⟩ | ⟨z, _⟩
      · rw [z, ho] at e
        cases e
        exact absurd rfl (n1 _ _)
      · rw [(empA b z).1] at e
        cases e
        exact absurd rfl n2
  have ns1 : ∀ {b : Addr} {m : Str → Option Value}, s.heap.Ns b m → (hidT s.heap H).Ns b m := by
    rintro b m ⟨o, es, ep, e, d, r⟩
    exact ⟨o, es, ep, hidT_get e (other e (fun n m z => by rw [d] at z; cases z) (fun z => by rw [d] at z; cases z)), d, r⟩
  have kin1 : K.In (hidT s.heap H) := by
    intro b o e
    refine hidT_get (kin b o e) ?_
    cases q : H b with
    | none => rfl
    | some u =>
      rcases kind b u q with ⟨z, _⟩ | ⟨z, _⟩
      · subst z
        rw [noK (by rw [q]; simp)] at e
        cases e
      · rw [(empA b z).2] at e
        cases e
  have md : Mod K mg (hidT s.heap H) := by
    obtain ⟨mc, n1, n2⟩ := nol
    exact ⟨kin1, ns1 glo, ⟨mb, ns1 blt, bok⟩, mc, ns1 n1, n2⟩
  have tb : ∀ p ∈ cs, LamX.TabB (hidT s.heap H) mg p.1 p.2 := by
    intro p hp
    have e1 := TH.emp p hp
    refine ⟨?_, ?_, fun z => ?_⟩
    · obtain ⟨o, us, fi, tf, fl, tg, nf, tx, tt, c1, c2, c3, r1, r2, r3, r4, r5, r6, c4⟩ := TH.hd p hp
      refine ⟨o, us, fi, tf, fl, tg, nf, tx, tt, hidT_get c1 (other c1 (fun n m z => by rw [c3] at z; cases z) fun z => ?_), c2, c3, r1, r2, r3, r4, r5, r6, c4⟩
      rw [c3] at z
      cases z
      simp at r1
    · obtain ⟨m, ob, q1, q2, q3, q4, q5, q6⟩ := bmo
      refine ⟨m, ob, q1, q2, fun z => ?_, fun z => ?_, hidT_get q3 (other q3 (fun n m z => by rw [q6] at z; cases z) (fun z => by rw [q6] at z; cases z)), q4, q5, q6⟩
      · obtain ⟨o, es, ep, e, d, _⟩ := glo
        rw [z, e] at q3
        cases q3
        rw [d] at q6
        cases q6
      · rw [z, e1] at q3
        cases q3
        cases q6
    · obtain ⟨o, es, ep, e, d, _⟩ := glo
      rw [z, e1] at e
      cases e
      cases d
  have e0 : Env0 P w K mg (hidT s.heap H) callerA [] s H :=
    ⟨rfl, md, fun b o e => of_hidT e, Nat.le_of_eq (hidT_size _ _), trivial, (fun b hb => absurd (show b ∈ ([] : List Addr) from hb) (by simp)), hok, AllBare.of_eq gen⟩
  refine codeAny_mono ((F _ kin1 (ns1 glo) tb).run callerA [] s H ⟨[.ref a], []⟩ [.ref a] [.ref a] _ _ rfl hr e0 (hb s (.ref a)) (.cons rfl .nil) hsp) fun r s' h => ?_
  match r, h with
  | .error _, h => exact False.elim h
  | .ok .next, h => exact False.elim h
  | .ok .brk, h => exact False.elim h
  | .ok .cont, h => exact False.elim h
  | .ok (.ret u), h =>
    obtain ⟨v, H', os1, bare1, un, hok1, rv, q⟩ := h
    cases (show v = .bl true from q)
    obtain rfl : u = Value.bool true := rv
    -- a table has grown, all else stands
    have grown : ∀ b, b ∈ cs.map (·.2) → ∃ more : Array Value, s'.heap.get? b = some (PySem.W.tabObj more) := fun b hb => by
      obtain ⟨p, hp, rfl⟩ := List.mem_map.mp hb
      obtain ⟨more, z⟩ := un.tbls p.2 #[] (htb p hp)
      exact ⟨_, hok1 p.2 _ z⟩
    have kept : ∀ b o, b ∉ cs.map (·.2) → s.heap.get? b = some o → s'.heap.get? b = some o := fun b o nb e => by
      cases z : H b with
      | none => exact un.keep b o e z (by intro y; exact absurd (show b ∈ ([] : List Addr) from y) (by simp)) (by simp)
      | some u =>
        rcases kind b u z with ⟨_, ob, xs, rfl⟩ | ⟨y, _⟩
        · obtain ⟨g1, _⟩ := hok b _ z
          obtain ⟨g2, _⟩ := hok1 b _ (un.frzs b ob _ z)
          rw [e] at g1
          cases g1
          exact g2
        · exact absurd y nb
    refine ⟨rfl, ⟨fun b o e => ?_, fun b o e => ?_⟩, os1, bare1⟩
    · by_cases y : b ∈ cs.map (·.2)
      · obtain ⟨more, g⟩ := grown b y
        obtain ⟨p, hp, ep⟩ := List.mem_map.mp y
        subst ep
        rw [TH.emp p hp] at e
        cases e
        exact .inr (.inl ⟨((TH.hd p hp).tab (TH.emp p hp)).isCodeTable, rfl, #[], more, rfl, by rw [Array.empty_append]; exact g⟩)
      · exact .inl (kept b o y e)
    · by_cases y : b ∈ cs.map (·.2)
      · obtain ⟨more, g⟩ := grown b y
        exact ⟨_, g⟩
      · exact ⟨o, kept b o y e⟩
theorem lawGT (kin : K.In s.heap) (glo : s.heap.Ns mainGlobals mg) (blt : s.heap.Ns builtinsNs mb) (bok : ∀ y : Str, y ≠ "__name__" → mb y = bootBuiltins y) (nol : s.heap.NoLimit) (gen : s.gens = #[]) (TH : TabH K cs s.heap)
    (bmo : ∃ (m : Addr) (ob : Obj), mg "__builtins__" = some (.ref m) ∧ m ≠ builtinsNs ∧ s.heap.get? m = some ob ∧ ob.cls = .type "module" ∧ ob.dict = some builtinsNs ∧ ob.data = .plain)
    (ho : s.heap.get? a = some { cls := .type "list", data := .seq vs.toArray }) (hi : IntsAre vs ns) (hl : ns.length ≤ sizeLine) (hr : Room k callerA) (F : ∀ base : Heap, K.In base → base.Ns mainGlobals mg → (∀ p ∈ cs, LamX.TabB base mg p.1 p.2) → FnG P w K mg base k fa fd [x] sp)
    (hb : ∀ (s : Shared) (u : Value), BindsTo s fd ⟨[u], []⟩ [(x, u)]) (hsp : ∀ H : Hp, (∀ p ∈ cs, H p.2 = some (.tbl #[])) → SqL K H a (ns.map V.int) → sp [.ref a] H (fun v _ => v = .bl true) fun _ _ _ => False) :
    codeAny (model P w) callerA (.call (.ref fa) ⟨[.ref a], []⟩) (fun r s' => r = .ok (.ret (.bool true)) ∧ OldK s.heap s'.heap ∧ s'.os = s.os ∧ AllBare s'.gens) s := by
  have rv := vals_ints hi
  have ln := hi.length
  have aNo : a ∉ cs.map (·.2) := fun z => by
    obtain ⟨p, hp, e⟩ := List.mem_map.mp z
    have q := TH.emp p hp
    rw [e, ho] at q
    cases congrArg Obj.data (Option.some.inj q)
  have mem2 : ∀ p ∈ cs, p.2 ∈ cs.map (·.2) := fun p hp => List.mem_map.mpr ⟨p, hp, rfl⟩
  have okT : ∀ b, b ∈ cs.map (·.2) → ∀ H : Hp, ObjOk P w H s.heap b (.tbl #[]) := fun b hb H => by
    obtain ⟨p, hp, rfl⟩ := List.mem_map.mp hb
    exact TH.emp p hp
  cases hk : K.lookup a with
  | some o =>
    have e := kin a o hk
    rw [ho] at e
    cases e
    let H0 : Hp := fun b => if b ∈ cs.map (·.2) then some (.tbl #[]) else none
    have at0 : ∀ b u, H0 b = some u → b ∈ cs.map (·.2) ∧ u = .tbl #[] := fun b u z => by
      by_cases hb : b ∈ cs.map (·.2)
      · exact ⟨hb, (Option.some.inj ((if_pos hb).symm.trans z)).symm⟩
      · cases (if_neg hb).symm.trans z
    have tb0 : ∀ p ∈ cs, H0 p.2 = some (.tbl #[]) := fun p hp => if_pos (mem2 p hp)
    have S : SqL K H0 a (ns.map V.int) := .inr ⟨_, vs.toArray, _, hk, rfl, rfl, rfl, by rw [List.size_toArray, ln]; exact hl, by simpa using rv⟩
    refine call_tabs kin glo blt bok nol gen TH bmo ho hr F hb H0 (fun b u z => .inr (at0 b u z)) tb0 (hsp H0 tb0 S) (fun b u z => ?_) fun z => absurd (if_neg aNo) z
    obtain ⟨h1, rfl⟩ := at0 b u z
    exact okT b h1 H0
  | none =>
    let H1 : Hp := fun b => if b = a then some (HO.frz { cls := .type "list", data := .seq vs.toArray } (.lst (ns.map V.int))) else if b ∈ cs.map (·.2) then some (.tbl #[]) else none
    have at_a : H1 a = some (HO.frz { cls := .type "list", data := .seq vs.toArray } (.lst (ns.map V.int))) := if_pos rfl
    have tb1 : ∀ p ∈ cs, H1 p.2 = some (.tbl #[]) := fun p hp => by
      have n : p.2 ≠ a := fun z => aNo (z ▸ mem2 p hp)
      exact (if_neg n).trans (if_pos (mem2 p hp))
    have at1 : ∀ b u, H1 b = some u → (b = a ∧ u = HO.frz { cls := .type "list", data := .seq vs.toArray } (.lst (ns.map V.int))) ∨ (b ∈ cs.map (·.2) ∧ u = .tbl #[]) := fun b u z => by
      by_cases e : b = a
      · subst e
        exact .inl ⟨rfl, (Option.some.inj (at_a.symm.trans z)).symm⟩
      · have z1 := (if_neg e).symm.trans z
        by_cases hb : b ∈ cs.map (·.2)
        · exact .inr ⟨hb, (Option.some.inj ((if_pos hb).symm.trans z1)).symm⟩
        · cases (if_neg hb).symm.trans z1
    refine call_tabs kin glo blt bok nol gen TH bmo ho hr F hb H1 (fun b u z => (at1 b u z).imp (fun ⟨h1, h2⟩ => ⟨h1, _, _, h2⟩) id) tb1 (hsp H1 tb1 (.inl (.inr ⟨_, at_a⟩))) (fun b u z => ?_) fun _ => hk
    rcases at1 b u z with ⟨rfl, rfl⟩ | ⟨h1, rfl⟩
    · exact ⟨ho, by rw [List.length_map]; exact hl, vs, _, rv, ho⟩
    · exact okT b h1 H1
end
/-- the goal that k_head leaves, from the law's promise; xs: the defs that hold lambdas -/
theorem walkGT {l : PySem.W.OpenLaw} {n k : Nat} {q : Program} {loose : List Str} {XP : (Str → Option Value) → Heap → Prop} {YP : World → Heap → Prop} {d : DefRec} {K : Params → PySem.W.Frag} {sp : PySem.W.Frag → List (Addr × Addr) → Sp} {x : Str} (xs : List Str)
    (hn : l.most = some n) (hn2 : n ≤ sizeLine) (hdf : d.params.defaults = []) (hr : Room k callerA) (hxs : (xs.all fun y => (recsOf q).any fun e => e.name == y) = true) (hY : ∀ (w : World) (h : Heap), YP w h → (K w.params).In h)
    (F : ∀ (w : World) (mg : Str → Option Value) (fa : Addr) (h : Heap), (K w.params).In h → h.Ns mainGlobals mg → mg d.name = some (.ref fa) → (∀ y ∈ xs, TabD mg h y) →
      ∃ (fd : FuncData) (cs : List (Addr × Addr)), TabH (K w.params) cs h ∧ (∀ (s : Shared) (u : Value), BindsTo s fd ⟨[u], []⟩ [(x, u)]) ∧ ∀ base : Heap, (K w.params).In base → base.Ns mainGlobals mg → (∀ p ∈ cs, LamX.TabB base mg p.1 p.2) → FnG l.prog w (K w.params) mg base k fa fd [x] (sp (K w.params) cs))
    (hsp : ∀ (K : PySem.W.Frag) (cs : List (Addr × Addr)) (H : Hp) (a : Addr) (ns : List Int), ns.length ≤ n → (∀ p ∈ cs, H p.2 = some (.tbl #[])) → SqL K H a (ns.map V.int) → sp K cs [.ref a] H (fun v _ => v = .bl true) fun _ _ _ => False) :
    PySem.W.WalkO q loose XP YP l.row.toRowW d [] (fun f vs => PySem.call f vs) := by
  refine Att.attach_call hn hdf fun w s0 s mg mb fa o pm cd doc a vs ns G Y ho hd hcd hmg hobj hints hlen hg => ?_
  have kin := hY w _ Y
  have tabs : ∀ y ∈ xs, TabD mg s.heap y := fun y hy => by
    obtain ⟨dL, hm, hn1⟩ := List.any_eq_true.mp (List.all_eq_true.mp hxs y hy)
    obtain ⟨a', o', fd', c', P', h1, h2, h3, h4, h5, h6⟩ := G.T.tab dL hm
    rw [beq_iff_eq.mp hn1] at h1
    exact ⟨a', o', fd', c', P', h1, h2, h3, h4, PySem.W.CodeHd.of h5 h6, h6.2⟩
  obtain ⟨fd, cs, TH, hb, hF⟩ := F w mg fa _ kin G.T.g hmg tabs
  exact lawGT kin G.T.g G.T.b G.T.builtins G.T.nolimit hg TH G.T.bmain hobj hints (Nat.le_trans hlen hn2) hr hF hb fun H hT hS => hsp _ cs H a ns hlen hT hS
/-- the table of a def, from what is written of the def and its code object -/
theorem tabH_of {K : PySem.W.Frag} {h : Heap} {mg : Str → Option Value} {x : Str} {f c P : Addr} {fd : FuncData} {oc e : Value} {od dd : Option Addr} {sl sl2 : Array (Option Value)} {vs : Array Value} (X : K.In h) (T : TabD mg h x) (g : mg x = some (.ref f)) (l : K.lookup f = some ⟨oc, od, .func fd, sl⟩) (hc : fd.code = .ref c)
    (lc : K.lookup c = some ⟨e, dd, .fields vs, sl2⟩) (hv : vs[11]? = some (.ref P)) : h.get? P = some (PySem.W.tabObj #[]) ∧ PySem.W.CodeHd h c P := by
  obtain ⟨a, o, fd', c', P', h1, h2, h3, h4, h5, h6⟩ := T
  rw [g] at h1
  cases h1
  rw [X _ _ l] at h2
  cases h2
  cases h3
  rw [hc] at h4
  cases h4
  obtain ⟨o2, us, fi, tf, fl, tg, nf, tx, tt, c1, c2, c3, r1, rest⟩ := id h5
  rw [X _ _ lc] at c1
  cases c1
  cases c3
  rw [hv] at r1
  cases r1
  exact ⟨h6, h5⟩
/-- the def's code object is at some c, its table at P -/
def TabF (K : PySem.W.Frag) (base : Heap) (mg : Str → Option Value) (x : Str) (st : Stmt) (P : Addr) : Prop := ∀ (f : Addr) (fd : FuncData), Fun K x x st f fd → mg x = some (.ref f) → ∃ c, fd.code = .ref c ∧ LamX.TabB base mg c P
section
variable {P : Program} {w : World} {K : PySem.W.Frag} {mg : Str → Option Value} {base : Heap}
theorem Okg.mkT {x : Str} {ps N : List Str} {st : Stmt} {k : Nat} {sp : Sp} {tp : Addr} (d : DefIn K mg x ps st) (tf : TabF K base mg x st tp) (S : FnScope N ps (defScope st)) (len : ∀ vs H Q E, sp vs H Q E → vs.length = ps.length)
    (h : ∀ (f c : Addr) (A : Around) (outer : List Env) (s : Shared) (H : Hp) (vs : List V) (Q : VK) (E : XK), LamX.TabB base mg c tp → A.guards = some [] → Room k (A.deeper (envOfC x (defScope st) s.heap.objs.size f (.ref c))) → sp vs H Q E →
      ∃ t, PSs (cxOf CX0 P w K mg base N x (defScope st) f (.ref c) A outer s H E).nox (defBody st) t ∧ t { nx := fun _ H' => Q .non H', rt := Q } (start N vs) H) : Okg P w K mg base x ps st (k + 1) sp := by
  obtain ⟨f, fd, F, g, b⟩ := d.ex
  obtain ⟨c, ec, TB⟩ := tf f fd F g
  refine ⟨f, fd, g, F, b, len, fun A out s H args us vs Q E hgd hr e0 hb r hsp => ?_⟩
  obtain ⟨oc, od, kV, doc, pm, an, cdv, ct, osl, rfl, lk, hcd⟩ := F.ex
  obtain rfl : cdv = .ref c := ec
  have hl := len _ _ _ _ hsp
  have kin : K.In s.heap := e0.mod.kin.keeps fun b o e => (e0.bs b o e).1
  have nol : s.heap.NoLimit := e0.mod.nolimit.keeps fun b o e => (e0.bs b o e).1
  have kinds : ∀ y ∈ ps.zip us, (defScope st).names.lookup y.1 = some .local ∨ ((defScope st).names.lookup y.1 = some .cell ∧ ((cellsFrom (s.heap.objs.size + 1) (defScope st).names []).lookup y.1).isSome = true) := fun y hy => by
    have hm : y.1 ∈ ps := (List.of_mem_zip (show (y.1, y.2) ∈ ps.zip us from hy)).1
    rcases S.par y.1 hm with q | q
    · exact .inl q
    · exact .inr ⟨q, PySem.W.cellsFrom_some _ _ _ (.inl q)⟩
  refine codeAny_call_function hr.depth (kin _ _ lk) rfl S.co S.gen rfl (PySem.W.codeRec_of kin hcd) (hb _ _ _ _ ?_)
  refine wpAny_newFunctionEnv_cells S.kind kinds fun env he s1 nx => ?_
  subst he
  refine ⟨nol.keeps nx.toInCall.keep, codeAny_func ?_⟩
  obtain ⟨t, ht, hq⟩ := h f c A out s H vs Q E TB hgd (hr.deeper _) hsp
  have I : Inv (cxOf CX0 P w K mg base N x (defScope st) f (.ref c) A out s H E) [] (start N vs) H s1 := inv_start S hr.hd e0 hl r nx
  refine wpAny_mono (ht.nox.run [] s1 (start N vs) H _ I hq) (fun fl s' hs => ?_) fun e s' hs => hs
  have close : ∀ {σ' : L2.St} {H' : Hp} {v : V} {u : Value}, Inv (cxOf CX0 P w K mg base N x (defScope st) f (.ref c) A out s H E) [] σ' H' s' → RelV v u → Q v H' → CE out P w H s Q u s' :=
    fun {_ H' v _} J rv q => ⟨v, H', J.os, J.bare, J.base, J.hok, rv, q⟩
  match fl, hs with
  | .ret u, ⟨v, σ', H', J, rv, q⟩ => exact close J rv q
  | .next, ⟨σ', H', J, q⟩ => exact close (v := V.non) (u := Value.none) J rfl q
  | .brk, ⟨_, _, _, q⟩ => exact False.elim q
  | .cont, ⟨_, _, _, q⟩ => exact False.elim q
end
theorem scH_ok : FnScope NH ["call"] scH := ⟨rfl, rfl, rfl, by decide +kernel, rfl, by decide +kernel, by decide +kernel⟩
/-- the text of _law_heard -/
def HeardB (st : Stmt) : Prop := defScope st = scH ∧ ∃ (p1 p2 p3 p4 p5 p6 p7 p8 p9 r1 r2 r3 r4 r5 r6 r7 r8 : Pos) (j1 j2 j3 j4 j5 : Nat) (p10 p11 p12 p13 : Pos),
  defBody st = [.Assign [.Tuple [.Name "caught" p1, .Name "gave" p2] j1 p3] (.Tuple [.Constant .none j2 p4, .Constant .none j3 p5] j4 p6) p7,
      .Try [.Assign [.Name "gave" p8] (.Call (.Name "call" p9) [] [] r1) r2] [.ExceptHandler (some (.Name "TurnError" r3)) (some "error") [.Assign [.Name "caught" r4] (.Name "error" r5) r6] r7] [] [] r8,
      .Return (some (.Tuple [.Name "caught" p10, .Name "gave" p11] j5 p12)) p13]
/-- a table among all tables -/
structure TabT (T : List (Addr × Str)) (P : Addr) (q : Str) : Prop where
  mem : (P, q) ∈ T
  one : ∀ p ∈ T, p.1 = P → p.2 = q
theorem pe_heard {X : Cx} {T : List (Addr × Str)} {c P CS : Addr} {k : Nat} {st : Stmt} {params : Arguments} {body : Expr} {scope : Scope} {t : XK → TE} {p lpos pos : Pos}
    (d : DefIn X.K X.mg "_law_heard" ["call"] st) (hb : HeardB st) (hme : X.mg "TurnError" = some (.ref CS)) (TB : LamX.TabB X.base X.mg c P) (tt : TabT T P (X.env.qual ++ "<lambda>")) (hr : Room (k + 2) X.A)
    (L : LamX.LamS X.env.scope scope) (hbody : ∀ (A : Around) (outer : List Env) (s : Shared) (H : Hp) (E : XK) (f c' : Addr), Room k (A.deeper (LamX.lamEnv X scope s.heap.objs.size f c')) → PE (LamX.lamCx X A outer s H E scope f c') body (t E))
    (hcode : X.env.code = .ref c := by rfl) (hdef : defaultsOf params X.env = ([], []) := by rfl) (hbind : ∀ (q : Str) (cl : List (Str × Addr)) (pm cv ctv : Value), bindArgs (PySem.W.kla_fn "<lambda>" q params body scope cl pm cv ctv) ⟨[], []⟩ = pure [] := by exact fun _ _ _ _ _ => rfl) (hg : Gl X "_law_heard" := by rfl) :
    PE X (.Call (.Name "_law_heard" p) [.Lambda params body scope lpos] [] pos) (LamX.tLam T (THeard X.K CS) t) := by
  obtain ⟨hsc, p1, p2, p3, p4, p5, p6, p7, p8, p9, r1, r2, r3, r4, r5, r6, r7, r8, j1, j2, j3, j4, j5, p10, p11, p12, p13, hbd⟩ := hb
  refine pe_lam d hg (by rw [hsc]; exact scH_ok) rfl (by rw [hsc]; exact .inl (by decide)) (fun g cdv => ?_) TB hcode tt.mem tt.one hr L hdef hbind hbody
  rw [hsc, hbd]
  exact heard_gives hme
end WT
set_option maxHeartbeats 2000000
namespace WT
open PySem PySem.Spec PyProof.Rows L2 Evl
section
variable {σ : L2.St} {H : Hp}
/-- what the items of a list made on the way are known to be -/
def RelL (R : Hp → Nat → V → Prop) (H : Hp) (ks : List Nat) (xs : List V) : Prop := xs.length = ks.length ∧ ∀ (i n : Nat), ks[i]? = some n → ∃ v, xs[i]? = some v ∧ R H n v
theorem RelL.mono {R : Hp → Nat → V → Prop} (hR : ∀ H1 H2 n v, TEx H1 H2 → R H1 n v → R H2 n v) {H' : Hp} (e : TEx H H') {ks : List Nat} {xs : List V} (h : RelL R H ks xs) : RelL R H' ks xs := ⟨h.1, fun i n hi => by
  obtain ⟨v, h1, h2⟩ := h.2 i n hi
  exact ⟨v, h1, hR _ _ _ _ e h2⟩⟩
end
/-- a call that may raise -/
theorem c_callX {sp : Sp} {tr : TA} {σ : L2.St} {H : Hp} {Q : VK} {W : WX} (h : tr σ H fun vs H1 => sp vs H1 Q fun cls d H' => W cls d σ H') : tCallS sp (WE W) tr σ H Q := h
end WT
namespace WT
open PySem PySem.Spec PyProof.Rows L2 Evl
theorem int_LR {n : Nat} (h : n < 10 ^ 14) : PyData.leavesShort 15 (.int (n : Int)) = true ∧ PyData.weight (.int (n : Int)) ≤ 64 ∧ PyData.showable (.int (n : Int)) = true := by
  have hw : ((n : Int).natAbs).log2 < 47 ∨ n = 0 := by
    by_cases z : n = 0
    · exact .inr z
    · left
      rw [show (n : Int).natAbs = n from rfl, Nat.log2_lt z]
      exact Nat.lt_of_lt_of_le h (by decide)
  refine ⟨?_, ?_, ?_⟩
  · simp only [PyData.leavesShort]
    refine decide_eq_true ?_
    show (Str.ofString (toString (n : Int))).length ≤ 15
    rw [PySem.ofString_length]
    exact int_text_length_le10 (k := 14) (by decide) h
  · simp only [PyData.weight]
    split
    · omega
    · rcases hw with z | z
      · omega
      · subst z
        decide
  · simp only [PyData.showable, decide_eq_true_eq]
    rcases hw with z | z
    · omega
    · subst z
      decide
theorem row_LR : ∀ {r : List Nat}, (∀ x ∈ r, x < 10 ^ 14) → PyData.leavesShortAll 15 (rNs r) = true ∧ PyData.weightAll (rNs r) ≤ 65 * r.length ∧ PyData.showableAll (rNs r) = true
  | [], _ => ⟨rfl, Nat.le_refl _, rfl⟩
  | n :: r, h => by
    obtain ⟨h1, h2, h3⟩ := row_LR (r := r) fun x hx => h x (List.mem_cons_of_mem _ hx)
    obtain ⟨g1, g2, g3⟩ := int_LR (h n List.mem_cons_self)
    have e : rNs (n :: r) = .int (n : Int) :: rNs r := rfl
    rw [e]
    simp only [PyData.leavesShortAll, PyData.weightAll, PyData.showableAll, g1, h1, g3, h3, List.length_cons, Bool.and_true, true_and, and_true]
    omega
theorem rows_LR : ∀ {F : List (List Nat)}, (∀ r ∈ F, r.length ≤ 16 ∧ ∀ x ∈ r, x < 10 ^ 14) → PyData.leavesShortAll 15 (F.map tN) = true ∧ PyData.weightAll (F.map tN) ≤ 1100 * F.length ∧ PyData.showableAll (F.map tN) = true
  | [], _ => ⟨rfl, Nat.le_refl _, rfl⟩
  | r :: F, h => by
    obtain ⟨h1, h2, h3⟩ := rows_LR (F := F) fun x hx => h x (List.mem_cons_of_mem _ hx)
    obtain ⟨a1, a2⟩ := h r List.mem_cons_self
    obtain ⟨r1, r2, r3⟩ := row_LR a2
    rw [List.map_cons, tN_e]
    simp only [PyData.leavesShortAll, PyData.weightAll, PyData.showableAll, PyData.leavesShort, PyData.showable, PyData.weight, r1, r3, h1, h3, List.length_cons, Bool.and_true, true_and, and_true]
    omega
theorem rows_shownR {F : List (List Nat)} (hl : F.length ≤ 800) (h : ∀ r ∈ F, r.length ≤ 16 ∧ ∀ x ∈ r, x < 10 ^ 14) : (PyData.tuple (F.map tN)).showable = true ∧ (PyData.tuple (F.map tN)).depth ≤ 50 ∧ (PyData.tuple (F.map tN)).shown.length ≤ sizeLine := by
  obtain ⟨h1, h2, h3⟩ := rows_LR h
  refine ⟨by simp only [PyData.showable, h3], ?_, ?_⟩
  · have : (PyData.tuple (F.map tN)).depth ≤ 2 := (Plain.tup (n := 1) fun d hd => by
      obtain ⟨e, _, rfl⟩ := List.mem_map.mp hd
      exact tN_plain e).2
    omega
  · have e1 : (PyData.tuple (F.map tN)).leavesShort 15 = true := by
      simp only [PyData.leavesShort, h1]
    have e2 := PyData.shown_le 15 (by decide) _ e1
    have e3 : PyData.weight (.tuple (F.map tN)) ≤ 1100 * 800 := by
      simp only [PyData.weight]
      exact Nat.le_trans h2 (Nat.mul_le_mul_left _ hl)
    rw [sizeLine_eq]
    omega
end WT
set_option maxHeartbeats 2000000
namespace WT
open PySem PySem.Spec PyProof.Rows L2 Evl
/-- all but the pot and the tables stay -/
def ButN (p : Addr) (H H' : Hp) : Prop := ∀ q o, q ≠ p → (∀ ps, o ≠ .tbl ps) → H q = some o → H' q = some o
theorem ButN.refl (p : Addr) (H : Hp) : ButN p H H := fun _ _ _ _ h => h
theorem ButN.trans {p : Addr} {H H1 H2 : Hp} (a : ButN p H H1) (b : ButN p H1 H2) : ButN p H H2 := fun q o n t h => b q o n t (a q o n t h)
theorem ButN.of {p : Addr} {H H' : Hp} (e : But p H H') : ButN p H H' := fun q o n _ h => e q o n h
theorem ButN.ofE {p : Addr} {H H' : Hp} (e : Ex H H') : ButN p H H' := fun q o _ _ h => e q o h
theorem ButN.ofN {p : Addr} {H H' : Hp} (e : LamX.ExtN H H') : ButN p H H' := fun q o _ t h => e q o h t
theorem lst_tbl {xs : List V} (ps : Array Value) : HO.lst xs ≠ .tbl ps := fun z => by cases z
theorem tup1_tbl {u : HO} (h : Tup1 u) (ps : Array Value) : u ≠ .tbl ps := fun z => by
  subst z
  exact h
theorem extN_tex {H H' : Hp} (e : LamX.ExtN H H') : TEx H H' := fun a u t h => e a u h (tup1_tbl t)
theorem PotAt.extN {H H' : Hp} {p : Addr} {n : Nat} (h : PotAt H p n) (e : LamX.ExtN H H') : PotAt H' p n := by
  obtain ⟨a, b, c, ⟨h1, h2⟩, h3⟩ := h
  exact ⟨a, b, c, ⟨e _ _ h1 lst_tbl, h2⟩, h3⟩
/-- tables stand while a list changes -/
theorem tabs_butL {T : List (Addr × Str)} {H H' : Hp} {p : Addr} {xs : List V} (t : LamX.Tabs T H) (hp : H p = some (.lst xs)) (e : But p H H') : LamX.Tabs T H' := fun x hx => by
  obtain ⟨ps, h1, h2, h3⟩ := t x hx
  refine ⟨ps, e _ _ (fun z => ?_) h1, h2, fun pos cv hc => ?_⟩
  · rw [z, hp] at h1
    cases h1
  · obtain ⟨c, e1, e2⟩ := h3 pos cv hc
    refine ⟨c, e1, e _ _ (fun z => ?_) e2⟩
    rw [z, hp] at e2
    have := Option.some.inj e2
    unfold LamX.CodeO at this
    cases this
theorem tabs_but {T : List (Addr × Str)} {H H' : Hp} {p : Addr} {n : Nat} (t : LamX.Tabs T H) (hP : PotAt H p n) (e : But p H H') : LamX.Tabs T H' := by
  obtain ⟨xs, hp⟩ := hP.obj
  exact tabs_butL t hp e
/-- the law's turn, with tables -/
def spRightT (T : List (Addr × Str)) : Sp := fun vs H Q _ => ∃ p : Addr, vs = [.ref p] ∧ PotAt H p 0 ∧ LamX.Tabs T H ∧ ∀ H', ButN p H H' → LamX.Tabs T H' → Q (.bl true) H'
def spLawT (K : PySem.W.Frag) (T : List (Addr × Str)) : Sp := fun vs H Q _ => ∃ (a : Addr) (ns : List Int), vs = [.ref a] ∧ SqL K H a (ns.map V.int) ∧ ns.length ≤ 63 ∧ LamX.Tabs T H ∧ ∀ H', Q (.bl true) H'
/-- the same of a heap in which the tables are empty -/
def spLawC (K : PySem.W.Frag) (cs : List (Addr × Addr)) : Sp := fun vs H Q _ => ∃ (a : Addr) (ns : List Int), vs = [.ref a] ∧ SqL K H a (ns.map V.int) ∧ ns.length ≤ 63 ∧ (∀ p ∈ cs, H p.2 = some (.tbl #[])) ∧ ∀ H', Q (.bl true) H'
theorem FnG.imp {P : Program} {w : World} {K : PySem.W.Frag} {mg : Str → Option Value} {base : Heap} {k : Nat} {f : Addr} {fd : FuncData} {ps : List Str} {sp sp' : Sp} (F : FnG P w K mg base k f fd ps sp) (h : ∀ vs H Q E, sp' vs H Q E → sp vs H Q E) : FnG P w K mg base k f fd ps sp' :=
  ⟨fun vs H Q E hs => F.len vs H Q E (h _ _ _ _ hs), fun A out s H args us vs Q E hg hr e0 hb r hs => F.run A out s H args us vs Q E hg hr e0 hb r (h _ _ _ _ hs)⟩
theorem sql_extN {K : PySem.W.Frag} {H H' : Hp} {a : Addr} {xs : List V} (h : SqL K H a xs) (e : LamX.ExtN H H') : SqL K H' a xs := by
  rcases h with (h | ⟨o, h⟩) | h
  · exact .inl (.inl (e _ _ h lst_tbl))
  · exact .inl (.inr ⟨o, e _ _ h fun ps z => by cases z⟩)
  · exact .inr h
/-- the facts of an exception's class, for its instances to be asked -/
structure BadC (K : PySem.W.Frag) (C D : Addr) : Prop where
  ask : AskC K C
  kit : PySem.W.kitOne K (.ref C) (.ref C) = some true
  exm : PySem.W.exmOne K (.ref C) (.ref D) = some true
  va : PySem.W.findIn K (.ref C) "value" = some none
structure ShowOk (d : PyData) : Prop where
  hs : d.showable = true
  hd : d.depth ≤ 50
  hl : d.shown.length ≤ sizeLine
theorem showOk_rows {F : List (List Nat)} (hl : F.length ≤ 800) (h : ∀ r ∈ F, r.length ≤ 16 ∧ ∀ x ∈ r, x < 10 ^ 14) : ShowOk (.tuple (F.map tN)) := by
  obtain ⟨h1, h2, h3⟩ := rows_shownR hl h
  exact ⟨h1, h2, h3⟩
/-- repr(a) != repr(b) of the same data: no -/
theorem et_reprNe {K : PySem.W.Frag} {σ : L2.St} {H : Hp} {ta tb : TE} {d : PyData} (hs : ShowOk d) (h : Ed K ta σ H d) (k : Ed K tb σ H d) : EvT (tTest (tOp rNe (tCB (rReprD K) (tCons ta tNil)) (tCB (rReprD K) (tCons tb tNil)))) σ H false :=
  et_is (et_test (ev_op (ev_repr h hs.hs hs.hd hs.hl) (ev_repr k hs.hs hs.hd hs.hl) (rv_ne rfl))) (by rw [decide_eq_true rfl]; rfl)
end WT
set_option maxHeartbeats 2000000
namespace WT
open PySem PySem.W PySem.Calls PyProof.Rows PySem.Spec L2 Evl
/-- what is written of a lambda -/
structure LamE where
  ps : Arguments
  bd : Expr
  sc : Scope
def lamOf : Expr → Option LamE
  | .Lambda ps bd sc _ => some ⟨ps, bd, sc⟩
  | _ => none
def lamsE : Expr → List LamE
  | .List es _ => es.filterMap lamOf
  | .Call (.Attribute _ _ _) [a] _ _ => (lamOf a).toList
  | _ => []
/-- the lambdas that statements put into lists -/
def lamsS : Nat → List Stmt → List LamE
  | 0, _ => []
  | _ + 1, [] => []
  | n + 1, s :: r => (match s with
    | .Assign _ v _ => lamsE v
    | .Expr v _ => lamsE v
    | .For _ _ b _ _ => lamsS n b
    | .While _ b _ _ => lamsS n b
    | .If _ b c _ => lamsS n b ++ lamsS n c
    | _ => []) ++ lamsS n r
instance : Inhabited LamE := ⟨⟨default, default, default⟩⟩
def lamN (st : Stmt) (n : Nat) : LamE := (lamsS 100 (defBody st)).getD n default
/-- at f: a lambda of the name q, its code object at c', over these cells -/
def LamO (q : Str) (cl : List (Str × Addr)) (e : LamE) (c' f : Addr) : HO := .ext fun h => ∃ pm ctv : Value, h.get? f = some (PySem.W.kla_obj "<lambda>" q e.ps e.bd e.sc (cloFrom cl e.sc.names []) pm c' ctv)
theorem lamO_ne {q : Str} {cl : List (Str × Addr)} {e : LamE} {c' f : Addr} (ps : Array Value) : LamO q cl e c' f ≠ .tbl ps := fun z => by
  unfold LamO at z
  cases z
def IsLam (q : Str) (cl : List (Str × Addr)) (e : LamE) (f : Addr) (H : Hp) : Prop := ∃ c', H f = some (LamO q cl e c' f) ∧ H c' = some (LamX.CodeO c' q)
section
variable {q : Str} {cl : List (Str × Addr)} {e : LamE} {f : Addr} {H H' : Hp}
theorem IsLam.extN (h : IsLam q cl e f H) (x : LamX.ExtN H H') : IsLam q cl e f H' := by
  obtain ⟨c', h1, h2⟩ := h
  exact ⟨c', x _ _ h1 lamO_ne, x _ _ h2 LamX.codeO_ne⟩
theorem IsLam.ex (h : IsLam q cl e f H) (x : Ex H H') : IsLam q cl e f H' := h.extN (LamX.ExtN.of x)
theorem IsLam.put {a : Addr} {xs : List V} {o : HO} (h : IsLam q cl e f H) (ha : H a = some (.lst xs)) : IsLam q cl e f (upd H a o) := by
  obtain ⟨c', h1, h2⟩ := h
  refine ⟨c', ?_, ?_⟩
  · rw [upd_ne fun z => ?_]
    · exact h1
    · rw [z, ha] at h1
      unfold LamO at h1
      cases h1
  · rw [upd_ne fun z => ?_]
    · exact h2
    · rw [z, ha] at h2
      unfold LamX.CodeO at h2
      cases h2
end
def tLamV (T : List (Addr × Str)) (q : Str) (cl : List (Str × Addr)) (e : LamE) : TE := fun _ H Q => LamX.Tabs T H ∧ ∀ f H1, LamX.ExtN H H1 → LamX.Tabs T H1 → H f = none → IsLam q cl e f H1 → Q (.ref f) H1
section
variable {X : Cx}
theorem pe_lamV {T : List (Addr × Str)} {c P : Addr} {params : Arguments} {body : Expr} {scope : Scope} {lpos : Pos} {q : Str} {cl : List (Str × Addr)} (hcl : X.env.cells = cl) (TB : LamX.TabB X.base X.mg c P) (tt : TabT T P q)
    (L : LamX.LamS X.env.scope scope) (hq : X.env.qual ++ "<lambda>" = q := by rfl) (hcode : X.env.code = .ref c := by rfl) (hdef : defaultsOf params X.env = ([], []) := by rfl) :
    PE X (.Lambda params body scope lpos) (tLamV T q cl ⟨params, body, scope⟩) := by
  subst hcl
  subst hq
  refine ⟨fun pins s σ H Q I ⟨hT, h⟩ => ?_⟩
  have hfree := L.has I.ok
  obtain ⟨ps, hP, ht, ha⟩ := hT _ tt.mem
  refine PySem.W.kla_eval hdef ?_
  have hP' : s.heap.get? P = some { cls := .none, data := .fields ps } := I.hok P _ hP
  let mk : Value → Addr → Value → Obj := fun pm c' ctv => PySem.W.kla_obj "<lambda>" (X.env.qual ++ "<lambda>") params body scope (cloFrom X.env.cells scope.names []) pm c' ctv
  -- the end, either way
  have fin : ∀ {h' : Heap} {tk : Nat} {pm ctv : Value} {c' : Addr} {H1 : Hp}, Inv X pins σ H1 { s with heap := h', toks := tk } → s.heap.objs.size ≤ h'.objs.size → LamX.ExtN H H1 → LamX.Tabs T H1 → H1 c' = some (LamX.CodeO c' (X.env.qual ++ "<lambda>")) →
      EP X pins σ Q (.ref h'.objs.size) { s with heap := h'.push (mk pm c' ctv), toks := tk } := fun {h' tk pm ctv c' H1} I1 hsz eN T1 hc' => by
    have n1 : H1 h'.objs.size = none := I1.hok.fresh (Nat.le_refl _)
    have I2 := I1.laid (a := h'.objs.size) (o := LamO (X.env.qual ++ "<lambda>") X.env.cells ⟨params, body, scope⟩ c' h'.objs.size) (h' := h'.push (mk pm c' ctv)) (t' := tk) (fun b o e => Heap.get?_push_of_some _ e) (Nat.le_refl _)
      ⟨⟨pm, ctv, Heap.get?_push_size _ rfl⟩, ⟨_, Heap.get?_push_size _ rfl⟩, fun h1 h2 ⟨p1, p2, hp⟩ st => ⟨p1, p2, st _ hp⟩⟩
    have e2 : Ex H1 (upd H1 h'.objs.size (LamO (X.env.qual ++ "<lambda>") X.env.cells ⟨params, body, scope⟩ c' h'.objs.size)) := Ex.new n1
    exact ⟨.ref h'.objs.size, _, I2, rfl, h _ _ (eN.trans (LamX.ExtN.of e2)) (T1.ext e2) (I.hok.fresh hsz) ⟨c', upd_same, e2 _ _ hc'⟩⟩
  cases hc : codeAmong lpos ps.toList with
  | none =>
    refine PySem.W.kla_makeFunction (mg := X.mg) (c := c) (P := P) (ps := ps) (closure_ok hfree) I.ok.glob (I.mod.glob.keeps I.bk) hcode (TB.code.keeps I.bk) hP' ht hc TB.gP (TB.bm.keeps I.bk) fun c' ctv h' tk hx hge hlt hrec htb => ?_
    obtain ⟨c2, oc, vs, t, e2, hoc, hd, hv⟩ := hrec
    cases e2
    have nC : H c' = none := I.hok.fresh hge
    have I1 := LamX.inv_table (q := X.env.qual ++ "<lambda>") (t' := tk) (more := #[rawInt lpos.line, rawInt lpos.col, .ref c']) (h' := h') I hP (fun b o hb e => hx b o hb e) htb hge ⟨oc, vs, t, hoc, hd, hv⟩
    generalize hH1 : upd (upd H P (.tbl (ps ++ #[rawInt lpos.line, rawInt lpos.col, .ref c']))) c' (LamX.CodeO c' (X.env.qual ++ "<lambda>")) = H1 at I1
    have hc1 : H1 c' = some (LamX.CodeO c' (X.env.qual ++ "<lambda>")) := by rw [← hH1, upd_same]
    have hP1 : H1 P = some (.tbl (ps ++ #[rawInt lpos.line, rawInt lpos.col, .ref c'])) := by rw [← hH1, upd_ne (ne_of_none hP nC), upd_same]
    have eN : LamX.ExtN H H1 := fun b o e n => by
      have z1 : b ≠ c' := ne_of_none e nC
      have z2 : b ≠ P := fun z => n ps (Option.some.inj (e.symm.trans (by rw [z]; exact hP)))
      rw [← hH1, upd_ne z1, upd_ne z2]
      exact e
    have lst : (ps ++ #[rawInt lpos.line, rawInt lpos.col, .ref c']).toList = ps.toList ++ [rawInt lpos.line, rawInt lpos.col, .ref c'] := by simp
    refine fin I1 (Nat.le_trans hge (Nat.le_of_lt hlt)) eN (fun p hp => ?_) hc1
    by_cases hb : p.1 = P
    · rw [tt.one p hp hb, hb]
      refine ⟨_, hP1, by rw [lst]; exact PySem.TriplesOk_snoc _ _ _ _ ht, fun p' cv hcv => ?_⟩
      rw [lst] at hcv
      rcases LamX.among_app _ ht hcv with z | z
      · obtain ⟨c0, e1, e2⟩ := ha p' cv z
        exact ⟨c0, e1, eN _ _ e2 LamX.codeO_ne⟩
      · exact ⟨c', z, hc1⟩
    · obtain ⟨ps', a1, a2, a3⟩ := hT p hp
      have a1' : H1 p.1 = some (.tbl ps') := by rw [← hH1, upd_ne (ne_of_none a1 nC), upd_ne hb]; exact a1
      refine ⟨ps', a1', a2, fun p' cv hcv => ?_⟩
      obtain ⟨c0, e1, e2⟩ := a3 p' cv hcv
      exact ⟨c0, e1, eN _ _ e2 LamX.codeO_ne⟩
  | some cv =>
    obtain ⟨c', e, hco⟩ := ha lpos cv hc
    subst e
    refine PySem.W.kla_makeFunctionHit (mg := X.mg) (c := c) (P := P) (ps := ps) (closure_ok hfree) I.ok.glob (I.mod.glob.keeps I.bk) hcode (TB.code.keeps I.bk) hP' ht hc (TB.bm.keeps I.bk) fun ctv h' tk hx hsz => ?_
    exact fin (I.kept fun b o e => hx b o e) hsz (LamX.ExtN.refl H) hT hco
end
section
variable {X : Cx} {pins : List (Addr × Obj)} {σ : L2.St} {H HZ : Hp} {s s1 : Shared}
/-- x(), in the def that got a kept lambda -/
theorem pe_actT {Ng : List Str} {qg q : Str} {sg : Scope} {g f : Addr} {cdg : Value} {cl : List (Str × Addr)} {e : LamE} {k i : Nat} {a : Str} {pn : List (Addr × Obj)} {xe : Value → Shared → Prop} {W : WX} {E : XK} {tb : TE} {p1 p2 : Pos}
    (I : Inv X pins σ H s) (hcl : X.env.cells = cl) (hq : X.env.qual ++ "<lambda>" = q) (L : LamX.LamS X.env.scope e.sc)
    (hbind : ∀ (q : Str) (cl : List (Str × Addr)) (pm cv ctv : Value), bindArgs (PySem.W.kla_fn "<lambda>" q e.ps e.bd e.sc cl pm cv ctv) ⟨[], []⟩ = pure [])
    (tk : Takes ((cxOf CX0 X.prog X.w X.K X.mg X.base Ng qg sg g cdg X.A X.stack s H E0).tr pn xe) W) (hr : Room (k + 1) (X.A.deeper (envOfC qg sg s.heap.objs.size g cdg)))
    (hbody : ∀ (A : Around) (outer : List Env) (s : Shared) (H : Hp) (c' : Addr), Room k (A.deeper (LamX.lamEnv X e.sc s.heap.objs.size f c')) → PE (LamX.lamCx X A outer s H E e.sc f c') e.bd tb)
    (hN : Ng[i]? = some a) (hv : Vis sg a) (hd : (a == ("__debug__" : Str)) = false := by decide) (hcd : (a == ("__classdict__" : Str)) = false := by decide) :
    PE ((cxOf CX0 X.prog X.w X.K X.mg X.base Ng qg sg g cdg X.A X.stack s H E0).tr pn xe) (.Call (.Name a p1) [] [] p2)
      (fun σZ HZ Q => σZ[i]? = some (some (.ref f)) ∧ IsLam q cl e f HZ ∧ (∀ cls d H', E cls d H' → W cls d σZ H') ∧ ∃ R : VK, (∀ v H', R v H' → Q v H') ∧ tb σ HZ R) := by
  subst hcl
  subst hq
  refine ⟨fun pinsZ sZ σZ HZ Q IZ ⟨hs, ⟨c', hF, hc⟩, hW, R, hR, ht⟩ => ?_⟩
  refine wpAny_Call_Name_kw (L2.thn ((pe_var (pos := p1) (i := i) hN hv hd hcd).run pinsZ sZ σZ HZ (fun v H1 => v = .ref f ∧ H1 = HZ) IZ ⟨.ref f, hs, rfl, rfl⟩) fun u s1 ⟨v, H1, I1, r1, ev, eH⟩ => ?_)
  subst ev
  subst eH
  obtain rfl : u = Value.ref f := r1
  obtain ⟨⟨pm, ctv, of1⟩, _, _⟩ := I1.hok f _ hF
  refine PySem.W.callWith_F0 ⟨_, _, _, _, of1⟩ ?_
  obtain ⟨⟨oc, vs, t, hoc, hdc, hvc⟩, _, _⟩ := I1.hok c' _ hc
  have rc : codeAny (model X.prog X.w) (X.A.deeper (envOfC qg sg s.heap.objs.size g cdg)) (.call (.ref f) ⟨[], []⟩) (CR (L2.CX X.prog X.w) (envOfC qg sg s.heap.objs.size g cdg :: X.stack) X.prog X.w H1 s1 Q E) s1 := by
    refine PySem.W.kla_callFunE hr.depth of1 rfl L.co L.gen rfl ⟨c', oc, vs, t, rfl, hoc, hdc, hvc⟩ ?_
    rw [hbind]
    refine wpAny_pure (wpAny_newFunctionEnv (fun y hy => (L.own y hy).2) (fun y hy => absurd hy (by simp)) (fun h₁ hns hsb => ⟨I1.nolimit.fresh _ hsb, ?_⟩) L.kind)
    show codeAny _ _ (.expr e.bd (LamX.lamEnv X e.sc s1.heap.objs.size f c')) _ _
    have kp : ∀ b o, s1.heap.get? b = some o → h₁.get? b = some o := fun b o e => hsb.extBut b o (Nat.ne_of_lt (Heap.lt_size e)) (Heap.get?_push_of_some _ e)
    have J := LamX.lam_start2 (E := E) (f := f) (c' := c') (tk := s1.toks + ([] : List (Str × Value)).length) I L I1.env0 hr.hd I1.base hns kp
    refine PySem.W.kla_codeExpr (wpAny_mono ((hbody _ _ s1 H1 c' (hr.deeper _)).run [] _ _ H1 R J ht) (fun v s' hq => ?_) fun e s' hq => hq)
    obtain ⟨w', H', J', rv, q⟩ := hq
    exact ⟨w', H', J'.os, J'.bare, J'.base, J'.hok, rv, hR _ _ q⟩
  refine wpAny_call (codeAny_mono rc fun r s' hq => ?_)
  cases r with
  | error e => exact tk e s' (XE.of_call I1 (fun cls d H' h => hW cls d H' h) hq)
  | ok fl =>
    cases fl with
    | ret u => exact I1.after hq
    | next => exact False.elim hq
    | brk => exact False.elim hq
    | cont => exact False.elim hq
end
/-- the def that calls what it got; Pd: what is known of that -/
def GivesP (X : Cx) (Ng : List Str) (x : Str) (sg : Scope) (g : Addr) (cdg : Value) (bg : List Stmt) (a : Str) (Pd : Addr → Hp → Prop) (TT : (XK → Hp → VK → Prop) → Hp → VK → Prop) : Prop :=
  ∀ (f : Addr) (s : Shared) (H : Hp) (Q : VK) (tl : XK → Hp → VK → Prop),
    (∀ (W : WX) (pn : List (Addr × Obj)) (xe : Value → Shared → Prop) (E : XK) (p1 p2 : Pos), Takes ((cxOf CX0 X.prog X.w X.K X.mg X.base Ng x sg g cdg X.A X.stack s H E0).tr pn xe) W →
      PE ((cxOf CX0 X.prog X.w X.K X.mg X.base Ng x sg g cdg X.A X.stack s H E0).tr pn xe) (.Call (.Name a p1) [] [] p2) (fun σZ HZ Q => σZ[0]? = some (some (.ref f)) ∧ Pd f HZ ∧ (∀ cls d H', E cls d H' → W cls d σZ H') ∧ ∃ R : VK, (∀ v H', R v H' → Q v H') ∧ tl E HZ R)) →
    Pd f H → TT tl H Q →
    ∃ t, PSs (cxOf CX0 X.prog X.w X.K X.mg X.base Ng x sg g cdg X.A X.stack s H E0).nox bg t ∧ t { nx := fun _ H' => Q .non H', rt := Q } (L2.start Ng [.ref f]) H
theorem heard_givesP {X : Cx} {Pd : Addr → Hp → Prop} {g CS : Addr} {cdg : Value} {p1 p2 p3 p4 p5 p6 p7 p8 p9 r1 r2 r3 r4 r5 r6 r7 r8 u1 u2 u3 u4 : Pos} {j1 j2 j3 j4 j5 : Nat} (hme : X.mg "TurnError" = some (.ref CS)) (hPd : ∀ f H H', Ex H H' → Pd f H → Pd f H') :
    GivesP X NH "_law_heard" scH g cdg [.Assign [.Tuple [.Name "caught" p1, .Name "gave" p2] j1 p3] (.Tuple [.Constant .none j2 p4, .Constant .none j3 p5] j4 p6) p7,
      .Try [.Assign [.Name "gave" p8] (.Call (.Name "call" p9) [] [] r1) r2] [.ExceptHandler (some (.Name "TurnError" r3)) (some "error") [.Assign [.Name "caught" r4] (.Name "error" r5) r6] r7] [] [] r8,
      .Return (some (.Tuple [.Name "caught" u1, .Name "gave" u2] j5 u3)) u4] "call" Pd (THeard X.K CS) := by
  intro f s H Q tl act hc h
  have nd : NH.Nodup := by decide
  refine ⟨_, pss_cons (ps_asg (pe_tup (pa_cons pe_non (pa_cons pe_non pa_nil))) (pg_tup rfl (pgs_cons (pg_name (i := 1) nd rfl (.inl rfl)) (pgs_cons (pg_name (i := 2) nd rfl (.inl rfl)) pgs_nil))) (hw := sw_none))
    (pss_cons (ps_try_keep (X := (cxOf CX0 X.prog X.w X.K X.mg X.base NH "_law_heard" scH g cdg X.A X.stack s H E0).nox) (c := .ref CS) (i := 3)
      (tb := fun W D σ H => ∃ Ech : XK, (∀ cls d H', Ech cls d H' → W cls d σ H') ∧ σ[0]? = some (some (.ref f)) ∧ Pd f H ∧ ∃ R : VK, (∀ v H', R v H' → D.nx (σ.set 2 (some v)) H') ∧ tl Ech H R)
      rfl rfl rfl nd rfl rfl ⟨rfl, rfl, .inl hme⟩ LamX.takes0 (fun W pn xe tk _ => ?_) (fun a oe cls d pn _ _ => pss_one (ps_asg (pe_var (i := 3) rfl (.inl rfl)) (pg_name (i := 1) nd rfl (.inl rfl)))))
    (pss_one (ps_ret (pe_tup (pa_cons (pe_var (i := 1) rfl (.inl rfl)) (pa_cons (pe_var (i := 2) rfl (.inl rfl)) pa_nil)))))), ?_⟩
  · refine ⟨fun pins s' σ H' D I h' => ?_⟩
    obtain ⟨Ech, hW, h1, h2, h3⟩ := h'
    have hp := act W pn xe Ech p9 r1 tk
    have hq := pss_one (ps_asg (pos := r2) hp (pg_name (x := "gave") (i := 2) (pos := p8) nd rfl (.inl rfl)))
    exact hq.run pins s' σ H' D I ⟨h1, h2, hW, h3⟩
  · refine ⟨by decide, fun p hp => ⟨p, [.non, .non], rfl, .inl (.inl upd_same), rfl, ?_⟩⟩
    refine ⟨_, _, rfl, _, _, rfl, rfl, ?_⟩
    have hx : Ex H (upd H p (.tup [.non, .non])) := Ex.new hp
    refine ⟨fun cls d (H' : Hp) => PySem.W.exmOne X.K cls (.ref CS) = some true ∧ ∀ a p, H' a = none → p ≠ a → H' p = none → Q (.ref p) (upd (upd H' a (excO a cls d)) p (.tup [.ref a, .non])), fun cls d H' hE => ?_, rfl, hPd _ _ _ hx hc, ?_⟩
    rotate_left
    · refine ⟨_, fun v H' hv => ?_, h _ hx⟩
      exact ⟨.non, rfl, v, rfl, by rw [sizeLine_eq]; show 2 ≤ _; decide, hv⟩
    obtain ⟨e1, e2⟩ := hE
    refine ⟨true, e1, fun _ a na => ?_, fun z => nomatch z⟩
    exact ⟨.ref a, rfl, .ref a, rfl, .non, rfl, by rw [sizeLine_eq]; show 2 ≤ _; decide, fun p' hp' => e2 a p' na (fun z => by rw [z, upd_same] at hp'; cases hp') (by rw [upd_ne (fun z => by rw [z, upd_same] at hp'; cases hp')] at hp'; exact hp')⟩
/-- what is read of each -/
def LamsOk (X : Cx) (k : Nat) (Ls : List (LamE × (XK → TE))) : Prop := ∀ x ∈ Ls, LamX.LamS X.env.scope x.1.sc ∧
  (∀ (q : Str) (cl : List (Str × Addr)) (pm cv ctv : Value), bindArgs (PySem.W.kla_fn "<lambda>" q x.1.ps x.1.bd x.1.sc cl pm cv ctv) ⟨[], []⟩ = pure []) ∧
  ∀ (A : Around) (outer : List Env) (s : Shared) (H : Hp) (E : XK) (f c' : Addr), Room k (A.deeper (LamX.lamEnv X x.1.sc s.heap.objs.size f c')) → PE (LamX.lamCx X A outer s H E x.1.sc f c') x.1.bd (x.2 E)
theorem lams_nil {X : Cx} {k : Nat} : LamsOk X k [] := fun x h => absurd h List.not_mem_nil
theorem lams_cons {X : Cx} {k : Nat} (e : LamE) {t : XK → TE} {Ls : List (LamE × (XK → TE))} (L : LamX.LamS X.env.scope e.sc)
    (hbody : ∀ (A : Around) (outer : List Env) (s : Shared) (H : Hp) (E : XK) (f c' : Addr), Room k (A.deeper (LamX.lamEnv X e.sc s.heap.objs.size f c')) → PE (LamX.lamCx X A outer s H E e.sc f c') e.bd (t E)) (h : LamsOk X k Ls)
    (hbind : ∀ (q : Str) (cl : List (Str × Addr)) (pm cv ctv : Value), bindArgs (PySem.W.kla_fn "<lambda>" q e.ps e.bd e.sc cl pm cv ctv) ⟨[], []⟩ = pure [] := by exact fun _ _ _ _ _ => rfl) : LamsOk X k ((e, t) :: Ls) := fun x hx => by
  rcases List.mem_cons.mp hx with z | z
  · rw [z]
    exact ⟨L, hbind, hbody⟩
  · exact h x z
/-- _law_heard(x), x one of the lambdas, where the def stands -/
theorem heard_run {X : Cx} {pins : List (Addr × Obj)} {σ : L2.St} {H : Hp} {s : Shared} {q : Str} {cl : List (Str × Addr)} {k : Nat} {Ls : List (LamE × (XK → TE))} {x : LamE × (XK → TE)} {f g CS : Addr} {Q : VK} {fd : FuncData} {st : Stmt} (I : Inv X pins σ H s)
    (F : Fun X.K "_law_heard" "_law_heard" st g fd) (hB : L2.Binds X.K fd ["call"] []) (hb : HeardB st) (hme : X.mg "TurnError" = some (.ref CS)) (hr : Room (k + 2) X.A) (hcl : X.env.cells = cl) (hq : X.env.qual ++ "<lambda>" = q) (hL : LamsOk X k Ls) (hx : x ∈ Ls) (hf : IsLam q cl x.1 f H)
    (h : THeard X.K CS (fun E H1 Q1 => x.2 E σ H1 Q1) H Q) : codeAny (model X.prog X.w) X.A (.call (.ref g) ⟨[.ref f], []⟩) (CR CX0 X.stack X.prog X.w H s Q E0) s := by
  obtain ⟨hsc, p1, p2, p3, p4, p5, p6, p7, p8, p9, r1, r2, r3, r4, r5, r6, r7, r8, j1, j2, j3, j4, j5, p10, p11, p12, p13, hbd⟩ := hb
  obtain ⟨L, hbind, hbody⟩ := hL x hx
  obtain ⟨oc, od, kV, dc, pm, an, cdv, ct, osl, rfl, lk, hcg⟩ := F.ex
  have Sg : FnScope NH ["call"] (defScope st) := by rw [hsc]; exact scH_ok
  refine LamX.run_ofS (N := NH) (ps := ["call"]) (us := [.ref f]) (vs := [.ref f]) lk hcg Sg hr I.env0 (hB s [.ref f] I.kIn rfl) (.cons rfl .nil) rfl fun hr' => ?_
  rw [hsc] at hr' ⊢
  have hg := heard_givesP (X := X) (Pd := fun f H => IsLam q cl x.1 f H) (g := g) (cdg := cdv) (p1 := p1) (p2 := p2) (p3 := p3) (p4 := p4) (p5 := p5) (p6 := p6) (p7 := p7) (p8 := p8) (p9 := p9) (r1 := r1) (r2 := r2) (r3 := r3) (r4 := r4) (r5 := r5) (r6 := r6) (r7 := r7) (r8 := r8) (u1 := p10) (u2 := p11) (u3 := p12) (u4 := p13) (j1 := j1) (j2 := j2) (j3 := j3) (j4 := j4) (j5 := j5) hme (fun f H H' e h => h.ex e)
  obtain ⟨t', ht', hq'⟩ := hg f s H Q (fun E H' Q' => x.2 E σ H' Q') (fun W pn xe E p1 p2 tk => pe_actT (i := 0) I hcl hq L hbind tk hr' (fun A outer s H c' hr2 => hbody A outer s H E f c' hr2) rfl (.inl (by decide))) hf h
  rw [← hbd] at ht'
  exact ⟨t', ht'.nox, hq'⟩
/-- _law_heard(x) within a comprehension's block, the def's own state known -/
def tHeardL (K : PySem.W.Frag) (CS : Addr) (q : Str) (cl : List (Str × Addr)) (vs : List Nat) (j : Nat) (Ls : List (LamE × (XK → TE))) : TE := fun σ H Q =>
  ∃ x ∈ Ls, ∃ f, σ[j]? = some (some (.ref f)) ∧ IsLam q cl x.1 f H ∧ THeard K CS (fun E H1 Q1 => x.2 E (wipe σ vs) H1 Q1) H Q
theorem wipe_weak {σ : L2.St} {vs : List Nat} (i : Nat) (v : V) (h : (wipe σ vs)[i]? = some (some v)) : σ[i]? = some (some v) := (wipe_some h).1
section
variable {X : Cx}
theorem pe_heardB {pins : List (Addr × Obj)} {σ : L2.St} {s3 : Shared} {H3 : Hp} {scope : Scope} {C : Addr} {cx : List (Str × Addr)} {fp : List Addr} {vs : List Nat} {j k : Nat} {v q : Str} {cl : List (Str × Addr)} {Ls : List (LamE × (XK → TE))} {CS : Addr} {st : Stmt} {p pv pos : Pos}
    (J3 : Inv X pins σ H3 s3) (hfp : ∀ b ∈ fp, FpOk X pins H3 b) (d : DefIn X.K X.mg "_law_heard" ["call"] st) (hb : HeardB st) (hme : X.mg "TurnError" = some (.ref CS)) (hr : Room (k + 2) X.A) (hcl : X.env.cells = cl) (hq : X.env.qual ++ "<lambda>" = q) (hL : LamsOk X k Ls)
    (hg : Gl (X.blk s3 H3 scope (compEnvC scope cx C X.env) fp) "_law_heard") (hN : X.N[j]? = some v) (hv : Vis (compEnvC scope cx C X.env).scope v) (hd : (v == ("__debug__" : Str)) = false) (hcd : (v == ("__classdict__" : Str)) = false) :
    PE (X.blk s3 H3 scope (compEnvC scope cx C X.env) fp) (.Call (.Name "_law_heard" p) [.Name v pv] [] pos) (fun σ' H' Q => wipe σ' vs = wipe σ vs ∧ tHeardL X.K CS q cl vs j Ls σ' H' Q) := by
  obtain ⟨g, fd, F, hm, hB⟩ := d.ex
  refine ⟨fun pinsB s σ' H' Q I ⟨hw, x, hx, f, hs, hf, ht⟩ => ?_⟩
  refine wpAny_Call_Name_kw (ld_glob I hg hm ?_ (by decide))
  refine PySem.W.callWith_K (h₀ := X.base) I.ok.mod.kin F.kp ?_ (by rfl) (by rfl)
  show wpAny _ _ (spliced ((false, eval (.Name v pv) (compEnvC scope cx C X.env)) :: backTo pos (starEach [] (compEnvC scope cx C X.env)))) _ _ s
  refine Calls.spliced_cons (L2.thn ((pe_var (X := X.blk s3 H3 scope (compEnvC scope cx C X.env) fp) (pos := pv) (i := j) hN hv hd hcd).run pinsB s σ' H' (fun z H1 => z = .ref f ∧ H1 = H') I ⟨.ref f, hs, rfl, rfl⟩) fun u s1 ⟨z, H1, I1, r1, ez, eH⟩ => ?_)
  subst ez
  subst eH
  obtain rfl : u = Value.ref f := r1
  refine Calls.spliced_nil ⟨I1.kIn, ?_⟩
  have J : Inv X pins (wipe σ' vs) H1 s1 := by
    rw [hw]
    have J0 : Inv X pins σ H1 s1 := J3.call' (ch := fp) I1.os I1.base I1.hok I1.bare fun b hb => ⟨(hfp b hb).2.2.2.1, (hfp b hb).2.1, (hfp b hb).2.2.2.2.1, (hfp b hb).2.2.2.2.2⟩
    exact J0.weak (wipe_length σ vs) fun i v h => wipe_weak i v h
  have rc := heard_run (k := k) J F hB hb hme hr hcl hq hL hx hf ht
  refine wpAny_call (codeAny_mono rc fun r s2 hq => ?_)
  cases r with
  | error e => exact (show False from hq).elim
  | ok fl =>
    cases fl with
    | ret u => exact I1.after hq
    | next => exact False.elim hq
    | brk => exact False.elim hq
    | cont => exact False.elim hq
/-- a comprehension over a list, the element told where the def's own state is known -/
theorem lc_own {pins : List (Addr × Obj)} {s : Shared} {σ : L2.St} {H : Hp} {Q : VK} {elt tg iter : Expr} {scope : Scope} {own : List (Str × Nat)} {pos pos' : Pos} {wi : TI} {g : TG} {te : TE} {use : Option (Value → Sem Unit)} {Qf : Value → Shared → Prop}
    (hc : X.calm = true) (hN : X.N.Nodup) (I : Inv X pins σ H s) (hi : PI X tg iter wi) (ok : BlkOk X.N X.env.scope scope own) (hg : ∀ (s : Shared) (H : Hp) (C : Addr) (cx : List (Str × Addr)) (fp : List Addr), PG (X.blk s H scope (compEnvC scope cx C X.env) fp) tg g)
    (he : ∀ (s : Shared) (H : Hp) (C : Addr) (cx : List (Str × Addr)) (fp : List Addr), Inv X pins σ H s → (∀ b ∈ fp, FpOk X pins H b) → PE (X.blk s H scope (compEnvC scope cx C X.env) fp) elt (fun σ' H' Q => wipe σ' (own.map (·.2)) = wipe σ (own.map (·.2)) ∧ te σ' H' Q))
    (hs : ∀ x, foldedSetIterable iter X.env x = pure x) (h : tLc wi g tYes te (own.map (·.2)) σ H Q)
    (hRR : ∀ D C s' m H', Inv X pins σ H' s' → Q (.ref D) H' → s'.heap.Ns C m → FpOk X pins H' C → compPost (model X.prog X.w) X.A X.xe use Qf (.ref D) C (.ok .next) s') :
    wpAny (model X.prog X.w) X.A (comprehension (.ListComp elt [⟨tg, iter, [], 0⟩] scope pos) scope X.env pos' (newList []) false (eval iter X.env) use) Qf X.xe s := by
  have hfree : ∀ y ∈ scope.names, y.2 = .free → ∃ c, X.env.cells.lookup y.1 = some c := fun y hy e => (ok.free y hy e).elim (fun k => I.ok.has _ (.inl k)) fun k => I.ok.has _ (.inr k)
  have first := L2.thn (hi.run pins s σ H _ I h) (Q' := fun xv s1 => _) (fun xv s1 hx => hx)
  refine wpAny_comprehension_free (use := use) rfl hs (closure_ok hfree) ok.kind (fun y hy e => by rw [ok.uniq y hy, e]) (L2.thn first fun xv s1 hx => L2.thn hx fun itv s2 ⟨it, fp, tn, J, H2, e, I2, T, st2, f2, qw⟩ => ?_)
  subst e
  refine wpAny_newObj_type (newEnv_comp ?_) (show 0 ≤ sizeLine by decide)
  obtain ⟨D, hD⟩ : ∃ D, D = s2.heap.objs.size := ⟨_, rfl⟩
  rw [← hD]
  obtain ⟨W, ⟨m0, w0⟩, turn⟩ := qw D (I2.hok.fresh (Nat.le_of_eq hD.symm))
  -- the list that is made stands
  obtain ⟨s3, hs3⟩ : ∃ z : Shared, z = { s2 with heap := s2.heap.push { cls := .type "list", data := .seq ([] : List Value).toArray } } := ⟨_, rfl⟩
  obtain ⟨H3, hH3⟩ : ∃ z : Hp, z = upd H2 D (.lst []) := ⟨_, rfl⟩
  rw [← hs3]
  rw [← hH3] at w0
  have e3 : s3.heap = s2.heap.push { cls := .type "list", data := .seq ([] : List Value).toArray } := by rw [hs3]
  have I3 : Inv X pins σ H3 s3 := by
    rw [hs3, hH3]
    refine I2.laid (t' := s2.toks) (fun b o z => Heap.get?_push_of_some _ z) (Nat.le_of_eq hD.symm) ⟨Nat.zero_le _, [], 0, .nil, ?_⟩
    rw [hD]
    exact Heap.get?_push_size _ rfl
  have small : ∀ b ∈ fp, b < s2.heap.objs.size := fun b hb => (T.obj _ _ st2 b hb).elim fun o z => Heap.lt_size z.1
  have f3 : ∀ b ∈ fp, FpOk X pins H3 b ∧ b < s3.heap.objs.size := fun b hb => by
    have z := small b hb
    refine ⟨⟨?_, (f2 b hb).2⟩, by rw [e3, Heap.size_push]; exact Nat.lt_succ_of_lt z⟩
    rw [hH3, upd_ne (by rw [hD]; exact Nat.ne_of_lt z)]
    exact (f2 b hb).1
  have I4 := block_start I3 ok hN f3
  have pg := hg s3 H3 s3.heap.objs.size (cellsFrom (s3.heap.objs.size + 1) scope.names (cloFrom X.env.cells scope.names [])) fp
  have pe := he s3 H3 s3.heap.objs.size (cellsFrom (s3.heap.objs.size + 1) scope.names (cloFrom X.env.cells scope.names [])) fp I3 fun b hb => (f3 b hb).1
  obtain ⟨ce, hce⟩ : ∃ z, z = compEnvC scope (cellsFrom (s3.heap.objs.size + 1) scope.names (cloFrom X.env.cells scope.names [])) s3.heap.objs.size X.env := ⟨_, rfl⟩
  show codeAny _ _ (.compStart (.ListComp elt [⟨tg, iter, [], 0⟩] scope pos) 0 (.ref it) (.ref D) (compEnvC scope (cellsFrom (s3.heap.objs.size + 1) scope.names (cloFrom X.env.cells scope.names [])) s3.heap.objs.size X.env)) (compPost (model X.prog X.w) X.A X.xe use Qf (.ref D) s3.heap.objs.size)
    { s3 with heap := pushCells (s3.heap.push { cls := .type "dict", data := .dict #[] }) scope.names }
  have cL : ce.locals = s3.heap.objs.size := by rw [hce]; rfl
  rw [← hce] at I4 pg pe ⊢
  obtain ⟨s4, hs4⟩ : ∃ z : Shared, z = { s3 with heap := pushCells (s3.heap.push { cls := .type "dict", data := .dict #[] }) scope.names } := ⟨_, rfl⟩
  rw [← hs4] at I4 ⊢
  have st4 : tn 0 s4.heap := by
    refine T.keep _ _ _ st2 fun b _ o z => ?_
    rw [hs4]
    exact pushCells_keeps _ _ _ _ (Heap.get?_push_of_some _ (by rw [e3]; exact Heap.get?_push_of_some _ z))
  have stat : ∀ {σ' : L2.St} {H' : Hp} {s' : Shared}, Inv (X.blk s3 H3 scope ce fp) [] σ' H' s' → (∀ b ∈ fp, H' b = none) → ∀ b ∈ fp, FpOk (X.blk s3 H3 scope ce fp) [] H' b := fun {σ' H' s'} I' hn b hb => by
    refine ⟨hn b hb, (I'.ok.exf b hb).1, I'.ok.exfs b hb, .inl hb, (I'.ok.exf b hb).2, fun p hp => ?_⟩
    cases (show p ∈ ([] : List (Addr × Obj)) from hp)
  refine codeAny_compStart_list ?lp (T.self X.A 0 _ _ _ st4 ?lp)
  refine compLoop_any (fun n s' => ∃ i H', Inv (X.blk s3 H3 scope ce fp) [] (wipe σ (own.map (·.2))) H' s' ∧ tn i s'.heap ∧ (∀ b ∈ fp, H' b = none) ∧ W i n H') (fun n s5 ⟨i, H5, I5, st5, n5, w5⟩ => ?_) m0 ⟨0, H3, I4, st4, fun b hb => (f3 b hb).1.1, w0⟩
  rcases turn i n H5 w5 with ⟨stop, qq⟩ | ⟨go, Nx, hNx, step⟩
  · refine thnF (T.done (X.blk s3 H3 scope ce fp) rfl rfl rfl hc i [] s5 _ H5 (fun _ _ => False) I5 (stat I5 n5) st5 stop) fun r s6 ⟨hr, I6⟩ => ?_
    subst hr
    have I7 : Inv X pins σ H5 s6 := I3.call' (ch := fp) I6.os I6.base I6.hok I6.bare fun b hb => (f3 b hb).1.2.imp (fun z => z) (fun z => z) |> fun z => ⟨z.2.2.1, z.1, z.2.2.2.1, z.2.2.2.2⟩
    have nC : H5 s3.heap.objs.size = none := by
      have z := I6.free
      rw [show (X.blk s3 H3 scope ce fp).env.locals = ce.locals from rfl, cL] at z
      exact z
    obtain ⟨m, hn, _⟩ := I6.loc
    rw [show (X.blk s3 H3 scope ce fp).env.locals = ce.locals from rfl, cL] at hn
    exact hRR D s3.heap.objs.size s6 m H5 I7 qq hn (I3.fpOk (Nat.le_refl _) nC)
  · refine thnF (T.item (X.blk s3 H3 scope ce fp) rfl rfl rfl hc i [] s5 _ H5 (fun _ _ => False) I5 (stat I5 n5) st5 go) fun r s6 ⟨u, hr, h6⟩ => ?_
    subst hr
    refine thnF h6 fun _ s7 ⟨x, H7, I7, r7, y7, st7, n7⟩ => ?_
    refine thnF (pg.run _ s7 _ H7 x u _ (I7.pinned (stat I7 n7) (T.obj _ _ st7)) r7 (step x H7 y7)) fun _ s8 ⟨σ8, H8, I8, hw8, q8⟩ => ?_
    refine thnF ((pts_nil (X := X.blk s3 H3 scope ce fp)).run _ s8 σ8 H8 _ I8 q8) fun b s9 ⟨H9, I9, q9⟩ => ?_
    have fin : ∀ {s' : Shared} {H' : Hp}, Inv (X.blk s3 H3 scope ce fp) ([] ++ pinsAt fp s7.heap) σ8 H' s' → Nx H' → ∃ m, m < n ∧ ∃ i H', Inv (X.blk s3 H3 scope ce fp) [] (wipe σ (own.map (·.2))) H' s' ∧ tn i s'.heap ∧ (∀ b ∈ fp, H' b = none) ∧ W i m H' := fun {s' H'} I' nx => by
      obtain ⟨m', hm, w'⟩ := hNx H' nx
      have pin' : ∀ b ∈ fp, ∀ o, s7.heap.get? b = some o → s'.heap.get? b = some o ∧ H' b = none := fun b hb o z => by
        have y := I'.pin (b, o) (List.mem_append_right _ (List.mem_append_right _ (mem_pinsAt hb z)))
        exact ⟨y.1, y.2.1⟩
      refine ⟨m', hm, i + 1, H', I'.unpinned.weak (by rw [← hw8, wipe_length]) (fun i v z => ?_), T.keep _ _ _ st7 fun b hb o z => (pin' b hb o z).1, fun b hb => ?_, w'⟩
      · rw [← hw8] at z
        exact wipe_weak i v z
      · obtain ⟨o, z, _⟩ := T.obj _ _ st7 b hb
        exact (pin' b hb o z).2
    cases b with
    | false =>
      rw [if_neg (by decide)] at q9 ⊢
      exact fin I9 q9
    | true =>
      rw [if_pos rfl] at q9 ⊢
      exact thnF (pe.run _ s9 σ8 H9 _ I9 ⟨hw8, q9⟩) fun z s10 ⟨yv, H10, I10, r10, acc, hD10, hz10, nx⟩ => app_ok (X := X.blk s3 H3 scope ce fp) I10 hD10 hz10 r10 fun s11 I11 => fin I11 nx
end
section
variable {X : Cx}
/-- name = [_law_heard(x)[0] for x in xs], the name a local -/
theorem ps_heardAll {K : PySem.W.Frag} {i j k : Nat} {y v q : Str} {py p pv pc pk psub pos spos : Pos} {kk : Nat} {tg iter : Expr} {scope : Scope} {own : List (Str × Nat)} {wi : TI} {cl : List (Str × Addr)} {Ls : List (LamE × (XK → TE))} {CS : Addr} {st : Stmt} (hK : X.K = K)
    (hc : X.calm = true) (hN : X.N.Nodup) (hy : X.N[i]? = some y) (hyl : X.env.scope.names.lookup y = some .local)
    (hsw : swapsWith (.ListComp (.Subscript (.Call (.Name "_law_heard" p) [.Name v pv] [] pc) (.Constant (.int 0) kk pk) psub) [⟨tg, iter, [], 0⟩] scope pos) (some (.Name y py)) spos.line X.env = pure true) (hi : PI X tg iter wi) (ok : BlkOk X.N X.env.scope scope own)
    (hg : ∀ (s : Shared) (H : Hp) (C : Addr) (cx : List (Str × Addr)) (fp : List Addr), PG (X.blk s H scope (compEnvC scope cx C X.env) fp) tg (gName j))
    (d : DefIn X.K X.mg "_law_heard" ["call"] st) (hb : HeardB st) (hme : X.mg "TurnError" = some (.ref CS)) (hr : Room (k + 2) X.A) (hcl : X.env.cells = cl) (hL : LamsOk X k Ls)
    (hgl : ∀ (s : Shared) (H : Hp) (C : Addr) (cx : List (Str × Addr)) (fp : List Addr), Gl (X.blk s H scope (compEnvC scope cx C X.env) fp) "_law_heard") (hj : X.N[j]? = some v) (hv : ∀ (C : Addr) (cx : List (Str × Addr)), Vis (compEnvC scope cx C X.env).scope v)
    (hd : (v == ("__debug__" : Str)) = false := by decide) (hcd : (v == ("__classdict__" : Str)) = false := by decide) (hq : X.env.qual ++ "<lambda>" = q := by rfl) (hs : ∀ x, foldedSetIterable iter X.env x = pure x := by intro _; rfl) :
    PS X (.Assign [.Name y py] (.ListComp (.Subscript (.Call (.Name "_law_heard" p) [.Name v pv] [] pc) (.Constant (.int 0) kk pk) psub) [⟨tg, iter, [], 0⟩] scope pos) spos)
      (tAsg (tLc wi (gName j) tYes (tOp (rIxT K) (tHeardL K CS q cl (own.map (·.2)) j Ls) (tC (.int 0))) (own.map (·.2))) (gName i)) := by
  subst hK
  refine ⟨fun pins s σ H D I h => ?_⟩
  rw [exec_Assign_Name_used _ _ _ _ hsw]
  refine wpAny_bind (wpAny_standAt (wpAny_bind ?_))
  show wpAny _ X.A (do
    let _ ← comprehension (.ListComp (.Subscript (.Call (.Name "_law_heard" p) [.Name v pv] [] pc) (.Constant (.int 0) kk pk) psub) [⟨tg, iter, [], 0⟩] scope pos) scope X.env (firstIterPos [⟨tg, iter, [], 0⟩] pos) (newList []) false (eval iter X.env) (some (assign (.Name y py) X.env))) _ _ s
  have el : ∀ (s : Shared) (H : Hp) (C : Addr) (cx : List (Str × Addr)) (fp : List Addr), Inv X pins σ H s → (∀ b ∈ fp, FpOk X pins H b) → PE (X.blk s H scope (compEnvC scope cx C X.env) fp) (.Subscript (.Call (.Name "_law_heard" p) [.Name v pv] [] pc) (.Constant (.int 0) kk pk) psub)
      (fun σ' H' Q => wipe σ' (own.map (·.2)) = wipe σ (own.map (·.2)) ∧ tOp (rIxT X.K) (tHeardL X.K CS q cl (own.map (·.2)) j Ls) (tC (.int 0)) σ' H' Q) := fun s H C cx fp J hfp =>
    ⟨fun pinsB s' σ' H' Q IB ⟨hw, ht⟩ => (pe_ix (X := X.blk s H scope (compEnvC scope cx C X.env) fp) ix_tup (pe_heardB (v := v) (vs := List.map (fun x : Str × Nat => x.2) own) J hfp d hb hme hr hcl hq hL (hgl s H C cx fp) hj (hv C cx) hd hcd) pe_int (fun _ _ => rfl)).run pinsB s' σ' H' Q IB ⟨hw, ht⟩⟩
  have post := lc_own (Qf := fun _ s' => SP X pins D .next s') (use := some (assign (.Name y py) X.env)) (pos := pos) (pos' := firstIterPos [⟨tg, iter, [], 0⟩] pos) hc hN I hi ok hg el hs (show tLc wi (gName j) tYes _ (own.map (·.2)) σ H (fun x H1 => gName i x σ H1 D.nx) from h) fun L C s' m H' I' z hn f => by
    show wpAny _ _ (assign (.Name y py) X.env (.ref L)) _ _ _
    obtain ⟨f0, f1, f2, f3, f4, f5⟩ := f
    refine wpAny_assign_Name (store_ok2 (v := V.ref L) I' hN hy (.inl hyl) rfl (fun s2 I2 ⟨a, sb, ha⟩ => ?_) (.inr hyl))
    have hne : C ≠ a := ha.elim (fun z => by rw [z]; exact f1) fun z w => f4 y a z w.symm
    exact ⟨m, hn.sameBut sb hne, fun h3 sb3 => ⟨_, H', I2.turned (t' := s2.toks) (fun b o hb e => (sb3.2 b hb).trans e) f0 f1 f3 f4 f5, z⟩⟩
  exact wpAny_bind (L2.thn post fun _ s' hq => wpAny_pure (wpAny_pure hq))
end
end WT
set_option maxHeartbeats 2000000
namespace WT
open PySem PySem.Spec PyProof.Rows L2 Evl
/-- the numbers that a dict has for keys -/
def KeyN (kvs : List (Key × V)) (S : Nat → Prop) : Prop := ∀ n : Nat, (valV kvs (Sum.inl (n : Int) : Key)).isSome = true ↔ S n
theorem KeyN.nil : KeyN [] fun _ => False := fun n => by
  constructor
  · intro h
    have : (valV ([] : List (Key × V)) (Sum.inl (n : Int) : Key)) = none := rfl
    rw [this] at h
    cases h
  · exact False.elim
end WT
set_option maxHeartbeats 1000000
namespace WT
def dsc (k : Nat) : Nat → Nat
  | 0 => 1
  | t + 1 => dsc k t * (k - t)
theorem rest_few {k t : Nat} {o : List Nat} (h : Ord k t o) : (rest k o).length ≤ k - t := by
  have nd : (o ++ rest k o).Nodup := by
    rw [List.nodup_append]
    refine ⟨h.nd, ?_, fun a ha b hb e => (mem_rest.mp hb).2 (e ▸ ha)⟩
    unfold rest
    exact List.Pairwise.filter _ List.nodup_range
  have := nd_le (m := k) nd fun x hx => by
    rcases List.mem_append.mp hx with z | z
    · exact h.lt x z
    · exact (mem_rest.mp z).1
  rw [List.length_append, h.len] at this
  omega
theorem every_few (k : Nat) : ∀ t, (everyN k t).length ≤ dsc k t
  | 0 => Nat.le_refl _
  | t + 1 => by
    have ih := every_few k t
    show ((everyN k t).flatMap fun o => (rest k o).map fun x => o ++ [x]).length ≤ dsc k t * (k - t)
    have key : ∀ os : List (List Nat), (∀ o ∈ os, Ord k t o) → (os.flatMap fun o => (rest k o).map fun x => o ++ [x]).length ≤ os.length * (k - t) := fun os => by
      induction os with
      | nil => intro _; simp
      | cons o os ih =>
        intro h
        rw [List.flatMap_cons, List.length_append, List.length_map, List.length_cons, Nat.add_mul, Nat.one_mul]
        have h1 := rest_few (h o List.mem_cons_self)
        have h2 := ih fun x hx => h x (List.mem_cons_of_mem _ hx)
        omega
    exact Nat.le_trans (key _ fun o ho => mem_every.mp ho) (Nat.mul_le_mul_right _ ih)
/-- so many positions there are at most -/
theorem isP_few {m : Nat} {F : List (List Nat)} (nd : F.Nodup) (h : ∀ r ∈ F, IsP m r) : F.length ≤ dsc m m := by
  refine Nat.le_trans (nodup_le nd (m := everyN m m) fun r hr => mem_every.mpr ?_) (every_few m m)
  have p := h r hr
  exact ⟨perm_len p, perm_nd p, fun x hx => by
    obtain ⟨i, hi⟩ := List.getElem?_of_mem hx
    exact perm_lt p hi⟩
theorem dsc_6 {m : Nat} (h : m ≤ 6) : dsc m m ≤ 720 := by
  have : ∀ m, m < 7 → dsc m m ≤ 720 := by decide
  exact this m (by omega)
/-- u turned about by t -/
def cj (m : Nat) (u t : List Nat) : List Nat := thn (thn (invN m t) u) t
section
variable {m : Nat} {ts : List (List Nat)} {u v g h one r : List Nat}
theorem cj_isP (hu : IsP m u) (hg : IsP m g) : IsP m (cj m u g) := thn_isP (thn_isP (und_isP hg) hu) hg
theorem cj_one (hu : IsP m u) : cj m u (List.range m) = u := by
  unfold cj
  rw [und_one, one_thn hu, thn_one hu]
theorem cj_mul (hu : IsP m u) (hg : IsP m g) (hh : IsP m h) : cj m (cj m u g) h = cj m u (thn g h) := by
  have pg := und_isP hg
  have ph := und_isP hh
  unfold cj
  rw [und_mul hg hh, ← thn_assoc (w := g) ph (thn_isP pg hu), ← thn_assoc (w := u) ph pg, ← thn_assoc (w := h) (thn_isP (thn_isP ph pg) hu) hg]
theorem cj_inj (hu : IsP m u) (hv : IsP m v) (hg : IsP m g) (e : cj m u g = cj m v g) : u = v := by
  have e2 := congrArg (fun x => cj m x (invN m g)) e
  simp only [cj_mul hu hg (und_isP hg), cj_mul hv hg (und_isP hg), thn_und hg, cj_one hu, cj_one hv] at e2
  exact e2
/-- the alike ones -/
def Kin (m : Nat) (ts : List (List Nat)) (one r : List Nat) : Prop := ∃ g, Gen m (fun s => s ∈ ts) g ∧ r = cj m one g
theorem Kin.refl (h1 : IsP m one) : Kin m ts one one := ⟨_, .one, (cj_one h1).symm⟩
theorem Kin.isP (hts : ∀ t ∈ ts, IsP m t) (h1 : IsP m one) (k : Kin m ts one r) : IsP m r := by
  obtain ⟨g, hg, rfl⟩ := k
  exact cj_isP h1 (hg.isP hts)
theorem Kin.step (hts : ∀ t ∈ ts, IsP m t) (h1 : IsP m one) (k : Kin m ts one r) {t : List Nat} (ht : t ∈ ts) : Kin m ts one (cj m r t) := by
  obtain ⟨g, hg, rfl⟩ := k
  exact ⟨_, .mul hg ht, cj_mul h1 (hg.isP hts) (hts t ht)⟩
theorem Kin.symm (hts : ∀ t ∈ ts, IsP m t) (h1 : IsP m one) (k : Kin m ts one r) : Kin m ts r one := by
  obtain ⟨g, hg, rfl⟩ := k
  have pg := hg.isP hts
  exact ⟨_, hg.und hts, by rw [cj_mul h1 pg (und_isP pg), thn_und pg, cj_one h1]⟩
theorem Kin.trans (hts : ∀ t ∈ ts, IsP m t) (h1 : IsP m one) {s : List Nat} (k : Kin m ts one r) (l : Kin m ts r s) : Kin m ts one s := by
  obtain ⟨g, hg, rfl⟩ := k
  obtain ⟨h, hh, rfl⟩ := l
  exact ⟨_, hg.thn hts hh, cj_mul h1 (hg.isP hts) (hh.isP hts)⟩
/-- a lot that turning about leads into itself has all alike ones -/
theorem kin_all {F : List (List Nat)} (hts : ∀ t ∈ ts, IsP m t) (nd : F.Nodup) (h1 : one ∈ F) (hF : ∀ r ∈ F, IsP m r) (hc : ∀ r ∈ F, ∀ t ∈ ts, cj m r t ∈ F) {s : List Nat} (hs : Kin m ts one s) : s ∈ F := by
  have hb : ∀ x ∈ F, ∀ t ∈ ts, cj m x (invN m t) ∈ F := fun x hx t ht => by
    have pt := hts t ht
    have nd2 : (F.map fun y => cj m y t).Nodup := List.pairwise_map.mpr (List.Pairwise.imp_of_mem (fun {a b} ha hb hne e => hne (cj_inj (hF a ha) (hF b hb) pt e)) nd)
    have sub : ∀ y ∈ F.map fun y => cj m y t, y ∈ F := fun y hy => by
      obtain ⟨z, hz, rfl⟩ := List.mem_map.mp hy
      exact hc z hz t ht
    obtain ⟨y, hy, e⟩ := List.mem_map.mp (subset_len nd2 sub (by rw [List.length_map]; exact Nat.le_refl _) x hx)
    have py := hF y hy
    rw [← e, cj_mul py pt (und_isP pt), thn_und pt, cj_one py]
    exact hy
  obtain ⟨g, hg, rfl⟩ := hs
  have p1 := hF one h1
  induction hg with
  | one => rw [cj_one p1]; exact h1
  | mul hg ht ih =>
    rw [← cj_mul p1 (hg.isP hts) (hts _ ht)]
    exact hc _ ih _ ht
  | div hg ht ih =>
    rw [← cj_mul p1 (hg.isP hts) (und_isP (hts _ ht))]
    exact hb _ ih _ ht
end
/-- the ways of turning about -/
structure WaysC (m : Nat) (ts : List (List Nat)) (one : List Nat) (L : WayL) : Prop where
  nd : (L.map (·.1)).Nodup
  hd : L[0]? = some (one, none)
  st : ∀ (k : Nat) (r p : List Nat) (j : Nat) (z : Int), L[k]? = some (r, some (p, j, z)) → (∃ (k' : Nat) (o : Option (List Nat × Nat × Int)), k' < k ∧ L[k']? = some (p, o)) ∧ j < ts.length ∧ z = 1 ∧ r = cj m p (ts.getD j [])
  nn : ∀ (k : Nat) (r : List Nat), L[k]? = some (r, none) → k = 0
section
variable {m : Nat} {ts : List (List Nat)} {one : List Nat} {L : WayL}
theorem WaysC.start (one : List Nat) : WaysC m ts one [(one, none)] := ⟨by simp, rfl, fun k r p j z h => by
  cases k with
  | zero => cases h
  | succ k => simp at h, fun k r h => by
  cases k with
  | zero => rfl
  | succ k => simp at h⟩
theorem WaysC.more (W : WaysC m ts one L) {k : Nat} {p : List Nat} {o : Option (List Nat × Nat × Int)} (hk : L[k]? = some (p, o)) {j : Nat} (hj : j < ts.length) (hn : cj m p (ts.getD j []) ∉ L.map (·.1)) : WaysC m ts one (L ++ [(cj m p (ts.getD j []), some (p, j, 1))]) := by
  have hkl := (List.getElem?_eq_some_iff.mp hk).1
  refine ⟨?_, ?_, fun k' r' p' j' z' h => ?_, fun k' r' h => ?_⟩
  · rw [List.map_append, List.nodup_append]
    exact ⟨W.nd, by simp, fun x hx y hy e => hn (by rw [List.map_cons, List.map_nil, List.mem_singleton] at hy; rw [e, hy] at hx; exact hx)⟩
  · rw [List.getElem?_append_left (by omega)]
    exact W.hd
  · by_cases hl : k' < L.length
    · rw [List.getElem?_append_left hl] at h
      obtain ⟨⟨k2, o2, h1, h2⟩, h3⟩ := W.st k' r' p' j' z' h
      exact ⟨⟨k2, o2, h1, by rw [List.getElem?_append_left (by omega)]; exact h2⟩, h3⟩
    · have hil := (List.getElem?_eq_some_iff.mp h).1
      rw [List.length_append, List.length_singleton] at hil
      have e : k' = L.length := by omega
      subst e
      rw [List.getElem?_concat_length] at h
      cases h
      exact ⟨⟨k, o, hkl, by rw [List.getElem?_append_left hkl]; exact hk⟩, hj, rfl, rfl⟩
  · by_cases hl : k' < L.length
    · rw [List.getElem?_append_left hl] at h
      exact W.nn k' r' h
    · have hil := (List.getElem?_eq_some_iff.mp h).1
      rw [List.length_append, List.length_singleton] at hil
      have e : k' = L.length := by omega
      subst e
      rw [List.getElem?_concat_length] at h
      cases h
theorem WaysC.kin (W : WaysC m ts one L) (hts : ∀ t ∈ ts, IsP m t) (h1 : IsP m one) : ∀ (k : Nat) {r : List Nat} {o : Option (List Nat × Nat × Int)}, L[k]? = some (r, o) → Kin m ts one r := fun k => by
  induction k using Nat.strongRecOn with
  | _ k ih =>
    intro r o h
    cases o with
    | none =>
      have := W.nn k r h
      subst this
      rw [W.hd] at h
      cases h
      exact Kin.refl h1
    | some e =>
      obtain ⟨p, j, z⟩ := e
      obtain ⟨⟨k', o', hk, hp⟩, hj, _, rfl⟩ := W.st k r p j z h
      exact (ih k' hk hp).step hts h1 (List.mem_of_getElem? (getD_get hj))
theorem WaysC.isP (W : WaysC m ts one L) (hts : ∀ t ∈ ts, IsP m t) (h1 : IsP m one) : ∀ r ∈ L.map (·.1), IsP m r := fun r hr => by
  obtain ⟨e, he, rfl⟩ := List.mem_map.mp hr
  obtain ⟨k, hk⟩ := List.getElem?_of_mem he
  exact (W.kin hts h1 k hk).isP hts h1
/-- what a whole search has found are the alike ones -/
theorem WaysC.mem (W : WaysC m ts one L) (hts : ∀ t ∈ ts, IsP m t) (h1 : IsP m one) (hc : ∀ r ∈ L.map (·.1), ∀ j, j < ts.length → cj m r (ts.getD j []) ∈ L.map (·.1)) {r : List Nat} : r ∈ L.map (·.1) ↔ Kin m ts one r := by
  refine ⟨fun h => ?_, fun h => kin_all hts W.nd (List.mem_map.mpr ⟨_, List.mem_of_getElem? W.hd, rfl⟩) (W.isP hts h1) (fun r hr t ht => ?_) h⟩
  · obtain ⟨e, he, rfl⟩ := List.mem_map.mp h
    obtain ⟨k, hk⟩ := List.getElem?_of_mem he
    exact W.kin hts h1 k hk
  · obtain ⟨j, hj⟩ := List.getElem?_of_mem ht
    have := hc r hr j (List.getElem?_eq_some_iff.mp hj).1
    rwa [List.getD_eq_getElem?_getD, hj] at this
theorem WaysC.few (W : WaysC m ts one L) (hts : ∀ t ∈ ts, IsP m t) (h1 : IsP m one) (hm : m ≤ 6) : L.length ≤ 720 := by
  have h2 := isP_few W.nd (W.isP hts h1)
  rw [List.length_map] at h2
  exact Nat.le_trans h2 (dsc_6 hm)
end
end WT
set_option maxHeartbeats 1000000
namespace WT
/-- how many are alike -/
def KinNum (m : Nat) (ts : List (List Nat)) (p : List Nat) (k : Nat) : Prop := ∃ F : List (List Nat), F.Nodup ∧ (∀ g, g ∈ F ↔ Kin m ts p g) ∧ F.length = k
structure KindsOk (m : Nat) (ts : List (List Nat)) (cs : List (List Nat × Nat)) : Prop where
  num : ∀ e ∈ cs, Gen m (fun s => s ∈ ts) e.1 ∧ KinNum m ts e.1 e.2
  least : ∀ e ∈ cs, ∀ g, Kin m ts e.1 g → g = e.1 ∨ ltN e.1 g = true
  all : ∀ g, Gen m (fun s => s ∈ ts) g → ∃ e ∈ cs, Kin m ts e.1 g
  asc : cs.Pairwise fun a b => ltN a.1 b.1 = true
  one : cs.Pairwise fun a b => ¬ Kin m ts a.1 b.1
/-- on the way: i of all are looked at -/
structure KindsI (m : Nat) (ts gs : List (List Nat)) (i : Nat) (cs : List (List Nat × Nat)) (keys : List (List Nat)) : Prop where
  nd : keys.Nodup
  key : ∀ g, g ∈ keys ↔ ∃ e ∈ cs, Kin m ts e.1 g
  seen : ∀ (j : Nat) (g : List Nat), j < i → gs[j]? = some g → g ∈ keys
  num : ∀ e ∈ cs, Gen m (fun s => s ∈ ts) e.1 ∧ KinNum m ts e.1 e.2
  least : ∀ e ∈ cs, ∀ g, Kin m ts e.1 g → g = e.1 ∨ ltN e.1 g = true
  at_ : ∀ e ∈ cs, ∃ j, j < i ∧ gs[j]? = some e.1
  asc : cs.Pairwise fun a b => ltN a.1 b.1 = true
  one : cs.Pairwise fun a b => ¬ Kin m ts a.1 b.1
section
variable {m : Nat} {ts gs : List (List Nat)} {i : Nat} {cs : List (List Nat × Nat)} {keys : List (List Nat)}
theorem KindsI.start : KindsI m ts gs 0 [] [] := ⟨List.nodup_nil, fun g => ⟨fun h => (by cases h), fun ⟨e, h, _⟩ => (by cases h)⟩, fun j g h => absurd h (Nat.not_lt_zero _), fun e h => (by cases h), fun e h => (by cases h), fun e h => (by cases h), List.Pairwise.nil, List.Pairwise.nil⟩
theorem KindsI.done (I : KindsI m ts gs gs.length cs keys) (hG : ∀ g, g ∈ gs ↔ Gen m (fun s => s ∈ ts) g) : KindsOk m ts cs := ⟨I.num, I.least, fun g hg => by
  obtain ⟨j, hj⟩ := List.getElem?_of_mem ((hG g).mpr hg)
  exact (I.key g).mp (I.seen j g (List.getElem?_eq_some_iff.mp hj).1 hj), I.asc, I.one⟩
end
end WT
set_option maxHeartbeats 1000000
namespace WT
open PySem L2
def IsOrd (n : Nat) (t : List Nat) (L : Nat) : Prop := 0 < L ∧ pw n t L = List.range n ∧ ∀ k, 0 < k → k < L → pw n t k ≠ List.range n
theorem IsOrd.one {n : Nat} {t : List Nat} {L M : Nat} (h : IsOrd n t L) (k : IsOrd n t M) : L = M := by
  rcases Nat.lt_trichotomy L M with z | z | z
  · exact absurd h.2.1 (k.2.2 L h.1 z)
  · exact z
  · exact absurd k.2.1 (h.2.2 M k.1 z)
theorem IsOrd.le {n : Nat} {t : List Nat} (ht : IsP n t) {L : Nat} (h : IsOrd n t L) : L ≤ 2 ^ n := by
  obtain ⟨M, h1, h2, h3⟩ := pw_ex ht
  rcases Nat.lt_or_ge M L with z | z
  · exact absurd h3 (h.2.2 M h1 z)
  · exact Nat.le_trans z h2
def getN : List (Nat × Nat) → Nat → Option Nat
  | [], _ => none
  | e :: l, o => if e.1 = o then some e.2 else getN l o
def putN (l : List (Nat × Nat)) (o c : Nat) : List (Nat × Nat) := if o ∈ l.map (·.1) then l.map (fun e => if e.1 = o then (e.1, c) else e) else l ++ [(o, c)]
theorem getN_in : ∀ {l : List (Nat × Nat)} {o : Nat}, (getN l o).isSome = true ↔ o ∈ l.map (·.1)
  | [], o => ⟨fun h => (by cases h), fun h => (by cases h)⟩
  | e :: l, o => by
    unfold getN
    by_cases h : e.1 = o
    · rw [if_pos h]
      exact ⟨fun _ => by rw [List.map_cons, h]; exact List.mem_cons_self, fun _ => rfl⟩
    · rw [if_neg h, getN_in, List.map_cons, List.mem_cons]
      exact ⟨.inr, fun z => z.resolve_left fun w => h w.symm⟩
/-- how many there are of each -/
structure CntOk (os : List Nat) (l : List (Nat × Nat)) : Prop where
  nd : (l.map (·.1)).Nodup
  key : ∀ o, o ∈ l.map (·.1) ↔ o ∈ os
  val : ∀ e ∈ l, e.2 = os.count e.1
theorem CntOk.nil : CntOk [] [] := ⟨List.nodup_nil, fun _ => Iff.rfl, fun e h => by cases h⟩
theorem getN_mem : ∀ {l : List (Nat × Nat)} {o c : Nat}, getN l o = some c → (o, c) ∈ l
  | [], _, _, h => by cases h
  | e :: l, o, c, h => by
    unfold getN at h
    by_cases z : e.1 = o
    · rw [if_pos z] at h
      cases h
      rw [← z]
      exact List.mem_cons_self
    · rw [if_neg z] at h
      exact List.mem_cons_of_mem _ (getN_mem h)
theorem CntOk.get {os : List Nat} {l : List (Nat × Nat)} (h : CntOk os l) (o : Nat) : (getN l o).getD 0 = os.count o := by
  cases e : getN l o with
  | some c => exact h.val _ (getN_mem e)
  | none =>
    have : o ∉ os := fun z => by
      have := getN_in.mpr ((h.key o).mpr z)
      rw [e] at this
      cases this
    exact (List.count_eq_zero.mpr this).symm
theorem CntOk.step {os : List Nat} {l : List (Nat × Nat)} (h : CntOk os l) (o : Nat) : CntOk (os ++ [o]) (putN l o ((getN l o).getD 0 + 1)) := by
  rw [h.get o]
  unfold putN
  by_cases hi : o ∈ l.map (·.1)
  · rw [if_pos hi]
    have hk : (l.map fun e => if e.1 = o then (e.1, os.count o + 1) else e).map (·.1) = l.map (·.1) := by
      rw [List.map_map]
      refine List.map_congr_left fun e _ => ?_
      show (if e.1 = o then (e.1, os.count o + 1) else e).1 = e.1
      split <;> rfl
    refine ⟨by rw [hk]; exact h.nd, fun p => ?_, fun e he => ?_⟩
    · rw [hk, h.key, List.mem_append, List.mem_singleton]
      exact ⟨.inl, fun z => z.elim id fun w => w ▸ (h.key o).mp hi⟩
    · obtain ⟨e0, he0, rfl⟩ := List.mem_map.mp he
      have hv := h.val e0 he0
      by_cases z : e0.1 = o
      · rw [if_pos z]
        show os.count o + 1 = (os ++ [o]).count e0.1
        rw [z, List.count_append, List.count_singleton_self]
      · rw [if_neg z, List.count_append, hv, List.count_eq_zero.mpr (fun w => z (List.mem_singleton.mp w))]
        rfl
  · rw [if_neg hi]
    have hn : o ∉ os := fun z => hi ((h.key o).mpr z)
    have h0 : os.count o = 0 := List.count_eq_zero.mpr hn
    refine ⟨?_, fun p => ?_, fun e he => ?_⟩
    · rw [List.map_append, List.nodup_append]
      exact ⟨h.nd, by simp, fun a ha b hb w => hi (by rw [List.mem_singleton.mp hb] at w; exact (show a = o from w) ▸ ha)⟩
    · rw [List.map_append, List.mem_append, List.mem_append, h.key]
      exact Iff.rfl
    · rcases List.mem_append.mp he with z | z
      · have hne : e.1 ≠ o := fun w => hi (w ▸ List.mem_map.mpr ⟨e, z, rfl⟩)
        rw [h.val e z, List.count_append, List.count_eq_zero.mpr (fun w => hne (List.mem_singleton.mp w))]
        rfl
      · rw [List.mem_singleton.mp z]
        show os.count o + 1 = (os ++ [o]).count o
        rw [List.count_append, List.count_singleton_self]
theorem CntOk.mem {os : List Nat} {l : List (Nat × Nat)} (h : CntOk os l) (e : Nat × Nat) : e ∈ l ↔ e.1 ∈ os ∧ e.2 = os.count e.1 := by
  refine ⟨fun he => ⟨(h.key _).mp (List.mem_map.mpr ⟨e, he, rfl⟩), h.val e he⟩, fun ⟨h1, h2⟩ => ?_⟩
  obtain ⟨f, hf, hfe⟩ := List.mem_map.mp ((h.key _).mpr h1)
  have := h.val f hf
  have : f = e := Prod.ext hfe (by rw [this, hfe, h2])
  exact this ▸ hf
end WT
set_option maxHeartbeats 1000000
namespace WT
theorem ltN_asymm {a b : List Nat} (h : ltN a b = true) : ltN b a = false := by
  cases e : ltN b a with
  | false => rfl
  | true =>
    have := ltN_trans h e
    rw [ltN_irr] at this
    cases this
section
variable {m : Nat} {ts : List (List Nat)} {G : List (List Nat)} {p : List Nat}
/-- kinds are told by what is come to -/
theorem KindsOk.uniq {cs ds : List (List Nat × Nat)} (hts : ∀ t ∈ ts, IsP m t) (A : KindsOk m ts cs) (B : KindsOk m ts ds) : cs = ds := by
  have mem : ∀ {cs ds : List (List Nat × Nat)}, KindsOk m ts cs → KindsOk m ts ds → ∀ e ∈ cs, e ∈ ds := fun {cs ds} A B e he => by
    obtain ⟨hg, F, nF, hF, hl⟩ := A.num e he
    have pe := hg.isP hts
    obtain ⟨f, hf, hk⟩ := B.all e.1 hg
    obtain ⟨hgf, F2, nF2, hF2, hl2⟩ := B.num f hf
    have pf := hgf.isP hts
    have e1 : e.1 = f.1 := by
      rcases A.least e he f.1 (hk.symm hts pf) with z | z
      · exact z.symm
      · rcases B.least f hf e.1 hk with w | w
        · exact w
        · exact absurd z (by rw [ltN_asymm w]; exact Bool.false_ne_true)
    have e2 : e.2 = f.2 := by
      rw [← hl, ← hl2]
      refine List.Perm.length_eq ((List.perm_ext_iff_of_nodup nF nF2).mpr fun g => ?_)
      rw [hF, hF2, e1]
    have : e = f := Prod.ext e1 e2
    exact this ▸ hf
  have nd : ∀ {cs : List (List Nat × Nat)}, KindsOk m ts cs → cs.Nodup := fun {cs} A => A.asc.imp fun {a b} h z => by
    rw [z, ltN_irr] at h
    cases h
  refine List.Perm.eq_of_pairwise (le := fun a b : List Nat × Nat => ltN a.1 b.1 = true) (fun a b _ _ h1 h2 => absurd h2 (by rw [ltN_asymm h1]; exact Bool.false_ne_true)) A.asc B.asc ((List.perm_ext_iff_of_nodup (nd A) (nd B)).mpr fun e => ⟨mem A B e, mem B A e⟩)
end
end WT
namespace WT
/-- x is led to y -/
def Orb (m : Nat) (ts : List (List Nat)) (x y : Nat) : Prop := ∃ g, Gen m (fun s => s ∈ ts) g ∧ ap g x = y
section
variable {m : Nat} {ts G : List (List Nat)} {x y z : Nat}
theorem Orb.refl (hx : x < m) : Orb m ts x x := ⟨_, .one, ap_one hx⟩
theorem Orb.symm (hts : ∀ t ∈ ts, IsP m t) (hx : x < m) (h : Orb m ts x y) : Orb m ts y x := by
  obtain ⟨g, hg, rfl⟩ := h
  exact ⟨_, Gen.und hts hg, und_ap (hg.isP hts) hx⟩
theorem Orb.lt (hts : ∀ t ∈ ts, IsP m t) (hx : x < m) (h : Orb m ts x y) : y < m := by
  obtain ⟨g, hg, rfl⟩ := h
  exact ap_lt (hg.isP hts) hx
theorem Orb.trans (hts : ∀ t ∈ ts, IsP m t) (hx : x < m) (h : Orb m ts x y) (k : Orb m ts y z) : Orb m ts x z := by
  obtain ⟨g, hg, rfl⟩ := h
  obtain ⟨f, hf, rfl⟩ := k
  exact ⟨_, Gen.thn hts hg hf, ap_thn (by rw [isP_len (hg.isP hts)]; exact hx)⟩
theorem Orb.step (hts : ∀ t ∈ ts, IsP m t) (hx : x < m) (h : Orb m ts x y) {t : List Nat} (ht : t ∈ ts) : Orb m ts x (ap t y) := h.trans hts hx ⟨t, Gen.of hts ht, rfl⟩
theorem closed_und {L : List Nat} {t : List Nat} (nd : L.Nodup) (hL : ∀ x ∈ L, x < m) (ht : IsP m t) (hc : ∀ x ∈ L, ap t x ∈ L) : ∀ x ∈ L, ap (invN m t) x ∈ L := fun x hx => by
  have key : x ∈ L.map (ap t) := by
    refine Classical.byContradiction fun hn => ?_
    have nd2 : (x :: L.map (ap t)).Nodup := List.nodup_cons.mpr ⟨hn, by
      rw [List.Nodup, List.pairwise_map]
      refine List.Pairwise.imp_of_mem (fun {a b} ha hb h e => h ?_) nd
      exact ap_inj ht (hL a ha) (hL b hb) e⟩
    have := nodup_le nd2 (m := L) fun y hy => by
      rcases List.mem_cons.mp hy with e | e
      · rw [e]
        exact hx
      · obtain ⟨a, ha, rfl⟩ := List.mem_map.mp e
        exact hc a ha
    rw [List.length_cons, List.length_map] at this
    omega
  obtain ⟨a, ha, rfl⟩ := List.mem_map.mp key
  rw [und_ap ht (hL a ha)]
  exact ha
theorem orb_closed (hts : ∀ t ∈ ts, IsP m t) {L : List Nat} (nd : L.Nodup) (hL : ∀ x ∈ L, x < m) (hc : ∀ t ∈ ts, ∀ x ∈ L, ap t x ∈ L) : ∀ x ∈ L, ∀ y, Orb m ts x y → y ∈ L := fun x hx y ⟨g, hg, e⟩ => by
  have key : ∀ g, Gen m (fun s => s ∈ ts) g → ap g x ∈ L := fun g hg => by
    induction hg with
    | one => rw [ap_one (hL x hx)]; exact hx
    | mul h hs ih =>
      rw [ap_thn (by rw [isP_len (h.isP hts)]; exact hL x hx)]
      exact hc _ hs _ ih
    | div h hs ih =>
      rw [ap_thn (by rw [isP_len (h.isP hts)]; exact hL x hx)]
      exact closed_und nd hL (hts _ hs) (hc _ hs) _ ih
  exact e ▸ key g hg
structure LaneI (m : Nat) (ts : List (List Nat)) (p : Nat) (L : List Nat) (a : Nat) : Prop where
  nd : L.Nodup
  hp0 : p ∈ L
  el : ∀ x ∈ L, x < m ∧ Orb m ts p x
  cl : ∀ (i x : Nat), i < a → L[i]? = some x → ∀ t ∈ ts, ap t x ∈ L
  al : a ≤ L.length
theorem LaneI.start (hp : x < m) : LaneI m ts x [x] 0 := ⟨by simp, by simp, fun y hy => by rw [List.mem_singleton.mp hy]; exact ⟨hp, .refl hp⟩, fun i x hi => absurd hi (Nat.not_lt_zero _), Nat.zero_le _⟩
theorem LaneI.len {L : List Nat} {a : Nat} (h : LaneI m ts x L a) : L.length ≤ m := nd_le h.nd fun y hy => (h.el y hy).1
theorem LaneI.next {p : Nat} {L : List Nat} {a : Nat} (h : LaneI m ts p L a) (ha : L[a]? = some x) (hc : ∀ t ∈ ts, ap t x ∈ L) : LaneI m ts p L (a + 1) := ⟨h.nd, h.hp0, h.el, fun i y hi hy t ht => by
  rcases Nat.lt_or_eq_of_le (Nat.le_of_lt_succ hi) with e | e
  · exact h.cl i y e hy t ht
  · subst e
    rw [ha] at hy
    cases (Option.some.inj hy)
    exact hc t ht, (List.getElem?_eq_some_iff.mp ha).1⟩
theorem LaneI.done (hts : ∀ t ∈ ts, IsP m t) {p : Nat} {L : List Nat} {a : Nat} (h : LaneI m ts p L a) (ha : L.length ≤ a) : ∀ y, y ∈ L ↔ Orb m ts p y := fun y => ⟨fun hy => (h.el y hy).2, fun hy => by
  refine orb_closed hts h.nd (fun x hx => (h.el x hx).1) (fun t ht x hx => ?_) p h.hp0 y hy
  obtain ⟨i, hi⟩ := List.getElem?_of_mem hx
  exact h.cl i x (by have := (List.getElem?_eq_some_iff.mp hi).1; omega) hi t ht⟩
theorem asc_nats {a b : List Nat} (ha : a.Pairwise (· < ·)) (hb : b.Pairwise (· < ·)) (h : ∀ x, x ∈ a ↔ x ∈ b) : a = b :=
  List.Perm.eq_of_pairwise (le := (· < ·)) (fun a b _ _ h1 h2 => absurd h1 (Nat.lt_asymm h2)) ha hb ((List.perm_ext_iff_of_nodup (ha.imp fun h => Nat.ne_of_lt h) (hb.imp fun h => Nat.ne_of_lt h)).mpr h)
end
end WT
set_option maxHeartbeats 2000000
namespace WT
open PySem PySem.Spec PyProof.Rows L2 Evl
/-- the numbers below n that are in L, ascending -/
def disN (n : Nat) (L : List Nat) : List Nat := (List.range n).filter fun k => decide (k ∈ L)
theorem mem_disN {n k : Nat} {L : List Nat} : k ∈ disN n L ↔ k < n ∧ k ∈ L := by
  unfold disN
  rw [List.mem_filter, List.mem_range, decide_eq_true_eq]
theorem disN_asc (n : Nat) (L : List Nat) : (disN n L).Pairwise (· < ·) := List.Pairwise.filter _ List.pairwise_lt_range
end WT
set_option maxHeartbeats 2000000
namespace WT
open PySem PySem.Spec PyProof.Rows L2 Evl
structure LR (d : PyData) (w k : Nat) : Prop where
  ls : d.leavesShort 15 = true
  wt : d.weight ≤ w
  sh : d.showable = true
  dp : d.depth ≤ k
  pl : plain d = true
theorem LR.mono {d : PyData} {w k w' k' : Nat} (h : LR d w k) (hw : w ≤ w') (hk : k ≤ k') : LR d w' k' := ⟨h.ls, Nat.le_trans h.wt hw, h.sh, Nat.le_trans h.dp hk, h.pl⟩
theorem LR.nat {n : Nat} (h : n < 10 ^ 14) : LR (.int (n : Int)) 64 0 := by
  obtain ⟨h1, h2, h3⟩ := int_LR h
  exact ⟨h1, h2, h3, by simp [PyData.depth], rfl⟩
theorem lr_all {w k : Nat} : ∀ {ds : List PyData}, (∀ d ∈ ds, LR d w k) → PyData.leavesShortAll 15 ds = true ∧ PyData.weightAll ds ≤ (w + 1) * ds.length ∧ PyData.showableAll ds = true
  | [], _ => by simp [PyData.leavesShortAll, PyData.weightAll, PyData.showableAll]
  | d :: ds, h => by
    obtain ⟨h1, h2, h3⟩ := lr_all (ds := ds) fun x hx => h x (List.mem_cons_of_mem _ hx)
    have g := h d List.mem_cons_self
    have gw := g.wt
    simp only [PyData.leavesShortAll, PyData.weightAll, PyData.showableAll, g.ls, g.sh, h1, h3, List.length_cons, Bool.and_true, true_and, and_true]
    rw [Nat.mul_add]
    omega
theorem LR.tup {w k : Nat} {ds : List PyData} (h : ∀ d ∈ ds, LR d w k) : LR (.tuple ds) ((w + 1) * ds.length) (k + 1) := by
  obtain ⟨h1, h2, h3⟩ := lr_all h
  obtain ⟨p1, p2⟩ := Plain.tup (n := k) fun d hd => ⟨(h d hd).pl, (h d hd).dp⟩
  exact ⟨by simp only [PyData.leavesShort, h1], by simp only [PyData.weight]; exact h2, by simp only [PyData.showable, h3], p2, p1⟩
theorem LR.row {r : List Nat} (hl : r.length ≤ 16) (h : ∀ x ∈ r, x < 10 ^ 14) : LR (tN r) 1040 1 := by
  have : LR (tN r) (65 * (r.map fun n : Nat => PyData.int (n : Int)).length) 1 := LR.tup fun d hd => by
    obtain ⟨n, hn, rfl⟩ := List.mem_map.mp hd
    exact LR.nat (h n hn)
  rw [List.length_map] at this
  exact this.mono (by omega) (Nat.le_refl _)
theorem LR.isP {m : Nat} {r : List Nat} (hm : m ≤ 16) (h : IsP m r) : LR (tN r) 1040 1 := LR.row (by rw [isP_len h]; exact hm) fun x hx => by
  have := List.mem_range.mp (h.subset hx)
  omega
theorem PuL.app {H : Hp} {rs ss : List (List Nat)} {xs ys : List V} (h : PuL H rs xs) (k : PuL H ss ys) : PuL H (rs ++ ss) (xs ++ ys) := ⟨by rw [List.length_append, List.length_append, h.1, k.1], fun i r hi => by
  rcases Nat.lt_or_ge i rs.length with z | z
  · rw [List.getElem?_append_left z] at hi
    rw [List.getElem?_append_left (by rw [h.1]; exact z)]
    exact h.2 i r hi
  · rw [List.getElem?_append_right z] at hi
    rw [List.getElem?_append_right (by rw [h.1]; exact z), h.1]
    exact k.2 _ r hi⟩
end WT
namespace WT
open PySem PySem.Spec PyProof.Rows L2 Evl
theorem fm_congr {α β : Type} {f g : α → Option β} : ∀ {l : List α}, (∀ x ∈ l, f x = g x) → l.filterMap f = l.filterMap g
  | [], _ => rfl
  | x :: l, h => by
    rw [List.filterMap_cons, List.filterMap_cons, h x List.mem_cons_self, fm_congr fun y hy => h y (List.mem_cons_of_mem _ hy)]
theorem fzl_rev {K : PySem.W.Frag} {H : Hp} : ∀ {ds : List PyData} {xs : List V}, FzL K H ds xs → FzL K H ds.reverse xs.reverse
  | [], xs, hf => by
    cases (fzl_nilI hf)
    exact fzl_nil
  | d :: ds, xs, hf => by
    obtain ⟨x, r, rfl, hd, hr⟩ := fzl_consI hf
    rw [List.reverse_cons, List.reverse_cons]
    exact fzl_append (fzl_rev hr) (fzl_cons hd fzl_nil)
theorem adjust_rev (n : Nat) : Builtin.Slice.sliceAdjust none none (-1) (n : Int) = ((n : Int) - 1, -1) := by
  unfold Builtin.Slice.sliceAdjust
  simp
theorem places_rev (n : Nat) : Builtin.Slice.slicePlaces ((n : Int) - 1) (-1) (-1) = n := by
  unfold Builtin.Slice.slicePlaces
  simp
  split <;> omega
theorem pick_rev (xs : Array Value) : ((List.range xs.size).filterMap fun (k : Nat) => xs[(((xs.size : Int) - 1) + (k : Int) * -1).toNat]?).toArray = xs.toList.reverse.toArray := by
  congr 1
  have key : ∀ l : List Value, (List.range l.length).filterMap (fun k => l[l.length - 1 - k]?) = l.reverse := fun l => by
    refine List.ext_getElem? fun i => ?_
    have e : (List.range l.length).filterMap (fun k => l[l.length - 1 - k]?) = (List.range l.length).map fun k => l.getD (l.length - 1 - k) .none := by
      rw [← List.filterMap_eq_map]
      refine fm_congr fun k hk => ?_
      have := List.mem_range.mp hk
      rw [List.getElem?_eq_getElem (by omega)]
      show _ = some (l.getD (l.length - 1 - k) .none)
      rw [List.getD_eq_getElem?_getD, List.getElem?_eq_getElem (by omega)]
      rfl
    rw [e, List.getElem?_map]
    rcases Nat.lt_or_ge i l.length with h | h
    · rw [List.getElem?_range h, List.getElem?_reverse h]
      show some (l.getD (l.length - 1 - i) .none) = _
      rw [List.getD_eq_getElem?_getD, List.getElem?_eq_getElem (by omega)]
      rfl
    · rw [List.getElem?_eq_none (by rw [List.length_range]; exact h), List.getElem?_eq_none (by rw [List.length_reverse]; exact h)]
      rfl
  have := key xs.toList
  rw [Array.length_toList] at this
  rw [← this]
  refine fm_congr fun k hk => ?_
  have hk' := List.mem_range.mp hk
  rw [Array.getElem?_toList]
  congr 1
  omega
section
variable {prog : Program} {w : World} {A : Around} {E : Value → Shared → Prop} {s : Shared}
theorem getItem_tuple_rev {t sl : Addr} {items : Array Value} {vs : Value} {Q : Value → Shared → Prop} (ht : IsTup s.heap t items) (hs : s.heap.IsSliceOf sl .none .none vs) (ps : IsPart vs (some (-1)))
    (h : Q (.ref s.heap.objs.size) { s with heap := s.heap.push { cls := .type "tuple", data := .seq items.toList.reverse.toArray } }) (hsz : items.size ≤ sizeLine) : wpAny (model prog w) A (getItem (.ref t) (.ref sl)) Q E s := by
  have htake : sizeOk (.seq items.toList.reverse.toArray) := by
    show items.toList.reverse.toArray.size ≤ sizeLine
    rw [List.size_toArray, List.length_reverse, Array.length_toList]
    exact hsz
  obtain ⟨os, hos, hcs, hds⟩ := id hs
  have hTs : s.TypeIs (.ref sl) "slice" := ⟨os, hos, hcs⟩
  unfold getItem
  try with_reducible refine wpAny_holding ?_
  first | refine wpAny_bind (wpAny_pure ?_) | skip
  refine wpAny_bind (wpAny_sequenceKey ht.typeIs (by decide) ?_)
  refine wpAny_bind (wpAny_callSpecial?_slot (name := Str.ofString "__getitem__") ht.typeIs PyProof.Rows.slot_tuple_getitem (wpAny_call_entry PyProof.Rows.slot_tuple_getitem ht.typeIs entry_tuple_getitem ?_ (args_tuple_getitem _ _)))
  show wpAny _ _ (Builtin.Tuple.tupleItemsOf (.ref t) >>= _) _ _ s
  refine wpAny_bind (tupleItemsOf_ ht ?_)
  refine wpAny_bind (wpAny_typeOf hTs ?_)
  rw [if_pos (by decide)]
  refine wpAny_bind ?_
  unfold Builtin.Slice.sliceApplied Builtin.Slice.sliceFields
  refine wpAny_bind (wpAny_bind (wpAny_field hos hds (x := .none) rfl (wpAny_bind (wpAny_field hos hds (x := .none) rfl (wpAny_bind (wpAny_field hos hds (x := vs) rfl (wpAny_pure ?_)))))))
  refine wpAny_bind (HT.slicePart_ ps ?_)
  show wpAny _ _ (if ((-1 : Int) == 0) = true then _ else _) _ _ s
  rw [if_neg (by decide)]
  refine wpAny_bind (slicePart_none (wpAny_bind (slicePart_none (wpAny_bind (wpAny_pure ?_)))))
  show wpAny _ _ (match Builtin.Slice.sliceAdjust none none (-1) (items.size : Int) with | (lo, hi) => pure (lo, (-1 : Int), Builtin.Slice.slicePlaces lo hi (-1))) _ _ s
  rw [adjust_rev]
  show wpAny _ _ (pure ((items.size : Int) - 1, (-1 : Int), Builtin.Slice.slicePlaces ((items.size : Int) - 1) (-1) (-1))) _ _ s
  rw [places_rev]
  refine wpAny_pure ?_
  show wpAny _ _ (if (((items.size : Int) - 1) == 0 && (-1 : Int) == 1 && items.size == items.size) = true then _ else _) _ _ s
  rw [if_neg (by rw [show ((-1 : Int) == 1) = false from rfl, Bool.and_false, Bool.false_and]; decide), pick_rev]
  first
    | exact wpAny_bind (m := Builtin.Tuple.tupleExact _) (wpAny_newObj_type (wpAny_pure ⟨_, rfl, wpAny_pure h⟩) htake)
    | exact wpAny_bind (m := Builtin.Tuple.tupleExact _) (wpAny_newObj_type (wpAny_bind (wpAny_pure (wpAny_pure ⟨_, rfl, wpAny_pure h⟩))) htake)
    | exact wpAny_bind (wpAny_bind (m := Builtin.Tuple.tupleExact _) (wpAny_newObj_type (wpAny_pure (wpAny_pure ⟨_, rfl, wpAny_pure h⟩)) htake))
    | exact wpAny_bind (wpAny_bind (m := Builtin.Tuple.tupleExact _) (wpAny_newObj_type (wpAny_pure ⟨_, rfl, wpAny_pure h⟩) htake))
end
/-- t[::-1] -/
def tRevTu (K : PySem.W.Frag) (te : TE) : TE := fun σ H Q => te σ H fun x H1 => ∃ a xs, x = .ref a ∧ SqT K H1 a xs ∧ ∀ p, H1 p = none → Q (.ref p) (upd H1 p (.tup xs.reverse))
theorem pe_revT {X : Cx} {e : Expr} {te : TE} {k : Nat} {p1 p2 p3 pos : Pos} (he : PE X e te) : PE X (.Subscript e (.Slice none none (some (.UnaryOp .USub (.Constant (.int 1) k p1) p2)) p3) pos) (tRevTu X.K te) := by
  refine ⟨fun pins s σ H Q I h => ?_⟩
  refine Subscript_ (L2.thn (he.run pins s σ H _ I h) fun v s1 ⟨x, H1, I1, r1, a, xs, ex, hx, q⟩ => ?_)
  subst ex
  cases r1
  have hs1 : PO X (some (.UnaryOp .USub (.Constant (.int 1) k p1) p2)) (tPart (tUn (rU fun i => .int (-i)) (tC (.int 1)))) := po_some (pe_un un_neg pe_int)
  refine wpAny_Slice (L2.thn (po_none.run pins s1 σ H1 (fun o H2 => o = none ∧ H2 = H1) I1 ⟨rfl, rfl⟩) fun v1 s2 ⟨o1, H2, I2, q1, e1, e2⟩ => ?_)
  subst e1 e2
  refine L2.thn (po_none.run pins s2 σ H2 (fun o H3 => o = none ∧ H3 = H2) I2 ⟨rfl, rfl⟩) fun v2 s3 ⟨o2, H3, I3, q2, e3, e4⟩ => ?_
  subst e3 e4
  refine L2.thn (hs1.run pins s3 σ H3 (fun o H4 => o = some (-1) ∧ H4 = H3) I3 ⟨1, rfl, -1, rfl, rfl, rfl⟩) fun v3 s4 ⟨o3, H4, I4, q3, e5, e6⟩ => ?_
  subst e5 e6
  cases q1
  cases q2
  have I5 : Inv X pins σ H4 { s4 with heap := s4.heap.push { cls := .type "slice", data := .fields #[.none, .none, v3] } } := I4.kept (t' := s4.toks) fun b ob q => Heap.get?_push_of_some _ q
  obtain ⟨its, r, ht, hz⟩ := I5.tuple hx
  have hl := r.length
  show wpAny (model X.prog X.w) X.A (subscriptTail e (.Slice none none (some (.UnaryOp .USub (.Constant (.int 1) k p1) p2)) p3) (.ref a) (.ref s4.heap.objs.size)) (EP X pins σ Q) X.xe { s4 with heap := s4.heap.push { cls := .type "slice", data := .fields #[.none, .none, v3] } }
  refine tail_any (ops := [.ref a, .ref s4.heap.objs.size]) (show IsTup _ a its.toArray from ht).typeIs (PyProof.Rows.slot_tuple_getitem.lookup) ?_ (by with_unfolding_all rfl)
  refine getItem_tuple_rev ht (Heap.IsSliceOf.new _ .none .none v3) q3 ?_ (by rw [List.size_toArray]; omega)
  refine ⟨.ref _, _, I5.laid (t' := s4.toks) (o := .tup xs.reverse) (fun b ob q => Heap.get?_push_of_some _ q) (Nat.le_refl _) ?_, rfl, q _ (I5.hok.fresh (Nat.le_refl _))⟩
  exact ⟨by rw [List.length_reverse]; omega, _, r.reverse, IsTup.new _ _⟩
section
variable {K : PySem.W.Frag} {σ : L2.St} {H H' : Hp} {ta tb te tl : TE} {tt : TT} {ds : List PyData}
theorem ed_revT (h : Ed K ta σ H (.tuple ds)) : Ed K (tRevTu K ta) σ H (.tuple ds.reverse) := fun H1 e Q q => h H1 e _ fun v H2 e2 f => by
  obtain ⟨a, xs, rfl, hx, hf⟩ := fz_tupI f
  refine ⟨a, xs, rfl, hx, fun p hp => ?_⟩
  have en := Ex.new (o := .tup xs.reverse) hp
  have hr : FzL K H2 ds.reverse xs.reverse := fzl_rev hf
  exact q (.ref p) _ (e2.trans en) (fz_tup upd_same (fzl_ex en hr))
end
end WT
namespace WT
/-- words whose turns there are, with small counts -/
structure InOk (ns : List (List Nat)) (W : Wd) : Prop where
  in_ : ∀ e ∈ W, e.1 < ns.length
  sm : ∀ e ∈ W, e.2 ≠ 0 ∧ e.2.natAbs ≤ 1000
def undW (W : Wd) : Wd := W.reverse.map fun e => (e.1, -e.2)
section
variable {m : Nat} {ns ts : List (List Nat)}
theorem InOk.nil : InOk ns [] := ⟨fun e h => absurd h List.not_mem_nil, fun e h => absurd h List.not_mem_nil⟩
theorem InOk.app {V W : Wd} (h : InOk ns V) (k : InOk ns W) : InOk ns (V ++ W) := ⟨fun e he => (List.mem_append.mp he).elim (h.in_ e) (k.in_ e), fun e he => (List.mem_append.mp he).elim (h.sm e) (k.sm e)⟩
theorem InOk.und {W : Wd} (h : InOk ns W) : InOk ns (undW W) := by
  constructor
  · intro e he
    obtain ⟨f, hf, rfl⟩ := List.mem_map.mp he
    exact h.in_ f (List.mem_reverse.mp hf)
  · intro e he
    obtain ⟨f, hf, rfl⟩ := List.mem_map.mp he
    obtain ⟨h1, h2⟩ := h.sm f (List.mem_reverse.mp hf)
    exact ⟨by show -f.2 ≠ 0; omega, by show (-f.2).natAbs ≤ 1000; omega⟩
abbrev WEnt := List Nat × Wd
abbrev WLane := List (Nat × WEnt)
def wlook (L : WLane) (x : Nat) : Option WEnt := (L.find? fun e => decide (e.1 = x)).map (·.2)
def wput (L : WLane) (x : Nat) (e : WEnt) : WLane := if (wlook L x).isSome then L.map (fun k => if k.1 = x then (x, e) else k) else L ++ [(x, e)]
theorem wlook_mem {L : WLane} {x : Nat} {u : WEnt} (h : wlook L x = some u) : (x, u) ∈ L := by
  unfold wlook at h
  cases z : L.find? fun e => decide (e.1 = x) with
  | none => rw [z] at h; cases h
  | some e =>
    rw [z] at h
    have h1 := List.find?_some z
    have h2 := List.mem_of_find?_eq_some z
    have h3 : e.2 = u := Option.some.inj h
    have h4 : e.1 = x := of_decide_eq_true h1
    rw [← h3, ← h4]
    exact h2
theorem wlook_in {L : WLane} {x : Nat} : (wlook L x).isSome = true ↔ x ∈ L.map (·.1) := by
  unfold wlook
  rw [Option.isSome_map, List.find?_isSome]
  constructor
  · rintro ⟨e, he, h⟩
    exact List.mem_map.mpr ⟨e, he, of_decide_eq_true h⟩
  · intro h
    obtain ⟨e, he, h⟩ := List.mem_map.mp h
    exact ⟨e, he, decide_eq_true h⟩
theorem wlook_of {L : WLane} (nd : (L.map (·.1)).Nodup) {x : Nat} {u : WEnt} (h : (x, u) ∈ L) : wlook L x = some u := by
  cases z : wlook L x with
  | none =>
    have := wlook_in.mpr (List.mem_map.mpr ⟨_, h, rfl⟩ : x ∈ L.map (·.1))
    rw [z] at this
    cases this
  | some v =>
    have h2 := wlook_mem z
    obtain ⟨i, hi⟩ := List.getElem?_of_mem h
    obtain ⟨j, hj⟩ := List.getElem?_of_mem h2
    have e1 : (L.map (·.1))[i]? = some x := by rw [List.getElem?_map, hi]; rfl
    have e2 : (L.map (·.1))[j]? = some x := by rw [List.getElem?_map, hj]; rfl
    have hij : i = j := (List.getElem?_inj (List.getElem?_eq_some_iff.mp e1).1 nd).mp (by rw [e1, e2])
    subst hij
    rw [hi] at hj
    have := (Prod.mk.inj (Option.some.inj hj)).2
    rw [this]
theorem wput_keys_in {L : WLane} {x : Nat} {e : WEnt} (h : x ∈ L.map (·.1)) : (wput L x e).map (·.1) = L.map (·.1) := by
  unfold wput
  rw [if_pos (wlook_in.mpr h), List.map_map]
  refine List.map_congr_left fun k _ => ?_
  show (if k.1 = x then (x, e) else k).1 = k.1
  split
  · rename_i h; exact h.symm
  · rfl
theorem wput_keys_out {L : WLane} {x : Nat} {e : WEnt} (h : x ∉ L.map (·.1)) : wput L x e = L ++ [(x, e)] := by
  unfold wput
  rw [if_neg fun z => h (wlook_in.mp z)]
theorem mem_wput {L : WLane} {x y : Nat} {e u : WEnt} (h : (y, u) ∈ wput L x e) : (y = x ∧ u = e) ∨ (y, u) ∈ L := by
  unfold wput at h
  split at h
  · obtain ⟨k, hk, hke⟩ := List.mem_map.mp h
    split at hke
    · injection hke with a b
      exact .inl ⟨a.symm, b.symm⟩
    · exact .inr (hke ▸ hk)
  · rcases List.mem_append.mp h with z | z
    · exact .inr z
    · have := List.mem_singleton.mp z
      injection this with a b
      exact .inl ⟨a, b⟩
theorem wput_keep {L : WLane} {x y : Nat} {e u : WEnt} (h : (y, u) ∈ L) (hne : y ≠ x) : (y, u) ∈ wput L x e := by
  unfold wput
  split
  · exact List.mem_map.mpr ⟨(y, u), h, if_neg hne⟩
  · exact List.mem_append_left _ h
/-- lane p of a table: words that lead p to the keys and keep all below -/
structure WOk (m : Nat) (ns ts : List (List Nat)) (p : Nat) (L : WLane) : Prop where
  base : (p, (List.range m, [])) ∈ L
  nd : (L.map (·.1)).Nodup
  el : ∀ x u W, (x, (u, W)) ∈ L → IsP m u ∧ Gen m (fun s => s ∈ ts) u ∧ Fix p u ∧ ap u p = x ∧ posW m ts W = u ∧ InOk ns W ∧ W.length ≤ 720 * 2 ^ p
theorem WOk.start {p : Nat} (hp : p < m) : WOk m ns ts p [(p, (List.range m, []))] := ⟨by simp, by simp, fun x u W h => by
  have := List.mem_singleton.mp h
  injection this with a b
  injection b with b c
  subst a b c
  exact ⟨.refl _, .one, fix_one (Nat.le_of_lt hp), ap_one hp, rfl, InOk.nil, Nat.zero_le _⟩⟩
theorem WOk.one {p : Nat} {L : WLane} (h : WOk m ns ts p L) {e : WEnt} (he : (p, e) ∈ L) : e = (List.range m, []) := by
  have h1 := wlook_of h.nd h.base
  have h2 := wlook_of h.nd he
  rw [h1] at h2
  exact (Option.some.inj h2).symm
theorem WOk.put {p : Nat} {L : WLane} (h : WOk m ns ts p L) {u : List Nat} {W : Wd} (hx : ap u p ≠ p) (pu : IsP m u) (gu : Gen m (fun s => s ∈ ts) u) (fu : Fix p u) (hW : posW m ts W = u) (ok : InOk ns W) (hl : W.length ≤ 720 * 2 ^ p) : WOk m ns ts p (wput L (ap u p) (u, W)) := by
  refine ⟨wput_keep h.base (Ne.symm hx), ?_, fun x v V hv => ?_⟩
  · by_cases z : ap u p ∈ L.map (·.1)
    · rw [wput_keys_in z]
      exact h.nd
    · rw [wput_keys_out z, List.map_append, List.nodup_append]
      exact ⟨h.nd, by simp, fun a ha b hb e => z (by rw [List.mem_singleton.mp hb] at e; exact (show a = ap u p from e) ▸ ha)⟩
  · rcases mem_wput hv with ⟨a, b⟩ | h2
    · injection b with b c
      subst a b c
      exact ⟨pu, gu, fu, rfl, hW, ok, hl⟩
    · exact h.el x v V h2
structure TOk (m : Nat) (ns ts : List (List Nat)) (T : List WLane) : Prop where
  len : T.length = m
  ok : ∀ p, p < m → WOk m ns ts p (T.getD p [])
theorem getD_set {T : List WLane} {p q : Nat} {L : WLane} (hp : p < T.length) : (T.set p L).getD q [] = if q = p then L else T.getD q [] := by
  rw [List.getD_eq_getElem?_getD, List.getD_eq_getElem?_getD, List.getElem?_set]
  by_cases h : p = q
  · subst h
    simp [hp]
  · have h' : ¬ q = p := fun z => h z.symm
    simp [h, h']
theorem TOk.set {T : List WLane} (h : TOk m ns ts T) {p : Nat} (hp : p < m) {L : WLane} (hL : WOk m ns ts p L) : TOk m ns ts (T.set p L) := ⟨by rw [List.length_set]; exact h.len, fun q hq => by
  rw [getD_set (by rw [h.len]; exact hp)]
  split
  · rename_i e; exact e ▸ hL
  · exact h.ok q hq⟩
end
end WT
namespace WT
section
variable {m : Nat} {ns ts : List (List Nat)}
open Classical in
/-- where those lead p who keep all below -/
noncomputable def orbF (m : Nat) (ts : List (List Nat)) (p : Nat) : List Nat := (List.range m).filter fun x => decide (∃ g, Gen m (fun s => s ∈ ts) g ∧ Fix p g ∧ ap g p = x)
noncomputable def laneSz (m : Nat) (ts : List (List Nat)) (p : Nat) : Nat := (orbF m ts p).length
/-- from k places on it is not anywhere -/
structure IsAny (m : Nat) (ts : List (List Nat)) (k : Nat) : Prop where
  le : k ≤ m
  full : ∀ p, p < k → laneSz m ts p = m - p
  less : k < m → laneSz m ts k ≠ m - k
theorem IsAny.uniq {k l : Nat} (h : IsAny m ts k) (h' : IsAny m ts l) : k = l := by
  rcases Nat.lt_trichotomy k l with z | z | z
  · exact absurd (h'.full k z) (h.less (by have := h'.le; omega))
  · exact z
  · exact absurd (h.full l z) (h'.less (by have := h.le; omega))
end
end WT
namespace WT
open PySem PySem.Spec PyProof.Rows L2 Evl SX
/-- orders by names -/
structure OrdsOk (m : Nat) (ns ts : List (List Nat)) (kvs : List (Key × V)) : Prop where
  at_ : ∀ j, j < ns.length → ∃ L : Nat, valV kvs (Sum.inr (S (ns.getD j []))) = some (.int (L : Int)) ∧ 0 < L ∧ L ≤ 2000 ∧ pw m (ts.getD j []) L = List.range m
def eD (ns : List (List Nat)) (e : WEnt) : PyData := .tuple [tN e.1, wD ns e.2]
def uD (ns ts : List (List Nat)) : List PyData := (List.range ts.length).map fun j => .tuple [sD (ns.getD j []), tN (ts.getD j [])]
def WL (K : PySem.W.Frag) (H : Hp) (ns : List (List Nat)) (L : WLane) (kvs : List (Key × V)) : Prop := kvs.map (·.1) = L.map (fun e => (Sum.inl (e.1 : Int) : Key)) ∧ FzL K H (L.map fun e => eD ns e.2) (kvs.map (·.2))
section
variable {K : PySem.W.Frag} {H H' : Hp} {ns : List (List Nat)}
theorem WL.tex {L : WLane} {kvs : List (Key × V)} (h : WL K H ns L kvs) (e : TEx H H') : WL K H' ns L kvs := ⟨h.1, FzL.mono e _ _ h.2⟩
theorem WL.get {L : WLane} {kvs : List (Key × V)} (h : WL K H ns L kvs) (x : Nat) : (wlook L x = none → valV kvs (Sum.inl (x : Int) : Key) = none) ∧ ∀ u, wlook L x = some u → ∃ v, valV kvs (Sum.inl (x : Int) : Key) = some v ∧ Fz K H (eD ns u) v := by
  obtain ⟨h1, h2⟩ := h
  induction L generalizing kvs with
  | nil =>
    cases kvs with
    | nil => exact ⟨fun _ => rfl, fun u hu => by cases hu⟩
    | cons kv r => simp at h1
  | cons e L ih =>
    cases kvs with
    | nil => simp at h1
    | cons kv r =>
      rw [List.map_cons, List.map_cons] at h1
      injection h1 with e1 e2
      rw [List.map_cons, List.map_cons] at h2
      obtain ⟨v, r', hv, f1, f2⟩ := fzl_consI h2
      injection hv with hv1 hv2
      subst hv1 hv2
      obtain ⟨i1, i2⟩ := ih e2 f2
      by_cases hx : e.1 = x
      · have k1 : kv.1 = (Sum.inl (x : Int) : Key) := by rw [e1, hx]
        have l1 : wlook (e :: L) x = some e.2 := by simp [wlook, List.find?_cons, hx]
        rw [l1, valV_pos k1]
        exact ⟨fun z => (by cases z), fun u hu => ⟨_, rfl, by rw [← Option.some.inj hu]; exact f1⟩⟩
      · have k1 : ¬ kv.1 = (Sum.inl (x : Int) : Key) := by
          rw [e1]
          intro z
          injection z with z
          exact hx (by omega)
        have l1 : wlook (e :: L) x = wlook L x := by simp [wlook, List.find?_cons, hx]
        rw [l1, valV_neg k1]
        exact ⟨i1, i2⟩
theorem WL.has {L : WLane} {kvs : List (Key × V)} (h : WL K H ns L kvs) (x : Nat) : (valV kvs (Sum.inl (x : Int) : Key)).isSome = (wlook L x).isSome := by
  obtain ⟨h1, h2⟩ := h.get x
  cases z : wlook L x with
  | none =>
    rw [h1 z]
    rfl
  | some u =>
    obtain ⟨v, hv, _⟩ := h2 u z
    rw [hv]
    rfl
theorem WL.len {L : WLane} {kvs : List (Key × V)} (h : WL K H ns L kvs) : kvs.length = L.length := by
  have := congrArg List.length h.1
  rwa [List.length_map, List.length_map] at this
theorem WL.put {L : WLane} {kvs : List (Key × V)} (h : WL K H ns L kvs) {x : Nat} {e : WEnt} {v : V} (fv : Fz K H (eD ns e) v) : WL K H ns (wput L x e) (putK kvs (Sum.inl (x : Int) : Key) v) := by
  have hs := h.has x
  obtain ⟨h1, h2⟩ := h
  unfold putK wput
  rw [valV_any, hs]
  by_cases hx : (wlook L x).isSome = true
  · rw [if_pos hx, if_pos hx]
    clear hs hx
    induction L generalizing kvs with
    | nil =>
      cases kvs with
      | nil => exact ⟨rfl, fzl_nil⟩
      | cons kv r => simp at h1
    | cons k L ih =>
      cases kvs with
      | nil => simp at h1
      | cons kv r =>
        rw [List.map_cons, List.map_cons] at h1
        injection h1 with e1 e2
        rw [List.map_cons, List.map_cons] at h2
        obtain ⟨w, r', hv, f1, f2⟩ := fzl_consI h2
        injection hv with hv1 hv2
        subst hv1 hv2
        obtain ⟨i1, i2⟩ := ih e2 f2
        by_cases hk : k.1 = x
        · have k1 : kv.1 = (Sum.inl (x : Int) : Key) := by rw [e1, hk]
          rw [List.map_cons, List.map_cons, if_pos hk, if_pos k1]
          exact ⟨by rw [List.map_cons, List.map_cons, i1, k1], by rw [List.map_cons, List.map_cons]; exact fzl_cons fv i2⟩
        · have k1 : ¬ kv.1 = (Sum.inl (x : Int) : Key) := by
            rw [e1]
            intro z
            injection z with z
            exact hk (by omega)
          rw [List.map_cons, List.map_cons, if_neg hk, if_neg k1]
          exact ⟨by rw [List.map_cons, List.map_cons, i1, e1], by rw [List.map_cons, List.map_cons]; exact fzl_cons f1 i2⟩
  · rw [if_neg hx, if_neg hx]
    refine ⟨by rw [List.map_append, List.map_append, h1]; rfl, ?_⟩
    rw [List.map_append, List.map_append]
    exact fzl_append h2 (fzl_cons fv fzl_nil)
end
structure WOwn where
  dx : Addr
  fd : Addr
  od : Addr
  tl : Addr
  us : Addr
  dl : List Addr
def WOwn.all (o : WOwn) (a : Addr) : List Addr := a :: o.dx :: o.fd :: o.od :: o.tl :: o.us :: o.dl
def wsl (o : WOwn) (m : Nat) (lk : Int) : List (Option V) := [some (.int (m : Int)), some (.ref o.fd), some (.int lk), some (.ref o.od), some (.ref o.tl), some (.ref o.us)]
structure WAt (K : PySem.W.Frag) (C a : Addr) (o : WOwn) (m : Nat) (ns ts : List (List Nat)) (T : List WLane) (lk : Int) (F : List (List Nat)) (H : Hp) : Prop where
  slt : SlX.Slt H a C o.dx (wsl o m lk)
  nd : (o.all a).Nodup
  tl : H o.tl = some (.lst (o.dl.map V.ref))
  dn : o.dl.length = m
  dk : ∀ p q, o.dl[p]? = some q → ∃ kvs, H q = some (.dK kvs) ∧ WL K H ns (T.getD p []) kvs
  od : ∃ kvs, H o.od = some (.dK kvs) ∧ OrdsOk m ns ts kvs
  us : ∃ xs, H o.us = some (.lst xs) ∧ FzL K H (uD ns ts) xs
  fd : H o.fd = some (.dT (F.map kT))
section
variable {K : PySem.W.Frag} {C a : Addr} {o : WOwn} {m : Nat} {ns ts : List (List Nat)} {T : List WLane} {lk : Int} {F : List (List Nat)} {H H' : Hp}
theorem WAt.ex (h : WAt K C a o m ns ts T lk F H) (e : Ex H H') : WAt K C a o m ns ts T lk F H' := by
  obtain ⟨xs, h1, h2⟩ := h.us
  obtain ⟨kv, h3, h4⟩ := h.od
  have h5 := h.fd
  refine ⟨slt_ex e h.slt, h.nd, e _ _ h.tl, h.dn, fun p q hq => ?_, ⟨kv, e _ _ h3, h4⟩, ⟨xs, e _ _ h1, fzl_ex e h2⟩, e _ _ h5⟩
  obtain ⟨kvs, k1, k2⟩ := h.dk p q hq
  exact ⟨kvs, e _ _ k1, k2.tex (tex_of e)⟩
/-- none of the parts is a tuple -/
theorem WAt.notup (h : WAt K C a o m ns ts T lk F H) {b : Addr} (hb : b ∈ o.all a) {u : HO} (hu : H b = some u) : ¬ Tup1 u := fun t => by
  unfold WOwn.all at hb
  rcases List.mem_cons.mp hb with z | hm
  · subst z
    rcases h.slt with ⟨h1, _⟩ | ⟨h1, _⟩
    · rw [hu] at h1
      cases h1
      exact t
    · rw [hu] at h1
      unfold SlX.SlO at h1
      cases h1
      exact t
  rcases List.mem_cons.mp hm with z | hm
  · subst z
    rcases h.slt with ⟨_, h2⟩ | ⟨_, h2⟩
    · cases h2
    · rw [hu] at h2
      cases h2
      exact t
  rcases List.mem_cons.mp hm with z | hm
  · subst z
    rw [h.fd] at hu
    cases hu
    exact t
  rcases List.mem_cons.mp hm with z | hm
  · subst z
    obtain ⟨_, h1, _⟩ := h.od
    rw [h1] at hu
    cases hu
    exact t
  rcases List.mem_cons.mp hm with z | hm
  · subst z
    rw [h.tl] at hu
    cases hu
    exact t
  rcases List.mem_cons.mp hm with z | hm
  · subst z
    obtain ⟨_, h1, _⟩ := h.us
    rw [h1] at hu
    cases hu
    exact t
  · obtain ⟨i, hi⟩ := List.getElem?_of_mem hm
    obtain ⟨kvs, h1, _⟩ := h.dk i _ hi
    rw [h1] at hu
    cases hu
    exact t
theorem WAt.tex (h : WAt K C a o m ns ts T lk F H) (e : OBut (o.all a) H H') : TEx H H' := fun b u t hb => e b _ (fun hm => h.notup hm hb t) hb
end
end WT
namespace L2
open PySem PySem.Spec PyProof.Rows PySem.W
end L2
namespace WT
abbrev LotE := List Nat × WEnt
structure LotsL (m : Nat) (ns ts : List (List Nat)) (lot : List Nat) (L : List LotE) : Prop where
  nd : (L.map (·.1)).Nodup
  hd : L[0]? = some (lot, (List.range m, []))
  el : ∀ e ∈ L, Gen m (fun s => s ∈ ts) e.2.1 ∧ e.1 = disN m (thn lot e.2.1) ∧ posW m ts e.2.2 = e.2.1 ∧ InOk ns e.2.2
  ln : ∀ (k : Nat) e, L[k]? = some e → e.2.2.length ≤ k
section
variable {m : Nat} {ns ts : List (List Nat)} {lot : List Nat} {L : List LotE}
theorem LotsL.few (hts : ∀ t ∈ ts, IsP m t) (hm : m ≤ 6) (h : LotsL m ns ts lot L) : L.length ≤ 720 := by
  have nd2 : (L.map fun e => e.2.1).Nodup := by
    have h1 := h.nd
    rw [List.nodup_iff_pairwise_ne, List.pairwise_map] at h1 ⊢
    refine h1.imp_of_mem fun {x y} hx hy hne e => hne ?_
    rw [(h.el x hx).2.1, (h.el y hy).2.1, e]
  have := isP_few nd2 fun g hg => by
    obtain ⟨e, he, rfl⟩ := List.mem_map.mp hg
    exact Gen.isP (fun s hs => hts s hs) (h.el e he).1
  rw [List.length_map] at this
  exact Nat.le_trans this (dsc_6 hm)
theorem asc_disN (h : lot.Pairwise (· < ·)) (hm : ∀ x ∈ lot, x < m) : disN m lot = lot := asc_nats (disN_asc m lot) h fun x => by
  rw [mem_disN]
  exact ⟨fun h => h.2, fun h => ⟨hm x h, h⟩⟩
theorem LotsL.start (h : lot.Pairwise (· < ·)) (hm : ∀ x ∈ lot, x < m) : LotsL m ns ts lot [(lot, (List.range m, []))] := ⟨by simp, rfl, fun e he => by
  rw [List.mem_singleton.mp he]
  refine ⟨.one, ?_, rfl, InOk.nil⟩
  show lot = disN m (thn lot (List.range m))
  rw [row_one hm, asc_disN h hm], fun k e hk => by
  cases k with
  | zero => cases (Option.some.inj hk); exact Nat.le_refl _
  | succ k => simp at hk⟩
end
open PySem PySem.Spec PyProof.Rows L2 Evl SX
/-- lots in a dict: each with its position and word -/
structure LoV (K : PySem.W.Frag) (H : Hp) (ns : List (List Nat)) (L : List LotE) (kvs : List (List Key × V)) : Prop where
  keys : kvs.map (·.1) = (L.map (·.1)).map kI
  vals : ∀ (k : Nat) (e : LotE), L[k]? = some e → ∃ v, kvs[k]? = some (kI e.1, v) ∧ Fz K H (eD ns e.2) v
section
variable {K : PySem.W.Frag} {H H' : Hp} {ns : List (List Nat)} {L : List LotE} {kvs : List (List Key × V)}
theorem LoV.mono (h : LoV K H ns L kvs) (e : TEx H H') : LoV K H' ns L kvs := ⟨h.keys, fun k x hx => by
  obtain ⟨v, h1, h2⟩ := h.vals k x hx
  exact ⟨v, h1, Fz.mono e _ _ h2⟩⟩
theorem LoV.get (h : LoV K H ns L kvs) (nd : (L.map (·.1)).Nodup) {k : Nat} {r : List Nat} {o : WEnt} (hk : L[k]? = some (r, o)) : ∃ v, valV kvs (kI r) = some v ∧ Fz K H (eD ns o) v := by
  obtain ⟨v, h1, h2⟩ := h.vals k _ hk
  refine ⟨v, valV_at ?_ h1, h2⟩
  rw [h.keys]
  exact List.pairwise_map.mpr (nd.imp fun hne e => hne (kI_inj e))
theorem LoV.len (h : LoV K H ns L kvs) : kvs.length = L.length := by
  have := congrArg List.length h.keys
  simpa using this
end
end WT
namespace WT
section
variable {m : Nat} {ns ts : List (List Nat)}
instance (k : Nat) (g : List Nat) : Decidable (Fix k g) := by unfold Fix; infer_instance
theorem fix_succ {p : Nat} {g : List Nat} : Fix (p + 1) g ↔ Fix p g ∧ ap g p = p := by
  constructor
  · intro h
    exact ⟨fix_mono h (Nat.le_succ p), h p (Nat.lt_succ_self p)⟩
  · rintro ⟨h1, h2⟩ i hi
    rcases Nat.lt_or_eq_of_le (Nat.le_of_lt_succ hi) with z | z
    · exact h1 i z
    · rw [z, h2]
end
end WT
namespace WT
/-- where a lot is led -/
def lotN (m : Nat) (lot g : List Nat) : List Nat := disN m (thn lot g)
section
variable {m : Nat} {ns ts : List (List Nat)} {lot : List Nat} {L : List LotE} {G : List (List Nat)}
theorem LotsL.key (h : LotsL m ns ts lot L) {e : LotE} (he : e ∈ L) : e.1 = lotN m lot e.2.1 := (h.el e he).2.1
end
end WT
namespace WT
section
variable {m : Nat} {ns ts : List (List Nat)}
/-- lanes of positions, filled -/
structure SFull (m : Nat) (ts : List (List Nat)) (S : List LaneT) : Prop where
  len : S.length = m
  nd : ∀ p, p < m → ((S.getD p []).map (·.1)).Nodup
  el : ∀ p, p < m → ∀ x u, (x, u) ∈ S.getD p [] → IsP m u ∧ Gen m (fun s => s ∈ ts) u ∧ Fix p u ∧ ap u p = x
  all : ∀ p, p < m → ∀ g, Gen m (fun s => s ∈ ts) g → Fix p g → ap g p ∈ (S.getD p []).map (·.1)
section
variable {S : List LaneT}
theorem SFull.step (hts : ∀ t ∈ ts, IsP m t) (hS : SFull m ts S) {p : Nat} (hp : p < m) {g u : List Nat} (pg : IsP m g) (hf : Fix p g) (h : look (S.getD p []) (ap g p) = some u) : IsP m u ∧ IsP m (thn g (invN m u)) ∧ Fix (p + 1) (thn g (invN m u)) ∧ (Gen m (fun s => s ∈ ts) (thn g (invN m u)) ↔ Gen m (fun s => s ∈ ts) g) := by
  obtain ⟨pu, gu, fu, hx⟩ := hS.el p hp _ u (look_mem h)
  refine ⟨pu, thn_isP pg (und_isP pu), fix_succ.mpr ⟨fix_thn (Nat.le_of_lt hp) pg hf (fix_und (Nat.le_of_lt hp) pu fu), by rw [ap_thn (by rw [isP_len pg]; exact hp), ← hx, und_ap pu hp]⟩, fun h2 => ?_, fun h2 => Gen.thn hts h2 (Gen.und hts gu)⟩
  have := Gen.thn hts h2 gu
  rwa [thn_und_cancel pg pu] at this
end
end
end WT
set_option maxHeartbeats 2000000
namespace L2
open PySem PySem.Spec PyProof.Rows
end L2
namespace WT
open PySem PySem.Spec PyProof.Rows L2 Evl SX
/-- some data, in a tuple or a list -/
def TurnsAt (K : PySem.W.Frag) (H : Hp) (ds : List PyData) (tv : V) : Prop := Fz K H (.tuple ds) tv ∨ ∃ l xs, tv = .ref l ∧ H l = some (.lst xs) ∧ FzL K H ds xs
section
variable {K : PySem.W.Frag} {σ : L2.St} {H H' : Hp} {ds es : List PyData} {tv : V}
theorem TurnsAt.keep (h : TurnsAt K H ds tv) (tx : TEx H H') (fr : ∀ l xs, H l = some (.lst xs) → H' l = some (.lst xs)) : TurnsAt K H' ds tv := by
  rcases h with h | ⟨l, xs, rfl, h1, h2⟩
  · exact .inl (Fz.mono tx _ _ h)
  · exact .inr ⟨l, xs, rfl, fr l xs h1, FzL.mono tx _ _ h2⟩
theorem TurnsAt.ex (h : TurnsAt K H ds tv) (e : Ex H H') : TurnsAt K H' ds tv := h.keep (tex_of e) fun l xs hl => e _ _ hl
end
end WT
namespace L2
open PySem PySem.Spec PyProof.Rows
section
variable {X : Cx}
/-- a dict just made, that stays from now on -/
def tFrzK (te : TE) : TE := fun σ H Q => te σ H fun x H1 => ∃ d kvs, x = .ref d ∧ H1 d = some (.dK kvs) ∧ ∀ od, Q x (upd H1 d (.frz od (.dK kvs)))
theorem pe_frzK {e : Expr} {te : TE} (h : PE X e te) : PE X e (tFrzK te) := by
  refine ⟨fun pins s σ H Q I hw => ?_⟩
  refine thn (h.run pins s σ H _ I hw) fun v s1 ⟨x, H1, I1, rx, d, kvs, ex, hd, q⟩ => ?_
  obtain ⟨od, I2⟩ := I1.lock hd True.intro
  exact ⟨x, _, I2, rx, q od⟩
end
end L2
namespace WT
open PySem PySem.Spec PyProof.Rows L2 Evl SX
/-- a lane in the heap -/
def LaneAt (K : PySem.W.Frag) (H : Hp) (fr : Prop) (L : LaneT) (q : Addr) : Prop := ∃ (od : Obj) (kvs : List (Key × V)), H q = some (.frz od (.dK kvs)) ∧ DL K H L kvs ∧ (fr → FrL H (kvs.map (·.2)))
def SAt (K : PySem.W.Frag) (H : Hp) (fr : Prop) (S : List LaneT) (a : Addr) : Prop := ∃ qs : List Addr, H a = some (.lst (qs.map V.ref)) ∧ qs.length = S.length ∧ ∀ p q, qs[p]? = some q → LaneAt K H fr (S.getD p []) q
section
variable {K : PySem.W.Frag} {σ : L2.St} {H H' : Hp} {fr : Prop} {L : LaneT} {S : List LaneT} {a q : Addr} {ta tb td ty te : TE}
theorem LaneAt.ex (h : LaneAt K H fr L q) (e : Ex H H') : LaneAt K H' fr L q := by
  obtain ⟨od, kvs, h1, h2, h3⟩ := h
  exact ⟨od, kvs, e _ _ h1, h2.tex (tex_of e), fun z => (h3 z).mono (tex_of e)⟩
theorem SAt.ex (h : SAt K H fr S a) (e : Ex H H') : SAt K H' fr S a := by
  obtain ⟨qs, h1, h2, h3⟩ := h
  exact ⟨qs, e _ _ h1, h2, fun p q hq => (h3 p q hq).ex e⟩
theorem SAt.get (h : SAt K H fr S a) {p : Nat} (hp : p < S.length) : ∃ q, LaneAt K H fr (S.getD p []) q ∧ ∀ {σ : L2.St} {H1 : Hp} {ta tb : TE}, Ex H H1 → Ev ta σ H1 (.ref a) → Ev tb σ H1 (.int (p : Int)) → Ev (tOp (rIxL K) ta tb) σ H1 (.ref q) := by
  obtain ⟨qs, h1, h2, h3⟩ := h
  obtain ⟨q, hq⟩ : ∃ q, qs[p]? = some q := ⟨_, List.getElem?_eq_getElem (by omega)⟩
  exact ⟨q, h3 p q hq, fun e ha hb => ev_op ha hb (rv_ixL (sq_of (e _ _ h1)) (atI_of (by rw [List.getElem?_map, hq]; rfl)))⟩
theorem SAt.len (h : SAt K H fr S a) (k : Ev ta σ H (.ref a)) : Ev (tCB (rLenS K) (tCons ta tNil)) σ H (.int (S.length : Int)) := by
  obtain ⟨qs, h1, h2, h3⟩ := h
  exact ev_is (ev_len k (sq_of h1)) (by rw [List.length_map, h2])
end
end WT
set_option maxHeartbeats 2000000
namespace WT
open PySem PySem.Spec PyProof.Rows L2 Evl
theorem okq_of {P : Program} {w : World} {K : PySem.W.Frag} {mg : Str → Option Value} {base : Heap} {x : Str} {C D fI : Addr} {fd : FuncData} (gC : mg x = some (.ref C)) (T : TurC K D C) (iC : PySem.W.findIn K (.ref C) "__init__" = some (some (.ref fI))) (tI : PySem.W.typeIn K (.ref fI) = some (.type "function"))
    (bI : Binds K fd ["self", "value"] []) (F : FnOk P w K mg base CX0 1 fI fd ["self", "value"] (spTurn K D)) : Okq P w K mg base x 1 C D := ⟨fI, fd, gC, T, iC, tI, bI, F⟩
theorem tabT_of {T : List (Addr × Str)} {P : Addr} {q : Str} (nd : (T.map (·.1)).Nodup) (h : (P, q) ∈ T) : TabT T P q := ⟨h, fun p hp e => by
  obtain ⟨i, hi⟩ := List.getElem?_of_mem hp
  obtain ⟨j, hj⟩ := List.getElem?_of_mem h
  have h1 : (T.map (·.1))[i]? = some p.1 := by rw [List.getElem?_map, hi]; rfl
  have h2 : (T.map (·.1))[j]? = some P := by rw [List.getElem?_map, hj]; rfl
  have : i = j := (List.getElem?_inj (List.getElem?_eq_some_iff.mp h1).1 nd).mp (by rw [h1, h2, e])
  subst this
  rw [hi] at hj
  rw [Option.some.inj hj]⟩
/-- the tables are empty: nothing in them bears another name -/
theorem tabs_nil {T : List (Addr × Str)} {cs : List (Addr × Addr)} {H : Hp} (e : T.map (·.1) = cs.map (·.2)) (h : ∀ p ∈ cs, H p.2 = some (.tbl #[])) : LamX.Tabs T H := fun p hp => by
  have h1 : p.1 ∈ cs.map (·.2) := by
    rw [← e]
    exact List.mem_map.mpr ⟨p, hp, rfl⟩
  obtain ⟨q, hq, eq⟩ := List.mem_map.mp h1
  have := h q hq
  rw [eq] at this
  exact LamX.TabS.nil this
end WT
namespace L2
open PySem PySem.Spec PyProof.Rows
end L2
namespace WT
open PySem L2
/-- lanes of positions, not filled -/
structure SForm (m : Nat) (S : List LaneT) : Prop where
  len : S.length = m
  nd : ∀ p, p < m → ((S.getD p []).map (·.1)).Nodup
  el : ∀ p, p < m → ∀ x u, (x, u) ∈ S.getD p [] → IsP m u ∧ Fix p u ∧ ap u p = x
def flatP (S : List LaneT) : List (List Nat) := S.flatMap fun L => L.map fun e => e.2
section
variable {m : Nat} {ns ts : List (List Nat)} {S : List LaneT}
theorem SForm.step (hS : SForm m S) {p : Nat} (hp : p < m) {g u : List Nat} (pg : IsP m g) (hf : Fix p g) (h : look (S.getD p []) (ap g p) = some u) : IsP m u ∧ IsP m (thn g (invN m u)) ∧ Fix (p + 1) (thn g (invN m u)) := by
  obtain ⟨pu, fu, hx⟩ := hS.el p hp _ u (look_mem h)
  exact ⟨pu, thn_isP pg (und_isP pu), fix_succ.mpr ⟨fix_thn (Nat.le_of_lt hp) pg hf (fix_und (Nat.le_of_lt hp) pu fu), by rw [ap_thn (by rw [isP_len pg]; exact hp), ← hx, und_ap pu hp]⟩⟩
theorem SForm.mem (h : SForm m S) {p : Nat} {u : List Nat} (hd : u ∈ flatP (S.drop p)) : IsP m u ∧ Fix p u := by
  unfold flatP at hd
  obtain ⟨L, hL, hdL⟩ := List.mem_flatMap.mp hd
  obtain ⟨⟨x, u⟩, he, rfl⟩ := List.mem_map.mp hdL
  obtain ⟨j, hj⟩ := List.getElem?_of_mem hL
  rw [List.getElem?_drop] at hj
  have hpm : p + j < m := by
    have := (List.getElem?_eq_some_iff.mp hj).1
    rwa [h.len] at this
  have hg : S.getD (p + j) [] = L := by rw [List.getD_eq_getElem?_getD, hj]; rfl
  obtain ⟨h1, h2, _⟩ := h.el (p + j) hpm x u (by rw [hg]; exact he)
  exact ⟨h1, fix_mono h2 (Nat.le_add_right _ _)⟩
end
end WT
namespace L2
open PySem PySem.Spec PyProof.Rows
section
variable {X : Cx}
/-- a list just made, that stays from now on -/
def tFrzL (te : TE) : TE := fun σ H Q => te σ H fun x H1 => ∃ l xs, x = .ref l ∧ H1 l = some (.lst xs) ∧ ∀ ol, Q x (upd H1 l (.frz ol (.lst xs)))
theorem pe_frzL {e : Expr} {te : TE} (h : PE X e te) : PE X e (tFrzL te) := by
  refine ⟨fun pins s σ H Q I hw => ?_⟩
  refine thn (h.run pins s σ H _ I hw) fun v s1 ⟨x, H1, I1, rx, l, xs, ex, hl, q⟩ => ?_
  obtain ⟨ol, I2⟩ := I1.lock hl True.intro
  exact ⟨x, _, I2, rx, q ol⟩
end
end L2
namespace WT
open PySem PySem.Spec PyProof.Rows L2 Evl SX
/-- the type of data -/
def tyD : PyData → String
  | .none => "NoneType"
  | .bool _ => "bool"
  | .int _ => "int"
  | .str _ => "str"
  | .tuple _ => "tuple"
  | .list _ => "list"
  | .dict _ => "dict"
/-- data of keys, of small values -/
def keyD : Key → PyData
  | .inl i => .int i
  | .inr s => .str s
def valD : V → PyData
  | .int i => .int i
  | .str s => .str s
  | .bl b => .bool b
  | _ => .none
def scalV : V → Bool
  | .int _ => true
  | .str _ => true
  | .bl _ => true
  | .non => true
  | _ => false
/-- a dict that stays -/
def OddD (d : List (PyData × PyData)) (H : Hp) (v : V) : Prop := ∃ a o kvs, (v = .ref a ∧ d = kvs.map (fun kv => (keyD kv.1, valD kv.2)) ∧ kvs.all (fun kv => scalV kv.2) = true) ∧ H a = some (.frz o (.dK kvs))
/-- data of any kind, dicts at the top alone -/
def DaAt (K : PySem.W.Frag) (H : Hp) (d : PyData) (v : V) : Prop := (∃ kvs, d = .dict kvs ∧ OddD kvs H v) ∨ Fz K H d v
section
variable {K : PySem.W.Frag} {σ : L2.St} {H H' : Hp} {ta tb te : TE} {d : PyData} {v : V}
theorem fz_tyx (h : Fz K H d v) : TyX K H v (.type (tyD d)) := by
  cases d with
  | none => rw [fz_nonI h]; exact .base .non
  | bool b => rw [fz_blI h]; exact .base (.bl b)
  | int i => rw [fz_intI h]; exact .base (.int i)
  | str s => rw [fz_strI h]; exact .base (.str s)
  | tuple ds =>
    obtain ⟨a, xs, rfl, hs, _⟩ := fz_tupI h
    exact tyx_tup hs
  | list ds =>
    obtain ⟨a, o, xs, rfl, hs, _⟩ := fz_lstI h
    exact .base (.frz hs)
  | dict kvs => simp only [Fz] at h
theorem DaAt.tyx (h : DaAt K H d v) : TyX K H v (.type (tyD d)) := by
  rcases h with ⟨kvs, rfl, a, o, kv, ⟨rfl, _⟩, ha⟩ | h
  · exact .fDict ha
  · exact fz_tyx h
theorem DaAt.ex (h : DaAt K H d v) (e : Ex H H') : DaAt K H' d v := by
  rcases h with ⟨kvs, h0, a, o, kv, h1, ha⟩ | h
  · exact .inl ⟨kvs, h0, a, o, kv, h1, e _ _ ha⟩
  · exact .inr (fz_ex e h)
theorem DaAt.but {p : Addr} {n : Nat} (h : DaAt K H d v) (hP : PotAt H p n) (e : But p H H') : DaAt K H' d v := by
  rcases h with ⟨kvs, h0, a, o, kv, h1, ha⟩ | h
  · refine .inl ⟨kvs, h0, a, o, kv, h1, e _ _ (fun z => ?_) ha⟩
    obtain ⟨xs, hp⟩ := hP.obj
    rw [z, hp] at ha
    cases ha
  · exact .inr (Fz.mono (hP.tex e) _ _ h)
theorem DaAt.tup {ds : List PyData} (h : DaAt K H (.tuple ds) v) : Fz K H (.tuple ds) v := by
  rcases h with ⟨kvs, h0, _⟩ | h
  · cases h0
  · exact h
/-- isinstance(x, T) of any data -/
theorem ev_isiG {T : String} {r : Bool} (h : Ed K ta σ H d) (hr : kitB (tyD d) T = some r) : Ev (tCB (rIsi K) (tCons ta (tCons (tC (.ty T)) tNil))) σ H (.bl r) := ev_isiD h (fun H1 v f => fz_tyx f) hr
theorem ev_isiA {T : String} {r : Bool} (h : Ev ta σ H v) (f : DaAt K H d v) (hr : kitB (tyD d) T = some r) : Ev (tCB (rIsi K) (tCons ta (tCons (tC (.ty T)) tNil))) σ H (.bl r) := ev_isi h (fun H1 e => (f.ex e).tyx) hr
def isTup : PyData → Bool
  | .tuple _ => true
  | _ => false
theorem kit_tup (d : PyData) : kitB (tyD d) "tuple" = some (isTup d) := by cases d <;> rfl
theorem isTup_true {d : PyData} (h : isTup d = true) : ∃ ds, d = .tuple ds := by
  cases d with
  | tuple ds => exact ⟨ds, rfl⟩
  | _ => cases h
/-- a list made and kept -/
theorem ed_frzL {ds : List PyData} (h : El K te σ H ds) : Ed K (tFrzL te) σ H (.list ds) := fun H1 e Q q =>
  h H1 e _ fun p xs H2 hp e2 hx f => ⟨p, xs, rfl, hx, fun ol => by
    have tx : TEx H2 (upd H2 p (.frz ol (.lst xs))) := tex_lst hx
    exact q (.ref p) _ (e2.mut hp) (fz_lst upd_same (FzL.mono tx _ _ f))⟩
end
end WT
namespace WT
open PySem PySem.Spec PyProof.Rows L2 Evl SX
section
variable {K : PySem.W.Frag} {σ : L2.St} {H : Hp} {ta tb te tx : TE} {d : PyData} {tt : TT}
theorem int_ne {a b : Nat} : (V.int (a : Int) = V.int (b : Int)) ↔ a = b := ⟨fun h => by injection h with h; omega, fun h => by rw [h]⟩
instance (p : Nat) (g : List Nat) : Decidable (Fix p g) := by unfold Fix; infer_instance
end
end WT
namespace WT
open PySem PySem.Spec PyProof.Rows
/-- may be shown: so deep, so long -/
structure Shw (n L : Nat) (d : PyData) : Prop where
  sh : d.showable = true
  dp : d.depth ≤ n
  le : d.shown.length ≤ L
theorem Shw.mono {n L n' L' : Nat} {d : PyData} (h : Shw n L d) (hn : n ≤ n') (hL : L ≤ L') : Shw n' L' d := ⟨h.sh, Nat.le_trans h.dp hn, Nat.le_trans h.le hL⟩
theorem Shw.ok {n L : Nat} {d : PyData} (h : Shw n L d) (hn : n ≤ 50) (hL : L ≤ 16000000) : ShowOk d := ⟨h.sh, Nat.le_trans h.dp hn, Nat.le_trans h.le (Nat.le_trans hL (by rw [sizeLine_eq]; decide))⟩
theorem shw_none : Shw 0 4 .none := ⟨by simp only [PyData.showable], by simp only [PyData.depth]; omega, by simp only [PyData.shown]; decide +kernel⟩
theorem shw_bool (b : Bool) : Shw 0 5 (.bool b) := ⟨by simp only [PyData.showable], by simp only [PyData.depth]; omega, by cases b <;> simp only [PyData.shown] <;> decide +kernel⟩
theorem shw_int {i : Int} (h : i.natAbs < 10 ^ 12) : Shw 0 13 (.int i) := by
  refine ⟨?_, by simp only [PyData.depth]; omega, PyData.shown_int_le h⟩
  simp only [PyData.showable, decide_eq_true_eq]
  by_cases z : i.natAbs = 0
  · rw [z]; decide
  · rw [Nat.log2_lt z]
    exact Nat.lt_of_lt_of_le h (by decide)
theorem shw_str {s : Str} {a : Nat} (h : s.length ≤ a) (hc : ∀ c ∈ s.cps.toList, c < 16 ^ 8) : Shw 0 (10 * a + 2) (.str s) := by
  refine ⟨by simp only [PyData.showable], by simp only [PyData.depth]; omega, ?_⟩
  simp only [PyData.shown]
  have := StrLaws.reprText_len s hc
  omega
theorem shwAll {n L : Nat} : ∀ {ds : List PyData}, (∀ d ∈ ds, Shw n L d) → PyData.showableAll ds = true ∧ PyData.depthAll ds ≤ n ∧ ((PyData.shownAll ds).map (·.length)).sum + 2 * (PyData.shownAll ds).length ≤ ds.length * (L + 2)
  | [], _ => ⟨by simp only [PyData.showableAll], by simp only [PyData.depthAll]; omega, by simp only [PyData.shownAll]; simp⟩
  | d :: ds, h => by
    obtain ⟨h1, h2, h3⟩ := shwAll (ds := ds) fun e he => h e (List.mem_cons_of_mem _ he)
    have hd := h d List.mem_cons_self
    refine ⟨by simp only [PyData.showableAll, hd.sh, h1, Bool.and_self], ?_, ?_⟩
    · simp only [PyData.depthAll]
      have := hd.dp
      omega
    · simp only [PyData.shownAll, List.map_cons, List.sum_cons, List.length_cons]
      have := hd.le
      rw [Nat.add_mul, Nat.one_mul]
      omega
theorem shw_tup {n L M : Nat} {ds : List PyData} (h : ∀ d ∈ ds, Shw n L d) (hl : ds.length ≤ M) : Shw (n + 1) (M * (L + 2) + 3) (.tuple ds) := by
  obtain ⟨h1, h2, h3⟩ := shwAll h
  refine ⟨by simp only [PyData.showable]; exact h1, by simp only [PyData.depth]; omega, ?_⟩
  simp only [PyData.shown]
  have h4 := tupleText_len_le (PyData.shownAll ds)
  have h5 := Nat.mul_le_mul_right (L + 2) hl
  omega
theorem shw_list {n L M : Nat} {ds : List PyData} (h : ∀ d ∈ ds, Shw n L d) (hl : ds.length ≤ M) : Shw (n + 1) (M * (L + 2) + 3) (.list ds) := by
  obtain ⟨h1, h2, h3⟩ := shwAll h
  refine ⟨by simp only [PyData.showable]; exact h1, by simp only [PyData.depth]; omega, ?_⟩
  simp only [PyData.shown]
  have h4 := listText_len_le (PyData.shownAll ds)
  have h5 := Nat.mul_le_mul_right (L + 2) hl
  omega
/-- by looking: for what is written out -/
theorem shw_look {n L : Nat} {d : PyData} (h : (d.showable && decide (d.depth ≤ n) && decide (d.shown.length ≤ L)) = true) : Shw n L d := by
  rw [Bool.and_eq_true, Bool.and_eq_true, decide_eq_true_eq, decide_eq_true_eq] at h
  exact ⟨h.1.1, h.1.2, h.2⟩
def Asc (s : Str) : Prop := ∀ c ∈ s.cps.toList, c < 128
theorem Asc.lt {s : Str} (h : Asc s) : ∀ c ∈ s.cps.toList, c < 16 ^ 8 := fun c hc => Nat.lt_trans (h c hc) (by decide)
theorem up_asc : ∀ c, c < 128 → ∀ z ∈ Unicode.upperOf c, z < 128 := by
  have h : ∀ c, c < 128 → (Unicode.upperOf c).all (fun z => decide (z < 128)) = true := by decide +kernel
  intro c hc z hz
  exact of_decide_eq_true (List.all_eq_true.mp (h c hc) z hz)
theorem upper_asc {s : Str} (h : Asc s) : Asc (Txt.upper s) := fun c hc => by
  unfold Txt.upper placed at hc
  have hc : c ∈ ((s.cps.mapIdx fun i c => (Unicode.upperOf c).toArray).flatten).toList := hc
  rw [Array.mem_toList_iff, Array.mem_flatten] at hc
  obtain ⟨a, ha, hca⟩ := hc
  obtain ⟨i, hi, rfl⟩ := Array.mem_mapIdx.mp ha
  exact up_asc _ (h _ (Array.getElem_mem_toList _)) c (by simpa using hca)
theorem app_asc {s t : Str} (h : Asc s) (k : Asc t) : Asc (s ++ t) := fun c hc => by
  have hc : c ∈ (s.cps ++ t.cps).toList := hc
  rw [Array.toList_append, List.mem_append] at hc
  exact hc.elim (h c) (k c)
end WT
namespace WT
open PySem PySem.Spec PyProof.Rows L2 Evl SX
/-- values of data of any kind -/
def DaL (K : PySem.W.Frag) (H : Hp) : List PyData → List V → Prop
  | [], xs => xs = []
  | d :: ds, xs => ∃ v r, xs = v :: r ∧ DaAt K H d v ∧ DaL K H ds r
section
variable {K : PySem.W.Frag} {H H' : Hp}
theorem DaL.nil : DaL K H [] [] := rfl
theorem DaL.cons {d : PyData} {ds : List PyData} {v : V} {xs : List V} (h : DaAt K H d v) (hs : DaL K H ds xs) : DaL K H (d :: ds) (v :: xs) := ⟨v, xs, rfl, h, hs⟩
theorem DaL.len : ∀ {ds : List PyData} {xs : List V}, DaL K H ds xs → xs.length = ds.length
  | [], _, h => by rw [show _ = [] from h]; rfl
  | d :: ds, _, ⟨v, r, h, _, h2⟩ => by rw [h, List.length_cons, List.length_cons, DaL.len h2]
theorem DaL.mapD (k : ∀ d v, DaAt K H d v → DaAt K H' d v) : ∀ {ds : List PyData} {xs : List V}, DaL K H ds xs → DaL K H' ds xs
  | [], _, h => h
  | d :: ds, _, ⟨v, r, h, h1, h2⟩ => ⟨v, r, h, k d v h1, DaL.mapD k h2⟩
theorem DaL.ex {ds : List PyData} {xs : List V} (h : DaL K H ds xs) (e : Ex H H') : DaL K H' ds xs := h.mapD fun _ _ h => h.ex e
theorem DaL.but {ds : List PyData} {xs : List V} {p : Addr} {n : Nat} (h : DaL K H ds xs) (hP : PotAt H p n) (e : But p H H') : DaL K H' ds xs := h.mapD fun _ _ h => h.but hP e
theorem DaL.of : ∀ {ds : List PyData} {xs : List V}, FzL K H ds xs → DaL K H ds xs
  | [], _, h => fzl_nilI h
  | d :: ds, _, h => by
    obtain ⟨v, r, rfl, h1, h2⟩ := fzl_consI h
    exact ⟨v, r, rfl, .inr h1, DaL.of h2⟩
theorem DaL.app : ∀ {ds es : List PyData} {xs ys : List V}, DaL K H ds xs → DaL K H es ys → DaL K H (ds ++ es) (xs ++ ys)
  | [], _, _, _, h, k => by rw [show _ = [] from h]; exact k
  | d :: ds, _, _, _, ⟨v, r, h, h1, h2⟩, k => by rw [h]; exact ⟨v, r ++ _, rfl, h1, DaL.app h2 k⟩
theorem DaL.getV : ∀ {ds : List PyData} {xs : List V} {i : Nat} {v : V}, DaL K H ds xs → xs[i]? = some v → ∃ d, ds[i]? = some d ∧ DaAt K H d v
  | [], _, i, v, h, k => by rw [show _ = [] from h] at k; simp at k
  | d :: ds, _, 0, v, ⟨w, r, h, h1, _⟩, k => by
    rw [h] at k
    cases (Option.some.inj k)
    exact ⟨d, rfl, h1⟩
  | d :: ds, _, i + 1, v, ⟨w, r, h, _, h2⟩, k => by
    rw [h] at k
    obtain ⟨e, he, fe⟩ := DaL.getV (ds := ds) (xs := r) (i := i) h2 k
    exact ⟨e, he, fe⟩
end
def EdA (K : PySem.W.Frag) (te : TE) (σ : L2.St) (H : Hp) (d : PyData) : Prop := ∀ H1, Ex H H1 → ∀ Q : VK, (∀ v H2, Ex H1 H2 → DaAt K H2 d v → Q v H2) → te σ H1 Q
def EaA (K : PySem.W.Frag) (tr : TA) (σ : L2.St) (H : Hp) (ds : List PyData) : Prop := ∀ H1, Ex H H1 → ∀ Q : List V → Hp → Prop, (∀ vs H2, Ex H1 H2 → DaL K H2 ds vs → Q vs H2) → tr σ H1 Q
def ElA (K : PySem.W.Frag) (te : TE) (σ : L2.St) (H : Hp) (ds : List PyData) : Prop := ∀ H1, Ex H H1 → ∀ Q : VK, (∀ p xs H2, H1 p = none → Ex H1 H2 → H2 p = some (.lst xs) → DaL K H2 ds xs → Q (.ref p) H2) → te σ H1 Q
section
variable {K : PySem.W.Frag} {σ : L2.St} {H : Hp} {ta tb te : TE} {tr : TA} {d : PyData} {ds es : List PyData}
theorem eda (h : Ed K te σ H d) : EdA K te σ H d := fun H1 e Q q => h H1 e _ fun v H2 e2 f => q v H2 e2 (.inr f)
theorem eda_new : EdA K (tFrzK tDNewK) σ H (.dict []) := fun H1 e Q q p hp => ⟨p, [], rfl, upd_same, fun od => q _ _ ((Ex.new hp).mut hp) (.inl ⟨[], rfl, p, od, [], ⟨rfl, rfl, rfl⟩, upd_same⟩)⟩
theorem eaa_nil : EaA K tNil σ H [] := fun H1 _ _ q => q _ H1 (Ex.refl H1) rfl
theorem eaa_c (h : EdA K te σ H d) (hr : EaA K tr σ H ds) : EaA K (tCons te tr) σ H (d :: ds) := fun H1 e _ q =>
  h H1 e _ fun v H2 e2 f => hr H2 (e.trans e2) _ fun vs H3 e3 k => q (v :: vs) H3 (e2.trans e3) (.cons (f.ex e3) k)
theorem ela_lst (h : EaA K tr σ H ds) (hl : ds.length ≤ 100000) : ElA K (tLst tr) σ H ds := fun H1 e _ q =>
  h H1 e _ fun vs H2 e2 k => ⟨sz_of (by rw [k.len]; exact hl), fun p hp => q p vs _ (fresh_back e2 hp) (e2.trans (Ex.new hp)) upd_same (k.ex (Ex.new hp))⟩
theorem ela_cat {l : Addr} {xs : List V} (h : Ev ta σ H (.ref l)) (hl : H l = some (.lst xs)) (f : DaL K H ds xs) (k : ElA K tb σ H es) (hz : ds.length + es.length ≤ 100000) : ElA K (tOp rCat ta tb) σ H (ds ++ es) := fun H1 e Q q =>
  h H1 e _ fun H2 e2 => k H2 (e.trans e2) _ fun p ys H3 hp e3 hy g => by
    have e13 := (e.trans e2).trans e3
    refine ⟨l, p, xs, ys, rfl, rfl, e13 _ _ hl, hy, sz_of (by rw [f.len, g.len]; exact hz), fun r hr => ?_⟩
    have en := Ex.new (o := .lst (xs ++ ys)) hr
    exact q r _ _ (fresh_back (e2.trans e3) hr) ((e2.trans e3).trans en) upd_same ((f.ex (e13.trans en)).app (g.ex en))
/-- {"x": y} -/
theorem eda_disp1 {s : Str} {u : V} (hu : scalV u = true) : EdA K (tFrzK (tDisp [(tC (.str s), tC u)])) σ H (.dict [(.str s, valD u)]) := fun H1 e Q q p hp => by
  refine ⟨upd_same, [((Sum.inr s : Key), u)], rfl, (by show 1 ≤ 15; omega), p, _, rfl, upd_same, fun od => ?_⟩
  exact q _ _ ((((Ex.new hp).mut hp).mut hp)) (.inl ⟨_, rfl, p, od, _, ⟨rfl, rfl, by show (scalV u && true) = true; rw [hu]; rfl⟩, upd_same⟩)
theorem q_asgLA {Dn : Ends} {tz : TS} {i : Nat} (h : ElA K te σ H ds) (k : ∀ p xs H1, H p = none → Ex H H1 → H1 p = some (.lst xs) → DaL K H1 ds xs → tz Dn (σ.set i (some (.ref p))) H1) : tSeq (tAsg te (gName i)) tz Dn σ H := h H (Ex.refl H) _ fun p xs H1 hp e hx f => k p xs H1 hp e hx f
/-- one of a list, data of any kind -/
theorem ofX_da {p q : Addr} {n : Nat} {xs : List V} {Q : VK} {E : XK} (hP : PotAt H p n) (hn : n < 2 ^ 240) (hq : H q = some (.lst xs)) (f : DaL K H ds xs) (nq : q ≠ p) (hne : ds ≠ []) (hl : ds.length ≤ 1000)
    (k : ∀ d v H', d ∈ ds → DaAt K H' d v → But p H H' → PotAt H' p (n + 1) → Q v H') : spOfX [.ref p, .ref q] H Q E := by
  have hxl := f.len
  have hpos : 0 < ds.length := List.length_pos_iff.mpr hne
  obtain ⟨a, b, c, hS, hc⟩ := hP
  have hP : PotAt H p n := ⟨a, b, c, hS, hc⟩
  refine ⟨p, q, a, b, c, xs, rfl, hS, by omega, hq, by omega, by omega, nq, fun v H' hv eB hP' => ?_⟩
  obtain ⟨e, he, fe⟩ := f.getV hv
  refine k e v H' (List.mem_of_getElem? he) (fe.but hP eB) eB ⟨_, _, _, hP', ?_⟩
  unfold nextC
  split <;> omega
/-- one of a list, frozen data -/
theorem c_ofD {p : Addr} {n : Nat} {Q : VK} (ha : Ev ta σ H (.ref p)) (h : El K te σ H ds) (hP : PotAt H p n) (hn : n < 2 ^ 240) (hne : ds ≠ []) (hl : ds.length ≤ 1000)
    (k : ∀ d v H', d ∈ ds → Fz K H' d v → But p H H' → PotAt H' p (n + 1) → Q v H') : tCall (spOf K) [] E0 (tCons ta (tCons te tNil)) σ H Q :=
  c_call (c_cons (ha H (Ex.refl _) _ fun H1 e1 => c_cons (h H1 e1 _ fun q xs H2 hq e2 hx f => c_nil ⟨p, q, n, ds, xs, rfl, hP.ex (e1.trans e2), hn, hx, f, hne, by omega, fresh_ne (hP.ex e1) hq, fun d v H' hd fd eB hP' => k d v H' hd fd ((But.of (e1.trans e2)).trans eB) hP'⟩)))
/-- i ** j of small ones -/
theorem ev_pow {i j : Int} {z : Int} (hc : CPowW i j) (hz : i ^ j.toNat = z) : Ev (tOp (rI CPowW fun i j => .int (i ^ j.toNat)) (tC (.int i)) (tC (.int j))) σ H (.int z) := fun H1 e Q q => ⟨i, j, rfl, rfl, hc, by show Q (V.int (i ^ j.toNat)) H1; rw [hz]; exact q H1 (Ex.refl H1)⟩
/-- str(i) -/
theorem ev_strZ {i : Int} (h : Ev ta σ H (.int i)) (hi : i.natAbs ≤ 1000000000) : Ev (tCB rStrI (tCons ta tNil)) σ H (.str (toString i)) := fun H1 e Q q => h H1 e _ fun H2 e2 =>
  ⟨_, rfl, by
    by_cases z : i.natAbs = 0
    · rw [z]
      decide
    · rw [Nat.log2_lt z]
      exact Nat.lt_of_le_of_lt hi (Nat.lt_of_lt_of_le (by decide : 1000000000 < 2 ^ 30) (Nat.pow_le_pow_right (by decide) (by decide))), q H2 e2⟩
/-- s + t of texts -/
theorem ev_addS' {a b : Str} (ha : Ev ta σ H (.str a)) (hb : Ev tb σ H (.str b)) (hz : a.length + b.length ≤ 100000) : Ev (tOp rAddS ta tb) σ H (.str (a ++ b)) := fun H1 e Q q =>
  ha H1 e _ fun H2 e2 => hb H2 (e.trans e2) _ fun H3 e3 => ⟨_, _, rfl, rfl, sz_of hz, q H3 (e2.trans e3)⟩
theorem ev_cutS {a : Str} {tlo thi : TO} {lo hi : Option Int} (h : Ev ta σ H (.str a)) (hl : a.length ≤ 100000) (h1 : EvO tlo σ H lo) (h2 : EvO thi σ H hi) : Ev (tSl rSlS ta tlo thi) σ H (.str (cutS a lo hi)) := fun H1 e Q q => h H1 e _ fun H2 e2 =>
  h1 H2 (e.trans e2) _ fun H3 e3 => h2 H3 ((e.trans e2).trans e3) _ fun H4 e4 => ⟨a, rfl, sz_of hl, q H4 (e2.trans (e3.trans e4))⟩
theorem ev_upper {a : Str} (h : Ev ta σ H (.str a)) (hl : a.length ≤ 100000) : Ev (tM0 (fun x xs H Q => ∃ a, x = .str a ∧ xs = [] ∧ a.length ≤ 5592405 ∧ Q (.str (Txt.upper a)) H) ta) σ H (.str (Txt.upper a)) := fun H1 e Q q => h H1 e _ fun H2 e2 =>
  ⟨⟨a, rfl⟩, a, rfl, rfl, Nat.le_trans hl (by decide), q H2 e2⟩
end
/-- ints, texts, tuples of these, so deep -/
def BtD0 (d : PyData) : Prop := (∃ i : Int, d = .int i ∧ i.natAbs ≤ 1000000000) ∨ ∃ s : Str, d = .str s ∧ s.length ≤ 100 ∧ plain (.str s) = true ∧ Asc s
def BtD (N : Nat) : Nat → PyData → Prop
  | 0, d => BtD0 d
  | n + 1, d => BtD0 d ∨ ∃ ds, d = .tuple ds ∧ ds.length ≤ N ∧ ∀ e ∈ ds, BtD N n e
theorem BtD.z {N : Nat} {d : PyData} (h : BtD N 0 d) : (∃ i : Int, d = .int i ∧ i.natAbs ≤ 1000000000) ∨ ∃ s : Str, d = .str s ∧ s.length ≤ 100 ∧ plain (.str s) = true ∧ Asc s := h
theorem BtD.s {N n : Nat} {d : PyData} (h : BtD N (n + 1) d) : BtD0 d ∨ ∃ ds, d = .tuple ds ∧ ds.length ≤ N ∧ ∀ e ∈ ds, BtD N n e := h
/-- tuples no longer, so deep -/
def LtD (M : Nat) : Nat → PyData → Prop
  | 0, _ => True
  | n + 1, d => ∀ ds, d = .tuple ds → ds.length ≤ M ∧ ∀ e ∈ ds, LtD M n e
theorem BtD.lt {N M : Nat} (hNM : N ≤ M) : ∀ {n : Nat} {d : PyData} (k : Nat), BtD N n d → LtD M k d
  | _, _, 0, _ => trivial
  | 0, d, k + 1, h => fun ds hd => by
    rcases h.z with ⟨i, h, _⟩ | ⟨s, h, _⟩ <;> rw [h] at hd <;> cases hd
  | n + 1, d, k + 1, h => by
    rcases h.s with h | ⟨ds, h1, h2, h3⟩
    · exact BtD.lt (n := 0) hNM (k + 1) h
    · intro es he
      rw [h1] at he
      injection he with he
      subst he
      exact ⟨Nat.le_trans h2 hNM, fun e he => BtD.lt hNM k (h3 e he)⟩
theorem BtD.pl {N : Nat} : ∀ {n : Nat} {d : PyData}, BtD N n d → plain d = true ∧ d.depth ≤ n
  | 0, d, h => by
    rcases h.z with ⟨i, rfl, _⟩ | ⟨s, rfl, _, hs, _⟩
    · exact ⟨rfl, Nat.zero_le _⟩
    · exact ⟨hs, Nat.zero_le _⟩
  | n + 1, d, h => by
    rcases h.s with h | ⟨ds, rfl, _, h3⟩
    · obtain ⟨h1, h2⟩ := BtD.pl (N := N) (n := 0) h
      exact ⟨h1, by omega⟩
    · exact Plain.tup (n := n) fun e he => BtD.pl (h3 e he)
theorem LtD.nt {M : Nat} {d : PyData} (h : isTup d = false) : ∀ k, LtD M k d
  | 0 => trivial
  | k + 1 => fun ds hd => by rw [hd] at h; cases h
theorem LtD.tup {M : Nat} {ds : List PyData} (hl : ds.length ≤ M) (h : ∀ e ∈ ds, ∀ k, LtD M k e) : ∀ k, LtD M k (.tuple ds)
  | 0 => trivial
  | k + 1 => fun es he => by
    injection he with he
    subst he
    exact ⟨hl, fun e he => h e he k⟩
/-- sub-tuples -/
theorem sub_sl {α : Type} (ds : List α) (a b : Nat) : ((ds.drop a).take b).length ≤ ds.length ∧ ∀ e ∈ (ds.drop a).take b, e ∈ ds := by
  refine ⟨?_, fun e he => List.mem_of_mem_drop (List.mem_of_mem_take he)⟩
  rw [List.length_take, List.length_drop]
  omega
end WT
namespace WT
open PySem PySem.Spec PyProof.Rows L2 Evl SX
section
variable {K : PySem.W.Frag} {σ : L2.St} {H : Hp} {ta tb te tl : TE} {ds es : List PyData} {d : PyData} {Q : VK} {tu tz : TS} {Dn : Ends}
/-- l + m, two lists -/
theorem catL {a b : Addr} {xs ys : List V} (ha : H a = some (.lst xs)) (hb : H b = some (.lst ys)) (hz : xs.length + ys.length ≤ 100000) (k : ∀ r, H r = none → Q (.ref r) (upd H r (.lst (xs ++ ys)))) : rCat (.ref a) (.ref b) H Q :=
  ⟨a, b, xs, ys, rfl, rfl, ha, hb, sz_of hz, k⟩
/-- [e for j in range(n)], e drawn -/
theorem c_lcPot {p : Addr} {c kk n : Nat} {vs : List Nat} {j : Nat} {Pd : PyData → Prop} (hn : n ≤ 1000) (hP : PotAt H p c) (hw : ∀ x, wipe ((wipe σ vs).set j (some x)) vs = wipe σ vs)
    (hs : ∀ (i : Nat) (H1 : Hp), i < n → But p H H1 → PotAt H1 p (c + i * kk) → ∀ Q : VK, (∀ d v H2, But p H1 H2 → PotAt H2 p (c + (i + 1) * kk) → DaAt K H2 d v → Pd d → Q v H2) → te ((wipe σ vs).set j (some (.int (i : Int)))) H1 Q)
    (hd : ∀ (a : Addr) (ds : List PyData) (xs : List V) (H2 : Hp), H a = none → But p H H2 → PotAt H2 p (c + n * kk) → H2 a = some (.lst xs) → DaL K H2 ds xs → ds.length = n → (∀ d ∈ ds, Pd d) → Q (.ref a) H2) : tLc (iRng1 (tCons (tC (.int (n : Int))) tNil)) (gName j) tYes te vs σ H Q := by
  unfold tLc iRng1
  refine ⟨(n : Int), rfl, by omega, by omega, fun D hD => ?_⟩
  rw [show (n : Int).toNat = n from Int.toNat_natCast n]
  have nD := fresh_ne hP hD
  refine lc_range (lo := 0) (n := n) (fun i H' => But p H H' ∧ PotAt H' p (c + i * kk) ∧ ∃ ds xs, H' D = some (.lst xs) ∧ DaL K H' ds xs ∧ ds.length = i ∧ ∀ d ∈ ds, Pd d) ⟨But.of (Ex.new hD), (hP.ex (Ex.new hD)).le (by omega), [], [], upd_same, DaL.nil, rfl, fun d h => absurd h List.not_mem_nil⟩ (fun i H' hi hI => ⟨hw _, ?_⟩) (fun H' hI => ?_)
  · obtain ⟨eB, hPi, ds, xs, hx, fx, hl, hpd⟩ := hI
    unfold tYes
    show ite (true = true) _ _
    rw [if_pos rfl, Int.zero_add]
    refine hs i H' hi eB hPi _ fun d v H2 eB2 hP2 fd pd => ⟨xs, eB2 _ _ nD hx, by rw [fx.len, hl, sizeLine_eq]; omega, ?_⟩
    have eu : ∀ q o, q ≠ D → H2 q = some o → upd H2 D (.lst (xs ++ [v])) q = some o := fun q o hq h => by rw [upd_ne hq]; exact h
    have bD : But D H2 (upd H2 D (.lst (xs ++ [v]))) := fun q o hq h => eu q o hq h
    have hD2 := eB2 _ _ nD hx
    have keep : ∀ {e : PyData} {w : V}, DaAt K H2 e w → DaAt K (upd H2 D (.lst (xs ++ [v]))) e w := fun {e w} h => by
      rcases h with ⟨kvs, h0, a, o, kv, h1, ha⟩ | h
      · refine .inl ⟨kvs, h0, a, o, kv, h1, bD _ _ (fun z => ?_) ha⟩
        rw [z, hD2] at ha
        cases ha
      · exact .inr (Fz.mono (tex_lst hD2) _ _ h)
    refine ⟨fun q o hq h => ?_, hP2.but bD nD.symm, ds ++ [d], xs ++ [v], upd_same, ?_, by rw [List.length_append, hl]; rfl, fun e he => ?_⟩
    · have hqD : q ≠ D := fun z => by rw [z, hD] at h; cases h
      exact eu _ _ hqD (eB2 _ _ hq (eB _ _ hq h))
    · exact DaL.app ((fx.but hPi eB2).mapD fun e w h => keep h) (.cons (keep fd) .nil)
    · rcases List.mem_append.mp he with h | h
      · exact hpd e h
      · rw [List.mem_singleton.mp h]
        exact pd
  · obtain ⟨eB, hPn, ds, xs, hx, fx, hl, hpd⟩ := hI
    exact hd D ds xs H' hD eB hPn hx fx hl hpd
end
theorem LtD.le {M N : Nat} (hMN : M ≤ N) : ∀ {n : Nat} {d : PyData}, LtD M n d → LtD N n d
  | 0, _, _ => trivial
  | n + 1, d, h => fun ds hd => ⟨Nat.le_trans (h ds hd).1 hMN, fun e he => LtD.le hMN ((h ds hd).2 e he)⟩
end WT
namespace WT
open PySem PySem.Spec PyProof.Rows L2 Evl SX
/-- an exception that was caught, with its value -/
def Caught (C : Addr) (y : V) (a : Addr) (H : Hp) : Prop := ∃ dx, H a = some (excO a (.ref C) (some dx)) ∧ H dx = some (.xd [("value", y)])
theorem excO_lst {a : Addr} {c : Value} {d : Option Addr} {xs : List V} : excO a c d ≠ .lst xs := fun z => by
  unfold excO at z
  cases z
theorem Caught.ex {C : Addr} {y : V} {a : Addr} {H H' : Hp} (h : Caught C y a H) (e : Ex H H') : Caught C y a H' := by
  obtain ⟨dx, h1, h2⟩ := h
  exact ⟨dx, e _ _ h1, e _ _ h2⟩
theorem Caught.put {C : Addr} {y : V} {a l : Addr} {H : Hp} {xs : List V} {o : HO} (h : Caught C y a H) (hl : H l = some (.lst xs)) : Caught C y a (upd H l o) := by
  obtain ⟨dx, h1, h2⟩ := h
  refine ⟨dx, ?_, ?_⟩
  · rw [upd_ne fun z => ?_]
    · exact h1
    · rw [z, hl] at h1
      exact excO_lst (Option.some.inj h1).symm
  · rw [upd_ne fun z => ?_]
    · exact h2
    · rw [z, hl] at h2
      cases h2
/-- what raises the class C with the value y -/
def LRaise (tl : XK → Hp → VK → Prop) (C : Addr) (y : V) (H : Hp) : Prop := ∀ H1, Ex H H1 → ∀ (E : XK) (R : VK), (∀ H2 dx, Ex H1 H2 → H2 dx = some (.xd [("value", y)]) → E (.ref C) (some dx) H2) → tl E H1 R
section
variable {K : PySem.W.Frag} {CS : Addr} {q : Str} {cl : List (Str × Addr)} {σ : L2.St} {H : Hp} {Ls : List (LamE × (XK → TE))} {Q : VK}
/-- [_law_heard(x)[0] for x in xs], all raise -/
theorem c_heardAll {l : Addr} {fs : List Addr} {iv j : Nat} (Cs : List (Addr × V)) (hv : σ[iv]? = some (some (.ref l))) (hl : H l = some (.lst (fs.map V.ref))) (hlen : fs.length = Ls.length) (hcs : Cs.length = Ls.length) (few : Ls.length ≤ 100)
    (hlam : ∀ (i : Nat) (x : LamE × (XK → TE)) (f : Addr), Ls[i]? = some x → fs[i]? = some f → IsLam q cl x.1 f H) (hw : ∀ x, wipe ((wipe σ [j]).set j (some x)) [j] = wipe σ [j]) (hj : j < σ.length)
    (hr : ∀ (i : Nat) (x : LamE × (XK → TE)) (c : Addr × V), Ls[i]? = some x → Cs[i]? = some c → PySem.W.exmOne K (.ref c.1) (.ref CS) = some true ∧ LRaise (fun E H1 Q1 => x.2 E (wipe σ [j]) H1 Q1) c.1 c.2 H)
    (k : ∀ (r : Addr) (as : List Addr) (H' : Hp), Ex H H' → H' r = some (.lst (as.map V.ref)) → as.length = Cs.length → (∀ (i : Nat) (a : Addr) (c : Addr × V), as[i]? = some a → Cs[i]? = some c → Caught c.1 c.2 a H') → Q (.ref r) H') (hiv : iv ≠ j) :
    tLc (iList K (tVar iv)) (gName j) tYes (tOp (rIxT K) (tHeardL K CS q cl [j] j Ls) (tC (.int 0))) [j] σ H Q := by
  unfold tLc iList
  refine ⟨.ref l, hv, l, rfl, ⟨_, sq_of hl⟩, fun D hD => lc_list (xs := fs.map V.ref) (fun i H' => Ex H H' ∧ ∃ as : List Addr, H' D = some (.lst (as.map V.ref)) ∧ as.length = i ∧ ∀ (k : Nat) (a : Addr) (c : Addr × V), as[k]? = some a → Cs[k]? = some c → Caught c.1 c.2 a H') ⟨Ex.new hD, [], upd_same, rfl, fun k a c h => (by simp at h)⟩ (fun i H' _ h => sq_of (h.1 _ _ hl)) (fun i x H' hx h => ?_) (fun H' h => ?_)⟩
  · obtain ⟨e, as, hDl, hal, hall⟩ := h
    obtain ⟨f, hf, rfl⟩ := map_get hx
    have hi : i < Ls.length := by rw [← hlen]; exact (List.getElem?_eq_some_iff.mp hf).1
    obtain ⟨x, hx⟩ : ∃ x, Ls[i]? = some x := ⟨_, List.getElem?_eq_getElem hi⟩
    obtain ⟨c, hc⟩ : ∃ c, Cs[i]? = some c := ⟨_, List.getElem?_eq_getElem (by rw [hcs]; exact hi)⟩
    obtain ⟨hex, hra⟩ := hr i x c hx hc
    refine ⟨hw _, ?_⟩
    unfold tYes
    show ite (true = true) _ _
    rw [if_pos rfl]
    have hjs : ((wipe σ [j]).set j (some (V.ref f)))[j]? = some (some (.ref f)) := List.getElem?_set_self (by rw [wipe_length]; exact hj)
    refine ⟨x, List.mem_of_getElem? hx, f, hjs, (hlam i x f hx hf).ex e, fun H1 e1 => ?_⟩
    rw [hw]
    refine hra H1 (e.trans e1) _ _ fun H2 dx e2 hdx => ⟨hex, fun a p ha hpa hp => ?_⟩
    have ea := Ex.new (o := excO a (.ref c.1) (some dx)) ha
    have hp2 : upd H2 a (excO a (.ref c.1) (some dx)) p = none := by rw [upd_ne hpa]; exact hp
    have ep := Ex.new (o := .tup [.ref a, .non]) hp2
    have e12 := e1.trans (e2.trans (ea.trans ep))
    refine ⟨p, _, 0, .ref a, rfl, rfl, st_of upd_same, atI_of (i := 0) rfl, _, e12 _ _ hDl, by rw [List.length_map, hal, sizeLine_eq]; omega, (e.trans e12).mut hD, as ++ [a], by rw [upd_same, List.map_append]; rfl, by rw [List.length_append, hal]; rfl, fun k b d hk hd => ?_⟩
    refine Caught.put ?_ (e12 _ _ hDl)
    rw [List.getElem?_append] at hk
    split at hk
    · exact (hall k b d hk hd).ex e12
    · rename_i hkl
      have hk0 : k = i := by
        have := (List.getElem?_eq_some_iff.mp hk).1
        rw [List.length_singleton] at this
        omega
      subst hk0
      rw [hal, Nat.sub_self] at hk
      cases (Option.some.inj hk)
      rw [hc] at hd
      cases hd
      exact ⟨dx, ep _ _ upd_same, ep _ _ (ea _ _ hdx)⟩
  · obtain ⟨e, as, hDl, hal, hall⟩ := h
    exact k D as H' e hDl (by rw [hal, List.length_map, hlen, hcs]) hall
/-- a lambda is made -/
theorem c_lamV {T : List (Addr × Str)} {e : LamE} (hT : LamX.Tabs T H) (k : ∀ f H1, LamX.ExtN H H1 → LamX.Tabs T H1 → H f = none → IsLam q cl e f H1 → Q (.ref f) H1) : tLamV T q cl e σ H Q := ⟨hT, k⟩
end
/-- a def that keeps lambdas -/
theorem Okg.mkL {P : Program} {w : World} {K : PySem.W.Frag} {mg : Str → Option Value} {base : Heap} {x : Str} {ps N : List Str} {st : Stmt} {k : Nat} {sp : Sp} {tp : Addr} (d : DefIn K mg x ps st) (tf : TabF K base mg x st tp) (S : FnScope N ps (defScope st)) (len : ∀ vs H Q E, sp vs H Q E → vs.length = ps.length)
    (h : ∀ (f c : Addr) (A : Around) (outer : List Env) (s : Shared) (H : Hp) (vs : List V) (Q : VK) (E : XK) (cl : List (Str × Addr)), (cxOf CX0 P w K mg base N x (defScope st) f (.ref c) A outer s H E).nox.env.cells = cl → LamX.TabB base mg c tp → A.guards = some [] → Room k (A.deeper (envOfC x (defScope st) s.heap.objs.size f (.ref c))) → sp vs H Q E →
      ∃ t, PSs (cxOf CX0 P w K mg base N x (defScope st) f (.ref c) A outer s H E).nox (defBody st) t ∧ t { nx := fun _ H' => Q .non H', rt := Q } (start N vs) H) : Okg P w K mg base x ps st (k + 1) sp :=
  Okg.mkT d tf S len fun f c A outer s H vs Q E TB hg hr hsp => h f c A outer s H vs Q E _ rfl TB hg hr hsp
theorem pe_xqK {X : Cx} {K : PySem.W.Frag} {e : Expr} {te : TE} {pos : Pos} {n : Str} (hK : X.K = K) (he : PE X e te) (hb : attributeBase e n X.env (eval e X.env) = eval e X.env := by rfl) : PE X (.Attribute e n pos) (tXq K n te) := by
  subst hK
  exact pe_xq he hb
end WT
namespace L2
open PySem PySem.Spec PyProof.Rows
theorem tuple_mul1 (l : Addr) (items : Array Value) (n : Nat) (dd : Option Addr) (sl : Array (Option Value)) (u : Tok) (c1 : items.isEmpty = false) :
    Meets (Builtin.«tuple.__mul__» ⟨[.ref l, .int 1 u], []⟩) (fun _ R s => s.heap.get? l = some { cls := .type "tuple", dict := dd, data := .seq items n, slots := sl } ∧ R (.ok (.ret (Value.ref l))) s) :=
  .of_wp fun prog w A R s h => by
    obtain ⟨hp, g, d, tk, os⟩ := s
    obtain ⟨hl, h⟩ := h
    have f1 := AutoSeq1.idx_int
    wp_walk using wpAny_loadPart' hl
    exact ⟨_, rfl, h⟩
/-- t * k, k at least one -/
def rRepTW (K : PySem.W.Frag) : R2 := fun x y H Q => ∃ l k xs, x = .ref l ∧ y = .int k ∧ SqT K H l xs ∧ xs ≠ [] ∧ 1 ≤ k ∧ k ≤ 10000 ∧ xs.length ≤ 100 ∧ (k = 1 → Q (.ref l) H) ∧ (2 ≤ k → ∀ p, H p = none → Q (.ref p) (upd H p (.tup (List.replicate k.toNat xs).flatten)))
theorem op_repTW {X : Cx} : OpR X (binaryOp .Mult) (rRepTW X.K) := by
  intro pins s σ H x y v u Q I rx ry h
  obtain ⟨l, k, xs, rfl, rfl, hT, hne, h1, h2, hz, q1, q2⟩ := h
  by_cases hk : k = 1
  · subst hk
    cases rx
    obtain ⟨t, rfl⟩ := ry
    obtain ⟨its, r, ⟨⟨cls, dd, data, sl⟩, ho, hc, n, hd⟩, hs⟩ := I.tuple hT
    simp only at hc hd
    subst hc hd
    have hi : its.toArray.isEmpty = false := by
      cases its with
      | nil => exact absurd (List.eq_nil_of_length_eq_zero r.length) hne
      | cons a b => rfl
    exact wpAny_binaryOp_repeat_ref (T := "tuple") (U := "int") (by decide) ⟨_, ho, rfl⟩ (fun s' => typeIs_int s' 1 t) noFill_tuple_mul F.fills_int_mul F.slot_int_rmul repeat_tuple F.slot_int_index.lookup
      (call_meets F.slot_int_rmul (typeIs_int s 1 t) F.entry_int_rmul (F.args_int_rmul_2 _ _) (int_rmul_tuple 1 t l its.toArray n dd sl)
        ⟨ho, rfl, ⟨_, ho, rfl⟩, call_meets F.slot_tuple_mul ⟨_, ho, rfl⟩ F.entry_tuple_mul (F.args_tuple_mul_2 _ _) (tuple_mul1 l its.toArray n dd sl t hi) ⟨ho, .ref l, _, I, rfl, q1 rfl⟩⟩)
  · cases rx
    obtain ⟨t, rfl⟩ := ry
    obtain ⟨its, r, ⟨⟨cls, dd, data, sl⟩, ho, hc, n, hd⟩, hs⟩ := I.tuple hT
    simp only at hc hd
    subst hc hd
    have hle : its.length = xs.length := r.length.symm
    have hi : its.toArray.isEmpty = false := by
      cases its with
      | nil => exact absurd (List.eq_nil_of_length_eq_zero r.length) hne
      | cons a b => rfl
    have hsz : its.toArray.size = xs.length := by rw [List.size_toArray, hle]
    have hm : ((its.toArray.size : Nat) : Int) * k ≤ 1000000 := by
      rw [hsz]
      have := Int.mul_le_mul_of_nonneg_right (show ((xs.length : Nat) : Int) ≤ 100 by omega) (show (0 : Int) ≤ k by omega)
      omega
    have hkn : k.toNat * xs.length ≤ 10000 * 100 := Nat.mul_le_mul (by omega) hz
    have flen : (List.replicate k.toNat its).flatten.length ≤ sizeLine := by
      rw [PyProof.Rows.lm_len_rep_flat, hle, sizeLine_eq]
      omega
    have c0 : (decide (k < -(2 ^ 63)) || decide (k ≥ 2 ^ 63)) = false := by
      rw [decide_eq_false (by omega), decide_eq_false (by omega)] <;> rfl
    have c1 : (its.toArray.isEmpty || k == 1) = false := by
      rw [hi, Bool.false_or]
      exact beq_eq_false_iff_ne.mpr hk
    have c2 : (decide (k ≤ 0) || its.toArray.isEmpty) = false := by
      rw [hi, Bool.or_false]
      exact decide_eq_false (by omega)
    have c4 : Builtin.Tuple.tupleTooMany (((its.toArray.size : Nat) : Int) * k) = false := by
      unfold Builtin.Tuple.tupleTooMany
      rw [sizeLine_eq]
      exact decide_eq_false (by omega)
    refine wpAny_binaryOp_repeat_ref (T := "tuple") (U := "int") (by decide) ⟨_, ho, rfl⟩ (fun s' => typeIs_int s' k t) noFill_tuple_mul F.fills_int_mul F.slot_int_rmul repeat_tuple F.slot_int_index.lookup
      (call_meets F.slot_int_rmul (typeIs_int s k t) F.entry_int_rmul (F.args_int_rmul_2 _ _) (int_rmul_tuple k t l its.toArray n dd sl)
        ⟨ho, rfl, ⟨_, ho, rfl⟩, call_meets F.slot_tuple_mul ⟨_, ho, rfl⟩ F.entry_tuple_mul (F.args_tuple_mul_2 _ _) (tuple_mulW l its.toArray n dd sl k t c0 c1 c2 (by omega) c4 (by rw [size_rep, List.size_toArray]; exact flen)) ⟨ho, ?_⟩⟩)
    rw [size_rep]
    refine ⟨.ref s.heap.objs.size, _, I.laid (t' := s.toks) (o := .tup (List.replicate k.toNat xs).flatten) (fun b ob q => Heap.get?_push_of_some _ q) (Nat.le_refl _) ?_, rfl, q2 (by omega) _ (I.hok.fresh (Nat.le_refl _))⟩
    exact ⟨by rw [PyProof.Rows.lm_len_rep_flat, sizeLine_eq]; omega, _, r.rep k.toNat, IsTup.new _ _⟩
end L2
namespace WT
open PySem PySem.Spec PyProof.Rows L2 Evl SX
theorem flat_repl {α : Type} {w : α} : ∀ n : Nat, (List.replicate n [w]).flatten = List.replicate n w
  | 0 => rfl
  | n + 1 => by rw [List.replicate_succ, List.flatten_cons, flat_repl n]; rfl
section
variable {K : PySem.W.Frag} {σ : L2.St} {H : Hp} {ta tb te tl : TE} {ds : List PyData} {d : PyData} {Q : VK}
/-- (d,) * n -/
theorem ed_repT {n : Nat} (h : Ed K ta σ H (.tuple [d])) (hb : Ev tb σ H (.int (n : Int))) (h1 : 1 ≤ n) (hn : n ≤ 10000) : Ed K (tOp (rRepTW K) ta tb) σ H (.tuple (List.replicate n d)) := fun H1 e Q q =>
  h H1 e _ fun v H2 e2 f => hb H2 (e.trans e2) _ fun H3 e3 => by
    obtain ⟨a, xs, rfl, hs, hf⟩ := fz_tupS f
    obtain ⟨w, r, rfl, fw, hr⟩ := fzl_consI hf
    cases (fzl_nilI hr)
    have hs3 := hs.mono (tex_of e3)
    refine ⟨a, n, [w], rfl, rfl, hs3.sq, (fun z => nomatch z), by omega, by omega, by show 1 ≤ 100; omega, fun hk => ?_, fun hk p hp => ?_⟩
    · have : n = 1 := by omega
      subst this
      exact q _ H3 (e2.trans e3) (fz_at hs3 (fzl_cons (fz_ex e3 fw) fzl_nil))
    · rw [show (List.replicate (n : Int).toNat [w]).flatten = List.replicate n w by rw [Int.toNat_natCast, flat_repl]]
      have en := Ex.new (o := .tup (List.replicate n w)) hp
      exact q _ _ (e2.trans (e3.trans en)) (fz_tup upd_same (fzl_repl n (fz_ex (e3.trans en) fw)))
/-- all([e for x in xs]) of a list of whatever, each e true -/
theorem ev_allV {a : Addr} {xs : List V} {vs : List Nat} {j : Nat} (h : Ev tl σ H (.ref a)) (hx : SqL K H a xs) (few : xs.length ≤ 50000) (hw : ∀ x, wipe ((wipe σ vs).set j (some x)) vs = wipe σ vs)
    (hs : ∀ (i : Nat) (x : V) (H1 : Hp), xs[i]? = some x → Ex H H1 → Ev te ((wipe σ vs).set j (some x)) H1 (.bl true)) : Ev (tCB (rAll K) (tCons (tLc (iList K tl) (gName j) tYes te vs) tNil)) σ H (.bl true) := by
  have key : El K (tLc (iList K tl) (gName j) tYes te vs) σ H ((List.replicate xs.length true).map PyData.bool) := fun H0 e0 Q q => by
    unfold tLc iList
    refine h H0 e0 _ fun H1 e1 => ⟨a, rfl, ⟨xs, ex_l (e0.trans e1) hx⟩, fun D hD => lc_list (xs := xs) (fun i H' => Ex H1 H' ∧ H' D = some (.lst (List.replicate i (.bl true)))) ⟨Ex.new hD, upd_same⟩ (fun i H' _ p => ex_l ((e0.trans e1).trans p.1) hx) (fun i x H' hi p => ?_) (fun H' p => ?_)⟩
    · obtain ⟨e, hy⟩ := p
      have hil := (List.getElem?_eq_some_iff.mp hi).1
      refine ⟨hw _, ?_⟩
      unfold tYes
      show ite (true = true) _ _
      rw [if_pos rfl]
      refine hs i x H' hi ((e0.trans e1).trans e) H' (Ex.refl _) _ fun H2 e2 => ⟨_, e2 _ _ hy, by rw [List.length_replicate, sizeLine_eq]; omega, (e.trans e2).mut hD, ?_⟩
      rw [upd_same, List.replicate_succ']
    · obtain ⟨e, hy⟩ := p
      refine q D _ H' (fresh_back e1 hD) (e1.trans e) hy ?_
      rw [List.map_replicate]
      exact fzl_repl _ fz_bl
  exact ev_is (ev_all key) (by simp)
/-- isinstance(e, C), e caught -/
theorem ev_caughtIs {C D : Addr} {y : V} {a : Addr} {xv : BadC K C D} (h : Ev ta σ H (.ref a)) (hc : Caught C y a H) : Ev (tCB (rIsQ K) (tCons ta (tCons (tC (.ref C)) tNil))) σ H (.bl true) := fun H1 e Q q => h H1 e _ fun H2 e2 => by
  obtain ⟨dx, h1, h2⟩ := hc.ex (e.trans e2)
  exact ⟨a, C, C, dx, _, true, rfl, xv.ask, h1, h2, xv.kit, q H2 e2⟩
/-- e.value -/
theorem ed_caughtV {C D : Addr} {y : V} {a : Addr} (xv : BadC K C D) (h : Ev ta σ H (.ref a)) (hc : Caught C y a H) (fy : Fz K H d y) : Ed K (tXq K "value" ta) σ H d := fun H1 e Q q => h H1 e _ fun H2 e2 => by
  obtain ⟨dx, h1, h2⟩ := hc.ex (e.trans e2)
  exact ⟨a, C, dx, _, y, rfl, xv.ask, xv.va, h1, h2, rfl, q y H2 e2 (fz_ex (e.trans e2) fy)⟩
theorem ev_caughtV {C D : Addr} {y : V} {a : Addr} (xv : BadC K C D) (h : Ev ta σ H (.ref a)) (hc : Caught C y a H) : Ev (tXq K "value" ta) σ H y := fun H1 e Q q => h H1 e _ fun H2 e2 => by
  obtain ⟨dx, h1, h2⟩ := hc.ex (e.trans e2)
  exact ⟨a, C, dx, _, y, rfl, xv.ask, xv.va, h1, h2, rfl, q H2 e2⟩
end
end WT
namespace WT
open PySem PySem.Spec PyProof.Rows L2 Evl SX
theorem ev_mono {te : TE} {σ : L2.St} {H H' : Hp} {v : V} (h : Ev te σ H v) (e : Ex H H') : Ev te σ H' v := fun H1 e1 Q q => h H1 (e.trans e1) Q q
section
variable {K : PySem.W.Frag} {σ : L2.St} {H : Hp} {sp : Sp} {E : XK} {Q : VK} {r : V} {w : PyData} {W : WX} {ta tb tc td : TE}
theorem cV {xa : V} (ha : Ev ta σ H xa) (k : ∀ (H1 : Hp), Ex H H1 → sp [xa] H1 Q E) : tCall sp [] E (tCons ta tNil) σ H Q := c_call (c_cons (ha H (Ex.refl _) _ fun H1 e0 => c_nil (k  H1 e0 )))
theorem cXV {xa : V} (ha : Ev ta σ H xa) (k : ∀ (H1 : Hp), Ex H H1 → sp [xa] H1 Q fun cls d H2 => W cls d σ H2) : tCallS sp (WE W) (tCons ta tNil) σ H Q := c_callX (c_cons (ha H (Ex.refl _) _ fun H1 e0 => c_nil (k  H1 e0 )))
theorem evV {xa : V} (ha : Ev ta σ H xa) (k : ∀ (H1 : Hp), Ex H H1 → ∀ Q : VK, (∀ H2, Ex H1 H2 → Q r H2) → sp [xa] H1 Q E) : Ev (tCall sp [] E (tCons ta tNil)) σ H r := fun H0 e Q q => cV (ev_mono ha e) fun  H1 e1  => k  H1 (e.trans e1)  Q fun H2 e2 => q H2 (e1.trans e2)
theorem cVV {xa : V} (ha : Ev ta σ H xa) {xb : V} (hb : Ev tb σ H xb) (k : ∀ (H1 : Hp), Ex H H1 → sp [xa, xb] H1 Q E) : tCall sp [] E (tCons ta (tCons tb tNil)) σ H Q := c_call (c_cons (ha H (Ex.refl _) _ fun H1 e0 => c_cons (hb H1 (e0) _ fun H2 e1 => c_nil (k  H2 (e0.trans e1) ))))
theorem cXVV {xa : V} (ha : Ev ta σ H xa) {xb : V} (hb : Ev tb σ H xb) (k : ∀ (H1 : Hp), Ex H H1 → sp [xa, xb] H1 Q fun cls d H2 => W cls d σ H2) : tCallS sp (WE W) (tCons ta (tCons tb tNil)) σ H Q := c_callX (c_cons (ha H (Ex.refl _) _ fun H1 e0 => c_cons (hb H1 (e0) _ fun H2 e1 => c_nil (k  H2 (e0.trans e1) ))))
theorem evVV {xa : V} (ha : Ev ta σ H xa) {xb : V} (hb : Ev tb σ H xb) (k : ∀ (H1 : Hp), Ex H H1 → ∀ Q : VK, (∀ H2, Ex H1 H2 → Q r H2) → sp [xa, xb] H1 Q E) : Ev (tCall sp [] E (tCons ta (tCons tb tNil))) σ H r := fun H0 e Q q => cVV (ev_mono ha e) (ev_mono hb e) fun  H1 e1  => k  H1 (e.trans e1)  Q fun H2 e2 => q H2 (e1.trans e2)
theorem cXVD {xa : V} (ha : Ev ta σ H xa) {db : PyData} (hb : Ed K tb σ H db) (k : ∀ (vb : V) (H1 : Hp), Ex H H1 → Fz K H1 db vb → sp [xa, vb] H1 Q fun cls d H2 => W cls d σ H2) : tCallS sp (WE W) (tCons ta (tCons tb tNil)) σ H Q := c_callX (c_cons (ha H (Ex.refl _) _ fun H1 e0 => c_cons (hb H1 (e0) _ fun vb H2 e1 fb => c_nil (k vb H2 (e0.trans e1) fb))))
end
end WT
namespace WT
theorem uniq_list {β : Type} [DecidableEq β] : ∀ l : List β, ∃ Y : List β, Y.Nodup ∧ ∀ y, y ∈ Y ↔ y ∈ l
  | [] => ⟨[], List.nodup_nil, fun y => Iff.rfl⟩
  | b :: l => by
    obtain ⟨Y, h1, h2⟩ := uniq_list l
    by_cases hb : b ∈ Y
    · exact ⟨Y, h1, fun y => by
        rw [h2, List.mem_cons]
        exact ⟨.inr, fun z => z.elim (fun e => e ▸ (h2 b).mp hb) id⟩⟩
    · exact ⟨b :: Y, List.nodup_cons.mpr ⟨hb, h1⟩, fun y => by rw [List.mem_cons, List.mem_cons, h2]⟩
end WT
namespace WT
open PySem PySem.Spec
/-- whether any data is a position of so many places -/
def IsPosD (m : Nat) (d : PyData) : Prop := ∃ g, d = tN g ∧ IsP m g
theorem perm_sub {α : Type} [DecidableEq α] : ∀ {l p : List α}, l.Nodup → (∀ x ∈ l, x ∈ p) → p.length = l.length → p.Perm l
  | [], p, _, _, h => by rw [List.length_eq_zero_iff.mp h]
  | a :: l, p, nd, hs, h => by
    obtain ⟨n1, n2⟩ := List.nodup_cons.mp nd
    have ha := hs a List.mem_cons_self
    have h1 := List.perm_cons_erase ha
    have h2 : (p.erase a).Perm l := perm_sub n2 (fun x hx => (List.mem_erase_of_ne (show x ≠ a from fun z => n1 (z ▸ hx))).mpr (hs x (List.mem_cons_of_mem _ hx))) (by rw [List.length_erase_of_mem ha, h]; rfl)
    exact h1.trans (h2.cons a)
end WT
namespace WT
open PySem PySem.Spec PyProof.Rows L2 Evl SX
section
variable {K : PySem.W.Frag} {σ : L2.St} {H : Hp} {ta te tl : TE} {ds : List PyData} {tu tz : TS} {Dn : Ends} {Pd : PyData → Prop}
/-- xs.append(e), whatever becomes of the heap -/
theorem q_appM {l : Addr} {xs : List V} {J : V → Hp → Prop} (hl : H l = some (.lst xs)) (ha : Ev ta σ H (.ref l)) (h : ∀ H1, Ex H H1 → ∀ Q : VK, (∀ v H2, H2 l = some (.lst xs) → J v H2 → Q v H2) → te σ H1 Q) (hz : xs.length < 100000)
    (k : ∀ v H1, H1 l = some (.lst xs) → J v H1 → tz Dn σ (upd H1 l (.lst (xs ++ [v])))) : tSeq (tDrop (tBM K "list" rAppend ta (tCons te tNil))) tz Dn σ H := ha H (Ex.refl H) _ fun H1 e1 =>
  ⟨Or.inl ⟨rfl, xs, sq_of (e1 l _ hl)⟩, h H1 e1 _ fun v H2 h2 j => ⟨l, xs, v, rfl, rfl, h2, sz_lt hz, k v H2 h2 j⟩⟩
end
theorem BtD.mono {N M : Nat} (hNM : N ≤ M) : ∀ {n k : Nat} {d : PyData}, n ≤ k → BtD N n d → BtD M k d
  | 0, 0, _, _, h => h
  | 0, _ + 1, _, _, h => .inl h
  | n + 1, 0, _, hk, _ => absurd hk (Nat.not_succ_le_zero _)
  | n + 1, k + 1, d, hk, h => by
    rcases h.s with h | ⟨ds, h1, h2, h3⟩
    · exact .inl h
    · exact .inr ⟨ds, h1, Nat.le_trans h2 hNM, fun e he => BtD.mono hNM (Nat.le_of_succ_le_succ hk) (h3 e he)⟩
end WT
namespace WT
open PySem PySem.Spec PyProof.Rows L2 Evl SX
theorem reads_scal {h : Heap} {v : V} {u : Value} (hs : scalV v = true) (r : RelV v u) : Reads h u (valD v) [] := by
  cases v with
  | non => rw [show u = Value.none from r]; exact .none
  | bl b => rw [show u = Value.bool b from r]; exact .bool b
  | int i => obtain ⟨t, rfl⟩ := (show ∃ t, u = Value.int i t from r); exact .int i t
  | str s => obtain ⟨t, rfl⟩ := (show ∃ t, u = Value.str s t from r); exact .str s t
  | _ => cases hs
theorem readsK1 {h : Heap} {k : Key} {u : Value} (r : keyIs k u = true) : Reads h u (keyD k) [] := by
  rcases keyIs_shape r with ⟨i, t, rfl, rfl⟩ | ⟨x, t, rfl, rfl⟩
  · exact .int i t
  · exact .str x t
theorem reads_kvs {P : Program} {w : World} {h : Heap} : ∀ {kvs : List (Key × V)} {vs : List (Key × Value)} {es : List DictEntry}, KV kvs vs → Pairs (mixKind P w) es vs → kvs.all (fun kv => scalV kv.2) = true →
    ReadsAll h (es.map (·.key)) ((kvs.map (fun kv => (keyD kv.1, valD kv.2))).map (·.1)) [] ∧ ReadsAll h (es.map (·.val)) ((kvs.map (fun kv => (keyD kv.1, valD kv.2))).map (·.2)) []
  | [], _, _, .nil, .nil, _ => ⟨.nil, .nil⟩
  | (k, v) :: kvs, _, _, .cons hk hr, .cons h1 h2 h3, ha => by
    rw [List.all_cons, Bool.and_eq_true] at ha
    obtain ⟨g1, g2⟩ := reads_kvs (h := h) hr h3 ha.2
    have e1 : k = _ := hk.1
    have h1 : keyIs _ _ = true := h1
    rw [← e1] at h1
    have h4 := hk.2
    rw [← h2] at h4
    exact ⟨.cons (as := []) (readsK1 h1) g1, .cons (as := []) (reads_scal ha.1 h4) g2⟩
section
variable {X : Cx}
/-- repr(data of any kind) -/
def rReprA (K : PySem.W.Frag) : List V → Hp → VK → Prop := fun vs H Q => ∃ (x : V) (d : PyData), vs = [x] ∧ DaAt K H d x ∧ ShowOk d ∧ Q (.str d.shown) H
theorem call_reprA (hg : X.A.guards = some []) (hu : X.A.units + 64 < cLine) : CallR X (.builtin "repr") (rReprA X.K) := by
  intro pins s σ H vs us Q I r h
  obtain ⟨x, d, rfl, hf, hs, q⟩ := h
  rcases hf with ⟨kvs, rfl, a, o, kv, ⟨rfl, rfl, hsc⟩, ha⟩ | hf
  · obtain ⟨u, rfl, ru⟩ := vals1 r
    cases (show u = Value.ref a from ru)
    obtain ⟨hne, hd, hx, es, ep, vs, hdt, _, hkv, o', es', ho', _, hdt', _, hps, _⟩ := I.frzK ha
    have : es' = es := by
      rw [hd] at ho'
      cases ho'
      rw [hdt] at hdt'
      cases hdt'
      rfl
    subst this
    obtain ⟨g1, g2⟩ := reads_kvs (h := s.heap) hkv hps hsc
    have hr : Reads s.heap (.ref a) (.dict (kv.map fun z => (keyD z.1, valD z.2))) (a :: [] ++ []) := .dict hd hx.1 hdt g1 g2
    refine repr_of_reads' hr hs.hs (fun _ hm => ?_) hg (by have := hs.hd; omega) (fun _ _ e => e) (fun h' t tk hk => ⟨.str _, H, I.kept (t' := tk) hk, ⟨_, rfl⟩, q⟩) hs.hl
    rw [List.append_nil, List.mem_singleton] at hm
    rw [← hm] at hne
    simp at hne
  · exact call_reprD hg hu pins s σ H _ us Q I r ⟨x, d, rfl, hf, hs.hs, hs.hd, hs.hl, q⟩
end
section
variable {K : PySem.W.Frag} {σ : L2.St} {H : Hp} {ta tb te : TE} {d : PyData} {v : V}
theorem eda_at (h : Ev ta σ H v) (f : DaAt K H d v) : EdA K ta σ H d := fun H1 e Q q => h H1 e _ fun H2 e2 => q v H2 e2 (f.ex (e.trans e2))
theorem ev_reprA (h : EdA K ta σ H d) (hs : ShowOk d) : Ev (tCB (rReprA K) (tCons ta tNil)) σ H (.str d.shown) := fun H1 e Q q => h H1 e _ fun v H2 e2 f => ⟨v, d, rfl, f, hs, q H2 e2⟩
theorem ev_reprAEq (h : EdA K ta σ H d) (k : EdA K tb σ H d) (hs : ShowOk d) : Ev (tOp rEq (tCB (rReprA K) (tCons ta tNil)) (tCB (rReprA K) (tCons tb tNil))) σ H (.bl true) := by
  have := ev_op (ev_reprA h hs) (ev_reprA k hs) (rv_eq rfl)
  rw [decide_eq_true rfl] at this
  exact this
end
end WT
namespace WT
open PySem PySem.Spec PyProof.Rows L2 Evl SX
theorem cut_mem {s : Str} {lo hi : Option Int} : ∀ c ∈ (cutS s lo hi).cps.toList, c ∈ s.cps.toList := fun c hc => by
  unfold cutS at hc
  have hc : c ∈ ((s.cps.toList.drop (HT.sIx s.length 0 lo)).take (HT.sIx s.length s.length hi - HT.sIx s.length 0 lo)) := by simpa using hc
  exact List.mem_of_mem_drop (List.mem_of_mem_take hc)
theorem cut_len (s : Str) (lo hi : Option Int) : (cutS s lo hi).length ≤ s.length := by
  unfold cutS
  show (((s.cps.toList.drop (HT.sIx s.length 0 lo)).take (HT.sIx s.length s.length hi - HT.sIx s.length 0 lo)).toArray).size ≤ s.cps.size
  rw [List.size_toArray, List.length_take, List.length_drop, Array.length_toList]
  omega
theorem cut_asc {s : Str} {lo hi : Option Int} (h : Asc s) : Asc (cutS s lo hi) := fun c hc => h c (cut_mem c hc)
theorem ofS_lt (s : String) : ∀ c ∈ (Str.ofString s).cps.toList, c < 16 ^ 8 := fun c hc => by
  rw [Str.ofString_eq_toList] at hc
  have hc : c ∈ s.toList.map Char.toNat := by simpa using hc
  obtain ⟨x, _, rfl⟩ := List.mem_map.mp hc
  exact Nat.lt_of_lt_of_le x.val.toNat_lt (by decide)
theorem shw_S {s : Str} {a : Nat} (h : s.length ≤ a) (hc : Asc s) : Shw 0 (10 * a + 2) (.str s) := shw_str h hc.lt
/-- what data so deep may be long: for bent data -/
def blN (N : Nat) : Nat → Nat
  | 0 => 3012
  | n + 1 => (N + 1) * (blN N n + 2) + 3012
theorem blN_0 (N : Nat) : ∀ n, 3012 ≤ blN N n
  | 0 => Nat.le_refl _
  | n + 1 => by
    show 3012 ≤ (N + 1) * (blN N n + 2) + 3012
    omega
theorem blN_le (N : Nat) : ∀ n, blN N n ≤ blN N (n + 1) := fun n => by
  show blN N n ≤ (N + 1) * (blN N n + 2) + 3012
  have : 1 * (blN N n + 2) ≤ (N + 1) * (blN N n + 2) := Nat.mul_le_mul_right _ (by omega)
  omega
theorem BtD0.shw {d : PyData} (h : BtD0 d) : Shw 0 1002 d := by
  rcases h with ⟨i, rfl, hi⟩ | ⟨s, rfl, h1, _, h2⟩
  · exact (shw_int (by omega)).mono (Nat.le_refl _) (by decide)
  · exact shw_S h1 h2
theorem shw_tupN {N n : Nat} {ds : List PyData} (h : ∀ d ∈ ds, Shw n (blN N n) d) (hl : ds.length ≤ N + 1) : Shw (n + 1) (blN N (n + 1)) (.tuple ds) := (shw_tup h hl).mono (Nat.le_refl _) (by show (N + 1) * (blN N n + 2) + 3 ≤ (N + 1) * (blN N n + 2) + 3012; omega)
theorem shw_listN {N n : Nat} {ds : List PyData} (h : ∀ d ∈ ds, Shw n (blN N n) d) (hl : ds.length ≤ N + 1) : Shw (n + 1) (blN N (n + 1)) (.list ds) := (shw_list h hl).mono (Nat.le_refl _) (by show (N + 1) * (blN N n + 2) + 3 ≤ (N + 1) * (blN N n + 2) + 3012; omega)
theorem BtD.shw {N : Nat} : ∀ {n : Nat} {d : PyData}, BtD N n d → Shw n (blN N n) d
  | 0, d, h => (BtD0.shw h).mono (Nat.le_refl _) (by show 1002 ≤ 3012; omega)
  | n + 1, d, h => by
    rcases h.s with h | ⟨ds, rfl, h2, h3⟩
    · exact h.shw.mono (Nat.zero_le _) (by have := blN_0 N (n + 1); omega)
    · exact shw_tupN (fun e he => BtD.shw (h3 e he)) (by omega)
theorem Shw.z {n N : Nat} {L : Nat} {d : PyData} (h : Shw 0 L d) (hL : L ≤ 3012) (k : Nat) : Shw k (blN N k) d := h.mono (Nat.zero_le _) (Nat.le_trans hL (blN_0 N k))
theorem Shw.s {n N : Nat} {d : PyData} (h : Shw n (blN N n) d) : Shw (n + 1) (blN N (n + 1)) d := h.mono (Nat.le_succ _) (blN_le N n)
/-- what an int, bent, is -/
theorem shw_bentI {i : Int} (hi : i.natAbs ≤ 1000000000) {d : PyData} (hd : d ∈ [.int (i + 1), .int (i - 1), .int (-i - 1), .str (toString i), .bool (decide (V.int i = V.int 1)), .none, .tuple [.int i], .int 1000000000]) (N n : Nat) : Shw (n + 1) (blN N (n + 1)) d := by
  simp only [List.mem_cons, List.not_mem_nil, or_false] at hd
  rcases hd with rfl | rfl | rfl | rfl | rfl | rfl | rfl | rfl
  · exact (shw_int (by omega)).mono (Nat.zero_le _) (Nat.le_trans (by decide) (blN_0 N _))
  · exact (shw_int (by omega)).mono (Nat.zero_le _) (Nat.le_trans (by decide) (blN_0 N _))
  · exact (shw_int (by omega)).mono (Nat.zero_le _) (Nat.le_trans (by decide) (blN_0 N _))
  · refine (shw_str (a := 13) ?_ (ofS_lt _)).mono (Nat.zero_le _) (Nat.le_trans (by decide) (blN_0 N _))
    have := PyData.shown_int_le (i := i) (by omega)
    rwa [PyData.shown_int] at this
  · exact (shw_bool _).mono (Nat.zero_le _) (Nat.le_trans (by decide) (blN_0 N _))
  · exact shw_none.mono (Nat.zero_le _) (Nat.le_trans (by decide) (blN_0 N _))
  · refine (shw_tup (n := 0) (L := 13) (M := 1) (fun e he => ?_) (Nat.le_refl _)).mono (by omega) (Nat.le_trans (by decide) (blN_0 N _))
    rw [List.mem_singleton.mp he]
    exact shw_int (by omega)
  · exact (shw_int (by decide)).mono (Nat.zero_le _) (Nat.le_trans (by decide) (blN_0 N _))
theorem shw_bentS {s : Str} (h1 : s.length ≤ 100) (h2 : Asc s) {d : PyData} (hd : d ∈ [.str (s ++ "a"), .str (cutS s (some 1) none), .str (Txt.upper s), .str "", .none, .int 0]) (N n : Nat) : Shw n (blN N n) d := by
  simp only [List.mem_cons, List.not_mem_nil, or_false] at hd
  rcases hd with rfl | rfl | rfl | rfl | rfl | rfl
  · refine (shw_S (a := 101) ?_ (app_asc h2 (by unfold Asc; decide +kernel))).mono (Nat.zero_le _) (Nat.le_trans (by decide) (blN_0 N _))
    show (s.cps ++ _).size ≤ 101
    rw [Array.size_append]
    have h1 : s.cps.size ≤ 100 := h1
    have h3 : (Str.ofString "a").cps.size = 1 := by decide +kernel
    omega
  · exact (shw_S (a := 100) (Nat.le_trans (cut_len _ _ _) h1) (cut_asc h2)).mono (Nat.zero_le _) (Nat.le_trans (by decide) (blN_0 N _))
  · exact (shw_S (a := 300) (Nat.le_trans (len_upper s) (by omega)) (upper_asc h2)).mono (Nat.zero_le _) (Nat.le_trans (by decide) (blN_0 N _))
  · exact (shw_look (n := 0) (L := 2) (by decide +kernel)).mono (Nat.zero_le _) (Nat.le_trans (by decide) (blN_0 N _))
  · exact shw_none.mono (Nat.zero_le _) (Nat.le_trans (by decide) (blN_0 N _))
  · exact (shw_int (by decide)).mono (Nat.zero_le _) (Nat.le_trans (by decide) (blN_0 N _))
theorem shw_bentT {N n : Nat} {ds s1 s2 s3 : List PyData} (h : ∀ e ∈ ds, Shw n (blN N n) e) (hl : ds.length ≤ N) (z1 : s1.length ≤ N ∧ ∀ e ∈ s1, e ∈ ds) (z2 : s2.length ≤ N ∧ ∀ e ∈ s2, e ∈ ds) (z3 : s3.length ≤ 1 ∧ ∀ e ∈ s3, e ∈ ds)
    {d : PyData} (hd : d ∈ [.list ds, .tuple s1, .tuple s2, .tuple (ds ++ s3), .tuple ds.reverse, .tuple [], .none]) : Shw (n + 2) (blN N (n + 2)) d := by
  simp only [List.mem_cons, List.not_mem_nil, or_false] at hd
  refine Shw.s (n := n + 1) ?_
  rcases hd with rfl | rfl | rfl | rfl | rfl | rfl | rfl
  · exact shw_listN h (by omega)
  · exact shw_tupN (fun e he => h e (z1.2 e he)) (by have := z1.1; omega)
  · exact shw_tupN (fun e he => h e (z2.2 e he)) (by have := z2.1; omega)
  · refine shw_tupN (fun e he => ?_) (by rw [List.length_append]; have := z3.1; omega)
    rcases List.mem_append.mp he with he | he
    · exact h e he
    · exact h e (z3.2 e he)
  · exact shw_tupN (fun e he => h e (List.mem_reverse.mp he)) (by rw [List.length_reverse]; omega)
  · exact shw_tupN (fun e he => absurd he List.not_mem_nil) (Nat.zero_le _)
  · exact shw_none.mono (Nat.zero_le _) (Nat.le_trans (by decide) (blN_0 N _))
end WT
namespace WT
open PySem PySem.Spec PyProof.Rows L2 Evl SX
section
variable {K : PySem.W.Frag} {σ : L2.St} {H H' : Hp} {ta tb te tl : TE} {d : PyData} {ds : List PyData} {v : V} {Q : VK} {T : List (Addr × Str)}
theorem DaAt.extN (h : DaAt K H d v) (e : LamX.ExtN H H') : DaAt K H' d v := by
  rcases h with ⟨kvs, h0, a, o, kv, h1, ha⟩ | h
  · exact .inl ⟨kvs, h0, a, o, kv, h1, e _ _ ha (fun ps z => by cases z)⟩
  · exact .inr (Fz.mono (extN_tex e) _ _ h)
theorem DaL.extN {xs : List V} (h : DaL K H ds xs) (e : LamX.ExtN H H') : DaL K H' ds xs := h.mapD fun _ _ h => h.extN e
theorem Caught.extN {C : Addr} {y : V} {a : Addr} (h : Caught C y a H) (e : LamX.ExtN H H') : Caught C y a H' := by
  obtain ⟨dx, h1, h2⟩ := h
  exact ⟨dx, e _ _ h1 (fun ps z => by unfold excO at z; cases z), e _ _ h2 (fun ps z => by cases z)⟩
/-- _law_heard(lambda: ..)[0], it raises -/
theorem c_heardR {CS C : Addr} {y : V} {t : XK → TE} (hT : LamX.Tabs T H) (hex : PySem.W.exmOne K (.ref C) (.ref CS) = some true) (hr : ∀ H1, LamX.ExtN H H1 → LamX.Tabs T H1 → LRaise (fun E H2 Q2 => t E σ H2 Q2) C y H1)
    (k : ∀ a H', LamX.ExtN H H' → LamX.Tabs T H' → Caught C y a H' → Q (.ref a) H') : tOp (rIxT K) (LamX.tLam T (THeard K CS) t) (tC (.int 0)) σ H Q :=
  ⟨hT, fun H1 eN hT1 => fun H2 e2 => hr H1 eN hT1 H2 e2 _ _ fun H3 dx e3 hdx => ⟨hex, fun a p ha hpa hp => by
    have ea := Ex.new (o := excO a (.ref C) (some dx)) ha
    have hp2 : upd H3 a (excO a (.ref C) (some dx)) p = none := by rw [upd_ne hpa]; exact hp
    have ep := Ex.new (o := .tup [.ref a, .non]) hp2
    have e12 := e2.trans (e3.trans (ea.trans ep))
    exact ⟨p, _, 0, .ref a, rfl, rfl, st_of upd_same, atI_of (i := 0) rfl, k a _ (eN.trans (LamX.ExtN.of e12)) (hT1.ext e12) ⟨dx, ep _ _ upd_same, ep _ _ (ea _ _ hdx)⟩⟩⟩⟩
/-- all([e for x in xs]), each true, lambdas made on the way -/
theorem c_allN {a : Addr} {xs : List V} {vs : List Nat} {j : Nat} (h : Ev tl σ H (.ref a)) (hx : H a = some (.lst xs)) (f : DaL K H ds xs) (hT : LamX.Tabs T H) (few : ds.length ≤ 50000) (hw : ∀ x, wipe ((wipe σ vs).set j (some x)) vs = wipe σ vs)
    (hs : ∀ (i : Nat) (x : V) (d : PyData) (H1 : Hp), ds[i]? = some d → LamX.ExtN H H1 → LamX.Tabs T H1 → DaAt K H1 d x → ∀ Q : VK, (∀ H2, LamX.ExtN H1 H2 → LamX.Tabs T H2 → Q (.bl true) H2) → te ((wipe σ vs).set j (some x)) H1 Q)
    (k : ∀ H', LamX.ExtN H H' → LamX.Tabs T H' → Q (.bl true) H') : tCB (rAll K) (tCons (tLc (iList K tl) (gName j) tYes te vs) tNil) σ H Q := by
  unfold tLc iList
  refine c_cb (c_cons (h H (Ex.refl H) _ fun H1 e1 => ⟨a, rfl, ⟨xs, sq_of (e1 _ _ hx)⟩, fun D hD => lc_list (xs := xs) (fun i H' => LamX.ExtN H1 H' ∧ LamX.Tabs T H' ∧ H' D = some (.lst (List.replicate i (.bl true)))) ⟨LamX.ExtN.of (Ex.new hD), hT.ext (e1.trans (Ex.new hD)), upd_same⟩ (fun i H' _ p => sq_of (p.1 _ _ (e1 _ _ hx) lst_tbl)) (fun i x H' hi p => ?_) (fun H' p => ?_)⟩))
  · obtain ⟨e, hT', hy⟩ := p
    obtain ⟨d, hd, fd⟩ := f.getV hi
    have hil := (List.getElem?_eq_some_iff.mp hd).1
    have e0 := (LamX.ExtN.of e1).trans e
    refine ⟨hw _, ?_⟩
    unfold tYes
    show ite (true = true) _ _
    rw [if_pos rfl]
    refine hs i x d H' hd e0 hT' (fd.extN e0) _ fun H2 e2 hT2 => ?_
    have hD2 := e2 _ _ hy lst_tbl
    refine ⟨_, hD2, by rw [List.length_replicate, sizeLine_eq]; omega, fun b o hb hnt => ?_, tabs_butL hT2 hD2 But.put, ?_⟩
    · have nb : b ≠ D := fun z => by
        rw [z, hD] at hb
        cases hb
      rw [upd_ne nb]
      exact e2 _ _ (e b o hb hnt) hnt
    · rw [upd_same, List.replicate_succ']
  · obtain ⟨e, hT', hy⟩ := p
    refine c_nil ⟨D, List.replicate xs.length true, rfl, sq_of (by rw [hy, List.map_replicate]), ?_⟩
    have : (List.replicate xs.length true).all id = true := by simp
    rw [this]
    exact k H' ((LamX.ExtN.of e1).trans e) hT'
/-- f(a, k = b) -/
theorem cKVV {sp : Sp} {E : XK} {xa xb : V} (ha : Ev ta σ H xa) (hb : Ev tb σ H xb) (k : ∀ (H1 : Hp), Ex H H1 → sp [xa, xb] H1 Q E) : tCallK sp gK1 E (tCons ta tNil) (tCons tb tNil) σ H Q :=
  c_callKw (c_cons (ha H (Ex.refl _) _ fun H1 e1 => c_nil (c_cons (hb H1 e1 _ fun H2 e2 => c_nil (k H2 (e1.trans e2))))))
theorem edKVV {sp : Sp} {E : XK} {xa xb : V} {w : PyData} (ha : Ev ta σ H xa) (hb : Ev tb σ H xb) (k : ∀ (H1 : Hp), Ex H H1 → ∀ Q : VK, (∀ u H2, Ex H1 H2 → Fz K H2 w u → Q u H2) → sp [xa, xb] H1 Q E) : Ed K (tCallK sp gK1 E (tCons ta tNil) (tCons tb tNil)) σ H w := fun H0 e Q q => cKVV (ev_mono ha e) (ev_mono hb e) fun H1 e1 => k H1 (e.trans e1) Q fun u H2 e2 f => q u H2 (e1.trans e2) f
end
end WT
namespace WT
open PySem PySem.Spec PyProof.Rows L2 Evl SX
def top (i : Nat) : Stmt := PySem.Challenge.pw_whicheverturning_k12_pictures_looked_at.main.body.getD i (.Pass ⟨0, 0, 0, 0⟩)
/-- the built-in names that the text has not taken -/
structure Bt (mg : Str → Option Value) : Prop where
  len : mg "len" = none
  range : mg "range" = none
  tuple : mg "tuple" = none
  list : mg "list" = none
  int : mg "int" = none
  abs : mg "abs" = none
  sum : mg "sum" = none
  max : mg "max" = none
  min : mg "min" = none
  all : mg "all" = none
  enumerate : mg "enumerate" = none
  zip : mg "zip" = none
  isinstance : mg "isinstance" = none
  repr : mg "repr" = none
  bool : mg "bool" = none
  set : mg "set" = none
  sorted : mg "sorted" = none
  str : mg "str" = none
/-- the module's own names for numbers and texts -/
structure Cs (mg : Str → Option Value) : Prop where
  most_wide : ∃ t, mg "MOST_WIDE" = some (.int 32 t)
  most_spots : ∃ t, mg "MOST_SPOTS" = some (.int 8 t)
  most_mark : ∃ t, mg "MOST_MARK" = some (.int 9 t)
abbrev s_law_pot : Stmt := top 36
abbrev N_law_pot : List Str := ["script", "place", "cell", "own", "small"]
theorem sc_law_pot : FnScope N_law_pot ["script", "place"] (defScope s_law_pot) := ⟨rfl, rfl, rfl, by decide +kernel, rfl, by decide +kernel, by decide +kernel⟩
section
variable {P : Program} {w : World} {K : PySem.W.Frag} {mg : Str → Option Value} {base : Heap}
theorem ok_pot (B : Bt mg) (d : DefIn K mg "_law_pot" ["script", "place"] s_law_pot) : Okd P w K mg base "_law_pot" ["script", "place"] s_law_pot 1 (spPot K) := by
  refine Okd.mk d sc_law_pot (fun vs H Q E h => ?_) (fun f cdv A outer s H vs Q E hr h => ?_)
  · obtain ⟨a, ns, i, rfl, _⟩ := h
    rfl
  · obtain ⟨a, ns, i, rfl, hS, hl, hi, k⟩ := h
    refine ⟨_, (pss_cons (ps_set (i := 2) sc_law_pot.nd rfl (Or.inl rfl) (pe_ifExp (pt_cmpR op_lt (pv 1) (pe_callB call_len_seq (by rfl) B.len boot_len (pa_cons (pv 0) pa_nil)) (nomark _)) (pe_ix ix_list (pv 0) (pv 1) (fun _ _ => rfl)) (pe_op op_add (pe_op op_add (pe_op op_mod (pe_callTy call_int1 (by rfl) B.int boot_int (pa_cons (pe_callB (cr_sum rfl) (by rfl) B.sum boot_sum (pa_cons (pe_slice sl_list (pv 0) po_none (po_some pe_int)) pa_nil)) pa_nil)) pe_int) (pe_op op_mul pe_int (pv 1))) pe_int)))
      (pss_cons (ps_set (i := 3) sc_law_pot.nd rfl (Or.inl rfl) (pe_op op_mul (pe_op op_mod (pe_callTy call_int1 (by rfl) B.int boot_int (pa_cons (pe_callB call_abs (by rfl) B.abs boot_abs (pa_cons (pv 2) pa_nil)) pa_nil)) (pe_op op_powW (pe_op op_powW pe_int pe_int) pe_int)) (pe_callTy call_int1 (by rfl) B.int boot_int (pa_cons (pe_cmpR op_ge (pe_callB call_abs (by rfl) B.abs boot_abs (pa_cons (pv 2) pa_nil)) (pe_op op_powW pe_int pe_int) (nomark _)) pa_nil))))
      (pss_cons (ps_set (i := 4) sc_law_pot.nd rfl (Or.inl rfl) (pe_op op_mod (pe_callTy call_int1 (by rfl) B.int boot_int (pa_cons (pv 2) pa_nil)) pe_int))
      (pss_one (ps_ret (pe_lst (pa_cons (pv 3) (pa_cons (pe_op op_mod (pe_callTy call_int1 (by rfl) B.int boot_int (pa_cons (pe_op op_add (pe_op op_add (pe_op op_mul (pv 4) pe_int) (pe_op op_mul (pe_op op_mul pe_int (pv 1)) (pv 1))) pe_int) pa_nil)) pe_int) (pa_cons pe_int pa_nil))))))))), ?_⟩
    refine q_asgX (P := fun v => ∃ c : Int, v = .int c) ?_ ?_
    · by_cases hp : i < ns.length
      · refine ⟨.int ns[i], ⟨_, rfl⟩, ev_if (b := true) (et_is (et_B (ev_op (ev_var rfl) (ev_len (ev_var rfl) hS) rv_I0)) (by simpa using hp)) (fun _ => ev_op (ev_var rfl) (ev_var rfl) (rv_ixL hS (atI_of (by simp [hp])))) (fun z => nomatch z)⟩
      · exact ⟨_, ⟨_, rfl⟩, ev_if (b := false) (et_is (et_B (ev_op (ev_var rfl) (ev_len (ev_var rfl) hS) rv_I0)) (by simpa using hp)) (fun z => nomatch z) (fun _ => ev_op (ev_op (ev_op (ev_int1 (ev_sumN (el_slice (ev_var rfl) eo_none (eo_some ev_c) hS ints_take))) ev_c (rv_I (by decide))) (ev_op ev_c (ev_var rfl) (rv_I (cMulL (by decide)))) rv_I0) ev_c rv_I0)⟩
    · rintro _ ⟨c, rfl⟩ H1 e1
      refine q_asg ((ev_op (ev_op (ev_int1 (ev_abs (ev_var rfl))) (ev_op (ev_op ev_c ev_c (rv_I ?_)) ev_c (rv_I ?_)) (rv_I ?_)) (ev_intB (ev_op (ev_abs (ev_var rfl)) (ev_op ev_c ev_c (rv_I ?_)) rv_I0)) (rv_I ?_))) fun H2 e2 => ?_
      · exact ⟨by decide, by decide⟩
      · exact ⟨by decide, by decide⟩
      · decide
      · exact ⟨by decide, by decide⟩
      · exact cMulR ((show ∀ z : Bool, -(2 ^ 64) < (if z = true then (1 : Int) else 0) ∧ (if z = true then (1 : Int) else 0) < 2 ^ 64 by decide) _)
      refine q_asg ((ev_op (ev_int1 (ev_var rfl)) ev_c (rv_I ?_))) fun H3 e3 => ?_
      · decide
      have hs0 := Int.emod_nonneg c (show (2305843009213693951 : Int) ≠ 0 by decide)
      have hs1 := Int.emod_lt_of_pos c (show (0 : Int) < 2305843009213693951 by decide)
      refine s_retL (Evl.el_lst (Evl.ea_cons (ev_var rfl) (Evl.ea_cons ((ev_op (ev_int1 (ev_op (ev_op (ev_op (ev_var rfl) ev_c (rv_I ?_)) (ev_op (ev_op ev_c (ev_var rfl) (rv_I ?_)) (ev_var rfl) (rv_I ?_)) rv_I0) ev_c rv_I0)) ev_c (rv_I ?_))) (Evl.ea_cons ev_c Evl.ea_nil))) (show 3 ≤ 100000 by decide)) fun p H4 hp e4 h4 => ?_
      · exact cMulR (by decide)
      · exact cMulL (by decide)
      · exact cMulR (by omega)
      · decide
      generalize hy : ((c % 2305843009213693951) * 77347 + 10273 * (i : Int) * (i : Int) + 2269) % 2305843009213693921 = y at h4
      generalize hx : (if c < 0 then -c else c) % (10 ^ (60 : Int).toNat) ^ (5 : Int).toNat * (if decide ((if c < 0 then -c else c) ≥ 10 ^ (18 : Int).toNat) = true then 1 else 0) = x at h4
      have hy0 : 0 ≤ y := by
        rw [← hy]
        exact Int.emod_nonneg _ (by decide)
      have hy1 : y < 2 ^ 61 := by
        rw [← hy]
        exact Int.lt_trans (Int.emod_lt_of_pos _ (by decide)) (by decide)
      have hx0 : 0 ≤ x := by
        rw [← hx]
        exact Int.mul_nonneg (Int.emod_nonneg _ (by decide)) ((show ∀ z : Bool, (0 : Int) ≤ (if z = true then (1 : Int) else 0) by decide) _)
      refine k p H4 ?_ (((e1.trans e2).trans e3).trans e4) ⟨x.toNat, y.toNat, 0, ⟨?_, by omega⟩, by decide⟩
      · exact fresh_back ((e1.trans e2).trans e3) hp
      · rw [Int.toNat_of_nonneg hx0, Int.toNat_of_nonneg hy0]
        exact h4
end
abbrev s_law_take : Stmt := top 37
abbrev N_law_take : List Str := ["pot", "upto", "digit", "prime", "blend"]
theorem sc_law_take : FnScope N_law_take ["pot", "upto"] (defScope s_law_take) := ⟨rfl, rfl, rfl, by decide +kernel, rfl, by decide +kernel, by decide +kernel⟩
section
variable {P : Program} {w : World} {K : PySem.W.Frag} {mg : Str → Option Value} {base : Heap}
theorem takeX (B : Bt mg) (d : DefIn K mg "_law_take" ["pot", "upto"] s_law_take) : Okd P w K mg base "_law_take" ["pot", "upto"] s_law_take 1 spTakeX := by
  refine Okd.mk d sc_law_take (fun vs H Q E h => ?_) (fun f cdv A outer s H vs Q E hr h => ?_)
  · obtain ⟨p, a, b, c, u, rfl, _⟩ := h
    rfl
  obtain ⟨p, a, b, c, u, rfl, ⟨hP, hb1⟩, hn, hu0, hu1, k⟩ := h
  refine ⟨_, (pss_cons (ps_if (pt_cmpR op_gt (pe_ix ix_list (pv 0) pe_int (fun _ _ => rfl)) pe_int (nomark _)) (pss_cons (ps_set (i := 2) sc_law_take.nd rfl (Or.inl rfl) (pe_op op_mod (pe_callTy call_int1 (by rfl) B.int boot_int (pa_cons (pe_ix ix_list (pv 0) pe_int (fun _ _ => rfl)) pa_nil)) (pv 1)))
        (pss_cons (ps_asg (pe_op op_fdiv (pe_ix ix_list (pv 0) pe_int (fun _ _ => rfl)) (pv 1)) (pg_sub (pv 0) pe_int set_list))
        (pss_one (ps_ret (pv 2))))) pss_nil)
      (pss_cons (ps_asg (pe_op op_add (pe_ix ix_list (pv 0) pe_int (fun _ _ => rfl)) pe_int) (pg_sub (pv 0) pe_int set_list))
      (pss_cons (ps_set (i := 3) sc_law_take.nd rfl (Or.inl rfl) (pe_ix ix_list (pe_lst (pa_cons pe_int (pa_cons pe_int (pa_cons pe_int (pa_cons pe_int (pa_cons pe_int pa_nil)))))) (pe_op op_mod (pe_callTy call_int1 (by rfl) B.int boot_int (pa_cons (pe_ix ix_list (pv 0) pe_int (fun _ _ => rfl)) pa_nil)) pe_int) (fun _ _ => rfl)))
      (pss_cons (ps_set (i := 4) sc_law_take.nd rfl (Or.inl rfl) (pe_op op_mod (pe_callTy call_int1 (by rfl) B.int boot_int (pa_cons (pe_op op_powW (pe_callTy call_int1 (by rfl) B.int boot_int (pa_cons (pe_op op_add (pe_op op_add (pe_ix ix_list (pv 0) pe_int (fun _ _ => rfl)) (pe_op op_mulW (pe_op op_mulW pe_int (pe_ix ix_list (pv 0) pe_int (fun _ _ => rfl))) (pe_ix ix_list (pv 0) pe_int (fun _ _ => rfl)))) pe_int) pa_nil)) pe_int) pa_nil)) (pv 3)))
      (pss_cons (ps_set (i := 4) sc_law_take.nd rfl (Or.inl rfl) (pe_op op_mod (pe_callTy call_int1 (by rfl) B.int boot_int (pa_cons (pe_op op_mulW (pv 4) (pe_op op_add (pe_op op_mod (pe_callTy call_int1 (by rfl) B.int boot_int (pa_cons (pv 4) pa_nil)) pe_int) (pe_op op_mulW pe_int (pe_ix ix_list (pv 0) pe_int (fun _ _ => rfl))))) pa_nil)) pe_int))
      (pss_one (ps_ret (pe_op op_mod (pe_callTy call_int1 (by rfl) B.int boot_int (pa_cons (pe_op op_fdiv (pv 4) pe_int) pa_nil)) (pv 1))))))))), ?_⟩
  refine q_when (b := decide ((a : Int) > 0)) (et_B (ev_op (ev_op (ev_var rfl) ev_c (rv_ixL (sq_of hP) rfl)) ev_c rv_I0)) (fun ha H1 e1 => ?_) (fun ha H1 e1 => ?_)
  · have hp1 := e1 _ _ hP
    have ha' : 0 < a := by
      have := of_decide_eq_true ha
      omega
    refine q_asg ((ev_op (ev_int1 (ev_op (ev_var rfl) ev_c (rv_ixL (sq_of hp1) rfl))) (ev_var rfl) (rv_I ?_))) fun H2 e2 => ?_
    · show (0 : Int) < _
      omega
    have hp2 := e2 _ _ hp1
    refine q_setL hp2 ((ev_op (ev_op (ev_var rfl) ev_c (rv_ixL (sq_of hp2) rfl)) (ev_var rfl) (rv_I ?_))) (ev_var rfl) ev_c (show 0 < 3 by decide) fun H3 e3 => ?_
    · exact ⟨by omega, by omega⟩
    refine s_ret (ev_var rfl) fun H4 e4 => ?_
    have hd := k H4 (((But.of (e1.trans e2)).trans (But.of e3)).trans ((But.put (o := .lst ([.int ((a : Int) / (u : Int)), .int (b : Int), .int (c : Int)]))).trans (But.of e4))) ⟨e4 _ _ (by unfold nextC; rw [if_pos ha', Int.natCast_ediv]; exact upd_same), hb1⟩
    unfold drawN at hd
    rw [if_pos ha', Int.natCast_emod] at hd
    exact hd
  · have hp1 := e1 _ _ hP
    have ha' : ¬ 0 < a := fun z => by
      have := of_decide_eq_false ha
      omega
    have ha0 : a = 0 := by omega
    refine q_setL hp1 ((ev_op (ev_op (ev_var rfl) ev_c (rv_ixL (sq_of hp1) rfl)) ev_c rv_I0)) (ev_var rfl) ev_c (show 2 < 3 by decide) fun H2 e2 => ?_
    generalize hH3 : upd H2 p (.lst (([.int (a : Int), .int (b : Int), .int (c : Int)] : List V).set 2 (.int ((c : Int) + 1)))) = H3
    have hp3 : H3 p = some (.lst [.int (a : Int), .int (b : Int), .int ((c : Int) + 1)]) := by
      rw [← hH3]
      exact upd_same
    have e03 : But p H H3 := by
      rw [← hH3]
      exact ((But.of e1).trans (But.of e2)).trans But.put
    refine q_asgX (P := fun v => v = .int (prN ((c + 1) % 5) : Int)) ?_ ?_
    · have hl := fun {σ : L2.St} {H : Hp} => Evl.el_lst (σ := σ) (H := H) (vs := [.int 2147483647, .int 2147483629, .int 2147483587, .int 2147483579, .int 2147483563]) (Evl.ea_cons ev_c (Evl.ea_cons ev_c (Evl.ea_cons ev_c (Evl.ea_cons ev_c (Evl.ea_cons ev_c Evl.ea_nil))))) (by decide)
      rcases (show (c + 1) % 5 = 0 ∨ (c + 1) % 5 = 1 ∨ (c + 1) % 5 = 2 ∨ (c + 1) % 5 = 3 ∨ (c + 1) % 5 = 4 by omega) with z | z | z | z | z
      all_goals
        rw [z]
        have z' : ((c : Int) + 1) % 5 = _ := congrArg (fun n : Nat => (n : Int)) z
        refine ⟨_, rfl, ev_opL1 hl (fun H1 e => ev_val (ev_op (ev_int1 (ev_op (ev_var rfl) ev_c (rv_ixL (sq_of (e _ _ hp3)) rfl))) ev_c (rv_I ?_)) (congrArg V.int z')) fun q H1 hq _ => rv_ixL (sq_of hq) rfl⟩
        decide
    · rintro _ rfl H4 e4
      have hr := prN_lt ((c + 1) % 5)
      have hp4 := e4 _ _ hp3
      have hc1 : ((c : Int) + 1).natAbs < 2 ^ 241 := by omega
      have h91 : ((91199 : Int) * ((c : Int) + 1)).natAbs < 2 ^ 260 := by omega
      have hall : ((b : Int) + 91199 * ((c : Int) + 1) * ((c : Int) + 1) + 2477).natAbs < 2 ^ 502 := by
        have e1 : (91199 : Int) * ((c : Int) + 1) * ((c : Int) + 1) = ((91199 * (c + 1) * (c + 1) : Nat) : Int) := by
          rw [Int.natCast_mul, Int.natCast_mul, Int.natCast_add]
          rfl
        rw [e1]
        have : 91199 * (c + 1) * (c + 1) ≤ 2 ^ 260 * 2 ^ 241 := Nat.mul_le_mul (by omega) (by omega)
        rw [← Nat.pow_add] at this
        omega
      refine q_asg ((ev_op (ev_int1 (ev_op (ev_int1 (ev_op (ev_op (ev_op (ev_var rfl) ev_c (rv_ixL (sq_of hp4) rfl)) (ev_op (ev_op ev_c (ev_op (ev_var rfl) ev_c (rv_ixL (sq_of hp4) rfl)) (rv_I ?_)) (ev_op (ev_var rfl) ev_c (rv_ixL (sq_of hp4) rfl)) (rv_I ?_)) rv_I0) ev_c rv_I0)) ev_c (rv_I ?_))) (ev_var rfl) (rv_I ?_))) fun H5 e5 => ?_
      · exact wide_mul (a := 20) (b := 241) (by decide) hc1 (by decide) (by decide) (by decide)
      · exact wide_mul (a := 260) (b := 241) h91 hc1 (by decide) (by decide) (by decide)
      · refine ⟨by decide, ?_⟩
        have hbits := bits_le (n := 502) hall (by decide)
        omega
      · show (0 : Int) < _
        omega
      have eB : ((b : Int) + 91199 * ((c : Int) + 1) * ((c : Int) + 1) + 2477) ^ (3 : Int).toNat % (prN ((c + 1) % 5) : Int) = (blendN b (c + 1) : Int) := by
        unfold blendN
        rw [show (3 : Int).toNat = 3 from rfl, Int.natCast_emod, Int.natCast_pow, Int.natCast_add, Int.natCast_add, Int.natCast_mul, Int.natCast_mul, Int.natCast_add]
        rfl
      rw [eB]
      have hbl : blendN b (c + 1) < 2 ^ 31 := blendN_lt b (c + 1)
      have hp5 := e5 _ _ hp4
      refine q_asg ((ev_op (ev_int1 (ev_op (ev_var rfl) (ev_op (ev_op (ev_int1 (ev_var rfl)) ev_c (rv_I ?_)) (ev_op ev_c (ev_op (ev_var rfl) ev_c (rv_ixL (sq_of hp5) rfl)) (rv_I ?_)) rv_I0) (rv_I ?_))) ev_c (rv_I ?_))) fun H6 e6 => ?_
      · decide
      · exact wide_mul (a := 20) (b := 241) (by decide) hc1 (by decide) (by decide) (by decide)
      · exact wide_mul (a := 32) (b := 260) (by omega) (by omega) (by decide) (by decide) (by decide)
      · decide
      refine s_ret ((ev_op (ev_int1 (ev_op (ev_var rfl) ev_c (rv_I ?_))) (ev_var rfl) (rv_I ?_))) fun H7 e7 => ?_
      · exact ⟨by decide, by decide⟩
      · show (0 : Int) < _
        omega
      have eM : (blendN b (c + 1) : Int) * ((blendN b (c + 1) : Int) % 12659 + 397 * ((c : Int) + 1)) % 2305843009213693907 / 211 % (u : Int) = ((mixN b (c + 1) % u : Nat) : Int) := by
        unfold mixN
        rw [Int.natCast_emod, Int.natCast_ediv, Int.natCast_emod, Int.natCast_mul, Int.natCast_add, Int.natCast_emod, Int.natCast_mul, Int.natCast_add]
        rfl
      rw [eM]
      have hd := k H7 (e03.trans (((But.of e4).trans (But.of e5)).trans ((But.of e6).trans (But.of e7)))) ⟨?_, hb1⟩
      · unfold drawN at hd
        rw [if_neg ha'] at hd
        exact hd
      · unfold nextC
        rw [if_neg ha', ha0, Nat.zero_div]
        rw [ha0] at hp5
        exact e7 _ _ (e6 _ _ hp5)
theorem ok_take (B : Bt mg) (d : DefIn K mg "_law_take" ["pot", "upto"] s_law_take) : Okd P w K mg base "_law_take" ["pot", "upto"] s_law_take 1 spTake := (takeX B d).weak fun vs H Q E h => by
  obtain ⟨p, n, u, rfl, ⟨a, b, c, hP, hc⟩, hn, h0, h1, k⟩ := h
  refine ⟨p, a, b, c, u, rfl, hP, by omega, h0, h1, fun H' eB hP' => k (drawN a b c u) H' ?_ eB ⟨_, _, _, hP', ?_⟩⟩
  · unfold drawN
    split <;> exact Nat.mod_lt _ h0
  · unfold nextC
    split <;> omega
theorem ok_takeX (B : Bt mg) (d : DefIn K mg "_law_take" ["pot", "upto"] s_law_take) : Okd P w K mg base "_law_take" ["pot", "upto"] s_law_take 1 spTakeX := takeX B d
end
abbrev s_law_cells : Stmt := top 39
abbrev N_law_cells : List Str := ["script", "most"]
theorem sc_law_cells : FnScope N_law_cells ["script", "most"] (defScope s_law_cells) := ⟨rfl, rfl, rfl, by decide +kernel, rfl, by decide +kernel, by decide +kernel⟩
/-- so many cells -/
def spCellsN (K : PySem.W.Frag) : Sp := fun vs H Q _ => ∃ (a : Addr) (xs : List V) (k : Nat), vs = [.ref a, .int (k : Int)] ∧ 1 ≤ k ∧ k ≤ 100 ∧ SqL K H a xs ∧ xs.length ≤ 100 ∧ ∀ (n : Nat) p H', n ≤ k → H p = none → Ex H H' → H' p = some (.lst (vN (List.range n))) → Q (.ref p) H'
section
variable {P : Program} {w : World} {K : PySem.W.Frag} {mg : Str → Option Value} {base : Heap}
theorem ok_cells (B : Bt mg) (d : DefIn K mg "_law_cells" ["script", "most"] s_law_cells) : Okd P w K mg base "_law_cells" ["script", "most"] s_law_cells 1 (spCellsN K) := by
  refine Okd.mk d sc_law_cells (fun vs H Q E h => ?_) (fun f cdv A outer s H vs Q E hr h => ?_)
  · obtain ⟨a, xs, kk, rfl, _⟩ := h
    rfl
  · obtain ⟨a, xs, kk, rfl, hk1, hk2, hS, hl, k⟩ := h
    refine ⟨_, (pss_one (ps_ret (pe_listRg rfl (by rfl) B.list (prg_1 (by rfl) B.range (pe_callB (call_max2 rfl) (by rfl) B.max boot_max (pa_cons pe_int (pa_cons (pe_callB (call_min2 rfl) (by rfl) B.min boot_min (pa_cons (pv 1) (pa_cons (pe_callB call_len_seq (by rfl) B.len boot_len (pa_cons (pv 0) pa_nil)) pa_nil))) pa_nil))))))), ?_⟩
    refine s_retE (K := K) (ev_listRg (n := max 1 (min kk xs.length)) (ev_is (ev_max2 ev_c (ev_min2 (ev_var rfl) (ev_len (ev_var rfl) hS))) ?_) (by omega)) fun p ys H1 hp e1 h1 f1 => k (max 1 (min kk xs.length)) p H1 (by omega) hp e1 (by rw [h1, fzl_nats.mp f1])
    congr 1
    split <;> split <;> omega
end
abbrev s_law_some : Stmt := top 40
abbrev N_law_some : List Str := ["pot", "pool", "many", "rests", "found", "lap"]
theorem sc_law_some : FnScope N_law_some ["pot", "pool", "many"] (defScope s_law_some) := ⟨rfl, rfl, rfl, by decide +kernel, rfl, by decide +kernel, by decide +kernel⟩
section
variable {P : Program} {w : World} {K : PySem.W.Frag} {mg : Str → Option Value} {base : Heap}
theorem ok_some (B : Bt mg) (o_law_take : Okd P w K mg base "_law_take" ["pot", "upto"] s_law_take 1 spTake) (d : DefIn K mg "_law_some" ["pot", "pool", "many"] s_law_some) : Okd P w K mg base "_law_some" ["pot", "pool", "many"] s_law_some 2 (spSome K) := by
  refine Okd.mk d sc_law_some (fun vs H Q E h => ?_) (fun f cdv A outer s H vs Q E hr h => ?_)
  · obtain ⟨p, q, n, many, ds, xs, rfl, _⟩ := h
    rfl
  · obtain ⟨p, q, n, m, ds, xs, rfl, hP, hn, hS, hf, hm, hl, k⟩ := h
    refine ⟨_, (pss_cons (ps_par (i := 3) (j := 4) (by rfl) sc_law_some.nd rfl rfl (by decide) rfl rfl (pa_cons (pe_callTy call_list_of (by rfl) B.list boot_list (pa_cons (pv 1) pa_nil)) (pa_cons (pe_lst pa_nil) pa_nil)) (by rfl))
      (pss_cons (ps_for PassesOwn.never rfl (pi_range1 (by rfl) B.range (pa_cons (pv 2) pa_nil)) (pg_name (i := 5) sc_law_some.nd rfl (Or.inl rfl)) (pss_one (ps_expr (pe_bm PySem.F.plainAttrs_list PySem.F.slot_list_append PySem.F.type_list_append mt_append (pv 4) (pa_cons (pe_bm PySem.F.plainAttrs_list PySem.F.slot_list_pop PySem.F.type_list_pop mt_popAt (pv 3) (pa_cons (pe_fn o_law_take (hr.mono (by decide)) (pa_cons (pv 0) (pa_cons (pe_callB call_len_seq (by rfl) B.len boot_len (pa_cons (pv 3) pa_nil)) pa_nil))) pa_nil)) pa_nil)))))
      (pss_one (ps_ret (pv 4))))), ?_⟩
    -- rests, found
    refine q_parM (c_cons (Evl.el_list (ev_var rfl) hS H (Ex.refl H) _ fun r H1 hr1 e1 h1 => c_cons ?_))
    refine (WT.el_lst (K := K) (ds := []) ea_nil (by decide)) H1 (Ex.refl _) _ fun fo ys H2 hf2 e2 h2 hys => c_nil ?_
    have hy0 := fzl_nilI hys
    subst hy0
    refine ⟨_, _, rfl, ?_⟩
    have rf : r ≠ fo := fun z => by
      rw [z, hf2] at h1
      cases h1
    have hf0 : H fo = none := fresh_back e1 hf2
    have np : r ≠ p := fresh_ne hP hr1
    have nf : fo ≠ p := fresh_ne hP hf0
    refine q_forR1 (n := (m : Int)) (Evl.ea_cons (ev_var rfl) Evl.ea_nil) ⟨by omega, by omega⟩ (fun i σ' H' => (∃ z, σ' = [some (.ref p), some (.ref q), some (.int (m : Int)), some (.ref r), some (.ref fo), z]) ∧ But p H H' ∧ PotAt H' p (n + i) ∧
      ∃ rs es xs ys, H' r = some (.lst xs) ∧ FzL K H' rs xs ∧ H' fo = some (.lst ys) ∧ FzL K H' es ys ∧ es.length = i ∧ (es ++ rs).Perm ds) (fun H3 e3 => ?_) (fun i σ' H' hi h => ?_) (fun σ' H' h => ?_)
    · exact ⟨⟨none, rfl⟩, But.of ((e1.trans e2).trans e3), hP.ex ((e1.trans e2).trans e3), ds, [], xs, [], e3 _ _ (e2 _ _ h1), fzl_ex ((e1.trans e2).trans e3) hf, e3 _ _ h2, fzl_nil, rfl, .refl _⟩
    · obtain ⟨⟨z, rfl⟩, eB, hP', rs, es, xs', ys, h3, h4, h5, h6, h7, h8⟩ := h
      have him : i < m := by omega
      have hlen := h8.length_eq
      rw [List.length_append, h7] at hlen
      have hxl := fzl_len h4
      refine ⟨_, rfl, ⟨Or.inl ⟨rfl, _, sq_of h5⟩, ⟨_, rfl, Or.inl ⟨rfl, _, sq_of h3⟩, ?_⟩⟩⟩
      refine x_take (u := xs'.length) (ev_var rfl) (ev_len (ev_var rfl) (sq_of h3)) hP' (by omega) (by omega) (by omega) fun dd H4 hdd e4 hP4 => ?_
      have h34 := e4 _ _ np h3
      have h54 := e4 _ _ nf h5
      have tx4 := hP'.tex e4
      obtain ⟨x, hx⟩ : ∃ x, xs'[dd]? = some x := ⟨_, List.getElem?_eq_getElem hdd⟩
      obtain ⟨e, he, fe⟩ := fzl_getV (FzL.mono tx4 _ _ h4) hx
      refine ⟨r, xs', dd, dd, x, rfl, rfl, h34, by omega, by omega, ?_, hx, ?_⟩
      · have n0 : ¬ ((dd : Int) < 0) := by omega
        simp [seqIndex?, n0, hdd]
      · have h55 : upd H4 r (.lst (xs'.eraseIdx dd)) fo = some (.lst ys) := by
          rw [upd_ne (fun z => rf z.symm)]
          exact h54
        have tx5 : TEx H4 (upd H4 r (.lst (xs'.eraseIdx dd))) := tex_lst h34
        have tx6 : TEx (upd H4 r (.lst (xs'.eraseIdx dd))) (upd (upd H4 r (.lst (xs'.eraseIdx dd))) fo (.lst (ys ++ [x]))) := tex_lst h55
        have tx := (tx4.trans tx5).trans tx6
        refine ⟨fo, ys, x, rfl, rfl, h55, sz_lt (by rw [fzl_len h6]; omega), ⟨_, rfl⟩, ((eB.trans e4).mut hr1).mut hf0, ?_, rs.eraseIdx dd, es ++ [e], xs'.eraseIdx dd, _, ?_, ?_, upd_same, ?_, ?_, ?_⟩
        · obtain ⟨a, b, c, ⟨g1, g2⟩, g3⟩ := hP4
          refine ⟨a, b, c, ⟨?_, g2⟩, g3⟩
          rw [upd_ne nf.symm, upd_ne np.symm]
          exact g1
        · rw [upd_ne rf]
          exact upd_same
        · exact FzL.mono tx _ _ (fzl_erase h4 dd)
        · exact fzl_append (FzL.mono tx _ _ h6) (fzl_cons (Fz.mono (tx5.trans tx6) _ _ fe) fzl_nil)
        · rw [List.length_append, h7]
          rfl
        · refine List.Perm.trans ?_ h8
          rw [List.append_assoc]
          exact List.Perm.append_left es (erase_perm he)
    · obtain ⟨⟨z, rfl⟩, eB, hP', rs, es, xs', ys, h3, h4, h5, h6, h7, h8⟩ := h
      refine s_ret (ev_var rfl) fun H4 e4 => k fo H4 es ys rs hf0 (eB.ex e4) (hP'.ex e4) (e4 _ _ h5) (fzl_ex e4 h6) h7 h8
end
abbrev s_law_position_drawn : Stmt := top 46
abbrev N_law_position_drawn : List Str := ["pot", "many", "kind", "places", "size", "ring", "found", "at", "place", "to"]
theorem sc_law_position_drawn : FnScope N_law_position_drawn ["pot", "many"] (defScope s_law_position_drawn) := ⟨rfl, rfl, rfl, by decide +kernel, rfl, by decide +kernel, by decide +kernel⟩
section
variable {P : Program} {w : World} {K : PySem.W.Frag} {mg : Str → Option Value} {base : Heap}
def spPosnF : Sp := fun vs H Q _ => ∃ (p : Addr) (n m : Nat), vs = [.ref p, .int (m : Int)] ∧ PotAt H p n ∧ n < 2 ^ 239 ∧ 1 ≤ m ∧ m ≤ 1000 ∧
  ∀ a H' pi, But p H H' → PotAt H' p (n + m + 1) → pi.Perm (List.range m) → FrT H' a (vN pi) → Q (.ref a) H'
theorem c_tupOfF {K : PySem.W.Frag} {σ : L2.St} {H : Hp} {te : TE} {Q : VK} (h : tCB (rTupOfF K) (tCons te tNil) σ H Q) : te σ H (fun x H1 => tNil σ H1 fun xs H2 => rTupOfF K (x :: xs) H2 Q) := h
theorem ok_posnF (B : Bt mg) (o_law_take : Okd P w K mg base "_law_take" ["pot", "upto"] s_law_take 1 spTake) (o_law_some : Okd P w K mg base "_law_some" ["pot", "pool", "many"] s_law_some 2 (spSome K))
    (d : DefIn K mg "_law_position_drawn" ["pot", "many"] s_law_position_drawn) : Okd P w K mg base "_law_position_drawn" ["pot", "many"] s_law_position_drawn 3 spPosnF := by
  refine Okd.mk d sc_law_position_drawn (fun vs H Q E h => ?_) (fun f cdv A outer s H vs Q E hr h => ?_)
  · obtain ⟨p, n, m, rfl, _⟩ := h
    rfl
  · obtain ⟨p, n, m, rfl, hP, hn, hm1, hm2, k⟩ := h
    refine ⟨_, (pss_cons (ps_par (i := 2) (j := 3) (by rfl) sc_law_position_drawn.nd rfl rfl (by decide) rfl rfl (pa_cons (pe_fn o_law_take (hr.mono (by decide)) (pa_cons (pv 0) (pa_cons pe_int pa_nil))) (pa_cons (pe_listRg rfl (by rfl) B.list (prg_1 (by rfl) B.range (pv 1))) pa_nil)) (by rfl))
      (pss_cons (ps_if (pt_cmpR op_lt (pv 2) pe_int (nomark _)) (pss_one (ps_ret (pe_callTy call_tuple_ofF (by rfl) B.tuple boot_tuple (pa_cons (pe_lc (own := [("to", 9)]) rfl sc_law_position_drawn.nd (pi_list (pe_fn o_law_some (hr.mono (by decide)) (pa_cons (pv 0) (pa_cons (pv 3) (pa_cons (pv 1) pa_nil))))) (blkOk_by (own := [("to", 9)]) (N := N_law_position_drawn) (sc := defScope s_law_position_drawn) (by decide +kernel)) (fun _ _ _ _ _ => pg_name (i := 9) sc_law_position_drawn.nd rfl (Or.inl rfl)) (fun _ _ _ _ _ => pts_nil) (fun _ _ _ _ _ => (pe_callTy call_int1 (by rfl) B.int boot_int (pa_cons (pv 9) pa_nil)))) pa_nil)))) pss_nil)
      (pss_cons (ps_if (pt_cmpR op_eq (pv 2) pe_int (nomark _)) (pss_one (ps_ret (pe_callTy call_tuple_ofF (by rfl) B.tuple boot_tuple (pa_cons (pe_revL (pv 3)) pa_nil)))) pss_nil)
      (pss_cons (ps_set (i := 4) sc_law_position_drawn.nd rfl (Or.inl rfl) (pe_ifExp (pt_cmpR op_eq (pv 2) pe_int (nomark _)) (pv 1) (pe_callB (call_min2 rfl) (by rfl) B.min boot_min (pa_cons (pv 1) (pa_cons (pe_ix ix_list (pe_lst (pa_cons pe_int (pa_cons pe_int pa_nil))) (pe_op op_sub (pv 2) pe_int) (fun _ _ => rfl)) pa_nil)))))
      (pss_cons (ps_par (i := 5) (j := 6) (by rfl) sc_law_position_drawn.nd rfl rfl (by decide) rfl rfl (pa_cons (pe_ifExp (pt_cmpR op_lt (pv 2) pe_int (nomark _)) (pe_fn o_law_some (hr.mono (by decide)) (pa_cons (pv 0) (pa_cons (pv 3) (pa_cons (pv 4) pa_nil)))) (pv 3)) (pa_cons (pe_slice sl_list (pv 3) po_none po_none) pa_nil)) (by rfl))
      (pss_cons (ps_for PassesOwn.never rfl (pi_enum (by rfl) B.enumerate (pa_cons (pv 5) pa_nil)) (pg_tup (by rfl) (pgs_cons (pg_name (i := 7) sc_law_position_drawn.nd rfl (Or.inl rfl)) (pgs_cons (pg_name (i := 8) sc_law_position_drawn.nd rfl (Or.inl rfl)) pgs_nil))) (pss_one (ps_asg (pe_ix ix_list (pv 5) (pe_op op_mod (pe_op op_add (pv 7) pe_int) (pe_callB call_len_seq (by rfl) B.len boot_len (pa_cons (pv 5) pa_nil))) (fun _ _ => rfl)) (pg_sub (pv 6) (pv 8) set_list))))
      (pss_one (ps_ret (pe_callTy call_tuple_ofF (by rfl) B.tuple boot_tuple (pa_cons (pe_lc (own := [("to", 9)]) rfl sc_law_position_drawn.nd (pi_list (pv 6)) (blkOk_by (own := [("to", 9)]) (N := N_law_position_drawn) (sc := defScope s_law_position_drawn) (by decide +kernel)) (fun _ _ _ _ _ => pg_name (i := 9) sc_law_position_drawn.nd rfl (Or.inl rfl)) (fun _ _ _ _ _ => pts_nil) (fun _ _ _ _ _ => (pe_callTy call_int1 (by rfl) B.int boot_int (pa_cons (pv 9) pa_nil)))) pa_nil)))))))))), ?_⟩
    refine q_parM (c_cons (x_take (u := 6) (ev_var rfl) ev_c hP (by omega) (by decide) (by decide) fun dd H1 hdd e1 hP1 => c_cons (ev_listRg (K := K) (n := m) (ev_var rfl) (by omega) H1 (Ex.refl _) _ fun pl ys H2 hpl e2 h2 hys => c_nil ?_)))
    have hys' := fzl_nats.mp hys
    subst hys'
    refine ⟨_, _, rfl, ?_⟩
    have nlp : pl ≠ p := fresh_ne hP1 hpl
    have hpl0 : H pl = none := e1.fresh hpl nlp
    have eB2 : But p H H2 := e1.ex e2
    have hP2 := hP1.ex e2
    have hlen : (List.range m).length = m := List.length_range
    have tail : ∀ {σ : L2.St} {H3 : Hp} {a : Addr} {pi : List Nat} {xs : List V}, But p H H3 → PotAt H3 p (n + m + 1) → pi.Perm (List.range m) → SqL K H3 a xs → xs = vN pi → wipe σ [9] = σ → (∀ x, (σ.set 9 (some x))[9]? = some (some x)) → (∀ x, wipe (σ.set 9 (some x)) [9] = σ) →
        tLc (iList K (tC (.ref a))) (gName 9) tYes (tCB rInt1 (tCons (tVar 9) tNil)) [9] σ H3 (fun x H1 => tNil σ H1 fun xs H2 => rTupOfF K (x :: xs) H2 Q) := fun {σ H3 a pi xs} eB hP hpi hx hxs hw hv hw2 => by
      subst hxs
      have hpl := perm_len hpi
      refine c_tupOfF (edF_tupOf (ds := pi.map fun n : Nat => PyData.int (n : Int)) (el_mapL ev_c hx (fzl_nats.mpr rfl) (by rw [List.length_map]; omega) rfl (fun x => by rw [hw, hw2 x]) fun i x d e H1 e1 hd he f => ?_) H3 (Ex.refl _) Q fun v xs H4 e4 hfr f => k v H4 pi (eB.ex e4) (hP.ex e4) hpi (by rw [← fzl_nats.mp f]; exact hfr))
      obtain ⟨z, _, rfl⟩ := tN_get hd
      rw [hd] at he
      cases (Option.some.inj he)
      have hxx := fz_intI f
      subst hxx
      rw [hw]
      exact ed_ev (ev_int1 (ev_var (hv _))) fz_int
    refine q_when (b := decide ((dd : Int) < 2)) (et_test (ev_op (ev_var rfl) ev_c rv_I0)) (fun hb H3 e3 => ?_) (fun hb H3 e3 => ?_)
    · refine s_retM (c_cb (c_cons (c_lcList (c_call (Evl.ea_cons (ev_var rfl) (Evl.ea_cons (ev_var rfl) (Evl.ea_cons (ev_var rfl) Evl.ea_nil)) H3 (Ex.refl _) _ fun H4 e4 => ⟨p, pl, n + 1, m, _, _, rfl, hP2.ex (e3.trans e4), by omega, sq_of (e4 _ _ (e3 _ _ h2)), fzl_nats.mpr rfl, by rw [List.length_map, hlen]; exact Nat.le_refl _, by rw [List.length_map, hlen]; exact hm2, fun r H5 es ys rs hr5 eB5 hP5 h5 hf5 hl5 hpm => ⟨r, rfl, ?_⟩⟩)))))
      obtain ⟨q1, q2⟩ := perm_ints hpm
      have hnd : (es.map gNat ++ rs.map gNat).Nodup := q2.nodup_iff.mpr List.nodup_range
      refine tail (pi := es.map gNat) ((eB2.ex (e3.trans e4)).trans eB5) (hP5.le (by omega)) (perm_of (List.nodup_append.mp hnd).1 (fun x hx => List.mem_range.mp (q2.subset (List.mem_append_left _ hx))) (by rw [List.length_map, hl5])) (sq_of h5) ?_ rfl (fun _ => rfl) (fun _ => rfl)
      rw [q1] at hf5
      exact fzl_nats.mp hf5
    · have hd2 : 2 ≤ dd := by
        have := of_decide_eq_false hb
        omega
      refine q_when (b := decide (V.int (dd : Int) = V.int 5)) (et_test (ev_op (ev_var rfl) ev_c (rv_eq rfl))) (fun hb5 H4 e4 => ?_) (fun hb5 H4 e4 => ?_)
      · have h4 := e4 _ _ (e3 _ _ h2)
        refine s_retM (c_cb (c_cons (ev_var rfl H4 (Ex.refl _) _ fun H5 e5 => ⟨pl, _, rfl, sq_of (e5 _ _ h4), fun q hq => c_nil ⟨q, _, rfl, sq_of upd_same, fun l o ho hl => ?_⟩⟩)))
        refine k _ _ (List.range m).reverse ?_ ?_ (List.reverse_perm _) ⟨o, ho, ?_⟩
        · exact eB2.ex (((e3.trans e4).trans e5).trans ((Ex.new hq).trans (Ex.new hl)))
        · exact (hP2.ex (((e3.trans e4).trans e5).trans ((Ex.new hq).trans (Ex.new hl)))).le (by omega)
        unfold vN
        rw [List.map_reverse]
        exact upd_same
      · have hd5 : dd < 5 := by
          have := of_decide_eq_false hb5
          have h5 : dd ≠ 5 := fun z => this (by rw [z]; rfl)
          omega
        have e34 := e3.trans e4
        refine q_asgX (P := fun v => ∃ s : Nat, v = .int (s : Int) ∧ s ≤ m ∧ 1 ≤ s) ?_ ?_
        · have hlst := fun {σ : L2.St} {H : Hp} => Evl.el_lst (σ := σ) (H := H) (vs := [.int 2, .int 3]) (Evl.ea_cons ev_c (Evl.ea_cons ev_c Evl.ea_nil)) (by decide)
          rcases (show dd = 4 ∨ dd = 2 ∨ dd = 3 by omega) with z | z | z
          · subst z
            exact ⟨_, ⟨m, rfl, Nat.le_refl _, hm1⟩, ev_if (b := true) (et_test (ev_is (ev_op (ev_var rfl) ev_c (rv_eq rfl)) rfl)) (fun _ => ev_var rfl) (fun z => nomatch z)⟩
          · subst z
            refine ⟨_, ⟨min m 2, ?_, Nat.min_le_left _ _, by omega⟩, ev_if (b := false) (et_test (ev_is (ev_op (ev_var rfl) ev_c (rv_eq rfl)) rfl)) (fun z => nomatch z) (fun _ => ev_min2 (ev_var rfl) (ev_opL1 hlst (fun H1 e => ev_op (ev_var rfl) ev_c rv_I0) fun q H1 hq _ => rv_ixL (sq_of hq) rfl))⟩
            congr 1
            split <;> omega
          · subst z
            refine ⟨_, ⟨min m 3, ?_, Nat.min_le_left _ _, by omega⟩, ev_if (b := false) (et_test (ev_is (ev_op (ev_var rfl) ev_c (rv_eq rfl)) rfl)) (fun z => nomatch z) (fun _ => ev_min2 (ev_var rfl) (ev_opL1 hlst (fun H1 e => ev_op (ev_var rfl) ev_c rv_I0) fun q H1 hq _ => rv_ixL (sq_of hq) rfl))⟩
            congr 1
            split <;> omega
        · rintro _ ⟨s, rfl, hs, hs1⟩ H5 e5
          have e35 := e34.trans e5
          have h5 := e35 _ _ h2
          have hP5 := hP2.ex e35
          refine q_parM (c_consX (P := fun v H6 => ∃ (ra : Addr) (ring : List Nat), v = .ref ra ∧ But p H H6 ∧ PotAt H6 p (n + m + 1) ∧ H6 ra = some (.lst (vN ring)) ∧ ra ≠ p ∧ H6 pl = some (.lst (vN (List.range m))) ∧ ring.Nodup ∧ (∀ x ∈ ring, x < m)) (fun Q2 hQ2 => ?_) ?_)
          · show tIf _ _ _ _ _ _
            by_cases h4 : dd < 4
            · refine (et_test (ev_is (ev_op (ev_var rfl) ev_c rv_I0) (by rw [decide_eq_true (show (dd : Int) < 4 by omega)]))) H5 (Ex.refl _) _ fun H6 e6 => iteT ?_
              refine c_call (Evl.ea_cons (ev_var rfl) (Evl.ea_cons (ev_var rfl) (Evl.ea_cons (ev_var rfl) Evl.ea_nil)) H6 (Ex.refl _) _ fun H7 e7 => ⟨p, pl, n + 1, s, _, _, rfl, hP5.ex (e6.trans e7), by omega, sq_of (e7 _ _ (e6 _ _ h5)), fzl_nats.mpr rfl, by rw [List.length_map, hlen]; exact hs, by rw [List.length_map, hlen]; exact hm2, fun r H8 es ys rs hr8 eB8 hP8 h8 hf8 hl8 hpm => ?_⟩)
              obtain ⟨q1, q2⟩ := perm_ints hpm
              have hnd : (es.map gNat ++ rs.map gNat).Nodup := q2.nodup_iff.mpr List.nodup_range
              rw [q1] at hf8
              refine hQ2 _ _ ⟨r, es.map gNat, rfl, (eB2.ex ((e35.trans e6).trans e7)).trans eB8, hP8.le (by omega), by rw [h8, fzl_nats.mp hf8], fresh_ne (hP5.ex (e6.trans e7)) hr8, eB8 _ _ nlp (e7 _ _ (e6 _ _ h5)), (List.nodup_append.mp hnd).1, fun x hx => List.mem_range.mp (q2.subset (List.mem_append_left _ hx))⟩
            · refine (et_test (ev_is (ev_op (ev_var rfl) ev_c rv_I0) (by rw [decide_eq_false (show ¬ (dd : Int) < 4 by omega)]))) H5 (Ex.refl _) _ fun H6 e6 => iteF ?_
              refine ev_var rfl H6 (Ex.refl _) _ fun H7 e7 => hQ2 _ _ ⟨pl, List.range m, rfl, eB2.ex ((e35.trans e6).trans e7), (hP5.ex (e6.trans e7)).le (by omega), e7 _ _ (e6 _ _ h5), nlp, e7 _ _ (e6 _ _ h5), List.nodup_range, fun x hx => List.mem_range.mp hx⟩
          · rintro _ H6 ⟨ra, ring, rfl, eB6, hP6, hra, nra, hpl6, nd, hrm⟩
            refine c_cons (Evl.el_sl (ev_var rfl) eo_none eo_none (sq_of hpl6) H6 (Ex.refl _) _ fun fo H7 hfo e7 h7 => c_nil ⟨_, _, rfl, ?_⟩)
            rw [cutV_all] at h7
            have nfo : fo ≠ p := fresh_ne hP6 hfo
            have hfo0 : H fo = none := eB6.fresh hfo nfo
            have nfr : fo ≠ ra := fun z => by
              rw [z, hra] at hfo
              cases hfo
            refine q_forEnL (ev_var rfl) (sq_of (e7 _ _ hra)) fun H8 e8 => ⟨fun i σ' H' => (∃ z7 z8, σ' = [some (.ref p), some (.int (m : Int)), some (.int (dd : Int)), some (.ref pl), some (.int (s : Int)), some (.ref ra), some (.ref fo), z7, z8, none]) ∧ But p H H' ∧ PotAt H' p (n + m + 1) ∧ H' ra = some (.lst (vN ring)) ∧
              ∃ F, H' fo = some (.lst (vN F)) ∧ F.length = m ∧ (∀ j a, j < i → ring[j]? = some a → F[a]? = ring[(j + 1) % ring.length]?) ∧ ∀ x, x < m → x ∉ ring → F[x]? = some x, ?_, ?_, ?_, ?_⟩
            · exact ⟨⟨none, none, rfl⟩, eB6.ex (e7.trans e8), hP6.ex (e7.trans e8), e8 _ _ (e7 _ _ hra), List.range m, e8 _ _ h7, hlen, fun j a hj => absurd hj (Nat.not_lt_zero _), fun x hx _ => List.getElem?_range hx⟩
            · rintro i σ' H' ⟨_, _, _, h, _⟩
              exact sq_of h
            · rintro i x σ' H' H'' hx eH ⟨⟨z7, z8, rfl⟩, eB, hP', hra', F, hF, hFl, i1, i2⟩
              rw [vN_get] at hx
              obtain ⟨a, ha, rfl⟩ : ∃ a, ring[i]? = some a ∧ x = .int (a : Int) := by
                cases z : ring[i]? with
                | none => rw [z] at hx; cases hx
                | some a => rw [z] at hx; exact ⟨a, rfl, (Option.some.inj hx).symm⟩
              have hil := (List.getElem?_eq_some_iff.mp ha).1
              have ham := hrm a (List.mem_of_getElem? ha)
              have hnl : (i + 1) % ring.length < ring.length := Nat.mod_lt _ (by omega)
              obtain ⟨b, hb⟩ : ∃ b, ring[(i + 1) % ring.length]? = some b := ⟨_, List.getElem?_eq_getElem hnl⟩
              have h9 := sq_of (K := K) (eH _ _ hra')
              refine s_setL (v := .int (b : Int)) (eH _ _ hF) (ev_op (ev_var rfl) (ev_is (ev_op (ev_op (ev_var rfl) ev_c rv_I0) (ev_len (ev_var rfl) h9) (rv_I ?_)) (w := .int (((i + 1) % ring.length : Nat) : Int)) ?_) (rv_ixL h9 (atI_of ?_))) (ev_var rfl) (ev_var rfl) (by rw [vN_len, hFl]; exact ham) fun H9 e9 => ?_
              · rw [vN_len]
                omega
              · rw [vN_len]
                rfl
              · rw [vN_get, hb]
                rfl
              · refine ⟨⟨_, _, rfl⟩, (eB.ex (eH.trans e9)).mut hfo0, ?_, ?_, F.set a b, ?_, by rw [List.length_set, hFl], fun j c hj hc => ?_, fun x hx hxr => ?_⟩
                · obtain ⟨a1, b1, c1, ⟨g1, g3⟩, g2⟩ := hP'.ex (eH.trans e9)
                  exact ⟨a1, b1, c1, ⟨by rw [upd_ne nfo.symm]; exact g1, g3⟩, g2⟩
                · rw [upd_ne nfr.symm]
                  exact e9 _ _ (eH _ _ hra')
                · unfold vN
                  rw [List.map_set]
                  exact upd_same
                · rw [List.getElem?_set]
                  by_cases hca : a = c
                  · subst hca
                    have hij : i = j := (List.getElem?_inj hil nd).mp (by rw [ha, hc])
                    subst hij
                    rw [if_pos rfl, if_pos (by omega), hb]
                  · rw [if_neg hca]
                    refine i1 j c ?_ hc
                    rcases Nat.lt_or_eq_of_le (Nat.le_of_lt_succ hj) with z | z
                    · exact z
                    · subst z
                      rw [ha] at hc
                      exact absurd (Option.some.inj hc) hca
                · rw [List.getElem?_set, if_neg (show ¬ a = x from fun z => hxr (z ▸ List.mem_of_getElem? ha))]
                  exact i2 x hx hxr
            · rintro σ' H' ⟨⟨z7, z8, rfl⟩, eB, hP', hra', F, hF, hFl, i1, i2⟩
              rw [vN_len] at i1
              refine s_retM (c_cb (c_cons (c_lcList (ev_var rfl H' (Ex.refl _) _ fun H9 e9 => ⟨fo, rfl, tail (pi := F) (eB.ex e9) (hP'.ex e9) (cyc_perm nd hrm hFl (fun j a h => i1 j a (List.getElem?_eq_some_iff.mp h).1 h) i2) (sq_of (e9 _ _ hF)) rfl rfl (fun _ => rfl) (fun _ => rfl)⟩))))
end
abbrev s_law_of : Stmt := top 38
abbrev N_law_of : List Str := ["pot", "some"]
theorem sc_law_of : FnScope N_law_of ["pot", "some"] (defScope s_law_of) := ⟨rfl, rfl, rfl, by decide +kernel, rfl, by decide +kernel, by decide +kernel⟩
section
variable {P : Program} {w : World} {K : PySem.W.Frag} {mg : Str → Option Value} {base : Heap}
theorem ofX (B : Bt mg) (o2_law_take : Okd P w K mg base "_law_take" ["pot", "upto"] s_law_take 1 spTakeX) (d : DefIn K mg "_law_of" ["pot", "some"] s_law_of) : Okd P w K mg base "_law_of" ["pot", "some"] s_law_of 2 spOfX := by
  have o_law_take := o2_law_take
  refine Okd.mk d sc_law_of (fun vs H Q E h => ?_) (fun f cdv A outer s H vs Q E hr h => ?_)
  · obtain ⟨p, q, a, b, c, xs, rfl, _⟩ := h
    rfl
  obtain ⟨p, q, a, b, c, xs, rfl, hP, hc, hq, h0, h1, hne, k⟩ := h
  refine ⟨_, (pss_one (ps_ret (pe_ix ix_list (pv 1) (pe_fn o_law_take (hr.mono (by decide)) (pa_cons (pv 0) (pa_cons (pe_callB call_len_seq (by rfl) B.len boot_len (pa_cons (pv 1) pa_nil)) pa_nil))) (fun _ _ => rfl)))), ?_⟩
  refine s_retM (c_op (ev_var rfl H (Ex.refl _) _ fun H1 e1 => c_call (Evl.ea_cons (ev_var rfl) (Evl.ea_cons (ev_len (ev_var rfl) (sq_of (e1 _ _ hq))) Evl.ea_nil) H1 (Ex.refl _) _ fun H2 e2 => ⟨p, a, b, c, xs.length, rfl, hP.ex (e1.trans e2), hc, h0, h1, fun H3 eB hP3 => ?_⟩)))
  have hlt : drawN a b c xs.length < xs.length := drawN_lt h0
  have hq3 := eB _ _ hne ((e1.trans e2) _ _ hq)
  obtain ⟨v, hv⟩ : ∃ v, xs[drawN a b c xs.length]? = some v := ⟨_, List.getElem?_eq_getElem hlt⟩
  exact ⟨q, xs, _, v, rfl, rfl, sq_of hq3, atI_of hv, k v H3 hv ((But.of (e1.trans e2)).trans eB) hP3⟩
theorem ok_of (B : Bt mg) (o2_law_take : Okd P w K mg base "_law_take" ["pot", "upto"] s_law_take 1 spTakeX) (d : DefIn K mg "_law_of" ["pot", "some"] s_law_of) : Okd P w K mg base "_law_of" ["pot", "some"] s_law_of 2 (spOf K) := (ofX B o2_law_take d).weak fun vs H Q E h => by
  obtain ⟨p, q, n, ds, xs, rfl, ⟨a, b, c, hP, hc⟩, hn, hq, f, hne, hl, nq, k⟩ := h
  have hxl := fzl_len f
  have hpos : 0 < ds.length := List.length_pos_iff.mpr hne
  refine ⟨p, q, a, b, c, xs, rfl, hP, by omega, hq, by omega, by omega, nq, fun v H' hv eB hP' => ?_⟩
  obtain ⟨e, he, fe⟩ := fzl_getV f hv
  refine k e v H' (List.mem_of_getElem? he) (Fz.mono ((hP.at (Nat.le_refl _)).tex eB) _ _ fe) eB ⟨_, _, _, hP', ?_⟩
  unfold nextC
  split <;> omega
theorem ok_ofX (B : Bt mg) (o2_law_take : Okd P w K mg base "_law_take" ["pot", "upto"] s_law_take 1 spTakeX) (d : DefIn K mg "_law_of" ["pot", "some"] s_law_of) : Okd P w K mg base "_law_of" ["pot", "some"] s_law_of 2 spOfX := ofX B o2_law_take d
end
end WT
namespace WT
open PySem PySem.Spec PyProof.Rows L2 Evl SX
abbrev s_law_picture_drawn : Stmt := top 47
abbrev N_law_picture_drawn : List Str := ["pot", "most", "many", "kind", "rows", "one", "other", "place", "row"]
theorem sc_law_picture_drawn : FnScope N_law_picture_drawn ["pot", "most"] (defScope s_law_picture_drawn) := ⟨rfl, rfl, rfl, by decide +kernel, rfl, by decide +kernel, by decide +kernel⟩
def spPic6 (K : PySem.W.Frag) : Sp := fun vs H Q _ => ∃ (p : Addr) (n m : Nat), vs = [.ref p, .int (m : Int)] ∧ PotAt H p n ∧ n < 2 ^ 239 ∧ 1 ≤ m ∧ m ≤ 6 ∧
  ∀ v H' k M, But p H H' → PotAt H' p (n + 100) → Sq k M → 1 ≤ k → k ≤ 6 → (∀ r ∈ M, ∀ x ∈ r, x ≤ 2) → Fz K H' (tNN M) v → Q v H'
section
variable {P : Program} {w : World} {K : PySem.W.Frag} {mg : Str → Option Value} {base : Heap}
theorem ok_pic (B : Bt mg) (o_law_take : Okd P w K mg base "_law_take" ["pot", "upto"] s_law_take 1 spTake) (d : DefIn K mg "_law_picture_drawn" ["pot", "most"] s_law_picture_drawn) : Okd P w K mg base "_law_picture_drawn" ["pot", "most"] s_law_picture_drawn 2 (spPic6 K) := by
  refine Okd.mk d sc_law_picture_drawn (fun vs H Q E h => ?_) (fun f cdv A outer s H vs Q E hr h => ?_)
  · obtain ⟨p, n, m, rfl, _⟩ := h
    rfl
  · obtain ⟨p, n, mo, rfl, hP, hn, hm1, hm2, k⟩ := h
    refine ⟨_, (pss_cons (ps_asg (pe_tup (pa_cons (pe_op op_add pe_int (pe_fn o_law_take (hr.mono (by decide)) (pa_cons (pv 0) (pa_cons (pv 1) pa_nil)))) (pa_cons (pe_fn o_law_take (hr.mono (by decide)) (pa_cons (pv 0) (pa_cons pe_int pa_nil))) pa_nil))) (pg_tup (by rfl) (pgs_cons (pg_name (i := 2) sc_law_picture_drawn.nd rfl (Or.inr rfl)) (pgs_cons (pg_name (i := 3) sc_law_picture_drawn.nd rfl (Or.inl rfl)) pgs_nil))))
      (pss_cons (ps_setLc (i := 4) (own := [("place", 7)]) rfl sc_law_picture_drawn.nd rfl rfl (sw_true rfl rfl rfl (by decide +kernel)) (pi_range1 (by rfl) B.range (pa_cons (pv 2) pa_nil)) (blkOk_by (own := [("place", 7)]) (N := N_law_picture_drawn) (sc := defScope s_law_picture_drawn) (by decide +kernel)) (fun _ _ _ _ _ => pg_name (i := 7) sc_law_picture_drawn.nd rfl (Or.inl rfl)) (fun _ _ _ _ _ => pts_nil) (fun _ _ _ _ _ => (pe_op op_rep (pe_lst (pa_cons pe_int pa_nil)) (pv 2))))
      (pss_cons (ps_for PassesOwn.never rfl (pi_range1 (by rfl) B.range (pa_cons (pv 2) pa_nil)) (pg_name (i := 5) sc_law_picture_drawn.nd rfl (Or.inl rfl)) (pss_one (ps_for PassesOwn.never rfl (pi_range1 (by rfl) B.range (pa_cons (pv 2) pa_nil)) (pg_name (i := 6) sc_law_picture_drawn.nd rfl (Or.inl rfl)) (pss_cons (ps_if (pt_cmpR op_eq (pv 3) pe_int (nomark _)) (pss_one (ps_asg (pe_callTy call_int1 (by rfl) B.int boot_int (pa_cons (pe_fn o_law_take (hr.mono (by decide)) (pa_cons (pv 0) (pa_cons pe_int pa_nil))) pa_nil)) (pg_sub (pe_ix ix_list (pv 4) (pv 5) (fun _ _ => rfl)) (pv 6) set_list))) pss_nil)
          (pss_cons (ps_if (PW.pt (pw_and (pt_cmpR op_in_seq (pv 3) (pe_tup (pa_cons pe_int (pa_cons pe_int pa_nil))) (by rfl)) (pw_and1 (pt_cmpR op_lt (pv 5) (pv 6) (nomark _))))) (pss_cons (ps_asg (pe_callTy call_int1 (by rfl) B.int boot_int (pa_cons (pe_fn o_law_take (hr.mono (by decide)) (pa_cons (pv 0) (pa_cons pe_int pa_nil))) pa_nil)) (pg_sub (pe_ix ix_list (pv 4) (pv 5) (fun _ _ => rfl)) (pv 6) set_list))
            (pss_one (ps_asg (pe_ix ix_list (pe_ix ix_list (pv 4) (pv 5) (fun _ _ => rfl)) (pv 6) (fun _ _ => rfl)) (pg_sub (pe_ix ix_list (pv 4) (pv 6) (fun _ _ => rfl)) (pv 5) set_list)))) pss_nil)
          (pss_one (ps_if (pt_cmpR op_eq (pv 3) pe_int (nomark _)) (pss_one (ps_asg (pe_callTy call_int1 (by rfl) B.int boot_int (pa_cons (pe_cmpR op_in_seq (pe_op op_mod (pe_op op_sub (pv 5) (pv 6)) (pv 2)) (pe_tup (pa_cons pe_int (pa_cons (pe_op op_sub (pv 2) pe_int) pa_nil))) (by rfl)) pa_nil)) (pg_sub (pe_ix ix_list (pv 4) (pv 5) (fun _ _ => rfl)) (pv 6) set_list))) pss_nil)))))))
      (pss_one (ps_ret (pe_callTy call_tuple_of (by rfl) B.tuple boot_tuple (pa_cons (pe_lc (own := [("row", 8)]) rfl sc_law_picture_drawn.nd (pi_list (pv 4)) (blkOk_by (own := [("row", 8)]) (N := N_law_picture_drawn) (sc := defScope s_law_picture_drawn) (by decide +kernel)) (fun _ _ _ _ _ => pg_name (i := 8) sc_law_picture_drawn.nd rfl (Or.inl rfl)) (fun _ _ _ _ _ => pts_nil) (fun _ _ _ _ _ => (pe_callTy (cK (K := K) (r := rTupOf) call_tuple_of rfl) (by rfl) B.tuple boot_tuple (pa_cons (pv 8) pa_nil)))) pa_nil))))))), ?_⟩
    refine q_tupM (c_cons (c_op ?_))
    refine ev_c H (Ex.refl _) _ fun H0 e0 => ?_
    refine x_take (u := mo) (ev_var rfl) (ev_var rfl) (hP.ex e0) (by omega) hm1 (by omega) fun dd H1 hdd e1 hP1 => c_I0 (z := .int ((dd + 1 : Nat) : Int)) (by show V.int _ = V.int _; congr 1; omega) ?_
    refine c_cons (x_take (u := 5) (ev_var rfl) ev_c hP1 (by omega) (by decide) (by decide) fun kd H2' hkd e2' hP2' => c_nil ⟨sz_of (show 2 ≤ 100000 by decide), fun tp htp => g2_pair upd_same ?_⟩)
    generalize hmd : dd + 1 = m
    generalize hH2 : upd H2' tp _ = H2
    have e2x : Ex H2' H2 := by
      rw [← hH2]
      exact Ex.new htp
    have e2 := e2'.ex e2x
    have hP2 := hP2'.ex e2x
    have hm3 : 1 ≤ m := by omega
    have hm4 : m ≤ 6 := by omega
    have eB2 : But p H H2 := ((But.of e0).trans e1).trans e2
    refine q_asgR (K := K) (rss := List.replicate m (List.replicate m (.int 0))) (elr_is (er_lcRd (n := m) (out := fun i => List.replicate i (List.replicate m (.int 0))) (Evl.ea_cons (ev_var rfl) Evl.ea_nil) (by omega) rfl (fun i hi => by rw [List.length_replicate]; omega) (fun _ => rfl) fun i H1 e1 hi => ⟨_, el_rep (WT.el_lst (ea_d (ed_ev ev_c fz_int) ea_nil) (by decide)) (ev_var rfl) (by omega), ?_⟩) ?_) fun q qs H3 hq e3 R => ?_
    · rw [List.replicate_succ']
    · rfl
    · have hpq : p ∉ q :: qs := fun z => by
        obtain ⟨_, g⟩ := hP2.obj
        rw [hq p z] at g
        cases g
      have hqH : ∀ x ∈ q :: qs, H x = none := fun x hx => eB2.fresh (hq x hx) (fun z => hpq (z ▸ hx))
      let J : Nat → Hp → Prop := fun c H' => ∃ F, RowsP K H' q qs (rN F) ∧ Sq m F ∧ Mk F ∧ But p H H' ∧ PotAt H' p c
      have Jex : ∀ {c : Nat} {H' H'' : Hp}, J c H' → Ex H' H'' → J c H'' := fun ⟨F, a1, a2, a3, a4, a5⟩ e => ⟨F, a1.ex e, a2, a3, a4.ex e, a5.ex e⟩
      have Jle : ∀ {c d : Nat} {H' : Hp}, J c H' → c ≤ d → J d H' := fun ⟨F, a1, a2, a3, a4, a5⟩ e => ⟨F, a1, a2, a3, a4, a5.le e⟩
      -- one mark set
      have Jset : ∀ {σ : L2.St} {c : Nat} {H' : Hp} {Nx : L2.St → Hp → Prop} {i j x : Nat} {te tb tc : TE}, J c H' → Ed K te σ H' (.int (x : Int)) → x ≤ 2 → σ[4]? = some (some (.ref q)) → Ev tb σ H' (.int (i : Int)) → Ev tc σ H' (.int (j : Int)) → i < m → j < m →
          (∀ H2, J c H2 → Nx σ H2) → te σ H' fun v H1 => gSub (tOp (rIxL K) (tVar 4) tb) tc rSetL v σ H1 Nx := fun {σ c H' Nx i j x te tb tc} hJ he hx h4 hi hj him hjm kk => by
        obtain ⟨F, RF, sqF, mkF, eB, hPc⟩ := hJ
        obtain ⟨row, hrow, hrowl, _⟩ := sqF.get him
        refine s_setRow (Dn := { nx := Nx, rt := fun _ _ => True }) RF he (ev_var h4) hi hj (rN_get hrow) (by rw [rNs_len, hrowl]; exact hjm) fun H6 q' xs v hq' e6 h6 R6 => kk _ ⟨F.set i (row.set j x), ?_, sq_set sqF hrow, mk_set mkF hrow hx, (eB.ex e6).mut (hqH q' (List.mem_cons_of_mem _ hq')), ?_⟩
        · rw [← rN_set]
          exact R6
        · obtain ⟨a1, b1, c1, ⟨g1, g3⟩, g2⟩ := hPc.ex e6
          exact ⟨a1, b1, c1, ⟨by rw [upd_ne (show p ≠ q' from fun z => hpq (z ▸ List.mem_cons_of_mem _ hq'))]; exact g1, g3⟩, g2⟩
      -- a draw
      have Jbut : ∀ {c : Nat} {H' H'' : Hp}, J c H' → But p H' H'' → PotAt H'' p (c + 1) → J (c + 1) H'' := fun {c H' H''} ⟨F, a1, a2, a3, a4, a5⟩ e hp => ⟨F, a1.but (a5.tex e) e hpq, a2, a3, a4.trans e, hp⟩
      refine q_forR1 (n := (m : Int)) (Evl.ea_cons (ev_var rfl) Evl.ea_nil) ⟨by omega, by omega⟩ (fun i σ' H' => (∃ z5 z6, σ' = [some (.ref p), some (.int (mo : Int)), some (.int (m : Int)), some (.int (kd : Int)), some (.ref q), z5, z6, none, none]) ∧ J (n + 2 + 12 * i) H') (fun H4 e4 => ?_) (fun i σ' H' hi h => ?_) (fun σ' H' h => ?_)
      · refine ⟨⟨none, none, rfl⟩, List.replicate m (List.replicate m 0), ?_, sq_zero, mk_zero, eB2.ex (e3.trans e4), (hP2.ex (e3.trans e4)).le (by omega)⟩
        rw [rN_zero]
        exact R.ex e4
      · obtain ⟨⟨z5, z6, rfl⟩, hJ⟩ := h
        have him : i < m := by omega
        refine s_forR1 (n := (m : Int)) (Evl.ea_cons (ev_var rfl) Evl.ea_nil) ⟨by omega, by omega⟩ (fun j σ' H' => (∃ z6, σ' = [some (.ref p), some (.int (mo : Int)), some (.int (m : Int)), some (.int (kd : Int)), some (.ref q), some (.int (i : Int)), z6, none, none]) ∧ J (n + 2 + 12 * i + 2 * j) H') (fun H4 e4 => ⟨⟨z6, rfl⟩, Jex hJ e4⟩) (fun j σ' H4 hj h => ?_) (fun σ' H4 h => ?_)
        · obtain ⟨⟨z6, rfl⟩, hJ4⟩ := h
          have hjm : j < m := by omega
          refine q_whenJ (b := decide (V.int (kd : Int) = V.int 0)) (J (n + 2 + 12 * i + 2 * j + 1)) (et_test (ev_op (ev_var rfl) ev_c (rv_eq rfl))) (fun _ H5 e5 Nx hNx => ?_) (fun _ H5 e5 => Jle (Jex hJ4 e5) (by omega)) fun H5 hJ5 => ?_
          · refine s_asgM (c_cb (c_cons (x_take (u := 3) (ev_var rfl) ev_c (by obtain ⟨F, a1, a2, a3, a4, a5⟩ := Jex hJ4 e5; exact a5) (by omega) (by decide) (by decide) fun x H6 hx e6 hP6 => c_nil (.inl ⟨_, rfl, ?_⟩))))
            exact Jset (te := tC (.int (x : Int))) (Jbut (Jex hJ4 e5) e6 hP6) (ed_ev ev_c fz_int) (by omega) rfl (ev_var rfl) (ev_var rfl) him hjm hNx
          · have hcond : EvT _ [some (V.ref p), some (.int (mo : Int)), some (.int (m : Int)), some (.int (kd : Int)), some (.ref q), some (.int (i : Int)), some (.int (j : Int)), none, none] H5 (inV (.int (kd : Int)) [.int 1, .int 2] && decide ((i : Int) < (j : Int))) :=
              et_and (et_test (ev_inU (K := K) (ev_var (i := 3) rfl) (eu_tup (Evl.ea_cons ev_c (Evl.ea_cons ev_c Evl.ea_nil)) (show 2 ≤ 100000 by decide)) rfl rfl)) fun _ => et_test (ev_op (ev_var (i := 5) rfl) (ev_var (i := 6) rfl) (rv_I0 (g := fun i j => .bl (decide (i < j)))))
            refine q_whenJ (J (n + 2 + 12 * i + 2 * j + 2)) hcond (fun hb H6 e6 Nx hNx => ?_) (fun _ H6 e6 => Jle (Jex hJ5 e6) (by omega)) fun H6 hJ6 => ?_
            · refine q_asgM (c_cb (c_cons (x_take (u := 2) (ev_var rfl) ev_c (by obtain ⟨F, a1, a2, a3, a4, a5⟩ := Jex hJ5 e6; exact a5) (by omega) (by decide) (by decide) fun x H7 hx e7 hP7 => c_nil (.inl ⟨_, rfl, ?_⟩))))
              refine Jset (σ := [some (V.ref p), some (.int (mo : Int)), some (.int (m : Int)), some (.int (kd : Int)), some (.ref q), some (.int (i : Int)), some (.int (j : Int)), none, none]) (tb := tVar 5) (tc := tVar 6) (te := tC (.int (x : Int))) (Jbut (Jex hJ5 e6) e7 hP7) (ed_ev ev_c fz_int) (by omega) rfl (ev_var rfl) (ev_var rfl) him hjm fun H8 hJ8 => ?_
              obtain ⟨F, RF, sqF, mkF, eB, hPc⟩ := hJ8
              obtain ⟨row, hrow, hrowl, _⟩ := sqF.get him
              have hat := sqF.at hrow hjm
              have hedge : at2 F i j ≤ 2 := mkF row (List.mem_of_getElem? hrow) _ (List.mem_of_getElem? hat)
              exact s_asgM (Jset (x := at2 F i j) ⟨F, RF, sqF, mkF, eB, hPc⟩ (ed_rowAt2 RF (ev_var rfl) (ev_var rfl) (ev_var rfl) (rN_get hrow) (by unfold rNs; rw [List.getElem?_map, hat]; rfl)) hedge rfl (ev_var rfl) (ev_var rfl) hjm him hNx)
            · refine s_whenJ (b := decide (V.int (kd : Int) = V.int 3)) (J (n + 2 + 12 * i + 2 * j + 2)) (et_test (ev_op (ev_var rfl) ev_c (rv_eq rfl))) (fun _ H7 e7 Nx hNx => ?_) (fun _ H7 e7 => Jex hJ6 e7) fun H7 hJ7 => ⟨⟨_, rfl⟩, Jle hJ7 (by omega)⟩
              have hin : Ev _ [some (V.ref p), some (.int (mo : Int)), some (.int (m : Int)), some (.int (kd : Int)), some (.ref q), some (.int (i : Int)), some (.int (j : Int)), none, none] H7 (.bl (inV (.int (((i : Int) - (j : Int)) % (m : Int))) [.int 1, .int ((m : Int) - 1)])) :=
                ev_inU (K := K) (ev_op (ev_op (ev_var (i := 5) rfl) (ev_var (i := 6) rfl) (rv_I0 (g := fun i j => .int (i - j)))) (ev_var (i := 2) rfl) (rv_I (g := fun i j => .int (i % j)) (C := fun _ j => 0 < j) (show (0 : Int) < (m : Int) by omega))) (eu_tup (Evl.ea_cons ev_c (Evl.ea_cons (ev_op (ev_var (i := 2) rfl) ev_c (rv_I0 (g := fun i j => .int (i - j)))) Evl.ea_nil)) (show 2 ≤ 100000 by decide)) rfl rfl
              have hint := ev_intB hin
              refine s_asgM (Jset (x := if inV (.int (((i : Int) - (j : Int)) % (m : Int))) [.int 1, .int ((m : Int) - 1)] then 1 else 0) (Jex hJ6 e7) (ed_ev hint ?_) (by split <;> omega) rfl (ev_var rfl) (ev_var rfl) him hjm hNx)
              cases inV (.int (((i : Int) - (j : Int)) % (m : Int))) [.int 1, .int ((m : Int) - 1)]
              · exact fz_int
              · exact fz_int
        · obtain ⟨⟨z6, rfl⟩, hJ4⟩ := h
          exact ⟨⟨_, _, rfl⟩, Jle hJ4 (by omega)⟩
      · obtain ⟨⟨z5, z6, rfl⟩, F, RF, sqF, mkF, eB, hPc⟩ := h
        refine s_retD (ed_tupRows (ev_var rfl) RF (by rw [sqF.len]; omega) (fun _ => rfl) fun _ => rfl) fun v H4 e4 f => k v H4 m F (eB.ex e4) ((hPc.ex e4).le (by omega)) ⟨sqF.len, sqF.row⟩ hm3 hm4 mkF f
end
abbrev s_told_moved : Stmt := top 23
abbrev N_told_moved : List Str := ["picture", "position", "row", "found", "place", "other", "mark"]
theorem sc_told_moved : FnScope N_told_moved ["picture", "position"] (defScope s_told_moved) := ⟨rfl, rfl, rfl, by decide +kernel, rfl, by decide +kernel, by decide +kernel⟩
def rMoved8 (as : List Ag) (d : PyData) : Prop := ∃ (k : Nat) (M : List (List Nat)) (p : List Nat), as = [.d (tNN M), .d (tN p)] ∧ Sq k M ∧ k ≤ 8 ∧ p.Perm (List.range k) ∧ d = tNN (movedN k M p)
section
variable {P : Program} {w : World} {K : PySem.W.Frag} {mg : Str → Option Value} {base : Heap}
theorem ok_told_moved (B : Bt mg) (d : DefIn K mg "told_moved" ["picture", "position"] s_told_moved) : Okd P w K mg base "told_moved" ["picture", "position"] s_told_moved 1 (spD K 2 rMoved8) := by
  refine Okd.mk d sc_told_moved (fun vs H Q E h => spD_len h) (fun f cdv A outer s H vs Q E hr h => ?_)
  obtain ⟨as, d, _, hv, ⟨m, M, p, rfl, hM, hm, hp, rfl⟩, k⟩ := h
  obtain ⟨y, z, rfl, hy, hz⟩ := agl2 hv
  replace hy := agd hy
  replace hz := agd hz
  refine ⟨_, (pss_cons (ps_setLc (i := 3) (own := [("row", 2)]) rfl sc_told_moved.nd rfl rfl (sw_true rfl rfl rfl (by decide +kernel)) (pi_tup (pv 0)) (blkOk_by (own := [("row", 2)]) (N := N_told_moved) (sc := defScope s_told_moved) (by decide +kernel)) (fun _ _ _ _ _ => pg_name (i := 2) sc_told_moved.nd rfl (Or.inl rfl)) (fun _ _ _ _ _ => pts_nil) (fun _ _ _ _ _ => (pe_op op_rep (pe_lst (pa_cons pe_int pa_nil)) (pe_callB (cK (K := K) (r := rLenS) call_len_seq rfl) (by rfl) B.len boot_len (pa_cons (pv 0) pa_nil)))))
      (pss_cons (ps_for PassesOwn.never rfl (pi_enumT (by rfl) B.enumerate (pa_cons (pv 0) pa_nil)) (pg_tup (by rfl) (pgs_cons (pg_name (i := 4) sc_told_moved.nd rfl (Or.inl rfl)) (pgs_cons (pg_name (i := 2) sc_told_moved.nd rfl (Or.inl rfl)) pgs_nil))) (pss_one (ps_for PassesOwn.never rfl (pi_enumT (by rfl) B.enumerate (pa_cons (pv 2) pa_nil)) (pg_tup (by rfl) (pgs_cons (pg_name (i := 5) sc_told_moved.nd rfl (Or.inl rfl)) (pgs_cons (pg_name (i := 6) sc_told_moved.nd rfl (Or.inl rfl)) pgs_nil))) (pss_one (ps_asg (pv 6) (pg_sub (pe_ix ix_list (pv 3) (pe_ix ix_tup (pv 1) (pv 4) (fun _ _ => rfl)) (fun _ _ => rfl)) (pe_ix ix_tup (pv 1) (pv 5) (fun _ _ => rfl)) set_list))))))
      (pss_one (ps_ret (pe_callTy call_tuple_of (by rfl) B.tuple boot_tuple (pa_cons (pe_lc (own := [("row", 2)]) rfl sc_told_moved.nd (pi_list (pv 3)) (blkOk_by (own := [("row", 2)]) (N := N_told_moved) (sc := defScope s_told_moved) (by decide +kernel)) (fun _ _ _ _ _ => pg_name (i := 2) sc_told_moved.nd rfl (Or.inl rfl)) (fun _ _ _ _ _ => pts_nil) (fun _ _ _ _ _ => (pe_callTy (cK (K := K) (r := rTupOf) call_tuple_of rfl) (by rfl) B.tuple boot_tuple (pa_cons (pv 2) pa_nil)))) pa_nil)))))), ?_⟩
  have hl := hM.len
  have hpl := perm_len hp
  have hlen : ∀ {H1 : Hp} {σ : L2.St}, Ex H H1 → σ[0]? = some (some y) → Ev (tCB (rLenS K) (tCons (tVar 0) tNil)) σ H1 (.int (m : Int)) := fun e h0 => ev_is (ev_lenT (ed_var h0 (fz_ex e hy))) (by rw [List.length_map, hl])
  refine q_asgR (rss := List.replicate m (List.replicate m (.int 0))) (elr_is (er_lcTd (out := fun i => List.replicate i (List.replicate m (.int 0))) (ed_var rfl hy) rfl (fun i hi => ?_) (fun _ => rfl) fun i x d H1 e1 hd f => ⟨_, el_rep (WT.el_lst (ea_d (ed_ev ev_c fz_int) ea_nil) (by decide)) (hlen e1 rfl) (by omega), ?_⟩) ?_) fun q qs H1 hq e1 R => ?_
  · rw [List.length_replicate]
    rw [List.length_map] at hi
    omega
  · rw [List.replicate_succ']
  · rw [List.length_map, hl]
  · have hqn : ∀ x ∈ q :: qs, H x = none := hq
    -- after n rows
    let In (F : List (List Nat)) (n j : Nat) : Prop := Sq m F ∧ ∀ a b c d, (a < n ∨ (a = n ∧ b < j)) → p[a]? = some c → p[b]? = some d → at2 F c d = at2 M a b
    have hp1 : ∀ {H1 : Hp}, TEx H H1 → Fz K H1 (tN p) z := fun e => Fz.mono e _ _ hz
    refine q_forEn (ed_var rfl (fz_ex e1 hy)) fun H2 e2 => ⟨fun n σ' H' => (∃ z2 z4 z5 z6, σ' = [some y, some z, z2, some (.ref q), z4, z5, z6]) ∧ TEx H2 H' ∧ Ex H H' ∧ ∃ F, RowsP K H' q qs (rN F) ∧ In F n 0,
      ⟨⟨none, none, none, none, rfl⟩, TEx.refl _, e1.trans e2, List.replicate m (List.replicate m 0), ?_, sq_zero, fun a b c d h => ?_⟩, fun n σ' H' h => h.2.1, ?_, ?_⟩
    · have e : rN (List.replicate m (List.replicate m 0)) = List.replicate m (List.replicate m (.int 0)) := by
        unfold rN rNs
        rw [List.map_replicate, List.map_replicate]
        rfl
      rw [e]
      exact R.ex e2
    · omega
    · rintro n x d σ' H' H'' hd eH hx ⟨⟨z2, z4, z5, z6, rfl⟩, tx, eX, F, RF, sqF, inv⟩
      obtain ⟨r, hr, rfl⟩ := map_get hd
      have hrl := hM.row r (List.mem_of_getElem? hr)
      have hn : n < m := by
        have := (List.getElem?_eq_some_iff.mp hr).1
        omega
      obtain ⟨pn, hpn⟩ : ∃ a, p[n]? = some a := ⟨_, List.getElem?_eq_getElem (by omega)⟩
      refine s_forEn (ed_var rfl hx) fun H3 e3 => ⟨fun j σ' H' => (∃ z5 z6, σ' = [some y, some z, some x, some (.ref q), some (.int (n : Int)), z5, z6]) ∧ TEx H3 H' ∧ Ex H H' ∧ ∃ F, RowsP K H' q qs (rN F) ∧ In F n j,
        ⟨⟨z5, z6, rfl⟩, TEx.refl _, (eX.trans eH).trans e3, F, RF.ex (eH.trans e3), sqF, inv⟩, fun n σ' H' h => h.2.1, ?_, ?_⟩
      · rintro j x2 d2 σ' H4 H5 hd2 eH5 hx2 ⟨⟨z5, z6, rfl⟩, tx4, eX4, F4, RF4, sqF4, inv4⟩
        obtain ⟨mk, hmk, rfl⟩ := tN_get hd2
        have hj : j < m := by
          have := (List.getElem?_eq_some_iff.mp hmk).1
          omega
        obtain ⟨pj, hpj⟩ : ∃ a, p[j]? = some a := ⟨_, List.getElem?_eq_getElem (by omega)⟩
        have hzz : Fz K H5 (tN p) z := hp1 (tex_of (eX4.trans eH5))
        have gp : ∀ {i a : Nat}, p[i]? = some a → (p.map fun n : Nat => PyData.int (n : Int))[i]? = some (.int (a : Int)) := fun h => by
          rw [List.getElem?_map, h]
          rfl
        obtain ⟨row, hrow, hrowl, _⟩ := sqF4.get (perm_lt hp hpn)
        refine s_setRow (RF4.ex eH5) (ed_var rfl hx2) (ev_var rfl) (ev_int (ed_ixT (ed_var rfl hzz) (ev_var rfl) (gp hpn))) (ev_int (ed_ixT (ed_var rfl hzz) (ev_var rfl) (gp hpj))) (rN_get hrow) (by unfold rNs; rw [List.length_map, hrowl]; exact perm_lt hp hpj) fun H6 q' xs v hq' e6 h6 R6 => ?_
        refine ⟨⟨_, _, rfl⟩, (tx4.trans (tex_of (eH5.trans e6))).trans (tex_lst h6), Ex.mut ((eX4.trans eH5).trans e6) (hqn q' (List.mem_cons_of_mem _ hq')), F4.set pn (row.set pj mk), ?_, sq_set sqF4 hrow, fun a b c d h hc hd5 => ?_⟩
        · rw [← rN_set]
          exact R6
        · rw [at2_set sqF4 hrow (perm_lt hp hpj)]
          by_cases hcd : c = pn ∧ d = pj
          · rw [if_pos hcd]
            have ea : a = n := by rw [← idx_of_get (perm_nd hp) hc, hcd.1, idx_of_get (perm_nd hp) hpn]
            have eb : b = j := by rw [← idx_of_get (perm_nd hp) hd5, hcd.2, idx_of_get (perm_nd hp) hpj]
            subst ea eb
            have z1 := hM.at hr hj
            rw [hmk] at z1
            exact Option.some.inj z1
          · rw [if_neg hcd]
            refine inv4 a b c d ?_ hc hd5
            rcases h with h | ⟨h1, h2⟩
            · exact .inl h
            · refine .inr ⟨h1, ?_⟩
              rcases Nat.lt_or_eq_of_le (Nat.le_of_lt_succ h2) with h3 | h3
              · exact h3
              · subst h1 h3
                rw [hpn] at hc
                rw [hpj] at hd5
                exact absurd ⟨(Option.some.inj hc).symm, (Option.some.inj hd5).symm⟩ hcd
      · rintro σ' H4 ⟨⟨z5, z6, rfl⟩, tx4, eX4, F4, RF4, sqF4, inv4⟩
        refine ⟨⟨_, _, _, _, rfl⟩, (tx.trans (tex_of (eH.trans e3))).trans tx4, eX4, F4, RF4, sqF4, fun a b c d h hc hd => inv4 a b c d ?_ hc hd⟩
        rcases h with h | h
        · rcases Nat.lt_or_eq_of_le (Nat.le_of_lt_succ h) with h3 | h3
          · exact .inl h3
          · refine .inr ⟨h3, ?_⟩
            have := (List.getElem?_eq_some_iff.mp hd).1
            rw [List.length_map]
            omega
        · omega
    · rintro σ' H' ⟨⟨z2, z4, z5, z6, rfl⟩, tx, eX, F, RF, sqF, inv⟩
      have hF : movedN m M p = F := moved_of hp sqF fun i j a b ha hb => inv i j a b (.inl (by
        have := (List.getElem?_eq_some_iff.mp ha).1
        rw [List.length_map]
        omega)) ha hb
      have hFl : (rN F).length = m := by
        unfold rN
        rw [List.length_map, sqF.len]
      refine s_retD (ed_tupOf (el_is (el_lcRows (out := fun i => ((rN F).map PyData.tuple).take i) (ev_var rfl) RF rfl (fun i hi => ?_) (fun _ => rfl) fun i q2 xs r H4 e4 hr hx hf => ⟨.tuple r, ed_tupOfL (ev_var rfl) (sq_of hx) hf, take_get (by rw [List.getElem?_map, hr]; rfl)⟩) (by rw [List.take_of_length_le (by rw [List.length_map]; exact Nat.le_refl _)]))) fun v H4 e4 f => k v H4 (eX.trans e4) ?_
      · rw [List.length_take]
        omega
      · rw [hF, tNN_rN]
        exact f
end
abbrev s_law_moved : Stmt := top 48
abbrev N_law_moved : List Str := ["picture", "position", "row", "found", "one", "other", "mark"]
theorem sc_law_moved : FnScope N_law_moved ["picture", "position"] (defScope s_law_moved) := ⟨rfl, rfl, rfl, by decide +kernel, rfl, by decide +kernel, by decide +kernel⟩
section
variable {P : Program} {w : World} {K : PySem.W.Frag} {mg : Str → Option Value} {base : Heap}
theorem ok_law_moved (B : Bt mg) (d : DefIn K mg "_law_moved" ["picture", "position"] s_law_moved) : Okd P w K mg base "_law_moved" ["picture", "position"] s_law_moved 1 (spD K 2 rMoved8) := by
  refine Okd.mk d sc_law_moved (fun vs H Q E h => spD_len h) (fun f cdv A outer s H vs Q E hr h => ?_)
  obtain ⟨as, d, _, hv, ⟨m, M, p, rfl, hM, hm, hp, rfl⟩, k⟩ := h
  obtain ⟨y, z, rfl, hy, hz⟩ := agl2 hv
  replace hy := agd hy
  replace hz := agd hz
  refine ⟨_, (pss_cons (ps_setLc (i := 3) (own := [("row", 2)]) rfl sc_law_moved.nd rfl rfl (sw_true rfl rfl rfl (by decide +kernel)) (pi_tup (pv 0)) (blkOk_by (own := [("row", 2)]) (N := N_law_moved) (sc := defScope s_law_moved) (by decide +kernel)) (fun _ _ _ _ _ => pg_name (i := 2) sc_law_moved.nd rfl (Or.inl rfl)) (fun _ _ _ _ _ => pts_nil) (fun _ _ _ _ _ => (pe_op op_rep (pe_lst (pa_cons pe_int pa_nil)) (pe_callB (cK (K := K) (r := rLenS) call_len_seq rfl) (by rfl) B.len boot_len (pa_cons (pv 0) pa_nil)))))
      (pss_cons (ps_for PassesOwn.never rfl (pi_enumT (by rfl) B.enumerate (pa_cons (pv 0) pa_nil)) (pg_tup (by rfl) (pgs_cons (pg_name (i := 4) sc_law_moved.nd rfl (Or.inl rfl)) (pgs_cons (pg_name (i := 2) sc_law_moved.nd rfl (Or.inl rfl)) pgs_nil))) (pss_one (ps_for PassesOwn.never rfl (pi_enumT (by rfl) B.enumerate (pa_cons (pv 2) pa_nil)) (pg_tup (by rfl) (pgs_cons (pg_name (i := 5) sc_law_moved.nd rfl (Or.inl rfl)) (pgs_cons (pg_name (i := 6) sc_law_moved.nd rfl (Or.inl rfl)) pgs_nil))) (pss_one (ps_asg (pv 6) (pg_sub (pe_ix ix_list (pv 3) (pe_ix ix_tup (pv 1) (pv 4) (fun _ _ => rfl)) (fun _ _ => rfl)) (pe_ix ix_tup (pv 1) (pv 5) (fun _ _ => rfl)) set_list))))))
      (pss_one (ps_ret (pe_callTy call_tuple_of (by rfl) B.tuple boot_tuple (pa_cons (pe_lc (own := [("row", 2)]) rfl sc_law_moved.nd (pi_list (pv 3)) (blkOk_by (own := [("row", 2)]) (N := N_law_moved) (sc := defScope s_law_moved) (by decide +kernel)) (fun _ _ _ _ _ => pg_name (i := 2) sc_law_moved.nd rfl (Or.inl rfl)) (fun _ _ _ _ _ => pts_nil) (fun _ _ _ _ _ => (pe_callTy (cK (K := K) (r := rTupOf) call_tuple_of rfl) (by rfl) B.tuple boot_tuple (pa_cons (pv 2) pa_nil)))) pa_nil)))))), ?_⟩
  have hl := hM.len
  have hpl := perm_len hp
  have hlen : ∀ {H1 : Hp} {σ : L2.St}, Ex H H1 → σ[0]? = some (some y) → Ev (tCB (rLenS K) (tCons (tVar 0) tNil)) σ H1 (.int (m : Int)) := fun e h0 => ev_is (ev_lenT (ed_var h0 (fz_ex e hy))) (by rw [List.length_map, hl])
  refine q_asgR (rss := List.replicate m (List.replicate m (.int 0))) (elr_is (er_lcTd (out := fun i => List.replicate i (List.replicate m (.int 0))) (ed_var rfl hy) rfl (fun i hi => ?_) (fun _ => rfl) fun i x d H1 e1 hd f => ⟨_, el_rep (WT.el_lst (ea_d (ed_ev ev_c fz_int) ea_nil) (by decide)) (hlen e1 rfl) (by omega), ?_⟩) ?_) fun q qs H1 hq e1 R => ?_
  · rw [List.length_replicate]
    rw [List.length_map] at hi
    omega
  · rw [List.replicate_succ']
  · rw [List.length_map, hl]
  · have hqn : ∀ x ∈ q :: qs, H x = none := hq
    -- after n rows
    let In (F : List (List Nat)) (n j : Nat) : Prop := Sq m F ∧ ∀ a b c d, (a < n ∨ (a = n ∧ b < j)) → p[a]? = some c → p[b]? = some d → at2 F c d = at2 M a b
    have hp1 : ∀ {H1 : Hp}, TEx H H1 → Fz K H1 (tN p) z := fun e => Fz.mono e _ _ hz
    refine q_forEn (ed_var rfl (fz_ex e1 hy)) fun H2 e2 => ⟨fun n σ' H' => (∃ z2 z4 z5 z6, σ' = [some y, some z, z2, some (.ref q), z4, z5, z6]) ∧ TEx H2 H' ∧ Ex H H' ∧ ∃ F, RowsP K H' q qs (rN F) ∧ In F n 0,
      ⟨⟨none, none, none, none, rfl⟩, TEx.refl _, e1.trans e2, List.replicate m (List.replicate m 0), ?_, sq_zero, fun a b c d h => ?_⟩, fun n σ' H' h => h.2.1, ?_, ?_⟩
    · have e : rN (List.replicate m (List.replicate m 0)) = List.replicate m (List.replicate m (.int 0)) := by
        unfold rN rNs
        rw [List.map_replicate, List.map_replicate]
        rfl
      rw [e]
      exact R.ex e2
    · omega
    · rintro n x d σ' H' H'' hd eH hx ⟨⟨z2, z4, z5, z6, rfl⟩, tx, eX, F, RF, sqF, inv⟩
      obtain ⟨r, hr, rfl⟩ := map_get hd
      have hrl := hM.row r (List.mem_of_getElem? hr)
      have hn : n < m := by
        have := (List.getElem?_eq_some_iff.mp hr).1
        omega
      obtain ⟨pn, hpn⟩ : ∃ a, p[n]? = some a := ⟨_, List.getElem?_eq_getElem (by omega)⟩
      refine s_forEn (ed_var rfl hx) fun H3 e3 => ⟨fun j σ' H' => (∃ z5 z6, σ' = [some y, some z, some x, some (.ref q), some (.int (n : Int)), z5, z6]) ∧ TEx H3 H' ∧ Ex H H' ∧ ∃ F, RowsP K H' q qs (rN F) ∧ In F n j,
        ⟨⟨z5, z6, rfl⟩, TEx.refl _, (eX.trans eH).trans e3, F, RF.ex (eH.trans e3), sqF, inv⟩, fun n σ' H' h => h.2.1, ?_, ?_⟩
      · rintro j x2 d2 σ' H4 H5 hd2 eH5 hx2 ⟨⟨z5, z6, rfl⟩, tx4, eX4, F4, RF4, sqF4, inv4⟩
        obtain ⟨mk, hmk, rfl⟩ := tN_get hd2
        have hj : j < m := by
          have := (List.getElem?_eq_some_iff.mp hmk).1
          omega
        obtain ⟨pj, hpj⟩ : ∃ a, p[j]? = some a := ⟨_, List.getElem?_eq_getElem (by omega)⟩
        have hzz : Fz K H5 (tN p) z := hp1 (tex_of (eX4.trans eH5))
        have gp : ∀ {i a : Nat}, p[i]? = some a → (p.map fun n : Nat => PyData.int (n : Int))[i]? = some (.int (a : Int)) := fun h => by
          rw [List.getElem?_map, h]
          rfl
        obtain ⟨row, hrow, hrowl, _⟩ := sqF4.get (perm_lt hp hpn)
        refine s_setRow (RF4.ex eH5) (ed_var rfl hx2) (ev_var rfl) (ev_int (ed_ixT (ed_var rfl hzz) (ev_var rfl) (gp hpn))) (ev_int (ed_ixT (ed_var rfl hzz) (ev_var rfl) (gp hpj))) (rN_get hrow) (by unfold rNs; rw [List.length_map, hrowl]; exact perm_lt hp hpj) fun H6 q' xs v hq' e6 h6 R6 => ?_
        refine ⟨⟨_, _, rfl⟩, (tx4.trans (tex_of (eH5.trans e6))).trans (tex_lst h6), Ex.mut ((eX4.trans eH5).trans e6) (hqn q' (List.mem_cons_of_mem _ hq')), F4.set pn (row.set pj mk), ?_, sq_set sqF4 hrow, fun a b c d h hc hd5 => ?_⟩
        · rw [← rN_set]
          exact R6
        · rw [at2_set sqF4 hrow (perm_lt hp hpj)]
          by_cases hcd : c = pn ∧ d = pj
          · rw [if_pos hcd]
            have ea : a = n := by rw [← idx_of_get (perm_nd hp) hc, hcd.1, idx_of_get (perm_nd hp) hpn]
            have eb : b = j := by rw [← idx_of_get (perm_nd hp) hd5, hcd.2, idx_of_get (perm_nd hp) hpj]
            subst ea eb
            have z1 := hM.at hr hj
            rw [hmk] at z1
            exact Option.some.inj z1
          · rw [if_neg hcd]
            refine inv4 a b c d ?_ hc hd5
            rcases h with h | ⟨h1, h2⟩
            · exact .inl h
            · refine .inr ⟨h1, ?_⟩
              rcases Nat.lt_or_eq_of_le (Nat.le_of_lt_succ h2) with h3 | h3
              · exact h3
              · subst h1 h3
                rw [hpn] at hc
                rw [hpj] at hd5
                exact absurd ⟨(Option.some.inj hc).symm, (Option.some.inj hd5).symm⟩ hcd
      · rintro σ' H4 ⟨⟨z5, z6, rfl⟩, tx4, eX4, F4, RF4, sqF4, inv4⟩
        refine ⟨⟨_, _, _, _, rfl⟩, (tx.trans (tex_of (eH.trans e3))).trans tx4, eX4, F4, RF4, sqF4, fun a b c d h hc hd => inv4 a b c d ?_ hc hd⟩
        rcases h with h | h
        · rcases Nat.lt_or_eq_of_le (Nat.le_of_lt_succ h) with h3 | h3
          · exact .inl h3
          · refine .inr ⟨h3, ?_⟩
            have := (List.getElem?_eq_some_iff.mp hd).1
            rw [List.length_map]
            omega
        · omega
    · rintro σ' H' ⟨⟨z2, z4, z5, z6, rfl⟩, tx, eX, F, RF, sqF, inv⟩
      have hF : movedN m M p = F := moved_of hp sqF fun i j a b ha hb => inv i j a b (.inl (by
        have := (List.getElem?_eq_some_iff.mp ha).1
        rw [List.length_map]
        omega)) ha hb
      have hFl : (rN F).length = m := by
        unfold rN
        rw [List.length_map, sqF.len]
      refine s_retD (ed_tupOf (el_is (el_lcRows (out := fun i => ((rN F).map PyData.tuple).take i) (ev_var rfl) RF rfl (fun i hi => ?_) (fun _ => rfl) fun i q2 xs r H4 e4 hr hx hf => ⟨.tuple r, ed_tupOfL (ev_var rfl) (sq_of hx) hf, take_get (by rw [List.getElem?_map, hr]; rfl)⟩) (by rw [List.take_of_length_le (by rw [List.length_map]; exact Nat.le_refl _)]))) fun v H4 e4 f => k v H4 (eX.trans e4) ?_
      · rw [List.length_take]
        omega
      · rw [hF, tNN_rN]
        exact f
end
abbrev s_law_code : Stmt := top 49
abbrev N_law_code : List Str := ["picture", "found", "place", "other"]
theorem sc_law_code : FnScope N_law_code ["picture"] (defScope s_law_code) := ⟨rfl, rfl, rfl, by decide +kernel, rfl, by decide +kernel, by decide +kernel⟩
def codeP (k : Nat) (M : List (List Nat)) : List Nat := (List.range k).flatMap fun p => tells M (List.range p) p
def rCodeN8 (as : List Ag) (d : PyData) : Prop := ∃ (k : Nat) (M : List (List Nat)), as = [.d (tNN M)] ∧ Sq k M ∧ k ≤ 8 ∧ d = tN (codeP k M)
section
variable {P : Program} {w : World} {K : PySem.W.Frag} {mg : Str → Option Value} {base : Heap}
theorem ok_law_code (B : Bt mg) (d : DefIn K mg "_law_code" ["picture"] s_law_code) : Okd P w K mg base "_law_code" ["picture"] s_law_code 1 (spD K 1 rCodeN8) := by
  refine Okd.mk d sc_law_code (fun vs H Q E h => spD_len h) (fun f cdv A outer s H vs Q E hr h => ?_)
  obtain ⟨as, d, _, hv, ⟨m, M, rfl, hM, hm, rfl⟩, k⟩ := h
  obtain ⟨y, rfl, hy⟩ := agl1 hv
  replace hy := agd hy
  refine ⟨_, (pss_cons (ps_set (i := 1) sc_law_code.nd rfl (Or.inl rfl) (pe_lst pa_nil))
      (pss_cons (ps_for PassesOwn.never rfl (pi_range1 (by rfl) B.range (pa_cons (pe_callB call_len_seq (by rfl) B.len boot_len (pa_cons (pv 0) pa_nil)) pa_nil)) (pg_name (i := 2) sc_law_code.nd rfl (Or.inl rfl)) (pss_cons (ps_for PassesOwn.never rfl (pi_range1 (by rfl) B.range (pa_cons (pv 2) pa_nil)) (pg_name (i := 3) sc_law_code.nd rfl (Or.inl rfl)) (pss_one (ps_expr (pe_bm PySem.F.plainAttrs_list PySem.F.slot_list_extend PySem.F.type_list_extend mt_extend (pv 1) (pa_cons (pe_lst (pa_cons (pe_ix ix_tup (pe_ix ix_tup (pv 0) (pv 2) (fun _ _ => rfl)) (pv 3) (fun _ _ => rfl)) (pa_cons (pe_ix ix_tup (pe_ix ix_tup (pv 0) (pv 3) (fun _ _ => rfl)) (pv 2) (fun _ _ => rfl)) pa_nil))) pa_nil)))))
        (pss_one (ps_expr (pe_bm PySem.F.plainAttrs_list PySem.F.slot_list_append PySem.F.type_list_append mt_append (pv 1) (pa_cons (pe_ix ix_tup (pe_ix ix_tup (pv 0) (pv 2) (fun _ _ => rfl)) (pv 2) (fun _ _ => rfl)) pa_nil))))))
      (pss_one (ps_ret (pe_callTy call_tuple_of (by rfl) B.tuple boot_tuple (pa_cons (pv 1) pa_nil)))))), ?_⟩
  refine q_asgL (Evl.el_lst Evl.ea_nil (by decide)) fun l H1 hl e1 h1 => ?_
  have hlen : ∀ {σ : L2.St} {H1 : Hp}, Ex H H1 → σ[0]? = some (some y) → Ev (tCB (rLenS K) (tCons (tVar 0) tNil)) σ H1 (.int (m : Int)) := fun e h0 => ev_is (ev_lenT (ed_var h0 (fz_ex e hy))) (by rw [List.length_map, hM.len])
  have hb1 : ∀ (i : Nat), ((List.range i).flatMap fun p => tells M (List.range p) p).length ≤ i * (2 * i + 1) := fun i => by
    rw [List.length_flatMap]
    have h : ∀ l : List Nat, (∀ p ∈ l, p ≤ i) → (l.map fun p => (tells M (List.range p) p).length).sum ≤ l.length * (2 * i + 1) := fun l => by
      induction l with
      | nil =>
        intro _
        exact Nat.zero_le _
      | cons p l ih =>
        intro h
        rw [List.map_cons, List.sum_cons, List.length_cons, tells_len, List.length_range, Nat.add_mul, Nat.one_mul]
        have := ih fun x hx => h x (List.mem_cons_of_mem _ hx)
        have := h p List.mem_cons_self
        omega
    have h2 := h (List.range i) fun p hp => Nat.le_of_lt (List.mem_range.mp hp)
    rw [List.length_range] at h2
    exact h2
  have hb2 : ∀ (p j : Nat), ((List.range j).flatMap fun c => [at2 M p c, at2 M c p]).length = 2 * j := fun p j => by
    rw [List.length_flatMap]
    have : ((List.range j).map fun c => ([at2 M p c, at2 M c p] : List Nat).length) = List.replicate j 2 := by
      rw [List.eq_replicate_iff]
      exact ⟨by simp, fun b hb => by obtain ⟨a, _, rfl⟩ := List.mem_map.mp hb; rfl⟩
    rw [this, List.sum_replicate_nat]
    omega
  refine q_forR1 (n := (m : Int)) (Evl.ea_cons (hlen e1 rfl) Evl.ea_nil) ⟨by omega, by omega⟩ (fun i σ' H' => (∃ z2 z3, σ' = [some y, some (.ref l), z2, z3]) ∧ Ex H H' ∧ H' l = some (.lst (vN ((List.range i).flatMap fun p => tells M (List.range p) p)))) (fun H2 e2 => ⟨⟨none, none, rfl⟩, e1.trans e2, e2 _ _ h1⟩) (fun i σ' H' hi h => ?_) (fun σ' H' h => ?_)
  · obtain ⟨⟨z2, z3, rfl⟩, eX, hL⟩ := h
    have him : i < m := by omega
    have hbi := hb1 i
    have hbi2 : i * (2 * i + 1) ≤ 8 * 17 := Nat.mul_le_mul (by omega) (by omega)
    refine q_forR1 (n := (i : Int)) (Evl.ea_cons (ev_var rfl) Evl.ea_nil) ⟨by omega, by omega⟩ (fun j σ' H' => (∃ z3, σ' = [some y, some (.ref l), some (.int (i : Int)), z3]) ∧ Ex H H' ∧ H' l = some (.lst (vN (((List.range i).flatMap fun p => tells M (List.range p) p) ++ (List.range j).flatMap fun c => [at2 M i c, at2 M c i])))) (fun H2 e2 => ⟨⟨z3, rfl⟩, eX.trans e2, by simpa using e2 _ _ hL⟩) (fun j σ' H2 hj h => ?_) (fun σ' H2 h => ?_)
    · obtain ⟨⟨z3, rfl⟩, eY, hL2⟩ := h
      have hji : j < i := by omega
      have hy' := fz_ex eY hy
      have hbj := hb2 i j
      refine s_extE (K := K) (ds := [.int ((at2 M i j : Nat) : Int), .int ((at2 M j i : Nat) : Int)]) hL2 (ev_var rfl) (WT.el_lst (ea_d (ed_at2 hM (ed_var rfl hy') (ev_var rfl) (ev_var rfl) him (by omega)) (ea_d (ed_at2 hM (ed_var rfl hy') (ev_var rfl) (ev_var rfl) (by omega) him) ea_nil)) (show 2 ≤ 100000 by decide)) (by rw [vN_len, List.length_append]; show _ + 2 ≤ _; omega) fun zs H3 e3 f => ?_
      have hzs : zs = vN [at2 M i j, at2 M j i] := fzl_nats.mp f
      subst hzs
      refine ⟨⟨_, rfl⟩, (eY.trans e3).mut hl, ?_⟩
      rw [List.range_succ, List.flatMap_append, ← List.append_assoc]
      unfold vN
      rw [List.map_append (l₁ := ((List.range i).flatMap fun p => tells M (List.range p) p) ++ _)]
      simp only [List.flatMap_cons, List.flatMap_nil, List.append_nil]
      exact upd_same
    · obtain ⟨⟨z3, rfl⟩, eY, hL2⟩ := h
      rw [Int.toNat_natCast] at hL2
      have hbj := hb2 i i
      refine s_app (v := .int ((at2 M i i : Nat) : Int)) hL2 (ev_var rfl) (ev_int (ed_at2 hM (ed_var rfl (fz_ex eY hy)) (ev_var rfl) (ev_var rfl) him him)) (by rw [vN_len, List.length_append]; omega) fun H3 e3 => ⟨⟨_, _, rfl⟩, (eY.trans e3).mut hl, ?_⟩
      have e : (List.range (i + 1)).flatMap (fun p => tells M (List.range p) p) = (((List.range i).flatMap fun p => tells M (List.range p) p) ++ (List.range i).flatMap fun c => [at2 M i c, at2 M c i]) ++ [at2 M i i] := by
        rw [List.range_succ, List.flatMap_append, List.append_assoc]
        simp [tells]
      rw [e]
      unfold vN
      rw [List.map_append (l₂ := [at2 M i i])]
      exact upd_same
  · obtain ⟨⟨z2, z3, rfl⟩, eX, hL⟩ := h
    rw [Int.toNat_natCast] at hL
    exact s_retD (ed_tupOfL (ev_var rfl) (sq_of hL) (fzl_nats.mpr rfl)) fun v H3 e3 f => k v H3 (eX.trans e3) f
end
end WT
namespace WT
open PySem PySem.Spec PyProof.Rows L2 Evl SX
abbrev s_is_int : Stmt := top 8
abbrev N_is_int : List Str := ["value", "low", "high"]
theorem sc_is_int : FnScope N_is_int ["value", "low", "high"] (defScope s_is_int) := ⟨rfl, rfl, rfl, by decide +kernel, rfl, by decide +kernel, by decide +kernel⟩
section
variable {P : Program} {w : World} {K : PySem.W.Frag} {mg : Str → Option Value} {base : Heap}
theorem ok_is_int (B : Bt mg) (d : DefIn K mg "is_int" ["value", "low", "high"] s_is_int) : Okd P w K mg base "is_int" ["value", "low", "high"] s_is_int 1 (spD K 3 rIsInt) := by
  refine Okd.mk d sc_is_int (fun vs H Q E h => spD_len h) (fun f cdv A outer s H vs Q E hr h => ?_)
  obtain ⟨as, d, _, hv, ⟨i, lo, hi, rfl, rfl⟩, k⟩ := h
  obtain ⟨_, _, _, rfl, rfl, rfl, rfl⟩ := agl3 hv
  refine ⟨_, (pss_one (ps_ret (pe_and (pe_callB call_isi (by rfl) B.isinstance boot_isinstance (pa_cons (pv 0) (pa_cons (pe_bltn (v := V.ty "int") (u := Value.type "int") (by rfl) B.int boot_int rfl) pa_nil))) (pe_and (pe_not (pe_callB call_isi (by rfl) B.isinstance boot_isinstance (pa_cons (pv 0) (pa_cons (pe_bltn (v := V.ty "bool") (u := Value.type "bool") (by rfl) B.bool boot_bool rfl) pa_nil)))) (pe_one (pe_chain op_le op_le (pv 1) (pv 0) (pv 2))))))), ?_⟩
  refine s_ret (ev_andV (ev_isiI (ev_var rfl) rfl) fun _ => ev_andV (ev_notV (ev_isiI (ev_var rfl) rfl)) fun _ => ev_chain (ev_var rfl) (ev_var rfl) (ev_var rfl)) fun H1 e1 => k _ H1 e1 ?_
  exact fz_bl
end
/-- whether data is an int from one to another -/
def inB (d : PyData) (l h : Int) : Bool := match d with
  | .int i => decide (l ≤ i) && decide (i ≤ h)
  | _ => false
def rIsIntG (as : List Ag) (d : PyData) : Prop := ∃ (x : PyData) (l h : Int), as = [.d x, .v (.int l), .v (.int h)] ∧ d = .bool (inB x l h)
section
variable {P : Program} {w : World} {K : PySem.W.Frag} {mg : Str → Option Value} {base : Heap}
theorem ok_is_intG (B : Bt mg) (d : DefIn K mg "is_int" ["value", "low", "high"] s_is_int) : Okd P w K mg base "is_int" ["value", "low", "high"] s_is_int 1 (spD K 3 rIsIntG) := by
  refine Okd.mk d sc_is_int (fun vs H Q E h => spD_len h) (fun f cdv A outer s H vs Q E hr h => ?_)
  obtain ⟨as, d, _, hv, ⟨x, lo, hi, rfl, rfl⟩, k⟩ := h
  obtain ⟨v, _, _, rfl, hx, rfl, rfl⟩ := agl3 hv
  replace hx := agd hx
  refine ⟨_, (pss_one (ps_ret (pe_and (pe_callB call_isi (by rfl) B.isinstance boot_isinstance (pa_cons (pv 0) (pa_cons (pe_bltn (v := V.ty "int") (u := Value.type "int") (by rfl) B.int boot_int rfl) pa_nil))) (pe_and (pe_not (pe_callB call_isi (by rfl) B.isinstance boot_isinstance (pa_cons (pv 0) (pa_cons (pe_bltn (v := V.ty "bool") (u := Value.type "bool") (by rfl) B.bool boot_bool rfl) pa_nil)))) (pe_one (pe_chain op_le op_le (pv 1) (pv 0) (pv 2))))))), ?_⟩
  cases x with
  | int i =>
    obtain rfl := fz_intI hx
    refine s_ret (ev_andV (ev_isiI (ev_var rfl) rfl) fun _ => ev_andV (ev_notV (ev_isiI (ev_var rfl) rfl)) fun _ => ev_chain (ev_var rfl) (ev_var rfl) (ev_var rfl)) fun H1 e1 => k _ H1 e1 fz_bl
  | bool b =>
    obtain rfl := fz_blI hx
    refine s_ret (ev_andV (a := true) (b := false) (ev_isiB (ev_var rfl) rfl) fun _ => ev_andV (a := false) (b := false) (ev_is (ev_notV (a := true) (ev_isiB (ev_var rfl) rfl)) rfl) (fun z => nomatch z)) fun H1 e1 => k _ H1 e1 fz_bl
  | none =>
    obtain rfl := fz_nonI hx
    refine s_ret (ev_andV (a := false) (b := false) (ev_isi (A := "NoneType") (ev_var rfl) (fun _ _ => .base .non) rfl) (fun z => nomatch z)) fun H1 e1 => k _ H1 e1 fz_bl
  | str z =>
    obtain rfl := fz_strI hx
    refine s_ret (ev_andV (a := false) (b := false) (ev_isiS (ev_var rfl) rfl) (fun z => nomatch z)) fun H1 e1 => k _ H1 e1 fz_bl
  | tuple ds => exact s_ret (ev_andV (a := false) (b := false) (ev_isiT (ed_var rfl hx) rfl) (fun z => nomatch z)) fun H1 e1 => k _ H1 e1 fz_bl
  | list ds => exact s_ret (ev_andV (a := false) (b := false) (ev_isiD (ed_var rfl hx) (fun H1 v f => by
      obtain ⟨a, o, xs, rfl, hs, _⟩ := fz_lstI f
      exact .base (.frz hs)) rfl) (fun z => nomatch z)) fun H1 e1 => k _ H1 e1 fz_bl
  | dict _ => exact absurd hx (by simp [Fz])
end
abbrev s_is_position_of : Stmt := top 9
abbrev N_is_position_of : List Str := ["many", "value", "one"]
theorem sc_is_position_of : FnScope N_is_position_of ["many", "value"] (defScope s_is_position_of) := ⟨rfl, rfl, rfl, by decide +kernel, rfl, by decide +kernel, by decide +kernel⟩
theorem ints_inB {m : Nat} : ∀ {ds : List PyData}, (∀ e ∈ ds, inB e 0 ((m : Int) - 1) = true) → ∃ p : List Nat, ds = p.map (fun n : Nat => .int (n : Int)) ∧ ∀ x ∈ p, x < m
  | [], _ => ⟨[], rfl, fun x h => absurd h List.not_mem_nil⟩
  | e :: ds, h => by
    obtain ⟨p, hp, hl⟩ := ints_inB (ds := ds) fun z hz => h z (List.mem_cons_of_mem _ hz)
    have he := h e List.mem_cons_self
    cases e with
    | int i =>
      have he : (decide ((0 : Int) ≤ i) && decide (i ≤ (m : Int) - 1)) = true := he
      rw [Bool.and_eq_true, decide_eq_true_eq, decide_eq_true_eq] at he
      refine ⟨i.toNat :: p, ?_, fun x hx => ?_⟩
      · rw [List.map_cons, ← hp, Int.toNat_of_nonneg he.1]
      · rcases List.mem_cons.mp hx with z | z
        · omega
        · exact hl x z
    | _ => cases he
theorem inB_isP {m : Nat} {g : List Nat} (hg : ∀ x ∈ g, x < m) : ∀ e ∈ g.map (fun n : Nat => PyData.int (n : Int)), inB e 0 ((m : Int) - 1) = true := fun e he => by
  obtain ⟨n, hn, rfl⟩ := List.mem_map.mp he
  have := hg n hn
  show (decide ((0 : Int) ≤ (n : Int)) && decide ((n : Int) ≤ (m : Int) - 1)) = true
  rw [decide_eq_true (by omega), decide_eq_true (by omega)]
  rfl
/-- whether any data is a position -/
def spIsPosG (K : PySem.W.Frag) : Sp := fun vs H Q _ => ∃ (m : Nat) (y : V) (d : PyData), vs = [.int (m : Int), y] ∧ m ≤ 1000 ∧ DaAt K H d y ∧ ∀ b H', Ex H H' → (b = true ↔ IsPosD m d) → Q (.bl b) H'
section
variable {P : Program} {w : World} {K : PySem.W.Frag} {mg : Str → Option Value} {base : Heap}
theorem ok_is_position_of (B : Bt mg) (o2_is_int : Okd P w K mg base "is_int" ["value", "low", "high"] s_is_int 1 (spD K 3 rIsIntG)) (d : DefIn K mg "is_position_of" ["many", "value"] s_is_position_of) : Okd P w K mg base "is_position_of" ["many", "value"] s_is_position_of 2 (spIsPosG K) := by
  have o_is_int := o2_is_int
  refine Okd.mk d sc_is_position_of (fun vs H Q E h => ?_) (fun f cdv A outer s H vs Q E hr h => ?_)
  · obtain ⟨m, y, d, rfl, _⟩ := h
    rfl
  obtain ⟨m, y, d, rfl, hm, hy, k⟩ := h
  refine ⟨_, (pss_cons (ps_if (PW.pt (pw_or (pt_not (pt_val (pe_callB call_isi (by rfl) B.isinstance boot_isinstance (pa_cons (pv 1) (pa_cons (pe_bltn (v := V.ty "tuple") (u := Value.type "tuple") (by rfl) B.tuple boot_tuple rfl) pa_nil))))) (pw_or (pt_cmpR op_ne (pe_callB call_len_seq (by rfl) B.len boot_len (pa_cons (pv 1) pa_nil)) (pv 0) (nomark _)) (pw_or1 (pt_not (pt_val (pe_callB (cr_all rfl) (by rfl) B.all boot_all (pa_cons (pe_lc (own := [("one", 2)]) rfl sc_is_position_of.nd (pi_tup (pv 1)) (blkOk_by (own := [("one", 2)]) (N := N_is_position_of) (sc := defScope s_is_position_of) (by decide +kernel)) (fun _ _ _ _ _ => pg_name (i := 2) sc_is_position_of.nd rfl (Or.inl rfl)) (fun _ _ _ _ _ => pts_nil) (fun _ _ _ _ _ => (pe_fn o_is_int (hr.mono (by decide)) (pa_cons (pv 2) (pa_cons pe_int (pa_cons (pe_op op_sub (pv 0) pe_int) pa_nil)))))) pa_nil)))))))) (pss_one (ps_ret pe_bl)) pss_nil)
      (pss_one (ps_ret (pe_cmpR op_eq (pe_lenSetT (by rfl) B.len (by rfl) B.set (pv 1)) (pv 0) (nomark _))))), ?_⟩
  cases ht : isTup d with
  | false =>
    refine q_when (b := true) (et_is (et_or (a := true) (b := false) (et_is (et_not (a := false) (et_test (ev_isiA (ev_var rfl) hy (by rw [kit_tup, ht])))) rfl) (fun z => nomatch z)) rfl) (fun _ H1 e1 => ?_) (fun z => nomatch z)
    exact s_ret ev_c fun H2 e2 => k false H2 (e1.trans e2) ⟨fun z => (nomatch z), fun ⟨g, h1, _⟩ => by rw [h1] at ht; cases ht⟩
  | true =>
  obtain ⟨ds, rfl⟩ := isTup_true ht
  have hy := hy.tup
  have hpos : ∀ {g : List Nat}, PyData.tuple ds = tN g → ds = g.map fun n : Nat => PyData.int (n : Int) := fun h => by
    have h : PyData.tuple ds = .tuple _ := h
    injection h
  refine q_when (b := !decide (ds.length = m) || !(ds.all fun e => inB e 0 ((m : Int) - 1))) (et_is (et_or (a := false) (b := !decide (ds.length = m) || !(ds.all fun e => inB e 0 ((m : Int) - 1))) (et_is (et_not (a := true) (et_test (ev_isiG (ed_var rfl hy) (by rw [kit_tup, ht])))) rfl) fun _ => et_or (a := !decide (ds.length = m)) (et_is (et_test (ev_op (x := .int (ds.length : Int)) (y := .int (m : Int)) (ev_lenT (ed_var rfl hy)) (ev_var rfl) (rv_ne rfl))) (by congr 1; rw [Bool.eq_iff_iff, decide_eq_true_eq, decide_eq_true_eq]; exact int_ne)) fun hl => et_not (et_is (et_test (ev_all (K := K) (bs := ds.map fun e => inB e 0 ((m : Int) - 1)) (el_mapT (ds := ds) (ed_var rfl hy) (by rw [show ds.length = m by simpa using hl]; omega) (by simp) (fun _ => rfl) fun i x e e' H1 e1 hd he f => ?_))) (by rw [List.all_map]; rfl))) (Bool.false_or _)) (fun hb H1 e1 => ?_) fun hb H1 e1 => ?_
  · obtain ⟨b, hb, rfl⟩ := map_get he
    obtain ⟨e2, h2, rfl⟩ := map_get hb
    rw [hd] at h2
    cases h2
    exact ed_call (ea_d (ed_var rfl f) (ea_v ev_c (ea_v (ev_op (ev_var rfl) ev_c rv_I0) ea_nil))) (pr_D ⟨_, _, _, rfl, rfl⟩)
  · refine s_ret ev_c fun H2 e2 => k false H2 (e1.trans e2) ⟨fun z => (nomatch z), fun ⟨g, h1, h2⟩ => ?_⟩
    have h3 := hpos h1
    have hl : ds.length = m := by rw [h3, List.length_map, isP_len h2]
    have ha : (ds.all fun e => inB e 0 ((m : Int) - 1)) = true := by
      rw [List.all_eq_true, h3]
      exact inB_isP fun x hx => List.mem_range.mp (h2.subset hx)
    rw [decide_eq_true hl, ha] at hb
    cases hb
  · rw [Bool.or_eq_false_iff, Bool.not_eq_false', Bool.not_eq_false', decide_eq_true_eq, List.all_eq_true] at hb
    obtain ⟨hl, ha⟩ := hb
    obtain ⟨p, hp, hlt⟩ := ints_inB ha
    have hpl : p.length = m := by rw [← hl, hp, List.length_map]
    obtain ⟨Y, nY, hY⟩ := uniq_list (p.map fun n : Nat => (n : Int))
    have hdp : PyData.tuple ds = .tuple ((p.map fun n : Nat => (n : Int)).map PyData.int) := by
      rw [hp, List.map_map]
      rfl
    refine s_ret (v := .bl (decide (Y.length = m))) (ev_is (ev_op (x := .int ((Y.length : Nat) : Int)) (y := .int (m : Int)) (ev_lenSet (ns := p.map fun n : Nat => (n : Int)) (hdp ▸ ed_var rfl (fz_ex e1 hy)) (by rw [List.length_map]; omega) Y.length fun l h1 h2 => nodup_len h1 nY fun k => (h2 k).trans (hY k).symm) (ev_var rfl) (rv_eq rfl)) (by congr 1; rw [Bool.eq_iff_iff, decide_eq_true_eq, decide_eq_true_eq]; exact int_ne)) fun H2 e2 => k _ H2 (e1.trans e2) ?_
    rw [decide_eq_true_eq]
    constructor
    · intro hYm
      refine ⟨p, by rw [hp]; rfl, ?_⟩
      have h1 : (p.map fun n : Nat => (n : Int)).Perm Y := perm_sub nY (fun x hx => (hY x).mp hx) (by rw [List.length_map, hpl, hYm])
      have h2 : (p.map fun n : Nat => (n : Int)).Nodup := h1.nodup_iff.mpr nY
      have h3 : p.Nodup := by
        rw [List.nodup_iff_pairwise_ne, List.pairwise_map] at h2
        exact List.nodup_iff_pairwise_ne.mpr (h2.imp fun h z => h (by rw [z]))
      exact perm_of h3 hlt hpl
    · rintro ⟨g, h1, h2⟩
      have h3 : p = g := map_inj (fun x y z => by injection z with z; omega) ((hp.symm.trans (hpos h1)))
      subst h3
      have nd : (p.map fun n : Nat => (n : Int)).Nodup := by
        rw [List.nodup_iff_pairwise_ne, List.pairwise_map]
        exact (List.nodup_iff_pairwise_ne.mp (h2.nodup_iff.mpr List.nodup_range)).imp fun h z => h (by omega)
      rw [nodup_len nY nd hY, List.length_map, hpl]
end
abbrev s_is_picture : Stmt := top 21
abbrev N_is_picture : List Str := ["value", "row", "one"]
theorem sc_is_picture : FnScope N_is_picture ["value"] (defScope s_is_picture) := ⟨rfl, rfl, rfl, by decide +kernel, rfl, by decide +kernel, by decide +kernel⟩
/-- a picture: rows of marks -/
structure Pic8 (k : Nat) (M : List (List Nat)) : Prop where
  pos : 1 ≤ k
  le : k ≤ 8
  sq : Sq k M
  mark : ∀ r ∈ M, ∀ x ∈ r, x ≤ 9
def IsPicD (d : PyData) : Prop := ∃ k M, d = tNN M ∧ Pic8 k M
/-- a row of so many marks -/
def RowD (k : Nat) (d : PyData) : Prop := ∃ r : List Nat, d = tN r ∧ r.length = k ∧ ∀ x ∈ r, x ≤ 9
theorem rowD_iff {k : Nat} {ds : List PyData} : RowD k (.tuple ds) ↔ ds.length = k ∧ (ds.all fun e => inB e 0 9) = true := by
  constructor
  · rintro ⟨r, h, hl, hm⟩
    have h : PyData.tuple ds = .tuple (r.map fun n : Nat => .int (n : Int)) := h
    injection h with h
    subst h
    refine ⟨by rw [List.length_map]; exact hl, List.all_eq_true.mpr fun e he => ?_⟩
    obtain ⟨n, hn, rfl⟩ := List.mem_map.mp he
    have := hm n hn
    show (decide ((0 : Int) ≤ (n : Int)) && decide ((n : Int) ≤ 9)) = true
    rw [decide_eq_true (by omega), decide_eq_true (by omega)]
    rfl
  · rintro ⟨hl, ha⟩
    obtain ⟨p, hp, hlt⟩ := ints_inB (m := 10) (ds := ds) fun e he => by
      rw [show (((10 : Nat) : Int) - 1) = 9 by decide]
      exact List.all_eq_true.mp ha e he
    refine ⟨p, by rw [hp]; rfl, by rw [← hl, hp, List.length_map], fun x hx => by have := hlt x hx; omega⟩
theorem rowD_tup {k : Nat} {d : PyData} (h : RowD k d) : isTup d = true := by
  obtain ⟨r, rfl, _⟩ := h
  rfl
theorem rows_of {k : Nat} : ∀ {ds : List PyData}, (∀ d ∈ ds, RowD k d) → ∃ M : List (List Nat), ds = M.map tN ∧ (∀ r ∈ M, r.length = k) ∧ ∀ r ∈ M, ∀ x ∈ r, x ≤ 9
  | [], _ => ⟨[], rfl, fun r h => absurd h List.not_mem_nil, fun r h => absurd h List.not_mem_nil⟩
  | d :: ds, h => by
    obtain ⟨r, h1, h2, h3⟩ := h d List.mem_cons_self
    obtain ⟨M, h4, h5, h6⟩ := rows_of (ds := ds) fun e he => h e (List.mem_cons_of_mem _ he)
    exact ⟨r :: M, by rw [List.map_cons, ← h1, ← h4], fun s hs => (List.mem_cons.mp hs).elim (fun z => z ▸ h2) (h5 s), fun s hs => (List.mem_cons.mp hs).elim (fun z => z ▸ h3) (h6 s)⟩
theorem isPicD_iff {ds : List PyData} : IsPicD (.tuple ds) ↔ (1 ≤ ds.length ∧ ds.length ≤ 8) ∧ ∀ d ∈ ds, RowD ds.length d := by
  constructor
  · rintro ⟨k, M, h, hp⟩
    have h : PyData.tuple ds = .tuple (M.map tN) := h
    injection h with h
    subst h
    have hl : (M.map tN).length = k := by rw [List.length_map, hp.sq.len]
    rw [hl]
    refine ⟨⟨hp.pos, hp.le⟩, fun d hd => ?_⟩
    obtain ⟨r, hr, rfl⟩ := List.mem_map.mp hd
    exact ⟨r, rfl, hp.sq.row r hr, hp.mark r hr⟩
  · rintro ⟨⟨h1, h2⟩, h3⟩
    obtain ⟨M, h4, h5, h6⟩ := rows_of h3
    refine ⟨ds.length, M, by rw [h4]; rfl, h1, h2, ⟨?_, h5⟩, h6⟩
    rw [h4, List.length_map]
theorem isPicD_tup {d : PyData} (h : IsPicD d) : isTup d = true := by
  obtain ⟨k, M, rfl, _⟩ := h
  rfl
/-- whether any data is a picture -/
def spIsPicG (K : PySem.W.Frag) : Sp := fun vs H Q _ => ∃ (y : V) (d : PyData), vs = [y] ∧ DaAt K H d y ∧ ∀ b H', Ex H H' → (b = true ↔ IsPicD d) → Q (.bl b) H'
section
variable {K : PySem.W.Frag} {σ : L2.St} {H : Hp} {tx ty : TE} {ds es : List PyData}
/-- not 1 <= len(x) <= 8 -/
theorem et_len18 {ds : List PyData} {σ : L2.St} {H : Hp} {tt : TT} (hc : EvT tt σ H (decide ((1 : Int) ≤ (ds.length : Int)) && decide ((ds.length : Int) ≤ 8))) : EvT (tNot tt) σ H (!(decide (1 ≤ ds.length ∧ ds.length ≤ 8))) := et_is (et_not hc) (by
  congr 1
  rw [Bool.eq_iff_iff, Bool.and_eq_true, decide_eq_true_eq, decide_eq_true_eq, decide_eq_true_eq]
  omega)
/-- len(x) != len(y) -/
theorem et_lenNe (h : Ed K tx σ H (.tuple es)) (k : Ed K ty σ H (.tuple ds)) : EvT (tTest (tOp rNe (tCB (rLenS K) (tCons tx tNil)) (tCB (rLenS K) (tCons ty tNil)))) σ H (!decide (es.length = ds.length)) := et_is (et_test (ev_op (x := .int (es.length : Int)) (y := .int (ds.length : Int)) (ev_lenT h) (ev_lenT k) (rv_ne rfl))) (by
  congr 1
  rw [Bool.eq_iff_iff, decide_eq_true_eq, decide_eq_true_eq]
  exact int_ne)
end
section
variable {P : Program} {w : World} {K : PySem.W.Frag} {mg : Str → Option Value} {base : Heap}
theorem ok_is_picture (B : Bt mg) (C : Cs mg) (o2_is_int : Okd P w K mg base "is_int" ["value", "low", "high"] s_is_int 1 (spD K 3 rIsIntG)) (d : DefIn K mg "is_picture" ["value"] s_is_picture) : Okd P w K mg base "is_picture" ["value"] s_is_picture 2 (spIsPicG K) := by
  have o_is_int := o2_is_int
  obtain ⟨_, c_most_spots⟩ := C.most_spots
  obtain ⟨_, c_most_mark⟩ := C.most_mark
  refine Okd.mk d sc_is_picture (fun vs H Q E h => ?_) (fun f cdv A outer s H vs Q E hr h => ?_)
  · obtain ⟨y, d, rfl, _⟩ := h
    rfl
  obtain ⟨y, d, rfl, hy, k⟩ := h
  refine ⟨_, (pss_cons (ps_if (PW.pt (pw_or (pt_not (pt_val (pe_callB call_isi (by rfl) B.isinstance boot_isinstance (pa_cons (pv 0) (pa_cons (pe_bltn (v := V.ty "tuple") (u := Value.type "tuple") (by rfl) B.tuple boot_tuple rfl) pa_nil))))) (pw_or1 (pt_not (pt_chain op_le op_le pe_int (pe_callB call_len_seq (by rfl) B.len boot_len (pa_cons (pv 0) pa_nil)) (pe_glob (v := .int 8) rfl c_most_spots ⟨_, rfl⟩)))))) (pss_one (ps_ret pe_bl)) pss_nil)
      (pss_cons (ps_for PassesOwn.never rfl (pi_tup (pv 0)) (pg_name (i := 1) sc_is_picture.nd rfl (Or.inl rfl)) (pss_one (ps_if (PW.pt (pw_or (pt_not (pt_val (pe_callB call_isi (by rfl) B.isinstance boot_isinstance (pa_cons (pv 1) (pa_cons (pe_bltn (v := V.ty "tuple") (u := Value.type "tuple") (by rfl) B.tuple boot_tuple rfl) pa_nil))))) (pw_or (pt_cmpR op_ne (pe_callB call_len_seq (by rfl) B.len boot_len (pa_cons (pv 1) pa_nil)) (pe_callB call_len_seq (by rfl) B.len boot_len (pa_cons (pv 0) pa_nil)) (nomark _)) (pw_or1 (pt_not (pt_val (pe_callB (cr_all rfl) (by rfl) B.all boot_all (pa_cons (pe_lc (own := [("one", 2)]) rfl sc_is_picture.nd (pi_tup (pv 1)) (blkOk_by (own := [("one", 2)]) (N := N_is_picture) (sc := defScope s_is_picture) (by decide +kernel)) (fun _ _ _ _ _ => pg_name (i := 2) sc_is_picture.nd rfl (Or.inl rfl)) (fun _ _ _ _ _ => pts_nil) (fun _ _ _ _ _ => (pe_fn o_is_int (hr.mono (by decide)) (pa_cons (pv 2) (pa_cons pe_int (pa_cons (pe_glob (v := .int 9) rfl c_most_mark ⟨_, rfl⟩) pa_nil)))))) pa_nil)))))))) (pss_one (ps_ret pe_bl)) pss_nil)))
      (pss_one (ps_ret pe_bl)))), ?_⟩
  cases ht : isTup d with
  | false =>
    refine q_when (b := true) (et_is (et_or (a := true) (b := false) (et_is (et_not (a := false) (et_test (ev_isiA (ev_var rfl) hy (by rw [kit_tup, ht])))) rfl) (fun z => nomatch z)) rfl) (fun _ H1 e1 => ?_) (fun z => nomatch z)
    exact s_ret ev_c fun H2 e2 => k false H2 (e1.trans e2) ⟨fun z => (nomatch z), fun h => by rw [isPicD_tup h] at ht; cases ht⟩
  | true =>
  obtain ⟨ds, rfl⟩ := isTup_true ht
  have hy := hy.tup
  refine q_when (b := !decide (1 ≤ ds.length ∧ ds.length ≤ 8)) (et_is (et_or (a := false) (b := !decide (1 ≤ ds.length ∧ ds.length ≤ 8)) (et_is (et_not (a := true) (et_test (ev_isiG (ed_var rfl hy) (by rw [kit_tup, ht])))) rfl) fun _ => et_len18 (et_test (ev_chain ev_c (ev_lenT (ed_var rfl hy)) ev_c))) (Bool.false_or _)) (fun hb H1 e1 => ?_) fun hb H1 e1 => ?_
  · have hb : ¬ (1 ≤ ds.length ∧ ds.length ≤ 8) := of_decide_eq_false (by rw [← Bool.not_eq_true']; exact hb)
    exact s_ret ev_c fun H2 e2 => k false H2 (e1.trans e2) ⟨fun z => (nomatch z), fun h => absurd (isPicD_iff.mp h).1 hb⟩
  have hlen : 1 ≤ ds.length ∧ ds.length ≤ 8 := of_decide_eq_true (by rw [← Bool.not_eq_false']; exact hb)
  refine q_forTd (ds := ds) (ed_var rfl (fz_ex e1 hy)) fun H2 e2 => ⟨fun i σ' H' => (∃ z, σ' = [some y, z, none]) ∧ Ex H2 H' ∧ ∀ d ∈ ds.take i, RowD ds.length d, ⟨⟨none, rfl⟩, Ex.refl _, fun d h => absurd h List.not_mem_nil⟩, fun i σ' H' h => tex_of h.2.1, ?_, ?_⟩
  · rintro i x d σ' H' hd hx ⟨⟨z, rfl⟩, e, hall⟩
    have e0 : Ex H H' := (e1.trans e2).trans e
    have hm := List.mem_of_getElem? hd
    have hno : ¬ RowD ds.length d → ∀ H3, Ex H H3 → Q (.bl false) H3 := fun hn H3 e3 => k false H3 e3 ⟨fun z => (nomatch z), fun h => absurd ((isPicD_iff.mp h).2 d hm) hn⟩
    have hx' : ∀ {H3 : Hp}, Ex H' H3 → Ed K (tVar 1) [some y, some x, none] H3 d := fun e => ed_var rfl (fz_ex e hx)
    have hy' : ∀ {H3 : Hp}, Ex H' H3 → Ed K (tVar 0) [some y, some x, none] H3 (.tuple ds) := fun e => ed_var rfl (fz_ex (e0.trans e) hy)
    show tIfS _ _ _ _ [some y, some x, none] H'
    cases hdt : isTup d with
    | false =>
      refine s_when (b := true) (et_is (et_or (a := true) (b := false) (et_is (et_not (a := false) (et_test (ev_isiG (hx' (Ex.refl _)) (by rw [kit_tup, hdt])))) rfl) (fun z => nomatch z)) rfl) (fun _ H3 e3 => ?_) (fun z => nomatch z)
      exact s_ret ev_c fun H4 e4 => hno (fun h => by rw [rowD_tup h] at hdt; cases hdt) H4 (e0.trans (e3.trans e4))
    | true =>
      obtain ⟨es, rfl⟩ := isTup_true hdt
      refine s_when (b := !decide (es.length = ds.length) || !(es.all fun e => inB e 0 9)) (et_is (et_or (a := false) (b := !decide (es.length = ds.length) || !(es.all fun e => inB e 0 9)) (et_is (et_not (a := true) (et_test (ev_isiG (hx' (Ex.refl _)) (by rw [kit_tup, hdt])))) rfl) fun _ => et_or (a := !decide (es.length = ds.length)) (et_lenNe (hx' (Ex.refl _)) (hy' (Ex.refl _))) fun hl => et_not (et_is (et_test (ev_all (K := K) (bs := es.map fun e => inB e 0 9) (el_mapT (ds := es) (hx' (Ex.refl _)) (by rw [show es.length = ds.length by simpa using hl]; omega) (by simp) (fun _ => rfl) fun i x e e' H1 e1 hd he f => ?_))) (by rw [List.all_map]; rfl))) (Bool.false_or _)) (fun hb H3 e3 => ?_) fun hb H3 e3 => ?_
      · obtain ⟨b, hb, rfl⟩ := map_get he
        obtain ⟨e2, h2, rfl⟩ := map_get hb
        rw [hd] at h2
        cases h2
        exact ed_call (ea_d (ed_var rfl f) (ea_v ev_c (ea_v ev_c ea_nil))) (pr_D ⟨_, _, _, rfl, rfl⟩)
      · refine s_ret ev_c fun H4 e4 => hno (fun h => ?_) H4 (e0.trans (e3.trans e4))
        obtain ⟨h1, h2⟩ := rowD_iff.mp h
        rw [decide_eq_true h1, h2] at hb
        cases hb
      · rw [Bool.or_eq_false_iff, Bool.not_eq_false', Bool.not_eq_false', decide_eq_true_eq] at hb
        refine ⟨⟨_, rfl⟩, e.trans e3, fun d' hd' => ?_⟩
        rw [take_get hd] at hd'
        rcases List.mem_append.mp hd' with h | h
        · exact hall d' h
        · rw [List.mem_singleton.mp h]
          exact rowD_iff.mpr hb
  · rintro σ' H' ⟨⟨z, rfl⟩, e, hall⟩
    rw [List.take_length] at hall
    exact s_ret ev_c fun H3 e3 => k true H3 ((e1.trans e2).trans (e.trans e3)) ⟨fun _ => isPicD_iff.mpr ⟨hlen, hall⟩, fun _ => rfl⟩
end
abbrev s_law_is_int : Stmt := top 43
abbrev N_law_is_int : List Str := ["value", "low", "high"]
theorem sc_law_is_int : FnScope N_law_is_int ["value", "low", "high"] (defScope s_law_is_int) := ⟨rfl, rfl, rfl, by decide +kernel, rfl, by decide +kernel, by decide +kernel⟩
section
variable {P : Program} {w : World} {K : PySem.W.Frag} {mg : Str → Option Value} {base : Heap}
theorem ok_law_is_intG (B : Bt mg) (d : DefIn K mg "_law_is_int" ["value", "low", "high"] s_law_is_int) : Okd P w K mg base "_law_is_int" ["value", "low", "high"] s_law_is_int 1 (spD K 3 rIsIntG) := by
  refine Okd.mk d sc_law_is_int (fun vs H Q E h => spD_len h) (fun f cdv A outer s H vs Q E hr h => ?_)
  obtain ⟨as, d, _, hv, ⟨x, lo, hi, rfl, rfl⟩, k⟩ := h
  obtain ⟨v, _, _, rfl, hx, rfl, rfl⟩ := agl3 hv
  replace hx := agd hx
  refine ⟨_, (pss_one (ps_ret (pe_and (pe_callB call_isi (by rfl) B.isinstance boot_isinstance (pa_cons (pv 0) (pa_cons (pe_bltn (v := V.ty "int") (u := Value.type "int") (by rfl) B.int boot_int rfl) pa_nil))) (pe_and (pe_not (pe_callB call_isi (by rfl) B.isinstance boot_isinstance (pa_cons (pv 0) (pa_cons (pe_bltn (v := V.ty "bool") (u := Value.type "bool") (by rfl) B.bool boot_bool rfl) pa_nil)))) (pe_one (pe_chain op_le op_le (pv 1) (pv 0) (pv 2))))))), ?_⟩
  cases x with
  | int i =>
    obtain rfl := fz_intI hx
    refine s_ret (ev_andV (ev_isiI (ev_var rfl) rfl) fun _ => ev_andV (ev_notV (ev_isiI (ev_var rfl) rfl)) fun _ => ev_chain (ev_var rfl) (ev_var rfl) (ev_var rfl)) fun H1 e1 => k _ H1 e1 fz_bl
  | bool b =>
    obtain rfl := fz_blI hx
    refine s_ret (ev_andV (a := true) (b := false) (ev_isiB (ev_var rfl) rfl) fun _ => ev_andV (a := false) (b := false) (ev_is (ev_notV (a := true) (ev_isiB (ev_var rfl) rfl)) rfl) (fun z => nomatch z)) fun H1 e1 => k _ H1 e1 fz_bl
  | none =>
    obtain rfl := fz_nonI hx
    refine s_ret (ev_andV (a := false) (b := false) (ev_isi (A := "NoneType") (ev_var rfl) (fun _ _ => .base .non) rfl) (fun z => nomatch z)) fun H1 e1 => k _ H1 e1 fz_bl
  | str z =>
    obtain rfl := fz_strI hx
    refine s_ret (ev_andV (a := false) (b := false) (ev_isiS (ev_var rfl) rfl) (fun z => nomatch z)) fun H1 e1 => k _ H1 e1 fz_bl
  | tuple ds => exact s_ret (ev_andV (a := false) (b := false) (ev_isiT (ed_var rfl hx) rfl) (fun z => nomatch z)) fun H1 e1 => k _ H1 e1 fz_bl
  | list ds => exact s_ret (ev_andV (a := false) (b := false) (ev_isiD (ed_var rfl hx) (fun H1 v f => by
      obtain ⟨a, o, xs, rfl, hs, _⟩ := fz_lstI f
      exact .base (.frz hs)) rfl) (fun z => nomatch z)) fun H1 e1 => k _ H1 e1 fz_bl
  | dict _ => exact absurd hx (by simp [Fz])
end
abbrev s_law_is_picture : Stmt := top 50
abbrev N_law_is_picture : List Str := ["value", "row", "mark"]
theorem sc_law_is_picture : FnScope N_law_is_picture ["value"] (defScope s_law_is_picture) := ⟨rfl, rfl, rfl, by decide +kernel, rfl, by decide +kernel, by decide +kernel⟩
section
variable {P : Program} {w : World} {K : PySem.W.Frag} {mg : Str → Option Value} {base : Heap}
theorem ok_law_is_picture (B : Bt mg) (o_law_is_int : Okd P w K mg base "_law_is_int" ["value", "low", "high"] s_law_is_int 1 (spD K 3 rIsIntG)) (d : DefIn K mg "_law_is_picture" ["value"] s_law_is_picture) : Okd P w K mg base "_law_is_picture" ["value"] s_law_is_picture 2 (spIsPicG K) := by
  refine Okd.mk d sc_law_is_picture (fun vs H Q E h => ?_) (fun f cdv A outer s H vs Q E hr h => ?_)
  · obtain ⟨y, d, rfl, _⟩ := h
    rfl
  obtain ⟨y, d, rfl, hy, k⟩ := h
  refine ⟨_, (pss_cons (ps_if (PW.pt (pw_or (pt_not (pt_val (pe_callB call_isi (by rfl) B.isinstance boot_isinstance (pa_cons (pv 0) (pa_cons (pe_bltn (v := V.ty "tuple") (u := Value.type "tuple") (by rfl) B.tuple boot_tuple rfl) pa_nil))))) (pw_or1 (pt_not (pt_chain op_le op_le pe_int (pe_callB call_len_seq (by rfl) B.len boot_len (pa_cons (pv 0) pa_nil)) pe_int))))) (pss_one (ps_ret pe_bl)) pss_nil)
      (pss_cons (ps_for PassesOwn.never rfl (pi_tup (pv 0)) (pg_name (i := 1) sc_law_is_picture.nd rfl (Or.inl rfl)) (pss_cons (ps_if (PW.pt (pw_or (pt_not (pt_val (pe_callB call_isi (by rfl) B.isinstance boot_isinstance (pa_cons (pv 1) (pa_cons (pe_bltn (v := V.ty "tuple") (u := Value.type "tuple") (by rfl) B.tuple boot_tuple rfl) pa_nil))))) (pw_or1 (pt_cmpR op_ne (pe_callB call_len_seq (by rfl) B.len boot_len (pa_cons (pv 1) pa_nil)) (pe_callB call_len_seq (by rfl) B.len boot_len (pa_cons (pv 0) pa_nil)) (nomark _))))) (pss_one (ps_ret pe_bl)) pss_nil)
        (pss_one (ps_if (pt_not (pt_val (pe_callB (cr_all rfl) (by rfl) B.all boot_all (pa_cons (pe_lc (own := [("mark", 2)]) rfl sc_law_is_picture.nd (pi_tup (pv 1)) (blkOk_by (own := [("mark", 2)]) (N := N_law_is_picture) (sc := defScope s_law_is_picture) (by decide +kernel)) (fun _ _ _ _ _ => pg_name (i := 2) sc_law_is_picture.nd rfl (Or.inl rfl)) (fun _ _ _ _ _ => pts_nil) (fun _ _ _ _ _ => (pe_fn o_law_is_int (hr.mono (by decide)) (pa_cons (pv 2) (pa_cons pe_int (pa_cons pe_int pa_nil)))))) pa_nil)))) (pss_one (ps_ret pe_bl)) pss_nil))))
      (pss_one (ps_ret pe_bl)))), ?_⟩
  cases ht : isTup d with
  | false =>
    refine q_when (b := true) (et_is (et_or (a := true) (b := false) (et_is (et_not (a := false) (et_test (ev_isiA (ev_var rfl) hy (by rw [kit_tup, ht])))) rfl) (fun z => nomatch z)) rfl) (fun _ H1 e1 => ?_) (fun z => nomatch z)
    exact s_ret ev_c fun H2 e2 => k false H2 (e1.trans e2) ⟨fun z => (nomatch z), fun h => by rw [isPicD_tup h] at ht; cases ht⟩
  | true =>
  obtain ⟨ds, rfl⟩ := isTup_true ht
  have hy := hy.tup
  refine q_when (b := !decide (1 ≤ ds.length ∧ ds.length ≤ 8)) (et_is (et_or (a := false) (b := !decide (1 ≤ ds.length ∧ ds.length ≤ 8)) (et_is (et_not (a := true) (et_test (ev_isiG (ed_var rfl hy) (by rw [kit_tup, ht])))) rfl) fun _ => et_len18 (et_test (ev_chain ev_c (ev_lenT (ed_var rfl hy)) ev_c))) (Bool.false_or _)) (fun hb H1 e1 => ?_) fun hb H1 e1 => ?_
  · have hb : ¬ (1 ≤ ds.length ∧ ds.length ≤ 8) := of_decide_eq_false (by rw [← Bool.not_eq_true']; exact hb)
    exact s_ret ev_c fun H2 e2 => k false H2 (e1.trans e2) ⟨fun z => (nomatch z), fun h => absurd (isPicD_iff.mp h).1 hb⟩
  have hlen : 1 ≤ ds.length ∧ ds.length ≤ 8 := of_decide_eq_true (by rw [← Bool.not_eq_false']; exact hb)
  refine q_forTd (ds := ds) (ed_var rfl (fz_ex e1 hy)) fun H2 e2 => ⟨fun i σ' H' => (∃ z, σ' = [some y, z, none]) ∧ Ex H2 H' ∧ ∀ d ∈ ds.take i, RowD ds.length d, ⟨⟨none, rfl⟩, Ex.refl _, fun d h => absurd h List.not_mem_nil⟩, fun i σ' H' h => tex_of h.2.1, ?_, ?_⟩
  · rintro i x d σ' H' hd hx ⟨⟨z, rfl⟩, e, hall⟩
    have e0 : Ex H H' := (e1.trans e2).trans e
    have hm := List.mem_of_getElem? hd
    have hno : ¬ RowD ds.length d → ∀ H3, Ex H H3 → Q (.bl false) H3 := fun hn H3 e3 => k false H3 e3 ⟨fun z => (nomatch z), fun h => absurd ((isPicD_iff.mp h).2 d hm) hn⟩
    have hx' : ∀ {H3 : Hp}, Ex H' H3 → Ed K (tVar 1) [some y, some x, none] H3 d := fun e => ed_var rfl (fz_ex e hx)
    have hy' : ∀ {H3 : Hp}, Ex H' H3 → Ed K (tVar 0) [some y, some x, none] H3 (.tuple ds) := fun e => ed_var rfl (fz_ex (e0.trans e) hy)
    show tSeq _ _ _ [some y, some x, none] H'
    cases hdt : isTup d with
    | false =>
      refine q_when (b := true) (et_is (et_or (a := true) (b := false) (et_is (et_not (a := false) (et_test (ev_isiG (hx' (Ex.refl _)) (by rw [kit_tup, hdt])))) rfl) (fun z => nomatch z)) rfl) (fun _ H3 e3 => ?_) (fun z => nomatch z)
      exact s_ret ev_c fun H4 e4 => hno (fun h => by rw [rowD_tup h] at hdt; cases hdt) H4 (e0.trans (e3.trans e4))
    | true =>
      obtain ⟨es, rfl⟩ := isTup_true hdt
      refine q_when (b := !decide (es.length = ds.length)) (et_is (et_or (a := false) (b := !decide (es.length = ds.length)) (et_is (et_not (a := true) (et_test (ev_isiG (hx' (Ex.refl _)) (by rw [kit_tup, hdt])))) rfl) fun _ => et_lenNe (hx' (Ex.refl _)) (hy' (Ex.refl _))) (Bool.false_or _)) (fun hb H3 e3 => ?_) fun hb H3 e3 => ?_
      · refine s_ret ev_c fun H4 e4 => hno (fun h => ?_) H4 (e0.trans (e3.trans e4))
        rw [decide_eq_true (rowD_iff.mp h).1] at hb
        cases hb
      have hel : es.length = ds.length := by simpa using hb
      refine s_when (b := !(es.all fun e => inB e 0 9)) (et_not (et_is (et_test (ev_all (K := K) (bs := es.map fun e => inB e 0 9) (el_mapT (ds := es) (hx' e3) (by omega) (by simp) (fun _ => rfl) fun i x e e' H1 e1 hd he f => ?_))) (by rw [List.all_map]; rfl))) (fun hb H4 e4 => ?_) fun hb H4 e4 => ?_
      · obtain ⟨b, hb, rfl⟩ := map_get he
        obtain ⟨e2, h2, rfl⟩ := map_get hb
        rw [hd] at h2
        cases h2
        exact ed_call (ea_d (ed_var rfl f) (ea_v ev_c (ea_v ev_c ea_nil))) (pr_D ⟨_, _, _, rfl, rfl⟩)
      · refine s_ret ev_c fun H5 e5 => hno (fun h => ?_) H5 (e0.trans (e3.trans (e4.trans e5)))
        rw [(rowD_iff.mp h).2] at hb
        cases hb
      · rw [Bool.not_eq_false'] at hb
        refine ⟨⟨_, rfl⟩, e.trans (e3.trans e4), fun d' hd' => ?_⟩
        rw [take_get hd] at hd'
        rcases List.mem_append.mp hd' with h | h
        · exact hall d' h
        · rw [List.mem_singleton.mp h]
          exact rowD_iff.mpr ⟨hel, hb⟩
  · rintro σ' H' ⟨⟨z, rfl⟩, e, hall⟩
    rw [List.take_length] at hall
    exact s_ret ev_c fun H3 e3 => k true H3 ((e1.trans e2).trans (e.trans e3)) ⟨fun _ => isPicD_iff.mpr ⟨hlen, hall⟩, fun _ => rfl⟩
end
abbrev s_law_is_bool : Stmt := top 45
abbrev N_law_is_bool : List Str := ["told", "due"]
theorem sc_law_is_bool : FnScope N_law_is_bool ["told", "due"] (defScope s_law_is_bool) := ⟨rfl, rfl, rfl, by decide +kernel, rfl, by decide +kernel, by decide +kernel⟩
section
variable {P : Program} {w : World} {K : PySem.W.Frag} {mg : Str → Option Value} {base : Heap}
theorem ok_bool2 (B : Bt mg) (d : DefIn K mg "_law_is_bool" ["told", "due"] s_law_is_bool) : Okd P w K mg base "_law_is_bool" ["told", "due"] s_law_is_bool 1 (spD K 2 rBool2) := by
  refine Okd.mk d sc_law_is_bool (fun vs H Q E h => spD_len h) (fun f cdv A outer s H vs Q E hr h => ?_)
  obtain ⟨as, d, _, hv, ⟨a, b, rfl, rfl⟩, k⟩ := h
  obtain ⟨_, _, rfl, rfl, rfl⟩ := agl2 hv
  refine ⟨_, (pss_one (ps_ret (pe_and (pe_callB call_isi (by rfl) B.isinstance boot_isinstance (pa_cons (pv 0) (pa_cons (pe_bltn (v := V.ty "bool") (u := Value.type "bool") (by rfl) B.bool boot_bool rfl) pa_nil))) (pe_one (pe_cmpR op_eq (pv 0) (pv 1) (nomark _)))))), ?_⟩
  exact s_ret (ev_is (ev_andV (ev_isiB (ev_var rfl) rfl) fun _ => ev_op (ev_var rfl) (ev_var rfl) (rv_eq rfl)) (by rw [Bool.true_and])) fun H1 e1 => k _ H1 e1 fz_bl
end
end WT
namespace WT
open PySem PySem.Spec PyProof.Rows L2 Evl SX
abbrev s_look_at_picture : Stmt := top 22
abbrev N_look_at_picture : List Str := ["picture"]
theorem sc_look_at_picture : FnScope N_look_at_picture ["picture"] (defScope s_look_at_picture) := ⟨rfl, rfl, rfl, by decide +kernel, rfl, by decide +kernel, by decide +kernel⟩
abbrev s_look_at_position : Stmt := top 10
abbrev N_look_at_position : List Str := ["position", "is_fit"]
theorem sc_look_at_position : FnScope N_look_at_position ["position"] (defScope s_look_at_position) := ⟨rfl, rfl, rfl, by decide +kernel, rfl, by decide +kernel, by decide +kernel⟩
abbrev s_moved : Stmt := top 24
abbrev N_moved : List Str := ["picture", "position"]
theorem sc_moved : FnScope N_moved ["picture", "position"] (defScope s_moved) := ⟨rfl, rfl, rfl, by decide +kernel, rfl, by decide +kernel, by decide +kernel⟩
abbrev s_keeps : Stmt := top 25
abbrev N_keeps : List Str := ["picture", "position"]
theorem sc_keeps : FnScope N_keeps ["picture", "position"] (defScope s_keeps) := ⟨rfl, rfl, rfl, by decide +kernel, rfl, by decide +kernel, by decide +kernel⟩
abbrev s_marks_with : Stmt := top 26
abbrev N_marks_with : List Str := ["picture", "chosen", "place", "found", "other"]
theorem sc_marks_with : FnScope N_marks_with ["picture", "chosen", "place"] (defScope s_marks_with) := ⟨rfl, rfl, rfl, by decide +kernel, rfl, by decide +kernel, by decide +kernel⟩
abbrev s_code_of : Stmt := top 30
abbrev N_code_of : List Str := ["picture", "found", "place"]
theorem sc_code_of : FnScope N_code_of ["picture"] (defScope s_code_of) := ⟨rfl, rfl, rfl, by decide +kernel, rfl, by decide +kernel, by decide +kernel⟩
abbrev s_frame : Stmt := top 32
abbrev N_frame : List Str := ["picture"]
theorem sc_frame : FnScope N_frame ["picture"] (defScope s_frame) := ⟨rfl, rfl, rfl, by decide +kernel, rfl, by decide +kernel, by decide +kernel⟩
abbrev s_least_picture : Stmt := top 29
abbrev N_least_picture : List Str := ["picture", "code", "orders", "position", "order"]
theorem sc_least_picture : FnScope N_least_picture ["picture"] (defScope s_least_picture) := ⟨rfl, rfl, rfl, by decide +kernel, rfl, by decide +kernel, by decide +kernel⟩
abbrev s_look_at_pictures : Stmt := top 33
abbrev N_look_at_pictures : List Str := ["one", "other"]
theorem sc_look_at_pictures : FnScope N_look_at_pictures ["one", "other"] (defScope s_look_at_pictures) := ⟨rfl, rfl, rfl, by decide +kernel, rfl, by decide +kernel, by decide +kernel⟩
abbrev s_same_picture : Stmt := top 34
abbrev N_same_picture : List Str := ["one", "other", "code", "orders", "its", "others", "position", "place", "to"]
theorem sc_same_picture : FnScope N_same_picture ["one", "other"] (defScope s_same_picture) := ⟨rfl, rfl, rfl, by decide +kernel, rfl, by decide +kernel, by decide +kernel⟩
/-- a position of some size that fits -/
def IsFit (d : PyData) : Prop := ∃ k, (1 ≤ k ∧ k ≤ 32) ∧ IsPosD k d
theorem isFit_tup {d : PyData} (h : IsFit d) : isTup d = true := by
  obtain ⟨k, _, g, rfl, _⟩ := h
  rfl
theorem isFit_len {ds : List PyData} : IsFit (.tuple ds) ↔ (1 ≤ ds.length ∧ ds.length ≤ 32) ∧ IsPosD ds.length (.tuple ds) := by
  constructor
  · rintro ⟨k, hk, g, h, hg⟩
    have h' : PyData.tuple ds = .tuple (g.map fun n : Nat => .int (n : Int)) := h
    injection h' with h'
    have hl : ds.length = k := by rw [h', List.length_map, isP_len hg]
    rw [hl]
    exact ⟨hk, g, h, hg⟩
  · rintro ⟨h1, h2⟩
    exact ⟨_, h1, h2⟩
def spLookPic (K : PySem.W.Frag) (CP : Addr) : Sp := fun vs H Q E => ∃ (y : V) (d : PyData), vs = [y] ∧ DaAt K H d y ∧ (IsPicD d → ∀ H', Ex H H' → Q .non H') ∧ (¬ IsPicD d → ∀ H' dx, Ex H H' → H' dx = none → E (.ref CP) (some dx) (upd H' dx (.xd [("value", y)])))
def spLookFit (K : PySem.W.Frag) (CQ : Addr) : Sp := fun vs H Q E => ∃ (y : V) (d : PyData), vs = [y] ∧ DaAt K H d y ∧ (IsFit d → ∀ H', Ex H H' → Q .non H') ∧ (¬ IsFit d → ∀ H' dx, Ex H H' → H' dx = none → E (.ref CQ) (some dx) (upd H' dx (.xd [("value", y)])))
/-- a picture moved: what is none, what does not fit is refused -/
def spMovedX (K : PySem.W.Frag) (CP CQ CU : Addr) (R : Nat → List (List Nat) → List Nat → PyData) : Sp := fun vs H Q E => ∃ (y z : V) (d e : PyData), vs = [y, z] ∧ DaAt K H d y ∧ DaAt K H e z ∧
  (¬ IsPicD d → ∀ H' dx, Ex H H' → H' dx = none → E (.ref CP) (some dx) (upd H' dx (.xd [("value", y)]))) ∧
  (IsPicD d → ¬ IsFit e → ∀ H' dx, Ex H H' → H' dx = none → E (.ref CQ) (some dx) (upd H' dx (.xd [("value", z)]))) ∧
  (∀ k M j g, d = tNN M → Pic8 k M → e = tN g → IsP j g → 1 ≤ j ∧ j ≤ 32 → j ≠ k → ∀ H' dx, Ex H H' → H' dx = none → E (.ref CU) (some dx) (upd H' dx (.xd [("value", .int (j : Int))]))) ∧
  (∀ k M g, d = tNN M → Pic8 k M → e = tN g → IsP k g → ∀ v H', Ex H H' → Fz K H' (R k M g) v → Q v H')
def spMarksL (K : PySem.W.Frag) : Sp := fun vs H Q _ => ∃ (y : V) (l : Addr) (k p : Nat) (M : List (List Nat)) (o : List Nat), vs = [y, .ref l, .int (p : Int)] ∧ Fz K H (tNN M) y ∧ H l = some (.lst (vN o)) ∧ Sq k M ∧ k ≤ 8 ∧ (∀ x ∈ o, x < k) ∧ p < k ∧ o.length ≤ 8 ∧ ∀ v H', Ex H H' → Fz K H' (tN (tells M o p)) v → Q v H'
def spCodeX (K : PySem.W.Frag) (CP : Addr) : Sp := fun vs H Q E => ∃ (y : V) (d : PyData), vs = [y] ∧ DaAt K H d y ∧ (¬ IsPicD d → ∀ H' dx, Ex H H' → H' dx = none → E (.ref CP) (some dx) (upd H' dx (.xd [("value", y)]))) ∧ (∀ k M, d = tNN M → Pic8 k M → ∀ v H', Ex H H' → Fz K H' (tN (codeP k M)) v → Q v H')
/-- what is no picture is refused; no other is asked -/
def spNoPic (K : PySem.W.Frag) (CP : Addr) : Sp := fun vs H Q E => ∃ (y : V) (d : PyData), vs = [y] ∧ DaAt K H d y ∧ ¬ IsPicD d ∧ ∀ H' dx, Ex H H' → H' dx = none → E (.ref CP) (some dx) (upd H' dx (.xd [("value", y)]))
/-- .. and one of another size -/
def spNoPics (K : PySem.W.Frag) (CP CU : Addr) : Sp := fun vs H Q E => ∃ (y z : V) (d e : PyData), vs = [y, z] ∧ DaAt K H d y ∧ DaAt K H e z ∧
  ((¬ IsPicD d ∧ ∀ H' dx, Ex H H' → H' dx = none → E (.ref CP) (some dx) (upd H' dx (.xd [("value", y)]))) ∨
  (∃ k M j N, d = tNN M ∧ Pic8 k M ∧ e = tNN N ∧ Pic8 j N ∧ k ≠ j ∧ ∀ H' dx, Ex H H' → H' dx = none → E (.ref CU) (some dx) (upd H' dx (.xd [("value", .int (j : Int))]))))
theorem picD_inj {k j : Nat} {M N : List (List Nat)} (h : tNN M = tNN N) (a : Pic8 k M) (b : Pic8 j N) : k = j := by
  rw [← a.sq.len, ← b.sq.len, tNN_inj h]
section
variable {P : Program} {w : World} {K : PySem.W.Frag} {mg : Str → Option Value} {base : Heap} {C_BadPicture C_BadPosition C_Unlike C_TurnError : Addr}
theorem ok_look_at_picture (B : Bt mg) (o_is_picture : Okd P w K mg base "is_picture" ["value"] s_is_picture 2 (spIsPicG K)) (o_BadPicture : Okq P w K mg base "BadPicture" 1 C_BadPicture C_TurnError) (d : DefIn K mg "look_at_picture" ["picture"] s_look_at_picture) : Okx P w K mg base "look_at_picture" ["picture"] s_look_at_picture 3 (spLookPic K C_BadPicture) := by
  refine Okx.mk d sc_look_at_picture (fun vs H Q E h => ?_) (fun f cdv A outer s H vs Q E hr h => ?_)
  · obtain ⟨y, d, rfl, _⟩ := h
    rfl
  obtain ⟨y, d, rfl, hy, k1, k2⟩ := h
  refine ⟨_, (pss_one (ps_if (pt_not (pt_val (pe_fn o_is_picture (hr.mono (by decide)) (pa_cons (pv 0) pa_nil)))) (pss_one (ps_raise rfl (takes_of rfl rfl rfl rfl) (pmk_bad o_BadPicture (hr.mono (by decide)) rfl (pv 0)))) pss_nil)), ?_⟩
  classical
  refine s_when (b := !decide (IsPicD d)) (et_not (et_test (evV (ev_var (v := y) rfl) fun H1 e1 Q1 q => ⟨y, d, rfl, hy.ex e1, fun b H2 e2 hb => ?_⟩))) (fun hb H1 e1 => ?_) fun hb H1 e1 => k1 (by simpa using hb) H1 e1
  · have : b = decide (IsPicD d) := by rw [Bool.eq_iff_iff, hb, decide_eq_true_eq]
    rw [this]
    exact q H2 e2
  · exact ev_var (v := y) rfl H1 (Ex.refl _) _ fun H2 e2 dx hdx => k2 (by simpa using hb) H2 dx (e1.trans e2) hdx
theorem ok_look_at_position (B : Bt mg) (C : Cs mg) (o_is_position_of : Okd P w K mg base "is_position_of" ["many", "value"] s_is_position_of 2 (spIsPosG K)) (o_BadPosition : Okq P w K mg base "BadPosition" 1 C_BadPosition C_TurnError) (d : DefIn K mg "look_at_position" ["position"] s_look_at_position) : Okx P w K mg base "look_at_position" ["position"] s_look_at_position 3 (spLookFit K C_BadPosition) := by
  obtain ⟨_, c_most_wide⟩ := C.most_wide
  refine Okx.mk d sc_look_at_position (fun vs H Q E h => ?_) (fun f cdv A outer s H vs Q E hr h => ?_)
  · obtain ⟨y, d, rfl, _⟩ := h
    rfl
  obtain ⟨y, d, rfl, hy, k1, k2⟩ := h
  refine ⟨_, (pss_cons (ps_set (i := 1) sc_look_at_position.nd rfl (Or.inl rfl) (pe_and (pe_callB call_isi (by rfl) B.isinstance boot_isinstance (pa_cons (pv 0) (pa_cons (pe_bltn (v := V.ty "tuple") (u := Value.type "tuple") (by rfl) B.tuple boot_tuple rfl) pa_nil))) (pe_one (pe_chain op_le op_le pe_int (pe_callB call_len_seq (by rfl) B.len boot_len (pa_cons (pv 0) pa_nil)) (pe_glob (v := .int 32) rfl c_most_wide ⟨_, rfl⟩)))))
      (pss_one (ps_if (PW.pt (pw_or (pt_not (pt_val (pv 1))) (pw_or1 (pt_not (pt_val (pe_fn o_is_position_of (hr.mono (by decide)) (pa_cons (pe_callB call_len_seq (by rfl) B.len boot_len (pa_cons (pv 0) pa_nil)) (pa_cons (pv 0) pa_nil)))))))) (pss_one (ps_raise rfl (takes_of rfl rfl rfl rfl) (pmk_bad o_BadPosition (hr.mono (by decide)) rfl (pv 0)))) pss_nil))), ?_⟩
  classical
  cases ht : isTup d with
  | false =>
    refine q_asg (v := .bl false) (ev_is (ev_andV (a := false) (b := false) (ev_isiA (ev_var rfl) hy (by rw [kit_tup, ht])) (fun z => nomatch z)) rfl) fun H1 e1 => ?_
    refine s_when (b := true) (et_is (et_or (a := true) (b := false) (et_is (et_not (a := false) (et_test (ev_var rfl))) rfl) (fun z => nomatch z)) rfl) (fun _ H2 e2 => ?_) (fun z => nomatch z)
    exact ev_var (v := y) rfl H2 (Ex.refl _) _ fun H3 e3 dx hdx => k2 (fun h => by rw [isFit_tup h] at ht; cases ht) H3 dx (e1.trans (e2.trans e3)) hdx
  | true =>
  obtain ⟨ds, rfl⟩ := isTup_true ht
  refine q_asg (v := .bl (decide (1 ≤ ds.length ∧ ds.length ≤ 32))) (ev_is (ev_andV (a := true) (b := decide ((1 : Int) ≤ (ds.length : Int)) && decide ((ds.length : Int) ≤ 32)) (ev_isiA (ev_var rfl) hy (by rw [kit_tup, ht])) fun _ => ev_chain ev_c (ev_lenT (ed_var rfl hy.tup)) ev_c) ?_) fun H1 e1 => ?_
  · congr 1
    rw [Bool.true_and, Bool.eq_iff_iff, Bool.and_eq_true, decide_eq_true_eq, decide_eq_true_eq, decide_eq_true_eq]
    omega
  show tIfS _ _ _ _ [some y, some (.bl (decide (1 ≤ ds.length ∧ ds.length ≤ 32)))] H1
  refine s_when (b := !decide (1 ≤ ds.length ∧ ds.length ≤ 32) || !decide (IsPosD ds.length (.tuple ds))) (et_or (et_not (et_test (ev_var rfl))) fun hl => et_not (et_test (fun H2 e2 Q2 q => c_call (c_cons (ev_lenT (ed_var rfl (fz_ex e1 hy.tup)) H2 e2 _ fun H3 e3 => c_cons (ev_var (v := y) rfl H3 (Ex.refl _) _ fun H4 e4 => c_nil ⟨ds.length, y, .tuple ds, rfl, Nat.le_trans (of_decide_eq_true (p := 1 ≤ ds.length ∧ ds.length ≤ 32) (by rw [← Bool.not_eq_false']; exact hl)).2 (by decide), hy.ex (e1.trans (e2.trans (e3.trans e4))), fun b H5 e5 hb => ?_⟩)))))) (fun hb H2 e2 => ?_) fun hb H2 e2 => ?_
  · have : b = decide (IsPosD ds.length (.tuple ds)) := by rw [Bool.eq_iff_iff, hb, decide_eq_true_eq]
    rw [this]
    exact q H5 (e3.trans (e4.trans e5))
  · refine ev_var (v := y) rfl H2 (Ex.refl _) _ fun H3 e3 dx hdx => k2 (fun h => ?_) H3 dx (e1.trans (e2.trans e3)) hdx
    obtain ⟨h1, h2⟩ := isFit_len.mp h
    rw [decide_eq_true h1, decide_eq_true h2] at hb
    cases hb
  · rw [Bool.or_eq_false_iff, Bool.not_eq_false', Bool.not_eq_false', decide_eq_true_eq, decide_eq_true_eq] at hb
    exact k1 (isFit_len.mpr hb) H2 (e1.trans e2)
theorem ok_moved (B : Bt mg) (ox_look_at_picture : Okx P w K mg base "look_at_picture" ["picture"] s_look_at_picture 3 (spLookPic K C_BadPicture)) (ox_look_at_position : Okx P w K mg base "look_at_position" ["position"] s_look_at_position 3 (spLookFit K C_BadPosition)) (o_Unlike : Okq P w K mg base "Unlike" 1 C_Unlike C_TurnError) (o_told_moved : Okd P w K mg base "told_moved" ["picture", "position"] s_told_moved 1 (spD K 2 rMoved8)) (d : DefIn K mg "moved" ["picture", "position"] s_moved) : Okx P w K mg base "moved" ["picture", "position"] s_moved 4 (spMovedX K C_BadPicture C_BadPosition C_Unlike fun k M g => tNN (movedN k M g)) := by
  refine Okx.mk d sc_moved (fun vs H Q E h => ?_) (fun f cdv A outer s H vs Q E hr h => ?_)
  · obtain ⟨y, z, d, e, rfl, _⟩ := h
    rfl
  obtain ⟨y, z, d, e, rfl, hy, hz, k1, k2, k3, k4⟩ := h
  refine ⟨_, (pss_cons (ps_expr (pe_fnX ox_look_at_picture (hr.mono (by decide)) (takes_of rfl rfl rfl rfl) (pa_cons (pv 0) pa_nil)))
      (pss_cons (ps_expr (pe_fnX ox_look_at_position (hr.mono (by decide)) (takes_of rfl rfl rfl rfl) (pa_cons (pv 1) pa_nil)))
      (pss_cons (ps_if (pt_cmpR op_ne (pe_callB call_len_seq (by rfl) B.len boot_len (pa_cons (pv 1) pa_nil)) (pe_callB call_len_seq (by rfl) B.len boot_len (pa_cons (pv 0) pa_nil)) (nomark _)) (pss_one (ps_raise rfl (takes_of rfl rfl rfl rfl) (pmk_bad o_Unlike (hr.mono (by decide)) rfl (pe_callB call_len_seq (by rfl) B.len boot_len (pa_cons (pv 1) pa_nil))))) pss_nil)
      (pss_one (ps_ret (pe_fn o_told_moved (hr.mono (by decide)) (pa_cons (pv 0) (pa_cons (pv 1) pa_nil)))))))), ?_⟩
  refine q_dropM (cXV (ev_var (v := y) rfl) fun H1 e1 => ⟨y, d, rfl, hy.ex e1, fun hp H2 e2 => ?_, fun hno H2 dx e2 hdx => k1 hno H2 dx (e1.trans e2) hdx⟩)
  refine q_dropM (cXV (ev_var (v := z) rfl) fun H3 e3 => ⟨z, e, rfl, hz.ex ((e1.trans e2).trans e3), fun hq H4 e4 => ?_, fun hno H4 dx e4 hdx => k2 hp hno H4 dx ((e1.trans e2).trans (e3.trans e4)) hdx⟩)
  have e04 := (e1.trans e2).trans (e3.trans e4)
  obtain ⟨k, M, rfl, hM⟩ := hp
  obtain ⟨j, hj, g, rfl, hg⟩ := hq
  have fy := fz_ex e04 hy.tup
  have fz := fz_ex e04 hz.tup
  have hlz : ∀ {H5 : Hp}, Ex H4 H5 → Ev (tCB (rLenS K) (tCons (tVar 1) tNil)) [some y, some z] H5 (.int (j : Int)) := fun e => ev_is (ev_lenT (ed_var rfl (fz_ex e fz))) (by rw [List.length_map, isP_len hg])
  refine q_when (b := !decide (j = k)) (et_is (et_test (ev_op (x := .int (j : Int)) (y := .int (k : Int)) (hlz (Ex.refl _)) (ev_is (ev_lenT (ed_var rfl fy)) (by rw [List.length_map, hM.sq.len])) (rv_ne rfl))) (by congr 1; rw [Bool.eq_iff_iff, decide_eq_true_eq, decide_eq_true_eq]; exact int_ne)) (fun hb H5 e5 => ?_) fun hb H5 e5 => ?_
  · exact hlz e5 H5 (Ex.refl _) _ fun H6 e6 dx hdx => k3 k M j g rfl hM rfl hg hj (by simpa using hb) H6 dx (e04.trans (e5.trans e6)) hdx
  · have hjk : j = k := by simpa using hb
    subst hjk
    exact s_retD (ed_call (ea_d (ed_var rfl (fz_ex e5 fy)) (ea_d (ed_var rfl (fz_ex e5 fz)) ea_nil)) (pr_D ⟨j, M, g, rfl, hM.sq, hM.le, hg, rfl⟩)) fun v H6 e6 f => k4 j M g rfl hM rfl hg v H6 (e04.trans (e5.trans e6)) f
theorem ok_keeps (B : Bt mg) (ox_moved : Okx P w K mg base "moved" ["picture", "position"] s_moved 4 (spMovedX K C_BadPicture C_BadPosition C_Unlike fun k M g => tNN (movedN k M g))) (d : DefIn K mg "keeps" ["picture", "position"] s_keeps) : Okx P w K mg base "keeps" ["picture", "position"] s_keeps 5 (spMovedX K C_BadPicture C_BadPosition C_Unlike fun k M g => .bool (decide (movedN k M g = M))) := by
  refine Okx.mk d sc_keeps (fun vs H Q E h => ?_) (fun f cdv A outer s H vs Q E hr h => ?_)
  · obtain ⟨y, z, d, e, rfl, _⟩ := h
    rfl
  obtain ⟨y, z, d, e, rfl, hy, hz, k1, k2, k3, k4⟩ := h
  refine ⟨_, (pss_one (ps_ret (pe_cmpR (op_eqD (room64 hr)) (pe_fnX ox_moved (hr.mono (by decide)) (takes_of rfl rfl rfl rfl) (pa_cons (pv 0) (pa_cons (pv 1) pa_nil))) (pv 0) (nomark _)))), ?_⟩
  refine s_retM (c_op (cXVV (ev_var (v := y) rfl) (ev_var (v := z) rfl) fun H1 e1 => ⟨y, z, d, e, rfl, hy.ex e1, hz.ex e1, fun hno H2 dx e2 hdx => k1 hno H2 dx (e1.trans e2) hdx, fun hp hno H2 dx e2 hdx => k2 hp hno H2 dx (e1.trans e2) hdx, fun k M j g h1 h2 h3 h4 h5 h6 H2 dx e2 hdx => k3 k M j g h1 h2 h3 h4 h5 h6 H2 dx (e1.trans e2) hdx, fun k M g h1 h2 h3 h4 v H2 e2 f => ?_⟩))
  refine ev_var (v := y) rfl H2 (Ex.refl _) _ fun H3 e3 => ?_
  subst h1
  have e03 := e1.trans (e2.trans e3)
  refine ⟨_, _, fz_dp _ _ (fz_ex e3 f), fz_dp _ _ (fz_ex e03 hy.tup), (Plain.of (tNN_plain _)).shaped, (Plain.of (tNN_plain _)).shaped, ?_⟩
  show Q (.bl (PyData.eqv (tNN (movedN k M g)) (tNN M))) H3
  rw [show PyData.eqv (tNN (movedN k M g)) (tNN M) = decide (movedN k M g = M) by
    rw [Bool.eq_iff_iff, eqv_iff _ _ (tNN_plain _).1 (tNN_plain _).1, decide_eq_true_eq]
    exact ⟨fun h => tNN_inj h, fun h => by rw [h]⟩]
  exact k4 k M g rfl h2 h3 h4 _ H3 e03 fz_bl
theorem ok_marks_with (B : Bt mg) (d : DefIn K mg "marks_with" ["picture", "chosen", "place"] s_marks_with) : Okd P w K mg base "marks_with" ["picture", "chosen", "place"] s_marks_with 1 (spMarksL K) := by
  refine Okd.mk d sc_marks_with (fun vs H Q E h => ?_) (fun f cdv A outer s H vs Q E hr h => ?_)
  · obtain ⟨y, l, k, p, M, o, rfl, _⟩ := h
    rfl
  obtain ⟨y, cl, m, p, M, o, rfl, hy, hcl, hM, hm, ho, hp, hol, k⟩ := h
  refine ⟨_, (pss_cons (ps_set (i := 3) sc_marks_with.nd rfl (Or.inl rfl) (pe_lst pa_nil))
      (pss_cons (ps_for PassesOwn.never rfl (pi_list (pv 1)) (pg_name (i := 4) sc_marks_with.nd rfl (Or.inl rfl)) (pss_one (ps_expr (pe_bm PySem.F.plainAttrs_list PySem.F.slot_list_extend PySem.F.type_list_extend mt_extend (pv 3) (pa_cons (pe_lst (pa_cons (pe_ix ix_tup (pe_ix ix_tup (pv 0) (pv 2) (fun _ _ => rfl)) (pv 4) (fun _ _ => rfl)) (pa_cons (pe_ix ix_tup (pe_ix ix_tup (pv 0) (pv 4) (fun _ _ => rfl)) (pv 2) (fun _ _ => rfl)) pa_nil))) pa_nil)))))
      (pss_one (ps_ret (pe_tup (StX.pa_star (pv 3) (pa_cons (pe_ix ix_tup (pe_ix ix_tup (pv 0) (pv 2) (fun _ _ => rfl)) (pv 2) (fun _ _ => rfl)) pa_nil))))))), ?_⟩
  refine q_asgL (Evl.el_lst Evl.ea_nil (by decide)) fun l H1 hl e1 h1 => ?_
  have ncl : cl ≠ l := fun z => by rw [z, hl] at hcl; cases hcl
  refine q_forL (a := cl) (xs := vN o) (ev_var (v := .ref cl) rfl) (sq_of (e1 _ _ hcl)) (fun i σ' H' => (∃ z4, σ' = [some y, some (.ref cl), some (.int (p : Int)), some (.ref l), z4]) ∧ Ex H H' ∧ H' l = some (.lst (vN ((o.take i).flatMap fun c => [at2 M p c, at2 M c p])))) (fun H2 e2 => ⟨⟨none, rfl⟩, e1.trans e2, e2 _ _ h1⟩) (fun i σ' H' hi h => sq_of (h.2.1 _ _ hcl)) (fun i x σ' H' hx h => ?_) (fun σ' H' h => ?_)
  · obtain ⟨⟨z4, rfl⟩, eX, hl'⟩ := h
    obtain ⟨c, hc, rfl⟩ := map_get (show (o.map fun n : Nat => V.int (n : Int))[i]? = some x from hx)
    have hck := ho c (List.mem_of_getElem? hc)
    show tDrop _ _ [some y, some (.ref cl), some (.int (p : Int)), some (.ref l), some (.int (c : Int))] H'
    have hy' := fz_ex eX hy
    have hil := (List.getElem?_eq_some_iff.mp hc).1
    have hsz : ((o.take i).flatMap fun c => [at2 M p c, at2 M c p]).length ≤ 2 * i := by
      rw [List.length_flatMap]
      have : ((o.take i).map fun c => ([at2 M p c, at2 M c p] : List Nat).length) = List.replicate (o.take i).length 2 := by
        rw [List.eq_replicate_iff]
        exact ⟨by rw [List.length_map], fun b hb => by obtain ⟨a, _, rfl⟩ := List.mem_map.mp hb; rfl⟩
      rw [this, List.sum_replicate_nat, List.length_take]
      have : min i o.length ≤ i := Nat.min_le_left _ _
      omega
    refine s_extE (K := K) (ds := [.int ((at2 M p c : Nat) : Int), .int ((at2 M c p : Nat) : Int)]) hl' (ev_var rfl) (WT.el_lst (ea_d (ed_at2 hM (ed_var rfl hy') (ev_var rfl) (ev_var rfl) hp hck) (ea_d (ed_at2 hM (ed_var rfl hy') (ev_var rfl) (ev_var rfl) hck hp) ea_nil)) (show 2 ≤ 100000 by decide)) (by rw [vN_len]; show _ + 2 ≤ _; omega) fun zs H3 e3 f => ?_
    have hzs : zs = vN [at2 M p c, at2 M c p] := fzl_nats.mp f
    subst hzs
    refine ⟨⟨_, rfl⟩, (eX.trans e3).mut hl, ?_⟩
    rw [take_get hc, List.flatMap_append]
    unfold vN
    rw [List.map_append]
    exact upd_same
  · obtain ⟨⟨z4, rfl⟩, eX, hl'⟩ := h
    rw [vN_len, List.take_length] at hl'
    have hlen := tells_len M o p
    refine s_retD (ed_tup (ds := (tells M o p).map fun n : Nat => PyData.int (n : Int)) (ea_is (ea_starL (ev_var rfl) (sq_of hl') (fzl_nats.mpr rfl) (ea_d (ed_at2 hM (ed_var rfl (fz_ex eX hy)) (ev_var rfl) (ev_var rfl) hp hp) ea_nil)) ?_) (by rw [List.length_map, hlen]; omega)) fun v H3 e3 f => k v H3 (eX.trans e3) f
    unfold tells
    rw [List.map_append, List.map_append]
    rfl
theorem ok_code_of (B : Bt mg) (ox_look_at_picture : Okx P w K mg base "look_at_picture" ["picture"] s_look_at_picture 3 (spLookPic K C_BadPicture)) (o_marks_with : Okd P w K mg base "marks_with" ["picture", "chosen", "place"] s_marks_with 1 (spMarksL K)) (d : DefIn K mg "code_of" ["picture"] s_code_of) : Okx P w K mg base "code_of" ["picture"] s_code_of 4 (spCodeX K C_BadPicture) := by
  refine Okx.mk d sc_code_of (fun vs H Q E h => ?_) (fun f cdv A outer s H vs Q E hr h => ?_)
  · obtain ⟨y, d, rfl, _⟩ := h
    rfl
  obtain ⟨y, d, rfl, hy, k1, k2⟩ := h
  refine ⟨_, (pss_cons (ps_expr (pe_fnX ox_look_at_picture (hr.mono (by decide)) (takes_of rfl rfl rfl rfl) (pa_cons (pv 0) pa_nil)))
      (pss_cons (ps_set (i := 1) sc_code_of.nd rfl (Or.inl rfl) (pe_lst pa_nil))
      (pss_cons (ps_for (passes_of rfl) rfl (pi_range1 (by rfl) B.range (pa_cons (pe_callB call_len_seq (by rfl) B.len boot_len (pa_cons (pv 0) pa_nil)) pa_nil)) (pg_name (i := 2) sc_code_of.nd rfl (Or.inl rfl)) (pss_one (ps_expr (pe_bm PySem.F.plainAttrs_list PySem.F.slot_list_extend PySem.F.type_list_extend mt_extend (pv 1) (pa_cons (pe_callTy call_list_of (by rfl) B.list boot_list (pa_cons (pe_fn o_marks_with (hr.mono (by decide)) (pa_cons (pv 0) (pa_cons (pe_listRg rfl (by rfl) B.list (prg_1 (by rfl) B.range (pv 2))) (pa_cons (pv 2) pa_nil)))) pa_nil)) pa_nil)))))
      (pss_one (ps_ret (pe_callTy call_tuple_of (by rfl) B.tuple boot_tuple (pa_cons (pv 1) pa_nil))))))), ?_⟩
  refine q_dropM (cXV (ev_var (v := y) rfl) fun H1 e1 => ⟨y, d, rfl, hy.ex e1, fun hp H2 e2 => ?_, fun hno H2 dx e2 hdx => k1 hno H2 dx (e1.trans e2) hdx⟩)
  obtain ⟨m, M, rfl, hM⟩ := hp
  have hm := hM.le
  have e02 := e1.trans e2
  have hy := fz_ex e02 hy.tup
  refine q_asgL (Evl.el_lst Evl.ea_nil (by decide)) fun l H3 hl e3 h3 => ?_
  have hb1 : ∀ (i : Nat), i ≤ 8 → ((List.range i).flatMap fun p => tells M (List.range p) p).length ≤ i * 17 := fun i hi => by
    rw [List.length_flatMap]
    have h : ∀ l : List Nat, (∀ p ∈ l, p ≤ i) → (l.map fun p => (tells M (List.range p) p).length).sum ≤ l.length * 17 := fun l => by
      induction l with
      | nil =>
        intro _
        exact Nat.zero_le _
      | cons p l ih =>
        intro h
        rw [List.map_cons, List.sum_cons, List.length_cons, tells_len, List.length_range, Nat.add_mul, Nat.one_mul]
        have := ih fun x hx => h x (List.mem_cons_of_mem _ hx)
        have := h p List.mem_cons_self
        omega
    have h2 := h (List.range i) fun p hp => Nat.le_of_lt (List.mem_range.mp hp)
    rw [List.length_range] at h2
    exact h2
  refine q_forR1 (n := (m : Int)) (Evl.ea_cons (ev_is (ev_lenT (ed_var rfl (fz_ex e3 hy))) (by rw [List.length_map, hM.sq.len])) Evl.ea_nil) ⟨by omega, by omega⟩ (fun i σ' H' => (∃ z2, σ' = [some y, some (.ref l), z2]) ∧ Ex H2 H' ∧ H' l = some (.lst (vN ((List.range i).flatMap fun p => tells M (List.range p) p)))) (fun H4 e4 => ⟨⟨none, rfl⟩, e3.trans e4, e4 _ _ h3⟩) (fun i σ' H' hi h => ?_) (fun σ' H' h => ?_)
  · obtain ⟨⟨z2, rfl⟩, eX, hL⟩ := h
    have him : i < m := by omega
    have hbi := hb1 i (by omega)
    show tDrop _ _ [some y, some (.ref l), some (.int (i : Int))] H'
    refine s_extE (K := K) (ds := (tells M (List.range i) i).map fun n : Nat => PyData.int (n : Int)) hL (ev_var rfl) (el_listOfT (fun H4 e4 Q4 q => c_call (c_cons (ev_var (v := y) rfl H4 (Ex.refl _) _ fun H5 e5 => c_cons (WT.ev_listRg (K := K) (n := i) (ev_var rfl) (by omega) H5 (Ex.refl _) _ fun lp xs H6 hlp e6 hx f6 => c_cons (ev_var (v := .int (i : Int)) rfl H6 (Ex.refl _) _ fun H7 e7 => c_nil ⟨y, lp, m, i, M, List.range i, rfl, fz_ex (eX.trans (e4.trans (e5.trans (e6.trans e7)))) hy, by rw [← fzl_nats.mp f6]; exact e7 _ _ hx, hM.sq, hm, fun x hx => by have := List.mem_range.mp hx; omega, him, by rw [List.length_range]; omega, fun v H8 e8 f8 => q v H8 (e5.trans (e6.trans (e7.trans e8))) f8⟩)))))) (by rw [vN_len, List.length_map, tells_len, List.length_range]; omega) fun zs H4 e4 f => ?_
    have hzs : zs = vN (tells M (List.range i) i) := fzl_nats.mp f
    subst hzs
    refine ⟨⟨_, rfl⟩, (eX.trans e4).mut hl, ?_⟩
    rw [List.range_succ, List.flatMap_append]
    unfold vN
    rw [List.map_append]
    simp only [List.flatMap_cons, List.flatMap_nil, List.append_nil]
    exact upd_same
  · obtain ⟨⟨z2, rfl⟩, eX, hL⟩ := h
    rw [Int.toNat_natCast] at hL
    exact s_retD (ed_tupOfL (ev_var rfl) (sq_of hL) (fzl_nats.mpr rfl)) fun v H4 e4 f => k2 m M rfl hM v H4 (e02.trans (eX.trans e4)) f
theorem ok_frame (B : Bt mg) (ox_look_at_picture : Okx P w K mg base "look_at_picture" ["picture"] s_look_at_picture 3 (spLookPic K C_BadPicture)) (d : DefIn K mg "frame" ["picture"] s_frame) : Okx P w K mg base "frame" ["picture"] s_frame 4 (spNoPic K C_BadPicture) := by
  refine Okx.mk d sc_frame (fun vs H Q E h => ?_) (fun f cdv A outer s H vs Q E hr h => ?_)
  · obtain ⟨y, d, rfl, _⟩ := h
    rfl
  obtain ⟨y, d, rfl, hy, hno, k⟩ := h
  refine ⟨_, (pss_cons (ps_expr (pe_fnX ox_look_at_picture (hr.mono (by decide)) (takes_of rfl rfl rfl rfl) (pa_cons (pv 0) pa_nil)))
      (pss_one ps_never)), ?_⟩
  exact q_dropM (cXV (ev_var (v := y) rfl) fun H1 e1 => ⟨y, d, rfl, hy.ex e1, fun hp => absurd hp hno, fun _ H2 dx e2 hdx => k H2 dx (e1.trans e2) hdx⟩)
theorem ok_least_picture (B : Bt mg) (ox_look_at_picture : Okx P w K mg base "look_at_picture" ["picture"] s_look_at_picture 3 (spLookPic K C_BadPicture)) (d : DefIn K mg "least_picture" ["picture"] s_least_picture) : Okx P w K mg base "least_picture" ["picture"] s_least_picture 4 (spNoPic K C_BadPicture) := by
  refine Okx.mk d sc_least_picture (fun vs H Q E h => ?_) (fun f cdv A outer s H vs Q E hr h => ?_)
  · obtain ⟨y, d, rfl, _⟩ := h
    rfl
  obtain ⟨y, d, rfl, hy, hno, k⟩ := h
  refine ⟨_, (pss_cons (ps_expr (pe_fnX ox_look_at_picture (hr.mono (by decide)) (takes_of rfl rfl rfl rfl) (pa_cons (pv 0) pa_nil)))
      (pss_cons ps_never
      (pss_cons ps_never
      (pss_one ps_never)))), ?_⟩
  exact q_dropM (cXV (ev_var (v := y) rfl) fun H1 e1 => ⟨y, d, rfl, hy.ex e1, fun hp => absurd hp hno, fun _ H2 dx e2 hdx => k H2 dx (e1.trans e2) hdx⟩)
theorem ok_look_at_pictures (B : Bt mg) (ox_look_at_picture : Okx P w K mg base "look_at_picture" ["picture"] s_look_at_picture 3 (spLookPic K C_BadPicture)) (o_Unlike : Okq P w K mg base "Unlike" 1 C_Unlike C_TurnError) (d : DefIn K mg "look_at_pictures" ["one", "other"] s_look_at_pictures) : Okx P w K mg base "look_at_pictures" ["one", "other"] s_look_at_pictures 4 (spNoPics K C_BadPicture C_Unlike) := by
  refine Okx.mk d sc_look_at_pictures (fun vs H Q E h => ?_) (fun f cdv A outer s H vs Q E hr h => ?_)
  · obtain ⟨y, z, d, e, rfl, _⟩ := h
    rfl
  obtain ⟨y, z, d, e, rfl, hy, hz, hk⟩ := h
  refine ⟨_, (pss_cons (ps_expr (pe_fnX ox_look_at_picture (hr.mono (by decide)) (takes_of rfl rfl rfl rfl) (pa_cons (pv 0) pa_nil)))
      (pss_cons (ps_expr (pe_fnX ox_look_at_picture (hr.mono (by decide)) (takes_of rfl rfl rfl rfl) (pa_cons (pv 1) pa_nil)))
      (pss_one (ps_if (pt_cmpR op_ne (pe_callB call_len_seq (by rfl) B.len boot_len (pa_cons (pv 0) pa_nil)) (pe_callB call_len_seq (by rfl) B.len boot_len (pa_cons (pv 1) pa_nil)) (nomark _)) (pss_one (ps_raise rfl (takes_of rfl rfl rfl rfl) (pmk_bad o_Unlike (hr.mono (by decide)) rfl (pe_callB call_len_seq (by rfl) B.len boot_len (pa_cons (pv 1) pa_nil))))) pss_nil)))), ?_⟩
  rcases hk with ⟨hno, k⟩ | ⟨k, M, j, N, rfl, hM, rfl, hN, hkj, kk⟩
  · exact q_dropM (cXV (ev_var (v := y) rfl) fun H1 e1 => ⟨y, d, rfl, hy.ex e1, fun hp => absurd hp hno, fun _ H2 dx e2 hdx => k H2 dx (e1.trans e2) hdx⟩)
  · refine q_dropM (cXV (ev_var (v := y) rfl) fun H1 e1 => ⟨y, _, rfl, hy.ex e1, fun _ H2 e2 => ?_, fun hno => absurd ⟨k, M, rfl, hM⟩ hno⟩)
    refine q_dropM (cXV (ev_var (v := z) rfl) fun H3 e3 => ⟨z, _, rfl, hz.ex ((e1.trans e2).trans e3), fun _ H4 e4 => ?_, fun hno => absurd ⟨j, N, rfl, hN⟩ hno⟩)
    have e04 := (e1.trans e2).trans (e3.trans e4)
    refine s_when (b := true) (et_is (et_test (ev_op (x := .int (k : Int)) (y := .int (j : Int)) (ev_is (ev_lenT (ed_var rfl (fz_ex e04 hy.tup))) (by rw [List.length_map, hM.sq.len])) (ev_is (ev_lenT (ed_var rfl (fz_ex e04 hz.tup))) (by rw [List.length_map, hN.sq.len])) (rv_ne rfl))) (by rw [decide_eq_false fun z => hkj (int_ne.mp z)]; rfl)) (fun _ H5 e5 => ?_) (fun z => nomatch z)
    exact ev_is (ev_lenT (ed_var rfl (fz_ex (e04.trans e5) hz.tup))) (by rw [List.length_map, hN.sq.len]) H5 (Ex.refl _) _ fun H6 e6 dx hdx => kk H6 dx (e04.trans (e5.trans e6)) hdx
theorem ok_same_picture (B : Bt mg) (ox_look_at_pictures : Okx P w K mg base "look_at_pictures" ["one", "other"] s_look_at_pictures 4 (spNoPics K C_BadPicture C_Unlike)) (d : DefIn K mg "same_picture" ["one", "other"] s_same_picture) : Okx P w K mg base "same_picture" ["one", "other"] s_same_picture 5 (spNoPics K C_BadPicture C_Unlike) := by
  refine Okx.mk d sc_same_picture (fun vs H Q E h => ?_) (fun f cdv A outer s H vs Q E hr h => ?_)
  · obtain ⟨y, z, d, e, rfl, _⟩ := h
    rfl
  obtain ⟨y, z, d, e, rfl, hy, hz, hk⟩ := h
  refine ⟨_, (pss_cons (ps_expr (pe_fnX ox_look_at_pictures (hr.mono (by decide)) (takes_of rfl rfl rfl rfl) (pa_cons (pv 0) (pa_cons (pv 1) pa_nil))))
      (pss_cons ps_never
      (pss_cons ps_never
      (pss_cons ps_never
      (pss_cons ps_never
      (pss_cons ps_never
      (pss_one ps_never))))))), ?_⟩
  refine q_dropM (cXVV (ev_var (v := y) rfl) (ev_var (v := z) rfl) fun H1 e1 => ⟨y, z, d, e, rfl, hy.ex e1, hz.ex e1, ?_⟩)
  rcases hk with ⟨hno, k⟩ | ⟨k, M, j, N, h1, hM, h2, hN, hkj, kk⟩
  · exact .inl ⟨hno, fun H2 dx e2 hdx => k H2 dx (e1.trans e2) hdx⟩
  · exact .inr ⟨k, M, j, N, h1, hM, h2, hN, hkj, fun H2 dx e2 hdx => kk H2 dx (e1.trans e2) hdx⟩
end
end WT
namespace WT
open PySem PySem.Spec PyProof.Rows L2 Evl SX
abbrev s_law_odd : Stmt := top 42
abbrev N_law_odd : List Str := ["pot", "some"]
theorem sc_law_odd : FnScope N_law_odd ["pot"] (defScope s_law_odd) := ⟨rfl, rfl, rfl, by decide +kernel, rfl, by decide +kernel, by decide +kernel⟩
/-- the values of any kind that the law draws from -/
def odd1 : List PyData := [.none, .bool true, .bool false, .int (0), .int (1), .int (-1), .int (2), .int (33), .int (100000000000000000000), .str "", .str "a", .str "in", .str "out", .tuple [], .list [], .dict [], .tuple [.int (0)], .tuple [.tuple []], .list [.int (0)], .tuple [.int (0), .int (1)]]
def odd2 : List PyData := [.tuple [.int (1), .int (0)], .tuple [.none], .dict [(.str "a", .int (1))], .tuple [.str "in", .tuple []], .tuple [.str "out", .tuple []], .tuple [.tuple [.int (0), .int (1)], .tuple [.int (2), .int (3)]], .tuple [.tuple [.bool true]], .tuple [.tuple [.str "a", .int (1)]]]
def oddDs : List PyData := odd1 ++ odd2
theorem oddDs_shw : ∀ d ∈ oddDs, ShowOk d := fun d hd => by
  have h : oddDs.all (fun d => d.showable && decide (d.depth ≤ 50) && decide (d.shown.length ≤ 1000)) = true := by decide +kernel
  exact (shw_look (n := 50) (L := 1000) (List.all_eq_true.mp h d hd)).ok (by decide) (by decide)
/-- a value of any kind -/
def spOdd (K : PySem.W.Frag) : Sp := fun vs H Q _ => ∃ (p : Addr) (n : Nat), vs = [.ref p] ∧ PotAt H p n ∧ n < 2 ^ 240 ∧ ∀ d v H', d ∈ oddDs → DaAt K H' d v → But p H H' → PotAt H' p (n + 1) → Q v H'
section
variable {P : Program} {w : World} {K : PySem.W.Frag} {mg : Str → Option Value} {base : Heap}
theorem ok_law_odd (B : Bt mg) (o2_law_of : Okd P w K mg base "_law_of" ["pot", "some"] s_law_of 2 spOfX) (d : DefIn K mg "_law_odd" ["pot"] s_law_odd) : Okd P w K mg base "_law_odd" ["pot"] s_law_odd 3 (spOdd K) := by
  have o_law_of := o2_law_of
  refine Okd.mk d sc_law_odd (fun vs H Q E h => ?_) (fun f cdv A outer s H vs Q E hr h => ?_)
  · obtain ⟨p, n, rfl, _⟩ := h
    rfl
  obtain ⟨p, n, rfl, hP, hn, k⟩ := h
  refine ⟨_, (pss_cons (ps_set (i := 1) sc_law_odd.nd rfl (Or.inl rfl) (pe_lst (pa_cons pe_non (pa_cons pe_bl (pa_cons pe_bl (pa_cons pe_int (pa_cons pe_int (pa_cons (pe_un un_neg pe_int) (pa_cons pe_int (pa_cons pe_int (pa_cons (pe_op op_powW pe_int pe_int) (pa_cons pe_str (pa_cons pe_str (pa_cons pe_str (pa_cons pe_str (pa_cons (pe_tup pa_nil) (pa_cons (pe_frzL (pe_lst pa_nil)) (pa_cons (pe_frzK pe_dnewK) (pa_cons (pe_tup (pa_cons pe_int pa_nil)) (pa_cons (pe_tup (pa_cons (pe_tup pa_nil) pa_nil)) (pa_cons (pe_frzL (pe_lst (pa_cons pe_int pa_nil))) (pa_cons (pe_tup (pa_cons pe_int (pa_cons pe_int pa_nil))) pa_nil))))))))))))))))))))))
      (pss_cons (ps_set (i := 1) sc_law_odd.nd rfl (Or.inl rfl) (pe_op op_cat (pv 1) (pe_lst (pa_cons (pe_tup (pa_cons pe_int (pa_cons pe_int pa_nil))) (pa_cons (pe_tup (pa_cons pe_non pa_nil)) (pa_cons (pe_frzK (pe_disp (pps_cons pe_str pe_int pps_nil) rfl rfl (by simp) (by decide))) (pa_cons (pe_tup (pa_cons pe_str (pa_cons (pe_tup pa_nil) pa_nil))) (pa_cons (pe_tup (pa_cons pe_str (pa_cons (pe_tup pa_nil) pa_nil))) (pa_cons (pe_tup (pa_cons (pe_tup (pa_cons pe_int (pa_cons pe_int pa_nil))) (pa_cons (pe_tup (pa_cons pe_int (pa_cons pe_int pa_nil))) pa_nil))) (pa_cons (pe_tup (pa_cons (pe_tup (pa_cons pe_bl pa_nil)) pa_nil)) (pa_cons (pe_tup (pa_cons (pe_tup (pa_cons pe_str (pa_cons pe_int pa_nil))) pa_nil)) pa_nil)))))))))))
      (pss_one (ps_ret (pe_fn o_law_of (hr.mono (by decide)) (pa_cons (pv 0) (pa_cons (pv 1) pa_nil))))))), ?_⟩
  refine q_asgLA (K := K) (ela_lst (ds := odd1) (eaa_c (eda (ed_ev ev_c fz_non)) (eaa_c (eda (ed_ev ev_c fz_bl)) (eaa_c (eda (ed_ev ev_c fz_bl)) (eaa_c (eda (ed_ev ev_c fz_int)) (eaa_c (eda (ed_ev ev_c fz_int)) (eaa_c (eda (ed_ev (ev_un ev_c ru_neg) fz_int)) (eaa_c (eda (ed_ev ev_c fz_int)) (eaa_c (eda (ed_ev ev_c fz_int)) (eaa_c (eda (ed_ev (ev_pow (z := 100000000000000000000) ⟨by decide, by decide⟩ (by decide)) fz_int)) (eaa_c (eda (ed_ev ev_c fz_str)) (eaa_c (eda (ed_ev ev_c fz_str)) (eaa_c (eda (ed_ev ev_c fz_str)) (eaa_c (eda (ed_ev ev_c fz_str)) (eaa_c (eda (ed_tup (ds := []) (ea_nil) (by decide))) (eaa_c (eda (ed_frzL (WT.el_lst (ds := []) (ea_nil) (by decide)))) (eaa_c (eda_new) (eaa_c (eda (ed_tup (ds := [.int (0)]) (ea_d (ed_ev ev_c fz_int) ea_nil) (by decide))) (eaa_c (eda (ed_tup (ds := [.tuple []]) (ea_d (ed_tup (ds := []) (ea_nil) (by decide)) ea_nil) (by decide))) (eaa_c (eda (ed_frzL (WT.el_lst (ds := [.int (0)]) (ea_d (ed_ev ev_c fz_int) ea_nil) (by decide)))) (eaa_c (eda (ed_tup (ds := [.int (0), .int (1)]) (ea_d (ed_ev ev_c fz_int) (ea_d (ed_ev ev_c fz_int) ea_nil)) (by decide))) eaa_nil)))))))))))))))))))) (by decide)) fun l1 xs1 H1 hl1 e1 h1 f1 => ?_
  refine q_asgLA (K := K) (ela_cat (es := odd2) (ev_var (v := .ref l1) rfl) h1 f1 (ela_lst (ds := odd2) (eaa_c (eda (ed_tup (ds := [.int (1), .int (0)]) (ea_d (ed_ev ev_c fz_int) (ea_d (ed_ev ev_c fz_int) ea_nil)) (by decide))) (eaa_c (eda (ed_tup (ds := [.none]) (ea_d (ed_ev ev_c fz_non) ea_nil) (by decide))) (eaa_c ((eda_disp1 rfl)) (eaa_c (eda (ed_tup (ds := [.str "in", .tuple []]) (ea_d (ed_ev ev_c fz_str) (ea_d (ed_tup (ds := []) (ea_nil) (by decide)) ea_nil)) (by decide))) (eaa_c (eda (ed_tup (ds := [.str "out", .tuple []]) (ea_d (ed_ev ev_c fz_str) (ea_d (ed_tup (ds := []) (ea_nil) (by decide)) ea_nil)) (by decide))) (eaa_c (eda (ed_tup (ds := [.tuple [.int (0), .int (1)], .tuple [.int (2), .int (3)]]) (ea_d (ed_tup (ds := [.int (0), .int (1)]) (ea_d (ed_ev ev_c fz_int) (ea_d (ed_ev ev_c fz_int) ea_nil)) (by decide)) (ea_d (ed_tup (ds := [.int (2), .int (3)]) (ea_d (ed_ev ev_c fz_int) (ea_d (ed_ev ev_c fz_int) ea_nil)) (by decide)) ea_nil)) (by decide))) (eaa_c (eda (ed_tup (ds := [.tuple [.bool true]]) (ea_d (ed_tup (ds := [.bool true]) (ea_d (ed_ev ev_c fz_bl) ea_nil) (by decide)) ea_nil) (by decide))) (eaa_c (eda (ed_tup (ds := [.tuple [.str "a", .int (1)]]) (ea_d (ed_tup (ds := [.str "a", .int (1)]) (ea_d (ed_ev ev_c fz_str) (ea_d (ed_ev ev_c fz_int) ea_nil)) (by decide)) ea_nil) (by decide))) eaa_nil)))))))) (by decide)) (by decide)) fun l2 xs2 H2 hl2 e2 h2 f2 => ?_
  refine s_retM (c_call (c_cons (ev_var (v := .ref p) rfl H2 (Ex.refl _) _ fun H3 e3 => c_cons (ev_var (v := .ref l2) rfl H3 (Ex.refl _) _ fun H4 e4 => c_nil (ofX_da (hP.ex (e1.trans (e2.trans (e3.trans e4)))) hn ((e3.trans e4) _ _ h2) (f2.ex (e3.trans e4)) (fresh_ne (hP.ex e1) hl2) (fun z => nomatch z) (by decide) fun d v H5 hd fd eB hP5 => k d v H5 hd fd ((But.of (e1.trans (e2.trans (e3.trans e4)))).trans eB) hP5)))))
end
abbrev s_law_bent : Stmt := top 44
abbrev N_law_bent : List Str := ["pot", "value", "at"]
theorem sc_law_bent : FnScope N_law_bent ["pot", "value"] (defScope s_law_bent) := ⟨rfl, rfl, rfl, by decide +kernel, rfl, by decide +kernel, by decide +kernel⟩
/-- data with one thing otherwise -/
def spBent (K : PySem.W.Frag) (fl : Nat) : Sp := fun vs H Q _ => ∃ (p : Addr) (v : V) (c N n : Nat) (d : PyData), vs = [.ref p, v] ∧ PotAt H p c ∧ c + 2 * n + 2 < 2 ^ 240 ∧ Fz K H d v ∧ BtD N n d ∧ n < fl ∧ n ≤ 20 ∧ N ≤ 5000 ∧
  ∀ d' v' H', Fz K H' d' v' → (∀ k, LtD (N + 1) k d') → Shw (n + 1) (blN N (n + 1)) d' → But p H H' → PotAt H' p (c + 2 * n + 2) → Q v' H'
section
variable {K : PySem.W.Frag} {H : Hp}
theorem catA_val {ds es : List PyData} {v w : V} {Q : VK} (f : Fz K H (.tuple ds) v) (g : Fz K H (.tuple es) w) (hl : ds.length + es.length ≤ 100000) (q : ∀ u H', Ex H H' → Fz K H' (.tuple (ds ++ es)) u → Q u H') : rCatA K v w H Q :=
  ed_catA (σ := []) (ta := fun _ H Q => Q v H) (tb := fun _ H Q => Q w H) (fun H1 e Q q => q v H1 (Ex.refl _) (fz_ex e f)) (fun H1 e Q q => q w H1 (Ex.refl _) (fz_ex e g)) hl H (Ex.refl H) Q q
theorem c_and {σ : L2.St} {t u : TT} {Q : Bool → Hp → Prop} (h : t σ H fun c H1 => if c = true then u σ H1 Q else Q false H1) : tAnd t u σ H Q := h
end
section
variable {P : Program} {w : World} {K : PySem.W.Frag} {mg : Str → Option Value} {base : Heap}
theorem bent_all (B : Bt mg) (o_law_take : Okd P w K mg base "_law_take" ["pot", "upto"] s_law_take 1 spTake) (o_law_of : Okd P w K mg base "_law_of" ["pot", "some"] s_law_of 2 (spOf K)) (o_law_odd : Okd P w K mg base "_law_odd" ["pot"] s_law_odd 3 (spOdd K)) (d : DefIn K mg "_law_bent" ["pot", "value"] s_law_bent) : ∀ fl, Okd P w K mg base "_law_bent" ["pot", "value"] s_law_bent (fl + 4) (spBent K fl)
  | 0 => by
    obtain ⟨f, fd, F, g, b⟩ := d.ex
    exact ⟨f, fd, g, F, b, fun vs H Q E h => (by obtain ⟨_, _, _, _, _, _, _, _, _, _, _, h, _⟩ := h; exact absurd h (Nat.not_lt_zero _)), fun A out s H args us vs Q E hr e0 hb r h => (by obtain ⟨_, _, _, _, _, _, _, _, _, _, _, h, _⟩ := h; exact absurd h (Nat.not_lt_zero _))⟩
  | fl + 1 => by
    have o_law_bent := bent_all B o_law_take o_law_of o_law_odd d fl
    refine Okd.mk d sc_law_bent (fun vs H Q E h => ?_) (fun f cdv A outer s H vs Q E hr h => ?_)
    · obtain ⟨p, v, c, N, n, d, rfl, _⟩ := h
      rfl
    obtain ⟨p, v, c, N, n, d, rfl, hP, hc, f0, hB, hn, hn20, hN5, k⟩ := h
    refine ⟨_, (pss_cons (ps_if (PW.pt (pw_and (pt_val (pe_callB call_isi (by rfl) B.isinstance boot_isinstance (pa_cons (pv 1) (pa_cons (pe_bltn (v := V.ty "tuple") (u := Value.type "tuple") (by rfl) B.tuple boot_tuple rfl) pa_nil)))) (pw_and (pt_cmpR (op_neD (room64 hr)) (pv 1) (pe_tup pa_nil) (nomark _)) (pw_and1 (pt_cmpR op_gt (pe_fn o_law_take (hr.mono (by omega)) (pa_cons (pv 0) (pa_cons pe_int pa_nil))) pe_int (nomark _)))))) (pss_cons (ps_set (i := 2) sc_law_bent.nd rfl (Or.inl rfl) (pe_fn o_law_take (hr.mono (by omega)) (pa_cons (pv 0) (pa_cons (pe_callB call_len_seq (by rfl) B.len boot_len (pa_cons (pv 1) pa_nil)) pa_nil))))
        (pss_one (ps_ret (pe_op op_catA (pe_op op_catA (pe_slice sl_tupA (pv 1) po_none (po_some (pv 2))) (pe_tup (pa_cons (pe_fn o_law_bent (hr.mono (Nat.le_refl _)) (pa_cons (pv 0) (pa_cons (pe_ix ix_tup (pv 1) (pv 2) (fun _ _ => rfl)) pa_nil))) pa_nil))) (pe_slice sl_tupA (pv 1) (po_some (pe_op op_add (pv 2) pe_int)) po_none))))) pss_nil)
      (pss_cons (ps_if (pt_val (pe_callB call_isi (by rfl) B.isinstance boot_isinstance (pa_cons (pv 1) (pa_cons (pe_bltn (v := V.ty "tuple") (u := Value.type "tuple") (by rfl) B.tuple boot_tuple rfl) pa_nil)))) (pss_one (ps_ret (pe_fn o_law_of (hr.mono (by omega)) (pa_cons (pv 0) (pa_cons (pe_lst (pa_cons (pe_frzL (pe_callTy call_list_of (by rfl) B.list boot_list (pa_cons (pv 1) pa_nil))) (pa_cons (pe_slice sl_tupA (pv 1) (po_some pe_int) po_none) (pa_cons (pe_slice sl_tupA (pv 1) po_none (po_some (pe_un un_neg pe_int))) (pa_cons (pe_op op_catA (pv 1) (pe_slice sl_tupA (pv 1) (po_some (pe_un un_neg pe_int)) po_none)) (pa_cons (pe_revT (pv 1)) (pa_cons (pe_tup pa_nil) (pa_cons pe_non pa_nil)))))))) pa_nil))))) pss_nil)
      (pss_cons (ps_if (pt_val (pe_callB call_isi (by rfl) B.isinstance boot_isinstance (pa_cons (pv 1) (pa_cons (pe_bltn (v := V.ty "bool") (u := Value.type "bool") (by rfl) B.bool boot_bool rfl) pa_nil)))) (pss_one (ps_ret (pe_fn o_law_of (hr.mono (by omega)) (pa_cons (pv 0) (pa_cons (pe_lst (pa_cons (pe_not (pv 1)) (pa_cons (pe_callTy call_int1 (by rfl) B.int boot_int (pa_cons (pv 1) pa_nil)) (pa_cons pe_non pa_nil)))) pa_nil))))) pss_nil)
      (pss_cons (ps_if (pt_val (pe_callB call_isi (by rfl) B.isinstance boot_isinstance (pa_cons (pv 1) (pa_cons (pe_bltn (v := V.ty "int") (u := Value.type "int") (by rfl) B.int boot_int rfl) pa_nil)))) (pss_one (ps_ret (pe_fn o_law_of (hr.mono (by omega)) (pa_cons (pv 0) (pa_cons (pe_lst (pa_cons (pe_op op_add (pv 1) pe_int) (pa_cons (pe_op op_sub (pv 1) pe_int) (pa_cons (pe_op op_sub (pe_un un_neg (pv 1)) pe_int) (pa_cons (pe_callTy call_str_int (by rfl) B.str boot_str (pa_cons (pv 1) pa_nil)) (pa_cons (pe_cmpR op_eq (pv 1) pe_int (nomark _)) (pa_cons pe_non (pa_cons (pe_tup (pa_cons (pv 1) pa_nil)) (pa_cons (pe_op op_powW pe_int pe_int) pa_nil))))))))) pa_nil))))) pss_nil)
      (pss_cons (ps_if (pt_val (pe_callB call_isi (by rfl) B.isinstance boot_isinstance (pa_cons (pv 1) (pa_cons (pe_bltn (v := V.ty "str") (u := Value.type "str") (by rfl) B.str boot_str rfl) pa_nil)))) (pss_one (ps_ret (pe_fn o_law_of (hr.mono (by omega)) (pa_cons (pv 0) (pa_cons (pe_lst (pa_cons (pe_op op_add_str (pv 1) pe_str) (pa_cons (pe_slice sl_str (pv 1) (po_some pe_int) po_none) (pa_cons (pe_upper (pv 1)) (pa_cons pe_str (pa_cons pe_non (pa_cons pe_int pa_nil))))))) pa_nil))))) pss_nil)
      (pss_one (ps_ret (pe_fn o_law_odd (hr.mono (by omega)) (pa_cons (pv 0) pa_nil))))))))), ?_⟩
    have hcase : BtD0 d ∨ ∃ ds n', n = n' + 1 ∧ d = .tuple ds ∧ ds.length ≤ N ∧ ∀ e ∈ ds, BtD N n' e := by
      cases n with
      | zero => exact .inl hB
      | succ n' =>
        rcases hB.s with h | ⟨ds, h1, h2, h3⟩
        · exact .inl h
        · exact .inr ⟨ds, n', rfl, h1, h2, h3⟩
    rcases hcase with hB0 | ⟨ds, n', rfl, rfl, hl, hds⟩
    · have hnt : isTup d = false := by rcases hB0 with ⟨i, rfl, _⟩ | ⟨s, rfl, _⟩ <;> rfl
      refine q_when (b := false) (et_and (a := false) (b := false) (et_test (ev_isiG (ed_var rfl f0) (by rw [kit_tup, hnt]))) (fun z => nomatch z)) (fun z => nomatch z) fun _ H1 e1 => ?_
      refine q_when (b := false) (et_test (ev_isiG (ed_var rfl (fz_ex e1 f0)) (by rw [kit_tup, hnt]))) (fun z => nomatch z) fun _ H2 e2 => ?_
      have e12 := e1.trans e2
      have f2 := fz_ex e12 f0
      rcases hB0 with ⟨i, rfl, hi⟩ | ⟨s, rfl, hs, hps, hasc⟩
      · have hv := fz_intI f0
        subst hv
        refine q_when (b := false) (et_test (ev_isiG (ed_var rfl f2) rfl)) (fun z => nomatch z) fun _ H3 e3 => ?_
        refine q_when (b := true) (et_test (ev_isiG (ed_var rfl (fz_ex e3 f2)) rfl)) (fun _ H4 e4 => ?_) (fun z => nomatch z)
        have e14 := e12.trans (e3.trans e4)
        refine s_retM (c_ofD (n := c) (ds := [.int (i + 1), .int (i - 1), .int (-i - 1), .str (toString i), .bool (decide (V.int i = V.int 1)), .none, .tuple [.int i], .int 1000000000]) (ev_var (v := .ref p) rfl) (WT.el_lst (ea_d (ed_ev (ev_op (ev_var (v := .int i) rfl) ev_c rv_I0) fz_int) (ea_d (ed_ev (ev_op (ev_var (v := .int i) rfl) ev_c rv_I0) fz_int) (ea_d (ed_ev (ev_op (ev_un (ev_var (v := .int i) rfl) ru_neg) ev_c rv_I0) fz_int) (ea_d (ed_ev (ev_strZ (ev_var (v := .int i) rfl) hi) fz_str) (ea_d (ed_ev (ev_op (ev_var (v := .int i) rfl) ev_c (rv_eq rfl)) fz_bl) (ea_d (ed_ev ev_c fz_non) (ea_d (ed_tup (ds := [.int i]) (ea_d (ed_ev (ev_var (v := .int i) rfl) fz_int) ea_nil) (by show 1 ≤ 100000; omega)) (ea_d (ed_ev (ev_pow ⟨by decide, by decide⟩ (by decide)) fz_int) ea_nil)))))))) (by show 8 ≤ 100000; omega)) (hP.ex e14) (by omega) (fun z => nomatch z) (by show 8 ≤ 1000; omega) fun d' v' H5 hd fd eB hP5 => k d' v' H5 fd ?_ (shw_bentI hi hd N n) ((But.of e14).trans eB) (hP5.le (by omega)))
        simp only [List.mem_cons, List.not_mem_nil, or_false] at hd
        rcases hd with rfl | rfl | rfl | rfl | rfl | rfl | rfl | rfl
        all_goals first
          | exact LtD.nt rfl
          | exact LtD.tup (by show 1 ≤ N + 1; omega) fun e he k => by
              rw [List.mem_singleton.mp he]
              exact LtD.nt rfl k
      · have hv := fz_strI f0
        subst hv
        refine q_when (b := false) (et_test (ev_isiG (ed_var rfl f2) rfl)) (fun z => nomatch z) fun _ H3 e3 => ?_
        refine q_when (b := false) (et_test (ev_isiG (ed_var rfl (fz_ex e3 f2)) rfl)) (fun z => nomatch z) fun _ H4 e4 => ?_
        refine q_when (b := true) (et_test (ev_isiG (ed_var rfl (fz_ex (e3.trans e4) f2)) rfl)) (fun _ H5 e5 => ?_) (fun z => nomatch z)
        have e15 := e12.trans (e3.trans (e4.trans e5))
        refine s_retM (c_ofD (n := c) (ds := [.str (s ++ "a"), .str (cutS s (some 1) none), .str (Txt.upper s), .str "", .none, .int 0]) (ev_var (v := .ref p) rfl) (WT.el_lst (ea_d (ed_ev (ev_addS' (ev_var (v := .str s) rfl) ev_c (by show s.length + 1 ≤ 100000; omega)) fz_str) (ea_d (ed_ev (ev_cutS (ev_var (v := .str s) rfl) (by omega) (eo_some ev_c) eo_none) fz_str) (ea_d (ed_ev (ev_upper (ev_var (v := .str s) rfl) (by omega)) fz_str) (ea_d (ed_ev ev_c fz_str) (ea_d (ed_ev ev_c fz_non) (ea_d (ed_ev ev_c fz_int) ea_nil)))))) (by show 6 ≤ 100000; omega)) (hP.ex e15) (by omega) (fun z => nomatch z) (by show 6 ≤ 1000; omega) fun d' v' H6 hd fd eB hP6 => k d' v' H6 fd ?_ (shw_bentS hs hasc hd N (n + 1)) ((But.of e15).trans eB) (hP6.le (by omega)))
        simp only [List.mem_cons, List.not_mem_nil, or_false] at hd
        rcases hd with rfl | rfl | rfl | rfl | rfl | rfl <;> exact LtD.nt rfl
    · have hpl := hB.pl
      refine q_ifMX (fun H1 => But p H H1 ∧ PotAt H1 p (c + 1)) (fun Nx hN => ?_) (fun H1 hJ => ?_)
      · refine c_and ((et_test (ev_isiG (ed_var (v := v) rfl f0) rfl)) H (Ex.refl H) _ fun H1 e1 => iteT ?_)
        have f1 := fz_ex e1 f0
        have hne : EvT (tTest (tOp (rNeD K) (tVar 1) (tTup tNil))) [some (.ref p), some v, none] H1 (!PyData.eqv (.tuple ds) (.tuple [])) := et_test (ev_neD (ed_var rfl f1) (ed_tup (ds := []) ea_nil (by decide)) (Plain.of hpl (by omega)) (Plain.of (n := 1) (by decide)))
        have heq : PyData.eqv (.tuple ds) (.tuple []) = decide (ds = []) := by
          rw [Bool.eq_iff_iff, eqv_iff _ _ hpl.1 (by decide), decide_eq_true_eq]
          exact ⟨fun z => by injection z, fun z => by rw [z]⟩
        by_cases h0 : ds = []
        · rw [heq, decide_eq_true h0] at hne
          refine c_and (hne H1 (Ex.refl H1) _ fun H2 e2 => iteF (iteF (hN H2 ⟨But.of (e1.trans e2), (hP.ex (e1.trans e2)).le (by omega)⟩)))
        · rw [heq, decide_eq_false h0] at hne
          refine c_and (hne H1 (Ex.refl H1) _ fun H2 e2 => iteT ?_)
          have e12 := e1.trans e2
          refine c_test (c_op (x_take (n := c) (u := 5) (ev_var (v := .ref p) rfl) ev_c (hP.ex e12) (by omega) (by decide) (by decide) fun dd H3 hdd eB hP3 => ev_c H3 (Ex.refl _) _ fun H4 e4 => c_I0 rfl ⟨_, rfl, ?_⟩))
          have b4 : But p H H4 := ((But.of e12).trans eB).ex e4
          have hP4 := hP3.ex e4
          by_cases hd0 : (0 : Int) < (dd : Int)
          · rw [decide_eq_true hd0]
            refine iteT ?_
            have f4 : Fz K H4 (.tuple ds) v := Fz.mono (hP.tex b4) _ _ f0
            have hlen : 0 < ds.length := List.length_pos_iff.mpr h0
            refine q_asgM (x_take (n := c + 1) (u := ds.length) (ev_var (v := .ref p) rfl) (ev_lenT (ed_var rfl f4)) hP4 (by omega) hlen (by omega) fun at_ H5 hat eB5 hP5 => ?_)
            have b5 : But p H H5 := b4.trans eB5
            have f5 : Fz K H5 (.tuple ds) v := Fz.mono (hP.tex b5) _ _ f0
            obtain ⟨e0, he0⟩ : ∃ e, ds[at_]? = some e := ⟨_, List.getElem?_eq_getElem hat⟩
            have i1 : ds.take at_ = (ds.drop (HT.sIx ds.length 0 none)).take (HT.sIx ds.length ds.length (some (at_ : Int)) - HT.sIx ds.length 0 none) := by
              rw [show HT.sIx ds.length 0 none = 0 from rfl, HT.sIx_nat, Nat.min_eq_left (Nat.le_of_lt hat), List.drop_zero, Nat.sub_zero]
            have i2 : ds.drop (at_ + 1) = (ds.drop (HT.sIx ds.length 0 (some ((at_ : Int) + 1)))).take (HT.sIx ds.length ds.length none - HT.sIx ds.length 0 (some ((at_ : Int) + 1))) := by
              rw [show ((at_ : Int) + 1) = ((at_ + 1 : Nat) : Int) by omega, show HT.sIx ds.length ds.length none = ds.length from rfl, HT.sIx_nat, Nat.min_eq_left (by omega)]
              exact (List.take_of_length_le (by rw [List.length_drop]; omega)).symm
            refine s_retM (c_op (c_op (ed_slA (es := ds.take at_) (ed_var (v := v) rfl f5) eo_none (eo_some (i := (at_ : Int)) (ev_var rfl)) i1 H5 (Ex.refl _) _ fun v1 H6 e6 g1 => c_tup (c_cons (c_call (c_cons (ev_var (v := .ref p) rfl H6 (Ex.refl _) _ fun H7 e7 => c_cons (ed_ixT (i := at_) (ed_var (v := v) rfl (fz_ex (e6.trans e7) f5)) (ev_var rfl) he0 H7 (Ex.refl _) _ fun v2 H8 e8 g2 => c_nil ⟨p, v2, c + 2, N, n', e0, rfl, (hP5.ex (e6.trans (e7.trans e8))), by omega, g2, hds _ (List.mem_of_getElem? he0), by omega, by omega, hN5, fun d' v' H9 g3 hL hS eB9 hP9 => c_nil ⟨sz_of (show 1 ≤ 100000 by decide), fun T hT => ?_⟩⟩))))))))
            have e68 := e6.trans (e7.trans e8)
            have b9 : But p H H9 := (b5.ex e68).trans eB9
            have eT := Ex.new (o := .tup [v']) hT
            have hTT : upd H9 T (.tup [v']) T = some (.tup [v']) := upd_same
            have g4 : Fz K (upd H9 T (.tup [v'])) (.tuple [d']) (.ref T) := fz_tup hTT (fzl_cons (fz_ex eT g3) fzl_nil)
            have g1' : Fz K (upd H9 T (.tup [v'])) (.tuple (ds.take at_)) v1 := fz_ex eT (Fz.mono ((hP5.ex e68).tex eB9) _ _ (fz_ex (e7.trans e8) g1))
            have bT : But p H (upd H9 T (.tup [v'])) := b9.ex eT
            have hPT := hP9.ex eT
            have fT : Fz K (upd H9 T (.tup [v'])) (.tuple ds) v := Fz.mono (hP.tex bT) _ _ f0
            generalize upd H9 T (.tup [v']) = HT at hTT g4 g1' bT hPT fT ⊢
            have hl1 : (ds.take at_).length = at_ := by rw [List.length_take, Nat.min_eq_left (Nat.le_of_lt hat)]
            have hl2 : (ds.drop (at_ + 1)).length = ds.length - (at_ + 1) := List.length_drop
            refine catA_val g1' g4 (by rw [hl1]; show at_ + 1 ≤ 100000; omega) fun u Ha ea ga => ?_
            refine ed_slA (es := ds.drop (at_ + 1)) (ed_var (v := v) rfl (fz_ex ea fT)) (eo_some (i := (at_ : Int) + 1) (ev_op (ev_var (v := .int (at_ : Int)) rfl) ev_c rv_I0)) eo_none i2 Ha (Ex.refl _) _ fun u2 Hb eb gb => ?_
            refine catA_val (fz_ex eb ga) gb (by rw [List.length_append, hl1, hl2]; show at_ + 1 + _ ≤ 100000; omega) fun r Hc ec gc => ?_
            have eac := ea.trans (eb.trans ec)
            refine k _ r Hc gc (LtD.tup (by rw [List.length_append, List.length_append, hl1, hl2]; show at_ + 1 + _ ≤ N + 1; omega) fun e he k => ?_) (shw_tupN (fun e he => ?_) (by rw [List.length_append, List.length_append, hl1, hl2]; show at_ + 1 + _ ≤ N + 1; omega)) (bT.ex eac) ((hPT.ex eac).le (by omega))
            · rcases List.mem_append.mp he with he | he
              · rcases List.mem_append.mp he with he | he
                · exact (hds _ (List.mem_of_mem_take he)).lt (by omega) k
                · rw [List.mem_singleton.mp he]
                  exact hL k
              · exact (hds _ (List.mem_of_mem_drop he)).lt (by omega) k
            · rcases List.mem_append.mp he with he | he
              · rcases List.mem_append.mp he with he | he
                · exact (hds _ (List.mem_of_mem_take he)).shw.s
                · rw [List.mem_singleton.mp he]
                  exact hS
              · exact (hds _ (List.mem_of_mem_drop he)).shw.s
          · rw [decide_eq_false hd0]
            exact iteF (hN H4 ⟨b4, hP4⟩)
      · obtain ⟨eB, hP1⟩ := hJ
        have f1 : Fz K H1 (.tuple ds) v := Fz.mono (hP.tex eB) _ _ f0
        refine q_when (b := true) (et_test (ev_isiG (ed_var rfl f1) rfl)) (fun _ H2 e2 => ?_) (fun z => nomatch z)
        have f2 := fz_ex e2 f1
        have hv : Ed K (tVar 1) [some (.ref p), some v, none] H2 (.tuple ds) := ed_var rfl f2
        have hsl : ∀ (a b : Nat), ((ds.drop a).take b).length ≤ N ∧ ∀ e ∈ (ds.drop a).take b, BtD N n' e := fun a b => ⟨Nat.le_trans (sub_sl ds a b).1 hl, fun e he => hds e ((sub_sl ds a b).2 e he)⟩
        have m1 : EvO (tPart (tC (.int 1))) [some (.ref p), some v, none] H2 (some 1) := eo_some ev_c
        have mn : EvO (tPart (tUn (rU fun i => .int (-i)) (tC (.int 1)))) [some (.ref p), some v, none] H2 (some (-1)) := eo_some (ev_un ev_c ru_neg)
        obtain ⟨s1, hs1⟩ : ∃ s, s = (ds.drop (HT.sIx ds.length 0 (some 1))).take (HT.sIx ds.length ds.length none - HT.sIx ds.length 0 (some 1)) := ⟨_, rfl⟩
        obtain ⟨s2, hs2⟩ : ∃ s, s = (ds.drop (HT.sIx ds.length 0 none)).take (HT.sIx ds.length ds.length (some (-1)) - HT.sIx ds.length 0 none) := ⟨_, rfl⟩
        obtain ⟨s3, hs3⟩ : ∃ s, s = (ds.drop (HT.sIx ds.length 0 (some (-1)))).take (HT.sIx ds.length ds.length none - HT.sIx ds.length 0 (some (-1))) := ⟨_, rfl⟩
        have z1 : s1.length ≤ N ∧ ∀ e ∈ s1, e ∈ ds := by rw [hs1]; exact ⟨(hsl _ _).1, (sub_sl _ _ _).2⟩
        have z2 : s2.length ≤ N ∧ ∀ e ∈ s2, e ∈ ds := by rw [hs2]; exact ⟨(hsl _ _).1, (sub_sl _ _ _).2⟩
        have z3 : s3.length ≤ 1 ∧ ∀ e ∈ s3, e ∈ ds := by
          refine ⟨?_, by rw [hs3]; exact (sub_sl _ _ _).2⟩
          rw [hs3, List.length_take, List.length_drop]
          have : HT.sIx ds.length 0 (some (-1)) + 1 ≥ ds.length := by
            unfold HT.sIx
            simp
            omega
          omega
        refine s_retM (c_ofD (n := c + 1) (ds := [.list ds, .tuple s1, .tuple s2, .tuple (ds ++ s3), .tuple ds.reverse, .tuple [], .none]) (ev_var (v := .ref p) rfl) (WT.el_lst (ea_d (ed_frzL (el_listOfT hv)) (ea_d (ed_slA hv m1 eo_none hs1) (ea_d (ed_slA hv eo_none mn hs2) (ea_d (ed_catA hv (ed_slA hv mn eo_none hs3) (by have := z3.1; omega)) (ea_d (ed_revT hv) (ea_d (ed_tup (ds := []) ea_nil (by decide)) (ea_d (ed_ev ev_c fz_non) ea_nil))))))) (by show 7 ≤ 100000; omega)) (hP1.ex e2) (by omega) (fun z => nomatch z) (by show 7 ≤ 1000; omega) fun d' v' H5 hd fd eB5 hP5 => k d' v' H5 fd ?_ (shw_bentT (fun e he => (hds e he).shw) hl z1 z2 z3 hd) ((eB.ex e2).trans eB5) (hP5.le (by omega)))
        simp only [List.mem_cons, List.not_mem_nil, or_false] at hd
        have hb : ∀ e ∈ ds, ∀ k, LtD (N + 1) k e := fun e he k => (hds e he).lt (by omega) k
        rcases hd with rfl | rfl | rfl | rfl | rfl | rfl | rfl
        · exact LtD.nt rfl
        · exact LtD.tup (by have := z1.1; omega) fun e he k => hb e (z1.2 e he) k
        · exact LtD.tup (by have := z2.1; omega) fun e he k => hb e (z2.2 e he) k
        · refine LtD.tup (by rw [List.length_append]; have := z3.1; omega) fun e he k => ?_
          rcases List.mem_append.mp he with he | he
          · exact hb e he k
          · exact hb e (z3.2 e he) k
        · exact LtD.tup (by rw [List.length_reverse]; omega) fun e he k => hb e (List.mem_reverse.mp he) k
        · exact LtD.tup (Nat.zero_le _) fun e he => absurd he List.not_mem_nil
        · exact LtD.nt rfl
theorem ok_law_bent (B : Bt mg) (o_law_take : Okd P w K mg base "_law_take" ["pot", "upto"] s_law_take 1 spTake) (o_law_of : Okd P w K mg base "_law_of" ["pot", "some"] s_law_of 2 (spOf K)) (o_law_odd : Okd P w K mg base "_law_odd" ["pot"] s_law_odd 3 (spOdd K)) (d : DefIn K mg "_law_bent" ["pot", "value"] s_law_bent) : Okd P w K mg base "_law_bent" ["pot", "value"] s_law_bent 12 (spBent K 8) := bent_all B o_law_take o_law_of o_law_odd d 8
end
end WT
namespace WT
open PySem PySem.Spec PyProof.Rows L2 Evl SX
/-- the list at l holds these lambdas, made since H0 -/
def LamSt (T : List (Addr × Str)) (q : Str) (cl : List (Str × Addr)) (H0 : Hp) (l : Addr) (es : List LamE) (H : Hp) : Prop :=
  ∃ fs : List Addr, H l = some (.lst (fs.map V.ref)) ∧ fs.length = es.length ∧ (∀ (i : Nat) (e : LamE) (f : Addr), es[i]? = some e → fs[i]? = some f → IsLam q cl e f H) ∧ LamX.Tabs T H ∧ LamX.ExtN H0 H ∧ ∀ o : HO, (∀ ps, o ≠ .tbl ps) → H0 l ≠ some o
section
variable {K : PySem.W.Frag} {T : List (Addr × Str)} {q : Str} {cl : List (Str × Addr)} {σ : L2.St} {H H0 : Hp} {Dn : Ends} {tz : TS} {e : LamE} {es : List LamE} {l : Addr}
theorem LamSt.ex {H' : Hp} (h : LamSt T q cl H0 l es H) (x : Ex H H') : LamSt T q cl H0 l es H' := by
  obtain ⟨fs, h1, h2, h3, h4, h5, h6⟩ := h
  exact ⟨fs, x _ _ h1, h2, fun i e f he hf => (h3 i e f he hf).ex x, h4.ext x, h5.trans (LamX.ExtN.of x), h6⟩
theorem q_lam0 {i : Nat} (hT : LamX.Tabs T H) (k : ∀ l H1, LamSt T q cl H l [e] H1 → tz Dn (σ.set i (some (.ref l))) H1) : tSeq (tAsg (tLst (tCons (tLamV T q cl e) tNil)) (gName i)) tz Dn σ H := by
  refine q_asgM (c_lst (c_cons (c_lamV hT fun f H1 eN T1 hf l1 => c_nil ⟨sz_of (show 1 ≤ 100000 by decide), fun l hl => k l _ ⟨[f], upd_same, rfl, fun i e' f' he hf' => ?_, T1.ext (Ex.new hl), eN.trans (LamX.ExtN.of (Ex.new hl)), fun o hn h => ?_⟩⟩)))
  · match i, he, hf' with
    | 0, he, hf' =>
      cases (Option.some.inj he)
      cases (Option.some.inj hf')
      exact l1.ex (Ex.new hl)
    | i + 1, he, _ => simp at he
  · have := eN _ _ h hn
    rw [hl] at this
    cases this
theorem q_lamS {i : Nat} (hv : σ[i]? = some (some (.ref l))) (h : LamSt T q cl H0 l es H) (few : es.length ≤ 100) (k : ∀ H1, LamSt T q cl H0 l (es ++ [e]) H1 → tz Dn σ H1) : tSeq (tDrop (tBM K "list" rAppend (tVar i) (tCons (tLamV T q cl e) tNil))) tz Dn σ H := by
  obtain ⟨fs, h1, h2, h3, h4, h5, h6⟩ := h
  refine q_appM (J := fun v H2 => ∃ f, v = .ref f ∧ LamX.ExtN H H2 ∧ LamX.Tabs T H2 ∧ IsLam q cl e f H2) h1 (ev_var (v := .ref l) hv) (fun H1 e1 Q1 q1 => c_lamV (h4.ext e1) fun f H2 eN T2 _ l2 => q1 (.ref f) H2 (eN _ _ (e1 _ _ h1) lst_tbl) ⟨f, rfl, (LamX.ExtN.of e1).trans eN, T2, l2⟩) (by rw [List.length_map, h2]; omega) fun v2 HM hM hJ => ?_
  obtain ⟨f, rfl, nM, TM, lM⟩ := hJ
  refine k _ ⟨fs ++ [f], by rw [upd_same, List.map_append]; rfl, by rw [List.length_append, List.length_append, h2]; rfl, fun j e' f' he hf' => ?_, tabs_butL TM hM But.put, fun b o hb hn => ?_, h6⟩
  · rw [List.getElem?_append] at he hf'
    by_cases hj : j < es.length
    · rw [if_pos hj] at he
      rw [if_pos (by rw [h2]; exact hj)] at hf'
      exact ((h3 j e' f' he hf').extN nM).put hM
    · rw [if_neg hj] at he
      rw [if_neg (by rw [h2]; exact hj)] at hf'
      have hj0 : j - es.length = 0 := by
        have := (List.getElem?_eq_some_iff.mp he).1
        rw [List.length_singleton] at this
        omega
      rw [hj0] at he
      rw [h2, hj0] at hf'
      cases (Option.some.inj he)
      cases (Option.some.inj hf')
      exact lM.put hM
  · rw [upd_ne fun z => ?_]
    · exact nM _ _ (h5 b o hb hn) hn
    · rw [z] at hb
      exact h6 o hn hb
end
section
variable {K : PySem.W.Frag} {σ : L2.St} {H : Hp} {ta tb : TE} {Q : VK}
/-- f(k = b) -/
theorem cK0V {sp : Sp} {E : XK} {xb : V} (hb : Ev tb σ H xb) (k : ∀ (H1 : Hp), Ex H H1 → sp [xb] H1 Q E) : tCallK sp (gKw 0 1 [0]) E tNil (tCons tb tNil) σ H Q :=
  c_callKw (c_nil (c_cons (hb H (Ex.refl _) _ fun H1 e1 => c_nil (k H1 e1))))
theorem evK0V {sp : Sp} {E : XK} {xb r : V} (hb : Ev tb σ H xb) (k : ∀ (H1 : Hp), Ex H H1 → ∀ Q : VK, (∀ H2, Ex H1 H2 → Q r H2) → sp [xb] H1 Q E) : Ev (tCallK sp (gKw 0 1 [0]) E tNil (tCons tb tNil)) σ H r := fun H0 e Q q => cK0V (ev_mono hb e) fun H1 e1 => k H1 (e.trans e1) Q fun H2 e2 => q H2 (e1.trans e2)
theorem edK0V {sp : Sp} {E : XK} {xb : V} {w : PyData} (hb : Ev tb σ H xb) (k : ∀ (H1 : Hp), Ex H H1 → ∀ Q : VK, (∀ u H2, Ex H1 H2 → Fz K H2 w u → Q u H2) → sp [xb] H1 Q E) : Ed K (tCallK sp (gKw 0 1 [0]) E tNil (tCons tb tNil)) σ H w := fun H0 e Q q => cK0V (ev_mono hb e) fun H1 e1 => k H1 (e.trans e1) Q fun u H2 e2 f => q u H2 (e1.trans e2) f
end
end WT
namespace WT
open PySem PySem.Spec PyProof.Rows L2 Evl SX
abbrev s_law_heard : Stmt := top 41
theorem heard_ok : HeardB s_law_heard := ⟨rfl, _, _, _, _, _, _, _, _, _, _, _, _, _, _, _, _, _, _, _, _, _, _, _, _, _, _, rfl⟩
abbrev s_law_is_value_right : Stmt := top 51
abbrev N_law_is_value_right : List Str := ["value", "due", "calls", "told", "call", "caught"]
theorem sc_law_is_value_right : FnScope N_law_is_value_right ["value"] (defScope s_law_is_value_right) := ⟨rfl, rfl, rfl, by decide +kernel, rfl, by decide +kernel, by decide +kernel⟩
/-- one value judged: it is a picture, or it is refused everywhere -/
def spValP (K : PySem.W.Frag) (T : List (Addr × Str)) : Sp := fun vs H Q _ => ∃ (v : V) (d : PyData), vs = [v] ∧ DaAt K H d v ∧ ShowOk d ∧ LamX.Tabs T H ∧ ∀ H', LamX.ExtN H H' → LamX.Tabs T H' → Q (.bl true) H'
section
variable {P : Program} {w : World} {K : PySem.W.Frag} {mg : Str → Option Value} {base : Heap} {C_BadPicture C_BadPosition C_Unlike C_TurnError tp : Addr} {T : List (Addr × Str)}
theorem kb_is_picture : ∀ (f : Addr) (fd : FuncData), Fun K "is_picture" "is_picture" s_is_picture f fd → KBinds K fd ["value"] ["value"] (gKw 0 1 [0]) (gKw 0 1 [0]) := fun f fd F => kbOf F gKw_rel fun kV doc pm an cdv ct us ws hl => by
  obtain ⟨h1, h2⟩ := gKw_len hl
  match us, ws, h1, h2 with
  | [], [a], _, _ => rfl
theorem ok_law_is_value_right (B : Bt mg) (tf_law_is_value_right : TabF K base mg "_law_is_value_right" s_law_is_value_right tp) (tt_law_is_value_right : TabT T tp "_law_is_value_right.<locals>.<lambda>") (d_law_heard : DefIn K mg "_law_heard" ["call"] s_law_heard) (g_TurnError : mg "TurnError" = some (.ref C_TurnError)) (g_BadPicture : mg "BadPicture" = some (.ref C_BadPicture)) (x_BadPicture : BadC K C_BadPicture C_TurnError)
    (o_law_is_picture : Okd P w K mg base "_law_is_picture" ["value"] s_law_is_picture 2 (spIsPicG K)) (o_is_picture : Okd P w K mg base "is_picture" ["value"] s_is_picture 2 (spIsPicG K)) (o_law_is_bool : Okd P w K mg base "_law_is_bool" ["told", "due"] s_law_is_bool 1 (spD K 2 rBool2))
    (ox_moved : Okx P w K mg base "moved" ["picture", "position"] s_moved 4 (spMovedX K C_BadPicture C_BadPosition C_Unlike fun k M g => tNN (movedN k M g))) (ox_keeps : Okx P w K mg base "keeps" ["picture", "position"] s_keeps 5 (spMovedX K C_BadPicture C_BadPosition C_Unlike fun k M g => .bool (decide (movedN k M g = M)))) (ox_code_of : Okx P w K mg base "code_of" ["picture"] s_code_of 4 (spCodeX K C_BadPicture))
    (ox_frame : Okx P w K mg base "frame" ["picture"] s_frame 4 (spNoPic K C_BadPicture)) (ox_least_picture : Okx P w K mg base "least_picture" ["picture"] s_least_picture 4 (spNoPic K C_BadPicture)) (ox_same_picture : Okx P w K mg base "same_picture" ["one", "other"] s_same_picture 5 (spNoPics K C_BadPicture C_Unlike))
    (d : DefIn K mg "_law_is_value_right" ["value"] s_law_is_value_right) : Okg P w K mg base "_law_is_value_right" ["value"] s_law_is_value_right 19 (spValP K T) := by
  have tt := tt_law_is_value_right
  refine Okg.mkL d tf_law_is_value_right sc_law_is_value_right (fun vs H Q E h => ?_) (fun f c A outer s H vs Q E cl hcl TB hgd hr h => ?_)
  · obtain ⟨v, d, rfl, _⟩ := h
    rfl
  obtain ⟨v, d, rfl, fd, hsh, hT, k⟩ := h
  refine ⟨_, (pss_cons (ps_set (i := 1) sc_law_is_value_right.nd rfl (Or.inl rfl) (pe_fn o_law_is_picture (hr.mono (by decide)) (pa_cons (pv 0) pa_nil)))
      (pss_cons (ps_if (pt_not (pt_val (pe_fn o_law_is_bool (hr.mono (by decide)) (pa_cons (pe_fnK0 o_is_picture (hr.mono (by decide)) kb_is_picture (pk_cons (pv 0) pk_nil)) (pa_cons (pv 1) pa_nil))))) (pss_one (ps_ret pe_bl)) pss_nil)
      (pss_cons (ps_if (pt_val (pv 1)) (pss_one (ps_ret pe_bl)) pss_nil)
      (pss_cons (ps_set (i := 2) sc_law_is_value_right.nd rfl (Or.inl rfl) (pe_lst (pa_cons (pe_lamV hcl TB tt (LamX.lamS_by (sc := defScope s_law_is_value_right) (by decide +kernel))) pa_nil)))
      (pss_cons (ps_expr (pe_bm PySem.F.plainAttrs_list PySem.F.slot_list_append PySem.F.type_list_append mt_append (pv 2) (pa_cons (pe_lamV hcl TB tt (LamX.lamS_by (sc := defScope s_law_is_value_right) (by decide +kernel))) pa_nil)))
      (pss_cons (ps_expr (pe_bm PySem.F.plainAttrs_list PySem.F.slot_list_append PySem.F.type_list_append mt_append (pv 2) (pa_cons (pe_lamV hcl TB tt (LamX.lamS_by (sc := defScope s_law_is_value_right) (by decide +kernel))) pa_nil)))
      (pss_cons (ps_expr (pe_bm PySem.F.plainAttrs_list PySem.F.slot_list_append PySem.F.type_list_append mt_append (pv 2) (pa_cons (pe_lamV hcl TB tt (LamX.lamS_by (sc := defScope s_law_is_value_right) (by decide +kernel))) pa_nil)))
      (pss_cons (ps_expr (pe_bm PySem.F.plainAttrs_list PySem.F.slot_list_append PySem.F.type_list_append mt_append (pv 2) (pa_cons (pe_lamV hcl TB tt (LamX.lamS_by (sc := defScope s_law_is_value_right) (by decide +kernel))) pa_nil)))
      (pss_cons (ps_expr (pe_bm PySem.F.plainAttrs_list PySem.F.slot_list_append PySem.F.type_list_append mt_append (pv 2) (pa_cons (pe_lamV hcl TB tt (LamX.lamS_by (sc := defScope s_law_is_value_right) (by decide +kernel))) pa_nil)))
      (pss_cons (ps_heardAll (i := 3) (j := 4) (k := 16) (own := [("call", 4)]) rfl rfl sc_law_is_value_right.nd rfl rfl (sw_true rfl rfl rfl (by decide +kernel)) (pi_list (pv 2)) (blkOk_by (own := [("call", 4)]) (N := N_law_is_value_right) (sc := defScope s_law_is_value_right) (by decide +kernel)) (fun _ _ _ _ _ => pg_name (i := 4) sc_law_is_value_right.nd rfl (Or.inl rfl)) d_law_heard heard_ok g_TurnError (hr.mono (by decide)) hcl (lams_cons (lamN s_law_is_value_right 0) (LamX.lamS_by (sc := defScope s_law_is_value_right) (by decide +kernel)) (fun A outer s H E f c' hr => (pe_fnX ox_moved (hr.mono (by decide)) (takes_of rfl rfl rfl rfl) (pa_cons (pv 0) (pa_cons pe_non pa_nil)))) (lams_cons (lamN s_law_is_value_right 1) (LamX.lamS_by (sc := defScope s_law_is_value_right) (by decide +kernel)) (fun A outer s H E f c' hr => (pe_fnX ox_keeps (hr.mono (by decide)) (takes_of rfl rfl rfl rfl) (pa_cons (pv 0) (pa_cons pe_non pa_nil)))) (lams_cons (lamN s_law_is_value_right 2) (LamX.lamS_by (sc := defScope s_law_is_value_right) (by decide +kernel)) (fun A outer s H E f c' hr => (pe_fnX ox_code_of (hr.mono (by decide)) (takes_of rfl rfl rfl rfl) (pa_cons (pv 0) pa_nil))) (lams_cons (lamN s_law_is_value_right 3) (LamX.lamS_by (sc := defScope s_law_is_value_right) (by decide +kernel)) (fun A outer s H E f c' hr => (pe_fnX ox_frame (hr.mono (by decide)) (takes_of rfl rfl rfl rfl) (pa_cons (pv 0) pa_nil))) (lams_cons (lamN s_law_is_value_right 4) (LamX.lamS_by (sc := defScope s_law_is_value_right) (by decide +kernel)) (fun A outer s H E f c' hr => (pe_fnX ox_least_picture (hr.mono (by decide)) (takes_of rfl rfl rfl rfl) (pa_cons (pv 0) pa_nil))) (lams_cons (lamN s_law_is_value_right 5) (LamX.lamS_by (sc := defScope s_law_is_value_right) (by decide +kernel)) (fun A outer s H E f c' hr => (pe_fnX ox_same_picture (hr.mono (by decide)) (takes_of rfl rfl rfl rfl) (pa_cons (pv 0) (pa_cons pe_non pa_nil)))) lams_nil)))))) (fun _ _ _ _ _ => rfl) rfl (fun _ _ => .inl rfl))
      (pss_one (ps_ret (pe_callB (cr_all rfl) (by rfl) B.all boot_all (pa_cons (pe_lc (own := [("caught", 5)]) rfl sc_law_is_value_right.nd (pi_list (pv 3)) (blkOk_by (own := [("caught", 5)]) (N := N_law_is_value_right) (sc := defScope s_law_is_value_right) (by decide +kernel)) (fun _ _ _ _ _ => pg_name (i := 5) sc_law_is_value_right.nd rfl (Or.inl rfl)) (fun _ _ _ _ _ => pts_nil) (fun _ _ _ _ _ => (pe_and (pe_callB (cK (K := K) (r := rIsQ) call_isQ rfl) (by rfl) B.isinstance boot_isinstance (pa_cons (pv 5) (pa_cons (pe_glob (v := .ref C_BadPicture) rfl g_BadPicture rfl) pa_nil))) (pe_one (pe_cmpR op_eq (pe_callB (cK (K := K) (r := rReprA) (call_reprA hgd (room64 hr)) rfl) (by rfl) B.repr boot_repr (pa_cons (pe_xqK (K := K) rfl (pv 5)) pa_nil)) (pe_callB (cK (K := K) (r := rReprA) (call_reprA hgd (room64 hr)) rfl) (by rfl) B.repr boot_repr (pa_cons (pv 0) pa_nil)) (nomark _)))))) pa_nil)))))))))))))), ?_⟩
  dsimp only [cxOf, L2.Cx.nox]
  classical
  have hdec : ∀ {b : Bool}, (b = true ↔ IsPicD d) → b = decide (IsPicD d) := fun hb => by rw [Bool.eq_iff_iff, hb, decide_eq_true_eq]
  let σ0 : Option V → Option V → Option V → Option V → Option V → L2.St := fun z1 z2 z3 z4 z5 => [some v, z1, z2, z3, z4, z5]
  refine q_asg (v := .bl (decide (IsPicD d))) (evV (ev_var (v := v) rfl) fun H1 e1 Q1 q => ⟨v, d, rfl, fd.ex e1, fun b H2 e2 hb => by rw [hdec hb]; exact q H2 e2⟩) fun H1 e1 => ?_
  show tSeq _ _ _ (σ0 (some (.bl (decide (IsPicD d)))) none none none none) H1
  refine q_when (b := false) (et_not (a := true) (et_is (et_test (ev_bool (ed_call (K := K) (ea_v (v := .bl (decide (IsPicD d))) (evK0V (ev_var (v := v) rfl) fun H2 e2 Q2 q => ⟨v, d, rfl, fd.ex (e1.trans e2), fun b H3 e3 hb => by rw [hdec hb]; exact q H3 e3⟩) (ea_v (v := .bl (decide (IsPicD d))) (ev_var rfl) ea_nil)) (pr_D ⟨_, _, rfl, rfl⟩)))) (decide_eq_true rfl))) (fun z => nomatch z) fun _ H2 e2 => ?_
  have e02 := e1.trans e2
  refine q_when (b := decide (IsPicD d)) (et_test (ev_var rfl)) (fun _ H3 e3 => s_ret ev_c fun H4 e4 => k H4 (LamX.ExtN.of (e02.trans (e3.trans e4))) (hT.ext (e02.trans (e3.trans e4)))) fun hb H3 e3 => ?_
  have hno : ¬ IsPicD d := of_decide_eq_false hb
  have e03 := e02.trans e3
  have n03 := LamX.ExtN.of e03
  let σ1 : Option V → Option V → L2.St := fun z2 z3 => σ0 (some (.bl (decide (IsPicD d)))) z2 z3 none none
  show tSeq _ _ _ (σ1 none none) H3
  -- the calls
  refine q_lam0 (hT.ext e03) fun l H4 h4 => ?_
  show tSeq _ _ _ (σ1 (some (.ref l)) none) H4
  refine q_lamS rfl h4 (by decide) fun H5 h5 => ?_
  refine q_lamS rfl h5 (by decide) fun H6 h6 => ?_
  refine q_lamS rfl h6 (by decide) fun H7 h7 => ?_
  refine q_lamS rfl h7 (by decide) fun H8 h8 => ?_
  refine q_lamS rfl h8 (by decide) fun H9 h9 => ?_
  obtain ⟨fs, g1, g2, g3, g4, g5, g6⟩ := h9
  have n09 := n03.trans g5
  have fd9 := fd.extN n09
  clear h4 h5 h6 h7 h8
  -- told
  refine q_asgM (c_heardAll (K := K) (fs := fs) (List.replicate 6 (C_BadPicture, v)) (iv := 2) (l := l) rfl g1 g2 rfl (by show 6 ≤ 100; omega) (fun j x f hx hf => ?_) (fun _ => rfl) (by show 4 < 6; omega) (fun j x c hx hc => ?_) (fun r as HQ eQ hrQ hal hall => ?_) (by decide))
  · match j, hx, hf with
    | 0, hx, hf => cases (Option.some.inj hx); exact g3 0 _ f rfl hf
    | 1, hx, hf => cases (Option.some.inj hx); exact g3 1 _ f rfl hf
    | 2, hx, hf => cases (Option.some.inj hx); exact g3 2 _ f rfl hf
    | 3, hx, hf => cases (Option.some.inj hx); exact g3 3 _ f rfl hf
    | 4, hx, hf => cases (Option.some.inj hx); exact g3 4 _ f rfl hf
    | 5, hx, hf => cases (Option.some.inj hx); exact g3 5 _ f rfl hf
    | j + 6, hx, _ => simp at hx
  · match j, hx, hc with
    | 0, hx, hc =>
      cases (Option.some.inj hx); cases (Option.some.inj hc)
      exact ⟨x_BadPicture.exm, fun H1 e1 E R hE => cXVV (ev_var (v := v) rfl) ev_c fun H2 e2 => ⟨v, .non, d, .none, rfl, fd9.ex (e1.trans e2), .inr fz_non, fun _ H3 dx e3 hdx => hE _ dx (e2.trans (e3.trans (Ex.new hdx))) upd_same, fun h => absurd h hno, fun k M j g h1 h2 => absurd ⟨k, M, h1, h2⟩ hno, fun k M g h1 h2 => absurd ⟨k, M, h1, h2⟩ hno⟩⟩
    | 1, hx, hc =>
      cases (Option.some.inj hx); cases (Option.some.inj hc)
      exact ⟨x_BadPicture.exm, fun H1 e1 E R hE => cXVV (ev_var (v := v) rfl) ev_c fun H2 e2 => ⟨v, .non, d, .none, rfl, fd9.ex (e1.trans e2), .inr fz_non, fun _ H3 dx e3 hdx => hE _ dx (e2.trans (e3.trans (Ex.new hdx))) upd_same, fun h => absurd h hno, fun k M j g h1 h2 => absurd ⟨k, M, h1, h2⟩ hno, fun k M g h1 h2 => absurd ⟨k, M, h1, h2⟩ hno⟩⟩
    | 2, hx, hc =>
      cases (Option.some.inj hx); cases (Option.some.inj hc)
      exact ⟨x_BadPicture.exm, fun H1 e1 E R hE => cXV (ev_var (v := v) rfl) fun H2 e2 => ⟨v, d, rfl, fd9.ex (e1.trans e2), fun _ H3 dx e3 hdx => hE _ dx (e2.trans (e3.trans (Ex.new hdx))) upd_same, fun k M h1 h2 => absurd ⟨k, M, h1, h2⟩ hno⟩⟩
    | 3, hx, hc =>
      cases (Option.some.inj hx); cases (Option.some.inj hc)
      exact ⟨x_BadPicture.exm, fun H1 e1 E R hE => cXV (ev_var (v := v) rfl) fun H2 e2 => ⟨v, d, rfl, fd9.ex (e1.trans e2), hno, fun H3 dx e3 hdx => hE _ dx (e2.trans (e3.trans (Ex.new hdx))) upd_same⟩⟩
    | 4, hx, hc =>
      cases (Option.some.inj hx); cases (Option.some.inj hc)
      exact ⟨x_BadPicture.exm, fun H1 e1 E R hE => cXV (ev_var (v := v) rfl) fun H2 e2 => ⟨v, d, rfl, fd9.ex (e1.trans e2), hno, fun H3 dx e3 hdx => hE _ dx (e2.trans (e3.trans (Ex.new hdx))) upd_same⟩⟩
    | 5, hx, hc =>
      cases (Option.some.inj hx); cases (Option.some.inj hc)
      exact ⟨x_BadPicture.exm, fun H1 e1 E R hE => cXVV (ev_var (v := v) rfl) ev_c fun H2 e2 => ⟨v, .non, d, .none, rfl, fd9.ex (e1.trans e2), .inr fz_non, .inl ⟨hno, fun H3 dx e3 hdx => hE _ dx (e2.trans (e3.trans (Ex.new hdx))) upd_same⟩⟩⟩
    | j + 6, hx, _ => simp at hx
  show tRet _ _ (σ1 (some (.ref l)) (some (.ref r))) HQ
  have hal6 : as.length = 6 := hal
  refine s_ret (ev_allV (K := K) (xs := as.map V.ref) (ev_var (v := .ref r) rfl) (sq_of hrQ) (by rw [List.length_map, hal6]; decide) (fun _ => rfl) fun j y H1 hy e1 => ?_) fun H1 e1 => k H1 (n09.trans (LamX.ExtN.of (eQ.trans e1))) (g4.ext (eQ.trans e1))
  obtain ⟨a, ha, rfl⟩ := map_get hy
  have hjl : j < 6 := by
    have := (List.getElem?_eq_some_iff.mp ha).1
    omega
  have hca : Caught C_BadPicture v a H1 := (hall j a (C_BadPicture, v) ha (by rw [List.getElem?_replicate, if_pos hjl])).ex e1
  exact ev_is (ev_andV (a := true) (b := true) (ev_caughtIs (xv := x_BadPicture) (ev_var rfl) hca) fun _ => ev_reprAEq (eda_at (ev_caughtV x_BadPicture (ev_var rfl) hca) (fd9.ex (eQ.trans e1))) (eda_at (ev_var (v := v) rfl) (fd9.ex (eQ.trans e1))) hsh) rfl
end
end WT
namespace WT
open PySem PySem.Spec PyProof.Rows L2 Evl SX
abbrev s_law_right : Stmt := top 52
abbrev N_law_right : List Str := ["pot", "lap", "position", "due", "values", "told", "caught", "many", "odd", "picture", "turn", "value"]
theorem sc_law_right : FnScope N_law_right ["pot"] (defScope s_law_right) := ⟨rfl, rfl, rfl, by decide +kernel, rfl, by decide +kernel, by decide +kernel⟩
theorem pic_bt {m : Nat} {M : List (List Nat)} (hs : Sq m M) (hm : m ≤ 6) (hk : ∀ r ∈ M, ∀ x ∈ r, x ≤ 2) : ∀ d ∈ M.map tN, BtD 10 1 d := fun d hd => by
  obtain ⟨r, hr, rfl⟩ := List.mem_map.mp hd
  refine .inr ⟨_, rfl, by rw [List.length_map, hs.row r hr]; omega, fun e he => ?_⟩
  obtain ⟨n, hn, rfl⟩ := List.mem_map.mp he
  have := hk r hr n hn
  exact .inl ⟨_, rfl, by omega⟩
theorem zeros_bt {m : Nat} (hm : m ≤ 10) : BtD 10 1 (.tuple (List.replicate m (.int 0))) := .inr ⟨_, rfl, by rw [List.length_replicate]; exact hm, fun e he => by
  rw [List.eq_of_mem_replicate he]
  exact .inl ⟨_, rfl, by decide⟩⟩
theorem tupOk {ds : List PyData} (h : ∀ d ∈ ds, BtD 10 1 d) (hl : ds.length ≤ 11) : ShowOk (.tuple ds) := (shw_tupN (N := 10) (n := 1) (fun d hd => (h d hd).shw) hl).ok (by decide) (by decide)
theorem lstOk {ds : List PyData} (h : ∀ d ∈ ds, BtD 10 1 d) (hl : ds.length ≤ 11) : ShowOk (.list ds) := (shw_listN (N := 10) (n := 1) (fun d hd => (h d hd).shw) hl).ok (by decide) (by decide)
theorem at2_le {M : List (List Nat)} (h : ∀ r ∈ M, ∀ x ∈ r, x ≤ 2) (i j : Nat) : at2 M i j ≤ 2 := by
  unfold at2
  rw [List.getD_eq_getElem?_getD, List.getD_eq_getElem?_getD]
  cases hr : M[i]? with
  | none => simp
  | some r =>
    rw [Option.getD_some]
    cases hx : r[j]? with
    | none => simp
    | some x =>
      rw [Option.getD_some]
      exact h r (List.mem_of_getElem? hr) x (List.mem_of_getElem? hx)
theorem moved_show {m : Nat} {M : List (List Nat)} {g : List Nat} (hm : m ≤ 6) (h : ∀ r ∈ M, ∀ x ∈ r, x ≤ 2) : ShowOk (tNN (movedN m M g)) := by
  have hs : Sq m (movedN m M g) := moved_sq
  refine showOk_rows (by rw [hs.len]; omega) fun r hr => ⟨by rw [hs.row r hr]; omega, fun x hx => ?_⟩
  unfold movedN at hr
  obtain ⟨a, _, rfl⟩ := List.mem_map.mp hr
  obtain ⟨b, _, rfl⟩ := List.mem_map.mp hx
  have := at2_le h (g.idxOf a) (g.idxOf b)
  omega
theorem codeP_len {M : List (List Nat)} : ∀ k, k ≤ 8 → (codeP k M).length ≤ k * 17
  | 0, _ => by show ([] : List Nat).length ≤ _; simp
  | k + 1, hk => by
    have h := codeP_len (M := M) k (by omega)
    unfold codeP at h ⊢
    rw [List.range_succ, List.flatMap_append, List.length_append]
    simp only [List.flatMap_cons, List.flatMap_nil, List.append_nil]
    rw [tells_len, List.length_range]
    omega
theorem code_show {m : Nat} {M : List (List Nat)} (hm : m ≤ 6) (h : ∀ r ∈ M, ∀ x ∈ r, x ≤ 2) : ShowOk (tN (codeP m M)) := by
  have hl := codeP_len (M := M) m (by omega)
  refine (shw_tup (n := 0) (L := 13) (M := 200) (fun e he => ?_) (by rw [List.length_map]; omega)).ok (by decide) (by decide)
  obtain ⟨x, hx, rfl⟩ := List.mem_map.mp he
  have hx2 : x ≤ 2 := by
    unfold codeP at hx
    obtain ⟨p, _, hp⟩ := List.mem_flatMap.mp hx
    unfold tells at hp
    rcases List.mem_append.mp hp with h1 | h1
    · obtain ⟨c, _, hc⟩ := List.mem_flatMap.mp h1
      simp only [List.mem_cons, List.not_mem_nil, or_false] at hc
      rcases hc with rfl | rfl
      · exact at2_le h _ _
      · exact at2_le h _ _
    · rw [List.mem_singleton.mp h1]
      exact at2_le h _ _
  exact shw_int (by omega)
/-- what does not fit as a position -/
def oddQ (g : List Nat) : List PyData := [.none, .tuple [], .tuple (List.replicate 2 (.int 0)), .list (g.map fun n : Nat => .int (n : Int)), .tuple [.int 1], .tuple [.bool true]]
theorem oddQ_no {g : List Nat} : ∀ d ∈ oddQ g, ¬ IsFit d := fun d hd h => by
  have two : ∀ {ds : List PyData} {k : Nat} {u : List Nat}, PyData.tuple ds = tN u → IsP k u → ds = u.map fun n : Nat => PyData.int (n : Int) := fun h _ => by
    have h : PyData.tuple _ = .tuple _ := h
    injection h
  simp only [oddQ, List.mem_cons, List.not_mem_nil, or_false] at hd
  rcases hd with rfl | rfl | rfl | rfl | rfl | rfl
  · cases isFit_tup h
  · have := (isFit_len.mp h).1.1
    simp at this
  · obtain ⟨_, u, hu, hp⟩ := isFit_len.mp h
    have h1 := two hu hp
    have hnd : u.Nodup := hp.nodup_iff.mpr List.nodup_range
    match u, h1, hnd with
    | [a, b], h1, hnd =>
      have h2 : [PyData.int 0, PyData.int 0] = [.int (a : Int), .int (b : Int)] := h1
      injection h2 with h3 h4
      injection h4 with h4
      injection h3 with h3
      injection h4 with h4
      have : a = b := by omega
      rw [this] at hnd
      simp at hnd
    | [], h1, _ => simp at h1
    | [_], h1, _ => simp at h1
    | _ :: _ :: _ :: _, h1, _ => simp at h1
  · cases isFit_tup h
  · obtain ⟨_, u, hu, hp⟩ := isFit_len.mp h
    have h1 := two hu hp
    match u, h1, hp with
    | [a], h1, hp =>
      have h2 : [PyData.int 1] = [.int (a : Int)] := h1
      injection h2 with h3
      injection h3 with h3
      have := List.mem_range.mp (hp.subset (List.mem_singleton.mpr rfl))
      simp at this
      omega
    | [], h1, _ => simp at h1
    | _ :: _ :: _, h1, _ => simp at h1
  · obtain ⟨_, u, hu, hp⟩ := isFit_len.mp h
    have h1 := two hu hp
    match u, h1 with
    | [a], h1 =>
      have h2 : [PyData.bool true] = [.int (a : Int)] := h1
      injection h2 with h3
      cases h3
    | [], h1 => simp at h1
    | _ :: _ :: _, h1 => simp at h1
theorem oddQ_show {m : Nat} {g : List Nat} (hg : IsP m g) (hm : m ≤ 6) : ∀ d ∈ oddQ g, ShowOk d := fun d hd => by
  simp only [oddQ, List.mem_cons, List.not_mem_nil, or_false] at hd
  rcases hd with rfl | rfl | rfl | rfl | rfl | rfl
  · exact shw_none.ok (by decide) (by decide)
  · exact (shw_look (n := 5) (L := 100) (by decide +kernel)).ok (by decide) (by decide)
  · exact (shw_look (n := 5) (L := 100) (by decide +kernel)).ok (by decide) (by decide)
  · refine (shw_list (n := 0) (L := 13) (M := 6) (fun e he => ?_) (by rw [List.length_map, isP_len hg]; exact hm)).ok (by decide) (by decide)
    obtain ⟨n, hn, rfl⟩ := List.mem_map.mp he
    have := List.mem_range.mp (hg.subset hn)
    exact shw_int (by omega)
  · exact (shw_look (n := 5) (L := 100) (by decide +kernel)).ok (by decide) (by decide)
  · exact (shw_look (n := 5) (L := 100) (by decide +kernel)).ok (by decide) (by decide)
section
variable {P : Program} {w : World} {K : PySem.W.Frag} {mg : Str → Option Value} {base : Heap} {C_BadPicture C_BadPosition C_Unlike C_TurnError tp : Addr} {T : List (Addr × Str)}
theorem kb_moved : ∀ (f : Addr) (fd : FuncData), Fun K "moved" "moved" s_moved f fd → KBinds K fd ["picture", "position"] ["position"] gK1 gK1 := fun f fd F => kbOf F gK1_rel fun kV doc pm an cdv ct us ws hl => by
  unfold gK1 at hl ⊢
  split at hl
  · rfl
  · cases hl
theorem kb_code_of : ∀ (f : Addr) (fd : FuncData), Fun K "code_of" "code_of" s_code_of f fd → KBinds K fd ["picture"] ["picture"] (gKw 0 1 [0]) (gKw 0 1 [0]) := fun f fd F => kbOf F gKw_rel fun kV doc pm an cdv ct us ws hl => by
  obtain ⟨h1, h2⟩ := gKw_len hl
  match us, ws, h1, h2 with
  | [], [a], _, _ => rfl
/-- a picture and a position of its size -/
theorem movedX_do {m : Nat} {M : List (List Nat)} {g : List Nat} {y z : V} {R : Nat → List (List Nat) → List Nat → PyData} {H : Hp} {Q : VK} {E : XK} (hM : Pic8 m M) (hg : IsP m g) (fy : Fz K H (tNN M) y) (fz : Fz K H (tN g) z) (k : ∀ v H', Ex H H' → Fz K H' (R m M g) v → Q v H') : spMovedX K C_BadPicture C_BadPosition C_Unlike R [y, z] H Q E :=
  ⟨y, z, tNN M, tN g, rfl, .inr fy, .inr fz, fun h => absurd ⟨m, M, rfl, hM⟩ h, fun _ h => absurd ⟨m, ⟨hM.pos, by have := hM.le; omega⟩, g, rfl, hg⟩ h, fun k' M' j g' h1 h2 h3 h4 _ h6 => by
    have e1 := picD_inj h1 hM h2
    have e2 := tN_inj h3
    subst e2
    have : m = j := by rw [← isP_len hg, isP_len h4]
    exact absurd (this.symm.trans e1) h6, fun k' M' g' h1 h2 h3 h4 v H' e f => by
    have e1 := picD_inj h1 hM h2
    have e2 := tN_inj h3
    have e3 := tNN_inj h1
    subst e1 e2 e3
    exact k v H' e f⟩
theorem ok_law_right (B : Bt mg) (tf_law_right : TabF K base mg "_law_right" s_law_right tp) (tt_law_right : TabT T tp "_law_right.<locals>.<lambda>") (d_law_heard : DefIn K mg "_law_heard" ["call"] s_law_heard) (g_TurnError : mg "TurnError" = some (.ref C_TurnError)) (g_BadPosition : mg "BadPosition" = some (.ref C_BadPosition)) (x_BadPosition : BadC K C_BadPosition C_TurnError) (g_Unlike : mg "Unlike" = some (.ref C_Unlike)) (x_Unlike : BadC K C_Unlike C_TurnError)
    (o_law_picture_drawn : Okd P w K mg base "_law_picture_drawn" ["pot", "most"] s_law_picture_drawn 2 (spPic6 K)) (o_law_position_drawn : Okd P w K mg base "_law_position_drawn" ["pot", "many"] s_law_position_drawn 3 spPosnF) (o_law_moved : Okd P w K mg base "_law_moved" ["picture", "position"] s_law_moved 1 (spD K 2 rMoved8)) (o_law_code : Okd P w K mg base "_law_code" ["picture"] s_law_code 1 (spD K 1 rCodeN8))
    (ox_moved : Okx P w K mg base "moved" ["picture", "position"] s_moved 4 (spMovedX K C_BadPicture C_BadPosition C_Unlike fun k M g => tNN (movedN k M g))) (ox_keeps : Okx P w K mg base "keeps" ["picture", "position"] s_keeps 5 (spMovedX K C_BadPicture C_BadPosition C_Unlike fun k M g => .bool (decide (movedN k M g = M)))) (ox_code_of : Okx P w K mg base "code_of" ["picture"] s_code_of 4 (spCodeX K C_BadPicture)) (ox_same_picture : Okx P w K mg base "same_picture" ["one", "other"] s_same_picture 5 (spNoPics K C_BadPicture C_Unlike))
    (o_law_is_bool : Okd P w K mg base "_law_is_bool" ["told", "due"] s_law_is_bool 1 (spD K 2 rBool2)) (o_law_bent : Okd P w K mg base "_law_bent" ["pot", "value"] s_law_bent 12 (spBent K 8)) (o_law_odd : Okd P w K mg base "_law_odd" ["pot"] s_law_odd 3 (spOdd K)) (o_law_of : Okd P w K mg base "_law_of" ["pot", "some"] s_law_of 2 (spOf K))
    (o_law_is_value_right : Okg P w K mg base "_law_is_value_right" ["value"] s_law_is_value_right 19 (spValP K T)) (d : DefIn K mg "_law_right" ["pot"] s_law_right) : Okg P w K mg base "_law_right" ["pot"] s_law_right 20 (spRightT T) := by
  have o_moved := ox_moved.d
  have o_keeps := ox_keeps.d
  have o_code_of := ox_code_of.d
  have tt := tt_law_right
  refine Okg.mkT d tf_law_right sc_law_right (fun vs H Q E h => ?_) (fun f c A outer s H vs Q E TB hgd hr h => ?_)
  · obtain ⟨p, rfl, _⟩ := h
    rfl
  obtain ⟨p, rfl, hP, hT, k⟩ := h
  refine ⟨_, (pss_cons (ps_for PassesOwn.never rfl (pi_range1 (by rfl) B.range (pa_cons pe_int pa_nil)) (pg_name (i := 1) sc_law_right.nd rfl (Or.inl rfl)) (pss_cons (ps_set (i := 9) sc_law_right.nd rfl (Or.inr rfl) (pe_fn o_law_picture_drawn (hr.mono (by decide)) (pa_cons (pv 0) (pa_cons pe_int pa_nil))))
        (pss_cons (ps_set (i := 7) sc_law_right.nd rfl (Or.inr rfl) (pe_callB call_len_seq (by rfl) B.len boot_len (pa_cons (pv 9) pa_nil)))
        (pss_cons (ps_set (i := 2) sc_law_right.nd rfl (Or.inl rfl) (pe_fn o_law_position_drawn (hr.mono (by decide)) (pa_cons (pv 0) (pa_cons (pv 7) pa_nil))))
        (pss_cons (ps_set (i := 3) sc_law_right.nd rfl (Or.inl rfl) (pe_fn o_law_moved (hr.mono (by decide)) (pa_cons (pv 9) (pa_cons (pv 2) pa_nil))))
        (pss_cons (ps_if (pt_cmpR op_ne (pe_callB (call_reprD hgd (room64 hr)) (by rfl) B.repr boot_repr (pa_cons (pe_fnK o_moved (hr.mono (by decide)) kb_moved (pa_cons (pv 9) pa_nil) (pk_cons (pv 2) pk_nil)) pa_nil)) (pe_callB (call_reprD hgd (room64 hr)) (by rfl) B.repr boot_repr (pa_cons (pv 3) pa_nil)) (nomark _)) (pss_one (ps_ret pe_bl)) pss_nil)
        (pss_cons (ps_if (pt_cmpR op_ne (pe_callB (call_reprD hgd (room64 hr)) (by rfl) B.repr boot_repr (pa_cons (pe_fnK0 o_code_of (hr.mono (by decide)) kb_code_of (pk_cons (pv 9) pk_nil)) pa_nil)) (pe_callB (call_reprD hgd (room64 hr)) (by rfl) B.repr boot_repr (pa_cons (pe_fn o_law_code (hr.mono (by decide)) (pa_cons (pv 9) pa_nil)) pa_nil)) (nomark _)) (pss_one (ps_ret pe_bl)) pss_nil)
        (pss_cons (ps_if (pt_not (pt_val (pe_fn o_law_is_bool (hr.mono (by decide)) (pa_cons (pe_fn o_keeps (hr.mono (by decide)) (pa_cons (pv 9) (pa_cons (pv 2) pa_nil))) (pa_cons (pe_cmpR (op_eqD (room64 hr)) (pv 3) (pv 9) (nomark _)) pa_nil))))) (pss_one (ps_ret pe_bl)) pss_nil)
        (pss_cons (ps_set (i := 4) sc_law_right.nd rfl (Or.inl rfl) (pe_lst (pa_cons (pv 9) (pa_cons (pe_frzL (pe_callTy call_list_of (by rfl) B.list boot_list (pa_cons (pv 9) pa_nil))) (pa_cons (pe_slice sl_tupA (pv 9) po_none (po_some (pe_un un_neg pe_int))) (pa_cons (pe_op op_catA (pv 9) (pe_tup (pa_cons (pe_op op_repTW (pe_tup (pa_cons pe_int pa_nil)) (pv 7)) pa_nil))) (pa_cons (pe_op op_repTW (pe_tup (pa_cons (pe_op op_repTW (pe_tup (pa_cons pe_int pa_nil)) pe_int) pa_nil)) pe_int) (pa_cons (pe_op op_repTW (pe_tup (pa_cons (pe_op op_repTW (pe_tup (pa_cons pe_int pa_nil)) pe_int) pa_nil)) pe_int) pa_nil))))))))
        (pss_cons (ps_set (i := 4) sc_law_right.nd rfl (Or.inl rfl) (pe_op op_cat (pe_op op_cat (pv 4) (pe_lc (own := [("turn", 10)]) rfl sc_law_right.nd (pi_range1 (by rfl) B.range (pa_cons pe_int pa_nil)) (blkOk_by (own := [("turn", 10)]) (N := N_law_right) (sc := defScope s_law_right) (by decide +kernel)) (fun _ _ _ _ _ => pg_name (i := 10) sc_law_right.nd rfl (Or.inl rfl)) (fun _ _ _ _ _ => pts_nil) (fun _ _ _ _ _ => (pe_fn o_law_bent (hr.mono (by decide)) (pa_cons (pv 0) (pa_cons (pv 9) pa_nil)))))) (pe_lst (pa_cons (pe_fn o_law_odd (hr.mono (by decide)) (pa_cons (pv 0) pa_nil)) (pa_cons (pe_tup (pa_cons (pe_tup (pa_cons pe_int pa_nil)) pa_nil)) (pa_cons (pe_tup (pa_cons (pe_tup (pa_cons pe_bl pa_nil)) pa_nil)) pa_nil))))))
        (pss_cons (ps_if (pt_not (pt_val (pe_callB (cr_all rfl) (by rfl) B.all boot_all (pa_cons (pe_lc (own := [("value", 11)]) rfl sc_law_right.nd (pi_list (pv 4)) (blkOk_by (own := [("value", 11)]) (N := N_law_right) (sc := defScope s_law_right) (by decide +kernel)) (fun _ _ _ _ _ => pg_name (i := 11) sc_law_right.nd rfl (Or.inl rfl)) (fun _ _ _ _ _ => pts_nil) (fun _ _ _ _ _ => (pe_fnG o_law_is_value_right hgd (hr.mono (by decide)) (pa_cons (pv 11) pa_nil)))) pa_nil)))) (pss_one (ps_ret pe_bl)) pss_nil)
        (pss_cons (ps_set (i := 8) sc_law_right.nd rfl (Or.inr rfl) (pe_fn o_law_of (hr.mono (by decide)) (pa_cons (pv 0) (pa_cons (pe_lst (pa_cons pe_non (pa_cons (pe_tup pa_nil) (pa_cons (pe_op op_repTW (pe_tup (pa_cons pe_int pa_nil)) pe_int) (pa_cons (pe_frzL (pe_callTy call_list_of (by rfl) B.list boot_list (pa_cons (pv 2) pa_nil))) (pa_cons (pe_tup (pa_cons pe_int pa_nil)) (pa_cons (pe_tup (pa_cons pe_bl pa_nil)) pa_nil))))))) pa_nil))))
        (pss_cons (ps_set (i := 5) sc_law_right.nd rfl (Or.inl rfl) (pe_lst (pa_cons (pe_ix ix_tup (pe_heard (k := 16) d_law_heard heard_ok g_TurnError TB tt (hr.mono (by decide)) (LamX.lamS_by (sc := defScope s_law_right) (by decide +kernel)) (fun A outer s H E f c' hr => (pe_fnX ox_moved (hr.mono (by decide)) (takes_of rfl rfl rfl rfl) (pa_cons (pv 9) (pa_cons (pv 8) pa_nil))))) pe_int (fun _ _ => rfl)) pa_nil)))
        (pss_cons (ps_expr (pe_bm PySem.F.plainAttrs_list PySem.F.slot_list_append PySem.F.type_list_append mt_append (pv 5) (pa_cons (pe_ix ix_tup (pe_heard (k := 16) d_law_heard heard_ok g_TurnError TB tt (hr.mono (by decide)) (LamX.lamS_by (sc := defScope s_law_right) (by decide +kernel)) (fun A outer s H E f c' hr => (pe_fnX ox_keeps (hr.mono (by decide)) (takes_of rfl rfl rfl rfl) (pa_cons (pv 9) (pa_cons (pv 8) pa_nil))))) pe_int (fun _ _ => rfl)) pa_nil)))
        (pss_cons (ps_if (pt_not (pt_val (pe_callB (cr_all rfl) (by rfl) B.all boot_all (pa_cons (pe_lc (own := [("caught", 6)]) rfl sc_law_right.nd (pi_list (pv 5)) (blkOk_by (own := [("caught", 6)]) (N := N_law_right) (sc := defScope s_law_right) (by decide +kernel)) (fun _ _ _ _ _ => pg_name (i := 6) sc_law_right.nd rfl (Or.inl rfl)) (fun _ _ _ _ _ => pts_nil) (fun _ _ _ _ _ => (pe_and (pe_callB (cK (K := K) (r := rIsQ) call_isQ rfl) (by rfl) B.isinstance boot_isinstance (pa_cons (pv 6) (pa_cons (pe_glob (v := .ref C_BadPosition) rfl g_BadPosition rfl) pa_nil))) (pe_one (pe_cmpR op_eq (pe_callB (cK (K := K) (r := rReprD) (call_reprD hgd (room64 hr)) rfl) (by rfl) B.repr boot_repr (pa_cons (pe_xqK (K := K) rfl (pv 6)) pa_nil)) (pe_callB (cK (K := K) (r := rReprD) (call_reprD hgd (room64 hr)) rfl) (by rfl) B.repr boot_repr (pa_cons (pv 8) pa_nil)) (nomark _)))))) pa_nil)))) (pss_one (ps_ret pe_bl)) pss_nil)
        (pss_cons (ps_set (i := 6) sc_law_right.nd rfl (Or.inl rfl) (pe_ix ix_tup (pe_heard (k := 16) d_law_heard heard_ok g_TurnError TB tt (hr.mono (by decide)) (LamX.lamS_by (sc := defScope s_law_right) (by decide +kernel)) (fun A outer s H E f c' hr => (pe_fnX ox_moved (hr.mono (by decide)) (takes_of rfl rfl rfl rfl) (pa_cons (pv 9) (pa_cons (pe_tupRg rfl (by rfl) B.tuple (prg_1 (by rfl) B.range (pe_op op_add (pv 7) pe_int))) pa_nil))))) pe_int (fun _ _ => rfl)))
        (pss_cons (ps_if (PW.pt (pw_or (pt_not (pt_val (pe_callB call_isQ (by rfl) B.isinstance boot_isinstance (pa_cons (pv 6) (pa_cons (pe_glob (v := .ref C_Unlike) rfl g_Unlike rfl) pa_nil))))) (pw_or1 (pt_cmpR op_ne (pe_callB (call_reprD hgd (room64 hr)) (by rfl) B.repr boot_repr (pa_cons (pe_xq (pv 6)) pa_nil)) (pe_callB (call_reprD hgd (room64 hr)) (by rfl) B.repr boot_repr (pa_cons (pe_op op_add (pv 7) pe_int) pa_nil)) (nomark _))))) (pss_one (ps_ret pe_bl)) pss_nil)
        (pss_cons (ps_set (i := 6) sc_law_right.nd rfl (Or.inl rfl) (pe_ix ix_tup (pe_heard (k := 16) d_law_heard heard_ok g_TurnError TB tt (hr.mono (by decide)) (LamX.lamS_by (sc := defScope s_law_right) (by decide +kernel)) (fun A outer s H E f c' hr => (pe_fnX ox_same_picture (hr.mono (by decide)) (takes_of rfl rfl rfl rfl) (pa_cons (pv 9) (pa_cons (pe_op (oK (K := K) (r := rRepTW) op_repTW rfl) (pe_tup (pa_cons (pe_op (oK (K := K) (r := rRepTW) op_repTW rfl) (pe_tup (pa_cons pe_int pa_nil)) (pe_op op_add (pe_op op_mod (pv 7) pe_int) pe_int)) pa_nil)) (pe_op op_add (pe_op op_mod (pv 7) pe_int) pe_int)) pa_nil))))) pe_int (fun _ _ => rfl)))
        (pss_one (ps_if (PW.pt (pw_or (pt_not (pt_val (pe_callB call_isQ (by rfl) B.isinstance boot_isinstance (pa_cons (pv 6) (pa_cons (pe_glob (v := .ref C_Unlike) rfl g_Unlike rfl) pa_nil))))) (pw_or1 (pt_cmpR op_ne (pe_callB (call_reprD hgd (room64 hr)) (by rfl) B.repr boot_repr (pa_cons (pe_xq (pv 6)) pa_nil)) (pe_callB (call_reprD hgd (room64 hr)) (by rfl) B.repr boot_repr (pa_cons (pe_op op_add (pe_op op_mod (pv 7) pe_int) pe_int) pa_nil)) (nomark _))))) (pss_one (ps_ret pe_bl)) pss_nil))))))))))))))))))))
      (pss_one (ps_ret pe_bl))), ?_⟩
  dsimp only [cxOf, L2.Cx.nox]
  let σ0 : Option V → Option V → Option V → Option V → Option V → Option V → Option V → Option V → Option V → Option V → Option V → L2.St := fun z1 z2 z3 z4 z5 z6 z7 z8 z9 z10 z11 => [some (.ref p), z1, z2, z3, z4, z5, z6, z7, z8, z9, z10, z11]
  refine q_forR1 (n := ((2 : Nat) : Int)) (Evl.ea_cons ev_c Evl.ea_nil) (by decide) (fun i σ' H' => (∃ z1 z2 z3 z4 z5 z6 z7 z8 z9 z10 z11, σ' = σ0 z1 z2 z3 z4 z5 z6 z7 z8 z9 z10 z11) ∧ ButN p H H' ∧ LamX.Tabs T H' ∧ PotAt H' p (i * 1000)) (fun H1 e1 => ⟨⟨none, none, none, none, none, none, none, none, none, none, none, rfl⟩, ButN.ofE e1, hT.ext e1, (hP.ex e1).le (Nat.zero_le _)⟩) (fun i σ' H' hi h => ?_) (fun σ' H' h => ?_)
  rotate_left
  · obtain ⟨⟨z1, z2, z3, z4, z5, z6, z7, z8, z9, z10, z11, rfl⟩, eB, hT', _⟩ := h
    exact s_ret ev_c fun H2 e2 => k H2 (eB.trans (ButN.ofE e2)) (hT'.ext e2)
  obtain ⟨⟨z1, z2, z3, z4, z5, z6, z7, z8, z9, z10, z11, rfl⟩, eB, hT', hPi⟩ := h
  have hi3 : i < 2 := by omega
  show tSeq _ _ _ (σ0 (some (.int (i : Int))) z2 z3 z4 z5 z6 z7 z8 z9 z10 z11) H'
  -- picture
  refine q_asgM (cVV (ev_var (v := .ref p) rfl) ev_c fun H1 e1 => ⟨p, i * 1000, 6, rfl, hPi.ex e1, by omega, by decide, by decide, fun pv H2 m M b2 P2 hSq hm1 hm6 hmk fM => ?_⟩)
  have b02 := (But.of e1).trans b2
  have hM : Pic8 m M := ⟨hm1, by omega, hSq, fun r hr x hx => by have := hmk r hr x hx; omega⟩
  have hT2 := tabs_but hT' hPi b02
  have n02 := eB.trans (ButN.of b02)
  clear eB hT' b02 b2 e1 hPi
  show tSeq _ _ _ (σ0 (some (.int (i : Int))) z2 z3 z4 z5 z6 z7 z8 (some pv) z10 z11) H2
  -- many
  refine q_asg (v := .int (m : Int)) (ev_is (ev_lenT (ed_var rfl fM)) (by rw [List.length_map, hSq.len])) fun H3 e3 => ?_
  show tSeq _ _ _ (σ0 (some (.int (i : Int))) z2 z3 z4 z5 z6 (some (.int (m : Int))) z8 (some pv) z10 z11) H3
  -- position
  refine q_asgM (cVV (ev_var (v := .ref p) rfl) (ev_var (v := .int (m : Int)) rfl) fun H4 e4 => ⟨p, i * 1000 + 100, m, rfl, (P2.ex (e3.trans e4)), by omega, hm1, by omega, fun qa H5 g b5 P5 hg hfr => ?_⟩)
  have b25 : But p H2 H5 := (But.of (e3.trans e4)).trans b5
  have fM5 := Fz.mono (P2.tex b25) _ _ fM
  have fg5 : Fz K H5 (tN g) (.ref qa) := fz_tN.mpr ⟨qa, rfl, hfr.at_⟩
  have hT5 := tabs_but hT2 P2 b25
  have n05 := n02.trans (ButN.of b25)
  clear hT2 n02 b25 b5 e4 e3 fM P2
  let σ1 : Option V → Option V → Option V → Option V → Option V → Option V → Option V → L2.St := fun z3 z4 z5 z6 z8 z10 z11 => σ0 (some (.int (i : Int))) (some (.ref qa)) z3 z4 z5 z6 (some (.int (m : Int))) z8 (some pv) z10 z11
  show tSeq _ _ _ (σ1 z3 z4 z5 z6 z8 z10 z11) H5
  -- due
  refine q_asgD (K := K) (d := tNN (movedN m M g)) (ed_call (ea_d (ed_var rfl fM5) (ea_d (ed_var rfl fg5) ea_nil)) (pr_D ⟨m, M, g, rfl, hSq, by omega, hg, rfl⟩)) fun dv H6 e6 f6 => ?_
  show tSeq _ _ _ (σ1 (some dv) z4 z5 z6 z8 z10 z11) H6
  have fM6 := fz_ex e6 fM5
  have fg6 := fz_ex e6 fg5
  have hmvS : ShowOk (tNN (movedN m M g)) := moved_show hm6 hmk
  refine q_when (b := false) (et_reprNe hmvS (edKVV (ev_var (v := pv) rfl) (ev_var (v := .ref qa) rfl) fun H7 e7 Q7 q => movedX_do hM hg (fz_ex e7 fM6) (fz_ex e7 fg6) fun v H8 e8 f8 => q v H8 e8 f8) (ed_var rfl f6)) (fun z => nomatch z) fun _ H7 e7 => ?_
  -- code_of
  refine q_when (b := false) (et_reprNe (code_show hm6 hmk) (edK0V (ev_var (v := pv) rfl) fun H8 e8 Q8 q => ⟨pv, tNN M, rfl, .inr (fz_ex (e7.trans e8) fM6), fun h => absurd ⟨m, M, rfl, hM⟩ h, fun k' M' h1 h2 v H9 e9 f9 => by
    have e1 := picD_inj h1 hM h2
    have e2 := tNN_inj h1
    subst e1 e2
    exact q v H9 e9 f9⟩) (ed_call (ea_d (ed_var rfl (fz_ex e7 fM6)) ea_nil) (pr_D ⟨m, M, rfl, hSq, by omega, rfl⟩))) (fun z => nomatch z) fun _ H8 e8 => ?_
  -- keeps
  have e68 := e7.trans e8
  refine q_when (b := false) (et_not (a := true) (et_is (et_test (ev_bool (ed_call (K := K) (ea_v (v := .bl (decide (movedN m M g = M))) (evVV (ev_var (v := pv) rfl) (ev_var (v := .ref qa) rfl) fun H9 e9 Q9 q => movedX_do hM hg (fz_ex (e68.trans e9) fM6) (fz_ex (e68.trans e9) fg6) fun v HA eA fA => by
    rw [fz_blI fA]
    exact q HA eA) (ea_v (v := .bl (decide (movedN m M g = M))) (ev_is (ev_eqD (ed_var rfl (fz_ex e68 f6)) (ed_var rfl (fz_ex e68 fM6)) (Plain.of (tNN_plain _)) (Plain.of (tNN_plain _))) (by
      congr 1
      rw [Bool.eq_iff_iff, eqv_iff _ _ (tNN_plain _).1 (tNN_plain _).1, decide_eq_true_eq]
      exact ⟨fun h => tNN_inj h, fun h => by rw [h]⟩)) ea_nil)) (pr_D ⟨_, _, rfl, rfl⟩)))) (decide_eq_true rfl))) (fun z => nomatch z) fun _ H9 e9 => ?_
  have e69 := e68.trans e9
  have fM9 := fz_ex e69 fM6
  have fg9 := fz_ex e69 fg6
  have P9 := P5.ex (e6.trans e69)
  have hT9 := hT5.ext (e6.trans e69)
  have n09 := n05.trans (ButN.ofE (e6.trans e69))
  obtain ⟨c, hc⟩ : ∃ c, c = i * 1000 + 200 := ⟨_, rfl⟩
  replace P9 : PotAt H9 p c := P9.le (by omega)
  clear hT5 n05 P5 fM5 fg5 fM6 fg6 f6 e69 e68 e9 e8 e7 e6 hfr
  show tSeq _ _ _ (σ1 (some dv) z4 z5 z6 z8 z10 z11) H9
  -- values
  have hrows := pic_bt hSq hm6 hmk
  have hMl : (M.map tN).length = m := by rw [List.length_map, hSq.len]
  have hpv : ∀ {HX : Hp} {z4 z5 z6 z8 z10 z11 : Option V}, Ex H9 HX → Ed K (tVar 9) (σ1 (some dv) z4 z5 z6 z8 z10 z11) HX (.tuple (M.map tN)) := fun e => ed_var rfl (fz_ex e fM9)
  obtain ⟨sl, hsl⟩ : ∃ sl, sl = ((M.map tN).drop (HT.sIx (M.map tN).length 0 none)).take (HT.sIx (M.map tN).length (M.map tN).length (some (-1)) - HT.sIx (M.map tN).length 0 none) := ⟨_, rfl⟩
  have hslm : sl.length ≤ 6 ∧ ∀ d ∈ sl, d ∈ M.map tN := by
    rw [hsl]
    exact ⟨Nat.le_trans (sub_sl _ _ _).1 (by rw [hMl]; omega), (sub_sl _ _ _).2⟩
  obtain ⟨V6, hV6⟩ : ∃ z : List PyData, z = [.tuple (M.map tN), .list (M.map tN), .tuple sl, .tuple (M.map tN ++ [.tuple (List.replicate m (.int 0))]), .tuple (List.replicate 9 (.tuple (List.replicate 9 (.int 0)))), .tuple (List.replicate 8 (.tuple (List.replicate 8 (.int 0))))] := ⟨_, rfl⟩
  have z1 : ∀ {σ : L2.St} {HX : Hp}, Ed K (tTup (tCons (tC (.int 0)) tNil)) σ HX (.tuple [.int 0]) := fun {σ HX} => ed_tup (ds := [.int 0]) (ea_d (ed_ev ev_c fz_int) ea_nil) (by decide)
  refine q_asgE (K := K) (ds := V6) (by
    rw [hV6]
    exact WT.el_lst (K := K) (ea_d (hpv (Ex.refl _)) (ea_d (ed_frzL (el_listOfT (hpv (Ex.refl _)))) (ea_d (ed_slA (hpv (Ex.refl _)) eo_none (eo_some (ev_un ev_c ru_neg)) hsl) (ea_d (ed_catA (hpv (Ex.refl _)) (ed_tup (ds := [.tuple (List.replicate m (.int 0))]) (ea_d (ed_repT z1 (ev_var (v := .int (m : Int)) rfl) hm1 (by omega)) ea_nil) (show 1 ≤ 100000 by decide)) (by rw [hMl]; show m + 1 ≤ 100000; omega)) (ea_d (ed_repT (n := 9) (ed_tup (ds := [.tuple (List.replicate 9 (.int 0))]) (ea_d (ed_repT (n := 9) z1 ev_c (by decide) (by decide)) ea_nil) (show 1 ≤ 100000 by decide)) ev_c (by decide) (by decide)) (ea_d (ed_repT (n := 8) (ed_tup (ds := [.tuple (List.replicate 8 (.int 0))]) (ea_d (ed_repT (n := 8) z1 ev_c (by decide) (by decide)) ea_nil) (show 1 ≤ 100000 by decide)) ev_c (by decide) (by decide)) ea_nil)))))) (show 6 ≤ 100000 by decide)) fun vl xs HA hvl eA hA fA => ?_
  have okV : ∀ d ∈ V6, ShowOk d := fun d hd => by
    rw [hV6] at hd
    simp only [List.mem_cons, List.not_mem_nil, or_false] at hd
    rcases hd with rfl | rfl | rfl | rfl | rfl | rfl
    · exact tupOk hrows (by rw [hMl]; omega)
    · exact lstOk hrows (by rw [hMl]; omega)
    · exact tupOk (fun d hd => hrows d (hslm.2 d hd)) (by have := hslm.1; omega)
    · refine tupOk (fun d hd => ?_) (by rw [List.length_append, hMl]; show m + 1 ≤ 11; omega)
      rcases List.mem_append.mp hd with h | h
      · exact hrows d h
      · rw [List.mem_singleton.mp h]
        exact zeros_bt (by omega)
    · refine tupOk (fun d hd => ?_) (by rw [List.length_replicate]; omega)
      rw [List.eq_of_mem_replicate hd]
      exact zeros_bt (by decide)
    · refine tupOk (fun d hd => ?_) (by rw [List.length_replicate]; omega)
      rw [List.eq_of_mem_replicate hd]
      exact zeros_bt (by decide)
  have V6l : V6.length = 6 := by rw [hV6]; rfl
  have PA_ := P9.ex eA
  have nvl : vl ≠ p := fresh_ne P9 hvl
  show tSeq _ _ _ (σ1 (some dv) (some (.ref vl)) z5 z6 z8 z10 z11) HA
  -- values, all
  refine q_asgMX (P := fun v HX => ∃ r es ys, v = .ref r ∧ HX r = some (.lst ys) ∧ DaL K HX es ys ∧ es.length ≤ 30 ∧ (∀ d ∈ es, ShowOk d) ∧ But p HA HX ∧ PotAt HX p (c + 100)) (fun Q1 q1 => c_op (c_op (ev_var (v := .ref vl) rfl HA (Ex.refl _) _ fun Ha ea => c_lcPot (K := K) (Pd := ShowOk) (p := p) (c := c) (kk := 8) (n := 10) (by decide) (PA_.ex ea) (fun _ => rfl) (fun l' H1 hl' b1 P1 Q2 q2 => cVV (ev_var (v := .ref p) rfl) (ev_var (v := pv) rfl) fun Hb eb => ⟨p, pv, _, 10, 2, tNN M, rfl, P1.ex eb, by omega, fz_ex eb (Fz.mono ((PA_.ex ea).tex b1) _ _ (fz_ex (eA.trans ea) fM9)), .inr ⟨_, rfl, by rw [hMl]; omega, hrows⟩, by decide, by decide, by decide, fun d' v' H2 f' hlt hsw b2 P2 => q2 d' v' H2 ((But.of eb).trans b2) (P2.le (by omega)) (.inr f') (hsw.ok (by decide) (by decide))⟩) fun l2 ds2 xs2 Hb hl2 b2 P2 h2 f2 len2 ok2 => ?_))) fun v HB hv => ?_
  · have bb : But p HA Hb := (But.of ea).trans b2
    refine catL (bb _ _ nvl hA) h2 (by rw [fzl_len fA, V6l, f2.len, len2]; omega) fun r hr => ?_
    have er := Ex.new (o := .lst (xs ++ xs2)) hr
    have hr1 : upd Hb r (.lst (xs ++ xs2)) r = some (.lst (xs ++ xs2)) := upd_same
    have f1 : DaL K (upd Hb r (.lst (xs ++ xs2))) (V6 ++ ds2) (xs ++ xs2) := DaL.app (((DaL.of fA).but PA_ bb).ex er) (f2.ex er)
    have b1 : But p HA (upd Hb r (.lst (xs ++ xs2))) := bb.ex er
    have P1 := P2.ex er
    have nr : r ≠ p := fresh_ne P2 hr
    generalize upd Hb r (.lst (xs ++ xs2)) = Hc at hr1 f1 b1 P1
    refine c_lst (c_cons (cV (ev_var (v := .ref p) rfl) fun Hd ed => ⟨p, c + 10 * 8, rfl, P1.ex ed, by omega, fun d9 v9 He hd9 f9 b9 P9' => c_cons (ed_tup (K := K) (ds := [.tuple [.int 10]]) (ea_d (ed_tup (ds := [.int 10]) (ea_d (ed_ev ev_c fz_int) ea_nil) (show 1 ≤ 100000 by decide)) ea_nil) (show 1 ≤ 100000 by decide) He (Ex.refl _) _ fun w1 Hf ef g1 => c_cons (ed_tup (K := K) (ds := [.tuple [.bool true]]) (ea_d (ed_tup (ds := [.bool true]) (ea_d (ed_ev ev_c fz_bl) ea_nil) (show 1 ≤ 100000 by decide)) ea_nil) (show 1 ≤ 100000 by decide) Hf (Ex.refl _) _ fun w2 Hg eg g2 => c_nil ⟨sz_of (show 3 ≤ 100000 by decide), fun r2 hr2 => ?_⟩))⟩))
    have e2 := Ex.new (o := .lst [v9, w1, w2]) hr2
    have bce : But p Hc Hg := ((But.of ed).trans b9).ex (ef.trans eg)
    refine catL (e2 _ _ (bce _ _ nr hr1)) upd_same (by rw [f1.len, List.length_append, V6l, len2]; show 6 + 10 + 3 ≤ 100000; omega) fun r3 hr3 => ?_
    have e3 := Ex.new (o := .lst (xs ++ xs2 ++ [v9, w1, w2])) hr3
    refine q1 _ _ ⟨r3, V6 ++ ds2 ++ [d9, .tuple [.tuple [.int 10]], .tuple [.tuple [.bool true]]], _, rfl, upd_same, DaL.app (((f1.but P1 bce).ex e2).ex e3) (.cons ((((f9.ex (ef.trans eg)).ex e2).ex e3)) (.cons (.inr (fz_ex (eg.trans (e2.trans e3)) g1)) (.cons (.inr (fz_ex (e2.trans e3) g2)) .nil))), by rw [List.length_append, List.length_append, V6l, len2]; show 6 + 10 + 3 ≤ 30; omega, fun d hd => ?_, (b1.trans bce).ex (e2.trans e3), (P9'.ex ((ef.trans eg).trans (e2.trans e3))).le (by omega)⟩
    rcases List.mem_append.mp hd with h | h
    · rcases List.mem_append.mp h with h | h
      · exact okV d h
      · exact ok2 d h
    · simp only [List.mem_cons, List.not_mem_nil, or_false] at h
      rcases h with rfl | rfl | rfl
      · exact oddDs_shw _ hd9
      · exact (shw_look (n := 5) (L := 100) (by decide +kernel)).ok (by decide) (by decide)
      · exact (shw_look (n := 5) (L := 100) (by decide +kernel)).ok (by decide) (by decide)
  obtain ⟨r, es, ys, rfl, hrB, fB, lenB, okB, bAB, PB⟩ := hv
  have bA9 : But p H9 HB := (But.of eA).trans bAB
  have fMB := Fz.mono (P9.tex bA9) _ _ fM9
  have fgB := Fz.mono (P9.tex bA9) _ _ fg9
  have hTB := tabs_but hT9 P9 bA9
  have n0B := n09.trans (ButN.of bA9)
  clear hT9 n09 P9 bA9 bAB PA_ fA hA okV fM9 fg9 hpv
  show tSeq _ _ _ (σ1 (some dv) (some (.ref r)) z5 z6 z8 z10 z11) HB
  refine q_ifMX (fun H1 => LamX.ExtN HB H1 ∧ LamX.Tabs T H1) (fun Nx hN => ?_) (fun HC hJ => ?_)
  · refine c_test (c_allN (K := K) (T := T) (ev_var (v := .ref r) rfl) hrB fB hTB (by omega) (fun _ => rfl) (fun l' v' d' H1 hd' e1 hT1 f' Q1 q1 => cV (ev_var (v := v') rfl) fun H2 e2 => ⟨v', d', rfl, f'.ex e2, okB d' (List.mem_of_getElem? hd'), hT1.ext e2, fun H3 e3 hT3 => q1 H3 ((LamX.ExtN.of e2).trans e3) hT3⟩) fun HE eE hTE => ⟨true, rfl, ?_⟩)
    exact hN HE ⟨eE, hTE⟩
  obtain ⟨eC, hTC⟩ := hJ
  have fMC := Fz.mono (extN_tex eC) _ _ fMB
  have fgC := Fz.mono (extN_tex eC) _ _ fgB
  have PC_ := PB.extN eC
  have n0C := n0B.trans (ButN.ofN eC)
  clear hTB n0B PB fMB fgB hrB fB okB lenB
  show tSeq _ _ _ (σ1 (some dv) (some (.ref r)) z5 z6 z8 z10 z11) HC
  -- odd
  refine q_asgM (c_ofD (n := c + 100) (ds := oddQ g) (ev_var (v := .ref p) rfl) (WT.el_lst (ea_d (ed_ev ev_c fz_non) (ea_d (ed_tup (ds := []) ea_nil (by decide)) (ea_d (ed_repT (n := 2) z1 ev_c (by decide) (by decide)) (ea_d (ed_frzL (el_listOfT (ds := g.map fun n : Nat => PyData.int (n : Int)) (ed_var rfl fgC))) (ea_d (ed_tup (ds := [.int 1]) (ea_d (ed_ev ev_c fz_int) ea_nil) (show 1 ≤ 100000 by decide)) (ea_d (ed_tup (ds := [.bool true]) (ea_d (ed_ev ev_c fz_bl) ea_nil) (show 1 ≤ 100000 by decide)) ea_nil)))))) (show 6 ≤ 100000 by decide)) PC_ (by omega) (fun z => nomatch z) (show 6 ≤ 1000 by decide) fun dd ov HD hdd fdd bD PD => ?_)
  have hnf := oddQ_no dd hdd
  have hds := oddQ_show hg hm6 dd hdd
  have fMD := Fz.mono (PC_.tex bD) _ _ fMC
  have hTD := tabs_but hTC PC_ bD
  have n0D := n0C.trans (ButN.of bD)
  clear hTC n0C PC_ fMC fgC bD
  let σ2 : Option V → Option V → Option V → Option V → L2.St := fun z5 z6 z10 z11 => σ1 (some dv) (some (.ref r)) z5 z6 (some ov) z10 z11
  show tSeq _ _ _ (σ2 z5 z6 z10 z11) HD
  -- told
  refine q_asgM (c_lst (c_cons (c_heardR (C := C_BadPosition) (y := ov) hTD x_BadPosition.exm (fun H4 e4 hT4 H5 e5 E1 R1 hE => cXVV (ev_var (v := pv) rfl) (ev_var (v := ov) rfl) fun H6 e6 => ⟨pv, ov, tNN M, dd, rfl, .inr (fz_ex (e5.trans e6) (Fz.mono (extN_tex e4) _ _ fMD)), .inr (fz_ex (e5.trans e6) (Fz.mono (extN_tex e4) _ _ fdd)), fun h => absurd ⟨m, M, rfl, hM⟩ h, fun _ _ H7 dx e7 hdx => hE _ dx (e6.trans (e7.trans (Ex.new hdx))) upd_same, fun k' M' j g' h1 h2 h3 h4 h5 _ => absurd ⟨j, h5, g', h3, h4⟩ hnf, fun k' M' g' h1 h2 h3 h4 => absurd ⟨k', ⟨h2.pos, by have := h2.le; omega⟩, g', h3, h4⟩ hnf⟩) fun a1 H4 e4 hT4 hc1 => c_nil ⟨sz_of (show 1 ≤ 100000 by decide), fun l hl => ?_⟩)))
  have eL := Ex.new (o := .lst [V.ref a1]) hl
  have hl5 : upd H4 l (.lst [V.ref a1]) l = some (.lst ([a1].map V.ref)) := upd_same
  have nD5 := e4.trans (LamX.ExtN.of eL)
  have hT5 := hT4.ext eL
  have hc5 := hc1.ex eL
  have hl0 : ∀ q u, (∀ ps, u ≠ .tbl ps) → HD q = some u → q ≠ l := fun q u hn h z => by
    have := e4 q u h hn
    rw [z, hl] at this
    cases this
  generalize upd H4 l (.lst [V.ref a1]) = H5' at hl5 nD5 hT5 hc5
  show tSeq _ _ _ (σ2 (some (.ref l)) z6 z10 z11) H5'
  refine q_appM (J := fun u H2 => ∃ a2, u = .ref a2 ∧ LamX.ExtN H5' H2 ∧ LamX.Tabs T H2 ∧ Caught C_BadPosition ov a2 H2) hl5 (ev_var (v := .ref l) rfl) (fun H6 e6 Q6 q6 => c_heardR (C := C_BadPosition) (y := ov) (hT5.ext e6) x_BadPosition.exm (fun H7 e7 hT7 H8 e8 E1 R1 hE => cXVV (ev_var (v := pv) rfl) (ev_var (v := ov) rfl) fun H9 e9 => ⟨pv, ov, tNN M, dd, rfl, .inr (fz_ex (e8.trans e9) (Fz.mono (extN_tex ((nD5.trans (LamX.ExtN.of e6)).trans e7)) _ _ fMD)), .inr (fz_ex (e8.trans e9) (Fz.mono (extN_tex ((nD5.trans (LamX.ExtN.of e6)).trans e7)) _ _ fdd)), fun h => absurd ⟨m, M, rfl, hM⟩ h, fun _ _ H10 dx e10 hdx => hE _ dx (e9.trans (e10.trans (Ex.new hdx))) upd_same, fun k' M' j g' h1 h2 h3 h4 h5 _ => absurd ⟨j, h5, g', h3, h4⟩ hnf, fun k' M' g' h1 h2 h3 h4 => absurd ⟨k', ⟨h2.pos, by have := h2.le; omega⟩, g', h3, h4⟩ hnf⟩) fun a2 H7 e7 hT7 hc2 => q6 (.ref a2) H7 (e7 _ _ (e6 _ _ hl5) lst_tbl) ⟨a2, rfl, (LamX.ExtN.of e6).trans e7, hT7, hc2⟩) (by show 1 < 100000; omega) fun v2 H6 hl6 hJ => ?_
  obtain ⟨a2, rfl, n56, hT6, hc2⟩ := hJ
  have hl7 : upd H6 l (.lst ([a1].map V.ref ++ [.ref a2])) l = some (.lst ([a1, a2].map V.ref)) := upd_same
  have b67 : But l H6 (upd H6 l (.lst ([a1].map V.ref ++ [.ref a2]))) := But.put
  have hT7 := tabs_butL hT6 hl6 b67
  have nD7 : LamX.ExtN HD (upd H6 l (.lst ([a1].map V.ref ++ [.ref a2]))) := fun q u h hn => b67 _ _ (hl0 q u hn h) ((nD5.trans n56) q u h hn)
  have hc7 := (hc5.extN n56).put (o := .lst ([a1].map V.ref ++ [.ref a2])) hl6
  have hc27 := hc2.put (o := .lst ([a1].map V.ref ++ [.ref a2])) hl6
  generalize upd H6 l (.lst ([a1].map V.ref ++ [.ref a2])) = H7 at hl7 b67 hT7 nD7 hc7 hc27
  have fdd7 := Fz.mono (extN_tex nD7) _ _ fdd
  have fM7 := Fz.mono (extN_tex nD7) _ _ fMD
  refine q_when (b := false) (et_not (a := true) (et_test (ev_allV (K := K) (xs := [a1, a2].map V.ref) (ev_var (v := .ref l) rfl) (sq_of hl7) (by show 2 ≤ 50000; omega) (fun _ => rfl) fun j y H8 hy e8 => ?_))) (fun z => nomatch z) fun _ H8 e8 => ?_
  · obtain ⟨a, ha, rfl⟩ := map_get hy
    have hca : Caught C_BadPosition ov a H8 := by
      match j, ha with
      | 0, ha => cases (Option.some.inj ha); exact hc7.ex e8
      | 1, ha => cases (Option.some.inj ha); exact hc27.ex e8
      | j + 2, ha => simp at ha
    exact ev_is (ev_andV (a := true) (b := true) (ev_caughtIs (xv := x_BadPosition) (ev_var rfl) hca) fun _ => ev_is (ev_op (ev_repr (ed_caughtV x_BadPosition (ev_var rfl) hca (fz_ex e8 fdd7)) hds.hs hds.hd hds.hl) (ev_repr (ed_var (v := ov) rfl (fz_ex e8 fdd7)) hds.hs hds.hd hds.hl) (rv_eq rfl)) (by rw [decide_eq_true rfl])) rfl
  -- Unlike
  have nD8 := nD7.trans (LamX.ExtN.of e8)
  have hT8 := hT7.ext e8
  have fM8 := fz_ex e8 fM7
  show tSeq _ _ _ (σ2 (some (.ref l)) z6 z10 z11) H8
  refine q_asgM (c_heardR (C := C_Unlike) (y := .int ((m + 1 : Nat) : Int)) hT8 x_Unlike.exm (fun H4 e4 hT4 H5 e5 E1 R1 hE => cXVD (ev_var (v := pv) rfl) (db := tN (List.range (m + 1))) (ed_tupRg (n := m + 1) (ev_is (ev_op (x := .int (m : Int)) (ev_var rfl) ev_c rv_I0) (by congr 1)) (by omega)) fun va H6 e6 f6 => ⟨pv, va, tNN M, tN (List.range (m + 1)), rfl, .inr (fz_ex (e5.trans e6) (Fz.mono (extN_tex e4) _ _ fM8)), .inr f6, fun h => absurd ⟨m, M, rfl, hM⟩ h, fun _ h => absurd ⟨m + 1, ⟨by omega, by omega⟩, _, rfl, List.Perm.refl _⟩ h, fun k' M' j g' h1 h2 h3 h4 _ _ H7 dx e7 hdx => ?_, fun k' M' g' h1 h2 h3 h4 => ?_⟩) fun a3 H9 e9 hT9 hc3 => ?_)
  · have h5 := tN_inj h3
    have h6 := isP_len h4
    rw [← h5, List.length_range] at h6
    subst h6
    exact hE _ dx (e6.trans (e7.trans (Ex.new hdx))) upd_same
  · have h5 := tN_inj h3
    have h6 := isP_len h4
    rw [← h5, List.length_range] at h6
    have h7 := picD_inj h1 hM h2
    omega
  have fM9 := Fz.mono (extN_tex e9) _ _ fM8
  have hsi : ∀ n : Nat, n ≤ 10 → ShowOk (.int (n : Int)) := fun n hn => (shw_int (by omega)).ok (by decide) (by decide)
  show tSeq _ _ _ (σ2 (some (.ref l)) (some (.ref a3)) z10 z11) H9
  refine q_when (b := false) (et_or (a := false) (b := false) (et_is (et_not (a := true) (et_test (ev_caughtIs (xv := x_Unlike) (ev_var rfl) hc3))) rfl) fun _ => et_reprNe (d := .int ((m + 1 : Nat) : Int)) (hsi _ (by omega)) (ed_caughtV x_Unlike (ev_var rfl) hc3 fz_int) (ed_ev (ev_is (ev_op (x := .int (m : Int)) (ev_var rfl) ev_c rv_I0) (by congr 1)) fz_int)) (fun z => nomatch z) fun _ HE eE => ?_
  -- Unlike pictures
  have nDE := (nD8.trans e9).trans (LamX.ExtN.of eE)
  have hTE := hT9.ext eE
  have fME := fz_ex eE fM9
  have hmod : ∀ {σ : L2.St} {HX : Hp}, σ[7]? = some (some (.int (m : Int))) → Ev (tOp (rI0 fun i j => .int (i + j)) (tOp (rI (fun _ j => 0 < j) fun i j => .int (i % j)) (tVar 7) (tC (.int 8))) (tC (.int 1))) σ HX (.int ((m + 1 : Nat) : Int)) := fun {σ HX} h0 => ev_is (ev_op (ev_op (x := .int (m : Int)) (ev_var h0) ev_c (rv_I (by decide))) ev_c rv_I0) (by congr 1; omega)
  have hN : Pic8 (m + 1) (List.replicate (m + 1) (List.replicate (m + 1) 0)) := ⟨by omega, by omega, ⟨List.length_replicate, fun r hr => by rw [List.eq_of_mem_replicate hr, List.length_replicate]⟩, fun r hr x hx => by
    rw [List.eq_of_mem_replicate hr] at hx
    rw [List.eq_of_mem_replicate hx]
    omega⟩
  have hNe : tNN (List.replicate (m + 1) (List.replicate (m + 1) 0)) = .tuple (List.replicate (m + 1) (.tuple (List.replicate (m + 1) (.int 0)))) := by
    unfold tNN tN
    rw [List.map_replicate, List.map_replicate]
    rfl
  show tSeq _ _ _ (σ2 (some (.ref l)) (some (.ref a3)) z10 z11) HE
  refine q_asgM (c_heardR (C := C_Unlike) (y := .int ((m + 1 : Nat) : Int)) hTE x_Unlike.exm (fun H4 e4 hT4 H5 e5 E1 R1 hE => cXVD (ev_var (v := pv) rfl) (db := tNN (List.replicate (m + 1) (List.replicate (m + 1) 0))) (by
    rw [hNe]
    exact ed_repT (n := m + 1) (ed_tup (ds := [.tuple (List.replicate (m + 1) (.int 0))]) (ea_d (ed_repT (n := m + 1) z1 (hmod rfl) (by omega) (by omega)) ea_nil) (show 1 ≤ 100000 by decide)) (hmod rfl) (by omega) (by omega)) fun va H6 e6 f6 => ⟨pv, va, tNN M, _, rfl, .inr (fz_ex (e5.trans e6) (Fz.mono (extN_tex e4) _ _ fME)), .inr f6, .inr ⟨m, M, m + 1, _, rfl, hM, rfl, hN, by omega, fun H7 dx e7 hdx => hE _ dx (e6.trans (e7.trans (Ex.new hdx))) upd_same⟩⟩) fun a4 HF eF hTF hc4 => ?_)
  have nDF := nDE.trans eF
  show tIfS _ _ _ _ (σ2 (some (.ref l)) (some (.ref a4)) z10 z11) HF
  exact s_when (b := false) (et_or (a := false) (b := false) (et_is (et_not (a := true) (et_test (ev_caughtIs (xv := x_Unlike) (ev_var rfl) hc4))) rfl) fun _ => et_reprNe (d := .int ((m + 1 : Nat) : Int)) (hsi _ (by omega)) (ed_caughtV x_Unlike (ev_var rfl) hc4 fz_int) (ed_ev (hmod rfl) fz_int)) (fun z => nomatch z) fun _ HG eG => ⟨⟨_, _, _, _, _, _, _, _, _, _, _, rfl⟩, n0D.trans ((ButN.ofN nDF).trans (ButN.ofE eG)), hTF.ext eG, ((PD.extN nDF).ex eG).le (by omega)⟩
end
end WT
namespace WT
open PySem PySem.Spec PyProof.Rows L2 Evl SX
abbrev s_law : Stmt := top 53
abbrev N_law : List Str := ["script", "at"]
theorem sc_law : FnScope N_law ["script"] (defScope s_law) := ⟨rfl, rfl, rfl, by decide +kernel, rfl, by decide +kernel, by decide +kernel⟩
section
variable {P : Program} {w : World} {K : PySem.W.Frag} {mg : Str → Option Value} {base : Heap} {T : List (Addr × Str)}
theorem ok_law (B : Bt mg) (o_law_pot : Okd P w K mg base "_law_pot" ["script", "place"] s_law_pot 1 (spPot K)) (o_law_cells : Okd P w K mg base "_law_cells" ["script", "most"] s_law_cells 1 (spCellsN K)) (o_law_right : Okg P w K mg base "_law_right" ["pot"] s_law_right 20 (spRightT T))
    (d : DefIn K mg "law" ["script"] s_law) : Okg P w K mg base "law" ["script"] s_law 21 (spLawT K T) := by
  refine Okg.mk d sc_law (fun vs H Q E h => ?_) (fun f cdv A outer s H vs Q E hgd hr h => ?_)
  · obtain ⟨a, ns, rfl, _⟩ := h
    rfl
  obtain ⟨a, ns, rfl, hS, hl, hT, k⟩ := h
  refine ⟨_, (pss_one (ps_ret (pe_callB (cr_all rfl) (by rfl) B.all boot_all (pa_cons (pe_lc (own := [("at", 1)]) rfl sc_law.nd (pi_list (pe_fn o_law_cells (hr.mono (by decide)) (pa_cons (pv 0) (pa_cons pe_int pa_nil)))) (blkOk_by (own := [("at", 1)]) (N := N_law) (sc := defScope s_law) (by decide +kernel)) (fun _ _ _ _ _ => pg_name (i := 1) sc_law.nd rfl (Or.inl rfl)) (fun _ _ _ _ _ => pts_nil) (fun _ _ _ _ _ => (pe_fnG o_law_right hgd (hr.mono (by decide)) (pa_cons (pe_fn o_law_pot (hr.mono (by decide)) (pa_cons (pv 0) (pa_cons (pv 1) pa_nil))) pa_nil)))) pa_nil)))), ?_⟩
  refine s_retM (c_cb (c_cons (c_lcList (c_call (Evl.ea_cons (ev_var rfl) (Evl.ea_cons ev_c Evl.ea_nil) H (Ex.refl _) _ fun H1 e1 => ⟨a, ns.map V.int, _, rfl, by decide, by decide, ex_l e1 hS, by rw [List.length_map]; omega, fun n p H2 hn hp e2 h2 => ⟨p, rfl, ?_⟩⟩)))))
  have hn100 : n ≤ 100 := Nat.le_trans hn (by decide)
  have hT2 := hT.ext (e1.trans e2)
  have hS2 := ex_l (e1.trans e2) hS
  unfold tLc iList
  refine ⟨p, rfl, ⟨_, sq_of h2⟩, fun D hD => lc_list (xs := vN (List.range n)) (fun i H' => LamX.ExtN H2 H' ∧ LamX.Tabs T H' ∧ H' D = some (.lst (List.replicate i (.bl true)))) ⟨LamX.ExtN.of (Ex.new hD), hT2.ext (Ex.new hD), upd_same⟩ (fun i H' _ h => sql_extN (sq_of h2) h.1) (fun i x H' hx h => ?_) (fun H' h => ?_)⟩
  · obtain ⟨h1, h3, h4⟩ := h
    have hi : i < n := by
      have := (List.getElem?_eq_some_iff.mp hx).1
      rw [vN_len, List.length_range] at this
      exact this
    have hxv : x = .int (i : Int) := by
      rw [vN_get, List.getElem?_range hi] at hx
      exact (Option.some.inj hx).symm
    subst hxv
    refine ⟨rfl, ?_⟩
    unfold tYes
    show ite (true = true) _ _
    rw [if_pos rfl]
    refine c_call (c_cons (c_call (Evl.ea_cons (ev_var rfl) (Evl.ea_cons (ev_var rfl) Evl.ea_nil) H' (Ex.refl _) _ fun H5 e5 => ⟨a, ns, i, rfl, ex_l e5 (sql_extN hS2 h1), hl, by omega, fun pt H6 hpt e6 hP => c_nil ⟨pt, rfl, hP, h3.ext (e5.trans e6), fun H7 eB hT7 => ?_⟩⟩)))
    have e56 := e5.trans e6
    have npt : ∀ q o, H' q = some o → q ≠ pt := fun q o hq z => by
      have := e5 _ _ hq
      rw [z, hpt] at this
      cases this
    have hD7 := eB _ _ (npt _ _ h4) lst_tbl (e56 _ _ h4)
    refine ⟨_, hD7, by rw [List.length_replicate, sizeLine_eq]; omega, fun b o hb hnt => ?_, tabs_butL hT7 hD7 But.put, ?_⟩
    · have nb : b ≠ D := fun z => by
        rw [z, hD] at hb
        cases hb
      have hb' := h1 b o hb hnt
      rw [upd_ne nb]
      exact eB _ _ (npt _ _ hb') hnt (e56 _ _ hb')
    · rw [upd_same, List.replicate_succ']
  · obtain ⟨_, _, h4⟩ := h
    rw [vN_len, List.length_range] at h4
    refine c_nil ⟨D, List.replicate n true, rfl, sq_of (by rw [h4, List.map_replicate]), ?_⟩
    have : (List.replicate n true).all id = true := by simp
    rw [this]
    exact k H'
end
end WT
namespace WT
open PySem PySem.Spec PyProof.Rows L2 Evl
theorem fun_uniq {K : PySem.W.Frag} {x q : Str} {st : Stmt} {f : Addr} {fd fe : FuncData} (F : Fun K x q st f fd) (F' : Fun K x q st f fe) : fd = fe := by
  obtain ⟨_, _, _, _, _, _, _, _, _, rfl, lk, _⟩ := F.ex
  obtain ⟨_, _, _, _, _, _, _, _, _, rfl, lk', _⟩ := F'.ex
  rw [lk] at lk'
  cases lk'
  rfl
set_option maxHeartbeats 0 in
theorem all_mk {l : PySem.W.OpenLaw} {w : World} {K : PySem.W.Frag} {h : Heap} {mg : Str → Option Value} {fa : Addr} (X : K.In h) (G : h.Ns mainGlobals mg) (hfa : mg "law" = some (.ref fa))
    (tabs : ∀ y ∈ (["_law_is_value_right", "_law_right"] : List Str), TabD mg h y)
    {C_TurnError : Addr}
    {fI cdI ccI : Addr} {odI anI cddI cldI : Option Addr} {slI cslI csI : Array (Option Value)} {ocI dVI kVI dcI pmI ctI cclI clI : Value} {parI : Arguments} {arI : Arg} {nameI qualI : Str} {q0 q1 q2 q3 q4 q5 q6 q7 q8 q9 : Pos} {vsI : Array Value} {fileI : Str} {tfI : Tok} {cdD : ClassData}
    {C_BadPosition N_BadPosition : Addr} {nm_BadPosition q_BadPosition : Str} {bs_BadPosition bm_BadPosition : List Value} {sn_BadPosition : List Str} {sub_BadPosition : List Value} {ab_BadPosition : Bool} {col_BadPosition : Option Bool} {dd_BadPosition : Option Addr} {k0_BadPosition k1_BadPosition k2_BadPosition k3_BadPosition k5_BadPosition : Option Value}
    {C_Unlike N_Unlike : Addr} {nm_Unlike q_Unlike : Str} {bs_Unlike bm_Unlike : List Value} {sn_Unlike : List Str} {sub_Unlike : List Value} {ab_Unlike : Bool} {col_Unlike : Option Bool} {dd_Unlike : Option Addr} {k0_Unlike k1_Unlike k2_Unlike k3_Unlike k5_Unlike : Option Value}
    {C_BadPicture N_BadPicture : Addr} {nm_BadPicture q_BadPicture : Str} {bs_BadPicture bm_BadPicture : List Value} {sn_BadPicture : List Str} {sub_BadPicture : List Value} {ab_BadPicture : Bool} {col_BadPicture : Option Bool} {dd_BadPicture : Option Addr} {k0_BadPicture k1_BadPicture k2_BadPicture k3_BadPicture k5_BadPicture : Option Value}
    {f1 : Addr} {od1 an1 : Option Addr} {sl1 : Array (Option Value)} {oc1 kV1 dc1 pm1 ct1 : Value} {cd1 : Value}
    {f2 : Addr} {od2 an2 : Option Addr} {sl2 : Array (Option Value)} {oc2 kV2 dc2 pm2 ct2 : Value} {cd2 : Value}
    {f3 : Addr} {od3 an3 : Option Addr} {sl3 : Array (Option Value)} {oc3 kV3 dc3 pm3 ct3 : Value} {cd3 : Value}
    {f4 : Addr} {od4 an4 : Option Addr} {sl4 : Array (Option Value)} {oc4 kV4 dc4 pm4 ct4 : Value} {cd4 : Value}
    {f5 : Addr} {od5 an5 : Option Addr} {sl5 : Array (Option Value)} {oc5 kV5 dc5 pm5 ct5 : Value} {cd5 : Value}
    {f6 : Addr} {od6 an6 : Option Addr} {sl6 : Array (Option Value)} {oc6 kV6 dc6 pm6 ct6 : Value} {cd6 : Value}
    {f7 : Addr} {od7 an7 : Option Addr} {sl7 : Array (Option Value)} {oc7 kV7 dc7 pm7 ct7 : Value} {cd7 : Value}
    {f8 : Addr} {od8 an8 : Option Addr} {sl8 : Array (Option Value)} {oc8 kV8 dc8 pm8 ct8 : Value} {cd8 : Value}
    {f9 : Addr} {od9 an9 : Option Addr} {sl9 : Array (Option Value)} {oc9 kV9 dc9 pm9 ct9 : Value} {cd9 : Value}
    {f10 : Addr} {od10 an10 : Option Addr} {sl10 : Array (Option Value)} {oc10 kV10 dc10 pm10 ct10 : Value} {cd10 : Value}
    {f11 : Addr} {od11 an11 : Option Addr} {sl11 : Array (Option Value)} {oc11 kV11 dc11 pm11 ct11 : Value} {cd11 : Value}
    {f12 : Addr} {od12 an12 : Option Addr} {sl12 : Array (Option Value)} {oc12 kV12 dc12 pm12 ct12 : Value} {cd12 : Value}
    {f13 : Addr} {od13 an13 : Option Addr} {sl13 : Array (Option Value)} {oc13 kV13 dc13 pm13 ct13 : Value} {cd13 : Value}
    {f14 : Addr} {od14 an14 : Option Addr} {sl14 : Array (Option Value)} {oc14 kV14 dc14 pm14 ct14 : Value} {cd14 : Value}
    {f15 : Addr} {od15 an15 : Option Addr} {sl15 : Array (Option Value)} {oc15 kV15 dc15 pm15 ct15 : Value} {cd15 : Value}
    {f16 : Addr} {od16 an16 : Option Addr} {sl16 : Array (Option Value)} {oc16 kV16 dc16 pm16 ct16 : Value} {cd16 : Value}
    {f17 : Addr} {od17 an17 : Option Addr} {sl17 : Array (Option Value)} {oc17 kV17 dc17 pm17 ct17 : Value} {cd17 : Value}
    {f18 : Addr} {od18 an18 : Option Addr} {sl18 : Array (Option Value)} {oc18 kV18 dc18 pm18 ct18 : Value} {cd18 : Value}
    {f19 : Addr} {od19 an19 : Option Addr} {sl19 : Array (Option Value)} {oc19 kV19 dc19 pm19 ct19 : Value} {cd19 : Value}
    {f20 : Addr} {od20 an20 : Option Addr} {sl20 : Array (Option Value)} {oc20 kV20 dc20 pm20 ct20 : Value} {cd20 : Value}
    {f21 : Addr} {od21 an21 : Option Addr} {sl21 : Array (Option Value)} {oc21 kV21 dc21 pm21 ct21 : Value} {cd21 : Value}
    {f22 : Addr} {od22 an22 : Option Addr} {sl22 : Array (Option Value)} {oc22 kV22 dc22 pm22 ct22 : Value} {cd22 : Value}
    {f23 : Addr} {od23 an23 : Option Addr} {sl23 : Array (Option Value)} {oc23 kV23 dc23 pm23 ct23 : Value} {cd23 : Value}
    {f24 : Addr} {od24 an24 : Option Addr} {sl24 : Array (Option Value)} {oc24 kV24 dc24 pm24 ct24 : Value} {cd24 : Value}
    {f25 : Addr} {od25 an25 : Option Addr} {sl25 : Array (Option Value)} {oc25 kV25 dc25 pm25 ct25 : Value} {cd25 : Value}
    {f26 : Addr} {od26 an26 : Option Addr} {sl26 : Array (Option Value)} {oc26 kV26 dc26 pm26 ct26 : Value} {cd26 : Value}
    {f27 : Addr} {od27 an27 : Option Addr} {sl27 : Array (Option Value)} {oc27 kV27 dc27 pm27 ct27 : Value} {cd27 : Value}
    {f28 : Addr} {od28 an28 : Option Addr} {sl28 : Array (Option Value)} {oc28 kV28 dc28 pm28 ct28 : Value} {cd28 : Value}
    {f29 : Addr} {od29 an29 : Option Addr} {sl29 : Array (Option Value)} {oc29 kV29 dc29 pm29 ct29 : Value} {cd29 : Value}
    {f30 : Addr} {od30 an30 : Option Addr} {sl30 : Array (Option Value)} {oc30 kV30 dc30 pm30 ct30 : Value} {cc30 tp30 : Addr} {te30 : Value} {td30 : Option Addr} {tv30 : Array Value} {ts30 : Array (Option Value)}
    {f31 : Addr} {od31 an31 : Option Addr} {sl31 : Array (Option Value)} {oc31 kV31 dc31 pm31 ct31 : Value} {cc31 tp31 : Addr} {te31 : Value} {td31 : Option Addr} {tv31 : Array Value} {ts31 : Array (Option Value)}
    {f32 : Addr} {od32 an32 : Option Addr} {sl32 : Array (Option Value)} {oc32 kV32 dc32 pm32 ct32 : Value} {cd32 : Value}
    {t_most_wide : Tok} {t_most_spots : Tok} {t_most_mark : Tok}
    (gz_TurnError : PySem.W.nsIn K mainGlobals "TurnError" = some (some (.ref C_TurnError)))
    (gz_BadPosition : PySem.W.nsIn K mainGlobals "BadPosition" = some (some (.ref C_BadPosition))) (cl_BadPosition : K.lookup C_BadPosition = some (excClassObj nm_BadPosition q_BadPosition C_BadPosition N_BadPosition bs_BadPosition bm_BadPosition true sn_BadPosition sub_BadPosition ab_BadPosition col_BadPosition dd_BadPosition k0_BadPosition k1_BadPosition k2_BadPosition k3_BadPosition k5_BadPosition "ValueError.__new__")) (rb_BadPosition : PySem.HandSPX.refsVE bm_BadPosition = true) (sa_BadPosition : PySem.W.findIn K (.ref C_BadPosition) "__setattr__" = some (some (.builtin "object.__setattr__"))) (sx_BadPosition : PySem.W.subIn K (.ref C_BadPosition) (.type "BaseException") = some true) (ty_BadPosition : PySem.W.typeIn K (.ref C_BadPosition) = some (.type "type")) (kp_BadPosition : PySem.W.keepIn K (.ref C_BadPosition) = true) (mr_BadPosition : PySem.W.mroIn K C_BadPosition (.ref C_TurnError) = some true) (su_BadPosition : PySem.W.ks_superIn K C_BadPosition C_TurnError "__init__" = some (some (.builtin "ValueError.__init__"))) (ve_BadPosition : PySem.W.subIn K (.ref C_BadPosition) (.type "ValueError") = some true) (va_BadPosition : PySem.W.findIn K (.ref C_BadPosition) "value" = some none) (ga_BadPosition : PySem.W.findIn K (.ref C_BadPosition) "__getattribute__" = some (some (.builtin "BaseException.__getattribute__"))) (gg_BadPosition : PySem.W.findIn K (.ref C_BadPosition) "__getattr__" = some none) (hd_BadPosition : PySem.W.hasDictIn K C_BadPosition = true) (ic_BadPosition : PySem.W.isClsIn K C_BadPosition = true) (ha_BadPosition : PySem.W.findIn K (.ref C_BadPosition) "__class__" = some (some (.builtin "object.__class__"))) (hn_BadPosition : PySem.W.specialIn K (.builtin "object.__class__") "__get__" = some (some (.builtin "getset_descriptor.__get__"))) (ht_BadPosition : PySem.W.takesIn K (.builtin "object.__class__") = some true) (hm_BadPosition : PySem.W.mroIn K C_BadPosition (.type "object") = some true) (ki_BadPosition : PySem.W.kitOne K (.ref C_BadPosition) (.ref C_BadPosition) = some true) (em_BadPosition : PySem.W.exmOne K (.ref C_BadPosition) (.ref C_TurnError) = some true) (iC_BadPosition : PySem.W.findIn K (.ref C_BadPosition) "__init__" = some (some (.ref fI)))
    (tI : PySem.W.typeIn K (.ref fI) = some (.type "function")) (lkI : K.lookup fI = some ⟨ocI, odI, .func (PySem.W.ksFn nameI qualI parI (bdT q0 q1 q2 q3 q4 q5 q6 q7 q8 q9) scT dVI kVI dcI pmI anI (.ref cdI) ctI ccI), slI⟩) (cdeI : PySem.W.codeIn K (.ref cdI) qualI = true) (hpI : (parI.posonlyargs ++ parI.args).head? = some arI) (haI : arI.arg = "self")
    (lcI : K.lookup cdI = some ⟨cclI, cddI, .fields vsI, csI⟩) (hvI : vsI[2]? = some (.str fileI tfI)) (hfI : ((l.prog.main.file : Str) == fileI) = true) (clcI : K.lookup ccI = some ⟨clI, cldI, .cell (some (.ref C_TurnError)), cslI⟩) (hDI : PySem.W.clsIn K C_TurnError = some cdD) (zsI : PySem.W.nsIn K mainGlobals "super" = some none) (htI : (l.prog.main.scope.names.lookup ("super" : Str)).isSome = false) (hyI : PySem.W.nsIn K cStatics "thirdparty.any" = some none) (hevI : TurEv q0 q1 q2 q3 q4)
    (bI : Binds K (PySem.W.ksFn nameI qualI parI (bdT q0 q1 q2 q3 q4 q5 q6 q7 q8 q9) scT dVI kVI dcI pmI anI (.ref cdI) ctI ccI) ["self", "value"] [])
    (gz_Unlike : PySem.W.nsIn K mainGlobals "Unlike" = some (some (.ref C_Unlike))) (cl_Unlike : K.lookup C_Unlike = some (excClassObj nm_Unlike q_Unlike C_Unlike N_Unlike bs_Unlike bm_Unlike true sn_Unlike sub_Unlike ab_Unlike col_Unlike dd_Unlike k0_Unlike k1_Unlike k2_Unlike k3_Unlike k5_Unlike "ValueError.__new__")) (rb_Unlike : PySem.HandSPX.refsVE bm_Unlike = true) (sa_Unlike : PySem.W.findIn K (.ref C_Unlike) "__setattr__" = some (some (.builtin "object.__setattr__"))) (sx_Unlike : PySem.W.subIn K (.ref C_Unlike) (.type "BaseException") = some true) (ty_Unlike : PySem.W.typeIn K (.ref C_Unlike) = some (.type "type")) (kp_Unlike : PySem.W.keepIn K (.ref C_Unlike) = true) (mr_Unlike : PySem.W.mroIn K C_Unlike (.ref C_TurnError) = some true) (su_Unlike : PySem.W.ks_superIn K C_Unlike C_TurnError "__init__" = some (some (.builtin "ValueError.__init__"))) (ve_Unlike : PySem.W.subIn K (.ref C_Unlike) (.type "ValueError") = some true) (va_Unlike : PySem.W.findIn K (.ref C_Unlike) "value" = some none) (ga_Unlike : PySem.W.findIn K (.ref C_Unlike) "__getattribute__" = some (some (.builtin "BaseException.__getattribute__"))) (gg_Unlike : PySem.W.findIn K (.ref C_Unlike) "__getattr__" = some none) (hd_Unlike : PySem.W.hasDictIn K C_Unlike = true) (ic_Unlike : PySem.W.isClsIn K C_Unlike = true) (ha_Unlike : PySem.W.findIn K (.ref C_Unlike) "__class__" = some (some (.builtin "object.__class__"))) (hn_Unlike : PySem.W.specialIn K (.builtin "object.__class__") "__get__" = some (some (.builtin "getset_descriptor.__get__"))) (ht_Unlike : PySem.W.takesIn K (.builtin "object.__class__") = some true) (hm_Unlike : PySem.W.mroIn K C_Unlike (.type "object") = some true) (ki_Unlike : PySem.W.kitOne K (.ref C_Unlike) (.ref C_Unlike) = some true) (em_Unlike : PySem.W.exmOne K (.ref C_Unlike) (.ref C_TurnError) = some true) (iC_Unlike : PySem.W.findIn K (.ref C_Unlike) "__init__" = some (some (.ref fI)))
    (gz_BadPicture : PySem.W.nsIn K mainGlobals "BadPicture" = some (some (.ref C_BadPicture))) (cl_BadPicture : K.lookup C_BadPicture = some (excClassObj nm_BadPicture q_BadPicture C_BadPicture N_BadPicture bs_BadPicture bm_BadPicture true sn_BadPicture sub_BadPicture ab_BadPicture col_BadPicture dd_BadPicture k0_BadPicture k1_BadPicture k2_BadPicture k3_BadPicture k5_BadPicture "ValueError.__new__")) (rb_BadPicture : PySem.HandSPX.refsVE bm_BadPicture = true) (sa_BadPicture : PySem.W.findIn K (.ref C_BadPicture) "__setattr__" = some (some (.builtin "object.__setattr__"))) (sx_BadPicture : PySem.W.subIn K (.ref C_BadPicture) (.type "BaseException") = some true) (ty_BadPicture : PySem.W.typeIn K (.ref C_BadPicture) = some (.type "type")) (kp_BadPicture : PySem.W.keepIn K (.ref C_BadPicture) = true) (mr_BadPicture : PySem.W.mroIn K C_BadPicture (.ref C_TurnError) = some true) (su_BadPicture : PySem.W.ks_superIn K C_BadPicture C_TurnError "__init__" = some (some (.builtin "ValueError.__init__"))) (ve_BadPicture : PySem.W.subIn K (.ref C_BadPicture) (.type "ValueError") = some true) (va_BadPicture : PySem.W.findIn K (.ref C_BadPicture) "value" = some none) (ga_BadPicture : PySem.W.findIn K (.ref C_BadPicture) "__getattribute__" = some (some (.builtin "BaseException.__getattribute__"))) (gg_BadPicture : PySem.W.findIn K (.ref C_BadPicture) "__getattr__" = some none) (hd_BadPicture : PySem.W.hasDictIn K C_BadPicture = true) (ic_BadPicture : PySem.W.isClsIn K C_BadPicture = true) (ha_BadPicture : PySem.W.findIn K (.ref C_BadPicture) "__class__" = some (some (.builtin "object.__class__"))) (hn_BadPicture : PySem.W.specialIn K (.builtin "object.__class__") "__get__" = some (some (.builtin "getset_descriptor.__get__"))) (ht_BadPicture : PySem.W.takesIn K (.builtin "object.__class__") = some true) (hm_BadPicture : PySem.W.mroIn K C_BadPicture (.type "object") = some true) (ki_BadPicture : PySem.W.kitOne K (.ref C_BadPicture) (.ref C_BadPicture) = some true) (em_BadPicture : PySem.W.exmOne K (.ref C_BadPicture) (.ref C_TurnError) = some true) (iC_BadPicture : PySem.W.findIn K (.ref C_BadPicture) "__init__" = some (some (.ref fI)))
    (a1 : PySem.W.nsIn K mainGlobals "_law_heard" = some (some (.ref f1))) (l1 : K.lookup f1 = some ⟨oc1, od1, .func (PySem.W.fnOf "_law_heard" "_law_heard" (defArgs s_law_heard) (defBody s_law_heard) (defScope s_law_heard) .none kV1 dc1 pm1 an1 cd1 ct1), sl1⟩) (c1 : PySem.W.codeIn K cd1 "_law_heard" = true) (i1 : PySem.W.keepIn K (.ref f1) = true)
    (a2 : PySem.W.nsIn K mainGlobals "_law_pot" = some (some (.ref f2))) (l2 : K.lookup f2 = some ⟨oc2, od2, .func (PySem.W.fnOf "_law_pot" "_law_pot" (defArgs s_law_pot) (defBody s_law_pot) (defScope s_law_pot) .none kV2 dc2 pm2 an2 cd2 ct2), sl2⟩) (c2 : PySem.W.codeIn K cd2 "_law_pot" = true) (i2 : PySem.W.keepIn K (.ref f2) = true)
    (a3 : PySem.W.nsIn K mainGlobals "_law_take" = some (some (.ref f3))) (l3 : K.lookup f3 = some ⟨oc3, od3, .func (PySem.W.fnOf "_law_take" "_law_take" (defArgs s_law_take) (defBody s_law_take) (defScope s_law_take) .none kV3 dc3 pm3 an3 cd3 ct3), sl3⟩) (c3 : PySem.W.codeIn K cd3 "_law_take" = true) (i3 : PySem.W.keepIn K (.ref f3) = true)
    (a4 : PySem.W.nsIn K mainGlobals "_law_cells" = some (some (.ref f4))) (l4 : K.lookup f4 = some ⟨oc4, od4, .func (PySem.W.fnOf "_law_cells" "_law_cells" (defArgs s_law_cells) (defBody s_law_cells) (defScope s_law_cells) .none kV4 dc4 pm4 an4 cd4 ct4), sl4⟩) (c4 : PySem.W.codeIn K cd4 "_law_cells" = true) (i4 : PySem.W.keepIn K (.ref f4) = true)
    (a5 : PySem.W.nsIn K mainGlobals "_law_some" = some (some (.ref f5))) (l5 : K.lookup f5 = some ⟨oc5, od5, .func (PySem.W.fnOf "_law_some" "_law_some" (defArgs s_law_some) (defBody s_law_some) (defScope s_law_some) .none kV5 dc5 pm5 an5 cd5 ct5), sl5⟩) (c5 : PySem.W.codeIn K cd5 "_law_some" = true) (i5 : PySem.W.keepIn K (.ref f5) = true)
    (a6 : PySem.W.nsIn K mainGlobals "_law_position_drawn" = some (some (.ref f6))) (l6 : K.lookup f6 = some ⟨oc6, od6, .func (PySem.W.fnOf "_law_position_drawn" "_law_position_drawn" (defArgs s_law_position_drawn) (defBody s_law_position_drawn) (defScope s_law_position_drawn) .none kV6 dc6 pm6 an6 cd6 ct6), sl6⟩) (c6 : PySem.W.codeIn K cd6 "_law_position_drawn" = true) (i6 : PySem.W.keepIn K (.ref f6) = true)
    (a7 : PySem.W.nsIn K mainGlobals "_law_of" = some (some (.ref f7))) (l7 : K.lookup f7 = some ⟨oc7, od7, .func (PySem.W.fnOf "_law_of" "_law_of" (defArgs s_law_of) (defBody s_law_of) (defScope s_law_of) .none kV7 dc7 pm7 an7 cd7 ct7), sl7⟩) (c7 : PySem.W.codeIn K cd7 "_law_of" = true) (i7 : PySem.W.keepIn K (.ref f7) = true)
    (a8 : PySem.W.nsIn K mainGlobals "_law_picture_drawn" = some (some (.ref f8))) (l8 : K.lookup f8 = some ⟨oc8, od8, .func (PySem.W.fnOf "_law_picture_drawn" "_law_picture_drawn" (defArgs s_law_picture_drawn) (defBody s_law_picture_drawn) (defScope s_law_picture_drawn) .none kV8 dc8 pm8 an8 cd8 ct8), sl8⟩) (c8 : PySem.W.codeIn K cd8 "_law_picture_drawn" = true) (i8 : PySem.W.keepIn K (.ref f8) = true)
    (a9 : PySem.W.nsIn K mainGlobals "told_moved" = some (some (.ref f9))) (l9 : K.lookup f9 = some ⟨oc9, od9, .func (PySem.W.fnOf "told_moved" "told_moved" (defArgs s_told_moved) (defBody s_told_moved) (defScope s_told_moved) .none kV9 dc9 pm9 an9 cd9 ct9), sl9⟩) (c9 : PySem.W.codeIn K cd9 "told_moved" = true) (i9 : PySem.W.keepIn K (.ref f9) = true)
    (a10 : PySem.W.nsIn K mainGlobals "_law_moved" = some (some (.ref f10))) (l10 : K.lookup f10 = some ⟨oc10, od10, .func (PySem.W.fnOf "_law_moved" "_law_moved" (defArgs s_law_moved) (defBody s_law_moved) (defScope s_law_moved) .none kV10 dc10 pm10 an10 cd10 ct10), sl10⟩) (c10 : PySem.W.codeIn K cd10 "_law_moved" = true) (i10 : PySem.W.keepIn K (.ref f10) = true)
    (a11 : PySem.W.nsIn K mainGlobals "_law_code" = some (some (.ref f11))) (l11 : K.lookup f11 = some ⟨oc11, od11, .func (PySem.W.fnOf "_law_code" "_law_code" (defArgs s_law_code) (defBody s_law_code) (defScope s_law_code) .none kV11 dc11 pm11 an11 cd11 ct11), sl11⟩) (c11 : PySem.W.codeIn K cd11 "_law_code" = true) (i11 : PySem.W.keepIn K (.ref f11) = true)
    (a12 : PySem.W.nsIn K mainGlobals "is_int" = some (some (.ref f12))) (l12 : K.lookup f12 = some ⟨oc12, od12, .func (PySem.W.fnOf "is_int" "is_int" (defArgs s_is_int) (defBody s_is_int) (defScope s_is_int) .none kV12 dc12 pm12 an12 cd12 ct12), sl12⟩) (c12 : PySem.W.codeIn K cd12 "is_int" = true) (i12 : PySem.W.keepIn K (.ref f12) = true)
    (a13 : PySem.W.nsIn K mainGlobals "is_position_of" = some (some (.ref f13))) (l13 : K.lookup f13 = some ⟨oc13, od13, .func (PySem.W.fnOf "is_position_of" "is_position_of" (defArgs s_is_position_of) (defBody s_is_position_of) (defScope s_is_position_of) .none kV13 dc13 pm13 an13 cd13 ct13), sl13⟩) (c13 : PySem.W.codeIn K cd13 "is_position_of" = true) (i13 : PySem.W.keepIn K (.ref f13) = true)
    (a14 : PySem.W.nsIn K mainGlobals "is_picture" = some (some (.ref f14))) (l14 : K.lookup f14 = some ⟨oc14, od14, .func (PySem.W.fnOf "is_picture" "is_picture" (defArgs s_is_picture) (defBody s_is_picture) (defScope s_is_picture) .none kV14 dc14 pm14 an14 cd14 ct14), sl14⟩) (c14 : PySem.W.codeIn K cd14 "is_picture" = true) (i14 : PySem.W.keepIn K (.ref f14) = true)
    (a15 : PySem.W.nsIn K mainGlobals "_law_is_int" = some (some (.ref f15))) (l15 : K.lookup f15 = some ⟨oc15, od15, .func (PySem.W.fnOf "_law_is_int" "_law_is_int" (defArgs s_law_is_int) (defBody s_law_is_int) (defScope s_law_is_int) .none kV15 dc15 pm15 an15 cd15 ct15), sl15⟩) (c15 : PySem.W.codeIn K cd15 "_law_is_int" = true) (i15 : PySem.W.keepIn K (.ref f15) = true)
    (a16 : PySem.W.nsIn K mainGlobals "_law_is_picture" = some (some (.ref f16))) (l16 : K.lookup f16 = some ⟨oc16, od16, .func (PySem.W.fnOf "_law_is_picture" "_law_is_picture" (defArgs s_law_is_picture) (defBody s_law_is_picture) (defScope s_law_is_picture) .none kV16 dc16 pm16 an16 cd16 ct16), sl16⟩) (c16 : PySem.W.codeIn K cd16 "_law_is_picture" = true) (i16 : PySem.W.keepIn K (.ref f16) = true)
    (a17 : PySem.W.nsIn K mainGlobals "_law_is_bool" = some (some (.ref f17))) (l17 : K.lookup f17 = some ⟨oc17, od17, .func (PySem.W.fnOf "_law_is_bool" "_law_is_bool" (defArgs s_law_is_bool) (defBody s_law_is_bool) (defScope s_law_is_bool) .none kV17 dc17 pm17 an17 cd17 ct17), sl17⟩) (c17 : PySem.W.codeIn K cd17 "_law_is_bool" = true) (i17 : PySem.W.keepIn K (.ref f17) = true)
    (a18 : PySem.W.nsIn K mainGlobals "look_at_picture" = some (some (.ref f18))) (l18 : K.lookup f18 = some ⟨oc18, od18, .func (PySem.W.fnOf "look_at_picture" "look_at_picture" (defArgs s_look_at_picture) (defBody s_look_at_picture) (defScope s_look_at_picture) .none kV18 dc18 pm18 an18 cd18 ct18), sl18⟩) (c18 : PySem.W.codeIn K cd18 "look_at_picture" = true) (i18 : PySem.W.keepIn K (.ref f18) = true)
    (a19 : PySem.W.nsIn K mainGlobals "look_at_position" = some (some (.ref f19))) (l19 : K.lookup f19 = some ⟨oc19, od19, .func (PySem.W.fnOf "look_at_position" "look_at_position" (defArgs s_look_at_position) (defBody s_look_at_position) (defScope s_look_at_position) .none kV19 dc19 pm19 an19 cd19 ct19), sl19⟩) (c19 : PySem.W.codeIn K cd19 "look_at_position" = true) (i19 : PySem.W.keepIn K (.ref f19) = true)
    (a20 : PySem.W.nsIn K mainGlobals "moved" = some (some (.ref f20))) (l20 : K.lookup f20 = some ⟨oc20, od20, .func (PySem.W.fnOf "moved" "moved" (defArgs s_moved) (defBody s_moved) (defScope s_moved) .none kV20 dc20 pm20 an20 cd20 ct20), sl20⟩) (c20 : PySem.W.codeIn K cd20 "moved" = true) (i20 : PySem.W.keepIn K (.ref f20) = true)
    (a21 : PySem.W.nsIn K mainGlobals "keeps" = some (some (.ref f21))) (l21 : K.lookup f21 = some ⟨oc21, od21, .func (PySem.W.fnOf "keeps" "keeps" (defArgs s_keeps) (defBody s_keeps) (defScope s_keeps) .none kV21 dc21 pm21 an21 cd21 ct21), sl21⟩) (c21 : PySem.W.codeIn K cd21 "keeps" = true) (i21 : PySem.W.keepIn K (.ref f21) = true)
    (a22 : PySem.W.nsIn K mainGlobals "marks_with" = some (some (.ref f22))) (l22 : K.lookup f22 = some ⟨oc22, od22, .func (PySem.W.fnOf "marks_with" "marks_with" (defArgs s_marks_with) (defBody s_marks_with) (defScope s_marks_with) .none kV22 dc22 pm22 an22 cd22 ct22), sl22⟩) (c22 : PySem.W.codeIn K cd22 "marks_with" = true) (i22 : PySem.W.keepIn K (.ref f22) = true)
    (a23 : PySem.W.nsIn K mainGlobals "code_of" = some (some (.ref f23))) (l23 : K.lookup f23 = some ⟨oc23, od23, .func (PySem.W.fnOf "code_of" "code_of" (defArgs s_code_of) (defBody s_code_of) (defScope s_code_of) .none kV23 dc23 pm23 an23 cd23 ct23), sl23⟩) (c23 : PySem.W.codeIn K cd23 "code_of" = true) (i23 : PySem.W.keepIn K (.ref f23) = true)
    (a24 : PySem.W.nsIn K mainGlobals "frame" = some (some (.ref f24))) (l24 : K.lookup f24 = some ⟨oc24, od24, .func (PySem.W.fnOf "frame" "frame" (defArgs s_frame) (defBody s_frame) (defScope s_frame) .none kV24 dc24 pm24 an24 cd24 ct24), sl24⟩) (c24 : PySem.W.codeIn K cd24 "frame" = true) (i24 : PySem.W.keepIn K (.ref f24) = true)
    (a25 : PySem.W.nsIn K mainGlobals "least_picture" = some (some (.ref f25))) (l25 : K.lookup f25 = some ⟨oc25, od25, .func (PySem.W.fnOf "least_picture" "least_picture" (defArgs s_least_picture) (defBody s_least_picture) (defScope s_least_picture) .none kV25 dc25 pm25 an25 cd25 ct25), sl25⟩) (c25 : PySem.W.codeIn K cd25 "least_picture" = true) (i25 : PySem.W.keepIn K (.ref f25) = true)
    (a26 : PySem.W.nsIn K mainGlobals "look_at_pictures" = some (some (.ref f26))) (l26 : K.lookup f26 = some ⟨oc26, od26, .func (PySem.W.fnOf "look_at_pictures" "look_at_pictures" (defArgs s_look_at_pictures) (defBody s_look_at_pictures) (defScope s_look_at_pictures) .none kV26 dc26 pm26 an26 cd26 ct26), sl26⟩) (c26 : PySem.W.codeIn K cd26 "look_at_pictures" = true) (i26 : PySem.W.keepIn K (.ref f26) = true)
    (a27 : PySem.W.nsIn K mainGlobals "same_picture" = some (some (.ref f27))) (l27 : K.lookup f27 = some ⟨oc27, od27, .func (PySem.W.fnOf "same_picture" "same_picture" (defArgs s_same_picture) (defBody s_same_picture) (defScope s_same_picture) .none kV27 dc27 pm27 an27 cd27 ct27), sl27⟩) (c27 : PySem.W.codeIn K cd27 "same_picture" = true) (i27 : PySem.W.keepIn K (.ref f27) = true)
    (a28 : PySem.W.nsIn K mainGlobals "_law_odd" = some (some (.ref f28))) (l28 : K.lookup f28 = some ⟨oc28, od28, .func (PySem.W.fnOf "_law_odd" "_law_odd" (defArgs s_law_odd) (defBody s_law_odd) (defScope s_law_odd) .none kV28 dc28 pm28 an28 cd28 ct28), sl28⟩) (c28 : PySem.W.codeIn K cd28 "_law_odd" = true) (i28 : PySem.W.keepIn K (.ref f28) = true)
    (a29 : PySem.W.nsIn K mainGlobals "_law_bent" = some (some (.ref f29))) (l29 : K.lookup f29 = some ⟨oc29, od29, .func (PySem.W.fnOf "_law_bent" "_law_bent" (defArgs s_law_bent) (defBody s_law_bent) (defScope s_law_bent) .none kV29 dc29 pm29 an29 cd29 ct29), sl29⟩) (c29 : PySem.W.codeIn K cd29 "_law_bent" = true) (i29 : PySem.W.keepIn K (.ref f29) = true)
    (a30 : PySem.W.nsIn K mainGlobals "_law_is_value_right" = some (some (.ref f30))) (l30 : K.lookup f30 = some ⟨oc30, od30, .func (PySem.W.fnOf "_law_is_value_right" "_law_is_value_right" (defArgs s_law_is_value_right) (defBody s_law_is_value_right) (defScope s_law_is_value_right) .none kV30 dc30 pm30 an30 (.ref cc30) ct30), sl30⟩) (c30 : PySem.W.codeIn K (.ref cc30) "_law_is_value_right" = true) (i30 : PySem.W.keepIn K (.ref f30) = true)
    (lc30 : K.lookup cc30 = some ⟨te30, td30, .fields tv30, ts30⟩) (hv30 : tv30[11]? = some (.ref tp30)) (out30 : K.lookup tp30 = none)
    (a31 : PySem.W.nsIn K mainGlobals "_law_right" = some (some (.ref f31))) (l31 : K.lookup f31 = some ⟨oc31, od31, .func (PySem.W.fnOf "_law_right" "_law_right" (defArgs s_law_right) (defBody s_law_right) (defScope s_law_right) .none kV31 dc31 pm31 an31 (.ref cc31) ct31), sl31⟩) (c31 : PySem.W.codeIn K (.ref cc31) "_law_right" = true) (i31 : PySem.W.keepIn K (.ref f31) = true)
    (lc31 : K.lookup cc31 = some ⟨te31, td31, .fields tv31, ts31⟩) (hv31 : tv31[11]? = some (.ref tp31)) (out31 : K.lookup tp31 = none)
    (a32 : PySem.W.nsIn K mainGlobals "law" = some (some (.ref f32))) (l32 : K.lookup f32 = some ⟨oc32, od32, .func (PySem.W.fnOf "law" "law" (defArgs s_law) (defBody s_law) (defScope s_law) .none kV32 dc32 pm32 an32 cd32 ct32), sl32⟩) (c32 : PySem.W.codeIn K cd32 "law" = true) (i32 : PySem.W.keepIn K (.ref f32) = true)
    (ndT : ([tp30, tp31] : List Addr).Nodup)
    (z_len : PySem.W.nsIn K mainGlobals "len" = some none) (z_range : PySem.W.nsIn K mainGlobals "range" = some none) (z_tuple : PySem.W.nsIn K mainGlobals "tuple" = some none) (z_list : PySem.W.nsIn K mainGlobals "list" = some none) (z_int : PySem.W.nsIn K mainGlobals "int" = some none) (z_abs : PySem.W.nsIn K mainGlobals "abs" = some none) (z_sum : PySem.W.nsIn K mainGlobals "sum" = some none) (z_max : PySem.W.nsIn K mainGlobals "max" = some none) (z_min : PySem.W.nsIn K mainGlobals "min" = some none) (z_all : PySem.W.nsIn K mainGlobals "all" = some none) (z_enumerate : PySem.W.nsIn K mainGlobals "enumerate" = some none) (z_zip : PySem.W.nsIn K mainGlobals "zip" = some none) (z_isinstance : PySem.W.nsIn K mainGlobals "isinstance" = some none) (z_repr : PySem.W.nsIn K mainGlobals "repr" = some none) (z_bool : PySem.W.nsIn K mainGlobals "bool" = some none) (z_set : PySem.W.nsIn K mainGlobals "set" = some none) (z_sorted : PySem.W.nsIn K mainGlobals "sorted" = some none) (z_str : PySem.W.nsIn K mainGlobals "str" = some none)
    (q_most_wide : PySem.W.nsIn K mainGlobals "MOST_WIDE" = some (some (.int 32 t_most_wide))) (q_most_spots : PySem.W.nsIn K mainGlobals "MOST_SPOTS" = some (some (.int 8 t_most_spots))) (q_most_mark : PySem.W.nsIn K mainGlobals "MOST_MARK" = some (some (.int 9 t_most_mark)))
    : ∃ (fd : FuncData) (cs : List (Addr × Addr)), TabH K cs h ∧ (∀ (s : Shared) (v : Value), BindsTo s fd ⟨[v], []⟩ [("script", v)]) ∧ ∀ base : Heap, K.In base → base.Ns mainGlobals mg → (∀ p ∈ cs, LamX.TabB base mg p.1 p.2) → FnG l.prog w K mg base 21 fa fd ["script"] (spLawC K cs) := by
  have e := hfa.symm.trans (PySem.W.mg_of X G a32)
  cases e
  have g_TurnError := PySem.W.mg_of X G gz_TurnError
  have d_law_heard : DefIn K mg "_law_heard" ["call"] s_law_heard := ⟨⟨_, _, fun_mk (st := s_law_heard) l1 c1 i1, PySem.W.mg_of X G a1, (fun_mk (st := s_law_heard) l1 c1 i1).binds (ps := ["call"]) fun _ _ _ _ _ _ us hl => match us, hl with | [_], _ => rfl⟩⟩
  have d_law_pot : DefIn K mg "_law_pot" ["script", "place"] s_law_pot := ⟨⟨_, _, fun_mk (st := s_law_pot) l2 c2 i2, PySem.W.mg_of X G a2, (fun_mk (st := s_law_pot) l2 c2 i2).binds (ps := ["script", "place"]) fun _ _ _ _ _ _ us hl => match us, hl with | [_, _], _ => rfl⟩⟩
  have d_law_take : DefIn K mg "_law_take" ["pot", "upto"] s_law_take := ⟨⟨_, _, fun_mk (st := s_law_take) l3 c3 i3, PySem.W.mg_of X G a3, (fun_mk (st := s_law_take) l3 c3 i3).binds (ps := ["pot", "upto"]) fun _ _ _ _ _ _ us hl => match us, hl with | [_, _], _ => rfl⟩⟩
  have d_law_cells : DefIn K mg "_law_cells" ["script", "most"] s_law_cells := ⟨⟨_, _, fun_mk (st := s_law_cells) l4 c4 i4, PySem.W.mg_of X G a4, (fun_mk (st := s_law_cells) l4 c4 i4).binds (ps := ["script", "most"]) fun _ _ _ _ _ _ us hl => match us, hl with | [_, _], _ => rfl⟩⟩
  have d_law_some : DefIn K mg "_law_some" ["pot", "pool", "many"] s_law_some := ⟨⟨_, _, fun_mk (st := s_law_some) l5 c5 i5, PySem.W.mg_of X G a5, (fun_mk (st := s_law_some) l5 c5 i5).binds (ps := ["pot", "pool", "many"]) fun _ _ _ _ _ _ us hl => match us, hl with | [_, _, _], _ => rfl⟩⟩
  have d_law_position_drawn : DefIn K mg "_law_position_drawn" ["pot", "many"] s_law_position_drawn := ⟨⟨_, _, fun_mk (st := s_law_position_drawn) l6 c6 i6, PySem.W.mg_of X G a6, (fun_mk (st := s_law_position_drawn) l6 c6 i6).binds (ps := ["pot", "many"]) fun _ _ _ _ _ _ us hl => match us, hl with | [_, _], _ => rfl⟩⟩
  have d_law_of : DefIn K mg "_law_of" ["pot", "some"] s_law_of := ⟨⟨_, _, fun_mk (st := s_law_of) l7 c7 i7, PySem.W.mg_of X G a7, (fun_mk (st := s_law_of) l7 c7 i7).binds (ps := ["pot", "some"]) fun _ _ _ _ _ _ us hl => match us, hl with | [_, _], _ => rfl⟩⟩
  have d_law_picture_drawn : DefIn K mg "_law_picture_drawn" ["pot", "most"] s_law_picture_drawn := ⟨⟨_, _, fun_mk (st := s_law_picture_drawn) l8 c8 i8, PySem.W.mg_of X G a8, (fun_mk (st := s_law_picture_drawn) l8 c8 i8).binds (ps := ["pot", "most"]) fun _ _ _ _ _ _ us hl => match us, hl with | [_, _], _ => rfl⟩⟩
  have d_told_moved : DefIn K mg "told_moved" ["picture", "position"] s_told_moved := ⟨⟨_, _, fun_mk (st := s_told_moved) l9 c9 i9, PySem.W.mg_of X G a9, (fun_mk (st := s_told_moved) l9 c9 i9).binds (ps := ["picture", "position"]) fun _ _ _ _ _ _ us hl => match us, hl with | [_, _], _ => rfl⟩⟩
  have d_law_moved : DefIn K mg "_law_moved" ["picture", "position"] s_law_moved := ⟨⟨_, _, fun_mk (st := s_law_moved) l10 c10 i10, PySem.W.mg_of X G a10, (fun_mk (st := s_law_moved) l10 c10 i10).binds (ps := ["picture", "position"]) fun _ _ _ _ _ _ us hl => match us, hl with | [_, _], _ => rfl⟩⟩
  have d_law_code : DefIn K mg "_law_code" ["picture"] s_law_code := ⟨⟨_, _, fun_mk (st := s_law_code) l11 c11 i11, PySem.W.mg_of X G a11, (fun_mk (st := s_law_code) l11 c11 i11).binds (ps := ["picture"]) fun _ _ _ _ _ _ us hl => match us, hl with | [_], _ => rfl⟩⟩
  have d_is_int : DefIn K mg "is_int" ["value", "low", "high"] s_is_int := ⟨⟨_, _, fun_mk (st := s_is_int) l12 c12 i12, PySem.W.mg_of X G a12, (fun_mk (st := s_is_int) l12 c12 i12).binds (ps := ["value", "low", "high"]) fun _ _ _ _ _ _ us hl => match us, hl with | [_, _, _], _ => rfl⟩⟩
  have d_is_position_of : DefIn K mg "is_position_of" ["many", "value"] s_is_position_of := ⟨⟨_, _, fun_mk (st := s_is_position_of) l13 c13 i13, PySem.W.mg_of X G a13, (fun_mk (st := s_is_position_of) l13 c13 i13).binds (ps := ["many", "value"]) fun _ _ _ _ _ _ us hl => match us, hl with | [_, _], _ => rfl⟩⟩
  have d_is_picture : DefIn K mg "is_picture" ["value"] s_is_picture := ⟨⟨_, _, fun_mk (st := s_is_picture) l14 c14 i14, PySem.W.mg_of X G a14, (fun_mk (st := s_is_picture) l14 c14 i14).binds (ps := ["value"]) fun _ _ _ _ _ _ us hl => match us, hl with | [_], _ => rfl⟩⟩
  have d_law_is_int : DefIn K mg "_law_is_int" ["value", "low", "high"] s_law_is_int := ⟨⟨_, _, fun_mk (st := s_law_is_int) l15 c15 i15, PySem.W.mg_of X G a15, (fun_mk (st := s_law_is_int) l15 c15 i15).binds (ps := ["value", "low", "high"]) fun _ _ _ _ _ _ us hl => match us, hl with | [_, _, _], _ => rfl⟩⟩
  have d_law_is_picture : DefIn K mg "_law_is_picture" ["value"] s_law_is_picture := ⟨⟨_, _, fun_mk (st := s_law_is_picture) l16 c16 i16, PySem.W.mg_of X G a16, (fun_mk (st := s_law_is_picture) l16 c16 i16).binds (ps := ["value"]) fun _ _ _ _ _ _ us hl => match us, hl with | [_], _ => rfl⟩⟩
  have d_law_is_bool : DefIn K mg "_law_is_bool" ["told", "due"] s_law_is_bool := ⟨⟨_, _, fun_mk (st := s_law_is_bool) l17 c17 i17, PySem.W.mg_of X G a17, (fun_mk (st := s_law_is_bool) l17 c17 i17).binds (ps := ["told", "due"]) fun _ _ _ _ _ _ us hl => match us, hl with | [_, _], _ => rfl⟩⟩
  have d_look_at_picture : DefIn K mg "look_at_picture" ["picture"] s_look_at_picture := ⟨⟨_, _, fun_mk (st := s_look_at_picture) l18 c18 i18, PySem.W.mg_of X G a18, (fun_mk (st := s_look_at_picture) l18 c18 i18).binds (ps := ["picture"]) fun _ _ _ _ _ _ us hl => match us, hl with | [_], _ => rfl⟩⟩
  have d_look_at_position : DefIn K mg "look_at_position" ["position"] s_look_at_position := ⟨⟨_, _, fun_mk (st := s_look_at_position) l19 c19 i19, PySem.W.mg_of X G a19, (fun_mk (st := s_look_at_position) l19 c19 i19).binds (ps := ["position"]) fun _ _ _ _ _ _ us hl => match us, hl with | [_], _ => rfl⟩⟩
  have d_moved : DefIn K mg "moved" ["picture", "position"] s_moved := ⟨⟨_, _, fun_mk (st := s_moved) l20 c20 i20, PySem.W.mg_of X G a20, (fun_mk (st := s_moved) l20 c20 i20).binds (ps := ["picture", "position"]) fun _ _ _ _ _ _ us hl => match us, hl with | [_, _], _ => rfl⟩⟩
  have d_keeps : DefIn K mg "keeps" ["picture", "position"] s_keeps := ⟨⟨_, _, fun_mk (st := s_keeps) l21 c21 i21, PySem.W.mg_of X G a21, (fun_mk (st := s_keeps) l21 c21 i21).binds (ps := ["picture", "position"]) fun _ _ _ _ _ _ us hl => match us, hl with | [_, _], _ => rfl⟩⟩
  have d_marks_with : DefIn K mg "marks_with" ["picture", "chosen", "place"] s_marks_with := ⟨⟨_, _, fun_mk (st := s_marks_with) l22 c22 i22, PySem.W.mg_of X G a22, (fun_mk (st := s_marks_with) l22 c22 i22).binds (ps := ["picture", "chosen", "place"]) fun _ _ _ _ _ _ us hl => match us, hl with | [_, _, _], _ => rfl⟩⟩
  have d_code_of : DefIn K mg "code_of" ["picture"] s_code_of := ⟨⟨_, _, fun_mk (st := s_code_of) l23 c23 i23, PySem.W.mg_of X G a23, (fun_mk (st := s_code_of) l23 c23 i23).binds (ps := ["picture"]) fun _ _ _ _ _ _ us hl => match us, hl with | [_], _ => rfl⟩⟩
  have d_frame : DefIn K mg "frame" ["picture"] s_frame := ⟨⟨_, _, fun_mk (st := s_frame) l24 c24 i24, PySem.W.mg_of X G a24, (fun_mk (st := s_frame) l24 c24 i24).binds (ps := ["picture"]) fun _ _ _ _ _ _ us hl => match us, hl with | [_], _ => rfl⟩⟩
  have d_least_picture : DefIn K mg "least_picture" ["picture"] s_least_picture := ⟨⟨_, _, fun_mk (st := s_least_picture) l25 c25 i25, PySem.W.mg_of X G a25, (fun_mk (st := s_least_picture) l25 c25 i25).binds (ps := ["picture"]) fun _ _ _ _ _ _ us hl => match us, hl with | [_], _ => rfl⟩⟩
  have d_look_at_pictures : DefIn K mg "look_at_pictures" ["one", "other"] s_look_at_pictures := ⟨⟨_, _, fun_mk (st := s_look_at_pictures) l26 c26 i26, PySem.W.mg_of X G a26, (fun_mk (st := s_look_at_pictures) l26 c26 i26).binds (ps := ["one", "other"]) fun _ _ _ _ _ _ us hl => match us, hl with | [_, _], _ => rfl⟩⟩
  have d_same_picture : DefIn K mg "same_picture" ["one", "other"] s_same_picture := ⟨⟨_, _, fun_mk (st := s_same_picture) l27 c27 i27, PySem.W.mg_of X G a27, (fun_mk (st := s_same_picture) l27 c27 i27).binds (ps := ["one", "other"]) fun _ _ _ _ _ _ us hl => match us, hl with | [_, _], _ => rfl⟩⟩
  have d_law_odd : DefIn K mg "_law_odd" ["pot"] s_law_odd := ⟨⟨_, _, fun_mk (st := s_law_odd) l28 c28 i28, PySem.W.mg_of X G a28, (fun_mk (st := s_law_odd) l28 c28 i28).binds (ps := ["pot"]) fun _ _ _ _ _ _ us hl => match us, hl with | [_], _ => rfl⟩⟩
  have d_law_bent : DefIn K mg "_law_bent" ["pot", "value"] s_law_bent := ⟨⟨_, _, fun_mk (st := s_law_bent) l29 c29 i29, PySem.W.mg_of X G a29, (fun_mk (st := s_law_bent) l29 c29 i29).binds (ps := ["pot", "value"]) fun _ _ _ _ _ _ us hl => match us, hl with | [_, _], _ => rfl⟩⟩
  have d_law_is_value_right : DefIn K mg "_law_is_value_right" ["value"] s_law_is_value_right := ⟨⟨_, _, fun_mk (st := s_law_is_value_right) l30 c30 i30, PySem.W.mg_of X G a30, (fun_mk (st := s_law_is_value_right) l30 c30 i30).binds (ps := ["value"]) fun _ _ _ _ _ _ us hl => match us, hl with | [_], _ => rfl⟩⟩
  have d_law_right : DefIn K mg "_law_right" ["pot"] s_law_right := ⟨⟨_, _, fun_mk (st := s_law_right) l31 c31 i31, PySem.W.mg_of X G a31, (fun_mk (st := s_law_right) l31 c31 i31).binds (ps := ["pot"]) fun _ _ _ _ _ _ us hl => match us, hl with | [_], _ => rfl⟩⟩
  have d_law : DefIn K mg "law" ["script"] s_law := ⟨⟨_, _, fun_mk (st := s_law) l32 c32 i32, PySem.W.mg_of X G a32, (fun_mk (st := s_law) l32 c32 i32).binds (ps := ["script"]) fun _ _ _ _ _ _ us hl => match us, hl with | [_], _ => rfl⟩⟩
  have B : Bt mg := { len := PySem.W.mg_none_of X G z_len, range := PySem.W.mg_none_of X G z_range, tuple := PySem.W.mg_none_of X G z_tuple, list := PySem.W.mg_none_of X G z_list, int := PySem.W.mg_none_of X G z_int, abs := PySem.W.mg_none_of X G z_abs, sum := PySem.W.mg_none_of X G z_sum, max := PySem.W.mg_none_of X G z_max, min := PySem.W.mg_none_of X G z_min, all := PySem.W.mg_none_of X G z_all, enumerate := PySem.W.mg_none_of X G z_enumerate, zip := PySem.W.mg_none_of X G z_zip, isinstance := PySem.W.mg_none_of X G z_isinstance, repr := PySem.W.mg_none_of X G z_repr, bool := PySem.W.mg_none_of X G z_bool, set := PySem.W.mg_none_of X G z_set, sorted := PySem.W.mg_none_of X G z_sorted, str := PySem.W.mg_none_of X G z_str }
  have C : Cs mg := ⟨⟨_, PySem.W.mg_of X G q_most_wide⟩, ⟨_, PySem.W.mg_of X G q_most_spots⟩, ⟨_, PySem.W.mg_of X G q_most_mark⟩⟩
  obtain ⟨em30, hd30⟩ := tabH_of X (tabs "_law_is_value_right" (by simp)) (PySem.W.mg_of X G a30) l30 rfl lc30 hv30
  obtain ⟨em31, hd31⟩ := tabH_of X (tabs "_law_right" (by simp)) (PySem.W.mg_of X G a31) l31 rfl lc31 hv31
  refine ⟨PySem.W.fnOf "law" "law" (defArgs s_law) (defBody s_law) (defScope s_law) .none kV32 dc32 pm32 an32 cd32 ct32, [(cc30, tp30), (cc31, tp31)], ⟨(by
    intro p hp
    simp only [List.mem_cons, List.not_mem_nil, or_false] at hp
    rcases hp with rfl | rfl
    · exact em30
    · exact em31), (by
    intro p hp
    simp only [List.mem_cons, List.not_mem_nil, or_false] at hp
    rcases hp with rfl | rfl
    · exact hd30
    · exact hd31), (by
    intro p hp
    simp only [List.mem_cons, List.not_mem_nil, or_false] at hp
    rcases hp with rfl | rfl
    · exact out30
    · exact out31)⟩, fun s v => .of_eq rfl, fun base _ _ TBs => ?_⟩
  have tf_law_is_value_right : TabF K base mg "_law_is_value_right" s_law_is_value_right tp30 := fun f fd F g => by
    have eg := g.symm.trans (PySem.W.mg_of X G a30)
    cases eg
    have ed := fun_uniq F (fun_mk (st := s_law_is_value_right) l30 c30 i30)
    subst ed
    exact ⟨cc30, rfl, TBs (cc30, tp30) (by simp)⟩
  have tt_law_is_value_right : TabT ([(tp30, ("_law_is_value_right.<locals>.<lambda>" : Str)), (tp31, ("_law_right.<locals>.<lambda>" : Str))] : List (Addr × Str)) tp30 "_law_is_value_right.<locals>.<lambda>" := tabT_of ndT (by simp)
  have tf_law_right : TabF K base mg "_law_right" s_law_right tp31 := fun f fd F g => by
    have eg := g.symm.trans (PySem.W.mg_of X G a31)
    cases eg
    have ed := fun_uniq F (fun_mk (st := s_law_right) l31 c31 i31)
    subst ed
    exact ⟨cc31, rfl, TBs (cc31, tp31) (by simp)⟩
  have tt_law_right : TabT ([(tp30, ("_law_is_value_right.<locals>.<lambda>" : Str)), (tp31, ("_law_right.<locals>.<lambda>" : Str))] : List (Addr × Str)) tp31 "_law_right.<locals>.<lambda>" := tabT_of ndT (by simp)
  have o_BadPosition : Okq l.prog w K mg base "BadPosition" 1 C_BadPosition C_TurnError := okq_of (PySem.W.mg_of X G gz_BadPosition) ⟨⟨⟨_, _, _, _, _, _, _, _, _, _, _, _, _, _, _, cl_BadPosition, rb_BadPosition⟩, sa_BadPosition, sx_BadPosition, ty_BadPosition, kp_BadPosition⟩, mr_BadPosition, su_BadPosition, ve_BadPosition, va_BadPosition⟩ iC_BadPosition tI bI (turn_ok lkI cdeI hpI haI lcI hvI hfI clcI hDI (PySem.W.mg_none_of X G zsI) htI hyI hevI)
  have g_BadPosition := PySem.W.mg_of X G gz_BadPosition
  have x_BadPosition : BadC K C_BadPosition C_TurnError := ⟨⟨⟨ga_BadPosition, gg_BadPosition, sx_BadPosition, hd_BadPosition⟩, ic_BadPosition, ha_BadPosition, hn_BadPosition, ht_BadPosition, hm_BadPosition⟩, ki_BadPosition, em_BadPosition, va_BadPosition⟩
  have o_Unlike : Okq l.prog w K mg base "Unlike" 1 C_Unlike C_TurnError := okq_of (PySem.W.mg_of X G gz_Unlike) ⟨⟨⟨_, _, _, _, _, _, _, _, _, _, _, _, _, _, _, cl_Unlike, rb_Unlike⟩, sa_Unlike, sx_Unlike, ty_Unlike, kp_Unlike⟩, mr_Unlike, su_Unlike, ve_Unlike, va_Unlike⟩ iC_Unlike tI bI (turn_ok lkI cdeI hpI haI lcI hvI hfI clcI hDI (PySem.W.mg_none_of X G zsI) htI hyI hevI)
  have g_Unlike := PySem.W.mg_of X G gz_Unlike
  have x_Unlike : BadC K C_Unlike C_TurnError := ⟨⟨⟨ga_Unlike, gg_Unlike, sx_Unlike, hd_Unlike⟩, ic_Unlike, ha_Unlike, hn_Unlike, ht_Unlike, hm_Unlike⟩, ki_Unlike, em_Unlike, va_Unlike⟩
  have o_BadPicture : Okq l.prog w K mg base "BadPicture" 1 C_BadPicture C_TurnError := okq_of (PySem.W.mg_of X G gz_BadPicture) ⟨⟨⟨_, _, _, _, _, _, _, _, _, _, _, _, _, _, _, cl_BadPicture, rb_BadPicture⟩, sa_BadPicture, sx_BadPicture, ty_BadPicture, kp_BadPicture⟩, mr_BadPicture, su_BadPicture, ve_BadPicture, va_BadPicture⟩ iC_BadPicture tI bI (turn_ok lkI cdeI hpI haI lcI hvI hfI clcI hDI (PySem.W.mg_none_of X G zsI) htI hyI hevI)
  have g_BadPicture := PySem.W.mg_of X G gz_BadPicture
  have x_BadPicture : BadC K C_BadPicture C_TurnError := ⟨⟨⟨ga_BadPicture, gg_BadPicture, sx_BadPicture, hd_BadPicture⟩, ic_BadPicture, ha_BadPicture, hn_BadPicture, ht_BadPicture, hm_BadPicture⟩, ki_BadPicture, em_BadPicture, va_BadPicture⟩
  have o_law_pot := ok_pot (P := l.prog) (w := w) (base := base) B d_law_pot
  have o_law_take := ok_take (P := l.prog) (w := w) (base := base) B d_law_take
  have o2_law_take := ok_takeX (P := l.prog) (w := w) (base := base) B d_law_take
  have o_law_cells := ok_cells (P := l.prog) (w := w) (base := base) B d_law_cells
  have o_law_some := ok_some (P := l.prog) (w := w) (base := base) B o_law_take d_law_some
  have o_law_position_drawn := ok_posnF (P := l.prog) (w := w) (base := base) B o_law_take o_law_some d_law_position_drawn
  have o_law_of := ok_of (P := l.prog) (w := w) (base := base) B o2_law_take d_law_of
  have o2_law_of := ok_ofX (P := l.prog) (w := w) (base := base) B o2_law_take d_law_of
  have o_law_picture_drawn := ok_pic (P := l.prog) (w := w) (base := base) B o_law_take d_law_picture_drawn
  have o_told_moved := ok_told_moved (P := l.prog) (w := w) (base := base) B d_told_moved
  have o_law_moved := ok_law_moved (P := l.prog) (w := w) (base := base) B d_law_moved
  have o_law_code := ok_law_code (P := l.prog) (w := w) (base := base) B d_law_code
  have o_is_int := ok_is_int (P := l.prog) (w := w) (base := base) B d_is_int
  have o2_is_int := ok_is_intG (P := l.prog) (w := w) (base := base) B d_is_int
  have o_is_position_of := ok_is_position_of (P := l.prog) (w := w) (base := base) B o2_is_int d_is_position_of
  have o_is_picture := ok_is_picture (P := l.prog) (w := w) (base := base) B C o2_is_int d_is_picture
  have o_law_is_int := ok_law_is_intG (P := l.prog) (w := w) (base := base) B d_law_is_int
  have o_law_is_picture := ok_law_is_picture (P := l.prog) (w := w) (base := base) B o_law_is_int d_law_is_picture
  have o_law_is_bool := ok_bool2 (P := l.prog) (w := w) (base := base) B d_law_is_bool
  have ox_look_at_picture := ok_look_at_picture (P := l.prog) (w := w) (base := base) B o_is_picture o_BadPicture d_look_at_picture
  have o_look_at_picture := ox_look_at_picture.d
  have ox_look_at_position := ok_look_at_position (P := l.prog) (w := w) (base := base) B C o_is_position_of o_BadPosition d_look_at_position
  have o_look_at_position := ox_look_at_position.d
  have ox_moved := ok_moved (P := l.prog) (w := w) (base := base) B ox_look_at_picture ox_look_at_position o_Unlike o_told_moved d_moved
  have o_moved := ox_moved.d
  have ox_keeps := ok_keeps (P := l.prog) (w := w) (base := base) B ox_moved d_keeps
  have o_keeps := ox_keeps.d
  have o_marks_with := ok_marks_with (P := l.prog) (w := w) (base := base) B d_marks_with
  have ox_code_of := ok_code_of (P := l.prog) (w := w) (base := base) B ox_look_at_picture o_marks_with d_code_of
  have o_code_of := ox_code_of.d
  have ox_frame := ok_frame (P := l.prog) (w := w) (base := base) B ox_look_at_picture d_frame
  have o_frame := ox_frame.d
  have ox_least_picture := ok_least_picture (P := l.prog) (w := w) (base := base) B ox_look_at_picture d_least_picture
  have o_least_picture := ox_least_picture.d
  have ox_look_at_pictures := ok_look_at_pictures (P := l.prog) (w := w) (base := base) B ox_look_at_picture o_Unlike d_look_at_pictures
  have o_look_at_pictures := ox_look_at_pictures.d
  have ox_same_picture := ok_same_picture (P := l.prog) (w := w) (base := base) B ox_look_at_pictures d_same_picture
  have o_same_picture := ox_same_picture.d
  have o_law_odd := ok_law_odd (P := l.prog) (w := w) (base := base) B o2_law_of d_law_odd
  have o_law_bent := ok_law_bent (P := l.prog) (w := w) (base := base) B o_law_take o_law_of o_law_odd d_law_bent
  have o_law_is_value_right := ok_law_is_value_right (P := l.prog) (w := w) (base := base) B tf_law_is_value_right tt_law_is_value_right d_law_heard g_TurnError g_BadPicture x_BadPicture o_law_is_picture o_is_picture o_law_is_bool ox_moved ox_keeps ox_code_of ox_frame ox_least_picture ox_same_picture d_law_is_value_right
  have o_law_right := ok_law_right (P := l.prog) (w := w) (base := base) B tf_law_right tt_law_right d_law_heard g_TurnError g_BadPosition x_BadPosition g_Unlike x_Unlike o_law_picture_drawn o_law_position_drawn o_law_moved o_law_code ox_moved ox_keeps ox_code_of ox_same_picture o_law_is_bool o_law_bent o_law_odd o_law_of o_law_is_value_right d_law_right
  have o_law := ok_law (P := l.prog) (w := w) (base := base) B o_law_pot o_law_cells o_law_right d_law
  obtain ⟨f, fd, g, F, _, FG⟩ := o_law
  have ef := g.symm.trans (PySem.W.mg_of X G a32)
  cases ef
  have ed := fun_uniq F (fun_mk (st := s_law) l32 c32 i32)
  subst ed
  exact FG.imp fun vs H Q E ⟨a, ns, h1, h2, h3, h4, h5⟩ => ⟨a, ns, h1, h2, h3, tabs_nil (T := [(tp30, ("_law_is_value_right.<locals>.<lambda>" : Str)), (tp31, ("_law_right.<locals>.<lambda>" : Str))]) rfl h4, h5⟩
end WT
open PySem PySem.W PyProof.Rows in
set_option maxHeartbeats 0 in
theorem PySem.Challenge.cw_whicheverturning_k12_pictures_looked_at_holds : PySem.Challenge.rw_whicheverturning_k12_pictures_looked_at.Holds := by
  w_on; o_law; k_head; (case hw => w_witness2)
  k_fill
  refine WT.walkGT (l := PySem.Challenge.rw_whicheverturning_k12_pictures_looked_at) (n := 63) (k := 21) (x := "script") (sp := WT.spLawC) ["_law_is_value_right", "_law_right"] rfl (by decide) rfl ⟨rfl, by decide, by decide⟩ (by kernel_rfl) (fun w h Y => PySem.W.km_in_of Y) ?F (fun _ _ _ a ns hl hT hS => ⟨a, ns, rfl, hS, hl, hT, fun _ => rfl⟩)
  case F =>
    intro w mg fa h KX G hmg tabs
    refine' WT.all_mk KX G hmg tabs ?gz_TurnError ?gz_BadPosition ?cl_BadPosition ?rb_BadPosition ?sa_BadPosition ?sx_BadPosition ?ty_BadPosition ?kp_BadPosition ?mr_BadPosition ?su_BadPosition ?ve_BadPosition ?va_BadPosition ?ga_BadPosition ?gg_BadPosition ?hd_BadPosition ?ic_BadPosition ?ha_BadPosition ?hn_BadPosition ?ht_BadPosition ?hm_BadPosition ?ki_BadPosition ?em_BadPosition ?iC_BadPosition ?tI ?lkI ?cdeI ?hpI ?haI ?lcI ?hvI ?hfI ?clcI ?hDI ?zsI ?htI ?hyI ?hevI ?bI ?gz_Unlike ?cl_Unlike ?rb_Unlike ?sa_Unlike ?sx_Unlike ?ty_Unlike ?kp_Unlike ?mr_Unlike ?su_Unlike ?ve_Unlike ?va_Unlike ?ga_Unlike ?gg_Unlike ?hd_Unlike ?ic_Unlike ?ha_Unlike ?hn_Unlike ?ht_Unlike ?hm_Unlike ?ki_Unlike ?em_Unlike ?iC_Unlike ?gz_BadPicture ?cl_BadPicture ?rb_BadPicture ?sa_BadPicture ?sx_BadPicture ?ty_BadPicture ?kp_BadPicture ?mr_BadPicture ?su_BadPicture ?ve_BadPicture ?va_BadPicture ?ga_BadPicture ?gg_BadPicture ?hd_BadPicture ?ic_BadPicture ?ha_BadPicture ?hn_BadPicture ?ht_BadPicture ?hm_BadPicture ?ki_BadPicture ?em_BadPicture ?iC_BadPicture ?a1 ?l1 ?c1 ?i1 ?a2 ?l2 ?c2 ?i2 ?a3 ?l3 ?c3 ?i3 ?a4 ?l4 ?c4 ?i4 ?a5 ?l5 ?c5 ?i5 ?a6 ?l6 ?c6 ?i6 ?a7 ?l7 ?c7 ?i7 ?a8 ?l8 ?c8 ?i8 ?a9 ?l9 ?c9 ?i9 ?a10 ?l10 ?c10 ?i10 ?a11 ?l11 ?c11 ?i11 ?a12 ?l12 ?c12 ?i12 ?a13 ?l13 ?c13 ?i13 ?a14 ?l14 ?c14 ?i14 ?a15 ?l15 ?c15 ?i15 ?a16 ?l16 ?c16 ?i16 ?a17 ?l17 ?c17 ?i17 ?a18 ?l18 ?c18 ?i18 ?a19 ?l19 ?c19 ?i19 ?a20 ?l20 ?c20 ?i20 ?a21 ?l21 ?c21 ?i21 ?a22 ?l22 ?c22 ?i22 ?a23 ?l23 ?c23 ?i23 ?a24 ?l24 ?c24 ?i24 ?a25 ?l25 ?c25 ?i25 ?a26 ?l26 ?c26 ?i26 ?a27 ?l27 ?c27 ?i27 ?a28 ?l28 ?c28 ?i28 ?a29 ?l29 ?c29 ?i29 ?a30 ?l30 ?c30 ?i30 ?lc30 ?hv30 ?out30 ?a31 ?l31 ?c31 ?i31 ?lc31 ?hv31 ?out31 ?a32 ?l32 ?c32 ?i32 ?ndT ?z_len ?z_range ?z_tuple ?z_list ?z_int ?z_abs ?z_sum ?z_max ?z_min ?z_all ?z_enumerate ?z_zip ?z_isinstance ?z_repr ?z_bool ?z_set ?z_sorted ?z_str ?q_most_wide ?q_most_spots ?q_most_mark
    (case gz_TurnError => k_is)
    (case gz_BadPosition => k_is)
    (case cl_BadPosition => k_is)
    (case rb_BadPosition => rfl)
    (case sa_BadPosition => k_is)
    (case sx_BadPosition => k_is)
    (case ty_BadPosition => k_is)
    (case kp_BadPosition => k_is)
    (case mr_BadPosition => k_is)
    (case su_BadPosition => kernel_rfl)
    (case ve_BadPosition => k_is)
    (case va_BadPosition => k_is)
    (case ga_BadPosition => k_is)
    (case gg_BadPosition => k_is)
    (case hd_BadPosition => k_is)
    (case ic_BadPosition => k_is)
    (case ha_BadPosition => k_is)
    (case hn_BadPosition => k_is)
    (case ht_BadPosition => k_is)
    (case hm_BadPosition => k_is)
    (case ki_BadPosition => kernel_rfl)
    (case em_BadPosition => kernel_rfl)
    (case iC_BadPosition => k_is)
    (case tI => k_is)
    (case lkI => k_is)
    (case cdeI => k_is)
    (case hpI => rfl)
    (case haI => rfl)
    (case lcI => k_is)
    (case hvI => rfl)
    (case hfI => rfl)
    (case clcI => k_is)
    (case hDI => k_is)
    (case zsI => k_is)
    (case htI => rfl)
    (case hyI => k_is)
    (case hevI => exact fun env => ⟨_, rfl⟩)
    (case bI => exact .all fun us hl => match us, hl with | [_, _], _ => rfl)
    (case gz_Unlike => k_is)
    (case cl_Unlike => k_is)
    (case rb_Unlike => rfl)
    (case sa_Unlike => k_is)
    (case sx_Unlike => k_is)
    (case ty_Unlike => k_is)
    (case kp_Unlike => k_is)
    (case mr_Unlike => k_is)
    (case su_Unlike => kernel_rfl)
    (case ve_Unlike => k_is)
    (case va_Unlike => k_is)
    (case ga_Unlike => k_is)
    (case gg_Unlike => k_is)
    (case hd_Unlike => k_is)
    (case ic_Unlike => k_is)
    (case ha_Unlike => k_is)
    (case hn_Unlike => k_is)
    (case ht_Unlike => k_is)
    (case hm_Unlike => k_is)
    (case ki_Unlike => kernel_rfl)
    (case em_Unlike => kernel_rfl)
    (case iC_Unlike => k_is)
    (case gz_BadPicture => k_is)
    (case cl_BadPicture => k_is)
    (case rb_BadPicture => rfl)
    (case sa_BadPicture => k_is)
    (case sx_BadPicture => k_is)
    (case ty_BadPicture => k_is)
    (case kp_BadPicture => k_is)
    (case mr_BadPicture => k_is)
    (case su_BadPicture => kernel_rfl)
    (case ve_BadPicture => k_is)
    (case va_BadPicture => k_is)
    (case ga_BadPicture => k_is)
    (case gg_BadPicture => k_is)
    (case hd_BadPicture => k_is)
    (case ic_BadPicture => k_is)
    (case ha_BadPicture => k_is)
    (case hn_BadPicture => k_is)
    (case ht_BadPicture => k_is)
    (case hm_BadPicture => k_is)
    (case ki_BadPicture => kernel_rfl)
    (case em_BadPicture => kernel_rfl)
    (case iC_BadPicture => k_is)
    (case a1 => k_is)
    (case l1 => k_is)
    (case c1 => k_is)
    (case i1 => k_is)
    (case a2 => k_is)
    (case l2 => k_is)
    (case c2 => k_is)
    (case i2 => k_is)
    (case a3 => k_is)
    (case l3 => k_is)
    (case c3 => k_is)
    (case i3 => k_is)
    (case a4 => k_is)
    (case l4 => k_is)
    (case c4 => k_is)
    (case i4 => k_is)
    (case a5 => k_is)
    (case l5 => k_is)
    (case c5 => k_is)
    (case i5 => k_is)
    (case a6 => k_is)
    (case l6 => k_is)
    (case c6 => k_is)
    (case i6 => k_is)
    (case a7 => k_is)
    (case l7 => k_is)
    (case c7 => k_is)
    (case i7 => k_is)
    (case a8 => k_is)
    (case l8 => k_is)
    (case c8 => k_is)
    (case i8 => k_is)
    (case a9 => k_is)
    (case l9 => k_is)
    (case c9 => k_is)
    (case i9 => k_is)
    (case a10 => k_is)
    (case l10 => k_is)
    (case c10 => k_is)
    (case i10 => k_is)
    (case a11 => k_is)
    (case l11 => k_is)
    (case c11 => k_is)
    (case i11 => k_is)
    (case a12 => k_is)
    (case l12 => k_is)
    (case c12 => k_is)
    (case i12 => k_is)
    (case a13 => k_is)
    (case l13 => k_is)
    (case c13 => k_is)
    (case i13 => k_is)
    (case a14 => k_is)
    (case l14 => k_is)
    (case c14 => k_is)
    (case i14 => k_is)
    (case a15 => k_is)
    (case l15 => k_is)
    (case c15 => k_is)
    (case i15 => k_is)
    (case a16 => k_is)
    (case l16 => k_is)
    (case c16 => k_is)
    (case i16 => k_is)
    (case a17 => k_is)
    (case l17 => k_is)
    (case c17 => k_is)
    (case i17 => k_is)
    (case a18 => k_is)
    (case l18 => k_is)
    (case c18 => k_is)
    (case i18 => k_is)
    (case a19 => k_is)
    (case l19 => k_is)
    (case c19 => k_is)
    (case i19 => k_is)
    (case a20 => k_is)
    (case l20 => k_is)
    (case c20 => k_is)
    (case i20 => k_is)
    (case a21 => k_is)
    (case l21 => k_is)
    (case c21 => k_is)
    (case i21 => k_is)
    (case a22 => k_is)
    (case l22 => k_is)
    (case c22 => k_is)
    (case i22 => k_is)
    (case a23 => k_is)
    (case l23 => k_is)
    (case c23 => k_is)
    (case i23 => k_is)
    (case a24 => k_is)
    (case l24 => k_is)
    (case c24 => k_is)
    (case i24 => k_is)
    (case a25 => k_is)
    (case l25 => k_is)
    (case c25 => k_is)
    (case i25 => k_is)
    (case a26 => k_is)
    (case l26 => k_is)
    (case c26 => k_is)
    (case i26 => k_is)
    (case a27 => k_is)
    (case l27 => k_is)
    (case c27 => k_is)
    (case i27 => k_is)
    (case a28 => k_is)
    (case l28 => k_is)
    (case c28 => k_is)
    (case i28 => k_is)
    (case a29 => k_is)
    (case l29 => k_is)
    (case c29 => k_is)
    (case i29 => k_is)
    (case a30 => k_is)
    (case l30 => k_is)
    (case c30 => k_is)
    (case i30 => k_is)
    (case lc30 => k_is)
    (case hv30 => rfl)
    (case out30 => kernel_rfl)
    (case a31 => k_is)
    (case l31 => k_is)
    (case c31 => k_is)
    (case i31 => k_is)
    (case lc31 => k_is)
    (case hv31 => rfl)
    (case out31 => kernel_rfl)
    (case a32 => k_is)
    (case l32 => k_is)
    (case c32 => k_is)
    (case i32 => k_is)
    (case ndT => decide)
    (case z_len => k_is)
    (case z_range => k_is)
    (case z_tuple => k_is)
    (case z_list => k_is)
    (case z_int => k_is)
    (case z_abs => k_is)
    (case z_sum => k_is)
    (case z_max => k_is)
    (case z_min => k_is)
    (case z_all => k_is)
    (case z_enumerate => k_is)
    (case z_zip => k_is)
    (case z_isinstance => k_is)
    (case z_repr => k_is)
    (case z_bool => k_is)
    (case z_set => k_is)
    (case z_sorted => k_is)
    (case z_str => k_is)
    (case q_most_wide => k_is)
    (case q_most_spots => k_is)
    (case q_most_mark => k_is)
