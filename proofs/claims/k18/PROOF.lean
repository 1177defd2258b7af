import PyProof.Rows.All
import Wide.All
import OpenK.AllK
import Wide.FinOn
import HandS.ForMost
import HandS.ForExc
import HandS.TupMul
import HandS.Deep
import HandS.TupAny
import HandS.TupLe
import HandS.Style
import HandS.IsInst
import HandS.Wide
import HandS.WideBits
import HandS.SortInts
import HandS.Conv
import KE.DataCmp
import KE.DataMinMax
import KE.SortData
import KE.SortCalls
import KE.KSortTup
import PyProof.TupleOfSeq
import HandS.SetFor
import HandS.Dict
import HandS.Ends
import HandS.Codes
import HandS.Defaults
import HandS.HeadEnd
import PyProof.ReprRoads
import PyProof.CallFns
import PyProof.StrLawsRepr
import PyProof.Rows.RegStrFacts
import HandS.List
import HandS.Zip
import KE.GoesEnum
import KE.GoesMore
import HandS.Head0
import HandS.Head1
import HandS.Head2
import HandS.HeadHook1
import HandS.HeadHook2
import HandS.WordsExc
import PyProof.TableCode
import KE.KStateDown
import Lean
import PySem.Challenge.RW_slipfree_k18_whole_sums_of_choices
set_option Elab.async false
set_option linter.all false
set_option maxRecDepth 100000
set_option maxHeartbeats 4000000
namespace Pv
open PySem L2

/-! ### data in the heap -/
def keyD : Key → PyData
  | .inl i => .int i
  | .inr x => .str x
mutual
def Rp (K : PySem.W.Frag) (F : Hp) : PyData → V → Prop
  | .none, v => v = .non
  | .bool b, v => v = .bl b
  | .int i, v => v = .int i
  | .str s, v => v = .str s
  | .list ds, v => ∃ a xs, v = .ref a ∧ SqL K F a xs ∧ RpAll K F ds xs
  | .tuple ds, v => ∃ a xs, v = .ref a ∧ SqT K F a xs ∧ RpAll K F ds xs
  | .dict kvs, v => ∃ a ks, v = .ref a ∧ F a = some (.dK ks) ∧ RpKv K F kvs ks
def RpAll (K : PySem.W.Frag) (F : Hp) : List PyData → List V → Prop
  | [], vs => vs = []
  | d :: ds, vs => ∃ x xs, vs = x :: xs ∧ Rp K F d x ∧ RpAll K F ds xs
/-- a dict: keys ints and texts -/
def RpKv (K : PySem.W.Frag) (F : Hp) : List (PyData × PyData) → List (Key × V) → Prop
  | [], ks => ks = []
  | (k, d) :: kvs, ks => ∃ q x qs, ks = (q, x) :: qs ∧ k = keyD q ∧ Rp K F d x ∧ RpKv K F kvs qs
end

theorem rd_mono {F F' : Hp} {a : Addr} {u : HO} (e : Same F F') (h : Rd F a u) : Rd F' a u := by
  rcases h with h | ⟨o, h⟩
  · exact .inl (e _ _ h)
  · exact .inr ⟨o, e _ _ h⟩
theorem sqL_mono {K : PySem.W.Frag} {F F' : Hp} {a : Addr} {xs : List V} (e : Same F F') (h : SqL K F a xs) : SqL K F' a xs := e.seq h
theorem sqT_mono {K : PySem.W.Frag} {F F' : Hp} {a : Addr} {xs : List V} (e : Same F F') (h : SqT K F a xs) : SqT K F' a xs := by
  rcases h with (h | ⟨o, h⟩) | h
  · exact .inl (.inl (e _ _ h))
  · exact .inl (.inr ⟨o, e _ _ h⟩)
  · exact .inr h
mutual
theorem Rp.mono {K : PySem.W.Frag} {F F' : Hp} (e : Same F F') : ∀ {d : PyData} {v : V}, Rp K F d v → Rp K F' d v
  | .none, _, h => by simpa only [Rp] using h
  | .bool _, _, h => by simpa only [Rp] using h
  | .int _, _, h => by simpa only [Rp] using h
  | .str _, _, h => by simpa only [Rp] using h
  | .list ds, v, h => by
    simp only [Rp] at h ⊢
    obtain ⟨a, xs, e1, q, r⟩ := h
    exact ⟨a, xs, e1, sqL_mono e q, RpAll.mono e r⟩
  | .tuple ds, v, h => by
    simp only [Rp] at h ⊢
    obtain ⟨a, xs, e1, q, r⟩ := h
    exact ⟨a, xs, e1, sqT_mono e q, RpAll.mono e r⟩
  | .dict kvs, v, h => by
    simp only [Rp] at h ⊢
    obtain ⟨a, ks, e1, q, r⟩ := h
    exact ⟨a, ks, e1, e _ _ q, RpKv.mono e r⟩
theorem RpKv.mono {K : PySem.W.Frag} {F F' : Hp} (e : Same F F') : ∀ {ds : List (PyData × PyData)} {vs : List (Key × V)}, RpKv K F ds vs → RpKv K F' ds vs
  | [], _, h => by simpa only [RpKv] using h
  | (k, d) :: ds, vs, h => by
    simp only [RpKv] at h ⊢
    obtain ⟨q, x, qs, e1, e2, r, t⟩ := h
    exact ⟨q, x, qs, e1, e2, Rp.mono e r, RpKv.mono e t⟩
theorem RpAll.mono {K : PySem.W.Frag} {F F' : Hp} (e : Same F F') : ∀ {ds : List PyData} {vs : List V}, RpAll K F ds vs → RpAll K F' ds vs
  | [], _, h => by simpa only [RpAll] using h
  | d :: ds, vs, h => by
    simp only [RpAll] at h ⊢
    obtain ⟨x, xs, e1, q, r⟩ := h
    exact ⟨x, xs, e1, Rp.mono e q, RpAll.mono e r⟩
end
theorem RpAll.len {K : PySem.W.Frag} {F : Hp} : ∀ {ds : List PyData} {vs : List V}, RpAll K F ds vs → vs.length = ds.length
  | [], _, h => by simp only [RpAll] at h; subst h; rfl
  | d :: ds, vs, h => by
    simp only [RpAll] at h
    obtain ⟨x, xs, rfl, q, r⟩ := h
    simp [RpAll.len r]
theorem RpAll.get {K : PySem.W.Frag} {F : Hp} : ∀ {ds : List PyData} {vs : List V} {i : Nat} {d : PyData}, RpAll K F ds vs → ds[i]? = some d → ∃ v, vs[i]? = some v ∧ Rp K F d v
  | [], _, _, _, _, h => by simp at h
  | d :: ds, vs, 0, d', h, e => by
    simp only [RpAll] at h
    obtain ⟨x, xs, rfl, q, r⟩ := h
    simp at e; subst e
    exact ⟨x, rfl, q⟩
  | d :: ds, vs, i + 1, d', h, e => by
    simp only [RpAll] at h
    obtain ⟨x, xs, rfl, q, r⟩ := h
    obtain ⟨v, h1, h2⟩ := RpAll.get (i := i) r (by simpa using e)
    exact ⟨v, by simpa using h1, h2⟩
theorem RpAll.get' {K : PySem.W.Frag} {F : Hp} {ds : List PyData} {vs : List V} {i : Nat} {v : V} (h : RpAll K F ds vs) (e : vs[i]? = some v) : ∃ d, ds[i]? = some d ∧ Rp K F d v := by
  have hl := h.len
  have hi : i < vs.length := (List.getElem?_eq_some_iff.mp e).1
  have : i < ds.length := by omega
  obtain ⟨w, h1, h2⟩ := h.get (i := i) (List.getElem?_eq_getElem this)
  rw [h1] at e; cases e
  exact ⟨_, List.getElem?_eq_getElem this, h2⟩
theorem RpAll.append {K : PySem.W.Frag} {F : Hp} : ∀ {ds es : List PyData} {vs us : List V}, RpAll K F ds vs → RpAll K F es us → RpAll K F (ds ++ es) (vs ++ us)
  | [], _, _, _, h, h' => by simp only [RpAll] at h; subst h; simpa using h'
  | d :: ds, es, vs, us, h, h' => by
    simp only [RpAll] at h
    obtain ⟨x, xs, rfl, q, r⟩ := h
    simp only [List.cons_append, RpAll]
    exact ⟨x, xs ++ us, rfl, q, r.append h'⟩
theorem RpAll.of_get {K : PySem.W.Frag} {F : Hp} : ∀ {ds : List PyData} {vs : List V}, vs.length = ds.length → (∀ (i : Nat) d v, ds[i]? = some d → vs[i]? = some v → Rp K F d v) → RpAll K F ds vs
  | [], vs, hl, _ => by
    simp only [RpAll]
    exact List.eq_nil_of_length_eq_zero (by simpa using hl)
  | d :: ds, [], hl, _ => by simp at hl
  | d :: ds, v :: vs, hl, h => by
    simp only [RpAll]
    refine ⟨v, vs, rfl, h 0 d v rfl rfl, RpAll.of_get (by simpa using hl) fun i d' v' h1 h2 => h (i + 1) d' v' (by simpa using h1) (by simpa using h2)⟩
theorem RpAll.nil {K : PySem.W.Frag} {F : Hp} : RpAll K F [] [] := by simp only [RpAll]
theorem RpAll.one {K : PySem.W.Frag} {F : Hp} {d : PyData} {v : V} (h : Rp K F d v) : RpAll K F [d] [v] := by
  simp only [RpAll]; exact ⟨v, [], rfl, h, rfl⟩
theorem RpAll.consI {K : PySem.W.Frag} {F : Hp} {d : PyData} {v : V} {ds : List PyData} {vs : List V} (h : Rp K F d v) (t : RpAll K F ds vs) : RpAll K F (d :: ds) (v :: vs) := by
  simp only [RpAll]; exact ⟨v, vs, rfl, h, t⟩
theorem RpAll.uncons {K : PySem.W.Frag} {F : Hp} {d : PyData} {ds : List PyData} {vs : List V} (h : RpAll K F (d :: ds) vs) : ∃ x xs, vs = x :: xs ∧ Rp K F d x ∧ RpAll K F ds xs := by
  simpa only [RpAll] using h
mutual
theorem Rp.dp {K : PySem.W.Frag} {F : Hp} : ∀ {d : PyData} {v : V}, Rp K F d v → d.canLay0 = true → Dp K F v d
  | .none, _, h, _ => by simp only [Rp] at h; subst h; exact .non
  | .bool _, _, h, _ => by simp only [Rp] at h; subst h; exact .bl _
  | .int _, _, h, _ => by simp only [Rp] at h; subst h; exact .int _
  | .str _, _, h, _ => by simp only [Rp] at h; subst h; exact .str _
  | .list ds, v, h, c => by
    simp only [Rp] at h
    obtain ⟨a, xs, rfl, q, r⟩ := h
    exact .lst q (RpAll.dp r (by simpa only [PyData.canLay0] using c))
  | .tuple ds, v, h, c => by
    simp only [Rp] at h
    obtain ⟨a, xs, rfl, q, r⟩ := h
    exact .tup q (RpAll.dp r (by simpa only [PyData.canLay0] using c))
  | .dict _, _, _, c => by simp only [PyData.canLay0] at c; cases c
theorem RpAll.dp {K : PySem.W.Frag} {F : Hp} : ∀ {ds : List PyData} {vs : List V}, RpAll K F ds vs → PyData.canLayAll0 ds = true → DpAll K F vs ds
  | [], _, h, _ => by simp only [RpAll] at h; subst h; exact .nil
  | d :: ds, vs, h, c => by
    simp only [RpAll] at h
    obtain ⟨x, xs, rfl, q, r⟩ := h
    simp only [PyData.canLayAll0, Bool.and_eq_true] at c
    exact .cons (Rp.dp q c.1) (RpAll.dp r c.2)
end

/-! ### owned trees -/
inductive T where
  | sh (d : PyData)
  | lst (ts : List T)
mutual
def T.val : T → PyData
  | .sh d => d
  | .lst ts => .list (T.vals ts)
def T.vals : List T → List PyData
  | [] => []
  | t :: ts => t.val :: T.vals ts
end
theorem vals_map (ts : List T) : T.vals ts = ts.map T.val := by
  induction ts with
  | nil => rfl
  | cons t ts ih => simp [T.vals, ih]
@[simp] theorem val_sh (d : PyData) : (T.sh d).val = d := rfl
@[simp] theorem vals_sh (ds : List PyData) : T.vals (ds.map T.sh) = ds := by
  induction ds with
  | nil => rfl
  | cons t ts ih => simp [T.vals, T.val, ih]
mutual
def RT (K : PySem.W.Frag) (F H : Hp) : T → V → List Addr → Prop
  | .sh d, v, f => f = [] ∧ Rp K F d v
  | .lst ts, v, f => ∃ a xs g, v = .ref a ∧ H a = some (.lst xs) ∧ f = a :: g ∧ RTs K F H ts xs g
def RTs (K : PySem.W.Frag) (F H : Hp) : List T → List V → List Addr → Prop
  | [], vs, f => vs = [] ∧ f = []
  | t :: ts, vs, f => ∃ x xs f1 f2, vs = x :: xs ∧ f = f1 ++ f2 ∧ RT K F H t x f1 ∧ RTs K F H ts xs f2
end
mutual
theorem RT.mono {K : PySem.W.Frag} {F F' H H' : Hp} (e : Same F F') : ∀ {t : T} {v : V} {f : List Addr}, (∀ a ∈ f, ∀ o, H a = some o → H' a = some o) → RT K F H t v f → RT K F' H' t v f
  | .sh d, v, f, _, h => by
    simp only [RT] at h ⊢
    exact ⟨h.1, h.2.mono e⟩
  | .lst ts, v, f, k, h => by
    simp only [RT] at h ⊢
    obtain ⟨a, xs, g, rfl, e1, rfl, r⟩ := h
    exact ⟨a, xs, g, rfl, k a (by simp) _ e1, rfl, RTs.mono e (fun b hb o => k b (by simp [hb]) o) r⟩
theorem RTs.mono {K : PySem.W.Frag} {F F' H H' : Hp} (e : Same F F') : ∀ {t : List T} {v : List V} {f : List Addr}, (∀ a ∈ f, ∀ o, H a = some o → H' a = some o) → RTs K F H t v f → RTs K F' H' t v f
  | [], v, f, _, h => by simpa only [RTs] using h
  | t :: ts, v, f, k, h => by
    simp only [RTs] at h ⊢
    obtain ⟨x, xs, f1, f2, rfl, rfl, r1, r2⟩ := h
    exact ⟨x, xs, f1, f2, rfl, rfl, RT.mono e (fun b hb o => k b (by simp [hb]) o) r1, RTs.mono e (fun b hb o => k b (by simp [hb]) o) r2⟩
end
mutual
/-- an owned tree is given away: its nodes become shared -/
theorem RT.freeze {K : PySem.W.Frag} {F F' H : Hp} (e : Same F F') : ∀ {t : T} {v : V} {f : List Addr}, (∀ a ∈ f, F' a = H a) → RT K F H t v f → Rp K F' t.val v
  | .sh d, v, f, _, h => by
    simp only [RT] at h
    exact h.2.mono e
  | .lst ts, v, f, k, h => by
    simp only [RT] at h
    obtain ⟨a, xs, g, rfl, e1, rfl, r⟩ := h
    simp only [T.val, Rp]
    exact ⟨a, xs, rfl, SqL.of (by rw [k a (by simp)]; exact e1), RTs.freeze e (fun b hb => k b (by simp [hb])) r⟩
theorem RTs.freeze {K : PySem.W.Frag} {F F' H : Hp} (e : Same F F') : ∀ {t : List T} {v : List V} {f : List Addr}, (∀ a ∈ f, F' a = H a) → RTs K F H t v f → RpAll K F' (T.vals t) v
  | [], v, f, _, h => by
    simp only [RTs] at h
    rw [h.1]
    exact RpAll.nil
  | t :: ts, v, f, k, h => by
    simp only [RTs] at h
    obtain ⟨x, xs, f1, f2, rfl, rfl, r1, r2⟩ := h
    simp only [T.vals, RpAll]
    exact ⟨x, xs, rfl, RT.freeze e (fun b hb => k b (by simp [hb])) r1, RTs.freeze e (fun b hb => k b (by simp [hb])) r2⟩
end
mutual
theorem RT.there {K : PySem.W.Frag} {F H : Hp} : ∀ {t : T} {v : V} {f : List Addr}, RT K F H t v f → ∀ a ∈ f, ∃ o, H a = some o
  | .sh d, v, f, h => by
    simp only [RT] at h
    intro a ha; rw [h.1] at ha; simp at ha
  | .lst ts, v, f, h => by
    simp only [RT] at h
    obtain ⟨a, xs, g, rfl, e1, rfl, r⟩ := h
    intro b hb
    rcases List.mem_cons.mp hb with rfl | hb
    · exact ⟨_, e1⟩
    · exact RTs.there r b hb
theorem RTs.there {K : PySem.W.Frag} {F H : Hp} : ∀ {t : List T} {v : List V} {f : List Addr}, RTs K F H t v f → ∀ a ∈ f, ∃ o, H a = some o
  | [], v, f, h => by
    simp only [RTs] at h
    intro a ha; rw [h.2] at ha; simp at ha
  | t :: ts, v, f, h => by
    simp only [RTs] at h
    obtain ⟨x, xs, f1, f2, rfl, rfl, r1, r2⟩ := h
    intro b hb
    rcases List.mem_append.mp hb with hb | hb
    · exact RT.there r1 b hb
    · exact RTs.there r2 b hb
end
theorem RTs.nil {K : PySem.W.Frag} {F H : Hp} : RTs K F H [] [] [] := by simp only [RTs]; exact ⟨trivial, trivial⟩
theorem RTs.one {K : PySem.W.Frag} {F H : Hp} {t : T} {v : V} {f : List Addr} (h : RT K F H t v f) : RTs K F H [t] [v] f := by
  simp only [RTs]
  exact ⟨v, [], f, [], rfl, by simp, h, rfl, rfl⟩
theorem RTs.uncons {K : PySem.W.Frag} {F H : Hp} {t : T} {ts : List T} {vs : List V} {f : List Addr} (h : RTs K F H (t :: ts) vs f) : ∃ x xs f1 f2, vs = x :: xs ∧ f = f1 ++ f2 ∧ RT K F H t x f1 ∧ RTs K F H ts xs f2 := by
  simpa only [RTs] using h
theorem RTs.append {K : PySem.W.Frag} {F H : Hp} : ∀ {ts us : List T} {vs ws : List V} {f g : List Addr}, RTs K F H ts vs f → RTs K F H us ws g → RTs K F H (ts ++ us) (vs ++ ws) (f ++ g)
  | [], us, vs, ws, f, g, h, h' => by
    simp only [RTs] at h
    obtain ⟨rfl, rfl⟩ := h
    simpa using h'
  | t :: ts, us, vs, ws, f, g, h, h' => by
    simp only [RTs] at h
    obtain ⟨x, xs, f1, f2, rfl, rfl, r1, r2⟩ := h
    simp only [List.cons_append, RTs]
    exact ⟨x, xs ++ ws, f1, f2 ++ g, rfl, by simp, r1, r2.append h'⟩
theorem RTs.len {K : PySem.W.Frag} {F H : Hp} : ∀ {ts : List T} {vs : List V} {f : List Addr}, RTs K F H ts vs f → vs.length = ts.length
  | [], vs, f, h => by
    simp only [RTs] at h
    rw [h.1]
    rfl
  | t :: ts, vs, f, h => by
    obtain ⟨x, xs, f1, f2, rfl, rfl, r1, r2⟩ := h.uncons
    simp [r2.len]
theorem RTs.of_sh {K : PySem.W.Frag} {F H : Hp} : ∀ {ds : List PyData} {vs : List V}, RpAll K F ds vs → RTs K F H (ds.map T.sh) vs []
  | [], vs, h => by simp only [RpAll] at h; subst h; exact .nil
  | d :: ds, vs, h => by
    obtain ⟨x, xs, rfl, q, r⟩ := h.uncons
    simp only [List.map_cons, RTs]
    exact ⟨x, xs, [], [], rfl, rfl, by simp only [RT]; exact ⟨trivial, q⟩, RTs.of_sh r⟩

/-! ### the slots -/
abbrev Env := List (Option T)
def RS (K : PySem.W.Frag) (F H : Hp) : Env → St → List Addr → Prop
  | [], σ, f => σ = [] ∧ f = []
  | .none :: η, σ, f => ∃ s σ', σ = s :: σ' ∧ RS K F H η σ' f
  | .some t :: η, σ, f => ∃ v σ' f1 f2, σ = some v :: σ' ∧ f = f1 ++ f2 ∧ RT K F H t v f1 ∧ RS K F H η σ' f2
theorem RS.mono {K : PySem.W.Frag} {F F' H H' : Hp} (e : Same F F') : ∀ {η : Env} {σ : St} {f : List Addr}, (∀ a ∈ f, ∀ o, H a = some o → H' a = some o) → RS K F H η σ f → RS K F' H' η σ f
  | [], σ, f, _, h => by simpa only [RS] using h
  | .none :: η, σ, f, k, h => by
    simp only [RS] at h ⊢
    obtain ⟨s, σ', rfl, r⟩ := h
    exact ⟨s, σ', rfl, RS.mono e k r⟩
  | .some t :: η, σ, f, k, h => by
    simp only [RS] at h ⊢
    obtain ⟨v, σ', f1, f2, rfl, rfl, r1, r2⟩ := h
    exact ⟨v, σ', f1, f2, rfl, rfl, r1.mono e (fun b hb o => k b (by simp [hb]) o), RS.mono e (fun b hb o => k b (by simp [hb]) o) r2⟩
theorem RS.len {K : PySem.W.Frag} {F H : Hp} : ∀ {η : Env} {σ : St} {f : List Addr}, RS K F H η σ f → σ.length = η.length
  | [], σ, f, h => by
    simp only [RS] at h
    rw [h.1]
    rfl
  | .none :: η, σ, f, h => by
    simp only [RS] at h
    obtain ⟨s, σ', rfl, r⟩ := h
    simp [r.len]
  | .some t :: η, σ, f, h => by
    simp only [RS] at h
    obtain ⟨v, σ', f1, f2, rfl, rfl, r1, r2⟩ := h
    simp [r2.len]
theorem RS.there {K : PySem.W.Frag} {F H : Hp} : ∀ {η : Env} {σ : St} {f : List Addr}, RS K F H η σ f → ∀ a ∈ f, ∃ o, H a = some o
  | [], σ, f, h => by
    simp only [RS] at h
    rw [h.2]
    simp
  | .none :: η, σ, f, h => by
    simp only [RS] at h
    obtain ⟨s, σ', rfl, r⟩ := h
    exact r.there
  | .some t :: η, σ, f, h => by
    simp only [RS] at h
    obtain ⟨v, σ', f1, f2, rfl, rfl, r1, r2⟩ := h
    intro b hb
    rcases List.mem_append.mp hb with hb | hb
    · exact r1.there b hb
    · exact r2.there b hb
/-- a slot is looked at: what it holds, the rest, and how it is built anew -/
theorem RS.focus {K : PySem.W.Frag} {F H : Hp} : ∀ {η : Env} {σ : St} {f : List Addr} {i : Nat}, RS K F H η σ f → i < η.length →
    ∃ s h r, σ[i]? = some s ∧ f.Perm (h ++ r) ∧ (∀ t, η[i]? = some (some t) → ∃ v, s = some v ∧ RT K F H t v h) ∧
      ∀ F' H', Same F F' → (∀ a ∈ r, ∀ o, H a = some o → H' a = some o) →
        (∀ t' v' h', RT K F' H' t' v' h' → ∃ f', RS K F' H' (η.set i (some t')) (σ.set i (some v')) f' ∧ f'.Perm (h' ++ r)) ∧
        (∀ s', ∃ f', RS K F' H' (η.set i none) (σ.set i s') f' ∧ f'.Perm r)
  | [], σ, f, i, _, e => by simp at e
  | .none :: η, σ, f, 0, r, e => by
    simp only [RS] at r
    obtain ⟨s, σ', rfl, r⟩ := r
    refine ⟨s, [], f, rfl, by simp, by simp, fun F' H' hF hH => ⟨fun t' v' h' q => ⟨h' ++ f, ?_, .refl _⟩, fun s' => ⟨f, ?_, .refl _⟩⟩⟩
    · simp only [List.set_cons_zero, RS]
      exact ⟨v', σ', h', f, rfl, rfl, q, r.mono hF hH⟩
    · simp only [List.set_cons_zero, RS]
      exact ⟨s', σ', rfl, r.mono hF hH⟩
  | .some u :: η, σ, f, 0, r, e => by
    simp only [RS] at r
    obtain ⟨v, σ', f1, f2, rfl, rfl, r1, r2⟩ := r
    refine ⟨some v, f1, f2, rfl, .refl _, fun t ht => ⟨v, rfl, by simp at ht; subst ht; exact r1⟩, fun F' H' hF hH => ⟨fun t' v' h' q => ⟨h' ++ f2, ?_, .refl _⟩, fun s' => ⟨f2, ?_, .refl _⟩⟩⟩
    · simp only [List.set_cons_zero, RS]
      exact ⟨v', σ', h', f2, rfl, rfl, q, r2.mono hF hH⟩
    · simp only [List.set_cons_zero, RS]
      exact ⟨s', σ', rfl, r2.mono hF hH⟩
  | .none :: η, σ, f, i + 1, r, e => by
    simp only [RS] at r
    obtain ⟨s, σ', rfl, r⟩ := r
    obtain ⟨s0, h, q, h1, h2, h3, h4⟩ := RS.focus (i := i) r (by simpa using e)
    refine ⟨s0, h, q, by simpa using h1, h2, fun t ht => h3 t (by simpa using ht), fun F' H' hF hH => ?_⟩
    obtain ⟨a, b⟩ := h4 F' H' hF hH
    refine ⟨fun t' v' h' w => ?_, fun s' => ?_⟩
    · obtain ⟨f', x, y⟩ := a t' v' h' w
      refine ⟨f', ?_, y⟩
      simp only [List.set_cons_succ, RS]
      exact ⟨s, _, rfl, x⟩
    · obtain ⟨f', x, y⟩ := b s'
      refine ⟨f', ?_, y⟩
      simp only [List.set_cons_succ, RS]
      exact ⟨s, _, rfl, x⟩
  | .some u :: η, σ, f, i + 1, r, e => by
    simp only [RS] at r
    obtain ⟨v, σ', f1, f2, rfl, rfl, r1, r2⟩ := r
    obtain ⟨s0, h, q, h1, h2, h3, h4⟩ := RS.focus (i := i) r2 (by simpa using e)
    refine ⟨s0, h, f1 ++ q, by simpa using h1, ?_, fun t ht => h3 t (by simpa using ht), fun F' H' hF hH => ?_⟩
    · have p1 : (f1 ++ f2).Perm (f1 ++ (h ++ q)) := h2.append_left f1
      have p2 : (f1 ++ (h ++ q)).Perm (h ++ (f1 ++ q)) := by
        rw [← List.append_assoc, ← List.append_assoc]
        exact (List.perm_append_comm).append_right q
      exact p1.trans p2
    · obtain ⟨a, b⟩ := h4 F' H' hF fun x hx => hH x (by simp [hx])
      have r1' := r1.mono (H' := H') hF fun x hx => hH x (by simp [hx])
      refine ⟨fun t' v' h' w => ?_, fun s' => ?_⟩
      · obtain ⟨f', x, y⟩ := a t' v' h' w
        refine ⟨f1 ++ f', ?_, ?_⟩
        · simp only [List.set_cons_succ, RS]
          exact ⟨v, _, f1, f', rfl, rfl, r1', x⟩
        · have p1 : (f1 ++ f').Perm (f1 ++ (h' ++ q)) := y.append_left f1
          have p2 : (f1 ++ (h' ++ q)).Perm (h' ++ (f1 ++ q)) := by
            rw [← List.append_assoc, ← List.append_assoc]
            exact (List.perm_append_comm).append_right q
          exact p1.trans p2
      · obtain ⟨f', x, y⟩ := b s'
        refine ⟨f1 ++ f', ?_, y.append_left f1⟩
        simp only [List.set_cons_succ, RS]
        exact ⟨v, _, f1, f', rfl, rfl, r1', x⟩

/-! ### results -/
structure Ex where
  name : Str
  fld : Option (Str × PyData)
inductive Rs (α : Type) where
  | ok (a : α)
  | exc (e : Ex) (η : Env)
  | bad
def Rs.post {α : Type} (r : Rs α) (P : α → Prop) (E : Ex → Env → Prop) : Prop := match r with
  | .ok a => P a
  | .exc e η => E e η
  | .bad => False
@[inline] def Rs.bind {α β : Type} (r : Rs α) (f : α → Rs β) : Rs β := match r with
  | .ok a => f a
  | .exc e η => .exc e η
  | .bad => .bad
@[simp] theorem Rs.bind_ok {α β : Type} (a : α) (f : α → Rs β) : (Rs.ok a).bind f = f a := rfl
@[simp] theorem Rs.bind_exc {α β : Type} (e : Ex) (η : Env) (f : α → Rs β) : (Rs.exc e η : Rs α).bind f = .exc e η := rfl
@[simp] theorem Rs.bind_bad {α β : Type} (f : α → Rs β) : (Rs.bad : Rs α).bind f = .bad := rfl
theorem Rs.post_mono {α : Type} {r : Rs α} {P P' : α → Prop} {E E' : Ex → Env → Prop} (h : r.post P E) (hP : ∀ a, P a → P' a) (hE : ∀ e η, E e η → E' e η) : r.post P' E' := by
  cases r with
  | ok a => exact hP a h
  | exc e η => exact hE e η h
  | bad => exact h

/-! ### what a step leaves: own addresses fp, the shared part F within the heap H -/
structure Ok (K : PySem.W.Frag) (F H : Hp) (η : Env) (σ : St) (fp : List Addr) : Prop where
  rs : RS K F H η σ fp
  nd : fp.Nodup
  fn : ∀ a ∈ fp, F a = none
  fh : Same F H
structure Ext (fp : List Addr) (F H F' H' : Hp) : Prop where
  ff : Same F F'
  keep : ∀ b o, H b = some o → b ∉ fp → H' b = some o
  new : ∀ b, H b ≠ none → b ∉ fp → F' b = F b
theorem Ext.refl {fp : List Addr} {F H : Hp} : Ext fp F H F H := ⟨.refl _, fun _ _ h _ => h, fun _ _ _ => rfl⟩
theorem Ext.trans {fp fp1 : List Addr} {F H F1 H1 F2 H2 : Hp} (a : Ext fp F H F1 H1) (b : Ext fp1 F1 H1 F2 H2) (s : ∀ x ∈ fp1, x ∈ fp ∨ H x = none) : Ext fp F H F2 H2 := by
  have n : ∀ c o, H c = some o → c ∉ fp → c ∉ fp1 := fun c o h hc hb => by
    rcases s c hb with z | z
    · exact hc z
    · rw [z] at h; cases h
  refine ⟨a.ff.trans b.ff, fun c o h hc => b.keep c o (a.keep c o h hc) (n c o h hc), fun c h hc => ?_⟩
  obtain ⟨o, e⟩ := Option.ne_none_iff_exists'.mp h
  rw [b.new c (by rw [a.keep c o e hc]; simp) (n c o e hc), a.new c h hc]
/-- behind an expression: the values vs hold ts, the slots σ hold η' -/
structure Aft (K : PySem.W.Frag) (fp : List Addr) (F H : Hp) (σ : St) (ts : List T) (vs : List V) (η' : Env) (F' H' : Hp) (f1 fp' : List Addr) : Prop where
  rt : RTs K F' H' ts vs f1
  rs : RS K F' H' η' σ fp'
  nd : (f1 ++ fp').Nodup
  fn : ∀ a ∈ f1 ++ fp', F' a = none
  fh : Same F' H'
  ext : Ext fp F H F' H'
  sub : ∀ a ∈ f1 ++ fp', a ∈ fp ∨ H a = none
theorem Ok.aft {K : PySem.W.Frag} {F H : Hp} {η : Env} {σ : St} {fp : List Addr} (o : Ok K F H η σ fp) : Aft K fp F H σ [] [] η F H [] fp :=
  ⟨.nil, o.rs, by simpa using o.nd, by simpa using o.fn, o.fh, .refl, fun a ha => .inl (by simpa using ha)⟩
theorem Aft.ok {K : PySem.W.Frag} {fp : List Addr} {F H : Hp} {σ : St} {ts : List T} {vs : List V} {η' : Env} {F' H' : Hp} {f1 fp' : List Addr} (a : Aft K fp F H σ ts vs η' F' H' f1 fp') : Ok K F' H' η' σ fp' :=
  ⟨a.rs, (List.nodup_append.mp a.nd).2.1, fun b hb => a.fn b (by simp [hb]), a.fh⟩
/-- one step, then another -/
theorem Aft.app {K : PySem.W.Frag} {fp : List Addr} {F H : Hp} {σ σ' : St} {ts us : List T} {vs ws : List V} {η1 η2 : Env} {F1 H1 F2 H2 : Hp} {f1 fp1 f2 fp2 : List Addr} (a : Aft K fp F H σ ts vs η1 F1 H1 f1 fp1)
    (b : Aft K fp1 F1 H1 σ' us ws η2 F2 H2 f2 fp2) : Aft K fp F H σ' (ts ++ us) (vs ++ ws) η2 F2 H2 (f1 ++ f2) fp2 := by
  have d1 : ∀ x ∈ f1, x ∉ fp1 := fun x hx hy => (List.nodup_append.mp a.nd).2.2 x hx x hy rfl
  have there1 : ∀ x ∈ f1, ∃ o, H1 x = some o := a.rt.there
  have d2 : ∀ x ∈ f1, x ∉ f2 ++ fp2 := fun x hx hy => by
    rcases b.sub x hy with z | z
    · exact d1 x hx z
    · obtain ⟨o, e⟩ := there1 x hx
      rw [e] at z; cases z
  refine ⟨(a.rt.mono b.ext.ff fun x hx o e => b.ext.keep x o e (d1 x hx)).append b.rt, b.rs, ?_, fun x hx => ?_, b.fh, a.ext.trans b.ext fun x hx => a.sub x (by simp [hx]), fun x hx => ?_⟩
  · rw [List.append_assoc]
    exact List.nodup_append.mpr ⟨(List.nodup_append.mp a.nd).1, b.nd, fun x hx y hy e => d2 x hx (e ▸ hy)⟩
  · rw [List.append_assoc] at hx
    rcases List.mem_append.mp hx with hx | hx
    · obtain ⟨o, e⟩ := there1 x hx
      rw [b.ext.new x (by rw [e]; simp) (d1 x hx)]
      exact a.fn x (by simp [hx])
    · exact b.fn x hx
  · rw [List.append_assoc] at hx
    rcases List.mem_append.mp hx with hx | hx
    · exact a.sub x (by simp [hx])
    · rcases b.sub x hx with z | z
      · exact a.sub x (by simp [z])
      · by_cases hm : x ∈ fp
        · exact .inl hm
        · cases e : H x with
          | none => exact .inr rfl
          | some o =>
            rw [a.ext.keep x o e hm] at z; cases z
/-- what was made is given away -/
theorem Aft.freeze {K : PySem.W.Frag} {fp : List Addr} {F H : Hp} {σ : St} {ts : List T} {vs : List V} {η' : Env} {F' H' : Hp} {f1 fp' : List Addr} (a : Aft K fp F H σ ts vs η' F' H' f1 fp') :
    ∃ F2, Aft K fp F H σ [] [] η' F2 H' [] fp' ∧ RpAll K F2 (T.vals ts) vs := by
  have d1 : ∀ x ∈ f1, x ∉ fp' := fun x hx hy => (List.nodup_append.mp a.nd).2.2 x hx x hy rfl
  have hF : Same F' (fun b => if b ∈ f1 then H' b else F' b) := fun b o e => by
    have nb : b ∉ f1 := fun hb => by rw [a.fn b (by simp [hb])] at e; cases e
    simp only [if_neg nb]; exact e
  refine ⟨fun b => if b ∈ f1 then H' b else F' b, ⟨.nil, a.rs.mono hF fun _ _ _ e => e, (List.nodup_append.mp a.nd).2.1, fun x hx => ?_, fun b o e => ?_, ⟨a.ext.ff.trans hF, a.ext.keep, fun b hb hn => ?_⟩, fun x hx => a.sub x (by simp at hx; simp [hx])⟩, a.rt.freeze hF fun b hb => if_pos hb⟩
  · have hx : x ∈ fp' := by simpa using hx
    have nx : x ∉ f1 := fun h => d1 x h hx
    simp only [if_neg nx]; exact a.fn x (by simp [hx])
  · by_cases hb : b ∈ f1
    · simp only [if_pos hb] at e; exact e
    · simp only [if_neg hb] at e; exact a.fh b o e
  · have nb : b ∉ f1 := fun h => by
      rcases a.sub b (by simp [h]) with z | z
      · exact hn z
      · exact hb z
    simp only [if_neg nb]; exact a.ext.new b hb hn

/-! ### what an operation gives -/
structure ResOk (K : PySem.W.Frag) (F H : Hp) (t : T) (v : V) (F' H' : Hp) (f : List Addr) : Prop where
  rt : RT K F' H' t v f
  ff : Same F F'
  fh : Same F' H'
  hh : Same H H'
  new : ∀ b, H b ≠ none → F' b = F b
  nd : f.Nodup
  fr : ∀ a ∈ f, H a = none ∧ F' a = none
def Res (K : PySem.W.Frag) (F H : Hp) (t : T) (Q : VK) : Prop := ∀ v F' H' f, ResOk K F H t v F' H' f → Q v H'
theorem Aft.res {K : PySem.W.Frag} {fp : List Addr} {F H : Hp} {σ : St} {η' : Env} {F' H' F2 H2 : Hp} {fp' f : List Addr} {t : T} {v : V} (a : Aft K fp F H σ [] [] η' F' H' [] fp') (r : ResOk K F' H' t v F2 H2 f) :
    Aft K fp F H σ [t] [v] η' F2 H2 f fp' := by
  have there : ∀ x ∈ fp', ∃ o, H' x = some o := a.rs.there
  refine ⟨.one r.rt, a.rs.mono r.ff fun x _ o e => r.hh x o e, List.nodup_append.mpr ⟨r.nd, by simpa using a.nd, fun x hx y hy e => ?_⟩, fun x hx => ?_, r.fh, ⟨a.ext.ff.trans r.ff, fun b o e hb => r.hh b o (a.ext.keep b o e hb), fun b h hb => ?_⟩, fun x hx => ?_⟩
  · subst e
    obtain ⟨o, q⟩ := there x hy
    rw [(r.fr x hx).1] at q; cases q
  · rcases List.mem_append.mp hx with hx | hx
    · exact (r.fr x hx).2
    · obtain ⟨o, q⟩ := there x hx
      rw [r.new x (by rw [q]; simp)]
      exact a.fn x (by simp [hx])
  · obtain ⟨o, e⟩ := Option.ne_none_iff_exists'.mp h
    rw [r.new b (by rw [a.ext.keep b o e hb]; simp), a.ext.new b h hb]
  · rcases List.mem_append.mp hx with hx | hx
    · by_cases hm : x ∈ fp
      · exact .inl hm
      · cases e : H x with
        | none => exact .inr rfl
        | some o =>
          have := (r.fr x hx).1
          rw [a.ext.keep x o e hm] at this; cases this
    · exact a.sub x (by simp [hx])
/-- a value that stands already -/
theorem ResOk.here {K : PySem.W.Frag} {F H : Hp} {d : PyData} {v : V} (fh : Same F H) (h : Rp K F d v) : ResOk K F H (.sh d) v F H [] :=
  ⟨by simp only [RT]; exact ⟨trivial, h⟩, .refl _, fh, .refl _, fun _ _ => rfl, by simp, by simp⟩
theorem same_upd {H : Hp} {p : Addr} {o : HO} (h : H p = none) : Same H (upd H p o) := fun b u e => by
  rw [upd_ne (ne_of_none e h)]; exact e
/-- a new tuple -/
theorem ResOk.tup {K : PySem.W.Frag} {F H : Hp} {ds : List PyData} {xs : List V} {p : Addr} (fh : Same F H) (h : RpAll K F ds xs) (hp : H p = none) : ResOk K F H (.sh (.tuple ds)) (.ref p) (upd F p (.tup xs)) (upd H p (.tup xs)) [] := by
  have fp : F p = none := fh.free hp
  refine ⟨?_, same_upd fp, fun b o e => ?_, same_upd hp, fun b hb => ?_, by simp, by simp⟩
  · simp only [RT, Rp]
    exact ⟨trivial, p, xs, rfl, SqT.of upd_same, h.mono (same_upd fp)⟩
  · by_cases hb : b = p
    · subst hb; rw [upd_same] at e ⊢; exact e
    · rw [upd_ne hb] at e ⊢; exact fh b o e
  · have : b ≠ p := fun e => by subst e; exact hb hp
    rw [upd_ne this]
/-- a new list, owned -/
theorem ResOk.lst {K : PySem.W.Frag} {F H : Hp} {ds : List PyData} {xs : List V} {p : Addr} (fh : Same F H) (h : RpAll K F ds xs) (hp : H p = none) : ResOk K F H (.lst (ds.map T.sh)) (.ref p) F (upd H p (.lst xs)) [p] := by
  have fp : F p = none := fh.free hp
  refine ⟨?_, .refl _, fun b o e => ?_, same_upd hp, fun b hb => rfl, by simp, fun a ha => ?_⟩
  · simp only [RT]
    exact ⟨p, xs, [], rfl, upd_same, rfl, .of_sh h⟩
  · rw [upd_ne (ne_of_none e fp)]; exact fh b o e
  · have : a = p := by simpa using ha
    subst this; exact ⟨hp, fp⟩

/-! ### readings -/
structure Cn where
  K : PySem.W.Frag
  W : WX
  cn : Str → Option Value
def ExR (C : Cn) (F' H' : Hp) (e : Ex) (cls : Value) (d : Option Addr) : Prop :=
  C.cn e.name = some cls ∧ match e.fld with
    | .none => d = none
    | .some (f, x) => ∃ da v, d = some da ∧ H' da = some (.xd [(f, v)]) ∧ Rp C.K F' x v
def XP (C : Cn) (fp : List Addr) (F H : Hp) (σ : St) (e : Ex) (η' : Env) : Prop := ∀ cls d F' H', ExR C F' H' e cls d → RS C.K F' H' η' σ [] → Same F' H' → Ext fp F H F' H' → C.W cls d σ H'
abbrev FE := Env → Rs (T × Env)
abbrev FB := Env → Rs (Bool × Env)
abbrev FA := Env → Rs (List T × Env)
def tD (C : Cn) (f : FE) : TE := fun σ H Q => ∃ η F fp, Ok C.K F H η σ fp ∧ (f η).post (fun p => ∀ v F' H' f1 fp', Aft C.K fp F H σ [p.1] [v] p.2 F' H' f1 fp' → Q v H') (XP C fp F H σ)
def tB (C : Cn) (f : FB) : TT := fun σ H Q => ∃ η F fp, Ok C.K F H η σ fp ∧ (f η).post (fun p => ∀ F' H' fp', Aft C.K fp F H σ [] [] p.2 F' H' [] fp' → Q p.1 H') (XP C fp F H σ)
def tA (C : Cn) (f : FA) : TA := fun σ H Q => ∃ η F fp, Ok C.K F H η σ fp ∧ (f η).post (fun p => ∀ vs F' H' f1 fp', Aft C.K fp F H σ p.1 vs p.2 F' H' f1 fp' → Q vs H') (XP C fp F H σ)
theorem XP.back {C : Cn} {fp fp1 f1 : List Addr} {F H F1 H1 : Hp} {σ : St} {ts : List T} {vs : List V} {η1 : Env} {e : Ex} {η' : Env} (a : Aft C.K fp F H σ ts vs η1 F1 H1 f1 fp1) (h : XP C fp F H σ e η') : XP C fp1 F1 H1 σ e η' :=
  fun cls d F' H' x r s ext => h cls d F' H' x r s (a.ext.trans ext fun b hb => a.sub b (by simp [hb]))
section
variable {C : Cn} {fp fp1 f1 : List Addr} {F H F1 H1 : Hp} {σ : St} {ts : List T} {vs : List V} {η1 : Env}
theorem tD_step {f : FE} {Q : VK} (a : Aft C.K fp F H σ ts vs η1 F1 H1 f1 fp1) (h : (f η1).post (fun p => ∀ v F2 H2 f2 fp2, Aft C.K fp F H σ (ts ++ [p.1]) (vs ++ [v]) p.2 F2 H2 f2 fp2 → Q v H2) (XP C fp F H σ)) : tD C f σ H1 Q :=
  ⟨η1, F1, fp1, a.ok, Rs.post_mono h (fun p hp v F' H' f' fp' b => hp v F' H' _ _ (a.app b)) fun e η' he => he.back a⟩
theorem tB_step {f : FB} {Q : Bool → Hp → Prop} (a : Aft C.K fp F H σ ts vs η1 F1 H1 f1 fp1) (h : (f η1).post (fun p => ∀ F2 H2 f2 fp2, Aft C.K fp F H σ ts vs p.2 F2 H2 f2 fp2 → Q p.1 H2) (XP C fp F H σ)) : tB C f σ H1 Q :=
  ⟨η1, F1, fp1, a.ok, Rs.post_mono h (fun p hp F' H' fp' b => hp F' H' _ _ (by simpa using a.app b)) fun e η' he => he.back a⟩
theorem tA_step {f : FA} {Q : List V → Hp → Prop} (a : Aft C.K fp F H σ ts vs η1 F1 H1 f1 fp1) (h : (f η1).post (fun p => ∀ ws F2 H2 f2 fp2, Aft C.K fp F H σ (ts ++ p.1) (vs ++ ws) p.2 F2 H2 f2 fp2 → Q ws H2) (XP C fp F H σ)) : tA C f σ H1 Q :=
  ⟨η1, F1, fp1, a.ok, Rs.post_mono h (fun p hp v F' H' f' fp' b => hp v F' H' _ _ (a.app b)) fun e η' he => he.back a⟩
end
theorem _root_.L2.PE.impD {X : Cx} {e : Expr} {t t' : TE} (h : PE X e t) (k : ∀ σ H Q, t' σ H Q → t σ H Q) : PE X e t' := ⟨fun pins s σ H Q I q => h.run pins s σ H Q I (k σ H Q q)⟩
theorem _root_.L2.PT.impD {X : Cx} {e : Expr} {t t' : TT} (h : PT X e t) (k : ∀ σ H Q, t' σ H Q → t σ H Q) : PT X e t' := ⟨fun pins s σ H Q I q => h.run pins s σ H Q I (k σ H Q q)⟩
theorem _root_.L2.PW.impD {X : Cx} {e : Expr} {t t' : TT} (h : PW X e t) (k : ∀ σ H Q, t' σ H Q → t σ H Q) : PW X e t' := ⟨fun wh pins s σ H Q I q => h.run wh pins s σ H Q I (k σ H Q q)⟩
theorem _root_.L2.PA.impD {X : Cx} {e : List Expr} {t t' : TA} (h : PA X e t) (k : ∀ σ H Q, t' σ H Q → t σ H Q) : PA X e t' := ⟨fun pos pins s σ H Q I q => h.run pos pins s σ H Q I (k σ H Q q)⟩

/-- post through a bind -/
theorem Rs.post_bind {α β : Type} {r : Rs α} {f : α → Rs β} {P : β → Prop} {E : Ex → Env → Prop} (h : (r.bind f).post P E) : r.post (fun a => (f a).post P E) E := by
  cases r with
  | ok a => exact h
  | exc e η => exact h
  | bad => exact h

/-! ### constants, names -/
def eC (d : PyData) : FE := fun η => .ok (.sh d, η)
def setT (η : Env) (i : Nat) (t : T) : Env := η.set i (some t)
def eV (i : Nat) : FE := fun η => match η[i]? with
  | some (some (.sh d)) => .ok (.sh d, η)
  | some (some (.lst ts)) => .ok (.sh (.list (T.vals ts)), η.set i (some (.sh (.list (T.vals ts)))))
  | _ => .bad
variable {X : Cx} {C : Cn}
theorem Ok.res {K : PySem.W.Frag} {F H : Hp} {η : Env} {σ : St} {fp : List Addr} {t : T} {v : V} {F2 H2 : Hp} {f : List Addr} (o : Ok K F H η σ fp) (r : ResOk K F H t v F2 H2 f) : Aft K fp F H σ [t] [v] η F2 H2 f fp := o.aft.res r
theorem rp_c {K : PySem.W.Frag} {F : Hp} : (∀ {i}, Rp K F (.int i) (.int i)) ∧ (∀ {b}, Rp K F (.bool b) (.bl b)) ∧ (∀ {s}, Rp K F (.str s) (.str s)) ∧ Rp K F .none .non := by
  refine ⟨?_, ?_, ?_, ?_⟩ <;> intros <;> simp only [Rp]
theorem pd_c {e : Expr} {v : V} {d : PyData} (h : PE X e (tC v)) (hd : ∀ F, Rp C.K F d v) : PE X e (tD C (eC d)) :=
  h.impD fun σ H Q ⟨η, F, fp, o, q⟩ => q v F H [] fp (o.res (.here o.fh (hd F)))
theorem pd_int {i j pos} : PE X (.Constant (.int i) j pos) (tD C (eC (.int i))) := pd_c pe_int fun _ => rp_c.1
theorem pd_bool {b j pos} : PE X (.Constant (.bool b) j pos) (tD C (eC (.bool b))) := pd_c pe_bl fun _ => rp_c.2.1
theorem pd_str {s j pos} : PE X (.Constant (.str s) j pos) (tD C (eC (.str s))) := pd_c pe_str fun _ => rp_c.2.2.1
theorem pd_none {j pos} : PE X (.Constant .none j pos) (tD C (eC .none)) := pd_c pe_non fun _ => rp_c.2.2.2
theorem set_self {α : Type} : ∀ {l : List α} {i : Nat} {x : α}, l[i]? = some x → l.set i x = l
  | [], _, _, h => by simp at h
  | a :: l, 0, x, h => by simp at h; subst h; rfl
  | a :: l, i + 1, x, h => by simp only [List.set_cons_succ]; rw [set_self (by simpa using h)]
theorem eV_var {i : Nat} {σ : St} {H : Hp} {Q : VK} (h : tD C (eV i) σ H Q) : tVar i σ H Q := by
  obtain ⟨η, F, fp, o, q⟩ := h
  unfold eV at q
  split at q
  · rename_i d e
    have hi : i < η.length := (List.getElem?_eq_some_iff.mp e).1
    obtain ⟨s, g, r, h1, h2, h3, h4⟩ := o.rs.focus hi
    obtain ⟨v, rfl, rt⟩ := h3 _ e
    simp only [RT] at rt
    exact ⟨v, h1, q v F H [] fp (o.res (.here o.fh rt.2))⟩
  · rename_i ts e
    have hi : i < η.length := (List.getElem?_eq_some_iff.mp e).1
    obtain ⟨s, g, r, h1, h2, h3, h4⟩ := o.rs.focus hi
    obtain ⟨v, rfl, rt⟩ := h3 _ e
    refine ⟨v, h1, ?_⟩
    have nd : (g ++ r).Nodup := h2.nodup_iff.mp o.nd
    have dj : ∀ x ∈ r, x ∉ g := fun x hx hy => (List.nodup_append.mp nd).2.2 x hy x hx rfl
    have mem : ∀ x, x ∈ g ∨ x ∈ r → x ∈ fp := fun x hx => h2.mem_iff.mpr (List.mem_append.mpr hx)
    have hF : Same F (fun b => if b ∈ g then H b else F b) := fun b u e => by
      have nb : b ∉ g := fun hb => by rw [o.fn b (mem b (.inl hb))] at e; cases e
      simp only [if_neg nb]; exact e
    have rp := rt.freeze hF fun b hb => if_pos hb
    obtain ⟨f', rs', pm⟩ := (h4 _ H hF (fun _ _ _ z => z)).1 (.sh (.list (T.vals ts))) v [] (by simp only [RT]; exact ⟨trivial, rp⟩)
    rw [set_self h1] at rs'
    have pm : f'.Perm r := pm
    refine q v _ H [] f' ⟨.one (by simp only [RT]; exact ⟨trivial, rp⟩), rs', ?_, fun x hx => ?_, fun b u e => ?_, ⟨hF, fun _ _ z _ => z, fun b hb hn => ?_⟩, fun x hx => .inl (mem x (.inr (pm.mem_iff.mp (by simpa using hx))))⟩
    · show ([] ++ f').Nodup
      rw [List.nil_append]
      exact pm.nodup_iff.mpr (List.nodup_append.mp nd).2.1
    · have hx : x ∈ r := pm.mem_iff.mp (by simpa using hx)
      simp only [if_neg (dj x hx)]
      exact o.fn x (mem x (.inr hx))
    · by_cases hb : b ∈ g
      · simp only [if_pos hb] at e; exact e
      · simp only [if_neg hb] at e; exact o.fh b u e
    · simp only [if_neg fun hg => hn (mem b (.inl hg))]
  · exact q.elim
theorem pd_v {i : Nat} {x : Str} {pos : Pos} (h : PE X (.Name x pos) (tVar i)) : PE X (.Name x pos) (tD C (eV i)) := PE.impD h fun σ H Q => eV_var

/-! ### operands: shared data, or a list that is owned by a slot and looked at, its items shared -/
def Rq (K : PySem.W.Frag) (F H : Hp) (d : PyData) (v : V) : Prop := Rp K F d v ∨ ∃ a xs ds, d = .list ds ∧ v = .ref a ∧ H a = some (.lst xs) ∧ RpAll K F ds xs
def RqAll (K : PySem.W.Frag) (F H : Hp) : List PyData → List V → Prop
  | [], vs => vs = []
  | d :: ds, vs => ∃ x xs, vs = x :: xs ∧ Rq K F H d x ∧ RqAll K F H ds xs
theorem RpAll.rq {K : PySem.W.Frag} {F H : Hp} : ∀ {ds : List PyData} {vs : List V}, RpAll K F ds vs → RqAll K F H ds vs
  | [], _, h => by simpa only [RpAll, RqAll] using h
  | d :: ds, vs, h => by
    obtain ⟨x, xs, rfl, q, r⟩ := h.uncons
    simp only [RqAll]
    exact ⟨x, xs, rfl, .inl q, RpAll.rq r⟩
theorem rq_int {K : PySem.W.Frag} {F H : Hp} {i : Int} {v : V} (h : Rq K F H (.int i) v) : v = .int i := by
  rcases h with h | ⟨a, xs, ds, e, _⟩
  · simpa only [Rp] using h
  · cases e
theorem rq_bool {K : PySem.W.Frag} {F H : Hp} {i : Bool} {v : V} (h : Rq K F H (.bool i) v) : v = .bl i := by
  rcases h with h | ⟨a, xs, ds, e, _⟩
  · simpa only [Rp] using h
  · cases e
theorem rq_str {K : PySem.W.Frag} {F H : Hp} {i : Str} {v : V} (h : Rq K F H (.str i) v) : v = .str i := by
  rcases h with h | ⟨a, xs, ds, e, _⟩
  · simpa only [Rp] using h
  · cases e
theorem rq_none {K : PySem.W.Frag} {F H : Hp} {v : V} (h : Rq K F H .none v) : v = .non := by
  rcases h with h | ⟨a, xs, ds, e, _⟩
  · simpa only [Rp] using h
  · cases e
theorem rq_list {K : PySem.W.Frag} {F H : Hp} {ds : List PyData} {v : V} (fh : Same F H) (h : Rq K F H (.list ds) v) : ∃ a xs, v = .ref a ∧ SqL K H a xs ∧ RpAll K F ds xs := by
  rcases h with h | ⟨a, xs, ds', e, rfl, h1, h2⟩
  · simp only [Rp] at h
    obtain ⟨a, xs, rfl, q, r⟩ := h
    exact ⟨a, xs, rfl, sqL_mono fh q, r⟩
  · cases e
    exact ⟨a, xs, rfl, SqL.of h1, h2⟩
theorem rq_tup {K : PySem.W.Frag} {F H : Hp} {ds : List PyData} {v : V} (h : Rq K F H (.tuple ds) v) : ∃ a xs, v = .ref a ∧ SqT K F a xs ∧ RpAll K F ds xs := by
  rcases h with h | ⟨a, xs, ds, e, _⟩
  · simpa only [Rp] using h
  · cases e
theorem rq_dict {K : PySem.W.Frag} {F H : Hp} {ds : List (PyData × PyData)} {v : V} (fh : Same F H) (h : Rq K F H (.dict ds) v) : ∃ a ks, v = .ref a ∧ H a = some (.dK ks) ∧ RpKv K F ds ks := by
  rcases h with h | ⟨a, xs, ds, e, _⟩
  · simp only [Rp] at h
    obtain ⟨a, ks, rfl, q, r⟩ := h
    exact ⟨a, ks, rfl, fh _ _ q, r⟩
  · cases e
/-- a new dict, shared -/
theorem ResOk.dct {K : PySem.W.Frag} {F H : Hp} {ds : List (PyData × PyData)} {ks : List (Key × V)} {p : Addr} (fh : Same F H) (h : RpKv K F ds ks) (hp : H p = none) : ResOk K F H (.sh (.dict ds)) (.ref p) (upd F p (.dK ks)) (upd H p (.dK ks)) [] := by
  have fp : F p = none := fh.free hp
  refine ⟨?_, same_upd fp, fun b o e => ?_, same_upd hp, fun b hb => ?_, by simp, by simp⟩
  · simp only [RT, Rp]
    exact ⟨trivial, p, ks, rfl, upd_same, h.mono (same_upd fp)⟩
  · by_cases hb : b = p
    · subst hb; rw [upd_same] at e ⊢; exact e
    · rw [upd_ne hb] at e ⊢; exact fh b o e
  · have : b ≠ p := fun e => by subst e; exact hb hp
    rw [upd_ne this]
theorem Rq.dp {K : PySem.W.Frag} {F H : Hp} {d : PyData} {v : V} (fh : Same F H) (h : Rq K F H d v) (c : d.canLay0 = true) : Dp K H v d := by
  rcases h with h | ⟨a, xs, ds, rfl, rfl, h1, h2⟩
  · exact (h.mono fh).dp c
  · exact .lst (SqL.of h1) ((h2.mono fh).dp (by simpa only [PyData.canLay0] using c))
/-- a slot looked at -/
def shD : T → Option PyData
  | .sh d => some d
  | .lst _ => none
def shDs : List T → Option (List PyData)
  | [] => some []
  | t :: ts => match shD t, shDs ts with
    | some d, some ds => some (d :: ds)
    | _, _ => none
@[simp] theorem shDs_map (ds : List PyData) : shDs (ds.map T.sh) = some ds := by
  induction ds with
  | nil => rfl
  | cons d ds ih => simp [shDs, shD, ih]
def pkD : T → Option PyData
  | .sh d => some d
  | .lst ts => match shDs ts with
    | some ds => some (.list ds)
    | none => none
def pk (η : Env) (i : Nat) : Option PyData := match η[i]? with
  | some (some t) => pkD t
  | _ => none
theorem shDs_rp {K : PySem.W.Frag} {F H : Hp} : ∀ {ts : List T} {ds : List PyData} {vs : List V} {f : List Addr}, shDs ts = some ds → RTs K F H ts vs f → RpAll K F ds vs ∧ f = [] ∧ ts = ds.map T.sh
  | [], ds, vs, f, e, h => by
    simp only [shDs, Option.some.injEq] at e
    subst e
    simp only [RTs] at h
    rw [h.1]
    exact ⟨.nil, h.2, rfl⟩
  | t :: ts, ds, vs, f, e, h => by
    obtain ⟨x, xs, f1, f2, rfl, rfl, r1, r2⟩ := h.uncons
    unfold shDs at e
    split at e
    · rename_i d ds' e1 e2
      cases e
      obtain ⟨q1, rfl, e3⟩ := shDs_rp e2 r2
      cases t with
      | sh d' =>
        simp only [shD, Option.some.injEq] at e1
        subst e1
        simp only [RT] at r1
        obtain ⟨rfl, r1⟩ := r1
        exact ⟨.consI r1 q1, rfl, by simp [e3]⟩
      | lst _ => simp [shD] at e1
    · cases e
theorem pk_rq {K : PySem.W.Frag} {F H : Hp} {η : Env} {σ : St} {fp : List Addr} {i : Nat} {d : PyData} (o : Ok K F H η σ fp) (e : pk η i = some d) : ∃ v, σ[i]? = some (some v) ∧ Rq K F H d v := by
  unfold pk at e
  split at e
  · rename_i t ht
    have hi : i < η.length := (List.getElem?_eq_some_iff.mp ht).1
    obtain ⟨s, g, r, h1, h2, h3, h4⟩ := o.rs.focus hi
    obtain ⟨v, rfl, rt⟩ := h3 _ ht
    refine ⟨v, h1, ?_⟩
    cases t with
    | sh d' =>
      simp only [pkD, Option.some.injEq] at e
      subst e
      simp only [RT] at rt
      exact .inl rt.2
    | lst ts =>
      unfold pkD at e
      simp only at e
      split at e
      · rename_i ds hds
        cases e
        simp only [RT] at rt
        obtain ⟨a, xs, g, rfl, q1, rfl, q2⟩ := rt
        exact .inr ⟨a, xs, ds, rfl, rfl, q1, (shDs_rp hds q2).1⟩
      · cases e
  · cases e

/-! ### operations on two values -/
def rD2 (K : PySem.W.Frag) (op : PyData → PyData → Option T) : R2 := fun x y H Q => ∃ F d e t, Same F H ∧ Rq K F H d x ∧ Rq K F H e y ∧ op d e = some t ∧ Res K F H t Q
def OpD (X : Cx) (f : Value → Value → Sem Value) (op : PyData → PyData → Option T) : Prop := OpR X f (rD2 X.K op)
def fin1 (r : Option T) (η : Env) : Rs (T × Env) := match r with
  | some t => .ok (t, η)
  | none => .bad
def eBin (op : PyData → PyData → Option T) (f g : FE) : FE := fun η => (f η).bind fun p => (g p.2).bind fun q => fin1 (op p.1.val q.1.val) q.2
/-- the end of an operation -/
theorem fin_res {fp : List Addr} {F H : Hp} {σ : St} {ts : List T} {vs : List V} {η1 : Env} {F1 H1 : Hp} {f1 fp1 : List Addr} {r : Option T} {Q : VK} (a : Aft C.K fp F H σ ts vs η1 F1 H1 f1 fp1)
    (h : (fin1 r η1).post (fun p => ∀ v F' H' f1 fp', Aft C.K fp F H σ [p.1] [v] p.2 F' H' f1 fp' → Q v H') (XP C fp F H σ)) : ∃ F2 t, Ok C.K F2 H1 η1 σ fp1 ∧ RpAll C.K F2 (T.vals ts) vs ∧ r = some t ∧ Res C.K F2 H1 t Q := by
  obtain ⟨F2, a2, rp⟩ := a.freeze
  unfold fin1 at h
  split at h
  · rename_i t
    exact ⟨F2, t, a2.ok, rp, rfl, fun v F' H' f r => h v F' H' f fp1 (a2.res r)⟩
  · exact h.elim
theorem t_bin {op : PyData → PyData → Option T} {f g : FE} {σ : St} {H : Hp} {Q : VK} (h : tD C (eBin op f g) σ H Q) : tOp (rD2 C.K op) (tD C f) (tD C g) σ H Q := by
  obtain ⟨η, F, fp, o, q⟩ := h
  refine tD_step o.aft (Rs.post_mono (Rs.post_bind q) (fun p hp x F1 H1 f1 fp1 a => ?_) fun _ _ z => z)
  refine tD_step a (Rs.post_mono (Rs.post_bind hp) (fun p2 hp2 y F2 H2 f2 fp2 b => ?_) fun _ _ z => z)
  obtain ⟨F3, t, s, r, e, k⟩ := fin_res b hp2
  simp only [List.nil_append, List.cons_append, T.vals, RpAll] at r
  obtain ⟨x', xs, e1, r1, y', ys, rfl, r2, rfl⟩ := r
  obtain ⟨rfl, rfl⟩ : x = x' ∧ y = y' := by simpa using e1
  exact ⟨F3, _, _, t, s.fh, .inl r1, .inl r2, e, k⟩
/-- the left operand a name -/
def eBinL (op : PyData → PyData → Option T) (i : Nat) (g : FE) : FE := fun η => (g η).bind fun q => match pk q.2 i with
  | some d => fin1 (op d q.1.val) q.2
  | none => .bad
/-- the right one a name -/
def eBinR (op : PyData → PyData → Option T) (f : FE) (j : Nat) : FE := fun η => (f η).bind fun p => match pk p.2 j with
  | some e => fin1 (op p.1.val e) p.2
  | none => .bad
def eBinLR (op : PyData → PyData → Option T) (i j : Nat) : FE := fun η => match pk η i, pk η j with
  | some d, some e => fin1 (op d e) η
  | _, _ => .bad
theorem slot_now {K : PySem.W.Frag} {F H : Hp} {η η' : Env} {σ : St} {fp : List Addr} {fp0 : List Addr} {F0 H0 : Hp} {i : Nat} {v : V} (h : σ[i]? = some (some v)) {w : V} (h' : σ[i]? = some (some w)) : v = w := by
  rw [h] at h'; cases h'; rfl
theorem pk_some {η : Env} {i : Nat} {P : T × Env → Prop} {E : Ex → Env → Prop} {k : PyData → Rs (T × Env)} (h : (match pk η i with
  | some d => k d
  | none => .bad : Rs (T × Env)).post P E) : ∃ d, pk η i = some d ∧ (k d).post P E := by
  split at h
  · rename_i d e
    exact ⟨d, e, h⟩
  · exact h.elim
/-- a name that is set has a value in its slot; which one does not change while an expression is evaluated -/
def Set (K : PySem.W.Frag) (η : Env) (i : Nat) : Prop := ∃ t, η[i]? = some (some t)
theorem t_binR {op : PyData → PyData → Option T} {f : FE} {j : Nat} {σ : St} {H : Hp} {Q : VK} (h : tD C (eBinR op f j) σ H Q) : tOp (rD2 C.K op) (tD C f) (tVar j) σ H Q := by
  obtain ⟨η, F, fp, o, q⟩ := h
  refine tD_step o.aft (Rs.post_mono (Rs.post_bind q) (fun p hp x F1 H1 f1 fp1 a => ?_) fun _ _ z => z)
  obtain ⟨e, he, hp⟩ := pk_some hp
  obtain ⟨F3, t, s, r, eq, k⟩ := fin_res a hp
  obtain ⟨y, hy, ry⟩ := pk_rq s he
  simp only [List.nil_append, T.vals, RpAll] at r
  obtain ⟨x', xs, e1, r1, rfl⟩ := r
  obtain rfl : x = x' := by simpa using e1
  exact ⟨y, hy, F3, _, _, t, s.fh, .inl r1, ry, eq, k⟩
theorem t_binLR {op : PyData → PyData → Option T} {i j : Nat} {σ : St} {H : Hp} {Q : VK} (h : tD C (eBinLR op i j) σ H Q) : tOp (rD2 C.K op) (tVar i) (tVar j) σ H Q := by
  obtain ⟨η, F, fp, o, q⟩ := h
  unfold eBinLR at q
  split at q
  · rename_i d e hd he
    obtain ⟨F3, t, s, r, eq, k⟩ := fin_res o.aft q
    obtain ⟨x, hx, rx⟩ := pk_rq s hd
    obtain ⟨y, hy, ry⟩ := pk_rq s he
    exact ⟨x, hx, y, hy, F3, d, e, t, s.fh, rx, ry, eq, k⟩
  · exact q.elim
theorem RS.slot {K : PySem.W.Frag} {F H : Hp} {η : Env} {σ : St} {f : List Addr} {i : Nat} {t : T} (h : RS K F H η σ f) (e : η[i]? = some (some t)) : ∃ v, σ[i]? = some (some v) := by
  obtain ⟨s, g, r, h1, h2, h3, h4⟩ := h.focus (List.getElem?_eq_some_iff.mp e).1
  obtain ⟨v, rfl, _⟩ := h3 _ e
  exact ⟨v, h1⟩
/-- the left operand a name: it has a value ahead (the check at the start makes sure of it) -/
def eBinL' (op : PyData → PyData → Option T) (i : Nat) (g : FE) : FE := fun η => match pk η i with
  | some _ => eBinL op i g η
  | none => .bad
theorem t_binL {op : PyData → PyData → Option T} {g : FE} {i : Nat} {σ : St} {H : Hp} {Q : VK} (h : tD C (eBinL' op i g) σ H Q) : tOp (rD2 C.K op) (tVar i) (tD C g) σ H Q := by
  obtain ⟨η, F, fp, o, q⟩ := h
  unfold eBinL' at q
  obtain ⟨d0, h0, q⟩ := pk_some q
  obtain ⟨x, hx, _⟩ := pk_rq o h0
  refine ⟨x, hx, ?_⟩
  unfold eBinL at q
  refine tD_step o.aft (Rs.post_mono (Rs.post_bind q) (fun p hp y F1 H1 f1 fp1 a => ?_) fun _ _ z => z)
  obtain ⟨d, hd, hp⟩ := pk_some hp
  obtain ⟨F3, t, s, r, eq, k⟩ := fin_res a hp
  obtain ⟨x2, hx2, rx⟩ := pk_rq s hd
  obtain rfl : x = x2 := by rw [hx] at hx2; cases hx2; rfl
  simp only [List.nil_append, T.vals, RpAll] at r
  obtain ⟨y', ys, e1, r1, rfl⟩ := r
  obtain rfl : y = y' := by simpa using e1
  exact ⟨F3, _, _, t, s.fh, rx, .inl r1, eq, k⟩
end Pv
set_option Elab.async false
set_option linter.all false
set_option maxRecDepth 100000
set_option maxHeartbeats 4000000
/-! tuple * int at one and at nought -/
namespace L2
open PySem PySem.Spec PyProof.Rows
theorem tuple_mul1 (l : Addr) (items : Array Value) (n : Nat) (dd : Option Addr) (sl : Array (Option Value)) (x : Int) (u : Tok) (c0 : (decide (x < -(2 ^ 63)) || decide (x ≥ 2 ^ 63)) = false) (c1 : (items.isEmpty || x == 1) = true) :
    Meets (Builtin.«tuple.__mul__» ⟨[.ref l, .int x u], []⟩) (fun _ R s => s.heap.get? l = some { cls := .type "tuple", dict := dd, data := .seq items n, slots := sl } ∧ R (.ok (.ret (Value.ref l))) s) :=
  .of_wp fun prog w A R s h => by
    obtain ⟨hp, g, d, tk, os⟩ := s
    obtain ⟨hl, h⟩ := h
    have f1 := AutoSeq1.idx_int
    wp_walk using wpAny_loadPart' hl
    repeat (first
      | (refine wpAny_ite_false (decide_eq_false (by rw [c0]; exact Bool.false_ne_true)) ?_; wp_walk using wpAny_loadPart' hl)
      | (refine wpAny_ite_true (decide_eq_true c1) ?_; wp_walk using wpAny_loadPart' hl))
    exact ⟨_, rfl, h⟩
theorem tuple_mul0 (l : Addr) (items : Array Value) (n : Nat) (dd : Option Addr) (sl : Array (Option Value)) (x : Int) (u : Tok) (c0 : (decide (x < -(2 ^ 63)) || decide (x ≥ 2 ^ 63)) = false) (c1 : (items.isEmpty || x == 1) = false) (c2 : (decide (x ≤ 0) || items.isEmpty) = true) :
    Meets (Builtin.«tuple.__mul__» ⟨[.ref l, .int x u], []⟩) (fun _ R s => s.heap.get? l = some { cls := .type "tuple", dict := dd, data := .seq items n, slots := sl } ∧
      R (.ok (.ret (Value.ref s.heap.objs.size))) { s with heap := s.heap.push { cls := Value.type "tuple", data := Data.seq #[] }, toks := s.toks }) :=
  .of_wp fun prog w A R s h => by
    obtain ⟨hp, g, d, tk, os⟩ := s
    obtain ⟨hl, h⟩ := h
    have f1 := AutoSeq1.idx_int
    wp_walk using wpAny_loadPart' hl
    repeat (first
      | (refine wpAny_ite_false (decide_eq_false (by rw [c0]; exact Bool.false_ne_true)) ?_; wp_walk using wpAny_loadPart' hl)
      | (refine wpAny_ite_false (decide_eq_false (by rw [c1]; exact Bool.false_ne_true)) ?_; wp_walk using wpAny_loadPart' hl)
      | (refine wpAny_ite_true (decide_eq_true c2) ?_; wp_walk using wpAny_loadPart' hl))
    exact ⟨_, rfl, h⟩
def rRepT0 (K : PySem.W.Frag) : R2 := fun x y H Q => ∃ l k xs, x = .ref l ∧ y = .int k ∧ SqT K H l xs ∧ (xs = [] ∨ k ≤ 1) ∧ -1000 ≤ k ∧ k ≤ 1000 ∧ (xs = [] ∨ k = 1 → Q (.ref l) H) ∧ (xs ≠ [] → k ≤ 0 → ∀ p, H p = none → Q (.ref p) (upd H p (.tup [])))
section
variable {X : Cx}
theorem op_repT0 : OpR X (binaryOp .Mult) (rRepT0 X.K) := by
  intro pins s σ H x y v u Q I rx ry h
  obtain ⟨l, k, xs, rfl, rfl, hT, h0, h1, h2, q1, q2⟩ := h
  cases rx
  obtain ⟨t, rfl⟩ := ry
  obtain ⟨its, r, ⟨⟨cls, dd, data, sl⟩, ho, hc, n, hd⟩, hs⟩ := I.tuple hT
  simp only at hc hd
  subst hc hd
  have hle : its.length = xs.length := r.length.symm
  have c0 : (decide (k < -(2 ^ 63)) || decide (k ≥ 2 ^ 63)) = false := by
    rw [decide_eq_false (by omega), decide_eq_false (by omega)] <;> rfl
  have hi : its.toArray.isEmpty = decide (xs = []) := by
    cases its with
    | nil =>
      have : xs = [] := List.eq_nil_of_length_eq_zero hle.symm
      rw [decide_eq_true this]; rfl
    | cons a b =>
      have : xs ≠ [] := fun e => by rw [e] at hle; simp at hle
      rw [decide_eq_false this]; rfl
  by_cases hk : xs = [] ∨ k = 1
  · have c1 : (its.toArray.isEmpty || k == 1) = true := by
      rw [hi]
      rcases hk with hk | hk <;> simp [hk]
    refine wpAny_binaryOp_repeat_ref (T := "tuple") (U := "int") (by decide) ⟨_, ho, rfl⟩ (fun s' => typeIs_int s' k t) noFill_tuple_mul F.fills_int_mul F.slot_int_rmul repeat_tuple F.slot_int_index.lookup
      (call_meets F.slot_int_rmul (typeIs_int s k t) F.entry_int_rmul (F.args_int_rmul_2 _ _) (int_rmul_tuple k t l its.toArray n dd sl)
        ⟨ho, rfl, ⟨_, ho, rfl⟩, call_meets F.slot_tuple_mul ⟨_, ho, rfl⟩ F.entry_tuple_mul (F.args_tuple_mul_2 _ _) (tuple_mul1 l its.toArray n dd sl k t c0 c1) ⟨ho, ?_⟩⟩)
    exact ⟨.ref l, _, I, rfl, q1 hk⟩
  · have hne : xs ≠ [] := fun e => hk (.inl e)
    have hk1 : k ≠ 1 := fun e => hk (.inr e)
    have hk0 : k ≤ 0 := by
      rcases h0 with h0 | h0
      · exact absurd h0 hne
      · omega
    have c1 : (its.toArray.isEmpty || k == 1) = false := by
      rw [hi, decide_eq_false hne, Bool.false_or]
      exact beq_eq_false_iff_ne.mpr hk1
    have c2 : (decide (k ≤ 0) || its.toArray.isEmpty) = true := by rw [decide_eq_true hk0]; rfl
    refine wpAny_binaryOp_repeat_ref (T := "tuple") (U := "int") (by decide) ⟨_, ho, rfl⟩ (fun s' => typeIs_int s' k t) noFill_tuple_mul F.fills_int_mul F.slot_int_rmul repeat_tuple F.slot_int_index.lookup
      (call_meets F.slot_int_rmul (typeIs_int s k t) F.entry_int_rmul (F.args_int_rmul_2 _ _) (int_rmul_tuple k t l its.toArray n dd sl)
        ⟨ho, rfl, ⟨_, ho, rfl⟩, call_meets F.slot_tuple_mul ⟨_, ho, rfl⟩ F.entry_tuple_mul (F.args_tuple_mul_2 _ _) (tuple_mul0 l its.toArray n dd sl k t c0 c1 c2) ⟨ho, ?_⟩⟩)
    refine ⟨.ref s.heap.objs.size, _, I.laid (t' := s.toks) (o := .tup []) (fun b ob q => Heap.get?_push_of_some _ q) (Nat.le_refl _) ?_, rfl, q2 hne hk0 _ (I.hok.fresh (Nat.le_refl _))⟩
    exact ⟨by rw [sizeLine_eq]; decide, [], .nil, IsTup.new _ _⟩
end
end L2
set_option Elab.async false
set_option linter.all false
set_option maxRecDepth 100000
set_option maxHeartbeats 4000000
namespace Pv
open PySem L2
section
variable {X : Cx}
structure Good (X : Cx) : Prop where
  calm : X.calm = true
  room : X.A.units + 66 < cLine
  gd : X.A.guards = some []

theorem Res.sh {K : PySem.W.Frag} {F H : Hp} {d : PyData} {v : V} {Q : VK} (k : Res K F H (.sh d) Q) (s : Same F H) (h : Rp K F d v) : Q v H := k v F H [] (.here s h)
theorem Res.int {K : PySem.W.Frag} {F H : Hp} {i : Int} {Q : VK} (k : Res K F H (.sh (.int i)) Q) (s : Same F H) : Q (.int i) H := k.sh s rp_c.1
theorem Res.bool {K : PySem.W.Frag} {F H : Hp} {i : Bool} {Q : VK} (k : Res K F H (.sh (.bool i)) Q) (s : Same F H) : Q (.bl i) H := k.sh s rp_c.2.1
theorem Res.none' {K : PySem.W.Frag} {F H : Hp} {Q : VK} (k : Res K F H (.sh .none) Q) (s : Same F H) : Q .non H := k.sh s rp_c.2.2.2
theorem rp_int {K : PySem.W.Frag} {F : Hp} {i : Int} {v : V} (h : Rp K F (.int i) v) : v = .int i := by simpa only [Rp] using h
theorem rp_bool {K : PySem.W.Frag} {F : Hp} {i : Bool} {v : V} (h : Rp K F (.bool i) v) : v = .bl i := by simpa only [Rp] using h
theorem rp_str {K : PySem.W.Frag} {F : Hp} {i : Str} {v : V} (h : Rp K F (.str i) v) : v = .str i := by simpa only [Rp] using h
theorem rp_none {K : PySem.W.Frag} {F : Hp} {v : V} (h : Rp K F .none v) : v = .non := by simpa only [Rp] using h
theorem rp_list {K : PySem.W.Frag} {F : Hp} {ds : List PyData} {v : V} (h : Rp K F (.list ds) v) : ∃ a xs, v = .ref a ∧ SqL K F a xs ∧ RpAll K F ds xs := by simpa only [Rp] using h
theorem rp_tup {K : PySem.W.Frag} {F : Hp} {ds : List PyData} {v : V} (h : Rp K F (.tuple ds) v) : ∃ a xs, v = .ref a ∧ SqT K F a xs ∧ RpAll K F ds xs := by simpa only [Rp] using h

/-- ints under a condition -/
def iop (c : Int → Int → Bool) (g : Int → Int → Int) : PyData → PyData → Option T
  | .int i, .int j => if c i j then some (.sh (.int (g i j))) else none
  | _, _ => none
theorem iop_ok {f : Value → Value → Sem Value} {C : Int → Int → Prop} {c : Int → Int → Bool} {g : Int → Int → Int} (ho : OpR X f (rI C fun i j => .int (g i j))) (hc : ∀ i j, c i j = true → C i j) : OpD X f (iop c g) := by
  intro pins s σ H x y v u Q I rx ry ⟨F, d, e, t, fh, r1, r2, eq, k⟩
  unfold iop at eq
  split at eq
  · rename_i i j
    split at eq
    · rename_i hcc
      cases eq
      cases rq_int r1
      cases rq_int r2
      exact ho pins s σ H _ _ v u Q I rx ry ⟨i, j, rfl, rfl, hc _ _ hcc, k.int fh⟩
    · cases eq
  · cases eq
def iop0 (g : Int → Int → Int) : PyData → PyData → Option T
  | .int i, .int j => some (.sh (.int (g i j)))
  | _, _ => none
theorem iop0_ok {f : Value → Value → Sem Value} {g : Int → Int → Int} (ho : OpR X f (rI0 fun i j => .int (g i j))) : OpD X f (iop0 g) := by
  intro pins s σ H x y v u Q I rx ry ⟨F, d, e, t, fh, r1, r2, eq, k⟩
  unfold iop0 at eq
  split at eq
  · rename_i i j
    cases eq
    cases rq_int r1
    cases rq_int r2
    exact ho pins s σ H _ _ v u Q I rx ry ⟨i, j, rfl, rfl, k.int fh⟩
  · cases eq
/-- a new list from a value-level rule -/
theorem Res.lstQ {K : PySem.W.Frag} {F H : Hp} {ds : List PyData} {xs : List V} {Q : VK} (k : Res K F H (.lst (ds.map T.sh)) Q) (s : Same F H) (h : RpAll K F ds xs) : ∀ p, H p = none → Q (.ref p) (upd H p (.lst xs)) :=
  fun p hp => k _ _ _ _ (.lst s h hp)
theorem Res.tupQ {K : PySem.W.Frag} {F H : Hp} {ds : List PyData} {xs : List V} {Q : VK} (k : Res K F H (.sh (.tuple ds)) Q) (s : Same F H) (h : RpAll K F ds xs) : ∀ p, H p = none → Q (.ref p) (upd H p (.tup xs)) :=
  fun p hp => k _ _ _ _ (.tup s h hp)

/-! ### + -/
def opAdd : PyData → PyData → Option T
  | .int i, .int j => some (.sh (.int (i + j)))
  | .tuple a, .tuple b => if a.length + b.length ≤ 16777216 then some (.sh (.tuple (a ++ b))) else none
  | .list a, .list b => if a.length + b.length ≤ 16777216 then some (.lst ((a ++ b).map T.sh)) else none
  | .str a, .str b => if a.length + b.length ≤ 16777216 then some (.sh (.str (a ++ b))) else none
  | .int i, .bool b => some (.sh (.int (i + PyProof.Rows.b2i b)))
  | _, _ => none
/-- list + list, read -/
theorem cat_sq {pins : List (Addr × Obj)} {σ : St} {H : Hp} {s : Shared} {Q : VK} {l b : Addr} {xs zs : List V} (I : Inv X pins σ H s) (hH : SqL X.K H l xs) (hB : SqL X.K H b zs) (hz : xs.length + zs.length ≤ sizeLine)
    (q : ∀ p, H p = none → Q (.ref p) (upd H p (.lst (xs ++ zs)))) : wpAny (model X.prog X.w) X.A (binaryOp .Add (.ref l) (.ref b)) (EP X pins σ Q) X.xe s := by
  obtain ⟨its, r, ⟨⟨cls, dd, data, sl⟩, n, e, hc, hd0, hd⟩, _⟩ := I.list hH
  obtain ⟨its2, r2, ⟨⟨cls2, dd2, data2, sl2⟩, n2, e2, hc2, hd02, hd2⟩, _⟩ := I.list hB
  simp only at hc hd hd0 hc2 hd2 hd02
  subst hc hd hd0 hc2 hd2 hd02
  have ea : its.toArray ++ its2.toArray = (its ++ its2).toArray := by simp
  have h1 := r.length
  have h2 := r2.length
  refine PySem.concat_meets ⟨_, e, rfl⟩ ⟨_, e2, rfl⟩ noFill_list_add seq_list_add PySem.F.slot_list_add PySem.F.entry_list_add (PySem.F.args_list_add_2 _ _) (PyProof.Rows.list_addW l b its.toArray its2.toArray n n2 none none sl sl2 (by rw [List.size_toArray, List.size_toArray]; omega)) ⟨e, e2, ?_⟩
  rw [ea]
  exact ⟨.ref _, _, I.lnew (t' := s.toks) (r.append r2) (by rw [List.length_append]; omega), rfl, q _ I.fresh⟩
theorem int_rmul_listW (a : Int) (t : Tok) (l : Addr) (items : Array Value) (n : Nat) (dd : Option Addr) (sl : Array (Option Value)) :
    Meets (Builtin.«int.__rmul__» ⟨[.int a t, .ref l], []⟩) (fun _ R s => s.heap.get? l = some { cls := .type "list", dict := dd, data := .seq items n, slots := sl } ∧ R (.ok (.ret Value.notImplemented)) s) :=
  .of_wp fun prog w A R s h => by obtain ⟨hp, g, d, tk, os⟩ := s; obtain ⟨hl, h⟩ := h; wp_walk using wpAny_loadPart' hl; exact ⟨_, rfl, h⟩
theorem list_mulW (l : Addr) (items : Array Value) (n : Nat) (dd : Option Addr) (sl : Array (Option Value)) (x : Int) (u : Tok) (hc0 : ¬(!Builtin.List.listFitsIndex x) = true) (hc1 : ¬items.size * x.toNat > (2 ^ 63 - 1) / 8) (hc2 : ¬Builtin.List.listTooLong (items.size * x.toNat) = true) :
    Meets (Builtin.«list.__mul__» ⟨[.ref l, .int x u], []⟩) (fun _ R s => s.heap.get? l = some { cls := .type "list", dict := dd, data := .seq items n, slots := sl } ∧ R (.ok (.ret (Value.ref s.heap.objs.size))) { s with heap := s.heap.push { cls := Value.type "list", data := Data.seq (List.foldl (fun x1 x2 => x1 ++ x2) #[] (List.replicate (if items.isEmpty = true then 0 else x.toNat) items)) }, toks := s.toks }) :=
  .of_wp fun prog w A R s h => by
    obtain ⟨hp, g, d, tk, os⟩ := s; obtain ⟨hl, h⟩ := h
    have hsz := PySem.AutoListH.joined_fits hc2
    have f1 := AutoSeq1.idx_int
    wp_walk using wpAny_loadPart' hl; refine wpAny_ite_false (decide_eq_false (Nat.not_lt.mpr hsz)) ?_; wp_walk using wpAny_loadPart' hl; exact ⟨_, rfl, h⟩
theorem rep_sq {pins : List (Addr × Obj)} {σ : St} {H : Hp} {s : Shared} {Q : VK} {l : Addr} {xs : List V} {k : Int} {t : Tok} (I : Inv X pins σ H s) (hH : SqL X.K H l xs) (h1 : -(2 ^ 63) ≤ k) (h2 : k < 2 ^ 63) (hz : xs.length * k.toNat ≤ sizeLine)
    (q : ∀ p, H p = none → Q (.ref p) (upd H p (.lst (List.replicate k.toNat xs).flatten))) : wpAny (model X.prog X.w) X.A (binaryOp .Mult (.ref l) (.int k t)) (EP X pins σ Q) X.xe s := by
  obtain ⟨its, r, ⟨⟨cls, dd, data, sl⟩, n, e, hc, hd0, hd⟩, _⟩ := I.list hH
  simp only at hc hd hd0
  subst hc hd hd0
  have hl := r.length
  have hlen : its.toArray.size * k.toNat ≤ sizeLine := by rw [List.size_toArray, ← hl]; exact hz
  have hcap : ¬ its.toArray.size * k.toNat > (2 ^ 63 - 1) / 8 := by
    have : (sizeLine : Nat) ≤ (2 ^ 63 - 1) / 8 := by decide
    omega
  have hfit : ¬ (!Builtin.List.listFitsIndex k) = true := by
    rw [fitsIndex_both h1 h2]
    exact Bool.false_ne_true
  have hlong : ¬ Builtin.List.listTooLong (its.toArray.size * k.toNat) = true := by
    rw [notLongL hlen]
    exact Bool.false_ne_true
  have hnew : List.foldl (fun x1 x2 => x1 ++ x2) #[] (List.replicate (if its.toArray.isEmpty = true then 0 else k.toNat) its.toArray) = (List.replicate k.toNat its).flatten.toArray := by
    have f0 : ∀ m : Nat, List.foldl (fun x1 x2 => x1 ++ x2) #[] (List.replicate m its.toArray) = (List.replicate m its).flatten.toArray := fun m => by
      have := foldl_rep its m []
      rw [List.nil_append] at this
      exact this
    rw [f0]
    cases its with
    | nil => simp
    | cons a r' => rw [if_neg (by simp)]
  refine wpAny_binaryOp_repeat_ref (T := "list") (U := "int") (by decide) ⟨_, e, rfl⟩ (fun s' => typeIs_int s' k t) noFill_list_mul F.fills_int_mul F.slot_int_rmul repeat_list F.slot_int_index.lookup
    (call_meets F.slot_int_rmul (typeIs_int s k t) F.entry_int_rmul (F.args_int_rmul_2 _ _) (int_rmul_listW k t l its.toArray n none sl)
      ⟨e, rfl, ⟨_, e, rfl⟩, call_meets F.slot_list_mul ⟨_, e, rfl⟩ F.entry_list_mul (F.args_list_mul_2 _ _) (list_mulW l its.toArray n none sl k t hfit hcap hlong) ⟨e, ?_⟩⟩)
  rw [hnew]
  exact ⟨.ref _, _, I.lnew (t' := s.toks) (r.rep k.toNat) (by rw [PyProof.Rows.lm_len_rep_flat, Nat.mul_comm]; exact hz), rfl, q _ I.fresh⟩
theorem opAdd_ok : OpD X (binaryOp .Add) opAdd := by
  intro pins s σ H x y v u Q I rx ry ⟨F, d, e, t, fh, r1, r2, eq, k⟩
  unfold opAdd at eq
  split at eq
  · rename_i i j
    cases eq
    cases rq_int r1
    cases rq_int r2
    exact op_add pins s σ H _ _ v u Q I rx ry ⟨i, j, rfl, rfl, k.int fh⟩
  · rename_i a b
    split at eq
    · rename_i hl
      cases eq
      obtain ⟨p, xs, rfl, q1, w1⟩ := rq_tup r1
      obtain ⟨p2, ys, rfl, q2, w2⟩ := rq_tup r2
      have l1 := w1.len
      have l2 := w2.len
      refine op_catA pins s σ H _ _ v u Q I rx ry ⟨p, p2, xs, ys, rfl, rfl, sqT_mono fh q1, sqT_mono fh q2, by rw [sizeLine_eq]; omega, fun e => ?_, fun _ e => ?_, fun _ _ => k.tupQ fh (w1.append w2)⟩
      · subst e
        have : a = [] := List.eq_nil_of_length_eq_zero (by simpa using l1.symm)
        subst this
        refine k.sh fh ?_
        simp only [Rp]
        exact ⟨p2, ys, rfl, q2, by simpa using w2⟩
      · subst e
        have : b = [] := List.eq_nil_of_length_eq_zero (by simpa using l2.symm)
        subst this
        refine k.sh fh ?_
        simp only [Rp]
        exact ⟨p, xs, rfl, q1, by simpa using w1⟩
    · cases eq
  · rename_i a b
    split at eq
    · rename_i hl
      cases eq
      obtain ⟨p, xs, rfl, q1, w1⟩ := rq_list fh r1
      obtain ⟨p2, ys, rfl, q2, w2⟩ := rq_list fh r2
      have l1 := w1.len
      have l2 := w2.len
      cases rx
      cases ry
      exact cat_sq I q1 q2 (by rw [sizeLine_eq]; omega) (k.lstQ fh (w1.append w2))
    · cases eq
  · rename_i a b
    split at eq
    · rename_i hl
      cases eq
      cases rq_str r1
      cases rq_str r2
      exact op_add_str pins s σ H _ _ v u Q I rx ry ⟨a, b, rfl, rfl, hl, k.sh fh rp_c.2.2.1⟩
    · cases eq
  · rename_i i b
    cases eq
    cases rq_int r1
    cases rq_bool r2
    exact op_add_ib pins s σ H _ _ v u Q I rx ry ⟨i, b, rfl, rfl, k.int fh⟩
  · cases eq
def opSub : PyData → PyData → Option T := iop0 fun i j => i - j
theorem opSub_ok : OpD X (binaryOp .Sub) opSub := iop0_ok op_sub
/-! ### * -/
def small64 (i : Int) : Bool := decide (-18446744073709551616 < i) && decide (i < 18446744073709551616)
def mulFits (i j : Int) : Bool := small64 i || small64 j || decide (i.natAbs.log2 + j.natAbs.log2 < 1000000)
def opMul : PyData → PyData → Option T
  | .int i, .int j => if mulFits i j then some (.sh (.int (i * j))) else none
  | .list a, .int k => if a.length * k.toNat ≤ 16777216 ∧ -1000000000 ≤ k ∧ k ≤ 1000000000 then some (.lst ((List.replicate k.toNat a).flatten.map T.sh)) else none
  | .tuple a, .int k => if -1000 ≤ k ∧ k ≤ 1000 ∧ a.length ≤ 1000 then some (.sh (.tuple (List.replicate k.toNat a).flatten)) else none
  | _, _ => none
theorem RpAll.rep {K : PySem.W.Frag} {F : Hp} {ds : List PyData} {vs : List V} (h : RpAll K F ds vs) : ∀ n, RpAll K F (List.replicate n ds).flatten (List.replicate n vs).flatten
  | 0 => by simpa using RpAll.nil
  | n + 1 => by
    rw [List.replicate_succ, List.replicate_succ, List.flatten_cons, List.flatten_cons]
    exact h.append (h.rep n)
theorem opMul_ok : OpD X (binaryOp .Mult) opMul := by
  intro pins s σ H x y v u Q I rx ry ⟨F, d, e, t, fh, r1, r2, eq, k⟩
  unfold opMul at eq
  split at eq
  · rename_i i j
    split at eq
    · rename_i hc
      cases eq
      cases rq_int r1
      cases rq_int r2
      unfold mulFits small64 at hc
      simp only [Bool.or_eq_true, Bool.and_eq_true, decide_eq_true_eq] at hc
      have e64 : (2 : Int) ^ 64 = 18446744073709551616 := by decide
      rcases hc with (hc | hc) | hc
      · exact op_mul pins s σ H _ _ v u Q I rx ry ⟨i, j, rfl, rfl, .inl (by rw [e64]; exact hc), k.int fh⟩
      · exact op_mul pins s σ H _ _ v u Q I rx ry ⟨i, j, rfl, rfl, .inr (by rw [e64]; exact hc), k.int fh⟩
      · exact op_mulW pins s σ H _ _ v u Q I rx ry ⟨i, j, rfl, rfl, hc, k.int fh⟩
    · cases eq
  · rename_i a n
    split at eq
    · rename_i hl
      cases eq
      obtain ⟨p, xs, rfl, q1, w1⟩ := rq_list fh r1
      cases rq_int r2
      have l1 := w1.len
      cases rx
      obtain ⟨t, rfl⟩ := ry
      have e63 : (2 : Int) ^ 63 = 9223372036854775808 := by decide
      exact rep_sq I q1 (by rw [e63]; omega) (by rw [e63]; omega) (by rw [l1, sizeLine_eq]; exact hl.1) (k.lstQ fh (w1.rep _))
    · cases eq
  · rename_i a n
    split at eq
    · rename_i hl
      cases eq
      obtain ⟨p, xs, rfl, q1, w1⟩ := rq_tup r1
      cases rq_int r2
      have l1 := w1.len
      by_cases h0 : xs = [] ∨ n ≤ 1
      · refine op_repT0 pins s σ H _ _ v u Q I rx ry ⟨p, n, xs, rfl, rfl, sqT_mono fh q1, h0, hl.1, hl.2.1, fun e => ?_, fun e e0 => ?_⟩
        · have ea : (List.replicate n.toNat a).flatten = a := by
            rcases e with e | e
            · subst e
              obtain rfl : a = [] := List.eq_nil_of_length_eq_zero (by simpa using l1.symm)
              simp
            · subst e
              simp
          rw [ea] at k
          refine k.sh fh ?_
          simp only [Rp]
          exact ⟨p, xs, rfl, q1, w1⟩
        · have e1 : n.toNat = 0 := by omega
          rw [e1] at k
          exact k.tupQ fh (by simpa using RpAll.nil)
      · refine op_repT pins s σ H _ _ v u Q I rx ry ⟨p, n, xs, rfl, rfl, sqT_mono fh q1, fun e => h0 (.inl e), by omega, hl.2.1, by omega, k.tupQ fh (w1.rep _)⟩
    · cases eq
  · cases eq
/-! ### //, %, **, shifts, bits -/
def opFdiv : PyData → PyData → Option T := iop (fun _ j => decide (0 < j) && decide (j.natAbs.log2 < 9000)) fun i j => i / j
theorem opFdiv_ok : OpD X (binaryOp .FloorDiv) opFdiv := iop_ok op_fdivW fun i j h => by
  simp only [Bool.and_eq_true, decide_eq_true_eq] at h
  exact h
def opMod : PyData → PyData → Option T := iop (fun _ j => decide (0 < j)) fun i j => i % j
theorem opMod_ok : OpD X (binaryOp .Mod) opMod := iop_ok op_mod fun i j h => by simpa using h
def opPow : PyData → PyData → Option T := iop (fun i j => decide (0 ≤ j ∧ j ≤ 1000000 ∧ i.natAbs < 18446744073709551616)) fun i j => i ^ j.toNat
theorem opPow_ok : OpD X (binaryOp .Pow) opPow := iop_ok op_pow fun i j h => of_decide_eq_true (p := 0 ≤ j ∧ j ≤ 1000000 ∧ i.natAbs < 2 ^ 64) h
def opShl : PyData → PyData → Option T := iop (fun i j => decide (0 ≤ j ∧ j ≤ 1000000 ∧ i.natAbs < 18446744073709551616)) fun i j => i * 2 ^ j.toNat
theorem opShl_ok : OpD X (binaryOp .LShift) opShl := iop_ok op_shl fun i j h => of_decide_eq_true (p := 0 ≤ j ∧ j ≤ 1000000 ∧ i.natAbs < 2 ^ 64) h
def opShr : PyData → PyData → Option T := iop (fun _ j => decide (0 ≤ j)) fun i j => i / 2 ^ j.toNat
theorem opShr_ok : OpD X (binaryOp .RShift) opShr := iop_ok op_shr fun i j h => by simpa using h
def opBand : PyData → PyData → Option T := iop0 Builtin.bitAnd
theorem opBand_ok : OpD X (binaryOp .BitAnd) opBand := iop0_ok op_and
def opBor : PyData → PyData → Option T := iop0 Builtin.bitOr
theorem opBor_ok : OpD X (binaryOp .BitOr) opBor := iop0_ok op_or
def opBxor : PyData → PyData → Option T := iop0 Builtin.bitXor
theorem opBxor_ok : OpD X (binaryOp .BitXor) opBxor := iop0_ok op_xor

/-! ### comparisons -/
def shp (d : PyData) : Bool := SeqAt.shaped d
def opEq (d e : PyData) : Option T := if shp d && shp e then some (.sh (.bool (PyData.eqv d e))) else none
def opNe (d e : PyData) : Option T := if shp d && shp e then some (.sh (.bool (!PyData.eqv d e))) else none
theorem opEq_ok (g : Good X) : OpD X (compareOp .Eq) opEq := by
  intro pins s σ H x y v u Q I rx ry ⟨F, d, e, t, fh, r1, r2, eq, k⟩
  unfold opEq at eq
  split at eq
  · rename_i h
    cases eq
    simp only [Bool.and_eq_true] at h
    have := g.room
    exact op_eqD (by omega) pins s σ H _ _ v u Q I rx ry ⟨d, e, (r1.dp fh (SeqAt.canLay_of_shaped h.1)), (r2.dp fh (SeqAt.canLay_of_shaped h.2)), h.1, h.2, k.bool fh⟩
  · cases eq
theorem opNe_ok (g : Good X) : OpD X (compareOp .NotEq) opNe := by
  intro pins s σ H x y v u Q I rx ry ⟨F, d, e, t, fh, r1, r2, eq, k⟩
  unfold opNe at eq
  split at eq
  · rename_i h
    cases eq
    simp only [Bool.and_eq_true] at h
    have := g.room
    exact op_neD (by omega) pins s σ H _ _ v u Q I rx ry ⟨d, e, (r1.dp fh (SeqAt.canLay_of_shaped h.1)), (r2.dp fh (SeqAt.canLay_of_shaped h.2)), h.1, h.2, k.bool fh⟩
  · cases eq
def isNone : PyData → Bool
  | .none => true
  | _ => false
def opIs : PyData → PyData → Option T
  | d, .none => some (.sh (.bool (isNone d)))
  | .bool a, .bool b => some (.sh (.bool (a == b)))
  | _, _ => none
def opIsNot : PyData → PyData → Option T
  | d, .none => some (.sh (.bool (!isNone d)))
  | .bool a, .bool b => some (.sh (.bool (!(a == b))))
  | _, _ => none
theorem rp_non {K : PySem.W.Frag} {F H : Hp} {d : PyData} {v : V} (fh : Same F H) (h : Rq K F H d v) : decide (v = V.non) = isNone d := by
  cases d with
  | none => rw [rq_none h]; rfl
  | bool b => rw [rq_bool h]; rfl
  | int b => rw [rq_int h]; rfl
  | str b => rw [rq_str h]; rfl
  | list b => obtain ⟨_, _, rfl, _⟩ := rq_list fh h; rfl
  | tuple b => obtain ⟨_, _, rfl, _⟩ := rq_tup h; rfl
  | dict b => obtain ⟨_, _, rfl, _⟩ := rq_dict fh h; rfl
theorem beq_dec (a b : Bool) : decide (a = b) = (a == b) := by cases a <;> cases b <;> rfl
theorem opIs_ok : OpD X (compareOp .Is) opIs := by
  intro pins s σ H x y v u Q I rx ry ⟨F, d, e, t, fh, r1, r2, eq, k⟩
  unfold opIs at eq
  split at eq
  · cases eq
    cases rq_none r2
    exact op_isN pins s σ H _ _ v u Q I rx ry ⟨rfl, by rw [rp_non fh r1]; exact k.bool fh⟩
  · rename_i a b
    cases eq
    cases rq_bool r1
    cases rq_bool r2
    exact op_is_bl pins s σ H _ _ v u Q I rx ry ⟨a, b, rfl, rfl, by rw [beq_dec]; exact k.bool fh⟩
  · cases eq
theorem opIsNot_ok : OpD X (compareOp .IsNot) opIsNot := by
  intro pins s σ H x y v u Q I rx ry ⟨F, d, e, t, fh, r1, r2, eq, k⟩
  unfold opIsNot at eq
  split at eq
  · cases eq
    cases rq_none r2
    exact op_notN pins s σ H _ _ v u Q I rx ry ⟨rfl, by rw [rp_non fh r1]; exact k.bool fh⟩
  · rename_i a b
    cases eq
    cases rq_bool r1
    cases rq_bool r2
    exact op_isnot_bl pins s σ H _ _ v u Q I rx ry ⟨a, b, rfl, rfl, by rw [beq_dec]; exact k.bool fh⟩
  · cases eq
/-- alike data in order -/
def cmpOk (d e : PyData) : Bool := W.alike d e && !isNone d && decide (d.depth ≤ 60) && d.canLay0 && e.canLay0
def opCmp (pi : Int → Int → Bool) (pd : PyData → PyData → Bool) : PyData → PyData → Option T
  | .int i, .int j => some (.sh (.bool (pi i j)))
  | d, e => if cmpOk d e then some (.sh (.bool (pd d e))) else none
def opLt : PyData → PyData → Option T := opCmp (fun i j => decide (i < j)) W.dataLt
def opLe : PyData → PyData → Option T := opCmp (fun i j => decide (i ≤ j)) fun d e => !W.dataLt e d
def opGt : PyData → PyData → Option T := opCmp (fun i j => decide (j < i)) fun d e => W.dataLt e d
def opGe : PyData → PyData → Option T := opCmp (fun i j => decide (j ≤ i)) fun d e => !W.dataLt d e
theorem isNone_ne {d : PyData} (h : isNone d = false) : d ≠ .none := by
  intro e; subst e; cases h
theorem opCmp_ok {op : CmpOp} {pi : Int → Int → Bool} {pd : PyData → PyData → Bool} (g : Good X) (ho : OpR X (compareOp op) (rI0 fun i j => .bl (pi i j)))
    (hd : ∀ {E : Value → Shared → Prop} {s : Shared} {a b : Value} {da db : PyData} {as bs : List Addr} {Q : Value → Shared → Prop}, Reads s.heap a da as → Reads s.heap b db bs → W.alike da db = true → da ≠ .none → X.A.units + min da.depth db.depth < cLine → Q (.bool (pd da db)) s → wpAny (model X.prog X.w) X.A (compareOp op a b) Q E s) :
    OpD X (compareOp op) (opCmp pi pd) := by
  intro pins s σ H x y v u Q I rx ry ⟨F, d, e, t, fh, r1, r2, eq, k⟩
  unfold opCmp at eq
  split at eq
  · rename_i i j
    cases eq
    cases rq_int r1
    cases rq_int r2
    exact ho pins s σ H _ _ v u Q I rx ry ⟨i, j, rfl, rfl, k.bool fh⟩
  · split at eq
    · rename_i h
      cases eq
      unfold cmpOk at h
      simp only [Bool.and_eq_true, decide_eq_true_eq, Bool.not_eq_true'] at h
      obtain ⟨as, ra⟩ := Dp.reads I d x v (r1.dp fh h.1.2) rx
      obtain ⟨bs, rb⟩ := Dp.reads I e y u (r2.dp fh h.2) ry
      have := g.room
      have hm : min d.depth e.depth ≤ d.depth := Nat.min_le_left _ _
      have hd60 := h.1.1.2
      exact hd ra rb h.1.1.1.1 (isNone_ne h.1.1.1.2) (by omega) ⟨.bl _, H, I, rfl, k.bool fh⟩
    · cases eq
theorem opLt_ok (g : Good X) : OpD X (compareOp .Lt) opLt := opCmp_ok g op_lt W.lt_data
theorem opLe_ok (g : Good X) : OpD X (compareOp .LtE) opLe := opCmp_ok g op_le W.le_data
theorem opGt_ok (g : Good X) : OpD X (compareOp .Gt) opGt := opCmp_ok g op_gt W.gt_data
theorem opGe_ok (g : Good X) : OpD X (compareOp .GtE) opGe := opCmp_ok g op_ge W.ge_data
/-- in -/
def inD (d : PyData) (es : List PyData) : Bool := es.any fun z => PyData.eqv z d
def shpAll (es : List PyData) : Bool := shp (.list es)
def opIn : PyData → PyData → Option T
  | d, .list es => if shp d && shpAll es then some (.sh (.bool (inD d es))) else none
  | d, .tuple es => if shp d && shpAll es then some (.sh (.bool (inD d es))) else none
  | _, _ => none
def opNotIn : PyData → PyData → Option T
  | d, .list es => if shp d && shpAll es then some (.sh (.bool (!inD d es))) else none
  | d, .tuple es => if shp d && shpAll es then some (.sh (.bool (!inD d es))) else none
  | _, _ => none
theorem opIn_ok (g : Good X) : OpD X (compareOp .In) opIn := by
  intro pins s σ H x y v u Q I rx ry ⟨F, d, e, t, fh, r1, r2, eq, k⟩
  have hu := g.room
  unfold opIn at eq
  split at eq
  · split at eq
    · rename_i es h
      cases eq
      simp only [Bool.and_eq_true] at h
      exact op_inD (by omega) pins s σ H _ _ v u Q I rx ry ⟨d, es, (r1.dp fh (SeqAt.canLay_of_shaped h.1)), (r2.dp fh (SeqAt.canLay_of_shaped h.2)), h.1, h.2, k.bool fh⟩
    · cases eq
  · split at eq
    · rename_i es h
      cases eq
      simp only [Bool.and_eq_true] at h
      obtain ⟨as, ra⟩ := Dp.reads I d x v (r1.dp fh (SeqAt.canLay_of_shaped h.1)) rx
      obtain ⟨bs, rb⟩ := Dp.reads I (.tuple es) y u (r2.dp fh (SeqAt.canLay_of_shaped h.2)) ry
      refine SeqAt.in_tuple_reads rb ra (SeqAt.canLay_of_shaped h.2) (SeqAt.canLay_of_shaped h.1) (PyProof.Rows.room_in_shaped h.1 (by omega)) ⟨.bl _, H, I, rfl, k.bool fh⟩
    · cases eq
  · cases eq
theorem opNotIn_ok (g : Good X) : OpD X (compareOp .NotIn) opNotIn := by
  intro pins s σ H x y v u Q I rx ry ⟨F, d, e, t, fh, r1, r2, eq, k⟩
  have hu := g.room
  unfold opNotIn at eq
  split at eq
  · split at eq
    · rename_i es h
      cases eq
      simp only [Bool.and_eq_true] at h
      exact op_notInD (by omega) pins s σ H _ _ v u Q I rx ry ⟨d, es, (r1.dp fh (SeqAt.canLay_of_shaped h.1)), (r2.dp fh (SeqAt.canLay_of_shaped h.2)), h.1, h.2, k.bool fh⟩
    · cases eq
  · split at eq
    · rename_i es h
      cases eq
      simp only [Bool.and_eq_true] at h
      obtain ⟨as, ra⟩ := Dp.reads I d x v (r1.dp fh (SeqAt.canLay_of_shaped h.1)) rx
      obtain ⟨bs, rb⟩ := Dp.reads I (.tuple es) y u (r2.dp fh (SeqAt.canLay_of_shaped h.2)) ry
      refine SeqAt.notIn_tuple_reads rb ra (SeqAt.canLay_of_shaped h.2) (SeqAt.canLay_of_shaped h.1) (PyProof.Rows.room_in_shaped h.1 (by omega)) ⟨.bl _, H, I, rfl, k.bool fh⟩
    · cases eq
  · cases eq
end
end Pv
set_option Elab.async false
set_option linter.all false
set_option maxRecDepth 100000
set_option maxHeartbeats 4000000
namespace Pv
open PySem L2
variable {X : Cx} {C : Cn}

/-! ### binary operations, comparisons -/
section
variable {e : Expr} {op : PyData → PyData → Option T} {f g : FE} {i j : Nat}
theorem pd_bin (hK : C.K = X.K) (h : PE X e (tOp (rD2 X.K op) (tD C f) (tD C g))) : PE X e (tD C (eBin op f g)) := by
  rw [← hK] at h
  exact h.impD fun _ _ _ => t_bin
theorem pd_binL (hK : C.K = X.K) (h : PE X e (tOp (rD2 X.K op) (tVar i) (tD C g))) : PE X e (tD C (eBinL' op i g)) := by
  rw [← hK] at h
  exact h.impD fun _ _ _ => t_binL
theorem pd_binR (hK : C.K = X.K) (h : PE X e (tOp (rD2 X.K op) (tD C f) (tVar j))) : PE X e (tD C (eBinR op f j)) := by
  rw [← hK] at h
  exact h.impD fun _ _ _ => t_binR
theorem pd_binLR (hK : C.K = X.K) (h : PE X e (tOp (rD2 X.K op) (tVar i) (tVar j))) : PE X e (tD C (eBinLR op i j)) := by
  rw [← hK] at h
  exact h.impD fun _ _ _ => t_binLR
end
/-! ### tests -/
def bT (f : FE) : FB := fun η => (f η).bind fun p => match p.1 with
  | .sh (.bool b) => .ok (b, p.2)
  | _ => .bad
theorem rt_bool {K : PySem.W.Frag} {F H : Hp} {b : Bool} {v : V} {f : List Addr} (h : RT K F H (.sh (.bool b)) v f) : v = .bl b ∧ f = [] := by
  simp only [RT, Rp] at h
  exact ⟨h.2, h.1⟩
theorem rt_int {K : PySem.W.Frag} {F H : Hp} {b : Int} {v : V} {f : List Addr} (h : RT K F H (.sh (.int b)) v f) : v = .int b ∧ f = [] := by
  simp only [RT, Rp] at h
  exact ⟨h.2, h.1⟩
/-- one value that is a scalar is dropped -/
theorem Aft.drop1 {K : PySem.W.Frag} {fp : List Addr} {F H : Hp} {σ : St} {t : T} {v : V} {η' : Env} {F' H' : Hp} {f1 fp' : List Addr} (a : Aft K fp F H σ [t] [v] η' F' H' f1 fp') : Aft K fp F H σ [] [] η' F' H' [] fp' :=
  ⟨.nil, a.rs, (List.nodup_append.mp a.nd).2.1, fun x hx => a.fn x (by simp at hx; simp [hx]), a.fh, a.ext, fun x hx => a.sub x (by simp at hx; simp [hx])⟩
theorem Aft.rt1 {K : PySem.W.Frag} {fp : List Addr} {F H : Hp} {σ : St} {t : T} {v : V} {η' : Env} {F' H' : Hp} {f1 fp' : List Addr} (a : Aft K fp F H σ [t] [v] η' F' H' f1 fp') : RT K F' H' t v f1 := by
  obtain ⟨x, xs, g1, g2, e1, e2, r1, r2⟩ := a.rt.uncons
  simp only [RTs] at r2
  obtain ⟨rfl, rfl⟩ := r2
  obtain rfl : v = x := by simpa using e1
  rw [e2]
  simpa using r1
theorem t_test {f : FE} {σ : St} {H : Hp} {Q : Bool → Hp → Prop} (h : tB C (bT f) σ H Q) : tD C f σ H (fun x H' => ∃ k, x = .bl k ∧ Q k H') := by
  obtain ⟨η, F, fp, o, q⟩ := h
  refine ⟨η, F, fp, o, Rs.post_mono (Rs.post_bind q) (fun p hp v F' H' f1 fp' a => ?_) fun _ _ z => z⟩
  split at hp
  · rename_i b e
    rw [e] at a
    exact ⟨b, (rt_bool a.rt1).1, hp F' H' fp' a.drop1⟩
  · exact hp.elim
theorem pt_bool {e : Expr} {t : TE} {f : FE} (h : PT X e (tTest t)) (k : ∀ σ H Q, tD C f σ H Q → t σ H Q) : PT X e (tB C (bT f)) :=
  h.impD fun σ H Q q => k σ H _ (t_test q)
section
variable {e : Expr} {op : PyData → PyData → Option T} {f g : FE} {i j : Nat}
theorem ptb_bin (hK : C.K = X.K) (h : PT X e (tTest (tOp (rD2 X.K op) (tD C f) (tD C g)))) : PT X e (tB C (bT (eBin op f g))) := by
  rw [← hK] at h
  exact pt_bool h fun _ _ _ => t_bin
theorem ptb_binL (hK : C.K = X.K) (h : PT X e (tTest (tOp (rD2 X.K op) (tVar i) (tD C g)))) : PT X e (tB C (bT (eBinL' op i g))) := by
  rw [← hK] at h
  exact pt_bool h fun _ _ _ => t_binL
theorem ptb_binR (hK : C.K = X.K) (h : PT X e (tTest (tOp (rD2 X.K op) (tD C f) (tVar j)))) : PT X e (tB C (bT (eBinR op f j))) := by
  rw [← hK] at h
  exact pt_bool h fun _ _ _ => t_binR
theorem ptb_binLR (hK : C.K = X.K) (h : PT X e (tTest (tOp (rD2 X.K op) (tVar i) (tVar j)))) : PT X e (tB C (bT (eBinLR op i j))) := by
  rw [← hK] at h
  exact pt_bool h fun _ _ _ => t_binLR
end
/-- truth -/
def truth : PyData → Option Bool
  | .none => some false
  | .bool b => some b
  | .int i => some (i != 0)
  | .list ds => some (!ds.isEmpty)
  | .tuple ds => some (!ds.isEmpty)
  | _ => none
theorem isEmpty_len {α β : Type} {xs : List α} {ds : List β} (h : xs.length = ds.length) : (!ds.isEmpty) = !xs.isEmpty := by
  cases xs <;> cases ds <;> simp_all
theorem truth_ok {K : PySem.W.Frag} {F H : Hp} {d : PyData} {v : V} {b : Bool} (fh : Same F H) (h : Rq K F H d v) (e : truth d = some b) : TruV K v H b := by
  unfold truth at e
  split at e
  · rw [rq_none h]; cases e; rfl
  · rw [rq_bool h]; cases e; rfl
  · rw [rq_int h]; cases e; rfl
  · cases e
    obtain ⟨a, xs, rfl, q, r⟩ := rq_list fh h
    refine .inl ⟨xs, q, ?_⟩
    have := r.len
    exact isEmpty_len this
  · cases e
    obtain ⟨a, xs, rfl, q, r⟩ := rq_tup h
    refine .inr (.inl ⟨xs, sqT_mono fh q, ?_⟩)
    have := r.len
    exact isEmpty_len this
  · cases e
def bTru (f : FE) : FB := fun η => (f η).bind fun p => match truth p.1.val with
  | some b => .ok (b, p.2)
  | none => .bad
theorem ptd_tru {e : Expr} {f : FE} (hK : C.K = X.K) (ha : PE X e (tD C f)) (he : ∀ whole, isTrue e X.env whole = (do let v ← whole; standAt e.pos; holding [v] (truthy v)) := by intro _; rfl) : PT X e (tB C (bTru f)) := by
  refine (pt_truth ha he).impD fun σ H Q ⟨η, F, fp, o, q⟩ => ?_
  refine ⟨η, F, fp, o, Rs.post_mono (Rs.post_bind q) (fun p hp v F' H' f1 fp' a => ?_) fun _ _ z => z⟩
  split at hp
  · rename_i b eb
    obtain ⟨F2, a2, rp⟩ := a.freeze
    simp only [T.vals, RpAll] at rp
    obtain ⟨x', xs, e1, r1, rfl⟩ := rp
    obtain rfl : v = x' := by simpa using e1
    rw [← hK]
    exact ⟨b, truth_ok a2.fh (.inl r1) eb, hp F2 H' fp' a2⟩
  · exact hp.elim
def bAnd (f g : FB) : FB := fun η => (f η).bind fun p => if p.1 then g p.2 else .ok (false, p.2)
def bOr (f g : FB) : FB := fun η => (f η).bind fun p => if p.1 then .ok (true, p.2) else g p.2
def bNot (f : FB) : FB := fun η => (f η).bind fun p => .ok (!p.1, p.2)
theorem ptd_not {a : Expr} {pos : Pos} {f : FB} (h : PT X a (tB C f)) : PT X (.UnaryOp .Not a pos) (tB C (bNot f)) := by
  refine (pt_not h).impD fun σ H Q ⟨η, F, fp, o, q⟩ => ?_
  exact ⟨η, F, fp, o, Rs.post_mono (Rs.post_bind q) (fun p hp F' H' fp' a => hp F' H' fp' a) fun _ _ z => z⟩
section
variable {a b : Expr} {rest : List Expr} {pos : Pos} {f g : FB}
theorem pwd_and1 (ha : PT X a (tB C f)) : PW X (.BoolOp .And [a] pos) (tB C f) := pw_and1 ha
theorem pwd_or1 (ha : PT X a (tB C f)) : PW X (.BoolOp .Or [a] pos) (tB C f) := pw_or1 ha
theorem pwd_and (ha : PT X a (tB C f)) (hb : PW X (.BoolOp .And (b :: rest) pos) (tB C g)) : PW X (.BoolOp .And (a :: b :: rest) pos) (tB C (bAnd f g)) := by
  refine PW.impD (pw_and ha hb) fun σ H Q ⟨η, F, fp, o, q⟩ => ?_
  refine tB_step o.aft (Rs.post_mono (Rs.post_bind q) (fun p hp F1 H1 f1 fp1 a => ?_) fun _ _ z => z)
  cases e : p.1 with
  | true =>
    rw [e, if_pos rfl] at hp
    rw [if_pos rfl]
    exact tB_step a (Rs.post_mono hp (fun p2 hp2 F2 H2 f2 fp2 b => by
      have hf : f2 = [] := by have := b.rt; simp only [RTs] at this; exact this.2
      subst hf
      exact hp2 F2 H2 fp2 b) fun _ _ z => z)
  | false =>
    rw [e, if_neg Bool.false_ne_true] at hp
    rw [if_neg Bool.false_ne_true]
    have hf : f1 = [] := by have := a.rt; simp only [RTs] at this; exact this.2
    subst hf
    exact hp F1 H1 fp1 a
theorem pwd_or (ha : PT X a (tB C f)) (hb : PW X (.BoolOp .Or (b :: rest) pos) (tB C g)) : PW X (.BoolOp .Or (a :: b :: rest) pos) (tB C (bOr f g)) := by
  refine PW.impD (pw_or ha hb) fun σ H Q ⟨η, F, fp, o, q⟩ => ?_
  refine tB_step o.aft (Rs.post_mono (Rs.post_bind q) (fun p hp F1 H1 f1 fp1 a => ?_) fun _ _ z => z)
  have hf : f1 = [] := by have := a.rt; simp only [RTs] at this; exact this.2
  subst hf
  cases e : p.1 with
  | false =>
    rw [e, if_neg Bool.false_ne_true] at hp
    rw [if_neg Bool.false_ne_true]
    exact tB_step a (Rs.post_mono hp (fun p2 hp2 F2 H2 f2 fp2 b => by
      have hf : f2 = [] := by have := b.rt; simp only [RTs] at this; exact this.2
      subst hf
      exact hp2 F2 H2 fp2 b) fun _ _ z => z)
  | true =>
    rw [e, if_pos rfl] at hp
    rw [if_pos rfl]
    exact hp F1 H1 fp1 a
end
/-! ### and, or, not, if-else as values -/
def eAnd (f g : FE) : FE := fun η => (f η).bind fun p => match p.1 with
  | .sh (.bool true) => g p.2
  | .sh (.bool false) => .ok (.sh (.bool false), p.2)
  | _ => .bad
def eOr (f g : FE) : FE := fun η => (f η).bind fun p => match p.1 with
  | .sh (.bool true) => .ok (.sh (.bool true), p.2)
  | .sh (.bool false) => g p.2
  | _ => .bad
section
variable {a b : Expr} {rest : List Expr} {pos : Pos} {f g : FE} {c : FB}
theorem pd_one {op : BoolOp} (ha : PE X a (tD C f)) : PE X (.BoolOp op [a] pos) (tD C f) := pe_one ha
theorem pd_and (ha : PE X a (tD C f)) (hb : PE X (.BoolOp .And (b :: rest) pos) (tD C g)) : PE X (.BoolOp .And (a :: b :: rest) pos) (tD C (eAnd f g)) := by
  refine (pe_and ha hb).impD fun σ H Q ⟨η, F, fp, o, q⟩ => ?_
  refine tD_step o.aft (Rs.post_mono (Rs.post_bind q) (fun p hp x F1 H1 f1 fp1 a => ?_) fun _ _ z => z)
  have a : Aft C.K fp F H σ [p.1] [x] p.2 F1 H1 f1 fp1 := a
  split at hp
  · rename_i e
    rw [e] at a
    refine ⟨true, (rt_bool a.rt1).1, ?_⟩
    rw [if_pos rfl]
    exact tD_step a.drop1 (Rs.post_mono hp (fun p2 hp2 v F2 H2 f2 fp2 b => hp2 v F2 H2 f2 fp2 b) fun _ _ z => z)
  · rename_i e
    rw [e] at a
    refine ⟨false, (rt_bool a.rt1).1, ?_⟩
    rw [if_neg Bool.false_ne_true]
    refine hp _ F1 H1 [] fp1 ?_
    have := a.rt1
    obtain ⟨rfl, rfl⟩ := rt_bool this
    exact a
  · exact hp.elim
theorem pd_or (ha : PE X a (tD C f)) (hb : PE X (.BoolOp .Or (b :: rest) pos) (tD C g)) : PE X (.BoolOp .Or (a :: b :: rest) pos) (tD C (eOr f g)) := by
  refine (pe_or ha hb).impD fun σ H Q ⟨η, F, fp, o, q⟩ => ?_
  refine tD_step o.aft (Rs.post_mono (Rs.post_bind q) (fun p hp x F1 H1 f1 fp1 a => ?_) fun _ _ z => z)
  have a : Aft C.K fp F H σ [p.1] [x] p.2 F1 H1 f1 fp1 := a
  split at hp
  · rename_i e
    rw [e] at a
    refine ⟨true, (rt_bool a.rt1).1, ?_⟩
    rw [if_pos rfl]
    refine hp _ F1 H1 [] fp1 ?_
    have := a.rt1
    obtain ⟨rfl, rfl⟩ := rt_bool this
    exact a
  · rename_i e
    rw [e] at a
    refine ⟨false, (rt_bool a.rt1).1, ?_⟩
    rw [if_neg Bool.false_ne_true]
    exact tD_step a.drop1 (Rs.post_mono hp (fun p2 hp2 v F2 H2 f2 fp2 b => hp2 v F2 H2 f2 fp2 b) fun _ _ z => z)
  · exact hp.elim
def eIf (c : FB) (f g : FE) : FE := fun η => (c η).bind fun p => if p.1 then f p.2 else g p.2
theorem pd_if {c0 : Expr} (hc : PT X c0 (tB C c)) (ha : PE X a (tD C f)) (hb : PE X b (tD C g)) : PE X (.IfExp c0 a b pos) (tD C (eIf c f g)) := by
  refine (pe_ifExp hc ha hb).impD fun σ H Q ⟨η, F, fp, o, q⟩ => ?_
  refine tB_step o.aft (Rs.post_mono (Rs.post_bind q) (fun p hp F1 H1 f1 fp1 a => ?_) fun _ _ z => z)
  cases e : p.1 with
  | true =>
    rw [e, if_pos rfl] at hp
    rw [if_pos rfl]
    exact tD_step a hp
  | false =>
    rw [e, if_neg Bool.false_ne_true] at hp
    rw [if_neg Bool.false_ne_true]
    exact tD_step a hp
end
/-! ### one operand -/
def rD1 (K : PySem.W.Frag) (op : PyData → Option T) : V → Hp → VK → Prop := fun x H Q => ∃ F d t, Same F H ∧ Rq K F H d x ∧ op d = some t ∧ Res K F H t Q
def eUn (op : PyData → Option T) (f : FE) : FE := fun η => (f η).bind fun p => fin1 (op p.1.val) p.2
theorem t_un {op : PyData → Option T} {f : FE} {σ : St} {H : Hp} {Q : VK} (h : tD C (eUn op f) σ H Q) : tUn (rD1 C.K op) (tD C f) σ H Q := by
  obtain ⟨η, F, fp, o, q⟩ := h
  refine tD_step o.aft (Rs.post_mono (Rs.post_bind q) (fun p hp x F1 H1 f1 fp1 a => ?_) fun _ _ z => z)
  obtain ⟨F3, t, s, r, eq, k⟩ := fin_res a hp
  simp only [List.nil_append, T.vals, RpAll] at r
  obtain ⟨x', xs, e1, r1, rfl⟩ := r
  obtain rfl : x = x' := by simpa using e1
  exact ⟨F3, _, t, s.fh, .inl r1, eq, k⟩
def opNeg : PyData → Option T
  | .int i => some (.sh (.int (-i)))
  | _ => none
theorem opNeg_ok : UnR X (unaryOp .USub) (rD1 X.K opNeg) := by
  intro pins s σ H x v Q I rx ⟨F, d, t, fh, r1, eq, k⟩
  unfold opNeg at eq
  split at eq
  · rename_i i
    cases eq
    cases rq_int r1
    exact un_neg pins s σ H _ v Q I rx ⟨i, rfl, k.int fh⟩
  · cases eq
theorem pd_un {o : UnaryOp} {op : PyData → Option T} {a : Expr} {pos : Pos} {f : FE} (hK : C.K = X.K) (ho : UnR X (unaryOp o) (rD1 X.K op)) (ha : PE X a (tD C f)) : PE X (.UnaryOp o a pos) (tD C (eUn op f)) := by
  rw [← hK] at ho
  exact (pe_un ho ha).impD fun _ _ _ => t_un
def eNot (c : FB) : FE := fun η => (c η).bind fun p => .ok (.sh (.bool (!p.1)), p.2)
def eNotV (f : FE) : FE := fun η => (f η).bind fun p => match p.1 with
  | .sh (.bool b) => .ok (.sh (.bool (!b)), p.2)
  | _ => .bad
theorem pd_not {a : Expr} {pos : Pos} {f : FE} (ha : PE X a (tD C f)) : PE X (.UnaryOp .Not a pos) (tD C (eNotV f)) := by
  refine (pe_not ha).impD fun σ H Q ⟨η, F, fp, o, q⟩ => ?_
  refine tD_step o.aft (Rs.post_mono (Rs.post_bind q) (fun p hp x F1 H1 f1 fp1 a => ?_) fun _ _ z => z)
  have a : Aft C.K fp F H σ [p.1] [x] p.2 F1 H1 f1 fp1 := a
  split at hp
  · rename_i b e
    rw [e] at a
    refine ⟨b, (rt_bool a.rt1).1, ?_⟩
    exact hp _ F1 H1 [] fp1 (a.drop1.res (.here a.fh rp_c.2.1))
  · exact hp.elim
/-! ### chains of comparisons of ints -/
def eChain (p1 p2 : Int → Int → Bool) (f g h : FE) : FE := fun η => (f η).bind fun a => (g a.2).bind fun b => match a.1, b.1 with
  | .sh (.int i), .sh (.int j) => if p1 i j then (h b.2).bind fun c => match c.1 with
      | .sh (.int k) => .ok (.sh (.bool (p2 j k)), c.2)
      | _ => .bad
    else .ok (.sh (.bool false), b.2)
  | _, _ => .bad
theorem Aft.rt2 {K : PySem.W.Frag} {fp : List Addr} {F H : Hp} {σ : St} {t t2 : T} {v v2 : V} {η' : Env} {F' H' : Hp} {f1 fp' : List Addr} (a : Aft K fp F H σ [t, t2] [v, v2] η' F' H' f1 fp') :
    ∃ g1 g2, f1 = g1 ++ g2 ∧ RT K F' H' t v g1 ∧ RT K F' H' t2 v2 g2 := by
  obtain ⟨x, xs, g1, g2, e1, e2, r1, r2⟩ := a.rt.uncons
  obtain ⟨y, ys, g3, g4, e3, e4, r3, r4⟩ := r2.uncons
  simp only [RTs] at r4
  obtain ⟨rfl, rfl⟩ := r4
  subst e3
  obtain ⟨rfl, rfl⟩ : v = x ∧ v2 = y := by simpa using e1
  subst e4
  exact ⟨g1, g3, by simpa using e2, r1, r3⟩
theorem Aft.drop {K : PySem.W.Frag} {fp : List Addr} {F H : Hp} {σ : St} {ts : List T} {vs : List V} {η' : Env} {F' H' : Hp} {f1 fp' : List Addr} (a : Aft K fp F H σ ts vs η' F' H' f1 fp') : Aft K fp F H σ [] [] η' F' H' [] fp' :=
  ⟨.nil, a.rs, (List.nodup_append.mp a.nd).2.1, fun x hx => a.fn x (by simp at hx; simp [hx]), a.fh, a.ext, fun x hx => a.sub x (by simp at hx; simp [hx])⟩
theorem t_chain {p1 p2 : Int → Int → Bool} {f g h : FE} {σ : St} {H : Hp} {Q : VK} (q : tD C (eChain p1 p2 f g h) σ H Q) :
    tChain (rI0 fun i j => .bl (p1 i j)) (rI0 fun i j => .bl (p2 i j)) (tD C f) (tD C g) (tD C h) σ H Q := by
  obtain ⟨η, F, fp, o, q⟩ := q
  refine tD_step o.aft (Rs.post_mono (Rs.post_bind q) (fun p hp x F1 H1 f1 fp1 a => ?_) fun _ _ z => z)
  refine tD_step a (Rs.post_mono (Rs.post_bind hp) (fun p2 hp2 y F2 H2 f2 fp2 b => ?_) fun _ _ z => z)
  have b : Aft C.K fp F H σ [p.1, p2.1] [x, y] p2.2 F2 H2 f2 fp2 := b
  split at hp2
  · rename_i i j e1 e2
    obtain ⟨g1, g2, rfl, r1, r2⟩ := b.rt2
    rw [e1] at r1
    rw [e2] at r2
    obtain ⟨rfl, rfl⟩ := rt_int r1
    obtain ⟨rfl, rfl⟩ := rt_int r2
    refine ⟨i, j, rfl, rfl, _, rfl, ?_⟩
    split at hp2
    · rename_i hc
      rw [if_pos hc]
      refine tD_step b.drop (Rs.post_mono (Rs.post_bind hp2) (fun p3 hp3 z F3 H3 f3 fp3 c => ?_) fun _ _ z => z)
      have c : Aft C.K fp F H σ [p3.1] [z] p3.2 F3 H3 f3 fp3 := c
      split at hp3
      · rename_i k e3
        rw [e3] at c
        obtain ⟨rfl, rfl⟩ := rt_int c.rt1
        exact ⟨j, k, rfl, rfl, hp3 _ F3 H3 [] fp3 (c.drop.res (.here c.fh rp_c.2.1))⟩
      · exact hp3.elim
    · rename_i hc
      rw [if_neg hc]
      exact hp2 _ F2 H2 [] fp2 (b.drop.res (.here b.fh rp_c.2.1))
  · exact hp2.elim
section
variable {a b c : Expr} {pos : Pos} {o1 o2 : CmpOp} {p1 p2 : Int → Int → Bool} {f g h : FE}
theorem pd_chain (h1 : OpR X (compareOp o1) (rI0 fun i j => .bl (p1 i j))) (h2 : OpR X (compareOp o2) (rI0 fun i j => .bl (p2 i j))) (ha : PE X a (tD C f)) (hb : PE X b (tD C g)) (hc : PE X c (tD C h))
    (hm : lastMarks [o1, o2] [b, c] = false := by with_unfolding_all rfl) : PE X (.Compare a [o1, o2] [b, c] pos) (tD C (eChain p1 p2 f g h)) := (pe_chain h1 h2 ha hb hc hm).impD fun _ _ _ => t_chain
theorem ptd_chain (h1 : OpR X (compareOp o1) (rI0 fun i j => .bl (p1 i j))) (h2 : OpR X (compareOp o2) (rI0 fun i j => .bl (p2 i j))) (ha : PE X a (tD C f)) (hb : PE X b (tD C g)) (hc : PE X c (tD C h))
    (hm : lastMarks [o1, o2] [b, c] = false := by with_unfolding_all rfl) : PT X (.Compare a [o1, o2] [b, c] pos) (tB C (bT (eChain p1 p2 f g h))) := pt_bool (pt_chain h1 h2 ha hb hc hm) fun _ _ _ => t_chain
end
/-! ### argument lists, displays -/
def aNil : FA := fun η => .ok ([], η)
def aCons (f : FE) (g : FA) : FA := fun η => (f η).bind fun p => (g p.2).bind fun q => .ok (p.1 :: q.1, q.2)
theorem pad_nil : PA X [] (tA C aNil) := pa_nil.impD fun σ H Q ⟨η, F, fp, o, q⟩ => q [] F H [] fp o.aft
theorem pad_cons {e : Expr} {es : List Expr} {f : FE} {g : FA} (ha : PE X e (tD C f)) (hr : PA X es (tA C g)) (hs : starEach (e :: es) X.env = (false, eval e X.env) :: starEach es X.env := by rfl) : PA X (e :: es) (tA C (aCons f g)) := by
  refine (pa_cons ha hr hs).impD fun σ H Q ⟨η, F, fp, o, q⟩ => ?_
  refine tD_step o.aft (Rs.post_mono (Rs.post_bind q) (fun p hp x F1 H1 f1 fp1 a => ?_) fun _ _ z => z)
  refine tA_step a (Rs.post_mono (Rs.post_bind hp) (fun p2 hp2 ws F2 H2 f2 fp2 b => ?_) fun _ _ z => z)
  exact hp2 (x :: ws) F2 H2 f2 fp2 b
def fits (n : Nat) : Bool := decide (n ≤ 1000)
theorem fits_line {n : Nat} (h : fits n = true) : n ≤ sizeLine := by
  have : n ≤ 1000 := of_decide_eq_true h
  rw [sizeLine_eq]; omega
def eTup (g : FA) : FE := fun η => (g η).bind fun p => if fits p.1.length then .ok (.sh (.tuple (T.vals p.1)), p.2) else .bad
def eLst (g : FA) : FE := fun η => (g η).bind fun p => if fits p.1.length then .ok (.lst p.1, p.2) else .bad
theorem pd_tup {es : List Expr} {k : Nat} {pos : Pos} {g : FA} (h : PA X es (tA C g)) : PE X (.Tuple es k pos) (tD C (eTup g)) := by
  refine (pe_tup h).impD fun σ H Q ⟨η, F, fp, o, q⟩ => ?_
  refine tA_step o.aft (Rs.post_mono (Rs.post_bind q) (fun p hp ws F1 H1 f1 fp1 a => ?_) fun _ _ z => z)
  have a : Aft C.K fp F H σ p.1 ws p.2 F1 H1 f1 fp1 := a
  split at hp
  · rename_i hf
    have hl := a.rt.len
    refine ⟨by rw [hl]; exact fits_line hf, fun p hp' => ?_⟩
    obtain ⟨F2, a2, rp⟩ := a.freeze
    exact hp _ _ _ [] fp1 (a2.res (.tup a2.fh rp hp'))
  · exact hp.elim
theorem pd_lst {es : List Expr} {pos : Pos} {g : FA} (h : PA X es (tA C g)) : PE X (.List es pos) (tD C (eLst g)) := by
  refine (pe_lst h).impD fun σ H Q ⟨η, F, fp, o, q⟩ => ?_
  refine tA_step o.aft (Rs.post_mono (Rs.post_bind q) (fun p hp ws F1 H1 f1 fp1 a => ?_) fun _ _ z => z)
  have a : Aft C.K fp F H σ p.1 ws p.2 F1 H1 f1 fp1 := a
  split at hp
  · rename_i hf
    have hl := a.rt.len
    refine ⟨by rw [hl]; exact fits_line hf, fun q hq => ?_⟩
    have fq : F1 q = none := a.fh.free hq
    have there : ∀ x ∈ f1 ++ fp1, ∃ o, H1 x = some o := fun x hx => by
      rcases List.mem_append.mp hx with hx | hx
      · exact a.rt.there x hx
      · exact a.rs.there x hx
    have nq : q ∉ f1 ++ fp1 := fun hm => by
      obtain ⟨o, e⟩ := there q hm
      rw [hq] at e; cases e
    refine hp _ F1 (upd H1 q (.lst ws)) (q :: f1) fp1 ⟨.one ?_, a.rs.mono (.refl _) fun x _ o e => same_upd hq x o e, ?_, fun x hx => ?_, fun b o e => ?_, ⟨a.ext.ff, fun b o e hb => same_upd hq b o (a.ext.keep b o e hb), a.ext.new⟩, fun x hx => ?_⟩
    · simp only [RT]
      exact ⟨q, ws, f1, rfl, upd_same, rfl, a.rt.mono (.refl _) fun x _ o e => same_upd hq x o e⟩
    · show (q :: (f1 ++ fp1)).Nodup
      exact List.nodup_cons.mpr ⟨nq, a.nd⟩
    · rcases List.mem_cons.mp (show x ∈ q :: (f1 ++ fp1) from hx) with rfl | hx
      · exact fq
      · exact a.fn x hx
    · exact same_upd hq b o (a.fh b o e)
    · rcases List.mem_cons.mp (show x ∈ q :: (f1 ++ fp1) from hx) with rfl | hx
      · by_cases hm : x ∈ fp
        · exact .inl hm
        · refine .inr ?_
          cases e : H x with
          | none => rfl
          | some o =>
            rw [a.ext.keep x o e hm] at hq; cases hq
      · exact a.sub x hx
  · exact hp.elim
/-! ### calls of built-ins -/
def rDC (K : PySem.W.Frag) (op : List PyData → Option T) : List V → Hp → VK → Prop := fun xs H Q => ∃ F ds t, Same F H ∧ RqAll K F H ds xs ∧ op ds = some t ∧ Res K F H t Q
abbrev CallD (X : Cx) (f : Value) (op : List PyData → Option T) : Prop := CallR X f (rDC X.K op)
def eCall (op : List PyData → Option T) (g : FA) : FE := fun η => (g η).bind fun p => fin1 (op (T.vals p.1)) p.2
def eCallV (op : List PyData → Option T) (i : Nat) : FE := fun η => match pk η i with
  | some d => fin1 (op [d]) η
  | none => .bad
theorem t_call {op : List PyData → Option T} {g : FA} {σ : St} {H : Hp} {Q : VK} (h : tD C (eCall op g) σ H Q) : tCB (rDC C.K op) (tA C g) σ H Q := by
  obtain ⟨η, F, fp, o, q⟩ := h
  refine tA_step o.aft (Rs.post_mono (Rs.post_bind q) (fun p hp x F1 H1 f1 fp1 a => ?_) fun _ _ z => z)
  obtain ⟨F3, t, s, r, eq, k⟩ := fin_res a hp
  exact ⟨F3, _, t, s.fh, RpAll.rq r, eq, k⟩
theorem t_callV {op : List PyData → Option T} {i : Nat} {σ : St} {H : Hp} {Q : VK} (h : tD C (eCallV op i) σ H Q) : tCB (rDC C.K op) (tCons (tVar i) tNil) σ H Q := by
  obtain ⟨η, F, fp, o, q⟩ := h
  unfold eCallV at q
  obtain ⟨d, hd, q⟩ := pk_some q
  obtain ⟨F3, t, s, r, eq, k⟩ := fin_res o.aft q
  obtain ⟨x, hx, rx⟩ := pk_rq s hd
  refine ⟨x, hx, F3, [d], t, s.fh, ?_, eq, k⟩
  simp only [RqAll]
  exact ⟨x, [], rfl, rx, rfl⟩
theorem pd_call {e : Expr} {op : List PyData → Option T} {g : FA} (hK : C.K = X.K) (h : PE X e (tCB (rDC X.K op) (tA C g))) : PE X e (tD C (eCall op g)) := by
  rw [← hK] at h
  exact h.impD fun _ _ _ => t_call
theorem pd_callV {e : Expr} {op : List PyData → Option T} {i : Nat} (hK : C.K = X.K) (h : PE X e (tCB (rDC X.K op) (tCons (tVar i) tNil))) : PE X e (tD C (eCallV op i)) := by
  rw [← hK] at h
  exact h.impD fun _ _ _ => t_callV
end Pv
set_option Elab.async false
set_option linter.all false
set_option maxRecDepth 100000
set_option maxHeartbeats 4000000
/-! sorting tuples of which some are empty -/
namespace PySem.W
open PySem PySem.Calls PyProof.Rows PySem.SeqAt
section
variable {A : Around} {s : Shared}
theorem pv_call_tuple_lt {prog : Program} {w : World} {E : Value → Shared → Prop} {Q : Value → Shared → Prop} {l b : Addr} {items items2 : Array Value} {e r : Nat → Bool} (hl : s.heap.IsTuple l items) (hb : s.heap.IsTuple b items2)
    (he : ∀ j (h1 : j < items.size) (h2 : j < items2.size), EqAt A.in1 s items[j] items2[j] (e j)) (hr : ∀ j (h1 : j < items.size) (h2 : j < items2.size), e j = false → RcLt A.in1 s items[j] items2[j] (r j))
    (h : Q (.bool (firstLt e r (decide (items.size < items2.size)) (List.range (min items.size items2.size)))) s) : wpAny (model prog w) A (call (.builtin "tuple.__lt__") [.ref l, .ref b]) Q E s := by
  obtain ⟨⟨cls, dd, data, sl⟩, ho, hc, n, hd⟩ := id hl
  obtain ⟨⟨cls2, dd2, data2, sl2⟩, ho2, hc2, n2, hd2⟩ := id hb
  simp only at hc hd hc2 hd2
  subst hc hd hc2 hd2
  exact call_meets F.slot_tuple_lt ⟨_, ho, rfl⟩ F.entry_tuple_lt (F.args_tuple_lt_2 _ _) (tuple_ltAt l b items items2 n n2 dd dd2 sl sl2 e r) ⟨ho, ho2, he, hr, h⟩
end
section
variable {prog : Program} {w : World} {A : Around} {E : Value → Shared → Prop} {s : Shared}
theorem pv_oneLt_tup {xs ys : List PyData} {a b : Value} {as bs : List Addr} {Q : Bool → Shared → Prop} (ra : Reads s.heap a (.tuple xs) as) (rb : Reads s.heap b (.tuple ys) bs) (h : alike (.tuple xs) (.tuple ys) = true)
    (hu : A.units + min (PyData.tuple xs).depth (PyData.tuple ys).depth < cLine) (hq : Q (dataLt (.tuple xs) (.tuple ys)) s) : wpAny (model prog w) A (oneLt' true a b) Q E s := by
  have hal : alikeAll xs ys = true := by simpa [alike] using h
  cases ra with
  | @tuple l o vs n _ as₁ h1 h2 h3 h4 =>
    cases rb with
    | @tuple l' o' vs' n' _ bs₁ k1 k2 k3 k4 =>
      have n1 : vs.size = xs.length := by simpa using ReadsAll.length _ _ _ h4
      have n2 : vs'.size = ys.length := by simpa using ReadsAll.length _ _ _ k4
      rw [dataLt_tuple, ← firstLt_toks xs ys hal, ← n1, ← n2] at hq
      rw [oneLt'_eq]
      simp only [if_true]
      refine wpAny_bind (wpAny_cRoomFor (room_here hu) ?_)
      refine wpAny_bind (wpAny_callSpecialIfBound?_slot (T := "tuple") ⟨_, h1, h2⟩ F.slot_tuple_lt (pv_call_tuple_lt (e := pairEq xs ys) (r := fun j => dataLt (xs.getD j .none) (ys.getD j .none)) ⟨_, h1, h2, _, h3⟩ ⟨_, k1, k2, _, k3⟩ (fun j j1 j2 => ?_) (fun j j1 j2 hj => ?_) ?_))
      · have := eqAt_alikeAll xs ys A.in1 s vs.toList vs'.toList _ _ h4 k4 hal (room_in hu) j (by simpa using j1) (by simpa using j2)
        simpa using this
      · have := rcLt_alikeAll xs ys A.in1 s vs.toList vs'.toList _ _ h4 k4 hal (room_in hu) j (by simpa using j1) (by simpa using j2) hj
        simpa using this
      · exact wpAny_truthy_bool hq
def pvTup1 : PyData → Bool
  | .tuple (_ :: _) => true
  | _ => false
theorem pv_firsts {M : Model} : ∀ {vs : List Value} {ds : List PyData} {Q : List (Option Value) → Shared → Prop}, EachIs (fun v d => ∃ as, Reads s.heap v d as) vs ds → (∀ d ∈ ds, ∃ xs, d = .tuple xs) → (∀ fs : List (Option Value), fs.map Option.isSome = ds.map pvTup1 → Q fs s) → wpAny M A (vs.mapM firstOfTuple') Q E s
  | _, _, Q, .nil, _, h => by
    rw [List.mapM_nil]
    exact wpAny_pure (h [] rfl)
  | v :: vs, d :: ds, Q, .cons ⟨as, r⟩ t, hd, h => by
    obtain ⟨xs, rfl⟩ := hd _ (List.mem_cons_self ..)
    rw [List.mapM_cons]
    refine wpAny_bind ?_
    cases r with
    | @tuple a o vals n _ _ ho hc hdd hr =>
      rw [kas_first_eq]
      refine wpAny_bind (Looks.here (show Looks M s.heap (typeOf (.ref a)) o.cls from (Looks.ld ho).andThen .now) ?_)
      rw [hc, if_neg (by first | decide | simp)]
      refine wpAny_bind (listItems_at ho hdd (wpAny_pure ?_))
      refine wpAny_bind (pv_firsts t (fun d h' => hd d (List.mem_cons_of_mem _ h')) fun fs hfs => wpAny_pure (h _ ?_))
      rw [List.map_cons, List.map_cons, hfs]
      congr 1
      have hlen : vals.size = xs.length := by simpa using ReadsAll.length _ _ _ hr
      cases xs with
      | nil =>
        have : vals[0]? = none := Array.getElem?_eq_none (by simpa using Nat.le_of_eq hlen)
        rw [this]
        rfl
      | cons x xs =>
        have hz : 0 < vals.size := by rw [hlen]; simp
        rw [Array.getElem?_eq_getElem hz]
        rfl
theorem pv_mixed {vs : List Value} {ds : List PyData} (e : EachIs (fun v d => ∃ as, Reads s.heap v d as) vs ds) (hal : AllAlike ds) (ht : ∀ d ∈ ds, ∃ xs, d = .tuple xs) (hu : ∀ d, d ∈ ds → A.units + d.depth < cLine) : SortsAt prog w A s (dataKind s.heap ds) vs := by
  by_cases hall : ∀ d ∈ ds, ∃ x r, d = .tuple (x :: r)
  · exact SortsAt.data e hal (.inl hall) hu
  have room : ∀ {d d' : PyData}, d ∈ ds → A.units + min d.depth d'.depth < cLine := fun {d d'} hd => Nat.lt_of_le_of_lt (Nat.add_le_add_left (Nat.min_le_left _ _) _) (hu d hd)
  have hno : (ds.map pvTup1).all id = false := by
    rw [Bool.eq_false_iff]
    intro hc
    refine hall fun d hd => ?_
    rw [List.all_map, List.all_eq_true] at hc
    have h1 := hc d hd
    obtain ⟨xs, rfl⟩ := ht d hd
    cases xs with
    | nil => cases h1
    | cons x r => exact ⟨x, r, rfl⟩
  have key : ∀ fs : List (Option Value), fs.map Option.isSome = ds.map pvTup1 → ¬ (fs.toArray.all fun x => x.isSome) = true := fun fs hfs hc => by
    rw [← hfs] at hno
    rw [List.all_toArray] at hc
    rw [List.all_map] at hno
    have hc' : fs.all (id ∘ Option.isSome) = true := hc
    rw [hc'] at hno
    cases hno
  refine ⟨fun v hv => ?_, ?_⟩
  · obtain ⟨d, hd, as, r⟩ := e.left v hv
    exact ⟨_, dataKind_some hal hd r⟩
  by_cases h0 : (ds.map pvTup1).head? = some true
  · refine ⟨general', ?_, fun h2 E Q hq => ?_⟩
    · intro E x y a b Q ha hb hq
      obtain ⟨d, as, hd, ra, rfl⟩ := dataKind_inv ha
      obtain ⟨d', as', hd', rb, rfl⟩ := dataKind_inv hb
      show wpAny (model prog w) A (oneLt' false x y) Q E s
      obtain ⟨xs, rfl⟩ := ht d hd
      exact oneLt_alike (fun h => by cases h) ra rb (hal _ hd d' hd') (fun h => by cases h) (room hd) hq
    · rw [kat_kind_eq, List.mapM_toArray, map_eq_pure_bind]
      refine wpAny_bind (wpAny_bind (pv_firsts e ht fun fs hfs => wpAny_pure ?_))
      rw [if_neg (key fs hfs)]
      have : (fs.toArray[0]?.bind id).isSome = true := by
        rw [← hfs] at h0
        cases fs with
        | nil => simp at h0
        | cons f fs => simpa using h0
      rw [if_pos this]
      exact wpAny_pure hq
  · refine ⟨oneType', ?_, fun h2 E Q hq => ?_⟩
    · intro E x y a b Q ha hb hq
      obtain ⟨d, as, hd, ra, rfl⟩ := dataKind_inv ha
      obtain ⟨d', as', hd', rb, rfl⟩ := dataKind_inv hb
      rw [keyLt'_oneType]
      obtain ⟨xs, rfl⟩ := ht d hd
      obtain ⟨ys, rfl⟩ := ht d' hd'
      exact pv_oneLt_tup ra rb (hal _ hd _ hd') (room hd) hq
    · rw [kat_kind_eq, List.mapM_toArray, map_eq_pure_bind]
      refine wpAny_bind (wpAny_bind (pv_firsts e ht fun fs hfs => wpAny_pure ?_))
      rw [if_neg (key fs hfs)]
      have : ¬ (fs.toArray[0]?.bind id).isSome = true := by
        rw [← hfs] at h0
        cases fs with
        | nil => simp
        | cons f fs => simpa using h0
      rw [if_neg this]
      have hT : ∀ v ∈ vs, Looks (model prog w) s.heap (typeOf v) (.type "tuple") := fun v hv => by
        obtain ⟨d, hd, as, r⟩ := e.left v hv
        obtain ⟨xs, rfl⟩ := ht d hd
        exact looks_reads r
      obtain ⟨v₁, v₂, rest, rfl⟩ : ∃ v₁ v₂ rest, vs = v₁ :: v₂ :: rest := by
        match vs, h2 with
        | [], h2 => simp at h2
        | [_], h2 => simp at h2
        | v₁ :: v₂ :: rest, _ => exact ⟨v₁, v₂, rest, rfl⟩
      rw [oneTypeOnly'_eq, List.mapM_toArray, map_eq_pure_bind]
      refine wpAny_bind (wpAny_bind (wpAny_bind (kas_mapM (r := Value.type "tuple") _ (fun v hv Q' hq => (hT v hv).here hq) (wpAny_pure ?_))))
      have hall : ((List.map (fun _ => Value.type "tuple") (v₁ :: v₂ :: rest)).toArray.all fun x => x == Value.type "tuple") = true := by
        simp only [List.all_toArray, List.all_map, List.all_eq_true]
        intro _ _
        exact beq_self_eq_true _
      have h0 : (List.map (fun _ => Value.type "tuple") (v₁ :: v₂ :: rest)).toArray[0]? = some (Value.type "tuple") := by simp
      rw [h0]
      simp only [hall, if_true]
      exact wpAny_pure (wpAny_pure hq)
/-- all tuples, or Sortable -/
def PvSortable (ds : List PyData) : Prop := (∀ d ∈ ds, ∃ xs, d = .tuple xs) ∨ Sortable ds
theorem PvSortable.at {vs : List Value} {ds : List PyData} (hk : PvSortable ds) (e : EachIs (fun v d => ∃ as, Reads s.heap v d as) vs ds) (hal : AllAlike ds) (hu : ∀ d, d ∈ ds → A.units + d.depth < cLine) : SortsAt prog w A s (dataKind s.heap ds) vs := by
  rcases hk with h | h
  · exact pv_mixed e hal h hu
  · exact SortsAt.data e hal h hu
end
section
variable {prog : Program} {w : World} {A : Around} {E : Value → Shared → Prop} {s : Shared} {β : Type} {vs : List Value} {bs : List β} {enc : β → PyData} {R : Value → β → Prop}
theorem pv_sorted_data {l : Addr} {Q : Value → Shared → Prop} (hl : s.heap.IsList l vs.toArray) (e : EachIs R vs bs) (er : EachIs (fun v b => ∃ as, Reads s.heap v (enc b) as) vs bs) (hal : AllAlike (bs.map enc)) (hk : PvSortable (bs.map enc)) (hL : bs.length ≤ sizeLine)
    (hu : ∀ b, b ∈ bs → A.units + 2 + (enc b).depth < cLine) (h : ∀ out, out.length = bs.length → EachIs R out (bs.mergeSort (dataLe false enc)) → Q (.ref (s.heap.objs.size + 1)) { s with heap := sortedAll s.heap vs (List.toArray out) }) :
    wpAny (model prog w) A (call (.builtin "sorted") [.ref l]) Q E s := by
  have er' : EachIs (fun v b => ∃ as, Reads (sortingHeap (copyHeap s.heap vs) (s.heap.objs.size + 1) vs) v (enc b) as) vs bs := er.mono fun _ _ ⟨as, r⟩ => ⟨as, PyProof.Rows.Reads.keeps (fun _ _ => sorting_copy_old) r⟩
  exact sorted_vals hl (PvSortable.at (s := { s with heap := sortingHeap (copyHeap s.heap vs) (s.heap.objs.size + 1) vs }) hk (each_map (R := fun v d => ∃ as, Reads (sortingHeap (copyHeap s.heap vs) (s.heap.objs.size + 1) vs) v d as) enc er') hal (bound_map hu)) (by rw [e.length]; exact hL)
    (h _ (by rw [sortVals_length false rfl]; exact e.length) (sortVals_data false e er' hal))
end
end PySem.W
set_option Elab.async false
set_option linter.all false
set_option maxRecDepth 100000
set_option maxHeartbeats 4000000
/-! sorted(x), x a tuple -/
namespace PySem.W
open PySem PyProof.Rows PySem.Spec
section
variable {prog : Program} {w : World} {A : Around} {E : Value → Shared → Prop} {s : Shared} {β : Type} {vs : List Value} {bs : List β} {enc : β → PyData} {R : Value → β → Prop}
theorem sorted_tup_data {l : Addr} {o : Obj} {n : Nat} {Q : Value → Shared → Prop} (ho : s.heap.get? l = some o) (hc : o.cls = .type "tuple") (hd : o.data = .seq vs.toArray n) (e : EachIs R vs bs) (er : EachIs (fun v b => ∃ as, Reads s.heap v (enc b) as) vs bs) (hal : AllAlike (bs.map enc)) (hk : PvSortable (bs.map enc)) (hL : bs.length ≤ sizeLine)
    (hu : ∀ b, b ∈ bs → A.units + 2 + (enc b).depth < cLine)
    (h : ∀ (out : List Value) (h1 : Heap) (c : Nat) (h' : Heap), out.length = bs.length → EachIs R out (bs.mergeSort (dataLe false enc)) → (∀ b o, s.heap.get? b = some o → h1.get? b = some o) → (∀ b o, h1.get? b = some o → h'.get? b = some o) → h'.get? h1.objs.size = some (seqObj "list" (List.toArray out) c) → Q (.ref h1.objs.size) { s with heap := h' }) :
    wpAny (model prog w) A (call (.builtin "sorted") [.ref l]) Q E s := by
  have hLv : vs.length ≤ sizeLine := by rw [e.length]; exact hL
  refine Calls.call_function_entry kind_sorted plain_sorted entry_sorted (args_sorted1 _) ?_
  unfold Builtin.«sorted»
  refine wpAny_bind (m := checkCount "sorted" 1 1 _) (wpAny_pure ?_)
  refine wpAny_bind (wpAny_collect_seq l (.inr rfl) ho hc hd (fun h1 hk1 => ?_) (by rw [List.size_toArray]; exact hLv))
  refine wpAny_bind (wpAny_newList ?_ hLv)
  have hoL : (h1.push (seqObj "list" vs.toArray 0)).get? h1.objs.size = some (seqObj "list" vs.toArray 0) := Heap.get?_push_size _ rfl
  have old : ∀ b o, s.heap.get? b = some o → b ≠ h1.objs.size ∧ (h1.push (seqObj "list" vs.toArray 0)).get? b = some o := fun b o hb => ⟨Nat.ne_of_lt (Heap.lt_size (hk1 b o hb)), Heap.get?_push_of_some _ (hk1 b o hb)⟩
  have er' : EachIs (fun v b => ∃ as, Reads (sortingHeap (h1.push (seqObj "list" vs.toArray 0)) h1.objs.size vs) v (enc b) as) vs bs := er.mono fun _ _ ⟨as, r⟩ => ⟨as, PyProof.Rows.Reads.keeps (fun b o q => sortingHeap_old (old b o q).1 (old b o q).2) r⟩
  refine wpAny_bind (wpAny_holding (wpAny_call_entry slot_list_sort ⟨_, hoL, rfl⟩ entry_list_sort ?body (args_list_sort _)))
  case body =>
    refine list_sort_vals (κ := dataKind (sortingHeap (h1.push (seqObj "list" vs.toArray 0)) h1.objs.size vs) (bs.map enc)) hoL (PvSortable.at (s := { s with heap := sortingHeap (h1.push (seqObj "list" vs.toArray 0)) h1.objs.size vs }) hk (each_map (R := fun v d => ∃ as, Reads (sortingHeap (h1.push (seqObj "list" vs.toArray 0)) h1.objs.size vs) v d as) enc er') hal (bound_map hu)) hLv ?_
    refine ⟨_, rfl, wpAny_pure ⟨_, rfl, ?_⟩⟩
    obtain ⟨c, hc⟩ := sortedHeap_at (vs := vs) (out := (sortVals (dataKind (sortingHeap (h1.push (seqObj "list" vs.toArray 0)) h1.objs.size vs) (bs.map enc)) false vs vs).toArray) hoL
    refine h _ h1 c _ (by rw [sortVals_length false rfl]; exact e.length) (sortVals_data false e er' hal) hk1 (fun b o q => ?_) hc
    have q2 : (h1.push (seqObj "list" vs.toArray 0)).get? b = some o := Heap.get?_push_of_some _ q
    exact (sortedHeap_old (Nat.ne_of_lt (Heap.lt_size q)) (Heap.lt_size q2)).trans q2
end
end PySem.W
set_option Elab.async false
set_option linter.all false
set_option maxRecDepth 100000
set_option maxHeartbeats 4000000
namespace Pv
open PySem L2
variable {X : Cx} {C : Cn}

theorem RqAll.one {K : PySem.W.Frag} {F H : Hp} {d : PyData} {vs : List V} (h : RqAll K F H [d] vs) : ∃ v, vs = [v] ∧ Rq K F H d v := by
  simp only [RqAll] at h
  obtain ⟨x, xs, rfl, q, rfl⟩ := h
  exact ⟨x, rfl, q⟩
theorem RqAll.two {K : PySem.W.Frag} {F H : Hp} {d e : PyData} {vs : List V} (h : RqAll K F H [d, e] vs) : ∃ v w, vs = [v, w] ∧ Rq K F H d v ∧ Rq K F H e w := by
  simp only [RqAll] at h
  obtain ⟨x, xs, rfl, q, y, ys, rfl, r, rfl⟩ := h
  exact ⟨x, y, rfl, q, r⟩
theorem rpAll_ints {K : PySem.W.Frag} {F : Hp} : ∀ {ns : List Int} {vs : List V}, RpAll K F (ns.map PyData.int) vs → vs = ns.map V.int
  | [], vs, h => by simpa only [RpAll, List.map_nil] using h
  | n :: ns, vs, h => by
    obtain ⟨x, xs, rfl, q, r⟩ := h.uncons
    rw [rp_int q, rpAll_ints r]; rfl
theorem rpAll_bools {K : PySem.W.Frag} {F : Hp} : ∀ {ns : List Bool} {vs : List V}, RpAll K F (ns.map PyData.bool) vs → vs = ns.map V.bl
  | [], vs, h => by simpa only [RpAll, List.map_nil] using h
  | n :: ns, vs, h => by
    obtain ⟨x, xs, rfl, q, r⟩ := h.uncons
    rw [rp_bool q, rpAll_bools r]; rfl
/-- a list of intsOf, of boolsOf -/
def intsOf : List PyData → Option (List Int)
  | [] => some []
  | .int i :: ds => match intsOf ds with
    | some ns => some (i :: ns)
    | none => none
  | _ => none
def boolsOf : List PyData → Option (List Bool)
  | [] => some []
  | .bool i :: ds => match boolsOf ds with
    | some ns => some (i :: ns)
    | none => none
  | _ => none
@[simp] theorem ints_map (ns : List Int) : intsOf (ns.map PyData.int) = some ns := by
  induction ns with
  | nil => rfl
  | cons n ns ih => simp [intsOf, ih]
@[simp] theorem bools_map (ns : List Bool) : boolsOf (ns.map PyData.bool) = some ns := by
  induction ns with
  | nil => rfl
  | cons n ns ih => simp [boolsOf, ih]
theorem intsOf_eq : ∀ {ds : List PyData} {ns : List Int}, intsOf ds = some ns → ds = ns.map PyData.int
  | [], ns, h => by simp only [intsOf, Option.some.injEq] at h; subst h; rfl
  | .int i :: ds, ns, h => by
    simp only [intsOf] at h
    split at h
    · rename_i ms e
      cases h
      rw [intsOf_eq e]; rfl
    · cases h
  | .none :: _, _, h => by simp [intsOf] at h
  | .bool _ :: _, _, h => by simp [intsOf] at h
  | .str _ :: _, _, h => by simp [intsOf] at h
  | .list _ :: _, _, h => by simp [intsOf] at h
  | .tuple _ :: _, _, h => by simp [intsOf] at h
  | .dict _ :: _, _, h => by simp [intsOf] at h
theorem boolsOf_eq : ∀ {ds : List PyData} {ns : List Bool}, boolsOf ds = some ns → ds = ns.map PyData.bool
  | [], ns, h => by simp only [boolsOf, Option.some.injEq] at h; subst h; rfl
  | .bool i :: ds, ns, h => by
    simp only [boolsOf] at h
    split at h
    · rename_i ms e
      cases h
      rw [boolsOf_eq e]; rfl
    · cases h
  | .none :: _, _, h => by simp [boolsOf] at h
  | .int _ :: _, _, h => by simp [boolsOf] at h
  | .str _ :: _, _, h => by simp [boolsOf] at h
  | .list _ :: _, _, h => by simp [boolsOf] at h
  | .tuple _ :: _, _, h => by simp [boolsOf] at h
  | .dict _ :: _, _, h => by simp [boolsOf] at h

/-! ### len, abs, int, min, max, sum, any, all, list, tuple, sorted -/
def bLen : List PyData → Option T
  | [.list ds] => some (.sh (.int ds.length))
  | [.tuple ds] => some (.sh (.int ds.length))
  | _ => none
theorem bLen_ok : CallD X (.builtin "len") bLen := by
  intro pins s σ H xs us Q I r ⟨F, ds, t, fh, rq, eq, k⟩
  unfold bLen at eq
  split at eq
  · rename_i ds
    cases eq
    obtain ⟨v, rfl, r1⟩ := rq.one
    obtain ⟨a, xs, rfl, q, rp⟩ := rq_list fh r1
    exact call_len_seq pins s σ H _ us Q I r ⟨a, xs, rfl, .inl q, by rw [rp.len]; exact k.int fh⟩
  · rename_i ds
    cases eq
    obtain ⟨v, rfl, r1⟩ := rq.one
    obtain ⟨a, xs, rfl, q, rp⟩ := rq_tup r1
    exact call_len_seq pins s σ H _ us Q I r ⟨a, xs, rfl, .inr (sqT_mono fh q), by rw [rp.len]; exact k.int fh⟩
  · cases eq
def bAbs : List PyData → Option T
  | [.int i] => some (.sh (.int (if i < 0 then -i else i)))
  | _ => none
theorem bAbs_ok : CallD X (.builtin "abs") bAbs := by
  intro pins s σ H xs us Q I r ⟨F, ds, t, fh, rq, eq, k⟩
  unfold bAbs at eq
  split at eq
  · cases eq
    obtain ⟨v, rfl, r1⟩ := rq.one
    cases rq_int r1
    exact call_abs pins s σ H _ us Q I r ⟨_, rfl, k.int fh⟩
  · cases eq
def bInt : List PyData → Option T
  | [.int i] => some (.sh (.int i))
  | [.bool b] => some (.sh (.int (if b then 1 else 0)))
  | _ => none
theorem bInt_ok : CallD X (.type "int") bInt := by
  intro pins s σ H xs us Q I r ⟨F, ds, t, fh, rq, eq, k⟩
  unfold bInt at eq
  split at eq
  · cases eq
    obtain ⟨v, rfl, r1⟩ := rq.one
    cases rq_int r1
    exact call_int1 pins s σ H _ us Q I r (.inl ⟨_, rfl, k.int fh⟩)
  · cases eq
    obtain ⟨v, rfl, r1⟩ := rq.one
    cases rq_bool r1
    exact call_int1 pins s σ H _ us Q I r (.inr ⟨_, rfl, k.int fh⟩)
  · cases eq
/-- min, max of data -/
def alikeAll2 (ds : List PyData) : Bool := ds.all fun d => ds.all fun e => W.alike d e
def cmpAll (ds : List PyData) : Bool := alikeAll2 ds && ds.all (fun d => !isNone d) && SeqAt.shaped (.list ds) && decide (PyData.depthAll ds ≤ 60)
def minI : Int → List Int → Int := List.foldl fun a y => if y < a then y else a
def maxI : Int → List Int → Int := List.foldl fun a y => if a < y then y else a
def bMin : List PyData → Option T
  | [.int i, .int j] => some (.sh (.int (if j < i then j else i)))
  | [.list ds] => match intsOf ds with
    | some (n :: ns) => some (.sh (.int (minI n ns)))
    | some [] => none
    | none => match ds with
      | d :: ds => if cmpAll (d :: ds) then some (.sh (W.minD d ds)) else none
      | [] => none
  | [.tuple (d :: ds)] => if cmpAll (d :: ds) then some (.sh (W.minD d ds)) else none
  | _ => none
def bMax : List PyData → Option T
  | [.int i, .int j] => some (.sh (.int (if j > i then j else i)))
  | [.list ds] => match intsOf ds with
    | some (n :: ns) => some (.sh (.int (maxI n ns)))
    | some [] => none
    | none => match ds with
      | d :: ds => if cmpAll (d :: ds) then some (.sh (W.maxD d ds)) else none
      | [] => none
  | [.tuple (d :: ds)] => if cmpAll (d :: ds) then some (.sh (W.maxD d ds)) else none
  | _ => none
theorem minI_spec : ∀ (ns : List Int) (n : Int), minI n ns ∈ n :: ns ∧ ∀ y ∈ n :: ns, minI n ns ≤ y
  | [], n => by simp [minI]
  | m :: ns, n => by
    have ih := minI_spec ns (if m < n then m else n)
    have e : minI n (m :: ns) = minI (if m < n then m else n) ns := rfl
    rw [e]
    refine ⟨?_, fun y hy => ?_⟩
    · rcases List.mem_cons.mp ih.1 with h | h
      · rw [h]; split <;> simp
      · simp [h]
    · have h0 := ih.2 (if m < n then m else n) (by simp)
      have h1 := ih.2
      generalize minI (if m < n then m else n) ns = z at h0 h1 ⊢
      rcases List.mem_cons.mp hy with rfl | hy
      · split at h0 <;> omega
      · rcases List.mem_cons.mp hy with rfl | hy
        · split at h0 <;> omega
        · exact h1 y (by simp [hy])
theorem maxI_spec : ∀ (ns : List Int) (n : Int), maxI n ns ∈ n :: ns ∧ ∀ y ∈ n :: ns, y ≤ maxI n ns
  | [], n => by simp [maxI]
  | m :: ns, n => by
    have ih := maxI_spec ns (if n < m then m else n)
    have e : maxI n (m :: ns) = maxI (if n < m then m else n) ns := rfl
    rw [e]
    refine ⟨?_, fun y hy => ?_⟩
    · rcases List.mem_cons.mp ih.1 with h | h
      · rw [h]; split <;> simp
      · simp [h]
    · have h0 := ih.2 (if n < m then m else n) (by simp)
      have h1 := ih.2
      generalize maxI (if n < m then m else n) ns = z at h0 h1 ⊢
      rcases List.mem_cons.mp hy with rfl | hy
      · split at h0 <;> omega
      · rcases List.mem_cons.mp hy with rfl | hy
        · split at h0 <;> omega
        · exact h1 y (by simp [hy])
theorem all2_alike {ds : List PyData} (h : cmpAll ds = true) : W.AlikeAll ds ∧ SeqAt.shaped (.list ds) = true ∧ PyData.depthAll ds ≤ 60 := by
  unfold cmpAll alikeAll2 at h
  simp only [Bool.and_eq_true, List.all_eq_true, decide_eq_true_eq, Bool.not_eq_true'] at h
  exact ⟨⟨h.1.1.1, fun x hx => isNone_ne (h.1.1.2 x hx)⟩, h.1.2, h.2⟩
/-- a value of a list found by its place and its reading -/
theorem found_rp {pins : List (Addr × Obj)} {σ : St} {F H : Hp} {s : Shared} {ds : List PyData} {xs : List V} {its : List Value} {i : Nat} {u : Value} {h' : Heap} {m : PyData} {bs : List Addr} (I : Inv X pins σ H s) (fh : Same F H) (rp : RpAll X.K F ds xs) (rv : Vals xs its)
    (hi : its[i]? = some u) (kp : ∀ b o, s.heap.get? b = some o → h'.get? b = some o) (r : Reads h' u m bs) (hs : SeqAt.shaped (.list ds) = true) : ∃ v, RelV v u ∧ Rp X.K F m v := by
  have hil : i < its.length := (List.getElem?_eq_some_iff.mp hi).1
  have l1 := rv.length
  obtain ⟨x, hx⟩ : ∃ x, xs[i]? = some x := ⟨xs[i]'(by omega), by simp [l1, hil]⟩
  obtain ⟨u', hu', rx⟩ := rv.get hx
  rw [hi] at hu'; cases hu'
  obtain ⟨d, hd, rd⟩ := rp.get' hx
  have hcl : PyData.canLayAll0 ds = true := SeqAt.canLay_of_shaped hs
  have hc : d.canLay0 = true := by
    have all : ∀ (l : List PyData), PyData.canLayAll0 l = true → ∀ d ∈ l, d.canLay0 = true := by
      intro l
      induction l with
      | nil => intro _ d hd; cases hd
      | cons y l ih =>
        intro h d hd
        simp only [PyData.canLayAll0, Bool.and_eq_true] at h
        rcases List.mem_cons.mp hd with rfl | hd
        · exact h.1
        · exact ih h.2 d hd
    exact all ds hcl d (List.mem_of_getElem? hd)
  obtain ⟨as, ra⟩ := Dp.reads I d x u ((rd.mono fh).dp hc) rx
  refine ⟨x, rx, ?_⟩
  rw [← SeqAt.Reads.unique d m u _ _ hc (PyProof.Rows.Reads.keeps kp ra) r]
  exact rd
theorem bMin_ok (g : Good X) : CallD X (.builtin "min") bMin := by
  intro pins s σ H xs us Q I r ⟨F, ds, t, fh, rq, eq, k⟩
  have hroom := g.room
  unfold bMin at eq
  split at eq
  · cases eq
    obtain ⟨v, w, rfl, r1, r2⟩ := rq.two
    cases rq_int r1
    cases rq_int r2
    exact call_min2 g.calm pins s σ H _ us Q I r ⟨_, _, rfl, k.int fh⟩
  · rename_i ds
    obtain ⟨v, rfl, r1⟩ := rq.one
    obtain ⟨a, xs, rfl, q, rp⟩ := rq_list fh r1
    split at eq
    · rename_i n ns e
      cases eq
      have e2 := intsOf_eq e
      subst e2
      have e3 := rpAll_ints rp
      subst e3
      refine cr_min g.calm pins s σ H _ us Q I r ⟨a, n :: ns, rfl, q, by simp, fun m hm hle => ?_⟩
      have sp := minI_spec ns n
      have h1 := hle _ sp.1
      have h2 := sp.2 _ hm
      have : m = minI n ns := by omega
      rw [this]
      exact k.int fh
    · cases eq
    · split at eq
      · rename_i d ds _
        split at eq
        · rename_i hc
          cases eq
          obtain ⟨ha, hs, hd⟩ := all2_alike hc
          obtain ⟨its, rv, ⟨o, n, e, hoc, _, hod⟩, _⟩ := I.list q
          obtain ⟨as, ra⟩ := Dp.readsAll I (d :: ds) xs its ((rp.mono fh).dp (SeqAt.canLay_of_shaped hs)) rv
          obtain ⟨u, rfl, ru⟩ := vals1 r
          cases ru
          refine PySem.W.min_list_data (vs := its.toArray) (I.ok.hd g.calm) ⟨o, e, hoc, n, hod⟩ ra ha (by omega) fun i v h' tk bs hi hr kp => ?_
          obtain ⟨x, rx, rd⟩ := found_rp I fh rp rv (by simpa using hi) kp hr hs
          exact ⟨x, H, I.kept kp, rx, k.sh fh rd⟩
        · cases eq
      · cases eq
  · rename_i d ds
    split at eq
    · rename_i hc
      cases eq
      obtain ⟨ha, hs, hd⟩ := all2_alike hc
      obtain ⟨v, rfl, r1⟩ := rq.one
      obtain ⟨a, xs, rfl, q, rp⟩ := rq_tup r1
      obtain ⟨its, rv, ⟨o, e, hoc, n, hod⟩, _⟩ := I.tuple (sqT_mono fh q)
      obtain ⟨as, ra⟩ := Dp.readsAll I (d :: ds) xs its ((rp.mono fh).dp (SeqAt.canLay_of_shaped hs)) rv
      obtain ⟨u, rfl, ru⟩ := vals1 r
      cases ru
      refine PySem.W.min_tuple_data (vs := its.toArray) (I.ok.hd g.calm) ⟨o, e, hoc, n, hod⟩ ra ha (by omega) fun i v h' tk bs hi hr kp => ?_
      obtain ⟨x, rx, rd⟩ := found_rp I fh rp rv (by simpa using hi) kp hr hs
      exact ⟨x, H, I.kept kp, rx, k.sh fh rd⟩
    · cases eq
  · cases eq
theorem bMax_ok (g : Good X) : CallD X (.builtin "max") bMax := by
  intro pins s σ H xs us Q I r ⟨F, ds, t, fh, rq, eq, k⟩
  have hroom := g.room
  unfold bMax at eq
  split at eq
  · cases eq
    obtain ⟨v, w, rfl, r1, r2⟩ := rq.two
    cases rq_int r1
    cases rq_int r2
    exact call_max2 g.calm pins s σ H _ us Q I r ⟨_, _, rfl, k.int fh⟩
  · rename_i ds
    obtain ⟨v, rfl, r1⟩ := rq.one
    obtain ⟨a, xs, rfl, q, rp⟩ := rq_list fh r1
    split at eq
    · rename_i n ns e
      cases eq
      have e2 := intsOf_eq e
      subst e2
      have e3 := rpAll_ints rp
      subst e3
      refine cr_max g.calm pins s σ H _ us Q I r ⟨a, n :: ns, rfl, q, by simp, fun m hm hle => ?_⟩
      have sp := maxI_spec ns n
      have h1 := hle _ sp.1
      have h2 := sp.2 _ hm
      have : m = maxI n ns := by omega
      rw [this]
      exact k.int fh
    · cases eq
    · split at eq
      · rename_i d ds _
        split at eq
        · rename_i hc
          cases eq
          obtain ⟨ha, hs, hd⟩ := all2_alike hc
          obtain ⟨its, rv, ⟨o, n, e, hoc, _, hod⟩, _⟩ := I.list q
          obtain ⟨as, ra⟩ := Dp.readsAll I (d :: ds) xs its ((rp.mono fh).dp (SeqAt.canLay_of_shaped hs)) rv
          obtain ⟨u, rfl, ru⟩ := vals1 r
          cases ru
          refine PySem.W.max_list_data (vs := its.toArray) (I.ok.hd g.calm) ⟨o, e, hoc, n, hod⟩ ra ha (by omega) fun i v h' tk bs hi hr kp => ?_
          obtain ⟨x, rx, rd⟩ := found_rp I fh rp rv (by simpa using hi) kp hr hs
          exact ⟨x, H, I.kept kp, rx, k.sh fh rd⟩
        · cases eq
      · cases eq
  · rename_i d ds
    split at eq
    · rename_i hc
      cases eq
      obtain ⟨ha, hs, hd⟩ := all2_alike hc
      obtain ⟨v, rfl, r1⟩ := rq.one
      obtain ⟨a, xs, rfl, q, rp⟩ := rq_tup r1
      obtain ⟨its, rv, ⟨o, e, hoc, n, hod⟩, _⟩ := I.tuple (sqT_mono fh q)
      obtain ⟨as, ra⟩ := Dp.readsAll I (d :: ds) xs its ((rp.mono fh).dp (SeqAt.canLay_of_shaped hs)) rv
      obtain ⟨u, rfl, ru⟩ := vals1 r
      cases ru
      refine PySem.W.max_tuple_data (vs := its.toArray) (I.ok.hd g.calm) ⟨o, e, hoc, n, hod⟩ ra ha (by omega) fun i v h' tk bs hi hr kp => ?_
      obtain ⟨x, rx, rd⟩ := found_rp I fh rp rv (by simpa using hi) kp hr hs
      exact ⟨x, H, I.kept kp, rx, k.sh fh rd⟩
    · cases eq
  · cases eq
def bSum : List PyData → Option T
  | [.list ds] => match intsOf ds with
    | some ns => some (.sh (.int ns.sum))
    | none => none
  | _ => none
theorem bSum_ok (g : Good X) : CallD X (.builtin "sum") bSum := by
  intro pins s σ H xs us Q I r ⟨F, ds, t, fh, rq, eq, k⟩
  unfold bSum at eq
  split at eq
  · rename_i ds
    obtain ⟨v, rfl, r1⟩ := rq.one
    obtain ⟨a, xs, rfl, q, rp⟩ := rq_list fh r1
    split at eq
    · rename_i ns e
      cases eq
      have e2 := intsOf_eq e
      subst e2
      have e3 := rpAll_ints rp
      subst e3
      exact cr_sum g.calm pins s σ H _ us Q I r ⟨a, ns, rfl, q, k.int fh⟩
    · cases eq
  · cases eq
def bAny : List PyData → Option T
  | [.list ds] => match boolsOf ds with
    | some ns => some (.sh (.bool (ns.any id)))
    | none => none
  | _ => none
def bAll : List PyData → Option T
  | [.list ds] => match boolsOf ds with
    | some ns => some (.sh (.bool (ns.all id)))
    | none => none
  | _ => none
theorem bAny_ok (g : Good X) : CallD X (.builtin "any") bAny := by
  intro pins s σ H xs us Q I r ⟨F, ds, t, fh, rq, eq, k⟩
  unfold bAny at eq
  split at eq
  · rename_i ds
    obtain ⟨v, rfl, r1⟩ := rq.one
    obtain ⟨a, xs, rfl, q, rp⟩ := rq_list fh r1
    split at eq
    · rename_i ns e
      cases eq
      have e2 := boolsOf_eq e
      subst e2
      have e3 := rpAll_bools rp
      subst e3
      exact cr_any g.calm pins s σ H _ us Q I r ⟨a, ns, rfl, q, k.bool fh⟩
    · cases eq
  · cases eq
theorem bAll_ok (g : Good X) : CallD X (.builtin "all") bAll := by
  intro pins s σ H xs us Q I r ⟨F, ds, t, fh, rq, eq, k⟩
  unfold bAll at eq
  split at eq
  · rename_i ds
    obtain ⟨v, rfl, r1⟩ := rq.one
    obtain ⟨a, xs, rfl, q, rp⟩ := rq_list fh r1
    split at eq
    · rename_i ns e
      cases eq
      have e2 := boolsOf_eq e
      subst e2
      have e3 := rpAll_bools rp
      subst e3
      exact cr_all g.calm pins s σ H _ us Q I r ⟨a, ns, rfl, q, k.bool fh⟩
    · cases eq
  · cases eq
def bList : List PyData → Option T
  | [.list ds] => some (.lst (ds.map T.sh))
  | [.tuple ds] => some (.lst (ds.map T.sh))
  | _ => none
theorem bList_ok : CallD X (.type "list") bList := by
  intro pins s σ H xs us Q I r ⟨F, ds, t, fh, rq, eq, k⟩
  unfold bList at eq
  split at eq
  · rename_i ds
    cases eq
    obtain ⟨v, rfl, r1⟩ := rq.one
    obtain ⟨a, xs, rfl, q, rp⟩ := rq_list fh r1
    exact call_list_of pins s σ H _ us Q I r ⟨a, xs, rfl, .inl q, k.lstQ fh rp⟩
  · rename_i ds
    cases eq
    obtain ⟨v, rfl, r1⟩ := rq.one
    obtain ⟨a, xs, rfl, q, rp⟩ := rq_tup r1
    exact call_list_of pins s σ H _ us Q I r ⟨a, xs, rfl, .inr (sqT_mono fh q), k.lstQ fh rp⟩
  · cases eq
def bTuple : List PyData → Option T
  | [.list ds] => some (.sh (.tuple ds))
  | [.tuple ds] => some (.sh (.tuple ds))
  | _ => none
theorem bTuple_ok : CallD X (.type "tuple") bTuple := by
  intro pins s σ H xs us Q I r ⟨F, ds, t, fh, rq, eq, k⟩
  unfold bTuple at eq
  split at eq
  · rename_i ds
    cases eq
    obtain ⟨v, rfl, r1⟩ := rq.one
    obtain ⟨a, xs, rfl, q, rp⟩ := rq_list fh r1
    exact call_tuple_of pins s σ H _ us Q I r ⟨a, xs, rfl, .inl ⟨q, k.tupQ fh rp⟩⟩
  · rename_i ds
    cases eq
    obtain ⟨v, rfl, r1⟩ := rq.one
    obtain ⟨a, xs, rfl, q, rp⟩ := rq_tup r1
    exact call_tuple_of pins s σ H _ us Q I r ⟨a, xs, rfl, .inr ⟨sqT_mono fh q, k.sh fh (by simp only [Rp]; exact ⟨a, xs, rfl, q, rp⟩)⟩⟩
  · cases eq
/-- sorted -/
def isTup1 : PyData → Bool
  | .tuple (_ :: _) => true
  | _ => false
def isTupA : PyData → Bool
  | .tuple _ => true
  | _ => false
def sortable (ds : List PyData) : Bool := alikeAll2 ds && (ds.all fun d => !isNone d) && decide (PyData.depthAll ds ≤ 60) && PyData.canLayAll0 ds
/-! ### sorting, by insertion (the same list as the stable merge) -/
mutual
theorem eqv_eq : ∀ {x y : PyData}, W.alike x y = true → PyData.eqv x y = true → x = y
  | .none, y, h, e => by cases y <;> simp_all [W.alike, PyData.eqv]
  | .bool a, y, h, e => by cases y <;> simp_all [W.alike, PyData.eqv]
  | .int a, y, h, e => by cases y <;> simp_all [W.alike, PyData.eqv]
  | .str a, y, h, e => by cases y <;> simp_all [W.alike, PyData.eqv]
  | .list a, y, h, e => by
    cases y <;> simp [W.alike, PyData.eqv] at h e
    rw [eqvAll_eq h e]
  | .tuple a, y, h, e => by
    cases y <;> simp [W.alike, PyData.eqv] at h e
    rw [eqvAll_eq h e]
  | .dict a, y, h, e => by cases y <;> simp [W.alike] at h
theorem eqvAll_eq : ∀ {x y : List PyData}, W.alikeAll x y = true → PyData.eqvAll x y = true → x = y
  | [], y, h, e => by cases y <;> simp_all [PyData.eqvAll]
  | a :: as, y, h, e => by
    cases y with
    | nil => simp [PyData.eqvAll] at e
    | cons b bs =>
      simp [W.alikeAll, PyData.eqvAll] at h e
      rw [eqv_eq h.1 e.1, eqvAll_eq h.2 e.2]
end
theorem toks_inj {x y : PyData} (h : W.alike x y = true) (e : W.keyToks x = W.keyToks y) : x = y := by
  cases e1 : PyData.eqv x y with
  | true => exact eqv_eq h e1
  | false =>
    have := (W.toks_eqv x y h).2 e1 [] [.inl 0]
    rw [e, List.append_nil] at this
    have h2 := W.lex_pre (W.keyToks y) [] [.inl 0]
    rw [List.append_nil] at h2
    rw [h2] at this
    have h3 : PyProof.Rows.lexLt PyProof.Rows.itemOrd (W.keyToks y) (W.keyToks y) = false := PyProof.Rows.lex_irrefl _
    rw [h3] at this
    cases this
abbrev leD : PyData → PyData → Bool := W.dataLe false id
theorem leD_total (a b : PyData) : (leD a b || leD b a) = true := Bool.or_eq_true_iff.mpr ((W.sortLe_total (PyProof.Rows.listOrd PyProof.Rows.itemOrd) false fun b => W.keyToks (id b)).total a b)
theorem leD_trans (a b c : PyData) : leD a b = true → leD b c = true → leD a c = true := (W.sortLe_total (PyProof.Rows.listOrd PyProof.Rows.itemOrd) false fun b => W.keyToks (id b)).trans a b c
theorem leD_anti {a b : PyData} (h : W.alike a b = true) (h1 : leD a b = true) (h2 : leD b a = true) : a = b := by
  have h1' : (!PyProof.Rows.lexLt PyProof.Rows.itemOrd (W.keyToks b) (W.keyToks a)) = true := h1
  have h2' : (!PyProof.Rows.lexLt PyProof.Rows.itemOrd (W.keyToks a) (W.keyToks b)) = true := h2
  rw [Bool.not_eq_true'] at h1' h2'
  exact toks_inj h (PyProof.Rows.lex_total _ _ h2' h1')
def insD (x : PyData) : List PyData → List PyData
  | [] => [x]
  | y :: r => if W.dataLt y x then y :: insD x r else x :: y :: r
def sortD : List PyData → List PyData
  | [] => []
  | x :: r => insD x (sortD r)
theorem insD_perm (x : PyData) : ∀ l : List PyData, (insD x l).Perm (x :: l)
  | [] => .refl _
  | y :: r => by
    unfold insD
    split
    · exact ((insD_perm x r).cons y).trans (.swap x y r)
    · exact .refl _
theorem sortD_perm : ∀ l : List PyData, (sortD l).Perm l
  | [] => .refl _
  | x :: r => (insD_perm x _).trans ((sortD_perm r).cons x)
theorem leD_def (a b : PyData) : leD a b = !W.dataLt b a := rfl
theorem insD_sorted (x : PyData) : ∀ {l : List PyData}, l.Pairwise (fun a b => leD a b = true) → (insD x l).Pairwise (fun a b => leD a b = true)
  | [], _ => by simp [insD]
  | y :: r, h => by
    rw [List.pairwise_cons] at h
    unfold insD
    split
    · rename_i e
      rw [List.pairwise_cons]
      refine ⟨fun z hz => ?_, insD_sorted x h.2⟩
      rcases List.mem_cons.mp ((insD_perm x r).mem_iff.mp hz) with rfl | hz
      · have := leD_total y z
        have e2 : leD z y = false := by rw [leD_def, e]; rfl
        rw [e2, Bool.or_false] at this
        exact this
      · exact h.1 z hz
    · rename_i e
      have e2 : leD x y = true := by rw [leD_def, Bool.eq_false_iff.mpr e]; rfl
      rw [List.pairwise_cons, List.pairwise_cons]
      refine ⟨fun z hz => ?_, h.1, h.2⟩
      rcases List.mem_cons.mp hz with rfl | hz
      · exact e2
      · exact leD_trans _ _ _ e2 (h.1 z hz)
theorem sortD_sorted : ∀ l : List PyData, (sortD l).Pairwise (fun a b => leD a b = true)
  | [] => by simp [sortD]
  | x :: r => insD_sorted x (sortD_sorted r)
theorem sort_unique {l s : List PyData} (ha : ∀ a ∈ l, ∀ b ∈ l, W.alike a b = true) (hp : s.Perm l) (hs : s.Pairwise (fun a b => leD a b = true)) {s' : List PyData} (hp' : s'.Perm l) (hs' : s'.Pairwise (fun a b => leD a b = true)) : s = s' :=
  List.Perm.eq_of_pairwise (le := fun a b => leD a b = true) (fun a b h1 h2 => leD_anti (ha a (hp.mem_iff.mp h1) b (hp'.mem_iff.mp h2))) hs hs' (hp.trans hp'.symm)
theorem merge_sortD {l : List PyData} (ha : ∀ a ∈ l, ∀ b ∈ l, W.alike a b = true) : l.mergeSort (W.dataLe false id) = sortD l :=
  sort_unique ha (List.mergeSort_perm _ _) (List.pairwise_mergeSort leD_trans leD_total l) (sortD_perm l) (sortD_sorted l)
theorem alike2_mem {l : List PyData} (h : alikeAll2 l = true) : ∀ a ∈ l, ∀ b ∈ l, W.alike a b = true := fun a ha b hb => List.all_eq_true.mp (List.all_eq_true.mp h a ha) b hb
def bSorted : List PyData → Option T
  | [.list ds] => if sortable ds then some (.lst ((sortD ds).map T.sh)) else none
  | [.tuple ds] => if sortable ds then some (.lst ((sortD ds).map T.sh)) else none
  | _ => none
theorem sortable_ok {ds : List PyData} (h : sortable ds = true) : W.AllAlike (ds.map id) ∧ W.PvSortable (ds.map id) ∧ PyData.depthAll ds ≤ 60 := by
  unfold sortable alikeAll2 at h
  simp only [Bool.and_eq_true, List.all_eq_true, decide_eq_true_eq, Bool.not_eq_true'] at h
  rw [List.map_id]
  refine ⟨fun d hd e he => h.1.1.1 d hd e he, ?_, h.1.2⟩
  by_cases ht : ∀ d ∈ ds, ∃ xs, d = .tuple xs
  · exact .inl ht
  · refine .inr (.inr fun d hd => ⟨isNone_ne (h.1.1.2 d hd), fun xs e => ht fun d' hd' => ?_⟩)
    have := h.1.1.1 d hd d' hd'
    rw [e] at this
    cases d' <;> first | exact ⟨_, rfl⟩ | (simp [W.alike] at this)
theorem sortable_lay {ds : List PyData} (h : sortable ds = true) : PyData.canLayAll0 ds = true := (Bool.and_eq_true_iff.mp h).2
theorem sortable_alike {ds : List PyData} (h : sortable ds = true) : alikeAll2 ds = true := by
  unfold sortable at h
  simp only [Bool.and_eq_true] at h
  exact h.1.1.1
theorem depth_mem : ∀ {ds : List PyData} {d : PyData}, d ∈ ds → d.depth ≤ PyData.depthAll ds
  | x :: xs, d, h => by
    simp only [PyData.depthAll]
    rcases List.mem_cons.mp h with rfl | h
    · exact Nat.le_max_left _ _
    · exact Nat.le_trans (depth_mem h) (Nat.le_max_right _ _)
theorem eachIs_of {F : Hp} {K : PySem.W.Frag} : ∀ {ds : List PyData} {xs : List V} {its : List Value}, RpAll K F ds xs → Vals xs its → W.EachIs (fun u d => ∃ x, RelV x u ∧ Rp K F d x) its ds
  | [], _, _, h, r => by
    simp only [RpAll] at h
    subst h
    cases r
    exact .nil
  | d :: ds, _, _, h, r => by
    obtain ⟨x, xs, rfl, q, t⟩ := h.uncons
    cases r with
    | cons r1 r2 => exact .cons ⟨x, r1, q⟩ (eachIs_of t r2)
theorem eachIs_to {F : Hp} {K : PySem.W.Frag} : ∀ {ds : List PyData} {its : List Value}, W.EachIs (fun u d => ∃ x, RelV x u ∧ Rp K F d x) its ds → ∃ xs, RpAll K F ds xs ∧ Vals xs its
  | _, _, .nil => ⟨[], .nil, .nil⟩
  | _, _, .cons ⟨x, r1, q⟩ t => by
    obtain ⟨xs, h1, h2⟩ := eachIs_to t
    exact ⟨x :: xs, .consI q h1, .cons r1 h2⟩
theorem bSorted_ok (g : Good X) : CallD X (.builtin "sorted") bSorted := by
  intro pins s σ H xs us Q I r ⟨F, ds, t, fh, rq, eq, k⟩
  have hroom := g.room
  unfold bSorted at eq
  split at eq
  · rename_i ds
    obtain ⟨v, rfl, r1⟩ := rq.one
    obtain ⟨a, xs, rfl, q, rp⟩ := rq_list fh r1
    split at eq
    · rename_i hs
      cases eq
      have hsrt := merge_sortD (alike2_mem (sortable_alike hs))
      obtain ⟨h1, h2, h3⟩ := sortable_ok hs
      obtain ⟨its, rv, ⟨o, n, e, hoc, _, hod⟩, hz⟩ := I.list q
      obtain ⟨as, ra⟩ := Dp.readsAll I ds xs its ((rp.mono fh).dp (sortable_lay hs)) rv
      obtain ⟨u, rfl, ru⟩ := vals1 r
      cases ru
      have hl := rp.len
      refine PySem.W.pv_sorted_data (vs := its) (bs := ds) (enc := id) (R := fun u d => ∃ x, RelV x u ∧ Rp X.K F d x) ⟨o, e, hoc, n, hod⟩ (eachIs_of rp rv) (W.readsAll_each id (by rw [List.map_id]; exact ra)) h1 h2 (by omega) (fun b hb => ?_) fun out ho eo => ?_
      · have := depth_mem hb
        show X.A.units + 2 + b.depth < cLine
        omega
      · obtain ⟨ys, p1, p2⟩ := eachIs_to eo
        rw [hsrt] at p1
        obtain ⟨c, hc⟩ := PyProof.Rows.sortedAll_at s.heap its (List.toArray out)
        have hfree : H (s.heap.objs.size + 1) = none := I.hok.fresh (Nat.le_succ _)
        refine ⟨.ref (s.heap.objs.size + 1), upd H (s.heap.objs.size + 1) (.lst ys), I.laid (t' := s.toks) (fun b o => PyProof.Rows.sortedAll_old) (Nat.le_succ _) ⟨?_, out, c, p2, hc⟩, rfl, k.lstQ fh p1 _ hfree⟩
        have := p2.length
        omega
    · cases eq
  · rename_i ds
    obtain ⟨v, rfl, r1⟩ := rq.one
    obtain ⟨a, xs, rfl, q, rp⟩ := rq_tup r1
    have q := sqT_mono fh q
    split at eq
    · rename_i hs
      cases eq
      have hsrt := merge_sortD (alike2_mem (sortable_alike hs))
      obtain ⟨h1, h2, h3⟩ := sortable_ok hs
      obtain ⟨its, rv, ⟨o, e, hoc, n, hod⟩, hz⟩ := I.tuple q
      obtain ⟨as, ra⟩ := Dp.readsAll I ds xs its ((rp.mono fh).dp (sortable_lay hs)) rv
      obtain ⟨u, rfl, ru⟩ := vals1 r
      cases ru
      have hl := rp.len
      refine PySem.W.sorted_tup_data (vs := its) (bs := ds) (enc := id) (R := fun u d => ∃ x, RelV x u ∧ Rp X.K F d x) e hoc hod (eachIs_of rp rv) (W.readsAll_each id (by rw [List.map_id]; exact ra)) h1 h2 (by omega) (fun b hb => ?_) fun out g1 c g2 ho eo k1 k2 hc => ?_
      · have := depth_mem hb
        show X.A.units + 2 + b.depth < cLine
        omega
      · obtain ⟨ys, p1, p2⟩ := eachIs_to eo
        rw [hsrt] at p1
        have I1 := I.kept (t' := s.toks) k1
        have hfree : H g1.objs.size = none := I1.hok.fresh (Nat.le_refl _)
        refine ⟨.ref g1.objs.size, upd H g1.objs.size (.lst ys), I1.laid (t' := s.toks) k2 (Nat.le_refl _) ⟨?_, out, c, p2, hc⟩, rfl, k.lstQ fh p1 _ hfree⟩
        have := p2.length
        omega
    · cases eq
  · cases eq
end Pv
set_option Elab.async false
set_option linter.all false
set_option maxRecDepth 100000
set_option maxHeartbeats 4000000
namespace Pv
open PySem L2
variable {X : Cx} {C : Cn}

/-! ### x[i] -/
def opIx : PyData → PyData → Option T
  | .list ds, .int i => (atI ds i).map T.sh
  | .tuple ds, .int i => (atI ds i).map T.sh
  | _, _ => none
theorem atI_rp {K : PySem.W.Frag} {F : Hp} {ds : List PyData} {xs : List V} {i : Int} {d : PyData} (rp : RpAll K F ds xs) (e : atI ds i = some d) : ∃ v, atI xs i = some v ∧ Rp K F d v := by
  unfold atI at e ⊢
  rw [rp.len]
  cases h : ixN ds.length i with
  | none => rw [h] at e; cases e
  | some j =>
    rw [h] at e
    exact rp.get (by simpa using e)
theorem opIx_ok : IxR X (rD2 X.K opIx) := by
  intro value slice pins s σ H x y v u Q I rx ry ⟨F, d, e, t, fh, r1, r2, eq, k⟩ hs
  unfold opIx at eq
  split at eq
  · rename_i ds i
    obtain ⟨a, xs, rfl, q, rp⟩ := rq_list fh r1
    cases rq_int r2
    cases e : atI ds i with
    | none => rw [e] at eq; cases eq
    | some d =>
      rw [e] at eq
      cases eq
      obtain ⟨w, h1, h2⟩ := atI_rp rp e
      exact ix_list value slice pins s σ H _ _ v u Q I rx ry ⟨a, xs, i, w, rfl, rfl, q, h1, k.sh fh h2⟩ hs
  · rename_i ds i
    obtain ⟨a, xs, rfl, q, rp⟩ := rq_tup r1
    cases rq_int r2
    cases e : atI ds i with
    | none => rw [e] at eq; cases eq
    | some d =>
      rw [e] at eq
      cases eq
      obtain ⟨w, h1, h2⟩ := atI_rp rp e
      exact ix_tup value slice pins s σ H _ _ v u Q I rx ry ⟨a, xs, i, w, rfl, rfl, sqT_mono fh q, h1, k.sh fh h2⟩ hs
  · cases eq
/-! ### x[a:b] -/
abbrev FO := Env → Rs (Option Int × Env)
def oNone : FO := fun η => .ok (none, η)
def oSome (f : FE) : FO := fun η => (f η).bind fun p => match p.1 with
  | .sh (.int i) => .ok (some i, p.2)
  | _ => .bad
def tO (C : Cn) (f : FO) : TO := fun σ H Q => ∃ η F fp, Ok C.K F H η σ fp ∧ (f η).post (fun p => ∀ F' H' fp', Aft C.K fp F H σ [] [] p.2 F' H' [] fp' → Q p.1 H') (XP C fp F H σ)
theorem tO_step {fp fp1 f1 : List Addr} {F H F1 H1 : Hp} {σ : St} {ts : List T} {vs : List V} {η1 : Env} {f : FO} {Q : Option Int → Hp → Prop} (a : Aft C.K fp F H σ ts vs η1 F1 H1 f1 fp1) (h : (f η1).post (fun p => ∀ F2 H2 f2 fp2, Aft C.K fp F H σ ts vs p.2 F2 H2 f2 fp2 → Q p.1 H2) (XP C fp F H σ)) : tO C f σ H1 Q :=
  ⟨η1, F1, fp1, a.ok, Rs.post_mono h (fun p hp F' H' fp' b => hp F' H' _ _ (by simpa using a.app b)) fun e η' he => he.back a⟩
theorem _root_.L2.PO.impD {X : Cx} {e : Option Expr} {t t' : TO} (h : PO X e t) (k : ∀ σ H Q, t' σ H Q → t σ H Q) : PO X e t' := ⟨fun pins s σ H Q I q => h.run pins s σ H Q I (k σ H Q q)⟩
theorem pod_none : PO X none (tO C oNone) := po_none.impD fun σ H Q ⟨η, F, fp, o, q⟩ => q F H fp o.aft
theorem pod_some {e : Expr} {f : FE} (h : PE X e (tD C f)) : PO X (some e) (tO C (oSome f)) := by
  refine (po_some h).impD fun σ H Q ⟨η, F, fp, o, q⟩ => ?_
  refine tD_step o.aft (Rs.post_mono (Rs.post_bind q) (fun p hp x F1 H1 f1 fp1 a => ?_) fun _ _ z => z)
  have a : Aft C.K fp F H σ [p.1] [x] p.2 F1 H1 f1 fp1 := a
  split at hp
  · rename_i i e
    rw [e] at a
    exact ⟨i, (rt_int a.rt1).1, hp F1 H1 fp1 a.drop⟩
  · exact hp.elim
def rSlD (K : PySem.W.Frag) (op : PyData → Option Int → Option Int → Option T) : V → Option Int → Option Int → Hp → VK → Prop := fun x lo hi H Q => ∃ F d t, Same F H ∧ Rq K F H d x ∧ op d lo hi = some t ∧ Res K F H t Q
def cutA {α : Type} (xs : List α) (lo hi : Option Int) : List α := (xs.drop (HT.sIx xs.length 0 lo)).take (HT.sIx xs.length xs.length hi - HT.sIx xs.length 0 lo)
def opSl : PyData → Option Int → Option Int → Option T
  | .list ds, lo, hi => some (.lst ((cutA ds lo hi).map T.sh))
  | .tuple ds, lo, hi => some (.sh (.tuple (cutA ds lo hi)))
  | _, _, _ => none
theorem RpAll.drop {K : PySem.W.Frag} {F : Hp} : ∀ (n : Nat) {ds : List PyData} {vs : List V}, RpAll K F ds vs → RpAll K F (ds.drop n) (vs.drop n)
  | 0, _, _, h => by simpa using h
  | n + 1, [], vs, h => by
    simp only [RpAll] at h
    subst h
    simpa using RpAll.nil
  | n + 1, d :: ds, vs, h => by
    obtain ⟨x, xs, rfl, q, t⟩ := h.uncons
    simpa using RpAll.drop n t
theorem RpAll.take {K : PySem.W.Frag} {F : Hp} : ∀ (n : Nat) {ds : List PyData} {vs : List V}, RpAll K F ds vs → RpAll K F (ds.take n) (vs.take n)
  | 0, _, _, h => by simpa using RpAll.nil
  | n + 1, [], vs, h => by
    simp only [RpAll] at h
    subst h
    simpa using RpAll.nil
  | n + 1, d :: ds, vs, h => by
    obtain ⟨x, xs, rfl, q, t⟩ := h.uncons
    simpa using RpAll.consI q (RpAll.take n t)
theorem RpAll.cut {K : PySem.W.Frag} {F : Hp} {ds : List PyData} {vs : List V} (h : RpAll K F ds vs) (lo hi : Option Int) : RpAll K F (cutA ds lo hi) (cutV vs lo hi) := by
  unfold cutA cutV
  rw [h.len]
  exact (h.drop _).take _
theorem opSl_ok : SlR X (rSlD X.K opSl) := by
  intro pins s σ H x v vl vu lo hi sl Q I rx hs pl pu ⟨F, d, t, fh, r1, eq, k⟩
  unfold opSl at eq
  split at eq
  · rename_i ds
    cases eq
    obtain ⟨a, xs, rfl, q, rp⟩ := rq_list fh r1
    exact sl_list pins s σ H _ v vl vu _ _ sl Q I rx hs pl pu ⟨a, xs, rfl, q, k.lstQ fh (rp.cut _ _)⟩
  · rename_i ds
    cases eq
    obtain ⟨a, xs, rfl, q, rp⟩ := rq_tup r1
    refine sl_tupA pins s σ H _ v vl vu _ _ sl Q I rx hs pl pu ⟨a, xs, rfl, sqT_mono fh q, fun hw => ?_, fun _ => k.tupQ fh (rp.cut _ _)⟩
    refine k.sh fh ?_
    simp only [Rp]
    have e : cutA ds lo hi = ds := by
      unfold cutA
      rw [← rp.len, hw.1, hw.2, List.drop_zero, Nat.sub_zero, rp.len, List.take_length]
    rw [e]
    exact ⟨a, xs, rfl, q, rp⟩
  · cases eq
def eSl (f : FE) (lo hi : FO) : FE := fun η => (f η).bind fun p => (lo p.2).bind fun l => (hi l.2).bind fun u => fin1 (opSl p.1.val l.1 u.1) u.2
def eSlV (i : Nat) (lo hi : FO) : FE := fun η => match pk η i with
  | some _ => (lo η).bind fun l => (hi l.2).bind fun u => match pk u.2 i with
    | some d => fin1 (opSl d l.1 u.1) u.2
    | none => .bad
  | none => .bad
theorem pd_sl {e : Expr} {lo hi : Option Expr} {p2 pos : Pos} {f : FE} {fl fu : FO} (hK : C.K = X.K) (he : PE X e (tD C f)) (hl : PO X lo (tO C fl)) (hu : PO X hi (tO C fu)) : PE X (.Subscript e (.Slice lo hi none p2) pos) (tD C (eSl f fl fu)) := by
  refine (pe_slice opSl_ok he hl hu).impD fun σ H Q ⟨η, F, fp, o, q⟩ => ?_
  refine tD_step o.aft (Rs.post_mono (Rs.post_bind q) (fun p hp x F1 H1 f1 fp1 a => ?_) fun _ _ z => z)
  refine tO_step a (Rs.post_mono (Rs.post_bind hp) (fun p2 hp2 F2 H2 f2 fp2 b => ?_) fun _ _ z => z)
  refine tO_step b (Rs.post_mono (Rs.post_bind hp2) (fun p3 hp3 F3 H3 f3 fp3 c => ?_) fun _ _ z => z)
  obtain ⟨F4, t, s, r, eq, k⟩ := fin_res c hp3
  simp only [List.nil_append, T.vals, RpAll] at r
  obtain ⟨x', xs, e1, r1, rfl⟩ := r
  obtain rfl : x = x' := by simpa using e1
  rw [← hK]
  exact ⟨F4, _, t, s.fh, .inl r1, eq, k⟩
theorem pd_slV {e : Expr} {lo hi : Option Expr} {p2 pos : Pos} {i : Nat} {fl fu : FO} (hK : C.K = X.K) (he : PE X e (tVar i)) (hl : PO X lo (tO C fl)) (hu : PO X hi (tO C fu)) : PE X (.Subscript e (.Slice lo hi none p2) pos) (tD C (eSlV i fl fu)) := by
  refine (pe_slice opSl_ok he hl hu).impD fun σ H Q ⟨η, F, fp, o, q⟩ => ?_
  unfold eSlV at q
  obtain ⟨d0, h0, q⟩ := pk_some q
  obtain ⟨x, hx, _⟩ := pk_rq o h0
  refine ⟨x, hx, ?_⟩
  refine tO_step o.aft (Rs.post_mono (Rs.post_bind q) (fun p2 hp2 F2 H2 f2 fp2 b => ?_) fun _ _ z => z)
  refine tO_step b (Rs.post_mono (Rs.post_bind hp2) (fun p3 hp3 F3 H3 f3 fp3 c => ?_) fun _ _ z => z)
  obtain ⟨d, hd, hp3⟩ := pk_some hp3
  obtain ⟨F4, t, s, r, eq, k⟩ := fin_res c hp3
  obtain ⟨x2, hx2, rx⟩ := pk_rq s hd
  obtain rfl : x = x2 := by rw [hx] at hx2; cases hx2; rfl
  rw [← hK]
  exact ⟨F4, _, t, s.fh, rx, eq, k⟩

/-! ### isinstance -/
def tyN : PyData → String
  | .none => "NoneType"
  | .bool _ => "bool"
  | .int _ => "int"
  | .str _ => "str"
  | .list _ => "list"
  | .tuple _ => "tuple"
  | .dict _ => "dict"
inductive Ty where
  | int | bool | str | list | tuple | dict
def Ty.nm : Ty → String
  | .int => "int"
  | .bool => "bool"
  | .str => "str"
  | .list => "list"
  | .tuple => "tuple"
  | .dict => "dict"
def isI : Ty → PyData → Bool
  | .int, .int _ => true
  | .int, .bool _ => true
  | .bool, .bool _ => true
  | .str, .str _ => true
  | .list, .list _ => true
  | .tuple, .tuple _ => true
  | .dict, .dict _ => true
  | _, _ => false
theorem kit_isI (t : Ty) (d : PyData) : kitB (tyN d) t.nm = some (isI t d) := by
  cases t <;> cases d <;> (simp only [tyN, Ty.nm, isI]; decide +kernel)
theorem tyx_of {K : PySem.W.Frag} {F H : Hp} {d : PyData} {v : V} (fh : Same F H) (h : Rq K F H d v) : TyX K H v (.type (tyN d)) := by
  cases d with
  | none => rw [rq_none h]; exact .base .non
  | bool b => rw [rq_bool h]; exact .base (.bl b)
  | int b => rw [rq_int h]; exact .base (.int b)
  | str b => rw [rq_str h]; exact .base (.str b)
  | list b =>
    obtain ⟨a, xs, rfl, q, _⟩ := rq_list fh h
    rcases q with (q | ⟨o, q⟩) | ⟨o, its, n, q, qc, _⟩
    · exact .base (.lst q)
    · exact .base (.frz q)
    · exact .kList q qc
  | tuple b =>
    obtain ⟨a, xs, rfl, q, _⟩ := rq_tup h
    rcases sqT_mono fh q with (q | ⟨o, q⟩) | ⟨o, its, n, q, qc, _⟩
    · exact .base (.tup q)
    · exact .fTuple q
    · exact .kTuple q qc
  | dict b =>
    obtain ⟨a, ks, rfl, q, _⟩ := rq_dict fh h
    exact .base (.dK q)
def eIs (ts : List Ty) (f : FE) : FE := fun η => (f η).bind fun p => .ok (.sh (.bool (ts.any fun t => isI t p.1.val)), p.2)
def eIsV (ts : List Ty) (i : Nat) : FE := fun η => match pk η i with
  | some d => .ok (.sh (.bool (ts.any fun t => isI t d)), η)
  | none => .bad
theorem pd_isi {e : Expr} {f : FE} (t : Ty) (hK : C.K = X.K) (h : PE X e (tCB (rIsi X.K) (tCons (tD C f) (tCons (tC (.ty t.nm)) tNil)))) : PE X e (tD C (eIs [t] f)) := by
  refine h.impD fun σ H Q ⟨η, F, fp, o, q⟩ => ?_
  refine tD_step o.aft (Rs.post_mono (Rs.post_bind q) (fun p hp x F1 H1 f1 fp1 a => ?_) fun _ _ z => z)
  obtain ⟨F2, a2, rp⟩ := a.freeze
  simp only [List.nil_append, T.vals, RpAll] at rp
  obtain ⟨x', xs, e1, r1, rfl⟩ := rp
  obtain rfl : x = x' := by simpa using e1
  refine ⟨x, .ty t.nm, .type (tyN p.1.val), .type t.nm, isI t p.1.val, rfl, .ty _, ?_, kit_ty (kit_isI t _), ?_⟩
  · rw [← hK]; exact tyx_of a2.fh (.inl r1)
  · have e : ([t].any fun t => isI t p.1.val) = isI t p.1.val := by simp
    have hp : ∀ v F' H' f1 fp', Aft C.K fp F H σ [T.sh (.bool (isI t p.1.val))] [v] p.2 F' H' f1 fp' → Q v H' := by rw [e] at hp; exact hp
    exact hp _ F2 H1 [] fp1 (a2.res (.here a2.fh rp_c.2.1))
theorem pd_isiV {e : Expr} {i : Nat} (t : Ty) (hK : C.K = X.K) (h : PE X e (tCB (rIsi X.K) (tCons (tVar i) (tCons (tC (.ty t.nm)) tNil)))) : PE X e (tD C (eIsV [t] i)) := by
  refine h.impD fun σ H Q ⟨η, F, fp, o, q⟩ => ?_
  unfold eIsV at q
  obtain ⟨d, hd, q⟩ := pk_some q
  obtain ⟨x, hx, rx⟩ := pk_rq o hd
  refine ⟨x, hx, x, .ty t.nm, .type (tyN d), .type t.nm, isI t d, rfl, .ty _, ?_, kit_ty (kit_isI t _), ?_⟩
  · rw [← hK]; exact tyx_of o.fh rx
  · have e : ([t].any fun t => isI t d) = isI t d := by simp
    have q : ∀ v F' H' f1 fp', Aft C.K fp F H σ [T.sh (.bool (isI t d))] [v] η F' H' f1 fp' → Q v H' := by rw [e] at q; exact q
    exact q _ F H [] fp (o.res (.here o.fh rp_c.2.1))
theorem kitAny_tys {K : PySem.W.Frag} (d : PyData) : ∀ ts : List Ty, PySem.W.kitAny K (.type (tyN d)) (ts.map fun t => .type t.nm) = some (ts.any fun t => isI t d)
  | [] => rfl
  | t :: ts => by
    rw [List.map_cons]
    refine kitAny_cons (kit_ty (kit_isI t d)) (fun e => ?_) fun e => ?_
    · rw [List.any_cons, e, Bool.false_or]; exact kitAny_tys d ts
    · rw [List.any_cons, e, Bool.true_or]
theorem clsV_tys : ∀ ts : List Ty, PySem.Paired ClsV (ts.map fun t => V.ty t.nm) (ts.map fun t => Value.type t.nm)
  | [] => .nil
  | t :: ts => .cons (.ty _) (clsV_tys ts)
/-- a tuple of classes, written -/
def tTys : List Ty → TA
  | [] => tNil
  | t :: ts => tCons (tC (.ty t.nm)) (tTys ts)
theorem tTys_ok : ∀ (ts : List Ty) {σ : St} {H : Hp} {Q : List V → Hp → Prop}, Q (ts.map fun t => V.ty t.nm) H → tTys ts σ H Q
  | [], _, _, _, h => h
  | t :: ts, σ, H, Q, h => tTys_ok ts (Q := fun xs H2 => Q (V.ty t.nm :: xs) H2) h
theorem pd_isiTV {e : Expr} {i : Nat} (ts : List Ty) (hK : C.K = X.K) (hl : ts.length ≤ 1000) (h : PE X e (tCB (rIsiT X.K) (tCons (tVar i) (tCons (tTup (tTys ts)) tNil)))) : PE X e (tD C (eIsV ts i)) := by
  refine h.impD fun σ H Q ⟨η, F, fp, o, q⟩ => ?_
  unfold eIsV at q
  obtain ⟨d, hd, q⟩ := pk_some q
  obtain ⟨x, hx, rx⟩ := pk_rq o hd
  refine ⟨x, hx, tTys_ok ts ⟨by rw [List.length_map, PySem.sizeLine_eq]; omega, fun p hp => ?_⟩⟩
  have fh2 : Same F (upd H p (.tup (ts.map fun t => V.ty t.nm))) := o.fh.trans (same_upd hp)
  have rx2 : Rq C.K F (upd H p (.tup (ts.map fun t => V.ty t.nm))) d x := by
    rcases rx with rx | ⟨a, xs, ds, e1, e2, e3, e4⟩
    · exact .inl rx
    · exact .inr ⟨a, xs, ds, e1, e2, same_upd hp _ _ e3, e4⟩
  refine ⟨x, p, _, .type (tyN d), _, _, rfl, upd_same, clsV_tys ts, ?_, kitAny_tys d ts, ?_⟩
  · rw [← hK]; exact tyx_of fh2 rx2
  · refine q _ F _ [] fp (o.res ⟨by simp only [RT, Rp]; exact ⟨trivial, trivial⟩, .refl _, fh2, same_upd hp, fun _ _ => rfl, by simp, by simp⟩)
/-! ### list(range(..)), tuple(range(..)) -/
def rgD (a b : Int) : List PyData := (List.range (b - a).toNat).map fun i => PyData.int (a + (i : Nat))
theorem rp_rg {K : PySem.W.Frag} {F : Hp} (a b : Int) : RpAll K F (rgD a b) (rgV a b) := by
  unfold rgD rgV
  refine RpAll.of_get (by simp) fun i d v h1 h2 => ?_
  rw [List.getElem?_map] at h1 h2
  cases e : (List.range (b - a).toNat)[i]? with
  | none => rw [e] at h1; cases h1
  | some j =>
    rw [e] at h1 h2
    cases h1
    cases h2
    exact rp_c.1
def rgOk (a b : Int) : Bool := decide (0 ≤ a) && decide (a ≤ 16777216) && decide (0 ≤ b) && decide (b ≤ 16777216)
theorem rgOk_ok {a b : Int} (h : rgOk a b = true) : RgOk a b := by
  unfold rgOk at h
  simp only [Bool.and_eq_true, decide_eq_true_eq] at h
  exact RgOk.of_le h.1.1.1 h.2 h.1.1.2 h.1.2
def eLstRg1 (f : FE) : FE := fun η => (f η).bind fun p => match p.1 with
  | .sh (.int b) => if rgOk 0 b then .ok (.lst ((rgD 0 b).map T.sh), p.2) else .bad
  | _ => .bad
def eTupRg1 (f : FE) : FE := fun η => (f η).bind fun p => match p.1 with
  | .sh (.int b) => if rgOk 0 b then .ok (.sh (.tuple (rgD 0 b)), p.2) else .bad
  | _ => .bad
theorem pd_lstRg1 {e : Expr} {f : FE} (h : PE X e (tLstRg (tRg1 (tD C f)))) : PE X e (tD C (eLstRg1 f)) := by
  refine h.impD fun σ H Q ⟨η, F, fp, o, q⟩ => ?_
  refine tD_step o.aft (Rs.post_mono (Rs.post_bind q) (fun p hp x F1 H1 f1 fp1 a => ?_) fun _ _ z => z)
  have a : Aft C.K fp F H σ [p.1] [x] p.2 F1 H1 f1 fp1 := a
  split at hp
  · rename_i b e
    rw [e] at a
    split at hp
    · rename_i hr
      exact ⟨b, (rt_int a.rt1).1, rgOk_ok hr, fun q hq => hp _ _ _ _ _ (a.drop.res (.lst a.fh (rp_rg 0 b) hq))⟩
    · exact hp.elim
  · exact hp.elim
theorem pd_tupRg1 {e : Expr} {f : FE} (h : PE X e (tTupRg (tRg1 (tD C f)))) : PE X e (tD C (eTupRg1 f)) := by
  refine h.impD fun σ H Q ⟨η, F, fp, o, q⟩ => ?_
  refine tD_step o.aft (Rs.post_mono (Rs.post_bind q) (fun p hp x F1 H1 f1 fp1 a => ?_) fun _ _ z => z)
  have a : Aft C.K fp F H σ [p.1] [x] p.2 F1 H1 f1 fp1 := a
  split at hp
  · rename_i b e
    rw [e] at a
    split at hp
    · rename_i hr
      exact ⟨b, (rt_int a.rt1).1, rgOk_ok hr, fun q hq => hp _ _ _ _ _ (a.drop.res (.tup a.fh (rp_rg 0 b) hq))⟩
    · exact hp.elim
  · exact hp.elim
end Pv
set_option Elab.async false
set_option linter.all false
set_option maxRecDepth 100000
set_option maxHeartbeats 4000000
/-! dicts, shared: displays -/
namespace Pv
open PySem L2 PyProof.Rows
section
variable {X : Cx} {C : Cn}
theorem pd_dct0 {pos : Pos} : PE X (.Dict [] [] pos) (tD C (eC (.dict []))) :=
  pe_dnewK.impD fun σ H Q ⟨η, F, fp, o, q⟩ p hp => q _ _ _ _ _ (o.res (ResOk.dct (ds := []) (ks := []) o.fh (by simp only [RpKv]) hp))
/-- {k: x}, k a constant, x a name -/
def eDct1 (k : Key) (i : Nat) : FE := fun η => (eV i η).bind fun p => .ok (.sh (.dict [(keyD k, p.1.val)]), p.2)
theorem merge1 {k : Key} {v : V} : mergeK [] [(k, v)] = [(k, v)] := by
  simp [mergeK, putK]
theorem pd_dct1 {ke : Expr} {x : Str} {px pos : Pos} {k : Key} {i : Nat} (hk : PE X ke (tC (kV k))) (hv : PE X (.Name x px) (tVar i)) : PE X (.Dict [some ke] [.Name x px] pos) (tD C (eDct1 k i)) := by
  refine (pe_disp (pps_cons hk hv pps_nil) rfl rfl (by simp) (by simp)).impD fun σ H Q ⟨η, F, fp, o, q⟩ p hp => ?_
  have h : tD C (eV i) σ H fun v H' => ∀ p, H' p = none → Q (.ref p) (upd H' p (.dK [(k, v)])) := by
    refine ⟨η, F, fp, o, Rs.post_mono (Rs.post_bind q) (fun r hr v F1 H1 f1 fp1 a p hp => ?_) fun _ _ z => z⟩
    obtain ⟨F2, a2, rp⟩ := a.freeze
    simp only [T.vals, RpAll] at rp
    obtain ⟨v', xs, e1, r1, rfl⟩ := rp
    obtain rfl : v = v' := by simpa using e1
    exact hr _ _ _ _ _ (a2.res (ResOk.dct (ds := [(keyD k, r.1.val)]) (ks := [(k, v)]) a2.fh (by simp only [RpKv]; exact ⟨k, v, [], rfl, rfl, r1, rfl⟩) hp))
  obtain ⟨v, e, h⟩ := eV_var h
  show tVar i σ (upd H p (.dK [])) _
  refine ⟨v, e, ?_⟩
  refine ⟨upd_same, [(k, v)], rfl, by simp, ?_⟩
  rw [merge1, upd_upd]
  exact h p hp
end
end Pv
set_option Elab.async false
set_option linter.all false
set_option maxRecDepth 100000
set_option maxHeartbeats 4000000
/-! the call of a def where it is known that no repr is under way -/
namespace Pv
open PySem L2 PySem.Spec PyProof.Rows
/-- a def's promise, asked for only where nothing is under way -/
structure FnG (P : Program) (w : World) (K : PySem.W.Frag) (mg : Str → Option Value) (base : Heap) (k : Nat) (f : Addr) (fd : FuncData) (ps : List Str) (sp : Sp) : Prop where
  ln : ∀ vs H Q E, sp vs H Q E → vs.length = ps.length
  go : ∀ (A : Around) (outer : List PySem.Env) (s : Shared) (H : Hp) (args : Args) (us : List Value) (vs : List V) (Q : VK) (E : XK), Room k A → A.guards = some [] → Env0 P w K mg base A outer s H →
    BindsTo s fd args (ps.zip us) → Vals vs us → sp vs H Q E → codeAny (model P w) A (.call (.ref f) args) (CR CX0 outer P w H s Q E) s
theorem FnG.mono {P : Program} {w : World} {K : PySem.W.Frag} {mg : Str → Option Value} {base : Heap} {j k : Nat} {f : Addr} {fd : FuncData} {ps : List Str} {sp : Sp} (F : FnG P w K mg base j f fd ps sp) (h : j ≤ k) : FnG P w K mg base k f fd ps sp :=
  ⟨F.ln, fun A outer s H args us vs Q E hr => F.go A outer s H args us vs Q E (hr.mono h)⟩
section
variable {X : Cx} {k : Nat} {f : Addr} {fd : FuncData} {ps : List Str} {sp : Sp} {E : XK} {x : Str} {p pos : Pos} {e : Expr} {es : List Expr} {t : TA}
theorem fnG_at {pins : List (Addr × Obj)} {σ : L2.St} {H : Hp} {s : Shared} {Q : VK} {us : List Value} {vs : List V} (F : FnG X.prog X.w X.K X.mg X.base k f fd ps sp) (hr : Room k X.A) (hu : X.A.guards = some []) (hb : Binds X.K fd ps [])
    (I : Inv X pins σ H s) (r : Vals vs us) (h : sp vs H Q E) : wpAny (model X.prog X.w) X.A (call (.ref f) us) (EP X pins σ Q) X.xe s := by
  have hl : us.length = ps.length := r.length.symm.trans (F.ln _ _ _ _ h)
  have hz := hb s us I.kIn (by rw [List.append_nil]; exact hl)
  rw [List.append_nil] at hz
  refine wpAny_call (codeAny_mono (F.go X.A X.stack s H ⟨us, []⟩ us vs Q E hr hu I.env0 hz r h) fun res s' hq => ?_)
  match res, hq with
  | .error _, hq => exact hq.elim
  | .ok (.ret _), hq => exact I.after hq
def xk0 : XK := fun _ _ _ => False
theorem pe_callG (F : FnG X.prog X.w X.K X.mg X.base k f fd ps sp) (hr : Room k X.A) (hu : X.A.guards = some []) (hg : Gl X x) (hm : X.mg x = some (.ref f)) (hk : PySem.W.keepIn X.K (.ref f) = true) (hb : Binds X.K fd ps [])
    (ha : PA X (e :: es) t) (hdb : (x == ("__debug__" : Str)) = false := by decide) (he : starEach (e :: es) X.env = (false, eval e X.env) :: starEach es X.env := by rfl) (hpl : (backTo pos (starEach es X.env)).any (·.1) = false := by rfl) :
    PE X (.Call (.Name x p) (e :: es) [] pos) (tCall sp [] xk0 t) := ⟨fun pins s σ H Q I h =>
  wpAny_Call_Name_kw (ld_glob I hg hm (PySem.W.callWith_K (h₀ := X.base) I.ok.mod.kin hk (thn (ha.run pos pins s σ H _ I h) fun us s1 ⟨vs, H1, I1, r, q⟩ => ⟨I1.kIn, fnG_at F hr hu hb I1 r (by have q : sp (vs ++ []) H1 Q xk0 := q; rw [List.append_nil] at q; exact q)⟩) he hpl) hdb)⟩
theorem pe_callG0 (F : FnG X.prog X.w X.K X.mg X.base k f fd ps sp) (hr : Room k X.A) (hu : X.A.guards = some []) (hg : Gl X x) (hm : X.mg x = some (.ref f)) (hk : PySem.W.keepIn X.K (.ref f) = true) (hb : Binds X.K fd ps [])
    (hdb : (x == ("__debug__" : Str)) = false := by decide) : PE X (.Call (.Name x p) [] [] pos) (tCall sp [] xk0 tNil) := ⟨fun pins s σ H Q I h =>
  wpAny_Call_Name_kw (ld_glob I hg hm (PySem.W.callWith_K0 I.kIn hk (fnG_at (us := []) F hr hu hb I .nil h)) hdb)⟩
end
/-- THE RULE: the body, one stack deeper -/
theorem fnG_of {P : Program} {w : World} {K : PySem.W.Frag} {mg : Str → Option Value} {base : Heap} {x qual : Str} {params : Arguments} {body : List Stmt} {scope : Scope} {f : Addr} {fd : FuncData} {N ps : List Str} {k : Nat} {sp : Sp}
    (F : FunD K x qual params body scope [] [] f fd) (S : FnScope N ps scope) (ln : ∀ vs H Q E, sp vs H Q E → vs.length = ps.length)
    (hbody : ∀ (cdv : Value) (A : Around) (outer : List PySem.Env) (s : Shared) (H : Hp) (vs : List V) (Q : VK) (E : XK), Room k (A.deeper (envOfC qual scope s.heap.objs.size f cdv)) → (A.deeper (envOfC qual scope s.heap.objs.size f cdv)).guards = some [] → sp vs H Q E →
      ∃ t, PSs (cxOf CX0 P w K mg base N qual scope f cdv A outer s H E) body t ∧ t { nx := fun _ H' => Q .non H', rt := Q } (L2.start N vs) H) : FnG P w K mg base (k + 1) f fd ps sp := by
  obtain ⟨oc, od, dV, kV, doc, pm, an, cdv, ct, osl, rfl, lk, hcd, _, _⟩ := F.ex
  refine ⟨ln, fun A outer s H args us vs Q E hr hu e0 hb r hsp => ?_⟩
  have KX : K.In s.heap := e0.mod.kin.keeps fun b o z => (e0.bs b o z).1
  have lim : s.heap.NoLimit := e0.mod.nolimit.keeps fun b o z => (e0.bs b o z).1
  have hkind : ∀ y ∈ ps.zip us, scope.names.lookup y.1 = some .local ∨ (scope.names.lookup y.1 = some .cell ∧ ((cellsFrom (s.heap.objs.size + 1) scope.names []).lookup y.1).isSome = true) := by
    rintro ⟨n, v⟩ hy
    exact (S.par n (List.of_mem_zip hy).1).imp id fun z => ⟨z, PySem.W.cellsFrom_some _ _ _ (.inl z)⟩
  refine codeAny_call_function hr.depth (KX _ _ lk) rfl S.co S.gen rfl (PySem.W.codeRec_of KX hcd) (hb _ _ _ _ ?_)
  refine wpAny_newFunctionEnv_cells S.kind hkind fun env he s1 y => ?_
  subst he
  refine ⟨lim.keeps y.toInCall.keep, codeAny_func ?_⟩
  obtain ⟨t, ht, hq⟩ := hbody cdv A outer s H vs Q E (hr.deeper _) hu hsp
  have I : Inv (cxOf CX0 P w K mg base N qual scope f cdv A outer s H E) [] (L2.start N vs) H s1 := inv_start S hr.hd e0 (ln _ _ _ _ hsp) r y
  refine wpAny_mono (ht.run [] s1 (L2.start N vs) H _ I hq) (fun fl s' hs => ?_) fun _ _ z => z
  match fl, hs with
  | .ret _, ⟨v, σ', H', J, rv, q⟩ => exact ⟨v, H', J.os, J.bare, J.base, J.hok, rv, q⟩
  | .next, ⟨σ', H', J, q⟩ => exact ⟨.non, H', J.os, J.bare, J.base, J.hok, rfl, q⟩
  | .brk, ⟨_, _, _, q⟩ => exact q.elim
  | .cont, ⟨_, _, _, q⟩ => exact q.elim
/-! the law's call, at the top -/
section
variable {P : Program} {w : World} {K : PySem.W.Frag} {mg mb : Str → Option Value} {k : Nat} {fa a : Addr} {fd : FuncData} {x : Str} {sp : Sp} {s₁ : Shared} {vs : List Value} {ns : List Int}
theorem topG (H : Hp) (KX : K.In s₁.heap) (hns : s₁.heap.Ns mainGlobals mg) (hb : s₁.heap.Ns builtinsNs mb) (hbb : ∀ x : Str, x ≠ "__name__" → mb x = bootBuiltins x) (hlim : s₁.heap.NoLimit) (hg : s₁.gens = #[])
    (ha : s₁.heap.get? a = some { cls := .type "list", data := .seq vs.toArray }) (hr : Room k callerA)
    (F : ∀ base : Heap, K.In base → base.Ns mainGlobals mg → FnG P w K mg base k fa fd [x] sp) (hbind : ∀ (s : Shared) (u : Value), BindsTo s fd ⟨[u], []⟩ [(x, u)])
    (hO : Only H) (hsp : sp [.ref a] H (fun v _ => v = .bl true) fun _ _ _ => False) (hok : HOk P w H s₁.heap) (hA : ∀ b u, H b = some u → b = a) (hK : ∀ u, H a = some u → K.lookup a = none) :
    codeAny (model P w) callerA (.call (.ref fa) ⟨[.ref a], []⟩) (fun r s' => r = .ok (.ret (.bool true)) ∧ OldK s₁.heap s'.heap ∧ s'.os = s₁.os ∧ AllBare s'.gens) s₁ := by
  have nodict : ∀ {b : Addr} {o : Obj} {es : Array DictEntry} {ep : Nat}, s₁.heap.get? b = some o → o.data = .dict es ep → H b = none := by
    intro b o es ep e d
    cases q : H b with
    | none => rfl
    | some u =>
      rw [hA b u q, ha] at e
      rw [← Option.some.inj e] at d
      exact nomatch d
  have ns_of : ∀ {b : Addr} {m : Str → Option Value}, s₁.heap.Ns b m → (hidT s₁.heap H).Ns b m := fun ⟨o, es, ep, e, d, r⟩ => ⟨o, es, ep, hidT_get e (nodict e d), d, r⟩
  have hKb : K.In (hidT s₁.heap H) := by
    intro b o e
    refine hidT_get (KX b o e) ?_
    cases q : H b with
    | none => rfl
    | some u =>
      have hba := hA b u q
      rw [hba] at e q
      rw [hK u q] at e
      exact nomatch e
  have hM : Mod K mg (hidT s₁.heap H) := ⟨hKb, ns_of hns, ⟨mb, ns_of hb, hbb⟩, let ⟨mc, h1, h2⟩ := hlim; ⟨mc, ns_of h1, h2⟩⟩
  have e0 : Env0 P w K mg (hidT s₁.heap H) callerA [] s₁ H := ⟨rfl, hM, fun _ _ e => of_hidT e, Nat.le_of_eq (hidT_size _ _), trivial, fun _ hb => (List.not_mem_nil hb).elim, hok, .of_eq hg⟩
  refine codeAny_mono ((F _ hKb (ns_of hns)).go callerA [] s₁ H ⟨[.ref a], []⟩ [.ref a] [.ref a] _ _ hr rfl e0 (hbind s₁ (.ref a)) (.cons rfl .nil) hsp) fun r s' h => ?_
  match r, h with
  | .error _, h => exact h.elim
  | .ok (.ret u), ⟨v, H', os, bare, un, hok', r', q⟩ =>
    have q : v = .bl true := q
    subst q
    obtain rfl : u = Value.bool true := r'
    refine ⟨rfl, OldK.of_keep fun b o e => ?_, os, bare⟩
    cases q : H b with
    | none => exact un.keep b o e q (fun z => (List.not_mem_nil z).elim) List.not_mem_nil
    | some u =>
      obtain ⟨ob, xs, z⟩ := (hO b).resolve_left (by rw [q]; exact fun z => nomatch z)
      have e1 := (hok b _ z).1
      rw [e] at e1
      rw [Option.some.inj e1]
      exact (hok' b _ (un.frzs b ob _ z)).1
theorem law_callG (KX : K.In s₁.heap) (hns : s₁.heap.Ns mainGlobals mg) (hb : s₁.heap.Ns builtinsNs mb) (hbb : ∀ x : Str, x ≠ "__name__" → mb x = bootBuiltins x) (hlim : s₁.heap.NoLimit) (hg : s₁.gens = #[])
    (ha : s₁.heap.get? a = some { cls := .type "list", data := .seq vs.toArray }) (hi : IntsAre vs ns) (hl : ns.length ≤ sizeLine) (hr : Room k callerA)
    (F : ∀ base : Heap, K.In base → base.Ns mainGlobals mg → FnG P w K mg base k fa fd [x] sp) (hbind : ∀ (s : Shared) (u : Value), BindsTo s fd ⟨[u], []⟩ [(x, u)])
    (hsp : ∀ H : Hp, Only H → SqL K H a (ns.map V.int) → sp [.ref a] H (fun v _ => v = .bl true) fun _ _ _ => False) :
    codeAny (model P w) callerA (.call (.ref fa) ⟨[.ref a], []⟩) (fun r s' => r = .ok (.ret (.bool true)) ∧ OldK s₁.heap s'.heap ∧ s'.os = s₁.os ∧ AllBare s'.gens) s₁ := by
  have rv := vals_ints hi
  have lenV := hi.length
  cases hk : K.lookup a with
  | some o =>
    have e := KX a o hk
    rw [ha] at e
    have e := Option.some.inj e
    subst e
    have hO : Only fun _ => none := fun _ => .inl rfl
    exact topG (fun _ => none) KX hns hb hbb hlim hg ha hr F hbind hO (hsp _ hO (.inr ⟨_, vs.toArray, _, hk, rfl, rfl, rfl, by rw [List.size_toArray, lenV]; exact hl, by simpa using rv⟩)) (fun _ _ z => nomatch z) (fun _ _ z => nomatch z) fun _ z => nomatch z
  | none =>
    let ob : Obj := { cls := .type "list", data := .seq vs.toArray }
    let H0 : Hp := fun b => if b = a then some (.frz ob (.lst (ns.map V.int))) else none
    have at_ : H0 a = some (.frz ob (.lst (ns.map V.int))) := if_pos rfl
    have is : ∀ b u, H0 b = some u → b = a := fun b u z => by
      by_cases c : b = a
      · exact c
      · rw [show H0 b = none from if_neg c] at z
        exact nomatch z
    have hO : Only H0 := fun b => by
      by_cases c : b = a
      · rw [c]; exact .inr ⟨_, _, at_⟩
      · exact .inl (if_neg c)
    refine topG H0 KX hns hb hbb hlim hg ha hr F hbind hO (hsp _ hO (.inl (.inr ⟨_, at_⟩))) (fun b u z => ?_) is fun _ _ => hk
    have c := is b u z
    subst c
    rw [at_] at z
    rw [← Option.some.inj z]
    exact ⟨ha, by rw [List.length_map]; exact hl, vs, _, rv, ha⟩
end
theorem walk_ofG {l : PySem.W.OpenLaw} {n k : Nat} {q : Program} {loose : List Str} {XP : (Str → Option Value) → Heap → Prop} {YP : World → Heap → Prop} {d : DefRec} {x : Str} (hn : l.most = some n) (hn2 : n ≤ sizeLine) (hdf : d.params.defaults = []) (hr : Room k callerA)
    (F : ∀ (w : World) (mg : Str → Option Value) (fa : Addr) (h : Heap), YP w h → h.Ns mainGlobals mg → mg d.name = some (.ref fa) → ∃ (K : PySem.W.Frag) (fd : FuncData) (sp : Sp), K.In h ∧ (∀ (s : Shared) (u : Value), BindsTo s fd ⟨[u], []⟩ [(x, u)]) ∧
      (∀ (H : Hp) (a : Addr) (ns : List Int), ns.length ≤ n → Only H → SqL K H a (ns.map V.int) → sp [.ref a] H (fun v _ => v = .bl true) fun _ _ _ => False) ∧ ∀ base : Heap, K.In base → base.Ns mainGlobals mg → FnG l.prog w K mg base k fa fd [x] sp) :
    PySem.W.WalkO q loose XP YP l.row.toRowW d [] (fun f vs => PySem.call f vs) := by
  refine Att.attach_call hn hdf fun w s₀ s₁ mg mb fa o pm cd doc a vs ns G Y ho hd hcd hmg hobj hints hlen hg => ?_
  obtain ⟨K, fd, sp, KX, hb, hsp, hF⟩ := F w mg fa _ Y G.T.g hmg
  exact law_callG KX G.T.g G.T.b G.T.builtins G.T.nolimit hg hobj hints (Nat.le_trans hlen hn2) hr hF hb fun H hO hS => hsp H a ns hlen hO hS
end Pv
set_option Elab.async false
set_option linter.all false
set_option maxRecDepth 100000
set_option maxHeartbeats 4000000
/-! repr(d), d data without dicts; texts compared -/
namespace Pv
open PySem L2 PyProof.Rows
/-- how many signs repr shows at most -/
def shSz : PyData → Nat
  | .none => 4
  | .bool _ => 5
  | .int _ => 1921
  | .str x => 10 * x.length + 2
  | .list xs => shSzs xs + 3
  | .tuple xs => shSzs xs + 3
  | .dict _ => 0
where shSzs : List PyData → Nat
  | [] => 0
  | x :: xs => shSz x + 2 + shSzs xs
theorem list_text (ts : List Str) : (listText ts).length ≤ piled ts + 2 := by
  cases ts with
  | nil => decide
  | cons t r =>
    have h := textFrom_length_pos r 1 (("[" : Str) ++ (if (0 : Nat) > 0 then ", " else "" : String) ++ t) (Nat.succ_pos 0)
    have e : ((("[" : Str) ++ (if (0 : Nat) > 0 then ", " else "" : String) ++ t)).length = 1 + t.length := by
      rw [strLen_append, strLen_append]; rfl
    have h1 : (listText (t :: r)).length = (textFrom 0 "[" (t :: r)).length + 1 := by
      show (textFrom 0 "[" (t :: r) ++ "]").length = _
      rw [strLen_append]; rfl
    have h2 : (textFrom 0 "[" (t :: r)).length = (textFrom 1 (("[" : Str) ++ (if (0 : Nat) > 0 then ", " else "" : String) ++ t) r).length := rfl
    rw [h1, h2, h, e, piled_cons]
    omega
theorem tuple_text (ts : List Str) : (tupleText ts).length ≤ piled ts + 3 := by
  unfold tupleText
  rw [strLen_append, strLen_append]
  have e1 : ((("(" : String) : Str)).length = 1 := rfl
  have e3 : (((if ts.length == 1 then ",)" else ")" : String) : Str)).length ≤ 2 := by split <;> decide
  have e2 : (Str.join ", " ts).length ≤ piled ts := by
    by_cases h : ts = []
    · subst h; decide
    · have := join_length_add ts h
      omega
  rw [e1]
  omega
mutual
theorem shown_le : ∀ {d : PyData}, d.showable = true → d.canLay0 = true → d.shown.length ≤ shSz d
  | .none, _, _ => by decide
  | .bool b, _, _ => by cases b <;> decide
  | .int i, h, _ => by
    simp only [PyData.showable, decide_eq_true_eq] at h
    exact int_text_len_1921 h
  | .str x, _, h => by
    simp only [PyData.canLay0, PyData.strOk] at h
    simp only [PyData.shown, shSz]
    refine StrLaws.reprText_len x fun c hc => ?_
    rw [Array.all_eq_true] at h
    obtain ⟨i, hi, e⟩ := List.mem_iff_getElem.mp hc
    have := h i (by simpa using hi)
    simp only [Array.getElem_toList] at e
    rw [e] at this
    simp at this
    omega
  | .list xs, h, h2 => by
    simp only [PyData.showable] at h
    simp only [PyData.canLay0] at h2
    have := showns_le h h2
    have h3 := list_text (PyData.shownAll xs)
    simp only [PyData.shown, shSz]
    omega
  | .tuple xs, h, h2 => by
    simp only [PyData.showable] at h
    simp only [PyData.canLay0] at h2
    have := showns_le h h2
    have h3 := tuple_text (PyData.shownAll xs)
    simp only [PyData.shown, shSz]
    omega
  | .dict _, _, h => by simp only [PyData.canLay0] at h; cases h
theorem showns_le : ∀ {ds : List PyData}, PyData.showableAll ds = true → PyData.canLayAll0 ds = true → piled (PyData.shownAll ds) ≤ shSz.shSzs ds
  | [], _, _ => by decide
  | d :: ds, h, h2 => by
    simp only [PyData.showableAll, Bool.and_eq_true] at h
    simp only [PyData.canLayAll0, Bool.and_eq_true] at h2
    have a := shown_le h.1 h2.1
    have b := showns_le h.2 h2.2
    simp only [PyData.shownAll, piled_cons, shSz.shSzs]
    omega
end
def reprOk (d : PyData) : Bool := d.showable && d.canLay0 && decide (d.depth ≤ 60) && decide (shSz d ≤ 16777216)
def bRepr : List PyData → Option T
  | [d] => if reprOk d then some (.sh (.str d.shown)) else none
  | _ => none
variable {X : Cx}
theorem bRepr_ok (g : Good X) : CallD X (.builtin "repr") bRepr := by
  intro pins s σ H xs us Q I r ⟨F, ds, t, fh, rq, eq, k⟩
  have hroom := g.room
  have hgd := g.gd
  unfold bRepr at eq
  split at eq
  · rename_i d
    split at eq
    · rename_i hk
      cases eq
      unfold reprOk at hk
      simp only [Bool.and_eq_true, decide_eq_true_eq] at hk
      obtain ⟨⟨⟨hs, hc⟩, hd⟩, hz⟩ := hk
      have hle := shown_le hs hc
      have hsz : d.shown.length ≤ sizeLine := by rw [sizeLine_eq]; omega
      obtain ⟨v, rfl, r1⟩ := rq.one
      obtain ⟨u, rfl, ru⟩ := vals1 r
      have res : ∀ (h' : Heap) (u : Tok) (tk : Tok), (∀ b o, s.heap.get? b = some o → h'.get? b = some o) → EP X pins σ Q (.str d.shown u) { s with heap := h', toks := tk } := fun h' u tk kp =>
        ⟨.str d.shown, H, I.kept (t' := tk) kp, ⟨u, rfl⟩, k.sh fh rp_c.2.2.1⟩
      cases d with
      | none => rw [rq_none r1] at ru; cases ru; exact PySem.P.repr_of_none (res s.heap _ _ fun _ _ z => z)
      | bool b => rw [rq_bool r1] at ru; cases ru; exact PySem.P.repr_of_bool (by have := res s.heap s.toks (s.toks + 1) fun _ _ z => z; cases b <;> exact this)
      | int i =>
        rw [rq_int r1] at ru
        obtain ⟨t, rfl⟩ := ru
        simp only [PyData.showable, decide_eq_true_eq] at hs
        exact PySem.P.repr_of_int hs (res s.heap _ _ fun _ _ z => z)
      | str x =>
        rw [rq_str r1] at ru
        obtain ⟨t, rfl⟩ := ru
        exact PySem.P.repr_of_str (res s.heap _ _ fun _ _ z => z) hsz
      | list ds =>
        obtain ⟨as, ra⟩ := Dp.reads I (.list ds) v u (r1.dp fh hc) ru
        obtain ⟨a, xs, rfl, _⟩ := rq_list fh r1
        cases ru
        exact repr_of_reads' ra hs (PyData.noDict_hsm (PyData.hasDict_of_canLay _ hc)) hgd (by omega) (fun _ _ z => z) (fun h' u tk kp => res h' u tk kp) hsz
      | tuple ds =>
        obtain ⟨as, ra⟩ := Dp.reads I (.tuple ds) v u (r1.dp fh hc) ru
        obtain ⟨a, xs, rfl, _⟩ := rq_tup r1
        cases ru
        exact repr_of_reads' ra hs (PyData.noDict_hsm (PyData.hasDict_of_canLay _ hc)) hgd (by omega) (fun _ _ z => z) (fun h' u tk kp => res h' u tk kp) hsz
      | dict ds => simp only [PyData.canLay0] at hc; cases hc
    · cases eq
  · cases eq
/-- texts alike -/
def opEqS : PyData → PyData → Option T
  | .str a, .str b => some (.sh (.bool (decide (a = b))))
  | _, _ => none
def opNeS : PyData → PyData → Option T
  | .str a, .str b => some (.sh (.bool (!decide (a = b))))
  | _, _ => none
theorem vstr {a b : Str} : decide (V.str a = V.str b) = decide (a = b) := by
  rw [Bool.eq_iff_iff]
  simp
theorem opEqS_ok : OpD X (compareOp .Eq) opEqS := by
  intro pins s σ H x y v u Q I rx ry ⟨F, d, e, t, fh, r1, r2, eq, k⟩
  unfold opEqS at eq
  split at eq
  · cases eq
    cases rq_str r1
    cases rq_str r2
    exact op_eq pins s σ H _ _ v u Q I rx ry ⟨rfl, by rw [vstr]; exact k.bool fh⟩
  · cases eq
theorem opNeS_ok : OpD X (compareOp .NotEq) opNeS := by
  intro pins s σ H x y v u Q I rx ry ⟨F, d, e, t, fh, r1, r2, eq, k⟩
  unfold opNeS at eq
  split at eq
  · cases eq
    cases rq_str r1
    cases rq_str r2
    exact op_ne pins s σ H _ _ v u Q I rx ry ⟨rfl, by rw [vstr]; exact k.bool fh⟩
  · cases eq
end Pv
set_option Elab.async false
set_option linter.all false
set_option maxRecDepth 100000
set_option maxHeartbeats 4000000
namespace Pv
open PySem L2
variable {X : Cx} {C : Cn}

/-! ### a list that a slot owns is changed -/
theorem ne_mem {a p : Addr} {f : List Addr} (ha : a ∈ f) (hp : p ∉ f) : a ≠ p := fun z => hp (by rw [← z]; exact ha)
theorem RT.disj {K : PySem.W.Frag} {F H : Hp} {t : T} {v : V} {f : List Addr} {p : Addr} {o : HO} (h : RT K F H t v f) (hp : p ∉ f) : RT K F (upd H p o) t v f :=
  h.mono (.refl _) fun a ha u e => by rw [upd_ne (ne_mem ha hp)]; exact e
theorem RTs.disj {K : PySem.W.Frag} {F H : Hp} {t : List T} {v : List V} {f : List Addr} {p : Addr} {o : HO} (h : RTs K F H t v f) (hp : p ∉ f) : RTs K F (upd H p o) t v f :=
  h.mono (.refl _) fun a ha u e => by rw [upd_ne (ne_mem ha hp)]; exact e
/-- slot i owns the list at p, with the items xs; g: what its items own -/
structure Own (K : PySem.W.Frag) (F H : Hp) (σ : St) (i : Nat) (us : List T) (p : Addr) (xs : List V) (g : List Addr) : Prop where
  sl : σ[i]? = some (some (.ref p))
  at_ : H p = some (.lst xs)
  rt : RTs K F H us xs g
theorem Aft.mut {K : PySem.W.Frag} {fp : List Addr} {F H : Hp} {σ : St} {ts : List T} {vs : List V} {η1 : Env} {F1 H1 : Hp} {f1 fp1 : List Addr} {i : Nat} {us : List T} (a : Aft K fp F H σ ts vs η1 F1 H1 f1 fp1) (e : η1[i]? = some (some (.lst us))) :
    ∃ p xs g, Own K F1 H1 σ i us p xs g ∧ (p :: (g ++ f1)).Nodup ∧
      ∀ us' ys g' ws zs d, RTs K F1 H1 us' ys g' → RTs K F1 H1 ws zs d → (g' ++ d).Nodup → (∀ x ∈ g' ++ d, x ∈ g ++ f1) → ∃ fp2, Aft K fp F H σ ws zs (η1.set i (some (.lst us'))) F1 (upd H1 p (.lst ys)) d fp2 := by
  have hi : i < η1.length := (List.getElem?_eq_some_iff.mp e).1
  obtain ⟨s, h, r, h1, h2, h3, h4⟩ := a.rs.focus hi
  obtain ⟨v, rfl, rt⟩ := h3 _ e
  simp only [RT] at rt
  obtain ⟨p, xs, g, rfl, hp, rfl, rg⟩ := rt
  have ndf : ((p :: g) ++ r).Nodup := h2.nodup_iff.mp (List.nodup_append.mp a.nd).2.1
  have pr : p ∉ r := fun hx => (List.nodup_append.mp ndf).2.2 p (by simp) p hx rfl
  have gr : ∀ x ∈ g, x ∉ r := fun x hx hy => (List.nodup_append.mp ndf).2.2 x (by simp [hx]) x hy rfl
  have pg : p ∉ g := (List.nodup_cons.mp (List.nodup_append.mp ndf).1).1
  have mem : ∀ x, x = p ∨ x ∈ g ∨ x ∈ r → x ∈ fp1 := fun x hx => h2.mem_iff.mpr (by
    rcases hx with hx | hx | hx
    · simp [hx]
    · simp [hx]
    · simp [hx])
  have f1d : ∀ x ∈ f1, x ∉ fp1 := fun x hx hy => (List.nodup_append.mp a.nd).2.2 x hx x hy rfl
  have pf1 : p ∉ f1 := fun hx => f1d p hx (mem p (.inl rfl))
  refine ⟨p, xs, g, ⟨h1, hp, rg⟩, ?_, fun us' ys g' ws zs d r1 r2 nd sub => ?_⟩
  · refine List.nodup_cons.mpr ⟨fun hx => ?_, List.nodup_append.mpr ⟨(List.nodup_cons.mp (List.nodup_append.mp ndf).1).2, (List.nodup_append.mp a.nd).1, fun x hx y hy e => ?_⟩⟩
    · rcases List.mem_append.mp hx with hx | hx
      · exact pg hx
      · exact pf1 hx
    · subst e
      exact f1d x hy (mem x (.inr (.inl hx)))
  · have npd : p ∉ g' ++ d := fun hx => by
      rcases List.mem_append.mp (sub p hx) with hx | hx
      · exact pg hx
      · exact pf1 hx
    have Fp : F1 p = none := a.fn p (by simp [mem p (.inl rfl)])
    have sF : Same F1 (upd H1 p (.lst ys)) := fun b o e => by rw [upd_ne (ne_of_none e Fp)]; exact a.fh b o e
    obtain ⟨f', rs', pm⟩ := (h4 F1 (upd H1 p (.lst ys)) (.refl _) (fun x hx o e => by rw [upd_ne (ne_mem hx pr)]; exact e)).1 (.lst us') (.ref p) (p :: g')
      (by simp only [RT]; exact ⟨p, ys, g', rfl, upd_same, rfl, r1.disj fun hx => npd (by simp [hx])⟩)
    rw [set_self h1] at rs'
    have rnd : ∀ x ∈ r, x ∉ g' ++ d := fun x hx hy => by
      rcases List.mem_append.mp (sub x hy) with hy | hy
      · exact gr x hy hx
      · exact f1d x hy (mem x (.inr (.inr hx)))
    have memf : ∀ x ∈ f', x = p ∨ x ∈ g' ∨ x ∈ r := fun x hx => by
      have := pm.mem_iff.mp hx
      simpa using this
    refine ⟨f', ⟨r2.disj fun hx => npd (by simp [hx]), rs', ?_, fun x hx => ?_, sF, ⟨a.ext.ff, fun b o e hb => ?_, a.ext.new⟩, fun x hx => ?_⟩⟩
    · have nd2 : ((p :: g') ++ r).Nodup := by
        refine List.nodup_append.mpr ⟨List.nodup_cons.mpr ⟨fun hx => npd (by simp [hx]), (List.nodup_append.mp nd).1⟩, (List.nodup_append.mp ndf).2.1, fun x hx y hy e => ?_⟩
        subst e
        rcases List.mem_cons.mp hx with rfl | hx
        · exact pr hy
        · exact rnd x hy (by simp [hx])
      refine List.nodup_append.mpr ⟨(List.nodup_append.mp nd).2.1, pm.nodup_iff.mpr nd2, fun x hx y hy e => ?_⟩
      subst e
      rcases memf x hy with z | z | z
      · subst z; exact npd (by simp [hx])
      · exact (List.nodup_append.mp nd).2.2 x z x hx rfl
      · exact rnd x z (by simp [hx])
    · rcases List.mem_append.mp hx with hx | hx
      · rcases List.mem_append.mp (sub x (by simp [hx])) with hx | hx
        · exact a.fn x (by simp [mem x (.inr (.inl hx))])
        · exact a.fn x (by simp [hx])
      · rcases memf x hx with z | z | z
        · subst z; exact Fp
        · rcases List.mem_append.mp (sub x (by simp [z])) with hx | hx
          · exact a.fn x (by simp [mem x (.inr (.inl hx))])
          · exact a.fn x (by simp [hx])
        · exact a.fn x (by simp [mem x (.inr (.inr z))])
    · have := a.ext.keep b o e hb
      have nb : b ≠ p := fun z => by
        subst z
        rcases a.sub b (by simp [mem b (.inl rfl)]) with z | z
        · exact hb z
        · rw [z] at e; cases e
      rw [upd_ne nb]; exact this
    · have all : ∀ x, x ∈ g ++ f1 ∨ x = p ∨ x ∈ r → x ∈ fp ∨ H x = none := fun x hx => by
        rcases hx with hx | rfl | hx
        · rcases List.mem_append.mp hx with hx | hx
          · exact a.sub x (by simp [mem x (.inr (.inl hx))])
          · exact a.sub x (by simp [hx])
        · exact a.sub x (by simp [mem x (.inl rfl)])
        · exact a.sub x (by simp [mem x (.inr (.inr hx))])
      rcases List.mem_append.mp hx with hx | hx
      · exact all x (.inl (sub x (by simp [hx])))
      · rcases memf x hx with z | z | z
        · exact all x (.inr (.inl z))
        · exact all x (.inl (sub x (by simp [z])))
        · exact all x (.inr (.inr z))
/-- nothing is left of the values -/
theorem RTs.non {K : PySem.W.Frag} {F H : Hp} : RTs K F H [.sh .none] [.non] [] := .one (by simp only [RT, Rp]; exact ⟨trivial, trivial⟩)
theorem tyL {K : PySem.W.Frag} {H : Hp} {p : Addr} {xs : List V} (h : H p = some (.lst xs)) : tyV K "list" (.ref p) H := .inl ⟨rfl, _, SqL.of h⟩
def line (n : Nat) : Bool := decide (n < 16777216)
theorem line_lt {n : Nat} (h : line n = true) : n < sizeLine := by rw [PySem.sizeLine_eq]; exact of_decide_eq_true h
/-- the list that slot i owns -/
def own (η : Env) (i : Nat) : Option (List T) := match η[i]? with
  | some (some (.lst us)) => some us
  | _ => none
theorem own_eq {η : Env} {i : Nat} {us : List T} (h : own η i = some us) : η[i]? = some (some (.lst us)) := by
  unfold own at h
  split at h
  · rename_i us' e
    cases h
    exact e
  · cases h
def setL (η : Env) (i : Nat) (us : List T) : Env := η.set i (some (.lst us))
/-- x.m(e), x a name that owns a list; the change by the items and the argument -/
def eMt1 (op : List T → T → Option (List T × T)) (i : Nat) (g : FE) : FE := fun η => match own η i with
  | some _ => (g η).bind fun p => match own p.2 i with
    | some us => match op us p.1 with
      | some r => .ok (r.2, setL p.2 i r.1)
      | none => .bad
    | none => .bad
  | none => .bad
/-- what the method does, by values: for a list at p that is owned -/
def MtOk (X : Cx) (id : String) (op : List T → T → Option (List T × T)) (r : V → List V → Hp → VK → Prop) : Prop :=
  ∀ (F H : Hp) (us : List T) (p : Addr) (xs : List V) (g : List Addr) (t : T) (y : V) (f : List Addr) (us' : List T) (t' : T) (Q : VK), H p = some (.lst xs) → RTs X.K F H us xs g → RT X.K F H t y f → (p :: (g ++ f)).Nodup → (∀ a ∈ f, F a = none) → Same F H → op us t = some (us', t') →
    (∀ ys g' z d, RTs X.K F H us' ys g' → RT X.K F H t' z d → (g' ++ d).Nodup → (∀ x ∈ g' ++ d, x ∈ g ++ f) → Q z (upd H p (.lst ys))) → r (.ref p) [y] H Q
theorem Aft.rt1' {K : PySem.W.Frag} {fp : List Addr} {F H : Hp} {σ : St} {t : T} {v : V} {η' : Env} {F' H' : Hp} {f1 fp' : List Addr} (a : Aft K fp F H σ [t] [v] η' F' H' f1 fp') : RT K F' H' t v f1 := a.rt1
theorem pd_mt1 {e : Expr} {i : Nat} {g : FE} {id : String} {op : List T → T → Option (List T × T)} {r : V → List V → Hp → VK → Prop} (hK : C.K = X.K) (ok : MtOk X id op r)
    (h : PE X e (tBM X.K "list" r (tVar i) (tCons (tD C g) tNil))) : PE X e (tD C (eMt1 op i g)) := by
  refine h.impD fun σ H Q ⟨η, F, fp, o, q⟩ => ?_
  unfold eMt1 at q
  split at q
  · rename_i us0 e0
    obtain ⟨p0, xs0, g0, w0, _, _⟩ := o.aft.mut (own_eq e0)
    refine ⟨.ref p0, w0.sl, tyL w0.at_, ?_⟩
    refine tD_step o.aft (Rs.post_mono (Rs.post_bind q) (fun p hp y F1 H1 f1 fp1 a => ?_) fun _ _ z => z)
    have a : Aft C.K fp F H σ [p.1] [y] p.2 F1 H1 f1 fp1 := a
    split at hp
    · rename_i us e1
      split at hp
      · rename_i r e2
        obtain ⟨p1, xs, g1, w, nd, k⟩ := a.mut (own_eq e1)
        obtain rfl : p0 = p1 := by have := w.sl; rw [w0.sl] at this; cases this; rfl
        refine ok F1 H1 us p0 xs g1 p.1 y f1 r.1 r.2 Q w.at_ (hK ▸ w.rt) (hK ▸ a.rt1) nd (fun b hb => a.fn b (by simp [hb])) a.fh e2 fun ys g' z d r1 r2 nd' sub => ?_
        obtain ⟨fp2, a2⟩ := k r.1 ys g' [r.2] [z] d (hK ▸ r1) (.one (hK ▸ r2)) nd' sub
        exact hp z F1 _ d fp2 a2
      · exact hp.elim
    · exact hp.elim
  · exact q.elim
/-! append -/
def mAppend (us : List T) (t : T) : Option (List T × T) := if line us.length then some (us ++ [t], .sh .none) else none
theorem mAppend_ok : MtOk X "list.append" mAppend rAppend := by
  intro F H us p xs g t y f us' t' Q hp rg rt nd fn fh e k
  unfold mAppend at e
  split at e
  · rename_i hl
    cases e
    refine ⟨p, xs, y, rfl, rfl, hp, by rw [rg.len]; exact line_lt hl, k (xs ++ [y]) (g ++ f) .non [] (rg.append (.one rt)) (by simp only [RT, Rp]; exact ⟨trivial, trivial⟩) (by simpa using (List.nodup_cons.mp nd).2) (by simp)⟩
  · cases e
/-! extend by a list that was just made -/
def mExtend (us : List T) (t : T) : Option (List T × T) := match t with
  | .lst ts => if line (us.length + ts.length) then some (us ++ ts, .sh .none) else none
  | _ => none
theorem mExtend_ok : MtOk X "list.extend" mExtend rExtend := by
  intro F H us p xs g t y f us' t' Q hp rg rt nd fn fh e k
  unfold mExtend at e
  split at e
  · rename_i ts
    split at e
    · rename_i hl
      cases e
      simp only [RT] at rt
      obtain ⟨b, zs, g2, rfl, hb, rfl, r2⟩ := rt
      have hl' := line_lt hl
      refine ⟨p, b, xs, zs, rfl, rfl, hp, hb, by rw [rg.len, r2.len]; omega, k (xs ++ zs) (g ++ g2) .non [] (rg.append r2) (by simp only [RT, Rp]; exact ⟨trivial, trivial⟩) ?_ ?_⟩
      · have := (List.nodup_cons.mp nd).2
        have h1 := List.nodup_append.mp this
        rw [List.append_nil]
        exact List.nodup_append.mpr ⟨h1.1, (List.nodup_cons.mp h1.2.1).2, fun x hx z hz => h1.2.2 x hx z (by simp [hz])⟩
      · intro x hx
        rw [List.append_nil] at hx
        rcases List.mem_append.mp hx with hx | hx
        · simp [hx]
        · simp [hx]
    · cases e
  · cases e
/-! pop(i) -/
theorem RTs.split {K : PySem.W.Frag} {F H : Hp} : ∀ {us : List T} {xs : List V} {g : List Addr} {k : Nat} {t : T}, RTs K F H us xs g → us[k]? = some t →
    ∃ v d g', xs[k]? = some v ∧ RT K F H t v d ∧ RTs K F H (us.eraseIdx k) (xs.eraseIdx k) g' ∧ g.Perm (d ++ g') ∧ ∀ (t' : T) (v' : V) (d' : List Addr), RT K F H t' v' d' → ∃ g2, RTs K F H (us.set k t') (xs.set k v') g2 ∧ g2.Perm (d' ++ g')
  | [], _, _, _, _, _, e => by simp at e
  | u :: us, vs, f, 0, t, h, e => by
    obtain ⟨x, xs, f1, f2, rfl, rfl, r1, r2⟩ := h.uncons
    simp at e; subst e
    refine ⟨x, f1, f2, rfl, r1, r2, .refl _, fun t' v' d' q => ⟨d' ++ f2, ?_, .refl _⟩⟩
    simp only [List.set_cons_zero, RTs]
    exact ⟨v', xs, d', f2, rfl, rfl, q, r2⟩
  | u :: us, vs, f, k + 1, t, h, e => by
    obtain ⟨x, xs, f1, f2, rfl, rfl, r1, r2⟩ := h.uncons
    obtain ⟨v, d, g', h1, h2, h3, h4, h5⟩ := RTs.split (k := k) r2 (by simpa using e)
    have swap : ∀ a : List Addr, (f1 ++ (a ++ g')).Perm (a ++ (f1 ++ g')) := fun a => by
      rw [← List.append_assoc, ← List.append_assoc]
      exact (List.perm_append_comm).append_right g'
    refine ⟨v, d, f1 ++ g', by simpa using h1, h2, ?_, (h4.append_left f1).trans (swap d), fun t' v' d' q => ?_⟩
    · simp only [List.eraseIdx_cons_succ, RTs]
      exact ⟨x, _, f1, g', rfl, rfl, r1, h3⟩
    · obtain ⟨g2, q1, q2⟩ := h5 t' v' d' q
      refine ⟨f1 ++ g2, ?_, (q2.append_left f1).trans (swap d')⟩
      simp only [List.set_cons_succ, RTs]
      exact ⟨x, _, f1, g2, rfl, rfl, r1, q1⟩
def i63 (i : Int) : Bool := decide (-1000000000 ≤ i) && decide (i ≤ 1000000000)
def mPopAt (us : List T) (t : T) : Option (List T × T) := match t with
  | .sh (.int i) => if i63 i then match seqIndex? i us.length with
      | some k => match us[k]? with
        | some u => some (us.eraseIdx k, u)
        | none => none
      | none => none
    else none
  | _ => none
theorem mPopAt_ok : MtOk X "list.pop" mPopAt rPopAt := by
  intro F H us p xs g t y f us' t' Q hp rg rt nd fn fh e k
  unfold mPopAt at e
  split at e
  · rename_i i
    split at e
    · rename_i hi
      split at e
      · rename_i k' hk
        split at e
        · rename_i u hu
          cases e
          obtain ⟨rfl, rfl⟩ := rt_int rt
          obtain ⟨v, d, g', h1, h2, h3, h4, _⟩ := rg.split hu
          unfold i63 at hi
          simp only [Bool.and_eq_true, decide_eq_true_eq] at hi
          have pm : (g' ++ d).Perm g := (List.perm_append_comm).trans h4.symm
          refine ⟨p, xs, i, k', v, rfl, rfl, hp, (by have e : (2 : Int) ^ 63 = 9223372036854775808 := by decide
                                                     rw [e]; omega), (by have e : (2 : Int) ^ 63 = 9223372036854775808 := by decide
                                                                         rw [e]; omega), by rw [rg.len]; exact hk, h1, k (xs.eraseIdx k') g' v d h3 h2 (pm.nodup_iff.mpr ?_) fun x hx => ?_⟩
          · have := (List.nodup_cons.mp nd).2
            exact (List.nodup_append.mp this).1
          · have := pm.mem_iff.mp hx
            simp [this]
        · cases e
      · cases e
    · cases e
  · cases e
/-! x.pop() -/
def eMt0 (op : List T → Option (List T × T)) (i : Nat) : FE := fun η => match own η i with
  | some us => match op us with
    | some r => .ok (r.2, setL η i r.1)
    | none => .bad
  | none => .bad
def Mt0Ok (X : Cx) (op : List T → Option (List T × T)) (r : V → List V → Hp → VK → Prop) : Prop :=
  ∀ (F H : Hp) (us : List T) (p : Addr) (xs : List V) (g : List Addr) (us' : List T) (t' : T) (Q : VK), H p = some (.lst xs) → RTs X.K F H us xs g → (p :: g).Nodup → op us = some (us', t') →
    (∀ ys g' z d, RTs X.K F H us' ys g' → RT X.K F H t' z d → (g' ++ d).Nodup → (∀ x ∈ g' ++ d, x ∈ g) → Q z (upd H p (.lst ys))) → r (.ref p) [] H Q
theorem pd_mt0 {e : Expr} {i : Nat} {op : List T → Option (List T × T)} {r : V → List V → Hp → VK → Prop} (hK : C.K = X.K) (ok : Mt0Ok X op r) (h : PE X e (tBM0 X.K "list" r (tVar i))) : PE X e (tD C (eMt0 op i)) := by
  refine h.impD fun σ H Q ⟨η, F, fp, o, q⟩ => ?_
  unfold eMt0 at q
  split at q
  · rename_i us e0
    split at q
    · rename_i r e2
      obtain ⟨p, xs, g, w, nd, k⟩ := o.aft.mut (own_eq e0)
      refine ⟨.ref p, w.sl, tyL w.at_, ok F H us p xs g r.1 r.2 Q w.at_ (hK ▸ w.rt) (by simpa using nd) e2 fun ys g' z d r1 r2 nd' sub => ?_⟩
      obtain ⟨fp2, a2⟩ := k r.1 ys g' [r.2] [z] d (hK ▸ r1) (.one (hK ▸ r2)) nd' fun x hx => by simp [sub x hx]
      exact q z F _ d fp2 a2
    · exact q.elim
  · exact q.elim
def mPop (us : List T) : Option (List T × T) := match us[us.length - 1]? with
  | some u => some (us.dropLast, u)
  | none => none
theorem eraseIdx_last {α : Type} : ∀ (l : List α), l.eraseIdx (l.length - 1) = l.dropLast
  | [] => rfl
  | [a] => rfl
  | a :: b :: l => by
    have := eraseIdx_last (b :: l)
    simp only [List.length_cons, Nat.add_sub_cancel] at this ⊢
    rw [List.eraseIdx_cons_succ, this]; rfl
theorem mPop_ok : Mt0Ok X mPop rPop := by
  intro F H us p xs g us' t' Q hp rg nd e k
  unfold mPop at e
  split at e
  · rename_i u hu
    cases e
    obtain ⟨v, d, g', h1, h2, h3, h4, _⟩ := rg.split hu
    have pm : (g' ++ d).Perm g := (List.perm_append_comm).trans h4.symm
    have hl := rg.len
    refine ⟨p, xs, v, rfl, rfl, hp, by rw [hl]; exact h1, ?_⟩
    have e1 : xs.dropLast = xs.eraseIdx (us.length - 1) := by rw [← hl, eraseIdx_last]
    rw [eraseIdx_last] at h3
    rw [e1]
    exact k _ g' v d h3 h2 (pm.nodup_iff.mpr (List.nodup_cons.mp nd).2) fun x hx => pm.mem_iff.mp hx
  · cases e
end Pv
set_option Elab.async false
set_option linter.all false
set_option maxRecDepth 100000
set_option maxHeartbeats 4000000
/-! xs.index(e), xs[::-1], xs a list -/
namespace Pv
open PySem L2 PyProof.Rows
section
variable {X : Cx} {C : Cn}
/-- a method of a list that changes nothing -/
def eMq (op : List PyData → PyData → Option T) (f g : FE) : FE := fun η => (f η).bind fun p => match p.1.val with
  | .list ds => (g p.2).bind fun q => fin1 (op ds q.1.val) q.2
  | _ => .bad
theorem rt_list {K : PySem.W.Frag} {F H : Hp} {t : T} {x : V} {f : List Addr} {ds : List PyData} (fh : Same F H) (h : RT K F H t x f) (e : t.val = .list ds) : ∃ a xs, x = .ref a ∧ SqL K H a xs := by
  cases t with
  | sh d =>
    simp only [T.val] at e
    subst e
    simp only [RT, Rp] at h
    obtain ⟨_, a, xs, rfl, q, _⟩ := h
    exact ⟨a, xs, rfl, sqL_mono fh q⟩
  | lst ts =>
    simp only [RT] at h
    obtain ⟨a, xs, g, rfl, e1, _, _⟩ := h
    exact ⟨a, xs, rfl, SqL.of e1⟩
theorem pd_mq {e : Expr} {f g : FE} {op : List PyData → PyData → Option T} {r : V → List V → Hp → VK → Prop} (hK : C.K = X.K)
    (ok : ∀ F H a xs ds y d t Q, Same F H → SqL X.K H a xs → RpAll X.K F ds xs → Rp X.K F d y → op ds d = some t → Res X.K F H t Q → r (.ref a) [y] H Q)
    (h : PE X e (tBM X.K "list" r (tD C f) (tCons (tD C g) tNil))) : PE X e (tD C (eMq op f g)) := by
  refine h.impD fun σ H Q ⟨η, F, fp, o, q⟩ => ?_
  refine tD_step o.aft (Rs.post_mono (Rs.post_bind q) (fun p hp x F1 H1 f1 fp1 a => ?_) fun _ _ z => z)
  have a' : Aft C.K fp F H σ [p.1] [x] p.2 F1 H1 f1 fp1 := a
  split at hp
  · rename_i ds e0
    obtain ⟨b, xs0, rfl, hq⟩ := rt_list a'.fh a'.rt1 e0
    refine ⟨.inl ⟨rfl, xs0, hK ▸ hq⟩, ?_⟩
    refine tD_step a (Rs.post_mono (Rs.post_bind hp) (fun p2 hp2 y F2 H2 f2 fp2 c => ?_) fun _ _ z => z)
    obtain ⟨F3, t, s, rp, e2, k⟩ := fin_res c hp2
    simp only [List.nil_append, List.cons_append, T.vals, RpAll] at rp
    obtain ⟨x', xs, e3, r1, y', ys, rfl, r2, rfl⟩ := rp
    obtain ⟨rfl, rfl⟩ : V.ref b = x' ∧ y = y' := by simpa using e3
    rw [e0] at r1
    simp only [Rp] at r1
    obtain ⟨b', xs, eb, q1, w⟩ := r1
    cases eb
    exact ok F3 H2 b xs ds y p2.1.val t Q s.fh (hK ▸ sqL_mono s.fh q1) (hK ▸ w) (hK ▸ r2) e2 (hK ▸ k)
  · exact hp.elim
/-- the place of the first equal one -/
def mIndex (ds : List PyData) (d : PyData) : Option T := if SeqAt.shaped (.list ds) && SeqAt.shaped d then (ds.findIdx? fun z => PyData.eqv z d).map fun j => .sh (.int (j : Nat)) else none
theorem mIndex_ok : ∀ F H a xs ds y d t Q, Same F H → SqL X.K H a xs → RpAll X.K F ds xs → Rp X.K F d y → mIndex ds d = some t → Res X.K F H t Q → rIndexD X.K (.ref a) [y] H Q := by
  intro F H a xs ds y d t Q fh hs rp rd e k
  unfold mIndex at e
  split at e
  · rename_i hsh
    simp only [Bool.and_eq_true] at hsh
    cases hf : ds.findIdx? fun z => PyData.eqv z d with
    | none => rw [hf] at e; cases e
    | some j =>
      rw [hf] at e
      cases e
      rw [List.findIdx?_eq_some_iff_getElem] at hf
      obtain ⟨hj, h1, h2⟩ := hf
      have hl := SeqAt.canLay_of_shaped hsh.1
      simp only [PyData.canLay0] at hl
      exact ⟨a, y, d, ds, j, ds[j], rfl, rfl, .lst hs ((rp.mono fh).dp hl), (rd.mono fh).dp (SeqAt.canLay_of_shaped hsh.2), hsh.1, hsh.2, List.getElem?_eq_getElem hj, h1, fun m z' hm hz => by
        obtain ⟨hm', e⟩ := List.getElem?_eq_some_iff.mp hz
        have := h2 m hm
        rw [e] at this
        simpa using this, k.int fh⟩
  · cases e
/-- how often a number stands there -/
def mCount (ds : List PyData) (d : PyData) : Option T := match d with
  | .int k => (intsOf ds).map fun ns => .sh (.int (ns.count k : Nat))
  | _ => none
theorem mCount_ok : ∀ F H a xs ds y d t Q, Same F H → SqL X.K H a xs → RpAll X.K F ds xs → Rp X.K F d y → mCount ds d = some t → Res X.K F H t Q → rCntI X.K (.ref a) [y] H Q := by
  intro F H a xs ds y d t Q fh hs rp rd e k
  unfold mCount at e
  split at e
  · rename_i n
    cases hi : intsOf ds with
    | none => rw [hi] at e; cases e
    | some ns =>
      rw [hi] at e
      cases e
      rw [intsOf_eq hi] at rp
      obtain rfl := rpAll_ints rp
      simp only [Rp] at rd
      subst rd
      exact ⟨a, ns, n, rfl, rfl, hs, k.int fh⟩
  · cases e
/-- xs[::-1], xs a list -/
def eRevL (f : FE) : FE := fun η => (f η).bind fun p => match p.1.val with
  | .list ds => .ok (.lst (ds.reverse.map T.sh), p.2)
  | _ => .bad
theorem rpAll_rev {K : PySem.W.Frag} {F : Hp} {ds : List PyData} {xs : List V} (h : RpAll K F ds xs) : RpAll K F ds.reverse xs.reverse := by
  have hl := h.len
  refine RpAll.of_get (by simp [hl]) fun i d v h1 h2 => ?_
  obtain ⟨hi, e1⟩ := List.getElem?_eq_some_iff.mp h1
  obtain ⟨hj, e2⟩ := List.getElem?_eq_some_iff.mp h2
  rw [List.getElem_reverse] at e1 e2
  rw [List.length_reverse] at hi
  obtain ⟨v', h3, h4⟩ := h.get (i := ds.length - 1 - i) (d := d) (by rw [List.getElem?_eq_getElem (by omega), e1])
  have h5 : xs[xs.length - 1 - i]? = some v := by rw [List.getElem?_eq_getElem (by rw [List.length_reverse] at hj; omega), e2]
  rw [hl, h3] at h5
  exact Option.some.inj h5 ▸ h4
theorem pd_revL {e : Expr} {f : FE} (hK : C.K = X.K) (h : PE X e (tRevL X.K (tD C f))) : PE X e (tD C (eRevL f)) := by
  refine h.impD fun σ H Q ⟨η, F, fp, o, q⟩ => ?_
  refine tD_step o.aft (Rs.post_mono (Rs.post_bind q) (fun p hp x F1 H1 f1 fp1 a => ?_) fun _ _ z => z)
  have a' : Aft C.K fp F H σ [p.1] [x] p.2 F1 H1 f1 fp1 := a
  split at hp
  · rename_i ds e0
    obtain ⟨F2, a2, rp⟩ := a'.freeze
    simp only [T.vals, RpAll] at rp
    obtain ⟨x', xs, e1, r1, rfl⟩ := rp
    obtain rfl : x = x' := by simpa using e1
    rw [e0] at r1
    simp only [Rp] at r1
    obtain ⟨b, xs, rfl, q1, w⟩ := r1
    refine ⟨b, xs, rfl, hK ▸ sqL_mono a2.fh q1, fun p' hp' => ?_⟩
    exact hp _ _ _ _ _ (a2.res (ResOk.lst a2.fh (rpAll_rev w) hp'))
  · exact hp.elim
end
end Pv
set_option Elab.async false
set_option linter.all false
set_option maxRecDepth 100000
set_option maxHeartbeats 4000000
/-! t[::-1], t a tuple or a list -/
namespace HT
open PySem PySem.Spec PyProof.Rows
theorem pv_adj (n : Nat) : Builtin.Slice.sliceAdjust none none (-1) (n : Int) = ((n : Int) - 1, -1) := by
  unfold Builtin.Slice.sliceAdjust
  simp
theorem pv_pl (n : Nat) : Builtin.Slice.slicePlaces ((n : Int) - 1) (-1) (-1) = n := by
  unfold Builtin.Slice.slicePlaces
  rw [if_neg (by decide)]
  by_cases h : n = 0
  · subst h; rfl
  · rw [if_pos (by omega)]
    have : ((n : Int) - 1 - -1 - 1) / (- -1) + 1 = n := by
      rw [show (- -1 : Int) = 1 from rfl, Int.ediv_one]
      omega
    rw [this]
    omega
theorem fm_congr {α β : Type} {f g : α → Option β} : ∀ {l : List α}, (∀ x ∈ l, f x = g x) → l.filterMap f = l.filterMap g
  | [], _ => rfl
  | a :: l, h => by rw [List.filterMap_cons, List.filterMap_cons, h a List.mem_cons_self, fm_congr fun x hx => h x (List.mem_cons_of_mem _ hx)]
theorem pv_pick (xs : Array Value) : ((List.range xs.size).filterMap fun (k : Nat) => xs[(((xs.size : Int) - 1) + (k : Int) * (-1)).toNat]?).toArray = xs.toList.reverse.toArray := by
  congr 1
  refine List.ext_getElem? fun i => ?_
  have e : ∀ k ∈ List.range xs.size, xs[(((xs.size : Int) - 1) + (k : Int) * (-1)).toNat]? = xs.toList[xs.size - 1 - k]? := fun k hk => by
    have hk := List.mem_range.mp hk
    have : (((xs.size : Int) - 1) + (k : Int) * (-1)).toNat = xs.size - 1 - k := by omega
    rw [this, Array.getElem?_toList]
  have e2 : ((List.range xs.size).filterMap fun (k : Nat) => xs[(((xs.size : Int) - 1) + (k : Int) * (-1)).toNat]?) = (List.range xs.size).filterMap fun k => xs.toList[xs.size - 1 - k]? := fm_congr e
  rw [e2]
  have e3 : (List.range xs.size).filterMap (fun k => xs.toList[xs.size - 1 - k]?) = xs.toList.reverse := by
    have hs : xs.size = xs.toList.length := by simp
    rw [hs]
    generalize xs.toList = l
    clear e e2 hs
    have key : ∀ (m : Nat), m ≤ l.length → (List.range m).filterMap (fun k => l[l.length - 1 - k]?) = l.reverse.take m := by
      intro m
      induction m with
      | zero => intro _; rfl
      | succ m ih =>
        intro hm
        rw [List.range_succ, List.filterMap_append, ih (by omega), List.take_add_one]
        congr 1
        rw [List.getElem?_reverse (by omega), List.getElem?_eq_getElem (by omega)]
        simp [List.filterMap_cons, List.getElem?_eq_getElem (show l.length - 1 - m < l.length by omega)]
    rw [key l.length (Nat.le_refl _), List.take_of_length_le (by simp)]
  rw [e3]
section
variable {prog : Program} {w : World} {A : Around} {E : Value → Shared → Prop} {s : Shared}
theorem pv_sliceRev {sl : Addr} {vl vu vs : Value} {n : Nat} {Q : Int × Int × Nat → Shared → Prop} (hs : s.heap.IsSliceOf sl vl vu vs) (pl : IsPart vl none) (pu : IsPart vu none) (ps : IsPart vs (some (-1)))
    (h : Q ((n : Int) - 1, -1, n) s) : wpAny (model prog w) A (Builtin.Slice.sliceApplied (.ref sl) (pure (n : Int))) Q E s := by
  obtain ⟨os, hos, hcs, hds⟩ := id hs
  unfold Builtin.Slice.sliceApplied Builtin.Slice.sliceFields
  refine wpAny_bind (wpAny_bind (wpAny_field hos hds (x := vl) rfl (wpAny_bind (wpAny_field hos hds (x := vu) rfl (wpAny_bind (wpAny_field hos hds (x := vs) rfl (wpAny_pure ?_)))))))
  refine wpAny_bind (slicePart_ ps ?_)
  show wpAny _ _ (if ((-1 : Int) == 0) = true then _ else _) _ _ s
  rw [if_neg (by decide)]
  refine wpAny_bind (slicePart_ pl (wpAny_bind (slicePart_ pu (wpAny_bind (wpAny_pure ?_)))))
  show wpAny _ _ (match Builtin.Slice.sliceAdjust none none (-1) (n : Int) with | (lo, hi) => pure (lo, (-1 : Int), Builtin.Slice.slicePlaces lo hi (-1))) _ _ s
  rw [pv_adj n]
  show wpAny _ _ (pure ((n : Int) - 1, (-1 : Int), Builtin.Slice.slicePlaces ((n : Int) - 1) (-1) (-1))) _ _ s
  rw [pv_pl]
  exact wpAny_pure h
theorem pv_getItem_rev {t sl : Addr} {items : Array Value} {vl vu vs : Value} {Q : Value → Shared → Prop} (ht : IsTup s.heap t items) (hs : s.heap.IsSliceOf sl vl vu vs) (pl : IsPart vl none) (pu : IsPart vu none) (ps : IsPart vs (some (-1)))
    (h : Q (.ref s.heap.objs.size) { s with heap := s.heap.push { cls := .type "tuple", data := .seq items.toList.reverse.toArray } })
    (hsz : items.size ≤ sizeLine) : wpAny (model prog w) A (getItem (.ref t) (.ref sl)) Q E s := by
  have htake : sizeOk (.seq items.toList.reverse.toArray) := by
    show items.toList.reverse.toArray.size ≤ sizeLine
    rw [List.size_toArray, List.length_reverse, Array.length_toList]
    exact hsz
  obtain ⟨os, hos, hcs, hds⟩ := id hs
  have hTs : s.TypeIs (.ref sl) "slice" := ⟨os, hos, hcs⟩
  unfold getItem
  try with_reducible refine wpAny_holding ?_
  first | refine wpAny_bind (wpAny_pure ?_) | skip
  refine wpAny_bind (wpAny_sequenceKey ht.typeIs (by decide) ?_)
  refine wpAny_bind (wpAny_callSpecial?_slot (name := Str.ofString "__getitem__") ht.typeIs PyProof.Rows.slot_tuple_getitem
    (wpAny_call_entry PyProof.Rows.slot_tuple_getitem ht.typeIs entry_tuple_getitem ?_ (args_tuple_getitem _ _)))
  show wpAny _ _ (Builtin.Tuple.tupleItemsOf (.ref t) >>= _) _ _ s
  refine wpAny_bind (tupleItemsOf_ ht ?_)
  refine wpAny_bind (wpAny_typeOf hTs ?_)
  rw [if_pos (by decide)]
  refine wpAny_bind (pv_sliceRev hs pl pu ps ?_)
  have hno : ¬ ((((items.size : Int) - 1) == 0 && (-1 : Int) == 1 && items.size == items.size) = true) := by simp
  show wpAny _ _ (if (((items.size : Int) - 1) == 0 && (-1 : Int) == 1 && items.size == items.size) = true then _ else _) _ _ s
  rw [if_neg hno, pv_pick]
  first
    | exact wpAny_bind (m := Builtin.Tuple.tupleExact _) (wpAny_newObj_type (wpAny_pure ⟨_, rfl, wpAny_pure h⟩) htake)
    | exact wpAny_bind (m := Builtin.Tuple.tupleExact _) (wpAny_newObj_type (wpAny_bind (wpAny_pure (wpAny_pure ⟨_, rfl, wpAny_pure h⟩))) htake)
    | exact wpAny_bind (wpAny_bind (m := Builtin.Tuple.tupleExact _) (wpAny_newObj_type (wpAny_pure (wpAny_pure ⟨_, rfl, wpAny_pure h⟩)) htake))
    | exact wpAny_bind (wpAny_bind (m := Builtin.Tuple.tupleExact _) (wpAny_newObj_type (wpAny_pure ⟨_, rfl, wpAny_pure h⟩) htake))
end
end HT
namespace Pv
open PySem PySem.Spec PyProof.Rows L2
variable {X : Cx} {C : Cn}
def tRevS (K : PySem.W.Frag) (te : TE) : TE := fun σ H Q => te σ H fun x H1 => ∃ a xs, x = .ref a ∧ ((SqL K H1 a xs ∧ ∀ p, H1 p = none → Q (.ref p) (upd H1 p (.lst xs.reverse))) ∨ (SqT K H1 a xs ∧ ∀ p, H1 p = none → Q (.ref p) (upd H1 p (.tup xs.reverse))))
theorem pe_revS {e : Expr} {te : TE} {k : Nat} {p1 p2 p3 pos : Pos} (he : PE X e te) : PE X (.Subscript e (.Slice none none (some (.UnaryOp .USub (.Constant (.int 1) k p1) p2)) p3) pos) (tRevS X.K te) := by
  refine ⟨fun pins s σ H Q I h => ?_⟩
  refine Subscript_ (thn (he.run pins s σ H _ I h) fun v s1 ⟨x, H1, I1, r1, q1⟩ => ?_)
  obtain ⟨a, xs, ex, q1⟩ := q1
  subst ex
  cases r1
  have hst : PO X (some (.UnaryOp .USub (.Constant (.int 1) k p1) p2)) (tPart (tUn (rU fun i => .int (-i)) (tC (.int 1)))) := po_some (pe_un un_neg pe_int)
  refine wpAny_Slice (thn (po_none.run pins s1 σ H1 (fun o H2 => o = none ∧ H2 = H1) I1 ⟨rfl, rfl⟩) fun vl s2 ⟨l, H2, I2, pl, el, e2⟩ => ?_)
  subst el e2
  refine thn (po_none.run pins s2 σ H2 (fun o H3 => o = none ∧ H3 = H2) I2 ⟨rfl, rfl⟩) fun vu s3 ⟨u, H3, I3, pu, eu, e3⟩ => ?_
  subst eu e3
  refine thn (hst.run pins s3 σ H3 (fun o H4 => o = some (-1) ∧ H4 = H3) I3 ⟨1, rfl, -1, rfl, rfl, rfl⟩) fun vs s4 ⟨o, H4, I4, ps, eo, e4⟩ => ?_
  subst eo e4
  have I5 : Inv X pins σ H4 { s4 with heap := s4.heap.push { cls := .type "slice", data := .fields #[vl, vu, vs] } } := I4.kept (t' := s4.toks) fun b ob q => Heap.get?_push_of_some _ q
  show wpAny (model X.prog X.w) X.A (subscriptTail e (.Slice none none (some (.UnaryOp .USub (.Constant (.int 1) k p1) p2)) p3) (.ref a) (.ref s4.heap.objs.size)) (EP X pins σ Q) X.xe { s4 with heap := s4.heap.push { cls := .type "slice", data := .fields #[vl, vu, vs] } }
  rcases q1 with ⟨hx, q⟩ | ⟨hx, q⟩
  · obtain ⟨its, r, ht, hz⟩ := I5.list hx
    have hlen := r.length
    refine tail_any (ops := [.ref a, .ref s4.heap.objs.size]) ht.isList.typeIs (PySem.slot_list_getitem.lookup) ?_ (by with_unfolding_all rfl)
    refine wpAny_getItem_list_slice ht.isList (Heap.IsSliceOf.new _ vl vu vs) pl pu ps (by decide) ?_ (by rw [List.size_toArray]; omega)
    rw [PySem.W.krv_pick]
    refine ⟨.ref _, _, I5.laid (t' := s4.toks) (o := .lst xs.reverse) (fun b ob q => Heap.get?_push_of_some _ q) (Nat.le_refl _) ?_, rfl, q _ (I5.hok.fresh (Nat.le_refl _))⟩
    exact ⟨by rw [List.length_reverse]; exact hz, _, 0, r.reverse, Heap.get?_push_size _ rfl⟩
  · obtain ⟨its, r, ht, hz⟩ := I5.tuple hx
    have hlen := r.length
    refine tail_any (ops := [.ref a, .ref s4.heap.objs.size]) ht.typeIs (PyProof.Rows.slot_tuple_getitem.lookup) ?_ (by with_unfolding_all rfl)
    refine HT.pv_getItem_rev ht (Heap.IsSliceOf.new _ vl vu vs) pl pu ps ?_ (by rw [List.size_toArray]; omega)
    refine ⟨.ref _, _, I5.laid (t' := s4.toks) (o := .tup xs.reverse) (fun b ob q => Heap.get?_push_of_some _ q) (Nat.le_refl _) ?_, rfl, q _ (I5.hok.fresh (Nat.le_refl _))⟩
    exact ⟨by rw [List.length_reverse]; exact hz, _, r.reverse, IsTup.new _ _⟩
def eRevS (f : FE) : FE := fun η => (f η).bind fun p => match p.1.val with
  | .list ds => .ok (.lst (ds.reverse.map T.sh), p.2)
  | .tuple ds => .ok (.sh (.tuple ds.reverse), p.2)
  | _ => .bad
theorem pd_revS {e : Expr} {f : FE} (hK : C.K = X.K) (h : PE X e (tRevS X.K (tD C f))) : PE X e (tD C (eRevS f)) := by
  refine h.impD fun σ H Q ⟨η, F, fp, o, q⟩ => ?_
  refine tD_step o.aft (Rs.post_mono (Rs.post_bind q) (fun p hp x F1 H1 f1 fp1 a => ?_) fun _ _ z => z)
  have a' : Aft C.K fp F H σ [p.1] [x] p.2 F1 H1 f1 fp1 := a
  split at hp
  · rename_i ds e0
    obtain ⟨F2, a2, rp⟩ := a'.freeze
    simp only [T.vals, RpAll] at rp
    obtain ⟨x', xs, e1, r1, rfl⟩ := rp
    obtain rfl : x = x' := by simpa using e1
    rw [e0] at r1
    simp only [Rp] at r1
    obtain ⟨b, xs, rfl, q1, w⟩ := r1
    refine ⟨b, xs, rfl, .inl ⟨hK ▸ sqL_mono a2.fh q1, fun p' hp' => ?_⟩⟩
    exact hp _ _ _ _ _ (a2.res (ResOk.lst a2.fh (rpAll_rev w) hp'))
  · rename_i ds e0
    obtain ⟨F2, a2, rp⟩ := a'.freeze
    simp only [T.vals, RpAll] at rp
    obtain ⟨x', xs, e1, r1, rfl⟩ := rp
    obtain rfl : x = x' := by simpa using e1
    rw [e0] at r1
    simp only [Rp] at r1
    obtain ⟨b, xs, rfl, q1, w⟩ := r1
    refine ⟨b, xs, rfl, .inr ⟨hK ▸ sqT_mono a2.fh q1, fun p' hp' => ?_⟩⟩
    exact hp _ _ _ _ _ (a2.res (ResOk.tup a2.fh (rpAll_rev w) hp'))
  · exact hp.elim
end Pv
set_option Elab.async false
set_option linter.all false
set_option maxRecDepth 100000
set_option maxHeartbeats 4000000
namespace Pv
open PySem L2
variable {X : Cx} {C : Cn}

/-! ### statements -/
inductive Fl where
  | nx
  | ret (t : T)
  | bk
  | ct
abbrev FS := Env → Rs (Fl × Env)
/-- the slots that stay -/
def IO (io : List Nat) (σ σ' : St) : Prop := ∀ j ∈ io, σ'[j]? = σ[j]?
theorem IO.refl {io : List Nat} {σ : St} : IO io σ σ := fun _ _ => rfl
theorem IO.trans {io : List Nat} {σ σ1 σ2 : St} (a : IO io σ σ1) (b : IO io σ1 σ2) : IO io σ σ2 := fun j hj => (b j hj).trans (a j hj)
def XPS (C : Cn) (fp : List Addr) (F H : Hp) (e : Ex) (η' : Env) : Prop := ∀ σ' cls d F' H', ExR C F' H' e cls d → RS C.K F' H' η' σ' [] → Same F' H' → Ext fp F H F' H' → C.W cls d σ' H'
theorem XPS.xp {fp : List Addr} {F H : Hp} {σ : St} {e : Ex} {η' : Env} (h : XPS C fp F H e η') : XP C fp F H σ e η' := fun cls d F' H' x r s ext => h σ cls d F' H' x r s ext
def tS (C : Cn) (io : List Nat) (f : FS) : TS := fun D σ H => ∃ η F fp, Ok C.K F H η σ fp ∧ (f η).post (fun p => match p.1 with
  | .nx => ∀ σ' F' H' fp', Aft C.K fp F H σ' [] [] p.2 F' H' [] fp' → IO io σ σ' → D.nx σ' H'
  | .bk => ∀ σ' F' H' fp', Aft C.K fp F H σ' [] [] p.2 F' H' [] fp' → IO io σ σ' → D.bk σ' H'
  | .ct => ∀ σ' F' H' fp', Aft C.K fp F H σ' [] [] p.2 F' H' [] fp' → IO io σ σ' → D.ct σ' H'
  | .ret t => ∀ v σ' F' H' f1 fp', Aft C.K fp F H σ' [t] [v] p.2 F' H' f1 fp' → IO io σ σ' → D.rt v H') (XPS C fp F H)
/-- values consumed, then on -/
theorem Aft.thn {K : PySem.W.Frag} {fp : List Addr} {F H : Hp} {σ σ' : St} {ts us : List T} {vs ws : List V} {η1 η2 : Env} {F1 H1 F2 H2 : Hp} {f1 fp1 f2 fp2 : List Addr} (a : Aft K fp F H σ ts vs η1 F1 H1 f1 fp1)
    (b : Aft K (f1 ++ fp1) F1 H1 σ' us ws η2 F2 H2 f2 fp2) : Aft K fp F H σ' us ws η2 F2 H2 f2 fp2 := by
  refine ⟨b.rt, b.rs, b.nd, b.fn, b.fh, a.ext.trans b.ext a.sub, fun x hx => ?_⟩
  rcases b.sub x hx with z | z
  · exact a.sub x z
  · by_cases hm : x ∈ fp
    · exact .inl hm
    · cases e : H x with
      | none => exact .inr rfl
      | some o => rw [a.ext.keep x o e hm] at z; cases z
theorem XPS.back {fp fp1 f1 : List Addr} {F H F1 H1 : Hp} {σ : St} {ts : List T} {vs : List V} {η1 : Env} {e : Ex} {η' : Env} (a : Aft C.K fp F H σ ts vs η1 F1 H1 f1 fp1) (h : XPS C fp F H e η') : XPS C fp1 F1 H1 e η' :=
  fun σ' cls d F' H' x r s ext => h σ' cls d F' H' x r s (a.ext.trans ext fun b hb => a.sub b (by simp [hb]))
theorem XPS.back' {fp fp1 f1 : List Addr} {F H F1 H1 : Hp} {σ : St} {ts : List T} {vs : List V} {η1 : Env} {e : Ex} {η' : Env} (a : Aft C.K fp F H σ ts vs η1 F1 H1 f1 fp1) (h : XPS C fp F H e η') : XPS C (f1 ++ fp1) F1 H1 e η' :=
  fun σ' cls d F' H' x r s ext => h σ' cls d F' H' x r s (a.ext.trans ext a.sub)
theorem tS_step {fp fp1 : List Addr} {F H F1 H1 : Hp} {σ σ1 : St} {η1 : Env} {io : List Nat} {f : FS} {D : Ends} (a : Aft C.K fp F H σ1 [] [] η1 F1 H1 [] fp1) (hio : IO io σ σ1) (h : (f η1).post (fun p => match p.1 with
  | .nx => ∀ σ' F' H' fp', Aft C.K fp F H σ' [] [] p.2 F' H' [] fp' → IO io σ σ' → D.nx σ' H'
  | .bk => ∀ σ' F' H' fp', Aft C.K fp F H σ' [] [] p.2 F' H' [] fp' → IO io σ σ' → D.bk σ' H'
  | .ct => ∀ σ' F' H' fp', Aft C.K fp F H σ' [] [] p.2 F' H' [] fp' → IO io σ σ' → D.ct σ' H'
  | .ret t => ∀ v σ' F' H' f1 fp', Aft C.K fp F H σ' [t] [v] p.2 F' H' f1 fp' → IO io σ σ' → D.rt v H') (XPS C fp F H)) : tS C io f D σ1 H1 := by
  refine ⟨η1, F1, fp1, a.ok, Rs.post_mono h (fun p hp => ?_) fun e η' he => he.back a⟩
  revert hp
  cases p.1 with
  | nx => exact fun hp σ' F' H' fp' b i => hp σ' F' H' fp' (a.thn b) (hio.trans i)
  | bk => exact fun hp σ' F' H' fp' b i => hp σ' F' H' fp' (a.thn b) (hio.trans i)
  | ct => exact fun hp σ' F' H' fp' b i => hp σ' F' H' fp' (a.thn b) (hio.trans i)
  | ret t => exact fun hp v σ' F' H' f1 fp' b i => hp v σ' F' H' f1 fp' (a.thn b) (hio.trans i)
theorem _root_.L2.PS.impD {X : Cx} {e : Stmt} {t t' : TS} (h : PS X e t) (k : ∀ D σ H, t' D σ H → t D σ H) : PS X e t' := ⟨fun pins s σ H D I q => h.run pins s σ H D I (k D σ H q)⟩
theorem _root_.L2.PSs.impD {X : Cx} {e : List Stmt} {t t' : TS} (h : PSs X e t) (k : ∀ D σ H, t' D σ H → t D σ H) : PSs X e t' := ⟨fun pins s σ H D I q => h.run pins s σ H D I (k D σ H q)⟩
/-! blocks -/
def sNil : FS := fun η => .ok (.nx, η)
def sSeq (f g : FS) : FS := fun η => (f η).bind fun p => match p.1 with
  | .nx => g p.2
  | _ => .ok p
variable {io : List Nat}
theorem psd_nil : PSs X [] (tS C io sNil) := pss_nil.impD fun D σ H ⟨η, F, fp, o, q⟩ => q σ F H fp o.aft .refl
theorem psd_one {st : Stmt} {f : FS} (h : PS X st (tS C io f)) : PSs X [st] (tS C io f) := pss_one h
theorem psd_cons {st : Stmt} {rest : List Stmt} {f g : FS} (h : PS X st (tS C io f)) (h2 : PSs X rest (tS C io g)) : PSs X (st :: rest) (tS C io (sSeq f g)) := by
  refine (pss_cons h h2).impD fun D σ H ⟨η, F, fp, o, q⟩ => ?_
  refine ⟨η, F, fp, o, Rs.post_mono (Rs.post_bind q) (fun p hp => ?_) fun _ _ z => z⟩
  revert hp
  dsimp only
  cases e : p.1 with
  | nx => exact fun hp σ' F' H' fp' a i => tS_step a i hp
  | bk =>
    intro hp
    have hp : (match p.1 with
      | .nx => ∀ σ' F' H' fp', Aft C.K fp F H σ' [] [] p.2 F' H' [] fp' → IO io σ σ' → D.nx σ' H'
      | .bk => ∀ σ' F' H' fp', Aft C.K fp F H σ' [] [] p.2 F' H' [] fp' → IO io σ σ' → D.bk σ' H'
      | .ct => ∀ σ' F' H' fp', Aft C.K fp F H σ' [] [] p.2 F' H' [] fp' → IO io σ σ' → D.ct σ' H'
      | .ret t => ∀ v σ' F' H' f1 fp', Aft C.K fp F H σ' [t] [v] p.2 F' H' f1 fp' → IO io σ σ' → D.rt v H') := hp
    rw [e] at hp
    exact hp
  | ct =>
    intro hp
    have hp : (match p.1 with
      | .nx => ∀ σ' F' H' fp', Aft C.K fp F H σ' [] [] p.2 F' H' [] fp' → IO io σ σ' → D.nx σ' H'
      | .bk => ∀ σ' F' H' fp', Aft C.K fp F H σ' [] [] p.2 F' H' [] fp' → IO io σ σ' → D.bk σ' H'
      | .ct => ∀ σ' F' H' fp', Aft C.K fp F H σ' [] [] p.2 F' H' [] fp' → IO io σ σ' → D.ct σ' H'
      | .ret t => ∀ v σ' F' H' f1 fp', Aft C.K fp F H σ' [t] [v] p.2 F' H' f1 fp' → IO io σ σ' → D.rt v H') := hp
    rw [e] at hp
    exact hp
  | ret t =>
    intro hp
    have hp : (match p.1 with
      | .nx => ∀ σ' F' H' fp', Aft C.K fp F H σ' [] [] p.2 F' H' [] fp' → IO io σ σ' → D.nx σ' H'
      | .bk => ∀ σ' F' H' fp', Aft C.K fp F H σ' [] [] p.2 F' H' [] fp' → IO io σ σ' → D.bk σ' H'
      | .ct => ∀ σ' F' H' fp', Aft C.K fp F H σ' [] [] p.2 F' H' [] fp' → IO io σ σ' → D.ct σ' H'
      | .ret t => ∀ v σ' F' H' f1 fp', Aft C.K fp F H σ' [t] [v] p.2 F' H' f1 fp' → IO io σ σ' → D.rt v H') := hp
    rw [e] at hp
    exact hp
/-! small statements -/
def sBad : FS := fun _ => .bad
theorem psd_never {st : Stmt} : PS X st (tS C io sBad) := ps_never.impD fun D σ H ⟨η, F, fp, o, q⟩ => q.elim
theorem psd_pass {pos : Pos} : PS X (.Pass pos) (tS C io sNil) := ps_pass.impD fun D σ H ⟨η, F, fp, o, q⟩ => q σ F H fp o.aft .refl
def sBreak : FS := fun η => .ok (.bk, η)
def sCont : FS := fun η => .ok (.ct, η)
theorem psd_break {pos : Pos} : PS X (.Break pos) (tS C io sBreak) := ps_break.impD fun D σ H ⟨η, F, fp, o, q⟩ => q σ F H fp o.aft .refl
theorem psd_cont {pos : Pos} : PS X (.Continue pos) (tS C io sCont) := ps_continue.impD fun D σ H ⟨η, F, fp, o, q⟩ => q σ F H fp o.aft .refl
def sExpr (f : FE) : FS := fun η => (f η).bind fun p => .ok (.nx, p.2)
theorem psd_expr {e : Expr} {f : FE} {pos : Pos} (he : PE X e (tD C f)) (hs : swapsWith e none pos.line X.env = pure false := by rfl) : PS X (.Expr e pos) (tS C io (sExpr f)) := by
  refine (ps_expr he hs).impD fun D σ H ⟨η, F, fp, o, q⟩ => ?_
  refine tD_step o.aft (Rs.post_mono (Rs.post_bind q) (fun p hp x F1 H1 f1 fp1 a => ?_) fun _ _ z => z.xp)
  exact hp σ F1 H1 fp1 a.drop .refl
def sRet (f : FE) : FS := fun η => (f η).bind fun p => .ok (.ret p.1, p.2)
theorem psd_ret {e : Expr} {f : FE} {pos : Pos} (he : PE X e (tD C f)) : PS X (.Return (some e) pos) (tS C io (sRet f)) := by
  refine (ps_ret he).impD fun D σ H ⟨η, F, fp, o, q⟩ => ?_
  refine tD_step o.aft (Rs.post_mono (Rs.post_bind q) (fun p hp x F1 H1 f1 fp1 a => ?_) fun _ _ z => z.xp)
  exact hp x σ F1 H1 f1 fp1 a .refl
/-- a name is handed back: its tree goes along -/
def sRetV (i : Nat) : FS := fun η => match η[i]? with
  | some (some t) => .ok (.ret t, η.set i none)
  | _ => .bad
theorem Ok.out {K : PySem.W.Frag} {F H : Hp} {η : Env} {σ : St} {fp : List Addr} {i : Nat} {t : T} (o : Ok K F H η σ fp) (e : η[i]? = some (some t)) : ∃ v f1 fp', σ[i]? = some (some v) ∧ Aft K fp F H σ [t] [v] (η.set i none) F H f1 fp' := by
  obtain ⟨s, h, r, h1, h2, h3, h4⟩ := o.rs.focus (List.getElem?_eq_some_iff.mp e).1
  obtain ⟨v, rfl, rt⟩ := h3 _ e
  obtain ⟨f', rs', pm⟩ := (h4 F H (.refl _) fun _ _ _ z => z).2 (some v)
  rw [set_self h1] at rs'
  have nd : (h ++ r).Nodup := h2.nodup_iff.mp o.nd
  have pm2 : (h ++ f').Perm fp := (pm.append_left h).trans h2.symm
  exact ⟨v, h, f', h1, .one rt, rs', pm2.nodup_iff.mpr o.nd, fun x hx => o.fn x (pm2.mem_iff.mp hx), o.fh, .refl, fun x hx => .inl (pm2.mem_iff.mp hx)⟩
theorem psd_retV {e : Expr} {i : Nat} {pos : Pos} (he : PE X e (tVar i)) : PS X (.Return (some e) pos) (tS C io (sRetV i)) := by
  refine (ps_ret he).impD fun D σ H ⟨η, F, fp, o, q⟩ => ?_
  unfold sRetV at q
  split at q
  · rename_i t e
    obtain ⟨v, f1, fp', h1, a⟩ := o.out e
    exact ⟨v, h1, q v σ F H f1 fp' a .refl⟩
  · exact q.elim
def sRetN : FS := fun η => .ok (.ret (.sh .none), η)
theorem psd_retN {pos : Pos} : PS X (.Return none pos) (tS C io sRetN) := ps_retN.impD fun D σ H ⟨η, F, fp, o, q⟩ => q .non σ F H [] fp (o.res (.here o.fh rp_c.2.2.2)) .refl
def sIf (c : FB) (f g : FS) : FS := fun η => (c η).bind fun p => if p.1 then f p.2 else g p.2
theorem psd_if {c0 : Expr} {a b : List Stmt} {c : FB} {f g : FS} {pos : Pos} (hc : PT X c0 (tB C c)) (ha : PSs X a (tS C io f)) (hb : PSs X b (tS C io g)) : PS X (.If c0 a b pos) (tS C io (sIf c f g)) := by
  refine (ps_if hc ha hb).impD fun D σ H ⟨η, F, fp, o, q⟩ => ?_
  refine tB_step o.aft (Rs.post_mono (Rs.post_bind q) (fun p hp F1 H1 f1 fp1 a => ?_) fun _ _ z => z.xp)
  have hf : f1 = [] := by have := a.rt; simp only [RTs] at this; exact this.2
  subst hf
  cases e : p.1 with
  | true =>
    rw [e, if_pos rfl] at hp
    rw [if_pos rfl]
    exact tS_step a .refl hp
  | false =>
    rw [e, if_neg Bool.false_ne_true] at hp
    rw [if_neg Bool.false_ne_true]
    exact tS_step a .refl hp
/-! ### targets -/
/-- only the slots ws may change -/
def Chg (ws : List Nat) (σ σ' : St) : Prop := σ'.length = σ.length ∧ ∀ j, j ∉ ws → σ'[j]? = σ[j]?
theorem Chg.toIO {ws : List Nat} {σ σ' : St} (h : Chg ws σ σ') (d : ∀ j ∈ io, j ∉ ws) : IO io σ σ' := fun j hj => h.2 j (d j hj)
abbrev FG := T → Env → Rs Env
def tG (C : Cn) (ws : List Nat) (h : FG) : TG := fun v σ H Q => ∃ η F fp t f, Aft C.K (f ++ fp) F H σ [t] [v] η F H f fp ∧ (h t η).post (fun η' => ∀ σ' F' H' fp', Aft C.K (f ++ fp) F H σ' [] [] η' F' H' [] fp' → Chg ws σ σ' → Q σ' H') (XPS C (f ++ fp) F H)
theorem Aft.self {K : PySem.W.Frag} {fp : List Addr} {F H : Hp} {σ : St} {ts : List T} {vs : List V} {η' : Env} {F' H' : Hp} {f1 fp' : List Addr} (a : Aft K fp F H σ ts vs η' F' H' f1 fp') : Aft K (f1 ++ fp') F' H' σ ts vs η' F' H' f1 fp' :=
  ⟨a.rt, a.rs, a.nd, a.fn, a.fh, .refl, fun x hx => .inl hx⟩
/-- a name takes a value -/
theorem Aft.put {K : PySem.W.Frag} {fp : List Addr} {F H : Hp} {σ : St} {t : T} {v : V} {η' : Env} {F' H' : Hp} {f1 fp' : List Addr} (i : Nat) (a : Aft K fp F H σ [t] [v] η' F' H' f1 fp') :
    ∃ fp2, Aft K fp F H (σ.set i (some v)) [] [] (η'.set i (some t)) F' H' [] fp2 := by
  by_cases hi : i < η'.length
  · obtain ⟨s, h, r, h1, h2, h3, h4⟩ := a.rs.focus hi
    obtain ⟨f', rs', pm⟩ := (h4 F' H' (.refl _) fun _ _ _ z => z).1 t v f1 a.rt1
    have sb : ∀ x ∈ f', x ∈ f1 ++ fp' := fun x hx => by
      rcases List.mem_append.mp (pm.mem_iff.mp hx) with hx | hx
      · simp [hx]
      · exact List.mem_append.mpr (.inr (h2.mem_iff.mpr (List.mem_append.mpr (.inr hx))))
    refine ⟨f', .nil, rs', ?_, fun x hx => a.fn x (sb x (by simpa using hx)), a.fh, a.ext, fun x hx => a.sub x (sb x (by simpa using hx))⟩
    rw [List.nil_append]
    refine pm.nodup_iff.mpr (List.nodup_append.mpr ⟨(List.nodup_append.mp a.nd).1, ?_, fun x hx y hy e => ?_⟩)
    · exact (List.nodup_append.mp (h2.nodup_iff.mp (List.nodup_append.mp a.nd).2.1)).2.1
    · exact (List.nodup_append.mp a.nd).2.2 x hx y (h2.mem_iff.mpr (by simp [hy])) e
  · have hl := a.rs.len
    rw [List.set_eq_of_length_le (by omega), List.set_eq_of_length_le (by omega)]
    exact ⟨fp', a.drop⟩
def gN (i : Nat) : FG := fun t η => .ok (η.set i (some t))
theorem pgd_name {i : Nat} {x : Str} {pos : Pos} (h : PG X (.Name x pos) (gName i)) : PG X (.Name x pos) (tG C [i] (gN i)) := by
  refine ⟨fun pins s σ H v u Q I r ⟨η, F, fp, t, f, a, q⟩ => h.run pins s σ H v u Q I r ?_⟩
  obtain ⟨fp2, a2⟩ := a.put i
  refine q _ F H fp2 a2 ⟨by simp, fun j hj => ?_⟩
  have : i ≠ j := fun e => hj (by simp [e])
  rw [List.getElem?_set_ne this]
/-- several targets take data -/
abbrev FGs := List PyData → Env → Rs Env
def gsNil : FGs := fun ds η => match ds with
  | [] => .ok η
  | _ => .bad
def gsCons (h : FG) (hs : FGs) : FGs := fun ds η => match ds with
  | d :: ds => (h (.sh d) η).bind fun η1 => hs ds η1
  | [] => .bad
def tGs (C : Cn) (ws : List Nat) (h : FGs) : TGs := fun vs σ H Q => ∃ η F fp ds, Ok C.K F H η σ fp ∧ RpAll C.K F ds vs ∧ (h ds η).post (fun η' => ∀ σ' F' H' fp', Aft C.K fp F H σ' [] [] η' F' H' [] fp' → Chg ws σ σ' → Q σ' H') (XPS C fp F H)
theorem _root_.L2.PGs.impD {X : Cx} {e : List Expr} {t t' : TGs} (h : PGs X e t) (k : ∀ v σ H Q, t' v σ H Q → t v σ H Q) : PGs X e t' := ⟨fun pins s σ H v u Q I r q => h.run pins s σ H v u Q I r (k v σ H Q q)⟩
theorem _root_.L2.PG.impD {X : Cx} {e : Expr} {t t' : TG} (h : PG X e t) (k : ∀ v σ H Q, t' v σ H Q → t v σ H Q) : PG X e t' := ⟨fun pins s σ H v u Q I r q => h.run pins s σ H v u Q I r (k v σ H Q q)⟩
theorem pgsd_nil : PGs X [] (tGs C [] gsNil) := by
  refine pgs_nil.impD fun vs σ H Q ⟨η, F, fp, ds, o, rp, q⟩ => ?_
  unfold gsNil at q
  split at q
  · simp only [RpAll] at rp
    exact ⟨rp, q σ F H fp o.aft ⟨rfl, fun _ _ => rfl⟩⟩
  · exact q.elim
theorem pgsd_cons {e : Expr} {es : List Expr} {ws wss : List Nat} {h : FG} {hs : FGs} (h1 : PG X e (tG C ws h)) (h2 : PGs X es (tGs C wss hs))
    (ha : (assignEach (e :: es) X.env).map (·.2) = assign e X.env :: (assignEach es X.env).map (·.2) := by rfl) : PGs X (e :: es) (tGs C (ws ++ wss) (gsCons h hs)) := by
  refine (pgs_cons h1 h2 ha).impD fun vs σ H Q ⟨η, F, fp, ds, o, rp, q⟩ => ?_
  unfold gsCons at q
  split at q
  · rename_i d ds
    obtain ⟨x, xs, rfl, r1, r2⟩ := rp.uncons
    have a0 : Aft C.K fp F H σ [.sh d] [x] η F H [] fp := o.res (.here o.fh r1)
    refine ⟨x, xs, rfl, η, F, fp, .sh d, [], a0.self, Rs.post_mono (Rs.post_bind q) (fun η1 hq σ1 F1 H1 fp1 b c1 => ?_) fun _ _ z => z⟩
    have b : Aft C.K fp F H σ1 [] [] η1 F1 H1 [] fp1 := b
    refine ⟨η1, F1, fp1, ds, b.ok, r2.mono b.ext.ff, Rs.post_mono hq (fun η2 hq2 σ2 F2 H2 fp2 c c2 => hq2 σ2 F2 H2 fp2 (b.thn c) ⟨c2.1.trans c1.1, fun j hj => ?_⟩) fun _ _ z => z.back b⟩
    rw [List.mem_append, not_or] at hj
    exact (c2.2 j hj.2).trans (c1.2 j hj.1)
  · exact q.elim
def gTupD (n : Nat) (hs : FGs) : FG := fun t η => match t.val with
  | .tuple ds => if ds.length = n then hs ds η else .bad
  | _ => .bad
theorem pgd_tup {es : List Expr} {k : Nat} {pos : Pos} {ws : List Nat} {n : Nat} {hs : FGs} (hK : C.K = X.K) (hc : X.calm = true) (h : PGs X es (tGs C ws hs)) (hn : (assignEach es X.env).length = n := by rfl) (hst : (assignEach es X.env).findIdx? (·.1) = none := by rfl) :
    PG X (.Tuple es k pos) (tG C ws (gTupD n hs)) := by
  refine (pg_tup hc h hn hst).impD fun v σ H Q ⟨η, F, fp, t, f, a, q⟩ => ?_
  unfold gTupD at q
  split at q
  · rename_i ds e
    split at q
    · rename_i hl
      obtain ⟨F2, a2, rp⟩ := a.freeze
      simp only [T.vals, RpAll] at rp
      obtain ⟨x', xs, e1, r1, rfl⟩ := rp
      obtain rfl : v = x' := by simpa using e1
      rw [e] at r1
      simp only [Rp] at r1
      obtain ⟨p, xs, rfl, q1, w⟩ := r1
      refine ⟨p, xs, rfl, by rw [← hK]; exact sqT_mono a2.fh q1, by rw [w.len]; exact hl, η, F2, fp, ds, a2.ok, w, Rs.post_mono q (fun η' hq σ' F' H' fp' b c => hq σ' F' H' fp' (a2.thn b) c) fun _ _ z => z.back a2⟩
    · exact q.elim
  · exact q.elim
/-- x[i] = .., x a name that owns a list -/
def gSub (i : Nat) (g : FE) : FG := fun t η => match own η i with
  | some _ => (g η).bind fun p => match own p.2 i, p.1 with
    | some us, .sh (.int k) => match ixN us.length k with
      | some j => .ok (setL p.2 i (us.set j t))
      | none => .bad
    | _, _ => .bad
  | none => .bad
theorem pgd_sub {x : Str} {px pos : Pos} {ix : Expr} {i : Nat} {g : FE} (h : PG X (.Subscript (.Name x px) ix pos) (L2.gSub (tVar i) (tD C g) rSetL)) : PG X (.Subscript (.Name x px) ix pos) (tG C [] (gSub i g)) := by
  refine h.impD fun v σ H Q ⟨η, F, fp, t, f, a, q⟩ => ?_
  unfold gSub at q
  split at q
  · rename_i us0 e0
    obtain ⟨p0, xs0, g0, w0, _, _⟩ := a.mut (own_eq e0)
    refine ⟨.ref p0, w0.sl, ?_⟩
    refine tD_step a (Rs.post_mono (Rs.post_bind q) (fun p hp y F1 H1 f1 fp1 b => ?_) fun _ _ z => z.xp)
    have b : Aft C.K (f ++ fp) F H σ [t, p.1] [v, y] p.2 F1 H1 f1 fp1 := b
    split at hp
    · rename_i us k e1 e2
      obtain ⟨g1, g2, rfl, r1, r2⟩ := b.rt2
      rw [e2] at r2
      obtain ⟨rfl, rfl⟩ := rt_int r2
      rw [List.append_nil] at b
      split at hp
      · rename_i j hj
        have b1 : Aft C.K (f ++ fp) F H σ [t] [v] p.2 F1 H1 g1 fp1 := ⟨.one r1, b.rs, b.nd, b.fn, b.fh, b.ext, b.sub⟩
        obtain ⟨p1, xs, g', w, nd, k'⟩ := b1.mut (own_eq e1)
        obtain rfl : p0 = p1 := by have := w.sl; rw [w0.sl] at this; cases this; rfl
        have hl := w.rt.len
        have hjl : j < us.length := (ixN_seq hj).2.1
        obtain ⟨v0, d0, g3, h1, h2, h3, h4, h5⟩ := w.rt.split (k := j) (List.getElem?_eq_getElem hjl)
        obtain ⟨g4, h6, h7⟩ := h5 t v g1 r1
        have nd' := (List.nodup_cons.mp nd).2
        have hsub : ∀ x ∈ g4, x ∈ g' ++ g1 := fun x hx => by
          rcases List.mem_append.mp (h7.mem_iff.mp hx) with hx | hx
          · simp [hx]
          · exact List.mem_append.mpr (.inl (h4.mem_iff.mpr (List.mem_append.mpr (.inr hx))))
        have hnd : g4.Nodup := h7.nodup_iff.mpr (List.nodup_append.mpr ⟨(List.nodup_append.mp nd').2.1, (List.nodup_append.mp (h4.nodup_iff.mp (List.nodup_append.mp nd').1)).2.1, fun x hx y hy e => by
          subst e
          exact (List.nodup_append.mp nd').2.2 x (h4.mem_iff.mpr (by simp [hy])) x hx rfl⟩)
        obtain ⟨fp2, a2⟩ := k' (us.set j t) (xs.set j v) g4 [] [] [] h6 .nil (by simpa using hnd) (by simpa using hsub)
        refine ⟨p0, xs, k, j, rfl, rfl, w.at_, by rw [hl]; exact hj, ?_⟩
        exact hp σ F1 _ fp2 a2 ⟨rfl, fun _ _ => rfl⟩
      · exact hp.elim
    · exact hp.elim
  · exact q.elim
/-! ### assignments -/
def sAsg (f : FE) (h : FG) : FS := fun η => (f η).bind fun p => (h p.1 p.2).bind fun η' => .ok (.nx, η')
theorem t_asg {f : FE} {ws : List Nat} {h : FG} {D : Ends} {σ : St} {H : Hp} (hio : ∀ j ∈ io, j ∉ ws) (q : tS C io (sAsg f h) D σ H) : tAsg (tD C f) (tG C ws h) D σ H := by
  obtain ⟨η, F, fp, o, q⟩ := q
  refine tD_step o.aft (Rs.post_mono (Rs.post_bind q) (fun p hp x F1 H1 f1 fp1 a => ?_) fun _ _ z => z.xp)
  have a : Aft C.K fp F H σ [p.1] [x] p.2 F1 H1 f1 fp1 := a
  refine ⟨p.2, F1, fp1, p.1, f1, a.self, Rs.post_mono (Rs.post_bind hp) (fun η' hq σ' F' H' fp' b c => ?_) fun _ _ z => z.back' a⟩
  exact hq σ' F' H' fp' (a.thn b) (c.toIO hio)
theorem psd_asg {st : Stmt} {f : FE} {ws : List Nat} {h : FG} (hio : ∀ j ∈ io, j ∉ ws) (p : PS X st (tAsg (tD C f) (tG C ws h))) : PS X st (tS C io (sAsg f h)) := p.impD fun _ _ _ => t_asg hio
/-- a name's assignment by its own rule -/
theorem psd_set {st : Stmt} {f : FE} {i : Nat} (hio : i ∉ io) (p : PS X st (tAsg (tD C f) (gName i))) : PS X st (tS C io (sAsg f (gN i))) := by
  refine p.impD fun D σ H ⟨η, F, fp, o, q⟩ => ?_
  refine tD_step o.aft (Rs.post_mono (Rs.post_bind q) (fun p hp x F1 H1 f1 fp1 a => ?_) fun _ _ z => z.xp)
  have a : Aft C.K fp F H σ [p.1] [x] p.2 F1 H1 f1 fp1 := a
  obtain ⟨fp2, a2⟩ := a.put i
  exact hp _ F1 H1 fp2 a2 fun j hj => by
    have : i ≠ j := fun e => hio (e ▸ hj)
    rw [List.getElem?_set_ne this]

/-- the first value goes to a slot, the others stay -/
theorem Aft.putR {K : PySem.W.Frag} {fp : List Addr} {F H : Hp} {σ : St} {t : T} {v : V} {us : List T} {ws : List V} {η' : Env} {F' H' : Hp} {f1 fp' : List Addr} (i : Nat) (a : Aft K fp F H σ (t :: us) (v :: ws) η' F' H' f1 fp') :
    ∃ f2 fp2, Aft K fp F H (σ.set i (some v)) us ws (η'.set i (some t)) F' H' f2 fp2 := by
  obtain ⟨x, xs, g1, g2, e1, rfl, r1, r2⟩ := a.rt.uncons
  obtain ⟨rfl, rfl⟩ : v = x ∧ ws = xs := by simpa using e1
  by_cases hi : i < η'.length
  · obtain ⟨s, h, r, h1, h2, h3, h4⟩ := a.rs.focus hi
    obtain ⟨f', rs', pm⟩ := (h4 F' H' (.refl _) fun _ _ _ z => z).1 t v g1 r1
    have tot : (h ++ (g2 ++ f')).Perm ((g1 ++ g2) ++ fp') := by
      refine List.perm_iff_count.mpr fun z => ?_
      have c1 := h2.count_eq z
      have c2 := pm.count_eq z
      rw [List.count_append] at c1 c2
      rw [List.count_append, List.count_append, List.count_append, List.count_append]
      omega
    have sb : ∀ z ∈ g2 ++ f', z ∈ (g1 ++ g2) ++ fp' := fun z hz => tot.mem_iff.mp (List.mem_append.mpr (.inr hz))
    exact ⟨g2, f', r2, rs', (List.nodup_append.mp (tot.nodup_iff.mpr a.nd)).2.1, fun z hz => a.fn z (sb z hz), a.fh, a.ext, fun z hz => a.sub z (sb z hz)⟩
  · have hl := a.rs.len
    rw [List.set_eq_of_length_le (by omega), List.set_eq_of_length_le (by omega)]
    have sb : ∀ z ∈ g2 ++ fp', z ∈ (g1 ++ g2) ++ fp' := fun z hz => by
      rcases List.mem_append.mp hz with hz | hz
      · exact List.mem_append.mpr (.inl (List.mem_append.mpr (.inr hz)))
      · exact List.mem_append.mpr (.inr hz)
    have nd : (g2 ++ fp').Nodup := by
      have := a.nd
      rw [List.append_assoc] at this
      exact (List.nodup_append.mp this).2.1
    exact ⟨g2, fp', r2, a.rs, nd, fun z hz => a.fn z (sb z hz), a.fh, a.ext, fun z hz => a.sub z (sb z hz)⟩
def sPar (i j : Nat) (g : FA) : FS := fun η => (g η).bind fun p => match p.1 with
  | [t, u] => .ok (.nx, (p.2.set i (some t)).set j (some u))
  | _ => .bad
theorem psd_par {st : Stmt} {i j : Nat} {g : FA} (h1 : i ∉ io) (h2 : j ∉ io) (p : PS X st (tPar i j (tA C g))) : PS X st (tS C io (sPar i j g)) := by
  refine p.impD fun D σ H ⟨η, F, fp, o, q⟩ => ?_
  refine tA_step o.aft (Rs.post_mono (Rs.post_bind q) (fun p hp ws F1 H1 f1 fp1 a => ?_) fun _ _ z => z.xp)
  have a : Aft C.K fp F H σ p.1 ws p.2 F1 H1 f1 fp1 := a
  split at hp
  · rename_i t u e
    rw [e] at a
    have hl := a.rt.len
    match ws, hl with
    | [x, y], _ =>
      refine ⟨x, y, rfl, ?_⟩
      obtain ⟨f2, fp2, b⟩ := a.putR i
      obtain ⟨f3, fp3, c⟩ := b.putR j
      have hf : f3 = [] := by have := c.rt; simp only [RTs] at this; exact this.2
      subst hf
      refine hp _ F1 H1 fp3 c fun k hk => ?_
      have n1 : i ≠ k := fun e => h1 (e ▸ hk)
      have n2 : j ≠ k := fun e => h2 (e ▸ hk)
      rw [List.getElem?_set_ne n2, List.getElem?_set_ne n1]
  · exact hp.elim
end Pv
set_option Elab.async false
set_option linter.all false
set_option maxRecDepth 100000
set_option maxHeartbeats 4000000
/-! x op= e, of ints -/
namespace Pv
open PySem L2 PyProof.Rows
variable {X : Cx} {C : Cn}
def augAdd : PyData → PyData → Option T := iop0 fun i j => i + j
theorem augAdd_ok : OpD X (inplaceOp .Add) augAdd := iop0_ok iop_add
def augSub : PyData → PyData → Option T := iop0 fun i j => i - j
theorem augSub_ok : OpD X (inplaceOp .Sub) augSub := iop0_ok iop_sub
def mulFits64 (i j : Int) : Bool := small64 i || small64 j
def augMul : PyData → PyData → Option T := iop mulFits64 fun i j => i * j
theorem augMul_ok : OpD X (inplaceOp .Mult) augMul := iop_ok iop_mul fun i j h => by
  unfold mulFits64 small64 at h
  simp only [Bool.or_eq_true, Bool.and_eq_true, decide_eq_true_eq] at h
  have e64 : (2 : Int) ^ 64 = 18446744073709551616 := by decide
  rcases h with h | h
  · exact .inl (by rw [e64]; exact h)
  · exact .inr (by rw [e64]; exact h)
variable {op : Operator} {o : PyData → PyData → Option T} {f : FE} {i : Nat} {x : Str} {e : Expr} {pos pos' : Pos} {io : List Nat}
theorem psd_aug (hio : i ∉ io) (hK : C.K = X.K) (hN : X.N.Nodup) (hi : X.N[i]? = some x) (hx : Loc X.env.scope x) (ho : OpD X (inplaceOp op) o) (he : PE X e (tD C f)) (hf : X.fn x = true ∨ X.env.scope.names.lookup x = some .local := by first | exact .inl rfl | exact .inr rfl | assumption) :
    PS X (.AugAssign (.Name x pos') op e pos) (tS C io (sAsg (eBinL' o i f) (gN i))) := by
  have h := ps_aug (pos := pos) (pos' := pos') hN hi hx he ho hf
  rw [← hK] at h
  exact psd_set hio (h.impD fun D σ H q => t_binL q)
end Pv
namespace Pv
open PySem L2
variable {X : Cx} {C : Cn}
/-- what is made is given away at once -/
def eFz (f : FE) : FE := fun η => (f η).bind fun p => .ok (.sh p.1.val, p.2)
theorem pd_fz {e : Expr} {f : FE} (h : PE X e (tD C f)) : PE X e (tD C (eFz f)) := h.impD fun σ H Q ⟨η, F, fp, o, q⟩ => by
  refine ⟨η, F, fp, o, Rs.post_mono (Rs.post_bind q) (fun r hr v F1 H1 f1 fp1 a => ?_) fun _ _ z => z⟩
  obtain ⟨F2, a2, rp⟩ := a.freeze
  simp only [T.vals, RpAll] at rp
  obtain ⟨v', xs, e1, r1, rfl⟩ := rp
  obtain rfl : v = v' := by simpa using e1
  exact hr _ _ _ _ _ (a2.res (.here a2.fh r1))
end Pv
set_option Elab.async false
set_option linter.all false
set_option maxRecDepth 100000
set_option maxHeartbeats 4000000
/-! enumerate of a tuple; a walk of a list or a tuple, whichever it is -/
namespace PySem
open Sem (wp)
theorem meets_enumerate_new1 {v : Value} {o : Obj} {H : Heap → Prop} (B : Begins v o H) :
    Meets (Builtin.«enumerate.__new__» ⟨[.type "enumerate", v], []⟩) (fun _ R s => H s.heap ∧
      R (.ok (.ret (.ref (s.heap.push o).objs.size))) { s with heap := (s.heap.push o).push { cls := .type "enumerate", data := .fields #[.none, .bool false, .ref s.heap.objs.size, rawInt 0, .none, .none] } }) :=
  .of_wp fun prog w A R s h => by
    obtain ⟨hp, g, d, tk, os⟩ := s; obtain ⟨h1, h⟩ := h
    have hsub := sub_enumerate
    have q1 : ∀ {A' : Around} {E : Value → Shared → Prop} {Q : Value → Shared → Prop}, Q (.ref hp.objs.size) ⟨hp.push o, g, d, tk, os⟩ → wpAny (model prog w) A' (pyIter v) Q E ⟨hp, g, d, tk, os⟩ :=
      fun q => B.iter prog w _ _ ⟨hp, g, d, tk, os⟩ _ h1 q
    wp_walk using q1
    refine wpAny_stack_any fun st => wpAny_pure ?_
    split
    · rename_i c _ _ _ _ _
      cases (c == Value.type "enumerate")
      · wp_walk using q1
        exact ⟨_, rfl, h⟩
      · wp_walk using q1
        exact ⟨_, rfl, h⟩
    · wp_walk using q1
      exact ⟨_, rfl, h⟩
theorem enum_begins1 {prog : Program} {w : World} {A : Around} {E : Value → Shared → Prop} {s : Shared} {v : Value} {o : Obj} {H : Heap → Prop} {Q : Value → Shared → Prop} (B : Begins v o H) (h1 : H s.heap)
    (h : ∀ h', IsEnum h' (s.heap.objs.size + 1) s.heap.objs.size 0 .none → h'.get? s.heap.objs.size = some o → h'.objs.size = s.heap.objs.size + 2 →
      (∀ b o, s.heap.get? b = some o → h'.get? b = some o) → Q (.ref (s.heap.objs.size + 1)) { s with heap := h' }) :
    wpAny (model prog w) A (call (.type "enumerate") [v]) Q E s := by
  refine callType_new F.called_enumerate (by decide) (F.typeCall_enumerate_1 _) (F.newCall_enumerate_1 _) (fun obj => F.args_object_init_2 obj _) F.entry_enumerate_new
    (meets_enumerate_new1 B) ⟨h1, ?_⟩
  have hz : (s.heap.push o).objs.size = s.heap.objs.size + 1 := Heap.size_push ..
  show _ ∧ _
  rw [hz]
  have he : IsEnum ((s.heap.push o).push { cls := .type "enumerate", data := .fields #[.none, .bool false, .ref s.heap.objs.size, rawInt 0, .none, .none] }) (s.heap.objs.size + 1) s.heap.objs.size 0 .none := by
    show Heap.get? _ _ = _
    rw [← hz]
    exact Heap.get?_push_size _ rfl
  refine ⟨⟨_, he, rfl⟩, h _ he (Heap.get?_push_of_some _ (Heap.get?_push_size _ B.free)) (by rw [Heap.size_push, hz]) fun b o q => Heap.get?_push_of_some _ (Heap.get?_push_of_some _ q)⟩
end PySem
namespace L2
open PySem PySem.Spec PyProof.Rows
def IteT (K : PySem.W.Frag) (a : Addr) : It :=
  ⟨fun i H => ∃ (xs : List V) (x : V), SqT K H a xs ∧ xs[i]? = some x, fun i H v H' => ∃ T x, v = .ref T ∧ H T = none ∧ H' = upd H T (.tup [.int (i : Nat), x]) ∧ ∀ xs, SqT K H a xs → xs[i]? = some x, fun i H => ∃ xs : List V, SqT K H a xs ∧ xs.length ≤ i⟩
theorem turn_enumT {P : Program} {w : World} {K : PySem.W.Frag} {elts : List Expr} {kk : Nat} {tpos : Pos} (a e it : Addr) :
    Turn P w K (.Tuple elts kk tpos) (IteT K a) [e, it] e (fun i h => (∃ old, IsEnum h e it ((i : Nat) : Int) old) ∧ h.IsTupleIter it a i ∧ e ≠ it) where
  mem := by simp
  obj := fun i h st b hb => by
    obtain ⟨⟨old, he⟩, ⟨o, ho, hc, hd⟩, _⟩ := st
    have e' : b = e ∨ b = it := by simpa using hb
    rcases e' with z | z
    · rw [z]; exact ⟨_, he, fun v q => nomatch q⟩
    · rw [z]; exact ⟨o, ho, fun v q => by rw [hd] at q; cases q⟩
  keep := fun i h h' st k => let ⟨⟨old, he⟩, hi, hne⟩ := st; ⟨⟨old, k e (by simp) _ he⟩, hi.at fun o q => k it (by simp) o q, hne⟩
  item := by
    intro X hP hw hK hc i pins s σ H E I hf st hg
    subst hP hw hK
    obtain ⟨⟨old, he⟩, hit, hne⟩ := st
    obtain ⟨xs, x, hq, hx⟩ := hg
    obtain ⟨its, rv, p, hz⟩ := I.tuple hq
    obtain ⟨u, hu, ru⟩ := rv.get hx
    have hel : e < s.heap.objs.size := Heap.lt_size he
    have hil : it < s.heap.objs.size := by obtain ⟨_, q, _⟩ := hit; exact Heap.lt_size q
    have pt : s.heap.IsTuple a its.toArray := p
    have hai : a ≠ it := fun z => by
      obtain ⟨o1, e1, c1, _⟩ := pt
      obtain ⟨o2, e2, c2, _⟩ := hit
      rw [z, e2] at e1
      cases e1
      rw [c2] at c1
      exact absurd (Value.type.inj c1) (by decide)
    have hae : a ≠ e := fun z => by
      obtain ⟨o1, e1, c1, _⟩ := pt
      have he' : s.heap.get? e = some _ := he
      rw [z, he'] at e1
      cases e1
      exact absurd (Value.type.inj c1) (by decide)
    have hlt : i < its.toArray.size := by
      have := (List.getElem?_eq_some_iff.mp hu).1
      simpa using this
    refine wpAny_pyNext_enum_itemC (Draws.tuple (A := X.A.in1) (I.ok.hd hc) it a hai its.toArray) he ⟨hit, pt⟩ hlt hne (by simp [hne, hae.symm]) fun y h' tk hy ho hst hT hsz hk => ?_
    have hyu : y = u := by
      have : its.toArray[i]? = some y := hy
      rw [show its.toArray[i]? = its[i]? by simp] at this
      rw [hu] at this; cases this; rfl
    subst hyu
    refine ⟨_, rfl, wpAny_letOwnedTupleGo_enum (s := { s with heap := h', toks := tk + 1 }) ho fun h'' he' sb => ?_⟩
    have hT2 : h''.get? s.heap.objs.size = some { cls := .type "tuple", data := .seq #[.int i tk, y] } := (sb.2 _ (Nat.ne_of_gt hel)).trans hT
    have new : ObjOk X.prog X.w (upd H s.heap.objs.size (.tup [.int (i : Nat), x])) h'' s.heap.objs.size (.tup [.int (i : Nat), x]) :=
      ⟨by show 2 ≤ sizeLine; decide, [.int i tk, y], .cons ⟨_, rfl⟩ (.cons ru .nil), ⟨_, hT2, rfl, _, rfl⟩⟩
    have I1 : Inv X pins σ (upd H s.heap.objs.size (.tup [.int (i : Nat), x])) { s with heap := h'', toks := tk + 1 } :=
      I.turnedNew (ch := [e, it]) (fun b ob hb q => (sb.2 b (fun z => hb (by simp [z]))).trans (hk b ob (fun z => hb (by simp [z])) (fun z => hb (by simp [z])) q)) hf (Nat.le_refl _) new
    refine ⟨.ref s.heap.objs.size, _, I1, rfl, ⟨_, x, rfl, I.hok.fresh (Nat.le_refl _), rfl, fun ys hy => by rw [I.tuple_inj hy hq]; exact hx⟩, ⟨⟨y, ?_⟩, hst.1.at fun o q => (sb.2 it (Ne.symm hne)).trans q, hne⟩, fun b hb => ?_⟩
    · have e1 : ((i + 1 : Nat) : Int) = (i : Int) + 1 := by omega
      rw [e1]; exact he'
    · have hb' : b < s.heap.objs.size := by
        have e' : b = e ∨ b = it := by simpa using hb
        rcases e' with z | z
        · rw [z]; exact hel
        · rw [z]; exact hil
      rw [upd_ne (Nat.ne_of_lt hb')]
      exact (hf b hb).1
  done := by
    intro X hP hw hK hc i pins s σ H E I hf st hg
    subst hP hw hK
    obtain ⟨⟨old, he⟩, hit, hne⟩ := st
    obtain ⟨xs, hq, hx⟩ := hg
    obtain ⟨its, rv, p, hz⟩ := I.tuple hq
    obtain ⟨f0, f1, f2, f3, f4, f5⟩ := hf it (by simp)
    have hl := rv.length
    have hT : s.TypeIs (.ref e) "enumerate" := ⟨_, he, rfl⟩
    unfold pyNext
    refine wpAny_bind (wpAny_attempt (wpAny_callSpecial?_slot (name := Str.ofString "__next__") hT F.slot_enumerate_next
      (wpAny_call_entry F.slot_enumerate_next hT F.entry_enumerate_next ?_ (F.args_enumerate_next_1 _))))
    show wpAny _ _ (field (.ref e) 2 >>= _) _ _ _
    refine wpAny_bind (wpAny_field he rfl (x := .ref it) rfl ?_)
    refine wpAny_bind (wpAny_nextOf_tuple_end (show X.A.in1.in1.handled = none from I.ok.hd hc) hit (show s.heap.IsTuple a its.toArray from p) (by simp; omega) fun h' x he' hx' => ?_)
    obtain ⟨o, ho, hcl⟩ := hx'
    refine wpAny_bind (wpAny_isInstance (T := "StopIteration") (b := true) ⟨o, ho, hcl⟩ isSubtype_stop ?_)
    exact wpAny_pure ⟨rfl, I.turned (t' := s.toks) (fun b o hb q => he' b o hb q) f0 f1 f3 f4 f5⟩
  self := fun A i s Q E st h => let ⟨⟨_, he⟩, _⟩ := st; wpAny_pyIter_enum he h
def iEnumA (K : PySem.W.Frag) (ta : TA) : TI := fun σ H R => ta σ H fun vs H1 => ∃ a xs, vs = [.ref a] ∧ ((SqL K H1 a xs ∧ R (Ite K a) H1) ∨ (SqT K H1 a xs ∧ R (IteT K a) H1))
theorem pi_enumA {X : Cx} {e : Expr} {ta : TA} {p pos tpos : Pos} {elts : List Expr} {kk : Nat} (hg : Gl X "enumerate") (hm : X.mg "enumerate" = none) (ha : PA X [e] ta) (hs : starEach [e] X.env = [(false, eval e X.env)] := by rfl) :
    PI X (.Tuple elts kk tpos) (.Call (.Name "enumerate" p) [e] [] pos) (iEnumA X.K ta) := by
  refine ⟨fun pins s σ H R I h => ?_⟩
  refine Call_ (ld_blt I hg hm boot_enumerate (PyProof.Rows.callWith_type1 (thn (ha.run pos pins s σ H _ I h) fun us s1 ⟨vs, H1, I1, r1, q1⟩ => ?_) hs rfl))
  obtain ⟨a, xs, ex, q1⟩ := q1
  subst ex
  cases r1 with
  | cons r rr =>
    cases rr
    cases r
    have fpk : ∀ b ∈ [s1.heap.objs.size + 1, s1.heap.objs.size], s1.heap.objs.size ≤ b := fun b hb => by
      have e' : b = s1.heap.objs.size + 1 ∨ b = s1.heap.objs.size := by simpa using hb
      rcases e' with z | z
      · rw [z]; exact Nat.le_add_right _ _
      · rw [z]; exact Nat.le_refl _
    rcases q1 with ⟨hq, q⟩ | ⟨hq, q⟩
    · obtain ⟨its, rv, p', hz⟩ := I1.list hq
      refine call_enumerate_list p'.isList fun h' he hit hsz hk => wpAny_pyIter_enum he ?_
      have I2 : Inv X pins σ H1 { s1 with heap := h' } := I1.kept (t' := s1.toks) hk
      exact ⟨s1.heap.objs.size + 1, [s1.heap.objs.size + 1, s1.heap.objs.size], _, _, H1, rfl, I2, turn_enum a (s1.heap.objs.size + 1) s1.heap.objs.size, ⟨⟨.none, he⟩, hit, Nat.succ_ne_self _⟩, fun b hb => I1.fpOk (fpk b hb) (I1.hok.fresh (fpk b hb)), q⟩
    · obtain ⟨its, rv, p', hz⟩ := I1.tuple hq
      refine enum_begins1 (begins_tuple a its.toArray) (show s1.heap.IsTuple a its.toArray from p') fun h' he hit hsz hk => wpAny_pyIter_enum he ?_
      have I2 : Inv X pins σ H1 { s1 with heap := h' } := I1.kept (t' := s1.toks) hk
      exact ⟨s1.heap.objs.size + 1, [s1.heap.objs.size + 1, s1.heap.objs.size], _, _, H1, rfl, I2, turn_enumT a (s1.heap.objs.size + 1) s1.heap.objs.size, ⟨⟨.none, he⟩, ⟨_, hit, rfl, rfl⟩, Nat.succ_ne_self _⟩, fun b hb => I1.fpOk (fpk b hb) (I1.hok.fresh (fpk b hb)), q⟩
/-- a list or a tuple -/
def iSeq (K : PySem.W.Frag) (tl : TE) : TI := fun σ H R => tl σ H fun x H1 => ∃ a xs, x = .ref a ∧ ((SqL K H1 a xs ∧ R (Itl K a) H1) ∨ (SqT K H1 a xs ∧ R (Itt K a) H1))
theorem pi_seq {X : Cx} {tg l : Expr} {tl : TE} (hl : PE X l tl) : PI X tg l (iSeq X.K tl) := by
  refine ⟨fun pins s σ H R I h => ?_⟩
  refine thn (hl.run pins s σ H _ I h) fun v s1 ⟨x, H1, I1, r1, q1⟩ => ?_
  obtain ⟨a, xs, e, q⟩ := q1
  subst e
  cases r1
  have fresh : ∀ b ∈ [s1.heap.objs.size], FpOk X pins H1 b := fun b hb => by
    have e : b = s1.heap.objs.size := by simpa using hb
    subst e
    exact I1.fpOk (Nat.le_refl _) (I1.hok.fresh (Nat.le_refl _))
  rcases q with ⟨hq, q⟩ | ⟨hq, q⟩
  · obtain ⟨its, rv, p, hz⟩ := I1.list hq
    refine wpAny_pyIter_list p.isList ?_
    exact ⟨s1.heap.objs.size, [s1.heap.objs.size], _, _, H1, rfl, I1.kept (t' := s1.toks) fun b o e => Heap.get?_push_of_some _ e, turn_list a _, ⟨_, Heap.get?_push_size _ rfl, rfl, rfl⟩, fresh, q⟩
  · obtain ⟨its, rv, p, hz⟩ := I1.tuple hq
    refine wpAny_pyIter_tuple (show s1.heap.IsTuple a its.toArray from p) ?_
    exact ⟨s1.heap.objs.size, [s1.heap.objs.size], _, _, H1, rfl, I1.kept (t' := s1.toks) fun b o e => Heap.get?_push_of_some _ e, turn_tuple a _, ⟨_, Heap.get?_push_size _ rfl, rfl, rfl⟩, fresh, q⟩
end L2
set_option Elab.async false
set_option linter.all false
set_option maxRecDepth 100000
set_option maxHeartbeats 4000000
namespace Pv
open PySem L2 RZ
variable {X : Cx} {C : Cn}

/-! ### what is walked -/
/-- ds: what the walk yields; inv: what must stay -/
structure ItOk (K : PySem.W.Frag) (inv : Hp → Hp → Prop) (F : Hp) (ds : List PyData) (J : It) : Prop where
  go : ∀ (i : Nat) (Fk Hk : Hp), i < ds.length → Same F Fk → Same Fk Hk → inv Fk Hk → J.go i Hk
  stop : ∀ (Fk Hk : Hp), Same F Fk → Same Fk Hk → inv Fk Hk → J.stop ds.length Hk
  yld : ∀ (i : Nat) (d : PyData) (Fk Hk : Hp) (x : V) (H' : Hp), ds[i]? = some d → Same F Fk → Same Fk Hk → inv Fk Hk → J.yld i Hk x H' → ∃ F2, ResOk K Fk Hk (.sh d) x F2 H' []
def inv0 : Hp → Hp → Prop := fun _ _ => True
abbrev FI := Env → Rs (List PyData × Env)
/-- a walk of an expression's value -/
def tI (C : Cn) (f : FI) : TI := fun σ H R => ∃ η F fp, Ok C.K F H η σ fp ∧ (f η).post (fun p => ∀ F' H' fp' J, Aft C.K fp F H σ [] [] p.2 F' H' [] fp' → ItOk C.K inv0 F' p.1 J → R J H') (XP C fp F H σ)
/-- a walk of what stands in slot i -/
def tIV (C : Cn) (i : Nat) : TI := fun σ H R => ∃ η F fp d ds v, Ok C.K F H η σ fp ∧ pk η i = some d ∧ (d = .list ds ∨ d = .tuple ds) ∧ σ[i]? = some (some v) ∧
  ∀ J, ItOk C.K (fun Fk Hk => Rq C.K Fk Hk d v) F ds J → R J H
theorem _root_.L2.PI.impD {X : Cx} {tg e : Expr} {t t' : TI} (h : PI X tg e t) (k : ∀ σ H R, t' σ H R → t σ H R) : PI X tg e t' := ⟨fun pins s σ H R I q => h.run pins s σ H R I (k σ H R q)⟩
def seqOf : PyData → Option (List PyData)
  | .list ds => some ds
  | .tuple ds => some ds
  | _ => none
theorem seqOf_eq {d : PyData} {ds : List PyData} (h : seqOf d = some ds) : d = .list ds ∨ d = .tuple ds := by
  cases d <;> simp_all [seqOf]
def iE (f : FE) : FI := fun η => (f η).bind fun p => match seqOf p.1.val with
  | some ds => .ok (ds, p.2)
  | none => .bad
theorem itl_ok {K : PySem.W.Frag} {F H : Hp} {ds : List PyData} {a : Addr} {xs : List V} (q : SqL K F a xs) (rp : RpAll K F ds xs) : ItOk K inv0 F ds (Itl K a) where
  go := fun i Fk Hk hi sf sh _ => by
    have hl := rp.len
    exact ⟨xs, xs[i]'(by omega), sqL_mono sh (sqL_mono sf q), by simp [hl, hi]⟩
  stop := fun Fk Hk sf sh _ => ⟨xs, sqL_mono sh (sqL_mono sf q), by rw [rp.len]; exact Nat.le_refl _⟩
  yld := fun i d Fk Hk x H' hd sf sh _ y => by
    obtain ⟨e, y⟩ := y
    subst e
    obtain ⟨v, h1, h2⟩ := rp.get hd
    have := y xs (sqL_mono sh (sqL_mono sf q))
    rw [h1] at this; cases this
    exact ⟨Fk, .here sh (h2.mono sf)⟩
theorem itt_ok {K : PySem.W.Frag} {F H : Hp} {ds : List PyData} {a : Addr} {xs : List V} (q : SqT K F a xs) (rp : RpAll K F ds xs) : ItOk K inv0 F ds (Itt K a) where
  go := fun i Fk Hk hi sf sh _ => by
    have hl := rp.len
    exact ⟨xs, xs[i]'(by omega), sqT_mono sh (sqT_mono sf q), by simp [hl, hi]⟩
  stop := fun Fk Hk sf sh _ => ⟨xs, sqT_mono sh (sqT_mono sf q), by rw [rp.len]; exact Nat.le_refl _⟩
  yld := fun i d Fk Hk x H' hd sf sh _ y => by
    obtain ⟨e, y⟩ := y
    subst e
    obtain ⟨v, h1, h2⟩ := rp.get hd
    have := y xs (sqT_mono sh (sqT_mono sf q))
    rw [h1] at this; cases this
    exact ⟨Fk, .here sh (h2.mono sf)⟩
theorem pid_seq {tg e : Expr} {f : FE} (hK : C.K = X.K) (h : PE X e (tD C f)) : PI X tg e (tI C (iE f)) := by
  refine (pi_seq (tg := tg) h).impD fun σ H R ⟨η, F, fp, o, q⟩ => ?_
  refine tD_step o.aft (Rs.post_mono (Rs.post_bind q) (fun p hp x F1 H1 f1 fp1 a => ?_) fun _ _ z => z)
  split at hp
  · rename_i ds e
    obtain ⟨F2, a2, rp⟩ := a.freeze
    simp only [List.nil_append, T.vals, RpAll] at rp
    obtain ⟨x', xs, e1, r1, rfl⟩ := rp
    obtain rfl : x = x' := by simpa using e1
    rcases seqOf_eq e with e | e
    · rw [e] at r1
      simp only [Rp] at r1
      obtain ⟨p', xs, rfl, q1, w⟩ := r1
      refine ⟨p', xs, rfl, .inl ⟨by rw [← hK]; exact sqL_mono a2.fh q1, hp F2 H1 fp1 _ a2 ?_⟩⟩
      rw [← hK]
      exact itl_ok (H := H1) q1 w
    · rw [e] at r1
      simp only [Rp] at r1
      obtain ⟨p', xs, rfl, q1, w⟩ := r1
      refine ⟨p', xs, rfl, .inr ⟨by rw [← hK]; exact sqT_mono a2.fh q1, hp F2 H1 fp1 _ a2 ?_⟩⟩
      rw [← hK]
      exact itt_ok (H := H1) q1 w
  · exact hp.elim
/-- .. of a name -/
theorem pid_seqV {tg e : Expr} {i : Nat} (hK : C.K = X.K) (h : PE X e (tVar i)) : PI X tg e (tIV C i) := by
  refine (pi_seq (tg := tg) h).impD fun σ H R ⟨η, F, fp, d, ds, v, o, e, ed, hv, k⟩ => ?_
  obtain ⟨w, hw, rq⟩ := pk_rq o e
  obtain rfl : v = w := by rw [hv] at hw; cases hw; rfl
  refine ⟨v, hv, ?_⟩
  rcases ed with rfl | rfl
  · obtain ⟨a, xs, rfl, q, rp⟩ := rq_list o.fh rq
    refine ⟨a, xs, rfl, .inl ⟨by rw [← hK]; exact q, k _ ?_⟩⟩
    rw [← hK]
    refine ⟨fun i Fk Hk hi sf sh iv => ?_, fun Fk Hk sf sh iv => ?_, fun i d Fk Hk x H' hd sf sh iv y => ?_⟩
    · obtain ⟨a', xs', e', q', rp'⟩ := rq_list sh iv
      cases e'
      have hl := rp'.len
      exact ⟨xs', xs'[i]'(by omega), q', by simp [hl, hi]⟩
    · obtain ⟨a', xs', e', q', rp'⟩ := rq_list sh iv
      cases e'
      exact ⟨xs', q', by rw [rp'.len]; exact Nat.le_refl _⟩
    · obtain ⟨a', xs', e', q', rp'⟩ := rq_list sh iv
      cases e'
      obtain ⟨e, y⟩ := y
      subst e
      obtain ⟨v, h1, h2⟩ := rp'.get hd
      have := y xs' q'
      rw [h1] at this; cases this
      exact ⟨Fk, .here sh h2⟩
  · obtain ⟨a, xs, rfl, q, rp⟩ := rq_tup rq
    refine ⟨a, xs, rfl, .inr ⟨by rw [← hK]; exact sqT_mono o.fh q, k _ ?_⟩⟩
    rw [← hK]
    have w := itt_ok (H := H) q rp
    exact ⟨fun i Fk Hk hi sf sh _ => w.go i Fk Hk hi sf sh trivial, fun Fk Hk sf sh _ => w.stop Fk Hk sf sh trivial, fun i d Fk Hk x H' hd sf sh _ y => w.yld i d Fk Hk x H' hd sf sh trivial y⟩
/-! range -/
def rg62 (i : Int) : Bool := decide (-1000000000 ≤ i) && decide (i ≤ 1000000000)
def iR1 (f : FE) : FI := fun η => (f η).bind fun p => match p.1 with
  | .sh (.int j) => if rg62 j then .ok (rgD 0 j, p.2) else .bad
  | _ => .bad
def iR2 (f g : FE) : FI := fun η => (f η).bind fun p => (g p.2).bind fun q => match p.1, q.1 with
  | .sh (.int i), .sh (.int j) => if rg62 i && rg62 j then .ok (rgD i j, q.2) else .bad
  | _, _ => .bad
theorem itr_ok {K : PySem.W.Frag} {F : Hp} (i j : Int) : ItOk K inv0 F (rgD i j) (Itr i (j - i).toNat) where
  go := fun k Fk Hk hk _ _ _ => by
    show k < (j - i).toNat
    simpa [rgD] using hk
  stop := fun Fk Hk _ _ _ => by
    show (j - i).toNat ≤ (rgD i j).length
    simp [rgD]
  yld := fun k d Fk Hk x H' hd sf sh _ y => by
    obtain ⟨e, y⟩ := y
    subst e y
    refine ⟨Fk, .here sh ?_⟩
    unfold rgD at hd
    rw [List.getElem?_map] at hd
    cases e : (List.range (j - i).toNat)[k]? with
    | none => rw [e] at hd; cases hd
    | some m =>
      rw [e] at hd
      cases hd
      have : m = k := by
        obtain ⟨h1, h2⟩ := List.getElem?_eq_some_iff.mp e
        simpa using h2.symm
      subst this
      exact rp_c.1
theorem rg62_ok {i : Int} (h : rg62 i = true) : -(2 ^ 62) ≤ i ∧ i < 2 ^ 62 := by
  unfold rg62 at h
  simp only [Bool.and_eq_true, decide_eq_true_eq] at h
  have e : (2 : Int) ^ 62 = 4611686018427387904 := by decide
  rw [e]
  omega
theorem pid_r1 {tg e : Expr} {f : FE} (h : PI X tg e (iRng1 (tCons (tD C f) tNil))) : PI X tg e (tI C (iR1 f)) := by
  refine h.impD fun σ H R ⟨η, F, fp, o, q⟩ => ?_
  refine tD_step o.aft (Rs.post_mono (Rs.post_bind q) (fun p hp x F1 H1 f1 fp1 a => ?_) fun _ _ z => z)
  have a : Aft C.K fp F H σ [p.1] [x] p.2 F1 H1 f1 fp1 := a
  split at hp
  · rename_i j e
    rw [e] at a
    split at hp
    · rename_i hr
      obtain ⟨rfl, rfl⟩ := rt_int a.rt1
      obtain ⟨h1, h2⟩ := rg62_ok hr
      refine ⟨j, rfl, h1, h2, hp F1 H1 fp1 _ a.drop ?_⟩
      have := itr_ok (K := C.K) (F := F1) 0 j
      simpa using this
    · exact hp.elim
  · exact hp.elim
theorem pid_r2 {tg e : Expr} {f g : FE} (h : PI X tg e (iRng2 (tCons (tD C f) (tCons (tD C g) tNil)))) : PI X tg e (tI C (iR2 f g)) := by
  refine h.impD fun σ H R ⟨η, F, fp, o, q⟩ => ?_
  refine tD_step o.aft (Rs.post_mono (Rs.post_bind q) (fun p hp x F1 H1 f1 fp1 a => ?_) fun _ _ z => z)
  refine tD_step a (Rs.post_mono (Rs.post_bind hp) (fun p2 hp2 y F2 H2 f2 fp2 b => ?_) fun _ _ z => z)
  have b : Aft C.K fp F H σ [p.1, p2.1] [x, y] p2.2 F2 H2 f2 fp2 := b
  split at hp2
  · rename_i i j e1 e2
    split at hp2
    · rename_i hr
      simp only [Bool.and_eq_true] at hr
      obtain ⟨g1, g2, rfl, r1, r2⟩ := b.rt2
      rw [e1] at r1
      rw [e2] at r2
      obtain ⟨rfl, rfl⟩ := rt_int r1
      obtain ⟨rfl, rfl⟩ := rt_int r2
      obtain ⟨h1, h2⟩ := rg62_ok hr.1
      obtain ⟨h3, h4⟩ := rg62_ok hr.2
      exact ⟨i, j, rfl, ⟨h1, h2, h3, h4⟩, hp2 F2 H2 fp2 _ b.drop (itr_ok i j)⟩
    · exact hp2.elim
  · exact hp2.elim
/-! enumerate, zip: pairs -/
def enumD : Nat → List PyData → List PyData
  | _, [] => []
  | n, d :: ds => .tuple [.int n, d] :: enumD (n + 1) ds
theorem enumD_len : ∀ (n : Nat) (ds : List PyData), (enumD n ds).length = ds.length
  | _, [] => rfl
  | n, d :: ds => by simp [enumD, enumD_len (n + 1) ds]
theorem enumD_get : ∀ (n : Nat) (ds : List PyData) (i : Nat) (e : PyData), (enumD n ds)[i]? = some e → ∃ d, ds[i]? = some d ∧ e = .tuple [.int ((n + i : Nat) : Int), d]
  | _, [], i, e, h => by simp [enumD] at h
  | n, d :: ds, 0, e, h => by
    simp only [enumD, List.getElem?_cons_zero, Option.some.injEq] at h
    exact ⟨d, rfl, h.symm⟩
  | n, d :: ds, i + 1, e, h => by
    simp only [enumD, List.getElem?_cons_succ] at h
    obtain ⟨d', h1, h2⟩ := enumD_get (n + 1) ds i e h
    refine ⟨d', by simpa using h1, ?_⟩
    rw [h2]
    congr 3
    omega
def zipD : List PyData → List PyData → List PyData
  | a :: as, b :: bs => .tuple [a, b] :: zipD as bs
  | _, _ => []
theorem zipD_len : ∀ (as bs : List PyData), (zipD as bs).length = min as.length bs.length
  | [], _ => by simp [zipD]
  | _ :: _, [] => by simp [zipD]
  | a :: as, b :: bs => by
    simp [zipD, zipD_len as bs]
theorem zipD_get : ∀ (as bs : List PyData) (i : Nat) (e : PyData), (zipD as bs)[i]? = some e → ∃ a b, as[i]? = some a ∧ bs[i]? = some b ∧ e = .tuple [a, b]
  | [], _, i, e, h => by simp [zipD] at h
  | _ :: _, [], i, e, h => by simp [zipD] at h
  | a :: as, b :: bs, 0, e, h => by
    simp only [zipD, List.getElem?_cons_zero, Option.some.injEq] at h
    exact ⟨a, b, rfl, rfl, h.symm⟩
  | a :: as, b :: bs, i + 1, e, h => by
    simp only [zipD, List.getElem?_cons_succ] at h
    obtain ⟨a', b', h1, h2, h3⟩ := zipD_get as bs i e h
    exact ⟨a', b', by simpa using h1, by simpa using h2, h3⟩
/-- a list or a tuple, read -/
def Sq (K : PySem.W.Frag) (F : Hp) (ds : List PyData) (a : Addr) (xs : List V) (l : Bool) : Prop := RpAll K F ds xs ∧ (if l then SqL K F a xs else SqT K F a xs)
theorem pair_new {K : PySem.W.Frag} {Fk Hk : Hp} {d e : PyData} {x y : V} {p : Addr} (sh : Same Fk Hk) (h1 : Rp K Fk d x) (h2 : Rp K Fk e y) (hp : Hk p = none) : ∃ F2, ResOk K Fk Hk (.sh (.tuple [d, e])) (.ref p) F2 (upd Hk p (.tup [x, y])) [] :=
  ⟨_, .tup sh (.consI h1 (.one h2)) hp⟩
theorem ite_ok {K : PySem.W.Frag} {F : Hp} {ds : List PyData} {a : Addr} {xs : List V} (q : SqL K F a xs) (rp : RpAll K F ds xs) : ItOk K inv0 F (enumD 0 ds) (Ite K a) where
  go := fun i Fk Hk hi sf sh _ => by
    have hl := rp.len
    rw [enumD_len] at hi
    exact ⟨xs, xs[i]'(by omega), sqL_mono sh (sqL_mono sf q), by simp [hl, hi]⟩
  stop := fun Fk Hk sf sh _ => ⟨xs, sqL_mono sh (sqL_mono sf q), by rw [enumD_len, rp.len]; exact Nat.le_refl _⟩
  yld := fun i d Fk Hk x H' hd sf sh _ y => by
    obtain ⟨p, u, rfl, hp, rfl, y⟩ := y
    obtain ⟨d', h1, rfl⟩ := enumD_get _ _ _ _ hd
    obtain ⟨v, h2, h3⟩ := rp.get h1
    have := y xs (sqL_mono sh (sqL_mono sf q))
    rw [h2] at this; cases this
    rw [Nat.zero_add]
    exact pair_new sh rp_c.1 (h3.mono sf) hp
theorem iteT_ok {K : PySem.W.Frag} {F : Hp} {ds : List PyData} {a : Addr} {xs : List V} (q : SqT K F a xs) (rp : RpAll K F ds xs) : ItOk K inv0 F (enumD 0 ds) (IteT K a) where
  go := fun i Fk Hk hi sf sh _ => by
    have hl := rp.len
    rw [enumD_len] at hi
    exact ⟨xs, xs[i]'(by omega), sqT_mono sh (sqT_mono sf q), by simp [hl, hi]⟩
  stop := fun Fk Hk sf sh _ => ⟨xs, sqT_mono sh (sqT_mono sf q), by rw [enumD_len, rp.len]; exact Nat.le_refl _⟩
  yld := fun i d Fk Hk x H' hd sf sh _ y => by
    obtain ⟨p, u, rfl, hp, rfl, y⟩ := y
    obtain ⟨d', h1, rfl⟩ := enumD_get _ _ _ _ hd
    obtain ⟨v, h2, h3⟩ := rp.get h1
    have := y xs (sqT_mono sh (sqT_mono sf q))
    rw [h2] at this; cases this
    rw [Nat.zero_add]
    exact pair_new sh rp_c.1 (h3.mono sf) hp
def iEn (f : FE) : FI := fun η => (f η).bind fun p => match seqOf p.1.val with
  | some ds => .ok (enumD 0 ds, p.2)
  | none => .bad
theorem pid_enum {tg e : Expr} {f : FE} (hK : C.K = X.K) (h : PI X tg e (iEnumA X.K (tCons (tD C f) tNil))) : PI X tg e (tI C (iEn f)) := by
  refine h.impD fun σ H R ⟨η, F, fp, o, q⟩ => ?_
  refine tD_step o.aft (Rs.post_mono (Rs.post_bind q) (fun p hp x F1 H1 f1 fp1 a => ?_) fun _ _ z => z)
  split at hp
  · rename_i ds e
    obtain ⟨F2, a2, rp⟩ := a.freeze
    simp only [List.nil_append, T.vals, RpAll] at rp
    obtain ⟨x', xs, e1, r1, rfl⟩ := rp
    obtain rfl : x = x' := by simpa using e1
    rcases seqOf_eq e with e | e
    · rw [e] at r1
      simp only [Rp] at r1
      obtain ⟨p', xs, rfl, q1, w⟩ := r1
      refine ⟨p', xs, rfl, .inl ⟨by rw [← hK]; exact sqL_mono a2.fh q1, hp F2 H1 fp1 _ a2 ?_⟩⟩
      rw [← hK]
      exact ite_ok q1 w
    · rw [e] at r1
      simp only [Rp] at r1
      obtain ⟨p', xs, rfl, q1, w⟩ := r1
      refine ⟨p', xs, rfl, .inr ⟨by rw [← hK]; exact sqT_mono a2.fh q1, hp F2 H1 fp1 _ a2 ?_⟩⟩
      rw [← hK]
      exact iteT_ok q1 w
  · exact hp.elim
theorem itz_ok {K : PySem.W.Frag} {F : Hp} {ds es : List PyData} {a b : Addr} {xs ys : List V} (q : SqL K F a xs) (rp : RpAll K F ds xs) (q2 : SqL K F b ys) (rp2 : RpAll K F es ys) : ItOk K inv0 F (zipD ds es) (Itz K a b) where
  go := fun i Fk Hk hi sf sh _ => by
    have hl := rp.len
    have hl2 := rp2.len
    rw [zipD_len] at hi
    exact ⟨xs, ys, xs[i]'(by omega), ys[i]'(by omega), sqL_mono sh (sqL_mono sf q), sqL_mono sh (sqL_mono sf q2), List.getElem?_eq_getElem _, List.getElem?_eq_getElem _⟩
  stop := fun Fk Hk sf sh _ => ⟨xs, ys, sqL_mono sh (sqL_mono sf q), sqL_mono sh (sqL_mono sf q2), by rw [zipD_len, rp.len, rp2.len]; omega⟩
  yld := fun i d Fk Hk x H' hd sf sh _ y => by
    obtain ⟨p, u, u2, rfl, hp, rfl, y, y2⟩ := y
    obtain ⟨d', e', h1, h1', rfl⟩ := zipD_get _ _ _ _ hd
    obtain ⟨v, h2, h3⟩ := rp.get h1
    obtain ⟨v2, h4, h5⟩ := rp2.get h1'
    have := y xs (sqL_mono sh (sqL_mono sf q))
    rw [h2] at this; cases this
    have := y2 ys (sqL_mono sh (sqL_mono sf q2))
    rw [h4] at this; cases this
    exact pair_new sh (h3.mono sf) (h5.mono sf) hp
theorem itzT_ok {K : PySem.W.Frag} {F : Hp} {ds es : List PyData} {a b : Addr} {xs ys : List V} (q : SqT K F a xs) (rp : RpAll K F ds xs) (q2 : SqT K F b ys) (rp2 : RpAll K F es ys) : ItOk K inv0 F (zipD ds es) (ItzT K a b) where
  go := fun i Fk Hk hi sf sh _ => by
    have hl := rp.len
    have hl2 := rp2.len
    rw [zipD_len] at hi
    exact ⟨xs, ys, xs[i]'(by omega), ys[i]'(by omega), sqT_mono sh (sqT_mono sf q), sqT_mono sh (sqT_mono sf q2), List.getElem?_eq_getElem _, List.getElem?_eq_getElem _⟩
  stop := fun Fk Hk sf sh _ => ⟨xs, ys, sqT_mono sh (sqT_mono sf q), sqT_mono sh (sqT_mono sf q2), by rw [zipD_len, rp.len, rp2.len]; omega⟩
  yld := fun i d Fk Hk x H' hd sf sh _ y => by
    obtain ⟨p, u, u2, rfl, hp, rfl, y, y2⟩ := y
    obtain ⟨d', e', h1, h1', rfl⟩ := zipD_get _ _ _ _ hd
    obtain ⟨v, h2, h3⟩ := rp.get h1
    obtain ⟨v2, h4, h5⟩ := rp2.get h1'
    have := y xs (sqT_mono sh (sqT_mono sf q))
    rw [h2] at this; cases this
    have := y2 ys (sqT_mono sh (sqT_mono sf q2))
    rw [h4] at this; cases this
    exact pair_new sh (h3.mono sf) (h5.mono sf) hp
/-- lists or tuples -/
def iZ (f g : FE) : FI := fun η => (f η).bind fun p => (g p.2).bind fun q => match seqOf p.1.val, seqOf q.1.val with
  | some ds, some es => .ok (zipD ds es, q.2)
  | _, _ => .bad
end Pv
set_option Elab.async false
set_option linter.all false
set_option maxRecDepth 100000
set_option maxHeartbeats 4000000
namespace Pv
open PySem L2
variable {X : Cx} {C : Cn} {io : List Nat}

def Cont (C : Cn) (io : List Nat) (fp : List Addr) (F H : Hp) (σ : St) (D : Ends) (p : Fl × Env) : Prop := match p.1 with
  | .nx => ∀ σ' F' H' fp', Aft C.K fp F H σ' [] [] p.2 F' H' [] fp' → IO io σ σ' → D.nx σ' H'
  | .bk => ∀ σ' F' H' fp', Aft C.K fp F H σ' [] [] p.2 F' H' [] fp' → IO io σ σ' → D.bk σ' H'
  | .ct => ∀ σ' F' H' fp', Aft C.K fp F H σ' [] [] p.2 F' H' [] fp' → IO io σ σ' → D.ct σ' H'
  | .ret t => ∀ v σ' F' H' f1 fp', Aft C.K fp F H σ' [t] [v] p.2 F' H' f1 fp' → IO io σ σ' → D.rt v H'
theorem tS_def {f : FS} {D : Ends} {σ : St} {H : Hp} : tS C io f D σ H ↔ ∃ η F fp, Ok C.K F H η σ fp ∧ (f η).post (Cont C io fp F H σ D) (XPS C fp F H) := Iff.rfl
theorem Cont.back {fp fp1 : List Addr} {F H F1 H1 : Hp} {σ σ1 : St} {η1 : Env} {D : Ends} (a : Aft C.K fp F H σ1 [] [] η1 F1 H1 [] fp1) (hio : IO io σ σ1) {p : Fl × Env} (h : Cont C io fp F H σ D p) : Cont C io fp1 F1 H1 σ1 D p := by
  unfold Cont at h ⊢
  revert h
  cases p.1 with
  | nx => exact fun hp σ' F' H' fp' b i => hp σ' F' H' fp' (a.thn b) (hio.trans i)
  | bk => exact fun hp σ' F' H' fp' b i => hp σ' F' H' fp' (a.thn b) (hio.trans i)
  | ct => exact fun hp σ' F' H' fp' b i => hp σ' F' H' fp' (a.thn b) (hio.trans i)
  | ret t => exact fun hp v σ' F' H' f1 fp' b i => hp v σ' F' H' f1 fp' (a.thn b) (hio.trans i)
/-! ### equality that can be run -/
mutual
def deq : PyData → PyData → Bool
  | .none, .none => true
  | .bool a, .bool b => a == b
  | .int a, .int b => a == b
  | .str a, .str b => decide (a = b)
  | .list a, .list b => deqs a b
  | .tuple a, .tuple b => deqs a b
  | .dict a, .dict b => deqk a b
  | _, _ => false
def deqs : List PyData → List PyData → Bool
  | [], [] => true
  | a :: as, b :: bs => deq a b && deqs as bs
  | _, _ => false
def deqk : List (PyData × PyData) → List (PyData × PyData) → Bool
  | [], [] => true
  | (a, x) :: as, (b, y) :: bs => deq a b && (deq x y && deqk as bs)
  | _, _ => false
end
mutual
theorem deq_eq : ∀ {a b : PyData}, deq a b = true → a = b
  | .none, b, h => by cases b <;> simp_all [deq]
  | .bool a, b, h => by cases b <;> simp_all [deq]
  | .int a, b, h => by cases b <;> simp_all [deq]
  | .str a, b, h => by cases b <;> simp_all [deq]
  | .list a, b, h => by
    cases b <;> simp [deq] at h
    exact congrArg _ (deqs_eq h)
  | .tuple a, b, h => by
    cases b <;> simp [deq] at h
    exact congrArg _ (deqs_eq h)
  | .dict a, b, h => by
    cases b <;> simp [deq] at h
    exact congrArg _ (deqk_eq h)
theorem deqs_eq : ∀ {a b : List PyData}, deqs a b = true → a = b
  | [], b, h => by cases b <;> simp_all [deqs]
  | a :: as, b, h => by
    cases b with
    | nil => simp [deqs] at h
    | cons b bs =>
      simp [deqs] at h
      rw [deq_eq h.1, deqs_eq h.2]
theorem deqk_eq : ∀ {a b : List (PyData × PyData)}, deqk a b = true → a = b
  | [], b, h => by cases b <;> simp_all [deqk]
  | (a, x) :: as, b, h => by
    cases b with
    | nil => simp [deqk] at h
    | cons b bs =>
      obtain ⟨b, y⟩ := b
      simp [deqk] at h
      rw [deq_eq h.1, deq_eq h.2.1, deqk_eq h.2.2]
end
mutual
theorem deq_refl : ∀ a : PyData, deq a a = true
  | .none => by simp [deq]
  | .bool a => by simp [deq]
  | .int a => by simp [deq]
  | .str a => by simp [deq]
  | .list a => by simp [deq, deqs_refl a]
  | .tuple a => by simp [deq, deqs_refl a]
  | .dict a => by simp [deq, deqk_refl a]
theorem deqs_refl : ∀ a : List PyData, deqs a a = true
  | [] => by simp [deqs]
  | a :: as => by simp [deqs, deq_refl a, deqs_refl as]
theorem deqk_refl : ∀ a : List (PyData × PyData), deqk a a = true
  | [] => by simp [deqk]
  | (a, x) :: as => by simp [deqk, deq_refl a, deq_refl x, deqk_refl as]
end
def pkIs (i : Nat) (d : PyData) (η : Env) : Bool := match pk η i with
  | some e => deq e d
  | none => false
theorem pkIs_eq {i : Nat} {d : PyData} {η : Env} (h : pkIs i d η = true) : pk η i = some d := by
  unfold pkIs at h
  split at h
  · rename_i e e1
    rw [e1, deq_eq h]
  · cases h
theorem pkIs_of {i : Nat} {d : PyData} {η : Env} (h : pk η i = some d) : pkIs i d η = true := by
  unfold pkIs
  rw [h]
  exact deq_refl d
/-! ### for -/
/-- the turns; chk: what must stand behind each -/
def loopF (chk : Env → Bool) (tgt : FG) (body : FS) : List PyData → Env → Rs (Fl × Env)
  | [], η => .ok (.nx, η)
  | d :: ds, η => (tgt (.sh d) η).bind fun η1 => (body η1).bind fun p => match p.1 with
    | .ret t => .ok (.ret t, p.2)
    | .bk => .ok (.nx, p.2)
    | _ => if chk p.2 then loopF chk tgt body ds p.2 else .bad
theorem IO.sub {io' : List Nat} {σ σ' : St} (s : ∀ j ∈ io, j ∈ io') (h : IO io' σ σ') : IO io σ σ' := fun j hj => h j (s j hj)
theorem for_core {inv : Hp → Hp → Prop} {chk : Env → Bool} {tgt : FG} {body : FS} {io' ws : List Nat} {F1 H1 : Hp} {σ0 : St} {η1 : Env} {fp1 : List Addr} {ds : List PyData} {J : It} {D : Ends} (o : Ok C.K F1 H1 η1 σ0 fp1) (it : ItOk C.K inv F1 ds J)
    (hinv : ∀ ηk σk Fk Hk fpk, Ok C.K Fk Hk ηk σk fpk → IO io' σ0 σk → chk ηk → inv Fk Hk) (hs : ∀ j ∈ io, j ∈ io') (hd : ∀ j ∈ io', j ∉ ws) (h0 : chk η1) (q : (loopF chk tgt body ds η1).post (Cont C io fp1 F1 H1 σ0 D) (XPS C fp1 F1 H1)) :
    ∃ W : Nat → Nat → St → Hp → Prop, (∃ m, W 0 m σ0 H1) ∧ ∀ i m σ H, W i m σ H →
      (J.stop i H ∧ D.nx σ H) ∨ (J.go i H ∧ ∃ N : St → Hp → Prop, (∀ σ' H', N σ' H' → ∃ m', m' < m ∧ W (i + 1) m' σ' H') ∧ ∀ x H', J.yld i H x H' → tG C ws tgt x σ H' fun σ2 H2 => tS C io' body { D with nx := N, ct := N, bk := D.nx } σ2 H2) := by
  refine ⟨fun i m σk Hk => ∃ ηk Fk fpk, Aft C.K fp1 F1 H1 σk [] [] ηk Fk Hk [] fpk ∧ IO io' σ0 σk ∧ chk ηk ∧ m = ds.length - i ∧ i ≤ ds.length ∧ (loopF chk tgt body (ds.drop i) ηk).post (Cont C io fp1 F1 H1 σ0 D) (XPS C fp1 F1 H1),
    ⟨ds.length, η1, F1, fp1, o.aft, .refl, h0, rfl, Nat.zero_le _, q⟩, ?_⟩
  rintro i m σk Hk ⟨ηk, Fk, fpk, a, hio, hc, rfl, hi, q⟩
  have iv := hinv ηk σk Fk Hk fpk a.ok hio hc
  by_cases hlt : i < ds.length
  · refine .inr ⟨it.go i Fk Hk hlt a.ext.ff a.fh iv, fun σ' H' => ∃ η' F' fp', Aft C.K fp1 F1 H1 σ' [] [] η' F' H' [] fp' ∧ IO io' σ0 σ' ∧ chk η' ∧ (loopF chk tgt body (ds.drop (i + 1)) η').post (Cont C io fp1 F1 H1 σ0 D) (XPS C fp1 F1 H1),
      fun σ' H' ⟨η', F', fp', h1, h2, h3, h4⟩ => ⟨ds.length - (i + 1), by omega, η', F', fp', h1, h2, h3, rfl, hlt, h4⟩, fun x H' y => ?_⟩
    have hd' : ds[i]? = some ds[i] := List.getElem?_eq_getElem hlt
    obtain ⟨F2, r⟩ := it.yld i _ Fk Hk x H' hd' a.ext.ff a.fh iv y
    have b : Aft C.K fp1 F1 H1 σk [.sh ds[i]] [x] ηk F2 H' [] fpk := a.res r
    rw [List.drop_eq_getElem_cons hlt] at q
    unfold loopF at q
    refine ⟨ηk, F2, fpk, .sh ds[i], [], b.self, Rs.post_mono (Rs.post_bind q) (fun η2 hq σ2 F3 H3 fp3 c ch => ?_) fun _ _ z => z.back' b⟩
    have c2 : Aft C.K fp1 F1 H1 σ2 [] [] η2 F3 H3 [] fp3 := b.thn c
    have io2 : IO io' σ0 σ2 := hio.trans (ch.toIO hd)
    refine tS_def.mpr ⟨η2, F3, fp3, c2.ok, Rs.post_mono (Rs.post_bind hq) (fun p hp => ?_) fun _ _ z => z.back c2⟩
    unfold Cont
    revert hp
    cases e : p.1 with
    | nx =>
      dsimp only
      intro hp σ' F' H' fp' g gi
      split at hp
      · rename_i hck
        exact ⟨p.2, F', fp', c2.thn g, io2.trans gi, hck, hp⟩
      · exact hp.elim
    | ct =>
      dsimp only
      intro hp σ' F' H' fp' g gi
      split at hp
      · rename_i hck
        exact ⟨p.2, F', fp', c2.thn g, io2.trans gi, hck, hp⟩
      · exact hp.elim
    | bk =>
      dsimp only
      intro hp σ' F' H' fp' g gi
      exact hp σ' F' H' fp' (c2.thn g) (IO.sub hs (io2.trans gi))
    | ret t =>
      dsimp only
      intro hp v σ' F' H' f1 fp' g gi
      exact hp v σ' F' H' f1 fp' (c2.thn g) (IO.sub hs (io2.trans gi))
  · have e : i = ds.length := by omega
    subst e
    rw [List.drop_length] at q
    exact .inl ⟨it.stop Fk Hk a.ext.ff a.fh iv, q σk Fk Hk fpk a (IO.sub hs hio)⟩
def sFor (fi : FI) (tgt : FG) (body : FS) : FS := fun η => (fi η).bind fun p => loopF (fun _ => true) tgt body p.1 p.2
def sForV (i : Nat) (tgt : FG) (body : FS) : FS := fun η => match pk η i with
  | some d => match seqOf d with
    | some ds => loopF (pkIs i d) tgt body ds η
    | none => .bad
  | none => .bad
theorem psd_for {st : Stmt} {fi : FI} {tgt : FG} {body : FS} {ws : List Nat} (hd : ∀ j ∈ io, j ∉ ws) (p : PS X st (tFor (tI C fi) (tG C ws tgt) (tS C io body))) : PS X st (tS C io (sFor fi tgt body)) := by
  refine p.impD fun D σ H ⟨η, F, fp, o, q⟩ => ?_
  refine ⟨η, F, fp, o, Rs.post_mono (Rs.post_bind q) (fun p hp F' H' fp' J a it => ?_) fun _ _ z => z.xp⟩
  exact for_core (io' := io) (inv := inv0) a.ok it (fun _ _ _ _ _ _ _ _ => trivial) (fun _ h => h) hd rfl (Rs.post_mono hp (fun p hp => Cont.back a .refl hp) fun _ _ z => z.back a)
theorem psd_forV {st : Stmt} {i : Nat} {tgt : FG} {body : FS} {ws : List Nat} (hd : ∀ j ∈ i :: io, j ∉ ws) (p : PS X st (tFor (tIV C i) (tG C ws tgt) (tS C (i :: io) body))) : PS X st (tS C io (sForV i tgt body)) := by
  refine p.impD fun D σ H ⟨η, F, fp, o, q⟩ => ?_
  unfold sForV at q
  split at q
  · rename_i d e
    split at q
    · rename_i ds e2
      obtain ⟨v, hv, rq⟩ := pk_rq o e
      refine ⟨η, F, fp, d, ds, v, o, e, seqOf_eq e2, hv, fun J it => ?_⟩
      refine for_core (io' := i :: io) o it (fun ηk σk Fk Hk fpk ok hio hc => ?_) (fun j hj => List.mem_cons_of_mem _ hj) hd (pkIs_of e) q
      obtain ⟨w, hw, rq⟩ := pk_rq ok (pkIs_eq hc)
      have := hio i List.mem_cons_self
      rw [hw, hv] at this
      cases this
      exact rq
    · exact q.elim
  · exact q.elim
/-! ### while -/
def loopW (c : FB) (body : FS) : Nat → Env → Rs (Fl × Env)
  | 0, _ => .bad
  | n + 1, η => (c η).bind fun b => if b.1 then (body b.2).bind fun p => match p.1 with
      | .ret t => .ok (.ret t, p.2)
      | .bk => .ok (.nx, p.2)
      | _ => loopW c body n p.2
    else .ok (.nx, b.2)
def sWhile (n : Nat) (c : FB) (body : FS) : FS := loopW c body n
theorem psd_while {st : Stmt} {n : Nat} {c : FB} {body : FS} (p : PS X st (tWhile (tB C c) (tS C io body))) : PS X st (tS C io (sWhile n c body)) := by
  refine p.impD fun D σ H ⟨η, F, fp, o, q⟩ => ?_
  refine ⟨fun m σk Hk => ∃ ηk Fk fpk, Aft C.K fp F H σk [] [] ηk Fk Hk [] fpk ∧ IO io σ σk ∧ (loopW c body m ηk).post (Cont C io fp F H σ D) (XPS C fp F H), ⟨n, η, F, fp, o.aft, .refl, q⟩, ?_⟩
  rintro m σk Hk ⟨ηk, Fk, fpk, a, hio, q⟩
  cases m with
  | zero => exact q.elim
  | succ m =>
    unfold loopW at q
    refine tB_step a.ok.aft (Rs.post_mono (Rs.post_bind q) (fun b hb F1 H1 f1 fp1 g => ?_) fun _ _ z => (z.back a).xp)
    have hf : f1 = [] := by have := g.rt; simp only [RTs] at this; exact this.2
    subst hf
    have a1 : Aft C.K fp F H σk [] [] b.2 F1 H1 [] fp1 := a.thn g
    cases e : b.1 with
    | true =>
      rw [e, if_pos rfl] at hb
      rw [if_pos rfl]
      refine ⟨fun σ' H' => ∃ η' F' fp', Aft C.K fp F H σ' [] [] η' F' H' [] fp' ∧ IO io σ σ' ∧ (loopW c body m η').post (Cont C io fp F H σ D) (XPS C fp F H), fun σ' H' w => ⟨m, Nat.lt_succ_self _, w⟩, ?_⟩
      refine tS_def.mpr ⟨b.2, F1, fp1, a1.ok, Rs.post_mono (Rs.post_bind hb) (fun p hp => ?_) fun _ _ z => z.back a1⟩
      unfold Cont
      revert hp
      cases e2 : p.1 with
      | nx => exact fun hp σ' F' H' fp' g gi => ⟨p.2, F', fp', a1.thn g, hio.trans gi, hp⟩
      | ct => exact fun hp σ' F' H' fp' g gi => ⟨p.2, F', fp', a1.thn g, hio.trans gi, hp⟩
      | bk => exact fun hp σ' F' H' fp' g gi => hp σ' F' H' fp' (a1.thn g) (hio.trans gi)
      | ret t => exact fun hp v σ' F' H' f1 fp' g gi => hp v σ' F' H' f1 fp' (a1.thn g) (hio.trans gi)
    | false =>
      rw [e, if_neg Bool.false_ne_true] at hb
      rw [if_neg Bool.false_ne_true]
      exact hb σk F1 H1 fp1 a1 hio
end Pv
set_option Elab.async false
set_option linter.all false
set_option maxRecDepth 100000
set_option maxHeartbeats 4000000
namespace Pv
open PySem L2
variable {X : Cx} {C C' : Cn}

/-! ### comprehensions -/
def wipeE (η : Env) : List Nat → Env
  | [] => η
  | v :: vs => (wipeE η vs).set v none
/-- no own slot holds a list of its own -/
def free1 (η : Env) (v : Nat) : Bool := match η[v]? with
  | some (some (.lst _)) => false
  | _ => true
def ownFree (η : Env) (own : List Nat) : Bool := own.all (free1 η)
def backE (η1 : Env) : List Nat → Env → Env
  | [], η => η
  | v :: vs, η => backE η1 vs (η.set v (η1[v]?.join))
def Rs.noX {α : Type} : Rs α → Rs α
  | .exc _ _ => .bad
  | r => r
theorem Rs.noX_post {α : Type} {r : Rs α} {P : α → Prop} {E E' : Ex → Env → Prop} (h : r.noX.post P E) : r.post P E' := by
  cases r with
  | ok a => exact h
  | exc e η => exact h.elim
  | bad => exact h
@[simp] theorem Rs.noX_ok {α : Type} (a : α) : (Rs.ok a).noX = .ok a := rfl
/-- the turns of [elt for tgt in .. if cond] -/
def loopC (chk : Env → Bool) (own : List Nat) (tgt : FG) (cond : FB) (elt : FE) : List PyData → Env → Rs (List T × Env)
  | [], η => .ok ([], η)
  | d :: ds, η => (tgt (.sh d) η).noX.bind fun η1 => (cond η1).noX.bind fun b => if b.1 then (elt b.2).noX.bind fun p => if ownFree p.2 own = true ∧ chk (wipeE p.2 own) then (loopC chk own tgt cond elt ds (wipeE p.2 own)).bind fun q => .ok (p.1 :: q.1, q.2) else .bad
    else if ownFree b.2 own = true ∧ chk (wipeE b.2 own) then loopC chk own tgt cond elt ds (wipeE b.2 own) else .bad
def bTrue : FB := fun η => .ok (true, η)
def eComp (own : List Nat) (fi : FI) (tgt : FG) (cond : FB) (elt : FE) : FE := fun η => (fi η).bind fun p => if ownFree p.2 own && line p.1.length then (loopC (fun _ => true) own tgt cond elt p.1 (wipeE p.2 own)).bind fun q => .ok (.lst q.1, backE p.2 own q.2) else .bad
def eCompV (own : List Nat) (i : Nat) (tgt : FG) (cond : FB) (elt : FE) : FE := fun η => match pk η i with
  | some d => match seqOf d with
    | some ds => if ownFree η own && line ds.length && !own.contains i then (loopC (pkIs i d) own tgt cond elt ds (wipeE η own)).bind fun q => .ok (.lst q.1, backE η own q.2) else .bad
    | none => .bad
  | none => .bad

theorem wipe_get {σ : St} {j : Nat} : ∀ {vs : List Nat}, j ∉ vs → (wipe σ vs)[j]? = σ[j]?
  | [], _ => rfl
  | v :: vs, h => by
    rw [List.mem_cons, not_or] at h
    show ((wipe σ vs).set v none)[j]? = _
    rw [List.getElem?_set_ne (Ne.symm h.1), wipe_get h.2]
theorem wipe_in {σ : St} {j : Nat} : ∀ {vs : List Nat}, j ∈ vs → j < σ.length → (wipe σ vs)[j]? = some none
  | v :: vs, h, hl => by
    show ((wipe σ vs).set v none)[j]? = _
    by_cases e : v = j
    · subst e
      rw [List.getElem?_set_self (by rw [wipe_length]; exact hl)]
    · rw [List.getElem?_set_ne e]
      rcases List.mem_cons.mp h with z | z
      · exact absurd z.symm e
      · exact wipe_in z hl
theorem wipe_eq {σ σ' : St} {vs : List Nat} (hl : σ'.length = σ.length) (h : ∀ j, j ∉ vs → σ'[j]? = σ[j]?) : wipe σ' vs = wipe σ vs := by
  apply List.ext_getElem?
  intro j
  by_cases hj : j ∈ vs
  · by_cases hlt : j < σ.length
    · rw [wipe_in hj hlt, wipe_in hj (by omega)]
    · rw [List.getElem?_eq_none (by rw [wipe_length]; omega), List.getElem?_eq_none (by rw [wipe_length]; omega)]
  · rw [wipe_get hj, wipe_get hj, h j hj]
theorem wipe_wipe {σ : St} {vs : List Nat} : wipe (wipe σ vs) vs = wipe σ vs := wipe_eq (wipe_length σ vs) fun j hj => wipe_get hj
theorem wipeE_get {η : Env} {j : Nat} : ∀ {vs : List Nat}, j ∉ vs → (wipeE η vs)[j]? = η[j]?
  | [], _ => rfl
  | v :: vs, h => by
    rw [List.mem_cons, not_or] at h
    show ((wipeE η vs).set v none)[j]? = _
    rw [List.getElem?_set_ne (Ne.symm h.1), wipeE_get h.2]
/-- a slot without a list of its own is forgotten -/
theorem RS.wipe1 {K : PySem.W.Frag} {F H : Hp} {η : Env} {σ : St} {f : List Addr} (v : Nat) (s' : Option V) (h : RS K F H η σ f) (fr : free1 η v = true) : ∃ f', RS K F H (η.set v none) (σ.set v s') f' ∧ f'.Perm f := by
  by_cases hi : v < η.length
  · obtain ⟨s, g, r, h1, h2, h3, h4⟩ := h.focus hi
    obtain ⟨f', rs', pm⟩ := (h4 F H (.refl _) fun _ _ _ z => z).2 s'
    by_cases hn : ∃ t, η[v]? = some (some t)
    · obtain ⟨t, ht⟩ := hn
      obtain ⟨w, rfl, rt⟩ := h3 t ht
      cases t with
      | sh d =>
        simp only [RT] at rt
        obtain ⟨rfl, _⟩ := rt
        exact ⟨f', rs', pm.trans (by simpa using h2.symm)⟩
      | lst ts =>
        unfold free1 at fr
        rw [ht] at fr
        cases fr
    · have hv : η[v]? = some none := by
        cases e : η[v]? with
        | none => rw [List.getElem?_eq_none_iff] at e; omega
        | some o =>
          cases o with
          | none => rfl
          | some t => exact absurd ⟨t, e⟩ hn
      have e1 : η.set v none = η := set_self hv
      have : ∃ f'', RS K F H (η.set v none) (σ.set v s') f'' ∧ f''.Perm f := by
        rw [e1]
        -- the slot was forgotten already: any value of σ there will do
        clear h1 h2 h3 h4 rs' pm hn fr hi e1
        induction η generalizing σ f v with
        | nil => simp at hv
        | cons o η ih =>
          cases v with
          | zero =>
            simp at hv
            subst hv
            simp only [RS] at h ⊢
            obtain ⟨s, σ', rfl, h⟩ := h
            exact ⟨f, ⟨s', σ', rfl, h⟩, .refl _⟩
          | succ v =>
            cases o with
            | none =>
              simp only [RS] at h ⊢
              obtain ⟨s, σ', rfl, h⟩ := h
              obtain ⟨f2, h2, p2⟩ := ih v h (by simpa using hv)
              exact ⟨f2, ⟨s, _, rfl, h2⟩, p2⟩
            | some t =>
              simp only [RS] at h ⊢
              obtain ⟨w, σ', f1, f2, rfl, rfl, r1, h⟩ := h
              obtain ⟨f3, h3, p3⟩ := ih v h (by simpa using hv)
              exact ⟨f1 ++ f3, ⟨w, _, f1, f3, rfl, rfl, r1, h3⟩, p3.append_left f1⟩
      exact this
  · have hl := h.len
    rw [List.set_eq_of_length_le (by omega), List.set_eq_of_length_le (by omega)]
    exact ⟨f, h, .refl _⟩
theorem free1_set {η : Env} {v u : Nat} (h : free1 η u = true) : free1 (η.set v none) u = true := by
  unfold free1 at h ⊢
  by_cases e : v = u
  · subst e
    by_cases hv : v < η.length
    · rw [List.getElem?_set_self hv]
    · rw [List.getElem?_eq_none (by simpa using hv)]
  · rw [List.getElem?_set_ne e]; exact h
theorem wipeE_free {η : Env} {u : Nat} : ∀ {vs : List Nat}, free1 η u = true → free1 (wipeE η vs) u = true
  | [], h => h
  | v :: vs, h => free1_set (wipeE_free h)
theorem RS.wipes {K : PySem.W.Frag} {F H : Hp} {η : Env} {σ : St} {f : List Addr} (h : RS K F H η σ f) : ∀ {vs : List Nat}, ownFree η vs = true → ∃ f', RS K F H (wipeE η vs) (wipe σ vs) f' ∧ f'.Perm f
  | [], _ => ⟨f, h, .refl _⟩
  | v :: vs, fr => by
    unfold ownFree at fr
    simp only [List.all_cons, Bool.and_eq_true] at fr
    obtain ⟨f1, h1, p1⟩ := RS.wipes (vs := vs) h fr.2
    obtain ⟨f2, h2, p2⟩ := h1.wipe1 v none (wipeE_free fr.1)
    exact ⟨f2, h2, p2.trans p1⟩
theorem Aft.perm {K : PySem.W.Frag} {fp : List Addr} {F H : Hp} {σ σ2 : St} {ts : List T} {vs : List V} {η' η2 : Env} {F' H' : Hp} {f1 fp' fp2 : List Addr} (a : Aft K fp F H σ ts vs η' F' H' f1 fp') (h : RS K F' H' η2 σ2 fp2) (p : fp2.Perm fp') : Aft K fp F H σ2 ts vs η2 F' H' f1 fp2 := by
  have pm : (f1 ++ fp2).Perm (f1 ++ fp') := p.append_left f1
  exact ⟨a.rt, h, pm.nodup_iff.mpr a.nd, fun x hx => a.fn x (pm.mem_iff.mp hx), a.fh, a.ext, fun x hx => a.sub x (pm.mem_iff.mp hx)⟩
mutual
def T.nodes : T → Nat
  | .sh _ => 0
  | .lst ts => T.nodess ts + 1
def T.nodess : List T → Nat
  | [] => 0
  | t :: ts => t.nodes + T.nodess ts
end
mutual
theorem RT.fpN {K : PySem.W.Frag} {F H : Hp} : ∀ {t : T} {v : V} {f : List Addr}, RT K F H t v f → f.length = t.nodes
  | .sh d, v, f, h => by
    simp only [RT] at h
    rw [h.1]; rfl
  | .lst ts, v, f, h => by
    simp only [RT] at h
    obtain ⟨a, xs, g, rfl, e1, rfl, r⟩ := h
    simp [T.nodes, RTs.fpN r]
theorem RTs.fpN {K : PySem.W.Frag} {F H : Hp} : ∀ {t : List T} {v : List V} {f : List Addr}, RTs K F H t v f → f.length = T.nodess t
  | [], v, f, h => by
    simp only [RTs] at h
    rw [h.2]; rfl
  | t :: ts, v, f, h => by
    obtain ⟨x, xs, f1, f2, rfl, rfl, r1, r2⟩ := h.uncons
    simp [T.nodess, RT.fpN r1, RTs.fpN r2]
end
def nodesE : Env → Nat
  | [] => 0
  | .none :: η => nodesE η
  | .some t :: η => t.nodes + nodesE η
theorem RS.fpN {K : PySem.W.Frag} {F H : Hp} : ∀ {η : Env} {σ : St} {f : List Addr}, RS K F H η σ f → f.length = nodesE η
  | [], σ, f, h => by
    simp only [RS] at h
    rw [h.2]; rfl
  | .none :: η, σ, f, h => by
    simp only [RS] at h
    obtain ⟨s, σ', rfl, r⟩ := h
    simp [nodesE, RS.fpN r]
  | .some t :: η, σ, f, h => by
    simp only [RS] at h
    obtain ⟨v, σ', f1, f2, rfl, rfl, r1, r2⟩ := h
    simp [nodesE, RT.fpN r1, RS.fpN r2]
theorem RS.fpLen {K : PySem.W.Frag} {F H : Hp} {η : Env} {σ : St} {f g : List Addr} (h : RS K F H η σ f) (h' : RS K F H η σ g) : f.length = g.length := h.fpN.trans h'.fpN.symm
/-- back to the slots ahead: those of its own names are as they were -/
theorem RS.back1 {K : PySem.W.Frag} {F H : Hp} : ∀ {η : Env} {σ : St} {f : List Addr} {v : Nat} {o : Option T} {s : Option V}, RS K F H η σ f → free1 η v = true → (∀ d, o = some (.sh d) → ∃ w, s = some w ∧ Rp K F d w) → (∀ ts, o ≠ some (.lst ts)) → ∃ f', RS K F H (η.set v o) (σ.set v s) f' ∧ f'.Perm f := by
  intro η σ f v o s h fr ho hl
  cases o with
  | none => exact h.wipe1 v s fr
  | some t =>
    cases t with
    | lst ts => exact absurd rfl (hl ts)
    | sh d =>
      obtain ⟨w, rfl, rp⟩ := ho d rfl
      obtain ⟨f1, h1, p1⟩ := h.wipe1 v (some w) fr
      by_cases hi : v < η.length
      · obtain ⟨s0, g, r, q1, q2, q3, q4⟩ := h1.focus (i := v) (by simpa using hi)
        obtain ⟨f', rs', pm⟩ := (q4 F H (.refl _) fun _ _ _ z => z).1 (.sh d) w [] (by simp only [RT]; exact ⟨trivial, rp⟩)
        rw [List.set_set, List.set_set] at rs'
        -- the slot was empty: g = []
        have hg : g = [] := by
          have e0 : (η.set v none)[v]? = some none := List.getElem?_set_self hi
          have l1 := (List.Perm.length_eq q2)
          obtain ⟨f'', rs'', pm''⟩ := (q4 F H (.refl _) fun _ _ _ z => z).2 s0
          rw [set_self q1, set_self e0] at rs''
          -- two footprints of the same state have one length
          have : f''.length = f1.length := RS.fpLen rs'' h1
          have l2 := pm''.length_eq
          rw [List.length_append] at l1
          exact List.eq_nil_of_length_eq_zero (by omega)
        subst hg
        exact ⟨f', rs', (show f'.Perm r from pm).trans ((show f1.Perm r from q2).symm.trans p1)⟩
      · have hlen := h.len
        rw [List.set_eq_of_length_le (by omega), List.set_eq_of_length_le (by omega)]
        exact ⟨f, h, .refl _⟩
theorem wipeE_len (η : Env) : ∀ vs : List Nat, (wipeE η vs).length = η.length
  | [] => rfl
  | v :: vs => by
    show ((wipeE η vs).set v none).length = _
    rw [List.length_set, wipeE_len η vs]
theorem free1_none {η : Env} {v : Nat} (h : η[v]? = some none) : free1 η v = true := by
  unfold free1
  rw [h]
/-- back to the slots ahead of a comprehension -/
theorem RS.backs {K : PySem.W.Frag} {F H : Hp} {η1 : Env} {σ : St} (hσ : ∀ (v : Nat) (d : PyData), η1[v]? = some (some (.sh d)) → ∃ w, σ[v]? = some (some w) ∧ Rp K F d w) :
    ∀ {vs : List Nat} {η : Env} {f : List Addr}, vs.Nodup → RS K F H η (wipe σ vs) f → (∀ v ∈ vs, free1 η v = true) → ownFree η1 vs = true → ∃ f', RS K F H (backE η1 vs η) σ f' ∧ f'.Perm f
  | [], η, f, _, h, _, _ => ⟨f, h, .refl _⟩
  | v :: vs, η, f, nd, h, hn, fr => by
    unfold ownFree at fr
    simp only [List.all_cons, Bool.and_eq_true] at fr
    have hv : v ∉ vs := (List.nodup_cons.mp nd).1
    have key : ∃ f', RS K F H (η.set v (η1[v]?.join)) (((wipe σ vs).set v none).set v ((wipe σ vs)[v]?.join)) f' ∧ f'.Perm f := by
      have h' : RS K F H η ((wipe σ vs).set v none) f := h
      refine h'.back1 (v := v) (o := η1[v]?.join) (s := (wipe σ vs)[v]?.join) (hn v List.mem_cons_self) (fun d e => ?_) (fun ts e => ?_)
      · cases e1 : η1[v]? with
        | none => rw [e1] at e; cases e
        | some o =>
          rw [e1] at e
          have e : o = some (.sh d) := e
          subst e
          obtain ⟨w, h1, h2⟩ := hσ v d e1
          rw [wipe_get hv, h1]
          exact ⟨w, rfl, h2⟩
      · cases e1 : η1[v]? with
        | none => rw [e1] at e; cases e
        | some o =>
          rw [e1] at e
          have e : o = some (.lst ts) := e
          subst e
          have := fr.1
          unfold free1 at this
          rw [e1] at this
          cases this
    rw [List.set_set] at key
    obtain ⟨f', h1, p⟩ := key
    have e2 : (wipe σ vs).set v ((wipe σ vs)[v]?.join) = wipe σ vs := by
      cases e : (wipe σ vs)[v]? with
      | none =>
        rw [List.getElem?_eq_none_iff] at e
        exact List.set_eq_of_length_le e
      | some o => exact set_self e
    rw [e2] at h1
    have hn' : ∀ u ∈ vs, free1 (η.set v (η1[v]?.join)) u = true := fun u hu => by
      have e : v ≠ u := fun e => hv (e ▸ hu)
      unfold free1
      rw [List.getElem?_set_ne e]
      exact hn u (List.mem_cons_of_mem _ hu)
    obtain ⟨f2, h2, p2⟩ := RS.backs hσ (vs := vs) (List.nodup_cons.mp nd).2 h1 hn' (by unfold ownFree; exact fr.2)
    exact ⟨f2, h2, p2.trans p⟩
theorem RS.sh {K : PySem.W.Frag} {F H : Hp} {η : Env} {σ : St} {f : List Addr} {v : Nat} {d : PyData} (h : RS K F H η σ f) (e : η[v]? = some (some (.sh d))) : ∃ w, σ[v]? = some (some w) ∧ Rp K F d w := by
  obtain ⟨s, g, r, h1, h2, h3, h4⟩ := h.focus (List.getElem?_eq_some_iff.mp e).1
  obtain ⟨w, rfl, rt⟩ := h3 _ e
  simp only [RT] at rt
  exact ⟨w, h1, rt.2⟩
theorem free_wiped {η : Env} {own : List Nat} : ∀ v ∈ own, free1 (wipeE η own) v = true := by
  induction own with
  | nil => intro v hv; cases hv
  | cons u own ih =>
    intro v hv
    by_cases e : u = v
    · subst e
      unfold free1
      show (match ((wipeE η own).set u none)[u]? with | some (some (.lst _)) => false | _ => true) = true
      by_cases hi : u < (wipeE η own).length
      · rw [List.getElem?_set_self hi]
      · rw [List.getElem?_eq_none (by simpa using hi)]
    · rcases List.mem_cons.mp hv with z | z
      · exact absurd z.symm e
      · exact free1_set (ih v z)
theorem lines {n : Nat} (h : line n = true) : n < sizeLine := line_lt h
/-- the new list takes an item -/
theorem Aft.push {K : PySem.W.Frag} {fp : List Addr} {F H : Hp} {σ : St} {acc : List T} {t : T} {D : Addr} {y : V} {η' : Env} {F' H' : Hp} {f1 fp' : List Addr} (a : Aft K fp F H σ [.lst acc, t] [.ref D, y] η' F' H' f1 fp') :
    ∃ xs f2, H' D = some (.lst xs) ∧ xs.length = acc.length ∧ Aft K fp F H σ [.lst (acc ++ [t])] [.ref D] η' F' (upd H' D (.lst (xs ++ [y]))) f2 fp' := by
  obtain ⟨g1, g2, rfl, r1, r2⟩ := a.rt2
  simp only [RT] at r1
  obtain ⟨D', xs, g, e, hD, rfl, rg⟩ := r1
  cases e
  have nd := a.nd
  have nD : D ∉ (g ++ g2) ++ fp' := by
    have h1 : (D :: ((g ++ g2) ++ fp')).Nodup := nd
    exact (List.nodup_cons.mp h1).1
  have Dg : D ∉ g ++ g2 := fun h => nD (List.mem_append.mpr (.inl h))
  have Df : D ∉ fp' := fun h => nD (List.mem_append.mpr (.inr h))
  have FD : F' D = none := a.fn D (by simp)
  refine ⟨xs, D :: (g ++ g2), hD, rg.len, .one ?_, a.rs.mono (.refl _) fun x hx o e => by rw [upd_ne (ne_mem hx Df)]; exact e, nd, a.fn, fun b o e => by rw [upd_ne (ne_of_none e FD)]; exact a.fh b o e, ⟨a.ext.ff, fun b o e hb => ?_, a.ext.new⟩, a.sub⟩
  · simp only [RT]
    refine ⟨D, xs ++ [y], g ++ g2, rfl, upd_same, rfl, ?_⟩
    exact ((rg.append (.one r2)).mono (.refl _) fun x hx o e => by rw [upd_ne (ne_mem hx Dg)]; exact e)
  · have nb : b ≠ D := fun z => by
      subst z
      rcases a.sub b (by simp) with z | z
      · exact hb z
      · rw [z] at e; cases e
    rw [upd_ne nb]
    exact a.ext.keep b o e hb
theorem Aft.newLst {K : PySem.W.Frag} {fp : List Addr} {F H : Hp} {σ : St} {η' : Env} {F' H' : Hp} {fp' : List Addr} {D : Addr} (a : Aft K fp F H σ [] [] η' F' H' [] fp') (hD : H' D = none) : Aft K fp F H σ [.lst []] [.ref D] η' F' (upd H' D (.lst [])) [D] fp' :=
  a.res (ResOk.lst (ds := []) (xs := []) a.fh .nil hD)
theorem lc_core' {inv : Hp → Hp → Prop} {chk : Env → Bool} {own ws : List Nat} {tgt : FG} {cond : FB} {elt : FE} {F1 H1 : Hp} {σ : St} {η1 : Env} {fp1 : List Addr} {ds : List PyData} {J : It} {Q : VK} {E : Ex → Env → Prop} {D : Addr} (nd : own.Nodup) (hws : ∀ j ∈ ws, j ∈ own) (o : Ok C.K F1 H1 η1 σ fp1) (hCC : C'.K = C.K) (it : ItOk C.K inv F1 ds J)
    (hinv : ∀ ηk Fk Hk fpk, Ok C.K Fk Hk ηk (wipe σ own) fpk → chk ηk → inv Fk Hk) (hf : ownFree η1 own = true) (hl : line ds.length = true) (h0 : chk (wipeE η1 own)) (hD : H1 D = none)
    (q : ((loopC chk own tgt cond elt ds (wipeE η1 own)).bind fun q => (.ok (.lst q.1, backE η1 own q.2) : Rs (T × Env))).post (fun p => ∀ v F' H' f1 fp', Aft C.K fp1 F1 H1 σ [p.1] [v] p.2 F' H' f1 fp' → Q v H') E) :
    ∃ W : Nat → Nat → Hp → Prop, (∃ m, W 0 m (upd H1 D (.lst []))) ∧ ∀ i m H, W i m H →
      (J.stop i H ∧ Q (.ref D) H) ∨ (J.go i H ∧ ∃ Nx : Hp → Prop, (∀ H', Nx H' → ∃ m', m' < m ∧ W (i + 1) m' H') ∧ ∀ x H', J.yld i H x H' → tG C' ws tgt x (wipe σ own) H' fun σ2 H2 => wipe σ2 own = wipe σ own ∧ tB C' cond σ2 H2 fun b H3 =>
        if b = true then tD C' elt σ2 H3 fun y H4 => ∃ acc, H4 D = some (.lst acc) ∧ acc.length < sizeLine ∧ Nx (upd H4 D (.lst (acc ++ [y]))) else Nx H3) := by
  obtain ⟨fw, rw_, pw⟩ := o.rs.wipes hf
  have a0 : Aft C.K fp1 F1 H1 (wipe σ own) [] [] (wipeE η1 own) F1 H1 [] fw := o.aft.perm rw_ pw
  refine ⟨fun i m Hk => ∃ ηk Fk fpk acc fa, Aft C.K fp1 F1 H1 (wipe σ own) [.lst acc] [.ref D] ηk Fk Hk fa fpk ∧ chk ηk ∧ (∀ v ∈ own, free1 ηk v = true) ∧ acc.length ≤ i ∧ m = ds.length - i ∧ i ≤ ds.length ∧
      (loopC chk own tgt cond elt (ds.drop i) ηk).post (fun r => ∀ F' H' f1 fp', Aft C.K fp1 F1 H1 (wipe σ own) [.lst (acc ++ r.1)] [.ref D] r.2 F' H' f1 fp' → (∀ v ∈ own, free1 r.2 v = true) → Q (.ref D) H') E,
    ⟨ds.length, wipeE η1 own, F1, fw, [], [D], a0.newLst hD, h0, free_wiped, Nat.zero_le _, rfl, Nat.zero_le _, ?_⟩, ?_⟩
  · rw [List.drop_zero]
    refine Rs.post_mono (Rs.post_bind q) (fun r hr F' H' f1 fp' a hfr => ?_) fun _ _ z => z
    obtain ⟨f2, h2, p2⟩ := RS.backs (η1 := η1) (σ := σ) (F := F') (fun v d e => by
      obtain ⟨w, h1, h2⟩ := o.rs.sh e
      exact ⟨w, h1, h2.mono a.ext.ff⟩) nd a.rs hfr hf
    exact hr (.ref D) F' H' f1 f2 (a.perm h2 p2)
  · rintro i m Hk ⟨ηk, Fk, fpk, acc, fa, a, hc, hfk, hal, rfl, hi, q⟩
    have iv := hinv ηk Fk Hk fpk a.ok hc
    by_cases hlt : i < ds.length
    · refine .inr ⟨it.go i Fk Hk hlt a.ext.ff a.fh iv, fun H' => ∃ η' F' fp' acc' fa', Aft C.K fp1 F1 H1 (wipe σ own) [.lst acc'] [.ref D] η' F' H' fa' fp' ∧ chk η' ∧ (∀ v ∈ own, free1 η' v = true) ∧ acc'.length ≤ i + 1 ∧
          (loopC chk own tgt cond elt (ds.drop (i + 1)) η').post (fun r => ∀ F' H' f1 fp', Aft C.K fp1 F1 H1 (wipe σ own) [.lst (acc' ++ r.1)] [.ref D] r.2 F' H' f1 fp' → (∀ v ∈ own, free1 r.2 v = true) → Q (.ref D) H') E,
        fun H' ⟨η', F', fp', acc', fa', h1, h2, h3, h4, h5⟩ => ⟨ds.length - (i + 1), by omega, η', F', fp', acc', fa', h1, h2, h3, h4, rfl, hlt, h5⟩, fun x H' y => ?_⟩
      obtain ⟨F2, r⟩ := it.yld i _ Fk Hk x H' (List.getElem?_eq_getElem hlt) a.ext.ff a.fh iv y
      rw [List.drop_eq_getElem_cons hlt] at q
      unfold loopC at q
      -- the item beside the new list
      have b0 : Aft C.K fpk Fk Hk (wipe σ own) [.sh ds[i]] [x] ηk F2 H' [] fpk := a.ok.res r
      have b1 : Aft C.K fp1 F1 H1 (wipe σ own) ([.lst acc] ++ [.sh ds[i]]) ([.ref D] ++ [x]) ηk F2 H' (fa ++ []) fpk := a.app b0
      refine ⟨ηk, F2, fpk, .sh ds[i], [], hCC ▸ b0.self, Rs.post_mono (Rs.noX_post (E' := XPS C' ([] ++ fpk) F2 H') (Rs.post_bind q)) (fun η2 hq σ2 F3 H3 fp3 c ch => ?_) fun _ _ z => z⟩
      have c : Aft C.K fpk F2 H' σ2 [] [] η2 F3 H3 [] fp3 := hCC ▸ c
      refine ⟨(wipe_eq ch.1 fun j hj => ch.2 j fun hw => hj (hws j hw)).trans wipe_wipe, ?_⟩
      have ew : wipe σ2 own = wipe σ own := (wipe_eq ch.1 fun j hj => ch.2 j fun hw => hj (hws j hw)).trans wipe_wipe
      -- the new list is carried over
      have d1 : Aft C.K fp1 F1 H1 σ2 [.lst acc] [.ref D] η2 F3 H3 fa fp3 := by
        have b2 : Aft C.K fp1 F1 H1 (wipe σ own) [.lst acc] [.ref D] ηk F2 H' fa fpk := by
          obtain ⟨g1, g2, e, r1, r2⟩ := b1.rt2
          simp only [RT] at r2
          obtain ⟨rfl, _⟩ := r2
          rw [List.append_nil, List.append_nil] at e
          subst e
          have := b1
          rw [List.append_nil] at this
          exact ⟨.one r1, this.rs, this.nd, this.fn, this.fh, this.ext, this.sub⟩
        have := b2.app c
        simpa using this
      refine ⟨η2, F3, fp3, hCC ▸ d1.ok, Rs.post_mono (Rs.noX_post (E' := XP C' fp3 F3 H3 σ2) (Rs.post_bind hq)) (fun b hb F4 H4 fp4 e => ?_) fun _ _ z => z⟩
      have e : Aft C.K fp3 F3 H3 σ2 [] [] b.2 F4 H4 [] fp4 := hCC ▸ e
      have d2 : Aft C.K fp1 F1 H1 σ2 [.lst acc] [.ref D] b.2 F4 H4 fa fp4 := by simpa using d1.app e
      cases eb : b.1 with
      | true =>
        rw [eb, if_pos rfl] at hb
        dsimp only
        rw [if_pos rfl]
        refine ⟨b.2, F4, fp4, hCC ▸ d2.ok, Rs.post_mono (Rs.noX_post (E' := XP C' fp4 F4 H4 σ2) (Rs.post_bind hb)) (fun p hp y F5 H5 f5 fp5 g => ?_) fun _ _ z => z⟩
        have g : Aft C.K fp4 F4 H4 σ2 [p.1] [y] p.2 F5 H5 f5 fp5 := hCC ▸ g
        have d3 : Aft C.K fp1 F1 H1 σ2 [.lst acc, p.1] [.ref D, y] p.2 F5 H5 (fa ++ f5) fp5 := d2.app g
        split at hp
        · rename_i hck
          obtain ⟨xs, f6, hx, hxl, d4⟩ := d3.push
          obtain ⟨f7, r7, p7⟩ := d4.rs.wipes hck.1
          rw [ew] at r7
          have hll := lines hl
          refine ⟨xs, hx, by omega, wipeE p.2 own, F5, f7, acc ++ [p.1], f6, d4.perm r7 p7, hck.2, free_wiped, by simp; omega, ?_⟩
          refine Rs.post_mono (Rs.post_bind hp) (fun r hr F' H' f1 fp' a hfr => ?_) fun _ _ z => z
          refine hr F' H' f1 fp' ?_ hfr
          rw [List.append_assoc] at a
          exact a
        · exact hp.elim
      | false =>
        rw [eb, if_neg Bool.false_ne_true] at hb
        dsimp only
        rw [if_neg Bool.false_ne_true]
        split at hb
        · rename_i hck
          obtain ⟨f7, r7, p7⟩ := d2.rs.wipes hck.1
          rw [ew] at r7
          exact ⟨wipeE b.2 own, F4, f7, acc, fa, d2.perm r7 p7, hck.2, free_wiped, by omega, hb⟩
        · exact hb.elim
    · have e : i = ds.length := by omega
      subst e
      rw [List.drop_length] at q
      refine .inl ⟨it.stop Fk Hk a.ext.ff a.fh iv, q Fk Hk fa fpk ?_ hfk⟩
      rw [List.append_nil]
      exact a
end Pv
set_option Elab.async false
set_option linter.all false
set_option maxRecDepth 100000
set_option maxHeartbeats 4000000
namespace Pv
open PySem L2
variable {X : Cx} {C C' : Cn} {io : List Nat}

/-! ### comprehensions as rules -/
theorem t_lc {own ws : List Nat} {fi : FI} {tgt : FG} {cond : FB} {elt : FE} {σ : St} {H : Hp} {Q : VK} (hCC : C'.K = C.K) (nd : own.Nodup) (hws : ∀ j ∈ ws, j ∈ own) (q : tD C (eComp own fi tgt cond elt) σ H Q) :
    tLc (tI C fi) (tG C' ws tgt) (tB C' cond) (tD C' elt) own σ H Q := by
  obtain ⟨η, F, fp, o, q⟩ := q
  refine ⟨η, F, fp, o, Rs.post_mono (Rs.post_bind q) (fun p hp F' H' fp' J a it D hD => ?_) fun _ _ z => z⟩
  split at hp
  · rename_i hc
    simp only [Bool.and_eq_true] at hc
    refine lc_core' (C := C) (C' := C') (inv := inv0) (chk := fun _ => true) nd hws a.ok hCC it (fun _ _ _ _ _ _ => trivial) hc.1 hc.2 rfl hD (E := XP C fp F H σ) (Rs.post_mono hp (fun r hr v F2 H2 f1 fp2 b => ?_) fun _ _ z => z)
    exact hr v F2 H2 _ fp2 (by simpa using a.app b)
  · exact hp.elim
theorem t_lcV {own ws : List Nat} {i : Nat} {tgt : FG} {cond : FB} {elt : FE} {σ : St} {H : Hp} {Q : VK} (hCC : C'.K = C.K) (nd : own.Nodup) (hws : ∀ j ∈ ws, j ∈ own) (q : tD C (eCompV own i tgt cond elt) σ H Q) :
    tLc (tIV C i) (tG C' ws tgt) (tB C' cond) (tD C' elt) own σ H Q := by
  obtain ⟨η, F, fp, o, q⟩ := q
  unfold eCompV at q
  split at q
  · rename_i d e
    split at q
    · rename_i ds e2
      split at q
      · rename_i hc
        simp only [Bool.and_eq_true, Bool.not_eq_true', List.contains_eq_mem, decide_eq_false_iff_not] at hc
        obtain ⟨v, hv, rq⟩ := pk_rq o e
        refine ⟨η, F, fp, d, ds, v, o, e, seqOf_eq e2, hv, fun J it D hD => ?_⟩
        have h0 : pk (wipeE η own) i = some d := by
          unfold pk
          rw [wipeE_get hc.2]
          exact e
        refine lc_core' (C := C) (C' := C') (chk := pkIs i d) nd hws o hCC it (fun ηk Fk Hk fpk ok hck => ?_) hc.1.1 hc.1.2 (pkIs_of h0) hD (E := XP C fp F H σ) q
        obtain ⟨w, hw, rq⟩ := pk_rq ok (pkIs_eq hck)
        rw [wipe_get hc.2, hv] at hw
        cases hw
        exact rq
      · exact q.elim
    · exact q.elim
  · exact q.elim
section
variable {e : Expr} {own ws : List Nat} {fi : FI} {i : Nat} {tgt : FG} {cond : FB} {elt : FE} {st : Stmt} {y : Nat}
theorem pd_comp (hCC : C'.K = C.K) (nd : own.Nodup) (hws : ∀ j ∈ ws, j ∈ own) (p : PE X e (tLc (tI C fi) (tG C' ws tgt) (tB C' cond) (tD C' elt) own)) : PE X e (tD C (eComp own fi tgt cond elt)) := p.impD fun _ _ _ => t_lc hCC nd hws
theorem pd_compV (hCC : C'.K = C.K) (nd : own.Nodup) (hws : ∀ j ∈ ws, j ∈ own) (p : PE X e (tLc (tIV C i) (tG C' ws tgt) (tB C' cond) (tD C' elt) own)) : PE X e (tD C (eCompV own i tgt cond elt)) := p.impD fun _ _ _ => t_lcV hCC nd hws
theorem psd_set' {te : TE} {f : FE} (hio : y ∉ io) (k : ∀ σ H Q, tD C f σ H Q → te σ H Q) (p : PS X st (tAsg te (gName y))) : PS X st (tS C io (sAsg f (gN y))) :=
  psd_set hio (p.impD fun D σ H q => k σ H _ q)
theorem psd_setLc (hio : y ∉ io) (hCC : C'.K = C.K) (nd : own.Nodup) (hws : ∀ j ∈ ws, j ∈ own) (p : PS X st (tAsg (tLc (tI C fi) (tG C' ws tgt) (tB C' cond) (tD C' elt) own) (gName y))) : PS X st (tS C io (sAsg (eComp own fi tgt cond elt) (gN y))) :=
  psd_set' hio (fun _ _ _ => t_lc hCC nd hws) p
theorem psd_setLcV (hio : y ∉ io) (hCC : C'.K = C.K) (nd : own.Nodup) (hws : ∀ j ∈ ws, j ∈ own) (p : PS X st (tAsg (tLc (tIV C i) (tG C' ws tgt) (tB C' cond) (tD C' elt) own) (gName y))) : PS X st (tS C io (sAsg (eCompV own i tgt cond elt) (gN y))) :=
  psd_set' hio (fun _ _ _ => t_lcV hCC nd hws) p
end
theorem _root_.L2.PTs.impD {X : Cx} {e : List Expr} {t t' : TT} (h : PTs X e t) (k : ∀ σ H Q, t' σ H Q → t σ H Q) : PTs X e t' := ⟨fun pins s σ H Q I q => h.run pins s σ H Q I (k σ H Q q)⟩
theorem ptsd_nil : PTs X [] (tB C bTrue) := pts_nil.impD fun σ H Q ⟨η, F, fp, o, q⟩ => q F H fp o.aft
theorem ptsd_one {a : Expr} {c : FB} (h : PT X a (tB C c)) : PTs X [a] (tB C c) := pts_one h

/-! ### defs -/
/-- a def of plain data; G: what it gives, where it gives something -/
def spP (K : PySem.W.Frag) (n : Nat) (G : List PyData → Option T) : Sp := fun vs H Q _ => ∃ F ds t, Same F H ∧ RpAll K F ds vs ∧ ds.length = n ∧ G ds = some t ∧ Res K F H t Q
def eDef (G : List PyData → Option T) (ga : FA) : FE := fun η => (ga η).bind fun p => fin1 (G (T.vals p.1)) p.2
theorem t_def {n : Nat} {G : List PyData → Option T} {ga : FA} {E : XK} {σ : St} {H : Hp} {Q : VK} (hn : ∀ ds t, G ds = some t → ds.length = n) (h : tD C (eDef G ga) σ H Q) : tCall (spP C.K n G) [] E (tA C ga) σ H Q := by
  obtain ⟨η, F, fp, o, q⟩ := h
  refine tA_step o.aft (Rs.post_mono (Rs.post_bind q) (fun p hp x F1 H1 f1 fp1 a => ?_) fun _ _ z => z)
  obtain ⟨F3, t, s, r, eq, k⟩ := fin_res a hp
  rw [List.append_nil]
  exact ⟨F3, _, t, s.fh, r, hn _ _ eq, eq, k⟩
theorem pd_def {e : Expr} {n : Nat} {G : List PyData → Option T} {ga : FA} {E : XK} (hK : C.K = X.K) (hn : ∀ ds t, G ds = some t → ds.length = n) (p : PE X e (tCall (spP X.K n G) [] E (tA C ga))) : PE X e (tD C (eDef G ga)) := by
  rw [← hK] at p
  exact p.impD fun _ _ _ => t_def hn
/-- a def of no arguments -/
theorem pd_def0 {e : Expr} {G : List PyData → Option T} {E : XK} (hK : C.K = X.K) (hn : ∀ ds t, G ds = some t → ds.length = 0) (p : PE X e (tCall (spP X.K 0 G) [] E tNil)) : PE X e (tD C (eDef G aNil)) := by
  rw [← hK] at p
  refine p.impD fun σ H Q ⟨η, F, fp, o, q⟩ => ?_
  obtain ⟨F3, t, s, r, eq, k⟩ := fin_res o.aft (show (fin1 (G []) η).post _ _ from q)
  exact ⟨F3, [], t, s.fh, r, rfl, eq, k⟩
/-- a def that changes the list that is its first argument -/
def spIO (K : PySem.W.Frag) (n : Nat) (G : T → List PyData → Option (T × T)) : Sp := fun vs H Q _ => ∃ F ds t0 v0 ws f t t1, vs = v0 :: ws ∧ RT K F H t0 v0 f ∧ f.Nodup ∧ (∀ a ∈ f, F a = none) ∧ Same F H ∧ RpAll K F ds ws ∧ ds.length + 1 = n ∧ G t0 ds = some (t, t1) ∧
  ∀ v F' H' f1 f', RT K F' H' t v f1 → RT K F' H' t1 v0 f' → (f1 ++ f').Nodup → (∀ a ∈ f1 ++ f', F' a = none) → Same F' H' → Ext f F H F' H' → (∀ a ∈ f1 ++ f', a ∈ f ∨ H a = none) → Q v H'
def eDefIO (G : T → List PyData → Option (T × T)) (i : Nat) (ga : FA) : FE := fun η => match η[i]? with
  | some (some _) => (ga η).bind fun p => match p.2[i]? with
    | some (some t0) => match G t0 (T.vals p.1) with
      | some r => .ok (r.1, p.2.set i (some r.2))
      | none => .bad
    | _ => .bad
  | _ => .bad
theorem t_defIO {n i : Nat} {G : T → List PyData → Option (T × T)} {ga : FA} {E : XK} {σ : St} {H : Hp} {Q : VK} (hn : ∀ t0 ds r, G t0 ds = some r → ds.length + 1 = n) (h : tD C (eDefIO G i ga) σ H Q) : tCall (spIO C.K n G) [] E (tCons (tVar i) (tA C ga)) σ H Q := by
  obtain ⟨η, F, fp, o, q⟩ := h
  unfold eDefIO at q
  split at q
  · rename_i t00 e0
    obtain ⟨v0, hv0⟩ := o.rs.slot e0
    refine ⟨v0, hv0, ?_⟩
    refine tA_step o.aft (Rs.post_mono (Rs.post_bind q) (fun p hp x F1 H1 f1 fp1 a => ?_) fun _ _ z => z)
    have a : Aft C.K fp F H σ p.1 x p.2 F1 H1 f1 fp1 := a
    split at hp
    · rename_i t0 e1
      split at hp
      · rename_i r e2
        obtain ⟨F2, a2, rp⟩ := a.freeze
        obtain ⟨s, h, rr, h1, h2, h3, h4⟩ := a2.rs.focus (List.getElem?_eq_some_iff.mp e1).1
        obtain ⟨v1, rfl, rt⟩ := h3 _ e1
        obtain rfl : v0 = v1 := by rw [hv0] at h1; cases h1; rfl
        have ndq : (h ++ rr).Nodup := h2.nodup_iff.mp (by simpa using a2.nd)
        have mem : ∀ z, z ∈ h ∨ z ∈ rr → z ∈ fp1 := fun z hz => h2.mem_iff.mpr (List.mem_append.mpr hz)
        have fn : ∀ z ∈ fp1, F2 z = none := fun z hz => a2.fn z (by simpa using hz)
        have sub2 : ∀ z ∈ fp1, z ∈ fp ∨ H z = none := fun z hz => a2.sub z (by simpa using hz)
        have there : ∀ z ∈ fp1, ∃ o, H1 z = some o := a2.rs.there
        show spIO C.K n G ((v0 :: x) ++ []) H1 Q E
        rw [List.append_nil]
        refine ⟨F2, T.vals p.1, t0, v0, x, h, r.1, r.2, rfl, rt, (List.nodup_append.mp ndq).1, fun z hz => fn z (mem z (.inl hz)), a2.fh, rp, hn _ _ _ e2, e2, fun v F' H' g1 g' r1 r2 nd' fn' sh' ext' sub' => ?_⟩
        have disj : ∀ z ∈ rr, z ∉ h := fun z hz hy => (List.nodup_append.mp ndq).2.2 z hy z hz rfl
        obtain ⟨f', rs', pm⟩ := (h4 F' H' ext'.ff (fun z hz o e => ext'.keep z o e (disj z hz))).1 r.2 v0 g' r2
        rw [set_self hv0] at rs'
        have nrr : ∀ z ∈ rr, z ∉ g1 ++ g' := fun z hz hy => by
          rcases sub' z hy with w | w
          · exact disj z hz w
          · obtain ⟨o, e⟩ := there z (mem z (.inr hz))
            rw [e] at w; cases w
        have memf : ∀ z ∈ f', z ∈ g' ∨ z ∈ rr := fun z hz => List.mem_append.mp (pm.mem_iff.mp hz)
        have subH : ∀ z, z ∈ h ∨ H1 z = none → z ∈ fp ∨ H z = none := fun z hz => by
          rcases hz with hz | hz
          · exact sub2 z (mem z (.inl hz))
          · by_cases hm : z ∈ fp
            · exact .inl hm
            · cases e : H z with
              | none => exact .inr rfl
              | some o => rw [a2.ext.keep z o e hm] at hz; cases hz
        refine hp v F' H' g1 f' ⟨.one r1, rs', ?_, fun z hz => ?_, sh', a2.ext.trans ext' fun z hz => sub2 z (mem z (.inl hz)), fun z hz => ?_⟩
        · have tot : (g1 ++ f').Perm ((g1 ++ g') ++ rr) := by
            rw [List.append_assoc]
            exact pm.append_left g1
          refine tot.nodup_iff.mpr (List.nodup_append.mpr ⟨nd', (List.nodup_append.mp ndq).2.1, fun z hz w hw e => nrr w hw (e ▸ hz)⟩)
        · rcases List.mem_append.mp hz with hz | hz
          · exact fn' z (List.mem_append.mpr (.inl hz))
          · rcases memf z hz with hz | hz
            · exact fn' z (List.mem_append.mpr (.inr hz))
            · obtain ⟨o, e⟩ := there z (mem z (.inr hz))
              rw [ext'.new z (by rw [e]; simp) (disj z hz)]
              exact fn z (mem z (.inr hz))
        · rcases List.mem_append.mp hz with hz | hz
          · exact subH z (sub' z (List.mem_append.mpr (.inl hz)))
          · rcases memf z hz with hz | hz
            · exact subH z (sub' z (List.mem_append.mpr (.inr hz)))
            · exact sub2 z (mem z (.inr hz))
      · exact hp.elim
    · exact hp.elim
  · exact q.elim
theorem pd_defIO {e : Expr} {n i : Nat} {G : T → List PyData → Option (T × T)} {ga : FA} {E : XK} (hK : C.K = X.K) (hn : ∀ t0 ds r, G t0 ds = some r → ds.length + 1 = n) (p : PE X e (tCall (spIO X.K n G) [] E (tCons (tVar i) (tA C ga)))) : PE X e (tD C (eDefIO G i ga)) := by
  rw [← hK] at p
  exact p.impD fun _ _ _ => t_defIO hn

/-! bodies -/
def cnN (K : PySem.W.Frag) : Cn := ⟨K, fun _ _ _ _ => False, fun _ => none⟩
def startE (n : Nat) (ts : List T) : Env := ts.map some ++ List.replicate (n - ts.length) none
def retOf (r : Rs (Fl × Env)) : Option (T × Env) := match r with
  | .ok (.ret t, η) => some (t, η)
  | .ok (.nx, η) => some (.sh .none, η)
  | _ => none
theorem RS.nones {K : PySem.W.Frag} {F H : Hp} : ∀ n : Nat, RS K F H (List.replicate n none) (List.replicate n none) []
  | 0 => by simp only [List.replicate, RS]; exact ⟨trivial, trivial⟩
  | n + 1 => by
    simp only [List.replicate_succ, RS]
    exact ⟨none, _, rfl, RS.nones n⟩
theorem RS.startT {K : PySem.W.Frag} {F H : Hp} {m : Nat} : ∀ {ts : List T} {vs : List V} {f : List Addr}, RTs K F H ts vs f → RS K F H (ts.map some ++ List.replicate m none) (vs.map some ++ List.replicate m none) f
  | [], vs, f, h => by
    simp only [RTs] at h
    obtain ⟨rfl, rfl⟩ := h
    exact RS.nones m
  | t :: ts, vs, f, h => by
    obtain ⟨x, xs, f1, f2, rfl, rfl, r1, r2⟩ := h.uncons
    simp only [List.map_cons, List.cons_append, RS]
    exact ⟨x, _, f1, f2, rfl, rfl, r1, RS.startT r2⟩
theorem start_ok {K : PySem.W.Frag} {F H : Hp} {N : List Str} {ts : List T} {vs : List V} {f : List Addr} (h : RTs K F H ts vs f) : RS K F H (startE N.length ts) (L2.start N vs) f := by
  unfold startE L2.start
  rw [h.len]
  exact RS.startT h
end Pv
set_option Elab.async false
set_option linter.all false
set_option maxRecDepth 100000
set_option maxHeartbeats 4000000
/-! several targets take several values, owned lists among them -/
namespace Pv
open PySem L2
variable {X : Cx} {C : Cn} {io : List Nat}
abbrev FGo := List T → Env → Rs Env
def goNil : FGo := fun ts η => match ts with
  | [] => .ok η
  | _ => .bad
def goCons (h : FG) (hs : FGo) : FGo := fun ts η => match ts with
  | t :: ts => (h t η).bind fun η1 => hs ts η1
  | [] => .bad
def tGo (C : Cn) (ws : List Nat) (h : FGo) : TGs := fun vs σ H Q => ∃ η F fp ts f, Aft C.K (f ++ fp) F H σ ts vs η F H f fp ∧ (h ts η).post (fun η' => ∀ σ' F' H' fp', Aft C.K (f ++ fp) F H σ' [] [] η' F' H' [] fp' → Chg ws σ σ' → Q σ' H') (XPS C (f ++ fp) F H)
theorem Ext.more {fp fp2 : List Addr} {F H F' H' : Hp} (a : Ext fp F H F' H') (s : ∀ x ∈ fp, x ∈ fp2) : Ext fp2 F H F' H' := ⟨a.ff, fun b o e h => a.keep b o e fun z => h (s b z), fun b e h => a.new b e fun z => h (s b z)⟩
theorem pgo_nil : PGs X [] (tGo C [] goNil) := by
  refine pgs_nil.impD fun vs σ H Q ⟨η, F, fp, ts, f, a, q⟩ => ?_
  unfold goNil at q
  split at q
  · have hr := a.rt
    simp only [RTs] at hr
    obtain ⟨rfl, rfl⟩ := hr
    exact ⟨rfl, q σ F H fp a ⟨rfl, fun _ _ => rfl⟩⟩
  · exact q.elim
theorem pgo_cons {e : Expr} {es : List Expr} {ws wss : List Nat} {h : FG} {hs : FGo} (h1 : PG X e (tG C ws h)) (h2 : PGs X es (tGo C wss hs))
    (ha : (assignEach (e :: es) X.env).map (·.2) = assign e X.env :: (assignEach es X.env).map (·.2) := by rfl) : PGs X (e :: es) (tGo C (ws ++ wss) (goCons h hs)) := by
  refine (pgs_cons h1 h2 ha).impD fun vs σ H Q ⟨η, F, fp, ts, f, a, q⟩ => ?_
  unfold goCons at q
  split at q
  · rename_i t ts
    obtain ⟨x, xs, f1, f2, rfl, rfl, r1, r2⟩ := a.rt.uncons
    have nd := a.nd
    have n12 := (List.nodup_append.mp nd).1
    have n3 := (List.nodup_append.mp nd).2.1
    have d3 := (List.nodup_append.mp nd).2.2
    have n1 := (List.nodup_append.mp n12).1
    have n2 := (List.nodup_append.mp n12).2.1
    have d12 := (List.nodup_append.mp n12).2.2
    have a0 : Aft C.K (f1 ++ fp) F H σ [t] [x] η F H f1 fp := ⟨.one r1, a.rs, List.nodup_append.mpr ⟨n1, n3, fun y hy z hz => d3 y (by simp [hy]) z hz⟩, fun y hy => a.fn y (by rcases List.mem_append.mp hy with hy | hy <;> simp [hy]), a.fh, .refl, fun y hy => .inl hy⟩
    have sub1 : ∀ y ∈ f1 ++ fp, y ∈ (f1 ++ f2) ++ fp := fun y hy => by rcases List.mem_append.mp hy with hy | hy <;> simp [hy]
    refine ⟨x, xs, rfl, η, F, fp, t, f1, a0, Rs.post_mono (Rs.post_bind q) (fun η1 hq σ1 F1 H1 fp1 b c1 => ?_) fun ex η' z => fun σ' cls d F' H' p1 p2 p3 p4 => z σ' cls d F' H' p1 p2 p3 (p4.more sub1)⟩
    have out : ∀ y ∈ f2, y ∉ f1 ++ fp := fun y hy hz => by
      rcases List.mem_append.mp hz with hz | hz
      · exact d12 y hz y hy rfl
      · exact d3 y (by simp [hy]) y hz rfl
    have there := r2.there
    have r2' : RTs C.K F1 H1 ts xs f2 := r2.mono b.ext.ff fun y hy o e => b.ext.keep y o e (out y hy)
    have a2 : Aft C.K (f2 ++ fp1) F1 H1 σ1 ts xs η1 F1 H1 f2 fp1 := by
      refine ⟨r2', b.rs, List.nodup_append.mpr ⟨n2, by simpa using b.nd, fun y hy z hz e => ?_⟩, fun y hy => ?_, b.fh, .refl, fun y hy => .inl hy⟩
      · subst e
        obtain ⟨o, e⟩ := there y hy
        rcases b.sub y (by simpa using hz) with w | w
        · exact out y hy w
        · rw [e] at w; cases w
      · rcases List.mem_append.mp hy with hy | hy
        · obtain ⟨o, e⟩ := there y hy
          rw [b.ext.new y (by rw [e]; simp) (out y hy)]
          exact a.fn y (by simp [hy])
        · exact b.fn y (by simpa using hy)
    have sub2 : ∀ y ∈ f2 ++ fp1, y ∈ (f1 ++ f2) ++ fp ∨ H y = none := fun y hy => by
      rcases List.mem_append.mp hy with hy | hy
      · exact .inl (by simp [hy])
      · rcases b.sub y (by simpa using hy) with w | w
        · exact .inl (sub1 y w)
        · exact .inr w
    have e01 : Ext ((f1 ++ f2) ++ fp) F H F1 H1 := b.ext.more sub1
    refine ⟨η1, F1, fp1, ts, f2, a2, Rs.post_mono hq (fun η2 hq2 σ2 F2 H2 fp2 c c2 => hq2 σ2 F2 H2 fp2 ⟨c.rt, c.rs, c.nd, c.fn, c.fh, e01.trans c.ext sub2, fun y hy => ?_⟩ ⟨c2.1.trans c1.1, fun j hj => ?_⟩) fun ex η' z => fun σ' cls d F' H' p1 p2 p3 p4 => z σ' cls d F' H' p1 p2 p3 (e01.trans p4 sub2)⟩
    · rcases c.sub y hy with w | w
      · exact sub2 y w
      · by_cases hm : y ∈ (f1 ++ f2) ++ fp
        · exact .inl hm
        · cases e : H y with
          | none => exact .inr rfl
          | some o =>
            have := e01.keep y o e hm
            rw [this] at w; cases w
    · rw [List.mem_append, not_or] at hj
      exact (c2.2 j hj.2).trans (c1.2 j hj.1)
  · exact q.elim
def sMul (n : Nat) (g : FA) (h : FGo) : FS := fun η => (g η).bind fun p => if p.1.length = n ∧ n ≤ 1000 then (h p.1 p.2).bind fun η' => .ok (.nx, η') else .bad
theorem psd_mul {st : Stmt} {n : Nat} {g : FA} {ws : List Nat} {h : FGo} (hK : C.K = X.K) (hio : ∀ j ∈ io, j ∉ ws) (p : PS X st (tAsg (tTup (tA C g)) (gTup X.K n (tGo C ws h)))) : PS X st (tS C io (sMul n g h)) := by
  refine p.impD fun D σ H ⟨η, F, fp, o, q⟩ => ?_
  refine tA_step o.aft (Rs.post_mono (Rs.post_bind q) (fun p hp xs F1 H1 f1 fp1 a => ?_) fun _ _ z => z.xp)
  have a : Aft C.K fp F H σ p.1 xs p.2 F1 H1 f1 fp1 := a
  split at hp
  · rename_i hn
    have hl := a.rt.len
    refine ⟨by rw [hl, hn.1, PySem.sizeLine_eq]; omega, fun t ht => ?_⟩
    have e12 : ∀ b o, H1 b = some o → upd H1 t (.tup xs) b = some o := fun b o e => by rw [upd_ne (ne_of_none e ht)]; exact e
    have a2 : Aft C.K (f1 ++ fp1) F1 (upd H1 t (.tup xs)) σ p.1 xs p.2 F1 (upd H1 t (.tup xs)) f1 fp1 :=
      ⟨a.rt.mono (.refl _) fun b _ o e => e12 b o e, a.rs.mono (.refl _) fun b _ o e => e12 b o e, a.nd, a.fn, fun b o e => e12 b o (a.fh b o e), .refl, fun b hb => .inl hb⟩
    have x12 : Ext (f1 ++ fp1) F1 H1 F1 (upd H1 t (.tup xs)) := ⟨.refl _, fun b o e _ => e12 b o e, fun _ _ _ => rfl⟩
    have x02 : Ext fp F H F1 (upd H1 t (.tup xs)) := a.ext.trans x12 fun b hb => a.sub b hb
    refine ⟨t, xs, rfl, SqT.of upd_same, by rw [hl, hn.1], p.2, F1, fp1, p.1, f1, a2, Rs.post_mono (Rs.post_bind hp) (fun η' hq σ' F' H' fp' b c => ?_) fun ex η' z => fun σ' cls d F' H' p1 p2 p3 p4 => z σ' cls d F' H' p1 p2 p3 (x02.trans p4 a.sub)⟩
    refine hq σ' F' H' fp' ⟨b.rt, b.rs, b.nd, b.fn, b.fh, x02.trans b.ext a.sub, fun y hy => ?_⟩ (c.toIO hio)
    rcases b.sub y hy with w | w
    · exact a.sub y w
    · by_cases hm : y ∈ fp
      · exact .inl hm
      · cases e : H y with
        | none => exact .inr rfl
        | some o =>
          have := x02.keep y o e hm
          rw [this] at w; cases w
  · exact hp.elim
end Pv
set_option Elab.async false
set_option linter.all false
set_option maxRecDepth 100000
set_option maxHeartbeats 4000000
/-! zip where the one is a list and the other a tuple: each side's kind is a Bool -/
namespace Pv
open PySem L2 RZ PySem.Spec PyProof.Rows
/-- the walker over a list (true) or a tuple (false) -/
def WkAt (k : Bool) (h : Heap) (it l : Addr) (i : Nat) : Prop := if k then h.IsListIter it l i else h.IsTupleIter it l i
def SrcAt (k : Bool) (h : Heap) (l : Addr) (xs : Array Value) : Prop := if k then h.IsList l xs else h.IsTuple l xs
section
variable {k : Bool} {h h' : Heap} {it l b : Addr} {i : Nat} {xs : Array Value}
theorem WkAt.far (x : WkAt k h it l i) (e : Heap.ExtBut b h h') (n : it ≠ b) : WkAt k h' it l i := by
  cases k with
  | true => exact Heap.IsListIter.extBut (show h.IsListIter it l i from x) e n
  | false => exact Heap.IsTupleIter.extBut (show h.IsTupleIter it l i from x) e n
theorem SrcAt.far (x : SrcAt k h l xs) (e : Heap.ExtBut b h h') (n : l ≠ b) : SrcAt k h' l xs := by
  cases k with
  | true => exact Heap.IsList.extBut (show h.IsList l xs from x) e n
  | false => exact Heap.IsTuple.extBut (show h.IsTuple l xs from x) e n
theorem WkAt.moved (x : WkAt k h it l i) (e : ∀ o, h.get? it = some o → h'.get? it = some o) : WkAt k h' it l i := by
  cases k with
  | true => exact Heap.IsListIter.at (show h.IsListIter it l i from x) e
  | false => exact Heap.IsTupleIter.at (show h.IsTupleIter it l i from x) e
end
section
variable {prog : Program} {w : World} {A : Around} {E : Value → Shared → Prop} {s : Shared} {k : Bool} {it l : Addr} {i : Nat} {xs : Array Value} {x : Value} {Q : Value → Shared → Prop}
theorem nx_item (a : WkAt k s.heap it l i) (b : SrcAt k s.heap l xs) (e : xs[i]? = some x) (q : ∀ h', WkAt k h' it l (i + 1) → Heap.SameBut it s.heap h' → Q x { s with heap := h' }) : wpAny (model prog w) A (Builtin.SmallTypes.nextOf (.ref it)) Q E s := by
  cases k with
  | true => exact wpAny_nextOf_list_item (show s.heap.IsListIter it l i from a) (show s.heap.IsList l xs from b) e q
  | false => exact nextOf_tuple_item (show s.heap.IsTupleIter it l i from a) (show s.heap.IsTuple l xs from b) e q
theorem nx_end (hh : A.handled = none) (a : WkAt k s.heap it l i) (b : SrcAt k s.heap l xs) (e : xs[i]? = none) (q : ∀ h' e, Heap.ExtBut it s.heap h' → (∃ o, h'.get? e = some o ∧ o.cls = .type "StopIteration") → E (.ref e) { s with heap := h' }) : wpAny (model prog w) A (Builtin.SmallTypes.nextOf (.ref it)) Q E s := by
  cases k with
  | true => exact wpAny_nextOf_list_end hh (show s.heap.IsListIter it l i from a) (show s.heap.IsList l xs from b) e q
  | false => exact nextOf_tuple_end hh (show s.heap.IsTupleIter it l i from a) (show s.heap.IsTuple l xs from b) e q
end
/-! one turn of the zip -/
section
variable {prog : Program} {w : World} {A : Around} {E : Value → Shared → Prop} {s : Shared} {k1 k2 : Bool} {z TI TO i1 i2 l1 l2 : Addr} {n1 n2 : Nat} {xs ys : Array Value} {x y a b : Value}
theorem zn_item {Q : Value → Shared → Prop} (D : ZipApart z TI TO i1 i2 l1 l2) (hz : IsZip s.heap z TI TO .none) (hI : IsPair s.heap TI (.ref i1) (.ref i2)) (hO : IsPair s.heap TO a b)
    (w1 : WkAt k1 s.heap i1 l1 n1) (w2 : WkAt k2 s.heap i2 l2 n2) (c1 : SrcAt k1 s.heap l1 xs) (c2 : SrcAt k2 s.heap l2 ys) (e1 : xs[n1]? = some x) (e2 : ys[n2]? = some y)
    (q : ∀ h', IsZip h' z TI TO (rawInt s.heap.objs.size) → IsPair h' TO x y → WkAt k1 h' i1 l1 (n1 + 1) → WkAt k2 h' i2 l2 (n2 + 1) → IsPair h' s.heap.objs.size x y → h'.objs.size = s.heap.objs.size + 1 →
      (∀ c o, c ≠ z → c ≠ TO → c ≠ i1 → c ≠ i2 → s.heap.get? c = some o → h'.get? c = some o) → Q (.ref s.heap.objs.size) { s with heap := h' }) :
    wpAny (model prog w) A (Builtin.«zip.__next__» ⟨[.ref z], []⟩) (fun fin s' => ∃ v, fin = .done (.ret v) ∧ Q v s') E s := by
  show wpAny _ _ (field (.ref z) 2 >>= _) _ _ _
  refine wpAny_bind (wpAny_field hz rfl (x := .bool false) rfl ?_)
  show wpAny _ _ (field (.ref z) 3 >>= _) _ _ _
  refine wpAny_bind (wpAny_field hz rfl (x := .ref TI) rfl (wpAny_bind (wpAny_seqItems hI rfl ?_)))
  show wpAny _ _ (Builtin.SmallTypes.ownedTupleIsFree (.ref z) >>= _) _ _ _
  refine wpAny_bind ?_
  unfold Builtin.SmallTypes.ownedTupleIsFree
  refine wpAny_bind (wpAny_field hz rfl (x := .none) rfl (wpAny_pure ?_))
  simp only [if_true]
  refine wpAny_bind (wpAny_rule (wpAny_bind (wpAny_field hz rfl (x := .ref TO) rfl (wpAny_bind (wpAny_setField_rec hz (by simp) fun g1 z1 s1 => ?_)))))
  replace z1 : IsZip g1 z TI TO .ellipsis := z1
  refine wpAny_bind ?_
  simp only [List.zipIdx_cons, List.zipIdx_nil, List.forIn_cons, List.forIn_nil]
  refine wpAny_bind (wpAny_bind (wpAny_onRaise ?_))
  show wpAny _ _ (Builtin.SmallTypes.nextOf (.ref i1) >>= _) _ _ _
  refine wpAny_bind (nx_item (w1.far s1.extBut D.i1z) (c1.far s1.extBut D.l1z) e1 fun g2 m1 s2 => wpAny_pure ?_)
  have O2 : IsPair g2 TO a b := s2.extBut _ _ D.TOi1 (s1.extBut _ _ D.TOz hO)
  refine wpAny_bind (wpAny_seqItems O2 rfl (wpAny_bind (wpAny_updateSeq_pair O2 fun g3 O3 s3 => ?_)))
  replace O3 : IsPair g3 TO x b := O3
  refine wpAny_bind (wpAny_letGo (wpAny_pure (wpAny_bind (wpAny_bind (wpAny_onRaise ?_)))))
  show wpAny _ _ (Builtin.SmallTypes.nextOf (.ref i2) >>= _) _ _ _
  refine wpAny_bind (nx_item (((w2.far s1.extBut D.i2z).far s2.extBut D.i12.symm).far s3.extBut D.TOi2.symm) (((c2.far s1.extBut D.l2z).far s2.extBut D.l2i1).far s3.extBut D.l2TO) e2 fun g4 m2 s4 => wpAny_pure ?_)
  have O4 : IsPair g4 TO x b := s4.extBut _ _ D.TOi2 O3
  refine wpAny_bind (wpAny_seqItems O4 rfl (wpAny_bind (wpAny_updateSeq_pair O4 fun g5 O5 s5 => ?_)))
  replace O5 : IsPair g5 TO x y := O5
  refine wpAny_bind (wpAny_letGo (wpAny_pure (wpAny_pure (wpAny_bind (wpAny_seqItems O5 rfl (wpAny_bind (wpAny_newTuple ?_)))))))
  have hsz : g5.objs.size = s.heap.objs.size := by rw [s5.1, s4.1, s3.1, s2.1, s1.1]
  have z5 : IsZip g5 z TI TO .ellipsis := s5.extBut _ _ D.TOz.symm (s4.extBut _ _ D.i2z.symm (s3.extBut _ _ D.TOz.symm (s2.extBut _ _ D.i1z.symm z1)))
  have m1' : WkAt k1 g5 i1 l1 (n1 + 1) := ((m1.far s3.extBut D.TOi1.symm).far s4.extBut D.i12).far s5.extBut D.TOi1.symm
  have m2' : WkAt k2 g5 i2 l2 (n2 + 1) := m2.far s5.extBut D.TOi2.symm
  have zlt : z < g5.objs.size := Heap.lt_size z5
  show wpAny _ _ (Builtin.SmallTypes.ownedTupleHandOut (.ref z) (.ref g5.objs.size) >>= _) _ _ _
  refine wpAny_bind ?_
  unfold Builtin.SmallTypes.ownedTupleHandOut
  have z6 : IsZip (g5.push { cls := .type "tuple", data := .seq #[x, y] }) z TI TO .ellipsis := Heap.get?_push_of_some _ z5
  refine wpAny_bind (wpAny_setField_rec z6 (by simp) fun g7 z7 s7 => ?_)
  replace z7 : IsZip g7 z TI TO (rawInt g5.objs.size) := z7
  refine wpAny_setField_rec z7 (by simp) fun g8 z8 s8 => ?_
  replace z8 : IsZip g8 z TI TO (rawInt g5.objs.size) := z8
  have up : ∀ c o, c ≠ z → g5.get? c = some o → g8.get? c = some o := fun c o n e => s8.extBut _ _ n (s7.extBut _ _ n (Heap.get?_push_of_some _ e))
  have T8 : IsPair g8 g5.objs.size x y := s8.extBut _ _ (Nat.ne_of_gt zlt) (s7.extBut _ _ (Nat.ne_of_gt zlt) (Heap.get?_push_size _ rfl))
  have n8 : g8.objs.size = g5.objs.size + 1 := by rw [s8.1, s7.1, Heap.size_push]
  rw [hsz] at z8 T8 n8
  refine wpAny_pure ⟨_, rfl, ?_⟩
  show Q (.ref g5.objs.size) _
  rw [hsz]
  exact q g8 z8 (up _ _ D.TOz O5) (m1'.moved fun o e => up _ o D.i1z e) (m2'.moved fun o e => up _ o D.i2z e) T8 n8 fun c o d1 d2 d3 d4 e => up c o d1 (s5.extBut _ _ d2 (s4.extBut _ _ d4 (s3.extBut _ _ d2 (s2.extBut _ _ d3 (s1.extBut _ _ d1 e)))))
theorem zn_end {Q : Fin → Shared → Prop} (hh : A.handled = none) (D : ZipApart z TI TO i1 i2 l1 l2) (hz : IsZip s.heap z TI TO .none) (hI : IsPair s.heap TI (.ref i1) (.ref i2)) (hO : IsPair s.heap TO a b)
    (w1 : WkAt k1 s.heap i1 l1 n1) (w2 : WkAt k2 s.heap i2 l2 n2) (c1 : SrcAt k1 s.heap l1 xs) (c2 : SrcAt k2 s.heap l2 ys) (he : xs[n1]? = none ∨ ys[n2]? = none)
    (q : ∀ h' e, (∀ c o, c ≠ z → c ≠ TO → c ≠ i1 → c ≠ i2 → s.heap.get? c = some o → h'.get? c = some o) → (∃ o, h'.get? e = some o ∧ o.cls = .type "StopIteration") → E (.ref e) { s with heap := h' }) :
    wpAny (model prog w) A (Builtin.«zip.__next__» ⟨[.ref z], []⟩) Q E s := by
  show wpAny _ _ (field (.ref z) 2 >>= _) _ _ _
  refine wpAny_bind (wpAny_field hz rfl (x := .bool false) rfl ?_)
  show wpAny _ _ (field (.ref z) 3 >>= _) _ _ _
  refine wpAny_bind (wpAny_field hz rfl (x := .ref TI) rfl (wpAny_bind (wpAny_seqItems hI rfl ?_)))
  show wpAny _ _ (Builtin.SmallTypes.ownedTupleIsFree (.ref z) >>= _) _ _ _
  refine wpAny_bind ?_
  unfold Builtin.SmallTypes.ownedTupleIsFree
  refine wpAny_bind (wpAny_field hz rfl (x := .none) rfl (wpAny_pure ?_))
  simp only [if_true]
  refine wpAny_bind (wpAny_rule (wpAny_bind (wpAny_field hz rfl (x := .ref TO) rfl (wpAny_bind (wpAny_setField_rec hz (by simp) fun g1 z1 s1 => ?_)))))
  replace z1 : IsZip g1 z TI TO .ellipsis := z1
  refine wpAny_bind ?_
  simp only [List.zipIdx_cons, List.zipIdx_nil, List.forIn_cons, List.forIn_nil]
  refine wpAny_bind (wpAny_bind (wpAny_onRaise ?_))
  show wpAny _ _ (Builtin.SmallTypes.nextOf (.ref i1) >>= _) _ _ _
  cases e1 : xs[n1]? with
  | none =>
    refine wpAny_bind (nx_end hh (w1.far s1.extBut D.i1z) (c1.far s1.extBut D.l1z) e1 fun g2 e s2 ⟨oe, ge, ce⟩ => ?_)
    have z2 : IsZip g2 z TI TO .ellipsis := s2 _ _ D.i1z.symm z1
    have ez : e ≠ z := fun x => by subst x; rw [z2] at ge; cases ge; simp at ce
    exact wpAny_setField_rec z2 (by simp) fun g3 _ s3 => q g3 e (fun c o d1 _ d3 _ x => s3.extBut _ _ d1 (s2 _ _ d3 (s1.extBut _ _ d1 x))) ⟨oe, s3.extBut _ _ ez ge, ce⟩
  | some x =>
    have e2 : ys[n2]? = none := by
      rcases he with h | h
      · rw [e1] at h; cases h
      · exact h
    refine wpAny_bind (nx_item (w1.far s1.extBut D.i1z) (c1.far s1.extBut D.l1z) e1 fun g2 m1 s2 => wpAny_pure ?_)
    have O2 : IsPair g2 TO a b := s2.extBut _ _ D.TOi1 (s1.extBut _ _ D.TOz hO)
    refine wpAny_bind (wpAny_seqItems O2 rfl (wpAny_bind (wpAny_updateSeq_pair O2 fun g3 O3 s3 => ?_)))
    refine wpAny_bind (wpAny_letGo (wpAny_pure (wpAny_bind (wpAny_bind (wpAny_onRaise ?_)))))
    show wpAny _ _ (Builtin.SmallTypes.nextOf (.ref i2) >>= _) _ _ _
    refine wpAny_bind (nx_end hh (((w2.far s1.extBut D.i2z).far s2.extBut D.i12.symm).far s3.extBut D.TOi2.symm) (((c2.far s1.extBut D.l2z).far s2.extBut D.l2i1).far s3.extBut D.l2TO) e2 fun g4 e s4 ⟨oe, ge, ce⟩ => ?_)
    have z4 : IsZip g4 z TI TO .ellipsis := s4 _ _ D.i2z.symm (s3.extBut _ _ D.TOz.symm (s2.extBut _ _ D.i1z.symm z1))
    have ez : e ≠ z := fun x => by subst x; rw [z4] at ge; cases ge; simp at ce
    exact wpAny_setField_rec z4 (by simp) fun g5 _ s5 => q g5 e (fun c o d1 d2 d3 d4 x => s5.extBut _ _ d1 (s4 _ _ d4 (s3.extBut _ _ d2 (s2.extBut _ _ d3 (s1.extBut _ _ d1 x))))) ⟨oe, s5.extBut _ _ ez ge, ce⟩
theorem pn_item {Q : Option Value → Shared → Prop} (D : ZipApart z TI TO i1 i2 l1 l2) (hz : IsZip s.heap z TI TO .none) (hI : IsPair s.heap TI (.ref i1) (.ref i2)) (hO : IsPair s.heap TO a b)
    (w1 : WkAt k1 s.heap i1 l1 n1) (w2 : WkAt k2 s.heap i2 l2 n2) (c1 : SrcAt k1 s.heap l1 xs) (c2 : SrcAt k2 s.heap l2 ys) (e1 : xs[n1]? = some x) (e2 : ys[n2]? = some y)
    (q : ∀ h', IsZip h' z TI TO (rawInt s.heap.objs.size) → IsPair h' TO x y → WkAt k1 h' i1 l1 (n1 + 1) → WkAt k2 h' i2 l2 (n2 + 1) → IsPair h' s.heap.objs.size x y → h'.objs.size = s.heap.objs.size + 1 →
      (∀ c o, c ≠ z → c ≠ TO → c ≠ i1 → c ≠ i2 → s.heap.get? c = some o → h'.get? c = some o) → Q (some (.ref s.heap.objs.size)) { s with heap := h' }) : wpAny (model prog w) A (pyNext (.ref z)) Q E s := by
  have ty : s.TypeIs (.ref z) "zip" := ⟨_, hz, rfl⟩
  unfold pyNext
  exact wpAny_bind (wpAny_attempt (wpAny_callSpecial?_slot (name := Str.ofString "__next__") ty F.slot_zip_next (wpAny_call_entry F.slot_zip_next ty F.entry_zip_next
    (zn_item D hz hI hO w1 w2 c1 c2 e1 e2 fun h' p1 p2 p3 p4 p5 p6 p7 => wpAny_pure (q h' p1 p2 p3 p4 p5 p6 p7)) (F.args_zip_next_1 _))))
theorem pn_end {Q : Option Value → Shared → Prop} (hh : A.handled = none) (D : ZipApart z TI TO i1 i2 l1 l2) (hz : IsZip s.heap z TI TO .none) (hI : IsPair s.heap TI (.ref i1) (.ref i2)) (hO : IsPair s.heap TO a b)
    (w1 : WkAt k1 s.heap i1 l1 n1) (w2 : WkAt k2 s.heap i2 l2 n2) (c1 : SrcAt k1 s.heap l1 xs) (c2 : SrcAt k2 s.heap l2 ys) (he : xs[n1]? = none ∨ ys[n2]? = none)
    (q : ∀ h', (∀ c o, c ≠ z → c ≠ TO → c ≠ i1 → c ≠ i2 → s.heap.get? c = some o → h'.get? c = some o) → Q none { s with heap := h' }) : wpAny (model prog w) A (pyNext (.ref z)) Q E s := by
  have ty : s.TypeIs (.ref z) "zip" := ⟨_, hz, rfl⟩
  unfold pyNext
  refine wpAny_bind (wpAny_attempt (wpAny_callSpecial?_slot (name := Str.ofString "__next__") ty F.slot_zip_next (wpAny_call_entry F.slot_zip_next ty F.entry_zip_next (zn_end hh D hz hI hO w1 w2 c1 c2 he fun h' e hk ⟨o, ho, hc⟩ => ?_) (F.args_zip_next_1 _))))
  exact wpAny_bind (wpAny_isInstance (T := "StopIteration") (b := true) ⟨o, ho, hc⟩ isSubtype_stop (wpAny_pure (q _ hk)))
end
/-! the zip is made -/
abbrev wkObj (k : Bool) (l : Addr) : Obj := { cls := .type (if k then "list_iterator" else "tuple_iterator"), data := .fields #[.ref l, .int 0 0] }
abbrev mz1 (k1 : Bool) (h : Heap) (l1 : Addr) : Heap := h.push (wkObj k1 l1)
abbrev mz2 (k1 k2 : Bool) (h : Heap) (l1 l2 : Addr) : Heap := (mz1 k1 h l1).push (wkObj k2 l2)
abbrev mz3 (k1 k2 : Bool) (h : Heap) (l1 l2 : Addr) : Heap := (mz2 k1 k2 h l1 l2).push { cls := .type "tuple", data := .seq #[.ref h.objs.size, .ref (mz1 k1 h l1).objs.size] }
abbrev mz4 (k1 k2 : Bool) (h : Heap) (l1 l2 : Addr) : Heap := (mz3 k1 k2 h l1 l2).push { cls := .type "tuple", data := .seq #[.none, .none] }
abbrev mz5 (k1 k2 : Bool) (h : Heap) (l1 l2 : Addr) : Heap := (mz4 k1 k2 h l1 l2).push { cls := .type "zip", data := .fields #[.none, .bool false, .bool false, .ref (mz2 k1 k2 h l1 l2).objs.size, .ref (mz3 k1 k2 h l1 l2).objs.size] }
abbrev wkFree (k : Bool) (l : Addr) : Prop := (wkObj k l).isFreed = false
theorem wkFree_ok (k : Bool) (l : Addr) : wkFree k l := by cases k <;> rfl
theorem meets_mzTL (l1 l2 : Addr) (xs ys : Array Value) : Meets (Builtin.«zip.__new__» ⟨[.type "zip", .ref l1, .ref l2], []⟩) (fun _ R s => s.heap.IsTuple l1 xs ∧ s.heap.IsList l2 ys ∧ R (.ok (.ret (.ref (mz4 false true s.heap l1 l2).objs.size))) { s with heap := mz5 false true s.heap l1 l2 }) :=
  .of_wp fun prog w A R s h => by
    obtain ⟨hp, g, d, tk, os⟩ := s
    obtain ⟨c1, c2, h⟩ := h
    have hsub := PySem.sub_zip
    have L1 : Heap.IsTuple (Shared.heap ⟨hp, g, d, tk, os⟩) l1 xs := c1
    have L2 : Heap.IsList (Shared.heap ⟨hp.push { cls := .type "tuple_iterator", data := .fields #[.ref l1, .int 0 0] }, g, d, tk, os⟩) l2 ys := Heap.IsList.push c2 _
    wp_walk using wpAny_pyIter_tuple L1, wpAny_pyIter_list L2
    exact ⟨_, rfl, h⟩
theorem meets_mzLT (l1 l2 : Addr) (xs ys : Array Value) : Meets (Builtin.«zip.__new__» ⟨[.type "zip", .ref l1, .ref l2], []⟩) (fun _ R s => s.heap.IsList l1 xs ∧ s.heap.IsTuple l2 ys ∧ R (.ok (.ret (.ref (mz4 true false s.heap l1 l2).objs.size))) { s with heap := mz5 true false s.heap l1 l2 }) :=
  .of_wp fun prog w A R s h => by
    obtain ⟨hp, g, d, tk, os⟩ := s
    obtain ⟨c1, c2, h⟩ := h
    have hsub := PySem.sub_zip
    have L1 : Heap.IsList (Shared.heap ⟨hp, g, d, tk, os⟩) l1 xs := c1
    have L2 : Heap.IsTuple (Shared.heap ⟨hp.push { cls := .type "list_iterator", data := .fields #[.ref l1, .int 0 0] }, g, d, tk, os⟩) l2 ys := Heap.IsTuple.push c2 _
    wp_walk using wpAny_pyIter_list L1, wpAny_pyIter_tuple L2
    exact ⟨_, rfl, h⟩
theorem meets_mz : ∀ (k1 k2 : Bool) (l1 l2 : Addr) (xs ys : Array Value), Meets (Builtin.«zip.__new__» ⟨[.type "zip", .ref l1, .ref l2], []⟩) (fun _ R s => SrcAt k1 s.heap l1 xs ∧ SrcAt k2 s.heap l2 ys ∧ R (.ok (.ret (.ref (mz4 k1 k2 s.heap l1 l2).objs.size))) { s with heap := mz5 k1 k2 s.heap l1 l2 })
  | true, true, l1, l2, xs, ys => meets_zip_new l1 l2 xs ys
  | false, false, l1, l2, xs, ys => meets_zipT_new l1 l2 xs ys
  | true, false, l1, l2, xs, ys => meets_mzLT l1 l2 xs ys
  | false, true, l1, l2, xs, ys => meets_mzTL l1 l2 xs ys
section
variable {prog : Program} {w : World} {A : Around} {E : Value → Shared → Prop} {s : Shared}
theorem wk_new {k : Bool} {h : Heap} {it l : Addr} (e : h.get? it = some (wkObj k l)) : WkAt k h it l 0 := by
  cases k with
  | true => exact ⟨_, e, rfl, rfl⟩
  | false => exact ⟨_, e, rfl, rfl⟩
theorem call_mz {k1 k2 : Bool} {l1 l2 : Addr} {xs ys : Array Value} {Q : Value → Shared → Prop} (c1 : SrcAt k1 s.heap l1 xs) (c2 : SrcAt k2 s.heap l2 ys)
    (q : ∀ h', IsZip h' (s.heap.objs.size + 4) (s.heap.objs.size + 2) (s.heap.objs.size + 3) .none → IsPair h' (s.heap.objs.size + 2) (.ref s.heap.objs.size) (.ref (s.heap.objs.size + 1)) → IsPair h' (s.heap.objs.size + 3) .none .none →
      WkAt k1 h' s.heap.objs.size l1 0 → WkAt k2 h' (s.heap.objs.size + 1) l2 0 → (∀ c o, s.heap.get? c = some o → h'.get? c = some o) → Q (.ref (s.heap.objs.size + 4)) { s with heap := h' }) :
    wpAny (model prog w) A (call (.type "zip") [.ref l1, .ref l2]) Q E s := by
  refine callType_new F.called_zip (by decide) (F.typeCall_zip_2 _ _) (F.newCall_zip_2 _ _) (fun obj => F.args_object_init_3 obj _ _) F.entry_zip_new (meets_mz k1 k2 l1 l2 xs ys) ⟨c1, c2, ?_⟩
  have n1 : (mz1 k1 s.heap l1).objs.size = s.heap.objs.size + 1 := Heap.size_push ..
  have n2 : (mz2 k1 k2 s.heap l1 l2).objs.size = s.heap.objs.size + 2 := by rw [Heap.size_push, n1]
  have n3 : (mz3 k1 k2 s.heap l1 l2).objs.size = s.heap.objs.size + 3 := by rw [Heap.size_push, n2]
  have n4 : (mz4 k1 k2 s.heap l1 l2).objs.size = s.heap.objs.size + 4 := by rw [Heap.size_push, n3]
  have f1 : wkFree k1 l1 := wkFree_ok _ _
  have f2 : wkFree k2 l2 := wkFree_ok _ _
  have g5 : (mz5 k1 k2 s.heap l1 l2).get? (mz4 k1 k2 s.heap l1 l2).objs.size = some _ := Heap.get?_push_size _ rfl
  have g4 : (mz5 k1 k2 s.heap l1 l2).get? (mz3 k1 k2 s.heap l1 l2).objs.size = some _ := Heap.get?_push_of_some _ (Heap.get?_push_size _ rfl)
  have g3 : (mz5 k1 k2 s.heap l1 l2).get? (mz2 k1 k2 s.heap l1 l2).objs.size = some _ := Heap.get?_push_of_some _ (Heap.get?_push_of_some _ (Heap.get?_push_size _ rfl))
  have g2 : (mz5 k1 k2 s.heap l1 l2).get? (mz1 k1 s.heap l1).objs.size = some (wkObj k2 l2) := Heap.get?_push_of_some _ (Heap.get?_push_of_some _ (Heap.get?_push_of_some _ (Heap.get?_push_size _ f2)))
  have g1 : (mz5 k1 k2 s.heap l1 l2).get? s.heap.objs.size = some (wkObj k1 l1) := Heap.get?_push_of_some _ (Heap.get?_push_of_some _ (Heap.get?_push_of_some _ (Heap.get?_push_of_some _ (Heap.get?_push_size _ f1))))
  show _ ∧ _
  rw [n2, n3, n4] at g5
  rw [n1, n2] at g3
  rw [n3] at g4
  rw [n1] at g2
  rw [n4]
  exact ⟨⟨_, g5, rfl⟩, q _ g5 g3 g4 (wk_new g1) (wk_new g2) fun c o x => Heap.get?_push_of_some _ (Heap.get?_push_of_some _ (Heap.get?_push_of_some _ (Heap.get?_push_of_some _ (Heap.get?_push_of_some _ x))))⟩
end
/-! the turn, the iterator, the rule -/
def SqW (k : Bool) (K : PySem.W.Frag) (H : Hp) (a : Addr) (xs : List V) : Prop := if k then SqL K H a xs else SqT K H a xs
theorem sqW_src {X : Cx} {pins : List (Addr × Obj)} {σ : L2.St} {H : Hp} {s : Shared} (I : Inv X pins σ H s) {k : Bool} {a : Addr} {xs : List V} (q : SqW k X.K H a xs) : ∃ its, Vals xs its ∧ SrcAt k s.heap a its.toArray ∧ a < s.heap.objs.size := by
  cases k with
  | true => obtain ⟨its, rv, p, _⟩ := I.list (show SqL X.K H a xs from q); exact ⟨its, rv, p.isList, p.lt⟩
  | false =>
    obtain ⟨its, rv, p, _⟩ := I.tuple (show SqT X.K H a xs from q)
    obtain ⟨o, ho, _⟩ := id p
    exact ⟨its, rv, p, Heap.lt_size ho⟩
theorem sqW_inj {X : Cx} {pins : List (Addr × Obj)} {σ : L2.St} {H : Hp} {s : Shared} (I : Inv X pins σ H s) {k : Bool} {a : Addr} {xs ys : List V} (q : SqW k X.K H a xs) (r : SqW k X.K H a ys) : xs = ys := by
  cases k with
  | true => exact I.list_inj (show SqL X.K H a xs from q) (show SqL X.K H a ys from r)
  | false => exact I.tuple_inj (show SqT X.K H a xs from q) (show SqT X.K H a ys from r)
def ItzM (K : PySem.W.Frag) (k1 k2 : Bool) (a b : Addr) : It :=
  ⟨fun i H => ∃ (xs ys : List V) (x y : V), SqW k1 K H a xs ∧ SqW k2 K H b ys ∧ xs[i]? = some x ∧ ys[i]? = some y,
    fun i H v H' => ∃ T x y, v = .ref T ∧ H T = none ∧ H' = upd H T (.tup [x, y]) ∧ (∀ xs, SqW k1 K H a xs → xs[i]? = some x) ∧ ∀ ys, SqW k2 K H b ys → ys[i]? = some y,
    fun i H => ∃ xs ys : List V, SqW k1 K H a xs ∧ SqW k2 K H b ys ∧ (xs.length ≤ i ∨ ys.length ≤ i)⟩
theorem WkAt.lt {k : Bool} {h : Heap} {it l : Addr} {i : Nat} (x : WkAt k h it l i) : it < h.objs.size := by
  cases k with
  | true => obtain ⟨_, e, _⟩ := (show h.IsListIter it l i from x); exact Heap.lt_size e
  | false => obtain ⟨_, e, _⟩ := (show h.IsTupleIter it l i from x); exact Heap.lt_size e
theorem WkAt.fld {k : Bool} {h : Heap} {it l : Addr} {i : Nat} (x : WkAt k h it l i) : ∃ o f, h.get? it = some o ∧ o.data = .fields f := by
  cases k with
  | true => obtain ⟨o, e, _, d⟩ := (show h.IsListIter it l i from x); exact ⟨o, _, e, d⟩
  | false => obtain ⟨o, e, _, d⟩ := (show h.IsTupleIter it l i from x); exact ⟨o, _, e, d⟩
theorem turn_zipM {P : Program} {w : World} {K : PySem.W.Frag} {elts : List Expr} {kk : Nat} {tpos : Pos} {k1 k2 : Bool} {a b z TI TO i1 i2 : Addr} (D : ZipApart z TI TO i1 i2 a b) :
    Turn P w K (.Tuple elts kk tpos) (ItzM K k1 k2 a b) [z, TI, TO, i1, i2] z (fun i h => IsZip h z TI TO .none ∧ IsPair h TI (.ref i1) (.ref i2) ∧ (∃ x y, IsPair h TO x y) ∧ WkAt k1 h i1 a i ∧ WkAt k2 h i2 b i) where
  mem := by simp
  obj := fun i h st c hc => by
    obtain ⟨hz, hTI, ⟨x, y, hTO⟩, w1, w2⟩ := st
    obtain ⟨o1, f1, e1, d1⟩ := w1.fld
    obtain ⟨o2, f2, e2, d2⟩ := w2.fld
    have e' : c = z ∨ c = TI ∨ c = TO ∨ c = i1 ∨ c = i2 := by simpa using hc
    rcases e' with q | q | q | q | q
    · rw [q]; exact ⟨_, hz, fun v q => nomatch q⟩
    · rw [q]; exact ⟨_, hTI, fun v q => nomatch q⟩
    · rw [q]; exact ⟨_, hTO, fun v q => nomatch q⟩
    · rw [q]; exact ⟨o1, e1, fun v q => by rw [d1] at q; cases q⟩
    · rw [q]; exact ⟨o2, e2, fun v q => by rw [d2] at q; cases q⟩
  keep := fun i h h' st k => by
    obtain ⟨hz, hTI, ⟨x, y, hTO⟩, h1, h2⟩ := st
    exact ⟨k z (by simp) _ hz, k TI (by simp) _ hTI, ⟨x, y, k TO (by simp) _ hTO⟩, h1.moved fun o q => k i1 (by simp) o q, h2.moved fun o q => k i2 (by simp) o q⟩
  item := by
    intro X hP hw hK hc i pins s σ H E I hf st hg
    subst hP hw hK
    obtain ⟨hz, hTI, ⟨x0, y0, hTO⟩, h1, h2⟩ := st
    obtain ⟨xs, ys, x, y, hqx, hqy, hx, hy⟩ := hg
    obtain ⟨its, rv, p, _⟩ := sqW_src I hqx
    obtain ⟨its2, rv2, p2, _⟩ := sqW_src I hqy
    obtain ⟨u, hu, ru⟩ := rv.get hx
    obtain ⟨u2, hu2, ru2⟩ := rv2.get hy
    have hzl : z < s.heap.objs.size := Heap.lt_size hz
    refine pn_item D hz hTI hTO h1 h2 p p2 (x := u) (y := u2) (by simpa using hu) (by simpa using hu2) fun h' z' TO' h1' h2' hT hsz hk => ?_
    refine ⟨_, rfl, wpAny_letOwnedTupleGo_zip (s := { s with heap := h' }) z' fun h'' z'' sb => ?_⟩
    have hT2 : h''.get? s.heap.objs.size = some { cls := .type "tuple", data := .seq #[u, u2] } := (sb.2 _ (Nat.ne_of_gt hzl)).trans hT
    have new : ObjOk X.prog X.w (upd H s.heap.objs.size (.tup [x, y])) h'' s.heap.objs.size (.tup [x, y]) :=
      ⟨by show 2 ≤ sizeLine; decide, [u, u2], .cons ru (.cons ru2 .nil), ⟨_, hT2, rfl, _, rfl⟩⟩
    have I1 : Inv X pins σ (upd H s.heap.objs.size (.tup [x, y])) { s with heap := h'' } :=
      I.turnedNew (t' := s.toks) (ch := [z, TI, TO, i1, i2]) (fun c o hb q => (sb.2 c (fun q' => hb (by simp [q']))).trans (hk c o (fun q' => hb (by simp [q'])) (fun q' => hb (by simp [q'])) (fun q' => hb (by simp [q'])) (fun q' => hb (by simp [q'])) q)) hf (Nat.le_refl _) new
    refine ⟨.ref s.heap.objs.size, _, I1, rfl, ⟨_, x, y, rfl, I.hok.fresh (Nat.le_refl _), rfl, fun l hl => by rw [sqW_inj I hl hqx]; exact hx, fun l hl => by rw [sqW_inj I hl hqy]; exact hy⟩, ⟨z'', ?_, ⟨u, u2, ?_⟩, ?_, ?_⟩, fun c hcm => ?_⟩
    · exact (sb.2 _ D.TIz).trans (hk _ _ D.TIz D.TITO D.TIi1 D.TIi2 hTI)
    · exact (sb.2 _ D.TOz).trans TO'
    · exact h1'.moved fun o q => (sb.2 _ D.i1z).trans q
    · exact h2'.moved fun o q => (sb.2 _ D.i2z).trans q
    · have hlt : c < s.heap.objs.size := by
        have e' : c = z ∨ c = TI ∨ c = TO ∨ c = i1 ∨ c = i2 := by simpa using hcm
        rcases e' with q | q | q | q | q
        · rw [q]; exact hzl
        · rw [q]; exact Heap.lt_size hTI
        · rw [q]; exact Heap.lt_size hTO
        · rw [q]; exact h1.lt
        · rw [q]; exact h2.lt
      rw [upd_ne (Nat.ne_of_lt hlt)]
      exact (hf c hcm).1
  done := by
    intro X hP hw hK hc i pins s σ H E I hf st hg
    subst hP hw hK
    obtain ⟨hz, hTI, ⟨x0, y0, hTO⟩, h1, h2⟩ := st
    obtain ⟨xs, ys, hqx, hqy, hend⟩ := hg
    obtain ⟨its, rv, p, _⟩ := sqW_src I hqx
    obtain ⟨its2, rv2, p2, _⟩ := sqW_src I hqy
    have l1 := rv.length
    have l2 := rv2.length
    have he : its.toArray[i]? = none ∨ its2.toArray[i]? = none := by
      rcases hend with q | q
      · exact .inl (by simp; omega)
      · exact .inr (by simp; omega)
    exact pn_end (I.ok.hd hc) D hz hTI hTO h1 h2 p p2 he fun h' hk => ⟨rfl, I.turnedL (t' := s.toks) (ch := [z, TI, TO, i1, i2]) (fun c o hb q =>
      hk c o (fun q' => hb (by simp [q'])) (fun q' => hb (by simp [q'])) (fun q' => hb (by simp [q'])) (fun q' => hb (by simp [q'])) q) hf⟩
  self := fun A i s Q E st h => wpAny_pyIter_zip st.1 h
def iZipM (K : PySem.W.Frag) (ta : TA) : L2.TI := fun σ H R => ta σ H fun vs H1 => ∃ k1 k2 a b xs ys, vs = [.ref a, .ref b] ∧ SqW k1 K H1 a xs ∧ SqW k2 K H1 b ys ∧ R (ItzM K k1 k2 a b) H1
theorem pi_zipM {X : Cx} {e e2 : Expr} {ta : TA} {p pos tpos : Pos} {elts : List Expr} {kk : Nat} (hg : Gl X "zip") (hm : X.mg "zip" = none) (ha : PA X [e, e2] ta)
    (hs : starEach [e, e2] X.env = (false, eval e X.env) :: starEach [e2] X.env := by rfl) (hpl : (backTo pos (starEach [e2] X.env)).any (·.1) = false := by rfl) :
    PI X (.Tuple elts kk tpos) (.Call (.Name "zip" p) [e, e2] [] pos) (iZipM X.K ta) := by
  refine ⟨fun pins s σ H R I h => ?_⟩
  refine Call_ (ld_blt I hg hm PyProof.Rows.boot_zip (PyProof.Rows.callWith_type1 (thn (ha.run pos pins s σ H _ I h) fun us s1 ⟨vs, H1, I1, r1, q1⟩ => ?_) hs hpl))
  obtain ⟨k1, k2, a, b, xs, ys, ex, hqx, hqy, q⟩ := q1
  subst ex
  cases r1 with
  | cons r rr =>
    cases rr with
    | cons r' rr =>
      cases rr
      cases r
      cases r'
      have fresh5 : ∀ c, c ∈ [s1.heap.objs.size + 4, s1.heap.objs.size + 2, s1.heap.objs.size + 3, s1.heap.objs.size, s1.heap.objs.size + 1] → FpOk X pins H1 c := fun c hcm => by
        have e' : c = s1.heap.objs.size + 4 ∨ c = s1.heap.objs.size + 2 ∨ c = s1.heap.objs.size + 3 ∨ c = s1.heap.objs.size ∨ c = s1.heap.objs.size + 1 := by simpa using hcm
        have hle : s1.heap.objs.size ≤ c := by
          rcases e' with z | z | z | z | z
          · rw [z]; exact Nat.le_add_right _ _
          · rw [z]; exact Nat.le_add_right _ _
          · rw [z]; exact Nat.le_add_right _ _
          · rw [z]; exact Nat.le_refl _
          · rw [z]; exact Nat.le_add_right _ _
        exact I1.fpOk hle (I1.hok.fresh hle)
      obtain ⟨its, rv, p1, lt1⟩ := sqW_src I1 hqx
      obtain ⟨its2, rv2, p2, lt2⟩ := sqW_src I1 hqy
      refine call_mz p1 p2 fun h' hz hTI hTO h1 h2 hk => wpAny_pyIter_zip hz ?_
      have I2 : Inv X pins σ H1 { s1 with heap := h' } := I1.kept (t' := s1.toks) hk
      exact ⟨s1.heap.objs.size + 4, [s1.heap.objs.size + 4, s1.heap.objs.size + 2, s1.heap.objs.size + 3, s1.heap.objs.size, s1.heap.objs.size + 1], _, _, H1, rfl, I2, turn_zipM (PySem.W.ktu_apart s1.heap.objs.size a b lt1 lt2), ⟨hz, hTI, ⟨_, _, hTO⟩, h1, h2⟩, fresh5, q⟩
theorem sqW_mono {k : Bool} {K : PySem.W.Frag} {F H : Hp} {a : Addr} {xs : List V} (h : Same F H) (q : SqW k K F a xs) : SqW k K H a xs := by
  cases k with
  | true => exact sqL_mono h q
  | false => exact sqT_mono h q
theorem itzM_ok {K : PySem.W.Frag} {F : Hp} {k1 k2 : Bool} {ds es : List PyData} {a b : Addr} {xs ys : List V} (q : SqW k1 K F a xs) (rp : RpAll K F ds xs) (q2 : SqW k2 K F b ys) (rp2 : RpAll K F es ys) : ItOk K inv0 F (zipD ds es) (ItzM K k1 k2 a b) where
  go := fun i Fk Hk hi sf sh _ => by
    have hl := rp.len
    have hl2 := rp2.len
    rw [zipD_len] at hi
    exact ⟨xs, ys, xs[i]'(by omega), ys[i]'(by omega), sqW_mono sh (sqW_mono sf q), sqW_mono sh (sqW_mono sf q2), List.getElem?_eq_getElem _, List.getElem?_eq_getElem _⟩
  stop := fun Fk Hk sf sh _ => ⟨xs, ys, sqW_mono sh (sqW_mono sf q), sqW_mono sh (sqW_mono sf q2), by rw [zipD_len, rp.len, rp2.len]; omega⟩
  yld := fun i d Fk Hk x H' hd sf sh _ y => by
    obtain ⟨p, u, u2, rfl, hp, rfl, y, y2⟩ := y
    obtain ⟨d', e', h1, h1', rfl⟩ := zipD_get _ _ _ _ hd
    obtain ⟨v, h2, h3⟩ := rp.get h1
    obtain ⟨v2, h4, h5⟩ := rp2.get h1'
    have := y xs (sqW_mono sh (sqW_mono sf q))
    rw [h2] at this; cases this
    have := y2 ys (sqW_mono sh (sqW_mono sf q2))
    rw [h4] at this; cases this
    exact pair_new sh (h3.mono sf) (h5.mono sf) hp
theorem rp_sqW {K : PySem.W.Frag} {F : Hp} {d : PyData} {ds : List PyData} {x : V} (e : seqOf d = some ds) (r : Rp K F d x) : ∃ k a xs, x = .ref a ∧ SqW k K F a xs ∧ RpAll K F ds xs := by
  rcases seqOf_eq e with e | e
  · subst e
    simp only [Rp] at r
    obtain ⟨p', xs, rfl, q1, w⟩ := r
    exact ⟨true, p', xs, rfl, q1, w⟩
  · subst e
    simp only [Rp] at r
    obtain ⟨p', xs, rfl, q1, w⟩ := r
    exact ⟨false, p', xs, rfl, q1, w⟩
section
variable {C : Cn} {X : Cx}
theorem pid_zipM {tg e : Expr} {f g : FE} (hK : C.K = X.K) (h : PI X tg e (iZipM X.K (tCons (tD C f) (tCons (tD C g) tNil)))) : PI X tg e (tI C (iZ f g)) := by
  refine h.impD fun σ H R ⟨η, F, fp, o, q⟩ => ?_
  refine tD_step o.aft (Rs.post_mono (Rs.post_bind q) (fun p hp x F1 H1 f1 fp1 a => ?_) fun _ _ z => z)
  refine tD_step a (Rs.post_mono (Rs.post_bind hp) (fun p2 hp2 y F2 H2 f2 fp2 b => ?_) fun _ _ z => z)
  obtain ⟨F3, a2, rp⟩ := b.freeze
  simp only [List.nil_append, List.cons_append, T.vals, RpAll] at rp
  obtain ⟨x', xs, e1, r1, y', ys, rfl, r2, rfl⟩ := rp
  obtain ⟨rfl, rfl⟩ : x = x' ∧ y = y' := by simpa using e1
  split at hp2
  · rename_i ds es e1 e2
    obtain ⟨k1, p', xs, rfl, q1, w⟩ := rp_sqW e1 r1
    obtain ⟨k2, p2', ys, rfl, q2, w2⟩ := rp_sqW e2 r2
    refine ⟨k1, k2, p', p2', xs, ys, rfl, by rw [← hK]; exact sqW_mono a2.fh q1, by rw [← hK]; exact sqW_mono a2.fh q2, hp2 F3 H2 fp2 _ a2 ?_⟩
    rw [← hK]
    exact itzM_ok q1 w q2 w2
  · exact hp2.elim
end
end Pv
set_option Elab.async false
set_option linter.all false
set_option maxRecDepth 100000
set_option maxHeartbeats 4000000
/-! zip of three, lists and tuples in any mix -/
namespace Pv
open PySem L2 RZ PySem.Spec PyProof.Rows
theorem drawsW {prog : Program} {w : World} {A : Around} (k : Bool) (hh : A.handled = none) (it l : Addr) (hne : l ≠ it) (items : Array Value) :
    Draws prog w A it [it, l] items.size (fun i v => items[i]? = some v) (fun i h => WkAt k h it l i ∧ SrcAt k h l items) := by
  cases k with
  | true => exact Draws.list hh it l hne items
  | false => exact Draws.tuple hh it l hne items
theorem beginsW (k : Bool) (l : Addr) (items : Array Value) : Begins (.ref l) (wkObj k l) fun h => SrcAt k h l items := by
  cases k with
  | true => exact begins_list l items
  | false => exact begins_tuple l items
def It3 (K : PySem.W.Frag) (k1 k2 k3 : Bool) (a b c : Addr) : It :=
  ⟨fun i H => ∃ (xs ys zs : List V) (x y z : V), (SqW k1 K H a xs ∧ SqW k2 K H b ys ∧ SqW k3 K H c zs) ∧ xs[i]? = some x ∧ ys[i]? = some y ∧ zs[i]? = some z,
    fun i H v H' => ∃ T x y z, v = .ref T ∧ H T = none ∧ H' = upd H T (.tup [x, y, z]) ∧ (∀ xs, SqW k1 K H a xs → xs[i]? = some x) ∧ (∀ ys, SqW k2 K H b ys → ys[i]? = some y) ∧ ∀ zs, SqW k3 K H c zs → zs[i]? = some z,
    fun i H => ∃ xs ys zs : List V, (SqW k1 K H a xs ∧ SqW k2 K H b ys ∧ SqW k3 K H c zs) ∧ (i ≤ xs.length ∧ i ≤ ys.length ∧ i ≤ zs.length) ∧ (xs.length = i ∨ ys.length = i ∨ zs.length = i)⟩
theorem turn_zip3 {P : Program} {w : World} {K : PySem.W.Frag} {elts : List Expr} {kk : Nat} {tpos : Pos} {k1 k2 k3 : Bool} {a b c z TI TO i1 i2 i3 : Addr} (S : ZipSep3 z TI TO i1 i2 i3 [i1, a] [i2, b] [i3, c]) (ha : a ≠ i1) (hb : b ≠ i2) (hc : c ≠ i3) :
    Turn P w K (.Tuple elts kk tpos) (It3 K k1 k2 k3 a b c) [z, TI, TO, i1, i2, i3] z (fun i h => IsZip h z TI TO .none ∧ IsTupOf3 h TI (.ref i1) (.ref i2) (.ref i3) ∧ (∃ x y u, IsTupOf3 h TO x y u) ∧ WkAt k1 h i1 a i ∧ WkAt k2 h i2 b i ∧ WkAt k3 h i3 c i) where
  mem := by simp
  obj := fun i h st d hd => by
    obtain ⟨hz, hTI, ⟨x, y, u, hTO⟩, w1, w2, w3⟩ := st
    obtain ⟨o1, f1, e1, d1⟩ := w1.fld
    obtain ⟨o2, f2, e2, d2⟩ := w2.fld
    obtain ⟨o3, f3, e3, d3⟩ := w3.fld
    have e' : d = z ∨ d = TI ∨ d = TO ∨ d = i1 ∨ d = i2 ∨ d = i3 := by simpa using hd
    rcases e' with q | q | q | q | q | q
    · rw [q]; exact ⟨_, hz, fun v q => nomatch q⟩
    · rw [q]; exact ⟨_, hTI, fun v q => nomatch q⟩
    · rw [q]; exact ⟨_, hTO, fun v q => nomatch q⟩
    · rw [q]; exact ⟨o1, e1, fun v q => by rw [d1] at q; cases q⟩
    · rw [q]; exact ⟨o2, e2, fun v q => by rw [d2] at q; cases q⟩
    · rw [q]; exact ⟨o3, e3, fun v q => by rw [d3] at q; cases q⟩
  keep := fun i h h' st k => by
    obtain ⟨hz, hTI, ⟨x, y, u, hTO⟩, h1, h2, h3⟩ := st
    exact ⟨k z (by simp) _ hz, k TI (by simp) _ hTI, ⟨x, y, u, k TO (by simp) _ hTO⟩, h1.moved fun o q => k i1 (by simp) o q, h2.moved fun o q => k i2 (by simp) o q, h3.moved fun o q => k i3 (by simp) o q⟩
  item := by
    intro X hP hw hK hcm i pins s σ H E I hf st hg
    subst hP hw hK
    obtain ⟨hz, hTI, ⟨x0, y0, u0, hTO⟩, h1, h2, h3⟩ := st
    obtain ⟨xs, ys, zs, x, y, zz, ⟨hqx, hqy, hqz⟩, hx, hy, hzz⟩ := hg
    obtain ⟨its, rv, p, _⟩ := sqW_src I hqx
    obtain ⟨its2, rv2, p2, _⟩ := sqW_src I hqy
    obtain ⟨its3, rv3, p3, _⟩ := sqW_src I hqz
    obtain ⟨v1, hv1, ru⟩ := rv.get hx
    obtain ⟨v2, hv2, ru2⟩ := rv2.get hy
    obtain ⟨v3, hv3, ru3⟩ := rv3.get hzz
    have hzl : z < s.heap.objs.size := Heap.lt_size hz
    have hh : X.A.in1.handled = none := I.ok.hd hcm
    have l1 := (List.getElem?_eq_some_iff.mp hv1).1
    have l2 := (List.getElem?_eq_some_iff.mp hv2).1
    have l3 := (List.getElem?_eq_some_iff.mp hv3).1
    refine wpAny_pyNext_zipD3_item (i := i) S (drawsW k1 hh i1 a ha its.toArray) (drawsW k2 hh i2 b hb its2.toArray) (drawsW k3 hh i3 c hc its3.toArray) hz hTI hTO ⟨h1, p⟩ ⟨h2, p2⟩ ⟨h3, p3⟩ (by simpa using l1) (by simpa using l2) (by simpa using l3) fun x1 x2 x3 h' tk q1 q2 q3 z' TO' s1 s2 s3 hT hsz hk => ?_
    have e1 : v1 = x1 := by
      have : its.toArray[i]? = some v1 := by simpa using hv1
      rw [this] at q1; exact Option.some.inj q1
    have e2 : v2 = x2 := by
      have : its2.toArray[i]? = some v2 := by simpa using hv2
      rw [this] at q2; exact Option.some.inj q2
    have e3 : v3 = x3 := by
      have : its3.toArray[i]? = some v3 := by simpa using hv3
      rw [this] at q3; exact Option.some.inj q3
    subst e1 e2 e3
    refine ⟨_, rfl, wpAny_letOwnedTupleGo_zip (s := { s with heap := h', toks := tk }) z' fun h'' z'' sb => ?_⟩
    have hT2 : h''.get? s.heap.objs.size = some { cls := .type "tuple", data := .seq #[v1, v2, v3] } := (sb.2 _ (Nat.ne_of_gt hzl)).trans hT
    have new : ObjOk X.prog X.w (upd H s.heap.objs.size (.tup [x, y, zz])) h'' s.heap.objs.size (.tup [x, y, zz]) :=
      ⟨by show 3 ≤ sizeLine; decide, [v1, v2, v3], .cons ru (.cons ru2 (.cons ru3 .nil)), ⟨_, hT2, rfl, _, rfl⟩⟩
    have I1 : Inv X pins σ (upd H s.heap.objs.size (.tup [x, y, zz])) { s with heap := h'', toks := tk } :=
      I.turnedNew (t' := tk) (ch := [z, TI, TO, i1, i2, i3]) (fun d o hd q => (sb.2 d (fun q' => hd (by simp [q']))).trans (hk d o (fun q' => hd (by simp [q'])) (fun q' => hd (by simp [q'])) (fun q' => hd (by simp [q'])) (fun q' => hd (by simp [q'])) (fun q' => hd (by simp [q'])) q)) hf (Nat.le_refl _) new
    refine ⟨.ref s.heap.objs.size, _, I1, rfl, ⟨_, x, y, zz, rfl, I.hok.fresh (Nat.le_refl _), rfl, fun l hl => by rw [sqW_inj I hl hqx]; exact hx, fun l hl => by rw [sqW_inj I hl hqy]; exact hy, fun l hl => by rw [sqW_inj I hl hqz]; exact hzz⟩, ⟨z'', ?_, ⟨v1, v2, v3, ?_⟩, ?_, ?_, ?_⟩, fun d hdm => ?_⟩
    · exact (sb.2 _ S.TIz).trans (hk _ _ S.TIz S.TITO S.TIi1 S.TIi2 S.TIi3 hTI)
    · exact (sb.2 _ S.TOz).trans TO'
    · exact s1.1.moved fun o q => (sb.2 _ S.zi1.symm).trans q
    · exact s2.1.moved fun o q => (sb.2 _ S.zi2.symm).trans q
    · exact s3.1.moved fun o q => (sb.2 _ S.zi3.symm).trans q
    · have hlt : d < s.heap.objs.size := by
        have e' : d = z ∨ d = TI ∨ d = TO ∨ d = i1 ∨ d = i2 ∨ d = i3 := by simpa using hdm
        rcases e' with q | q | q | q | q | q
        · rw [q]; exact hzl
        · rw [q]; exact Heap.lt_size hTI
        · rw [q]; exact Heap.lt_size hTO
        · rw [q]; exact h1.lt
        · rw [q]; exact h2.lt
        · rw [q]; exact h3.lt
      rw [upd_ne (Nat.ne_of_lt hlt)]
      exact (hf d hdm).1
  done := by
    intro X hP hw hK hcm i pins s σ H E I hf st hg
    subst hP hw hK
    obtain ⟨hz, hTI, ⟨x0, y0, u0, hTO⟩, h1, h2, h3⟩ := st
    obtain ⟨xs, ys, zs, ⟨hqx, hqy, hqz⟩, ⟨g1, g2, g3⟩, hend⟩ := hg
    obtain ⟨its, rv, p, _⟩ := sqW_src I hqx
    obtain ⟨its2, rv2, p2, _⟩ := sqW_src I hqy
    obtain ⟨its3, rv3, p3, _⟩ := sqW_src I hqz
    have l1 := rv.length
    have l2 := rv2.length
    have l3 := rv3.length
    have hh : X.A.in1.handled = none := I.ok.hd hcm
    exact wpAny_pyNext_zipD3_end (i := i) S (drawsW k1 hh i1 a ha its.toArray) (drawsW k2 hh i2 b hb its2.toArray) (drawsW k3 hh i3 c hc its3.toArray) hz hTI hTO ⟨h1, p⟩ ⟨h2, p2⟩ ⟨h3, p3⟩ (by rw [List.size_toArray]; omega) (by rw [List.size_toArray]; omega) (by rw [List.size_toArray]; omega) (by simp only [List.size_toArray]; omega) fun h' tk hk => ⟨rfl, I.turnedL (t' := tk) (ch := [z, TI, TO, i1, i2, i3]) (fun d o hd q =>
      hk d o (fun q' => hd (by simp [q'])) (fun q' => hd (by simp [q'])) (fun q' => hd (by simp [q'])) (fun q' => hd (by simp [q'])) (fun q' => hd (by simp [q'])) q) hf⟩
  self := fun A i s Q E st h => wpAny_pyIter_zip st.1 h
def iZip3 (K : PySem.W.Frag) (ta : TA) : L2.TI := fun σ H R => ta σ H fun vs H1 => ∃ k1 k2 k3 a b c xs ys zs, vs = [.ref a, .ref b, .ref c] ∧ SqW k1 K H1 a xs ∧ SqW k2 K H1 b ys ∧ SqW k3 K H1 c zs ∧ R (It3 K k1 k2 k3 a b c) H1
theorem pi_zip3 {X : Cx} {e e2 e3 : Expr} {ta : TA} {p pos tpos : Pos} {elts : List Expr} {kk : Nat} (hg : Gl X "zip") (hm : X.mg "zip" = none) (ha : PA X [e, e2, e3] ta)
    (hs : starEach [e, e2, e3] X.env = (false, eval e X.env) :: starEach [e2, e3] X.env := by rfl) (hpl : (backTo pos (starEach [e2, e3] X.env)).any (·.1) = false := by rfl) :
    PI X (.Tuple elts kk tpos) (.Call (.Name "zip" p) [e, e2, e3] [] pos) (iZip3 X.K ta) := by
  refine ⟨fun pins s σ H R I h => ?_⟩
  refine Call_ (ld_blt I hg hm PyProof.Rows.boot_zip (PyProof.Rows.callWith_type1 (thn (ha.run pos pins s σ H _ I h) fun us s1 ⟨vs, H1, I1, r1, q1⟩ => ?_) hs hpl))
  obtain ⟨k1, k2, k3, a, b, c, xs, ys, zs, ex, hqx, hqy, hqz, q⟩ := q1
  subst ex
  cases r1 with
  | cons r rr =>
    cases rr with
    | cons r' rr =>
      cases rr with
      | cons r'' rr =>
        cases rr
        cases r
        cases r'
        cases r''
        obtain ⟨its, rv, p1, lt1⟩ := sqW_src I1 hqx
        obtain ⟨its2, rv2, p2, lt2⟩ := sqW_src I1 hqy
        obtain ⟨its3, rv3, p3, lt3⟩ := sqW_src I1 hqz
        generalize hN : s1.heap.objs.size = N at lt1 lt2 lt3
        have fresh6 : ∀ d, d ∈ [N + 5, N + 3, N + 4, N, N + 1, N + 2] → FpOk X pins H1 d := fun d hdm => by
          have e' : d = N + 5 ∨ d = N + 3 ∨ d = N + 4 ∨ d = N ∨ d = N + 1 ∨ d = N + 2 := by simpa using hdm
          have hle : N ≤ d := by
            rcases e' with z | z | z | z | z | z
            · rw [z]; exact Nat.le_add_right _ _
            · rw [z]; exact Nat.le_add_right _ _
            · rw [z]; exact Nat.le_add_right _ _
            · rw [z]; exact Nat.le_refl _
            · rw [z]; exact Nat.le_add_right _ _
            · rw [z]; exact Nat.le_add_right _ _
          exact I1.fpOk (by rw [hN]; exact hle) (I1.hok.fresh (by rw [hN]; exact hle))
        refine zip_begins3 (beginsW k1 a its.toArray) (beginsW k2 b its2.toArray) (beginsW k3 c its3.toArray) p1 p2 p3 fun h' hz hTI hTO g1 g2 g3 hsz hk => wpAny_pyIter_zip hz ?_
        have I2 : Inv X pins σ H1 { s1 with heap := h' } := I1.kept (t' := s1.toks) hk
        rw [hN] at hz hTI hTO g1 g2 g3 ⊢
        have S : ZipSep3 (N + 5) (N + 3) (N + 4) N (N + 1) (N + 2) [N, a] [N + 1, b] [N + 2, c] := zip_sep3 (fp1 := [a]) (fp2 := [b]) (fp3 := [c]) (fun d hd => by rw [List.mem_singleton.mp hd]; exact lt1) (fun d hd => by rw [List.mem_singleton.mp hd]; exact lt2) (fun d hd => by rw [List.mem_singleton.mp hd]; exact lt3)
        exact ⟨N + 5, [N + 5, N + 3, N + 4, N, N + 1, N + 2], _, _, H1, rfl, I2, turn_zip3 S (Nat.ne_of_lt lt1) (Nat.ne_of_lt (Nat.lt_succ_of_lt lt2)) (Nat.ne_of_lt (Nat.lt_succ_of_lt (Nat.lt_succ_of_lt lt3))), ⟨hz, hTI, ⟨_, _, _, hTO⟩, wk_new g1, wk_new g2, wk_new g3⟩, fresh6, q⟩
def zip3D : List PyData → List PyData → List PyData → List PyData
  | a :: as, b :: bs, c :: cs => .tuple [a, b, c] :: zip3D as bs cs
  | _, _, _ => []
theorem zip3D_len : ∀ (as bs cs : List PyData), (zip3D as bs cs).length = min (min as.length bs.length) cs.length
  | [], _, _ => by simp [zip3D]
  | _ :: _, [], _ => by simp [zip3D]
  | _ :: _, _ :: _, [] => by simp [zip3D]
  | a :: as, b :: bs, c :: cs => by
    simp only [zip3D, List.length_cons, zip3D_len as bs cs]
    omega
theorem zip3D_get : ∀ (as bs cs : List PyData) (i : Nat) (e : PyData), (zip3D as bs cs)[i]? = some e → ∃ a b c, as[i]? = some a ∧ bs[i]? = some b ∧ cs[i]? = some c ∧ e = .tuple [a, b, c]
  | [], _, _, i, e, h => by simp [zip3D] at h
  | _ :: _, [], _, i, e, h => by simp [zip3D] at h
  | _ :: _, _ :: _, [], i, e, h => by simp [zip3D] at h
  | a :: as, b :: bs, c :: cs, 0, e, h => by
    simp only [zip3D, List.getElem?_cons_zero, Option.some.injEq] at h
    exact ⟨a, b, c, rfl, rfl, rfl, h.symm⟩
  | a :: as, b :: bs, c :: cs, i + 1, e, h => by
    simp only [zip3D, List.getElem?_cons_succ] at h
    obtain ⟨a', b', c', h1, h2, h3, h4⟩ := zip3D_get as bs cs i e h
    exact ⟨a', b', c', by simpa using h1, by simpa using h2, by simpa using h3, h4⟩
theorem it3_ok {K : PySem.W.Frag} {F : Hp} {k1 k2 k3 : Bool} {ds es gs : List PyData} {a b c : Addr} {xs ys zs : List V} (q : SqW k1 K F a xs) (rp : RpAll K F ds xs) (q2 : SqW k2 K F b ys) (rp2 : RpAll K F es ys) (q3 : SqW k3 K F c zs) (rp3 : RpAll K F gs zs) : ItOk K inv0 F (zip3D ds es gs) (It3 K k1 k2 k3 a b c) where
  go := fun i Fk Hk hi sf sh _ => by
    have hl := rp.len
    have hl2 := rp2.len
    have hl3 := rp3.len
    rw [zip3D_len] at hi
    exact ⟨xs, ys, zs, xs[i]'(by omega), ys[i]'(by omega), zs[i]'(by omega), ⟨sqW_mono sh (sqW_mono sf q), sqW_mono sh (sqW_mono sf q2), sqW_mono sh (sqW_mono sf q3)⟩, List.getElem?_eq_getElem _, List.getElem?_eq_getElem _, List.getElem?_eq_getElem _⟩
  stop := fun Fk Hk sf sh _ => by
    have hl := rp.len
    have hl2 := rp2.len
    have hl3 := rp3.len
    rw [zip3D_len]
    exact ⟨xs, ys, zs, ⟨sqW_mono sh (sqW_mono sf q), sqW_mono sh (sqW_mono sf q2), sqW_mono sh (sqW_mono sf q3)⟩, by omega, by omega⟩
  yld := fun i d Fk Hk x H' hd sf sh _ y => by
    obtain ⟨p, u, u2, u3, rfl, hp, rfl, y, y2, y3⟩ := y
    obtain ⟨d', e', g', h1, h1', h1'', rfl⟩ := zip3D_get _ _ _ _ _ hd
    obtain ⟨v, h2, h3⟩ := rp.get h1
    obtain ⟨v2, h4, h5⟩ := rp2.get h1'
    obtain ⟨v3, h6, h7⟩ := rp3.get h1''
    have := y xs (sqW_mono sh (sqW_mono sf q))
    rw [h2] at this; cases this
    have := y2 ys (sqW_mono sh (sqW_mono sf q2))
    rw [h4] at this; cases this
    have := y3 zs (sqW_mono sh (sqW_mono sf q3))
    rw [h6] at this; cases this
    exact ⟨_, .tup sh (.consI (h3.mono sf) (.consI (h5.mono sf) (.one (h7.mono sf)))) hp⟩
/-- zip of three -/
def iZ3 (f g h : FE) : FI := fun η => (f η).bind fun p => (g p.2).bind fun q => (h q.2).bind fun r => match seqOf p.1.val, seqOf q.1.val, seqOf r.1.val with
  | some ds, some es, some gs => .ok (zip3D ds es gs, r.2)
  | _, _, _ => .bad
section
variable {C : Cn} {X : Cx}
theorem pid_zip3 {tg e : Expr} {f g h : FE} (hK : C.K = X.K) (hi : PI X tg e (iZip3 X.K (tCons (tD C f) (tCons (tD C g) (tCons (tD C h) tNil))))) : PI X tg e (tI C (iZ3 f g h)) := by
  refine hi.impD fun σ H R ⟨η, F, fp, o, q⟩ => ?_
  refine tD_step o.aft (Rs.post_mono (Rs.post_bind q) (fun p hp x F1 H1 f1 fp1 a => ?_) fun _ _ z => z)
  refine tD_step a (Rs.post_mono (Rs.post_bind hp) (fun p2 hp2 y F2 H2 f2 fp2 b => ?_) fun _ _ z => z)
  refine tD_step b (Rs.post_mono (Rs.post_bind hp2) (fun p3 hp3 z F3 H3 f3 fp3 c => ?_) fun _ _ z => z)
  obtain ⟨F4, a2, rp⟩ := c.freeze
  simp only [List.nil_append, List.cons_append, T.vals, RpAll] at rp
  obtain ⟨x', xs, e1, r1, y', ys, rfl, r2, z', zs, rfl, r3, rfl⟩ := rp
  obtain ⟨rfl, rfl, rfl⟩ : x = x' ∧ y = y' ∧ z = z' := by simpa using e1
  split at hp3
  · rename_i ds es gs e1 e2 e3
    obtain ⟨k1, p', xs, rfl, q1, w⟩ := rp_sqW e1 r1
    obtain ⟨k2, p2', ys, rfl, q2, w2⟩ := rp_sqW e2 r2
    obtain ⟨k3, p3', zs, rfl, q3, w3⟩ := rp_sqW e3 r3
    refine ⟨k1, k2, k3, p', p2', p3', xs, ys, zs, rfl, by rw [← hK]; exact sqW_mono a2.fh q1, by rw [← hK]; exact sqW_mono a2.fh q2, by rw [← hK]; exact sqW_mono a2.fh q3, hp3 F4 H3 fp3 _ a2 ?_⟩
    rw [← hK]
    exact it3_ok q1 w q2 w2 q3 w3
  · exact hp3.elim
end
end Pv
set_option Elab.async false
set_option linter.all false
set_option maxRecDepth 100000
set_option maxHeartbeats 4000000
namespace Pv
open PySem L2 PyProof.Rows
/-! ### a def's meaning, by its body's -/
def gP (N n : Nat) (fb : FS) (ds : List PyData) : Option T := if ds.length = n then (retOf (fb (startE N (ds.map T.sh)))).map (·.1) else none
theorem gP_len {N n : Nat} {fb : FS} {ds : List PyData} {t : T} (h : gP N n fb ds = some t) : ds.length = n := by
  unfold gP at h
  split at h
  · assumption
  · cases h
def gIO (N n : Nat) (fb : FS) (t0 : T) (ds : List PyData) : Option (T × T) := if ds.length + 1 = n then match retOf (fb (startE N (t0 :: ds.map T.sh))) with
    | some (t, η) => match η[0]? with
      | some (some t1) => some (t, t1)
      | _ => none
    | none => none
  else none
theorem gIO_len {N n : Nat} {fb : FS} {t0 : T} {ds : List PyData} {r : T × T} (h : gIO N n fb t0 ds = some r) : ds.length + 1 = n := by
  unfold gIO at h
  split at h
  · assumption
  · cases h
theorem pe_gty {X : Cx} {x : Str} {n : String} {pos : Pos} (hg : Gl X x) (hm : X.mg x = none) (hv : bootBuiltins x = some (.type n)) (hn : x ≠ "__name__" := by decide) (hd : (x == ("__debug__" : Str)) = false := by decide) : PE X (.Name x pos) (tC (.ty n)) :=
  ⟨fun pins s σ H Q I h => ld_blt I hg hm hv ⟨.ty n, H, I, rfl, h⟩ hn hd⟩
structure Tp (fa : List He.Fa) (fn : List He.DefD) (K : PySem.W.Frag) (mg : Str → Option Value) : Prop where
  h : ∃ h : Heap, K.In h ∧ h.Ns mainGlobals mg
  c : He.SaysD fa fn K
section
variable {fa : List He.Fa} {fn : List He.DefD} {K : PySem.W.Frag} {mg : Str → Option Value}
theorem Tp.glo (T : Tp fa fn K mg) (i : Nat) {x : Str} (h : fa[i]? = some (.glo x) := by rfl) : mg x = some (.ref (He.ga K x)) := by
  obtain ⟨_, X, G⟩ := T.h
  exact He.glo_ok X G (T.c.fact i h)
theorem Tp.free (T : Tp fa fn K mg) (i : Nat) {x : Str} (h : fa[i]? = some (.free x) := by rfl) : mg x = none := by
  obtain ⟨_, X, G⟩ := T.h
  exact He.free_ok X G (T.c.fact i h)
theorem Tp.int (T : Tp fa fn K mg) (i : Nat) {x : Str} {z : Int} (h : fa[i]? = some (.int x z) := by rfl) : ∃ t, mg x = some (.int z t) := by
  obtain ⟨_, X, G⟩ := T.h
  exact He.int_ok X G (T.c.fact i h)
theorem Tp.str (T : Tp fa fn K mg) (i : Nat) {x z : Str} (h : fa[i]? = some (.str x z) := by rfl) : ∃ t, mg x = some (.str z t) := by
  obtain ⟨_, X, G⟩ := T.h
  exact He.str_ok X G (T.c.fact i h)
end
theorem nomore {ps : List Str} {vs : List Str} (h : ps = vs) : ps = vs := h
section
variable {P : Program} {w : World} {K : PySem.W.Frag} {mg : Str → Option Value} {base : Heap}
theorem fd_inj {x x' q q' : Str} {p p' : Arguments} {b b' : List Stmt} {sc sc' : Scope} {dv dv' : List V} {kw kw' : List (Str × V)} {f : Addr} {fd fd' : FuncData} (F : FunD K x q p b sc dv kw f fd) (F' : FunD K x' q' p' b' sc' dv' kw' f fd') : fd = fd' := by
  obtain ⟨_, _, _, _, _, _, _, _, _, _, _, l, _⟩ := F.ex
  obtain ⟨_, _, _, _, _, _, _, _, _, _, _, l', _⟩ := F'.ex
  rw [l] at l'
  cases l'
  rfl
/-- what a def is and keeps -/
structure Has (P : Program) (w : World) (K : PySem.W.Frag) (mg : Str → Option Value) (base : Heap) (d : He.DefD) (ps : List Str) (lvl : Nat) (sp : Sp) (fd : FuncData) : Prop where
  F : FunD K d.name d.qual d.params d.body d.scope [] [] (He.fAd K d.at_) fd
  b : Binds K fd ps []
  ok : FnG P w K mg base lvl (He.fAd K d.at_) fd ps sp
variable {x qual : Str} {params : Arguments} {bd : List Stmt} {scope : Scope} {f : Addr} {fd : FuncData} {N ps : List Str} {k n : Nat} {fb : FS}
/-- THE RULE for a def of plain data -/
theorem def_okG {G : List PyData → Option T} (F : FunD K x qual params bd scope [] [] f fd) (S : FnScope N ps scope) (hp : ps.length = n)
    (body : ∀ (cdv : Value) (A : Around) (outer : List PySem.Env) (s : Shared) (H : Hp) (E : XK), Room k (A.deeper (envOfC qual scope s.heap.objs.size f cdv)) → (A.deeper (envOfC qual scope s.heap.objs.size f cdv)).guards = some [] → PSs (cxOf CX0 P w K mg base N qual scope f cdv A outer s H E).nox bd (tS (cnN K) [] fb))
    (hG : ∀ ds t, ds.length = n → G ds = some t → (retOf (fb (startE N.length (ds.map T.sh)))).map (·.1) = some t) : FnG P w K mg base (k + 1) f fd ps (spP K n G) := by
  refine fnG_of F S (fun vs H Q E h => ?_) fun cdv A outer s H vs Q E hr hgd h => ?_
  · obtain ⟨F, ds, t, _, rp, hl, _⟩ := h
    rw [rp.len, hl, hp]
  · obtain ⟨F0, ds, t, fh, rp, hl, hg, res⟩ := h
    refine ⟨_, PSs.nox (body cdv A outer s H E hr hgd), ?_⟩
    have hrun := hG ds t hl hg
    have o : Ok K F0 H (startE N.length (ds.map T.sh)) (L2.start N vs) [] := ⟨start_ok (RTs.of_sh rp), List.nodup_nil, by simp, fh⟩
    refine tS_def.mpr ⟨_, F0, [], o, ?_⟩
    unfold retOf at hrun
    split at hrun
    · rename_i t' η' e
      rw [e]
      have ht : t' = t := by simpa using hrun
      subst ht
      show ∀ v σ' F' H' f1 fp', Aft K [] F0 H σ' [t'] [v] η' F' H' f1 fp' → IO [] (L2.start N vs) σ' → Q v H'
      intro v σ' F' H' f1 fp' a _
      exact res v F' H' f1 ⟨a.rt1, a.ext.ff, a.fh, fun b o e => a.ext.keep b o e (by simp), fun b hb => a.ext.new b hb (by simp), (List.nodup_append.mp a.nd).1, fun b hb => ⟨(a.sub b (by simp [hb])).resolve_left (by simp), a.fn b (by simp [hb])⟩⟩
    · rename_i η' e
      rw [e]
      have ht : T.sh .none = t := by simpa using hrun
      subst ht
      show ∀ σ' F' H' fp', Aft K [] F0 H σ' [] [] η' F' H' [] fp' → IO [] (L2.start N vs) σ' → Q .non H'
      intro σ' F' H' fp' a _
      exact res .non F' H' [] ⟨by simp only [RT, Rp]; exact ⟨trivial, trivial⟩, a.ext.ff, a.fh, fun b o e => a.ext.keep b o e (by simp), fun b hb => a.ext.new b hb (by simp), by simp, by simp⟩
    · simp at hrun
/-- THE RULE for a def that changes its first argument -/
theorem def_okGIO {G : T → List PyData → Option (T × T)} (F : FunD K x qual params bd scope [] [] f fd) (S : FnScope N ps scope) (hp : ps.length = n)
    (body : ∀ (cdv : Value) (A : Around) (outer : List PySem.Env) (s : Shared) (H : Hp) (E : XK), Room k (A.deeper (envOfC qual scope s.heap.objs.size f cdv)) → (A.deeper (envOfC qual scope s.heap.objs.size f cdv)).guards = some [] → PSs (cxOf CX0 P w K mg base N qual scope f cdv A outer s H E).nox bd (tS (cnN K) [0] fb))
    (hG : ∀ t0 ds t t1, ds.length + 1 = n → G t0 ds = some (t, t1) → ∃ η', retOf (fb (startE N.length (t0 :: ds.map T.sh))) = some (t, η') ∧ η'[0]? = some (some t1)) : FnG P w K mg base (k + 1) f fd ps (spIO K n G) := by
  refine fnG_of F S (fun vs H Q E h => ?_) fun cdv A outer s H vs Q E hr hgd h => ?_
  · obtain ⟨F, ds, t0, v0, ws, f, t, t1, rfl, _, _, _, _, rp, hl, _⟩ := h
    rw [List.length_cons, rp.len, hl, hp]
  · obtain ⟨F0, ds, t0, v0, ws, f0, t, t1, rfl, rt0, nd0, fn0, fh, rp, hl, hg, res⟩ := h
    refine ⟨_, PSs.nox (body cdv A outer s H E hr hgd), ?_⟩
    obtain ⟨η', hrun, h0⟩ := hG t0 ds t t1 hl hg
    have rts : RTs K F0 H (t0 :: ds.map T.sh) (v0 :: ws) f0 := by
      simp only [RTs]
      exact ⟨v0, ws, f0, [], rfl, by simp, rt0, RTs.of_sh rp⟩
    have o : Ok K F0 H (startE N.length (t0 :: ds.map T.sh)) (L2.start N (v0 :: ws)) f0 := ⟨start_ok rts, nd0, fn0, fh⟩
    refine tS_def.mpr ⟨_, F0, f0, o, ?_⟩
    have fin : ∀ v σ' F' H' f1 fp', Aft K f0 F0 H σ' [t] [v] η' F' H' f1 fp' → IO [0] (L2.start N (v0 :: ws)) σ' → Q v H' := by
      intro v σ' F' H' f1 fp' a hio
      have hi : 0 < η'.length := (List.getElem?_eq_some_iff.mp h0).1
      obtain ⟨s0, h, r, h1, h2, h3, h4⟩ := a.rs.focus hi
      obtain ⟨v1, rfl, rt1⟩ := h3 _ h0
      have hv : v1 = v0 := by
        have := hio 0 (by simp)
        rw [h1] at this
        simpa [L2.start] using this
      subst hv
      have mem : ∀ z ∈ h, z ∈ fp' := fun z hz => h2.mem_iff.mpr (List.mem_append.mpr (.inl hz))
      refine res v F' H' f1 h a.rt1 rt1 ?_ (fun z hz => ?_) a.fh a.ext fun z hz => ?_
      · have n1 := List.nodup_append.mp a.nd
        exact List.nodup_append.mpr ⟨n1.1, (List.nodup_append.mp (h2.nodup_iff.mp n1.2.1)).1, fun x hx y hy e => n1.2.2 x hx y (mem y hy) e⟩
      · rcases List.mem_append.mp hz with hz | hz
        · exact a.fn z (by simp [hz])
        · exact a.fn z (by simp [mem z hz])
      · rcases List.mem_append.mp hz with hz | hz
        · exact a.sub z (by simp [hz])
        · exact a.sub z (by simp [mem z hz])
    unfold retOf at hrun
    split at hrun
    · rename_i t' η2 e
      rw [e]
      cases hrun
      exact fin
    · rename_i η2 e
      rw [e]
      cases hrun
      show ∀ σ' F' H' fp', Aft K f0 F0 H σ' [] [] η' F' H' [] fp' → IO [0] (L2.start N (v0 :: ws)) σ' → Q .non H'
      intro σ' F' H' fp' a hio
      exact fin .non σ' F' H' [] fp' (a.res (.here a.fh rp_c.2.2.2)) hio
    · cases hrun

theorem def_ok (F : FunD K x qual params bd scope [] [] f fd) (S : FnScope N ps scope) (hp : ps.length = n)
    (body : ∀ (cdv : Value) (A : Around) (outer : List PySem.Env) (s : Shared) (H : Hp) (E : XK), Room k (A.deeper (envOfC qual scope s.heap.objs.size f cdv)) → (A.deeper (envOfC qual scope s.heap.objs.size f cdv)).guards = some [] → PSs (cxOf CX0 P w K mg base N qual scope f cdv A outer s H E).nox bd (tS (cnN K) [] fb)) : FnG P w K mg base (k + 1) f fd ps (spP K n (gP N.length n fb)) :=
  def_okG F S hp body fun ds t hl h => by
    unfold gP at h
    rw [if_pos hl] at h
    exact h
theorem def_okIO (F : FunD K x qual params bd scope [] [] f fd) (S : FnScope N ps scope) (hp : ps.length = n)
    (body : ∀ (cdv : Value) (A : Around) (outer : List PySem.Env) (s : Shared) (H : Hp) (E : XK), Room k (A.deeper (envOfC qual scope s.heap.objs.size f cdv)) → (A.deeper (envOfC qual scope s.heap.objs.size f cdv)).guards = some [] → PSs (cxOf CX0 P w K mg base N qual scope f cdv A outer s H E).nox bd (tS (cnN K) [0] fb)) : FnG P w K mg base (k + 1) f fd ps (spIO K n (gIO N.length n fb)) :=
  def_okGIO F S hp body fun t0 ds t t1 hl h => by
    unfold gIO at h
    rw [if_pos hl] at h
    split at h
    · rename_i t' η e
      split at h
      · rename_i t1' e2
        cases h
        exact ⟨η, e, e2⟩
      · cases h
    · cases h
/-- nothing can be asked of a def whose meaning is empty -/
theorem none_ok {ps : List Str} {n : Nat} {G : List PyData → Option T} {k : Nat} (h : ∀ ds, G ds = none) : FnG P w K mg base k f fd ps (spP K n G) := by
  have no : ∀ vs H Q E, ¬ spP K n G vs H Q E := fun vs H Q E h2 => by
    obtain ⟨F, ds, t, _, _, _, e, _⟩ := h2
    rw [h] at e
    cases e
  exact ⟨fun vs H Q E h => absurd h (no vs H Q E), fun A outer s H args us vs Q E _ _ _ _ _ h => absurd h (no vs H Q E)⟩
theorem good_u {A : Around} {k : Nat} (hr : Room (k + 1) A) : A.units + 66 < cLine := by
  have := hr.un
  omega
/-! ### the law: a list of at most 63 ints -/
theorem law_sp {K : PySem.W.Frag} {G : List PyData → Option T} (hG : ∀ ns : List Int, ns.length ≤ 63 → G [.list (ns.map PyData.int)] = some (.sh (.bool true))) {H : Hp} {a : Addr} {ns : List Int} (hl : ns.length ≤ 63) (hS : SqL K H a (ns.map V.int)) :
    spP K 1 G [.ref a] H (fun v _ => v = .bl true) fun _ _ _ => False := by
  have rp : ∀ ns : List Int, RpAll K H (ns.map PyData.int) (ns.map V.int) := fun ns => by
    induction ns with
    | nil => exact .nil
    | cons n ns ih => exact .consI rp_c.1 ih
  refine ⟨H, [.list (ns.map PyData.int)], .sh (.bool true), .refl H, .one (by simp only [Rp]; exact ⟨a, _, rfl, hS, rp ns⟩), rfl, hG ns hl, fun v F' H' f r => ?_⟩
  have := r.rt
  simp only [RT, Rp] at this
  exact this.2
end
end Pv
set_option Elab.async false
set_option linter.all false
set_option maxRecDepth 100000
set_option maxHeartbeats 4000000
/-! names of the module that stand for flat tuples -/
namespace Pv
open PySem L2 PyProof.Rows
def flatD : PyData → Option He.Dv
  | .none => some .non
  | .bool b => some (.bl b)
  | .int i => some (.int i)
  | .str x => some (.str x)
  | _ => none
def flatAll : List PyData → Option (List He.Dv)
  | [] => some []
  | d :: ds => (flatD d).bind fun v => (flatAll ds).bind fun vs => some (v :: vs)
theorem rp_flat {K : PySem.W.Frag} {F : Hp} : ∀ {d : PyData} {v : He.Dv}, flatD d = some v → Rp K F d (v.v K)
  | .none, _, h => by cases h; simp only [Rp]; rfl
  | .bool _, _, h => by cases h; simp only [Rp]; rfl
  | .int _, _, h => by cases h; simp only [Rp]; rfl
  | .str _, _, h => by cases h; simp only [Rp]; rfl
  | .list _, _, h => by cases h
  | .tuple _, _, h => by cases h
  | .dict _, _, h => by cases h
theorem rpAll_flat {K : PySem.W.Frag} {F : Hp} : ∀ {ds : List PyData} {vs : List He.Dv}, flatAll ds = some vs → RpAll K F ds (vs.map (He.Dv.v K))
  | [], _, h => by cases h; exact RpAll.nil
  | d :: ds, vs, h => by
    unfold flatAll at h
    cases e1 : flatD d with
    | none => rw [e1] at h; cases h
    | some v =>
      rw [e1] at h
      cases e2 : flatAll ds with
      | none => rw [e2] at h; cases h
      | some ws =>
        rw [e2] at h
        cases h
        exact RpAll.consI (rp_flat e1) (rpAll_flat e2)
abbrev Gt : Type := Str × List PyData
def gtOk (K : PySem.W.Frag) (g : Gt) : Bool := match flatAll g.2 with
  | some vs => He.tupB K g.1 vs
  | none => false
theorem rp_gt {K : PySem.W.Frag} {F : Hp} {g : Gt} (h : gtOk K g = true) : Rp K F (.tuple g.2) (.ref (He.ga K g.1)) := by
  unfold gtOk at h
  split at h
  · rename_i vs e
    simp only [Rp]
    exact ⟨_, _, rfl, He.tupB_ok h F, rpAll_flat e⟩
  · cases h
/-! ### the Hook -/
def obsGt (fa : List He.Fa) (fn : List He.DefD) (gt : List Gt) (K : PySem.W.Frag) : He.AlD := (((fa.all fun f => f.ok K) && fn.all fun d => d.ok K) && gt.all (gtOk K), fn.map fun d => He.fnW K d.at_)
def SaysGt (fa : List He.Fa) (fn : List He.DefD) (gt : List Gt) (K : PySem.W.Frag) : Prop := obsGt fa fn gt K = He.valD fn
theorem SaysGt.d {fa : List He.Fa} {fn : List He.DefD} {gt : List Gt} {K : PySem.W.Frag} (c : SaysGt fa fn gt K) : He.SaysD fa fn K := by
  have c1 : (((fa.all fun f => f.ok K) && fn.all fun d => d.ok K) && gt.all (gtOk K)) = true := congrArg (fun z : He.AlD => z.1) c
  have c2 : fn.map (fun d => He.fnW K d.at_) = fn.map He.DefD.val := congrArg (fun z : He.AlD => z.2) c
  rw [Bool.and_eq_true] at c1
  show (_, _) = (_, _)
  rw [c1.1, c2]
theorem SaysGt.g {fa : List He.Fa} {fn : List He.DefD} {gt : List Gt} {K : PySem.W.Frag} (c : SaysGt fa fn gt K) (i : Nat) {g : Gt} (h : gt[i]? = some g) : gtOk K g = true := by
  have c1 : (((fa.all fun f => f.ok K) && fn.all fun d => d.ok K) && gt.all (gtOk K)) = true := congrArg (fun z : He.AlD => z.1) c
  rw [Bool.and_eq_true] at c1
  exact List.all_eq_true.mp c1.2 g (List.mem_of_getElem? h)
def obsGtG (n : Nat) (fa : List He.Fa) (fn : List He.DefD) (gt : List Gt) (g : Addr → Option Obj) : He.AlD := obsGt fa fn gt (He.frG g (He.asD g n))
def hookGt (n : Nat) (fa : List He.Fa) (fn : List He.DefD) (gt : List Gt) : PySem.W.Hook where
  α := He.AlD
  obs := fun s => obsGtG n fa fn gt s.heap.get?
  val := fun _ => He.valD fn
  says := fun _ h => ∃ K : PySem.W.Frag, K.In h ∧ SaysGt fa fn gt K
  of := fun _ _ e => ⟨_, He.frG_in, e⟩
  keeps := fun _ _ _ ⟨K, hK, c⟩ k => ⟨K, PySem.W.Frag.In.keeps hK k, c⟩
theorem obsGtG_eq {n : Nat} {fa : List He.Fa} {fn : List He.DefD} {gt : List Gt} {g : Addr → Option Obj} {s : Shared} (h : ∀ a, g a = s.heap.get? a) : obsGtG n fa fn gt g = (hookGt n fa fn gt).obs s := by
  have e : g = s.heap.get? := funext h
  rw [e] <;> rfl
structure TpG (fa : List He.Fa) (fn : List He.DefD) (gt : List Gt) (K : PySem.W.Frag) (mg : Str → Option Value) : Prop extends Tp fa fn K mg where
  g : SaysGt fa fn gt K
theorem TpG.tup {fa : List He.Fa} {fn : List He.DefD} {gt : List Gt} {K : PySem.W.Frag} {mg : Str → Option Value} (T : TpG fa fn gt K mg) (i : Nat) {x : Str} {ds : List PyData} (h : gt[i]? = some (x, ds) := by rfl) (j : Nat) (hj : fa[j]? = some (.glo x) := by rfl) : mg x = some (.ref (He.ga K x)) ∧ ∀ F, Rp K F (.tuple ds) (.ref (He.ga K x)) :=
  ⟨T.glo j hj, fun F => rp_gt (T.g.g i h)⟩
variable {X : Cx} {C : Cn}
theorem pd_gt {x : Str} {pos : Pos} {a : Addr} {d : PyData} (hK : C.K = X.K) (hg : Gl X x) (m : X.mg x = some (.ref a) ∧ ∀ F, Rp X.K F d (.ref a)) (hd : (x == ("__debug__" : Str)) = false := by decide) : PE X (.Name x pos) (tD C (eC d)) :=
  pd_c (pe_glob (v := .ref a) hg m.1 rfl hd) fun F => by rw [hK]; exact m.2 F
end Pv
set_option Elab.async false
set_option linter.all false
set_option maxRecDepth 100000
set_option maxHeartbeats 4000000
namespace Pv
open PySem L2
/-! ### a computation that ends well -/
def Rs.Is {α : Type} (r : Rs α) (P : α → Prop) : Prop := ∃ a, r = .ok a ∧ P a
theorem Rs.is_ok {α : Type} {a : α} {P : α → Prop} : (Rs.ok a).Is P ↔ P a := ⟨fun ⟨b, e, h⟩ => by cases e; exact h, fun h => ⟨a, rfl, h⟩⟩
theorem Rs.Is.bind {α β : Type} {r : Rs α} {f : α → Rs β} {P : α → Prop} {Q : β → Prop} (h : r.Is P) (k : ∀ a, P a → (f a).Is Q) : (r.bind f).Is Q := by
  obtain ⟨a, rfl, p⟩ := h
  exact k a p
theorem Rs.Is.mono {α : Type} {r : Rs α} {P Q : α → Prop} (h : r.Is P) (k : ∀ a, P a → Q a) : r.Is Q := by
  obtain ⟨a, rfl, p⟩ := h
  exact ⟨a, rfl, k a p⟩
theorem Rs.Is.eq {α : Type} {r : Rs α} {a : α} (h : r.Is (· = a)) : r = .ok a := by
  obtain ⟨b, rfl, rfl⟩ := h
  rfl
theorem Rs.is_eq {α : Type} {r : Rs α} {a : α} {P : α → Prop} (h : r = .ok a) (p : P a) : r.Is P := ⟨a, h, p⟩
/-! ### loops -/
def LoopP (I : Nat → Env → Prop) (R : T → Env → Prop) (n : Nat) (p : Fl × Env) : Prop := match p.1 with
  | .nx => I n p.2
  | .ret t => R t p.2
  | _ => False
def StepP (chk : Env → Bool) (I : Nat → Env → Prop) (R : T → Env → Prop) (i n : Nat) (p : Fl × Env) : Prop := match p.1 with
  | .nx => chk p.2 = true ∧ I (i + 1) p.2
  | .ct => chk p.2 = true ∧ I (i + 1) p.2
  | .bk => I n p.2
  | .ret t => R t p.2
theorem loopF_inv {chk : Env → Bool} {tgt : FG} {body : FS} (I : Nat → Env → Prop) (R : T → Env → Prop) : ∀ {ds : List PyData} {η : Env}, I 0 η →
    (∀ i d η, ds[i]? = some d → I i η → ((tgt (.sh d) η).bind body).Is (StepP chk I R i ds.length)) → (loopF chk tgt body ds η).Is (LoopP I R ds.length)
  | [], η, h, _ => ⟨_, rfl, h⟩
  | d :: ds, η, h, st => by
    obtain ⟨p, e, hp⟩ := st 0 d η rfl h
    unfold loopF
    cases e1 : tgt (.sh d) η with
    | ok η1 =>
      rw [e1] at e
      have e : body η1 = .ok p := e
      show ((body η1).bind _).Is _
      rw [e]
      unfold StepP at hp
      have go : ∀ η2, chk η2 = true ∧ I 1 η2 → (if chk η2 = true then loopF chk tgt body ds η2 else .bad).Is (LoopP I R (ds.length + 1)) := fun η2 ⟨h1, h2⟩ => by
        rw [if_pos h1]
        have := loopF_inv (chk := chk) (tgt := tgt) (body := body) (fun i => I (i + 1)) R (ds := ds) (η := η2) h2 fun i d η hd hI => by
          have := st (i + 1) d η (by simpa using hd) hI
          exact this.mono fun p hp => by
            unfold StepP at hp ⊢
            exact hp
        exact this
      obtain ⟨fl, η2⟩ := p
      cases fl with
      | nx => exact go _ hp
      | ct => exact go _ hp
      | bk => exact ⟨_, rfl, hp⟩
      | ret t => exact ⟨_, rfl, hp⟩
    | exc a b => rw [e1] at e; cases e
    | bad => rw [e1] at e; cases e
theorem loopW_inv {c : FB} {body : FS} (I : Nat → Env → Prop) (J : Env → Prop) (R : T → Env → Prop)
    (step : ∀ n η, I n η → ((c η).bind fun b => if b.1 then (body b.2).bind fun p => .ok (some p.1, p.2) else .ok (none, b.2)).Is fun p => match p.1 with
      | none => J p.2
      | some .bk => J p.2
      | some (.ret t) => R t p.2
      | some _ => ∃ m, m < n ∧ I m p.2) : ∀ {n m : Nat} {η : Env}, I m η → m < n → (loopW c body n η).Is fun p => match p.1 with
      | .nx => J p.2
      | .ret t => R t p.2
      | _ => False
  | 0, m, η, _, h => absurd h (Nat.not_lt_zero _)
  | n + 1, m, η, hI, h => by
    obtain ⟨p, e, hp⟩ := step m η hI
    unfold loopW
    cases e1 : c η with
    | ok b =>
      rw [e1] at e
      show (if b.1 = true then _ else _ : Rs (Fl × Env)).Is _
      have e : (if b.1 then (body b.2).bind fun p => .ok (some p.1, p.2) else .ok (none, b.2) : Rs (Option Fl × Env)) = .ok p := e
      split at e
      · rename_i hb
        rw [if_pos hb]
        cases e2 : body b.2 with
        | ok q =>
          rw [e2] at e
          cases e
          obtain ⟨fl, η2⟩ := q
          cases fl with
          | nx =>
            obtain ⟨m', hm, hI'⟩ := hp
            exact loopW_inv I J R step hI' (by omega)
          | ct =>
            obtain ⟨m', hm, hI'⟩ := hp
            exact loopW_inv I J R step hI' (by omega)
          | bk => exact ⟨_, rfl, hp⟩
          | ret t => exact ⟨_, rfl, hp⟩
        | exc a b => rw [e2] at e; cases e
        | bad => rw [e2] at e; cases e
      · rename_i hb
        rw [if_neg hb]
        cases e
        exact ⟨_, rfl, hp⟩
    | exc a b => rw [e1] at e; cases e
    | bad => rw [e1] at e; cases e
theorem gN_bind {i : Nat} {t : T} {η : Env} {body : FS} : (gN i t η).bind body = body (η.set i (some t)) := rfl
theorem step_nx {chk : Env → Bool} {I : Nat → Env → Prop} {R : T → Env → Prop} {i n : Nat} {r : Rs (Fl × Env)} {η : Env} (h : r = .ok (.nx, η)) (hc : chk η = true) (hI : I (i + 1) η) : r.Is (StepP chk I R i n) := ⟨_, h, hc, hI⟩
theorem step_ct {chk : Env → Bool} {I : Nat → Env → Prop} {R : T → Env → Prop} {i n : Nat} {r : Rs (Fl × Env)} {η : Env} (h : r = .ok (.ct, η)) (hc : chk η = true) (hI : I (i + 1) η) : r.Is (StepP chk I R i n) := ⟨_, h, hc, hI⟩
theorem step_ret {chk : Env → Bool} {I : Nat → Env → Prop} {R : T → Env → Prop} {i n : Nat} {r : Rs (Fl × Env)} {t : T} {η : Env} (h : r = .ok (.ret t, η)) (hR : R t η) : r.Is (StepP chk I R i n) := ⟨_, h, hR⟩
theorem step_bk {chk : Env → Bool} {I : Nat → Env → Prop} {R : T → Env → Prop} {i n : Nat} {r : Rs (Fl × Env)} {η : Env} (h : r = .ok (.bk, η)) (hI : I n η) : r.Is (StepP chk I R i n) := ⟨_, h, hI⟩
theorem sFor_inv {α : Type} (l : List α) (f : α → PyData) {fi : FI} {tgt : FG} {body : FS} {η η1 : Env} (I : Nat → Env → Prop) (R : T → Env → Prop) (hit : fi η = .ok (l.map f, η1)) (h0 : I 0 η1)
    (st : ∀ i x η, l[i]? = some x → I i η → ((tgt (.sh (f x)) η).bind body).Is (StepP (fun _ => true) I R i l.length)) : (sFor fi tgt body η).Is (LoopP I R l.length) := by
  unfold sFor
  rw [hit]
  simp only [Rs.bind_ok]
  have h := loopF_inv (chk := fun _ => true) (tgt := tgt) (body := body) (ds := l.map f) I R h0 fun i d η hd hI => by
    rw [List.getElem?_map] at hd
    cases e : l[i]? with
    | none => rw [e] at hd; cases hd
    | some x =>
      rw [e] at hd
      cases hd
      rw [List.length_map]
      exact st i x η e hI
  rw [List.length_map] at h
  exact h
theorem sForV_inv {α : Type} (l : List α) (f : α → PyData) {j : Nat} {d0 : PyData} {tgt : FG} {body : FS} {η : Env} (I : Nat → Env → Prop) (R : T → Env → Prop) (hp : pk η j = some d0) (hs : seqOf d0 = some (l.map f)) (h0 : I 0 η)
    (st : ∀ i x η, l[i]? = some x → I i η → ((tgt (.sh (f x)) η).bind body).Is (StepP (pkIs j d0) I R i l.length)) : (sForV j tgt body η).Is (LoopP I R l.length) := by
  unfold sForV
  rw [hp]
  simp only [hs]
  have h := loopF_inv (chk := pkIs j d0) (tgt := tgt) (body := body) (ds := l.map f) I R h0 fun i d η hd hI => by
    rw [List.getElem?_map] at hd
    cases e : l[i]? with
    | none => rw [e] at hd; cases hd
    | some x =>
      rw [e] at hd
      cases hd
      rw [List.length_map]
      exact st i x η e hI
  rw [List.length_map] at h
  exact h
theorem sSeq_loop {f g : FS} {η : Env} {I : Nat → Env → Prop} {R : T → Env → Prop} {n : Nat} {P : Fl × Env → Prop} (h : (f η).Is (LoopP I R n)) (k : ∀ η, I n η → (g η).Is P) (kr : ∀ t η, R t η → P (.ret t, η)) : (sSeq f g η).Is P := by
  obtain ⟨⟨fl, η1⟩, e, hp⟩ := h
  unfold sSeq
  rw [e]
  simp only [Rs.bind_ok]
  cases fl with
  | nx => exact k _ hp
  | ret t => exact ⟨_, rfl, kr _ _ hp⟩
  | bk => exact hp.elim
  | ct => exact hp.elim
/-! ### comprehensions -/
/-- what the turns of a comprehension give: R for those that pass, in order -/
inductive Picks (c : PyData → T → Prop) : List PyData → List T → Prop
  | nil : Picks c [] []
  | take {d ds t ts} : c d t → Picks c ds ts → Picks c (d :: ds) (t :: ts)
  | drop {d ds ts} : Picks c ds ts → Picks c (d :: ds) ts
theorem loopC_inv {chk : Env → Bool} {own : List Nat} {tgt : FG} {cond : FB} {elt : FE} (I : Env → Prop) (R : PyData → T → Prop) : ∀ {ds : List PyData} {η : Env}, I η →
    (∀ d η, d ∈ ds → I η → ∃ η1 b η2, tgt (.sh d) η = .ok η1 ∧ cond η1 = .ok (b, η2) ∧
      (b = true → ∃ t η3, elt η2 = .ok (t, η3) ∧ R d t ∧ ownFree η3 own = true ∧ chk (wipeE η3 own) = true ∧ I (wipeE η3 own)) ∧
      (b = false → ownFree η2 own = true ∧ chk (wipeE η2 own) = true ∧ I (wipeE η2 own))) → ∃ ts η', loopC chk own tgt cond elt ds η = .ok (ts, η') ∧ I η' ∧ Picks R ds ts
  | [], η, h, _ => ⟨[], η, rfl, h, .nil⟩
  | d :: ds, η, h, st => by
    obtain ⟨η1, b, η2, e1, e2, ht, hf⟩ := st d η List.mem_cons_self h
    unfold loopC
    rw [e1]
    simp only [Rs.noX_ok, Rs.bind_ok]
    rw [e2]
    simp only [Rs.noX_ok, Rs.bind_ok]
    cases b with
    | true =>
      obtain ⟨t, η3, e3, r, f, k, hI⟩ := ht rfl
      rw [if_pos rfl, e3]
      simp only [Rs.noX_ok, Rs.bind_ok]
      rw [if_pos ⟨f, k⟩]
      obtain ⟨ts, η', e4, h4, pk⟩ := loopC_inv I R hI fun d' η hd => st d' η (List.mem_cons_of_mem _ hd)
      rw [e4]
      exact ⟨t :: ts, η', rfl, h4, .take r pk⟩
    | false =>
      obtain ⟨f, k, hI⟩ := hf rfl
      rw [if_neg Bool.false_ne_true, if_pos ⟨f, k⟩]
      obtain ⟨ts, η', e4, h4, pk⟩ := loopC_inv I R hI fun d' η hd => st d' η (List.mem_cons_of_mem _ hd)
      exact ⟨ts, η', e4, h4, .drop pk⟩
inductive All2 (c : PyData → T → Prop) : List PyData → List T → Prop
  | nil : All2 c [] []
  | cons {d ds t ts} : c d t → All2 c ds ts → All2 c (d :: ds) (t :: ts)
theorem All2.len {c : PyData → T → Prop} {ds : List PyData} {ts : List T} (h : All2 c ds ts) : ts.length = ds.length := by
  induction h with
  | nil => rfl
  | cons _ _ ih => simp [ih]
theorem All2.mem {c : PyData → T → Prop} {ds : List PyData} {ts : List T} (h : All2 c ds ts) : ∀ t ∈ ts, ∃ d ∈ ds, c d t := by
  induction h with
  | nil => simp
  | cons h _ ih =>
    intro t ht
    rcases List.mem_cons.mp ht with rfl | ht
    · exact ⟨_, List.mem_cons_self, h⟩
    · obtain ⟨d, hd, hc⟩ := ih t ht
      exact ⟨d, List.mem_cons_of_mem _ hd, hc⟩
theorem Picks.sub {ds : List PyData} {ts : List T} (h : Picks (fun d t => t = .sh d) ds ts) : ∃ ds' : List PyData, List.Sublist ds' ds ∧ ts = ds'.map T.sh := by
  induction h with
  | nil => exact ⟨[], .slnil, rfl⟩
  | take h _ ih =>
    obtain ⟨ds', h1, h2⟩ := ih
    exact ⟨_ :: ds', h1.cons_cons _, by rw [h, h2]; rfl⟩
  | drop _ ih =>
    obtain ⟨ds', h1, h2⟩ := ih
    exact ⟨ds', h1.cons _, h2⟩
theorem loopC_all {chk : Env → Bool} {own : List Nat} {tgt : FG} {elt : FE} (I : Env → Prop) (R : PyData → T → Prop) : ∀ {ds : List PyData} {η : Env}, I η →
    (∀ d η, d ∈ ds → I η → ∃ η1 t η3, tgt (.sh d) η = .ok η1 ∧ elt η1 = .ok (t, η3) ∧ R d t ∧ ownFree η3 own = true ∧ chk (wipeE η3 own) = true ∧ I (wipeE η3 own)) → ∃ ts η', loopC chk own tgt bTrue elt ds η = .ok (ts, η') ∧ I η' ∧ All2 R ds ts
  | [], η, h, _ => ⟨[], η, rfl, h, .nil⟩
  | d :: ds, η, h, st => by
    obtain ⟨η1, t, η3, e1, e2, r, f, k, hI⟩ := st d η List.mem_cons_self h
    obtain ⟨ts, η', e4, h4, pk⟩ := loopC_all (chk := chk) (own := own) (tgt := tgt) (elt := elt) I R hI fun d' η hd => st d' η (List.mem_cons_of_mem _ hd)
    unfold loopC
    rw [e1]
    simp only [Rs.noX_ok, Rs.bind_ok, bTrue, if_pos]
    rw [e2]
    simp only [Rs.noX_ok, Rs.bind_ok]
    rw [if_pos ⟨f, k⟩]
    rw [e4]
    exact ⟨t :: ts, η', rfl, h4, .cons r pk⟩
/-- .. where nothing changes: over things l that read as data by f -/
theorem loopC_pure {α : Type} {chk : Env → Bool} {own : List Nat} {tgt : FG} {cond : FB} {elt : FE} {η : Env} (f : α → PyData) (c : α → Bool) (t : α → T) : ∀ {l : List α},
    (∀ d, d ∈ l → ∃ η1 η2, tgt (.sh (f d)) η = .ok η1 ∧ cond η1 = .ok (c d, η2) ∧ (c d = false → ownFree η2 own = true ∧ wipeE η2 own = η) ∧ (c d = true → ∃ η3, elt η2 = .ok (t d, η3) ∧ ownFree η3 own = true ∧ wipeE η3 own = η)) →
    chk η = true → loopC chk own tgt cond elt (l.map f) η = .ok ((l.filter c).map t, η)
  | [], _, _ => rfl
  | d :: l, st, hc => by
    obtain ⟨η1, η2, e1, e2, hf, ht⟩ := st d List.mem_cons_self
    have ih := loopC_pure (chk := chk) (own := own) (tgt := tgt) (cond := cond) (elt := elt) (η := η) f c t (l := l) (fun d' hd => st d' (List.mem_cons_of_mem _ hd)) hc
    rw [List.map_cons]
    unfold loopC
    rw [e1]
    simp only [Rs.noX_ok, Rs.bind_ok]
    rw [e2]
    simp only [Rs.noX_ok, Rs.bind_ok]
    cases e : c d with
    | true =>
      obtain ⟨η3, e3, f', w⟩ := ht e
      rw [if_pos rfl, e3]
      simp only [Rs.noX_ok, Rs.bind_ok]
      rw [w, if_pos ⟨f', hc⟩, ih, List.filter_cons_of_pos e]
      rfl
    | false =>
      obtain ⟨f', w⟩ := hf e
      rw [if_neg Bool.false_ne_true, w, if_pos ⟨f', hc⟩, ih, List.filter_cons_of_neg (by rw [e]; exact Bool.false_ne_true)]
section
variable {α : Type} {own : List Nat} {i : Nat} {fi : FI} {tgt : FG} {cond : FB} {elt : FE} {η η1 : Env} {d0 : PyData} {ds : List PyData}
theorem eComp_pure (l : List α) (f : α → PyData) (c : α → Bool) (t : α → T) (hfi : fi η = .ok (l.map f, η1)) (hl : l.length < 16777216) (hf : ownFree η1 own = true) (hb : backE η1 own (wipeE η1 own) = η1)
    (st : ∀ d, d ∈ l → ∃ η2 η3, tgt (.sh (f d)) (wipeE η1 own) = .ok η2 ∧ cond η2 = .ok (c d, η3) ∧ (c d = false → ownFree η3 own = true ∧ wipeE η3 own = wipeE η1 own) ∧ (c d = true → ∃ η4, elt η3 = .ok (t d, η4) ∧ ownFree η4 own = true ∧ wipeE η4 own = wipeE η1 own)) :
    eComp own fi tgt cond elt η = .ok (.lst ((l.filter c).map t), η1) := by
  unfold eComp
  rw [hfi]
  have hl' : (l.map f).length < 16777216 := by rw [List.length_map]; exact hl
  simp only [Rs.bind_ok, hf, line, decide_eq_true hl', Bool.and_true, if_pos]
  rw [loopC_pure f c t st rfl]
  simp only [Rs.bind_ok, hb]
theorem eComp_map (l : List α) (f : α → PyData) (t : α → T) (hfi : fi η = .ok (l.map f, η1)) (hl : l.length < 16777216) (hf : ownFree η1 own = true) (hb : backE η1 own (wipeE η1 own) = η1)
    (st : ∀ d, d ∈ l → ∃ η2 η4, tgt (.sh (f d)) (wipeE η1 own) = .ok η2 ∧ elt η2 = .ok (t d, η4) ∧ ownFree η4 own = true ∧ wipeE η4 own = wipeE η1 own) :
    eComp own fi tgt bTrue elt η = .ok (.lst (l.map t), η1) := by
  have := eComp_pure (cond := bTrue) (elt := elt) (own := own) (tgt := tgt) l f (fun _ => true) t hfi hl hf hb fun d hd => by
    obtain ⟨η2, η4, a, b, c, e⟩ := st d hd
    exact ⟨η2, η2, a, rfl, fun h => (by cases h), fun _ => ⟨η4, b, c, e⟩⟩
  rw [this, List.filter_eq_self.mpr fun _ _ => rfl]
theorem eCompV_pure (l : List α) (f : α → PyData) (c : α → Bool) (t : α → T) (hp : pk η i = some d0) (hs : seqOf d0 = some (l.map f)) (hl : l.length < 16777216) (hf : ownFree η own = true) (hi : own.contains i = false) (hb : backE η own (wipeE η own) = η)
    (hw : pk (wipeE η own) i = some d0)
    (st : ∀ d, d ∈ l → ∃ η2 η3, tgt (.sh (f d)) (wipeE η own) = .ok η2 ∧ cond η2 = .ok (c d, η3) ∧ (c d = false → ownFree η3 own = true ∧ wipeE η3 own = wipeE η own) ∧ (c d = true → ∃ η4, elt η3 = .ok (t d, η4) ∧ ownFree η4 own = true ∧ wipeE η4 own = wipeE η own)) :
    eCompV own i tgt cond elt η = .ok (.lst ((l.filter c).map t), η) := by
  unfold eCompV
  rw [hp]
  have hl' : (l.map f).length < 16777216 := by rw [List.length_map]; exact hl
  simp only [hs, hf, line, decide_eq_true hl', hi, Bool.and_true, Bool.not_false, if_pos]
  rw [loopC_pure f c t st (pkIs_of hw)]
  simp only [Rs.bind_ok, hb]
theorem eCompV_map (l : List α) (f : α → PyData) (t : α → T) (hp : pk η i = some d0) (hs : seqOf d0 = some (l.map f)) (hl : l.length < 16777216) (hf : ownFree η own = true) (hi : own.contains i = false) (hb : backE η own (wipeE η own) = η)
    (hw : pk (wipeE η own) i = some d0)
    (st : ∀ d, d ∈ l → ∃ η2 η4, tgt (.sh (f d)) (wipeE η own) = .ok η2 ∧ elt η2 = .ok (t d, η4) ∧ ownFree η4 own = true ∧ wipeE η4 own = wipeE η own) :
    eCompV own i tgt bTrue elt η = .ok (.lst (l.map t), η) := by
  have := eCompV_pure (cond := bTrue) (elt := elt) (own := own) (tgt := tgt) l f (fun _ => true) t hp hs hl hf hi hb hw fun d hd => by
    obtain ⟨η2, η4, a, b, c, e⟩ := st d hd
    exact ⟨η2, η2, a, rfl, fun h => (by cases h), fun _ => ⟨η4, b, c, e⟩⟩
  rw [this, List.filter_eq_self.mpr fun _ _ => rfl]
end
/-! ### defs -/
theorem gP_of {N n : Nat} {fb : FS} {ds : List PyData} (hl : ds.length = n) {P : T → Prop} (h : (fb (startE N (ds.map T.sh))).Is fun p => match p.1 with
    | .ret t => P t
    | .nx => P (.sh .none)
    | _ => False) : ∃ t, gP N n fb ds = some t ∧ P t := by
  obtain ⟨⟨fl, η⟩, e, hp⟩ := h
  unfold gP
  rw [if_pos hl, e]
  cases fl with
  | nx => exact ⟨_, rfl, hp⟩
  | ret t => exact ⟨_, rfl, hp⟩
  | bk => exact hp.elim
  | ct => exact hp.elim
theorem gP_eq {N n : Nat} {fb : FS} {ds : List PyData} {t : T} {η : Env} (hl : ds.length = n) (h : fb (startE N (ds.map T.sh)) = .ok (.ret t, η)) : gP N n fb ds = some t := by
  unfold gP
  rw [if_pos hl, h]
  rfl
theorem gIO_of {N n : Nat} {fb : FS} {t0 : T} {ds : List PyData} (hl : ds.length + 1 = n) {P : T → T → Prop} (h : (fb (startE N (t0 :: ds.map T.sh))).Is fun p => ∃ t1, p.2[0]? = some (some t1) ∧ match p.1 with
    | .ret t => P t t1
    | .nx => P (.sh .none) t1
    | _ => False) : ∃ t t1, gIO N n fb t0 ds = some (t, t1) ∧ P t t1 := by
  obtain ⟨⟨fl, η⟩, e, t1, h0, hp⟩ := h
  unfold gIO
  rw [if_pos hl, e]
  have h0 : η[0]? = some (some t1) := h0
  cases fl with
  | nx => exact ⟨_, t1, by simp only [retOf, h0], hp⟩
  | ret t => exact ⟨_, t1, by simp only [retOf, h0], hp⟩
  | bk => exact hp.elim
  | ct => exact hp.elim
end Pv
set_option Elab.async false
set_option linter.all false
namespace Pv
open PySem L2
@[simp] theorem s_eC_eq_1 : type_of% @eC.eq_1 := @eC.eq_1
@[simp] theorem s_eV_eq_1 : type_of% @eV.eq_1 := @eV.eq_1
@[simp] theorem s_eBin_eq_1 : type_of% @eBin.eq_1 := @eBin.eq_1
@[simp] theorem s_eBinL'_eq_1 : type_of% @eBinL'.eq_1 := @eBinL'.eq_1
@[simp] theorem s_eBinL_eq_1 : type_of% @eBinL.eq_1 := @eBinL.eq_1
@[simp] theorem s_eBinR_eq_1 : type_of% @eBinR.eq_1 := @eBinR.eq_1
@[simp] theorem s_eBinLR_eq_1 : type_of% @eBinLR.eq_1 := @eBinLR.eq_1
@[simp] theorem s_fin1_eq_1 : type_of% @fin1.eq_1 := @fin1.eq_1
@[simp] theorem s_fin1_eq_2 : type_of% @fin1.eq_2 := @fin1.eq_2
@[simp] theorem s_bT_eq_1 : type_of% @bT.eq_1 := @bT.eq_1
@[simp] theorem s_bTru_eq_1 : type_of% @bTru.eq_1 := @bTru.eq_1
@[simp] theorem s_bAnd_eq_1 : type_of% @bAnd.eq_1 := @bAnd.eq_1
@[simp] theorem s_bOr_eq_1 : type_of% @bOr.eq_1 := @bOr.eq_1
@[simp] theorem s_bNot_eq_1 : type_of% @bNot.eq_1 := @bNot.eq_1
@[simp] theorem s_truth_eq_1 : type_of% @truth.eq_1 := @truth.eq_1
@[simp] theorem s_truth_eq_2 : type_of% @truth.eq_2 := @truth.eq_2
@[simp] theorem s_truth_eq_3 : type_of% @truth.eq_3 := @truth.eq_3
@[simp] theorem s_truth_eq_4 : type_of% @truth.eq_4 := @truth.eq_4
@[simp] theorem s_truth_eq_5 : type_of% @truth.eq_5 := @truth.eq_5
@[simp] theorem s_truth_eq_6 : type_of% @truth.eq_6 := @truth.eq_6
@[simp] theorem s_eAnd_eq_1 : type_of% @eAnd.eq_1 := @eAnd.eq_1
@[simp] theorem s_eOr_eq_1 : type_of% @eOr.eq_1 := @eOr.eq_1
@[simp] theorem s_eIf_eq_1 : type_of% @eIf.eq_1 := @eIf.eq_1
@[simp] theorem s_eUn_eq_1 : type_of% @eUn.eq_1 := @eUn.eq_1
@[simp] theorem s_eNot_eq_1 : type_of% @eNot.eq_1 := @eNot.eq_1
@[simp] theorem s_eNotV_eq_1 : type_of% @eNotV.eq_1 := @eNotV.eq_1
@[simp] theorem s_eChain_eq_1 : type_of% @eChain.eq_1 := @eChain.eq_1
@[simp] theorem s_aNil_eq_1 : type_of% @aNil.eq_1 := @aNil.eq_1
@[simp] theorem s_aCons_eq_1 : type_of% @aCons.eq_1 := @aCons.eq_1
@[simp] theorem s_eTup_eq_1 : type_of% @eTup.eq_1 := @eTup.eq_1
@[simp] theorem s_eLst_eq_1 : type_of% @eLst.eq_1 := @eLst.eq_1
@[simp] theorem s_eCall_eq_1 : type_of% @eCall.eq_1 := @eCall.eq_1
@[simp] theorem s_eCallV_eq_1 : type_of% @eCallV.eq_1 := @eCallV.eq_1
@[simp] theorem s_oNone_eq_1 : type_of% @oNone.eq_1 := @oNone.eq_1
@[simp] theorem s_oSome_eq_1 : type_of% @oSome.eq_1 := @oSome.eq_1
@[simp] theorem s_eSl_eq_1 : type_of% @eSl.eq_1 := @eSl.eq_1
@[simp] theorem s_eSlV_eq_1 : type_of% @eSlV.eq_1 := @eSlV.eq_1
@[simp] theorem s_eIs_eq_1 : type_of% @eIs.eq_1 := @eIs.eq_1
@[simp] theorem s_eIsV_eq_1 : type_of% @eIsV.eq_1 := @eIsV.eq_1
@[simp] theorem s_eDef_eq_1 : type_of% @eDef.eq_1 := @eDef.eq_1
@[simp] theorem s_eDefIO_eq_1 : type_of% @eDefIO.eq_1 := @eDefIO.eq_1
@[simp] theorem s_sNil_eq_1 : type_of% @sNil.eq_1 := @sNil.eq_1
@[simp] theorem s_sSeq_eq_1 : type_of% @sSeq.eq_1 := @sSeq.eq_1
@[simp] theorem s_sBad_eq_1 : type_of% @sBad.eq_1 := @sBad.eq_1
@[simp] theorem s_sExpr_eq_1 : type_of% @sExpr.eq_1 := @sExpr.eq_1
@[simp] theorem s_sRet_eq_1 : type_of% @sRet.eq_1 := @sRet.eq_1
@[simp] theorem s_sRetV_eq_1 : type_of% @sRetV.eq_1 := @sRetV.eq_1
@[simp] theorem s_sRetN_eq_1 : type_of% @sRetN.eq_1 := @sRetN.eq_1
@[simp] theorem s_sIf_eq_1 : type_of% @sIf.eq_1 := @sIf.eq_1
@[simp] theorem s_sBreak_eq_1 : type_of% @sBreak.eq_1 := @sBreak.eq_1
@[simp] theorem s_sCont_eq_1 : type_of% @sCont.eq_1 := @sCont.eq_1
@[simp] theorem s_sAsg_eq_1 : type_of% @sAsg.eq_1 := @sAsg.eq_1
@[simp] theorem s_gN_eq_1 : type_of% @gN.eq_1 := @gN.eq_1
@[simp] theorem s_gsNil_eq_1 : type_of% @gsNil.eq_1 := @gsNil.eq_1
@[simp] theorem s_gsNil_eq_2 : type_of% @gsNil.eq_2 := @gsNil.eq_2
@[simp] theorem s_gsCons_eq_1 : type_of% @gsCons.eq_1 := @gsCons.eq_1
@[simp] theorem s_gsCons_eq_2 : type_of% @gsCons.eq_2 := @gsCons.eq_2
@[simp] theorem s_gTupD_eq_1 : type_of% @gTupD.eq_1 := @gTupD.eq_1
@[simp] theorem s_gSub_eq_1 : type_of% @gSub.eq_1 := @gSub.eq_1
@[simp] theorem s_own_eq_1 : type_of% @own.eq_1 := @own.eq_1
@[simp] theorem s_setL_eq_1 : type_of% @setL.eq_1 := @setL.eq_1
@[simp] theorem s_pk_eq_1 : type_of% @pk.eq_1 := @pk.eq_1
@[simp] theorem s_pkD_eq_1 : type_of% @pkD.eq_1 := @pkD.eq_1
@[simp] theorem s_pkD_eq_2 : type_of% @pkD.eq_2 := @pkD.eq_2
@[simp] theorem s_shDs_eq_1 : type_of% @shDs.eq_1 := @shDs.eq_1
@[simp] theorem s_shDs_eq_2 : type_of% @shDs.eq_2 := @shDs.eq_2
@[simp] theorem s_shD_eq_1 : type_of% @shD.eq_1 := @shD.eq_1
@[simp] theorem s_shD_eq_2 : type_of% @shD.eq_2 := @shD.eq_2
@[simp] theorem s_eMt1_eq_1 : type_of% @eMt1.eq_1 := @eMt1.eq_1
@[simp] theorem s_eMt0_eq_1 : type_of% @eMt0.eq_1 := @eMt0.eq_1
@[simp] theorem s_iE_eq_1 : type_of% @iE.eq_1 := @iE.eq_1
@[simp] theorem s_iR1_eq_1 : type_of% @iR1.eq_1 := @iR1.eq_1
@[simp] theorem s_iR2_eq_1 : type_of% @iR2.eq_1 := @iR2.eq_1
@[simp] theorem s_iEn_eq_1 : type_of% @iEn.eq_1 := @iEn.eq_1
@[simp] theorem s_iZ_eq_1 : type_of% @iZ.eq_1 := @iZ.eq_1
@[simp] theorem s_startE_eq_1 : type_of% @startE.eq_1 := @startE.eq_1
@[simp] theorem s_T_val_eq_1 : type_of% @T.val.eq_1 := @T.val.eq_1
@[simp] theorem s_T_val_eq_2 : type_of% @T.val.eq_2 := @T.val.eq_2
@[simp] theorem s_T_vals_eq_1 : type_of% @T.vals.eq_1 := @T.vals.eq_1
@[simp] theorem s_T_vals_eq_2 : type_of% @T.vals.eq_2 := @T.vals.eq_2
@[simp] theorem s_wipeE_eq_1 : type_of% @wipeE.eq_1 := @wipeE.eq_1
@[simp] theorem s_wipeE_eq_2 : type_of% @wipeE.eq_2 := @wipeE.eq_2
@[simp] theorem s_backE_eq_1 : type_of% @backE.eq_1 := @backE.eq_1
@[simp] theorem s_backE_eq_2 : type_of% @backE.eq_2 := @backE.eq_2
@[simp] theorem s_ownFree_eq_1 : type_of% @ownFree.eq_1 := @ownFree.eq_1
@[simp] theorem s_free1_eq_1 : type_of% @free1.eq_1 := @free1.eq_1
@[simp] theorem s_seqOf_eq_1 : type_of% @seqOf.eq_1 := @seqOf.eq_1
@[simp] theorem s_seqOf_eq_2 : type_of% @seqOf.eq_2 := @seqOf.eq_2
@[simp] theorem s_seqOf_eq_3 : type_of% @seqOf.eq_3 := @seqOf.eq_3
@[simp] theorem s_bTrue_eq_1 : type_of% @bTrue.eq_1 := @bTrue.eq_1
@[simp] theorem s_eLstRg1_eq_1 : type_of% @eLstRg1.eq_1 := @eLstRg1.eq_1
@[simp] theorem s_eTupRg1_eq_1 : type_of% @eTupRg1.eq_1 := @eTupRg1.eq_1
@[simp] theorem s_isI_eq_1 : type_of% @isI.eq_1 := @isI.eq_1
@[simp] theorem s_isI_eq_2 : type_of% @isI.eq_2 := @isI.eq_2
@[simp] theorem s_isI_eq_3 : type_of% @isI.eq_3 := @isI.eq_3
@[simp] theorem s_isI_eq_4 : type_of% @isI.eq_4 := @isI.eq_4
@[simp] theorem s_isI_eq_5 : type_of% @isI.eq_5 := @isI.eq_5
@[simp] theorem s_isI_eq_6 : type_of% @isI.eq_6 := @isI.eq_6
@[simp] theorem s_isI_eq_7 : type_of% @isI.eq_7 := @isI.eq_7
@[simp] theorem s_isI_eq_8 : type_of% @isI.eq_8 := @isI.eq_8
@[simp] theorem s_goNil : type_of% @goNil.eq_1 := @goNil.eq_1
@[simp] theorem s_goCons : type_of% @goCons.eq_1 := @goCons.eq_1
@[simp] theorem s_goCons2 : type_of% @goCons.eq_2 := @goCons.eq_2
@[simp] theorem s_eMq : type_of% @eMq.eq_1 := @eMq.eq_1
@[simp] theorem s_eRevL : type_of% @eRevL.eq_1 := @eRevL.eq_1
@[simp] theorem s_eRevS : type_of% @eRevS.eq_1 := @eRevS.eq_1
@[simp] theorem s_iZ3 : type_of% @iZ3.eq_1 := @iZ3.eq_1
@[simp] theorem s_sPar : type_of% @sPar.eq_1 := @sPar.eq_1
@[simp] theorem s_eDct1 : type_of% @eDct1.eq_1 := @eDct1.eq_1
@[simp] theorem keyD_0 : keyD (.inl 0) = .int 0 := rfl
@[simp] theorem opEqS_str {a b : Str} : opEqS (.str a) (.str b) = some (.sh (.bool (decide (a = b)))) := rfl
@[simp] theorem opNeS_str {a b : Str} : opNeS (.str a) (.str b) = some (.sh (.bool (!decide (a = b)))) := rfl
@[simp] theorem s_sMul : type_of% @sMul.eq_1 := @sMul.eq_1
/-! ### operations on what is known -/
section
variable {i j : Int} {a b : List PyData} {x y : Bool} {s u : Str} {d e : PyData}
theorem mulFits_r (h : -18446744073709551616 < j ∧ j < 18446744073709551616) : mulFits i j = true := by
  unfold mulFits small64
  rw [decide_eq_true h.1, decide_eq_true h.2]
  simp
theorem mulFits_l (h : -18446744073709551616 < i ∧ i < 18446744073709551616) : mulFits i j = true := by
  unfold mulFits small64
  rw [decide_eq_true h.1, decide_eq_true h.2]
  simp
@[simp] theorem opAdd_int : opAdd (.int i) (.int j) = some (.sh (.int (i + j))) := rfl
theorem opAdd_tup (h : a.length + b.length ≤ 16777216) : opAdd (.tuple a) (.tuple b) = some (.sh (.tuple (a ++ b))) := if_pos h
theorem opAdd_list (h : a.length + b.length ≤ 16777216) : opAdd (.list a) (.list b) = some (.lst ((a ++ b).map T.sh)) := if_pos h
@[simp] theorem opSub_int : opSub (.int i) (.int j) = some (.sh (.int (i - j))) := rfl
theorem opMul_int (h : mulFits i j = true) : opMul (.int i) (.int j) = some (.sh (.int (i * j))) := if_pos h
@[simp] theorem opMul_intL (h : -18446744073709551616 < i ∧ i < 18446744073709551616) : opMul (.int i) (.int j) = some (.sh (.int (i * j))) := opMul_int (mulFits_l h)
@[simp] theorem opMul_intR (h : -18446744073709551616 < j ∧ j < 18446744073709551616) : opMul (.int i) (.int j) = some (.sh (.int (i * j))) := opMul_int (mulFits_r h)
theorem log2_small {n : Nat} (h : n < 2 ^ 64) : n.log2 < 9000 := by
  by_cases h0 : n = 0
  · subst h0; decide
  · have := (Nat.log2_lt h0).mpr h
    omega
@[simp] theorem opFdiv_int (h : 0 < j) (h2 : j < 18446744073709551616) : opFdiv (.int i) (.int j) = some (.sh (.int (i / j))) := by
  have c : (decide (0 < j) && decide (j.natAbs.log2 < 9000)) = true := by
    rw [decide_eq_true h, decide_eq_true (log2_small (by omega))]
    rfl
  exact if_pos c
@[simp] theorem opMod_int (h : 0 < j) : opMod (.int i) (.int j) = some (.sh (.int (i % j))) := by
  exact if_pos (decide_eq_true h)
theorem opPow_int (h : 0 ≤ j ∧ j ≤ 1000000 ∧ i.natAbs < 18446744073709551616) : opPow (.int i) (.int j) = some (.sh (.int (i ^ j.toNat))) := if_pos (decide_eq_true h)
@[simp] theorem shp_none : shp .none = true := by decide +kernel
@[simp] theorem shp_int : shp (.int i) = true := rfl
@[simp] theorem shp_bool : shp (.bool x) = true := rfl

theorem opEq_of (h1 : shp d = true) (h2 : shp e = true) : opEq d e = some (.sh (.bool (PyData.eqv d e))) := by
  unfold opEq
  rw [h1, h2]
  rfl
theorem opNe_of (h1 : shp d = true) (h2 : shp e = true) : opNe d e = some (.sh (.bool (!PyData.eqv d e))) := by
  unfold opNe
  rw [h1, h2]
  rfl
@[simp] theorem opEq_int : opEq (.int i) (.int j) = some (.sh (.bool (decide (i = j)))) := by
  rw [opEq_of rfl rfl]
  simp only [PyData.eqv]
  congr 3
@[simp] theorem opEq_bool : opEq (.bool x) (.bool y) = some (.sh (.bool (x == y))) := by
  rw [opEq_of rfl rfl]
  simp [PyData.eqv]
@[simp] theorem opEq_nn : opEq .none .none = some (.sh (.bool true)) := by
  rw [opEq_of rfl rfl]
  simp [PyData.eqv]
@[simp] theorem opEq_ni : opEq .none (.int i) = some (.sh (.bool false)) := by
  rw [opEq_of rfl rfl]
  simp [PyData.eqv]
@[simp] theorem opEq_in : opEq (.int i) .none = some (.sh (.bool false)) := by
  rw [opEq_of rfl rfl]
  simp [PyData.eqv]
@[simp] theorem opNe_int : opNe (.int i) (.int j) = some (.sh (.bool (!decide (i = j)))) := by
  rw [opNe_of rfl rfl]
  simp only [PyData.eqv]
  congr 3
@[simp] theorem opNe_bool : opNe (.bool x) (.bool y) = some (.sh (.bool (x != y))) := by
  rw [opNe_of rfl rfl]
  simp [PyData.eqv, bne]
@[simp] theorem opIs_none : opIs d .none = some (.sh (.bool (isNone d))) := by cases d <;> rfl
@[simp] theorem opIsNot_none : opIsNot d .none = some (.sh (.bool (!isNone d))) := by cases d <;> rfl
@[simp] theorem opIs_bool : opIs (.bool x) (.bool y) = some (.sh (.bool (x == y))) := rfl
@[simp] theorem opIsNot_bool : opIsNot (.bool x) (.bool y) = some (.sh (.bool (!(x == y)))) := rfl
@[simp] theorem isNone_int : isNone (.int i) = false := rfl
@[simp] theorem isNone_none : isNone .none = true := rfl
@[simp] theorem isNone_bool : isNone (.bool x) = false := rfl
@[simp] theorem isNone_tup : isNone (.tuple a) = false := rfl
@[simp] theorem isNone_list : isNone (.list a) = false := rfl
@[simp] theorem isNone_str : isNone (.str s) = false := rfl
@[simp] theorem opLt_int : opLt (.int i) (.int j) = some (.sh (.bool (decide (i < j)))) := rfl
@[simp] theorem opLe_int : opLe (.int i) (.int j) = some (.sh (.bool (decide (i ≤ j)))) := rfl
@[simp] theorem opGt_int : opGt (.int i) (.int j) = some (.sh (.bool (decide (j < i)))) := rfl
@[simp] theorem opGe_int : opGe (.int i) (.int j) = some (.sh (.bool (decide (j ≤ i)))) := rfl
@[simp] theorem opIx_list : opIx (.list a) (.int i) = (atI a i).map T.sh := rfl
@[simp] theorem opIx_tup : opIx (.tuple a) (.int i) = (atI a i).map T.sh := rfl
@[simp] theorem opSl_list {lo hi : Option Int} : opSl (.list a) lo hi = some (.lst ((cutA a lo hi).map T.sh)) := rfl
@[simp] theorem opSl_tup {lo hi : Option Int} : opSl (.tuple a) lo hi = some (.sh (.tuple (cutA a lo hi))) := rfl
@[simp] theorem opNeg_int : opNeg (.int i) = some (.sh (.int (-i))) := rfl
@[simp] theorem bLen_list : bLen [.list a] = some (.sh (.int a.length)) := rfl
@[simp] theorem bLen_tup : bLen [.tuple a] = some (.sh (.int a.length)) := rfl
@[simp] theorem bInt_int : bInt [.int i] = some (.sh (.int i)) := rfl
@[simp] theorem bInt_bool : bInt [.bool x] = some (.sh (.int (if x then 1 else 0))) := rfl
@[simp] theorem bAbs_int : bAbs [.int i] = some (.sh (.int (if i < 0 then -i else i))) := rfl
@[simp] theorem bMin_int : bMin [.int i, .int j] = some (.sh (.int (if j < i then j else i))) := rfl
@[simp] theorem bMax_int : bMax [.int i, .int j] = some (.sh (.int (if j > i then j else i))) := rfl
@[simp] theorem bTuple_list : bTuple [.list a] = some (.sh (.tuple a)) := rfl
@[simp] theorem bTuple_tup : bTuple [.tuple a] = some (.sh (.tuple a)) := rfl
@[simp] theorem bList_list : bList [.list a] = some (.lst (a.map T.sh)) := rfl
@[simp] theorem bList_tup : bList [.tuple a] = some (.lst (a.map T.sh)) := rfl
@[simp] theorem bSum_ints {ns : List Int} : bSum [.list (ns.map PyData.int)] = some (.sh (.int ns.sum)) := by simp [bSum]
@[simp] theorem bAll_bools {bs : List Bool} : bAll [.list (bs.map PyData.bool)] = some (.sh (.bool (bs.all id))) := by simp [bAll]
@[simp] theorem bAny_bools {bs : List Bool} : bAny [.list (bs.map PyData.bool)] = some (.sh (.bool (bs.any id))) := by simp [bAny]
@[simp] theorem vals_map_sh {α : Type} {l : List α} {g : α → PyData} : T.vals (l.map fun x => T.sh (g x)) = l.map g := by
  induction l with
  | nil => rfl
  | cons x l ih => simp [T.vals, ih]
@[simp] theorem vals_map_comp {α : Type} {l : List α} {g : α → PyData} : T.vals (l.map (T.sh ∘ g)) = l.map g := vals_map_sh
@[simp] theorem filter_tt {α : Type} {l : List α} : l.filter (fun _ => true) = l := List.filter_eq_self.mpr fun _ _ => rfl
@[simp] theorem shDs_map_sh {α : Type} {l : List α} {g : α → PyData} : shDs (l.map fun x => T.sh (g x)) = some (l.map g) := by
  induction l with
  | nil => rfl
  | cons x l ih => simp [shDs, shD, ih]
theorem ints_map' {α : Type} {l : List α} {g : α → Int} : intsOf (l.map fun x => PyData.int (g x)) = some (l.map g) := by
  induction l with
  | nil => rfl
  | cons x l ih => simp [intsOf, ih]
theorem bools_map' {α : Type} {l : List α} {g : α → Bool} : boolsOf (l.map fun x => PyData.bool (g x)) = some (l.map g) := by
  induction l with
  | nil => rfl
  | cons x l ih => simp [boolsOf, ih]
@[simp] theorem bSum_map {α : Type} {l : List α} {g : α → Int} : bSum [.list (l.map fun x => PyData.int (g x))] = some (.sh (.int (l.map g).sum)) := by simp [bSum, ints_map']
@[simp] theorem bAll_map {α : Type} {l : List α} {g : α → Bool} : bAll [.list (l.map fun x => PyData.bool (g x))] = some (.sh (.bool (l.all g))) := by simp [bAll, bools_map']
@[simp] theorem bAny_map {α : Type} {l : List α} {g : α → Bool} : bAny [.list (l.map fun x => PyData.bool (g x))] = some (.sh (.bool (l.any g))) := by simp [bAny, bools_map']
theorem bSorted_of {ds : List PyData} (h : sortable ds = true) : bSorted [.list ds] = some (.lst ((sortD ds).map T.sh)) := if_pos h
@[simp] theorem mAppend_of {us : List T} {t : T} (h : us.length < 16777216) : mAppend us t = some (us ++ [t], .sh .none) := by
  unfold mAppend line
  rw [if_pos (decide_eq_true h)]
@[simp] theorem mExtend_of {us ts : List T} (h : us.length + ts.length < 16777216) : mExtend us (.lst ts) = some (us ++ ts, .sh .none) := by
  unfold mExtend line
  simp only [decide_eq_true h, if_pos]
theorem atI_ok {ds : List PyData} {a : Int} (h0 : 0 ≤ a) (h1 : a < ds.length) : atI ds a = ds[a.toNat]? := by
  unfold atI ixN
  rw [if_pos h0, if_pos h1]
  rfl
theorem atI_of {α : Type} {ds : List α} {k : Nat} {v : α} (h : ds[k]? = some v) : atI ds (k : Int) = some v := atI_nat h
@[simp] theorem atI_0 {α : Type} {a : α} {l : List α} : atI (a :: l) 0 = some a := atI_nat (j := 0) rfl
@[simp] theorem atI_1 {α : Type} {a b : α} {l : List α} : atI (a :: b :: l) 1 = some b := atI_nat (j := 1) rfl
@[simp] theorem atI_2 {α : Type} {a b c : α} {l : List α} : atI (a :: b :: c :: l) 2 = some c := atI_nat (j := 2) rfl
@[simp] theorem atI_3 {α : Type} {a b c d : α} {l : List α} : atI (a :: b :: c :: d :: l) 3 = some d := atI_nat (j := 3) rfl
@[simp] theorem atI_4 {α : Type} {a b c d e : α} {l : List α} : atI (a :: b :: c :: d :: e :: l) 4 = some e := atI_nat (j := 4) rfl
@[simp] theorem ixN_0 {n : Nat} : ixN (n + 1) 0 = some 0 := by simp [ixN]
@[simp] theorem ixN_5 : ixN 5 0 = some 0 ∧ ixN 5 1 = some 1 ∧ ixN 5 2 = some 2 ∧ ixN 5 3 = some 3 ∧ ixN 5 4 = some 4 := by decide
@[simp] theorem fits_ok {n : Nat} (h : n ≤ 1000) : fits n = true := decide_eq_true h
theorem rg62_of {i : Int} (h : -1000000000 ≤ i) (h2 : i ≤ 1000000000) : rg62 i = true := by
  unfold rg62
  rw [decide_eq_true h, decide_eq_true h2]
  rfl
@[simp] theorem rg62_nat {n : Nat} (h : n ≤ 1000000) : rg62 (n : Int) = true := rg62_of (by omega) (by omega)
end
end Pv
set_option Elab.async false
set_option linter.all false
set_option maxRecDepth 100000
set_option maxHeartbeats 4000000
namespace Pv
open PySem L2
theorem sSeq_is {f g : FS} {η : Env} {P : Fl × Env → Prop} (h : (f η).Is fun p => match p.1 with
    | .nx => (g p.2).Is P
    | _ => P p) : (sSeq f g η).Is P := by
  obtain ⟨⟨fl, η1⟩, e, hp⟩ := h
  unfold sSeq
  rw [e]
  simp only [Rs.bind_ok]
  cases fl with
  | nx => exact hp
  | ret t => exact ⟨_, rfl, hp⟩
  | bk => exact ⟨_, rfl, hp⟩
  | ct => exact ⟨_, rfl, hp⟩
theorem sSeq_nx {f g : FS} {η η1 : Env} {P : Fl × Env → Prop} (h : f η = .ok (.nx, η1)) (k : (g η1).Is P) : (sSeq f g η).Is P := sSeq_is ⟨_, h, k⟩
/-! ### the hand that 18 laws draw from -/
def handT (cells : List Int) (a b c d : Int) : T := .lst [.sh (.list (cells.map PyData.int)), .sh (.int a), .sh (.int b), .sh (.int c), .sh (.int d)]
def Hand (t : T) : Prop := ∃ cells a b c d, t = handT cells a b c d ∧ (∀ x ∈ cells, 0 ≤ x) ∧ 0 ≤ a ∧ 0 ≤ b
def drawB : FS := (sSeq (sIf (bAnd (bT (eBin opEq (eBinL' opIx 0 (eC (.int 2))) (eC (.int 0)))) (bT (eBin opLt (eBinL' opIx 0 (eC (.int 1))) (eCall bLen (aCons (eBinL' opIx 0 (eC (.int 0))) aNil))))) (sSeq (sAsg (eBin opIx (eBinL' opIx 0 (eC (.int 0))) (eBinL' opIx 0 (eC (.int 1)))) (gN 2)) (sSeq (sAsg (eBin opAdd (eBinL' opIx 0 (eC (.int 1))) (eC (.int 1))) (gSub 0 (eC (.int 1)))) (sSeq (sAsg (eBin opMod (eCall bInt (aCons (eBin opAdd (eBinR opAdd (eBin opMul (eBinL' opIx 0 (eC (.int 3))) (eC (.int 48271))) 2) (eC (.int 31))) aNil)) (eC (.int 2147483647))) (gSub 0 (eC (.int 3)))) (sIf (bT (eBinL' opGe 2 (eBin opPow (eC (.int 10)) (eC (.int 18))))) (sAsg (eV 2) (gSub 0 (eC (.int 2)))) sNil)))) sNil) (sSeq (sIf (bT (eBin opGt (eBinL' opIx 0 (eC (.int 2))) (eC (.int 0)))) (sSeq (sAsg (eBinR opMod (eCall bInt (aCons (eBinL' opIx 0 (eC (.int 2))) aNil)) 1) (gN 3)) (sSeq (sAsg (eBinR opFdiv (eBinL' opIx 0 (eC (.int 2))) 1) (gSub 0 (eC (.int 2)))) (sRetV 3))) sNil) (sSeq (sAsg (eBin opAdd (eBinL' opIx 0 (eC (.int 4))) (eC (.int 1))) (gSub 0 (eC (.int 4)))) (sSeq (sAsg (eBin opMod (eCall bInt (aCons (eBin opMul (eCall bInt (aCons (eBin opAdd (eBinL' opIx 0 (eC (.int 3))) (eBin opMul (eC (.int 6151)) (eBinL' opIx 0 (eC (.int 4))))) aNil)) (eC (.int 40692))) aNil)) (eC (.int 2147483399))) (gN 4)) (sSeq (sAsg (eBin opMod (eCall bInt (aCons (eBinL' opMul 4 (eBin opAdd (eBinL' opFdiv 4 (eC (.int 1223))) (eC (.int 52027)))) aNil)) (eC (.int 2147483629))) (gN 4)) (sSeq (sAsg (eBin opMod (eCall bInt (aCons (eBinL' opMul 4 (eBin opAdd (eBinL' opFdiv 4 (eC (.int 2671))) (eC (.int 69621)))) aNil)) (eC (.int 2147483647))) (gN 4)) (sRet (eBinR opMod (eCall bInt (aCons (eBinL' opFdiv 4 (eC (.int 32))) aNil)) 1))))))))
def drawB1 : FS := (sIf (bAnd (bT (eBin opEq (eBinL' opIx 0 (eC (.int 2))) (eC (.int 0)))) (bT (eBin opLt (eBinL' opIx 0 (eC (.int 1))) (eCall bLen (aCons (eBinL' opIx 0 (eC (.int 0))) aNil))))) (sSeq (sAsg (eBin opIx (eBinL' opIx 0 (eC (.int 0))) (eBinL' opIx 0 (eC (.int 1)))) (gN 2)) (sSeq (sAsg (eBin opAdd (eBinL' opIx 0 (eC (.int 1))) (eC (.int 1))) (gSub 0 (eC (.int 1)))) (sSeq (sAsg (eBin opMod (eCall bInt (aCons (eBin opAdd (eBinR opAdd (eBin opMul (eBinL' opIx 0 (eC (.int 3))) (eC (.int 48271))) 2) (eC (.int 31))) aNil)) (eC (.int 2147483647))) (gSub 0 (eC (.int 3)))) (sIf (bT (eBinL' opGe 2 (eBin opPow (eC (.int 10)) (eC (.int 18))))) (sAsg (eV 2) (gSub 0 (eC (.int 2)))) sNil)))) sNil)
def drawB2 : FS := (sIf (bT (eBin opGt (eBinL' opIx 0 (eC (.int 2))) (eC (.int 0)))) (sSeq (sAsg (eBinR opMod (eCall bInt (aCons (eBinL' opIx 0 (eC (.int 2))) aNil)) 1) (gN 3)) (sSeq (sAsg (eBinR opFdiv (eBinL' opIx 0 (eC (.int 2))) 1) (gSub 0 (eC (.int 2)))) (sRetV 3))) sNil)
def drawB3 : FS := (sSeq (sAsg (eBin opAdd (eBinL' opIx 0 (eC (.int 4))) (eC (.int 1))) (gSub 0 (eC (.int 4)))) (sSeq (sAsg (eBin opMod (eCall bInt (aCons (eBin opMul (eCall bInt (aCons (eBin opAdd (eBinL' opIx 0 (eC (.int 3))) (eBin opMul (eC (.int 6151)) (eBinL' opIx 0 (eC (.int 4))))) aNil)) (eC (.int 40692))) aNil)) (eC (.int 2147483399))) (gN 4)) (sSeq (sAsg (eBin opMod (eCall bInt (aCons (eBinL' opMul 4 (eBin opAdd (eBinL' opFdiv 4 (eC (.int 1223))) (eC (.int 52027)))) aNil)) (eC (.int 2147483629))) (gN 4)) (sSeq (sAsg (eBin opMod (eCall bInt (aCons (eBinL' opMul 4 (eBin opAdd (eBinL' opFdiv 4 (eC (.int 2671))) (eC (.int 69621)))) aNil)) (eC (.int 2147483647))) (gN 4)) (sRet (eBinR opMod (eCall bInt (aCons (eBinL' opFdiv 4 (eC (.int 32))) aNil)) 1))))))
theorem drawB_eq : drawB = sSeq drawB1 (sSeq drawB2 drawB3) := rfl
theorem drawB1_ok {t : T} {many : Int} (h : Hand t) : ∃ t' x, Hand t' ∧ drawB1 [some t, some (.sh (.int many)), none, none, none] = .ok (.nx, [some t', some (.sh (.int many)), x, none, none]) := by
  obtain ⟨cells, a, b, c, d, rfl, hc, ha, hb⟩ := h
  unfold drawB1
  by_cases h1 : b = 0 ∧ a < cells.length
  · have hat : atI (cells.map PyData.int) a = some (.int (cells[a.toNat]'(by omega))) := by
      rw [atI_ok ha (by simpa using h1.2)]
      simp
    have hx : 0 ≤ cells[a.toNat]'(by omega) := hc _ (List.getElem_mem _)
    generalize cells[a.toNat]'(by omega) = x at hat hx
    obtain ⟨rfl, h1⟩ := h1
    by_cases h2 : (1000000000000000000 : Int) ≤ x
    · refine ⟨handT cells (a + 1) x ((c * 48271 + x + 31) % 2147483647) d, some (.sh (.int x)), ⟨_, _, _, _, _, rfl, hc, by omega, hx⟩, ?_⟩
      simp [handT, h1, hat, opPow_int, h2]
    · refine ⟨handT cells (a + 1) 0 ((c * 48271 + x + 31) % 2147483647) d, some (.sh (.int x)), ⟨_, _, _, _, _, rfl, hc, by omega, by omega⟩, ?_⟩
      simp [handT, h1, hat, opPow_int, h2]
  · refine ⟨handT cells a b c d, none, ⟨_, _, _, _, _, rfl, hc, ha, hb⟩, ?_⟩
    by_cases h2 : b = 0
    · have h3 : ¬ a < cells.length := fun z => h1 ⟨h2, z⟩
      simp [handT, h2, h3]
    · simp [handT, h2]
theorem drawB2_ok {t : T} {many : Int} {x : Option T} (hm : 1 ≤ many) (hm2 : many < 18446744073709551616) (h : Hand t) : (drawB2 [some t, some (.sh (.int many)), x, none, none]).Is fun p => (p.1 = .nx ∧ p.2 = [some t, some (.sh (.int many)), x, none, none]) ∨ ∃ t' f y, Hand t' ∧ 0 ≤ f ∧ f < many ∧ p = (.ret (.sh (.int f)), [some t', some (.sh (.int many)), x, y, none]) := by
  obtain ⟨cells, a, b, c, d, rfl, hc, ha, hb⟩ := h
  unfold drawB2
  by_cases h1 : 0 < b
  · refine ⟨(.ret (.sh (.int (b % many))), [some (handT cells a (b / many) c d), some (.sh (.int many)), x, none, none]), ?_, .inr ⟨_, _, none, ⟨_, _, _, _, _, rfl, hc, ha, Int.ediv_nonneg hb (by omega)⟩, Int.emod_nonneg _ (by omega), Int.emod_lt_of_pos _ (by omega), rfl⟩⟩
    simp [handT, h1, opMod_int (show 0 < many by omega), opFdiv_int (show 0 < many by omega) hm2]
  · refine ⟨(.nx, [some (handT cells a b c d), some (.sh (.int many)), x, none, none]), ?_, .inl ⟨rfl, rfl⟩⟩
    simp [handT, h1]
theorem drawB3_ok {t : T} {many : Int} {x : Option T} (hm : 1 ≤ many) (h : Hand t) : (drawB3 [some t, some (.sh (.int many)), x, none, none]).Is fun p => ∃ t' f y, Hand t' ∧ 0 ≤ f ∧ f < many ∧ p = (.ret (.sh (.int f)), [some t', some (.sh (.int many)), x, none, y]) := by
  obtain ⟨cells, a, b, c, d, rfl, hc, ha, hb⟩ := h
  have st : ∀ m : Int, 0 ≤ m → m < 2147483648 → mulFits m (m / 1223 + 52027) = true ∧ mulFits m (m / 2671 + 69621) = true := fun m h1 h2 => ⟨mulFits_l (by omega), mulFits_l (by omega)⟩
  have n1 := Int.emod_nonneg ((c + 6151 * (d + 1)) * 40692) (show (2147483399 : Int) ≠ 0 by decide)
  have n2 := Int.emod_lt_of_pos ((c + 6151 * (d + 1)) * 40692) (show (0 : Int) < 2147483399 by decide)
  have e1 := (st _ n1 (by omega)).1
  have hR : ∀ m1 : Int, m1 = (c + 6151 * (d + 1)) * 40692 % 2147483399 → ∀ m2 : Int, m2 = m1 * (m1 / 1223 + 52027) % 2147483629 → ∀ m3 : Int, m3 = m2 * (m2 / 2671 + 69621) % 2147483647 →
      drawB3 [some (handT cells a b c d), some (.sh (.int many)), x, none, none] = .ok (.ret (.sh (.int (m3 / 32 % many))), [some (handT cells a b c (d + 1)), some (.sh (.int many)), x, none, some (.sh (.int m3))]) := by
    intro m1 h1 m2 h2 m3 h3
    have e1 : mulFits m1 (m1 / 1223 + 52027) = true := (st m1 (by omega) (by omega)).1
    have b2 : 0 ≤ m2 ∧ m2 < 2147483629 := by
      rw [h2]
      exact ⟨Int.emod_nonneg _ (by decide), Int.emod_lt_of_pos _ (by decide)⟩
    have e2 : mulFits m2 (m2 / 2671 + 69621) = true := (st m2 b2.1 (by omega)).2
    unfold drawB3
    simp [handT, opMod_int (show 0 < many by omega), ← h1, opMul_int e1, ← h2, opMul_int e2, ← h3]
  refine ⟨_, hR _ rfl _ rfl _ rfl, _, _, _, ⟨_, _, _, _, _, rfl, hc, ha, hb⟩, Int.emod_nonneg _ (by omega), Int.emod_lt_of_pos _ (by omega), rfl⟩
/-- a draw gives a figure below many -/
theorem drawB_ok {t : T} {many : Int} (hm : 1 ≤ many) (hm2 : many < 18446744073709551616) (h : Hand t) : ∃ f t', gIO 5 2 drawB t [.int many] = some (.sh (.int f), t') ∧ Hand t' ∧ 0 ≤ f ∧ f < many := by
  have : ∃ u t', gIO 5 2 drawB t [.int many] = some (u, t') ∧ ∃ f, u = .sh (.int f) ∧ Hand t' ∧ 0 ≤ f ∧ f < many := by
    refine gIO_of (P := fun u t' => ∃ f, u = .sh (.int f) ∧ Hand t' ∧ 0 ≤ f ∧ f < many) rfl ?_
    rw [drawB_eq]
    obtain ⟨t1, x, h1, e1⟩ := drawB1_ok (many := many) h
    refine sSeq_nx e1 (sSeq_is ((drawB2_ok hm hm2 h1).mono fun p hp => ?_))
    rcases hp with ⟨e, e2⟩ | ⟨t', f, y, h2, f0, f1, rfl⟩
    · rw [e, e2]
      refine (drawB3_ok hm h1).mono fun p hp => ?_
      obtain ⟨t', f, y, h2, f0, f1, rfl⟩ := hp
      exact ⟨t', rfl, f, rfl, h2, f0, f1⟩
    · exact ⟨t', rfl, f, rfl, h2, f0, f1⟩
  obtain ⟨u, t', e, f, rfl, r⟩ := this
  exact ⟨f, t', e, r⟩
/-! ### the hand, one of the things -/
def handB : FS := (sSeq (sAsg (eComp [2] (iE (eSlV 0 oNone (oSome (eC (.int 63))))) (gN 2) bTrue (eCall bAbs (aCons (eCallV bInt 2) aNil))) (gN 1)) (sRet (eLst (aCons (eV 1) (aCons (eC (.int 0)) (aCons (eC (.int 0)) (aCons (eBin opAdd (eC (.int 97)) (eBin opMul (eC (.int 5)) (eCallV bLen 1))) (aCons (eC (.int 0)) aNil))))))))
theorem handB_ok {ns : List Int} (h : ns.length ≤ 63) : ∃ t, (gP 3 1 handB [.list (ns.map PyData.int)] = some t) ∧ Hand t := by
  have hcut : cutA (ns.map PyData.int) none (some 63) = ns.map PyData.int := by
    unfold cutA
    rw [show HT.sIx (ns.map PyData.int).length 0 none = 0 by rw [HT.sIx_none]]
    rw [show HT.sIx (ns.map PyData.int).length (ns.map PyData.int).length (some 63) = min 63 (ns.map PyData.int).length from HT.sIx_nat _ _ 63]
    simp only [List.length_map, List.drop_zero, Nat.sub_zero]
    rw [Nat.min_eq_right h]
    exact List.take_of_length_le (by simp)
  refine ⟨handT (ns.map fun x => if x < 0 then -x else x) 0 0 (97 + 5 * ns.length) 0, gP_eq rfl (η := [some (.sh (.list (ns.map PyData.int))), some (.sh (.list (ns.map fun x => PyData.int (if x < 0 then -x else x)))), none]) ?_, ⟨_, _, _, _, _, rfl, fun x hx => ?_, by omega, by omega⟩⟩
  · unfold handB
    have hc : eComp [2] (iE (eSlV 0 oNone (oSome (eC (.int 63))))) (gN 2) bTrue (eCall bAbs (aCons (eCallV bInt 2) aNil)) [some (.sh (.list (ns.map PyData.int))), none, none] = .ok (.lst (ns.map fun x => .sh (.int (if x < 0 then -x else x))), [some (.sh (.list (ns.map PyData.int))), none, none]) :=
      eComp_map ns PyData.int _ (by simp [hcut]) (by omega) (by simp) (by simp) fun x hx => ⟨_, [some (.sh (.list (ns.map PyData.int))), none, some (.sh (.int x))], rfl, by simp, by simp, by simp⟩
    simp [hc, handT]
  · obtain ⟨y, _, rfl⟩ := List.mem_map.mp hx
    split <;> omega
def someB : FS := (sRet (eBinL' opIx 1 (eDefIO (gIO 5 2 drawB) 0 (aCons (eCallV bLen 1) aNil))))
theorem someB_ok {t : T} {d : PyData} {ds : List PyData} (hd : d = .list ds ∨ d = .tuple ds) (h1 : ds ≠ []) (h2 : ds.length < 18446744073709551616) (h : Hand t) : ∃ x t', gIO 2 2 someB t [d] = some (.sh x, t') ∧ Hand t' ∧ x ∈ ds := by
  have hl : 0 < ds.length := List.length_pos_iff.mpr h1
  obtain ⟨f, t', e, h', f0, f1⟩ := drawB_ok (many := ds.length) (by omega) (by omega) h
  have hx : ∃ x, atI ds f = some x ∧ x ∈ ds := by
    refine ⟨ds[f.toNat]'(by omega), ?_, List.getElem_mem _⟩
    rw [atI_ok f0 f1]
    simp
  obtain ⟨x, hx, hm⟩ := hx
  have : ∃ u t', gIO 2 2 someB t [d] = some (u, t') ∧ ∃ x, u = .sh x ∧ Hand t' ∧ x ∈ ds := by
    refine gIO_of (P := fun u t' => ∃ x, u = .sh x ∧ Hand t' ∧ x ∈ ds) rfl ?_
    refine ⟨(.ret (.sh x), [some t', some (.sh d)]), ?_, t', rfl, x, rfl, h', hm⟩
    unfold someB
    rcases hd with rfl | rfl <;> (obtain ⟨cells, a, b, c, d, rfl, _⟩ := h; simp [handT] at e ⊢; simp [e, hx])
  obtain ⟨u, t', e, x, rfl, r⟩ := this
  exact ⟨x, t', e, r⟩
/-! ### the same data -/
def isB (Gs : List PyData → Option T) : FS := (sSeq (sIf (bTru (eIsV [.tuple, .list] 1)) (sSeq (sIf (bOr (bT (eBin opNe (eIsV [.tuple] 0) (eIsV [.tuple] 1))) (bNot (bTru (eIsV [.tuple, .list] 0)))) (sRet (eC (.bool false))) sNil) (sRet (eAnd (eBin opEq (eCallV bLen 0) (eCallV bLen 1)) (eCall bAll (aCons (eComp [2, 3] (iZ (eV 0) (eV 1)) (gTupD 2 (gsCons (gN 2) (gsCons (gN 3) gsNil))) bTrue (eDef Gs (aCons (eV 2) (aCons (eV 3) aNil)))) aNil))))) sNil) (sSeq (sIf (bOr (bTru (eIsV [.str] 1)) (bT (eBinL' opIs 1 (eC .none)))) (sRet (eAnd (eBin opEq (eIsV [.str] 0) (eIsV [.str] 1)) (eBinLR opEq 0 1))) sNil) (sRet (eAnd (eIsV [.int] 0) (eAnd (eBin opEq (eIsV [.bool] 0) (eIsV [.bool] 1)) (eBinLR opEq 0 1))))))
def isG : Nat → List PyData → Option T
  | 0 => fun _ => none
  | m + 1 => gP 4 2 (isB (isG m))
mutual
/-- data without dicts; d: to which depth -/
def plain : Nat → PyData → Bool
  | _, .none => true
  | _, .bool _ => true
  | _, .int _ => true
  | _, .str s => PyData.canLay0 (.str s)
  | n + 1, .list ds => plains n ds && decide (ds.length < 16777216)
  | n + 1, .tuple ds => plains n ds && decide (ds.length < 16777216)
  | _, _ => false
def plains : Nat → List PyData → Bool
  | _, [] => true
  | n, d :: ds => plain n d && plains n ds
end
theorem plains_mem {n : Nat} : ∀ {ds : List PyData}, plains n ds = true → ∀ d ∈ ds, plain n d = true
  | d :: ds, h, x, hx => by
    simp only [plains, Bool.and_eq_true] at h
    rcases List.mem_cons.mp hx with rfl | hx
    · exact h.1
    · exact plains_mem h.2 x hx
theorem plains_of {n : Nat} : ∀ {ds : List PyData}, (∀ d ∈ ds, plain n d = true) → plains n ds = true
  | [], _ => by simp [plains]
  | d :: ds, h => by
    simp only [plains, Bool.and_eq_true]
    exact ⟨h d List.mem_cons_self, plains_of fun x hx => h x (List.mem_cons_of_mem _ hx)⟩
theorem zipD_self : ∀ ds : List PyData, zipD ds ds = ds.map fun x => .tuple [x, x]
  | [] => rfl
  | d :: ds => by
    simp only [zipD, List.map_cons, zipD_self ds]
theorem isG_self : ∀ {n m : Nat} {d : PyData}, plain n d = true → n < m → isG m [d, d] = some (.sh (.bool true))
  | n, 0, d, _, h => absurd h (Nat.not_lt_zero _)
  | n, m + 1, d, hp, hm => by
    refine gP_eq rfl (η := [some (.sh d), some (.sh d), none, none]) ?_
    unfold isB
    have seq : ∀ (ds : List PyData) (n' : Nat), n = n' + 1 → plains n' ds = true → ds.length < 16777216 → d = .list ds ∨ d = .tuple ds →
        eComp [2, 3] (iZ (eV 0) (eV 1)) (gTupD 2 (gsCons (gN 2) (gsCons (gN 3) gsNil))) bTrue (eDef (isG m) (aCons (eV 2) (aCons (eV 3) aNil))) [some (.sh d), some (.sh d), none, none] = .ok (.lst (ds.map fun _ => .sh (.bool true)), [some (.sh d), some (.sh d), none, none]) := by
      intro ds n' hn h1 h2 hd
      refine eComp_map ds (fun x => .tuple [x, x]) _ (by rcases hd with rfl | rfl <;> simp [zipD_self]) h2 (by simp) (by simp) fun y hy => ?_
      have ih := isG_self (m := m) (plains_mem h1 y hy) (by omega)
      exact ⟨[some (.sh d), some (.sh d), some (.sh y), some (.sh y)], [some (.sh d), some (.sh d), some (.sh y), some (.sh y)], by simp, by simp [ih], by simp, by simp⟩
    cases d with
    | none => simp
    | bool b => simp
    | int i => simp
    | str s =>
      have h1 : shp (.str s) = true := by
        have hp : PyData.canLay0 (.str s) = true := by
          cases n <;> exact hp
        unfold shp SeqAt.shaped
        rw [hp]
        rfl
      simp [opEq_of h1 h1, PyData.eqv]
    | list ds =>
      cases n with
      | zero => simp [plain] at hp
      | succ n =>
        simp only [plain, Bool.and_eq_true, decide_eq_true_eq] at hp
        simp [seq ds n rfl hp.1 hp.2 (.inl rfl)]
    | tuple ds =>
      cases n with
      | zero => simp [plain] at hp
      | succ n =>
        simp only [plain, Bool.and_eq_true, decide_eq_true_eq] at hp
        simp [seq ds n rfl hp.1 hp.2 (.inr rfl)]
    | dict b => cases n <;> simp [plain] at hp
end Pv
set_option Elab.async false
set_option linter.all false
set_option maxRecDepth 100000
set_option maxHeartbeats 4000000
/-! the hand that 28 laws draw from; three numbers differ -/
namespace Pv
open PySem L2
section
variable (c2 c3 c4 : Int)
def drawA1 : FS := (sIf (bAnd (bT (eBin opEq (eBinL' opIx 0 (eC (.int 2))) (eC (.int 0)))) (bT (eBin opLt (eBinL' opIx 0 (eC (.int 1))) (eCall bLen (aCons (eBinL' opIx 0 (eC (.int 0))) aNil))))) (sSeq (sAsg (eBin opIx (eBinL' opIx 0 (eC (.int 0))) (eBinL' opIx 0 (eC (.int 1)))) (gN 2)) (sSeq (sAsg (eBin opAdd (eBinL' opIx 0 (eC (.int 1))) (eC (.int 1))) (gSub 0 (eC (.int 1)))) (sSeq (sAsg (eBin opMod (eCall bInt (aCons (eBin opAdd (eBin opAdd (eBin opMul (eBinL' opIx 0 (eC (.int 3))) (eC (.int 69621))) (eBinL' opMul 2 (eC (.int c2)))) (eC (.int c3))) aNil)) (eC (.int 2147483629))) (gSub 0 (eC (.int 3)))) (sIf (bT (eBinL' opGe 2 (eBin opPow (eC (.int 10)) (eC (.int 18))))) (sAsg (eV 2) (gSub 0 (eC (.int 2)))) sNil)))) sNil)
def drawA2 : FS := (sIf (bT (eBin opGt (eBinL' opIx 0 (eC (.int 2))) (eC (.int 0)))) (sSeq (sAsg (eBinR opMod (eCall bInt (aCons (eBinL' opIx 0 (eC (.int 2))) aNil)) 1) (gN 3)) (sSeq (sAsg (eBinR opFdiv (eBinL' opIx 0 (eC (.int 2))) 1) (gSub 0 (eC (.int 2)))) (sRetV 3))) sNil)
def drawA3 : FS := (sSeq (sAsg (eBin opAdd (eBinL' opIx 0 (eC (.int 4))) (eC (.int 1))) (gSub 0 (eC (.int 4)))) (sSeq (sAsg (eBin opMod (eCall bInt (aCons (eBin opMul (eCall bInt (aCons (eBin opAdd (eBinL' opIx 0 (eC (.int 3))) (eBin opMul (eC (.int 7919)) (eBinL' opIx 0 (eC (.int 4))))) aNil)) (eC (.int c4))) aNil)) (eC (.int 2147483647))) (gN 4)) (sSeq (sAsg (eBin opMod (eCall bInt (aCons (eBinL' opMul 4 (eBin opAdd (eBinL' opFdiv 4 (eC (.int 1009))) (eC (.int 69621)))) aNil)) (eC (.int 2147483647))) (gN 4)) (sSeq (sAsg (eBin opMod (eCall bInt (aCons (eBinL' opMul 4 (eBin opAdd (eBinL' opFdiv 4 (eC (.int 2003))) (eC (.int 40014)))) aNil)) (eC (.int 2147483563))) (gN 4)) (sRet (eBinR opMod (eCall bInt (aCons (eBinL' opFdiv 4 (eC (.int 16))) aNil)) 1))))))
def drawA : FS := sSeq (drawA1 c2 c3) (sSeq drawA2 (drawA3 c4))
end
variable {c2 c3 c4 : Int}
abbrev smallC (c : Int) : Prop := -1000000 < c ∧ c < 1000000
theorem mulC {c : Int} (k : smallC c) (x : Int) : opMul (.int x) (.int c) = some (.sh (.int (x * c))) := opMul_intR (by unfold smallC at k; omega)
theorem mulC' {c : Int} (k : smallC c) (x : Int) : opMul (.int c) (.int x) = some (.sh (.int (c * x))) := opMul_intL (by unfold smallC at k; omega)
theorem drawA1_ok (k2 : smallC c2) {t : T} {many : Int} (h : Hand t) : ∃ t' x, Hand t' ∧ drawA1 c2 c3 [some t, some (.sh (.int many)), none, none, none] = .ok (.nx, [some t', some (.sh (.int many)), x, none, none]) := by
  obtain ⟨cells, a, b, c, d, rfl, hc, ha, hb⟩ := h
  unfold drawA1
  by_cases h1 : b = 0 ∧ a < cells.length
  · have hat : atI (cells.map PyData.int) a = some (.int (cells[a.toNat]'(by omega))) := by
      rw [atI_ok ha (by simpa using h1.2)]
      simp
    have hx : 0 ≤ cells[a.toNat]'(by omega) := hc _ (List.getElem_mem _)
    generalize cells[a.toNat]'(by omega) = x at hat hx
    obtain ⟨rfl, h1⟩ := h1
    by_cases h2 : (1000000000000000000 : Int) ≤ x
    · refine ⟨handT cells (a + 1) x ((c * 69621 + x * c2 + c3) % 2147483629) d, some (.sh (.int x)), ⟨_, _, _, _, _, rfl, hc, by omega, hx⟩, ?_⟩
      simp [handT, h1, hat, opPow_int, h2, mulC k2]
    · refine ⟨handT cells (a + 1) 0 ((c * 69621 + x * c2 + c3) % 2147483629) d, some (.sh (.int x)), ⟨_, _, _, _, _, rfl, hc, by omega, by omega⟩, ?_⟩
      simp [handT, h1, hat, opPow_int, h2, mulC k2]
  · refine ⟨handT cells a b c d, none, ⟨_, _, _, _, _, rfl, hc, ha, hb⟩, ?_⟩
    by_cases h2 : b = 0
    · have h3 : ¬ a < cells.length := fun z => h1 ⟨h2, z⟩
      simp [handT, h2, h3]
    · simp [handT, h2]
theorem drawA2_ok {t : T} {many : Int} {x : Option T} (hm : 1 ≤ many) (hm2 : many < 18446744073709551616) (h : Hand t) : (drawA2 [some t, some (.sh (.int many)), x, none, none]).Is fun p => (p.1 = .nx ∧ p.2 = [some t, some (.sh (.int many)), x, none, none]) ∨ ∃ t' f y, Hand t' ∧ 0 ≤ f ∧ f < many ∧ p = (.ret (.sh (.int f)), [some t', some (.sh (.int many)), x, y, none]) := by
  obtain ⟨cells, a, b, c, d, rfl, hc, ha, hb⟩ := h
  unfold drawA2
  by_cases h1 : 0 < b
  · refine ⟨(.ret (.sh (.int (b % many))), [some (handT cells a (b / many) c d), some (.sh (.int many)), x, none, none]), ?_, .inr ⟨_, _, none, ⟨_, _, _, _, _, rfl, hc, ha, Int.ediv_nonneg hb (by omega)⟩, Int.emod_nonneg _ (by omega), Int.emod_lt_of_pos _ (by omega), rfl⟩⟩
    simp [handT, h1, opMod_int (show 0 < many by omega), opFdiv_int (show 0 < many by omega) hm2]
  · refine ⟨(.nx, [some (handT cells a b c d), some (.sh (.int many)), x, none, none]), ?_, .inl ⟨rfl, rfl⟩⟩
    simp [handT, h1]
theorem drawA3_ok (k4 : smallC c4) {t : T} {many : Int} {x : Option T} (hm : 1 ≤ many) (h : Hand t) : (drawA3 c4 [some t, some (.sh (.int many)), x, none, none]).Is fun p => ∃ t' f y, Hand t' ∧ 0 ≤ f ∧ f < many ∧ p = (.ret (.sh (.int f)), [some t', some (.sh (.int many)), x, none, y]) := by
  obtain ⟨cells, a, b, c, d, rfl, hc, ha, hb⟩ := h
  have st : ∀ m : Int, 0 ≤ m → m < 2147483648 → mulFits m (m / 1009 + 69621) = true ∧ mulFits m (m / 2003 + 40014) = true := fun m h1 h2 => ⟨mulFits_l (by omega), mulFits_l (by omega)⟩
  have n1 := Int.emod_nonneg ((c + 7919 * (d + 1)) * c4) (show (2147483647 : Int) ≠ 0 by decide)
  have n2 := Int.emod_lt_of_pos ((c + 7919 * (d + 1)) * c4) (show (0 : Int) < 2147483647 by decide)
  have e1 := (st _ n1 (by omega)).1
  have hR : ∀ m1 : Int, m1 = (c + 7919 * (d + 1)) * c4 % 2147483647 → ∀ m2 : Int, m2 = m1 * (m1 / 1009 + 69621) % 2147483647 → ∀ m3 : Int, m3 = m2 * (m2 / 2003 + 40014) % 2147483563 →
      drawA3 c4 [some (handT cells a b c d), some (.sh (.int many)), x, none, none] = .ok (.ret (.sh (.int (m3 / 16 % many))), [some (handT cells a b c (d + 1)), some (.sh (.int many)), x, none, some (.sh (.int m3))]) := by
    intro m1 h1 m2 h2 m3 h3
    have e1 : mulFits m1 (m1 / 1009 + 69621) = true := (st m1 (by omega) (by omega)).1
    have b2 : 0 ≤ m2 ∧ m2 < 2147483647 := by
      rw [h2]
      exact ⟨Int.emod_nonneg _ (by decide), Int.emod_lt_of_pos _ (by decide)⟩
    have e2 : mulFits m2 (m2 / 2003 + 40014) = true := (st m2 b2.1 (by omega)).2
    unfold drawA3
    simp [handT, opMod_int (show 0 < many by omega), mulC k4, ← h1, opMul_int e1, ← h2, opMul_int e2, ← h3]
  refine ⟨_, hR _ rfl _ rfl _ rfl, _, _, _, ⟨_, _, _, _, _, rfl, hc, ha, hb⟩, Int.emod_nonneg _ (by omega), Int.emod_lt_of_pos _ (by omega), rfl⟩
/-- a draw gives a figure below many -/
theorem drawA_ok (k2 : smallC c2) (k4 : smallC c4) {t : T} {many : Int} (hm : 1 ≤ many) (hm2 : many < 18446744073709551616) (h : Hand t) : ∃ f t', gIO 5 2 (drawA c2 c3 c4) t [.int many] = some (.sh (.int f), t') ∧ Hand t' ∧ 0 ≤ f ∧ f < many := by
  have : ∃ u t', gIO 5 2 (drawA c2 c3 c4) t [.int many] = some (u, t') ∧ ∃ f, u = .sh (.int f) ∧ Hand t' ∧ 0 ≤ f ∧ f < many := by
    refine gIO_of (P := fun u t' => ∃ f, u = .sh (.int f) ∧ Hand t' ∧ 0 ≤ f ∧ f < many) rfl ?_
    obtain ⟨t1, x, h1, e1⟩ := drawA1_ok k2 (many := many) h
    refine sSeq_nx e1 (sSeq_is ((drawA2_ok hm hm2 h1).mono fun p hp => ?_))
    rcases hp with ⟨e, e2⟩ | ⟨t', f, y, h2, f0, f1, rfl⟩
    · rw [e, e2]
      refine (drawA3_ok k4 hm h1).mono fun p hp => ?_
      obtain ⟨t', f, y, h2, f0, f1, rfl⟩ := hp
      exact ⟨t', rfl, f, rfl, h2, f0, f1⟩
    · exact ⟨t', rfl, f, rfl, h2, f0, f1⟩
  obtain ⟨u, t', e, f, rfl, r⟩ := this
  exact ⟨f, t', e, r⟩
/-! ### the hand, one of the things -/
def handA (c d : Int) : FS := (sSeq (sAsg (eComp [2] (iE (eSlV 0 oNone (oSome (eC (.int 63))))) (gN 2) bTrue (eCall bAbs (aCons (eCallV bInt 2) aNil))) (gN 1)) (sRet (eLst (aCons (eV 1) (aCons (eC (.int 0)) (aCons (eC (.int 0)) (aCons (eBin opAdd (eC (.int c)) (eBin opMul (eC (.int d)) (eCallV bLen 1))) (aCons (eC (.int 0)) aNil))))))))
theorem handA_ok {c d : Int} (hd : smallC d) {ns : List Int} (h : ns.length ≤ 63) : ∃ t, (gP 3 1 (handA c d) [.list (ns.map PyData.int)] = some t) ∧ Hand t := by
  have hcut : cutA (ns.map PyData.int) none (some 63) = ns.map PyData.int := by
    unfold cutA
    rw [show HT.sIx (ns.map PyData.int).length 0 none = 0 by rw [HT.sIx_none]]
    rw [show HT.sIx (ns.map PyData.int).length (ns.map PyData.int).length (some 63) = min 63 (ns.map PyData.int).length from HT.sIx_nat _ _ 63]
    simp only [List.length_map, List.drop_zero, Nat.sub_zero]
    rw [Nat.min_eq_right h]
    exact List.take_of_length_le (by simp)
  refine ⟨handT (ns.map fun x => if x < 0 then -x else x) 0 0 (c + d * ns.length) 0, gP_eq rfl (η := [some (.sh (.list (ns.map PyData.int))), some (.sh (.list (ns.map fun x => PyData.int (if x < 0 then -x else x)))), none]) ?_, ⟨_, _, _, _, _, rfl, fun x hx => ?_, by omega, by omega⟩⟩
  · unfold handA
    have hc : eComp [2] (iE (eSlV 0 oNone (oSome (eC (.int 63))))) (gN 2) bTrue (eCall bAbs (aCons (eCallV bInt 2) aNil)) [some (.sh (.list (ns.map PyData.int))), none, none] = .ok (.lst (ns.map fun x => .sh (.int (if x < 0 then -x else x))), [some (.sh (.list (ns.map PyData.int))), none, none]) :=
      eComp_map ns PyData.int _ (by simp [hcut]) (by omega) (by simp) (by simp) fun x hx => ⟨_, [some (.sh (.list (ns.map PyData.int))), none, some (.sh (.int x))], rfl, by simp, by simp, by simp⟩
    simp [hc, handT, mulC' hd]
  · obtain ⟨y, _, rfl⟩ := List.mem_map.mp hx
    split <;> omega
def someA (c2 c3 c4 : Int) : FS := (sRet (eBinL' opIx 1 (eDefIO (gIO 5 2 (drawA c2 c3 c4)) 0 (aCons (eCallV bLen 1) aNil))))
theorem someA_ok (k2 : smallC c2) (k4 : smallC c4) {t : T} {d : PyData} {ds : List PyData} (hd : d = .list ds ∨ d = .tuple ds) (h1 : ds ≠ []) (h2 : ds.length < 18446744073709551616) (h : Hand t) : ∃ x t', gIO 2 2 (someA c2 c3 c4) t [d] = some (.sh x, t') ∧ Hand t' ∧ x ∈ ds := by
  have hl : 0 < ds.length := List.length_pos_iff.mpr h1
  obtain ⟨f, t', e, h', f0, f1⟩ := drawA_ok (c3 := c3) k2 k4 (many := ds.length) (by omega) (by omega) h
  have hx : ∃ x, atI ds f = some x ∧ x ∈ ds := by
    refine ⟨ds[f.toNat]'(by omega), ?_, List.getElem_mem _⟩
    rw [atI_ok f0 f1]
    simp
  obtain ⟨x, hx, hm⟩ := hx
  have : ∃ u t', gIO 2 2 (someA c2 c3 c4) t [d] = some (u, t') ∧ ∃ x, u = .sh x ∧ Hand t' ∧ x ∈ ds := by
    refine gIO_of (P := fun u t' => ∃ x, u = .sh x ∧ Hand t' ∧ x ∈ ds) rfl ?_
    refine ⟨(.ret (.sh x), [some t', some (.sh d)]), ?_, t', rfl, x, rfl, h', hm⟩
    unfold someA
    rcases hd with rfl | rfl <;> (obtain ⟨cells, a, b, c, d, rfl, _⟩ := h; simp [handT] at e ⊢; simp [e, hx])
  obtain ⟨u, t', e, x, rfl, r⟩ := this
  exact ⟨x, t', e, r⟩
end Pv
set_option Elab.async false
set_option linter.all false
set_option maxRecDepth 100000
set_option maxHeartbeats 4000000
/-! the hand of the laws k16 k18 k19 k20 k21 k36 -/
namespace Pv
open PySem L2
def mixC : FS := (sSeq (sAsg (eBin opMod (eCall bInt (aCons (eBin opMul (eBin opAdd (eBin opAdd (eBin opMod (eCallV bInt 0) (eC (.int 2147483647))) (eBinR opMul (eC (.int 7919)) 1)) (eC (.int 1))) (eC (.int 48271))) aNil)) (eC (.int 2147483647))) (gN 2)) (sSeq (sAsg (eBin opMod (eCall bInt (aCons (eBinL' opMul 2 (eBin opAdd (eBinL' opFdiv 2 (eC (.int 1009))) (eC (.int 69621)))) aNil)) (eC (.int 2147483647))) (gN 2)) (sRet (eBin opFdiv (eBin opMod (eCall bInt (aCons (eBinL' opMul 2 (eBin opAdd (eBinL' opFdiv 2 (eC (.int 2003))) (eC (.int 40692)))) aNil)) (eC (.int 2147483399))) (eC (.int 16))))))
def mixCG : List PyData → Option T := gP 3 2 mixC
theorem mixC_ok (x y : Int) : ∃ z : Int, mixCG [.int x, .int y] = some (.sh (.int z)) := by
  have st : ∀ m : Int, 0 ≤ m → m < 2147483648 → mulFits m (m / 1009 + 69621) = true ∧ mulFits m (m / 2003 + 40692) = true := fun m h1 h2 => ⟨mulFits_l (by omega), mulFits_l (by omega)⟩
  have n1 := Int.emod_nonneg ((x % 2147483647 + 7919 * y + 1) * 48271) (show (2147483647 : Int) ≠ 0 by decide)
  have n2 := Int.emod_lt_of_pos ((x % 2147483647 + 7919 * y + 1) * 48271) (show (0 : Int) < 2147483647 by decide)
  have hR : ∀ m1 : Int, m1 = (x % 2147483647 + 7919 * y + 1) * 48271 % 2147483647 → ∀ m2 : Int, m2 = m1 * (m1 / 1009 + 69621) % 2147483647 → ∀ m3 : Int, m3 = m2 * (m2 / 2003 + 40692) % 2147483399 →
      mixC [some (.sh (.int x)), some (.sh (.int y)), none] = .ok (.ret (.sh (.int (m3 / 16))), [some (.sh (.int x)), some (.sh (.int y)), some (.sh (.int m2))]) := by
    intro m1 h1 m2 h2 m3 h3
    have e1 : mulFits m1 (m1 / 1009 + 69621) = true := (st m1 (by omega) (by omega)).1
    have b2 : 0 ≤ m2 ∧ m2 < 2147483647 := by
      rw [h2]
      exact ⟨Int.emod_nonneg _ (by decide), Int.emod_lt_of_pos _ (by decide)⟩
    have e2 : mulFits m2 (m2 / 2003 + 40692) = true := (st m2 b2.1 (by omega)).2
    unfold mixC
    simp [← h1, opMul_int e1, ← h2, opMul_int e2, ← h3]
  refine ⟨_, gP_eq rfl (hR _ rfl _ rfl _ rfl)⟩
def drawC : FS := (sSeq (sAsg (eBin opAdd (eBinL' opIx 0 (eC (.int 3))) (eC (.int 1))) (gSub 0 (eC (.int 3)))) (sSeq (sIf (bT (eBin opGt (eBinL' opIx 0 (eC (.int 2))) (eC (.int 0)))) (sSeq (sAsg (eBinR opMod (eCall bInt (aCons (eBinL' opIx 0 (eC (.int 2))) aNil)) 1) (gN 2)) (sSeq (sAsg (eBinR opFdiv (eBinL' opIx 0 (eC (.int 2))) 1) (gSub 0 (eC (.int 2)))) (sRetV 2))) sNil) (sSeq (sPar 3 4 (aCons (eBinL' opIx 0 (eC (.int 0))) (aCons (eBinL' opIx 0 (eC (.int 1))) aNil))) (sSeq (sAsg (eBinL' opAdd 4 (eC (.int 1))) (gSub 0 (eC (.int 1)))) (sSeq (sIf (bT (eBin opEq (eCallV bLen 3) (eC (.int 0)))) (sRet (eBinR opMod (eCall bInt (aCons (eDef mixCG (aCons (eC (.int 0)) (aCons (eBinL' opIx 0 (eC (.int 3))) aNil))) aNil)) 1)) sNil) (sSeq (sAsg (eBinL' opIx 3 (eBin opMod (eCallV bInt 4) (eCallV bLen 3))) (gN 5)) (sSeq (sIf (bAnd (bT (eBinL' opLt 4 (eCallV bLen 3))) (bT (eBin opGe (eCallV bAbs 5) (eBin opPow (eC (.int 10)) (eC (.int 18)))))) (sSeq (sAsg (eBinR opFdiv (eCallV bAbs 5) 1) (gSub 0 (eC (.int 2)))) (sRet (eBinR opMod (eCall bInt (aCons (eCallV bAbs 5) aNil)) 1))) sNil) (sRet (eBinR opMod (eCall bInt (aCons (eDef mixCG (aCons (eV 5) (aCons (eBinL' opIx 0 (eC (.int 3))) aNil))) aNil)) 1)))))))))
theorem ixN4a : ixN 4 1 = some 1 := rfl
theorem ixN4b : ixN 4 2 = some 2 := rfl
theorem ixN4c : ixN 4 3 = some 3 := rfl
def handTC (cells : List Int) (a b c : Int) : T := .lst [.sh (.list (cells.map PyData.int)), .sh (.int a), .sh (.int b), .sh (.int c)]
def HandC (t : T) : Prop := ∃ cells a b c, t = handTC cells a b c
theorem drawC_ok {t : T} {many : Int} (hm : 1 ≤ many) (hm2 : many < 18446744073709551616) (h : HandC t) : ∃ f t', gIO 6 2 drawC t [.int many] = some (.sh (.int f), t') ∧ HandC t' ∧ 0 ≤ f ∧ f < many := by
  obtain ⟨cells, a, b, c, rfl⟩ := h
  have hp : ∀ x : Int, 0 ≤ x % many ∧ x % many < many := fun x => ⟨Int.emod_nonneg _ (by omega), Int.emod_lt_of_pos _ (by omega)⟩
  have : ∃ u t', gIO 6 2 drawC (handTC cells a b c) [.int many] = some (u, t') ∧ ∃ f, u = .sh (.int f) ∧ HandC t' ∧ 0 ≤ f ∧ f < many := by
    refine gIO_of (P := fun u t' => ∃ f, u = .sh (.int f) ∧ HandC t' ∧ 0 ≤ f ∧ f < many) rfl ?_
    by_cases h1 : 0 < b
    · refine ⟨(.ret (.sh (.int (b % many))), [some (handTC cells a (b / many) (c + 1)), some (.sh (.int many)), none, none, none, none]), ?_, _, rfl, _, rfl, ⟨_, _, _, _, rfl⟩, hp b⟩
      unfold drawC
      simp [handTC, ixN4a, ixN4b, ixN4c, sPar, h1, opMod_int (show 0 < many by omega), opFdiv_int (show 0 < many by omega) hm2]
    · by_cases h2 : cells = []
      · subst h2
        obtain ⟨z, hz⟩ := mixC_ok 0 (c + 1)
        refine ⟨(.ret (.sh (.int (z % many))), [some (handTC [] (a + 1) b (c + 1)), some (.sh (.int many)), none, some (.sh (.list [])), some (.sh (.int a)), none]), ?_, _, rfl, _, rfl, ⟨_, _, _, _, rfl⟩, hp z⟩
        unfold drawC
        simp [handTC, ixN4a, ixN4b, ixN4c, sPar, h1, opMod_int (show 0 < many by omega), hz]
      · have hl : 0 < cells.length := List.length_pos_iff.mpr h2
        have g1 : 0 ≤ a % (cells.length : Int) := Int.emod_nonneg _ (by omega)
        have g2 : a % (cells.length : Int) < cells.length := Int.emod_lt_of_pos _ (by omega)
        have hat : atI (cells.map PyData.int) (a % (cells.length : Int)) = some (.int (cells[(a % (cells.length : Int)).toNat]'(by omega))) := by
          rw [atI_ok g1 (by simpa using g2)]
          simp
        generalize cells[(a % (cells.length : Int)).toNat]'(by omega) = x at hat
        have hne : ¬ ((cells.length : Int) = 0) := by omega
        have hmod : opMod (.int a) (.int (cells.length : Int)) = some (.sh (.int (a % (cells.length : Int)))) := opMod_int (by omega)
        obtain ⟨z, hz⟩ := mixC_ok x (c + 1)
        generalize hax : (if x < 0 then -x else x) = y
        by_cases h3 : a < cells.length ∧ (1000000000000000000 : Int) ≤ y
        · refine ⟨(.ret (.sh (.int (y % many))), [some (handTC cells (a + 1) (y / many) (c + 1)), some (.sh (.int many)), none, some (.sh (.list (cells.map PyData.int))), some (.sh (.int a)), some (.sh (.int x))]), ?_, _, rfl, _, rfl, ⟨_, _, _, _, rfl⟩, hp y⟩
          unfold drawC
          simp [handTC, ixN4a, ixN4b, ixN4c, sPar, h1, h2, hne, hmod, hat, hax, h3.1, h3.2, opPow_int, opMod_int (show 0 < many by omega), opFdiv_int (show 0 < many by omega) hm2]
        · refine ⟨(.ret (.sh (.int (z % many))), [some (handTC cells (a + 1) b (c + 1)), some (.sh (.int many)), none, some (.sh (.list (cells.map PyData.int))), some (.sh (.int a)), some (.sh (.int x))]), ?_, _, rfl, _, rfl, ⟨_, _, _, _, rfl⟩, hp z⟩
          unfold drawC
          by_cases h4 : a < cells.length
          · have h5 : ¬ (1000000000000000000 : Int) ≤ y := fun e => h3 ⟨h4, e⟩
            simp [handTC, ixN4a, ixN4b, ixN4c, sPar, h1, h2, hne, hmod, hat, hax, h4, h5, opPow_int, opMod_int (show 0 < many by omega), hz]
          · simp [handTC, ixN4a, ixN4b, ixN4c, sPar, h1, h2, hne, hmod, hat, hax, h4, opPow_int, opMod_int (show 0 < many by omega), hz]
  obtain ⟨u, t', e, f, rfl, r⟩ := this
  exact ⟨f, t', e, r⟩
def handC : FS := (sRet (eLst (aCons (eFz (eComp [1] (iE (eSlV 0 oNone (oSome (eC (.int 63))))) (gN 1) bTrue (eCallV bInt 1))) (aCons (eC (.int 0)) (aCons (eC (.int 0)) (aCons (eC (.int 0)) aNil))))))
theorem handC_ok {ns : List Int} (h : ns.length ≤ 63) : ∃ t, gP 2 1 handC [.list (ns.map PyData.int)] = some t ∧ HandC t := by
  have hcut : cutA (ns.map PyData.int) none (some 63) = ns.map PyData.int := by
    unfold cutA
    rw [show HT.sIx (ns.map PyData.int).length 0 none = 0 by rw [HT.sIx_none]]
    rw [show HT.sIx (ns.map PyData.int).length (ns.map PyData.int).length (some 63) = min 63 (ns.map PyData.int).length from HT.sIx_nat _ _ 63]
    simp only [List.length_map, List.drop_zero, Nat.sub_zero]
    rw [Nat.min_eq_right h]
    exact List.take_of_length_le (by simp)
  refine ⟨handTC ns 0 0 0, gP_eq rfl (η := [some (.sh (.list (ns.map PyData.int))), none]) ?_, ⟨_, _, _, _, rfl⟩⟩
  unfold handC
  have hc : eComp [1] (iE (eSlV 0 oNone (oSome (eC (.int 63))))) (gN 1) bTrue (eCallV bInt 1) [some (.sh (.list (ns.map PyData.int))), none] = .ok (.lst (ns.map fun x => .sh (.int x)), [some (.sh (.list (ns.map PyData.int))), none]) :=
    eComp_map ns PyData.int _ (by simp [hcut]) (by omega) (by simp) (by simp) fun x hx => ⟨_, [some (.sh (.list (ns.map PyData.int))), some (.sh (.int x))], rfl, by simp, by simp, by simp⟩
  have hv : T.vals (ns.map fun x => T.sh (.int x)) = ns.map PyData.int := by rw [vals_map, List.map_map]; rfl
  simp [eFz, hc, handTC, T.val, hv]
end Pv
set_option Elab.async false
set_option linter.all false
set_option maxRecDepth 100000
set_option maxHeartbeats 4000000
namespace Pv
open PySem L2
mutual
theorem plain_lay : ∀ {d : PyData} {n : Nat}, plain n d = true → d.canLay0 = true
  | .none, _, _ => rfl
  | .bool _, _, _ => rfl
  | .int _, _, _ => rfl
  | .str s, n, h => by cases n <;> exact h
  | .list ds, n, h => by
    cases n with
    | zero => simp [plain] at h
    | succ n =>
      simp only [plain, Bool.and_eq_true] at h
      simp only [PyData.canLay0]
      exact plains_lay h.1
  | .tuple ds, n, h => by
    cases n with
    | zero => simp [plain] at h
    | succ n =>
      simp only [plain, Bool.and_eq_true] at h
      simp only [PyData.canLay0]
      exact plains_lay h.1
  | .dict ds, n, h => by cases n <;> simp [plain] at h
theorem plains_lay : ∀ {ds : List PyData} {n : Nat}, plains n ds = true → PyData.canLayAll0 ds = true
  | [], _, _ => rfl
  | d :: ds, n, h => by
    simp only [plains, Bool.and_eq_true] at h
    simp only [PyData.canLayAll0, Bool.and_eq_true]
    exact ⟨plain_lay h.1, plains_lay h.2⟩
end
mutual
theorem plain_depth : ∀ {d : PyData} {n : Nat}, plain n d = true → d.depth ≤ n
  | .none, _, _ => Nat.zero_le _
  | .bool _, _, _ => Nat.zero_le _
  | .int _, _, _ => Nat.zero_le _
  | .str s, n, h => Nat.zero_le _
  | .list ds, n, h => by
    cases n with
    | zero => simp [plain] at h
    | succ n =>
      simp only [plain, Bool.and_eq_true] at h
      simp only [PyData.depth]
      exact Nat.succ_le_succ (plains_depth h.1)
  | .tuple ds, n, h => by
    cases n with
    | zero => simp [plain] at h
    | succ n =>
      simp only [plain, Bool.and_eq_true] at h
      simp only [PyData.depth]
      exact Nat.succ_le_succ (plains_depth h.1)
  | .dict ds, n, h => by cases n <;> simp [plain] at h
theorem plains_depth : ∀ {ds : List PyData} {n : Nat}, plains n ds = true → PyData.depthAll ds ≤ n
  | [], _, _ => Nat.zero_le _
  | d :: ds, n, h => by
    simp only [plains, Bool.and_eq_true] at h
    simp only [PyData.depthAll]
    exact Nat.max_le.mpr ⟨plain_depth h.1, plains_depth h.2⟩
end
theorem plain_shp {d : PyData} {n : Nat} (h : plain n d = true) (hn : n ≤ 64) : shp d = true := by
  unfold shp SeqAt.shaped
  rw [plain_lay h, decide_eq_true (Nat.le_trans (plain_depth h) hn)]
  rfl
theorem plains_shp {ds : List PyData} {n : Nat} (h : plains n ds = true) (hn : n ≤ 63) : shpAll ds = true := by
  unfold shpAll shp SeqAt.shaped
  have h1 : (PyData.list ds).canLay0 = true := by
    simp only [PyData.canLay0]
    exact plains_lay h
  have h2 : (PyData.list ds).depth ≤ 64 := by
    simp only [PyData.depth]
    have := plains_depth h
    omega
  rw [h1, decide_eq_true h2]
  rfl
theorem opIn_tup {d : PyData} {es : List PyData} (h1 : shp d = true) (h2 : shpAll es = true) : opIn d (.tuple es) = some (.sh (.bool (inD d es))) := by
  unfold opIn
  simp only [h1, h2, Bool.and_true, if_pos]
theorem opIn_list {d : PyData} {es : List PyData} (h1 : shp d = true) (h2 : shpAll es = true) : opIn d (.list es) = some (.sh (.bool (inD d es))) := by
  unfold opIn
  simp only [h1, h2, Bool.and_true, if_pos]
theorem opNotIn_tup {d : PyData} {es : List PyData} (h1 : shp d = true) (h2 : shpAll es = true) : opNotIn d (.tuple es) = some (.sh (.bool (!inD d es))) := by
  unfold opNotIn
  simp only [h1, h2, Bool.and_true, if_pos]
theorem opNotIn_list {d : PyData} {es : List PyData} (h1 : shp d = true) (h2 : shpAll es = true) : opNotIn d (.list es) = some (.sh (.bool (!inD d es))) := by
  unfold opNotIn
  simp only [h1, h2, Bool.and_true, if_pos]
theorem inD_map {α : Type} {l : List α} {f : α → PyData} {d : PyData} : inD d (l.map f) = l.any fun x => PyData.eqv (f x) d := by
  unfold inD
  rw [List.any_map]
  rfl
theorem plains_map {α : Type} {l : List α} {f : α → PyData} {n : Nat} (h : ∀ x ∈ l, plain n (f x) = true) : plains n (l.map f) = true := plains_of fun d hd => by
  obtain ⟨x, hx, rfl⟩ := List.mem_map.mp hd
  exact h x hx
theorem plain_tup {ds : List PyData} {n : Nat} (h : plains n ds = true) (hl : ds.length < 16777216) : plain (n + 1) (.tuple ds) = true := by
  simp only [plain, Bool.and_eq_true, decide_eq_true_eq]
  exact ⟨h, hl⟩
theorem plain_list {ds : List PyData} {n : Nat} (h : plains n ds = true) (hl : ds.length < 16777216) : plain (n + 1) (.list ds) = true := by
  simp only [plain, Bool.and_eq_true, decide_eq_true_eq]
  exact ⟨h, hl⟩
@[simp] theorem plain_int {i : Int} {n : Nat} : plain n (.int i) = true := by cases n <;> rfl
@[simp] theorem plain_none {n : Nat} : plain n .none = true := by cases n <;> rfl
@[simp] theorem plain_bool {b : Bool} {n : Nat} : plain n (.bool b) = true := by cases n <;> rfl
theorem eqv_int {i j : Int} : PyData.eqv (.int i) (.int j) = decide (i = j) := by
  simp only [PyData.eqv]
  rfl
theorem eqvAll_ints : ∀ {a b : List Int}, PyData.eqvAll (a.map PyData.int) (b.map PyData.int) = decide (a = b)
  | [], [] => rfl
  | [], _ :: _ => rfl
  | _ :: _, [] => rfl
  | x :: a, y :: b => by
    simp only [List.map_cons, PyData.eqvAll, eqv_int, eqvAll_ints (a := a) (b := b)]
    by_cases h : x = y <;> by_cases h2 : a = b <;> simp [h, h2]
end Pv
set_option Elab.async false
set_option linter.all false
set_option maxRecDepth 100000
set_option maxHeartbeats 4000000
/-! comprehensions with one name, or two, whose item leaves the names as they are: one equation a body -/
namespace Pv
open PySem L2 PyProof.Rows
theorem set_get {η : Env} {k : Nat} (hk : k < η.length) (x : Option T) : (η.set k x).set k (η[k]?.join) = η := by
  rw [List.set_set, List.getElem?_eq_getElem hk]
  exact List.set_getElem_self hk
theorem free1_own {η : Env} {k : Nat} {d : PyData} (hk : k < η.length) : free1 (η.set k (some (.sh d))) k = true := by
  unfold free1
  rw [List.getElem?_set_self hk]
section
variable {α : Type} {k j i : Nat} {fi : FI} {cond : FB} {elt : FE} {η η1 : Env} {d0 : PyData}
theorem back1 (hk : k < η.length) : backE η [k] (wipeE η [k]) = η := set_get hk none
theorem eCompV1_pure (l : List α) (f : α → PyData) (c : α → Bool) (t : α → T) (hp : pk η i = some d0) (hs : seqOf d0 = some (l.map f)) (hl : l.length < 16777216) (hk : k < η.length) (hf : free1 η k = true) (hik : i ≠ k)
    (st : ∀ d, d ∈ l → cond (η.set k (some (.sh (f d)))) = .ok (c d, η.set k (some (.sh (f d)))) ∧ (c d = true → elt (η.set k (some (.sh (f d)))) = .ok (t d, η.set k (some (.sh (f d)))))) :
    eCompV [k] i (gN k) cond elt η = .ok (.lst ((l.filter c).map t), η) := by
  have hw : pk (wipeE η [k]) i = some d0 := by
    show pk (η.set k none) i = _
    rw [← hp]
    simp only [pk, List.getElem?_set_ne (Ne.symm hik)]
  refine eCompV_pure l f c t hp hs hl (by simp only [ownFree, List.all_cons, hf, List.all_nil, Bool.and_true]) (by simp only [List.contains_cons, List.contains_nil, Bool.or_false, beq_eq_false_iff_ne, ne_eq]; exact hik) (back1 hk) hw fun d hd => ?_
  obtain ⟨h1, h2⟩ := st d hd
  have e : gN k (.sh (f d)) (wipeE η [k]) = .ok (η.set k (some (.sh (f d)))) := by
    show Rs.ok ((η.set k none).set k _) = _
    rw [List.set_set]
  have fr : ownFree (η.set k (some (.sh (f d)))) [k] = true := by simp only [ownFree, List.all_cons, free1_own hk, List.all_nil, Bool.and_true]
  have wp : wipeE (η.set k (some (.sh (f d)))) [k] = wipeE η [k] := List.set_set ..
  exact ⟨_, _, e, h1, fun _ => ⟨fr, wp⟩, fun hc => ⟨_, h2 hc, fr, wp⟩⟩
theorem eCompV1_map (l : List α) (f : α → PyData) (t : α → T) (hp : pk η i = some d0) (hs : seqOf d0 = some (l.map f)) (hl : l.length < 16777216) (hk : k < η.length) (hf : free1 η k = true) (hik : i ≠ k)
    (st : ∀ d, d ∈ l → elt (η.set k (some (.sh (f d)))) = .ok (t d, η.set k (some (.sh (f d))))) :
    eCompV [k] i (gN k) bTrue elt η = .ok (.lst (l.map t), η) := by
  have := eCompV1_pure (cond := bTrue) (elt := elt) l f (fun _ => true) t hp hs hl hk hf hik fun d hd => ⟨rfl, fun _ => st d hd⟩
  rw [this, List.filter_eq_self.mpr fun _ _ => rfl]
theorem eComp1_pure (l : List α) (f : α → PyData) (c : α → Bool) (t : α → T) (hfi : fi η = .ok (l.map f, η1)) (hl : l.length < 16777216) (hk : k < η1.length) (hf : free1 η1 k = true)
    (st : ∀ d, d ∈ l → cond (η1.set k (some (.sh (f d)))) = .ok (c d, η1.set k (some (.sh (f d)))) ∧ (c d = true → elt (η1.set k (some (.sh (f d)))) = .ok (t d, η1.set k (some (.sh (f d)))))) :
    eComp [k] fi (gN k) cond elt η = .ok (.lst ((l.filter c).map t), η1) := by
  refine eComp_pure l f c t hfi hl (by simp only [ownFree, List.all_cons, hf, List.all_nil, Bool.and_true]) (back1 hk) fun d hd => ?_
  obtain ⟨h1, h2⟩ := st d hd
  have e : gN k (.sh (f d)) (wipeE η1 [k]) = .ok (η1.set k (some (.sh (f d)))) := by
    show Rs.ok ((η1.set k none).set k _) = _
    rw [List.set_set]
  have fr : ownFree (η1.set k (some (.sh (f d)))) [k] = true := by simp only [ownFree, List.all_cons, free1_own hk, List.all_nil, Bool.and_true]
  have wp : wipeE (η1.set k (some (.sh (f d)))) [k] = wipeE η1 [k] := List.set_set ..
  exact ⟨_, _, e, h1, fun _ => ⟨fr, wp⟩, fun hc => ⟨_, h2 hc, fr, wp⟩⟩
theorem eComp1_map (l : List α) (f : α → PyData) (t : α → T) (hfi : fi η = .ok (l.map f, η1)) (hl : l.length < 16777216) (hk : k < η1.length) (hf : free1 η1 k = true)
    (st : ∀ d, d ∈ l → elt (η1.set k (some (.sh (f d)))) = .ok (t d, η1.set k (some (.sh (f d))))) :
    eComp [k] fi (gN k) bTrue elt η = .ok (.lst (l.map t), η1) := by
  have := eComp1_pure (cond := bTrue) (elt := elt) l f (fun _ => true) t hfi hl hk hf fun d hd => ⟨rfl, fun _ => st d hd⟩
  rw [this, List.filter_eq_self.mpr fun _ _ => rfl]
theorem back2 (hjk : j ≠ k) (hj : j < η.length) (hk : k < η.length) : backE η [j, k] (wipeE η [j, k]) = η := by
  show (((η.set k none).set j none).set j (η[j]?.join)).set k (η[k]?.join) = η
  have e1 : ((η.set k none).set j none).set j (η[j]?.join) = η.set k none := by
    have := set_get (η := η.set k none) (k := j) (by rw [List.length_set]; exact hj) none
    rw [List.getElem?_set_ne (Ne.symm hjk)] at this
    exact this
  rw [e1]
  exact set_get hk none
theorem free2 (hjk : j ≠ k) (hj : j < η.length) (hk : k < η.length) {a b : PyData} : ownFree ((η.set j (some (.sh a))).set k (some (.sh b))) [j, k] = true := by
  simp only [ownFree, List.all_cons, List.all_nil, Bool.and_true, Bool.and_eq_true]
  refine ⟨?_, free1_own (by rw [List.length_set]; exact hk)⟩
  unfold free1
  rw [List.getElem?_set_ne (Ne.symm hjk), List.getElem?_set_self hj]
theorem eComp2_pure (l : List α) (f g : α → PyData) (c : α → Bool) (t : α → T) (hfi : fi η = .ok (l.map fun x => .tuple [f x, g x], η1)) (hl : l.length < 16777216) (hjk : j ≠ k) (hj : j < η1.length) (hk : k < η1.length) (hf : free1 η1 j = true) (hf2 : free1 η1 k = true)
    (st : ∀ d, d ∈ l → cond ((η1.set j (some (.sh (f d)))).set k (some (.sh (g d)))) = .ok (c d, (η1.set j (some (.sh (f d)))).set k (some (.sh (g d)))) ∧ (c d = true → elt ((η1.set j (some (.sh (f d)))).set k (some (.sh (g d)))) = .ok (t d, (η1.set j (some (.sh (f d)))).set k (some (.sh (g d)))))) :
    eComp [j, k] fi (gTupD 2 (gsCons (gN j) (gsCons (gN k) gsNil))) cond elt η = .ok (.lst ((l.filter c).map t), η1) := by
  refine eComp_pure l (fun x => .tuple [f x, g x]) c t hfi hl (by simp only [ownFree, List.all_cons, hf, hf2, List.all_nil, Bool.and_true]) (back2 hjk hj hk) fun d hd => ?_
  obtain ⟨h1, h2⟩ := st d hd
  have e0 : (((η1.set k none).set j none).set j (some (.sh (f d)))).set k (some (.sh (g d))) = (η1.set j (some (.sh (f d)))).set k (some (.sh (g d))) := by
    rw [List.set_set, List.set_comm _ _ hjk, List.set_set, List.set_comm _ _ (Ne.symm hjk)]
  have e : gTupD 2 (gsCons (gN j) (gsCons (gN k) gsNil)) (.sh (.tuple [f d, g d])) (wipeE η1 [j, k]) = .ok ((η1.set j (some (.sh (f d)))).set k (some (.sh (g d)))) := by
    rw [← e0]
    rfl
  have wp : wipeE ((η1.set j (some (.sh (f d)))).set k (some (.sh (g d)))) [j, k] = wipeE η1 [j, k] := by
    show (((η1.set j (some (.sh (f d)))).set k (some (.sh (g d)))).set k none).set j none = (η1.set k none).set j none
    rw [List.set_set, List.set_comm _ _ (Ne.symm hjk), List.set_set, List.set_comm _ _ hjk]
  exact ⟨_, _, e, h1, fun _ => ⟨free2 hjk hj hk, wp⟩, fun hc => ⟨_, h2 hc, free2 hjk hj hk, wp⟩⟩
theorem eComp2_map (l : List α) (f g : α → PyData) (t : α → T) (hfi : fi η = .ok (l.map fun x => .tuple [f x, g x], η1)) (hl : l.length < 16777216) (hjk : j ≠ k) (hj : j < η1.length) (hk : k < η1.length) (hf : free1 η1 j = true) (hf2 : free1 η1 k = true)
    (st : ∀ d, d ∈ l → elt ((η1.set j (some (.sh (f d)))).set k (some (.sh (g d)))) = .ok (t d, (η1.set j (some (.sh (f d)))).set k (some (.sh (g d))))) :
    eComp [j, k] fi (gTupD 2 (gsCons (gN j) (gsCons (gN k) gsNil))) bTrue elt η = .ok (.lst (l.map t), η1) := by
  have := eComp2_pure (cond := bTrue) (elt := elt) l f g (fun _ => true) t hfi hl hjk hj hk hf hf2 fun d hd => ⟨rfl, fun _ => st d hd⟩
  rw [this, List.filter_eq_self.mpr fun _ _ => rfl]
end
/-! slices at plain numbers -/
theorem cutA_hi {α : Type} (l : List α) (j : Nat) : cutA l none (some (j : Int)) = l.take j := by
  unfold cutA
  rw [HT.sIx_none, HT.sIx_nat, Nat.sub_zero, List.drop_zero]
  by_cases h : j ≤ l.length
  · rw [Nat.min_eq_left h]
  · rw [Nat.min_eq_right (by omega), List.take_length, List.take_of_length_le (by omega)]
theorem cutA_lo {α : Type} (l : List α) (j : Nat) : cutA l (some (j : Int)) none = l.drop j := by
  unfold cutA
  rw [HT.sIx_none, HT.sIx_nat]
  by_cases h : j ≤ l.length
  · rw [Nat.min_eq_left h]
    exact List.take_of_length_le (by rw [List.length_drop]; omega)
  · rw [Nat.min_eq_right (by omega), List.drop_length, List.drop_of_length_le (by omega), List.take_nil]
theorem opMul_list {a : List PyData} {k : Int} (h : a.length * k.toNat ≤ 16777216) (h1 : -1000000000 ≤ k) (h2 : k ≤ 1000000000) : opMul (.list a) (.int k) = some (.lst ((List.replicate k.toNat a).flatten.map T.sh)) := if_pos ⟨h, h1, h2⟩
/-! a comprehension over range whose item draws: the hand is at slot j -/
theorem eComp_io {own_ : Nat} {j n : Nat} {fi : FI} {elt : FE} {η η1 : Env} {t : T} (P : T → Prop) (hfi : fi η = .ok (rgD 0 n, η1)) (hn : n < 1000000) (hj : η1[j]? = some (some t)) (ht : Hand t) (hne : own_ ≠ j) (ho : own_ < η1.length) (hfr : free1 η1 own_ = true)
    (st : ∀ (i : Nat) (t : T), Hand t → ∃ x t', elt ((η1.set j (some t)).set own_ (some (.sh (.int (i : Nat))))) = .ok (x, (η1.set j (some t')).set own_ (some (.sh (.int (i : Nat))))) ∧ Hand t' ∧ P x) :
    ∃ ts t', eComp [own_] fi (gN own_) bTrue elt η = .ok (.lst ts, η1.set j (some t')) ∧ Hand t' ∧ ts.length = n ∧ ∀ x ∈ ts, P x := by
  have hjl : j < η1.length := (List.getElem?_eq_some_iff.mp hj).1
  have hds : rgD 0 (n : Int) = (List.range n).map fun i => PyData.int (i : Nat) := by
    unfold rgD
    simp
  have h0 : wipeE η1 [own_] = (η1.set j (some t)).set own_ none := by
    show η1.set own_ none = _
    rw [set_self hj]
  obtain ⟨ts, η', e2, ⟨t2, h2, rfl⟩, pk⟩ := loopC_all (chk := fun _ => true) (own := [own_]) (tgt := gN own_) (elt := elt) (fun η => ∃ t, Hand t ∧ η = (η1.set j (some t)).set own_ none) (fun _ x => P x) (ds := rgD 0 n) (η := wipeE η1 [own_]) ⟨t, ht, h0⟩ (by
    rintro d η hd ⟨t2, h2, rfl⟩
    rw [hds] at hd
    obtain ⟨i, _, rfl⟩ := List.mem_map.mp hd
    obtain ⟨x, t3, e3, h3, hx⟩ := st i t2 h2
    refine ⟨(η1.set j (some t2)).set own_ (some (.sh (.int (i : Nat)))), x, (η1.set j (some t3)).set own_ (some (.sh (.int (i : Nat)))), ?_, e3, hx, ?_, rfl, t3, h3, ?_⟩
    · show Rs.ok (List.set _ own_ _) = _
      rw [List.set_set]
    · simp only [ownFree, List.all_cons, List.all_nil, Bool.and_true]
      exact free1_own (by rw [List.length_set]; exact ho)
    · show List.set (List.set (List.set η1 j (some t3)) own_ _) own_ none = _
      rw [List.set_set])
  have hlen := pk.len
  refine ⟨ts, t2, ?_, h2, by rw [hlen, hds, List.length_map, List.length_range], fun x hx => by
    obtain ⟨_, _, h⟩ := pk.mem x hx
    exact h⟩
  unfold eComp
  rw [hfi]
  have hll : (rgD 0 (n : Int)).length < 16777216 := by rw [hds, List.length_map, List.length_range]; omega
  have hof : ownFree η1 [own_] = true := by simp only [ownFree, List.all_cons, hfr, List.all_nil, Bool.and_true]
  simp only [Rs.bind_ok, hof, line, decide_eq_true hll, Bool.and_true, if_pos]
  rw [e2]
  simp only [Rs.bind_ok]
  congr 2
  show List.set (List.set _ own_ none) own_ (η1[own_]?.join) = _
  have := set_get (η := η1.set j (some t2)) (k := own_) (by rw [List.length_set]; exact ho) none
  rw [List.getElem?_set_ne (Ne.symm hne)] at this
  exact this
theorem pick_list {α : Type} (f : α → PyData) (S : α → Prop) : ∀ {ts : List T}, (∀ x ∈ ts, ∃ a, S a ∧ x = .sh (f a)) → ∃ l : List α, ts = l.map (fun a => T.sh (f a)) ∧ ∀ a ∈ l, S a
  | [], _ => ⟨[], rfl, fun _ h => (List.not_mem_nil h).elim⟩
  | x :: ts, h => by
    obtain ⟨l, e, hl⟩ := pick_list f S (ts := ts) fun y hy => h y (List.mem_cons_of_mem _ hy)
    obtain ⟨a, ha, rfl⟩ := h x List.mem_cons_self
    exact ⟨a :: l, by rw [e]; rfl, fun b hb => by
      rcases List.mem_cons.mp hb with rfl | hb
      · exact ha
      · exact hl b hb⟩
theorem hand_T {t : T} (h : Hand t) : ∃ a b c d e, t = handT a b c d e := by obtain ⟨a, b, c, d, e, rfl, _⟩ := h; exact ⟨a, b, c, d, e, rfl⟩
end Pv
set_option Elab.async false
set_option linter.all false
set_option maxRecDepth 100000
set_option maxHeartbeats 4000000
/-! more that is evaluated alike in many laws: range over n, three names, slices, numbers that are compared -/
namespace Pv
open PySem L2 PyProof.Rows
theorem rgN_ok {n : Nat} (h : n ≤ 1000000) : rg62 (n : Int) = true := rg62_of (by omega) (by omega)
def natsL (n : Nat) : List PyData := (List.range n).map fun i => PyData.int (i : Nat)
theorem rgN (n : Nat) : rgD 0 n = natsL n := by
  unfold rgD natsL
  simp
/-- range over a number that f gives -/
theorem iR1_of {f : FE} {η η1 : Env} {n : Nat} (h : f η = .ok (.sh (.int (n : Nat)), η1)) (hn : n ≤ 1000000) : iR1 f η = .ok (natsL n, η1) := by
  unfold iR1
  rw [h]
  simp only [Rs.bind_ok, rgN_ok hn, if_pos, rgN]
theorem iR1_c {η : Env} {n : Nat} (h : n ≤ 1000000) : iR1 (eC (.int (n : Nat))) η = .ok (natsL n, η) := iR1_of rfl h
theorem iR1_v {η : Env} {j n : Nat} (hj : η[j]? = some (some (.sh (.int (n : Nat))))) (h : n ≤ 1000000) : iR1 (eV j) η = .ok (natsL n, η) := iR1_of (by unfold eV; rw [hj]) h
theorem range_get {n k x : Nat} (h : (List.range n)[k]? = some x) : x = k ∧ k < n := by
  obtain ⟨h1, h2⟩ := List.getElem?_eq_some_iff.mp h
  rw [List.getElem_range] at h2
  exact ⟨h2.symm, by simpa using h1⟩
theorem take_range {α : Type} {n k : Nat} (h : k < n) (f : Nat → α) : ((List.range n).take (k + 1)).map f = ((List.range n).take k).map f ++ [f k] := by
  rw [List.take_succ_eq_append_getElem (by simpa using h), List.map_append, List.getElem_range]
  rfl
theorem cutA_lo1 {α : Type} (l : List α) (j : Nat) : cutA l (some ((j : Int) + 1)) none = l.drop (j + 1) := cutA_lo l (j + 1)
/-! three names -/
theorem back3 {η : Env} {i j k : Nat} (hij : i ≠ j) (hik : i ≠ k) (hjk : j ≠ k) (hi : i < η.length) (hj : j < η.length) (hk : k < η.length) : backE η [i, j, k] (wipeE η [i, j, k]) = η := by
  show ((((((η.set k none).set j none).set i none).set i (η[i]?.join)).set j (η[j]?.join)).set k (η[k]?.join)) = η
  have e1 : (((η.set k none).set j none).set i none).set i (η[i]?.join) = (η.set k none).set j none := by
    have := set_get (η := (η.set k none).set j none) (k := i) (by rw [List.length_set, List.length_set]; exact hi) none
    rw [List.getElem?_set_ne (Ne.symm hij), List.getElem?_set_ne (Ne.symm hik)] at this
    exact this
  have e2 : ((η.set k none).set j none).set j (η[j]?.join) = η.set k none := by
    have := set_get (η := η.set k none) (k := j) (by rw [List.length_set]; exact hj) none
    rw [List.getElem?_set_ne (Ne.symm hjk)] at this
    exact this
  rw [e1, e2]
  exact set_get hk none
theorem eComp3_map {α : Type} {i j k : Nat} {fi : FI} {elt : FE} {η η1 : Env} (l : List α) (f g h : α → PyData) (t : α → T) (hfi : fi η = .ok (l.map fun x => .tuple [f x, g x, h x], η1)) (hl : l.length < 16777216) (hij : i ≠ j) (hik : i ≠ k) (hjk : j ≠ k) (hi : i < η1.length) (hj : j < η1.length) (hk : k < η1.length) (f1 : free1 η1 i = true) (f2 : free1 η1 j = true) (f3 : free1 η1 k = true)
    (st : ∀ d, d ∈ l → elt (((η1.set i (some (.sh (f d)))).set j (some (.sh (g d)))).set k (some (.sh (h d)))) = .ok (t d, ((η1.set i (some (.sh (f d)))).set j (some (.sh (g d)))).set k (some (.sh (h d))))) :
    eComp [i, j, k] fi (gTupD 3 (gsCons (gN i) (gsCons (gN j) (gsCons (gN k) gsNil)))) bTrue elt η = .ok (.lst (l.map t), η1) := by
  refine eComp_map l (fun x => .tuple [f x, g x, h x]) t hfi hl (by simp only [ownFree, List.all_cons, f1, f2, f3, List.all_nil, Bool.and_true]) (back3 hij hik hjk hi hj hk) fun d hd => ?_
  have e0 : (((((η1.set k none).set j none).set i none).set i (some (.sh (f d)))).set j (some (.sh (g d)))).set k (some (.sh (h d))) = ((η1.set i (some (.sh (f d)))).set j (some (.sh (g d)))).set k (some (.sh (h d))) := by
    rw [List.set_set, List.set_comm _ _ (Ne.symm hij), List.set_set, List.set_comm _ _ (Ne.symm hik), List.set_comm _ _ (Ne.symm hjk), List.set_set]
  have e : gTupD 3 (gsCons (gN i) (gsCons (gN j) (gsCons (gN k) gsNil))) (.sh (.tuple [f d, g d, h d])) (wipeE η1 [i, j, k]) = .ok (((η1.set i (some (.sh (f d)))).set j (some (.sh (g d)))).set k (some (.sh (h d)))) := by
    rw [← e0]
    rfl
  refine ⟨_, _, e, st d hd, ?_, ?_⟩
  · have g1 : (((η1.set i (some (T.sh (f d)))).set j (some (T.sh (g d)))).set k (some (T.sh (h d))))[i]? = some (some (T.sh (f d))) := by
      rw [List.getElem?_set_ne (Ne.symm hik), List.getElem?_set_ne (Ne.symm hij), List.getElem?_set_self hi]
    have g2 : (((η1.set i (some (T.sh (f d)))).set j (some (T.sh (g d)))).set k (some (T.sh (h d))))[j]? = some (some (T.sh (g d))) := by
      rw [List.getElem?_set_ne (Ne.symm hjk), List.getElem?_set_self (by rw [List.length_set]; exact hj)]
    have g3 : (((η1.set i (some (T.sh (f d)))).set j (some (T.sh (g d)))).set k (some (T.sh (h d))))[k]? = some (some (T.sh (h d))) := by
      rw [List.getElem?_set_self (by rw [List.length_set, List.length_set]; exact hk)]
    simp only [ownFree, List.all_cons, List.all_nil, free1, g1, g2, g3, Bool.and_true]
  · show (((((η1.set i (some (T.sh (f d)))).set j (some (T.sh (g d)))).set k (some (T.sh (h d)))).set k none).set j none).set i none = ((η1.set k none).set j none).set i none
    refine List.ext_getElem? fun n => ?_
    simp only [List.getElem?_set, List.length_set]
    by_cases a : i = n <;> by_cases b : j = n <;> by_cases c : k = n <;> simp [a, b, c]
/-! min, max of numbers -/
theorem cmpAll_ints {ns : List Int} : cmpAll (ns.map PyData.int) = true := by
  unfold cmpAll alikeAll2
  have h1 : PyData.canLayAll0 (ns.map PyData.int) = true := plains_lay (n := 0) (plains_map fun x _ => plain_int)
  have h2 : PyData.depthAll (ns.map PyData.int) ≤ 0 := plains_depth (n := 0) (plains_map fun x _ => plain_int)
  have h3 : SeqAt.shaped (.list (ns.map PyData.int)) = true := by
    unfold SeqAt.shaped
    have : (PyData.list (ns.map PyData.int)).canLay0 = true := by simp only [PyData.canLay0]; exact h1
    rw [this]
    have h5 : (PyData.list (ns.map PyData.int)).depth ≤ 64 := by
      simp only [PyData.depth]
      omega
    rw [decide_eq_true h5]
    rfl
  rw [h3, decide_eq_true (Nat.le_trans h2 (by decide))]
  simp only [Bool.and_true, Bool.and_eq_true, List.all_eq_true, List.mem_map]
  constructor
  · rintro _ ⟨x, _, rfl⟩ _ ⟨y, _, rfl⟩
    simp only [W.alike]
  · rintro _ ⟨x, _, rfl⟩
    rfl
theorem bMin_tup {ns : List Int} {n : Int} (h : n ∈ ns) (hle : ∀ y ∈ ns, n ≤ y) : bMin [.tuple (ns.map PyData.int)] = some (.sh (.int n)) := by
  cases ns with
  | nil => cases h
  | cons k ns =>
    have e : bMin [.tuple ((k :: ns).map PyData.int)] = if cmpAll ((k :: ns).map PyData.int) then some (.sh (W.minD (.int k) (ns.map PyData.int))) else none := rfl
    rw [e, cmpAll_ints, if_pos rfl, W.minD_ints]
    have key : ∀ (ns : List Int) (k : Int), (ns.foldl min k) ∈ k :: ns ∧ ∀ y ∈ k :: ns, ns.foldl min k ≤ y := by
      intro ns
      induction ns with
      | nil => intro k; simp
      | cons x ns ih =>
        intro k
        obtain ⟨a, b⟩ := ih (min k x)
        have hb := b (min k x) List.mem_cons_self
        simp only [List.foldl_cons]
        refine ⟨?_, fun y hy => ?_⟩
        · rcases List.mem_cons.mp a with a | a
          · rw [a]
            rcases Int.le_total k x with c | c
            · rw [Int.min_eq_left c]; exact List.mem_cons_self
            · rw [Int.min_eq_right c]; exact List.mem_cons_of_mem _ List.mem_cons_self
          · exact List.mem_cons_of_mem _ (List.mem_cons_of_mem _ a)
        · rcases List.mem_cons.mp hy with rfl | hy
          · omega
          · rcases List.mem_cons.mp hy with rfl | hy
            · omega
            · exact b y (List.mem_cons_of_mem _ hy)
    obtain ⟨a, b⟩ := key ns k
    have h1 := b n h
    have h2 := hle _ a
    rw [show ns.foldl min k = n by omega]
theorem maxI_eq {n k : Int} {ns : List Int} (h : n ∈ k :: ns) (hle : ∀ y ∈ k :: ns, y ≤ n) : maxI k ns = n := by
  obtain ⟨a, b⟩ := maxI_spec ns k
  have := b n h
  have := hle _ a
  omega
theorem bMax_ints {ns : List Int} {n : Int} (h : n ∈ ns) (hle : ∀ y ∈ ns, y ≤ n) : bMax [.list (ns.map PyData.int)] = some (.sh (.int n)) := by
  cases ns with
  | nil => cases h
  | cons k ns =>
    have e : bMax [.list ((k :: ns).map PyData.int)] = match intsOf ((k :: ns).map PyData.int) with
      | some (n :: ns) => some (.sh (.int (maxI n ns)))
      | some [] => none
      | none => match (k :: ns).map PyData.int with
        | d :: ds => if cmpAll (d :: ds) then some (.sh (W.maxD d ds)) else none
        | [] => none := rfl
    rw [e, ints_map]
    show some (T.sh (.int (maxI k ns))) = _
    rw [maxI_eq h hle]
/-- the least of some data, told -/
theorem minD_best {b : PyData} : ∀ {xs : List PyData} {x : PyData}, (∀ y ∈ x :: xs, y = b ∨ (W.dataLt b y = true ∧ W.dataLt y b = false)) → b ∈ x :: xs → W.minD x xs = b
  | [], x, _, hb => by
    rcases List.mem_singleton.mp hb with rfl
    rfl
  | y :: xs, x, h, hb => by
    show W.minD (if W.dataLt y x then y else x) xs = b
    refine minD_best (fun z hz => ?_) ?_
    · rcases List.mem_cons.mp hz with rfl | hz
      · split
        · exact h y (by simp)
        · exact h x (by simp)
      · exact h z (by simp [hz])
    · rcases List.mem_cons.mp hb with rfl | hb
      · rcases h y (by simp) with rfl | ⟨_, e⟩
        · split <;> exact List.mem_cons_self
        · rw [e]; exact List.mem_cons_self
      · rcases List.mem_cons.mp hb with rfl | hb
        · rcases h x (by simp) with rfl | ⟨e, _⟩
          · split <;> exact List.mem_cons_self
          · rw [e]; exact List.mem_cons_self
        · exact List.mem_cons_of_mem _ hb
theorem gP_nx {N n : Nat} {fb : FS} {ds : List PyData} {η : Env} (hl : ds.length = n) (h : fb (startE N (ds.map T.sh)) = .ok (.nx, η)) : gP N n fb ds = some (.sh .none) := by
  unfold gP
  rw [if_pos hl, h]
  rfl
@[simp] theorem all_const {α : Type} {l : List α} : (l.all fun _ => true) = true := List.all_eq_true.mpr fun _ _ => rfl
/-! a comprehension with one name, whose item changes something: the names stand as E tells of a state s -/
inductive All3 {α : Type} (c : α → T → Prop) : List α → List T → Prop
  | nil : All3 c [] []
  | cons {d ds t ts} : c d t → All3 c ds ts → All3 c (d :: ds) (t :: ts)
theorem All3.len {α : Type} {c : α → T → Prop} {ds : List α} {ts : List T} (h : All3 c ds ts) : ts.length = ds.length := by
  induction h with
  | nil => rfl
  | cons _ _ ih => simp [ih]
theorem All3.map {α : Type} {c : α → T → Prop} {g : α → T} {ds : List α} {ts : List T} (h : All3 c ds ts) (k : ∀ a t, c a t → t = g a) : ts = ds.map g := by
  induction h with
  | nil => rfl
  | cons h _ ih => rw [List.map_cons, k _ _ h, ih]
theorem All3.mem {α : Type} {c : α → T → Prop} {ds : List α} {ts : List T} (h : All3 c ds ts) : ∀ t ∈ ts, ∃ d ∈ ds, c d t := by
  induction h with
  | nil => simp
  | cons h _ ih =>
    intro t ht
    rcases List.mem_cons.mp ht with rfl | ht
    · exact ⟨_, List.mem_cons_self, h⟩
    · obtain ⟨d, hd, hc⟩ := ih t ht
      exact ⟨d, List.mem_cons_of_mem _ hd, hc⟩
/-- the things behind the values, one for each -/
theorem All3.pick {α β : Type} {c : α → β → Prop} {f : β → PyData} {ds : List α} {ts : List T} (h : All3 (fun a t => ∃ b, c a b ∧ t = .sh (f b)) ds ts) : ∃ bs : List β, ts = bs.map (fun b => T.sh (f b)) ∧ bs.length = ds.length ∧ ∀ (i : Nat) (a : α) (b : β), ds[i]? = some a → bs[i]? = some b → c a b := by
  induction h with
  | nil => exact ⟨[], rfl, rfl, fun i a b h => by simp at h⟩
  | cons h _ ih =>
    obtain ⟨bs, e, hl, hi⟩ := ih
    obtain ⟨b, hb, rfl⟩ := h
    refine ⟨b :: bs, by rw [e]; rfl, by simp [hl], fun i a b' h1 h2 => ?_⟩
    cases i with
    | zero => cases h1; cases h2; exact hb
    | succ i => exact hi i a b' (by simpa using h1) (by simpa using h2)
theorem loopC1_st {α S : Type} {chk : Env → Bool} {k : Nat} {elt : FE} {f : α → PyData} (E : S → Env) (Good : S → Prop) (P : α → T → Prop) (hk : ∀ s, k < (E s).length) (hc : ∀ s, Good s → chk ((E s).set k none) = true) : ∀ {l : List α} {s : S}, Good s →
    (∀ a, a ∈ l → ∀ s, Good s → ∃ x s', elt ((E s).set k (some (.sh (f a)))) = .ok (x, (E s').set k (some (.sh (f a)))) ∧ Good s' ∧ P a x) →
    ∃ ts s', loopC chk [k] (gN k) bTrue elt (l.map f) ((E s).set k none) = .ok (ts, (E s').set k none) ∧ Good s' ∧ All3 P l ts
  | [], s, h, _ => ⟨[], s, rfl, h, .nil⟩
  | a :: l, s, h, st => by
    obtain ⟨x, s1, e1, h1, p1⟩ := st a List.mem_cons_self s h
    obtain ⟨ts, s2, e2, h2, p2⟩ := loopC1_st E Good P hk hc h1 fun b hb => st b (List.mem_cons_of_mem _ hb)
    refine ⟨x :: ts, s2, ?_, h2, .cons p1 p2⟩
    have e0 : gN k (.sh (f a)) ((E s).set k none) = .ok ((E s).set k (some (.sh (f a)))) := by
      show Rs.ok (((E s).set k none).set k _) = _
      rw [List.set_set]
    rw [List.map_cons]
    unfold loopC
    rw [e0]
    simp only [Rs.noX_ok, Rs.bind_ok, bTrue, if_pos]
    rw [e1]
    simp only [Rs.noX_ok, Rs.bind_ok]
    have w : wipeE ((E s1).set k (some (.sh (f a)))) [k] = (E s1).set k none := List.set_set ..
    have fr : ownFree ((E s1).set k (some (.sh (f a)))) [k] = true := by
      simp only [ownFree, List.all_cons, List.all_nil, Bool.and_true]
      exact free1_own (hk s1)
    rw [w, if_pos ⟨fr, hc s1 h1⟩, e2]
    rfl
theorem eComp1_st {α S : Type} {k : Nat} {fi : FI} {elt : FE} {f : α → PyData} {η : Env} (E : S → Env) (Good : S → Prop) (P : α → T → Prop) {l : List α} {s0 : S} (hfi : fi η = .ok (l.map f, E s0)) (h0 : Good s0) (hl : l.length < 16777216) (hk : ∀ s, k < (E s).length) (hf : free1 (E s0) k = true) (hs : ∀ s, (E s)[k]? = (E s0)[k]?)
    (st : ∀ a, a ∈ l → ∀ s, Good s → ∃ x s', elt ((E s).set k (some (.sh (f a)))) = .ok (x, (E s').set k (some (.sh (f a)))) ∧ Good s' ∧ P a x) :
    ∃ ts s', eComp [k] fi (gN k) bTrue elt η = .ok (.lst ts, E s') ∧ Good s' ∧ All3 P l ts := by
  obtain ⟨ts, s1, e, h1, p⟩ := loopC1_st (chk := fun _ => true) E Good P hk (fun _ _ => rfl) h0 st
  refine ⟨ts, s1, ?_, h1, p⟩
  unfold eComp
  rw [hfi]
  have hof : ownFree (E s0) [k] = true := by simp only [ownFree, List.all_cons, hf, List.all_nil, Bool.and_true]
  have hll : line (l.map f).length = true := by unfold line; rw [List.length_map]; exact decide_eq_true hl
  simp only [Rs.bind_ok, hof, hll, Bool.and_true, if_pos]
  rw [show wipeE (E s0) [k] = (E s0).set k none from rfl, e]
  simp only [Rs.bind_ok]
  congr 2
  show ((E s1).set k none).set k ((E s0)[k]?.join) = _
  rw [← hs s1]
  exact set_get (hk s1) none
/-- a comprehension over range whose item draws: the hand is at slot j; what each item is may hang on its number -/
theorem eComp_ioN {k j n : Nat} {fi : FI} {elt : FE} {η η1 : Env} {t : T} (P : Nat → T → Prop) (hfi : fi η = .ok (natsL n, η1)) (hn : n < 1000000) (hj : η1[j]? = some (some t)) (ht : Hand t) (hne : k ≠ j) (ho : k < η1.length) (hfr : free1 η1 k = true)
    (st : ∀ (i : Nat) (t : T), i < n → Hand t → ∃ x t', elt ((η1.set j (some t)).set k (some (.sh (.int (i : Nat))))) = .ok (x, (η1.set j (some t')).set k (some (.sh (.int (i : Nat))))) ∧ Hand t' ∧ P i x) :
    ∃ ts t', eComp [k] fi (gN k) bTrue elt η = .ok (.lst ts, η1.set j (some t')) ∧ Hand t' ∧ All3 P (List.range n) ts := by
  have hjl : j < η1.length := (List.getElem?_eq_some_iff.mp hj).1
  have e0 : η1.set j (some t) = η1 := set_self hj
  exact eComp1_st (fun t => η1.set j (some t)) Hand P (l := List.range n) (f := fun i => .int (i : Nat)) (s0 := t) (by rw [hfi, e0]; rfl) ht (by rw [List.length_range]; omega) (fun s => by rw [List.length_set]; exact ho) (by rw [e0]; exact hfr) (fun s => by rw [List.getElem?_set_ne (Ne.symm hne), List.getElem?_set_ne (Ne.symm hne)]) fun i hi s hs => st i s (List.mem_range.mp hi) hs
/-! what repr can show -/
structure ROk (w n : Nat) (d : PyData) : Prop where
  sh : d.showable = true
  lay : d.canLay0 = true
  dep : d.depth ≤ n
  sz : shSz d ≤ w
theorem rok_int {i : Int} (h : -1000000000000 < i ∧ i < 1000000000000) : ROk 1921 1 (.int i) := ⟨by
  simp only [PyData.showable, decide_eq_true_eq]
  have := log2_small (n := i.natAbs) (by omega)
  have h2 : i.natAbs.log2 < 64 := by
    by_cases h0 : i.natAbs = 0
    · rw [h0]; decide
    · exact (Nat.log2_lt h0).mpr (by omega)
  omega, rfl, by simp only [PyData.depth]; omega, Nat.le_refl _⟩
theorem rok_bool {b : Bool} : ROk 5 1 (.bool b) := ⟨rfl, rfl, by simp only [PyData.depth]; omega, Nat.le_refl _⟩
theorem rok_none : ROk 4 1 .none := ⟨rfl, rfl, by simp only [PyData.depth]; omega, Nat.le_refl _⟩
theorem ROk.mono {w n w' n' : Nat} {d : PyData} (h : ROk w n d) (h1 : w ≤ w') (h2 : n ≤ n') : ROk w' n' d := ⟨h.sh, h.lay, Nat.le_trans h.dep h2, Nat.le_trans h.sz h1⟩
theorem roks {w n : Nat} : ∀ {ds : List PyData}, (∀ d ∈ ds, ROk w n d) → PyData.showableAll ds = true ∧ PyData.canLayAll0 ds = true ∧ PyData.depthAll ds ≤ n ∧ shSz.shSzs ds ≤ ds.length * (w + 2)
  | [], _ => ⟨rfl, rfl, by simp only [PyData.depthAll]; omega, by simp [shSz.shSzs]⟩
  | d :: ds, h => by
    obtain ⟨a, b, c, e⟩ := roks (w := w) (n := n) (ds := ds) fun x hx => h x (List.mem_cons_of_mem _ hx)
    have h0 := h d List.mem_cons_self
    refine ⟨?_, ?_, ?_, ?_⟩
    · simp only [PyData.showableAll, h0.sh, a, Bool.and_self]
    · simp only [PyData.canLayAll0, h0.lay, b, Bool.and_self]
    · simp only [PyData.depthAll]
      exact Nat.max_le.mpr ⟨h0.dep, c⟩
    · simp only [shSz.shSzs, List.length_cons]
      have := h0.sz
      rw [Nat.add_mul]
      omega
theorem rok_tup {w n N : Nat} {ds : List PyData} (h : ∀ d ∈ ds, ROk w n d) (hl : ds.length ≤ N) : ROk (N * (w + 2) + 3) (n + 1) (.tuple ds) := by
  obtain ⟨a, b, c, e⟩ := roks h
  have := Nat.mul_le_mul_right (w + 2) hl
  refine ⟨?_, ?_, ?_, ?_⟩
  · simp only [PyData.showable]; exact a
  · simp only [PyData.canLay0]; exact b
  · simp only [PyData.depth]; omega
  · simp only [shSz]; omega
theorem rok_list {w n N : Nat} {ds : List PyData} (h : ∀ d ∈ ds, ROk w n d) (hl : ds.length ≤ N) : ROk (N * (w + 2) + 3) (n + 1) (.list ds) := by
  obtain ⟨a, b, c, e⟩ := roks h
  have := Nat.mul_le_mul_right (w + 2) hl
  refine ⟨?_, ?_, ?_, ?_⟩
  · simp only [PyData.showable]; exact a
  · simp only [PyData.canLay0]; exact b
  · simp only [PyData.depth]; omega
  · simp only [shSz]; omega
theorem ROk.repr {w n : Nat} {d : PyData} (h : ROk w n d) (hw : w ≤ 16777216) (hn : n ≤ 60) : bRepr [d] = some (.sh (.str d.shown)) := by
  refine if_pos ?_
  unfold reprOk
  rw [h.sh, h.lay, decide_eq_true (Nat.le_trans h.dep hn), decide_eq_true (Nat.le_trans h.sz hw)]
  rfl
/-! texts alike -/
theorem bRepr_of {d : PyData} (h : reprOk d = true) : bRepr [d] = some (.sh (.str d.shown)) := if_pos h
theorem opNeS_self {s : Str} : opNeS (.str s) (.str s) = some (.sh (.bool false)) := by
  show some (T.sh (.bool (!decide (s = s)))) = _
  rw [decide_eq_true rfl]
  rfl
end Pv
set_option Elab.async false
set_option linter.all false
set_option maxRecDepth 100000
set_option maxHeartbeats 4000000
/-! fractions: pairs of a top and a bottom, in lowest terms -/
namespace Pv
open PySem L2 PyProof.Rows
def frD (q : Rat) : PyData := .tuple [.int q.num, .int (q.den : Nat)]
theorem gcd_step (a b : Int) : Int.gcd b (a % b) = Int.gcd a b := by
  have h : a % b = a + (-(a / b)) * b := by
    rw [Int.emod_def, Int.neg_mul, Int.mul_comm b]
    omega
  rw [h, Int.gcd_add_mul_right_right, Int.gcd_comm]
theorem half_step {b r : Int} (hr : 0 < r) (hb : r < b) : 2 * (b % r) < b := by
  have h1 := Int.emod_def b r
  have h2 := Int.emod_lt_of_pos b hr
  have h3 : 1 ≤ b / r := by
    exact (Int.le_ediv_iff_mul_le hr).mpr (by omega)
  have h4 : r * 1 ≤ r * (b / r) := Int.mul_le_mul_of_nonneg_left h3 (by omega)
  omega
/-- Euclid's loop: at most two turns for each bit of the second number -/
theorem euclid {c : FB} {body : FS} (E : Int → Int → Env) (hc : ∀ a b, c (E a b) = .ok (decide (0 < b), E a b)) (hb : ∀ a b : Int, 0 < b → b < 1000000000000000000 → body (E a b) = .ok (.nx, E b (a % b))) :
    ∀ (k : Nat) (a b : Int) (n : Nat), 0 < b → b < 1000000000000000000 → b < 2 ^ k → 2 * k + 2 ≤ n → loopW c body n (E a b) = .ok (.nx, E (Int.gcd a b : Nat) 0)
  | k, a, b, 0, _, _, _, h => absurd h (by omega)
  | k, a, b, 1, _, _, _, h => absurd h (by omega)
  | k, a, b, n + 2, h0, hB, hk, hn => by
    have r0 := Int.emod_nonneg a (show b ≠ 0 by omega)
    have r1 := Int.emod_lt_of_pos a h0
    have hg := gcd_step a b
    unfold loopW
    rw [hc]
    simp only [Rs.bind_ok, decide_eq_true h0, if_pos]
    rw [hb a b h0 hB]
    simp only [Rs.bind_ok]
    generalize a % b = r at r0 r1 hg ⊢
    by_cases hr : r = 0
    · subst hr
      unfold loopW
      rw [hc]
      have : Int.gcd a b = b.natAbs := by rw [← hg, Int.gcd_zero_right]
      rw [this]
      simp only [Rs.bind_ok, Int.lt_irrefl, decide_false, Bool.false_eq_true, if_false]
      rw [show ((b.natAbs : Nat) : Int) = b by omega]
    · have hr0 : 0 < r := by omega
      unfold loopW
      rw [hc]
      simp only [Rs.bind_ok, decide_eq_true hr0, if_pos]
      rw [hb b r hr0 (by omega)]
      simp only [Rs.bind_ok]
      have s0 := Int.emod_nonneg b (show r ≠ 0 by omega)
      have s1 := half_step hr0 r1
      have hg2 := gcd_step b r
      rw [← hg, ← hg2]
      by_cases hs : b % r = 0
      · have : 1 ≤ n := by
          cases k with
          | zero => have : (2 : Int) ^ 0 = 1 := rfl; omega
          | succ k => omega
        obtain ⟨n', rfl⟩ : ∃ n', n = n' + 1 := ⟨n - 1, by omega⟩
        unfold loopW
        rw [hc, hs]
        simp only [Rs.bind_ok, Int.lt_irrefl, decide_false, Bool.false_eq_true, if_false, Int.gcd_zero_right]
        rw [show ((r.natAbs : Nat) : Int) = r by omega]
      · cases k with
        | zero => have : (2 : Int) ^ 0 = 1 := rfl; omega
        | succ k =>
          have hp : (2 : Int) ^ (k + 1) = 2 * 2 ^ k := by rw [Int.pow_succ, Int.mul_comm]
          exact euclid E hc hb k r (b % r) n (by omega) (by omega) (by omega) (by omega)
theorem pow60 : (1000000000000000000 : Int) < 2 ^ 60 := by decide
/-! ### common, made -/
def commonB : FS := (sSeq (sWhile 1000 (bT (eBinL' opGt 1 (eC (.int 0)))) (sPar 0 1 (aCons (eV 1) (aCons (eBinLR opMod 0 1) aNil)))) (sRet (eCallV bAbs 0)))
theorem common_ok {a b : Int} (hb : 0 < b) (h2 : b < 1000000000000000000) : gP 2 2 commonB [.int a, .int b] = some (.sh (.int (Int.gcd a b : Nat))) := by
  have hw : sWhile 1000 (bT (eBinL' opGt 1 (eC (.int 0)))) (sPar 0 1 (aCons (eV 1) (aCons (eBinLR opMod 0 1) aNil))) [some (.sh (.int a)), some (.sh (.int b))] = .ok (.nx, [some (.sh (.int (Int.gcd a b : Nat))), some (.sh (.int 0))]) := by
    refine euclid (fun a b => [some (.sh (.int a)), some (.sh (.int b))]) (fun a b => by simp) (fun a b hb h2 => ?_) 60 a b 1000 hb h2 (Int.lt_trans h2 pow60) (by decide)
    simp [sPar, opMod_int hb]
  refine gP_eq rfl (η := [some (.sh (.int (Int.gcd a b : Nat))), some (.sh (.int 0))]) ?_
  unfold commonB
  simp only [sSeq, startE, List.map_cons, List.map_nil, List.length_cons, List.length_nil, Nat.sub_self, List.replicate_zero, List.append_nil]
  rw [hw]
  have hn : ¬ ((Int.gcd a b : Nat) : Int) < 0 := by omega
  simp [hn]
theorem mkRat_fr {a b : Int} (hb : 0 < b) : (mkRat a b.toNat).num = a / (Int.gcd a b : Nat) ∧ (((mkRat a b.toNat).den : Nat) : Int) = b / (Int.gcd a b : Nat) := by
  have hn : b.toNat ≠ 0 := by omega
  have hg : b.toNat.gcd a.natAbs = Int.gcd a b := by
    rw [Int.gcd_eq_natAbs_gcd_natAbs, Nat.gcd_comm]
    congr 1
    omega
  rw [Rat.num_mkRat, Rat.den_mkRat, if_neg hn, if_neg hn, hg]
  refine ⟨rfl, ?_⟩
  rw [Int.natCast_ediv, show ((b.toNat : Nat) : Int) = b by omega]
theorem gcd_le {a b : Int} (hb : 0 < b) : 0 < ((Int.gcd a b : Nat) : Int) ∧ ((Int.gcd a b : Nat) : Int) ≤ b := by
  have h1 := Int.gcd_pos_of_ne_zero_right a (show b ≠ 0 by omega)
  have h2 := Int.gcd_le_natAbs_right a (show b ≠ 0 by omega)
  omega
def madeB (Gc : List PyData → Option T) : FS := (sSeq (sAsg (eDef Gc (aCons (eV 0) (aCons (eV 1) aNil))) (gN 2)) (sRet (eTup (aCons (eBinLR opFdiv 0 2) (aCons (eBinLR opFdiv 1 2) aNil)))))
theorem made_ok {a b : Int} (hb : 0 < b) (h2 : b < 1000000000000000000) : gP 3 2 (madeB (gP 2 2 commonB)) [.int a, .int b] = some (.sh (frD (mkRat a b.toNat))) := by
  obtain ⟨g1, g2⟩ := gcd_le (a := a) hb
  have hc := common_ok (a := a) hb h2
  obtain ⟨e1, e2⟩ := mkRat_fr (a := a) hb
  refine gP_eq rfl (η := [some (.sh (.int a)), some (.sh (.int b)), some (.sh (.int (Int.gcd a b : Nat)))]) ?_
  unfold frD
  rw [e1, e2]
  generalize ((Int.gcd a b : Nat) : Int) = g at g1 g2 hc ⊢
  have f1 : ∀ x, opFdiv (.int x) (.int g) = some (.sh (.int (x / g))) := fun x => opFdiv_int g1 (by omega)
  unfold madeB
  simp [startE, hc, f1]
def lowB : FS := (sSeq (sPar 2 3 (aCons (eCallV bAbs 0) (aCons (eV 1) aNil))) (sSeq (sWhile 1000 (bT (eBinL' opGt 3 (eC (.int 0)))) (sPar 2 3 (aCons (eV 3) (aCons (eBinR opMod (eCallV bInt 2) 3) aNil)))) (sRet (eTup (aCons (eBinLR opFdiv 0 2) (aCons (eBinLR opFdiv 1 2) aNil))))))
theorem low_ok {a b : Int} (hb : 0 < b) (h2 : b < 1000000000000000000) : gP 4 2 lowB [.int a, .int b] = some (.sh (frD (mkRat a b.toNat))) := by
  obtain ⟨g1, g2⟩ := gcd_le (a := a) hb
  obtain ⟨e1, e2⟩ := mkRat_fr (a := a) hb
  have hw : sWhile 1000 (bT (eBinL' opGt 3 (eC (.int 0)))) (sPar 2 3 (aCons (eV 3) (aCons (eBinR opMod (eCallV bInt 2) 3) aNil))) [some (.sh (.int a)), some (.sh (.int b)), some (.sh (.int (if a < 0 then -a else a))), some (.sh (.int b))] = .ok (.nx, [some (.sh (.int a)), some (.sh (.int b)), some (.sh (.int (Int.gcd a b : Nat))), some (.sh (.int 0))]) := by
    have hg : Int.gcd (if a < 0 then -a else a) b = Int.gcd a b := by
      split
      · exact Int.neg_gcd
      · rfl
    rw [← hg]
    refine euclid (fun x y => [some (.sh (.int a)), some (.sh (.int b)), some (.sh (.int x)), some (.sh (.int y))]) (fun a b => by simp) (fun x y hb h2 => ?_) 60 _ b 1000 hb h2 (Int.lt_trans h2 pow60) (by decide)
    simp [sPar, opMod_int hb]
  refine gP_eq rfl (η := [some (.sh (.int a)), some (.sh (.int b)), some (.sh (.int (Int.gcd a b : Nat))), some (.sh (.int 0))]) ?_
  unfold frD
  rw [e1, e2]
  generalize ((Int.gcd a b : Nat) : Int) = g at g1 g2 hw ⊢
  have f1 : ∀ x, opFdiv (.int x) (.int g) = some (.sh (.int (x / g))) := fun x => opFdiv_int g1 (by omega)
  have s0 : sPar 2 3 (aCons (eCallV bAbs 0) (aCons (eV 1) aNil)) (startE 4 (List.map T.sh [.int a, .int b])) = .ok (.nx, [some (.sh (.int a)), some (.sh (.int b)), some (.sh (.int (if a < 0 then -a else a))), some (.sh (.int b))]) := by
    simp [sPar, startE]
  unfold lowB
  simp only [sSeq, s0, Rs.bind_ok, hw]
  simp [f1]
/-! ### sums, differences -/
/-- small enough to be multiplied -/
structure Nice (q : Rat) : Prop where
  nu : -100000000 < q.num ∧ q.num < 100000000
  de : q.den < 100000000
theorem Nice.dp {q : Rat} (_ : Nice q) : 0 < q.den := q.den_pos
def plusB (G : List PyData → Option T) : FS := (sRet (eDef G (aCons (eBin opAdd (eBin opMul (eBinL' opIx 0 (eC (.int 0))) (eBinL' opIx 1 (eC (.int 1)))) (eBin opMul (eBinL' opIx 1 (eC (.int 0))) (eBinL' opIx 0 (eC (.int 1))))) (aCons (eBin opMul (eBinL' opIx 0 (eC (.int 1))) (eBinL' opIx 1 (eC (.int 1)))) aNil))))
def lessB (G : List PyData → Option T) : FS := (sRet (eDef G (aCons (eBin opSub (eBin opMul (eBinL' opIx 0 (eC (.int 0))) (eBinL' opIx 1 (eC (.int 1)))) (eBin opMul (eBinL' opIx 1 (eC (.int 0))) (eBinL' opIx 0 (eC (.int 1))))) (aCons (eBin opMul (eBinL' opIx 0 (eC (.int 1))) (eBinL' opIx 1 (eC (.int 1)))) aNil))))
def belowB : FS := (sRet (eBin opLt (eBin opMul (eBinL' opIx 0 (eC (.int 0))) (eBinL' opIx 1 (eC (.int 1)))) (eBin opMul (eBinL' opIx 1 (eC (.int 0))) (eBinL' opIx 0 (eC (.int 1))))))
/-- what makes a fraction of two numbers -/
def Makes (G : List PyData → Option T) : Prop := ∀ a b : Int, 0 < b → b < 1000000000000000000 → G [.int a, .int b] = some (.sh (frD (mkRat a b.toNat)))
theorem makes_made : Makes (gP 3 2 (madeB (gP 2 2 commonB))) := fun _ _ h1 h2 => made_ok h1 h2
theorem makes_low : Makes (gP 4 2 lowB) := fun _ _ h1 h2 => low_ok h1 h2
section
variable {G : List PyData → Option T} {p q : Rat}
@[simp] theorem opIx_fr0 : opIx (frD q) (.int 0) = some (.sh (.int q.num)) := by simp [frD]
@[simp] theorem opIx_fr1 : opIx (frD q) (.int 1) = some (.sh (.int (q.den : Nat))) := by simp [frD]
theorem den_mul (hp : Nice p) (hq : Nice q) : 0 < (p.den : Int) * (q.den : Int) ∧ (p.den : Int) * (q.den : Int) < 1000000000000000000 := by
  have a := p.den_pos
  have b := q.den_pos
  have h1 : p.den * q.den < 100000000 * 100000000 := Nat.mul_lt_mul_of_lt_of_lt hp.de hq.de
  have h2 : 0 < p.den * q.den := Nat.mul_pos a b
  rw [← Int.natCast_mul]
  omega
theorem nmul (hp : Nice p) (x : Int) : opMul (.int p.num) (.int x) = some (.sh (.int (p.num * x))) := opMul_intL (by have := hp.nu; omega)
theorem dmul (hp : Nice p) (x : Int) : opMul (.int (p.den : Nat)) (.int x) = some (.sh (.int ((p.den : Nat) * x))) := opMul_intL (by have := hp.de; omega)
theorem den_nat : ((p.den : Int) * (q.den : Int)).toNat = p.den * q.den := by rw [← Int.natCast_mul, Int.toNat_natCast]
theorem mk_plus : mkRat (p.num * (q.den : Nat) + q.num * (p.den : Nat)) ((p.den : Int) * (q.den : Int)).toNat = p + q := by
  rw [den_nat, ← Rat.mkRat_add_mkRat _ _ p.den_nz q.den_nz, Rat.mkRat_self, Rat.mkRat_self]
theorem mk_less : mkRat (p.num * (q.den : Nat) - q.num * (p.den : Nat)) ((p.den : Int) * (q.den : Int)).toNat = p - q := by
  rw [den_nat, Rat.sub_def, Rat.normalize_eq_mkRat]
theorem G_plus (hG : Makes G) (hp : Nice p) (hq : Nice q) : G [.int (p.num * (q.den : Nat) + q.num * (p.den : Nat)), .int ((p.den : Int) * (q.den : Int))] = some (.sh (frD (p + q))) := by
  obtain ⟨d1, d2⟩ := den_mul hp hq
  have e := hG (p.num * (q.den : Nat) + q.num * (p.den : Nat)) ((p.den : Int) * (q.den : Int)) d1 d2
  rw [mk_plus] at e
  exact e
theorem G_less (hG : Makes G) (hp : Nice p) (hq : Nice q) : G [.int (p.num * (q.den : Nat) - q.num * (p.den : Nat)), .int ((p.den : Int) * (q.den : Int))] = some (.sh (frD (p - q))) := by
  obtain ⟨d1, d2⟩ := den_mul hp hq
  have e := hG (p.num * (q.den : Nat) - q.num * (p.den : Nat)) ((p.den : Int) * (q.den : Int)) d1 d2
  rw [mk_less] at e
  exact e
theorem plus_run {a b c f : Int} {d d1 d2 : PyData} (h1 : opIx d1 (.int 0) = some (.sh (.int a))) (h2 : opIx d2 (.int 1) = some (.sh (.int b))) (h3 : opIx d2 (.int 0) = some (.sh (.int c))) (h4 : opIx d1 (.int 1) = some (.sh (.int f)))
    (m1 : opMul (.int a) (.int b) = some (.sh (.int (a * b)))) (m2 : opMul (.int c) (.int f) = some (.sh (.int (c * f)))) (m3 : opMul (.int f) (.int b) = some (.sh (.int (f * b))))
    (e : G [.int (a * b + c * f), .int (f * b)] = some (.sh d)) : (plusB G) [some (.sh d1), some (.sh d2)] = .ok (.ret (.sh d), [some (.sh d1), some (.sh d2)]) := by
  unfold plusB
  simp [h1, h2, h3, h4, m1, m2, m3, e]
theorem less_run {a b c f : Int} {d d1 d2 : PyData} (h1 : opIx d1 (.int 0) = some (.sh (.int a))) (h2 : opIx d2 (.int 1) = some (.sh (.int b))) (h3 : opIx d2 (.int 0) = some (.sh (.int c))) (h4 : opIx d1 (.int 1) = some (.sh (.int f)))
    (m1 : opMul (.int a) (.int b) = some (.sh (.int (a * b)))) (m2 : opMul (.int c) (.int f) = some (.sh (.int (c * f)))) (m3 : opMul (.int f) (.int b) = some (.sh (.int (f * b))))
    (e : G [.int (a * b - c * f), .int (f * b)] = some (.sh d)) : (lessB G) [some (.sh d1), some (.sh d2)] = .ok (.ret (.sh d), [some (.sh d1), some (.sh d2)]) := by
  unfold lessB
  simp [h1, h2, h3, h4, m1, m2, m3, e]
theorem plus_ok (hG : Makes G) (hp : Nice p) (hq : Nice q) : gP 2 2 (plusB G) [frD p, frD q] = some (.sh (frD (p + q))) :=
  gP_eq rfl (plus_run opIx_fr0 opIx_fr1 opIx_fr0 opIx_fr1 (nmul hp _) (nmul hq _) (dmul hp _) (G_plus hG hp hq))
theorem less_ok (hG : Makes G) (hp : Nice p) (hq : Nice q) : gP 2 2 (lessB G) [frD p, frD q] = some (.sh (frD (p - q))) :=
  gP_eq rfl (less_run opIx_fr0 opIx_fr1 opIx_fr0 opIx_fr1 (nmul hp _) (nmul hq _) (dmul hp _) (G_less hG hp hq))
theorem below_ok (hp : Nice p) (hq : Nice q) : gP 2 2 belowB [frD p, frD q] = some (.sh (.bool (decide (p < q)))) := by
  refine gP_eq rfl (η := [some (.sh (frD p)), some (.sh (frD q))]) ?_
  have m1 := nmul hp (q.den : Nat)
  have m2 := nmul hq (p.den : Nat)
  have h : decide (p.num * ((q.den : Nat) : Int) < q.num * ((p.den : Nat) : Int)) = decide (p < q) := decide_eq_decide.mpr (Rat.lt_iff p q).symm
  unfold belowB
  simp [startE, m1, m2, h]
/-- whole numbers -/
theorem fr_int (n : Int) : PyData.tuple [.int n, .int 1] = frD (n : Rat) := rfl
theorem fr_inj (h : frD p = frD q) : p = q := by
  unfold frD at h
  simp only [PyData.tuple.injEq, List.cons.injEq, PyData.int.injEq, and_true] at h
  exact Rat.ext h.1 (by omega)
theorem fr_plain : plain 1 (frD q) = true := plain_tup (by simp [plains]) (by simp)
theorem fr_eq : opEq (frD p) (frD q) = some (.sh (.bool (decide (p = q)))) := by
  rw [opEq_of (plain_shp fr_plain (by decide)) (plain_shp fr_plain (by decide))]
  have : PyData.eqv (frD p) (frD q) = decide (p = q) := by
    have e := eqvAll_ints (a := [p.num, (p.den : Nat)]) (b := [q.num, (q.den : Nat)])
    have e1 : PyData.eqv (frD p) (frD q) = PyData.eqvAll ([p.num, ((p.den : Nat) : Int)].map PyData.int) ([q.num, ((q.den : Nat) : Int)].map PyData.int) := by
      unfold frD
      simp only [PyData.eqv, List.map_cons, List.map_nil]
    rw [e1, e]
    refine decide_eq_decide.mpr ⟨fun h => ?_, fun h => by rw [h]⟩
    simp only [List.cons.injEq, and_true] at h
    exact Rat.ext h.1 (by omega)
  rw [this]
end
/-! ### twelfths and the like: the fractions of one bottom -/
theorem nice_mk {a : Int} {n : Nat} (hn : 0 < n) (h2 : n < 100000000) (ha : -100000000 < a ∧ a < 100000000) : Nice (mkRat a n) := by
  have hn0 : n ≠ 0 := by omega
  have hg := Nat.gcd_pos_of_pos_left a.natAbs hn
  constructor
  · rw [Rat.num_mkRat, if_neg hn0]
    generalize hG : ((n.gcd a.natAbs : Nat) : Int) = g
    have hg1 : 1 ≤ g := by omega
    have hd : g ∣ a := by
      rw [← hG]
      exact Int.dvd_natAbs.mp (Int.natCast_dvd_natCast.mpr (Nat.gcd_dvd_right ..))
    obtain ⟨c, rfl⟩ := hd
    rw [Int.mul_ediv_cancel_left _ (show g ≠ 0 by omega)]
    rcases Int.le_total 0 c with h | h
    · have : 1 * c ≤ g * c := Int.mul_le_mul_of_nonneg_right hg1 h
      omega
    · have : g * c ≤ 1 * c := Int.mul_le_mul_of_nonpos_right hg1 h
      omega
  · rw [Rat.den_mkRat, if_neg hn0]
    exact Nat.lt_of_le_of_lt (Nat.div_le_self ..) h2
end Pv
set_option Elab.async false
set_option linter.all false
set_option maxRecDepth 100000
set_option maxHeartbeats 4000000
/-! comprehensions over a name's value, whose item changes something -/
namespace Pv
open PySem L2 PyProof.Rows
theorem eCompV1_st {α S : Type} {i k : Nat} {elt : FE} {f : α → PyData} (E : S → Env) (Good : S → Prop) (P : α → T → Prop) {l : List α} {s0 : S} {d0 : PyData} (hp : ∀ s, pk ((E s).set k none) i = some d0) (hp0 : pk (E s0) i = some d0) (hs0 : seqOf d0 = some (l.map f)) (h0 : Good s0) (hl : l.length < 16777216) (hk : ∀ s, k < (E s).length) (hf : free1 (E s0) k = true) (hik : i ≠ k) (hs : ∀ s, (E s)[k]? = (E s0)[k]?)
    (st : ∀ a, a ∈ l → ∀ s, Good s → ∃ x s', elt ((E s).set k (some (.sh (f a)))) = .ok (x, (E s').set k (some (.sh (f a)))) ∧ Good s' ∧ P a x) :
    ∃ ts s', eCompV [k] i (gN k) bTrue elt (E s0) = .ok (.lst ts, E s') ∧ Good s' ∧ All3 P l ts := by
  obtain ⟨ts, s1, e, h1, p⟩ := loopC1_st (chk := pkIs i d0) E Good P hk (fun s _ => pkIs_of (hp s)) h0 st
  refine ⟨ts, s1, ?_, h1, p⟩
  unfold eCompV
  rw [hp0]
  simp only [hs0]
  have hof : ownFree (E s0) [k] = true := by simp only [ownFree, List.all_cons, hf, List.all_nil, Bool.and_true]
  have hll : line (l.map f).length = true := by unfold line; rw [List.length_map]; exact decide_eq_true hl
  have hc : [k].contains i = false := by
    simp only [List.contains_cons, List.contains_nil, Bool.or_false, beq_eq_false_iff_ne, ne_eq]
    exact hik
  simp only [hof, hll, hc, Bool.and_true, Bool.not_false, if_pos]
  rw [show wipeE (E s0) [k] = (E s0).set k none from rfl, e]
  simp only [Rs.bind_ok]
  congr 2
  show ((E s1).set k none).set k ((E s0)[k]?.join) = _
  rw [← hs s1]
  exact set_get (hk s1) none
end Pv
set_option Elab.async false
set_option linter.all false
set_option maxRecDepth 100000
set_option maxHeartbeats 4000000
/-! a typed reading: what is known of the slots, and rules by which each expression and statement gives a typed value -/
namespace Tv
open PySem L2 Pv
inductive Sl where
  | any
  | fr
  | sh (d : PyData)
  | pk (d : PyData)
  | od (ds : List PyData)
  | ow (t : T)
  | vl (d : PyData)
def Sl.Sat : Sl → Option T → Prop
  | .any, _ => True
  | .fr, o => o = none ∨ ∃ d, o = some (.sh d)
  | .sh d, o => o = some (.sh d)
  | .pk d, o => o = some (.sh d) ∨ ∃ ds, d = .list ds ∧ o = some (.lst (ds.map T.sh))
  | .od ds, o => o = some (.lst (ds.map T.sh))
  | .ow t, o => o = some t
  | .vl d, o => ∃ t, o = some t ∧ t.val = d
abbrev Cxt := List Sl
def SatE : Cxt → Pv.Env → Prop
  | [], η => η = []
  | s :: Γ, η => match η with
    | [] => False
    | o :: η' => s.Sat o ∧ SatE Γ η'
theorem SatE.len : ∀ {Γ : Cxt} {η : Pv.Env}, SatE Γ η → η.length = Γ.length
  | [], η, h => by rw [show η = [] from h]; rfl
  | s :: Γ, [], h => h.elim
  | s :: Γ, o :: η, h => by rw [List.length_cons, List.length_cons, SatE.len h.2]
theorem SatE.get : ∀ {Γ : Cxt} {η : Pv.Env} {i : Nat} {s : Sl}, SatE Γ η → Γ[i]? = some s → ∃ o, η[i]? = some o ∧ s.Sat o
  | [], η, i, s, h, e => by simp at e
  | s :: Γ, [], i, s', h, e => h.elim
  | s :: Γ, o :: η, 0, s', h, e => by
    cases e
    exact ⟨o, rfl, h.1⟩
  | s :: Γ, o :: η, i + 1, s', h, e => SatE.get (i := i) h.2 e
theorem SatE.set : ∀ {Γ : Cxt} {η : Pv.Env} {i : Nat} {s : Sl} {o : Option T}, SatE Γ η → s.Sat o → SatE (Γ.set i s) (η.set i o)
  | [], η, i, s, o, h, e => by rw [show η = [] from h]; rfl
  | s :: Γ, [], i, s', o, h, e => h.elim
  | s :: Γ, o :: η, 0, s', o', h, e => ⟨e, h.2⟩
  | s :: Γ, o :: η, i + 1, s', o', h, e => ⟨h.1, SatE.set (i := i) h.2 e⟩
def Sl.le : Sl → Sl → Prop
  | _, .any => True
  | .fr, .fr => True
  | .sh _, .fr => True
  | .sh d, .sh d' => d = d'
  | .sh d, .pk d' => d = d'
  | .pk d, .pk d' => d = d'
  | .od ds, .pk d => d = .list ds
  | .od ds, .od ds' => ds = ds'
  | .ow t, .ow t' => t = t'
  | .sh d, .vl d' => d = d'
  | .od ds, .vl d => d = .list ds
  | .vl d, .vl d' => d = d'
  | _, _ => False
theorem Sl.le.sat {s s' : Sl} {o : Option T} (h : s.le s') (k : s.Sat o) : s'.Sat o := by
  cases s' with
  | any => trivial
  | fr =>
    cases s with
    | fr => exact k
    | sh d => exact .inr ⟨d, k⟩
    | _ => exact h.elim
  | sh d' =>
    cases s with
    | sh d => cases (show d = d' from h); exact k
    | _ => exact h.elim
  | pk d' =>
    cases s with
    | sh d => cases (show d = d' from h); exact .inl k
    | pk d => cases (show d = d' from h); exact k
    | od ds => cases (show d' = .list ds from h); exact .inr ⟨ds, rfl, k⟩
    | _ => exact h.elim
  | od ds' =>
    cases s with
    | od ds => cases (show ds = ds' from h); exact k
    | _ => exact h.elim
  | ow t' =>
    cases s with
    | ow t => cases (show t = t' from h); exact k
    | _ => exact h.elim
  | vl d' =>
    cases s with
    | sh d => cases (show d = d' from h); exact ⟨_, k, rfl⟩
    | od ds => cases (show d' = .list ds from h); exact ⟨_, k, by simp [T.val]⟩
    | vl d => cases (show d = d' from h); exact k
    | _ => exact h.elim
def Le : Cxt → Cxt → Prop
  | [], [] => True
  | a :: Γ, b :: Γ' => a.le b ∧ Le Γ Γ'
  | _, _ => False
theorem Sl.le_refl (s : Sl) : s.le s := by cases s <;> first | trivial | exact rfl
theorem Le.refl : ∀ Γ : Cxt, Le Γ Γ
  | [] => trivial
  | s :: Γ => ⟨s.le_refl, Le.refl Γ⟩
theorem Le.sat : ∀ {Γ Γ' : Cxt} {η : Pv.Env}, Le Γ Γ' → SatE Γ η → SatE Γ' η
  | [], [], η, _, k => k
  | a :: Γ, b :: Γ', [], h, k => k.elim
  | a :: Γ, b :: Γ', o :: η, h, k => ⟨h.1.sat k.1, Le.sat h.2 k.2⟩
  | [], b :: Γ', η, h, k => h.elim
  | a :: Γ, [], η, h, k => h.elim
/-- what a look at a slot gives -/
def Sl.look : Sl → Option PyData
  | .sh d => some d
  | .pk d => some d
  | .od ds => some (.list ds)
  | _ => none
def lk (Γ : Cxt) (i : Nat) : Option PyData := (Γ[i]?).bind Sl.look
def Sl.tree : Sl → Option T
  | .sh d => some (.sh d)
  | .od ds => some (.lst (ds.map T.sh))
  | .ow t => some t
  | _ => none
def tk (Γ : Cxt) (i : Nat) : Option T := (Γ[i]?).bind Sl.tree
theorem lk_pk {Γ : Cxt} {η : Pv.Env} {i : Nat} {d : PyData} (h : SatE Γ η) (e : lk Γ i = some d) : pk η i = some d := by
  unfold lk at e
  cases hs : Γ[i]? with
  | none => rw [hs] at e; cases e
  | some s =>
    rw [hs] at e
    obtain ⟨o, ho, k⟩ := h.get hs
    unfold pk
    rw [ho]
    cases s with
    | sh d' => cases e; cases (show o = _ from k); rfl
    | pk d' =>
      cases e
      rcases k with k | ⟨ds, rfl, k⟩
      · rw [k]; rfl
      · rw [k]; simp [pkD]
    | od ds => cases e; cases (show o = _ from k); simp [pkD]
    | _ => cases e
theorem tk_get {Γ : Cxt} {η : Pv.Env} {i : Nat} {t : T} (h : SatE Γ η) (e : tk Γ i = some t) : η[i]? = some (some t) := by
  unfold tk at e
  cases hs : Γ[i]? with
  | none => rw [hs] at e; cases e
  | some s =>
    rw [hs] at e
    obtain ⟨o, ho, k⟩ := h.get hs
    cases s with
    | sh d' => cases e; rw [ho, show o = _ from k]
    | od ds => cases e; rw [ho, show o = _ from k]
    | ow t' => cases e; rw [ho, show o = _ from k]
    | _ => cases e
/-! ### judgements -/
def EW (f : FE) (Γ : Cxt) (t : T) (Γ' : Cxt) : Prop := ∀ η, SatE Γ η → ∃ η', f η = .ok (t, η') ∧ SatE Γ' η'
def ED (f : FE) (Γ : Cxt) (d : PyData) (Γ' : Cxt) : Prop := ∀ η, SatE Γ η → ∃ t η', f η = .ok (t, η') ∧ t.val = d ∧ SatE Γ' η'
def BV (f : FB) (Γ : Cxt) (b : Bool) (Γ' : Cxt) : Prop := ∀ η, SatE Γ η → ∃ η', f η = .ok (b, η') ∧ SatE Γ' η'
def AV (f : FA) (Γ : Cxt) (ds : List PyData) (Γ' : Cxt) : Prop := ∀ η, SatE Γ η → ∃ ts η', f η = .ok (ts, η') ∧ T.vals ts = ds ∧ SatE Γ' η'
def AW (f : FA) (Γ : Cxt) (ts : List T) (Γ' : Cxt) : Prop := ∀ η, SatE Γ η → ∃ η', f η = .ok (ts, η') ∧ SatE Γ' η'
def IV (f : FI) (Γ : Cxt) (ds : List PyData) (Γ' : Cxt) : Prop := ∀ η, SatE Γ η → ∃ η', f η = .ok (ds, η') ∧ SatE Γ' η'
def OV (f : FO) (Γ : Cxt) (o : Option Int) (Γ' : Cxt) : Prop := ∀ η, SatE Γ η → ∃ η', f η = .ok (o, η') ∧ SatE Γ' η'
def GW (h : FG) (t : T) (Γ Γ' : Cxt) : Prop := ∀ η, SatE Γ η → ∃ η', h t η = .ok η' ∧ SatE Γ' η'
def GWs (h : FGs) (ds : List PyData) (Γ Γ' : Cxt) : Prop := ∀ η, SatE Γ η → ∃ η', h ds η = .ok η' ∧ SatE Γ' η'
def GWo (h : FGo) (ts : List T) (Γ Γ' : Cxt) : Prop := ∀ η, SatE Γ η → ∃ η', h ts η = .ok η' ∧ SatE Γ' η'
def S (f : FS) (Γ : Cxt) (P : Fl → Pv.Env → Prop) : Prop := ∀ η, SatE Γ η → ∃ fl η', f η = .ok (fl, η') ∧ P fl η'
def SV (f : FS) (Γ Γ' : Cxt) : Prop := ∀ η, SatE Γ η → ∃ η', f η = .ok (.nx, η') ∧ SatE Γ' η'
variable {Γ Γ1 Γ2 Γ3 Γ4 : Cxt} {f g h : FE} {d e d0 : PyData} {ds es : List PyData} {t u r : T} {i j : Nat} {op : PyData → PyData → Option T} {a b : Bool}
theorem EW.post (hf : EW f Γ t Γ1) (l : Le Γ1 Γ2) : EW f Γ t Γ2 := fun η k => by
  obtain ⟨η', e, q⟩ := hf η k
  exact ⟨η', e, l.sat q⟩
theorem EW.pre (l : Le Γ Γ1) (hf : EW f Γ1 t Γ2) : EW f Γ t Γ2 := fun η k => hf η (l.sat k)
theorem BV.post {c : FB} (hf : BV c Γ b Γ1) (l : Le Γ1 Γ2) : BV c Γ b Γ2 := fun η k => by
  obtain ⟨η', e, q⟩ := hf η k
  exact ⟨η', e, l.sat q⟩
theorem EW.dt (hf : EW f Γ t Γ1) (hv : t.val = d) : ED f Γ d Γ1 := fun η k => by
  obtain ⟨η', e, q⟩ := hf η k
  exact ⟨t, η', e, hv, q⟩
theorem EW.sh (hf : EW f Γ (.sh d) Γ1) : ED f Γ d Γ1 := hf.dt rfl
theorem EW.od (hf : EW f Γ (.lst (ds.map T.sh)) Γ1) : ED f Γ (.list ds) Γ1 := hf.dt (by simp [T.val])
/-! ### expressions -/
theorem ew_c : EW (eC d) Γ (.sh d) Γ := fun η k => ⟨η, rfl, k⟩
theorem ew_v (e : lk Γ i = some d) : EW (eV i) Γ (.sh d) (Γ.set i (.sh d)) := fun η h => by
  unfold lk at e
  cases hs : Γ[i]? with
  | none => rw [hs] at e; cases e
  | some s =>
    rw [hs] at e
    obtain ⟨o, ho, k⟩ := h.get hs
    have key : (o = some (.sh d) ∨ ∃ ds, d = .list ds ∧ o = some (.lst (ds.map T.sh))) := by
      cases s with
      | sh d' => cases e; exact .inl k
      | pk d' => cases e; exact k
      | od ds => cases e; exact .inr ⟨ds, rfl, k⟩
      | _ => cases e
    rcases key with rfl | ⟨ds, rfl, rfl⟩
    · refine ⟨η, by unfold eV; rw [ho], ?_⟩
      have := h.set (i := i) (s := .sh d) (o := some (.sh d)) rfl
      rw [set_self ho] at this
      exact this
    · refine ⟨η.set i (some (.sh (.list ds))), by unfold eV; rw [ho]; simp, h.set rfl⟩
theorem ew_vl (e : Γ[i]? = some (.vl d)) : EW (eV i) Γ (.sh d) (Γ.set i (.sh d)) := fun η h => by
  obtain ⟨o, ho, t, rfl, hv⟩ := h.get e
  subst hv
  cases t with
  | sh d' =>
    refine ⟨η, by unfold eV; rw [ho]; rfl, ?_⟩
    have := h.set (i := i) (s := .sh d') (o := some (.sh d')) rfl
    rw [set_self ho] at this
    exact this
  | lst ts =>
    exact ⟨η.set i (some (.sh (.list (T.vals ts)))), by unfold eV; rw [ho]; rfl, h.set rfl⟩
theorem ew_bin (hf : ED f Γ d Γ1) (hg : ED g Γ1 e Γ2) (ho : op d e = some r) : EW (eBin op f g) Γ r Γ2 := fun η k => by
  obtain ⟨t1, η1, e1, v1, k1⟩ := hf η k
  obtain ⟨t2, η2, e2, v2, k2⟩ := hg η1 k1
  refine ⟨η2, ?_, k2⟩
  unfold eBin
  rw [e1]
  simp only [Rs.bind_ok]
  rw [e2]
  simp only [Rs.bind_ok, v1, v2, ho, fin1]
theorem ew_binL (hg : ED g Γ e Γ1) (h0 : lk Γ i = some d0) (h1 : lk Γ1 i = some d) (ho : op d e = some r) : EW (eBinL' op i g) Γ r Γ1 := fun η k => by
  obtain ⟨t2, η2, e2, v2, k2⟩ := hg η k
  refine ⟨η2, ?_, k2⟩
  unfold eBinL' eBinL
  rw [lk_pk k h0]
  simp only [e2, Rs.bind_ok, lk_pk k2 h1, v2, ho, fin1]
theorem ew_binR (hf : ED f Γ d Γ1) (h1 : lk Γ1 j = some e) (ho : op d e = some r) : EW (eBinR op f j) Γ r Γ1 := fun η k => by
  obtain ⟨t2, η2, e2, v2, k2⟩ := hf η k
  refine ⟨η2, ?_, k2⟩
  unfold eBinR
  simp only [e2, Rs.bind_ok, lk_pk k2 h1, v2, ho, fin1]
theorem ew_binLR (h0 : lk Γ i = some d) (h1 : lk Γ j = some e) (ho : op d e = some r) : EW (eBinLR op i j) Γ r Γ := fun η k => by
  refine ⟨η, ?_, k⟩
  unfold eBinLR
  simp only [lk_pk k h0, lk_pk k h1, ho, fin1]
theorem bv_t (hf : EW f Γ (.sh (.bool b)) Γ1) : BV (bT f) Γ b Γ1 := fun η k => by
  obtain ⟨η1, e1, k1⟩ := hf η k
  refine ⟨η1, ?_, k1⟩
  unfold bT
  rw [e1]
  rfl
theorem bv_tru (hf : ED f Γ d Γ1) (ht : truth d = some b) : BV (bTru f) Γ b Γ1 := fun η k => by
  obtain ⟨t1, η1, e1, v1, k1⟩ := hf η k
  refine ⟨η1, ?_, k1⟩
  unfold bTru
  rw [e1]
  simp only [Rs.bind_ok, v1, ht]
theorem bv_true : BV bTrue Γ true Γ := fun η k => ⟨η, rfl, k⟩
section
variable {c c2 : FB}
theorem bv_and (hf : BV c Γ a Γ1) (hg : a = true → BV c2 Γ1 b Γ2) (l : Le Γ2 Γ1) : BV (bAnd c c2) Γ (a && b) Γ1 := fun η k => by
  obtain ⟨η1, e1, k1⟩ := hf η k
  unfold bAnd
  simp only [e1, Rs.bind_ok]
  cases a with
  | true =>
    obtain ⟨η2, e2, k2⟩ := hg rfl η1 k1
    exact ⟨η2, by simpa using e2, l.sat k2⟩
  | false => exact ⟨η1, rfl, k1⟩
theorem bv_or (hf : BV c Γ a Γ1) (hg : a = false → BV c2 Γ1 b Γ2) (l : Le Γ2 Γ1) : BV (bOr c c2) Γ (a || b) Γ1 := fun η k => by
  obtain ⟨η1, e1, k1⟩ := hf η k
  unfold bOr
  simp only [e1, Rs.bind_ok]
  cases a with
  | false =>
    obtain ⟨η2, e2, k2⟩ := hg rfl η1 k1
    exact ⟨η2, by simpa using e2, l.sat k2⟩
  | true => exact ⟨η1, rfl, k1⟩
theorem bv_not (hf : BV c Γ a Γ1) : BV (bNot c) Γ (!a) Γ1 := fun η k => by
  obtain ⟨η1, e1, k1⟩ := hf η k
  refine ⟨η1, ?_, k1⟩
  unfold bNot
  rw [e1]
  rfl
theorem ew_if {α : Type} {v1 v2 : α} (R : α → T) (hc : BV c Γ b Γ1) (hf : b = true → EW f Γ1 (R v1) Γ2) (hg : b = false → EW g Γ1 (R v2) Γ3) (l2 : Le Γ2 Γ1) (l3 : Le Γ3 Γ1) : EW (eIf c f g) Γ (R (if b = true then v1 else v2)) Γ1 := fun η k => by
  obtain ⟨η1, e1, k1⟩ := hc η k
  unfold eIf
  simp only [e1, Rs.bind_ok]
  cases b with
  | true =>
    obtain ⟨η2, e2, k2⟩ := hf rfl η1 k1
    exact ⟨η2, by simpa using e2, l2.sat k2⟩
  | false =>
    obtain ⟨η2, e2, k2⟩ := hg rfl η1 k1
    exact ⟨η2, by simpa using e2, l3.sat k2⟩
end
theorem ew_and (hf : EW f Γ (.sh (.bool a)) Γ1) (hg : a = true → EW g Γ1 (.sh (.bool b)) Γ2) (l : Le Γ2 Γ1) : EW (eAnd f g) Γ (.sh (.bool (a && b))) Γ1 := fun η k => by
  obtain ⟨η1, e1, k1⟩ := hf η k
  unfold eAnd
  simp only [e1, Rs.bind_ok]
  cases a with
  | true =>
    obtain ⟨η2, e2, k2⟩ := hg rfl η1 k1
    exact ⟨η2, by simpa using e2, l.sat k2⟩
  | false => exact ⟨η1, rfl, k1⟩
theorem ew_or (hf : EW f Γ (.sh (.bool a)) Γ1) (hg : a = false → EW g Γ1 (.sh (.bool b)) Γ2) (l : Le Γ2 Γ1) : EW (eOr f g) Γ (.sh (.bool (a || b))) Γ1 := fun η k => by
  obtain ⟨η1, e1, k1⟩ := hf η k
  unfold eOr
  simp only [e1, Rs.bind_ok]
  cases a with
  | false =>
    obtain ⟨η2, e2, k2⟩ := hg rfl η1 k1
    exact ⟨η2, by simpa using e2, l.sat k2⟩
  | true => exact ⟨η1, rfl, k1⟩
theorem ew_not (hf : EW f Γ (.sh (.bool a)) Γ1) : EW (eNotV f) Γ (.sh (.bool (!a))) Γ1 := fun η k => by
  obtain ⟨η1, e1, k1⟩ := hf η k
  refine ⟨η1, ?_, k1⟩
  unfold eNotV
  rw [e1]
  rfl
theorem ew_neg {x : Int} (hf : EW f Γ (.sh (.int x)) Γ1) : EW (eUn opNeg f) Γ (.sh (.int (-x))) Γ1 := fun η k => by
  obtain ⟨η1, e1, k1⟩ := hf η k
  refine ⟨η1, ?_, k1⟩
  unfold eUn
  rw [e1]
  rfl
theorem ew_chain {p1 p2 : Int → Int → Bool} {x y z : Int} (hf : EW f Γ (.sh (.int x)) Γ1) (hg : EW g Γ1 (.sh (.int y)) Γ2) (hh : p1 x y = true → EW h Γ2 (.sh (.int z)) Γ3) (l : Le Γ3 Γ2) : EW (eChain p1 p2 f g h) Γ (.sh (.bool (p1 x y && p2 y z))) Γ2 := fun η k => by
  obtain ⟨η1, e1, k1⟩ := hf η k
  obtain ⟨η2, e2, k2⟩ := hg η1 k1
  unfold eChain
  simp only [e1, e2, Rs.bind_ok]
  cases c : p1 x y with
  | true =>
    obtain ⟨η3, e3, k3⟩ := hh c η2 k2
    exact ⟨η3, by simp [e3], l.sat k3⟩
  | false => exact ⟨η2, by simp, k2⟩
/-! arguments -/
section
variable {ga : FA} {ts : List T} {opc : List PyData → Option T}
theorem av_nil : AV aNil Γ [] Γ := fun η k => ⟨[], η, rfl, rfl, k⟩
theorem av_cons (hf : ED f Γ d Γ1) (hg : AV ga Γ1 ds Γ2) : AV (aCons f ga) Γ (d :: ds) Γ2 := fun η k => by
  obtain ⟨t1, η1, e1, v1, k1⟩ := hf η k
  obtain ⟨t2, η2, e2, v2, k2⟩ := hg η1 k1
  refine ⟨t1 :: t2, η2, ?_, by simp [T.vals, v1, v2], k2⟩
  unfold aCons
  simp only [e1, e2, Rs.bind_ok]
theorem aw_nil : AW aNil Γ [] Γ := fun η k => ⟨η, rfl, k⟩
theorem aw_cons (hf : EW f Γ t Γ1) (hg : AW ga Γ1 ts Γ2) : AW (aCons f ga) Γ (t :: ts) Γ2 := fun η k => by
  obtain ⟨η1, e1, k1⟩ := hf η k
  obtain ⟨η2, e2, k2⟩ := hg η1 k1
  refine ⟨η2, ?_, k2⟩
  unfold aCons
  simp only [e1, e2, Rs.bind_ok]
theorem vals_len : ∀ ts : List T, (T.vals ts).length = ts.length
  | [] => rfl
  | t :: ts => by simp [T.vals, vals_len ts]
theorem ew_tup (hg : AV ga Γ ds Γ1) (hl : fits ds.length = true := by rfl) : EW (eTup ga) Γ (.sh (.tuple ds)) Γ1 := fun η k => by
  obtain ⟨t2, η2, e2, v2, k2⟩ := hg η k
  refine ⟨η2, ?_, k2⟩
  unfold eTup
  have : fits t2.length = true := by rw [← vals_len, v2]; exact hl
  simp only [e2, Rs.bind_ok, this, if_pos, v2]
theorem ew_lst (hg : AW ga Γ ts Γ1) (hl : fits ts.length = true := by rfl) : EW (eLst ga) Γ (.lst ts) Γ1 := fun η k => by
  obtain ⟨η2, e2, k2⟩ := hg η k
  refine ⟨η2, ?_, k2⟩
  unfold eLst
  simp only [e2, Rs.bind_ok, hl, if_pos]
theorem ed_lst (hg : AV ga Γ ds Γ1) (hl : fits ds.length = true := by rfl) : ED (eLst ga) Γ (.list ds) Γ1 := fun η k => by
  obtain ⟨t2, η2, e2, v2, k2⟩ := hg η k
  refine ⟨.lst t2, η2, ?_, by rw [← v2]; rfl, k2⟩
  unfold eLst
  have : fits t2.length = true := by rw [← vals_len, v2]; exact hl
  simp only [e2, Rs.bind_ok, this, if_pos]
theorem ew_call (hg : AV ga Γ ds Γ1) (ho : opc ds = some r) : EW (eCall opc ga) Γ r Γ1 := fun η k => by
  obtain ⟨t2, η2, e2, v2, k2⟩ := hg η k
  refine ⟨η2, ?_, k2⟩
  unfold eCall
  simp only [e2, Rs.bind_ok, v2, ho, fin1]
theorem ew_callV (h0 : lk Γ i = some d) (ho : opc [d] = some r) : EW (eCallV opc i) Γ r Γ := fun η k => by
  refine ⟨η, ?_, k⟩
  unfold eCallV
  simp only [lk_pk k h0, ho, fin1]
theorem ew_def {G : List PyData → Option T} (hg : AV ga Γ ds Γ1) (ho : G ds = some r) : EW (eDef G ga) Γ r Γ1 := fun η k => by
  obtain ⟨t2, η2, e2, v2, k2⟩ := hg η k
  refine ⟨η2, ?_, k2⟩
  unfold eDef
  simp only [e2, Rs.bind_ok, v2, ho, fin1]
theorem ew_defIO {G : T → List PyData → Option (T × T)} {t0 t1 t00 : T} (hg : AV ga Γ ds Γ1) (h0 : tk Γ i = some t00) (h1 : tk Γ1 i = some t0) (ho : G t0 ds = some (r, t1)) : EW (eDefIO G i ga) Γ r (Γ1.set i (.ow t1)) := fun η k => by
  obtain ⟨t2, η2, e2, v2, k2⟩ := hg η k
  refine ⟨η2.set i (some t1), ?_, k2.set rfl⟩
  unfold eDefIO
  rw [tk_get k h0]
  simp only [e2, Rs.bind_ok, tk_get k2 h1, v2, ho]
end
section
variable {lo hi : FO} {x y : Option Int}
theorem ov_none : OV oNone Γ none Γ := fun η k => ⟨η, rfl, k⟩
theorem ov_some {z : Int} (hf : EW f Γ (.sh (.int z)) Γ1) : OV (oSome f) Γ (some z) Γ1 := fun η k => by
  obtain ⟨η1, e1, k1⟩ := hf η k
  refine ⟨η1, ?_, k1⟩
  unfold oSome
  rw [e1]
  rfl
theorem ew_sl (hf : ED f Γ d Γ1) (h1 : OV lo Γ1 x Γ2) (h2 : OV hi Γ2 y Γ3) (ho : opSl d x y = some r) : EW (eSl f lo hi) Γ r Γ3 := fun η k => by
  obtain ⟨t1, η1, e1, v1, k1⟩ := hf η k
  obtain ⟨η2, e2, k2⟩ := h1 η1 k1
  obtain ⟨η3, e3, k3⟩ := h2 η2 k2
  refine ⟨η3, ?_, k3⟩
  unfold eSl
  simp only [e1, e2, e3, Rs.bind_ok, v1, ho, fin1]
theorem ew_slV (h0 : lk Γ i = some d0) (h1 : OV lo Γ x Γ1) (h2 : OV hi Γ1 y Γ2) (h3 : lk Γ2 i = some d) (ho : opSl d x y = some r) : EW (eSlV i lo hi) Γ r Γ2 := fun η k => by
  obtain ⟨η2, e2, k2⟩ := h1 η k
  obtain ⟨η3, e3, k3⟩ := h2 η2 k2
  refine ⟨η3, ?_, k3⟩
  unfold eSlV
  simp only [lk_pk k h0, e2, e3, Rs.bind_ok, lk_pk k3 h3, ho, fin1]
end
theorem ew_isV {tys : List Ty} (h0 : lk Γ i = some d) (hb : (tys.any fun t => isI t d) = b) : EW (eIsV tys i) Γ (.sh (.bool b)) Γ := fun η k => by
  refine ⟨η, ?_, k⟩
  unfold eIsV
  simp only [lk_pk k h0, hb]
theorem ew_is {tys : List Ty} (hf : ED f Γ d Γ1) (hb : (tys.any fun t => isI t d) = b) : EW (eIs tys f) Γ (.sh (.bool b)) Γ1 := fun η k => by
  obtain ⟨t1, η1, e1, v1, k1⟩ := hf η k
  refine ⟨η1, ?_, k1⟩
  unfold eIs
  simp only [e1, Rs.bind_ok, v1, hb]
theorem ew_lstRg1 {x : Int} (hf : EW f Γ (.sh (.int x)) Γ1) (hx : 0 ≤ x ∧ x ≤ 16777216) : EW (eLstRg1 f) Γ (.lst ((rgD 0 x).map T.sh)) Γ1 := fun η k => by
  obtain ⟨η1, e1, k1⟩ := hf η k
  refine ⟨η1, ?_, k1⟩
  unfold eLstRg1 rgOk
  simp [e1, hx.1, hx.2]
theorem ew_tupRg1 {x : Int} (hf : EW f Γ (.sh (.int x)) Γ1) (hx : 0 ≤ x ∧ x ≤ 16777216) : EW (eTupRg1 f) Γ (.sh (.tuple (rgD 0 x))) Γ1 := fun η k => by
  obtain ⟨η1, e1, k1⟩ := hf η k
  refine ⟨η1, ?_, k1⟩
  unfold eTupRg1 rgOk
  simp [e1, hx.1, hx.2]
theorem own_tk {η : Pv.Env} {us : List T} (k : SatE Γ η) (h0 : tk Γ i = some (.lst us)) : own η i = some us := by
  unfold own
  rw [tk_get k h0]
theorem ew_mt1 {opm : List T → T → Option (List T × T)} {us us0 us1 : List T} {s : Sl} (h0 : tk Γ i = some (.lst us0)) (hf : EW f Γ t Γ1) (h1 : tk Γ1 i = some (.lst us)) (ho : opm us t = some (us1, r)) (hs : s.Sat (some (.lst us1))) : EW (eMt1 opm i f) Γ r (Γ1.set i s) := fun η k => by
  obtain ⟨η1, e1, k1⟩ := hf η k
  refine ⟨η1.set i (some (.lst us1)), ?_, k1.set hs⟩
  unfold eMt1 setL
  simp only [own_tk k h0, e1, Rs.bind_ok, own_tk k1 h1, ho]
theorem ew_mt0 {opm : List T → Option (List T × T)} {us us1 : List T} {s : Sl} (h0 : tk Γ i = some (.lst us)) (ho : opm us = some (us1, r)) (hs : s.Sat (some (.lst us1))) : EW (eMt0 opm i) Γ r (Γ.set i s) := fun η k => by
  refine ⟨η.set i (some (.lst us1)), ?_, k.set hs⟩
  unfold eMt0 setL
  simp only [own_tk k h0, ho]
theorem ew_mq {opq : List PyData → PyData → Option T} (hf : ED f Γ (.list ds) Γ1) (hg : ED g Γ1 d Γ2) (ho : opq ds d = some r) : EW (eMq opq f g) Γ r Γ2 := fun η k => by
  obtain ⟨t1, η1, e1, v1, k1⟩ := hf η k
  obtain ⟨t2, η2, e2, v2, k2⟩ := hg η1 k1
  refine ⟨η2, ?_, k2⟩
  unfold eMq
  simp only [e1, e2, Rs.bind_ok, v1, v2, ho, fin1]
theorem ew_revL (hf : ED f Γ (.list ds) Γ1) : EW (eRevL f) Γ (.lst (ds.reverse.map T.sh)) Γ1 := fun η k => by
  obtain ⟨t1, η1, e1, v1, k1⟩ := hf η k
  refine ⟨η1, ?_, k1⟩
  unfold eRevL
  simp only [e1, Rs.bind_ok, v1]
/-! what is gone through -/
theorem iv_e (hf : ED f Γ d Γ1) (hs : seqOf d = some ds) : IV (iE f) Γ ds Γ1 := fun η k => by
  obtain ⟨t1, η1, e1, v1, k1⟩ := hf η k
  refine ⟨η1, ?_, k1⟩
  unfold iE
  simp only [e1, Rs.bind_ok, v1, hs]
theorem iv_r1 {x : Int} (hf : EW f Γ (.sh (.int x)) Γ1) (hx : rg62 x = true) : IV (iR1 f) Γ (rgD 0 x) Γ1 := fun η k => by
  obtain ⟨η1, e1, k1⟩ := hf η k
  refine ⟨η1, ?_, k1⟩
  unfold iR1
  simp only [e1, Rs.bind_ok, hx, if_pos]
theorem iv_r2 {x y : Int} (hf : EW f Γ (.sh (.int x)) Γ1) (hg : EW g Γ1 (.sh (.int y)) Γ2) (hx : rg62 x = true ∧ rg62 y = true) : IV (iR2 f g) Γ (rgD x y) Γ2 := fun η k => by
  obtain ⟨η1, e1, k1⟩ := hf η k
  obtain ⟨η2, e2, k2⟩ := hg η1 k1
  refine ⟨η2, ?_, k2⟩
  unfold iR2
  simp only [e1, e2, Rs.bind_ok, hx.1, hx.2, Bool.and_self, if_pos]
theorem iv_en (hf : ED f Γ d Γ1) (hs : seqOf d = some ds) : IV (iEn f) Γ (enumD 0 ds) Γ1 := fun η k => by
  obtain ⟨t1, η1, e1, v1, k1⟩ := hf η k
  refine ⟨η1, ?_, k1⟩
  unfold iEn
  simp only [e1, Rs.bind_ok, v1, hs]
theorem iv_z (hf : ED f Γ d Γ1) (hg : ED g Γ1 e Γ2) (hs : seqOf d = some ds) (hs2 : seqOf e = some es) : IV (iZ f g) Γ (zipD ds es) Γ2 := fun η k => by
  obtain ⟨t1, η1, e1, v1, k1⟩ := hf η k
  obtain ⟨t2, η2, e2, v2, k2⟩ := hg η1 k1
  refine ⟨η2, ?_, k2⟩
  unfold iZ
  simp only [e1, e2, Rs.bind_ok, v1, v2, hs, hs2]
theorem iv_z3 {d3 : PyData} {fs : List PyData} (hf : ED f Γ d Γ1) (hg : ED g Γ1 e Γ2) (hh : ED h Γ2 d3 Γ3) (hs : seqOf d = some ds) (hs2 : seqOf e = some es) (hs3 : seqOf d3 = some fs) : IV (iZ3 f g h) Γ (zip3D ds es fs) Γ3 := fun η k => by
  obtain ⟨t1, η1, e1, v1, k1⟩ := hf η k
  obtain ⟨t2, η2, e2, v2, k2⟩ := hg η1 k1
  obtain ⟨t3, η3, e3, v3, k3⟩ := hh η2 k2
  refine ⟨η3, ?_, k3⟩
  unfold iZ3
  simp only [e1, e2, e3, Rs.bind_ok, v1, v2, v3, hs, hs2, hs3]
theorem IV.as {fi : FI} (hi : IV fi Γ ds Γ1) (he : ds = es) : IV fi Γ es Γ1 := he ▸ hi
/-! targets -/
theorem gw_n {s : Sl} (hs : s.Sat (some t)) : GW (gN i) t Γ (Γ.set i s) := fun η k => ⟨η.set i (some t), rfl, k.set hs⟩
theorem gws_nil : GWs gsNil [] Γ Γ := fun η k => ⟨η, rfl, k⟩
theorem gws_cons {hh : FG} {hs : FGs} (h1 : GW hh (.sh d) Γ Γ1) (h2 : GWs hs ds Γ1 Γ2) : GWs (gsCons hh hs) (d :: ds) Γ Γ2 := fun η k => by
  obtain ⟨η1, e1, k1⟩ := h1 η k
  obtain ⟨η2, e2, k2⟩ := h2 η1 k1
  refine ⟨η2, ?_, k2⟩
  unfold gsCons
  simp only [e1, Rs.bind_ok, e2]
theorem gw_tup {n : Nat} {hs : FGs} (h2 : GWs hs ds Γ Γ1) (hv : t.val = .tuple ds) (hl : ds.length = n) : GW (gTupD n hs) t Γ Γ1 := fun η k => by
  obtain ⟨η2, e2, k2⟩ := h2 η k
  refine ⟨η2, ?_, k2⟩
  unfold gTupD
  simp only [hv, hl, if_pos, e2]
theorem gwo_nil : GWo goNil [] Γ Γ := fun η k => ⟨η, rfl, k⟩
theorem gwo_cons {hh : FG} {hs : FGo} {ts : List T} (h1 : GW hh t Γ Γ1) (h2 : GWo hs ts Γ1 Γ2) : GWo (goCons hh hs) (t :: ts) Γ Γ2 := fun η k => by
  obtain ⟨η1, e1, k1⟩ := h1 η k
  obtain ⟨η2, e2, k2⟩ := h2 η1 k1
  refine ⟨η2, ?_, k2⟩
  unfold goCons
  simp only [e1, Rs.bind_ok, e2]
theorem gw_sub {us us0 : List T} {z : Int} {n : Nat} {s : Sl} (h0 : tk Γ i = some (.lst us0)) (hf : EW f Γ (.sh (.int z)) Γ1) (h1 : tk Γ1 i = some (.lst us)) (hn : ixN us.length z = some n) (hs : s.Sat (some (.lst (us.set n t)))) : GW (Pv.gSub i f) t Γ (Γ1.set i s) := fun η k => by
  obtain ⟨η1, e1, k1⟩ := hf η k
  refine ⟨η1.set i (some (.lst (us.set n t))), ?_, k1.set hs⟩
  unfold Pv.gSub setL
  simp only [own_tk k h0, e1, Rs.bind_ok, own_tk k1 h1, hn]
/-! ### statements -/
section
variable {p q : FS} {P Q : Fl → Pv.Env → Prop} {c : FB} {hh : FG}
theorem sv_nil : SV sNil Γ Γ := fun η k => ⟨η, rfl, k⟩
theorem SV.post (hp : SV p Γ Γ1) (l : Le Γ1 Γ2) : SV p Γ Γ2 := fun η k => by
  obtain ⟨η', e, z⟩ := hp η k
  exact ⟨η', e, l.sat z⟩
theorem SV.pre (l : Le Γ Γ1) (hp : SV p Γ1 Γ2) : SV p Γ Γ2 := fun η k => hp η (l.sat k)
theorem S.pre (l : Le Γ Γ1) (hp : S p Γ1 P) : S p Γ P := fun η k => hp η (l.sat k)
theorem sv_seq (hp : SV p Γ Γ1) (hq : SV q Γ1 Γ2) : SV (sSeq p q) Γ Γ2 := fun η k => by
  obtain ⟨η1, e1, k1⟩ := hp η k
  obtain ⟨η2, e2, k2⟩ := hq η1 k1
  refine ⟨η2, ?_, k2⟩
  unfold sSeq
  simp only [e1, Rs.bind_ok, e2]
theorem s_seq (hp : SV p Γ Γ1) (hq : S q Γ1 P) : S (sSeq p q) Γ P := fun η k => by
  obtain ⟨η1, e1, k1⟩ := hp η k
  obtain ⟨fl, η2, e2, k2⟩ := hq η1 k1
  refine ⟨fl, η2, ?_, k2⟩
  unfold sSeq
  simp only [e1, Rs.bind_ok, e2]
theorem s_of (hp : SV p Γ Γ1) (h : ∀ η, SatE Γ1 η → P .nx η) : S p Γ P := fun η k => by
  obtain ⟨η1, e1, k1⟩ := hp η k
  exact ⟨_, η1, e1, h _ k1⟩
theorem sv_asg (hf : EW f Γ t Γ1) (hg : GW hh t Γ1 Γ2) : SV (sAsg f hh) Γ Γ2 := fun η k => by
  obtain ⟨η1, e1, k1⟩ := hf η k
  obtain ⟨η2, e2, k2⟩ := hg η1 k1
  refine ⟨η2, ?_, k2⟩
  unfold sAsg
  simp only [e1, Rs.bind_ok, e2]
variable {g0 : FE}
theorem sv_asgD (hf : ED f Γ d Γ1) : SV (sAsg f (gN i)) Γ (Γ1.set i (.vl d)) := fun η k => by
  obtain ⟨t, η1, e1, hv, k1⟩ := hf η k
  refine ⟨η1.set i (some t), ?_, k1.set ⟨t, rfl, hv⟩⟩
  unfold sAsg
  simp only [e1, Rs.bind_ok, gN]
theorem s_retD (hf : ED f Γ d Γ1) (hp : ∀ t η, t.val = d → SatE Γ1 η → P (.ret t) η) : S (sRet f) Γ P := fun η k => by
  obtain ⟨t, η1, e1, hv, k1⟩ := hf η k
  refine ⟨_, η1, ?_, hp _ _ hv k1⟩
  unfold sRet
  simp only [e1, Rs.bind_ok]
theorem ed_defIO {G : T → List PyData → Option (T × T)} {ga : FA} {t0 t1 t00 : T} (hg : AV ga Γ ds Γ1) (h0 : tk Γ i = some t00) (h1 : tk Γ1 i = some t0) (ho : ∃ tr, G t0 ds = some (tr, t1) ∧ tr.val = d) : ED (eDefIO G i ga) Γ d (Γ1.set i (.ow t1)) := fun η k => by
  obtain ⟨tr, ho, hv⟩ := ho
  obtain ⟨t2, η2, e2, v2, k2⟩ := hg η k
  refine ⟨tr, η2.set i (some t1), ?_, hv, k2.set rfl⟩
  unfold eDefIO
  rw [tk_get k h0]
  simp only [e2, Rs.bind_ok, tk_get k2 h1, v2, ho]
theorem ed_def {G : List PyData → Option T} {ga : FA} (hg : AV ga Γ ds Γ1) (ho : ∃ tr, G ds = some tr ∧ tr.val = d) : ED (eDef G ga) Γ d Γ1 := fun η k => by
  obtain ⟨tr, ho, hv⟩ := ho
  obtain ⟨t2, η2, e2, v2, k2⟩ := hg η k
  refine ⟨tr, η2, ?_, hv, k2⟩
  unfold eDef
  simp only [e2, Rs.bind_ok, v2, ho, fin1]
theorem ED.as {d' : PyData} (h : ED f Γ d Γ1) (q : d = d') : ED f Γ d' Γ1 := q ▸ h
theorem ew_ifS {σ : Type} {x y : σ} (G : σ → Cxt) (R : σ → T) (hc : BV c Γ b Γ1) (hf : b = true → EW f Γ1 (R x) Γ2) (hg : b = false → EW g Γ1 (R y) Γ3) (l2 : Le Γ2 (G x)) (l3 : Le Γ3 (G y)) : EW (eIf c f g) Γ (R (if b = true then x else y)) (G (if b = true then x else y)) := fun η k => by
  obtain ⟨η1, e1, k1⟩ := hc η k
  unfold eIf
  simp only [e1, Rs.bind_ok]
  cases b with
  | true =>
    obtain ⟨η2, e2, k2⟩ := hf rfl η1 k1
    exact ⟨η2, by simpa using e2, l2.sat k2⟩
  | false =>
    obtain ⟨η2, e2, k2⟩ := hg rfl η1 k1
    exact ⟨η2, by simpa using e2, l3.sat k2⟩
theorem ew_dct1 {k : Key} (h : lk Γ i = some d) : EW (eDct1 k i) Γ (.sh (.dict [(keyD k, d)])) (Γ.set i (.sh d)) := fun η q => by
  obtain ⟨η1, e1, k1⟩ := ew_v h η q
  refine ⟨η1, ?_, k1⟩
  unfold eDct1
  simp only [e1, Rs.bind_ok]
  rfl
theorem ew_revS {d : PyData} (hf : ED f Γ d Γ1) (ho : (match d with
    | .list ds => some (.lst (ds.reverse.map T.sh))
    | .tuple ds => some (.sh (.tuple ds.reverse))
    | _ => none) = some r) : EW (eRevS f) Γ r Γ1 := fun η k => by
  obtain ⟨t1, η1, e1, v1, k1⟩ := hf η k
  refine ⟨η1, ?_, k1⟩
  unfold eRevS
  simp only [e1, Rs.bind_ok, v1]
  revert ho
  split <;> intro ho <;> cases ho <;> rfl
theorem sv_expr (hf : EW f Γ t Γ1) : SV (sExpr f) Γ Γ1 := fun η k => by
  obtain ⟨η1, e1, k1⟩ := hf η k
  refine ⟨η1, ?_, k1⟩
  unfold sExpr
  simp only [e1, Rs.bind_ok]
theorem sv_par {ga : FA} {s1 s2 : Sl} (hf : AW ga Γ [t, u] Γ1) (h1 : s1.Sat (some t)) (h2 : s2.Sat (some u)) : SV (sPar i j ga) Γ ((Γ1.set i s1).set j s2) := fun η k => by
  obtain ⟨η1, e1, k1⟩ := hf η k
  refine ⟨(η1.set i (some t)).set j (some u), ?_, (k1.set h1).set h2⟩
  unfold sPar
  simp only [e1, Rs.bind_ok]
theorem sv_mul {ga : FA} {n : Nat} {ts : List T} {hs : FGo} (hf : AW ga Γ ts Γ1) (hg : GWo hs ts Γ1 Γ2) (hn : ts.length = n) (hn2 : n ≤ 1000) : SV (sMul n ga hs) Γ Γ2 := fun η k => by
  obtain ⟨η1, e1, k1⟩ := hf η k
  obtain ⟨η2, e2, k2⟩ := hg η1 k1
  refine ⟨η2, ?_, k2⟩
  unfold sMul
  simp only [e1, Rs.bind_ok, hn, hn2, and_self, if_pos, e2]
theorem sv_if {σ : Type} {x y : σ} (G : σ → Cxt) (hc : BV c Γ b Γ1) (hp : b = true → SV p Γ1 Γ2) (hq : b = false → SV q Γ1 Γ3) (l2 : Le Γ2 (G x)) (l3 : Le Γ3 (G y)) : SV (sIf c p q) Γ (G (if b = true then x else y)) := fun η k => by
  obtain ⟨η1, e1, k1⟩ := hc η k
  unfold sIf
  simp only [e1, Rs.bind_ok]
  cases b with
  | true =>
    obtain ⟨η2, e2, k2⟩ := hp rfl η1 k1
    exact ⟨η2, by simpa using e2, l2.sat k2⟩
  | false =>
    obtain ⟨η2, e2, k2⟩ := hq rfl η1 k1
    exact ⟨η2, by simpa using e2, l3.sat k2⟩
theorem s_if {ρ : Type} {x y : ρ} (M : ρ → Fl → Pv.Env → Prop) (hc : BV c Γ b Γ1) (hp : b = true → S p Γ1 (M x)) (hq : b = false → S q Γ1 (M y)) : S (sIf c p q) Γ (M (if b = true then x else y)) := fun η k => by
  obtain ⟨η1, e1, k1⟩ := hc η k
  unfold sIf
  simp only [e1, Rs.bind_ok]
  cases b with
  | true =>
    obtain ⟨fl, η2, e2, k2⟩ := hp rfl η1 k1
    exact ⟨fl, η2, by simpa using e2, k2⟩
  | false =>
    obtain ⟨fl, η2, e2, k2⟩ := hq rfl η1 k1
    exact ⟨fl, η2, by simpa using e2, k2⟩
theorem s_ifseq {ρ : Type} {x y : ρ} {w : FS} (M : ρ → Fl → Pv.Env → Prop) (hc : BV c Γ b Γ1) (hp : b = true → S (sSeq p w) Γ1 (M x)) (hq : b = false → S (sSeq q w) Γ1 (M y)) : S (sSeq (sIf c p q) w) Γ (M (if b = true then x else y)) := fun η k => by
  obtain ⟨η1, e1, k1⟩ := hc η k
  unfold sSeq sIf
  simp only [e1, Rs.bind_ok]
  cases b with
  | true =>
    obtain ⟨fl, η2, e2, k2⟩ := hp rfl η1 k1
    exact ⟨fl, η2, by simpa using e2, k2⟩
  | false =>
    obtain ⟨fl, η2, e2, k2⟩ := hq rfl η1 k1
    exact ⟨fl, η2, by simpa using e2, k2⟩
theorem s_nilseq (hq : S q Γ P) : S (sSeq sNil q) Γ P := fun η k => by
  obtain ⟨fl, η2, e2, k2⟩ := hq η k
  exact ⟨fl, η2, e2, k2⟩
theorem s_assoc {w : FS} (hq : S (sSeq p (sSeq q w)) Γ P) : S (sSeq (sSeq p q) w) Γ P := fun η k => by
  obtain ⟨fl, η2, e2, k2⟩ := hq η k
  refine ⟨fl, η2, ?_, k2⟩
  rw [← e2]
  unfold sSeq
  cases h1 : p η with
  | ok r =>
    obtain ⟨fl1, η1⟩ := r
    cases fl1 <;> rfl
  | exc _ _ => rfl
  | bad => rfl
/-- a statement that does not go on -/
theorem s_stop (hp : S p Γ fun fl η => fl ≠ .nx ∧ P fl η) : S (sSeq p q) Γ P := fun η k => by
  obtain ⟨fl, η1, e1, n, k1⟩ := hp η k
  refine ⟨fl, η1, ?_, k1⟩
  unfold sSeq
  simp only [e1, Rs.bind_ok]
theorem s_ret (hf : EW f Γ t Γ1) (hp : ∀ η, SatE Γ1 η → P (.ret t) η) : S (sRet f) Γ P := fun η k => by
  obtain ⟨η1, e1, k1⟩ := hf η k
  refine ⟨_, η1, ?_, hp _ k1⟩
  unfold sRet
  simp only [e1, Rs.bind_ok]
theorem s_retV (h0 : tk Γ i = some t) (hp : ∀ η, SatE (Γ.set i .fr) η → P (.ret t) η) : S (sRetV i) Γ P := fun η k => by
  refine ⟨.ret t, η.set i none, ?_, hp _ (k.set (.inl rfl))⟩
  unfold sRetV
  rw [tk_get k h0]
theorem s_retN (hp : ∀ η, SatE Γ η → P (.ret (.sh .none)) η) : S sRetN Γ P := fun η k => ⟨_, η, rfl, hp _ k⟩
theorem s_bk (hp : ∀ η, SatE Γ η → P .bk η) : S sBreak Γ P := fun η k => ⟨_, η, rfl, hp _ k⟩
theorem s_ct (hp : ∀ η, SatE Γ η → P .ct η) : S sCont Γ P := fun η k => ⟨_, η, rfl, hp _ k⟩
end
end Tv
set_option Elab.async false
set_option linter.all false
set_option maxRecDepth 100000
set_option maxHeartbeats 4000000
namespace Tv
open PySem L2 Pv
/-! ### loops -/
def WFold {σ α : Type} (step : σ → α → σ) (W : σ → α → Prop) : σ → List α → Prop
  | _, [] => True
  | s, x :: l => W s x ∧ WFold step W (step s x) l
/-- one turn ends -/
inductive Lp (σ ρ : Type) where
  | nx (s : σ)
  | bk (s : σ)
  | ret (r : ρ)
def foldL {σ α ρ : Type} (step : σ → α → Lp σ ρ) : σ → List α → Except ρ σ
  | s, [] => .ok s
  | s, x :: l => match step s x with
    | .nx s' => foldL step s' l
    | .bk s' => .ok s'
    | .ret r => .error r
def WFoldL {σ α ρ : Type} (step : σ → α → Lp σ ρ) (W : σ → α → Prop) : σ → List α → Prop
  | _, [] => True
  | s, x :: l => W s x ∧ match step s x with
    | .nx s' => WFoldL step W s' l
    | _ => True
def LpP {σ ρ : Type} (G : σ → Cxt) (R : ρ → Pv.Env → T → Prop) : Lp σ ρ → Fl → Pv.Env → Prop
  | .nx s, fl, η => (fl = .nx ∨ fl = .ct) ∧ SatE (G s) η
  | .bk s, fl, η => fl = .bk ∧ SatE (G s) η
  | .ret r, fl, η => ∃ t, fl = .ret t ∧ R r η t
def ExP {σ ρ : Type} (G : σ → Cxt) (R : ρ → Pv.Env → T → Prop) : Except ρ σ → Fl → Pv.Env → Prop
  | .ok s, fl, η => fl = .nx ∧ SatE (G s) η
  | .error r, fl, η => ∃ t, fl = .ret t ∧ R r η t
/-- a turn: the target is set, the body is run -/
def Turn (tgt : FG) (body : FS) (Γ : Cxt) (d : PyData) (P : Fl → Pv.Env → Prop) : Prop := ∀ η, SatE Γ η → ∃ η1 fl η2, tgt (.sh d) η = .ok η1 ∧ body η1 = .ok (fl, η2) ∧ P fl η2
section
variable {σ α ρ : Type} {tgt : FG} {body : FS} {Γ Γ0 Γ1 Γ2 Γ3 : Cxt} {d d0 : PyData} {P : Fl → Pv.Env → Prop} {fi : FI} {j : Nat} {e : α → PyData} {l : List α} {G : σ → Cxt} {s0 : σ} {R : ρ → Pv.Env → T → Prop}
theorem turn (hg : GW tgt (.sh d) Γ Γ1) (hb : S body Γ1 P) : Turn tgt body Γ d P := fun η k => by
  obtain ⟨η1, e1, k1⟩ := hg η k
  obtain ⟨fl, η2, e2, k2⟩ := hb η1 k1
  exact ⟨η1, fl, η2, e1, e2, k2⟩
theorem loop_all {step : σ → α → σ} {W : σ → α → Prop} {chk : Pv.Env → Bool} (hc : ∀ s η, SatE (G s) η → chk η = true) (hb : ∀ s x, W s x → Turn tgt body (G s) (e x) fun fl η => (fl = .nx ∨ fl = .ct) ∧ SatE (G (step s x)) η) :
    ∀ {l : List α} {s : σ} {η : Pv.Env}, WFold step W s l → SatE (G s) η → ∃ η', loopF chk tgt body (l.map e) η = .ok (.nx, η') ∧ SatE (G (l.foldl step s)) η'
  | [], s, η, _, k => ⟨η, rfl, k⟩
  | x :: l, s, η, hw, k => by
    obtain ⟨η1, fl, η2, e1, e2, hf, k2⟩ := hb s x hw.1 η k
    obtain ⟨η', e3, k3⟩ := loop_all hc hb (l := l) hw.2 k2
    refine ⟨η', ?_, k3⟩
    rw [List.map_cons]
    unfold loopF
    rw [e1]
    simp only [Rs.bind_ok]
    rw [e2]
    simp only [Rs.bind_ok]
    rcases hf with rfl | rfl <;> simp only [hc _ _ k2, if_pos, e3]
theorem sv_for {step : σ → α → σ} {W : σ → α → Prop} (hi : IV fi Γ (l.map e) Γ1) (h0 : Le Γ1 (G s0)) (hw : WFold step W s0 l)
    (hb : ∀ s x, W s x → Turn tgt body (G s) (e x) fun fl η => (fl = .nx ∨ fl = .ct) ∧ SatE (G (step s x)) η) : SV (sFor fi tgt body) Γ (G (l.foldl step s0)) := fun η k => by
  obtain ⟨η1, e1, k1⟩ := hi η k
  obtain ⟨η', e2, k2⟩ := loop_all (chk := fun _ => true) (fun _ _ _ => rfl) hb hw (h0.sat k1)
  refine ⟨η', ?_, k2⟩
  unfold sFor
  simp only [e1, Rs.bind_ok, e2]
theorem sv_forV {step : σ → α → σ} {W : σ → α → Prop} (h : lk Γ j = some d0) (hs : seqOf d0 = some (l.map e)) (h1 : ∀ s, lk (G s) j = some d0) (h0 : Le Γ (G s0)) (hw : WFold step W s0 l)
    (hb : ∀ s x, W s x → Turn tgt body (G s) (e x) fun fl η => (fl = .nx ∨ fl = .ct) ∧ SatE (G (step s x)) η) : SV (sForV j tgt body) Γ (G (l.foldl step s0)) := fun η k => by
  obtain ⟨η', e2, k2⟩ := loop_all (chk := pkIs j d0) (fun s η k => pkIs_of (lk_pk k (h1 s))) hb hw (h0.sat k)
  refine ⟨η', ?_, k2⟩
  unfold sForV
  simp only [lk_pk k h, hs, e2]
theorem loop_allL {step : σ → α → Lp σ ρ} {W : σ → α → Prop} {chk : Pv.Env → Bool} (hc : ∀ s η, SatE (G s) η → chk η = true) (hb : ∀ s x, W s x → Turn tgt body (G s) (e x) (LpP G R (step s x))) :
    ∀ {l : List α} {s : σ} {η : Pv.Env}, WFoldL step W s l → SatE (G s) η → ∃ fl η', loopF chk tgt body (l.map e) η = .ok (fl, η') ∧ ExP G R (foldL step s l) fl η'
  | [], s, η, _, k => ⟨.nx, η, rfl, rfl, k⟩
  | x :: l, s, η, hw, k => by
    obtain ⟨η1, fl, η2, e1, e2, hf⟩ := hb s x hw.1 η k
    have hw2 := hw.2
    rw [List.map_cons]
    unfold loopF foldL
    rw [e1]
    simp only [Rs.bind_ok]
    rw [e2]
    simp only [Rs.bind_ok]
    cases hs : step s x with
    | nx s' =>
      rw [hs] at hf hw2
      obtain ⟨hf, k2⟩ := hf
      obtain ⟨fl', η', e3, k3⟩ := loop_allL hc hb (l := l) hw2 k2
      refine ⟨fl', η', ?_, k3⟩
      rcases hf with rfl | rfl <;> simp only [hc _ _ k2, if_pos, e3]
    | bk s' =>
      rw [hs] at hf
      obtain ⟨rfl, k2⟩ := hf
      exact ⟨.nx, η2, rfl, rfl, k2⟩
    | ret r =>
      rw [hs] at hf
      obtain ⟨t, rfl, k2⟩ := hf
      exact ⟨.ret t, η2, rfl, t, rfl, k2⟩
theorem s_for {step : σ → α → Lp σ ρ} {W : σ → α → Prop} (hi : IV fi Γ (l.map e) Γ1) (h0 : Le Γ1 (G s0)) (hw : WFoldL step W s0 l)
    (hb : ∀ s x, W s x → Turn tgt body (G s) (e x) (LpP G R (step s x))) : S (sFor fi tgt body) Γ (ExP G R (foldL step s0 l)) := fun η k => by
  obtain ⟨η1, e1, k1⟩ := hi η k
  obtain ⟨fl, η', e2, k2⟩ := loop_allL (chk := fun _ => true) (fun _ _ _ => rfl) hb hw (h0.sat k1)
  refine ⟨fl, η', ?_, k2⟩
  unfold sFor
  simp only [e1, Rs.bind_ok, e2]
theorem s_forV {step : σ → α → Lp σ ρ} {W : σ → α → Prop} (h : lk Γ j = some d0) (hs : seqOf d0 = some (l.map e)) (h1 : ∀ s, lk (G s) j = some d0) (h0 : Le Γ (G s0)) (hw : WFoldL step W s0 l)
    (hb : ∀ s x, W s x → Turn tgt body (G s) (e x) (LpP G R (step s x))) : S (sForV j tgt body) Γ (ExP G R (foldL step s0 l)) := fun η k => by
  obtain ⟨fl, η', e2, k2⟩ := loop_allL (chk := pkIs j d0) (fun s η k => pkIs_of (lk_pk k (h1 s))) hb hw (h0.sat k)
  refine ⟨fl, η', ?_, k2⟩
  unfold sForV
  simp only [lk_pk k h, hs, e2]
def exC {σ ρ τ : Type} (x : Except ρ σ) (on : σ → τ) (up : ρ → τ) : τ := match x with
  | .ok s => on s
  | .error r => up r
/-- behind a loop that may hand back -/
theorem s_seqX {p q : FS} {x : Except ρ σ} {τ : Type} {M : τ → Fl → Pv.Env → Prop} (on : σ → τ) (up : ρ → τ) (hp : S p Γ (ExP G R x)) (hr : ∀ r η t, R r η t → M (up r) (.ret t) η) (hq : ∀ s, x = .ok s → S q (G s) (M (on s))) : S (sSeq p q) Γ (M (exC x on up)) := fun η k => by
  obtain ⟨fl, η1, e1, h1⟩ := hp η k
  unfold sSeq
  simp only [e1, Rs.bind_ok]
  cases x with
  | ok s =>
    obtain ⟨rfl, k1⟩ := h1
    obtain ⟨fl2, η2, e2, k2⟩ := hq s rfl η1 k1
    exact ⟨fl2, η2, e2, k2⟩
  | error r =>
    obtain ⟨t, rfl, k1⟩ := h1
    exact ⟨_, η1, rfl, hr _ _ _ k1⟩
/-- .. as the last statement -/
theorem s_endX {p : FS} {x : Except ρ σ} {τ : Type} {M : τ → Fl → Pv.Env → Prop} (on : σ → τ) (up : ρ → τ) (hp : S p Γ (ExP G R x)) (hr : ∀ r η t, R r η t → M (up r) (.ret t) η) (hq : ∀ s η, SatE (G s) η → M (on s) .nx η) : S p Γ (M (exC x on up)) := fun η k => by
  obtain ⟨fl, η1, e1, h1⟩ := hp η k
  refine ⟨fl, η1, e1, ?_⟩
  cases x with
  | ok s =>
    obtain ⟨rfl, k1⟩ := h1
    exact hq s _ k1
  | error r =>
    obtain ⟨t, rfl, k1⟩ := h1
    exact hr _ _ _ k1
/-! while -/
def whileF (c : σ → Bool) (step : σ → σ) : Nat → σ → σ
  | 0, s => s
  | n + 1, s => if c s = true then whileF c step n (step s) else s
def WWhile (c : σ → Bool) (step : σ → σ) (Wc W : σ → Prop) : Nat → σ → Prop
  | 0, _ => False
  | n + 1, s => Wc s ∧ (c s = true → W s ∧ WWhile c step Wc W n (step s))
theorem sv_while {cf : FB} {c : σ → Bool} {step : σ → σ} {Wc W : σ → Prop} (hc : ∀ s, Wc s → BV cf (G s) (c s) (G s)) (hb : ∀ s, W s → c s = true → S body (G s) fun fl η => (fl = .nx ∨ fl = .ct) ∧ SatE (G (step s)) η) : ∀ {n : Nat} {s0 : σ} {Γ : Cxt}, Le Γ (G s0) → WWhile c step Wc W n s0 → SV (sWhile n cf body) Γ (G (whileF c step n s0))
  | 0, _, _, _, h => h.elim
  | n + 1, s0, Γ, h0, hw => fun η k => by
    obtain ⟨η1, e1, k1⟩ := hc s0 hw.1 η (h0.sat k)
    unfold sWhile loopW whileF
    simp only [e1, Rs.bind_ok]
    by_cases b : c s0 = true
    · obtain ⟨hw1, hw2⟩ := hw.2 b
      obtain ⟨fl, η2, e2, hf, k2⟩ := hb s0 hw1 b η1 k1
      obtain ⟨η3, e3, k3⟩ := sv_while hc hb (n := n) (Le.refl (G (step s0))) hw2 η2 k2
      unfold sWhile at e3
      refine ⟨η3, ?_, by rw [if_pos b]; exact k3⟩
      simp only [b, if_pos, e2, Rs.bind_ok]
      rcases hf with rfl | rfl <;> simp only [e3]
    · refine ⟨η1, ?_, by rw [if_neg b]; exact k1⟩
      simp only [b, if_neg, Bool.false_eq_true, not_false_eq_true]
end
/-! ### comprehensions -/
def frC (Γ : Cxt) : List Nat → Cxt
  | [] => Γ
  | v :: vs => (frC Γ vs).set v .fr
/-- one item: the target is set, tested, the item is made; the own slots hold nothing of their own behind it -/
def Item (tgt : FG) (cond : FB) (elt : FE) (Γw : Cxt) (d : PyData) (b : Bool) (t : T) (Γw' : Cxt) : Prop := ∀ η, SatE Γw η → ∃ η1 η2, tgt (.sh d) η = .ok η1 ∧ cond η1 = .ok (b, η2) ∧ (b = false → SatE Γw' η2) ∧ (b = true → ∃ η3, elt η2 = .ok (t, η3) ∧ SatE Γw' η3)
theorem satE_own {Γ : Cxt} {own : List Nat} {η : Pv.Env} (h : SatE Γ η) (ho : ∀ v ∈ own, Γ[v]? = some .fr) : ownFree η own = true := by
  unfold ownFree
  rw [List.all_eq_true]
  intro v hv
  obtain ⟨o, e, k⟩ := h.get (ho v hv)
  unfold free1
  rw [e]
  rcases k with rfl | ⟨d, rfl⟩ <;> rfl
theorem satE_wipe {Γ : Cxt} {η : Pv.Env} (h : SatE Γ η) : ∀ {own : List Nat}, (∀ v ∈ own, Γ[v]? = some .fr) → SatE Γ (wipeE η own)
  | [], _ => h
  | v :: vs, ho => by
    have := (satE_wipe h (own := vs) fun w hw => ho w (List.mem_cons_of_mem _ hw)).set (i := v) (s := .fr) (o := none) (.inl rfl)
    rw [set_self (ho v List.mem_cons_self)] at this
    exact this
theorem frC_get {Γ : Cxt} : ∀ {own : List Nat} {i : Nat}, i ∉ own → (frC Γ own)[i]? = Γ[i]?
  | [], i, _ => rfl
  | v :: vs, i, h => by
    unfold frC
    rw [List.getElem?_set_ne (fun e => h (by simp [e])), frC_get fun hv => h (List.mem_cons_of_mem _ hv)]
theorem frC_len (Γ : Cxt) : ∀ own : List Nat, (frC Γ own).length = Γ.length
  | [] => rfl
  | v :: vs => by unfold frC; rw [List.length_set, frC_len Γ vs]
theorem frC_own {Γ : Cxt} : ∀ {own : List Nat} {i : Nat}, i ∈ own → i < Γ.length → (frC Γ own)[i]? = some .fr
  | v :: vs, i, h, hi => by
    unfold frC
    by_cases e : v = i
    · subst e
      rw [List.getElem?_set_self (by rw [frC_len]; exact hi)]
    · rw [List.getElem?_set_ne e]
      rcases List.mem_cons.mp h with h | h
      · exact absurd h.symm e
      · exact frC_own h hi
/-- slot by slot -/
theorem satE_of : ∀ {Γ : Cxt} {η : Pv.Env}, η.length = Γ.length → (∀ (i : Nat) (s : Sl), Γ[i]? = some s → ∃ o, η[i]? = some o ∧ s.Sat o) → SatE Γ η
  | [], [], _, _ => rfl
  | [], _ :: _, h, _ => by simp at h
  | _ :: _, [], h, _ => by simp at h
  | s :: Γ, o :: η, h, k => by
    refine ⟨?_, satE_of (by simpa using h) fun i s' e => ?_⟩
    · obtain ⟨o', e, q⟩ := k 0 s rfl
      cases e
      exact q
    · obtain ⟨o', e', q⟩ := k (i + 1) s' (by simpa using e)
      exact ⟨o', by simpa using e', q⟩
theorem backE_get {η1 : Pv.Env} : ∀ {own : List Nat} {η : Pv.Env} {i : Nat}, i ∉ own → (backE η1 own η)[i]? = η[i]?
  | [], η, i, _ => rfl
  | v :: vs, η, i, h => by
    unfold backE
    rw [backE_get fun hv => h (List.mem_cons_of_mem _ hv), List.getElem?_set_ne (fun e => h (by simp [e]))]
theorem backE_len {η1 : Pv.Env} : ∀ {own : List Nat} {η : Pv.Env}, (backE η1 own η).length = η.length
  | [], η => rfl
  | v :: vs, η => by unfold backE; rw [backE_len, List.length_set]
theorem backE_own {η1 : Pv.Env} : ∀ {own : List Nat} {η : Pv.Env} {i : Nat}, i ∈ own → i < η.length → (backE η1 own η)[i]? = some (η1[i]?.join)
  | v :: vs, η, i, h, hi => by
    unfold backE
    by_cases hv : i ∈ vs
    · exact backE_own hv (by rw [List.length_set]; exact hi)
    · rcases List.mem_cons.mp h with h | h
      case inr => exact absurd h hv
      subst h
      rw [backE_get hv, List.getElem?_set_self hi]
/-- the own slots come back -/
theorem satE_back {Γ1 Γw : Cxt} {own : List Nat} {η1 η : Pv.Env} (h1 : SatE Γ1 η1) (h : SatE Γw η) (hl : Γ1.length = Γw.length) (ho : ∀ i, i ∉ own → Γw[i]? = Γ1[i]?) : SatE Γ1 (backE η1 own η) := by
  refine satE_of (by rw [backE_len, h.len, hl]) fun i s e => ?_
  by_cases hi : i ∈ own
  · have hil : i < η.length := by
      have := (List.getElem?_eq_some_iff.mp e).1
      rw [h.len, ← hl]
      exact this
    rw [backE_own hi hil]
    obtain ⟨o, e1, k⟩ := h1.get e
    exact ⟨o, by rw [e1]; rfl, k⟩
  · rw [backE_get hi]
    exact h.get (by rw [ho i hi]; exact e)
section
variable {α β : Type} {own : List Nat} {fi : FI} {tgt : FG} {cond : FB} {elt f : FE} {Γ Γ1 Γ2 Γ3 Γw Γa Γb : Cxt} {d0 : PyData} {i : Nat} {e : α → PyData} {l : List α} {r : α → T} {c : α → Bool} {chk : Pv.Env → Bool} {b : Bool} {t : T} {d : PyData}
theorem item (hg : GW tgt (.sh d) Γw Γ1) (hc : BV cond Γ1 b Γ2) (h0 : b = false → Le Γ2 Γw) (he : b = true → EW elt Γ2 t Γ3) (l3 : Le Γ3 Γw) : Item tgt cond elt Γw d b t Γw := fun η k => by
  obtain ⟨η1, e1, k1⟩ := hg η k
  obtain ⟨η2, e2, k2⟩ := hc η1 k1
  refine ⟨η1, η2, e1, e2, fun hb => (h0 hb).sat k2, fun hb => ?_⟩
  obtain ⟨η3, e3, k3⟩ := he hb η2 k2
  exact ⟨η3, e3, l3.sat k3⟩
theorem item1 (hg : GW tgt (.sh d) Γw Γ1) (he : EW elt Γ1 t Γ3) (l3 : Le Γ3 Γw) : Item tgt bTrue elt Γw d true t Γw := item hg bv_true (fun h => by cases h) (fun _ => he) l3
theorem loopC_of (hc : ∀ η, SatE Γw η → chk η = true) (ho : ∀ v ∈ own, Γw[v]? = some .fr) : ∀ {l : List α} {η : Pv.Env}, (∀ x ∈ l, Item tgt cond elt Γw (e x) (c x) (r x) Γw) → SatE Γw η → ∃ η', loopC chk own tgt cond elt (l.map e) η = .ok ((l.filter c).map r, η') ∧ SatE Γw η'
  | [], η, _, k => ⟨η, rfl, k⟩
  | x :: l, η, hb, k => by
    obtain ⟨η1, η2, e1, e2, hf, ht⟩ := hb x List.mem_cons_self η k
    rw [List.map_cons]
    unfold loopC
    rw [e1]
    simp only [Rs.noX_ok, Rs.bind_ok]
    rw [e2]
    simp only [Rs.noX_ok, Rs.bind_ok]
    cases hx : c x with
    | true =>
      obtain ⟨η3, e3, k3⟩ := ht hx
      have kw := satE_wipe k3 ho
      obtain ⟨η', e4, k4⟩ := loopC_of hc ho (l := l) (fun y hy => hb y (List.mem_cons_of_mem _ hy)) kw
      refine ⟨η', ?_, k4⟩
      simp only [if_pos, e3, Rs.noX_ok, Rs.bind_ok, satE_own k3 ho, hc _ kw, and_self, e4]
      rw [List.filter_cons_of_pos hx]
      rfl
    | false =>
      have k3 := hf hx
      have kw := satE_wipe k3 ho
      obtain ⟨η', e4, k4⟩ := loopC_of hc ho (l := l) (fun y hy => hb y (List.mem_cons_of_mem _ hy)) kw
      refine ⟨η', ?_, k4⟩
      simp only [Bool.false_eq_true, if_false, satE_own k3 ho, hc _ kw, and_self, if_true, e4]
      rw [List.filter_cons_of_neg (by rw [hx]; exact Bool.false_ne_true)]
/-- what a context gives with its own slots free -/
def Free (Γ1 : Cxt) (own : List Nat) : Prop := ∀ v ∈ own, ∃ s, Γ1[v]? = some s ∧ s.le .fr
theorem le_frC {Γ : Cxt} {η : Pv.Env} (h : SatE Γ η) : ∀ {own : List Nat}, Free Γ own → SatE (frC Γ own) η
  | [], _ => h
  | v :: vs, ho => by
    have ih := le_frC h (own := vs) fun w hw => ho w (List.mem_cons_of_mem _ hw)
    obtain ⟨s, e, q⟩ := ho v List.mem_cons_self
    obtain ⟨o, e1, k⟩ := h.get e
    have := ih.set (i := v) (s := .fr) (o := o) (q.sat k)
    rw [set_self e1] at this
    exact this
theorem own_frC (ho : Free Γ1 own) : ∀ v ∈ own, (frC Γ1 own)[v]? = some .fr := fun v hv => by
  obtain ⟨s, e, _⟩ := ho v hv
  exact frC_own hv (List.getElem?_eq_some_iff.mp e).1
theorem ew_comp (hi : IV fi Γ (l.map e) Γ1) (hl : l.length < 16777216) (ho : Free Γ1 own) (hb : ∀ x ∈ l, Item tgt cond elt (frC Γ1 own) (e x) (c x) (r x) (frC Γ1 own)) : EW (eComp own fi tgt cond elt) Γ (.lst ((l.filter c).map r)) Γ1 := fun η k => by
  obtain ⟨η1, e1, k1⟩ := hi η k
  have kf := le_frC k1 ho
  have hof := own_frC ho
  obtain ⟨η', e2, k2⟩ := loopC_of (chk := fun _ => true) (c := c) (r := r) (fun _ _ => rfl) hof hb (satE_wipe kf hof)
  refine ⟨backE η1 own η', ?_, satE_back k1 k2 (by rw [frC_len]) fun i hi => frC_get hi⟩
  unfold eComp
  have hl' : line (l.map e).length = true := by unfold line; rw [List.length_map]; exact decide_eq_true hl
  simp only [e1, Rs.bind_ok, satE_own kf hof, hl', Bool.and_self, if_pos, e2]
theorem ew_compV (h : lk Γ i = some d0) (hs : seqOf d0 = some (l.map e)) (hio : own.contains i = false) (hl : l.length < 16777216) (ho : Free Γ own) (hb : ∀ x ∈ l, Item tgt cond elt (frC Γ own) (e x) (c x) (r x) (frC Γ own)) : EW (eCompV own i tgt cond elt) Γ (.lst ((l.filter c).map r)) Γ := fun η k => by
  have kf := le_frC k ho
  have hof := own_frC ho
  have hni : i ∉ own := fun hm => by
    rw [List.contains_eq_mem, decide_eq_false_iff_not] at hio
    exact hio hm
  have hlk : lk (frC Γ own) i = some d0 := by
    unfold lk
    rw [frC_get hni]
    exact h
  obtain ⟨η', e2, k2⟩ := loopC_of (chk := pkIs i d0) (c := c) (r := r) (fun η k => pkIs_of (lk_pk k hlk)) hof hb (satE_wipe kf hof)
  refine ⟨backE η own η', ?_, satE_back k k2 (by rw [frC_len]) fun i hi => frC_get hi⟩
  unfold eCompV
  have hl' : line (l.map e).length = true := by unfold line; rw [List.length_map]; exact decide_eq_true hl
  simp only [lk_pk k h, hs, satE_own kf hof, hl', hio, Bool.and_self, Bool.not_false, if_pos, e2, Rs.bind_ok]
/-- without a test -/
theorem ew_compM (hi : IV fi Γ (l.map e) Γ1) (hl : l.length < 16777216) (ho : Free Γ1 own) (hb : ∀ x ∈ l, Item tgt bTrue elt (frC Γ1 own) (e x) true (r x) (frC Γ1 own)) : EW (eComp own fi tgt bTrue elt) Γ (.lst (l.map r)) Γ1 := by
  have := ew_comp (c := fun _ => true) (r := r) hi hl ho hb
  rw [List.filter_eq_self.mpr fun _ _ => rfl] at this
  exact this
theorem ew_compVM (h : lk Γ i = some d0) (hs : seqOf d0 = some (l.map e)) (hio : own.contains i = false) (hl : l.length < 16777216) (ho : Free Γ own) (hb : ∀ x ∈ l, Item tgt bTrue elt (frC Γ own) (e x) true (r x) (frC Γ own)) : EW (eCompV own i tgt bTrue elt) Γ (.lst (l.map r)) Γ := by
  have := ew_compV (c := fun _ => true) (r := r) h hs hio hl ho hb
  rw [List.filter_eq_self.mpr fun _ _ => rfl] at this
  exact this
end
/-! with a state: draws -/
def mapS {σ α β : Type} (step : σ → α → β × σ) : σ → List α → List β × σ
  | s, [] => ([], s)
  | s, x :: l => ((step s x).1 :: (mapS step (step s x).2 l).1, (mapS step (step s x).2 l).2)
def WMapS {σ α β : Type} (step : σ → α → β × σ) (W : σ → α → Prop) : σ → List α → Prop
  | _, [] => True
  | s, x :: l => W s x ∧ WMapS step W (step s x).2 l
section
variable {σ α β : Type} {own : List Nat} {fi : FI} {tgt : FG} {elt f : FE} {Γ Γ1 : Cxt} {d0 : PyData} {i : Nat} {e : α → PyData} {l : List α} {r : β → T} {chk : Pv.Env → Bool} {G : σ → Cxt} {step : σ → α → β × σ} {W : σ → α → Prop} {s0 : σ}
theorem loopC_st (hc : ∀ s η, SatE (G s) η → chk η = true) (ho : ∀ s, ∀ v ∈ own, (G s)[v]? = some .fr) (hb : ∀ s x, W s x → Item tgt bTrue elt (G s) (e x) true (r (step s x).1) (G (step s x).2)) : ∀ {l : List α} {s : σ} {η : Pv.Env}, WMapS step W s l → SatE (G s) η → ∃ η', loopC chk own tgt bTrue elt (l.map e) η = .ok ((mapS step s l).1.map r, η') ∧ SatE (G (mapS step s l).2) η'
  | [], s, η, _, k => ⟨η, rfl, k⟩
  | x :: l, s, η, hw, k => by
    obtain ⟨η1, η2, e1, e2, _, ht⟩ := hb s x hw.1 η k
    obtain ⟨η3, e3, k3⟩ := ht rfl
    have kw := satE_wipe k3 (ho _)
    obtain ⟨η', e4, k4⟩ := loopC_st hc ho hb (l := l) hw.2 kw
    refine ⟨η', ?_, k4⟩
    rw [List.map_cons]
    unfold loopC
    rw [e1]
    simp only [Rs.noX_ok, Rs.bind_ok]
    rw [e2]
    simp only [Rs.noX_ok, Rs.bind_ok, if_pos, e3, satE_own k3 (ho _), hc _ _ kw, and_self, e4]
    rfl
theorem itemS {Γw Γw' Γ2 Γ3 : Cxt} {t : T} {d : PyData} (hg : GW tgt (.sh d) Γw Γ2) (he : EW elt Γ2 t Γ3) (l3 : Le Γ3 Γw') : Item tgt bTrue elt Γw d true t Γw' := fun η k => by
  obtain ⟨η1, e1, k1⟩ := hg η k
  obtain ⟨η3, e3, k3⟩ := he η1 k1
  exact ⟨η1, η1, e1, rfl, (fun h => by cases h), fun _ => ⟨η3, e3, l3.sat k3⟩⟩
theorem ew_compS (hi : IV fi Γ (l.map e) Γ1) (hl : l.length < 16777216) (h0 : Le Γ1 (G s0)) (ho : ∀ s, ∀ v ∈ own, (G s)[v]? = some .fr) (hw : WMapS step W s0 l) (hb : ∀ s x, W s x → Item tgt bTrue elt (G s) (e x) true (r (step s x).1) (G (step s x).2)) : EW (eComp own fi tgt bTrue elt) Γ (.lst ((mapS step s0 l).1.map r)) (G (mapS step s0 l).2) := fun η k => by
  obtain ⟨η1, e1, k1⟩ := hi η k
  have kf := h0.sat k1
  obtain ⟨η', e2, k2⟩ := loopC_st (chk := fun _ => true) (r := r) (fun _ _ _ => rfl) ho hb hw (satE_wipe kf (ho s0))
  refine ⟨backE η1 own η', ?_, satE_of (by rw [backE_len]; exact k2.len) fun v s ev => ?_⟩
  · unfold eComp
    have hl' : line (l.map e).length = true := by unfold line; rw [List.length_map]; exact decide_eq_true hl
    simp only [e1, Rs.bind_ok, satE_own kf (ho s0), hl', Bool.and_self, if_pos, e2]
  · by_cases hv : v ∈ own
    · rw [ho _ v hv] at ev
      cases ev
      have hil : v < η'.length := by
        have := (List.getElem?_eq_some_iff.mp (ho (mapS step s0 l).2 v hv)).1
        rw [k2.len]; exact this
      rw [backE_own hv hil]
      obtain ⟨o, e3, k3⟩ := kf.get (ho s0 v hv)
      exact ⟨o, by rw [e3]; rfl, k3⟩
    · rw [backE_get hv]
      exact k2.get ev
theorem ew_compVS (h : lk Γ i = some d0) (hs : seqOf d0 = some (l.map e)) (hio : own.contains i = false) (hk : ∀ s, lk (G s) i = some d0) (hl : l.length < 16777216) (h0 : Le Γ (G s0)) (ho : ∀ s, ∀ v ∈ own, (G s)[v]? = some .fr) (hw : WMapS step W s0 l) (hb : ∀ s x, W s x → Item tgt bTrue elt (G s) (e x) true (r (step s x).1) (G (step s x).2)) : EW (eCompV own i tgt bTrue elt) Γ (.lst ((mapS step s0 l).1.map r)) (G (mapS step s0 l).2) := fun η k => by
  have kf := h0.sat k
  obtain ⟨η', e2, k2⟩ := loopC_st (chk := pkIs i d0) (r := r) (fun s η k => pkIs_of (lk_pk k (hk s))) ho hb hw (satE_wipe kf (ho s0))
  refine ⟨backE η own η', ?_, satE_of (by rw [backE_len]; exact k2.len) fun v s ev => ?_⟩
  · unfold eCompV
    have hl' : line (l.map e).length = true := by unfold line; rw [List.length_map]; exact decide_eq_true hl
    simp only [lk_pk k h, hs, satE_own kf (ho s0), hl', hio, Bool.and_self, Bool.not_false, if_pos, e2, Rs.bind_ok]
  · by_cases hv : v ∈ own
    · rw [ho _ v hv] at ev
      cases ev
      have hil : v < η'.length := by
        have := (List.getElem?_eq_some_iff.mp (ho (mapS step s0 l).2 v hv)).1
        rw [k2.len]; exact this
      rw [backE_own hv hil]
      obtain ⟨o, e3, k3⟩ := kf.get (ho s0 v hv)
      exact ⟨o, by rw [e3]; rfl, k3⟩
    · rw [backE_get hv]
      exact k2.get ev
end
/-! with a state that the test changes: draws in a test -/
def keepS {σ α : Type} (step : σ → α → Bool × σ) : σ → List α → List α × σ
  | s, [] => ([], s)
  | s, x :: l => (if (step s x).1 = true then x :: (keepS step (step s x).2 l).1 else (keepS step (step s x).2 l).1, (keepS step (step s x).2 l).2)
def WKeepS {σ α : Type} (step : σ → α → Bool × σ) (W : σ → α → Prop) : σ → List α → Prop
  | _, [] => True
  | s, x :: l => W s x ∧ WKeepS step W (step s x).2 l
theorem keepS_sub {σ α : Type} {step : σ → α → Bool × σ} : ∀ {l : List α} {s : σ}, (keepS step s l).1.Sublist l
  | [], _ => .slnil
  | x :: l, s => by
    unfold keepS
    by_cases h : (step s x).1 = true
    · rw [if_pos h]; exact keepS_sub.cons_cons x
    · rw [if_neg h]; exact keepS_sub.cons x
theorem keepS_inv {σ α : Type} {step : σ → α → Bool × σ} {W : σ → α → Prop} (I : σ → Prop) : ∀ {l : List α} {s : σ}, I s → (∀ s, ∀ x ∈ l, I s → W s x ∧ I (step s x).2) → WKeepS step W s l ∧ I (keepS step s l).2
  | [], _, h, _ => ⟨trivial, h⟩
  | x :: l, s, h, k => by
    obtain ⟨h1, h2⟩ := k s x List.mem_cons_self h
    obtain ⟨h3, h4⟩ := keepS_inv I h2 fun s y hy => k s y (List.mem_cons_of_mem _ hy)
    exact ⟨⟨h1, h3⟩, h4⟩
section
variable {σ α : Type} {own : List Nat} {fi : FI} {tgt : FG} {cond : FB} {elt f : FE} {Γ Γ1 : Cxt} {d0 : PyData} {i : Nat} {e : α → PyData} {l : List α} {r : α → T} {chk : Pv.Env → Bool} {G : σ → Cxt} {step : σ → α → Bool × σ} {W : σ → α → Prop} {s0 : σ}
theorem loopC_kp (hc : ∀ s η, SatE (G s) η → chk η = true) (ho : ∀ s, ∀ v ∈ own, (G s)[v]? = some .fr) (hb : ∀ s x, W s x → Item tgt cond elt (G s) (e x) (step s x).1 (r x) (G (step s x).2)) : ∀ {l : List α} {s : σ} {η : Pv.Env}, WKeepS step W s l → SatE (G s) η → ∃ η', loopC chk own tgt cond elt (l.map e) η = .ok ((keepS step s l).1.map r, η') ∧ SatE (G (keepS step s l).2) η'
  | [], s, η, _, k => ⟨η, rfl, k⟩
  | x :: l, s, η, hw, k => by
    obtain ⟨η1, η2, e1, e2, hf, ht⟩ := hb s x hw.1 η k
    rw [List.map_cons]
    unfold loopC keepS
    rw [e1]
    simp only [Rs.noX_ok, Rs.bind_ok]
    rw [e2]
    simp only [Rs.noX_ok, Rs.bind_ok]
    cases hx : (step s x).1 with
    | true =>
      obtain ⟨η3, e3, k3⟩ := ht hx
      have kw := satE_wipe k3 (ho _)
      obtain ⟨η', e4, k4⟩ := loopC_kp hc ho hb (l := l) hw.2 kw
      refine ⟨η', ?_, k4⟩
      simp only [if_pos, e3, Rs.noX_ok, Rs.bind_ok, satE_own k3 (ho _), hc _ _ kw, and_self, e4]
      rfl
    | false =>
      have k3 := hf hx
      have kw := satE_wipe k3 (ho _)
      obtain ⟨η', e4, k4⟩ := loopC_kp hc ho hb (l := l) hw.2 kw
      refine ⟨η', ?_, k4⟩
      simp only [Bool.false_eq_true, if_false, satE_own k3 (ho _), hc _ _ kw, and_self, if_pos, e4]
theorem itemK {Γw Γw' Γ1 Γ2 Γ3 : Cxt} {t : T} {d : PyData} {b : Bool} (hg : GW tgt (.sh d) Γw Γ1) (hc : BV cond Γ1 b Γ2) (h0 : Le Γ2 Γw') (he : b = true → EW elt Γ2 t Γ3) (l3 : Le Γ3 Γw') : Item tgt cond elt Γw d b t Γw' := fun η k => by
  obtain ⟨η1, e1, k1⟩ := hg η k
  obtain ⟨η2, e2, k2⟩ := hc η1 k1
  refine ⟨η1, η2, e1, e2, fun _ => h0.sat k2, fun hb => ?_⟩
  obtain ⟨η3, e3, k3⟩ := he hb η2 k2
  exact ⟨η3, e3, l3.sat k3⟩
theorem ew_compK (hi : IV fi Γ (l.map e) Γ1) (hl : l.length < 16777216) (h0 : Le Γ1 (G s0)) (ho : ∀ s, ∀ v ∈ own, (G s)[v]? = some .fr) (hw : WKeepS step W s0 l) (hb : ∀ s x, W s x → Item tgt cond elt (G s) (e x) (step s x).1 (r x) (G (step s x).2)) : EW (eComp own fi tgt cond elt) Γ (.lst ((keepS step s0 l).1.map r)) (G (keepS step s0 l).2) := fun η k => by
  obtain ⟨η1, e1, k1⟩ := hi η k
  have kf := h0.sat k1
  obtain ⟨η', e2, k2⟩ := loopC_kp (chk := fun _ => true) (r := r) (fun _ _ _ => rfl) ho hb hw (satE_wipe kf (ho s0))
  refine ⟨backE η1 own η', ?_, satE_of (by rw [backE_len]; exact k2.len) fun v s ev => ?_⟩
  · unfold eComp
    have hl' : line (l.map e).length = true := by unfold line; rw [List.length_map]; exact decide_eq_true hl
    simp only [e1, Rs.bind_ok, satE_own kf (ho s0), hl', Bool.and_self, if_pos, e2]
  · by_cases hv : v ∈ own
    · rw [ho _ v hv] at ev
      cases ev
      have hil : v < η'.length := by
        have := (List.getElem?_eq_some_iff.mp (ho (keepS step s0 l).2 v hv)).1
        rw [k2.len]; exact this
      rw [backE_own hv hil]
      obtain ⟨o, e3, k3⟩ := kf.get (ho s0 v hv)
      exact ⟨o, by rw [e3]; rfl, k3⟩
    · rw [backE_get hv]
      exact k2.get ev
theorem ew_compVK (h : lk Γ i = some d0) (hs : seqOf d0 = some (l.map e)) (hio : own.contains i = false) (hk : ∀ s, lk (G s) i = some d0) (hl : l.length < 16777216) (h0 : Le Γ (G s0)) (ho : ∀ s, ∀ v ∈ own, (G s)[v]? = some .fr) (hw : WKeepS step W s0 l) (hb : ∀ s x, W s x → Item tgt cond elt (G s) (e x) (step s x).1 (r x) (G (step s x).2)) : EW (eCompV own i tgt cond elt) Γ (.lst ((keepS step s0 l).1.map r)) (G (keepS step s0 l).2) := fun η k => by
  have kf := h0.sat k
  obtain ⟨η', e2, k2⟩ := loopC_kp (chk := pkIs i d0) (r := r) (fun s η k => pkIs_of (lk_pk k (hk s))) ho hb hw (satE_wipe kf (ho s0))
  refine ⟨backE η own η', ?_, satE_of (by rw [backE_len]; exact k2.len) fun v s ev => ?_⟩
  · unfold eCompV
    have hl' : line (l.map e).length = true := by unfold line; rw [List.length_map]; exact decide_eq_true hl
    simp only [lk_pk k h, hs, satE_own kf (ho s0), hl', hio, Bool.and_self, Bool.not_false, if_pos, e2, Rs.bind_ok]
  · by_cases hv : v ∈ own
    · rw [ho _ v hv] at ev
      cases ev
      have hil : v < η'.length := by
        have := (List.getElem?_eq_some_iff.mp (ho (keepS step s0 l).2 v hv)).1
        rw [k2.len]; exact this
      rw [backE_own hv hil]
      obtain ⟨o, e3, k3⟩ := kf.get (ho s0 v hv)
      exact ⟨o, by rw [e3]; rfl, k3⟩
    · rw [backE_get hv]
      exact k2.get ev
end
/-! ### defs -/
def startC (N : Nat) (ds : List PyData) : Cxt := ds.map .sh ++ List.replicate (N - ds.length) .fr
theorem satE_nones : ∀ n : Nat, SatE (List.replicate n .fr) (List.replicate n none)
  | 0 => rfl
  | n + 1 => ⟨.inl rfl, satE_nones n⟩
theorem satE_start {n : Nat} : ∀ {ds : List PyData}, SatE (ds.map .sh ++ List.replicate n .fr) ((ds.map T.sh).map some ++ List.replicate n none)
  | [] => satE_nones n
  | d :: ds => ⟨rfl, satE_start⟩
theorem startC_ok {N : Nat} {ds : List PyData} : SatE (startC N ds) (startE N (ds.map T.sh)) := by
  unfold startC startE
  rw [List.length_map]
  exact satE_start
theorem gp_ok {N n : Nat} {fb : FS} {ds : List PyData} {t : T} (hl : ds.length = n) (h : S fb (startC N ds) fun fl _ => fl = .ret t) : gP N n fb ds = some t := by
  obtain ⟨fl, η', e, rfl⟩ := h _ startC_ok
  exact gP_eq hl e
theorem gp_nx {N n : Nat} {fb : FS} {ds : List PyData} (hl : ds.length = n) (h : S fb (startC N ds) fun fl _ => fl = .nx ∨ fl = .ret (.sh .none)) : gP N n fb ds = some (.sh .none) := by
  obtain ⟨fl, η', e, rfl | rfl⟩ := h _ startC_ok
  · exact gP_nx hl e
  · exact gP_eq hl e
def startI (N : Nat) (t : T) (ds : List PyData) : Cxt := .ow t :: ds.map .sh ++ List.replicate (N - (ds.length + 1)) .fr
theorem startI_ok {N : Nat} {t : T} {ds : List PyData} : SatE (startI N t ds) (startE N (t :: ds.map T.sh)) := by
  unfold startI startE
  rw [List.length_cons, List.length_map, List.map_cons]
  exact ⟨rfl, satE_start⟩
theorem gio_ok {N n : Nat} {fb : FS} {t0 t1 t : T} {ds : List PyData} (hl : ds.length + 1 = n) (h : S fb (startI N t0 ds) fun fl η => fl = .ret t ∧ η[0]? = some (some t1)) : gIO N n fb t0 ds = some (t, t1) := by
  obtain ⟨fl, η', e, rfl, h0⟩ := h _ startI_ok
  unfold gIO
  rw [if_pos hl, e]
  simp only [retOf, h0]
theorem gio_okD {N n : Nat} {fb : FS} {t0 t1 : T} {d : PyData} {ds : List PyData} (hl : ds.length + 1 = n) (h : S fb (startI N t0 ds) fun fl η => ∃ t, fl = .ret t ∧ t.val = d ∧ η[0]? = some (some t1)) : ∃ t, gIO N n fb t0 ds = some (t, t1) ∧ t.val = d := by
  obtain ⟨fl, η', e, t, rfl, hv, h0⟩ := h _ startI_ok
  refine ⟨t, ?_, hv⟩
  unfold gIO
  rw [if_pos hl, e]
  simp only [retOf, h0]
theorem gp_okD {N n : Nat} {fb : FS} {d : PyData} {ds : List PyData} (hl : ds.length = n) (h : S fb (startC N ds) fun fl _ => ∃ t, fl = .ret t ∧ t.val = d) : ∃ t, gP N n fb ds = some t ∧ t.val = d := by
  obtain ⟨fl, η', e, t, rfl, hv⟩ := h _ startC_ok
  exact ⟨t, gP_eq hl e, hv⟩
end Tv
set_option Elab.async false
set_option linter.all false
set_option maxRecDepth 100000
set_option maxHeartbeats 4000000
namespace Tv
open PySem L2 Pv
/-! ### how values are read as data -/
instance : Inhabited PyData := ⟨.none⟩
abbrev eI : Int → PyData := PyData.int
abbrev eB : Bool → PyData := PyData.bool
abbrev eS : Str → PyData := PyData.str
abbrev eN : Unit → PyData := fun _ => .none
abbrev eD : PyData → PyData := fun d => d
section
variable {α β γ δ : Type}
abbrev eT (e : α → PyData) (l : List α) : PyData := .tuple (l.map e)
abbrev eL (e : α → PyData) (l : List α) : PyData := .list (l.map e)
abbrev eP (e : α → PyData) (f : β → PyData) (x : α × β) : PyData := .tuple [e x.1, f x.2]
abbrev eP3 (e : α → PyData) (f : β → PyData) (g : γ → PyData) (x : α × β × γ) : PyData := .tuple [e x.1, f x.2.1, g x.2.2]
abbrev eP4 (e : α → PyData) (f : β → PyData) (g : γ → PyData) (h : δ → PyData) (x : α × β × γ × δ) : PyData := .tuple [e x.1, f x.2.1, g x.2.2.1, h x.2.2.2]
def eO (e : α → PyData) : Option α → PyData
  | none => .none
  | some x => e x
end
/-- == tells equality -/
structure Cm {α : Type} [DecidableEq α] (n : Nat) (e : α → PyData) : Prop where
  eqv : ∀ a b, PyData.eqv (e a) (e b) = decide (a = b)
  lay : ∀ a, (e a).canLay0 = true
  dep : ∀ a, (e a).depth ≤ n
/-- < can be asked -/
structure Al {α : Type} (e : α → PyData) : Prop where
  ali : ∀ a b, W.alike (e a) (e b) = true
  nn : ∀ a, isNone (e a) = false
theorem cm_i : Cm 0 eI := ⟨fun a b => eqv_int, fun _ => rfl, fun _ => by simp [PyData.depth]⟩
theorem cm_b : Cm 0 eB := ⟨fun a b => by cases a <;> cases b <;> rfl, fun _ => rfl, fun _ => by simp [PyData.depth]⟩
section
variable {α β γ δ : Type} [DecidableEq α] [DecidableEq β] [DecidableEq γ] [DecidableEq δ] {n m k q : Nat} {e : α → PyData} {f : β → PyData} {g : γ → PyData} {h : δ → PyData}
theorem Cm.all (c : Cm n e) : ∀ a b : List α, PyData.eqvAll (a.map e) (b.map e) = decide (a = b)
  | [], [] => rfl
  | [], _ :: _ => rfl
  | _ :: _, [] => rfl
  | a :: as, b :: bs => by
    simp only [List.map_cons, PyData.eqvAll, c.eqv, c.all as bs, List.cons.injEq]
    exact (Bool.decide_and _ _).symm
theorem Cm.lays (c : Cm n e) : ∀ a : List α, PyData.canLayAll0 (a.map e) = true
  | [] => rfl
  | a :: as => by simp only [List.map_cons, PyData.canLayAll0, c.lay, c.lays as, Bool.and_self]
theorem Cm.deps (c : Cm n e) : ∀ a : List α, PyData.depthAll (a.map e) ≤ n
  | [] => by simp [PyData.depthAll]
  | a :: as => by
    simp only [List.map_cons, PyData.depthAll]
    exact Nat.max_le.mpr ⟨c.dep a, c.deps as⟩
theorem cm_t (c : Cm n e) : Cm (n + 1) (eT e) := ⟨fun a b => by simp only [PyData.eqv]; exact c.all a b, fun a => by simp only [PyData.canLay0]; exact c.lays a, fun a => by simp only [PyData.depth]; exact Nat.succ_le_succ (c.deps a)⟩
theorem cm_l (c : Cm n e) : Cm (n + 1) (eL e) := ⟨fun a b => by simp only [PyData.eqv]; exact c.all a b, fun a => by simp only [PyData.canLay0]; exact c.lays a, fun a => by simp only [PyData.depth]; exact Nat.succ_le_succ (c.deps a)⟩
theorem cm_p (c : Cm n e) (d : Cm m f) : Cm (max n m + 1) (eP e f) := ⟨fun a b => by
  obtain ⟨a1, a2⟩ := a
  obtain ⟨b1, b2⟩ := b
  simp only [PyData.eqv, PyData.eqvAll, c.eqv, d.eqv, Prod.mk.injEq, Bool.and_true]
  exact (Bool.decide_and _ _).symm, fun a => by simp only [PyData.canLay0, PyData.canLayAll0, c.lay, d.lay, Bool.and_self], fun a => by
  simp only [PyData.depth, PyData.depthAll]
  have := c.dep a.1
  have := d.dep a.2
  omega⟩
theorem cm_p3 (c : Cm n e) (d : Cm m f) (c3 : Cm k g) : Cm (max n (max m k) + 1) (eP3 e f g) := ⟨fun a b => by
  obtain ⟨a1, a2, a3⟩ := a
  obtain ⟨b1, b2, b3⟩ := b
  simp only [PyData.eqv, PyData.eqvAll, c.eqv, d.eqv, c3.eqv, Prod.mk.injEq, Bool.and_true]
  by_cases h1 : a1 = b1 <;> by_cases h2 : a2 = b2 <;> by_cases h3 : a3 = b3 <;> simp [h1, h2, h3], fun a => by simp only [PyData.canLay0, PyData.canLayAll0, c.lay, d.lay, c3.lay, Bool.and_self], fun a => by
  simp only [PyData.depth, PyData.depthAll]
  have := c.dep a.1
  have := d.dep a.2.1
  have := c3.dep a.2.2
  omega⟩
theorem al_i : Al eI := ⟨fun _ _ => rfl, fun _ => rfl⟩
theorem al_b : Al eB := ⟨fun _ _ => rfl, fun _ => rfl⟩
omit [DecidableEq α] [DecidableEq β] [DecidableEq γ] [DecidableEq δ]
theorem Al.all (c : Al e) : ∀ a b : List α, W.alikeAll (a.map e) (b.map e) = true
  | [], [] => rfl
  | [], _ :: _ => rfl
  | _ :: _, [] => rfl
  | a :: as, b :: bs => by simp only [List.map_cons, W.alikeAll, c.ali, c.all as bs, Bool.and_self]
theorem al_t (c : Al e) : Al (eT e) := ⟨fun a b => by simp only [W.alike]; exact c.all a b, fun _ => rfl⟩
theorem al_l (c : Al e) : Al (eL e) := ⟨fun a b => by simp only [W.alike]; exact c.all a b, fun _ => rfl⟩
theorem al_p (c : Al e) (d : Al f) : Al (eP e f) := ⟨fun a b => by simp only [W.alike, W.alikeAll, c.ali, d.ali, Bool.and_self], fun _ => rfl⟩
theorem al_p3 (c : Al e) (d : Al f) (c3 : Al g) : Al (eP3 e f g) := ⟨fun a b => by simp only [W.alike, W.alikeAll, c.ali, d.ali, c3.ali, Bool.and_self], fun _ => rfl⟩
end
/-! ### operations on typed values -/
def memT {α : Type} [DecidableEq α] (u : α) (l : List α) : Bool := decide (u ∈ l)
theorem memT_iff {α : Type} [DecidableEq α] {u : α} {l : List α} : memT u l = true ↔ u ∈ l := decide_eq_true_iff

/-- a place in a list, also from behind -/
def ixOk (n : Nat) (i : Int) : Prop := -(n : Int) ≤ i ∧ i < n
def gx {α : Type} [Inhabited α] (l : List α) (i : Int) : α := if 0 ≤ i then l.getD i.toNat default else l.getD (i + l.length).toNat default
def rgI (a b : Int) : List Int := (List.range (b - a).toNat).map fun i => a + (i : Nat)
def enumI {α : Type} (l : List α) : List (Int × α) := (List.range l.length).zipWith (fun (i : Nat) x => ((i : Int), x)) l
def zip3 {α β γ : Type} : List α → List β → List γ → List (α × β × γ)
  | a :: as, b :: bs, c :: cs => (a, b, c) :: zip3 as bs cs
  | _, _, _ => []
/-- x < y as Python orders -/
def ltT {α : Type} (e : α → PyData) (a b : α) : Bool := W.dataLt (e a) (e b)
def insT {α : Type} (e : α → PyData) (x : α) : List α → List α
  | [] => [x]
  | y :: r => if ltT e y x then y :: insT e x r else x :: y :: r
def sortT {α : Type} (e : α → PyData) : List α → List α
  | [] => []
  | x :: r => insT e x (sortT e r)
def minT {α : Type} [Inhabited α] (e : α → PyData) : List α → α
  | [] => default
  | x :: xs => xs.foldl (fun a y => if ltT e y a then y else a) x
def maxT {α : Type} [Inhabited α] (e : α → PyData) : List α → α
  | [] => default
  | x :: xs => xs.foldl (fun a y => if ltT e a y then y else a) x
def minL : List Int → Int
  | [] => 0
  | x :: xs => minI x xs
def maxL : List Int → Int
  | [] => 0
  | x :: xs => maxI x xs
def gO {α : Type} [Inhabited α] (x : Option α) : α := x.getD default
def repT {α : Type} (l : List α) (k : Int) : List α := (List.replicate k.toNat l).flatten
section
variable {α β γ : Type} {e : α → PyData} {f : β → PyData} {g : γ → PyData} {l l2 : List α} {x y i j : Int} {a b : Bool}
theorem o_ixT [Inhabited α] (h : ixOk l.length i) : opIx (eT e l) (.int i) = some (.sh (e (gx l i))) := by
  show (atI (l.map e) i).map T.sh = _
  unfold atI ixN gx ixOk at *
  rw [List.length_map]
  by_cases h0 : 0 ≤ i
  · rw [if_pos h0, if_pos h.2, if_pos h0]
    have : i.toNat < l.length := by omega
    simp [List.getElem?_map, List.getElem?_eq_getElem this, List.getD_eq_getElem?_getD]
  · rw [if_neg h0, if_pos h.1, if_neg h0]
    have : (i + l.length).toNat < l.length := by omega
    simp [List.getElem?_map, List.getElem?_eq_getElem this, List.getD_eq_getElem?_getD]
theorem o_ixL [Inhabited α] (h : ixOk l.length i) : opIx (eL e l) (.int i) = some (.sh (e (gx l i))) := o_ixT (e := e) h
theorem o_lenT : bLen [eT e l] = some (.sh (.int (l.length : Int))) := by
  show some (T.sh (.int ((l.map e).length : Nat))) = _
  rw [List.length_map]
theorem o_lenL : bLen [eL e l] = some (.sh (.int (l.length : Int))) := o_lenT (e := e)
theorem o_addT (h : l.length + l2.length ≤ 16777216) : opAdd (eT e l) (eT e l2) = some (.sh (eT e (l ++ l2))) := by
  rw [opAdd_tup (by rw [List.length_map, List.length_map]; exact h), ← List.map_append]
theorem o_addL (h : l.length + l2.length ≤ 16777216) : opAdd (eL e l) (eL e l2) = some (.lst (((l ++ l2).map e).map T.sh)) := by
  rw [opAdd_list (by rw [List.length_map, List.length_map]; exact h), ← List.map_append]
theorem o_addI : opAdd (.int x) (.int y) = some (.sh (.int (x + y))) := rfl
theorem o_subI : opSub (.int x) (.int y) = some (.sh (.int (x - y))) := rfl
theorem o_mulI (h : mulFits x y = true) : opMul (.int x) (.int y) = some (.sh (.int (x * y))) := opMul_int h
theorem o_mulL (h : -18446744073709551616 < x ∧ x < 18446744073709551616) : opMul (.int x) (.int y) = some (.sh (.int (x * y))) := opMul_intL h
theorem o_mulR (h : -18446744073709551616 < y ∧ y < 18446744073709551616) : opMul (.int x) (.int y) = some (.sh (.int (x * y))) := opMul_intR h
theorem o_fdiv (h : 0 < y ∧ y < 18446744073709551616) : opFdiv (.int x) (.int y) = some (.sh (.int (x / y))) := opFdiv_int h.1 h.2
theorem o_mod (h : 0 < y) : opMod (.int x) (.int y) = some (.sh (.int (x % y))) := opMod_int h
theorem o_pow (h : 0 ≤ y ∧ y ≤ 1000000 ∧ x.natAbs < 18446744073709551616) : opPow (.int x) (.int y) = some (.sh (.int (x ^ y.toNat))) := opPow_int h
theorem o_shl (h : 0 ≤ y ∧ y ≤ 1000000 ∧ x.natAbs < 18446744073709551616) : opShl (.int x) (.int y) = some (.sh (.int (x * 2 ^ y.toNat))) := if_pos (decide_eq_true h)
theorem o_shr (h : 0 ≤ y) : opShr (.int x) (.int y) = some (.sh (.int (x / 2 ^ y.toNat))) := if_pos (decide_eq_true h)
theorem o_band : opBand (.int x) (.int y) = some (.sh (.int (Builtin.bitAnd x y))) := rfl
theorem o_bor : opBor (.int x) (.int y) = some (.sh (.int (Builtin.bitOr x y))) := rfl
theorem o_repT (h : -1000 ≤ i ∧ i ≤ 1000 ∧ l.length ≤ 1000) : opMul (eT e l) (.int i) = some (.sh (eT e (repT l i))) := by
  have : opMul (eT e l) (.int i) = some (.sh (.tuple (List.replicate i.toNat (l.map e)).flatten)) := if_pos ⟨h.1, h.2.1, by rw [List.length_map]; exact h.2.2⟩
  rw [this, repT, eT, List.map_flatten, List.map_replicate]
theorem o_repL (h : l.length * i.toNat ≤ 16777216 ∧ -1000000000 ≤ i ∧ i ≤ 1000000000) : opMul (eL e l) (.int i) = some (.lst (((repT l i).map e).map T.sh)) := by
  have : opMul (eL e l) (.int i) = some (.lst ((List.replicate i.toNat (l.map e)).flatten.map T.sh)) := if_pos ⟨by rw [List.length_map]; exact h.1, h.2⟩
  rw [this, repT, List.map_flatten (f := e), List.map_replicate]
theorem o_ltI : opLt (.int x) (.int y) = some (.sh (.bool (decide (x < y)))) := rfl
theorem o_leI : opLe (.int x) (.int y) = some (.sh (.bool (decide (x ≤ y)))) := rfl
theorem o_gtI : opGt (.int x) (.int y) = some (.sh (.bool (decide (y < x)))) := rfl
theorem o_geI : opGe (.int x) (.int y) = some (.sh (.bool (decide (y ≤ x)))) := rfl
section
variable [DecidableEq α] {n : Nat} {u v : α}
theorem Cm.shp (c : Cm n e) (hn : n ≤ 64) (u : α) : shp (e u) = true := by
  show ((e u).canLay0 && decide ((e u).depth ≤ 64)) = true
  rw [c.lay, decide_eq_true (Nat.le_trans (c.dep u) hn)]
  rfl
theorem o_eq (c : Cm n e) (hn : n ≤ 60 := by decide) : opEq (e u) (e v) = some (.sh (.bool (decide (u = v)))) := by
  rw [opEq_of (c.shp (by omega) u) (c.shp (by omega) v), c.eqv]
theorem o_ne (c : Cm n e) (hn : n ≤ 60 := by decide) : opNe (e u) (e v) = some (.sh (.bool (!decide (u = v)))) := by
  rw [opNe_of (c.shp (by omega) u) (c.shp (by omega) v), c.eqv]
theorem inD_dec (c : Cm n e) : inD (e u) (l.map e) = memT u l := by
  rw [inD_map]
  simp only [c.eqv]
  unfold memT
  rw [Bool.eq_iff_iff, List.any_eq_true]
  simp
theorem o_inT (c : Cm n e) (hn : n ≤ 60 := by decide) : opIn (e u) (eT e l) = some (.sh (.bool (memT u l))) := by
  rw [opIn_tup (c.shp (by omega) u) ((cm_l c).shp (by omega) l), inD_dec c]
theorem o_inL (c : Cm n e) (hn : n ≤ 60 := by decide) : opIn (e u) (eL e l) = some (.sh (.bool (memT u l))) := by
  rw [opIn_list (c.shp (by omega) u) ((cm_l c).shp (by omega) l), inD_dec c]
theorem o_ninT (c : Cm n e) (hn : n ≤ 60 := by decide) : opNotIn (e u) (eT e l) = some (.sh (.bool (!memT u l))) := by
  rw [opNotIn_tup (c.shp (by omega) u) ((cm_l c).shp (by omega) l), inD_dec c]
theorem o_ninL (c : Cm n e) (hn : n ≤ 60 := by decide) : opNotIn (e u) (eL e l) = some (.sh (.bool (!memT u l))) := by
  rw [opNotIn_list (c.shp (by omega) u) ((cm_l c).shp (by omega) l), inD_dec c]
theorem cmpOk_of (c : Cm n e) (c2 : Al e) (hn : n ≤ 60) : cmpOk (e u) (e v) = true := by
  unfold cmpOk
  rw [c2.ali, c2.nn, c.lay, c.lay, decide_eq_true (Nat.le_trans (c.dep u) hn)]
  rfl
theorem opCmp_of {pi : Int → Int → Bool} {pd : PyData → PyData → Bool} {p q : PyData} (hpi : ∀ i, p ≠ .int i) (h : cmpOk p q = true) : opCmp pi pd p q = some (.sh (.bool (pd p q))) := by
  cases p with
  | int i => exact absurd rfl (hpi i)
  | _ =>
    unfold opCmp
    simp only [h, if_pos]
theorem o_lt (c : Cm n e) (c2 : Al e) (hi : ∀ i, e u ≠ .int i) (hn : n ≤ 60 := by decide) : opLt (e u) (e v) = some (.sh (.bool (ltT e u v))) := opCmp_of hi (cmpOk_of c c2 hn)
theorem o_gt (c : Cm n e) (c2 : Al e) (hi : ∀ i, e u ≠ .int i) (hn : n ≤ 60 := by decide) : opGt (e u) (e v) = some (.sh (.bool (ltT e v u))) := opCmp_of hi (cmpOk_of c c2 hn)
theorem o_le (c : Cm n e) (c2 : Al e) (hi : ∀ i, e u ≠ .int i) (hn : n ≤ 60 := by decide) : opLe (e u) (e v) = some (.sh (.bool (!ltT e v u))) := opCmp_of hi (cmpOk_of c c2 hn)
theorem o_ge (c : Cm n e) (c2 : Al e) (hi : ∀ i, e u ≠ .int i) (hn : n ≤ 60 := by decide) : opGe (e u) (e v) = some (.sh (.bool (!ltT e u v))) := opCmp_of hi (cmpOk_of c c2 hn)
end
theorem insD_map (x : α) : ∀ l : List α, insD (e x) (l.map e) = (insT e x l).map e
  | [] => rfl
  | y :: r => by
    rw [List.map_cons]
    unfold insD insT ltT
    split
    · rw [insD_map x r]; rfl
    · rfl
theorem sortD_map : ∀ l : List α, sortD (l.map e) = (sortT e l).map e
  | [] => rfl
  | x :: r => by
    rw [List.map_cons]
    unfold sortD sortT
    rw [sortD_map r, insD_map]
/-- what sorted takes -/
structure So (e : α → PyData) : Prop where
  al : Al e
  lay : ∀ a, (e a).canLay0 = true
  dep : ∀ a, (e a).depth ≤ 59
theorem lays_of (h : ∀ a, (e a).canLay0 = true) : ∀ l : List α, PyData.canLayAll0 (l.map e) = true
  | [] => rfl
  | a :: as => by simp only [List.map_cons, PyData.canLayAll0, h a, lays_of h as, Bool.and_self]
theorem deps_of {n : Nat} (h : ∀ a, (e a).depth ≤ n) : ∀ l : List α, PyData.depthAll (l.map e) ≤ n
  | [] => by simp [PyData.depthAll]
  | a :: as => by
    simp only [List.map_cons, PyData.depthAll]
    exact Nat.max_le.mpr ⟨h a, deps_of h as⟩
theorem alike2_of (c : Al e) (l : List α) : alikeAll2 (l.map e) = true := by
  unfold alikeAll2
  simp only [List.all_map, List.all_eq_true, Function.comp_def]
  exact fun a _ b _ => c.ali a b
theorem sortable_of (c : So e) (l : List α) : sortable (l.map e) = true := by
  unfold sortable
  rw [alike2_of c.al, lays_of c.lay, decide_eq_true (Nat.le_trans (deps_of c.dep l) (by decide))]
  simp only [Bool.true_and, Bool.and_true, List.all_map, List.all_eq_true, Function.comp_def]
  intro a _
  rw [c.al.nn a]
  rfl
theorem o_sortedL (h : sortable (l.map e) = true) : bSorted [eL e l] = some (.lst (((sortT e l).map e).map T.sh)) := by
  rw [← sortD_map]
  exact if_pos h
theorem o_sortedT (h : sortable (l.map e) = true) : bSorted [eT e l] = some (.lst (((sortT e l).map e).map T.sh)) := by
  rw [← sortD_map]
  exact if_pos h
theorem o_tupL : bTuple [eL e l] = some (.sh (eT e l)) := rfl
theorem o_tupT : bTuple [eT e l] = some (.sh (eT e l)) := rfl
theorem o_lstL : bList [eL e l] = some (.lst ((l.map e).map T.sh)) := rfl
theorem o_lstT : bList [eT e l] = some (.lst ((l.map e).map T.sh)) := rfl
theorem o_slT {lo hi : Option Int} : opSl (eT e l) lo hi = some (.sh (eT e (cutA l lo hi))) := by
  show some (T.sh (.tuple (cutA (l.map e) lo hi))) = _
  unfold cutA
  rw [List.length_map, ← List.map_drop, ← List.map_take]
theorem o_slL {lo hi : Option Int} : opSl (eL e l) lo hi = some (.lst (((cutA l lo hi).map e).map T.sh)) := by
  show some (T.lst ((cutA (l.map e) lo hi).map T.sh)) = _
  unfold cutA
  rw [List.length_map, ← List.map_drop, ← List.map_take]
theorem o_sum {ns : List Int} : bSum [eL eI ns] = some (.sh (.int ns.sum)) := bSum_ints
theorem o_all {bs : List Bool} : bAll [eL eB bs] = some (.sh (.bool (bs.all id))) := bAll_bools
theorem o_any {bs : List Bool} : bAny [eL eB bs] = some (.sh (.bool (bs.any id))) := bAny_bools
theorem intsOf_map (ns : List Int) : intsOf (ns.map PyData.int) = some ns := by
  have := ints_map' (l := ns) (g := id)
  simpa using this
theorem o_minLI {ns : List Int} (h : ns ≠ []) : bMin [eL eI ns] = some (.sh (.int (minL ns))) := by
  cases ns with
  | nil => exact absurd rfl h
  | cons n ns =>
    show (match intsOf ((n :: ns).map PyData.int) with
    | some (n :: ns) => some (T.sh (.int (minI n ns)))
    | some [] => none
    | none => _) = _
    rw [intsOf_map]
    rfl
theorem o_maxLI {ns : List Int} (h : ns ≠ []) : bMax [eL eI ns] = some (.sh (.int (maxL ns))) := by
  cases ns with
  | nil => exact absurd rfl h
  | cons n ns =>
    show (match intsOf ((n :: ns).map PyData.int) with
    | some (n :: ns) => some (T.sh (.int (maxI n ns)))
    | some [] => none
    | none => _) = _
    rw [intsOf_map]
    rfl
theorem minT_int : ∀ ns : List Int, ∀ n, (ns.map PyData.int).foldl (fun a y => if W.dataLt y a then y else a) (.int n) = .int (minI n ns)
  | [], n => rfl
  | m :: ns, n => by
    rw [List.map_cons, List.foldl_cons]
    have h : W.dataLt (.int m) (.int n) = decide (m < n) := W.dataLt_int ..
    have : (if W.dataLt (.int m) (.int n) = true then PyData.int m else .int n) = .int (if m < n then m else n) := by
      rw [h]
      by_cases c : m < n <;> simp [c]
    rw [this, minT_int ns]
    rfl
theorem maxT_int : ∀ ns : List Int, ∀ n, (ns.map PyData.int).foldl (fun a y => if W.dataLt a y then y else a) (.int n) = .int (maxI n ns)
  | [], n => rfl
  | m :: ns, n => by
    rw [List.map_cons, List.foldl_cons]
    have h : W.dataLt (.int n) (.int m) = decide (n < m) := W.dataLt_int ..
    have : (if W.dataLt (.int n) (.int m) = true then PyData.int m else .int n) = .int (if n < m then m else n) := by
      rw [h]
      by_cases c : n < m <;> simp [c]
    rw [this, maxT_int ns]
    rfl
theorem cmpAll_of (c : So e) (l : List α) : cmpAll (l.map e) = true := by
  unfold cmpAll
  have h1 : SeqAt.shaped (.list (l.map e)) = true := by
    show ((PyData.list (l.map e)).canLay0 && decide ((PyData.list (l.map e)).depth ≤ 64)) = true
    simp only [PyData.canLay0, PyData.depth, lays_of c.lay, Bool.true_and, decide_eq_true_eq]
    have := deps_of c.dep l
    exact decide_eq_true (Nat.le_trans (Nat.succ_le_succ this) (show 60 ≤ 64 by decide))
  rw [alike2_of c.al, h1, decide_eq_true (Nat.le_trans (deps_of c.dep l) (by decide))]
  simp only [Bool.true_and, Bool.and_true, List.all_map, List.all_eq_true, Function.comp_def]
  intro a _
  rw [c.al.nn a]
  rfl
theorem o_minTI {ns : List Int} (h : ns ≠ []) : bMin [eT eI ns] = some (.sh (.int (minL ns))) := by
  cases ns with
  | nil => exact absurd rfl h
  | cons n ns =>
    have hc : cmpAll ((n :: ns).map PyData.int) = true := cmpAll_ints
    show (if cmpAll ((n :: ns).map PyData.int) then some (T.sh (W.minD (.int n) (ns.map PyData.int))) else none) = _
    rw [if_pos hc]
    unfold W.minD
    rw [minT_int]
    rfl
theorem o_maxTI {ns : List Int} (h : ns ≠ []) : bMax [eT eI ns] = some (.sh (.int (maxL ns))) := by
  cases ns with
  | nil => exact absurd rfl h
  | cons n ns =>
    have hc : cmpAll ((n :: ns).map PyData.int) = true := cmpAll_ints
    show (if cmpAll ((n :: ns).map PyData.int) then some (T.sh (W.maxD (.int n) (ns.map PyData.int))) else none) = _
    rw [if_pos hc]
    unfold W.maxD
    rw [maxT_int]
    rfl
theorem o_min2 : bMin [.int i, .int j] = some (.sh (.int (if j < i then j else i))) := rfl
theorem o_max2 : bMax [.int i, .int j] = some (.sh (.int (if j > i then j else i))) := rfl
theorem minD_map : ∀ (l : List α) (x : α), (l.map e).foldl (fun a y => if W.dataLt y a then y else a) (e x) = e (l.foldl (fun a y => if ltT e y a then y else a) x)
  | [], x => rfl
  | y :: l, x => by
    rw [List.map_cons, List.foldl_cons, List.foldl_cons, ← minD_map l]
    congr 1
    unfold ltT
    split <;> rfl
theorem maxD_map : ∀ (l : List α) (x : α), (l.map e).foldl (fun a y => if W.dataLt a y then y else a) (e x) = e (l.foldl (fun a y => if ltT e a y then y else a) x)
  | [], x => rfl
  | y :: l, x => by
    rw [List.map_cons, List.foldl_cons, List.foldl_cons, ← maxD_map l]
    congr 1
    unfold ltT
    split <;> rfl
/-- an encoding that is no int -/
def NoInt (e : α → PyData) : Prop := ∀ a i, e a ≠ .int i
theorem intsOf_no (h : NoInt e) (x : α) (l : List α) : intsOf ((x :: l).map e) = none := by
  rw [List.map_cons]
  generalize hx : e x = d
  cases d with
  | int i => exact absurd hx (h x i)
  | _ => rfl
theorem o_minL [Inhabited α] (c : So e) (hi : NoInt e) (h : l ≠ []) : bMin [eL e l] = some (.sh (e (minT e l))) := by
  cases l with
  | nil => exact absurd rfl h
  | cons x l =>
    have h1 := intsOf_no hi x l
    have hc := cmpAll_of c (x :: l)
    unfold bMin eL
    simp only [h1]
    rw [List.map_cons] at hc ⊢
    simp only [hc, if_pos]
    unfold W.minD
    rw [minD_map]
    rfl
theorem o_maxL [Inhabited α] (c : So e) (hi : NoInt e) (h : l ≠ []) : bMax [eL e l] = some (.sh (e (maxT e l))) := by
  cases l with
  | nil => exact absurd rfl h
  | cons x l =>
    have h1 := intsOf_no hi x l
    have hc := cmpAll_of c (x :: l)
    unfold bMax eL
    simp only [h1]
    rw [List.map_cons] at hc ⊢
    simp only [hc, if_pos]
    unfold W.maxD
    rw [maxD_map]
    rfl
/-! what is gone through -/
theorem rgD_map (x y : Int) : rgD x y = (rgI x y).map eI := by
  unfold rgD rgI
  rw [List.map_map]
  rfl
theorem zipD_map : ∀ (l : List α) (m : List β), zipD (l.map e) (m.map f) = (l.zip m).map (eP e f)
  | [], m => by simp [zipD]
  | _ :: _, [] => by simp [zipD]
  | a :: l, b :: m => by simp only [List.map_cons, zipD, List.zip_cons_cons, zipD_map l m]
theorem zip3D_map : ∀ (l : List α) (m : List β) (k : List γ), zip3D (l.map e) (m.map f) (k.map g) = (zip3 l m k).map (eP3 e f g)
  | [], m, k => by simp [zip3D, zip3]
  | _ :: _, [], k => by simp [zip3D, zip3]
  | _ :: _, _ :: _, [] => by simp [zip3D, zip3]
  | a :: l, b :: m, c :: k => by simp only [List.map_cons, zip3D, zip3, zip3D_map l m k]
theorem enumD_from : ∀ (l : List α) (n : Nat), enumD n (l.map e) = ((List.range' n l.length).zipWith (fun (i : Nat) x => ((i : Int), x)) l).map (eP eI e)
  | [], n => rfl
  | a :: l, n => by simp only [List.map_cons, enumD, List.length_cons, List.range'_succ, List.zipWith_cons_cons, enumD_from l (n + 1)]
theorem enumD_map (l : List α) : enumD 0 (l.map e) = (enumI l).map (eP eI e) := by
  rw [enumD_from, enumI, List.range_eq_range']
theorem mAppend_map {v : α} (h : l.length < 16777216) : mAppend ((l.map e).map T.sh) (.sh (e v)) = some (((l ++ [v]).map e).map T.sh, .sh .none) := by
  rw [mAppend_of (by rw [List.length_map, List.length_map]; exact h)]
  simp
theorem mExtend_map (h : l.length + l2.length < 16777216) : mExtend ((l.map e).map T.sh) (.lst ((l2.map e).map T.sh)) = some (((l ++ l2).map e).map T.sh, .sh .none) := by
  rw [mExtend_of (by rw [List.length_map, List.length_map, List.length_map, List.length_map]; exact h)]
  simp
theorem o_repr {d : PyData} (h : reprOk d = true) : bRepr [d] = some (.sh (.str d.shown)) := bRepr_of h
/-- x[k] = v -/
def setI (l : List α) (k : Int) (v : α) : List α := l.set (if 0 ≤ k then k.toNat else (k + l.length).toNat) v
theorem ixN_of {n : Nat} {k : Int} (h : ixOk n k) : ixN n k = some (if 0 ≤ k then k.toNat else (k + n).toNat) := by
  unfold ixN ixOk at *
  by_cases h0 : 0 ≤ k
  · rw [if_pos h0, if_pos h.2, if_pos h0]
  · rw [if_neg h0, if_pos h.1, if_neg h0]
end
end Tv
set_option Elab.async false
set_option linter.all false
set_option maxRecDepth 100000
set_option maxHeartbeats 4000000
namespace Tv
open PySem L2 Pv
section
variable {α β : Type} {Γ Γ1 Γ2 : Cxt} {f : FE} {t t' r : T} {e : α → PyData} {l l2 : List α} {own : List Nat} {ds : List PyData}
theorem EW.as (h : EW f Γ t Γ1) (q : t = t') : EW f Γ t' Γ1 := q ▸ h
theorem EW.rev (h : ED f Γ (eL e l) Γ1) : EW (eRevS f) Γ (.lst ((l.reverse.map e).map T.sh)) Γ1 := by
  have := ew_revS h rfl
  rw [List.map_reverse]
  exact this
theorem EW.revT (h : ED f Γ (eT e l) Γ1) : EW (eRevS f) Γ (.sh (eT e l.reverse)) Γ1 := by
  have := ew_revS h rfl
  rw [eT, List.map_reverse]
  exact this
theorem castT : eT e l = eT eD (l.map e) := by
  unfold eT
  rw [List.map_map]
  rfl
theorem castL : eL e l = eL eD (l.map e) := by
  unfold eL
  rw [List.map_map]
  rfl
theorem EW.mapE {β : Type} {g : β → α} {m : List β} (h : EW f Γ (.lst (m.map fun x => T.sh (e (g x)))) Γ1) : EW f Γ (.lst (((m.map g).map e).map T.sh)) Γ1 := by
  rw [List.map_map, List.map_map]
  exact h
theorem EW.mapI (h : EW f Γ (.lst (l.map fun x => T.sh (e x))) Γ1) : EW f Γ (.lst ((l.map e).map T.sh)) Γ1 := by
  rw [List.map_map]
  exact h
theorem o_ofO [Inhabited α] {op : PyData → PyData → Option T} {d : PyData} {x : Option α} (h : Option.isSome x = true) (ho : op (e (gO x)) d = some r) : op (eO e x) d = some r := by
  cases x with
  | none => cases h
  | some x => exact ho
theorem o_ofO2 [Inhabited α] {op : PyData → PyData → Option T} {d : PyData} {x : Option α} (h : Option.isSome x = true) (ho : op d (e (gO x)) = some r) : op d (eO e x) = some r := by
  cases x with
  | none => cases h
  | some x => exact ho
theorem o_isO {x : Option α} (hn : ∀ a, isNone (e a) = false) : opIs (eO e x) .none = some (.sh (.bool (Option.isNone x))) := by
  rw [opIs_none]
  cases x with
  | none => rfl
  | some x =>
    show some (T.sh (.bool (isNone (e x)))) = _
    rw [hn]
    rfl
theorem o_isnotO {x : Option α} (hn : ∀ a, isNone (e a) = false) : opIsNot (eO e x) .none = some (.sh (.bool (!Option.isNone x))) := by
  rw [opIsNot_none]
  cases x with
  | none => rfl
  | some x =>
    show some (T.sh (.bool (!isNone (e x)))) = _
    rw [hn]
    rfl
theorem o_truL : truth (eL e l) = some (!l.isEmpty) := by
  show some (!(l.map e).isEmpty) = _
  cases l <;> rfl
theorem o_truT : truth (eT e l) = some (!l.isEmpty) := by
  show some (!(l.map e).isEmpty) = _
  cases l <;> rfl
def idxT [DecidableEq α] (l : List α) (x : α) : Int := ((l.findIdx fun y => decide (y = x) : Nat) : Int)
theorem o_index [DecidableEq α] {n : Nat} {x : α} (c : Cm n e) (h : x ∈ l) (hn : n ≤ 60 := by decide) : mIndex (l.map e) (e x) = some (.sh (.int (idxT l x))) := by
  have h1 : SeqAt.shaped (.list (l.map e)) = true := (cm_l c).shp (by omega) l
  have h2 : SeqAt.shaped (e x) = true := c.shp (by omega) x
  have h3 : (l.map e).findIdx? (fun z => PyData.eqv z (e x)) = l.findIdx? fun y => decide (y = x) := by
    rw [List.findIdx?_map]
    congr 1
    funext y
    exact c.eqv y x
  unfold mIndex idxT
  rw [h1, h2, h3]
  have : l.findIdx? (fun y => decide (y = x)) = some (l.findIdx fun y => decide (y = x)) := by
    rw [List.findIdx?_eq_some_iff_findIdx_eq]
    exact ⟨List.findIdx_lt_length_of_exists ⟨x, h, decide_eq_true rfl⟩, rfl⟩
  rw [this]
  rfl
theorem o_count {ns : List Int} {k : Int} : mCount (ns.map PyData.int) (.int k) = some (.sh (.int ((List.count k ns : Nat) : Int))) := by
  unfold mCount
  simp only [intsOf_map]
  rfl
theorem ixN_map {k : Int} (h : ixOk l.length k) : ixN ((l.map e).map T.sh).length k = some (if 0 ≤ k then k.toNat else (k + l.length).toNat) := by
  rw [List.length_map, List.length_map]
  exact ixN_of h
theorem setI_map (l : List α) (k : Int) (v : α) : (Sl.od ((setI l k v).map e)).Sat (some (.lst (((l.map e).map T.sh).set (if 0 ≤ k then k.toNat else (k + l.length).toNat) (.sh (e v))))) := by
  show some _ = some _
  rw [setI, List.map_set, List.map_set]
theorem erase_map {α β : Type} (f : α → β) : ∀ (l : List α) (k : Nat), (l.map f).eraseIdx k = (l.eraseIdx k).map f
  | [], _ => rfl
  | _ :: _, 0 => rfl
  | a :: l, k + 1 => by simp only [List.map_cons, List.eraseIdx_cons_succ, erase_map f l k]
theorem mPopAt_map [Inhabited α] {k : Int} (h : 0 ≤ k ∧ k < l.length ∧ l.length < 16777216) : mPopAt ((l.map e).map T.sh) (.sh (.int k)) = some (((l.eraseIdx k.toNat).map e).map T.sh, .sh (e (gx l k))) := by
  obtain ⟨h0, h1, h2⟩ := h
  have h63 : i63 k = true := by
    unfold i63
    rw [decide_eq_true (by omega), decide_eq_true (by omega)]
    rfl
  have hk : seqIndex? k ((l.map e).map T.sh).length = some k.toNat := by
    rw [List.length_map, List.length_map]
    have := (ixN_seq (ixN_of (n := l.length) (k := k) ⟨by omega, h1⟩)).1
    rw [if_pos h0] at this
    exact this
  have hl : k.toNat < l.length := by omega
  have hg : ((l.map e).map T.sh)[k.toNat]? = some (.sh (e (gx l k))) := by
    rw [List.getElem?_map, List.getElem?_map, List.getElem?_eq_getElem hl]
    unfold gx
    rw [if_pos h0, List.getD_eq_getElem?_getD, List.getElem?_eq_getElem hl]
    rfl
  unfold mPopAt
  simp only [h63, if_pos, hk, hg]
  rw [erase_map, erase_map]
theorem free_own (h : (own.all fun v => match Γ[v]? with
    | some .fr => true
    | some (.sh _) => true
    | _ => false) = true) : Free Γ own := fun v hv => by
  rw [List.all_eq_true] at h
  have := h v hv
  split at this
  · rename_i e; exact ⟨_, e, trivial⟩
  · rename_i e; exact ⟨_, e, trivial⟩
  · cases this
theorem own_fr (h : (own.all fun v => match Γ[v]? with
    | some .fr => true
    | _ => false) = true) : ∀ v ∈ own, Γ[v]? = some .fr := fun v hv => by
  rw [List.all_eq_true] at h
  have := h v hv
  split at this
  · rename_i e; exact e
  · cases this
end
section
variable {p q w : FS} {P : Fl → Pv.Env → Prop} {c : FB} {Γ Γ1 : Cxt} {b : Bool}
/-- a test that is never met -/
theorem s_ifF (hc : BV c Γ b Γ1) (hb : b = false) (hq : S q Γ1 P) : S (sIf c p q) Γ P := fun η k => by
  obtain ⟨η1, e1, k1⟩ := hc η k
  obtain ⟨fl, η2, e2, k2⟩ := hq η1 k1
  refine ⟨fl, η2, ?_, k2⟩
  unfold sIf
  simp only [e1, Rs.bind_ok, hb, Bool.false_eq_true, if_false, e2]
theorem s_ifseqF (hc : BV c Γ b Γ1) (hb : b = false) (hq : S (sSeq q w) Γ1 P) : S (sSeq (sIf c p q) w) Γ P := fun η k => by
  obtain ⟨η1, e1, k1⟩ := hc η k
  obtain ⟨fl, η2, e2, k2⟩ := hq η1 k1
  refine ⟨fl, η2, ?_, k2⟩
  rw [← e2]
  unfold sSeq sIf
  simp only [e1, Rs.bind_ok, hb, Bool.false_eq_true, if_false]
end
theorem SV.cx {p : FS} {Γ Γ1 Γ2 : Cxt} (h : SV p Γ Γ1) (e : Γ1 = Γ2) : SV p Γ Γ2 := e ▸ h
/-! ### the hand -/
def drF (G : T → List PyData → Option (T × T)) (t : T) (many : Int) : Int × T := match G t [.int many] with
  | some (.sh (.int f), t') => (f, t')
  | _ => (0, t)
def DrW (t : T) (many : Int) : Prop := Hand t ∧ 1 ≤ many ∧ many < 18446744073709551616
/-- a def that draws -/
def Draws (G : T → List PyData → Option (T × T)) : Prop := ∀ {t : T} {many : Int}, 1 ≤ many → many < 18446744073709551616 → Hand t → ∃ f t', G t [.int many] = some (.sh (.int f), t') ∧ Hand t' ∧ 0 ≤ f ∧ f < many
theorem drF_eq {G : T → List PyData → Option (T × T)} (h : Draws G) {t : T} {many : Int} (k : DrW t many) : G t [.int many] = some (.sh (.int (drF G t many).1), (drF G t many).2) := by
  obtain ⟨f, t', e, _⟩ := h k.2.1 k.2.2 k.1
  unfold drF
  rw [e]
theorem drF_ok {G : T → List PyData → Option (T × T)} (h : Draws G) {t : T} {many : Int} (k : DrW t many) : Hand (drF G t many).2 ∧ 0 ≤ (drF G t many).1 ∧ (drF G t many).1 < many := by
  obtain ⟨f, t', e, r⟩ := h k.2.1 k.2.2 k.1
  unfold drF
  rw [e]
  exact r
/-! ### texts; None or a value, compared -/
theorem eqv_str {a b : Str} : PyData.eqv (.str a) (.str b) = decide (a = b) := by
  simp only [PyData.eqv]
  first
    | rfl
    | (rw [Bool.eq_iff_iff]; simp)
theorem shp_S {a : Str} (h : (eS a).canLay0 = true) : shp (eS a) = true := by
  unfold shp SeqAt.shaped
  rw [h]
  rfl
theorem o_eqS {a b : Str} (h : (eS a).canLay0 = true ∧ (eS b).canLay0 = true) : opEq (eS a) (eS b) = some (.sh (.bool (decide (a = b)))) := by
  rw [opEq_of (shp_S h.1) (shp_S h.2)]
  exact congrArg (fun z => some (T.sh (.bool z))) eqv_str
theorem o_neS {a b : Str} (h : (eS a).canLay0 = true ∧ (eS b).canLay0 = true) : opNe (eS a) (eS b) = some (.sh (.bool (!decide (a = b)))) := by
  rw [opNe_of (shp_S h.1) (shp_S h.2)]
  exact congrArg (fun z => some (T.sh (.bool (!z)))) eqv_str
theorem canLayAll_S : ∀ {l : List Str}, (∀ x ∈ l, (eS x).canLay0 = true) → PyData.canLayAll0 (l.map eS) = true
  | [], _ => rfl
  | x :: l, h => by
    rw [List.map_cons]
    simp only [PyData.canLayAll0, h x List.mem_cons_self, canLayAll_S fun y hy => h y (List.mem_cons_of_mem _ hy), Bool.and_self]
theorem depthAll_S : ∀ {l : List Str}, PyData.depthAll (l.map eS) = 0
  | [] => rfl
  | x :: l => by
    rw [List.map_cons]
    simp only [PyData.depthAll, depthAll_S, eS, PyData.depth, Nat.max_self]
theorem shpAll_S {l : List Str} (h : ∀ x ∈ l, (eS x).canLay0 = true) : shpAll (l.map eS) = true := by
  show ((PyData.list (l.map eS)).canLay0 && decide ((PyData.list (l.map eS)).depth ≤ 64)) = true
  have h1 : (PyData.list (l.map eS)).canLay0 = true := by
    show PyData.canLayAll0 (l.map eS) = true
    exact canLayAll_S h
  rw [h1, decide_eq_true]
  · rfl
  · simp only [PyData.depth, depthAll_S]; omega
theorem inD_S {u : Str} {l : List Str} : inD (eS u) (l.map eS) = memT u l := by
  rw [inD_map]
  show (l.any fun x => PyData.eqv (.str x) (.str u)) = memT u l
  simp only [eqv_str]
  rw [Bool.eq_iff_iff, List.any_eq_true, memT_iff]
  exact ⟨fun ⟨x, hx, e⟩ => by rw [← of_decide_eq_true e]; exact hx, fun h => ⟨u, h, decide_eq_true rfl⟩⟩
theorem o_inTS {u : Str} {l : List Str} (h : (eS u).canLay0 = true ∧ ∀ x ∈ l, (eS x).canLay0 = true) : opIn (eS u) (eT eS l) = some (.sh (.bool (memT u l))) := by
  rw [opIn_tup (shp_S h.1) (shpAll_S h.2), inD_S]
theorem o_ninTS {u : Str} {l : List Str} (h : (eS u).canLay0 = true ∧ ∀ x ∈ l, (eS x).canLay0 = true) : opNotIn (eS u) (eT eS l) = some (.sh (.bool (!memT u l))) := by
  unfold opNotIn
  show (if shp (eS u) && shpAll (l.map eS) then _ else _) = _
  rw [shp_S h.1, shpAll_S h.2, ← inD_S]
  rfl
theorem o_inLS {u : Str} {l : List Str} (h : (eS u).canLay0 = true ∧ ∀ x ∈ l, (eS x).canLay0 = true) : opIn (eS u) (eL eS l) = some (.sh (.bool (memT u l))) := by
  rw [opIn_list (shp_S h.1) (shpAll_S h.2), inD_S]
section
variable {α : Type} [DecidableEq α] {n : Nat} {e : α → PyData} {o : Option α} {v : α}
theorem eqv_eO (c : Cm n e) (hn : ∀ a, PyData.eqv .none (e a) = false) : PyData.eqv (eO e o) (e v) = decide (o = some v) := by
  cases o with
  | none => rw [show eO e none = .none from rfl, hn, decide_eq_false (by simp)]
  | some x =>
    rw [show eO e (some x) = e x from rfl, c.eqv, Bool.eq_iff_iff]
    simp
theorem shp_eO (c : Cm n e) (hn : n ≤ 60) : shp (eO e o) = true := by
  cases o with
  | none => rfl
  | some x => exact c.shp (by omega) x
theorem o_eqO1 (c : Cm n e) (hz : ∀ a, PyData.eqv .none (e a) = false) (hn : n ≤ 60 := by decide) : opEq (eO e o) (e v) = some (.sh (.bool (decide (o = some v)))) := by
  rw [opEq_of (shp_eO c hn) (c.shp (by omega) v), eqv_eO c hz]
theorem o_neO1 (c : Cm n e) (hz : ∀ a, PyData.eqv .none (e a) = false) (hn : n ≤ 60 := by decide) : opNe (eO e o) (e v) = some (.sh (.bool (!decide (o = some v)))) := by
  rw [opNe_of (shp_eO c hn) (c.shp (by omega) v), eqv_eO c hz]
end
end Tv
set_option Elab.async false
set_option linter.all false
set_option maxRecDepth 100000
set_option maxHeartbeats 4000000
/-! plain lemmas for what tgen prints -/
namespace Tv
open PySem L2 Pv
section
variable {σ α β ρ : Type}
theorem wfold_inv {step : σ → α → σ} {W : σ → α → Prop} (I : σ → Prop) : ∀ {l : List α} {s : σ}, I s → (∀ s x, x ∈ l → I s → W s x ∧ I (step s x)) → WFold step W s l ∧ I (l.foldl step s)
  | [], s, h, _ => ⟨trivial, h⟩
  | x :: l, s, h, st => by
    obtain ⟨a, b⟩ := st s x List.mem_cons_self h
    obtain ⟨c, d⟩ := wfold_inv I b fun s y hy => st s y (List.mem_cons_of_mem _ hy)
    exact ⟨⟨a, c⟩, d⟩
/-- with what is behind: the prefix gone through -/
theorem wfold_pre {step : σ → α → σ} {W : σ → α → Prop} {L : List α} (I : List α → σ → Prop) : ∀ {l p : List α} {s : σ}, L = p ++ l → I p s → (∀ p x q s, L = p ++ x :: q → I p s → W s x ∧ I (p ++ [x]) (step s x)) → WFold step W s l ∧ I L (l.foldl step s)
  | [], p, s, e, h, _ => by
    rw [List.append_nil] at e
    subst e
    exact ⟨trivial, h⟩
  | x :: l, p, s, e, h, st => by
    obtain ⟨a, b⟩ := st p x l s e h
    obtain ⟨c, d⟩ := wfold_pre (L := L) I (l := l) (p := p ++ [x]) (by rw [e]; simp) b st
    exact ⟨⟨a, c⟩, d⟩
theorem wfoldL_inv {step : σ → α → Lp σ ρ} {W : σ → α → Prop} (I : σ → Prop) : ∀ {l : List α} {s : σ}, I s → (∀ s x, x ∈ l → I s → W s x ∧ ∃ s', step s x = .nx s' ∧ I s') → WFoldL step W s l ∧ ∃ s', foldL step s l = .ok s' ∧ I s'
  | [], s, h, _ => ⟨trivial, s, rfl, h⟩
  | x :: l, s, h, st => by
    obtain ⟨a, s', e, b⟩ := st s x List.mem_cons_self h
    obtain ⟨c, s2, e2, d⟩ := wfoldL_inv I b fun s y hy => st s y (List.mem_cons_of_mem _ hy)
    refine ⟨⟨a, ?_⟩, s2, ?_, d⟩
    · rw [e]; exact c
    · unfold foldL; rw [e]; exact e2
/-- what is asked alone -/
theorem wfoldL_of {step : σ → α → Lp σ ρ} {W : σ → α → Prop} (I : σ → Prop) : ∀ {l : List α} {s : σ}, I s → (∀ s x, x ∈ l → I s → W s x ∧ ∀ s', step s x = .nx s' → I s') → WFoldL step W s l
  | [], s, h, _ => trivial
  | x :: l, s, h, st => by
    obtain ⟨a, b⟩ := st s x List.mem_cons_self h
    refine ⟨a, ?_⟩
    cases e : step s x with
    | nx s' => exact wfoldL_of I (b s' e) fun s y hy => st s y (List.mem_cons_of_mem _ hy)
    | _ => trivial
/-- a look at each: the first that is wrong tells -/
theorem foldL_all {step : Unit → α → Lp Unit Bool} (c : α → Bool) : ∀ {l : List α}, (∀ x ∈ l, step () x = if c x = true then .nx () else .ret false) → exC (foldL step () l) (fun _ => true) (fun r => r) = l.all c
  | [], _ => rfl
  | x :: l, h => by
    unfold foldL
    rw [h x List.mem_cons_self, List.all_cons]
    cases c x with
    | true => exact foldL_all c fun y hy => h y (List.mem_cons_of_mem _ hy)
    | false => rfl
theorem mapS_inv {step : σ → α → β × σ} {W : σ → α → Prop} (I : σ → Prop) (P : β → Prop) : ∀ {l : List α} {s : σ}, I s → (∀ s x, x ∈ l → I s → W s x ∧ P (step s x).1 ∧ I (step s x).2) → WMapS step W s l ∧ I (mapS step s l).2 ∧ (mapS step s l).1.length = l.length ∧ ∀ y ∈ (mapS step s l).1, P y
  | [], s, h, _ => ⟨trivial, h, rfl, by simp [mapS]⟩
  | x :: l, s, h, st => by
    obtain ⟨a, p, b⟩ := st s x List.mem_cons_self h
    obtain ⟨c, d, e, f⟩ := mapS_inv I P b fun s y hy => st s y (List.mem_cons_of_mem _ hy)
    refine ⟨⟨a, c⟩, d, by simp only [mapS, List.length_cons, e], fun y hy => ?_⟩
    simp only [mapS, List.mem_cons] at hy
    rcases hy with rfl | hy
    · exact p
    · exact f y hy
end
/-! ### numbers in a row -/
theorem mem_rgI {a b x : Int} : x ∈ rgI a b ↔ a ≤ x ∧ x < b := by
  unfold rgI
  rw [List.mem_map]
  constructor
  · rintro ⟨i, hi, rfl⟩
    have := List.mem_range.mp hi
    omega
  · rintro ⟨h1, h2⟩
    exact ⟨(x - a).toNat, List.mem_range.mpr (by omega), by omega⟩
theorem len_rgI {a b : Int} : (rgI a b).length = (b - a).toNat := by
  unfold rgI
  rw [List.length_map, List.length_range]
theorem gx_nat {α : Type} [Inhabited α] {l : List α} {i : Nat} (h : i < l.length) : gx l (i : Int) = l[i] := by
  unfold gx
  rw [if_pos (by omega), Int.toNat_natCast, List.getD_eq_getElem?_getD, List.getElem?_eq_getElem h]
  rfl
theorem gx_mem {α : Type} [Inhabited α] {l : List α} {i : Int} (h0 : 0 ≤ i) (h : i < l.length) : gx l i ∈ l := by
  obtain ⟨k, rfl⟩ : ∃ k : Nat, i = k := ⟨i.toNat, by omega⟩
  rw [gx_nat (by omega)]
  exact List.getElem_mem _
theorem gx_last {α : Type} [Inhabited α] {l : List α} {x : α} : gx (l ++ [x]) (-(1 : Int)) = x := by
  unfold gx
  rw [if_neg (by decide)]
  have : (-(1 : Int) + ((l ++ [x]).length : Nat)).toNat = l.length := by
    rw [List.length_append, List.length_singleton]
    omega
  rw [this, List.getD_eq_getElem?_getD, List.getElem?_append_right (Nat.le_refl _)]
  simp
/-! ### order -/
section
variable {α : Type} [DecidableEq α] {n : Nat} {e : α → PyData} {a b c : α} {l l2 : List α}
theorem Cm.inj (c : Cm n e) {a b : α} (h : e a = e b) : a = b := by
  have := c.eqv a b
  rw [h] at this
  have h2 := c.eqv b b
  rw [this] at h2
  exact of_decide_eq_true (h2.trans (decide_eq_true rfl))
omit [DecidableEq α] in
theorem lt_irr : ltT e a a = false := PyProof.Rows.lex_irrefl _
omit [DecidableEq α] in
theorem lt_trans (h : ltT e a b = true) (k : ltT e b c = true) : ltT e a c = true := PyProof.Rows.lex_trans _ _ _ h k
omit [DecidableEq α] in
theorem lt_asym (h : ltT e a b = true) : ltT e b a = false := by
  cases k : ltT e b a with
  | false => rfl
  | true =>
    have := lt_trans h k
    rw [lt_irr] at this
    cases this
theorem lt_tot (cm : Cm n e) (ca : Al e) (h : a ≠ b) : ltT e a b = true ∨ ltT e b a = true := by
  cases h1 : ltT e a b with
  | true => exact .inl rfl
  | false =>
    cases h2 : ltT e b a with
    | true => exact .inr rfl
    | false =>
      have h1' : leD (e b) (e a) = true := by rw [leD_def]; unfold ltT at h1; rw [h1]; rfl
      have h2' : leD (e a) (e b) = true := by rw [leD_def]; unfold ltT at h2; rw [h2]; rfl
      exact absurd (cm.inj (leD_anti (ca.ali a b) h2' h1')) h
abbrev Srt (e : α → PyData) (l : List α) : Prop := l.Pairwise fun a b => ltT e a b = true
theorem srt_eq : ∀ {l l2 : List α}, Srt e l → Srt e l2 → (∀ x, x ∈ l ↔ x ∈ l2) → l = l2
  | [], [], _, _, _ => rfl
  | [], b :: l2, _, _, h => absurd ((h b).mpr List.mem_cons_self) (by simp)
  | a :: l, [], _, _, h => absurd ((h a).mp List.mem_cons_self) (by simp)
  | a :: l, b :: l2, h1, h2, h => by
    rw [Srt, List.pairwise_cons] at h1 h2
    have hab : a = b := by
      rcases List.mem_cons.mp ((h a).mp List.mem_cons_self) with rfl | ha
      · rfl
      · rcases List.mem_cons.mp ((h b).mpr List.mem_cons_self) with rfl | hb
        · rfl
        · have k1 := h2.1 a ha
          have k2 := h1.1 b hb
          rw [lt_asym k1] at k2
          cases k2
    subst hab
    rw [srt_eq h1.2 h2.2 fun x => ?_]
    constructor
    · intro hx
      rcases List.mem_cons.mp ((h x).mp (List.mem_cons_of_mem _ hx)) with rfl | hx2
      · have := h1.1 x hx
        rw [lt_irr] at this
        cases this
      · exact hx2
    · intro hx
      rcases List.mem_cons.mp ((h x).mpr (List.mem_cons_of_mem _ hx)) with rfl | hx2
      · have := h2.1 x hx
        rw [lt_irr] at this
        cases this
      · exact hx2
omit [DecidableEq α] in
theorem insT_perm (x : α) : ∀ l : List α, (insT e x l).Perm (x :: l)
  | [] => .refl _
  | y :: r => by
    unfold insT
    split
    · exact ((insT_perm x r).cons y).trans (.swap x y r)
    · exact .refl _
omit [DecidableEq α] in
theorem sortT_perm : ∀ l : List α, (sortT e l).Perm l
  | [] => .refl _
  | x :: r => (insT_perm x _).trans ((sortT_perm r).cons x)
omit [DecidableEq α] in
theorem mem_sortT {x : α} : x ∈ sortT e l ↔ x ∈ l := (sortT_perm l).mem_iff
omit [DecidableEq α] in
theorem len_sortT : (sortT e l).length = l.length := (sortT_perm l).length_eq
omit [DecidableEq α] in
/-- what sortT gives ascends (not strictly) -/
theorem sortT_le : ∀ l : List α, (sortT e l).Pairwise fun a b => ltT e b a = false := fun l => by
  have h := sortD_sorted (l.map e)
  rw [sortD_map, List.pairwise_map] at h
  exact h.imp fun {a b} k => by
    have k : (!W.dataLt (e b) (e a)) = true := k
    unfold ltT
    simpa using k
theorem sortT_srt (cm : Cm n e) (ca : Al e) (h : l.Nodup) : Srt e (sortT e l) := by
  have h1 := sortT_le (e := e) l
  have h2 : (sortT e l).Nodup := (sortT_perm l).nodup_iff.mpr h
  exact (h1.and h2).imp fun {a b} ⟨k, hne⟩ => by
    rcases lt_tot cm ca hne with h | h
    · exact h
    · rw [k] at h; cases h
theorem sortT_same (cm : Cm n e) (ca : Al e) (h : l.Nodup) (h2 : l2.Nodup) (hm : ∀ x, x ∈ l ↔ x ∈ l2) : sortT e l = sortT e l2 :=
  srt_eq (sortT_srt cm ca h) (sortT_srt cm ca h2) fun x => by rw [mem_sortT, mem_sortT]; exact hm x
theorem srt_nodup (h : Srt e l) : l.Nodup := h.imp fun {a b} k e => by
  subst e
  rw [lt_irr] at k
  cases k
end
@[simp] theorem map_idf {α : Type} {l : List α} : l.map (fun x => x) = l := List.map_id _
@[simp] theorem all_mapId {α : Type} {l : List α} {f : α → Bool} : (l.map f).all id = l.all f := by
  rw [List.all_map]; rfl
@[simp] theorem any_mapId {α : Type} {l : List α} {f : α → Bool} : (l.map f).any id = l.any f := by
  rw [List.any_map]; rfl
theorem while_inv {σ : Type} {c : σ → Bool} {step : σ → σ} {Wc W : σ → Prop} (I : σ → Prop) (m : σ → Nat) (st : ∀ s, I s → Wc s ∧ (c s = true → W s ∧ I (step s) ∧ m (step s) < m s)) : ∀ {n : Nat} {s : σ}, I s → m s < n → WWhile c step Wc W n s ∧ I (whileF c step n s) ∧ c (whileF c step n s) = false
  | 0, s, _, h => absurd h (Nat.not_lt_zero _)
  | n + 1, s, hI, h => by
    obtain ⟨a, b⟩ := st s hI
    unfold WWhile whileF
    by_cases hc : c s = true
    · obtain ⟨w, i, l⟩ := b hc
      obtain ⟨r1, r2, r3⟩ := while_inv I m st (n := n) i (by omega)
      rw [if_pos hc]
      exact ⟨⟨a, fun _ => ⟨w, r1⟩⟩, r2, r3⟩
    · rw [if_neg hc]
      exact ⟨⟨a, fun h => absurd h hc⟩, hI, Bool.eq_false_iff.mpr hc⟩
theorem _root_.Pv.ROk.ok {w n : Nat} {d : PyData} (h : ROk w n d) (hw : w ≤ 16777216) (hn : n ≤ 60) : reprOk d = true := by
  unfold reprOk
  rw [h.sh, h.lay, decide_eq_true (Nat.le_trans h.dep hn), decide_eq_true (Nat.le_trans h.sz hw)]
  rfl
end Tv
set_option Elab.async false
set_option linter.all false
set_option maxRecDepth 100000
set_option maxHeartbeats 4000000
/-! fractions, typed -/
namespace Tv
open PySem L2 Pv PyProof.Rows
def frP (q : Rat) : Int × Int := (q.num, ((q.den : Nat) : Int))
theorem frP_inj {p q : Rat} (h : frP p = frP q) : p = q := by
  unfold frP at h
  simp only [Prod.mk.injEq] at h
  exact Rat.ext h.1 (by omega)
/-- Euclid's loop -/
theorem euclidT {c : Int × Int → Bool} {step : Int × Int → Int × Int} {Wc W : Int × Int → Prop} (hc : ∀ a b : Int, 0 ≤ b → c (a, b) = decide (0 < b)) (hs : ∀ a b, step (a, b) = (b, a % b)) (hWc : ∀ s, Wc s) (hW : ∀ a b : Int, 0 < b → W (a, b)) :
    ∀ (k : Nat) (a b : Int) (n : Nat), 0 < b → b < 2 ^ k → 2 * k + 2 ≤ n → whileF c step n (a, b) = (((Int.gcd a b : Nat) : Int), 0) ∧ WWhile c step Wc W n (a, b)
  | k, a, b, 0, _, _, h => absurd h (by omega)
  | k, a, b, 1, _, _, h => absurd h (by omega)
  | k, a, b, n + 2, h0, hk, hn => by
    have r0 := Int.emod_nonneg a (show b ≠ 0 by omega)
    have r1 := Int.emod_lt_of_pos a h0
    have hg := gcd_step a b
    have c0 : c (a, b) = true := by rw [hc a b (by omega)]; exact decide_eq_true h0
    have cz : ∀ x : Int, c (x, 0) = false := fun x => by rw [hc x 0 (by omega)]; rfl
    unfold whileF WWhile
    rw [if_pos c0, hs]
    generalize a % b = r at r0 r1 hg ⊢
    by_cases hr : r = 0
    · subst hr
      have : Int.gcd a b = b.natAbs := by rw [← hg, Int.gcd_zero_right]
      rw [this]
      unfold whileF WWhile
      rw [if_neg (by rw [cz]; simp)]
      refine ⟨by rw [show ((b.natAbs : Nat) : Int) = b by omega], hWc _, fun _ => ⟨hW a b h0, hWc _, fun h => ?_⟩⟩
      rw [cz] at h; cases h
    · have hr0 : 0 < r := by omega
      have c1 : c (b, r) = true := by rw [hc b r (by omega)]; exact decide_eq_true hr0
      unfold whileF WWhile
      rw [if_pos c1, hs]
      have s0 := Int.emod_nonneg b (show r ≠ 0 by omega)
      have s1 := half_step hr0 r1
      have hg2 := gcd_step b r
      rw [← hg, ← hg2]
      by_cases hss : b % r = 0
      · have : 1 ≤ n := by
          cases k with
          | zero => have : (2 : Int) ^ 0 = 1 := rfl; omega
          | succ k => omega
        obtain ⟨n', rfl⟩ : ∃ n', n = n' + 1 := ⟨n - 1, by omega⟩
        unfold whileF WWhile
        rw [hss, if_neg (by rw [cz]; simp)]
        refine ⟨by rw [Int.gcd_zero_right, show ((r.natAbs : Nat) : Int) = r by omega], hWc _, fun _ => ⟨hW a b h0, hWc _, fun _ => ⟨hW b r hr0, hWc _, fun h => ?_⟩⟩⟩
        rw [cz] at h; cases h
      · cases k with
        | zero => have : (2 : Int) ^ 0 = 1 := rfl; omega
        | succ k =>
          have hp : (2 : Int) ^ (k + 1) = 2 * 2 ^ k := by rw [Int.pow_succ, Int.mul_comm]
          obtain ⟨i1, i2⟩ := euclidT hc hs hWc hW k r (b % r) n (by omega) (by omega) (by omega)
          exact ⟨i1, hWc _, fun _ => ⟨hW a b h0, hWc _, fun _ => ⟨hW b r hr0, i2⟩⟩⟩
theorem euclid_ok {c : Int × Int → Bool} {step : Int × Int → Int × Int} {Wc W : Int × Int → Prop} (hc : ∀ a b : Int, 0 ≤ b → c (a, b) = decide (0 < b)) (hs : ∀ a b, step (a, b) = (b, a % b)) (hWc : ∀ s, Wc s) (hW : ∀ a b : Int, 0 < b → W (a, b)) {a b : Int} (h0 : 0 < b) (h2 : b < 1000000000000000000) :
    whileF c step 1000 (a, b) = (((Int.gcd a b : Nat) : Int), 0) ∧ WWhile c step Wc W 1000 (a, b) :=
  euclidT hc hs hWc hW 60 a b 1000 h0 (by have := pow60; omega) (by omega)
theorem frP_mk {a b : Int} (hb : 0 < b) : (a / ((Int.gcd a b : Nat) : Int), b / ((Int.gcd a b : Nat) : Int)) = frP (mkRat a b.toNat) := by
  obtain ⟨e1, e2⟩ := mkRat_fr (a := a) hb
  unfold frP
  rw [e1, e2]
theorem absI_nat (n : Nat) : (if (n : Int) < 0 then -(n : Int) else n) = n := if_neg (by omega)
theorem gcd_absI (a b : Int) : Int.gcd (if a < 0 then -a else a) b = Int.gcd a b := by
  split
  · exact Int.neg_gcd
  · rfl
/-- what makes a fraction -/
structure Mk (F : Int → Int → Int × Int) (W : Int → Int → Prop) : Prop where
  f : ∀ a b : Int, 0 < b → b < 1000000000000000000 → F a b = frP (mkRat a b.toNat)
  w : ∀ a b : Int, 0 < b → b < 1000000000000000000 → W a b
section
variable {F : Int → Int → Int × Int} {W : Int → Int → Prop} {p q : Rat}
theorem mulFits_nice (hp : Nice p) (x : Int) : mulFits p.num x = true := mulFits_l (by have := hp.nu; omega)
theorem mulFits_den (hp : Nice p) (x : Int) : mulFits ((p.den : Nat) : Int) x = true := mulFits_l (by have := hp.de; omega)
theorem Mk.plus (m : Mk F W) (hp : Nice p) (hq : Nice q) : F (((frP p).1 * (frP q).2) + ((frP q).1 * (frP p).2)) ((frP p).2 * (frP q).2) = frP (p + q) ∧ W (((frP p).1 * (frP q).2) + ((frP q).1 * (frP p).2)) ((frP p).2 * (frP q).2) := by
  obtain ⟨d1, d2⟩ := den_mul hp hq
  unfold frP
  refine ⟨?_, m.w _ _ d1 d2⟩
  rw [m.f _ _ d1 d2, mk_plus]
  rfl
theorem Mk.less (m : Mk F W) (hp : Nice p) (hq : Nice q) : F (((frP p).1 * (frP q).2) - ((frP q).1 * (frP p).2)) ((frP p).2 * (frP q).2) = frP (p - q) ∧ W (((frP p).1 * (frP q).2) - ((frP q).1 * (frP p).2)) ((frP p).2 * (frP q).2) := by
  obtain ⟨d1, d2⟩ := den_mul hp hq
  unfold frP
  refine ⟨?_, m.w _ _ d1 d2⟩
  rw [m.f _ _ d1 d2, mk_less]
  rfl
theorem below_fr : decide ((frP p).1 * (frP q).2 < (frP q).1 * (frP p).2) = decide (p < q) := decide_eq_decide.mpr (Rat.lt_iff p q).symm
end
/-! ### the fractions of one bottom -/
def sq (d : Nat) (n : Int) : Rat := mkRat n d
section
variable {d : Nat} {a b : Int}
theorem sq_add (hd : d ≠ 0) : sq d a + sq d b = sq d (a + b) := by
  unfold sq
  rw [Rat.mkRat_add_mkRat _ _ hd hd]
  have : a * (d : Int) + b * d = (a + b) * d := by rw [Int.add_mul]
  rw [this]
  exact Rat.mkRat_mul_right hd
theorem sq_lt (hd : 0 < d) : (sq d a < sq d b) ↔ a < b := by
  have hd' : (0 : Rat) < (d : Rat) := by
    have := (Rat.natCast_lt_natCast (a := 0) (b := d)).mpr hd
    simpa using this
  have hz : (d : Rat) ≠ 0 := fun e => by rw [e] at hd'; exact absurd hd' Rat.lt_irrefl
  unfold sq
  rw [Rat.mkRat_eq_div, Rat.mkRat_eq_div, Rat.div_lt_iff hd', Rat.div_mul_cancel hz, Rat.intCast_lt_intCast]
theorem sq_inj (hd : 0 < d) (h : sq d a = sq d b) : a = b := by
  rcases Int.lt_trichotomy a b with k | k | k
  · have := (sq_lt hd).mpr k; rw [h] at this; exact absurd this (Rat.lt_irrefl)
  · exact k
  · have := (sq_lt hd).mpr k; rw [h] at this; exact absurd this (Rat.lt_irrefl)
end
end Tv
set_option Elab.async false
set_option linter.all false
set_option maxRecDepth 100000
namespace K18
open PySem L2 Pv
/-! what each def gives, over plain data -/
/-- _law_mixed(cell, turn, number) -/
def B__law_mixed : FS := (sSeq (sAsg (eBin opMod (eCall bInt (aCons (eBin opMul (eBin opAdd (eBin opAdd (eBin opMod (eCallV bInt 0) (eC (.int 2147483647))) (eBinR opMul (eC (.int 7919)) 1)) (eC (.int 1))) (eC (.int 48271))) aNil)) (eC (.int 2147483647))) (gN 2)) (sSeq (sAsg (eBin opMod (eCall bInt (aCons (eBinL' opMul 2 (eBin opAdd (eBinL' opFdiv 2 (eC (.int 1009))) (eC (.int 69621)))) aNil)) (eC (.int 2147483647))) (gN 2)) (sRet (eBin opFdiv (eBin opMod (eCall bInt (aCons (eBinL' opMul 2 (eBin opAdd (eBinL' opFdiv 2 (eC (.int 2003))) (eC (.int 40692)))) aNil)) (eC (.int 2147483399))) (eC (.int 16))))))
def G__law_mixed : List PyData → Option T := gP 3 2 B__law_mixed
/-- _law_draw(hand, many, found, cells, at, cell) -/
def B__law_draw : FS := (sSeq (sAsg (eBin opAdd (eBinL' opIx 0 (eC (.int 3))) (eC (.int 1))) (gSub 0 (eC (.int 3)))) (sSeq (sIf (bT (eBin opGt (eBinL' opIx 0 (eC (.int 2))) (eC (.int 0)))) (sSeq (sAsg (eBinR opMod (eCall bInt (aCons (eBinL' opIx 0 (eC (.int 2))) aNil)) 1) (gN 2)) (sSeq (sAsg (eBinR opFdiv (eBinL' opIx 0 (eC (.int 2))) 1) (gSub 0 (eC (.int 2)))) (sRetV 2))) sNil) (sSeq (sPar 3 4 (aCons (eBinL' opIx 0 (eC (.int 0))) (aCons (eBinL' opIx 0 (eC (.int 1))) aNil))) (sSeq (sAsg (eBinL' opAdd 4 (eC (.int 1))) (gSub 0 (eC (.int 1)))) (sSeq (sIf (bT (eBin opEq (eCallV bLen 3) (eC (.int 0)))) (sRet (eBinR opMod (eCall bInt (aCons (eDef G__law_mixed (aCons (eC (.int 0)) (aCons (eBinL' opIx 0 (eC (.int 3))) aNil))) aNil)) 1)) sNil) (sSeq (sAsg (eBinL' opIx 3 (eBin opMod (eCallV bInt 4) (eCallV bLen 3))) (gN 5)) (sSeq (sIf (bAnd (bT (eBinL' opLt 4 (eCallV bLen 3))) (bT (eBin opGe (eCallV bAbs 5) (eBin opPow (eC (.int 10)) (eC (.int 18)))))) (sSeq (sAsg (eBinR opFdiv (eCallV bAbs 5) 1) (gSub 0 (eC (.int 2)))) (sRet (eBinR opMod (eCall bInt (aCons (eCallV bAbs 5) aNil)) 1))) sNil) (sRet (eBinR opMod (eCall bInt (aCons (eDef G__law_mixed (aCons (eV 5) (aCons (eBinL' opIx 0 (eC (.int 3))) aNil))) aNil)) 1)))))))))
def G__law_draw : T → List PyData → Option (T × T) := gIO 6 2 B__law_draw
/-- _law_case(hand, many, likes, member, one) -/
def B__law_case : FS := (sSeq (sAsg (eBin opAdd (eC (.int 1)) (eDefIO G__law_draw 0 (aCons (eC (.int 5)) aNil))) (gN 1)) (sSeq (sAsg (eComp [3] (iR1 (eBin opAdd (eC (.int 1)) (eDefIO G__law_draw 0 (aCons (eC (.int 5)) aNil)))) (gN 3) bTrue (eCall bTuple (aCons (eComp [4] (iR1 (eV 1)) (gN 4) (bT (eBin opGt (eDefIO G__law_draw 0 (aCons (eC (.int 5)) aNil)) (eC (.int 1)))) (eV 4)) aNil))) (gN 2)) (sSeq (sIf (bT (eBin opEq (eDefIO G__law_draw 0 (aCons (eC (.int 3)) aNil)) (eC (.int 0)))) (sAsg (eBinL' opAdd 2 (eSlV 2 oNone (oSome (eC (.int 2))))) (gN 2)) sNil) (sRet (eTup (aCons (eV 1) (aCons (eBin opAdd (eC (.int 1)) (eDefIO G__law_draw 0 (aCons (eCall bMin (aCons (eV 1) (aCons (eC (.int 3)) aNil))) aNil))) (aCons (eCallV bTuple 2) aNil))))))))
def G__law_case : T → List PyData → Option (T × T) := gIO 5 1 B__law_case
/-- _law_hand(script, cell) -/
def B__law_hand : FS := (sRet (eLst (aCons (eFz (eComp [1] (iE (eSlV 0 oNone (oSome (eC (.int 63))))) (gN 1) bTrue (eCallV bInt 1))) (aCons (eC (.int 0)) (aCons (eC (.int 0)) (aCons (eC (.int 0)) aNil))))))
def G__law_hand : List PyData → Option T := gP 2 1 B__law_hand
/-- _law_lots(some, found, one, lot) -/
def B__law_lots : FS := (sSeq (sAsg (eLst (aCons (eTup aNil) aNil)) (gN 1)) (sSeq (sForV 0 (gN 2) (sAsg (eBinL' opAdd 1 (eCompV [3] 1 (gN 3) bTrue (eBinL' opAdd 3 (eTup (aCons (eV 2) aNil))))) (gN 1))) (sRet (eCallV bSorted 1))))
def G__law_lots : List PyData → Option T := gP 4 1 B__law_lots
/-- _law_choices(case, lot) -/
def B__law_choices : FS := (sRet (eComp [1] (iE (eDef G__law_lots (aCons (eLstRg1 (eBinL' opIx 0 (eC (.int 0)))) aNil))) (gN 1) (bT (eBin opEq (eCallV bLen 1) (eBinL' opIx 0 (eC (.int 1))))) (eV 1)))
def G__law_choices : List PyData → Option T := gP 2 1 B__law_choices
/-- _law_is_less(one, other) -/
def B__law_is_less : FS := (sRet (eBin opLt (eBin opMul (eBinL' opIx 0 (eC (.int 0))) (eBinL' opIx 1 (eC (.int 1)))) (eBin opMul (eBinL' opIx 1 (eC (.int 0))) (eBinL' opIx 0 (eC (.int 1))))))
def G__law_is_less : List PyData → Option T := gP 2 2 B__law_is_less
/-- _law_low(top, bottom, one, other) -/
def B__law_low : FS := (sSeq (sPar 2 3 (aCons (eCallV bAbs 0) (aCons (eV 1) aNil))) (sSeq (sWhile 1000 (bT (eBinL' opGt 3 (eC (.int 0)))) (sPar 2 3 (aCons (eV 3) (aCons (eBinR opMod (eCallV bInt 2) 3) aNil)))) (sRet (eTup (aCons (eBinLR opFdiv 0 2) (aCons (eBinLR opFdiv 1 2) aNil))))))
def G__law_low : List PyData → Option T := gP 4 2 B__law_low
/-- _law_minus(one, other) -/
def B__law_minus : FS := (sRet (eDef G__law_low (aCons (eBin opSub (eBin opMul (eBinL' opIx 0 (eC (.int 0))) (eBinL' opIx 1 (eC (.int 1)))) (eBin opMul (eBinL' opIx 1 (eC (.int 0))) (eBinL' opIx 0 (eC (.int 1))))) (aCons (eBin opMul (eBinL' opIx 0 (eC (.int 1))) (eBinL' opIx 1 (eC (.int 1)))) aNil))))
def G__law_minus : List PyData → Option T := gP 2 2 B__law_minus
/-- _law_common(wishes, some, one) -/
def B__law_common : FS := (sRet (eCall bLen (aCons (eCompV [2] 1 (gN 2) (bT (eBinLR opIn 2 0)) (eV 2)) aNil)))
def G__law_common : List PyData → Option T := gP 3 2 B__law_common
/-- _law_plus(one, other) -/
def B__law_plus : FS := (sRet (eDef G__law_low (aCons (eBin opAdd (eBin opMul (eBinL' opIx 0 (eC (.int 0))) (eBinL' opIx 1 (eC (.int 1)))) (eBin opMul (eBinL' opIx 1 (eC (.int 0))) (eBinL' opIx 0 (eC (.int 1))))) (aCons (eBin opMul (eBinL' opIx 0 (eC (.int 1))) (eBinL' opIx 1 (eC (.int 1)))) aNil))))
def G__law_plus : List PyData → Option T := gP 2 2 B__law_plus
/-- _law_total(parts, found, part) -/
def B__law_total : FS := (sSeq (sAsg (eTup (aCons (eC (.int 0)) (aCons (eC (.int 1)) aNil))) (gN 1)) (sSeq (sForV 0 (gN 2) (sAsg (eDef G__law_plus (aCons (eV 1) (aCons (eV 2) aNil))) (gN 1))) (sRetV 1)))
def G__law_total : List PyData → Option T := gP 3 1 B__law_total
/-- _law_sum(case, choice, parts, row, place) -/
def B__law_sum : FS := (sSeq (sAsg (eLst aNil) (gN 2)) (sSeq (sFor (iE (eBinL' opIx 0 (eC (.int 2)))) (gN 3) (sExpr (eMt1 mExtend 2 (eComp [4] (iR1 (eDef G__law_common (aCons (eV 3) (aCons (eV 1) aNil)))) (gN 4) bTrue (eTup (aCons (eC (.int 1)) (aCons (eBinL' opAdd 4 (eC (.int 1))) aNil))))))) (sRet (eDef G__law_total (aCons (eV 2) aNil)))))
def G__law_sum : List PyData → Option T := gP 5 2 B__law_sum
/-- _law_exchange(case, choice, many, seats, wishes, bound, here, out, into, one, other) -/
def B__law_exchange : FS := (sSeq (sAsg (eV 0) (gTupD 3 (gsCons (gN 2) (gsCons (gN 3) (gsCons (gN 4) gsNil))))) (sSeq (sPar 5 6 (aCons (eDef G__law_low (aCons (eCallV bLen 4) (aCons (eBinLR opMul 3 3) aNil))) (aCons (eDef G__law_sum (aCons (eV 0) (aCons (eV 1) aNil))) aNil))) (sSeq (sForV 1 (gN 7) (sFor (iE (eComp [9] (iR1 (eV 2)) (gN 9) (bT (eBinLR opNotIn 9 1)) (eV 9))) (gN 8) (sSeq (sAsg (eCall bTuple (aCons (eCall bSorted (aCons (eBin opAdd (eCompV [9] 1 (gN 9) (bT (eBinLR opNe 9 7)) (eV 9)) (eLst (aCons (eV 8) aNil))) aNil)) aNil)) (gN 10)) (sIf (bNot (bTru (eDef G__law_is_less (aCons (eDef G__law_minus (aCons (eDef G__law_sum (aCons (eV 0) (aCons (eV 10) aNil))) (aCons (eV 6) aNil))) (aCons (eV 5) aNil))))) (sRet (eTup (aCons (eV 7) (aCons (eV 8) aNil)))) sNil)))) (sRet (eC .none)))))
def G__law_exchange : List PyData → Option T := gP 11 2 B__law_exchange
/-- _law_groups(case, lot) -/
def B__law_groups : FS := (sRet (eComp [1] (iE (eDef G__law_lots (aCons (eLstRg1 (eCall bLen (aCons (eBinL' opIx 0 (eC (.int 2))) aNil))) aNil))) (gN 1) (bT (eBin opGt (eCallV bLen 1) (eC (.int 0)))) (eV 1)))
def G__law_groups : List PyData → Option T := gP 2 1 B__law_groups
/-- _law_is_wronged(case, choice, word, s, group, many, seats, wishes, alike, one, member, union) -/
def B__law_is_wronged : FS := (sSeq (sAsg (eV 0) (gTupD 3 (gsCons (gN 5) (gsCons (gN 6) (gsCons (gN 7) gsNil))))) (sSeq (sAsg (eComp [9] (iR1 (eV 5)) (gN 9) (bTru (eCall bAll (aCons (eCompV [10] 4 (gN 10) bTrue (eBinL' opIn 9 (eBinLR opIx 7 10))) aNil))) (eV 9)) (gN 8)) (sSeq (sIf (bOr (bT (eBin opLt (eBinR opMul (eCallV bLen 4) 6) (eBinL' opMul 3 (eCallV bLen 7)))) (bT (eBinR opLt (eCallV bLen 8) 3))) (sRet (eC (.bool false))) sNil) (sSeq (sIf (bT (eBinL' opEq 2 (eC (.str "each")))) (sRet (eCall bAll (aCons (eCompV [10] 4 (gN 10) bTrue (eBinR opLt (eDef G__law_common (aCons (eBinLR opIx 7 10) (aCons (eV 1) aNil))) 3)) aNil))) sNil) (sSeq (sAsg (eCompV [9] 1 (gN 9) (bTru (eCall bAny (aCons (eCompV [10] 4 (gN 10) bTrue (eBinL' opIn 9 (eBinLR opIx 7 10))) aNil))) (eV 9)) (gN 11)) (sRet (eAnd (eBinR opLt (eCallV bLen 11) 3) (eOr (eBinL' opEq 2 (eC (.str "all"))) (eBinL' opEq 3 (eC (.int 1)))))))))))
def G__law_is_wronged : List PyData → Option T := gP 12 5 B__law_is_wronged
/-- _law_wronged(case, choice, word, s, group) -/
def B__law_wronged : FS := (sSeq (sFor (iR2 (eC (.int 1)) (eBin opAdd (eBinL' opIx 0 (eC (.int 1))) (eC (.int 1)))) (gN 3) (sFor (iE (eDef G__law_groups (aCons (eV 0) aNil))) (gN 4) (sIf (bTru (eDef G__law_is_wronged (aCons (eV 0) (aCons (eV 1) (aCons (eV 2) (aCons (eV 3) (aCons (eV 4) aNil))))))) (sRet (eTup (aCons (eV 3) (aCons (eV 4) aNil)))) sNil))) (sRet (eC .none)))
def G__law_wronged : List PyData → Option T := gP 5 3 B__law_wronged
/-- is_integer(thing) -/
def B_is_integer : FS := (sRet (eAnd (eIsV [.int] 0) (eNotV (eIsV [.bool] 0))))
def G_is_integer : List PyData → Option T := gP 1 1 B_is_integer
/-- is_within(thing, least, most) -/
def B_is_within : FS := (sRet (eAnd (eDef G_is_integer (aCons (eV 0) aNil)) (eChain (fun i j => decide (i ≤ j)) (fun i j => decide (i ≤ j)) (eV 1) (eV 0) (eV 2))))
def G_is_within : List PyData → Option T := gP 3 3 B_is_within
/-- is_lot(thing, many, last, item) -/
def B_is_lot : FS := (sSeq (sIf (bNot (bTru (eIsV [.tuple] 0))) (sRet (eC (.bool false))) sNil) (sSeq (sAsg (eUn opNeg (eC (.int 1))) (gN 2)) (sSeq (sForV 0 (gN 3) (sSeq (sIf (bNot (bTru (eDef G_is_within (aCons (eV 3) (aCons (eBinL' opAdd 2 (eC (.int 1))) (aCons (eBinL' opSub 1 (eC (.int 1))) aNil)))))) (sRet (eC (.bool false))) sNil) (sAsg (eV 3) (gN 2)))) (sRet (eC (.bool true))))))
def G_is_lot : List PyData → Option T := gP 4 2 B_is_lot
/-- is_table(thing, size) -/
def B_is_table : FS := (sRet (eAnd (eIsV [.tuple] 0) (eBinR opEq (eCallV bLen 0) 1)))
def G_is_table : List PyData → Option T := gP 2 2 B_is_table
/-- is_case(thing, row) -/
def B_is_case : FS := (sSeq (sIf (bOr (bNot (bTru (eDef G_is_table (aCons (eV 0) (aCons (eC (.int 3)) aNil))))) (bOr (bNot (bTru (eDef G_is_within (aCons (eBinL' opIx 0 (eC (.int 0))) (aCons (eC (.int 1)) (aCons (eC (.int 7)) aNil)))))) (bNot (bTru (eDef G_is_within (aCons (eBinL' opIx 0 (eC (.int 1))) (aCons (eC (.int 1)) (aCons (eBinL' opIx 0 (eC (.int 0))) aNil)))))))) (sRet (eC (.bool false))) sNil) (sSeq (sIf (bOr (bNot (bTru (eIs [.tuple] (eBinL' opIx 0 (eC (.int 2)))))) (bNot (bT (eChain (fun i j => decide (i ≤ j)) (fun i j => decide (i ≤ j)) (eC (.int 1)) (eCall bLen (aCons (eBinL' opIx 0 (eC (.int 2))) aNil)) (eC (.int 8)))))) (sRet (eC (.bool false))) sNil) (sRet (eCall bAll (aCons (eComp [1] (iE (eBinL' opIx 0 (eC (.int 2)))) (gN 1) bTrue (eDef G_is_lot (aCons (eV 1) (aCons (eBinL' opIx 0 (eC (.int 0))) aNil)))) aNil)))))
def G_is_case : List PyData → Option T := gP 2 1 B_is_case
/-- check_case(case) -/
def B_check_case : FS := (sIf (bNot (bTru (eDef G_is_case (aCons (eV 0) aNil)))) sBad sNil)
def G_check_case : List PyData → Option T := gP 1 1 B_check_case
/-- lots_of(many, found, number, lot, size) -/
def B_lots_of : FS := (sSeq (sAsg (eLst (aCons (eTup aNil) aNil)) (gN 1)) (sSeq (sFor (iR1 (eV 0)) (gN 2) (sAsg (eBinL' opAdd 1 (eCompV [3] 1 (gN 3) bTrue (eBinL' opAdd 3 (eTup (aCons (eV 2) aNil))))) (gN 1))) (sRet (eComp [4, 3] (iE (eCall bSorted (aCons (eCompV [3] 1 (gN 3) bTrue (eTup (aCons (eCallV bLen 3) (aCons (eV 3) aNil)))) aNil))) (gTupD 2 (gsCons (gN 4) (gsCons (gN 3) gsNil))) bTrue (eV 3)))))
def G_lots_of : List PyData → Option T := gP 5 1 B_lots_of
/-- choices_in(case, lot) -/
def B_choices_in : FS := (sRet (eComp [1] (iE (eDef G_lots_of (aCons (eBinL' opIx 0 (eC (.int 0))) aNil))) (gN 1) (bT (eBin opEq (eCallV bLen 1) (eBinL' opIx 0 (eC (.int 1))))) (eV 1)))
def G_choices_in : List PyData → Option T := gP 2 1 B_choices_in
/-- is_below(one, other) -/
def B_is_below : FS := (sRet (eBin opLt (eBin opMul (eBinL' opIx 0 (eC (.int 0))) (eBinL' opIx 1 (eC (.int 1)))) (eBin opMul (eBinL' opIx 1 (eC (.int 0))) (eBinL' opIx 0 (eC (.int 1))))))
def G_is_below : List PyData → Option T := gP 2 2 B_is_below
/-- both(one, other, thing) -/
def B_both : FS := (sRet (eCall bLen (aCons (eCompV [2] 0 (gN 2) (bT (eBinLR opIn 2 1)) (eV 2)) aNil)))
def G_both : List PyData → Option T := gP 3 2 B_both
/-- liked_by(case, choice, row) -/
def B_liked_by : FS := (sRet (eComp [2] (iE (eBinL' opIx 0 (eC (.int 2)))) (gN 2) bTrue (eDef G_both (aCons (eV 2) (aCons (eV 1) aNil)))))
def G_liked_by : List PyData → Option T := gP 3 2 B_liked_by
/-- common(one, other) -/
def B_common : FS := (sSeq (sWhile 1000 (bT (eBinL' opGt 1 (eC (.int 0)))) (sPar 0 1 (aCons (eV 1) (aCons (eBinLR opMod 0 1) aNil)))) (sRet (eCallV bAbs 0)))
def G_common : List PyData → Option T := gP 2 2 B_common
/-- made(top, bottom, divisor) -/
def B_made : FS := (sSeq (sAsg (eDef G_common (aCons (eV 0) (aCons (eV 1) aNil))) (gN 2)) (sRet (eTup (aCons (eBinLR opFdiv 0 2) (aCons (eBinLR opFdiv 1 2) aNil)))))
def G_made : List PyData → Option T := gP 3 2 B_made
/-- plus(one, other) -/
def B_plus : FS := (sRet (eDef G_made (aCons (eBin opAdd (eBin opMul (eBinL' opIx 0 (eC (.int 0))) (eBinL' opIx 1 (eC (.int 1)))) (eBin opMul (eBinL' opIx 1 (eC (.int 0))) (eBinL' opIx 0 (eC (.int 1))))) (aCons (eBin opMul (eBinL' opIx 0 (eC (.int 1))) (eBinL' opIx 1 (eC (.int 1)))) aNil))))
def G_plus : List PyData → Option T := gP 2 2 B_plus
/-- total_of(fractions, found, one) -/
def B_total_of : FS := (sSeq (sAsg (eTup (aCons (eC (.int 0)) (aCons (eC (.int 1)) aNil))) (gN 1)) (sSeq (sForV 0 (gN 2) (sAsg (eDef G_plus (aCons (eV 1) (aCons (eV 2) aNil))) (gN 1))) (sRetV 1)))
def G_total_of : List PyData → Option T := gP 3 1 B_total_of
/-- raw_sum(case, choice, found, many, number) -/
def B_raw_sum : FS := (sSeq (sAsg (eC (.tuple [(.int 0), (.int 1)])) (gN 2)) (sSeq (sFor (iE (eDef G_liked_by (aCons (eV 0) (aCons (eV 1) aNil)))) (gN 3) (sAsg (eDef G_plus (aCons (eV 2) (aCons (eDef G_total_of (aCons (eComp [4] (iR2 (eC (.int 1)) (eBinL' opAdd 3 (eC (.int 1)))) (gN 4) bTrue (eTup (aCons (eC (.int 1)) (aCons (eV 4) aNil)))) aNil)) aNil))) (gN 2))) (sRetV 2)))
def G_raw_sum : List PyData → Option T := gP 5 2 B_raw_sum
/-- best_sum(case, best, choice, here) -/
def B_best_sum : FS := (sSeq (sExpr (eDef G_check_case (aCons (eV 0) aNil))) (sSeq (sAsg (eC .none) (gN 1)) (sSeq (sFor (iE (eDef G_choices_in (aCons (eV 0) aNil))) (gN 2) (sSeq (sAsg (eDef G_raw_sum (aCons (eV 0) (aCons (eV 2) aNil))) (gN 3)) (sIf (bOr (bT (eBinL' opIs 1 (eC .none))) (bTru (eDef G_is_below (aCons (eBinL' opIx 1 (eC (.int 0))) (aCons (eV 3) aNil))))) (sAsg (eTup (aCons (eV 3) (aCons (eV 2) aNil))) (gN 1)) sNil))) (sRetV 1))))
def G_best_sum : List PyData → Option T := gP 4 1 B_best_sum
/-- check_choice(case, choice) -/
def B_check_choice : FS := (sSeq (sExpr (eDef G_check_case (aCons (eV 0) aNil))) (sIf (bOr (bNot (bTru (eDef G_is_lot (aCons (eV 1) (aCons (eBinL' opIx 0 (eC (.int 0))) aNil))))) (bT (eBin opNe (eCallV bLen 1) (eBinL' opIx 0 (eC (.int 1)))))) sBad sNil))
def G_check_choice : List PyData → Option T := gP 2 2 B_check_choice
/-- no_exchange(case, choice, most, out, into, other, one) -/
def B_no_exchange : FS := (sSeq (sExpr (eDef G_check_choice (aCons (eV 0) (aCons (eV 1) aNil)))) (sSeq (sAsg (eDef G_plus (aCons (eDef G_raw_sum (aCons (eV 0) (aCons (eV 1) aNil))) (aCons (eDef G_made (aCons (eCall bLen (aCons (eBinL' opIx 0 (eC (.int 2))) aNil)) (aCons (eBin opMul (eBinL' opIx 0 (eC (.int 1))) (eBinL' opIx 0 (eC (.int 1)))) aNil))) aNil))) (gN 2)) (sSeq (sForV 1 (gN 3) (sFor (iR1 (eBinL' opIx 0 (eC (.int 0)))) (gN 4) (sIf (bT (eBinLR opNotIn 4 1)) (sSeq (sAsg (eCall bTuple (aCons (eCall bSorted (aCons (eBin opAdd (eCompV [6] 1 (gN 6) (bT (eBinLR opNe 6 3)) (eV 6)) (eLst (aCons (eV 4) aNil))) aNil)) aNil)) (gN 5)) (sIf (bNot (bTru (eDef G_is_below (aCons (eDef G_raw_sum (aCons (eV 0) (aCons (eV 5) aNil))) (aCons (eV 2) aNil))))) (sRet (eTup (aCons (eV 3) (aCons (eV 4) aNil)))) sNil)) sNil))) (sRet (eC .none)))))
def G_no_exchange : List PyData → Option T := gP 7 2 B_no_exchange
/-- sum_of(case, choice) -/
def B_sum_of : FS := (sSeq (sExpr (eDef G_check_choice (aCons (eV 0) (aCons (eV 1) aNil)))) (sRet (eDef G_raw_sum (aCons (eV 0) (aCons (eV 1) aNil)))))
def G_sum_of : List PyData → Option T := gP 2 2 B_sum_of
/-- check_word(word) -/
def B_check_word : FS := (sIf (bOr (bNot (bTru (eIsV [.str] 0))) (bT (eBinL' opNotIn 0 (eTup (aCons (eC (.str "one")) (aCons (eC (.str "all")) (aCons (eC (.str "each")) aNil))))))) sBad sNil)
def G_check_word : List PyData → Option T := gP 1 1 B_check_word
/-- is_wronged(case, choice, word, seats, group, member, one) -/
def B_is_wronged : FS := (sSeq (sIf (bT (eBinL' opEq 2 (eC (.str "one")))) (sRet (eAnd (eBinL' opEq 3 (eC (.int 1))) (eCall bAll (aCons (eCompV [5] 4 (gN 5) bTrue (eBin opEq (eDef G_both (aCons (eBinR opIx (eBinL' opIx 0 (eC (.int 2))) 5) (aCons (eV 1) aNil))) (eC (.int 0)))) aNil)))) sNil) (sSeq (sIf (bT (eBinL' opEq 2 (eC (.str "all")))) (sRet (eBinR opLt (eCall bLen (aCons (eCompV [6] 1 (gN 6) (bTru (eCall bAny (aCons (eCompV [5] 4 (gN 5) bTrue (eBinL' opIn 6 (eBinR opIx (eBinL' opIx 0 (eC (.int 2))) 5))) aNil))) (eV 6)) aNil)) 3)) sNil) (sRet (eCall bAll (aCons (eCompV [5] 4 (gN 5) bTrue (eBinR opLt (eDef G_both (aCons (eBinR opIx (eBinL' opIx 0 (eC (.int 2))) 5) (aCons (eV 1) aNil))) 3)) aNil)))))
def G_is_wronged : List PyData → Option T := gP 7 5 B_is_wronged
/-- in_common(case, group, first, one, member) -/
def B_in_common : FS := (sSeq (sAsg (eBin opIx (eBinL' opIx 0 (eC (.int 2))) (eBinL' opIx 1 (eC (.int 0)))) (gN 2)) (sRet (eCall bLen (aCons (eCompV [3] 2 (gN 3) (bTru (eCall bAll (aCons (eCompV [4] 1 (gN 4) bTrue (eBinL' opIn 3 (eBinR opIx (eBinL' opIx 0 (eC (.int 2))) 4))) aNil))) (eV 3)) aNil))))
def G_in_common : List PyData → Option T := gP 5 2 B_in_common
/-- most_deserved(case, group) -/
def B_most_deserved : FS := (sRet (eCall bMin (aCons (eBin opFdiv (eBin opMul (eCallV bLen 1) (eBinL' opIx 0 (eC (.int 1)))) (eCall bLen (aCons (eBinL' opIx 0 (eC (.int 2))) aNil))) (aCons (eDef G_in_common (aCons (eV 0) (aCons (eV 1) aNil))) aNil))))
def G_most_deserved : List PyData → Option T := gP 2 2 B_most_deserved
/-- first_wronged(case, choice, word, found, group, seats) -/
def B_first_wronged : FS := (sSeq (sAsg (eC .none) (gN 3)) (sSeq (sFor (iE (eSl (eDef G_lots_of (aCons (eCall bLen (aCons (eBinL' opIx 0 (eC (.int 2))) aNil)) aNil)) (oSome (eC (.int 1))) oNone)) (gN 4) (sFor (iR2 (eC (.int 1)) (eBin opAdd (eDef G_most_deserved (aCons (eV 0) (aCons (eV 4) aNil))) (eC (.int 1)))) (gN 5) (sIf (bAnd (bOr (bT (eBinL' opIs 3 (eC .none))) (bT (eBinR opLt (eTup (aCons (eV 5) (aCons (eV 4) aNil))) 3))) (bTru (eDef G_is_wronged (aCons (eV 0) (aCons (eV 1) (aCons (eV 2) (aCons (eV 5) (aCons (eV 4) aNil)))))))) (sAsg (eTup (aCons (eV 5) (aCons (eV 4) aNil))) (gN 3)) sNil))) (sRetV 3)))
def G_first_wronged : List PyData → Option T := gP 6 3 B_first_wronged
/-- wronged(case, choice, word) -/
def B_wronged : FS := (sSeq (sExpr (eDef G_check_choice (aCons (eV 0) (aCons (eV 1) aNil)))) (sSeq (sExpr (eDef G_check_word (aCons (eV 2) aNil))) (sRet (eDef G_first_wronged (aCons (eV 0) (aCons (eV 1) (aCons (eV 2) aNil)))))))
def G_wronged : List PyData → Option T := gP 3 3 B_wronged
/-- _law_is_right(case, best, choice, told, tops) -/
def B__law_is_right : FS := (sSeq (sAsg (eC .none) (gN 1)) (sSeq (sFor (iE (eDef G__law_choices (aCons (eV 0) aNil))) (gN 2) (sSeq (sAsg (eDef G_sum_of (aCons (eV 0) (aCons (eV 2) aNil))) (gN 3)) (sSeq (sIf (bT (eBin opNeS (eCallV bRepr 3) (eCall bRepr (aCons (eDef G__law_sum (aCons (eV 0) (aCons (eV 2) aNil))) aNil)))) (sRet (eC (.bool false))) sNil) (sSeq (sAsg (eIf (bOr (bT (eBinL' opIs 1 (eC .none))) (bTru (eDef G__law_is_less (aCons (eBinL' opIx 1 (eC (.int 0))) (aCons (eV 3) aNil))))) (eTup (aCons (eV 3) (aCons (eV 2) aNil))) (eV 1)) (gN 1)) (sSeq (sIf (bT (eBin opNeS (eCall bRepr (aCons (eDef G_no_exchange (aCons (eV 0) (aCons (eV 2) aNil))) aNil)) (eCall bRepr (aCons (eDef G__law_exchange (aCons (eV 0) (aCons (eV 2) aNil))) aNil)))) (sRet (eC (.bool false))) sNil) (sIf (bAnd (bT (eBin opIs (eDef G_no_exchange (aCons (eV 0) (aCons (eV 2) aNil))) (eC .none))) (bT (eBin opIsNot (eDef G_wronged (aCons (eV 0) (aCons (eV 2) (aCons (eC (.str "each")) aNil)))) (eC .none)))) (sRet (eC (.bool false))) sNil)))))) (sSeq (sIf (bOr (bT (eBin opNeS (eCall bRepr (aCons (eDef G_best_sum (aCons (eV 0) aNil)) aNil)) (eCallV bRepr 1))) (bT (eBin opIsNot (eDef G_no_exchange (aCons (eV 0) (aCons (eBinL' opIx 1 (eC (.int 1))) aNil))) (eC .none)))) (sRet (eC (.bool false))) sNil) (sSeq (sAsg (eComp [2] (iE (eDef G__law_choices (aCons (eV 0) aNil))) (gN 2) (bT (eBin opEq (eDef G_sum_of (aCons (eV 0) (aCons (eV 2) aNil))) (eBinL' opIx 1 (eC (.int 0))))) (eV 2)) (gN 4)) (sRet (eCall bAll (aCons (eCompV [2] 4 (gN 2) bTrue (eBin opIs (eDef G__law_wronged (aCons (eV 0) (aCons (eV 2) (aCons (eC (.str "each")) aNil)))) (eC .none))) aNil)))))))
def G__law_is_right : List PyData → Option T := gP 5 1 B__law_is_right
/-- law(script, hand, turn, case) -/
def B_law : FS := (sSeq (sAsg (eDef G__law_hand (aCons (eV 0) aNil)) (gN 1)) (sSeq (sIf (bNot (bTru (eCall bAll (aCons (eComp [2] (iR1 (eC (.int 3))) (gN 2) bTrue (eDef G__law_is_right (aCons (eDefIO G__law_case 1 aNil) aNil))) aNil)))) (sRet (eC (.bool false))) sNil) (sSeq (sAsg (eTup (aCons (eC (.int 2)) (aCons (eC (.int 1)) (aCons (eTup (aCons (eTup (aCons (eC (.int 0)) aNil)) (aCons (eTup (aCons (eC (.int 0)) (aCons (eC (.int 1)) aNil))) (aCons (eTup (aCons (eC (.int 1)) aNil)) (aCons (eTup (aCons (eC (.int 1)) aNil)) aNil))))) aNil)))) (gN 3)) (sRet (eAnd (eBin opEq (eDef G_best_sum (aCons (eV 3) aNil)) (eTup (aCons (eTup (aCons (eC (.int 3)) (aCons (eC (.int 1)) aNil))) (aCons (eTup (aCons (eC (.int 1)) aNil)) aNil)))) (eBin opEq (eDef G_sum_of (aCons (eTup (aCons (eC (.int 2)) (aCons (eC (.int 2)) (aCons (eTup (aCons (eTup (aCons (eC (.int 0)) (aCons (eC (.int 1)) aNil))) aNil)) aNil)))) (aCons (eTup (aCons (eC (.int 0)) (aCons (eC (.int 1)) aNil))) aNil))) (eTup (aCons (eC (.int 3)) (aCons (eC (.int 2)) aNil)))))))))
def G_law : List PyData → Option T := gP 4 1 B_law
end K18
set_option Elab.async false
set_option linter.all false
set_option maxRecDepth 100000
set_option maxHeartbeats 4000000
namespace K18
open PySem L2 Pv Tv
theorem draws {t : T} {many : Int} (hm : 1 ≤ many) (hm2 : many < 18446744073709551616) (h : HandC t) : ∃ f t', G__law_draw t [.int many] = some (.sh (.int f), t') ∧ HandC t' ∧ 0 ≤ f ∧ f < many := drawC_ok hm hm2 h
def F__law_draw (t : T) (many : Int) : Int × T := drF G__law_draw t many
def W__law_draw (t : T) (many : Int) : Prop := HandC t ∧ 1 ≤ many ∧ many < 18446744073709551616
theorem V__law_draw {t : T} {many : Int} (H : W__law_draw t many) : G__law_draw t [eI many] = some (.sh (eI (F__law_draw t many).1), (F__law_draw t many).2) := by
  obtain ⟨f, t', e, _⟩ := draws H.2.1 H.2.2 H.1
  unfold F__law_draw drF
  show G__law_draw t [.int many] = _
  rw [e]
theorem draw_ok {t : T} {many : Int} (H : W__law_draw t many) : HandC (F__law_draw t many).2 ∧ 0 ≤ (F__law_draw t many).1 ∧ (F__law_draw t many).1 < many := by
  obtain ⟨f, t', e, r⟩ := draws H.2.1 H.2.2 H.1
  unfold F__law_draw drF
  rw [e]
  exact r
def F__law_hand (ns : List Int) : T := (G__law_hand [.list (ns.map .int)]).getD (.sh .none)
def W__law_hand (ns : List Int) : Prop := ns.length ≤ 63
theorem hand_ok {ns : List Int} (h : ns.length ≤ 63) : G__law_hand [.list (ns.map .int)] = some (F__law_hand ns) ∧ HandC (F__law_hand ns) := by
  obtain ⟨t, e, k⟩ : ∃ t, G__law_hand [.list (ns.map .int)] = some t ∧ HandC t := handC_ok h
  unfold F__law_hand
  rw [e]
  exact ⟨rfl, k⟩
theorem V__law_hand {ns : List Int} (H : W__law_hand ns) : G__law_hand [eL eI ns] = some (F__law_hand ns) := (hand_ok H).1
end K18
set_option Elab.async false
set_option maxRecDepth 100000
set_option maxHeartbeats 4000000
namespace K18
open PySem L2 Pv Tv
set_option linter.all false
def F__law_mixed (cell : Int) (turn : Int) : Int := let number_1 : Int := (((((cell % (2147483647 : Int)) + ((7919 : Int) * turn)) + (1 : Int)) * (48271 : Int)) % (2147483647 : Int)); let number_2 : Int := ((number_1 * ((number_1 / (1009 : Int)) + (69621 : Int))) % (2147483647 : Int)); (((number_2 * ((number_2 / (2003 : Int)) + (40692 : Int))) % (2147483399 : Int)) / (16 : Int))
def W__law_mixed (cell : Int) (turn : Int) : Prop := let number_1 : Int := (((((cell % (2147483647 : Int)) + ((7919 : Int) * turn)) + (1 : Int)) * (48271 : Int)) % (2147483647 : Int)); let number_2 : Int := ((number_1 * ((number_1 / (1009 : Int)) + (69621 : Int))) % (2147483647 : Int)); (mulFits number_1 ((number_1 / (1009 : Int)) + (69621 : Int)) = true) ∧ (mulFits number_2 ((number_2 / (2003 : Int)) + (40692 : Int)) = true)
theorem W__law_mixed_eq {cell : Int} {turn : Int} : W__law_mixed cell turn = (let number_1 : Int := (((((cell % (2147483647 : Int)) + ((7919 : Int) * turn)) + (1 : Int)) * (48271 : Int)) % (2147483647 : Int)); let number_2 : Int := ((number_1 * ((number_1 / (1009 : Int)) + (69621 : Int))) % (2147483647 : Int)); (mulFits number_1 ((number_1 / (1009 : Int)) + (69621 : Int)) = true) ∧ (mulFits number_2 ((number_2 / (2003 : Int)) + (40692 : Int)) = true)) := rfl
theorem V__law_mixed {cell : Int} {turn : Int} (H : W__law_mixed cell turn) : G__law_mixed [eI cell, eI turn] = some (T.sh (eI (F__law_mixed cell turn))) := by
  refine gp_ok rfl ?_
  show S B__law_mixed [.sh (eI cell), .sh (eI turn), .fr] _
  unfold B__law_mixed
  let number_1 : Int := (((((cell % (2147483647 : Int)) + ((7919 : Int) * turn)) + (1 : Int)) * (48271 : Int)) % (2147483647 : Int))
  let number_2 : Int := ((number_1 * ((number_1 / (1009 : Int)) + (69621 : Int))) % (2147483647 : Int))
  exact (s_seq (SV.cx (Γ2 := [.sh (eI cell), .sh (eI turn), .sh (eI number_1)]) (sv_asg (ew_bin (EW.sh (ew_call (av_cons (EW.sh (ew_bin (EW.sh (ew_bin (EW.sh (ew_bin (EW.sh (ew_bin (EW.sh (ew_callV rfl bInt_int)) (EW.sh ew_c) (o_mod (by decide)))) (EW.sh (ew_binR (EW.sh ew_c) rfl (o_mulL (by decide)))) o_addI)) (EW.sh ew_c) o_addI)) (EW.sh ew_c) (o_mulR (by decide)))) av_nil) bInt_int)) (EW.sh ew_c) (o_mod (by decide))) (gw_n (s := .sh (eI number_1)) rfl)) rfl) (s_seq (SV.cx (Γ2 := [.sh (eI cell), .sh (eI turn), .sh (eI number_2)]) (sv_asg (ew_bin (EW.sh (ew_call (av_cons (EW.sh (ew_binL (EW.sh (ew_bin (EW.sh (ew_binL (EW.sh ew_c) rfl rfl (o_fdiv (by decide)))) (EW.sh ew_c) o_addI)) rfl rfl (o_mulI (H.1)))) av_nil) bInt_int)) (EW.sh ew_c) (o_mod (by decide))) (gw_n (s := .sh (eI number_2)) rfl)) rfl) (s_ret (ew_bin (EW.sh (ew_bin (EW.sh (ew_call (av_cons (EW.sh (ew_binL (EW.sh (ew_bin (EW.sh (ew_binL (EW.sh ew_c) rfl rfl (o_fdiv (by decide)))) (EW.sh ew_c) o_addI)) rfl rfl (o_mulI (H.2)))) av_nil) bInt_int)) (EW.sh ew_c) (o_mod (by decide)))) (EW.sh ew_c) (o_fdiv (by decide))) (fun η k => rfl))))
def F__law_case (hand : T) : (Int × Int × (List (List Int))) × T := let r_1 : (Int × T) := F__law_draw hand (5 : Int); let many_1 : Int := ((1 : Int) + r_1.1); let r_2 : (Int × T) := F__law_draw r_1.2 (5 : Int); let m_2 : (List (List Int) × T) := mapS (fun (s_1 : T) (x_1 : Int) => (let m_1 : (List Int × T) := keepS (fun (s_2 : T) (x_2 : Int) => (let r_3 : (Int × T) := F__law_draw s_2 (5 : Int); ((decide ((1 : Int) < r_3.1)), r_3.2) : Bool × T)) s_1 (rgI 0 many_1); (m_1.1, m_1.2) : (List Int) × T)) r_2.2 (rgI 0 ((1 : Int) + r_2.1)); let likes_1 : (List (List Int)) := m_2.1; let r_4 : (Int × T) := F__law_draw m_2.2 (3 : Int); let m_3 : ((List (List Int))) := if (decide (r_4.1 = (0 : Int))) = true then (let likes_2 : (List (List Int)) := (likes_1 ++ (cutA likes_1 none (some (2 : Int)))); likes_2) else (likes_1); let r_5 : (Int × T) := F__law_draw r_4.2 (if (3 : Int) < many_1 then (3 : Int) else many_1); ((many_1, ((1 : Int) + r_5.1), m_3), r_5.2)
def W__law_case (hand : T) : Prop := let r_1 : (Int × T) := F__law_draw hand (5 : Int); let many_1 : Int := ((1 : Int) + r_1.1); let r_2 : (Int × T) := F__law_draw r_1.2 (5 : Int); let m_2 : (List (List Int) × T) := mapS (fun (s_1 : T) (x_1 : Int) => (let m_1 : (List Int × T) := keepS (fun (s_2 : T) (x_2 : Int) => (let r_3 : (Int × T) := F__law_draw s_2 (5 : Int); ((decide ((1 : Int) < r_3.1)), r_3.2) : Bool × T)) s_1 (rgI 0 many_1); (m_1.1, m_1.2) : (List Int) × T)) r_2.2 (rgI 0 ((1 : Int) + r_2.1)); let likes_1 : (List (List Int)) := m_2.1; let r_4 : (Int × T) := F__law_draw m_2.2 (3 : Int); let m_3 : ((List (List Int))) := if (decide (r_4.1 = (0 : Int))) = true then (let likes_2 : (List (List Int)) := (likes_1 ++ (cutA likes_1 none (some (2 : Int)))); likes_2) else (likes_1); let r_5 : (Int × T) := F__law_draw r_4.2 (if (3 : Int) < many_1 then (3 : Int) else many_1); (W__law_draw hand (5 : Int)) ∧ (W__law_draw r_1.2 (5 : Int)) ∧ (rg62 ((1 : Int) + r_2.1) = true) ∧ (List.length (rgI 0 ((1 : Int) + r_2.1)) < 16777216) ∧ (WMapS (fun (s_1 : T) (x_1 : Int) => (let m_1 : (List Int × T) := keepS (fun (s_2 : T) (x_2 : Int) => (let r_3 : (Int × T) := F__law_draw s_2 (5 : Int); ((decide ((1 : Int) < r_3.1)), r_3.2) : Bool × T)) s_1 (rgI 0 many_1); (m_1.1, m_1.2) : (List Int) × T)) (fun (s_1 : T) (x_1 : Int) => let m_1 : (List Int × T) := keepS (fun (s_2 : T) (x_2 : Int) => (let r_3 : (Int × T) := F__law_draw s_2 (5 : Int); ((decide ((1 : Int) < r_3.1)), r_3.2) : Bool × T)) s_1 (rgI 0 many_1); (rg62 many_1 = true) ∧ (List.length (rgI 0 many_1) < 16777216) ∧ (WKeepS (fun (s_2 : T) (x_2 : Int) => (let r_3 : (Int × T) := F__law_draw s_2 (5 : Int); ((decide ((1 : Int) < r_3.1)), r_3.2) : Bool × T)) (fun (s_2 : T) (x_2 : Int) => let r_3 : (Int × T) := F__law_draw s_2 (5 : Int); (W__law_draw s_2 (5 : Int))) s_1 (rgI 0 many_1))) r_2.2 (rgI 0 ((1 : Int) + r_2.1))) ∧ (W__law_draw m_2.2 (3 : Int)) ∧ ((decide (r_4.1 = (0 : Int))) = true → let likes_2 : (List (List Int)) := (likes_1 ++ (cutA likes_1 none (some (2 : Int)))); (List.length likes_1 + List.length (cutA likes_1 none (some (2 : Int))) ≤ 16777216)) ∧ (W__law_draw r_4.2 (if (3 : Int) < many_1 then (3 : Int) else many_1))
theorem W__law_case_eq {hand : T} : W__law_case hand = (let r_1 : (Int × T) := F__law_draw hand (5 : Int); let many_1 : Int := ((1 : Int) + r_1.1); let r_2 : (Int × T) := F__law_draw r_1.2 (5 : Int); let m_2 : (List (List Int) × T) := mapS (fun (s_1 : T) (x_1 : Int) => (let m_1 : (List Int × T) := keepS (fun (s_2 : T) (x_2 : Int) => (let r_3 : (Int × T) := F__law_draw s_2 (5 : Int); ((decide ((1 : Int) < r_3.1)), r_3.2) : Bool × T)) s_1 (rgI 0 many_1); (m_1.1, m_1.2) : (List Int) × T)) r_2.2 (rgI 0 ((1 : Int) + r_2.1)); let likes_1 : (List (List Int)) := m_2.1; let r_4 : (Int × T) := F__law_draw m_2.2 (3 : Int); let m_3 : ((List (List Int))) := if (decide (r_4.1 = (0 : Int))) = true then (let likes_2 : (List (List Int)) := (likes_1 ++ (cutA likes_1 none (some (2 : Int)))); likes_2) else (likes_1); let r_5 : (Int × T) := F__law_draw r_4.2 (if (3 : Int) < many_1 then (3 : Int) else many_1); (W__law_draw hand (5 : Int)) ∧ (W__law_draw r_1.2 (5 : Int)) ∧ (rg62 ((1 : Int) + r_2.1) = true) ∧ (List.length (rgI 0 ((1 : Int) + r_2.1)) < 16777216) ∧ (WMapS (fun (s_1 : T) (x_1 : Int) => (let m_1 : (List Int × T) := keepS (fun (s_2 : T) (x_2 : Int) => (let r_3 : (Int × T) := F__law_draw s_2 (5 : Int); ((decide ((1 : Int) < r_3.1)), r_3.2) : Bool × T)) s_1 (rgI 0 many_1); (m_1.1, m_1.2) : (List Int) × T)) (fun (s_1 : T) (x_1 : Int) => let m_1 : (List Int × T) := keepS (fun (s_2 : T) (x_2 : Int) => (let r_3 : (Int × T) := F__law_draw s_2 (5 : Int); ((decide ((1 : Int) < r_3.1)), r_3.2) : Bool × T)) s_1 (rgI 0 many_1); (rg62 many_1 = true) ∧ (List.length (rgI 0 many_1) < 16777216) ∧ (WKeepS (fun (s_2 : T) (x_2 : Int) => (let r_3 : (Int × T) := F__law_draw s_2 (5 : Int); ((decide ((1 : Int) < r_3.1)), r_3.2) : Bool × T)) (fun (s_2 : T) (x_2 : Int) => let r_3 : (Int × T) := F__law_draw s_2 (5 : Int); (W__law_draw s_2 (5 : Int))) s_1 (rgI 0 many_1))) r_2.2 (rgI 0 ((1 : Int) + r_2.1))) ∧ (W__law_draw m_2.2 (3 : Int)) ∧ ((decide (r_4.1 = (0 : Int))) = true → let likes_2 : (List (List Int)) := (likes_1 ++ (cutA likes_1 none (some (2 : Int)))); (List.length likes_1 + List.length (cutA likes_1 none (some (2 : Int))) ≤ 16777216)) ∧ (W__law_draw r_4.2 (if (3 : Int) < many_1 then (3 : Int) else many_1))) := rfl
theorem V__law_case {hand : T} (H : W__law_case hand) : G__law_case hand [] = some (T.sh ((eP3 eI eI (eT (eT eI))) (F__law_case hand).1), (F__law_case hand).2) := by
  refine gio_ok rfl ?_
  show S B__law_case [.ow hand, .fr, .fr, .fr, .fr] _
  unfold B__law_case
  let r_1 : (Int × T) := F__law_draw hand (5 : Int)
  let many_1 : Int := ((1 : Int) + r_1.1)
  let r_2 : (Int × T) := F__law_draw r_1.2 (5 : Int)
  let m_2 : (List (List Int) × T) := mapS (fun (s_1 : T) (x_1 : Int) => (let m_1 : (List Int × T) := keepS (fun (s_2 : T) (x_2 : Int) => (let r_3 : (Int × T) := F__law_draw s_2 (5 : Int); ((decide ((1 : Int) < r_3.1)), r_3.2) : Bool × T)) s_1 (rgI 0 many_1); (m_1.1, m_1.2) : (List Int) × T)) r_2.2 (rgI 0 ((1 : Int) + r_2.1))
  let likes_1 : (List (List Int)) := m_2.1
  let r_4 : (Int × T) := F__law_draw m_2.2 (3 : Int)
  let m_3 : ((List (List Int))) := if (decide (r_4.1 = (0 : Int))) = true then (let likes_2 : (List (List Int)) := (likes_1 ++ (cutA likes_1 none (some (2 : Int)))); likes_2) else (likes_1)
  let r_5 : (Int × T) := F__law_draw r_4.2 (if (3 : Int) < many_1 then (3 : Int) else many_1)
  exact (s_seq (SV.cx (Γ2 := [.ow r_1.2, .sh (eI many_1), .fr, .fr, .fr]) (sv_asg (ew_bin (EW.sh ew_c) (EW.sh (ew_defIO (av_cons (EW.sh ew_c) av_nil) rfl rfl (V__law_draw  (H.1)))) o_addI) (gw_n (s := .sh (eI many_1)) rfl)) rfl) (s_seq (SV.cx (Γ2 := [.ow m_2.2, .sh (eI many_1), .od (List.map (eT eI) likes_1), .fr, .fr]) (sv_asg (EW.mapI (e := (eT eI)) (ew_compS (e := eI) (G := (fun s_1 : T => [.ow s_1, .sh (eI many_1), .fr, .fr, .fr])) (step := (fun (s_1 : T) (x_1 : Int) => (let m_1 : (List Int × T) := keepS (fun (s_2 : T) (x_2 : Int) => (let r_3 : (Int × T) := F__law_draw s_2 (5 : Int); ((decide ((1 : Int) < r_3.1)), r_3.2) : Bool × T)) s_1 (rgI 0 many_1); (m_1.1, m_1.2) : (List Int) × T))) (W := (fun (s_1 : T) (x_1 : Int) => let m_1 : (List Int × T) := keepS (fun (s_2 : T) (x_2 : Int) => (let r_3 : (Int × T) := F__law_draw s_2 (5 : Int); ((decide ((1 : Int) < r_3.1)), r_3.2) : Bool × T)) s_1 (rgI 0 many_1); (rg62 many_1 = true) ∧ (List.length (rgI 0 many_1) < 16777216) ∧ (WKeepS (fun (s_2 : T) (x_2 : Int) => (let r_3 : (Int × T) := F__law_draw s_2 (5 : Int); ((decide ((1 : Int) < r_3.1)), r_3.2) : Bool × T)) (fun (s_2 : T) (x_2 : Int) => let r_3 : (Int × T) := F__law_draw s_2 (5 : Int); (W__law_draw s_2 (5 : Int))) s_1 (rgI 0 many_1)))) (r := fun v => T.sh ((eT eI) v)) (IV.as (iv_r1 (ew_bin (EW.sh ew_c) (EW.sh (ew_defIO (av_cons (EW.sh ew_c) av_nil) rfl rfl (V__law_draw  (H.2.1)))) o_addI) (H.2.2.1)) (rgD_map _ _)) (H.2.2.2.1) (by first | exact Le.refl _ | (repeat (first | exact trivial | exact rfl | apply And.intro))) (fun _ => (own_fr (by rfl))) (H.2.2.2.2.1) (fun s_1 x_1 H2 => let m_1 : (List Int × T) := keepS (fun (s_2 : T) (x_2 : Int) => (let r_3 : (Int × T) := F__law_draw s_2 (5 : Int); ((decide ((1 : Int) < r_3.1)), r_3.2) : Bool × T)) s_1 (rgI 0 many_1); itemS (gw_n (s := .sh _) rfl) (ew_call (av_cons (EW.od (EW.mapI (e := eI) (ew_compK (e := eI) (G := (fun s_2 : T => [.ow s_2, .sh (eI many_1), .fr, .sh (eI x_1), .fr])) (step := (fun (s_2 : T) (x_2 : Int) => (let r_3 : (Int × T) := F__law_draw s_2 (5 : Int); ((decide ((1 : Int) < r_3.1)), r_3.2) : Bool × T))) (W := (fun (s_2 : T) (x_2 : Int) => let r_3 : (Int × T) := F__law_draw s_2 (5 : Int); (W__law_draw s_2 (5 : Int)))) (r := fun x_2 => T.sh (eI x_2)) (IV.as (iv_r1 (ew_v rfl) (H2.1)) (rgD_map _ _)) (H2.2.1) (by first | exact Le.refl _ | (repeat (first | exact trivial | exact rfl | apply And.intro))) (fun _ => (own_fr (by rfl))) (H2.2.2) (fun s_2 x_2 H1 => let r_3 : (Int × T) := F__law_draw s_2 (5 : Int); itemK (gw_n (s := .sh _) rfl) (bv_t (ew_bin (EW.sh (ew_defIO (av_cons (EW.sh ew_c) av_nil) rfl rfl (V__law_draw  H1))) (EW.sh ew_c) o_gtI)) (by first | exact Le.refl _ | (repeat (first | exact trivial | exact rfl | apply And.intro))) (fun _ => (ew_v rfl)) (by first | exact Le.refl _ | (repeat (first | exact trivial | exact rfl | apply And.intro))))))) av_nil) (o_tupL (e := eI))) (by first | exact Le.refl _ | (repeat (first | exact trivial | exact rfl | apply And.intro)))))) (gw_n (s := .od (List.map (eT eI) likes_1)) rfl)) rfl) (s_seq (SV.cx (Γ2 := [.ow r_4.2, .sh (eI many_1), .od (List.map (eT eI) m_3), .fr, .fr]) (sv_if (σ := ((List (List Int)))) (x := let likes_2 : (List (List Int)) := (likes_1 ++ (cutA likes_1 none (some (2 : Int)))); likes_2) (y := likes_1) (fun s_3 : ((List (List Int))) => [.ow r_4.2, .sh (eI many_1), .od (List.map (eT eI) s_3), .fr, .fr]) (bv_t (ew_bin (EW.sh (ew_defIO (av_cons (EW.sh ew_c) av_nil) rfl rfl (V__law_draw  (H.2.2.2.2.2.1)))) (EW.sh ew_c) (o_eq (e := eI) cm_i))) (fun hb => (have H3 := (H.2.2.2.2.2.2.1) hb; let likes_2 : (List (List Int)) := (likes_1 ++ (cutA likes_1 none (some (2 : Int)))); (SV.cx (Γ2 := [.ow r_4.2, .sh (eI many_1), .od (List.map (eT eI) likes_2), .fr, .fr]) (sv_asg (ew_binL (EW.od (ew_slV rfl ov_none (ov_some ew_c) rfl (o_slL (e := (eT eI))))) rfl rfl (o_addL (e := (eT eI)) H3)) (gw_n (s := .od (List.map (eT eI) likes_2)) rfl)) rfl))) (fun hb => sv_nil) (by first | exact Le.refl _ | (repeat (first | exact trivial | exact rfl | apply And.intro))) (by first | exact Le.refl _ | (repeat (first | exact trivial | exact rfl | apply And.intro)))) rfl) (s_ret (EW.as (t' := .sh ((eP3 eI eI (eT (eT eI))) (many_1, ((1 : Int) + r_5.1), m_3))) (ew_tup (av_cons (EW.sh (ew_v rfl)) (av_cons (EW.sh (ew_bin (EW.sh ew_c) (EW.sh (ew_defIO (av_cons (EW.sh (ew_call (av_cons (EW.sh (ew_v rfl)) (av_cons (EW.sh ew_c) av_nil)) o_min2)) av_nil) rfl rfl (V__law_draw  (H.2.2.2.2.2.2.2)))) o_addI)) (av_cons (EW.sh (ew_callV rfl (o_tupL (e := (eT eI))))) av_nil)))) rfl) (fun η k => ⟨rfl, tk_get k (i := 0) rfl⟩)))))
def F__law_lots_s1  (s_1 : ((List (List Int)))) (x_1 : Int) : ((List (List Int))) := let found_2 : (List (List Int)) := (s_1 ++ (List.map (fun x_2 => (x_2 ++ [x_1])) s_1)); found_2
def W__law_lots_s1  (s_1 : ((List (List Int)))) (x_1 : Int) : Prop := let found_2 : (List (List Int)) := (s_1 ++ (List.map (fun x_2 => (x_2 ++ [x_1])) s_1)); (List.length s_1 < 16777216) ∧ (∀ x_2 ∈ s_1, (List.length x_2 + List.length [x_1] ≤ 16777216)) ∧ (List.length s_1 + List.length (List.map (fun x_2 => (x_2 ++ [x_1])) s_1) ≤ 16777216)
def F__law_lots (some' : (List Int)) : (List (List Int)) := let found_1 : (List (List Int)) := [([] : (List Int))]; let m_1 : ((List (List Int))) := List.foldl F__law_lots_s1 found_1 some'; (sortT (eT eI) m_1)
def W__law_lots (some' : (List Int)) : Prop := let found_1 : (List (List Int)) := [([] : (List Int))]; let m_1 : ((List (List Int))) := List.foldl F__law_lots_s1 found_1 some'; (WFold F__law_lots_s1 W__law_lots_s1 found_1 some')
theorem W__law_lots_eq {some' : (List Int)} : W__law_lots some' = (let found_1 : (List (List Int)) := [([] : (List Int))]; let m_1 : ((List (List Int))) := List.foldl F__law_lots_s1 found_1 some'; (WFold F__law_lots_s1 W__law_lots_s1 found_1 some')) := rfl
theorem V__law_lots {some' : (List Int)} (H : W__law_lots some') : G__law_lots [(eL eI) some'] = some (T.lst (List.map T.sh (List.map (eT eI) (F__law_lots some')))) := by
  refine gp_ok rfl ?_
  show S B__law_lots [.sh ((eL eI) some'), .fr, .fr, .fr] _
  unfold B__law_lots
  let found_1 : (List (List Int)) := [([] : (List Int))]
  let m_1 : ((List (List Int))) := List.foldl F__law_lots_s1 found_1 some'
  exact (s_seq (SV.cx (Γ2 := [.sh ((eL eI) some'), .od (List.map (eT eI) found_1), .fr, .fr]) (sv_asg (EW.as (t' := .lst (List.map T.sh (List.map (eT eI) [([] : (List Int))]))) (ew_lst (aw_cons (EW.as (t' := .sh ((eT eI) ([] : (List Int)))) (ew_tup av_nil) rfl) aw_nil)) rfl) (gw_n (s := .od (List.map (eT eI) found_1)) rfl)) rfl) (s_seq (SV.cx (Γ2 := [.sh ((eL eI) some'), .od (List.map (eT eI) m_1), .fr, .fr]) (sv_forV (l := some') (e := eI) (G := (fun s_1 : ((List (List Int))) => [.sh ((eL eI) some'), .od (List.map (eT eI) s_1), .fr, .fr])) (s0 := found_1) (step := F__law_lots_s1) (W := W__law_lots_s1) rfl rfl (fun _ => rfl) (by first | exact Le.refl _ | (repeat (first | exact trivial | exact rfl | apply And.intro))) H (fun s_1 x_1 H2 => let found_2 : (List (List Int)) := (s_1 ++ (List.map (fun x_2 => (x_2 ++ [x_1])) s_1)); turn (gw_n (s := .sh _) rfl) (s_of (SV.cx (Γ2 := [.sh ((eL eI) some'), .od (List.map (eT eI) found_2), .sh (eI x_1), .fr]) (sv_asg (ew_binL (EW.od (EW.mapE (e := (eT eI)) (ew_compVM (l := s_1) (e := (eT eI)) (r := fun x_2 => T.sh ((eT eI) (x_2 ++ [x_1]))) rfl rfl rfl (H2.1) (free_own (by rfl)) (fun x_2 hx => have H1 := (H2.2.1) x_2 hx; item1 (gw_n (s := .sh _) rfl) (ew_binL (EW.sh (EW.as (t' := .sh ((eT eI) [x_1])) (ew_tup (av_cons (EW.sh (ew_v rfl)) av_nil)) rfl)) rfl rfl (o_addT (e := eI) H1)) (by first | exact Le.refl _ | (repeat (first | exact trivial | exact rfl | apply And.intro))))))) rfl rfl (o_addL (e := (eT eI)) (H2.2.2))) (gw_n (s := .od (List.map (eT eI) found_2)) rfl)) rfl) (fun η k => ⟨.inl rfl, Le.sat (by first | exact Le.refl _ | (repeat (first | exact trivial | exact rfl | apply And.intro))) k⟩)))) rfl) (s_ret (ew_callV rfl (o_sortedL (e := (eT eI)) (sortable_of (So.mk (al_t al_i) (fun a => ((cm_t cm_i)).lay a) (fun a => Nat.le_trans (((cm_t cm_i)).dep a) (by decide))) _))) (fun η k => rfl))))
def F__law_choices (case : (Int × Int × (List (List Int)))) : (List (List Int)) := (List.map (fun x_1 => x_1) (List.filter (fun x_1 => (decide ((List.length x_1 : Int) = case.2.1))) (F__law_lots (rgI 0 case.1))))
def W__law_choices (case : (Int × Int × (List (List Int)))) : Prop := (0 ≤ case.1 ∧ case.1 ≤ 16777216) ∧ (W__law_lots (rgI 0 case.1)) ∧ (List.length (F__law_lots (rgI 0 case.1)) < 16777216)
theorem W__law_choices_eq {case : (Int × Int × (List (List Int)))} : W__law_choices case = ((0 ≤ case.1 ∧ case.1 ≤ 16777216) ∧ (W__law_lots (rgI 0 case.1)) ∧ (List.length (F__law_lots (rgI 0 case.1)) < 16777216)) := rfl
theorem V__law_choices {case : (Int × Int × (List (List Int)))} (H : W__law_choices case) : G__law_choices [(eP3 eI eI (eT (eT eI))) case] = some (T.lst (List.map T.sh (List.map (eT eI) (F__law_choices case)))) := by
  refine gp_ok rfl ?_
  show S B__law_choices [.sh ((eP3 eI eI (eT (eT eI))) case), .fr] _
  unfold B__law_choices
  exact (s_ret (EW.mapE (e := (eT eI)) (ew_comp (l := (F__law_lots (rgI 0 case.1))) (e := (eT eI)) (c := fun x_1 => (decide ((List.length x_1 : Int) = case.2.1))) (r := fun x_1 => T.sh ((eT eI) x_1)) (iv_e (EW.od (ew_def (av_cons (EW.od (EW.as (ew_lstRg1 (ew_binL (EW.sh ew_c) rfl rfl rfl) (H.1)) (by rw [rgD_map]))) av_nil) (V__law_lots  (H.2.1)))) rfl) (H.2.2) (free_own (by rfl)) (fun x_1 hx => item (gw_n (s := .sh _) rfl) (bv_t (ew_bin (EW.sh (ew_callV rfl (o_lenT (e := eI)))) (EW.sh (ew_binL (EW.sh ew_c) rfl rfl rfl)) (o_eq (e := eI) cm_i))) (fun _ => (by first | exact Le.refl _ | (repeat (first | exact trivial | exact rfl | apply And.intro)))) (fun hb => (ew_v rfl)) (by first | exact Le.refl _ | (repeat (first | exact trivial | exact rfl | apply And.intro)))))) (fun η k => rfl))
def F__law_is_less (one : (Int × Int)) (other : (Int × Int)) : Bool := (decide ((one.1 * other.2) < (other.1 * one.2)))
def W__law_is_less (one : (Int × Int)) (other : (Int × Int)) : Prop := (mulFits one.1 other.2 = true) ∧ (mulFits other.1 one.2 = true)
theorem W__law_is_less_eq {one : (Int × Int)} {other : (Int × Int)} : W__law_is_less one other = ((mulFits one.1 other.2 = true) ∧ (mulFits other.1 one.2 = true)) := rfl
theorem V__law_is_less {one : (Int × Int)} {other : (Int × Int)} (H : W__law_is_less one other) : G__law_is_less [(eP eI eI) one, (eP eI eI) other] = some (T.sh (eB (F__law_is_less one other))) := by
  refine gp_ok rfl ?_
  show S B__law_is_less [.sh ((eP eI eI) one), .sh ((eP eI eI) other)] _
  unfold B__law_is_less
  exact (s_ret (ew_bin (EW.sh (ew_bin (EW.sh (ew_binL (EW.sh ew_c) rfl rfl rfl)) (EW.sh (ew_binL (EW.sh ew_c) rfl rfl rfl)) (o_mulI (H.1)))) (EW.sh (ew_bin (EW.sh (ew_binL (EW.sh ew_c) rfl rfl rfl)) (EW.sh (ew_binL (EW.sh ew_c) rfl rfl rfl)) (o_mulI (H.2)))) o_ltI) (fun η k => rfl))
def C__law_low_s1  (s_1 : (Int × Int)) : Bool := (decide ((0 : Int) < s_1.2))
def F__law_low_s1  (s_1 : (Int × Int)) : (Int × Int) := let one_2 : Int := s_1.2; let other_2 : Int := (s_1.1 % s_1.2); (one_2, other_2)
def Wc__law_low_s1  (s_1 : (Int × Int)) : Prop := True
def W__law_low_s1  (s_1 : (Int × Int)) : Prop := let one_2 : Int := s_1.2; let other_2 : Int := (s_1.1 % s_1.2); (0 < s_1.2)
def F__law_low (top : Int) (bottom : Int) : (Int × Int) := let one_1 : Int := (if top < 0 then -top else top); let other_1 : Int := bottom; let m_1 : (Int × Int) := whileF C__law_low_s1 F__law_low_s1 1000 (one_1, other_1); ((top / m_1.1), (bottom / m_1.1))
def W__law_low (top : Int) (bottom : Int) : Prop := let one_1 : Int := (if top < 0 then -top else top); let other_1 : Int := bottom; let m_1 : (Int × Int) := whileF C__law_low_s1 F__law_low_s1 1000 (one_1, other_1); (WWhile C__law_low_s1 F__law_low_s1 Wc__law_low_s1 W__law_low_s1 1000 (one_1, other_1)) ∧ (0 < m_1.1 ∧ m_1.1 < 18446744073709551616) ∧ (0 < m_1.1 ∧ m_1.1 < 18446744073709551616)
theorem W__law_low_eq {top : Int} {bottom : Int} : W__law_low top bottom = (let one_1 : Int := (if top < 0 then -top else top); let other_1 : Int := bottom; let m_1 : (Int × Int) := whileF C__law_low_s1 F__law_low_s1 1000 (one_1, other_1); (WWhile C__law_low_s1 F__law_low_s1 Wc__law_low_s1 W__law_low_s1 1000 (one_1, other_1)) ∧ (0 < m_1.1 ∧ m_1.1 < 18446744073709551616) ∧ (0 < m_1.1 ∧ m_1.1 < 18446744073709551616)) := rfl
theorem V__law_low {top : Int} {bottom : Int} (H : W__law_low top bottom) : G__law_low [eI top, eI bottom] = some (T.sh ((eP eI eI) (F__law_low top bottom))) := by
  refine gp_ok rfl ?_
  show S B__law_low [.sh (eI top), .sh (eI bottom), .fr, .fr] _
  unfold B__law_low
  let one_1 : Int := (if top < 0 then -top else top)
  let other_1 : Int := bottom
  let m_1 : (Int × Int) := whileF C__law_low_s1 F__law_low_s1 1000 (one_1, other_1)
  exact (s_seq (SV.cx (Γ2 := [.sh (eI top), .sh (eI bottom), .sh (eI one_1), .sh (eI other_1)]) (sv_par (s1 := .sh (eI one_1)) (s2 := .sh (eI other_1)) (aw_cons (ew_callV rfl bAbs_int) (aw_cons (ew_v rfl) aw_nil)) rfl rfl) rfl) (s_seq (SV.cx (Γ2 := [.sh (eI top), .sh (eI bottom), .sh (eI m_1.1), .sh (eI m_1.2)]) (sv_while (G := (fun s_1 : (Int × Int) => [.sh (eI top), .sh (eI bottom), .sh (eI s_1.1), .sh (eI s_1.2)])) (c := C__law_low_s1) (step := F__law_low_s1) (Wc := Wc__law_low_s1) (W := W__law_low_s1) (fun s_1 H1 => BV.post (bv_t (ew_binL (EW.sh ew_c) rfl rfl o_gtI)) (by first | exact Le.refl _ | (repeat (first | exact trivial | exact rfl | apply And.intro)))) (fun s_1 H2 hb => let one_2 : Int := s_1.2; let other_2 : Int := (s_1.1 % s_1.2); s_of (SV.cx (Γ2 := [.sh (eI top), .sh (eI bottom), .sh (eI one_2), .sh (eI other_2)]) (sv_par (s1 := .sh (eI one_2)) (s2 := .sh (eI other_2)) (aw_cons (ew_v rfl) (aw_cons (ew_binR (EW.sh (ew_callV rfl bInt_int)) rfl (o_mod H2)) aw_nil)) rfl rfl) rfl) (fun η k => ⟨.inl rfl, Le.sat (by first | exact Le.refl _ | (repeat (first | exact trivial | exact rfl | apply And.intro))) k⟩)) (by first | exact Le.refl _ | (repeat (first | exact trivial | exact rfl | apply And.intro))) (H.1)) rfl) (s_ret (EW.as (t' := .sh ((eP eI eI) ((top / m_1.1), (bottom / m_1.1)))) (ew_tup (av_cons (EW.sh (ew_binLR rfl rfl (o_fdiv (H.2.1)))) (av_cons (EW.sh (ew_binLR rfl rfl (o_fdiv (H.2.2)))) av_nil))) rfl) (fun η k => rfl))))
def F__law_minus (one : (Int × Int)) (other : (Int × Int)) : (Int × Int) := (F__law_low ((one.1 * other.2) - (other.1 * one.2)) (one.2 * other.2))
def W__law_minus (one : (Int × Int)) (other : (Int × Int)) : Prop := (mulFits one.1 other.2 = true) ∧ (mulFits other.1 one.2 = true) ∧ (mulFits one.2 other.2 = true) ∧ (W__law_low ((one.1 * other.2) - (other.1 * one.2)) (one.2 * other.2))
theorem W__law_minus_eq {one : (Int × Int)} {other : (Int × Int)} : W__law_minus one other = ((mulFits one.1 other.2 = true) ∧ (mulFits other.1 one.2 = true) ∧ (mulFits one.2 other.2 = true) ∧ (W__law_low ((one.1 * other.2) - (other.1 * one.2)) (one.2 * other.2))) := rfl
theorem V__law_minus {one : (Int × Int)} {other : (Int × Int)} (H : W__law_minus one other) : G__law_minus [(eP eI eI) one, (eP eI eI) other] = some (T.sh ((eP eI eI) (F__law_minus one other))) := by
  refine gp_ok rfl ?_
  show S B__law_minus [.sh ((eP eI eI) one), .sh ((eP eI eI) other)] _
  unfold B__law_minus
  exact (s_ret (ew_def (av_cons (EW.sh (ew_bin (EW.sh (ew_bin (EW.sh (ew_binL (EW.sh ew_c) rfl rfl rfl)) (EW.sh (ew_binL (EW.sh ew_c) rfl rfl rfl)) (o_mulI (H.1)))) (EW.sh (ew_bin (EW.sh (ew_binL (EW.sh ew_c) rfl rfl rfl)) (EW.sh (ew_binL (EW.sh ew_c) rfl rfl rfl)) (o_mulI (H.2.1)))) o_subI)) (av_cons (EW.sh (ew_bin (EW.sh (ew_binL (EW.sh ew_c) rfl rfl rfl)) (EW.sh (ew_binL (EW.sh ew_c) rfl rfl rfl)) (o_mulI (H.2.2.1)))) av_nil)) (V__law_low  (H.2.2.2))) (fun η k => rfl))
def F__law_common (wishes : (List Int)) (some' : (List Int)) : Int := (List.length (List.map (fun x_1 => x_1) (List.filter (fun x_1 => (memT x_1 wishes)) some')) : Int)
def W__law_common (wishes : (List Int)) (some' : (List Int)) : Prop := (List.length some' < 16777216)
theorem W__law_common_eq {wishes : (List Int)} {some' : (List Int)} : W__law_common wishes some' = ((List.length some' < 16777216)) := rfl
theorem V__law_common {wishes : (List Int)} {some' : (List Int)} (H : W__law_common wishes some') : G__law_common [(eT eI) wishes, (eT eI) some'] = some (T.sh (eI (F__law_common wishes some'))) := by
  refine gp_ok rfl ?_
  show S B__law_common [.sh ((eT eI) wishes), .sh ((eT eI) some'), .fr] _
  unfold B__law_common
  exact (s_ret (ew_call (av_cons (EW.od (EW.mapE (e := eI) (ew_compV (l := some') (e := eI) (c := fun x_1 => (memT x_1 wishes)) (r := fun x_1 => T.sh (eI x_1)) rfl rfl rfl H (free_own (by rfl)) (fun x_1 hx => item (gw_n (s := .sh _) rfl) (bv_t (ew_binLR rfl rfl (o_inT (e := eI) cm_i))) (fun _ => (by first | exact Le.refl _ | (repeat (first | exact trivial | exact rfl | apply And.intro)))) (fun hb => (ew_v rfl)) (by first | exact Le.refl _ | (repeat (first | exact trivial | exact rfl | apply And.intro))))))) av_nil) (o_lenL (e := eI))) (fun η k => rfl))
def F__law_plus (one : (Int × Int)) (other : (Int × Int)) : (Int × Int) := (F__law_low ((one.1 * other.2) + (other.1 * one.2)) (one.2 * other.2))
def W__law_plus (one : (Int × Int)) (other : (Int × Int)) : Prop := (mulFits one.1 other.2 = true) ∧ (mulFits other.1 one.2 = true) ∧ (mulFits one.2 other.2 = true) ∧ (W__law_low ((one.1 * other.2) + (other.1 * one.2)) (one.2 * other.2))
theorem W__law_plus_eq {one : (Int × Int)} {other : (Int × Int)} : W__law_plus one other = ((mulFits one.1 other.2 = true) ∧ (mulFits other.1 one.2 = true) ∧ (mulFits one.2 other.2 = true) ∧ (W__law_low ((one.1 * other.2) + (other.1 * one.2)) (one.2 * other.2))) := rfl
theorem V__law_plus {one : (Int × Int)} {other : (Int × Int)} (H : W__law_plus one other) : G__law_plus [(eP eI eI) one, (eP eI eI) other] = some (T.sh ((eP eI eI) (F__law_plus one other))) := by
  refine gp_ok rfl ?_
  show S B__law_plus [.sh ((eP eI eI) one), .sh ((eP eI eI) other)] _
  unfold B__law_plus
  exact (s_ret (ew_def (av_cons (EW.sh (ew_bin (EW.sh (ew_bin (EW.sh (ew_binL (EW.sh ew_c) rfl rfl rfl)) (EW.sh (ew_binL (EW.sh ew_c) rfl rfl rfl)) (o_mulI (H.1)))) (EW.sh (ew_bin (EW.sh (ew_binL (EW.sh ew_c) rfl rfl rfl)) (EW.sh (ew_binL (EW.sh ew_c) rfl rfl rfl)) (o_mulI (H.2.1)))) o_addI)) (av_cons (EW.sh (ew_bin (EW.sh (ew_binL (EW.sh ew_c) rfl rfl rfl)) (EW.sh (ew_binL (EW.sh ew_c) rfl rfl rfl)) (o_mulI (H.2.2.1)))) av_nil)) (V__law_low  (H.2.2.2))) (fun η k => rfl))
def F__law_total_s1  (s_1 : ((Int × Int))) (x_1 : (Int × Int)) : ((Int × Int)) := let found_2 : (Int × Int) := (F__law_plus s_1 x_1); found_2
def W__law_total_s1  (s_1 : ((Int × Int))) (x_1 : (Int × Int)) : Prop := let found_2 : (Int × Int) := (F__law_plus s_1 x_1); (W__law_plus s_1 x_1)
def F__law_total (parts : (List (Int × Int))) : (Int × Int) := let found_1 : (Int × Int) := ((0 : Int), (1 : Int)); let m_1 : ((Int × Int)) := List.foldl F__law_total_s1 found_1 parts; m_1
def W__law_total (parts : (List (Int × Int))) : Prop := let found_1 : (Int × Int) := ((0 : Int), (1 : Int)); let m_1 : ((Int × Int)) := List.foldl F__law_total_s1 found_1 parts; (WFold F__law_total_s1 W__law_total_s1 found_1 parts)
theorem W__law_total_eq {parts : (List (Int × Int))} : W__law_total parts = (let found_1 : (Int × Int) := ((0 : Int), (1 : Int)); let m_1 : ((Int × Int)) := List.foldl F__law_total_s1 found_1 parts; (WFold F__law_total_s1 W__law_total_s1 found_1 parts)) := rfl
theorem V__law_total {parts : (List (Int × Int))} (H : W__law_total parts) : G__law_total [(eL (eP eI eI)) parts] = some (T.sh ((eP eI eI) (F__law_total parts))) := by
  refine gp_ok rfl ?_
  show S B__law_total [.sh ((eL (eP eI eI)) parts), .fr, .fr] _
  unfold B__law_total
  let found_1 : (Int × Int) := ((0 : Int), (1 : Int))
  let m_1 : ((Int × Int)) := List.foldl F__law_total_s1 found_1 parts
  exact (s_seq (SV.cx (Γ2 := [.sh ((eL (eP eI eI)) parts), .sh ((eP eI eI) found_1), .fr]) (sv_asg (EW.as (t' := .sh ((eP eI eI) ((0 : Int), (1 : Int)))) (ew_tup (av_cons (EW.sh ew_c) (av_cons (EW.sh ew_c) av_nil))) rfl) (gw_n (s := .sh ((eP eI eI) found_1)) rfl)) rfl) (s_seq (SV.cx (Γ2 := [.sh ((eL (eP eI eI)) parts), .sh ((eP eI eI) m_1), .fr]) (sv_forV (l := parts) (e := (eP eI eI)) (G := (fun s_1 : ((Int × Int)) => [.sh ((eL (eP eI eI)) parts), .sh ((eP eI eI) s_1), .fr])) (s0 := found_1) (step := F__law_total_s1) (W := W__law_total_s1) rfl rfl (fun _ => rfl) (by first | exact Le.refl _ | (repeat (first | exact trivial | exact rfl | apply And.intro))) H (fun s_1 x_1 H1 => let found_2 : (Int × Int) := (F__law_plus s_1 x_1); turn (gw_n (s := .sh _) rfl) (s_of (SV.cx (Γ2 := [.sh ((eL (eP eI eI)) parts), .sh ((eP eI eI) found_2), .sh ((eP eI eI) x_1)]) (sv_asg (ew_def (av_cons (EW.sh (ew_v rfl)) (av_cons (EW.sh (ew_v rfl)) av_nil)) (V__law_plus  H1)) (gw_n (s := .sh ((eP eI eI) found_2)) rfl)) rfl) (fun η k => ⟨.inl rfl, Le.sat (by first | exact Le.refl _ | (repeat (first | exact trivial | exact rfl | apply And.intro))) k⟩)))) rfl) (s_retV (t := T.sh ((eP eI eI) m_1)) rfl (fun η k => rfl))))
def F__law_sum_s1 (choice : (List Int)) (s_1 : ((List (Int × Int)))) (x_1 : (List Int)) : ((List (Int × Int))) := let parts_2 : (List (Int × Int)) := (s_1 ++ (List.map (fun x_2 => ((1 : Int), (x_2 + (1 : Int)))) (rgI 0 (F__law_common x_1 choice)))); parts_2
def W__law_sum_s1 (choice : (List Int)) (s_1 : ((List (Int × Int)))) (x_1 : (List Int)) : Prop := let parts_2 : (List (Int × Int)) := (s_1 ++ (List.map (fun x_2 => ((1 : Int), (x_2 + (1 : Int)))) (rgI 0 (F__law_common x_1 choice)))); (W__law_common x_1 choice) ∧ (rg62 (F__law_common x_1 choice) = true) ∧ (List.length (rgI 0 (F__law_common x_1 choice)) < 16777216) ∧ (List.length s_1 + List.length (List.map (fun x_2 => ((1 : Int), (x_2 + (1 : Int)))) (rgI 0 (F__law_common x_1 choice))) < 16777216)
def F__law_sum (case : (Int × Int × (List (List Int)))) (choice : (List Int)) : (Int × Int) := let parts_1 : (List (Int × Int)) := ([] : List (Int × Int)); let m_1 : ((List (Int × Int))) := List.foldl (F__law_sum_s1 choice) parts_1 case.2.2; (F__law_total m_1)
def W__law_sum (case : (Int × Int × (List (List Int)))) (choice : (List Int)) : Prop := let parts_1 : (List (Int × Int)) := ([] : List (Int × Int)); let m_1 : ((List (Int × Int))) := List.foldl (F__law_sum_s1 choice) parts_1 case.2.2; (WFold (F__law_sum_s1 choice) (W__law_sum_s1 choice) parts_1 case.2.2) ∧ (W__law_total m_1)
theorem W__law_sum_eq {case : (Int × Int × (List (List Int)))} {choice : (List Int)} : W__law_sum case choice = (let parts_1 : (List (Int × Int)) := ([] : List (Int × Int)); let m_1 : ((List (Int × Int))) := List.foldl (F__law_sum_s1 choice) parts_1 case.2.2; (WFold (F__law_sum_s1 choice) (W__law_sum_s1 choice) parts_1 case.2.2) ∧ (W__law_total m_1)) := rfl
theorem V__law_sum {case : (Int × Int × (List (List Int)))} {choice : (List Int)} (H : W__law_sum case choice) : G__law_sum [(eP3 eI eI (eT (eT eI))) case, (eT eI) choice] = some (T.sh ((eP eI eI) (F__law_sum case choice))) := by
  refine gp_ok rfl ?_
  show S B__law_sum [.sh ((eP3 eI eI (eT (eT eI))) case), .sh ((eT eI) choice), .fr, .fr, .fr] _
  unfold B__law_sum
  let parts_1 : (List (Int × Int)) := ([] : List (Int × Int))
  let m_1 : ((List (Int × Int))) := List.foldl (F__law_sum_s1 choice) parts_1 case.2.2
  exact (s_seq (SV.cx (Γ2 := [.sh ((eP3 eI eI (eT (eT eI))) case), .sh ((eT eI) choice), .od (List.map (eP eI eI) parts_1), .fr, .fr]) (sv_asg (EW.as (t' := .lst (List.map T.sh (List.map (eP eI eI) ([] : List (Int × Int))))) (ew_lst aw_nil) rfl) (gw_n (s := .od (List.map (eP eI eI) parts_1)) rfl)) rfl) (s_seq (SV.cx (Γ2 := [.sh ((eP3 eI eI (eT (eT eI))) case), .sh ((eT eI) choice), .od (List.map (eP eI eI) m_1), .fr, .fr]) (sv_for (l := case.2.2) (e := (eT eI)) (G := (fun s_1 : ((List (Int × Int))) => [.sh ((eP3 eI eI (eT (eT eI))) case), .sh ((eT eI) choice), .od (List.map (eP eI eI) s_1), .fr, .fr])) (s0 := parts_1) (step := (F__law_sum_s1 choice)) (W := (W__law_sum_s1 choice)) (iv_e (EW.sh (ew_binL (EW.sh ew_c) rfl rfl rfl)) rfl) (by first | exact Le.refl _ | (repeat (first | exact trivial | exact rfl | apply And.intro))) (H.1) (fun s_1 x_1 H2 => let parts_2 : (List (Int × Int)) := (s_1 ++ (List.map (fun x_2 => ((1 : Int), (x_2 + (1 : Int)))) (rgI 0 (F__law_common x_1 choice)))); turn (gw_n (s := .sh _) rfl) (s_of (SV.cx (Γ2 := [.sh ((eP3 eI eI (eT (eT eI))) case), .sh ((eT eI) choice), .od (List.map (eP eI eI) parts_2), .sh ((eT eI) x_1), .fr]) (sv_expr (ew_mt1 (s := .od (List.map (eP eI eI) (s_1 ++ (List.map (fun x_2 => ((1 : Int), (x_2 + (1 : Int)))) (rgI 0 (F__law_common x_1 choice)))))) rfl (EW.mapE (e := (eP eI eI)) (ew_compM (l := (rgI 0 (F__law_common x_1 choice))) (e := eI) (r := fun x_2 => T.sh ((eP eI eI) ((1 : Int), (x_2 + (1 : Int))))) (IV.as (iv_r1 (ew_def (av_cons (EW.sh (ew_v rfl)) (av_cons (EW.sh (ew_v rfl)) av_nil)) (V__law_common  (H2.1))) (H2.2.1)) (rgD_map _ _)) (H2.2.2.1) (free_own (by rfl)) (fun x_2 hx => item1 (gw_n (s := .sh _) rfl) (EW.as (t' := .sh ((eP eI eI) ((1 : Int), (x_2 + (1 : Int))))) (ew_tup (av_cons (EW.sh ew_c) (av_cons (EW.sh (ew_binL (EW.sh ew_c) rfl rfl o_addI)) av_nil))) rfl) (by first | exact Le.refl _ | (repeat (first | exact trivial | exact rfl | apply And.intro)))))) rfl (mExtend_map (e := (eP eI eI)) (l2 := (List.map (fun x_2 => ((1 : Int), (x_2 + (1 : Int)))) (rgI 0 (F__law_common x_1 choice)))) (H2.2.2.2)) rfl)) rfl) (fun η k => ⟨.inl rfl, Le.sat (by first | exact Le.refl _ | (repeat (first | exact trivial | exact rfl | apply And.intro))) k⟩)))) rfl) (s_ret (ew_def (av_cons (EW.sh (ew_v rfl)) av_nil) (V__law_total  (H.2))) (fun η k => rfl))))
def F__law_exchange_s1 (case : (Int × Int × (List (List Int)))) (choice : (List Int)) (bound_1 : (Int × Int)) (here_1 : (Int × Int)) (x_1 : Int) (s_2 : Unit) (x_3 : Int) : (Lp Unit (Option (Int × Int))) := let other_1 : (List Int) := (sortT eI ((List.map (fun x_4 => x_4) (List.filter (fun x_4 => (!decide (x_4 = x_1))) choice)) ++ [x_3])); (if (!(F__law_is_less (F__law_minus (F__law_sum case other_1) here_1) bound_1)) = true then ((.ret (some (x_1, x_3)))) else ((.nx ())))
def W__law_exchange_s1 (case : (Int × Int × (List (List Int)))) (choice : (List Int)) (bound_1 : (Int × Int)) (here_1 : (Int × Int)) (x_1 : Int) (s_2 : Unit) (x_3 : Int) : Prop := let other_1 : (List Int) := (sortT eI ((List.map (fun x_4 => x_4) (List.filter (fun x_4 => (!decide (x_4 = x_1))) choice)) ++ [x_3])); (List.length choice < 16777216) ∧ (List.length (List.map (fun x_4 => x_4) (List.filter (fun x_4 => (!decide (x_4 = x_1))) choice)) + List.length [x_3] ≤ 16777216) ∧ (W__law_sum case other_1) ∧ (W__law_minus (F__law_sum case other_1) here_1) ∧ (W__law_is_less (F__law_minus (F__law_sum case other_1) here_1) bound_1)
def F__law_exchange_s2 (case : (Int × Int × (List (List Int)))) (choice : (List Int)) (p_1 : (Int × Int × (List (List Int)))) (bound_1 : (Int × Int)) (here_1 : (Int × Int)) (s_1 : Unit) (x_1 : Int) : (Lp Unit (Option (Int × Int))) := let e_1 : (Except (Option (Int × Int)) Unit) := (foldL (F__law_exchange_s1 case choice bound_1 here_1 x_1) () (List.map (fun x_2 => x_2) (List.filter (fun x_2 => (!memT x_2 choice)) (rgI 0 p_1.1)))); (exC e_1 (fun z_1 : Unit => (.nx ())) (fun r_1 : (Option (Int × Int)) => .ret r_1))
def W__law_exchange_s2 (case : (Int × Int × (List (List Int)))) (choice : (List Int)) (p_1 : (Int × Int × (List (List Int)))) (bound_1 : (Int × Int)) (here_1 : (Int × Int)) (s_1 : Unit) (x_1 : Int) : Prop := let e_1 : (Except (Option (Int × Int)) Unit) := (foldL (F__law_exchange_s1 case choice bound_1 here_1 x_1) () (List.map (fun x_2 => x_2) (List.filter (fun x_2 => (!memT x_2 choice)) (rgI 0 p_1.1)))); (rg62 p_1.1 = true) ∧ (List.length (rgI 0 p_1.1) < 16777216) ∧ (WFoldL (F__law_exchange_s1 case choice bound_1 here_1 x_1) (W__law_exchange_s1 case choice bound_1 here_1 x_1) () (List.map (fun x_2 => x_2) (List.filter (fun x_2 => (!memT x_2 choice)) (rgI 0 p_1.1))))
def F__law_exchange (case : (Int × Int × (List (List Int)))) (choice : (List Int)) : (Option (Int × Int)) := let p_1 : (Int × Int × (List (List Int))) := case; let bound_1 : (Int × Int) := (F__law_low (List.length p_1.2.2 : Int) (p_1.2.1 * p_1.2.1)); let here_1 : (Int × Int) := (F__law_sum case choice); let e_2 : (Except (Option (Int × Int)) Unit) := (foldL (F__law_exchange_s2 case choice p_1 bound_1 here_1) () choice); (exC e_2 (fun z_2 : Unit => (none : (Option (Int × Int)))) (fun r_2 : (Option (Int × Int)) => r_2))
def W__law_exchange (case : (Int × Int × (List (List Int)))) (choice : (List Int)) : Prop := let p_1 : (Int × Int × (List (List Int))) := case; let bound_1 : (Int × Int) := (F__law_low (List.length p_1.2.2 : Int) (p_1.2.1 * p_1.2.1)); let here_1 : (Int × Int) := (F__law_sum case choice); let e_2 : (Except (Option (Int × Int)) Unit) := (foldL (F__law_exchange_s2 case choice p_1 bound_1 here_1) () choice); (mulFits p_1.2.1 p_1.2.1 = true) ∧ (W__law_low (List.length p_1.2.2 : Int) (p_1.2.1 * p_1.2.1)) ∧ (W__law_sum case choice) ∧ (WFoldL (F__law_exchange_s2 case choice p_1 bound_1 here_1) (W__law_exchange_s2 case choice p_1 bound_1 here_1) () choice)
theorem W__law_exchange_eq {case : (Int × Int × (List (List Int)))} {choice : (List Int)} : W__law_exchange case choice = (let p_1 : (Int × Int × (List (List Int))) := case; let bound_1 : (Int × Int) := (F__law_low (List.length p_1.2.2 : Int) (p_1.2.1 * p_1.2.1)); let here_1 : (Int × Int) := (F__law_sum case choice); let e_2 : (Except (Option (Int × Int)) Unit) := (foldL (F__law_exchange_s2 case choice p_1 bound_1 here_1) () choice); (mulFits p_1.2.1 p_1.2.1 = true) ∧ (W__law_low (List.length p_1.2.2 : Int) (p_1.2.1 * p_1.2.1)) ∧ (W__law_sum case choice) ∧ (WFoldL (F__law_exchange_s2 case choice p_1 bound_1 here_1) (W__law_exchange_s2 case choice p_1 bound_1 here_1) () choice)) := rfl
theorem V__law_exchange {case : (Int × Int × (List (List Int)))} {choice : (List Int)} (H : W__law_exchange case choice) : G__law_exchange [(eP3 eI eI (eT (eT eI))) case, (eT eI) choice] = some (T.sh ((eO (eP eI eI)) (F__law_exchange case choice))) := by
  refine gp_ok rfl ?_
  show S B__law_exchange [.sh ((eP3 eI eI (eT (eT eI))) case), .sh ((eT eI) choice), .fr, .fr, .fr, .fr, .fr, .fr, .fr, .fr, .fr] _
  unfold B__law_exchange
  let p_1 : (Int × Int × (List (List Int))) := case
  let bound_1 : (Int × Int) := (F__law_low (List.length p_1.2.2 : Int) (p_1.2.1 * p_1.2.1))
  let here_1 : (Int × Int) := (F__law_sum case choice)
  let e_2 : (Except (Option (Int × Int)) Unit) := (foldL (F__law_exchange_s2 case choice p_1 bound_1 here_1) () choice)
  exact (s_seq (SV.cx (Γ2 := [.sh ((eP3 eI eI (eT (eT eI))) case), .sh ((eT eI) choice), .sh (eI p_1.1), .sh (eI p_1.2.1), .sh ((eT (eT eI)) p_1.2.2), .fr, .fr, .fr, .fr, .fr, .fr]) (sv_asg (ew_v rfl) (gw_tup (gws_cons (gw_n (s := .sh _) rfl) (gws_cons (gw_n (s := .sh _) rfl) (gws_cons (gw_n (s := .sh _) rfl) gws_nil))) rfl rfl)) rfl) (s_seq (SV.cx (Γ2 := [.sh ((eP3 eI eI (eT (eT eI))) case), .sh ((eT eI) choice), .sh (eI p_1.1), .sh (eI p_1.2.1), .sh ((eT (eT eI)) p_1.2.2), .sh ((eP eI eI) bound_1), .sh ((eP eI eI) here_1), .fr, .fr, .fr, .fr]) (sv_par (s1 := .sh ((eP eI eI) bound_1)) (s2 := .sh ((eP eI eI) here_1)) (aw_cons (ew_def (av_cons (EW.sh (ew_callV rfl (o_lenT (e := (eT eI))))) (av_cons (EW.sh (ew_binLR rfl rfl (o_mulI (H.1)))) av_nil)) (V__law_low  (H.2.1))) (aw_cons (ew_def (av_cons (EW.sh (ew_v rfl)) (av_cons (EW.sh (ew_v rfl)) av_nil)) (V__law_sum  (H.2.2.1))) aw_nil)) rfl rfl) rfl) (s_seqX (M := (fun (v : (Option (Int × Int))) fl _ => fl = .ret (T.sh ((eO (eP eI eI)) v)))) (fun z_2 : Unit => (none : (Option (Int × Int)))) (fun r_2 : (Option (Int × Int)) => r_2) (s_forV (l := choice) (e := eI) (G := (fun s_1 : Unit => [.sh ((eP3 eI eI (eT (eT eI))) case), .sh ((eT eI) choice), .sh (eI p_1.1), .sh (eI p_1.2.1), .sh ((eT (eT eI)) p_1.2.2), .sh ((eP eI eI) bound_1), .sh ((eP eI eI) here_1), .fr, .fr, .fr, .fr])) (s0 := ()) (step := (F__law_exchange_s2 case choice p_1 bound_1 here_1)) (W := (W__law_exchange_s2 case choice p_1 bound_1 here_1)) (R := (fun (v : (Option (Int × Int))) _ t => t = T.sh ((eO (eP eI eI)) v))) rfl rfl (fun _ => rfl) (by first | exact Le.refl _ | (repeat (first | exact trivial | exact rfl | apply And.intro))) (H.2.2.2) (fun s_1 x_1 H8 => let e_1 : (Except (Option (Int × Int)) Unit) := (foldL (F__law_exchange_s1 case choice bound_1 here_1 x_1) () (List.map (fun x_2 => x_2) (List.filter (fun x_2 => (!memT x_2 choice)) (rgI 0 p_1.1)))); turn (gw_n (s := .sh _) rfl) (s_endX (M := (LpP (fun _ : Unit => [.sh ((eP3 eI eI (eT (eT eI))) case), .sh ((eT eI) choice), .sh (eI p_1.1), .sh (eI p_1.2.1), .sh ((eT (eT eI)) p_1.2.2), .sh ((eP eI eI) bound_1), .sh ((eP eI eI) here_1), .fr, .fr, .fr, .fr]) (fun (v : (Option (Int × Int))) _ t => t = T.sh ((eO (eP eI eI)) v)))) (fun z_1 : Unit => (.nx ())) (fun r_1 : (Option (Int × Int)) => .ret r_1) (s_for (l := (List.map (fun x_2 => x_2) (List.filter (fun x_2 => (!memT x_2 choice)) (rgI 0 p_1.1)))) (e := eI) (G := (fun s_2 : Unit => [.sh ((eP3 eI eI (eT (eT eI))) case), .sh ((eT eI) choice), .sh (eI p_1.1), .sh (eI p_1.2.1), .sh ((eT (eT eI)) p_1.2.2), .sh ((eP eI eI) bound_1), .sh ((eP eI eI) here_1), .sh (eI x_1), .fr, .fr, .fr])) (s0 := ()) (step := (F__law_exchange_s1 case choice bound_1 here_1 x_1)) (W := (W__law_exchange_s1 case choice bound_1 here_1 x_1)) (R := (fun (v : (Option (Int × Int))) _ t => t = T.sh ((eO (eP eI eI)) v))) (iv_e (EW.od (EW.mapE (e := eI) (ew_comp (l := (rgI 0 p_1.1)) (e := eI) (c := fun x_2 => (!memT x_2 choice)) (r := fun x_2 => T.sh (eI x_2)) (IV.as (iv_r1 (ew_v rfl) (H8.1)) (rgD_map _ _)) (H8.2.1) (free_own (by rfl)) (fun x_2 hx => item (gw_n (s := .sh _) rfl) (bv_t (ew_binLR rfl rfl (o_ninT (e := eI) cm_i))) (fun _ => (by first | exact Le.refl _ | (repeat (first | exact trivial | exact rfl | apply And.intro)))) (fun hb => (ew_v rfl)) (by first | exact Le.refl _ | (repeat (first | exact trivial | exact rfl | apply And.intro))))))) rfl) (by first | exact Le.refl _ | (repeat (first | exact trivial | exact rfl | apply And.intro))) (H8.2.2) (fun s_2 x_3 H7 => let other_1 : (List Int) := (sortT eI ((List.map (fun x_4 => x_4) (List.filter (fun x_4 => (!decide (x_4 = x_1))) choice)) ++ [x_3])); turn (gw_n (s := .sh _) rfl) (s_seq (SV.cx (Γ2 := [.sh ((eP3 eI eI (eT (eT eI))) case), .sh ((eT eI) choice), .sh (eI p_1.1), .sh (eI p_1.2.1), .sh ((eT (eT eI)) p_1.2.2), .sh ((eP eI eI) bound_1), .sh ((eP eI eI) here_1), .sh (eI x_1), .sh (eI x_3), .fr, .sh ((eT eI) other_1)]) (sv_asg (ew_call (av_cons (EW.od (ew_call (av_cons (EW.od (ew_bin (EW.od (EW.mapE (e := eI) (ew_compV (l := choice) (e := eI) (c := fun x_4 => (!decide (x_4 = x_1))) (r := fun x_4 => T.sh (eI x_4)) rfl rfl rfl (H7.1) (free_own (by rfl)) (fun x_4 hx => item (gw_n (s := .sh _) rfl) (bv_t (ew_binLR rfl rfl (o_ne (e := eI) cm_i))) (fun _ => (by first | exact Le.refl _ | (repeat (first | exact trivial | exact rfl | apply And.intro)))) (fun hb => (ew_v rfl)) (by first | exact Le.refl _ | (repeat (first | exact trivial | exact rfl | apply And.intro))))))) (EW.od (EW.as (t' := .lst (List.map T.sh (List.map eI [x_3]))) (ew_lst (aw_cons (ew_v rfl) aw_nil)) rfl)) (o_addL (e := eI) (H7.2.1)))) av_nil) (o_sortedL (e := eI) (sortable_of (So.mk al_i (fun a => (cm_i).lay a) (fun a => Nat.le_trans ((cm_i).dep a) (by decide))) _)))) av_nil) (o_tupL (e := eI))) (gw_n (s := .sh ((eT eI) other_1)) rfl)) rfl) (s_if (LpP (fun _ : Unit => [.sh ((eP3 eI eI (eT (eT eI))) case), .sh ((eT eI) choice), .sh (eI p_1.1), .sh (eI p_1.2.1), .sh ((eT (eT eI)) p_1.2.2), .sh ((eP eI eI) bound_1), .sh ((eP eI eI) here_1), .sh (eI x_1), .fr, .fr, .fr]) (fun (v : (Option (Int × Int))) _ t => t = T.sh ((eO (eP eI eI)) v))) (bv_not (bv_tru (EW.sh (ew_def (av_cons (EW.sh (ew_def (av_cons (EW.sh (ew_def (av_cons (EW.sh (ew_v rfl)) (av_cons (EW.sh (ew_v rfl)) av_nil)) (V__law_sum  (H7.2.2.1)))) (av_cons (EW.sh (ew_v rfl)) av_nil)) (V__law_minus  (H7.2.2.2.1)))) (av_cons (EW.sh (ew_v rfl)) av_nil)) (V__law_is_less  (H7.2.2.2.2)))) rfl)) (fun hb => (s_ret (EW.as (t' := .sh ((eP eI eI) (x_1, x_3))) (ew_tup (av_cons (EW.sh (ew_v rfl)) (av_cons (EW.sh (ew_v rfl)) av_nil))) rfl) (fun η k => ⟨_, rfl, rfl⟩))) (fun hb => (s_of sv_nil (fun η k => ⟨.inl rfl, Le.sat (by first | exact Le.refl _ | (repeat (first | exact trivial | exact rfl | apply And.intro))) k⟩))))))) (fun r η t h => ⟨t, rfl, h⟩) (fun z_1 => (fun η k => ⟨.inl rfl, Le.sat (by first | exact Le.refl _ | (repeat (first | exact trivial | exact rfl | apply And.intro))) k⟩))))) (fun r η t h => by rw [h]) (fun z_2 hs => (s_ret ew_c (fun η k => rfl))))))
def F__law_groups (case : (Int × Int × (List (List Int)))) : (List (List Int)) := (List.map (fun x_1 => x_1) (List.filter (fun x_1 => (decide ((0 : Int) < (List.length x_1 : Int)))) (F__law_lots (rgI 0 (List.length case.2.2 : Int)))))
def W__law_groups (case : (Int × Int × (List (List Int)))) : Prop := (0 ≤ (List.length case.2.2 : Int) ∧ (List.length case.2.2 : Int) ≤ 16777216) ∧ (W__law_lots (rgI 0 (List.length case.2.2 : Int))) ∧ (List.length (F__law_lots (rgI 0 (List.length case.2.2 : Int))) < 16777216)
theorem W__law_groups_eq {case : (Int × Int × (List (List Int)))} : W__law_groups case = ((0 ≤ (List.length case.2.2 : Int) ∧ (List.length case.2.2 : Int) ≤ 16777216) ∧ (W__law_lots (rgI 0 (List.length case.2.2 : Int))) ∧ (List.length (F__law_lots (rgI 0 (List.length case.2.2 : Int))) < 16777216)) := rfl
theorem V__law_groups {case : (Int × Int × (List (List Int)))} (H : W__law_groups case) : G__law_groups [(eP3 eI eI (eT (eT eI))) case] = some (T.lst (List.map T.sh (List.map (eT eI) (F__law_groups case)))) := by
  refine gp_ok rfl ?_
  show S B__law_groups [.sh ((eP3 eI eI (eT (eT eI))) case), .fr] _
  unfold B__law_groups
  exact (s_ret (EW.mapE (e := (eT eI)) (ew_comp (l := (F__law_lots (rgI 0 (List.length case.2.2 : Int)))) (e := (eT eI)) (c := fun x_1 => (decide ((0 : Int) < (List.length x_1 : Int)))) (r := fun x_1 => T.sh ((eT eI) x_1)) (iv_e (EW.od (ew_def (av_cons (EW.od (EW.as (ew_lstRg1 (ew_call (av_cons (EW.sh (ew_binL (EW.sh ew_c) rfl rfl rfl)) av_nil) (o_lenT (e := (eT eI)))) (H.1)) (by rw [rgD_map]))) av_nil) (V__law_lots  (H.2.1)))) rfl) (H.2.2) (free_own (by rfl)) (fun x_1 hx => item (gw_n (s := .sh _) rfl) (bv_t (ew_bin (EW.sh (ew_callV rfl (o_lenT (e := eI)))) (EW.sh ew_c) o_gtI)) (fun _ => (by first | exact Le.refl _ | (repeat (first | exact trivial | exact rfl | apply And.intro)))) (fun hb => (ew_v rfl)) (by first | exact Le.refl _ | (repeat (first | exact trivial | exact rfl | apply And.intro)))))) (fun η k => rfl))
def F__law_is_wronged (case : (Int × Int × (List (List Int)))) (choice : (List Int)) (word : Str) (s : Int) (group : (List Int)) : Bool := let p_1 : (Int × Int × (List (List Int))) := case; let alike_1 : (List Int) := (List.map (fun x_1 => x_1) (List.filter (fun x_1 => (List.all (List.map (fun x_2 => (memT x_1 (gx p_1.2.2 x_2))) group) id)) (rgI 0 p_1.1))); (if ((decide (((List.length group : Int) * p_1.2.1) < (s * (List.length p_1.2.2 : Int)))) || (decide ((List.length alike_1 : Int) < s))) = true then (false) else ((if (decide (word = ("each" : Str))) = true then ((List.all (List.map (fun x_3 => (decide ((F__law_common (gx p_1.2.2 x_3) choice) < s))) group) id)) else (let union_1 : (List Int) := (List.map (fun x_4 => x_4) (List.filter (fun x_4 => (List.any (List.map (fun x_5 => (memT x_4 (gx p_1.2.2 x_5))) group) id)) choice)); ((decide ((List.length union_1 : Int) < s)) && ((decide (word = ("all" : Str))) || (decide (s = (1 : Int)))))))))
def W__law_is_wronged (case : (Int × Int × (List (List Int)))) (choice : (List Int)) (word : Str) (s : Int) (group : (List Int)) : Prop := let p_1 : (Int × Int × (List (List Int))) := case; let alike_1 : (List Int) := (List.map (fun x_1 => x_1) (List.filter (fun x_1 => (List.all (List.map (fun x_2 => (memT x_1 (gx p_1.2.2 x_2))) group) id)) (rgI 0 p_1.1))); (rg62 p_1.1 = true) ∧ (List.length (rgI 0 p_1.1) < 16777216) ∧ (∀ x_1 ∈ (rgI 0 p_1.1), (List.length group < 16777216) ∧ (∀ x_2 ∈ group, (ixOk (List.length p_1.2.2) x_2))) ∧ (mulFits (List.length group : Int) p_1.2.1 = true) ∧ (mulFits s (List.length p_1.2.2 : Int) = true) ∧ (((decide (((List.length group : Int) * p_1.2.1) < (s * (List.length p_1.2.2 : Int)))) || (decide ((List.length alike_1 : Int) < s))) = false → ((eS word).canLay0 = true ∧ (eS ("each" : Str)).canLay0 = true) ∧ ((decide (word = ("each" : Str))) = true → (List.length group < 16777216) ∧ (∀ x_3 ∈ group, (ixOk (List.length p_1.2.2) x_3) ∧ (W__law_common (gx p_1.2.2 x_3) choice))) ∧ ((decide (word = ("each" : Str))) = false → let union_1 : (List Int) := (List.map (fun x_4 => x_4) (List.filter (fun x_4 => (List.any (List.map (fun x_5 => (memT x_4 (gx p_1.2.2 x_5))) group) id)) choice)); (List.length choice < 16777216) ∧ (∀ x_4 ∈ choice, (List.length group < 16777216) ∧ (∀ x_5 ∈ group, (ixOk (List.length p_1.2.2) x_5))) ∧ ((decide ((List.length union_1 : Int) < s)) = true → ((eS word).canLay0 = true ∧ (eS ("all" : Str)).canLay0 = true))))
theorem W__law_is_wronged_eq {case : (Int × Int × (List (List Int)))} {choice : (List Int)} {word : Str} {s : Int} {group : (List Int)} : W__law_is_wronged case choice word s group = (let p_1 : (Int × Int × (List (List Int))) := case; let alike_1 : (List Int) := (List.map (fun x_1 => x_1) (List.filter (fun x_1 => (List.all (List.map (fun x_2 => (memT x_1 (gx p_1.2.2 x_2))) group) id)) (rgI 0 p_1.1))); (rg62 p_1.1 = true) ∧ (List.length (rgI 0 p_1.1) < 16777216) ∧ (∀ x_1 ∈ (rgI 0 p_1.1), (List.length group < 16777216) ∧ (∀ x_2 ∈ group, (ixOk (List.length p_1.2.2) x_2))) ∧ (mulFits (List.length group : Int) p_1.2.1 = true) ∧ (mulFits s (List.length p_1.2.2 : Int) = true) ∧ (((decide (((List.length group : Int) * p_1.2.1) < (s * (List.length p_1.2.2 : Int)))) || (decide ((List.length alike_1 : Int) < s))) = false → ((eS word).canLay0 = true ∧ (eS ("each" : Str)).canLay0 = true) ∧ ((decide (word = ("each" : Str))) = true → (List.length group < 16777216) ∧ (∀ x_3 ∈ group, (ixOk (List.length p_1.2.2) x_3) ∧ (W__law_common (gx p_1.2.2 x_3) choice))) ∧ ((decide (word = ("each" : Str))) = false → let union_1 : (List Int) := (List.map (fun x_4 => x_4) (List.filter (fun x_4 => (List.any (List.map (fun x_5 => (memT x_4 (gx p_1.2.2 x_5))) group) id)) choice)); (List.length choice < 16777216) ∧ (∀ x_4 ∈ choice, (List.length group < 16777216) ∧ (∀ x_5 ∈ group, (ixOk (List.length p_1.2.2) x_5))) ∧ ((decide ((List.length union_1 : Int) < s)) = true → ((eS word).canLay0 = true ∧ (eS ("all" : Str)).canLay0 = true))))) := rfl
theorem V__law_is_wronged {case : (Int × Int × (List (List Int)))} {choice : (List Int)} {word : Str} {s : Int} {group : (List Int)} (H : W__law_is_wronged case choice word s group) : G__law_is_wronged [(eP3 eI eI (eT (eT eI))) case, (eT eI) choice, eS word, eI s, (eT eI) group] = some (T.sh (eB (F__law_is_wronged case choice word s group))) := by
  refine gp_ok rfl ?_
  show S B__law_is_wronged [.sh ((eP3 eI eI (eT (eT eI))) case), .sh ((eT eI) choice), .sh (eS word), .sh (eI s), .sh ((eT eI) group), .fr, .fr, .fr, .fr, .fr, .fr, .fr] _
  unfold B__law_is_wronged
  let p_1 : (Int × Int × (List (List Int))) := case
  let alike_1 : (List Int) := (List.map (fun x_1 => x_1) (List.filter (fun x_1 => (List.all (List.map (fun x_2 => (memT x_1 (gx p_1.2.2 x_2))) group) id)) (rgI 0 p_1.1)))
  exact (s_seq (SV.cx (Γ2 := [.sh ((eP3 eI eI (eT (eT eI))) case), .sh ((eT eI) choice), .sh (eS word), .sh (eI s), .sh ((eT eI) group), .sh (eI p_1.1), .sh (eI p_1.2.1), .sh ((eT (eT eI)) p_1.2.2), .fr, .fr, .fr, .fr]) (sv_asg (ew_v rfl) (gw_tup (gws_cons (gw_n (s := .sh _) rfl) (gws_cons (gw_n (s := .sh _) rfl) (gws_cons (gw_n (s := .sh _) rfl) gws_nil))) rfl rfl)) rfl) (s_seq (SV.cx (Γ2 := [.sh ((eP3 eI eI (eT (eT eI))) case), .sh ((eT eI) choice), .sh (eS word), .sh (eI s), .sh ((eT eI) group), .sh (eI p_1.1), .sh (eI p_1.2.1), .sh ((eT (eT eI)) p_1.2.2), .od (List.map eI alike_1), .fr, .fr, .fr]) (sv_asg (EW.mapE (e := eI) (ew_comp (l := (rgI 0 p_1.1)) (e := eI) (c := fun x_1 => (List.all (List.map (fun x_2 => (memT x_1 (gx p_1.2.2 x_2))) group) id)) (r := fun x_1 => T.sh (eI x_1)) (IV.as (iv_r1 (ew_v rfl) (H.1)) (rgD_map _ _)) (H.2.1) (free_own (by rfl)) (fun x_1 hx => have H2 := (H.2.2.1) x_1 hx; item (gw_n (s := .sh _) rfl) (bv_tru (EW.sh (ew_call (av_cons (EW.od (EW.mapE (e := eB) (ew_compVM (l := group) (e := eI) (r := fun x_2 => T.sh (eB (memT x_1 (gx p_1.2.2 x_2)))) rfl rfl rfl (H2.1) (free_own (by rfl)) (fun x_2 hx => have H1 := (H2.2) x_2 hx; item1 (gw_n (s := .sh _) rfl) (ew_binL (EW.sh (ew_binLR rfl rfl (o_ixT (e := (eT eI)) H1))) rfl rfl (o_inT (e := eI) cm_i)) (by first | exact Le.refl _ | (repeat (first | exact trivial | exact rfl | apply And.intro))))))) av_nil) o_all)) rfl) (fun _ => (by first | exact Le.refl _ | (repeat (first | exact trivial | exact rfl | apply And.intro)))) (fun hb => (ew_v rfl)) (by first | exact Le.refl _ | (repeat (first | exact trivial | exact rfl | apply And.intro)))))) (gw_n (s := .od (List.map eI alike_1)) rfl)) rfl) (s_ifseq (fun (v : Bool) fl _ => fl = .ret (T.sh (eB v))) (bv_or (bv_t (ew_bin (EW.sh (ew_binR (EW.sh (ew_callV rfl (o_lenT (e := eI)))) rfl (o_mulI (H.2.2.2.1)))) (EW.sh (ew_binL (EW.sh (ew_callV rfl (o_lenT (e := (eT eI))))) rfl rfl (o_mulI (H.2.2.2.2.1)))) o_ltI)) (fun hb => (bv_t (ew_binR (EW.sh (ew_callV rfl (o_lenL (e := eI)))) rfl o_ltI))) (by first | exact Le.refl _ | (repeat (first | exact trivial | exact rfl | apply And.intro)))) (fun hb => (s_stop (s_ret ew_c (fun η k => ⟨(by rintro ⟨⟩), rfl⟩)))) (fun hb => (have H14 := (H.2.2.2.2.2) hb; (s_nilseq (s_ifseq (fun (v : Bool) fl _ => fl = .ret (T.sh (eB v))) (bv_t (ew_binL (EW.sh ew_c) rfl rfl (o_eqS (H14.1)))) (fun hb => (have H11 := (H14.2.1) hb; (s_stop (s_ret (ew_call (av_cons (EW.od (EW.mapE (e := eB) (ew_compVM (l := group) (e := eI) (r := fun x_3 => T.sh (eB (decide ((F__law_common (gx p_1.2.2 x_3) choice) < s)))) rfl rfl rfl (H11.1) (free_own (by rfl)) (fun x_3 hx => have H5 := (H11.2) x_3 hx; item1 (gw_n (s := .sh _) rfl) (ew_binR (EW.sh (ew_def (av_cons (EW.sh (ew_binLR rfl rfl (o_ixT (e := (eT eI)) (H5.1)))) (av_cons (EW.sh (ew_v rfl)) av_nil)) (V__law_common  (H5.2)))) rfl o_ltI) (by first | exact Le.refl _ | (repeat (first | exact trivial | exact rfl | apply And.intro))))))) av_nil) o_all) (fun η k => ⟨(by rintro ⟨⟩), rfl⟩))))) (fun hb => (have H12 := (H14.2.2) hb; let union_1 : (List Int) := (List.map (fun x_4 => x_4) (List.filter (fun x_4 => (List.any (List.map (fun x_5 => (memT x_4 (gx p_1.2.2 x_5))) group) id)) choice)); (s_nilseq (s_seq (SV.cx (Γ2 := [.sh ((eP3 eI eI (eT (eT eI))) case), .sh ((eT eI) choice), .sh (eS word), .sh (eI s), .sh ((eT eI) group), .sh (eI p_1.1), .sh (eI p_1.2.1), .sh ((eT (eT eI)) p_1.2.2), .od (List.map eI alike_1), .fr, .fr, .od (List.map eI union_1)]) (sv_asg (EW.mapE (e := eI) (ew_compV (l := choice) (e := eI) (c := fun x_4 => (List.any (List.map (fun x_5 => (memT x_4 (gx p_1.2.2 x_5))) group) id)) (r := fun x_4 => T.sh (eI x_4)) rfl rfl rfl (H12.1) (free_own (by rfl)) (fun x_4 hx => have H7 := (H12.2.1) x_4 hx; item (gw_n (s := .sh _) rfl) (bv_tru (EW.sh (ew_call (av_cons (EW.od (EW.mapE (e := eB) (ew_compVM (l := group) (e := eI) (r := fun x_5 => T.sh (eB (memT x_4 (gx p_1.2.2 x_5)))) rfl rfl rfl (H7.1) (free_own (by rfl)) (fun x_5 hx => have H6 := (H7.2) x_5 hx; item1 (gw_n (s := .sh _) rfl) (ew_binL (EW.sh (ew_binLR rfl rfl (o_ixT (e := (eT eI)) H6))) rfl rfl (o_inT (e := eI) cm_i)) (by first | exact Le.refl _ | (repeat (first | exact trivial | exact rfl | apply And.intro))))))) av_nil) o_any)) rfl) (fun _ => (by first | exact Le.refl _ | (repeat (first | exact trivial | exact rfl | apply And.intro)))) (fun hb => (ew_v rfl)) (by first | exact Le.refl _ | (repeat (first | exact trivial | exact rfl | apply And.intro)))))) (gw_n (s := .od (List.map eI union_1)) rfl)) rfl) (s_ret (ew_and (ew_binR (EW.sh (ew_callV rfl (o_lenL (e := eI)))) rfl o_ltI) (fun hb => (have H10 := (H12.2.2) hb; (ew_or (ew_binL (EW.sh ew_c) rfl rfl (o_eqS H10)) (fun hb => (ew_binL (EW.sh ew_c) rfl rfl (o_eq (e := eI) cm_i))) (by first | exact Le.refl _ | (repeat (first | exact trivial | exact rfl | apply And.intro)))))) (by first | exact Le.refl _ | (repeat (first | exact trivial | exact rfl | apply And.intro)))) (fun η k => rfl)))))))))))))
def F__law_wronged_s1 (case : (Int × Int × (List (List Int)))) (choice : (List Int)) (word : Str) (x_1 : Int) (s_2 : Unit) (x_2 : (List Int)) : (Lp Unit (Option (Int × (List Int)))) := (if (F__law_is_wronged case choice word x_1 x_2) = true then ((.ret (some (x_1, x_2)))) else ((.nx ())))
def W__law_wronged_s1 (case : (Int × Int × (List (List Int)))) (choice : (List Int)) (word : Str) (x_1 : Int) (s_2 : Unit) (x_2 : (List Int)) : Prop := (W__law_is_wronged case choice word x_1 x_2)
def F__law_wronged_s2 (case : (Int × Int × (List (List Int)))) (choice : (List Int)) (word : Str) (s_1 : Unit) (x_1 : Int) : (Lp Unit (Option (Int × (List Int)))) := let e_1 : (Except (Option (Int × (List Int))) Unit) := (foldL (F__law_wronged_s1 case choice word x_1) () (F__law_groups case)); (exC e_1 (fun z_1 : Unit => (.nx ())) (fun r_1 : (Option (Int × (List Int))) => .ret r_1))
def W__law_wronged_s2 (case : (Int × Int × (List (List Int)))) (choice : (List Int)) (word : Str) (s_1 : Unit) (x_1 : Int) : Prop := let e_1 : (Except (Option (Int × (List Int))) Unit) := (foldL (F__law_wronged_s1 case choice word x_1) () (F__law_groups case)); (W__law_groups case) ∧ (WFoldL (F__law_wronged_s1 case choice word x_1) (W__law_wronged_s1 case choice word x_1) () (F__law_groups case))
def F__law_wronged (case : (Int × Int × (List (List Int)))) (choice : (List Int)) (word : Str) : (Option (Int × (List Int))) := let e_2 : (Except (Option (Int × (List Int))) Unit) := (foldL (F__law_wronged_s2 case choice word) () (rgI (1 : Int) (case.2.1 + (1 : Int)))); (exC e_2 (fun z_2 : Unit => (none : (Option (Int × (List Int))))) (fun r_2 : (Option (Int × (List Int))) => r_2))
def W__law_wronged (case : (Int × Int × (List (List Int)))) (choice : (List Int)) (word : Str) : Prop := let e_2 : (Except (Option (Int × (List Int))) Unit) := (foldL (F__law_wronged_s2 case choice word) () (rgI (1 : Int) (case.2.1 + (1 : Int)))); (rg62 (1 : Int) = true ∧ rg62 (case.2.1 + (1 : Int)) = true) ∧ (WFoldL (F__law_wronged_s2 case choice word) (W__law_wronged_s2 case choice word) () (rgI (1 : Int) (case.2.1 + (1 : Int))))
theorem W__law_wronged_eq {case : (Int × Int × (List (List Int)))} {choice : (List Int)} {word : Str} : W__law_wronged case choice word = (let e_2 : (Except (Option (Int × (List Int))) Unit) := (foldL (F__law_wronged_s2 case choice word) () (rgI (1 : Int) (case.2.1 + (1 : Int)))); (rg62 (1 : Int) = true ∧ rg62 (case.2.1 + (1 : Int)) = true) ∧ (WFoldL (F__law_wronged_s2 case choice word) (W__law_wronged_s2 case choice word) () (rgI (1 : Int) (case.2.1 + (1 : Int))))) := rfl
theorem V__law_wronged {case : (Int × Int × (List (List Int)))} {choice : (List Int)} {word : Str} (H : W__law_wronged case choice word) : G__law_wronged [(eP3 eI eI (eT (eT eI))) case, (eT eI) choice, eS word] = some (T.sh ((eO (eP eI (eT eI))) (F__law_wronged case choice word))) := by
  refine gp_ok rfl ?_
  show S B__law_wronged [.sh ((eP3 eI eI (eT (eT eI))) case), .sh ((eT eI) choice), .sh (eS word), .fr, .fr] _
  unfold B__law_wronged
  let e_2 : (Except (Option (Int × (List Int))) Unit) := (foldL (F__law_wronged_s2 case choice word) () (rgI (1 : Int) (case.2.1 + (1 : Int))))
  exact (s_seqX (M := (fun (v : (Option (Int × (List Int)))) fl _ => fl = .ret (T.sh ((eO (eP eI (eT eI))) v)))) (fun z_2 : Unit => (none : (Option (Int × (List Int))))) (fun r_2 : (Option (Int × (List Int))) => r_2) (s_for (l := (rgI (1 : Int) (case.2.1 + (1 : Int)))) (e := eI) (G := (fun s_1 : Unit => [.sh ((eP3 eI eI (eT (eT eI))) case), .sh ((eT eI) choice), .sh (eS word), .fr, .fr])) (s0 := ()) (step := (F__law_wronged_s2 case choice word)) (W := (W__law_wronged_s2 case choice word)) (R := (fun (v : (Option (Int × (List Int)))) _ t => t = T.sh ((eO (eP eI (eT eI))) v))) (IV.as (iv_r2 ew_c (ew_bin (EW.sh (ew_binL (EW.sh ew_c) rfl rfl rfl)) (EW.sh ew_c) o_addI) (H.1)) (rgD_map _ _)) (by first | exact Le.refl _ | (repeat (first | exact trivial | exact rfl | apply And.intro))) (H.2) (fun s_1 x_1 H4 => let e_1 : (Except (Option (Int × (List Int))) Unit) := (foldL (F__law_wronged_s1 case choice word x_1) () (F__law_groups case)); turn (gw_n (s := .sh _) rfl) (s_endX (M := (LpP (fun _ : Unit => [.sh ((eP3 eI eI (eT (eT eI))) case), .sh ((eT eI) choice), .sh (eS word), .fr, .fr]) (fun (v : (Option (Int × (List Int)))) _ t => t = T.sh ((eO (eP eI (eT eI))) v)))) (fun z_1 : Unit => (.nx ())) (fun r_1 : (Option (Int × (List Int))) => .ret r_1) (s_for (l := (F__law_groups case)) (e := (eT eI)) (G := (fun s_2 : Unit => [.sh ((eP3 eI eI (eT (eT eI))) case), .sh ((eT eI) choice), .sh (eS word), .sh (eI x_1), .fr])) (s0 := ()) (step := (F__law_wronged_s1 case choice word x_1)) (W := (W__law_wronged_s1 case choice word x_1)) (R := (fun (v : (Option (Int × (List Int)))) _ t => t = T.sh ((eO (eP eI (eT eI))) v))) (iv_e (EW.od (ew_def (av_cons (EW.sh (ew_v rfl)) av_nil) (V__law_groups  (H4.1)))) rfl) (by first | exact Le.refl _ | (repeat (first | exact trivial | exact rfl | apply And.intro))) (H4.2) (fun s_2 x_2 H3 => turn (gw_n (s := .sh _) rfl) (s_if (LpP (fun _ : Unit => [.sh ((eP3 eI eI (eT (eT eI))) case), .sh ((eT eI) choice), .sh (eS word), .sh (eI x_1), .fr]) (fun (v : (Option (Int × (List Int)))) _ t => t = T.sh ((eO (eP eI (eT eI))) v))) (bv_tru (EW.sh (ew_def (av_cons (EW.sh (ew_v rfl)) (av_cons (EW.sh (ew_v rfl)) (av_cons (EW.sh (ew_v rfl)) (av_cons (EW.sh (ew_v rfl)) (av_cons (EW.sh (ew_v rfl)) av_nil))))) (V__law_is_wronged  H3))) rfl) (fun hb => (s_ret (EW.as (t' := .sh ((eP eI (eT eI)) (x_1, x_2))) (ew_tup (av_cons (EW.sh (ew_v rfl)) (av_cons (EW.sh (ew_v rfl)) av_nil))) rfl) (fun η k => ⟨_, rfl, rfl⟩))) (fun hb => (s_of sv_nil (fun η k => ⟨.inl rfl, Le.sat (by first | exact Le.refl _ | (repeat (first | exact trivial | exact rfl | apply And.intro))) k⟩)))))) (fun r η t h => ⟨t, rfl, h⟩) (fun z_1 => (fun η k => ⟨.inl rfl, Le.sat (by first | exact Le.refl _ | (repeat (first | exact trivial | exact rfl | apply And.intro))) k⟩))))) (fun r η t h => by rw [h]) (fun z_2 hs => (s_ret ew_c (fun η k => rfl))))
def F_is_integer (thing : Int) : Bool := (true && (!false))
theorem V_is_integer {thing : Int} (_ : True) : G_is_integer [eI thing] = some (T.sh (eB (F_is_integer thing))) := by
  refine gp_ok rfl ?_
  show S B_is_integer [.sh (eI thing)] _
  unfold B_is_integer
  exact (s_ret (ew_and (ew_isV (b := true) rfl rfl) (fun hb => (ew_not (ew_isV (b := false) rfl rfl))) (by first | exact Le.refl _ | (repeat (first | exact trivial | exact rfl | apply And.intro)))) (fun η k => rfl))
def F_is_within (thing : Int) (least : Int) (most : Int) : Bool := ((F_is_integer thing) && ((decide (least ≤ thing)) && decide (thing ≤ most)))
theorem V_is_within {thing : Int} {least : Int} {most : Int} (_ : True) : G_is_within [eI thing, eI least, eI most] = some (T.sh (eB (F_is_within thing least most))) := by
  refine gp_ok rfl ?_
  show S B_is_within [.sh (eI thing), .sh (eI least), .sh (eI most)] _
  unfold B_is_within
  exact (s_ret (ew_and (ew_def (av_cons (EW.sh (ew_v rfl)) av_nil) (V_is_integer  trivial)) (fun hb => (ew_chain (ew_v rfl) (ew_v rfl) (fun hb => (ew_v rfl)) (by first | exact Le.refl _ | (repeat (first | exact trivial | exact rfl | apply And.intro))))) (by first | exact Le.refl _ | (repeat (first | exact trivial | exact rfl | apply And.intro)))) (fun η k => rfl))
def F_is_lot_s1 (many : Int) (s_1 : (Int)) (x_1 : Int) : (Lp (Int) Bool) := (if (!(F_is_within x_1 (s_1 + (1 : Int)) (many - (1 : Int)))) = true then ((.ret false)) else (let last_2 : Int := x_1; (.nx last_2)))
def W_is_lot_s1 (many : Int) (s_1 : (Int)) (x_1 : Int) : Prop := True
def F_is_lot (thing : (List Int)) (many : Int) : Bool := (if (!true) = true then (false) else (let last_1 : Int := (-(1 : Int)); let e_1 : (Except Bool (Int)) := (foldL (F_is_lot_s1 many) last_1 thing); (exC e_1 (fun z_1 : (Int) => true) (fun r_1 : Bool => r_1))))
def W_is_lot (thing : (List Int)) (many : Int) : Prop := ((!true) = false → let last_1 : Int := (-(1 : Int)); let e_1 : (Except Bool (Int)) := (foldL (F_is_lot_s1 many) last_1 thing); (WFoldL (F_is_lot_s1 many) (W_is_lot_s1 many) last_1 thing))
theorem W_is_lot_eq {thing : (List Int)} {many : Int} : W_is_lot thing many = (((!true) = false → let last_1 : Int := (-(1 : Int)); let e_1 : (Except Bool (Int)) := (foldL (F_is_lot_s1 many) last_1 thing); (WFoldL (F_is_lot_s1 many) (W_is_lot_s1 many) last_1 thing))) := rfl
theorem V_is_lot {thing : (List Int)} {many : Int} (H : W_is_lot thing many) : G_is_lot [(eT eI) thing, eI many] = some (T.sh (eB (F_is_lot thing many))) := by
  refine gp_ok rfl ?_
  show S B_is_lot [.sh ((eT eI) thing), .sh (eI many), .fr, .fr] _
  unfold B_is_lot
  exact (s_ifseq (fun (v : Bool) fl _ => fl = .ret (T.sh (eB v))) (bv_not (bv_tru (EW.sh (ew_isV (b := true) rfl rfl)) rfl)) (fun hb => (s_stop (s_ret ew_c (fun η k => ⟨(by rintro ⟨⟩), rfl⟩)))) (fun hb => (have H6 := H hb; let last_1 : Int := (-(1 : Int)); let e_1 : (Except Bool (Int)) := (foldL (F_is_lot_s1 many) last_1 thing); (s_nilseq (s_seq (SV.cx (Γ2 := [.sh ((eT eI) thing), .sh (eI many), .sh (eI last_1), .fr]) (sv_asg (ew_neg ew_c) (gw_n (s := .sh (eI last_1)) rfl)) rfl) (s_seqX (M := (fun (v : Bool) fl _ => fl = .ret (T.sh (eB v)))) (fun z_1 : (Int) => true) (fun r_1 : Bool => r_1) (s_forV (l := thing) (e := eI) (G := (fun s_1 : (Int) => [.sh ((eT eI) thing), .sh (eI many), .sh (eI s_1), .fr])) (s0 := last_1) (step := (F_is_lot_s1 many)) (W := (W_is_lot_s1 many)) (R := (fun (v : Bool) _ t => t = T.sh (eB v))) rfl rfl (fun _ => rfl) (by first | exact Le.refl _ | (repeat (first | exact trivial | exact rfl | apply And.intro))) H6 (fun s_1 x_1 H3 => turn (gw_n (s := .sh _) rfl) (s_ifseq (LpP (fun s_1 : (Int) => [.sh ((eT eI) thing), .sh (eI many), .sh (eI s_1), .fr]) (fun (v : Bool) _ t => t = T.sh (eB v))) (bv_not (bv_tru (EW.sh (ew_def (av_cons (EW.sh (ew_v rfl)) (av_cons (EW.sh (ew_binL (EW.sh ew_c) rfl rfl o_addI)) (av_cons (EW.sh (ew_binL (EW.sh ew_c) rfl rfl o_subI)) av_nil))) (V_is_within  trivial))) rfl)) (fun hb => (s_stop (s_ret ew_c (fun η k => ⟨(by rintro ⟨⟩), ⟨_, rfl, rfl⟩⟩)))) (fun hb => (let last_2 : Int := x_1; (s_nilseq (s_of (SV.cx (Γ2 := [.sh ((eT eI) thing), .sh (eI many), .sh (eI last_2), .sh (eI x_1)]) (sv_asg (ew_v rfl) (gw_n (s := .sh (eI last_2)) rfl)) rfl) (fun η k => ⟨.inl rfl, Le.sat (by first | exact Le.refl _ | (repeat (first | exact trivial | exact rfl | apply And.intro))) k⟩)))))))) (fun r η t h => by rw [h]) (fun z_1 hs => (s_ret ew_c (fun η k => rfl)))))))))
def F_is_table (thing : (Int × Int × (List (List Int)))) (size : Int) : Bool := (true && (decide ((3 : Int) = size)))
theorem V_is_table {thing : (Int × Int × (List (List Int)))} {size : Int} (_ : True) : G_is_table [(eP3 eI eI (eT (eT eI))) thing, eI size] = some (T.sh (eB (F_is_table thing size))) := by
  refine gp_ok rfl ?_
  show S B_is_table [.sh ((eP3 eI eI (eT (eT eI))) thing), .sh (eI size)] _
  unfold B_is_table
  exact (s_ret (ew_and (ew_isV (b := true) rfl rfl) (fun hb => (ew_binR (EW.sh (ew_callV rfl rfl)) rfl (o_eq (e := eI) cm_i))) (by first | exact Le.refl _ | (repeat (first | exact trivial | exact rfl | apply And.intro)))) (fun η k => rfl))
def F_is_case (thing : (Int × Int × (List (List Int)))) : Bool := (if ((!(F_is_table thing (3 : Int))) || ((!(F_is_within thing.1 (1 : Int) (7 : Int))) || (!(F_is_within thing.2.1 (1 : Int) thing.1)))) = true then (false) else ((if ((!true) || (!((decide ((1 : Int) ≤ (List.length thing.2.2 : Int))) && decide ((List.length thing.2.2 : Int) ≤ (8 : Int))))) = true then (false) else ((List.all (List.map (fun x_1 => (F_is_lot x_1 thing.1)) thing.2.2) id)))))
def W_is_case (thing : (Int × Int × (List (List Int)))) : Prop := (((!(F_is_table thing (3 : Int))) || ((!(F_is_within thing.1 (1 : Int) (7 : Int))) || (!(F_is_within thing.2.1 (1 : Int) thing.1)))) = false → (((!true) || (!((decide ((1 : Int) ≤ (List.length thing.2.2 : Int))) && decide ((List.length thing.2.2 : Int) ≤ (8 : Int))))) = false → (List.length thing.2.2 < 16777216) ∧ (∀ x_1 ∈ thing.2.2, (W_is_lot x_1 thing.1))))
theorem W_is_case_eq {thing : (Int × Int × (List (List Int)))} : W_is_case thing = ((((!(F_is_table thing (3 : Int))) || ((!(F_is_within thing.1 (1 : Int) (7 : Int))) || (!(F_is_within thing.2.1 (1 : Int) thing.1)))) = false → (((!true) || (!((decide ((1 : Int) ≤ (List.length thing.2.2 : Int))) && decide ((List.length thing.2.2 : Int) ≤ (8 : Int))))) = false → (List.length thing.2.2 < 16777216) ∧ (∀ x_1 ∈ thing.2.2, (W_is_lot x_1 thing.1))))) := rfl
theorem V_is_case {thing : (Int × Int × (List (List Int)))} (H : W_is_case thing) : G_is_case [(eP3 eI eI (eT (eT eI))) thing] = some (T.sh (eB (F_is_case thing))) := by
  refine gp_ok rfl ?_
  show S B_is_case [.sh ((eP3 eI eI (eT (eT eI))) thing), .fr] _
  unfold B_is_case
  exact (s_ifseq (fun (v : Bool) fl _ => fl = .ret (T.sh (eB v))) (bv_or (bv_not (bv_tru (EW.sh (ew_def (av_cons (EW.sh (ew_v rfl)) (av_cons (EW.sh ew_c) av_nil)) (V_is_table  trivial))) rfl)) (fun hb => (bv_or (bv_not (bv_tru (EW.sh (ew_def (av_cons (EW.sh (ew_binL (EW.sh ew_c) rfl rfl rfl)) (av_cons (EW.sh ew_c) (av_cons (EW.sh ew_c) av_nil))) (V_is_within  trivial))) rfl)) (fun hb => (bv_not (bv_tru (EW.sh (ew_def (av_cons (EW.sh (ew_binL (EW.sh ew_c) rfl rfl rfl)) (av_cons (EW.sh ew_c) (av_cons (EW.sh (ew_binL (EW.sh ew_c) rfl rfl rfl)) av_nil))) (V_is_within  trivial))) rfl))) (by first | exact Le.refl _ | (repeat (first | exact trivial | exact rfl | apply And.intro))))) (by first | exact Le.refl _ | (repeat (first | exact trivial | exact rfl | apply And.intro)))) (fun hb => (s_stop (s_ret ew_c (fun η k => ⟨(by rintro ⟨⟩), rfl⟩)))) (fun hb => (have H9 := H hb; (s_nilseq (s_ifseq (fun (v : Bool) fl _ => fl = .ret (T.sh (eB v))) (bv_or (bv_not (bv_tru (EW.sh (ew_is (b := true) (EW.sh (ew_binL (EW.sh ew_c) rfl rfl rfl)) rfl)) rfl)) (fun hb => (bv_not (bv_t (ew_chain ew_c (ew_call (av_cons (EW.sh (ew_binL (EW.sh ew_c) rfl rfl rfl)) av_nil) (o_lenT (e := (eT eI)))) (fun hb => ew_c) (by first | exact Le.refl _ | (repeat (first | exact trivial | exact rfl | apply And.intro))))))) (by first | exact Le.refl _ | (repeat (first | exact trivial | exact rfl | apply And.intro)))) (fun hb => (s_stop (s_ret ew_c (fun η k => ⟨(by rintro ⟨⟩), rfl⟩)))) (fun hb => (have H7 := H9 hb; (s_nilseq (s_ret (ew_call (av_cons (EW.od (EW.mapE (e := eB) (ew_compM (l := thing.2.2) (e := (eT eI)) (r := fun x_1 => T.sh (eB (F_is_lot x_1 thing.1))) (iv_e (EW.sh (ew_binL (EW.sh ew_c) rfl rfl rfl)) rfl) (H7.1) (free_own (by rfl)) (fun x_1 hx => have H5 := (H7.2) x_1 hx; item1 (gw_n (s := .sh _) rfl) (ew_def (av_cons (EW.sh (ew_v rfl)) (av_cons (EW.sh (ew_binL (EW.sh ew_c) rfl rfl rfl)) av_nil)) (V_is_lot  H5)) (by first | exact Le.refl _ | (repeat (first | exact trivial | exact rfl | apply And.intro))))))) av_nil) o_all) (fun η k => rfl))))))))))
def F_check_case (case : (Int × Int × (List (List Int)))) : Unit := ()
def W_check_case (case : (Int × Int × (List (List Int)))) : Prop := (W_is_case case) ∧ ((!(F_is_case case)) = false)
theorem W_check_case_eq {case : (Int × Int × (List (List Int)))} : W_check_case case = ((W_is_case case) ∧ ((!(F_is_case case)) = false)) := rfl
theorem V_check_case {case : (Int × Int × (List (List Int)))} (H : W_check_case case) : G_check_case [(eP3 eI eI (eT (eT eI))) case] = some (.sh .none) := by
  refine gp_nx rfl ?_
  show S B_check_case [.sh ((eP3 eI eI (eT (eT eI))) case)] _
  unfold B_check_case
  exact (s_ifF (bv_not (bv_tru (EW.sh (ew_def (av_cons (EW.sh (ew_v rfl)) av_nil) (V_is_case  (H.1)))) rfl)) (H.2) (s_of sv_nil (fun η k => .inl rfl)))
def F_lots_of_s1  (s_1 : ((List (List Int)))) (x_1 : Int) : ((List (List Int))) := let found_2 : (List (List Int)) := (s_1 ++ (List.map (fun x_2 => (x_2 ++ [x_1])) s_1)); found_2
def W_lots_of_s1  (s_1 : ((List (List Int)))) (x_1 : Int) : Prop := let found_2 : (List (List Int)) := (s_1 ++ (List.map (fun x_2 => (x_2 ++ [x_1])) s_1)); (List.length s_1 < 16777216) ∧ (∀ x_2 ∈ s_1, (List.length x_2 + List.length [x_1] ≤ 16777216)) ∧ (List.length s_1 + List.length (List.map (fun x_2 => (x_2 ++ [x_1])) s_1) ≤ 16777216)
def F_lots_of (many : Int) : (List (List Int)) := let found_1 : (List (List Int)) := [([] : (List Int))]; let m_1 : ((List (List Int))) := List.foldl F_lots_of_s1 found_1 (rgI 0 many); (List.map (fun x_4 => x_4.2) (sortT (eP eI (eT eI)) (List.map (fun x_3 => ((List.length x_3 : Int), x_3)) m_1)))
def W_lots_of (many : Int) : Prop := let found_1 : (List (List Int)) := [([] : (List Int))]; let m_1 : ((List (List Int))) := List.foldl F_lots_of_s1 found_1 (rgI 0 many); (rg62 many = true) ∧ (WFold F_lots_of_s1 W_lots_of_s1 found_1 (rgI 0 many)) ∧ (List.length m_1 < 16777216) ∧ (List.length (sortT (eP eI (eT eI)) (List.map (fun x_3 => ((List.length x_3 : Int), x_3)) m_1)) < 16777216)
theorem W_lots_of_eq {many : Int} : W_lots_of many = (let found_1 : (List (List Int)) := [([] : (List Int))]; let m_1 : ((List (List Int))) := List.foldl F_lots_of_s1 found_1 (rgI 0 many); (rg62 many = true) ∧ (WFold F_lots_of_s1 W_lots_of_s1 found_1 (rgI 0 many)) ∧ (List.length m_1 < 16777216) ∧ (List.length (sortT (eP eI (eT eI)) (List.map (fun x_3 => ((List.length x_3 : Int), x_3)) m_1)) < 16777216)) := rfl
theorem V_lots_of {many : Int} (H : W_lots_of many) : G_lots_of [eI many] = some (T.lst (List.map T.sh (List.map (eT eI) (F_lots_of many)))) := by
  refine gp_ok rfl ?_
  show S B_lots_of [.sh (eI many), .fr, .fr, .fr, .fr] _
  unfold B_lots_of
  let found_1 : (List (List Int)) := [([] : (List Int))]
  let m_1 : ((List (List Int))) := List.foldl F_lots_of_s1 found_1 (rgI 0 many)
  exact (s_seq (SV.cx (Γ2 := [.sh (eI many), .od (List.map (eT eI) found_1), .fr, .fr, .fr]) (sv_asg (EW.as (t' := .lst (List.map T.sh (List.map (eT eI) [([] : (List Int))]))) (ew_lst (aw_cons (EW.as (t' := .sh ((eT eI) ([] : (List Int)))) (ew_tup av_nil) rfl) aw_nil)) rfl) (gw_n (s := .od (List.map (eT eI) found_1)) rfl)) rfl) (s_seq (SV.cx (Γ2 := [.sh (eI many), .od (List.map (eT eI) m_1), .fr, .fr, .fr]) (sv_for (l := (rgI 0 many)) (e := eI) (G := (fun s_1 : ((List (List Int))) => [.sh (eI many), .od (List.map (eT eI) s_1), .fr, .fr, .fr])) (s0 := found_1) (step := F_lots_of_s1) (W := W_lots_of_s1) (IV.as (iv_r1 (ew_v rfl) (H.1)) (rgD_map _ _)) (by first | exact Le.refl _ | (repeat (first | exact trivial | exact rfl | apply And.intro))) (H.2.1) (fun s_1 x_1 H2 => let found_2 : (List (List Int)) := (s_1 ++ (List.map (fun x_2 => (x_2 ++ [x_1])) s_1)); turn (gw_n (s := .sh _) rfl) (s_of (SV.cx (Γ2 := [.sh (eI many), .od (List.map (eT eI) found_2), .sh (eI x_1), .fr, .fr]) (sv_asg (ew_binL (EW.od (EW.mapE (e := (eT eI)) (ew_compVM (l := s_1) (e := (eT eI)) (r := fun x_2 => T.sh ((eT eI) (x_2 ++ [x_1]))) rfl rfl rfl (H2.1) (free_own (by rfl)) (fun x_2 hx => have H1 := (H2.2.1) x_2 hx; item1 (gw_n (s := .sh _) rfl) (ew_binL (EW.sh (EW.as (t' := .sh ((eT eI) [x_1])) (ew_tup (av_cons (EW.sh (ew_v rfl)) av_nil)) rfl)) rfl rfl (o_addT (e := eI) H1)) (by first | exact Le.refl _ | (repeat (first | exact trivial | exact rfl | apply And.intro))))))) rfl rfl (o_addL (e := (eT eI)) (H2.2.2))) (gw_n (s := .od (List.map (eT eI) found_2)) rfl)) rfl) (fun η k => ⟨.inl rfl, Le.sat (by first | exact Le.refl _ | (repeat (first | exact trivial | exact rfl | apply And.intro))) k⟩)))) rfl) (s_ret (EW.mapE (e := (eT eI)) (ew_compM (l := (sortT (eP eI (eT eI)) (List.map (fun x_3 => ((List.length x_3 : Int), x_3)) m_1))) (e := (eP eI (eT eI))) (r := fun x_4 => T.sh ((eT eI) x_4.2)) (iv_e (EW.od (ew_call (av_cons (EW.od (EW.mapE (e := (eP eI (eT eI))) (ew_compVM (l := m_1) (e := (eT eI)) (r := fun x_3 => T.sh ((eP eI (eT eI)) ((List.length x_3 : Int), x_3))) rfl rfl rfl (H.2.2.1) (free_own (by rfl)) (fun x_3 hx => item1 (gw_n (s := .sh _) rfl) (EW.as (t' := .sh ((eP eI (eT eI)) ((List.length x_3 : Int), x_3))) (ew_tup (av_cons (EW.sh (ew_callV rfl (o_lenT (e := eI)))) (av_cons (EW.sh (ew_v rfl)) av_nil))) rfl) (by first | exact Le.refl _ | (repeat (first | exact trivial | exact rfl | apply And.intro))))))) av_nil) (o_sortedL (e := (eP eI (eT eI))) (sortable_of (So.mk (al_p al_i (al_t al_i)) (fun a => ((cm_p cm_i (cm_t cm_i))).lay a) (fun a => Nat.le_trans (((cm_p cm_i (cm_t cm_i))).dep a) (by decide))) _)))) rfl) (H.2.2.2) (free_own (by rfl)) (fun x_4 hx => item1 (gw_tup (gws_cons (gw_n (s := .sh _) rfl) (gws_cons (gw_n (s := .sh _) rfl) gws_nil)) rfl rfl) (ew_v rfl) (by first | exact Le.refl _ | (repeat (first | exact trivial | exact rfl | apply And.intro)))))) (fun η k => rfl))))
def F_choices_in (case : (Int × Int × (List (List Int)))) : (List (List Int)) := (List.map (fun x_1 => x_1) (List.filter (fun x_1 => (decide ((List.length x_1 : Int) = case.2.1))) (F_lots_of case.1)))
def W_choices_in (case : (Int × Int × (List (List Int)))) : Prop := (W_lots_of case.1) ∧ (List.length (F_lots_of case.1) < 16777216)
theorem W_choices_in_eq {case : (Int × Int × (List (List Int)))} : W_choices_in case = ((W_lots_of case.1) ∧ (List.length (F_lots_of case.1) < 16777216)) := rfl
theorem V_choices_in {case : (Int × Int × (List (List Int)))} (H : W_choices_in case) : G_choices_in [(eP3 eI eI (eT (eT eI))) case] = some (T.lst (List.map T.sh (List.map (eT eI) (F_choices_in case)))) := by
  refine gp_ok rfl ?_
  show S B_choices_in [.sh ((eP3 eI eI (eT (eT eI))) case), .fr] _
  unfold B_choices_in
  exact (s_ret (EW.mapE (e := (eT eI)) (ew_comp (l := (F_lots_of case.1)) (e := (eT eI)) (c := fun x_1 => (decide ((List.length x_1 : Int) = case.2.1))) (r := fun x_1 => T.sh ((eT eI) x_1)) (iv_e (EW.od (ew_def (av_cons (EW.sh (ew_binL (EW.sh ew_c) rfl rfl rfl)) av_nil) (V_lots_of  (H.1)))) rfl) (H.2) (free_own (by rfl)) (fun x_1 hx => item (gw_n (s := .sh _) rfl) (bv_t (ew_bin (EW.sh (ew_callV rfl (o_lenT (e := eI)))) (EW.sh (ew_binL (EW.sh ew_c) rfl rfl rfl)) (o_eq (e := eI) cm_i))) (fun _ => (by first | exact Le.refl _ | (repeat (first | exact trivial | exact rfl | apply And.intro)))) (fun hb => (ew_v rfl)) (by first | exact Le.refl _ | (repeat (first | exact trivial | exact rfl | apply And.intro)))))) (fun η k => rfl))
def F_is_below (one : (Int × Int)) (other : (Int × Int)) : Bool := (decide ((one.1 * other.2) < (other.1 * one.2)))
def W_is_below (one : (Int × Int)) (other : (Int × Int)) : Prop := (mulFits one.1 other.2 = true) ∧ (mulFits other.1 one.2 = true)
theorem W_is_below_eq {one : (Int × Int)} {other : (Int × Int)} : W_is_below one other = ((mulFits one.1 other.2 = true) ∧ (mulFits other.1 one.2 = true)) := rfl
theorem V_is_below {one : (Int × Int)} {other : (Int × Int)} (H : W_is_below one other) : G_is_below [(eP eI eI) one, (eP eI eI) other] = some (T.sh (eB (F_is_below one other))) := by
  refine gp_ok rfl ?_
  show S B_is_below [.sh ((eP eI eI) one), .sh ((eP eI eI) other)] _
  unfold B_is_below
  exact (s_ret (ew_bin (EW.sh (ew_bin (EW.sh (ew_binL (EW.sh ew_c) rfl rfl rfl)) (EW.sh (ew_binL (EW.sh ew_c) rfl rfl rfl)) (o_mulI (H.1)))) (EW.sh (ew_bin (EW.sh (ew_binL (EW.sh ew_c) rfl rfl rfl)) (EW.sh (ew_binL (EW.sh ew_c) rfl rfl rfl)) (o_mulI (H.2)))) o_ltI) (fun η k => rfl))
def F_both (one : (List Int)) (other : (List Int)) : Int := (List.length (List.map (fun x_1 => x_1) (List.filter (fun x_1 => (memT x_1 other)) one)) : Int)
def W_both (one : (List Int)) (other : (List Int)) : Prop := (List.length one < 16777216)
theorem W_both_eq {one : (List Int)} {other : (List Int)} : W_both one other = ((List.length one < 16777216)) := rfl
theorem V_both {one : (List Int)} {other : (List Int)} (H : W_both one other) : G_both [(eT eI) one, (eT eI) other] = some (T.sh (eI (F_both one other))) := by
  refine gp_ok rfl ?_
  show S B_both [.sh ((eT eI) one), .sh ((eT eI) other), .fr] _
  unfold B_both
  exact (s_ret (ew_call (av_cons (EW.od (EW.mapE (e := eI) (ew_compV (l := one) (e := eI) (c := fun x_1 => (memT x_1 other)) (r := fun x_1 => T.sh (eI x_1)) rfl rfl rfl H (free_own (by rfl)) (fun x_1 hx => item (gw_n (s := .sh _) rfl) (bv_t (ew_binLR rfl rfl (o_inT (e := eI) cm_i))) (fun _ => (by first | exact Le.refl _ | (repeat (first | exact trivial | exact rfl | apply And.intro)))) (fun hb => (ew_v rfl)) (by first | exact Le.refl _ | (repeat (first | exact trivial | exact rfl | apply And.intro))))))) av_nil) (o_lenL (e := eI))) (fun η k => rfl))
def F_liked_by (case : (Int × Int × (List (List Int)))) (choice : (List Int)) : (List Int) := (List.map (fun x_1 => (F_both x_1 choice)) case.2.2)
def W_liked_by (case : (Int × Int × (List (List Int)))) (choice : (List Int)) : Prop := (List.length case.2.2 < 16777216) ∧ (∀ x_1 ∈ case.2.2, (W_both x_1 choice))
theorem W_liked_by_eq {case : (Int × Int × (List (List Int)))} {choice : (List Int)} : W_liked_by case choice = ((List.length case.2.2 < 16777216) ∧ (∀ x_1 ∈ case.2.2, (W_both x_1 choice))) := rfl
theorem V_liked_by {case : (Int × Int × (List (List Int)))} {choice : (List Int)} (H : W_liked_by case choice) : G_liked_by [(eP3 eI eI (eT (eT eI))) case, (eT eI) choice] = some (T.lst (List.map T.sh (List.map eI (F_liked_by case choice)))) := by
  refine gp_ok rfl ?_
  show S B_liked_by [.sh ((eP3 eI eI (eT (eT eI))) case), .sh ((eT eI) choice), .fr] _
  unfold B_liked_by
  exact (s_ret (EW.mapE (e := eI) (ew_compM (l := case.2.2) (e := (eT eI)) (r := fun x_1 => T.sh (eI (F_both x_1 choice))) (iv_e (EW.sh (ew_binL (EW.sh ew_c) rfl rfl rfl)) rfl) (H.1) (free_own (by rfl)) (fun x_1 hx => have H1 := (H.2) x_1 hx; item1 (gw_n (s := .sh _) rfl) (ew_def (av_cons (EW.sh (ew_v rfl)) (av_cons (EW.sh (ew_v rfl)) av_nil)) (V_both  H1)) (by first | exact Le.refl _ | (repeat (first | exact trivial | exact rfl | apply And.intro)))))) (fun η k => rfl))
def C_common_s1  (s_1 : (Int × Int)) : Bool := (decide ((0 : Int) < s_1.2))
def F_common_s1  (s_1 : (Int × Int)) : (Int × Int) := let one_1 : Int := s_1.2; let other_1 : Int := (s_1.1 % s_1.2); (one_1, other_1)
def Wc_common_s1  (s_1 : (Int × Int)) : Prop := True
def W_common_s1  (s_1 : (Int × Int)) : Prop := let one_1 : Int := s_1.2; let other_1 : Int := (s_1.1 % s_1.2); (0 < s_1.2)
def F_common (one : Int) (other : Int) : Int := let m_1 : (Int × Int) := whileF C_common_s1 F_common_s1 1000 (one, other); (if m_1.1 < 0 then -m_1.1 else m_1.1)
def W_common (one : Int) (other : Int) : Prop := let m_1 : (Int × Int) := whileF C_common_s1 F_common_s1 1000 (one, other); (WWhile C_common_s1 F_common_s1 Wc_common_s1 W_common_s1 1000 (one, other))
theorem W_common_eq {one : Int} {other : Int} : W_common one other = (let m_1 : (Int × Int) := whileF C_common_s1 F_common_s1 1000 (one, other); (WWhile C_common_s1 F_common_s1 Wc_common_s1 W_common_s1 1000 (one, other))) := rfl
theorem V_common {one : Int} {other : Int} (H : W_common one other) : G_common [eI one, eI other] = some (T.sh (eI (F_common one other))) := by
  refine gp_ok rfl ?_
  show S B_common [.sh (eI one), .sh (eI other)] _
  unfold B_common
  let m_1 : (Int × Int) := whileF C_common_s1 F_common_s1 1000 (one, other)
  exact (s_seq (SV.cx (Γ2 := [.sh (eI m_1.1), .sh (eI m_1.2)]) (sv_while (G := (fun s_1 : (Int × Int) => [.sh (eI s_1.1), .sh (eI s_1.2)])) (c := C_common_s1) (step := F_common_s1) (Wc := Wc_common_s1) (W := W_common_s1) (fun s_1 H1 => BV.post (bv_t (ew_binL (EW.sh ew_c) rfl rfl o_gtI)) (by first | exact Le.refl _ | (repeat (first | exact trivial | exact rfl | apply And.intro)))) (fun s_1 H2 hb => let one_1 : Int := s_1.2; let other_1 : Int := (s_1.1 % s_1.2); s_of (SV.cx (Γ2 := [.sh (eI one_1), .sh (eI other_1)]) (sv_par (s1 := .sh (eI one_1)) (s2 := .sh (eI other_1)) (aw_cons (ew_v rfl) (aw_cons (ew_binLR rfl rfl (o_mod H2)) aw_nil)) rfl rfl) rfl) (fun η k => ⟨.inl rfl, Le.sat (by first | exact Le.refl _ | (repeat (first | exact trivial | exact rfl | apply And.intro))) k⟩)) (by first | exact Le.refl _ | (repeat (first | exact trivial | exact rfl | apply And.intro))) H) rfl) (s_ret (ew_callV rfl bAbs_int) (fun η k => rfl)))
def F_made (top : Int) (bottom : Int) : (Int × Int) := let divisor_1 : Int := (F_common top bottom); ((top / divisor_1), (bottom / divisor_1))
def W_made (top : Int) (bottom : Int) : Prop := let divisor_1 : Int := (F_common top bottom); (W_common top bottom) ∧ (0 < divisor_1 ∧ divisor_1 < 18446744073709551616) ∧ (0 < divisor_1 ∧ divisor_1 < 18446744073709551616)
theorem W_made_eq {top : Int} {bottom : Int} : W_made top bottom = (let divisor_1 : Int := (F_common top bottom); (W_common top bottom) ∧ (0 < divisor_1 ∧ divisor_1 < 18446744073709551616) ∧ (0 < divisor_1 ∧ divisor_1 < 18446744073709551616)) := rfl
theorem V_made {top : Int} {bottom : Int} (H : W_made top bottom) : G_made [eI top, eI bottom] = some (T.sh ((eP eI eI) (F_made top bottom))) := by
  refine gp_ok rfl ?_
  show S B_made [.sh (eI top), .sh (eI bottom), .fr] _
  unfold B_made
  let divisor_1 : Int := (F_common top bottom)
  exact (s_seq (SV.cx (Γ2 := [.sh (eI top), .sh (eI bottom), .sh (eI divisor_1)]) (sv_asg (ew_def (av_cons (EW.sh (ew_v rfl)) (av_cons (EW.sh (ew_v rfl)) av_nil)) (V_common  (H.1))) (gw_n (s := .sh (eI divisor_1)) rfl)) rfl) (s_ret (EW.as (t' := .sh ((eP eI eI) ((top / divisor_1), (bottom / divisor_1)))) (ew_tup (av_cons (EW.sh (ew_binLR rfl rfl (o_fdiv (H.2.1)))) (av_cons (EW.sh (ew_binLR rfl rfl (o_fdiv (H.2.2)))) av_nil))) rfl) (fun η k => rfl)))
def F_plus (one : (Int × Int)) (other : (Int × Int)) : (Int × Int) := (F_made ((one.1 * other.2) + (other.1 * one.2)) (one.2 * other.2))
def W_plus (one : (Int × Int)) (other : (Int × Int)) : Prop := (mulFits one.1 other.2 = true) ∧ (mulFits other.1 one.2 = true) ∧ (mulFits one.2 other.2 = true) ∧ (W_made ((one.1 * other.2) + (other.1 * one.2)) (one.2 * other.2))
theorem W_plus_eq {one : (Int × Int)} {other : (Int × Int)} : W_plus one other = ((mulFits one.1 other.2 = true) ∧ (mulFits other.1 one.2 = true) ∧ (mulFits one.2 other.2 = true) ∧ (W_made ((one.1 * other.2) + (other.1 * one.2)) (one.2 * other.2))) := rfl
theorem V_plus {one : (Int × Int)} {other : (Int × Int)} (H : W_plus one other) : G_plus [(eP eI eI) one, (eP eI eI) other] = some (T.sh ((eP eI eI) (F_plus one other))) := by
  refine gp_ok rfl ?_
  show S B_plus [.sh ((eP eI eI) one), .sh ((eP eI eI) other)] _
  unfold B_plus
  exact (s_ret (ew_def (av_cons (EW.sh (ew_bin (EW.sh (ew_bin (EW.sh (ew_binL (EW.sh ew_c) rfl rfl rfl)) (EW.sh (ew_binL (EW.sh ew_c) rfl rfl rfl)) (o_mulI (H.1)))) (EW.sh (ew_bin (EW.sh (ew_binL (EW.sh ew_c) rfl rfl rfl)) (EW.sh (ew_binL (EW.sh ew_c) rfl rfl rfl)) (o_mulI (H.2.1)))) o_addI)) (av_cons (EW.sh (ew_bin (EW.sh (ew_binL (EW.sh ew_c) rfl rfl rfl)) (EW.sh (ew_binL (EW.sh ew_c) rfl rfl rfl)) (o_mulI (H.2.2.1)))) av_nil)) (V_made  (H.2.2.2))) (fun η k => rfl))
def F_total_of_s1  (s_1 : ((Int × Int))) (x_1 : (Int × Int)) : ((Int × Int)) := let found_2 : (Int × Int) := (F_plus s_1 x_1); found_2
def W_total_of_s1  (s_1 : ((Int × Int))) (x_1 : (Int × Int)) : Prop := let found_2 : (Int × Int) := (F_plus s_1 x_1); (W_plus s_1 x_1)
def F_total_of (fractions : (List (Int × Int))) : (Int × Int) := let found_1 : (Int × Int) := ((0 : Int), (1 : Int)); let m_1 : ((Int × Int)) := List.foldl F_total_of_s1 found_1 fractions; m_1
def W_total_of (fractions : (List (Int × Int))) : Prop := let found_1 : (Int × Int) := ((0 : Int), (1 : Int)); let m_1 : ((Int × Int)) := List.foldl F_total_of_s1 found_1 fractions; (WFold F_total_of_s1 W_total_of_s1 found_1 fractions)
theorem W_total_of_eq {fractions : (List (Int × Int))} : W_total_of fractions = (let found_1 : (Int × Int) := ((0 : Int), (1 : Int)); let m_1 : ((Int × Int)) := List.foldl F_total_of_s1 found_1 fractions; (WFold F_total_of_s1 W_total_of_s1 found_1 fractions)) := rfl
theorem V_total_of {fractions : (List (Int × Int))} (H : W_total_of fractions) : G_total_of [(eL (eP eI eI)) fractions] = some (T.sh ((eP eI eI) (F_total_of fractions))) := by
  refine gp_ok rfl ?_
  show S B_total_of [.sh ((eL (eP eI eI)) fractions), .fr, .fr] _
  unfold B_total_of
  let found_1 : (Int × Int) := ((0 : Int), (1 : Int))
  let m_1 : ((Int × Int)) := List.foldl F_total_of_s1 found_1 fractions
  exact (s_seq (SV.cx (Γ2 := [.sh ((eL (eP eI eI)) fractions), .sh ((eP eI eI) found_1), .fr]) (sv_asg (EW.as (t' := .sh ((eP eI eI) ((0 : Int), (1 : Int)))) (ew_tup (av_cons (EW.sh ew_c) (av_cons (EW.sh ew_c) av_nil))) rfl) (gw_n (s := .sh ((eP eI eI) found_1)) rfl)) rfl) (s_seq (SV.cx (Γ2 := [.sh ((eL (eP eI eI)) fractions), .sh ((eP eI eI) m_1), .fr]) (sv_forV (l := fractions) (e := (eP eI eI)) (G := (fun s_1 : ((Int × Int)) => [.sh ((eL (eP eI eI)) fractions), .sh ((eP eI eI) s_1), .fr])) (s0 := found_1) (step := F_total_of_s1) (W := W_total_of_s1) rfl rfl (fun _ => rfl) (by first | exact Le.refl _ | (repeat (first | exact trivial | exact rfl | apply And.intro))) H (fun s_1 x_1 H1 => let found_2 : (Int × Int) := (F_plus s_1 x_1); turn (gw_n (s := .sh _) rfl) (s_of (SV.cx (Γ2 := [.sh ((eL (eP eI eI)) fractions), .sh ((eP eI eI) found_2), .sh ((eP eI eI) x_1)]) (sv_asg (ew_def (av_cons (EW.sh (ew_v rfl)) (av_cons (EW.sh (ew_v rfl)) av_nil)) (V_plus  H1)) (gw_n (s := .sh ((eP eI eI) found_2)) rfl)) rfl) (fun η k => ⟨.inl rfl, Le.sat (by first | exact Le.refl _ | (repeat (first | exact trivial | exact rfl | apply And.intro))) k⟩)))) rfl) (s_retV (t := T.sh ((eP eI eI) m_1)) rfl (fun η k => rfl))))
def F_raw_sum_s1  (s_1 : ((Int × Int))) (x_1 : Int) : ((Int × Int)) := let found_2 : (Int × Int) := (F_plus s_1 (F_total_of (List.map (fun x_2 => ((1 : Int), x_2)) (rgI (1 : Int) (x_1 + (1 : Int)))))); found_2
def W_raw_sum_s1  (s_1 : ((Int × Int))) (x_1 : Int) : Prop := let found_2 : (Int × Int) := (F_plus s_1 (F_total_of (List.map (fun x_2 => ((1 : Int), x_2)) (rgI (1 : Int) (x_1 + (1 : Int)))))); (rg62 (1 : Int) = true ∧ rg62 (x_1 + (1 : Int)) = true) ∧ (List.length (rgI (1 : Int) (x_1 + (1 : Int))) < 16777216) ∧ (W_total_of (List.map (fun x_2 => ((1 : Int), x_2)) (rgI (1 : Int) (x_1 + (1 : Int))))) ∧ (W_plus s_1 (F_total_of (List.map (fun x_2 => ((1 : Int), x_2)) (rgI (1 : Int) (x_1 + (1 : Int))))))
def F_raw_sum (case : (Int × Int × (List (List Int)))) (choice : (List Int)) : (Int × Int) := let found_1 : (Int × Int) := ((0 : Int), (1 : Int)); let m_1 : ((Int × Int)) := List.foldl F_raw_sum_s1 found_1 (F_liked_by case choice); m_1
def W_raw_sum (case : (Int × Int × (List (List Int)))) (choice : (List Int)) : Prop := let found_1 : (Int × Int) := ((0 : Int), (1 : Int)); let m_1 : ((Int × Int)) := List.foldl F_raw_sum_s1 found_1 (F_liked_by case choice); (W_liked_by case choice) ∧ (WFold F_raw_sum_s1 W_raw_sum_s1 found_1 (F_liked_by case choice))
theorem W_raw_sum_eq {case : (Int × Int × (List (List Int)))} {choice : (List Int)} : W_raw_sum case choice = (let found_1 : (Int × Int) := ((0 : Int), (1 : Int)); let m_1 : ((Int × Int)) := List.foldl F_raw_sum_s1 found_1 (F_liked_by case choice); (W_liked_by case choice) ∧ (WFold F_raw_sum_s1 W_raw_sum_s1 found_1 (F_liked_by case choice))) := rfl
theorem V_raw_sum {case : (Int × Int × (List (List Int)))} {choice : (List Int)} (H : W_raw_sum case choice) : G_raw_sum [(eP3 eI eI (eT (eT eI))) case, (eT eI) choice] = some (T.sh ((eP eI eI) (F_raw_sum case choice))) := by
  refine gp_ok rfl ?_
  show S B_raw_sum [.sh ((eP3 eI eI (eT (eT eI))) case), .sh ((eT eI) choice), .fr, .fr, .fr] _
  unfold B_raw_sum
  let found_1 : (Int × Int) := ((0 : Int), (1 : Int))
  let m_1 : ((Int × Int)) := List.foldl F_raw_sum_s1 found_1 (F_liked_by case choice)
  exact (s_seq (SV.cx (Γ2 := [.sh ((eP3 eI eI (eT (eT eI))) case), .sh ((eT eI) choice), .sh ((eP eI eI) found_1), .fr, .fr]) (sv_asg ew_c (gw_n (s := .sh ((eP eI eI) found_1)) rfl)) rfl) (s_seq (SV.cx (Γ2 := [.sh ((eP3 eI eI (eT (eT eI))) case), .sh ((eT eI) choice), .sh ((eP eI eI) m_1), .fr, .fr]) (sv_for (l := (F_liked_by case choice)) (e := eI) (G := (fun s_1 : ((Int × Int)) => [.sh ((eP3 eI eI (eT (eT eI))) case), .sh ((eT eI) choice), .sh ((eP eI eI) s_1), .fr, .fr])) (s0 := found_1) (step := F_raw_sum_s1) (W := W_raw_sum_s1) (iv_e (EW.od (ew_def (av_cons (EW.sh (ew_v rfl)) (av_cons (EW.sh (ew_v rfl)) av_nil)) (V_liked_by  (H.1)))) rfl) (by first | exact Le.refl _ | (repeat (first | exact trivial | exact rfl | apply And.intro))) (H.2) (fun s_1 x_1 H2 => let found_2 : (Int × Int) := (F_plus s_1 (F_total_of (List.map (fun x_2 => ((1 : Int), x_2)) (rgI (1 : Int) (x_1 + (1 : Int)))))); turn (gw_n (s := .sh _) rfl) (s_of (SV.cx (Γ2 := [.sh ((eP3 eI eI (eT (eT eI))) case), .sh ((eT eI) choice), .sh ((eP eI eI) found_2), .sh (eI x_1), .fr]) (sv_asg (ew_def (av_cons (EW.sh (ew_v rfl)) (av_cons (EW.sh (ew_def (av_cons (EW.od (EW.mapE (e := (eP eI eI)) (ew_compM (l := (rgI (1 : Int) (x_1 + (1 : Int)))) (e := eI) (r := fun x_2 => T.sh ((eP eI eI) ((1 : Int), x_2))) (IV.as (iv_r2 ew_c (ew_binL (EW.sh ew_c) rfl rfl o_addI) (H2.1)) (rgD_map _ _)) (H2.2.1) (free_own (by rfl)) (fun x_2 hx => item1 (gw_n (s := .sh _) rfl) (EW.as (t' := .sh ((eP eI eI) ((1 : Int), x_2))) (ew_tup (av_cons (EW.sh ew_c) (av_cons (EW.sh (ew_v rfl)) av_nil))) rfl) (by first | exact Le.refl _ | (repeat (first | exact trivial | exact rfl | apply And.intro))))))) av_nil) (V_total_of  (H2.2.2.1)))) av_nil)) (V_plus  (H2.2.2.2))) (gw_n (s := .sh ((eP eI eI) found_2)) rfl)) rfl) (fun η k => ⟨.inl rfl, Le.sat (by first | exact Le.refl _ | (repeat (first | exact trivial | exact rfl | apply And.intro))) k⟩)))) rfl) (s_retV (t := T.sh ((eP eI eI) m_1)) rfl (fun η k => rfl))))
def F_best_sum_s1 (case : (Int × Int × (List (List Int)))) (s_1 : ((Option ((Int × Int) × (List Int))))) (x_1 : (List Int)) : ((Option ((Int × Int) × (List Int)))) := let here_1 : (Int × Int) := (F_raw_sum case x_1); let m_1 : ((Option ((Int × Int) × (List Int)))) := if ((Option.isNone s_1) || (F_is_below (((gO s_1)).1) here_1)) = true then (let best_2 : (Option ((Int × Int) × (List Int))) := (some (here_1, x_1)); best_2) else (s_1); m_1
def W_best_sum_s1 (case : (Int × Int × (List (List Int)))) (s_1 : ((Option ((Int × Int) × (List Int))))) (x_1 : (List Int)) : Prop := let here_1 : (Int × Int) := (F_raw_sum case x_1); let m_1 : ((Option ((Int × Int) × (List Int)))) := if ((Option.isNone s_1) || (F_is_below (((gO s_1)).1) here_1)) = true then (let best_2 : (Option ((Int × Int) × (List Int))) := (some (here_1, x_1)); best_2) else (s_1); (W_raw_sum case x_1) ∧ ((Option.isNone s_1) = false → (Option.isSome s_1 = true) ∧ (W_is_below (((gO s_1)).1) here_1))
def F_best_sum (case : (Int × Int × (List (List Int)))) : (Option ((Int × Int) × (List Int))) := let best_1 : (Option ((Int × Int) × (List Int))) := (none : (Option ((Int × Int) × (List Int)))); let m_2 : ((Option ((Int × Int) × (List Int)))) := List.foldl (F_best_sum_s1 case) best_1 (F_choices_in case); m_2
def W_best_sum (case : (Int × Int × (List (List Int)))) : Prop := let best_1 : (Option ((Int × Int) × (List Int))) := (none : (Option ((Int × Int) × (List Int)))); let m_2 : ((Option ((Int × Int) × (List Int)))) := List.foldl (F_best_sum_s1 case) best_1 (F_choices_in case); (W_check_case case) ∧ (W_choices_in case) ∧ (WFold (F_best_sum_s1 case) (W_best_sum_s1 case) best_1 (F_choices_in case))
theorem W_best_sum_eq {case : (Int × Int × (List (List Int)))} : W_best_sum case = (let best_1 : (Option ((Int × Int) × (List Int))) := (none : (Option ((Int × Int) × (List Int)))); let m_2 : ((Option ((Int × Int) × (List Int)))) := List.foldl (F_best_sum_s1 case) best_1 (F_choices_in case); (W_check_case case) ∧ (W_choices_in case) ∧ (WFold (F_best_sum_s1 case) (W_best_sum_s1 case) best_1 (F_choices_in case))) := rfl
theorem V_best_sum {case : (Int × Int × (List (List Int)))} (H : W_best_sum case) : G_best_sum [(eP3 eI eI (eT (eT eI))) case] = some (T.sh ((eO (eP (eP eI eI) (eT eI))) (F_best_sum case))) := by
  refine gp_ok rfl ?_
  show S B_best_sum [.sh ((eP3 eI eI (eT (eT eI))) case), .fr, .fr, .fr] _
  unfold B_best_sum
  let best_1 : (Option ((Int × Int) × (List Int))) := (none : (Option ((Int × Int) × (List Int))))
  let m_2 : ((Option ((Int × Int) × (List Int)))) := List.foldl (F_best_sum_s1 case) best_1 (F_choices_in case)
  exact (s_seq (SV.cx (Γ2 := [.sh ((eP3 eI eI (eT (eT eI))) case), .fr, .fr, .fr]) (sv_expr (ew_def (av_cons (EW.sh (ew_v rfl)) av_nil) (V_check_case  (H.1)))) rfl) (s_seq (SV.cx (Γ2 := [.sh ((eP3 eI eI (eT (eT eI))) case), .sh ((eO (eP (eP eI eI) (eT eI))) best_1), .fr, .fr]) (sv_asg ew_c (gw_n (s := .sh ((eO (eP (eP eI eI) (eT eI))) best_1)) rfl)) rfl) (s_seq (SV.cx (Γ2 := [.sh ((eP3 eI eI (eT (eT eI))) case), .sh ((eO (eP (eP eI eI) (eT eI))) m_2), .fr, .fr]) (sv_for (l := (F_choices_in case)) (e := (eT eI)) (G := (fun s_1 : ((Option ((Int × Int) × (List Int)))) => [.sh ((eP3 eI eI (eT (eT eI))) case), .sh ((eO (eP (eP eI eI) (eT eI))) s_1), .fr, .fr])) (s0 := best_1) (step := (F_best_sum_s1 case)) (W := (W_best_sum_s1 case)) (iv_e (EW.od (ew_def (av_cons (EW.sh (ew_v rfl)) av_nil) (V_choices_in  (H.2.1)))) rfl) (by first | exact Le.refl _ | (repeat (first | exact trivial | exact rfl | apply And.intro))) (H.2.2) (fun s_1 x_1 H4 => let here_1 : (Int × Int) := (F_raw_sum case x_1); let m_1 : ((Option ((Int × Int) × (List Int)))) := if ((Option.isNone s_1) || (F_is_below (((gO s_1)).1) here_1)) = true then (let best_2 : (Option ((Int × Int) × (List Int))) := (some (here_1, x_1)); best_2) else (s_1); turn (gw_n (s := .sh _) rfl) (s_of (sv_seq (SV.cx (Γ2 := [.sh ((eP3 eI eI (eT (eT eI))) case), .sh ((eO (eP (eP eI eI) (eT eI))) s_1), .sh ((eT eI) x_1), .sh ((eP eI eI) here_1)]) (sv_asg (ew_def (av_cons (EW.sh (ew_v rfl)) (av_cons (EW.sh (ew_v rfl)) av_nil)) (V_raw_sum  (H4.1))) (gw_n (s := .sh ((eP eI eI) here_1)) rfl)) rfl) (SV.cx (Γ2 := [.sh ((eP3 eI eI (eT (eT eI))) case), .sh ((eO (eP (eP eI eI) (eT eI))) m_1), .sh ((eT eI) x_1), .sh ((eP eI eI) here_1)]) (sv_if (σ := ((Option ((Int × Int) × (List Int))))) (x := let best_2 : (Option ((Int × Int) × (List Int))) := (some (here_1, x_1)); best_2) (y := s_1) (fun s_2 : ((Option ((Int × Int) × (List Int)))) => [.sh ((eP3 eI eI (eT (eT eI))) case), .sh ((eO (eP (eP eI eI) (eT eI))) s_2), .sh ((eT eI) x_1), .sh ((eP eI eI) here_1)]) (bv_or (bv_t (ew_binL (EW.sh ew_c) rfl rfl (o_isO (e := (eP (eP eI eI) (eT eI))) (fun _ => rfl)))) (fun hb => (have H1 := (H4.2) hb; (bv_tru (EW.sh (ew_def (av_cons (EW.sh (ew_binL (EW.sh ew_c) rfl rfl (o_ofO (e := (eP (eP eI eI) (eT eI))) (H1.1) rfl))) (av_cons (EW.sh (ew_v rfl)) av_nil)) (V_is_below  (H1.2)))) rfl))) (by first | exact Le.refl _ | (repeat (first | exact trivial | exact rfl | apply And.intro)))) (fun hb => (let best_2 : (Option ((Int × Int) × (List Int))) := (some (here_1, x_1)); (SV.cx (Γ2 := [.sh ((eP3 eI eI (eT (eT eI))) case), .sh ((eO (eP (eP eI eI) (eT eI))) best_2), .sh ((eT eI) x_1), .sh ((eP eI eI) here_1)]) (sv_asg (EW.as (t' := .sh ((eP (eP eI eI) (eT eI)) (here_1, x_1))) (ew_tup (av_cons (EW.sh (ew_v rfl)) (av_cons (EW.sh (ew_v rfl)) av_nil))) rfl) (gw_n (s := .sh ((eO (eP (eP eI eI) (eT eI))) best_2)) rfl)) rfl))) (fun hb => sv_nil) (by first | exact Le.refl _ | (repeat (first | exact trivial | exact rfl | apply And.intro))) (by first | exact Le.refl _ | (repeat (first | exact trivial | exact rfl | apply And.intro)))) rfl)) (fun η k => ⟨.inl rfl, Le.sat (by first | exact Le.refl _ | (repeat (first | exact trivial | exact rfl | apply And.intro))) k⟩)))) rfl) (s_retV (t := T.sh ((eO (eP (eP eI eI) (eT eI))) m_2)) rfl (fun η k => rfl)))))
def F_check_choice (case : (Int × Int × (List (List Int)))) (choice : (List Int)) : Unit := ()
def W_check_choice (case : (Int × Int × (List (List Int)))) (choice : (List Int)) : Prop := (W_check_case case) ∧ (W_is_lot choice case.1) ∧ (((!(F_is_lot choice case.1)) || (!decide ((List.length choice : Int) = case.2.1))) = false)
theorem W_check_choice_eq {case : (Int × Int × (List (List Int)))} {choice : (List Int)} : W_check_choice case choice = ((W_check_case case) ∧ (W_is_lot choice case.1) ∧ (((!(F_is_lot choice case.1)) || (!decide ((List.length choice : Int) = case.2.1))) = false)) := rfl
theorem V_check_choice {case : (Int × Int × (List (List Int)))} {choice : (List Int)} (H : W_check_choice case choice) : G_check_choice [(eP3 eI eI (eT (eT eI))) case, (eT eI) choice] = some (.sh .none) := by
  refine gp_nx rfl ?_
  show S B_check_choice [.sh ((eP3 eI eI (eT (eT eI))) case), .sh ((eT eI) choice)] _
  unfold B_check_choice
  exact (s_seq (SV.cx (Γ2 := [.sh ((eP3 eI eI (eT (eT eI))) case), .sh ((eT eI) choice)]) (sv_expr (ew_def (av_cons (EW.sh (ew_v rfl)) av_nil) (V_check_case  (H.1)))) rfl) (s_ifF (bv_or (bv_not (bv_tru (EW.sh (ew_def (av_cons (EW.sh (ew_v rfl)) (av_cons (EW.sh (ew_binL (EW.sh ew_c) rfl rfl rfl)) av_nil)) (V_is_lot  (H.2.1)))) rfl)) (fun hb => (bv_t (ew_bin (EW.sh (ew_callV rfl (o_lenT (e := eI)))) (EW.sh (ew_binL (EW.sh ew_c) rfl rfl rfl)) (o_ne (e := eI) cm_i)))) (by first | exact Le.refl _ | (repeat (first | exact trivial | exact rfl | apply And.intro)))) (H.2.2) (s_of sv_nil (fun η k => .inl rfl))))
def F_no_exchange_s1 (case : (Int × Int × (List (List Int)))) (choice : (List Int)) (most_1 : (Int × Int)) (x_1 : Int) (s_2 : Unit) (x_2 : Int) : (Lp Unit (Option (Int × Int))) := (if (!memT x_2 choice) = true then (let other_1 : (List Int) := (sortT eI ((List.map (fun x_3 => x_3) (List.filter (fun x_3 => (!decide (x_3 = x_1))) choice)) ++ [x_2])); (if (!(F_is_below (F_raw_sum case other_1) most_1)) = true then ((.ret (some (x_1, x_2)))) else ((.nx ())))) else ((.nx ())))
def W_no_exchange_s1 (case : (Int × Int × (List (List Int)))) (choice : (List Int)) (most_1 : (Int × Int)) (x_1 : Int) (s_2 : Unit) (x_2 : Int) : Prop := ((!memT x_2 choice) = true → let other_1 : (List Int) := (sortT eI ((List.map (fun x_3 => x_3) (List.filter (fun x_3 => (!decide (x_3 = x_1))) choice)) ++ [x_2])); (List.length choice < 16777216) ∧ (List.length (List.map (fun x_3 => x_3) (List.filter (fun x_3 => (!decide (x_3 = x_1))) choice)) + List.length [x_2] ≤ 16777216) ∧ (W_raw_sum case other_1) ∧ (W_is_below (F_raw_sum case other_1) most_1))
def F_no_exchange_s2 (case : (Int × Int × (List (List Int)))) (choice : (List Int)) (most_1 : (Int × Int)) (s_1 : Unit) (x_1 : Int) : (Lp Unit (Option (Int × Int))) := let e_1 : (Except (Option (Int × Int)) Unit) := (foldL (F_no_exchange_s1 case choice most_1 x_1) () (rgI 0 case.1)); (exC e_1 (fun z_1 : Unit => (.nx ())) (fun r_1 : (Option (Int × Int)) => .ret r_1))
def W_no_exchange_s2 (case : (Int × Int × (List (List Int)))) (choice : (List Int)) (most_1 : (Int × Int)) (s_1 : Unit) (x_1 : Int) : Prop := let e_1 : (Except (Option (Int × Int)) Unit) := (foldL (F_no_exchange_s1 case choice most_1 x_1) () (rgI 0 case.1)); (rg62 case.1 = true) ∧ (WFoldL (F_no_exchange_s1 case choice most_1 x_1) (W_no_exchange_s1 case choice most_1 x_1) () (rgI 0 case.1))
def F_no_exchange (case : (Int × Int × (List (List Int)))) (choice : (List Int)) : (Option (Int × Int)) := let most_1 : (Int × Int) := (F_plus (F_raw_sum case choice) (F_made (List.length case.2.2 : Int) (case.2.1 * case.2.1))); let e_2 : (Except (Option (Int × Int)) Unit) := (foldL (F_no_exchange_s2 case choice most_1) () choice); (exC e_2 (fun z_2 : Unit => (none : (Option (Int × Int)))) (fun r_2 : (Option (Int × Int)) => r_2))
def W_no_exchange (case : (Int × Int × (List (List Int)))) (choice : (List Int)) : Prop := let most_1 : (Int × Int) := (F_plus (F_raw_sum case choice) (F_made (List.length case.2.2 : Int) (case.2.1 * case.2.1))); let e_2 : (Except (Option (Int × Int)) Unit) := (foldL (F_no_exchange_s2 case choice most_1) () choice); (W_check_choice case choice) ∧ (W_raw_sum case choice) ∧ (mulFits case.2.1 case.2.1 = true) ∧ (W_made (List.length case.2.2 : Int) (case.2.1 * case.2.1)) ∧ (W_plus (F_raw_sum case choice) (F_made (List.length case.2.2 : Int) (case.2.1 * case.2.1))) ∧ (WFoldL (F_no_exchange_s2 case choice most_1) (W_no_exchange_s2 case choice most_1) () choice)
theorem W_no_exchange_eq {case : (Int × Int × (List (List Int)))} {choice : (List Int)} : W_no_exchange case choice = (let most_1 : (Int × Int) := (F_plus (F_raw_sum case choice) (F_made (List.length case.2.2 : Int) (case.2.1 * case.2.1))); let e_2 : (Except (Option (Int × Int)) Unit) := (foldL (F_no_exchange_s2 case choice most_1) () choice); (W_check_choice case choice) ∧ (W_raw_sum case choice) ∧ (mulFits case.2.1 case.2.1 = true) ∧ (W_made (List.length case.2.2 : Int) (case.2.1 * case.2.1)) ∧ (W_plus (F_raw_sum case choice) (F_made (List.length case.2.2 : Int) (case.2.1 * case.2.1))) ∧ (WFoldL (F_no_exchange_s2 case choice most_1) (W_no_exchange_s2 case choice most_1) () choice)) := rfl
theorem V_no_exchange {case : (Int × Int × (List (List Int)))} {choice : (List Int)} (H : W_no_exchange case choice) : G_no_exchange [(eP3 eI eI (eT (eT eI))) case, (eT eI) choice] = some (T.sh ((eO (eP eI eI)) (F_no_exchange case choice))) := by
  refine gp_ok rfl ?_
  show S B_no_exchange [.sh ((eP3 eI eI (eT (eT eI))) case), .sh ((eT eI) choice), .fr, .fr, .fr, .fr, .fr] _
  unfold B_no_exchange
  let most_1 : (Int × Int) := (F_plus (F_raw_sum case choice) (F_made (List.length case.2.2 : Int) (case.2.1 * case.2.1)))
  let e_2 : (Except (Option (Int × Int)) Unit) := (foldL (F_no_exchange_s2 case choice most_1) () choice)
  exact (s_seq (SV.cx (Γ2 := [.sh ((eP3 eI eI (eT (eT eI))) case), .sh ((eT eI) choice), .fr, .fr, .fr, .fr, .fr]) (sv_expr (ew_def (av_cons (EW.sh (ew_v rfl)) (av_cons (EW.sh (ew_v rfl)) av_nil)) (V_check_choice  (H.1)))) rfl) (s_seq (SV.cx (Γ2 := [.sh ((eP3 eI eI (eT (eT eI))) case), .sh ((eT eI) choice), .sh ((eP eI eI) most_1), .fr, .fr, .fr, .fr]) (sv_asg (ew_def (av_cons (EW.sh (ew_def (av_cons (EW.sh (ew_v rfl)) (av_cons (EW.sh (ew_v rfl)) av_nil)) (V_raw_sum  (H.2.1)))) (av_cons (EW.sh (ew_def (av_cons (EW.sh (ew_call (av_cons (EW.sh (ew_binL (EW.sh ew_c) rfl rfl rfl)) av_nil) (o_lenT (e := (eT eI))))) (av_cons (EW.sh (ew_bin (EW.sh (ew_binL (EW.sh ew_c) rfl rfl rfl)) (EW.sh (ew_binL (EW.sh ew_c) rfl rfl rfl)) (o_mulI (H.2.2.1)))) av_nil)) (V_made  (H.2.2.2.1)))) av_nil)) (V_plus  (H.2.2.2.2.1))) (gw_n (s := .sh ((eP eI eI) most_1)) rfl)) rfl) (s_seqX (M := (fun (v : (Option (Int × Int))) fl _ => fl = .ret (T.sh ((eO (eP eI eI)) v)))) (fun z_2 : Unit => (none : (Option (Int × Int)))) (fun r_2 : (Option (Int × Int)) => r_2) (s_forV (l := choice) (e := eI) (G := (fun s_1 : Unit => [.sh ((eP3 eI eI (eT (eT eI))) case), .sh ((eT eI) choice), .sh ((eP eI eI) most_1), .fr, .fr, .fr, .fr])) (s0 := ()) (step := (F_no_exchange_s2 case choice most_1)) (W := (W_no_exchange_s2 case choice most_1)) (R := (fun (v : (Option (Int × Int))) _ t => t = T.sh ((eO (eP eI eI)) v))) rfl rfl (fun _ => rfl) (by first | exact Le.refl _ | (repeat (first | exact trivial | exact rfl | apply And.intro))) (H.2.2.2.2.2) (fun s_1 x_1 H8 => let e_1 : (Except (Option (Int × Int)) Unit) := (foldL (F_no_exchange_s1 case choice most_1 x_1) () (rgI 0 case.1)); turn (gw_n (s := .sh _) rfl) (s_endX (M := (LpP (fun _ : Unit => [.sh ((eP3 eI eI (eT (eT eI))) case), .sh ((eT eI) choice), .sh ((eP eI eI) most_1), .fr, .fr, .fr, .fr]) (fun (v : (Option (Int × Int))) _ t => t = T.sh ((eO (eP eI eI)) v)))) (fun z_1 : Unit => (.nx ())) (fun r_1 : (Option (Int × Int)) => .ret r_1) (s_for (l := (rgI 0 case.1)) (e := eI) (G := (fun s_2 : Unit => [.sh ((eP3 eI eI (eT (eT eI))) case), .sh ((eT eI) choice), .sh ((eP eI eI) most_1), .sh (eI x_1), .fr, .fr, .fr])) (s0 := ()) (step := (F_no_exchange_s1 case choice most_1 x_1)) (W := (W_no_exchange_s1 case choice most_1 x_1)) (R := (fun (v : (Option (Int × Int))) _ t => t = T.sh ((eO (eP eI eI)) v))) (IV.as (iv_r1 (ew_binL (EW.sh ew_c) rfl rfl rfl) (H8.1)) (rgD_map _ _)) (by first | exact Le.refl _ | (repeat (first | exact trivial | exact rfl | apply And.intro))) (H8.2) (fun s_2 x_2 H7 => turn (gw_n (s := .sh _) rfl) (s_if (LpP (fun _ : Unit => [.sh ((eP3 eI eI (eT (eT eI))) case), .sh ((eT eI) choice), .sh ((eP eI eI) most_1), .sh (eI x_1), .fr, .fr, .fr]) (fun (v : (Option (Int × Int))) _ t => t = T.sh ((eO (eP eI eI)) v))) (bv_t (ew_binLR rfl rfl (o_ninT (e := eI) cm_i))) (fun hb => (have H5 := H7 hb; let other_1 : (List Int) := (sortT eI ((List.map (fun x_3 => x_3) (List.filter (fun x_3 => (!decide (x_3 = x_1))) choice)) ++ [x_2])); (s_seq (SV.cx (Γ2 := [.sh ((eP3 eI eI (eT (eT eI))) case), .sh ((eT eI) choice), .sh ((eP eI eI) most_1), .sh (eI x_1), .sh (eI x_2), .sh ((eT eI) other_1), .fr]) (sv_asg (ew_call (av_cons (EW.od (ew_call (av_cons (EW.od (ew_bin (EW.od (EW.mapE (e := eI) (ew_compV (l := choice) (e := eI) (c := fun x_3 => (!decide (x_3 = x_1))) (r := fun x_3 => T.sh (eI x_3)) rfl rfl rfl (H5.1) (free_own (by rfl)) (fun x_3 hx => item (gw_n (s := .sh _) rfl) (bv_t (ew_binLR rfl rfl (o_ne (e := eI) cm_i))) (fun _ => (by first | exact Le.refl _ | (repeat (first | exact trivial | exact rfl | apply And.intro)))) (fun hb => (ew_v rfl)) (by first | exact Le.refl _ | (repeat (first | exact trivial | exact rfl | apply And.intro))))))) (EW.od (EW.as (t' := .lst (List.map T.sh (List.map eI [x_2]))) (ew_lst (aw_cons (ew_v rfl) aw_nil)) rfl)) (o_addL (e := eI) (H5.2.1)))) av_nil) (o_sortedL (e := eI) (sortable_of (So.mk al_i (fun a => (cm_i).lay a) (fun a => Nat.le_trans ((cm_i).dep a) (by decide))) _)))) av_nil) (o_tupL (e := eI))) (gw_n (s := .sh ((eT eI) other_1)) rfl)) rfl) (s_if (LpP (fun _ : Unit => [.sh ((eP3 eI eI (eT (eT eI))) case), .sh ((eT eI) choice), .sh ((eP eI eI) most_1), .sh (eI x_1), .fr, .fr, .fr]) (fun (v : (Option (Int × Int))) _ t => t = T.sh ((eO (eP eI eI)) v))) (bv_not (bv_tru (EW.sh (ew_def (av_cons (EW.sh (ew_def (av_cons (EW.sh (ew_v rfl)) (av_cons (EW.sh (ew_v rfl)) av_nil)) (V_raw_sum  (H5.2.2.1)))) (av_cons (EW.sh (ew_v rfl)) av_nil)) (V_is_below  (H5.2.2.2)))) rfl)) (fun hb => (s_ret (EW.as (t' := .sh ((eP eI eI) (x_1, x_2))) (ew_tup (av_cons (EW.sh (ew_v rfl)) (av_cons (EW.sh (ew_v rfl)) av_nil))) rfl) (fun η k => ⟨_, rfl, rfl⟩))) (fun hb => (s_of sv_nil (fun η k => ⟨.inl rfl, Le.sat (by first | exact Le.refl _ | (repeat (first | exact trivial | exact rfl | apply And.intro))) k⟩))))))) (fun hb => (s_of sv_nil (fun η k => ⟨.inl rfl, Le.sat (by first | exact Le.refl _ | (repeat (first | exact trivial | exact rfl | apply And.intro))) k⟩)))))) (fun r η t h => ⟨t, rfl, h⟩) (fun z_1 => (fun η k => ⟨.inl rfl, Le.sat (by first | exact Le.refl _ | (repeat (first | exact trivial | exact rfl | apply And.intro))) k⟩))))) (fun r η t h => by rw [h]) (fun z_2 hs => (s_ret ew_c (fun η k => rfl))))))
def F_sum_of (case : (Int × Int × (List (List Int)))) (choice : (List Int)) : (Int × Int) := (F_raw_sum case choice)
def W_sum_of (case : (Int × Int × (List (List Int)))) (choice : (List Int)) : Prop := (W_check_choice case choice) ∧ (W_raw_sum case choice)
theorem W_sum_of_eq {case : (Int × Int × (List (List Int)))} {choice : (List Int)} : W_sum_of case choice = ((W_check_choice case choice) ∧ (W_raw_sum case choice)) := rfl
theorem V_sum_of {case : (Int × Int × (List (List Int)))} {choice : (List Int)} (H : W_sum_of case choice) : G_sum_of [(eP3 eI eI (eT (eT eI))) case, (eT eI) choice] = some (T.sh ((eP eI eI) (F_sum_of case choice))) := by
  refine gp_ok rfl ?_
  show S B_sum_of [.sh ((eP3 eI eI (eT (eT eI))) case), .sh ((eT eI) choice)] _
  unfold B_sum_of
  exact (s_seq (SV.cx (Γ2 := [.sh ((eP3 eI eI (eT (eT eI))) case), .sh ((eT eI) choice)]) (sv_expr (ew_def (av_cons (EW.sh (ew_v rfl)) (av_cons (EW.sh (ew_v rfl)) av_nil)) (V_check_choice  (H.1)))) rfl) (s_ret (ew_def (av_cons (EW.sh (ew_v rfl)) (av_cons (EW.sh (ew_v rfl)) av_nil)) (V_raw_sum  (H.2))) (fun η k => rfl)))
def F_check_word (word : Str) : Unit := ()
def W_check_word (word : Str) : Prop := ((!true) = false → ((eS word).canLay0 = true ∧ ∀ x ∈ [("one" : Str), ("all" : Str), ("each" : Str)], (eS x).canLay0 = true)) ∧ (((!true) || (!memT word [("one" : Str), ("all" : Str), ("each" : Str)])) = false)
theorem W_check_word_eq {word : Str} : W_check_word word = (((!true) = false → ((eS word).canLay0 = true ∧ ∀ x ∈ [("one" : Str), ("all" : Str), ("each" : Str)], (eS x).canLay0 = true)) ∧ (((!true) || (!memT word [("one" : Str), ("all" : Str), ("each" : Str)])) = false)) := rfl
theorem V_check_word {word : Str} (H : W_check_word word) : G_check_word [eS word] = some (.sh .none) := by
  refine gp_nx rfl ?_
  show S B_check_word [.sh (eS word)] _
  unfold B_check_word
  exact (s_ifF (bv_or (bv_not (bv_tru (EW.sh (ew_isV (b := true) rfl rfl)) rfl)) (fun hb => (have H1 := (H.1) hb; (bv_t (ew_binL (EW.sh (EW.as (t' := .sh ((eT eS) [("one" : Str), ("all" : Str), ("each" : Str)])) (ew_tup (av_cons (EW.sh ew_c) (av_cons (EW.sh ew_c) (av_cons (EW.sh ew_c) av_nil)))) rfl)) rfl rfl (o_ninTS H1))))) (by first | exact Le.refl _ | (repeat (first | exact trivial | exact rfl | apply And.intro)))) (H.2) (s_of sv_nil (fun η k => .inl rfl)))
def F_is_wronged (case : (Int × Int × (List (List Int)))) (choice : (List Int)) (word : Str) (seats : Int) (group : (List Int)) : Bool := (if (decide (word = ("one" : Str))) = true then (((decide (seats = (1 : Int))) && (List.all (List.map (fun x_1 => (decide ((F_both (gx case.2.2 x_1) choice) = (0 : Int)))) group) id))) else ((if (decide (word = ("all" : Str))) = true then ((decide ((List.length (List.map (fun x_2 => x_2) (List.filter (fun x_2 => (List.any (List.map (fun x_3 => (memT x_2 (gx case.2.2 x_3))) group) id)) choice)) : Int) < seats))) else ((List.all (List.map (fun x_4 => (decide ((F_both (gx case.2.2 x_4) choice) < seats))) group) id)))))
def W_is_wronged (case : (Int × Int × (List (List Int)))) (choice : (List Int)) (word : Str) (seats : Int) (group : (List Int)) : Prop := ((eS word).canLay0 = true ∧ (eS ("one" : Str)).canLay0 = true) ∧ ((decide (word = ("one" : Str))) = true → ((decide (seats = (1 : Int))) = true → (List.length group < 16777216) ∧ (∀ x_1 ∈ group, (ixOk (List.length case.2.2) x_1) ∧ (W_both (gx case.2.2 x_1) choice)))) ∧ ((decide (word = ("one" : Str))) = false → ((eS word).canLay0 = true ∧ (eS ("all" : Str)).canLay0 = true) ∧ ((decide (word = ("all" : Str))) = true → (List.length choice < 16777216) ∧ (∀ x_2 ∈ choice, (List.length group < 16777216) ∧ (∀ x_3 ∈ group, (ixOk (List.length case.2.2) x_3)))) ∧ ((decide (word = ("all" : Str))) = false → (List.length group < 16777216) ∧ (∀ x_4 ∈ group, (ixOk (List.length case.2.2) x_4) ∧ (W_both (gx case.2.2 x_4) choice))))
theorem W_is_wronged_eq {case : (Int × Int × (List (List Int)))} {choice : (List Int)} {word : Str} {seats : Int} {group : (List Int)} : W_is_wronged case choice word seats group = (((eS word).canLay0 = true ∧ (eS ("one" : Str)).canLay0 = true) ∧ ((decide (word = ("one" : Str))) = true → ((decide (seats = (1 : Int))) = true → (List.length group < 16777216) ∧ (∀ x_1 ∈ group, (ixOk (List.length case.2.2) x_1) ∧ (W_both (gx case.2.2 x_1) choice)))) ∧ ((decide (word = ("one" : Str))) = false → ((eS word).canLay0 = true ∧ (eS ("all" : Str)).canLay0 = true) ∧ ((decide (word = ("all" : Str))) = true → (List.length choice < 16777216) ∧ (∀ x_2 ∈ choice, (List.length group < 16777216) ∧ (∀ x_3 ∈ group, (ixOk (List.length case.2.2) x_3)))) ∧ ((decide (word = ("all" : Str))) = false → (List.length group < 16777216) ∧ (∀ x_4 ∈ group, (ixOk (List.length case.2.2) x_4) ∧ (W_both (gx case.2.2 x_4) choice))))) := rfl
theorem V_is_wronged {case : (Int × Int × (List (List Int)))} {choice : (List Int)} {word : Str} {seats : Int} {group : (List Int)} (H : W_is_wronged case choice word seats group) : G_is_wronged [(eP3 eI eI (eT (eT eI))) case, (eT eI) choice, eS word, eI seats, (eT eI) group] = some (T.sh (eB (F_is_wronged case choice word seats group))) := by
  refine gp_ok rfl ?_
  show S B_is_wronged [.sh ((eP3 eI eI (eT (eT eI))) case), .sh ((eT eI) choice), .sh (eS word), .sh (eI seats), .sh ((eT eI) group), .fr, .fr] _
  unfold B_is_wronged
  exact (s_ifseq (fun (v : Bool) fl _ => fl = .ret (T.sh (eB v))) (bv_t (ew_binL (EW.sh ew_c) rfl rfl (o_eqS (H.1)))) (fun hb => (have H9 := (H.2.1) hb; (s_stop (s_ret (ew_and (ew_binL (EW.sh ew_c) rfl rfl (o_eq (e := eI) cm_i)) (fun hb => (have H2 := H9 hb; (ew_call (av_cons (EW.od (EW.mapE (e := eB) (ew_compVM (l := group) (e := eI) (r := fun x_1 => T.sh (eB (decide ((F_both (gx case.2.2 x_1) choice) = (0 : Int))))) rfl rfl rfl (H2.1) (free_own (by rfl)) (fun x_1 hx => have H1 := (H2.2) x_1 hx; item1 (gw_n (s := .sh _) rfl) (ew_bin (EW.sh (ew_def (av_cons (EW.sh (ew_binR (EW.sh (ew_binL (EW.sh ew_c) rfl rfl rfl)) rfl (o_ixT (e := (eT eI)) (H1.1)))) (av_cons (EW.sh (ew_v rfl)) av_nil)) (V_both  (H1.2)))) (EW.sh ew_c) (o_eq (e := eI) cm_i)) (by first | exact Le.refl _ | (repeat (first | exact trivial | exact rfl | apply And.intro))))))) av_nil) o_all))) (by first | exact Le.refl _ | (repeat (first | exact trivial | exact rfl | apply And.intro)))) (fun η k => ⟨(by rintro ⟨⟩), rfl⟩))))) (fun hb => (have H10 := (H.2.2) hb; (s_nilseq (s_ifseq (fun (v : Bool) fl _ => fl = .ret (T.sh (eB v))) (bv_t (ew_binL (EW.sh ew_c) rfl rfl (o_eqS (H10.1)))) (fun hb => (have H7 := (H10.2.1) hb; (s_stop (s_ret (ew_binR (EW.sh (ew_call (av_cons (EW.od (EW.mapE (e := eI) (ew_compV (l := choice) (e := eI) (c := fun x_2 => (List.any (List.map (fun x_3 => (memT x_2 (gx case.2.2 x_3))) group) id)) (r := fun x_2 => T.sh (eI x_2)) rfl rfl rfl (H7.1) (free_own (by rfl)) (fun x_2 hx => have H4 := (H7.2) x_2 hx; item (gw_n (s := .sh _) rfl) (bv_tru (EW.sh (ew_call (av_cons (EW.od (EW.mapE (e := eB) (ew_compVM (l := group) (e := eI) (r := fun x_3 => T.sh (eB (memT x_2 (gx case.2.2 x_3)))) rfl rfl rfl (H4.1) (free_own (by rfl)) (fun x_3 hx => have H3 := (H4.2) x_3 hx; item1 (gw_n (s := .sh _) rfl) (ew_binL (EW.sh (ew_binR (EW.sh (ew_binL (EW.sh ew_c) rfl rfl rfl)) rfl (o_ixT (e := (eT eI)) H3))) rfl rfl (o_inT (e := eI) cm_i)) (by first | exact Le.refl _ | (repeat (first | exact trivial | exact rfl | apply And.intro))))))) av_nil) o_any)) rfl) (fun _ => (by first | exact Le.refl _ | (repeat (first | exact trivial | exact rfl | apply And.intro)))) (fun hb => (ew_v rfl)) (by first | exact Le.refl _ | (repeat (first | exact trivial | exact rfl | apply And.intro))))))) av_nil) (o_lenL (e := eI)))) rfl o_ltI) (fun η k => ⟨(by rintro ⟨⟩), rfl⟩))))) (fun hb => (have H8 := (H10.2.2) hb; (s_nilseq (s_ret (ew_call (av_cons (EW.od (EW.mapE (e := eB) (ew_compVM (l := group) (e := eI) (r := fun x_4 => T.sh (eB (decide ((F_both (gx case.2.2 x_4) choice) < seats)))) rfl rfl rfl (H8.1) (free_own (by rfl)) (fun x_4 hx => have H6 := (H8.2) x_4 hx; item1 (gw_n (s := .sh _) rfl) (ew_binR (EW.sh (ew_def (av_cons (EW.sh (ew_binR (EW.sh (ew_binL (EW.sh ew_c) rfl rfl rfl)) rfl (o_ixT (e := (eT eI)) (H6.1)))) (av_cons (EW.sh (ew_v rfl)) av_nil)) (V_both  (H6.2)))) rfl o_ltI) (by first | exact Le.refl _ | (repeat (first | exact trivial | exact rfl | apply And.intro))))))) av_nil) o_all) (fun η k => rfl))))))))))
def F_in_common (case : (Int × Int × (List (List Int)))) (group : (List Int)) : Int := let first_1 : (List Int) := (gx case.2.2 (gx group (0 : Int))); (List.length (List.map (fun x_1 => x_1) (List.filter (fun x_1 => (List.all (List.map (fun x_2 => (memT x_1 (gx case.2.2 x_2))) group) id)) first_1)) : Int)
def W_in_common (case : (Int × Int × (List (List Int)))) (group : (List Int)) : Prop := let first_1 : (List Int) := (gx case.2.2 (gx group (0 : Int))); (ixOk (List.length group) (0 : Int)) ∧ (ixOk (List.length case.2.2) (gx group (0 : Int))) ∧ (List.length first_1 < 16777216) ∧ (∀ x_1 ∈ first_1, (List.length group < 16777216) ∧ (∀ x_2 ∈ group, (ixOk (List.length case.2.2) x_2)))
theorem W_in_common_eq {case : (Int × Int × (List (List Int)))} {group : (List Int)} : W_in_common case group = (let first_1 : (List Int) := (gx case.2.2 (gx group (0 : Int))); (ixOk (List.length group) (0 : Int)) ∧ (ixOk (List.length case.2.2) (gx group (0 : Int))) ∧ (List.length first_1 < 16777216) ∧ (∀ x_1 ∈ first_1, (List.length group < 16777216) ∧ (∀ x_2 ∈ group, (ixOk (List.length case.2.2) x_2)))) := rfl
theorem V_in_common {case : (Int × Int × (List (List Int)))} {group : (List Int)} (H : W_in_common case group) : G_in_common [(eP3 eI eI (eT (eT eI))) case, (eT eI) group] = some (T.sh (eI (F_in_common case group))) := by
  refine gp_ok rfl ?_
  show S B_in_common [.sh ((eP3 eI eI (eT (eT eI))) case), .sh ((eT eI) group), .fr, .fr, .fr] _
  unfold B_in_common
  let first_1 : (List Int) := (gx case.2.2 (gx group (0 : Int)))
  exact (s_seq (SV.cx (Γ2 := [.sh ((eP3 eI eI (eT (eT eI))) case), .sh ((eT eI) group), .sh ((eT eI) first_1), .fr, .fr]) (sv_asg (ew_bin (EW.sh (ew_binL (EW.sh ew_c) rfl rfl rfl)) (EW.sh (ew_binL (EW.sh ew_c) rfl rfl (o_ixT (e := eI) (H.1)))) (o_ixT (e := (eT eI)) (H.2.1))) (gw_n (s := .sh ((eT eI) first_1)) rfl)) rfl) (s_ret (ew_call (av_cons (EW.od (EW.mapE (e := eI) (ew_compV (l := first_1) (e := eI) (c := fun x_1 => (List.all (List.map (fun x_2 => (memT x_1 (gx case.2.2 x_2))) group) id)) (r := fun x_1 => T.sh (eI x_1)) rfl rfl rfl (H.2.2.1) (free_own (by rfl)) (fun x_1 hx => have H2 := (H.2.2.2) x_1 hx; item (gw_n (s := .sh _) rfl) (bv_tru (EW.sh (ew_call (av_cons (EW.od (EW.mapE (e := eB) (ew_compVM (l := group) (e := eI) (r := fun x_2 => T.sh (eB (memT x_1 (gx case.2.2 x_2)))) rfl rfl rfl (H2.1) (free_own (by rfl)) (fun x_2 hx => have H1 := (H2.2) x_2 hx; item1 (gw_n (s := .sh _) rfl) (ew_binL (EW.sh (ew_binR (EW.sh (ew_binL (EW.sh ew_c) rfl rfl rfl)) rfl (o_ixT (e := (eT eI)) H1))) rfl rfl (o_inT (e := eI) cm_i)) (by first | exact Le.refl _ | (repeat (first | exact trivial | exact rfl | apply And.intro))))))) av_nil) o_all)) rfl) (fun _ => (by first | exact Le.refl _ | (repeat (first | exact trivial | exact rfl | apply And.intro)))) (fun hb => (ew_v rfl)) (by first | exact Le.refl _ | (repeat (first | exact trivial | exact rfl | apply And.intro))))))) av_nil) (o_lenL (e := eI))) (fun η k => rfl)))
def F_most_deserved (case : (Int × Int × (List (List Int)))) (group : (List Int)) : Int := (if (F_in_common case group) < (((List.length group : Int) * case.2.1) / (List.length case.2.2 : Int)) then (F_in_common case group) else (((List.length group : Int) * case.2.1) / (List.length case.2.2 : Int)))
def W_most_deserved (case : (Int × Int × (List (List Int)))) (group : (List Int)) : Prop := (mulFits (List.length group : Int) case.2.1 = true) ∧ (0 < (List.length case.2.2 : Int) ∧ (List.length case.2.2 : Int) < 18446744073709551616) ∧ (W_in_common case group)
theorem W_most_deserved_eq {case : (Int × Int × (List (List Int)))} {group : (List Int)} : W_most_deserved case group = ((mulFits (List.length group : Int) case.2.1 = true) ∧ (0 < (List.length case.2.2 : Int) ∧ (List.length case.2.2 : Int) < 18446744073709551616) ∧ (W_in_common case group)) := rfl
theorem V_most_deserved {case : (Int × Int × (List (List Int)))} {group : (List Int)} (H : W_most_deserved case group) : G_most_deserved [(eP3 eI eI (eT (eT eI))) case, (eT eI) group] = some (T.sh (eI (F_most_deserved case group))) := by
  refine gp_ok rfl ?_
  show S B_most_deserved [.sh ((eP3 eI eI (eT (eT eI))) case), .sh ((eT eI) group)] _
  unfold B_most_deserved
  exact (s_ret (ew_call (av_cons (EW.sh (ew_bin (EW.sh (ew_bin (EW.sh (ew_callV rfl (o_lenT (e := eI)))) (EW.sh (ew_binL (EW.sh ew_c) rfl rfl rfl)) (o_mulI (H.1)))) (EW.sh (ew_call (av_cons (EW.sh (ew_binL (EW.sh ew_c) rfl rfl rfl)) av_nil) (o_lenT (e := (eT eI))))) (o_fdiv (H.2.1)))) (av_cons (EW.sh (ew_def (av_cons (EW.sh (ew_v rfl)) (av_cons (EW.sh (ew_v rfl)) av_nil)) (V_in_common  (H.2.2)))) av_nil)) o_min2) (fun η k => rfl))
def F_first_wronged_s1 (case : (Int × Int × (List (List Int)))) (choice : (List Int)) (word : Str) (x_1 : (List Int)) (s_2 : ((Option (Int × (List Int))))) (x_2 : Int) : ((Option (Int × (List Int)))) := let m_1 : ((Option (Int × (List Int)))) := if (((Option.isNone s_2) || (ltT (eP eI (eT eI)) (x_2, x_1) (gO s_2))) && (F_is_wronged case choice word x_2 x_1)) = true then (let found_2 : (Option (Int × (List Int))) := (some (x_2, x_1)); found_2) else (s_2); m_1
def W_first_wronged_s1 (case : (Int × Int × (List (List Int)))) (choice : (List Int)) (word : Str) (x_1 : (List Int)) (s_2 : ((Option (Int × (List Int))))) (x_2 : Int) : Prop := let m_1 : ((Option (Int × (List Int)))) := if (((Option.isNone s_2) || (ltT (eP eI (eT eI)) (x_2, x_1) (gO s_2))) && (F_is_wronged case choice word x_2 x_1)) = true then (let found_2 : (Option (Int × (List Int))) := (some (x_2, x_1)); found_2) else (s_2); ((Option.isNone s_2) = false → (Option.isSome s_2 = true)) ∧ (((Option.isNone s_2) || (ltT (eP eI (eT eI)) (x_2, x_1) (gO s_2))) = true → (W_is_wronged case choice word x_2 x_1))
def F_first_wronged_s2 (case : (Int × Int × (List (List Int)))) (choice : (List Int)) (word : Str) (s_1 : ((Option (Int × (List Int))))) (x_1 : (List Int)) : ((Option (Int × (List Int)))) := let m_2 : ((Option (Int × (List Int)))) := List.foldl (F_first_wronged_s1 case choice word x_1) s_1 (rgI (1 : Int) ((F_most_deserved case x_1) + (1 : Int))); m_2
def W_first_wronged_s2 (case : (Int × Int × (List (List Int)))) (choice : (List Int)) (word : Str) (s_1 : ((Option (Int × (List Int))))) (x_1 : (List Int)) : Prop := let m_2 : ((Option (Int × (List Int)))) := List.foldl (F_first_wronged_s1 case choice word x_1) s_1 (rgI (1 : Int) ((F_most_deserved case x_1) + (1 : Int))); (W_most_deserved case x_1) ∧ (rg62 (1 : Int) = true ∧ rg62 ((F_most_deserved case x_1) + (1 : Int)) = true) ∧ (WFold (F_first_wronged_s1 case choice word x_1) (W_first_wronged_s1 case choice word x_1) s_1 (rgI (1 : Int) ((F_most_deserved case x_1) + (1 : Int))))
def F_first_wronged (case : (Int × Int × (List (List Int)))) (choice : (List Int)) (word : Str) : (Option (Int × (List Int))) := let found_1 : (Option (Int × (List Int))) := (none : (Option (Int × (List Int)))); let m_3 : ((Option (Int × (List Int)))) := List.foldl (F_first_wronged_s2 case choice word) found_1 (cutA (F_lots_of (List.length case.2.2 : Int)) (some (1 : Int)) none); m_3
def W_first_wronged (case : (Int × Int × (List (List Int)))) (choice : (List Int)) (word : Str) : Prop := let found_1 : (Option (Int × (List Int))) := (none : (Option (Int × (List Int)))); let m_3 : ((Option (Int × (List Int)))) := List.foldl (F_first_wronged_s2 case choice word) found_1 (cutA (F_lots_of (List.length case.2.2 : Int)) (some (1 : Int)) none); (W_lots_of (List.length case.2.2 : Int)) ∧ (WFold (F_first_wronged_s2 case choice word) (W_first_wronged_s2 case choice word) found_1 (cutA (F_lots_of (List.length case.2.2 : Int)) (some (1 : Int)) none))
theorem W_first_wronged_eq {case : (Int × Int × (List (List Int)))} {choice : (List Int)} {word : Str} : W_first_wronged case choice word = (let found_1 : (Option (Int × (List Int))) := (none : (Option (Int × (List Int)))); let m_3 : ((Option (Int × (List Int)))) := List.foldl (F_first_wronged_s2 case choice word) found_1 (cutA (F_lots_of (List.length case.2.2 : Int)) (some (1 : Int)) none); (W_lots_of (List.length case.2.2 : Int)) ∧ (WFold (F_first_wronged_s2 case choice word) (W_first_wronged_s2 case choice word) found_1 (cutA (F_lots_of (List.length case.2.2 : Int)) (some (1 : Int)) none))) := rfl
theorem V_first_wronged {case : (Int × Int × (List (List Int)))} {choice : (List Int)} {word : Str} (H : W_first_wronged case choice word) : G_first_wronged [(eP3 eI eI (eT (eT eI))) case, (eT eI) choice, eS word] = some (T.sh ((eO (eP eI (eT eI))) (F_first_wronged case choice word))) := by
  refine gp_ok rfl ?_
  show S B_first_wronged [.sh ((eP3 eI eI (eT (eT eI))) case), .sh ((eT eI) choice), .sh (eS word), .fr, .fr, .fr] _
  unfold B_first_wronged
  let found_1 : (Option (Int × (List Int))) := (none : (Option (Int × (List Int))))
  let m_3 : ((Option (Int × (List Int)))) := List.foldl (F_first_wronged_s2 case choice word) found_1 (cutA (F_lots_of (List.length case.2.2 : Int)) (some (1 : Int)) none)
  exact (s_seq (SV.cx (Γ2 := [.sh ((eP3 eI eI (eT (eT eI))) case), .sh ((eT eI) choice), .sh (eS word), .sh ((eO (eP eI (eT eI))) found_1), .fr, .fr]) (sv_asg ew_c (gw_n (s := .sh ((eO (eP eI (eT eI))) found_1)) rfl)) rfl) (s_seq (SV.cx (Γ2 := [.sh ((eP3 eI eI (eT (eT eI))) case), .sh ((eT eI) choice), .sh (eS word), .sh ((eO (eP eI (eT eI))) m_3), .fr, .fr]) (sv_for (l := (cutA (F_lots_of (List.length case.2.2 : Int)) (some (1 : Int)) none)) (e := (eT eI)) (G := (fun s_1 : ((Option (Int × (List Int)))) => [.sh ((eP3 eI eI (eT (eT eI))) case), .sh ((eT eI) choice), .sh (eS word), .sh ((eO (eP eI (eT eI))) s_1), .fr, .fr])) (s0 := found_1) (step := (F_first_wronged_s2 case choice word)) (W := (W_first_wronged_s2 case choice word)) (iv_e (EW.od (ew_sl (EW.od (ew_def (av_cons (EW.sh (ew_call (av_cons (EW.sh (ew_binL (EW.sh ew_c) rfl rfl rfl)) av_nil) (o_lenT (e := (eT eI))))) av_nil) (V_lots_of  (H.1)))) (ov_some ew_c) ov_none (o_slL (e := (eT eI))))) rfl) (by first | exact Le.refl _ | (repeat (first | exact trivial | exact rfl | apply And.intro))) (H.2) (fun s_1 x_1 H6 => let m_2 : ((Option (Int × (List Int)))) := List.foldl (F_first_wronged_s1 case choice word x_1) s_1 (rgI (1 : Int) ((F_most_deserved case x_1) + (1 : Int))); turn (gw_n (s := .sh _) rfl) (s_of (SV.cx (Γ2 := [.sh ((eP3 eI eI (eT (eT eI))) case), .sh ((eT eI) choice), .sh (eS word), .sh ((eO (eP eI (eT eI))) m_2), .sh ((eT eI) x_1), .fr]) (sv_for (l := (rgI (1 : Int) ((F_most_deserved case x_1) + (1 : Int)))) (e := eI) (G := (fun s_2 : ((Option (Int × (List Int)))) => [.sh ((eP3 eI eI (eT (eT eI))) case), .sh ((eT eI) choice), .sh (eS word), .sh ((eO (eP eI (eT eI))) s_2), .sh ((eT eI) x_1), .fr])) (s0 := s_1) (step := (F_first_wronged_s1 case choice word x_1)) (W := (W_first_wronged_s1 case choice word x_1)) (IV.as (iv_r2 ew_c (ew_bin (EW.sh (ew_def (av_cons (EW.sh (ew_v rfl)) (av_cons (EW.sh (ew_v rfl)) av_nil)) (V_most_deserved  (H6.1)))) (EW.sh ew_c) o_addI) (H6.2.1)) (rgD_map _ _)) (by first | exact Le.refl _ | (repeat (first | exact trivial | exact rfl | apply And.intro))) (H6.2.2) (fun s_2 x_2 H5 => let m_1 : ((Option (Int × (List Int)))) := if (((Option.isNone s_2) || (ltT (eP eI (eT eI)) (x_2, x_1) (gO s_2))) && (F_is_wronged case choice word x_2 x_1)) = true then (let found_2 : (Option (Int × (List Int))) := (some (x_2, x_1)); found_2) else (s_2); turn (gw_n (s := .sh _) rfl) (s_of (SV.cx (Γ2 := [.sh ((eP3 eI eI (eT (eT eI))) case), .sh ((eT eI) choice), .sh (eS word), .sh ((eO (eP eI (eT eI))) m_1), .sh ((eT eI) x_1), .sh (eI x_2)]) (sv_if (σ := ((Option (Int × (List Int))))) (x := let found_2 : (Option (Int × (List Int))) := (some (x_2, x_1)); found_2) (y := s_2) (fun s_3 : ((Option (Int × (List Int)))) => [.sh ((eP3 eI eI (eT (eT eI))) case), .sh ((eT eI) choice), .sh (eS word), .sh ((eO (eP eI (eT eI))) s_3), .sh ((eT eI) x_1), .sh (eI x_2)]) (bv_and (bv_or (bv_t (ew_binL (EW.sh ew_c) rfl rfl (o_isO (e := (eP eI (eT eI))) (fun _ => rfl)))) (fun hb => (have H1 := (H5.1) hb; (bv_t (ew_binR (EW.sh (EW.as (t' := .sh ((eP eI (eT eI)) (x_2, x_1))) (ew_tup (av_cons (EW.sh (ew_v rfl)) (av_cons (EW.sh (ew_v rfl)) av_nil))) rfl)) rfl (o_ofO2 (e := (eP eI (eT eI))) H1 (o_lt (e := (eP eI (eT eI))) (cm_p cm_i (cm_t cm_i)) (al_p al_i (al_t al_i)) (fun _ => by rintro ⟨⟩))))))) (by first | exact Le.refl _ | (repeat (first | exact trivial | exact rfl | apply And.intro)))) (fun hb => (have H2 := (H5.2) hb; (bv_tru (EW.sh (ew_def (av_cons (EW.sh (ew_v rfl)) (av_cons (EW.sh (ew_v rfl)) (av_cons (EW.sh (ew_v rfl)) (av_cons (EW.sh (ew_v rfl)) (av_cons (EW.sh (ew_v rfl)) av_nil))))) (V_is_wronged  H2))) rfl))) (by first | exact Le.refl _ | (repeat (first | exact trivial | exact rfl | apply And.intro)))) (fun hb => (let found_2 : (Option (Int × (List Int))) := (some (x_2, x_1)); (SV.cx (Γ2 := [.sh ((eP3 eI eI (eT (eT eI))) case), .sh ((eT eI) choice), .sh (eS word), .sh ((eO (eP eI (eT eI))) found_2), .sh ((eT eI) x_1), .sh (eI x_2)]) (sv_asg (EW.as (t' := .sh ((eP eI (eT eI)) (x_2, x_1))) (ew_tup (av_cons (EW.sh (ew_v rfl)) (av_cons (EW.sh (ew_v rfl)) av_nil))) rfl) (gw_n (s := .sh ((eO (eP eI (eT eI))) found_2)) rfl)) rfl))) (fun hb => sv_nil) (by first | exact Le.refl _ | (repeat (first | exact trivial | exact rfl | apply And.intro))) (by first | exact Le.refl _ | (repeat (first | exact trivial | exact rfl | apply And.intro)))) rfl) (fun η k => ⟨.inl rfl, Le.sat (by first | exact Le.refl _ | (repeat (first | exact trivial | exact rfl | apply And.intro))) k⟩)))) rfl) (fun η k => ⟨.inl rfl, Le.sat (by first | exact Le.refl _ | (repeat (first | exact trivial | exact rfl | apply And.intro))) k⟩)))) rfl) (s_retV (t := T.sh ((eO (eP eI (eT eI))) m_3)) rfl (fun η k => rfl))))
def F_wronged (case : (Int × Int × (List (List Int)))) (choice : (List Int)) (word : Str) : (Option (Int × (List Int))) := (F_first_wronged case choice word)
def W_wronged (case : (Int × Int × (List (List Int)))) (choice : (List Int)) (word : Str) : Prop := (W_check_choice case choice) ∧ (W_check_word word) ∧ (W_first_wronged case choice word)
theorem W_wronged_eq {case : (Int × Int × (List (List Int)))} {choice : (List Int)} {word : Str} : W_wronged case choice word = ((W_check_choice case choice) ∧ (W_check_word word) ∧ (W_first_wronged case choice word)) := rfl
theorem V_wronged {case : (Int × Int × (List (List Int)))} {choice : (List Int)} {word : Str} (H : W_wronged case choice word) : G_wronged [(eP3 eI eI (eT (eT eI))) case, (eT eI) choice, eS word] = some (T.sh ((eO (eP eI (eT eI))) (F_wronged case choice word))) := by
  refine gp_ok rfl ?_
  show S B_wronged [.sh ((eP3 eI eI (eT (eT eI))) case), .sh ((eT eI) choice), .sh (eS word)] _
  unfold B_wronged
  exact (s_seq (SV.cx (Γ2 := [.sh ((eP3 eI eI (eT (eT eI))) case), .sh ((eT eI) choice), .sh (eS word)]) (sv_expr (ew_def (av_cons (EW.sh (ew_v rfl)) (av_cons (EW.sh (ew_v rfl)) av_nil)) (V_check_choice  (H.1)))) rfl) (s_seq (SV.cx (Γ2 := [.sh ((eP3 eI eI (eT (eT eI))) case), .sh ((eT eI) choice), .sh (eS word)]) (sv_expr (ew_def (av_cons (EW.sh (ew_v rfl)) av_nil) (V_check_word  (H.2.1)))) rfl) (s_ret (ew_def (av_cons (EW.sh (ew_v rfl)) (av_cons (EW.sh (ew_v rfl)) (av_cons (EW.sh (ew_v rfl)) av_nil))) (V_first_wronged  (H.2.2))) (fun η k => rfl))))
def F__law_is_right_s1 (case : (Int × Int × (List (List Int)))) (s_1 : ((Option ((Int × Int) × (List Int))))) (x_1 : (List Int)) : (Lp ((Option ((Int × Int) × (List Int)))) Bool) := let told_1 : (Int × Int) := (F_sum_of case x_1); (if (!decide ((PyData.shown ((eP eI eI) told_1)) = (PyData.shown ((eP eI eI) (F__law_sum case x_1))))) = true then ((.ret false)) else (let best_2 : (Option ((Int × Int) × (List Int))) := (if ((Option.isNone s_1) || (F__law_is_less (((gO s_1)).1) told_1)) = true then (some (told_1, x_1)) else s_1); (if (!decide ((PyData.shown ((eO (eP eI eI)) (F_no_exchange case x_1))) = (PyData.shown ((eO (eP eI eI)) (F__law_exchange case x_1))))) = true then ((.ret false)) else ((if ((Option.isNone (F_no_exchange case x_1)) && (!Option.isNone (F_wronged case x_1 ("each" : Str)))) = true then ((.ret false)) else ((.nx best_2)))))))
def W__law_is_right_s1 (case : (Int × Int × (List (List Int)))) (s_1 : ((Option ((Int × Int) × (List Int))))) (x_1 : (List Int)) : Prop := let told_1 : (Int × Int) := (F_sum_of case x_1); (W_sum_of case x_1) ∧ (reprOk ((eP eI eI) told_1) = true) ∧ (W__law_sum case x_1) ∧ (reprOk ((eP eI eI) (F__law_sum case x_1)) = true) ∧ ((!decide ((PyData.shown ((eP eI eI) told_1)) = (PyData.shown ((eP eI eI) (F__law_sum case x_1))))) = false → let best_2 : (Option ((Int × Int) × (List Int))) := (if ((Option.isNone s_1) || (F__law_is_less (((gO s_1)).1) told_1)) = true then (some (told_1, x_1)) else s_1); ((Option.isNone s_1) = false → (Option.isSome s_1 = true) ∧ (W__law_is_less (((gO s_1)).1) told_1)) ∧ (W_no_exchange case x_1) ∧ (reprOk ((eO (eP eI eI)) (F_no_exchange case x_1)) = true) ∧ (W__law_exchange case x_1) ∧ (reprOk ((eO (eP eI eI)) (F__law_exchange case x_1)) = true) ∧ ((!decide ((PyData.shown ((eO (eP eI eI)) (F_no_exchange case x_1))) = (PyData.shown ((eO (eP eI eI)) (F__law_exchange case x_1))))) = false → (W_no_exchange case x_1) ∧ ((Option.isNone (F_no_exchange case x_1)) = true → (W_wronged case x_1 ("each" : Str)))))
def F__law_is_right (case : (Int × Int × (List (List Int)))) : Bool := let best_1 : (Option ((Int × Int) × (List Int))) := (none : (Option ((Int × Int) × (List Int)))); let e_1 : (Except Bool ((Option ((Int × Int) × (List Int))))) := (foldL (F__law_is_right_s1 case) best_1 (F__law_choices case)); (exC e_1 (fun z_1 : ((Option ((Int × Int) × (List Int)))) => (if ((!decide ((PyData.shown ((eO (eP (eP eI eI) (eT eI))) (F_best_sum case))) = (PyData.shown ((eO (eP (eP eI eI) (eT eI))) z_1)))) || (!Option.isNone (F_no_exchange case (((gO z_1)).2)))) = true then (false) else (let tops_1 : (List (List Int)) := (List.map (fun x_2 => x_2) (List.filter (fun x_2 => (decide ((F_sum_of case x_2) = ((gO z_1)).1))) (F__law_choices case))); (List.all (List.map (fun x_3 => (Option.isNone (F__law_wronged case x_3 ("each" : Str)))) tops_1) id)))) (fun r_1 : Bool => r_1))
def W__law_is_right (case : (Int × Int × (List (List Int)))) : Prop := let best_1 : (Option ((Int × Int) × (List Int))) := (none : (Option ((Int × Int) × (List Int)))); let e_1 : (Except Bool ((Option ((Int × Int) × (List Int))))) := (foldL (F__law_is_right_s1 case) best_1 (F__law_choices case)); (W__law_choices case) ∧ (WFoldL (F__law_is_right_s1 case) (W__law_is_right_s1 case) best_1 (F__law_choices case)) ∧ (∀ z_1, e_1 = .ok z_1 → (W_best_sum case) ∧ (reprOk ((eO (eP (eP eI eI) (eT eI))) (F_best_sum case)) = true) ∧ (reprOk ((eO (eP (eP eI eI) (eT eI))) z_1) = true) ∧ ((!decide ((PyData.shown ((eO (eP (eP eI eI) (eT eI))) (F_best_sum case))) = (PyData.shown ((eO (eP (eP eI eI) (eT eI))) z_1)))) = false → (Option.isSome z_1 = true) ∧ (W_no_exchange case (((gO z_1)).2))) ∧ (((!decide ((PyData.shown ((eO (eP (eP eI eI) (eT eI))) (F_best_sum case))) = (PyData.shown ((eO (eP (eP eI eI) (eT eI))) z_1)))) || (!Option.isNone (F_no_exchange case (((gO z_1)).2)))) = false → let tops_1 : (List (List Int)) := (List.map (fun x_2 => x_2) (List.filter (fun x_2 => (decide ((F_sum_of case x_2) = ((gO z_1)).1))) (F__law_choices case))); (W__law_choices case) ∧ (List.length (F__law_choices case) < 16777216) ∧ (∀ x_2 ∈ (F__law_choices case), (W_sum_of case x_2) ∧ (Option.isSome z_1 = true)) ∧ (List.length tops_1 < 16777216) ∧ (∀ x_3 ∈ tops_1, (W__law_wronged case x_3 ("each" : Str)))))
theorem W__law_is_right_eq {case : (Int × Int × (List (List Int)))} : W__law_is_right case = (let best_1 : (Option ((Int × Int) × (List Int))) := (none : (Option ((Int × Int) × (List Int)))); let e_1 : (Except Bool ((Option ((Int × Int) × (List Int))))) := (foldL (F__law_is_right_s1 case) best_1 (F__law_choices case)); (W__law_choices case) ∧ (WFoldL (F__law_is_right_s1 case) (W__law_is_right_s1 case) best_1 (F__law_choices case)) ∧ (∀ z_1, e_1 = .ok z_1 → (W_best_sum case) ∧ (reprOk ((eO (eP (eP eI eI) (eT eI))) (F_best_sum case)) = true) ∧ (reprOk ((eO (eP (eP eI eI) (eT eI))) z_1) = true) ∧ ((!decide ((PyData.shown ((eO (eP (eP eI eI) (eT eI))) (F_best_sum case))) = (PyData.shown ((eO (eP (eP eI eI) (eT eI))) z_1)))) = false → (Option.isSome z_1 = true) ∧ (W_no_exchange case (((gO z_1)).2))) ∧ (((!decide ((PyData.shown ((eO (eP (eP eI eI) (eT eI))) (F_best_sum case))) = (PyData.shown ((eO (eP (eP eI eI) (eT eI))) z_1)))) || (!Option.isNone (F_no_exchange case (((gO z_1)).2)))) = false → let tops_1 : (List (List Int)) := (List.map (fun x_2 => x_2) (List.filter (fun x_2 => (decide ((F_sum_of case x_2) = ((gO z_1)).1))) (F__law_choices case))); (W__law_choices case) ∧ (List.length (F__law_choices case) < 16777216) ∧ (∀ x_2 ∈ (F__law_choices case), (W_sum_of case x_2) ∧ (Option.isSome z_1 = true)) ∧ (List.length tops_1 < 16777216) ∧ (∀ x_3 ∈ tops_1, (W__law_wronged case x_3 ("each" : Str)))))) := rfl
theorem V__law_is_right {case : (Int × Int × (List (List Int)))} (H : W__law_is_right case) : G__law_is_right [(eP3 eI eI (eT (eT eI))) case] = some (T.sh (eB (F__law_is_right case))) := by
  refine gp_ok rfl ?_
  show S B__law_is_right [.sh ((eP3 eI eI (eT (eT eI))) case), .fr, .fr, .fr, .fr] _
  unfold B__law_is_right
  let best_1 : (Option ((Int × Int) × (List Int))) := (none : (Option ((Int × Int) × (List Int))))
  let e_1 : (Except Bool ((Option ((Int × Int) × (List Int))))) := (foldL (F__law_is_right_s1 case) best_1 (F__law_choices case))
  exact (s_seq (SV.cx (Γ2 := [.sh ((eP3 eI eI (eT (eT eI))) case), .sh ((eO (eP (eP eI eI) (eT eI))) best_1), .fr, .fr, .fr]) (sv_asg ew_c (gw_n (s := .sh ((eO (eP (eP eI eI) (eT eI))) best_1)) rfl)) rfl) (s_seqX (M := (fun (v : Bool) fl _ => fl = .ret (T.sh (eB v)))) (fun z_1 : ((Option ((Int × Int) × (List Int)))) => (if ((!decide ((PyData.shown ((eO (eP (eP eI eI) (eT eI))) (F_best_sum case))) = (PyData.shown ((eO (eP (eP eI eI) (eT eI))) z_1)))) || (!Option.isNone (F_no_exchange case (((gO z_1)).2)))) = true then (false) else (let tops_1 : (List (List Int)) := (List.map (fun x_2 => x_2) (List.filter (fun x_2 => (decide ((F_sum_of case x_2) = ((gO z_1)).1))) (F__law_choices case))); (List.all (List.map (fun x_3 => (Option.isNone (F__law_wronged case x_3 ("each" : Str)))) tops_1) id)))) (fun r_1 : Bool => r_1) (s_for (l := (F__law_choices case)) (e := (eT eI)) (G := (fun s_1 : ((Option ((Int × Int) × (List Int)))) => [.sh ((eP3 eI eI (eT (eT eI))) case), .sh ((eO (eP (eP eI eI) (eT eI))) s_1), .fr, .fr, .fr])) (s0 := best_1) (step := (F__law_is_right_s1 case)) (W := (W__law_is_right_s1 case)) (R := (fun (v : Bool) _ t => t = T.sh (eB v))) (iv_e (EW.od (ew_def (av_cons (EW.sh (ew_v rfl)) av_nil) (V__law_choices  (H.1)))) rfl) (by first | exact Le.refl _ | (repeat (first | exact trivial | exact rfl | apply And.intro))) (H.2.1) (fun s_1 x_1 H11 => let told_1 : (Int × Int) := (F_sum_of case x_1); turn (gw_n (s := .sh _) rfl) (s_seq (SV.cx (Γ2 := [.sh ((eP3 eI eI (eT (eT eI))) case), .sh ((eO (eP (eP eI eI) (eT eI))) s_1), .sh ((eT eI) x_1), .sh ((eP eI eI) told_1), .fr]) (sv_asg (ew_def (av_cons (EW.sh (ew_v rfl)) (av_cons (EW.sh (ew_v rfl)) av_nil)) (V_sum_of  (H11.1))) (gw_n (s := .sh ((eP eI eI) told_1)) rfl)) rfl) (s_ifseq (LpP (fun s_1 : ((Option ((Int × Int) × (List Int)))) => [.sh ((eP3 eI eI (eT (eT eI))) case), .sh ((eO (eP (eP eI eI) (eT eI))) s_1), .fr, .fr, .fr]) (fun (v : Bool) _ t => t = T.sh (eB v))) (bv_t (ew_bin (EW.sh (ew_callV rfl (o_repr (H11.2.1)))) (EW.sh (ew_call (av_cons (EW.sh (ew_def (av_cons (EW.sh (ew_v rfl)) (av_cons (EW.sh (ew_v rfl)) av_nil)) (V__law_sum  (H11.2.2.1)))) av_nil) (o_repr (H11.2.2.2.1)))) opNeS_str)) (fun hb => (s_stop (s_ret ew_c (fun η k => ⟨(by rintro ⟨⟩), ⟨_, rfl, rfl⟩⟩)))) (fun hb => (have H10 := (H11.2.2.2.2) hb; let best_2 : (Option ((Int × Int) × (List Int))) := (if ((Option.isNone s_1) || (F__law_is_less (((gO s_1)).1) told_1)) = true then (some (told_1, x_1)) else s_1); (s_nilseq (s_seq (SV.cx (Γ2 := [.sh ((eP3 eI eI (eT (eT eI))) case), .sh ((eO (eP (eP eI eI) (eT eI))) best_2), .sh ((eT eI) x_1), .sh ((eP eI eI) told_1), .fr]) (sv_asg (ew_if (v1 := (some (told_1, x_1))) (v2 := s_1) (fun v => T.sh ((eO (eP (eP eI eI) (eT eI))) v)) (bv_or (bv_t (ew_binL (EW.sh ew_c) rfl rfl (o_isO (e := (eP (eP eI eI) (eT eI))) (fun _ => rfl)))) (fun hb => (have H1 := (H10.1) hb; (bv_tru (EW.sh (ew_def (av_cons (EW.sh (ew_binL (EW.sh ew_c) rfl rfl (o_ofO (e := (eP (eP eI eI) (eT eI))) (H1.1) rfl))) (av_cons (EW.sh (ew_v rfl)) av_nil)) (V__law_is_less  (H1.2)))) rfl))) (by first | exact Le.refl _ | (repeat (first | exact trivial | exact rfl | apply And.intro)))) (fun hb => (EW.as (t' := .sh ((eP (eP eI eI) (eT eI)) (told_1, x_1))) (ew_tup (av_cons (EW.sh (ew_v rfl)) (av_cons (EW.sh (ew_v rfl)) av_nil))) rfl)) (fun hb => (ew_v rfl)) (by first | exact Le.refl _ | (repeat (first | exact trivial | exact rfl | apply And.intro))) (by first | exact Le.refl _ | (repeat (first | exact trivial | exact rfl | apply And.intro)))) (gw_n (s := .sh ((eO (eP (eP eI eI) (eT eI))) best_2)) rfl)) rfl) (s_ifseq (LpP (fun s_1 : ((Option ((Int × Int) × (List Int)))) => [.sh ((eP3 eI eI (eT (eT eI))) case), .sh ((eO (eP (eP eI eI) (eT eI))) s_1), .fr, .fr, .fr]) (fun (v : Bool) _ t => t = T.sh (eB v))) (bv_t (ew_bin (EW.sh (ew_call (av_cons (EW.sh (ew_def (av_cons (EW.sh (ew_v rfl)) (av_cons (EW.sh (ew_v rfl)) av_nil)) (V_no_exchange  (H10.2.1)))) av_nil) (o_repr (H10.2.2.1)))) (EW.sh (ew_call (av_cons (EW.sh (ew_def (av_cons (EW.sh (ew_v rfl)) (av_cons (EW.sh (ew_v rfl)) av_nil)) (V__law_exchange  (H10.2.2.2.1)))) av_nil) (o_repr (H10.2.2.2.2.1)))) opNeS_str)) (fun hb => (s_stop (s_ret ew_c (fun η k => ⟨(by rintro ⟨⟩), ⟨_, rfl, rfl⟩⟩)))) (fun hb => (have H8 := (H10.2.2.2.2.2) hb; (s_nilseq (s_if (LpP (fun s_1 : ((Option ((Int × Int) × (List Int)))) => [.sh ((eP3 eI eI (eT (eT eI))) case), .sh ((eO (eP (eP eI eI) (eT eI))) s_1), .fr, .fr, .fr]) (fun (v : Bool) _ t => t = T.sh (eB v))) (bv_and (bv_t (ew_bin (EW.sh (ew_def (av_cons (EW.sh (ew_v rfl)) (av_cons (EW.sh (ew_v rfl)) av_nil)) (V_no_exchange  (H8.1)))) (EW.sh ew_c) (o_isO (e := (eP eI eI)) (fun _ => rfl)))) (fun hb => (have H4 := (H8.2) hb; (bv_t (ew_bin (EW.sh (ew_def (av_cons (EW.sh (ew_v rfl)) (av_cons (EW.sh (ew_v rfl)) (av_cons (EW.sh ew_c) av_nil))) (V_wronged  H4))) (EW.sh ew_c) (o_isnotO (e := (eP eI (eT eI))) (fun _ => rfl)))))) (by first | exact Le.refl _ | (repeat (first | exact trivial | exact rfl | apply And.intro)))) (fun hb => (s_ret ew_c (fun η k => ⟨_, rfl, rfl⟩))) (fun hb => (s_of sv_nil (fun η k => ⟨.inl rfl, Le.sat (by first | exact Le.refl _ | (repeat (first | exact trivial | exact rfl | apply And.intro))) k⟩)))))))))))))))) (fun r η t h => by rw [h]) (fun z_1 hs => have H18 := (H.2.2) z_1 hs; (s_ifseq (fun (v : Bool) fl _ => fl = .ret (T.sh (eB v))) (bv_or (bv_t (ew_bin (EW.sh (ew_call (av_cons (EW.sh (ew_def (av_cons (EW.sh (ew_v rfl)) av_nil) (V_best_sum  (H18.1)))) av_nil) (o_repr (H18.2.1)))) (EW.sh (ew_callV rfl (o_repr (H18.2.2.1)))) opNeS_str)) (fun hb => (have H12 := (H18.2.2.2.1) hb; (bv_t (ew_bin (EW.sh (ew_def (av_cons (EW.sh (ew_v rfl)) (av_cons (EW.sh (ew_binL (EW.sh ew_c) rfl rfl (o_ofO (e := (eP (eP eI eI) (eT eI))) (H12.1) rfl))) av_nil)) (V_no_exchange  (H12.2)))) (EW.sh ew_c) (o_isnotO (e := (eP eI eI)) (fun _ => rfl)))))) (by first | exact Le.refl _ | (repeat (first | exact trivial | exact rfl | apply And.intro)))) (fun hb => (s_stop (s_ret ew_c (fun η k => ⟨(by rintro ⟨⟩), rfl⟩)))) (fun hb => (have H17 := (H18.2.2.2.2) hb; let tops_1 : (List (List Int)) := (List.map (fun x_2 => x_2) (List.filter (fun x_2 => (decide ((F_sum_of case x_2) = ((gO z_1)).1))) (F__law_choices case))); (s_nilseq (s_seq (SV.cx (Γ2 := [.sh ((eP3 eI eI (eT (eT eI))) case), .sh ((eO (eP (eP eI eI) (eT eI))) z_1), .fr, .fr, .od (List.map (eT eI) tops_1)]) (sv_asg (EW.mapE (e := (eT eI)) (ew_comp (l := (F__law_choices case)) (e := (eT eI)) (c := fun x_2 => (decide ((F_sum_of case x_2) = ((gO z_1)).1))) (r := fun x_2 => T.sh ((eT eI) x_2)) (iv_e (EW.od (ew_def (av_cons (EW.sh (ew_v rfl)) av_nil) (V__law_choices  (H17.1)))) rfl) (H17.2.1) (free_own (by rfl)) (fun x_2 hx => have H13 := (H17.2.2.1) x_2 hx; item (gw_n (s := .sh _) rfl) (bv_t (ew_bin (EW.sh (ew_def (av_cons (EW.sh (ew_v rfl)) (av_cons (EW.sh (ew_v rfl)) av_nil)) (V_sum_of  (H13.1)))) (EW.sh (ew_binL (EW.sh ew_c) rfl rfl (o_ofO (e := (eP (eP eI eI) (eT eI))) (H13.2) rfl))) (o_eq (e := (eP eI eI)) (cm_p cm_i cm_i)))) (fun _ => (by first | exact Le.refl _ | (repeat (first | exact trivial | exact rfl | apply And.intro)))) (fun hb => (ew_v rfl)) (by first | exact Le.refl _ | (repeat (first | exact trivial | exact rfl | apply And.intro)))))) (gw_n (s := .od (List.map (eT eI) tops_1)) rfl)) rfl) (s_ret (ew_call (av_cons (EW.od (EW.mapE (e := eB) (ew_compVM (l := tops_1) (e := (eT eI)) (r := fun x_3 => T.sh (eB (Option.isNone (F__law_wronged case x_3 ("each" : Str))))) rfl rfl rfl (H17.2.2.2.1) (free_own (by rfl)) (fun x_3 hx => have H15 := (H17.2.2.2.2) x_3 hx; item1 (gw_n (s := .sh _) rfl) (ew_bin (EW.sh (ew_def (av_cons (EW.sh (ew_v rfl)) (av_cons (EW.sh (ew_v rfl)) (av_cons (EW.sh ew_c) av_nil))) (V__law_wronged  H15))) (EW.sh ew_c) (o_isO (e := (eP eI (eT eI))) (fun _ => rfl))) (by first | exact Le.refl _ | (repeat (first | exact trivial | exact rfl | apply And.intro))))))) av_nil) o_all) (fun η k => rfl))))))))))
def F_law (script : (List Int)) : Bool := let hand_1 : T := (F__law_hand script); let m_1 : (List Bool × T) := mapS (fun (s_1 : T) (x_1 : Int) => (let r_1 : ((Int × Int × (List (List Int))) × T) := F__law_case s_1 ; ((F__law_is_right r_1.1), r_1.2) : Bool × T)) hand_1 (rgI 0 (3 : Int)); (if (!(List.all m_1.1 id)) = true then (false) else (let case_1 : (Int × Int × (List (List Int))) := ((2 : Int), (1 : Int), [[(0 : Int)], [(0 : Int), (1 : Int)], [(1 : Int)], [(1 : Int)]]); ((decide ((F_best_sum case_1) = some (((3 : Int), (1 : Int)), [(1 : Int)]))) && (decide ((F_sum_of ((2 : Int), (2 : Int), [[(0 : Int), (1 : Int)]]) [(0 : Int), (1 : Int)]) = ((3 : Int), (2 : Int)))))))
def W_law (script : (List Int)) : Prop := let hand_1 : T := (F__law_hand script); let m_1 : (List Bool × T) := mapS (fun (s_1 : T) (x_1 : Int) => (let r_1 : ((Int × Int × (List (List Int))) × T) := F__law_case s_1 ; ((F__law_is_right r_1.1), r_1.2) : Bool × T)) hand_1 (rgI 0 (3 : Int)); (W__law_hand script) ∧ (WMapS (fun (s_1 : T) (x_1 : Int) => (let r_1 : ((Int × Int × (List (List Int))) × T) := F__law_case s_1 ; ((F__law_is_right r_1.1), r_1.2) : Bool × T)) (fun (s_1 : T) (x_1 : Int) => let r_1 : ((Int × Int × (List (List Int))) × T) := F__law_case s_1 ; (W__law_case s_1 ) ∧ (W__law_is_right r_1.1)) hand_1 (rgI 0 (3 : Int))) ∧ ((!(List.all m_1.1 id)) = false → let case_1 : (Int × Int × (List (List Int))) := ((2 : Int), (1 : Int), [[(0 : Int)], [(0 : Int), (1 : Int)], [(1 : Int)], [(1 : Int)]]); (W_best_sum case_1) ∧ ((decide ((F_best_sum case_1) = some (((3 : Int), (1 : Int)), [(1 : Int)]))) = true → (W_sum_of ((2 : Int), (2 : Int), [[(0 : Int), (1 : Int)]]) [(0 : Int), (1 : Int)])))
theorem W_law_eq {script : (List Int)} : W_law script = (let hand_1 : T := (F__law_hand script); let m_1 : (List Bool × T) := mapS (fun (s_1 : T) (x_1 : Int) => (let r_1 : ((Int × Int × (List (List Int))) × T) := F__law_case s_1 ; ((F__law_is_right r_1.1), r_1.2) : Bool × T)) hand_1 (rgI 0 (3 : Int)); (W__law_hand script) ∧ (WMapS (fun (s_1 : T) (x_1 : Int) => (let r_1 : ((Int × Int × (List (List Int))) × T) := F__law_case s_1 ; ((F__law_is_right r_1.1), r_1.2) : Bool × T)) (fun (s_1 : T) (x_1 : Int) => let r_1 : ((Int × Int × (List (List Int))) × T) := F__law_case s_1 ; (W__law_case s_1 ) ∧ (W__law_is_right r_1.1)) hand_1 (rgI 0 (3 : Int))) ∧ ((!(List.all m_1.1 id)) = false → let case_1 : (Int × Int × (List (List Int))) := ((2 : Int), (1 : Int), [[(0 : Int)], [(0 : Int), (1 : Int)], [(1 : Int)], [(1 : Int)]]); (W_best_sum case_1) ∧ ((decide ((F_best_sum case_1) = some (((3 : Int), (1 : Int)), [(1 : Int)]))) = true → (W_sum_of ((2 : Int), (2 : Int), [[(0 : Int), (1 : Int)]]) [(0 : Int), (1 : Int)])))) := rfl
theorem V_law {script : (List Int)} (H : W_law script) : G_law [(eL eI) script] = some (T.sh (eB (F_law script))) := by
  refine gp_ok rfl ?_
  show S B_law [.sh ((eL eI) script), .fr, .fr, .fr] _
  unfold B_law
  let hand_1 : T := (F__law_hand script)
  let m_1 : (List Bool × T) := mapS (fun (s_1 : T) (x_1 : Int) => (let r_1 : ((Int × Int × (List (List Int))) × T) := F__law_case s_1 ; ((F__law_is_right r_1.1), r_1.2) : Bool × T)) hand_1 (rgI 0 (3 : Int))
  exact (s_seq (SV.cx (Γ2 := [.sh ((eL eI) script), .ow hand_1, .fr, .fr]) (sv_asg (ew_def (av_cons (EW.sh (ew_v rfl)) av_nil) (V__law_hand  (H.1))) (gw_n (s := .ow hand_1) rfl)) rfl) (s_ifseq (fun (v : Bool) fl _ => fl = .ret (T.sh (eB v))) (bv_not (bv_tru (EW.sh (ew_call (av_cons (EW.od (EW.mapI (e := eB) (ew_compS (e := eI) (G := (fun s_1 : T => [.sh ((eL eI) script), .ow s_1, .fr, .fr])) (step := (fun (s_1 : T) (x_1 : Int) => (let r_1 : ((Int × Int × (List (List Int))) × T) := F__law_case s_1 ; ((F__law_is_right r_1.1), r_1.2) : Bool × T))) (W := (fun (s_1 : T) (x_1 : Int) => let r_1 : ((Int × Int × (List (List Int))) × T) := F__law_case s_1 ; (W__law_case s_1 ) ∧ (W__law_is_right r_1.1))) (r := fun v => T.sh (eB v)) (IV.as (iv_r1 ew_c rfl) (rgD_map _ _)) (by decide) (by first | exact Le.refl _ | (repeat (first | exact trivial | exact rfl | apply And.intro))) (fun _ => (own_fr (by rfl))) (H.2.1) (fun s_1 x_1 H1 => let r_1 : ((Int × Int × (List (List Int))) × T) := F__law_case s_1 ; itemS (gw_n (s := .sh _) rfl) (ew_def (av_cons (EW.sh (ew_defIO av_nil rfl rfl (V__law_case  (H1.1)))) av_nil) (V__law_is_right  (H1.2))) (by first | exact Le.refl _ | (repeat (first | exact trivial | exact rfl | apply And.intro))))))) av_nil) o_all)) rfl)) (fun hb => (s_stop (s_ret ew_c (fun η k => ⟨(by rintro ⟨⟩), rfl⟩)))) (fun hb => (have H4 := (H.2.2) hb; let case_1 : (Int × Int × (List (List Int))) := ((2 : Int), (1 : Int), [[(0 : Int)], [(0 : Int), (1 : Int)], [(1 : Int)], [(1 : Int)]]); (s_nilseq (s_seq (SV.cx (Γ2 := [.sh ((eL eI) script), .ow m_1.2, .fr, .sh ((eP3 eI eI (eT (eT eI))) case_1)]) (sv_asg (EW.as (t' := .sh ((eP3 eI eI (eT (eT eI))) ((2 : Int), (1 : Int), [[(0 : Int)], [(0 : Int), (1 : Int)], [(1 : Int)], [(1 : Int)]]))) (ew_tup (av_cons (EW.sh ew_c) (av_cons (EW.sh ew_c) (av_cons (EW.sh (EW.as (t' := .sh ((eT (eT eI)) [[(0 : Int)], [(0 : Int), (1 : Int)], [(1 : Int)], [(1 : Int)]])) (ew_tup (av_cons (EW.sh (EW.as (t' := .sh ((eT eI) [(0 : Int)])) (ew_tup (av_cons (EW.sh ew_c) av_nil)) rfl)) (av_cons (EW.sh (EW.as (t' := .sh ((eT eI) [(0 : Int), (1 : Int)])) (ew_tup (av_cons (EW.sh ew_c) (av_cons (EW.sh ew_c) av_nil))) rfl)) (av_cons (EW.sh (EW.as (t' := .sh ((eT eI) [(1 : Int)])) (ew_tup (av_cons (EW.sh ew_c) av_nil)) rfl)) (av_cons (EW.sh (EW.as (t' := .sh ((eT eI) [(1 : Int)])) (ew_tup (av_cons (EW.sh ew_c) av_nil)) rfl)) av_nil))))) rfl)) av_nil)))) rfl) (gw_n (s := .sh ((eP3 eI eI (eT (eT eI))) case_1)) rfl)) rfl) (s_ret (ew_and (ew_bin (EW.sh (ew_def (av_cons (EW.sh (ew_v rfl)) av_nil) (V_best_sum  (H4.1)))) (EW.sh (EW.as (t' := .sh ((eP (eP eI eI) (eT eI)) (((3 : Int), (1 : Int)), [(1 : Int)]))) (ew_tup (av_cons (EW.sh (EW.as (t' := .sh ((eP eI eI) ((3 : Int), (1 : Int)))) (ew_tup (av_cons (EW.sh ew_c) (av_cons (EW.sh ew_c) av_nil))) rfl)) (av_cons (EW.sh (EW.as (t' := .sh ((eT eI) [(1 : Int)])) (ew_tup (av_cons (EW.sh ew_c) av_nil)) rfl)) av_nil))) rfl)) (o_eqO1 (e := (eP (eP eI eI) (eT eI))) (cm_p (cm_p cm_i cm_i) (cm_t cm_i)) (fun _ => rfl))) (fun hb => (have H2 := (H4.2) hb; (ew_bin (EW.sh (ew_def (av_cons (EW.sh (EW.as (t' := .sh ((eP3 eI eI (eT (eT eI))) ((2 : Int), (2 : Int), [[(0 : Int), (1 : Int)]]))) (ew_tup (av_cons (EW.sh ew_c) (av_cons (EW.sh ew_c) (av_cons (EW.sh (EW.as (t' := .sh ((eT (eT eI)) [[(0 : Int), (1 : Int)]])) (ew_tup (av_cons (EW.sh (EW.as (t' := .sh ((eT eI) [(0 : Int), (1 : Int)])) (ew_tup (av_cons (EW.sh ew_c) (av_cons (EW.sh ew_c) av_nil))) rfl)) av_nil)) rfl)) av_nil)))) rfl)) (av_cons (EW.sh (EW.as (t' := .sh ((eT eI) [(0 : Int), (1 : Int)])) (ew_tup (av_cons (EW.sh ew_c) (av_cons (EW.sh ew_c) av_nil))) rfl)) av_nil)) (V_sum_of  H2))) (EW.sh (EW.as (t' := .sh ((eP eI eI) ((3 : Int), (2 : Int)))) (ew_tup (av_cons (EW.sh ew_c) (av_cons (EW.sh ew_c) av_nil))) rfl)) (o_eq (e := (eP eI eI)) (cm_p cm_i cm_i))))) (by first | exact Le.refl _ | (repeat (first | exact trivial | exact rfl | apply And.intro)))) (fun η k => rfl))))))))
end K18
set_option Elab.async false
set_option linter.all false
set_option maxRecDepth 100000
set_option maxHeartbeats 4000000
namespace K18
open PySem L2 Pv Tv PyProof.Rows
/-! ### fractions -/
theorem common_ok {a b : Int} (h0 : 0 < b) (h2 : b < 1000000000000000000) : F_common a b = ((Int.gcd a b : Nat) : Int) ∧ W_common a b := by
  obtain ⟨e, w⟩ := euclid_ok (c := C_common_s1) (step := F_common_s1) (Wc := Wc_common_s1) (W := W_common_s1) (fun _ _ _ => rfl) (fun _ _ => rfl) (fun _ => trivial) (fun _ _ h => h) (a := a) (b := b) h0 h2
  refine ⟨?_, w⟩
  unfold F_common
  dsimp only
  rw [e]
  exact absI_nat _
theorem mk_made : Mk F_made W_made := ⟨fun a b h0 h2 => by
    unfold F_made
    dsimp only
    rw [(common_ok h0 h2).1]
    exact frP_mk h0, fun a b h0 h2 => by
    obtain ⟨e, w⟩ := common_ok (a := a) h0 h2
    have := gcd_le (a := a) h0
    unfold W_made
    dsimp only
    rw [e]
    exact ⟨w, ⟨this.1, by omega⟩, this.1, by omega⟩⟩
theorem mk_low : Mk F__law_low W__law_low := by
  have key : ∀ a b : Int, 0 < b → b < 1000000000000000000 → whileF C__law_low_s1 F__law_low_s1 1000 (if a < 0 then -a else a, b) = (((Int.gcd a b : Nat) : Int), 0) ∧ WWhile C__law_low_s1 F__law_low_s1 Wc__law_low_s1 W__law_low_s1 1000 (if a < 0 then -a else a, b) := fun a b h0 h2 => by
    have := euclid_ok (c := C__law_low_s1) (step := F__law_low_s1) (Wc := Wc__law_low_s1) (W := W__law_low_s1) (fun _ _ _ => rfl) (fun _ _ => rfl) (fun _ => trivial) (fun _ _ h => h) (a := if a < 0 then -a else a) (b := b) h0 h2
    rw [gcd_absI] at this
    exact this
  refine ⟨fun a b h0 h2 => ?_, fun a b h0 h2 => ?_⟩
  · unfold F__law_low
    dsimp only
    rw [(key a b h0 h2).1]
    exact frP_mk h0
  · have := gcd_le (a := a) h0
    unfold W__law_low
    dsimp only
    rw [(key a b h0 h2).1]
    exact ⟨(key a b h0 h2).2, ⟨this.1, by omega⟩, this.1, by omega⟩
section
variable {p q : Rat}
theorem plus_ok (hp : Nice p) (hq : Nice q) : F_plus (frP p) (frP q) = frP (p + q) ∧ W_plus (frP p) (frP q) :=
  ⟨(mk_made.plus hp hq).1, mulFits_nice hp _, mulFits_nice hq _, mulFits_den hp _, (mk_made.plus hp hq).2⟩
theorem lplus_ok (hp : Nice p) (hq : Nice q) : F__law_plus (frP p) (frP q) = frP (p + q) ∧ W__law_plus (frP p) (frP q) :=
  ⟨(mk_low.plus hp hq).1, mulFits_nice hp _, mulFits_nice hq _, mulFits_den hp _, (mk_low.plus hp hq).2⟩
theorem lminus_ok (hp : Nice p) (hq : Nice q) : F__law_minus (frP p) (frP q) = frP (p - q) ∧ W__law_minus (frP p) (frP q) :=
  ⟨(mk_low.less hp hq).1, mulFits_nice hp _, mulFits_nice hq _, mulFits_den hp _, (mk_low.less hp hq).2⟩
theorem below_ok (hp : Nice p) (hq : Nice q) : F_is_below (frP p) (frP q) = decide (p < q) ∧ W_is_below (frP p) (frP q) := ⟨below_fr, mulFits_nice hp _, mulFits_nice hq _⟩
theorem lless_ok (hp : Nice p) (hq : Nice q) : F__law_is_less (frP p) (frP q) = decide (p < q) ∧ W__law_is_less (frP p) (frP q) := ⟨below_fr, mulFits_nice hp _, mulFits_nice hq _⟩
end
/-! ### twelfths -/
abbrev s12 (n : Int) : Rat := sq 12 n
theorem nice12 {n : Int} (h : -1000000 < n ∧ n < 1000000) : Nice (s12 n) := nice_mk (by decide) (by decide) (by omega)
theorem fr_zero : ((0 : Int), (1 : Int)) = frP (s12 0) := by decide +kernel
theorem fr_one : ∀ k ∈ [1, 2, 3], ((1 : Int), (k : Int)) = frP (s12 (12 / k)) := by decide +kernel
/-- the sum of the first parts, in twelfths -/
def U (n : Int) : Int := if n ≤ 0 then 0 else if n = 1 then 12 else if n = 2 then 18 else if n = 3 then 22 else 25
theorem plus12 {a b : Int} (ha : 0 ≤ a ∧ a < 100000) (hb : 0 ≤ b ∧ b < 100000) : F_plus (frP (s12 a)) (frP (s12 b)) = frP (s12 (a + b)) ∧ W_plus (frP (s12 a)) (frP (s12 b)) := by
  have := plus_ok (nice12 (n := a) (by omega)) (nice12 (n := b) (by omega))
  rw [sq_add (by decide)] at this
  exact this
theorem lplus12 {a b : Int} (ha : 0 ≤ a ∧ a < 100000) (hb : 0 ≤ b ∧ b < 100000) : F__law_plus (frP (s12 a)) (frP (s12 b)) = frP (s12 (a + b)) ∧ W__law_plus (frP (s12 a)) (frP (s12 b)) := by
  have := lplus_ok (nice12 (n := a) (by omega)) (nice12 (n := b) (by omega))
  rw [sq_add (by decide)] at this
  exact this
/-- the parts of one row -/
def parts (h : Int) : List (Int × Int) := (rgI 1 (h + 1)).map fun x => ((1 : Int), x)
theorem part_ok {x : Int} (h : 1 ≤ x ∧ x ≤ 3) : ((1 : Int), x) = frP (s12 (12 / x)) ∧ 0 ≤ 12 / x ∧ 12 / x ≤ 12 := by
  have : x = 1 ∨ x = 2 ∨ x = 3 := by omega
  rcases this with rfl | rfl | rfl <;> decide +kernel
/-- sums of lists of parts, from a start -/
def sumP : List (Int × Int) → Int
  | [] => 0
  | p :: l => 12 / p.2 + sumP l
theorem sumP_cons {p : Int × Int} {l : List (Int × Int)} : sumP (p :: l) = 12 / p.2 + sumP l := rfl
theorem sumP_app {l m : List (Int × Int)} : sumP (l ++ m) = sumP l + sumP m := by
  induction l with
  | nil => simp [sumP]
  | cons a l ih => rw [List.cons_append, sumP_cons, sumP_cons, ih]; omega
def OkP (l : List (Int × Int)) : Prop := ∀ p ∈ l, p.1 = 1 ∧ 1 ≤ p.2 ∧ p.2 ≤ 3
theorem sumP_nn : ∀ {l : List (Int × Int)}, OkP l → 0 ≤ sumP l ∧ sumP l ≤ 12 * l.length
  | [], _ => ⟨Int.le_refl _, by simp [sumP]⟩
  | p :: l, h => by
    obtain ⟨h1, h2⟩ := h p List.mem_cons_self
    have := (part_ok h2).2
    have := sumP_nn (l := l) fun q hq => h q (List.mem_cons_of_mem _ hq)
    rw [sumP_cons, List.length_cons]
    omega
theorem fold_tot : ∀ {l : List (Int × Int)} {a : Int}, OkP l → 0 ≤ a → a + 12 * l.length < 100000 → l.foldl F_total_of_s1 (frP (s12 a)) = frP (s12 (a + sumP l)) ∧ WFold F_total_of_s1 W_total_of_s1 (frP (s12 a)) l
  | [], a, _, _, _ => ⟨by simp [sumP], trivial⟩
  | p :: l, a, h, h0, h2 => by
    obtain ⟨h1, h3⟩ := h p List.mem_cons_self
    rw [List.length_cons] at h2
    obtain ⟨e, b1, b2⟩ := part_ok h3
    have ep : p = frP (s12 (12 / p.2)) := by rw [← e, ← h1]
    obtain ⟨f, w⟩ := plus12 (a := a) (b := 12 / p.2) (by omega) (by omega)
    have st : F_total_of_s1 (frP (s12 a)) p = frP (s12 (a + 12 / p.2)) := by
      unfold F_total_of_s1
      dsimp only
      conv => lhs; rw [ep]
      exact f
    obtain ⟨i1, i2⟩ := fold_tot (l := l) (a := a + 12 / p.2) (fun q hq => h q (List.mem_cons_of_mem _ hq)) (by omega) (by omega)
    rw [List.foldl_cons, st, i1]
    refine ⟨by rw [sumP_cons, Int.add_assoc], ?_⟩
    refine ⟨?_, by rw [st]; exact i2⟩
    unfold W_total_of_s1
    dsimp only
    rw [ep]
    exact w
theorem lfold_tot : ∀ {l : List (Int × Int)} {a : Int}, OkP l → 0 ≤ a → a + 12 * l.length < 100000 → l.foldl F__law_total_s1 (frP (s12 a)) = frP (s12 (a + sumP l)) ∧ WFold F__law_total_s1 W__law_total_s1 (frP (s12 a)) l
  | [], a, _, _, _ => ⟨by simp [sumP], trivial⟩
  | p :: l, a, h, h0, h2 => by
    obtain ⟨h1, h3⟩ := h p List.mem_cons_self
    rw [List.length_cons] at h2
    obtain ⟨e, b1, b2⟩ := part_ok h3
    have ep : p = frP (s12 (12 / p.2)) := by rw [← e, ← h1]
    obtain ⟨f, w⟩ := lplus12 (a := a) (b := 12 / p.2) (by omega) (by omega)
    have st : F__law_total_s1 (frP (s12 a)) p = frP (s12 (a + 12 / p.2)) := by
      unfold F__law_total_s1
      dsimp only
      conv => lhs; rw [ep]
      exact f
    obtain ⟨i1, i2⟩ := lfold_tot (l := l) (a := a + 12 / p.2) (fun q hq => h q (List.mem_cons_of_mem _ hq)) (by omega) (by omega)
    rw [List.foldl_cons, st, i1]
    refine ⟨by rw [sumP_cons, Int.add_assoc], ?_⟩
    refine ⟨?_, by rw [st]; exact i2⟩
    unfold W__law_total_s1
    dsimp only
    rw [ep]
    exact w
end K18
set_option Elab.async false
set_option linter.all false
set_option maxRecDepth 100000
set_option maxHeartbeats 4000000
namespace K18
open PySem L2 Pv Tv PyProof.Rows
/-! ### loops that look for something -/
def toL {ρ : Type} : Option ρ → Lp Unit ρ
  | some r => .ret r
  | none => .nx ()
def toE {ρ : Type} : Option ρ → Except ρ Unit
  | some r => .error r
  | none => .ok ()
theorem foldL_opt {α ρ : Type} {step : Unit → α → Lp Unit ρ} (o : α → Option ρ) : ∀ {l : List α}, (∀ x ∈ l, step () x = toL (o x)) → foldL step () l = toE (l.findSome? o)
  | [], _ => rfl
  | x :: l, h => by
    unfold foldL
    rw [h x List.mem_cons_self, List.findSome?_cons]
    cases o x with
    | some r => rfl
    | none => exact foldL_opt o fun y hy => h y (List.mem_cons_of_mem _ hy)
theorem exC_toL {ρ : Type} {o : Option ρ} : exC (toE o) (fun _ => (.nx () : Lp Unit ρ)) (fun r => .ret r) = toL o := by cases o <;> rfl
theorem exC_toO {ρ : Type} {o : Option ρ} : exC (toE (o.map fun y => some y)) (fun _ => (none : Option ρ)) (fun r => r) = o := by cases o <;> rfl
theorem findSome_map {α β γ : Type} {o : α → Option β} {f : β → γ} : ∀ {l : List α}, (l.findSome? fun x => (o x).map f) = (l.findSome? o).map f
  | [] => rfl
  | x :: l => by
    rw [List.findSome?_cons, List.findSome?_cons]
    cases o x with
    | some r => rfl
    | none => exact findSome_map
theorem findSome_filter {α β : Type} {p : α → Bool} {f : α → Option β} : ∀ {l : List α}, (l.filter p).findSome? f = l.findSome? fun x => if p x = true then f x else none
  | [] => rfl
  | x :: l => by
    rw [List.findSome?_cons]
    cases h : p x with
    | true =>
      rw [List.filter_cons_of_pos h, List.findSome?_cons, findSome_filter]
      rfl
    | false =>
      rw [List.filter_cons_of_neg (by rw [h]; simp), findSome_filter]
      rfl
theorem findSome_congr {α β : Type} {f g : α → Option β} : ∀ {l : List α}, (∀ x ∈ l, f x = g x) → l.findSome? f = l.findSome? g
  | [], _ => rfl
  | x :: l, h => by
    rw [List.findSome?_cons, List.findSome?_cons, h x List.mem_cons_self, findSome_congr fun y hy => h y (List.mem_cons_of_mem _ hy)]
/-! ### sums -/
def isum {α : Type} (l : List α) (f : α → Int) : Int := (l.map f).sum
section
variable {α β : Type} {l : List α} {f g : α → Int}
@[simp] theorem isum_nil : isum ([] : List α) f = 0 := rfl
@[simp] theorem isum_cons {a : α} : isum (a :: l) f = f a + isum l f := by unfold isum; rw [List.map_cons, List.sum_cons]
theorem isum_add : isum l (fun x => f x + g x) = isum l f + isum l g := by
  induction l with
  | nil => rfl
  | cons a l ih => rw [isum_cons, isum_cons, isum_cons, ih]; omega
theorem isum_mul {c : Int} : isum l (fun x => c * f x) = c * isum l f := by
  induction l with
  | nil => simp
  | cons a l ih => rw [isum_cons, isum_cons, ih, Int.mul_add]
theorem isum_const {c : Int} : isum l (fun _ => c) = c * l.length := by
  induction l with
  | nil => simp
  | cons a l ih => rw [isum_cons, ih, List.length_cons, Int.natCast_succ, Int.mul_add]; omega
theorem isum_le (h : ∀ x ∈ l, f x ≤ g x) : isum l f ≤ isum l g := by
  induction l with
  | nil => exact Int.le_refl _
  | cons a l ih =>
    rw [isum_cons, isum_cons]
    have := h a List.mem_cons_self
    have := ih fun x hx => h x (List.mem_cons_of_mem _ hx)
    omega
theorem isum_lt (hne : l ≠ []) (h : ∀ x ∈ l, f x < g x) : isum l f < isum l g := by
  cases l with
  | nil => exact absurd rfl hne
  | cons a l =>
    rw [isum_cons, isum_cons]
    have := h a List.mem_cons_self
    have := isum_le (l := l) (f := f) (g := g) fun x hx => Int.le_of_lt (h x (List.mem_cons_of_mem _ hx))
    omega
theorem isum_comm {m : List β} {f : α → β → Int} : isum l (fun x => isum m (f x)) = isum m fun y => isum l fun x => f x y := by
  induction l with
  | nil =>
    simp only [isum_nil]
    rw [isum_const]; simp
  | cons a l ih =>
    simp only [isum_cons]
    rw [isum_add, ih]
theorem isum_sub {l2 : List α} (h : l2.Sublist l) (hf : ∀ x ∈ l, 0 ≤ f x) : isum l2 f ≤ isum l f := by
  induction h with
  | slnil => exact Int.le_refl _
  | cons a h ih =>
    rw [isum_cons]
    have := hf a List.mem_cons_self
    have := ih fun x hx => hf x (List.mem_cons_of_mem _ hx)
    omega
  | cons_cons a h ih =>
    rw [isum_cons, isum_cons]
    have := ih fun x hx => hf x (List.mem_cons_of_mem _ hx)
    omega
theorem isum_congr (h : ∀ x ∈ l, f x = g x) : isum l f = isum l g := by
  unfold isum
  rw [List.map_congr_left h]
theorem isum_map {h : β → α} {m : List β} : isum (m.map h) f = isum m fun x => f (h x) := by
  unfold isum
  rw [List.map_map]
  rfl
end
theorem map_gx {α : Type} [Inhabited α] {l : List α} : (rgI 0 (l.length : Int)).map (gx l) = l := by
  refine List.ext_getElem ?_ fun i h1 h2 => ?_
  · rw [List.length_map, len_rgI]; omega
  · rw [List.getElem_map]
    have e : (rgI 0 (l.length : Int))[i]'(by rw [List.length_map] at h1; exact h1) = (i : Int) := by
      unfold rgI
      simp
    rw [e, gx_nat h2]
/-! ### lots, in all -/
theorem lots_of_sub : ∀ {l r : List Int}, r.Sublist l → ∀ {acc : List (List Int)} {a : List Int}, a ∈ acc → a ++ r ∈ l.foldl F_lots_of_s1 acc
  | [], r, h, acc, a, ha => by
    have := List.eq_nil_of_sublist_nil h
    subst this
    simpa using ha
  | x :: l, r, h, acc, a, ha => by
    rw [List.foldl_cons]
    cases h with
    | cons _ h => exact lots_of_sub h (List.mem_append.mpr (.inl ha))
    | cons_cons _ h =>
      rename_i r
      have : a ++ [x] ∈ F_lots_of_s1 acc x := List.mem_append.mpr (.inr (List.mem_map.mpr ⟨a, ha, rfl⟩))
      have := lots_of_sub h this
      rw [List.append_assoc] at this
      exact this
def RW (m : Nat) : List (List Int) := (rgI 0 (m : Int)).foldl F_lots_of_s1 [[]]
theorem rw_mem {m : Nat} {r : List Int} (h : r.Sublist (rgI 0 (m : Int))) : r ∈ RW m := by
  have := lots_of_sub h (acc := [[]]) (a := []) (by simp)
  rw [List.nil_append] at this
  exact this
/-! ### choices -/
def chs (m k : Nat) : List (List Int) := (F_lots_of (m : Int)).filter fun x => decide ((List.length x : Int) = (k : Int))
def oth (c : List Int) (w x : Int) : List Int := sortT eI ((c.filter fun y => !decide (y = w)) ++ [x])
def mk : List (Nat × Nat) := [(1, 1), (2, 1), (2, 2), (3, 1), (3, 2), (3, 3), (4, 1), (4, 2), (4, 3), (5, 1), (5, 2), (5, 3)]
/-- what is asked of a row, a choice, and one that is not chosen -/
def chkR (k : Nat) (r c : List Int) (m : Nat) : Bool := decide (F_both r c ≤ (k : Int)) && decide (F__law_common r c = F_both r c) && decide (((rgI 0 (m : Int)).filter fun x => memT x r && memT x c).length = (F_both r c).toNat) &&
  (rgI 0 (m : Int)).all fun x => memT x c || decide ((k + 1) * U (F_both r c + if memT x r = true then 1 else 0) - U (F_both r c) - 12 ≤ isum c fun w => U (F_both r (oth c w x)))
def chkC (m k : Nat) : Bool := decide ((F__law_lots (rgI 0 (m : Int))).filter (fun x => decide ((List.length x : Int) = (k : Int))) = chs m k) && !(chs m k).isEmpty && decide ((F_lots_of (m : Int)).length ≤ 32) && decide ((F__law_lots (rgI 0 (m : Int))).length ≤ 32) &&
  (chs m k).all fun c => decide (c.length = k) && F_is_lot c m && (c.all fun x => decide (0 ≤ x) && decide (x < m)) && (c.all fun w => (rgI 0 (m : Int)).all fun x => memT x c || memT (oth c w x) (chs m k)) && (RW m).all fun r => chkR k r c m
theorem chkC_ok : ∀ p ∈ mk, chkC p.1 p.2 = true := by decide +kernel
end K18
set_option Elab.async false
set_option linter.all false
set_option maxRecDepth 100000
set_option maxHeartbeats 4000000
namespace K18
open PySem L2 Pv Tv PyProof.Rows
structure CS (m k : Nat) (ws : List (List Int)) : Prop where
  mem : (m, k) ∈ mk
  n1 : 1 ≤ ws.length
  n7 : ws.length ≤ 7
  rows : ∀ r ∈ ws, r.Sublist (rgI 0 (m : Int))
section
variable {m k : Nat} {ws : List (List Int)} {c r : List Int} {w x : Int}
theorem mk_b {m k : Nat} (h : (m, k) ∈ mk) : 1 ≤ m ∧ m ≤ 5 ∧ 1 ≤ k ∧ k ≤ 3 ∧ k ≤ m := by
  have : ∀ p ∈ mk, 1 ≤ p.1 ∧ p.1 ≤ 5 ∧ 1 ≤ p.2 ∧ p.2 ≤ 3 ∧ p.2 ≤ p.1 := by decide
  exact this (m, k) h
structure ChsF (m k : Nat) (c : List Int) : Prop where
  len : c.length = k
  lot : F_is_lot c m = true
  rng : ∀ x ∈ c, 0 ≤ x ∧ x < (m : Int)
  ex : ∀ w ∈ c, ∀ x : Int, 0 ≤ x → x < (m : Int) → x ∉ c → oth c w x ∈ chs m k
  row : ∀ r ∈ RW m, chkR k r c m = true
theorem chs_ok (h : (m, k) ∈ mk) : (F__law_lots (rgI 0 (m : Int))).filter (fun x => decide ((List.length x : Int) = (k : Int))) = chs m k ∧ chs m k ≠ [] ∧ (F_lots_of (m : Int)).length ≤ 32 ∧ (F__law_lots (rgI 0 (m : Int))).length ≤ 32 ∧ ∀ c ∈ chs m k, ChsF m k c := by
  have := chkC_ok (m, k) h
  unfold chkC at this
  simp only [Bool.and_eq_true, decide_eq_true_eq, List.all_eq_true, Bool.not_eq_true', List.isEmpty_eq_false_iff] at this
  obtain ⟨⟨⟨⟨h1, h2⟩, h3⟩, h4⟩, h5⟩ := this
  refine ⟨h1, h2, h3, h4, fun c hc => ?_⟩
  obtain ⟨⟨⟨⟨g1, g2⟩, g3⟩, g4⟩, g5⟩ := h5 c hc
  refine ⟨g1, g2, g3, fun w hw x x0 x1 hx => ?_, g5⟩
  have := g4 w hw x (mem_rgI.mpr ⟨x0, x1⟩)
  rw [Bool.or_eq_true, memT_iff, memT_iff] at this
  exact this.resolve_left hx
structure RowF (m k : Nat) (r c : List Int) : Prop where
  most : F_both r c ≤ (k : Int)
  com : F__law_common r c = F_both r c
  cnt : ((rgI 0 (m : Int)).filter fun x => memT x r && memT x c).length = (F_both r c).toNat
  inq : ∀ x : Int, 0 ≤ x → x < (m : Int) → x ∉ c → (k + 1) * U (F_both r c + if memT x r = true then 1 else 0) - U (F_both r c) - 12 ≤ isum c fun w => U (F_both r (oth c w x))
theorem row_ok (v : CS m k ws) (hr : r ∈ ws) (hc : c ∈ chs m k) : RowF m k r c := by
  have := ((chs_ok v.mem).2.2.2.2 c hc).row r (rw_mem (v.rows r hr))
  unfold chkR at this
  simp only [Bool.and_eq_true, decide_eq_true_eq, List.all_eq_true, Bool.or_eq_true] at this
  obtain ⟨⟨⟨h1, h0⟩, h2⟩, h3⟩ := this
  exact ⟨h1, h0, h2, fun x x0 x1 hx => (h3 x (mem_rgI.mpr ⟨x0, x1⟩)).resolve_left fun h => hx (memT_iff.mp h)⟩
theorem both_nn : 0 ≤ F_both r c := Int.natCast_nonneg _
/-! ### the sum of a choice, in twelfths -/
def sc (ws : List (List Int)) (c : List Int) : Int := isum ws fun r => U (F_both r c)
theorem U_nn {n : Int} : 0 ≤ U n ∧ U n ≤ 25 := by
  unfold U
  split
  · omega
  · split
    · omega
    · split
      · omega
      · split <;> omega
theorem sc_b : 0 ≤ sc ws c ∧ sc ws c ≤ 25 * ws.length := by
  have h1 : isum ws (fun _ => (0 : Int)) ≤ sc ws c := isum_le fun _ _ => U_nn.1
  have h2 : sc ws c ≤ isum ws fun _ => (25 : Int) := isum_le fun _ _ => U_nn.2
  rw [isum_const] at h1 h2
  omega
/-- nothing is gained by the exchange of w for x -/
def xb (k : Nat) (ws : List (List Int)) (c : List Int) (w x : Int) : Bool := decide ((k * k : Int) * sc ws (oth c w x) < (k * k : Int) * sc ws c + 12 * ws.length)
def Still (m k : Nat) (ws : List (List Int)) (c : List Int) : Prop := ∀ w ∈ c, ∀ x : Int, 0 ≤ x → x < (m : Int) → x ∉ c → xb k ws c w x = true
theorem U_step {h s : Int} (h0 : 0 ≤ h) (h1 : h < s) (h3 : s ≤ 3) : 12 ≤ s * (U (h + 1) - U h) := by
  have : (s = 1 ∧ h = 0) ∨ (s = 2 ∧ h = 0) ∨ (s = 2 ∧ h = 1) ∨ (s = 3 ∧ h = 0) ∨ (s = 3 ∧ h = 1) ∨ (s = 3 ∧ h = 2) := by omega
  rcases this with ⟨rfl, rfl⟩ | ⟨rfl, rfl⟩ | ⟨rfl, rfl⟩ | ⟨rfl, rfl⟩ | ⟨rfl, rfl⟩ | ⟨rfl, rfl⟩ <;> decide
theorem U_mono {h : Int} : U h ≤ U (h + 1) := by
  by_cases h0 : h < 0
  · have : U h = 0 := if_pos (by omega)
    rw [this]; exact U_nn.1
  · by_cases h4 : 4 ≤ h
    · have e : U h = 25 := by unfold U; repeat (first | rw [if_neg (by omega)])
      have e2 : U (h + 1) = 25 := by unfold U; repeat (first | rw [if_neg (by omega)])
      omega
    · have : h = 0 ∨ h = 1 ∨ h = 2 ∨ h = 3 := by omega
      rcases this with rfl | rfl | rfl | rfl <;> decide
/-- THE FACT: where no exchange gains, no group that deserves s is left with less each -/
theorem fact (v : CS m k ws) (hc : c ∈ chs m k) (hs : Still m k ws c) {g : List Int} (hg : g.Sublist (rgI 0 (ws.length : Int))) {s : Int} (s1 : 1 ≤ s) (s3 : s ≤ 3) (hd : s * ws.length ≤ g.length * k)
    (x0 : 0 ≤ x) (x1 : x < (m : Int)) (hx : x ∉ c) (hall : ∀ i ∈ g, x ∈ gx ws i) : ∃ i ∈ g, s ≤ F_both (gx ws i) c := by
  apply Classical.byContradiction
  intro hno
  have hlt : ∀ i ∈ g, F_both (gx ws i) c < s := fun i hi => Int.not_le.mp fun h => hno ⟨i, hi, h⟩
  obtain ⟨b1, b2, b3, b4, b5⟩ := mk_b v.mem
  have hlen := ((chs_ok v.mem).2.2.2.2 c hc).len
  -- with x, too
  let up : List Int → Int := fun r => U (F_both r c + if memT x r = true then 1 else 0)
  have hup : ∀ r, U (F_both r c) ≤ up r := fun r => by
    show U (F_both r c) ≤ U (F_both r c + if memT x r = true then 1 else 0)
    split
    · exact U_mono
    · rw [Int.add_zero]; exact Int.le_refl _
  -- what is lost by one each
  have h1 : isum ws (fun r => (k + 1) * up r - U (F_both r c) - 12) ≤ isum c fun w => sc ws (oth c w x) := by
    have e : (isum c fun w => sc ws (oth c w x)) = isum ws fun r => isum c fun w => U (F_both r (oth c w x)) := isum_comm
    rw [e]
    exact isum_le fun r hr => (row_ok v hr hc).inq x x0 x1 hx
  have e1 : isum ws (fun r => (k + 1) * up r - U (F_both r c) - 12) = (k + 1) * isum ws up - sc ws c - 12 * ws.length := by
    have : (fun r => (k + 1) * up r - U (F_both r c) - 12) = fun r => ((k + 1) * up r + (-1) * U (F_both r c)) + (-12) := by
      funext r; omega
    rw [this, isum_add, isum_add, isum_mul, isum_mul, isum_const]
    unfold sc
    omega
  rw [e1] at h1
  -- no exchange gains
  have hne : c ≠ [] := fun e => by rw [e] at hlen; simp at hlen; omega
  have h2 : isum c (fun w => (k * k : Int) * sc ws (oth c w x)) < isum c fun _ => (k * k : Int) * sc ws c + 12 * ws.length := isum_lt hne fun w hw => of_decide_eq_true (hs w hw x x0 x1 hx)
  rw [isum_mul, isum_const, hlen] at h2
  -- what the group gains
  have h3 : isum g (fun i => s * (up (gx ws i) - U (F_both (gx ws i) c))) ≤ s * (isum ws up - sc ws c) := by
    have e : isum (g.map (gx ws)) (fun r => up r - U (F_both r c)) ≤ isum ws fun r => up r - U (F_both r c) := by
      refine isum_sub ?_ fun r _ => by have := hup r; omega
      have := hg.map (gx ws)
      rw [map_gx] at this
      exact this
    rw [isum_map] at e
    have e2 : isum ws (fun r => up r - U (F_both r c)) = isum ws up - sc ws c := by
      have : (fun r => up r - U (F_both r c)) = fun r => up r + (-1) * U (F_both r c) := by funext r; omega
      rw [this, isum_add, isum_mul]
      unfold sc
      omega
    rw [isum_mul, ← e2]
    exact Int.mul_le_mul_of_nonneg_left e (by omega)
  have h4 : isum g (fun _ => (12 : Int)) ≤ isum g fun i => s * (up (gx ws i) - U (F_both (gx ws i) c)) := isum_le fun i hi => by
    have : up (gx ws i) = U (F_both (gx ws i) c + 1) := by
      show U (F_both (gx ws i) c + if memT x (gx ws i) = true then 1 else 0) = _
      rw [if_pos (memT_iff.mpr (hall i hi))]
    rw [this]
    exact U_step both_nn (hlt i hi) s3
  rw [isum_const] at h4
  generalize (isum c fun w => sc ws (oth c w x)) = A at h1 h2
  generalize isum ws up = B at h1 h3
  generalize sc ws c = C at h1 h2 h3
  generalize (ws.length : Int) = N at h1 h2 hd
  generalize (g.length : Int) = Gl at hd h4
  have hk : (k : Int) = 1 ∨ (k : Int) = 2 ∨ (k : Int) = 3 := by omega
  have hss : s = 1 ∨ s = 2 ∨ s = 3 := by omega
  have h5 : 12 * Gl ≤ s * (B - C) := by omega
  generalize (k : Int) = K at h1 h2 hd hk
  rcases hk with rfl | rfl | rfl <;> rcases hss with rfl | rfl | rfl <;> omega
end
end K18
set_option Elab.async false
set_option linter.all false
set_option maxRecDepth 100000
set_option maxHeartbeats 4000000
namespace K18
open PySem L2 Pv Tv PyProof.Rows
section
variable {m k : Nat} {ws : List (List Int)} {c r : List Int} {w x : Int}
abbrev cs (m k : Nat) (ws : List (List Int)) : Int × Int × List (List Int) := ((m : Int), (k : Int), ws)
/-- as a list -/
structure Few (ws : List (List Int)) (c : List Int) : Prop where
  n7 : ws.length ≤ 7
  b3 : ∀ r ∈ ws, F_both r c ≤ 3
  com : ∀ r ∈ ws, F__law_common r c = F_both r c
  cl : c.length ≤ 7
  rl : ∀ r ∈ ws, r.length ≤ 7
theorem few (v : CS m k ws) (hc : c ∈ chs m k) : Few ws c := by
  obtain ⟨b1, b2, b3, b4, b5⟩ := mk_b v.mem
  refine ⟨v.n7, fun r hr => ?_, fun r hr => (row_ok v hr hc).com, ?_, fun r hr => ?_⟩
  · have := (row_ok v hr hc).most
    omega
  · have := ((chs_ok v.mem).2.2.2.2 c hc).len
    omega
  · have := (v.rows r hr).length_le
    rw [len_rgI] at this
    omega
theorem parts_ok {h : Int} (h0 : 0 ≤ h) (h3 : h ≤ 3) : sumP (parts h) = U h ∧ OkP (parts h) ∧ (parts h).length ≤ 3 := by
  have : h = 0 ∨ h = 1 ∨ h = 2 ∨ h = 3 := by omega
  rcases this with rfl | rfl | rfl | rfl <;> exact ⟨by decide +kernel, by unfold OkP; decide +kernel, by decide +kernel⟩
theorem tot_ok {h : Int} (h0 : 0 ≤ h) (h3 : h ≤ 3) : F_total_of ((rgI 1 (h + 1)).map fun x => ((1 : Int), x)) = frP (s12 (U h)) ∧ W_total_of ((rgI 1 (h + 1)).map fun x => ((1 : Int), x)) := by
  obtain ⟨p1, p2, p3⟩ := parts_ok h0 h3
  have := fold_tot (a := 0) p2 (Int.le_refl _) (by omega)
  rw [p1, Int.zero_add, ← fr_zero] at this
  exact this
theorem raw_fold : ∀ {l : List (List Int)} {a : Int}, (∀ r ∈ l, F_both r c ≤ 3) → 0 ≤ a → a + 25 * l.length < 100000 → (l.map fun r => F_both r c).foldl F_raw_sum_s1 (frP (s12 a)) = frP (s12 (a + isum l fun r => U (F_both r c))) ∧ WFold F_raw_sum_s1 W_raw_sum_s1 (frP (s12 a)) (l.map fun r => F_both r c)
  | [], a, _, _, _ => ⟨by simp, trivial⟩
  | r :: l, a, h, h0, h2 => by
    rw [List.length_cons] at h2
    have h3 := h r List.mem_cons_self
    have hn : 0 ≤ F_both r c := both_nn
    obtain ⟨t1, t2⟩ := tot_ok hn h3
    have hu := U_nn (n := F_both r c)
    obtain ⟨f, w⟩ := plus12 (a := a) (b := U (F_both r c)) (by omega) (by omega)
    have st : F_raw_sum_s1 (frP (s12 a)) (F_both r c) = frP (s12 (a + U (F_both r c))) := by
      unfold F_raw_sum_s1
      dsimp only
      rw [t1, f]
    obtain ⟨i1, i2⟩ := raw_fold (l := l) (a := a + U (F_both r c)) (fun q hq => h q (List.mem_cons_of_mem _ hq)) (by omega) (by omega)
    rw [List.map_cons, List.foldl_cons, st, i1, isum_cons]
    refine ⟨by rw [Int.add_assoc], ?_, by rw [st]; exact i2⟩
    unfold W_raw_sum_s1
    dsimp only
    rw [t1]
    exact ⟨⟨by decide, rg62_of (by omega) (by omega)⟩, by rw [len_rgI]; omega, t2, w⟩
theorem raw_ok (v : Few ws c) : F_raw_sum ((m : Int), (k : Int), ws) c = frP (s12 (sc ws c)) ∧ W_raw_sum ((m : Int), (k : Int), ws) c := by
  have n7 := v.n7
  have := raw_fold (c := c) (l := ws) (a := 0) v.b3 (Int.le_refl _) (by omega)
  rw [Int.zero_add, ← fr_zero] at this
  refine ⟨this.1, ⟨?_, fun r hr => ?_⟩, this.2⟩
  · show ws.length < _
    omega
  · have := v.rl r hr
    show r.length < _
    omega
theorem lparts_ok {h : Int} (h0 : 0 ≤ h) (h3 : h ≤ 3) : (rgI 0 h).map (fun x => ((1 : Int), x + 1)) = parts h := by
  have : h = 0 ∨ h = 1 ∨ h = 2 ∨ h = 3 := by omega
  rcases this with rfl | rfl | rfl | rfl <;> decide +kernel
theorem lsum_fold : ∀ {l : List (List Int)} {acc : List (Int × Int)}, (∀ r ∈ l, F_both r c ≤ 3) → (∀ r ∈ l, F__law_common r c = F_both r c) → c.length ≤ 7 → OkP acc → acc.length + 3 * l.length < 1000 →
    OkP (l.foldl (F__law_sum_s1 c) acc) ∧ sumP (l.foldl (F__law_sum_s1 c) acc) = sumP acc + (isum l fun r => U (F_both r c)) ∧ (l.foldl (F__law_sum_s1 c) acc).length ≤ acc.length + 3 * l.length ∧ WFold (F__law_sum_s1 c) (W__law_sum_s1 c) acc l
  | [], acc, _, _, _, ha, _ => ⟨ha, by simp, by simp, trivial⟩
  | r :: l, acc, h, hc, hl, ha, h2 => by
    rw [List.length_cons] at h2
    have h3 := h r List.mem_cons_self
    have hn : 0 ≤ F_both r c := both_nn
    obtain ⟨p1, p2, p3⟩ := parts_ok hn h3
    have st : F__law_sum_s1 c acc r = acc ++ parts (F_both r c) := by
      unfold F__law_sum_s1
      dsimp only
      rw [hc r List.mem_cons_self, lparts_ok hn h3]
    have ho : OkP (acc ++ parts (F_both r c)) := fun p hp => (List.mem_append.mp hp).elim (ha p) (p2 p)
    obtain ⟨i1, i2, i3, i4⟩ := lsum_fold (l := l) (acc := acc ++ parts (F_both r c)) (fun q hq => h q (List.mem_cons_of_mem _ hq)) (fun q hq => hc q (List.mem_cons_of_mem _ hq)) hl ho (by rw [List.length_append]; omega)
    rw [List.foldl_cons, st]
    refine ⟨i1, ?_, ?_, ?_, by rw [st]; exact i4⟩
    · rw [i2, sumP_app, p1, isum_cons]; omega
    · rw [List.length_append] at i3
      rw [List.length_cons]; omega
    · unfold W__law_sum_s1
      dsimp only
      rw [hc r List.mem_cons_self, lparts_ok hn h3]
      exact ⟨by show c.length < _; omega, rg62_of (by omega) (by omega), by rw [len_rgI]; omega, by omega⟩
theorem lsum_ok (v : Few ws c) : F__law_sum ((m : Int), (k : Int), ws) c = frP (s12 (sc ws c)) ∧ W__law_sum ((m : Int), (k : Int), ws) c := by
  have n7 := v.n7
  obtain ⟨i1, i2, i3, i4⟩ := lsum_fold (l := ws) (acc := []) v.b3 v.com v.cl (fun p hp => by cases hp) (by simp; omega)
  have e := lfold_tot (a := 0) i1 (Int.le_refl _) (by simp at i3; omega)
  rw [i2, ← fr_zero] at e
  simp only [sumP, Int.zero_add] at e
  exact ⟨e.1, i4, e.2⟩
/-! ### exchanges -/
theorem nice_sc (v : Few ws c) : Nice (s12 (sc ws c)) := by
  have := sc_b (ws := ws) (c := c)
  have := v.n7
  exact nice12 (by omega)
theorem bd_nice (v : CS m k ws) : Nice (mkRat (ws.length : Int) (k * k)) := by
  obtain ⟨b1, b2, b3, b4, b5⟩ := mk_b v.mem
  have := v.n7
  have hk : k = 1 ∨ k = 2 ∨ k = 3 := by omega
  exact nice_mk (by rcases hk with rfl | rfl | rfl <;> decide) (by rcases hk with rfl | rfl | rfl <;> decide) (by omega)
theorem made_bd (v : CS m k ws) : F_made (ws.length : Int) ((k : Int) * (k : Int)) = frP (mkRat (ws.length : Int) (k * k)) ∧ W_made (ws.length : Int) ((k : Int) * (k : Int)) ∧ F__law_low (ws.length : Int) ((k : Int) * (k : Int)) = frP (mkRat (ws.length : Int) (k * k)) ∧ W__law_low (ws.length : Int) ((k : Int) * (k : Int)) ∧ mulFits (k : Int) (k : Int) = true := by
  obtain ⟨b1, b2, b3, b4, b5⟩ := mk_b v.mem
  have hk : k = 1 ∨ k = 2 ∨ k = 3 := by omega
  have e : ((k : Int) * (k : Int)).toNat = k * k := by rw [← Int.natCast_mul, Int.toNat_natCast]
  have p : 0 < (k : Int) * (k : Int) ∧ (k : Int) * (k : Int) < 1000000000000000000 := by rcases hk with rfl | rfl | rfl <;> decide
  have h1 := mk_made.f (ws.length : Int) _ p.1 p.2
  have h2 := mk_low.f (ws.length : Int) _ p.1 p.2
  rw [e] at h1 h2
  exact ⟨h1, mk_made.w _ _ p.1 p.2, h2, mk_low.w _ _ p.1 p.2, mulFits_l (by omega)⟩
theorem cmp_bd (v : CS m k ws) {a b : Int} : (s12 a < s12 b + mkRat (ws.length : Int) (k * k)) ↔ (k * k : Int) * a < (k * k : Int) * b + 12 * ws.length := by
  obtain ⟨b1, b2, b3, b4, b5⟩ := mk_b v.mem
  have hk : k = 1 ∨ k = 2 ∨ k = 3 := by omega
  have kk : k * k ≠ 0 := by rcases hk with rfl | rfl | rfl <;> decide
  have sc : ∀ z : Int, s12 z = sq (12 * (k * k)) (z * ((k * k : Nat) : Int)) := fun z => (Rat.mkRat_mul_right kk).symm
  have bd : mkRat (ws.length : Int) (k * k) = sq (12 * (k * k)) (12 * (ws.length : Int)) := (Rat.mkRat_mul_left (by decide)).symm
  rw [sc a, sc b, bd, sq_add (by omega), sq_lt (by omega)]
  rw [Int.natCast_mul, Int.mul_comm a, Int.mul_comm b]
/-- the first exchange that gains -/
def IX (k : Nat) (ws : List (List Int)) (c : List Int) (w x : Int) : Option (Int × Int) := if (!memT x c) = true then (if xb k ws c w x = true then none else some (w, x)) else none
def NX (m k : Nat) (ws : List (List Int)) (c : List Int) : Option (Int × Int) := c.findSome? fun w => (rgI 0 (m : Int)).findSome? fun x => IX k ws c w x
theorem nx_none : NX m k ws c = none ↔ Still m k ws c := by
  unfold NX Still IX
  simp only [List.findSome?_eq_none_iff]
  constructor
  · intro h w hw x x0 x1 hx
    have := h w hw x (mem_rgI.mpr ⟨x0, x1⟩)
    have hm : (!memT x c) = true := by rw [Bool.not_eq_true', ← Bool.not_eq_true, memT_iff]; exact hx
    rw [if_pos hm] at this
    by_cases hb : xb k ws c w x = true
    · exact hb
    · rw [if_neg hb] at this; cases this
  · intro h w hw x hx
    obtain ⟨x0, x1⟩ := mem_rgI.mp hx
    by_cases hm : (!memT x c) = true
    · rw [if_pos hm, if_pos]
      refine h w hw x x0 x1 fun hc => ?_
      rw [Bool.not_eq_true', ← Bool.not_eq_true, memT_iff] at hm
      exact hm hc
    · rw [if_neg hm]
end
end K18
set_option Elab.async false
set_option linter.all false
set_option maxRecDepth 100000
set_option maxHeartbeats 4000000
namespace K18
open PySem L2 Pv Tv PyProof.Rows
def chkG (n : Nat) : Bool := ((F_lots_of (n : Int)).drop 1).all (fun g => !g.isEmpty && g.isSublist (rgI 0 (n : Int))) && (F__law_lots (rgI 0 (n : Int))).all fun g => g.isSublist (rgI 0 (n : Int))
theorem chkG_ok : ∀ n ∈ [1, 2, 3, 4, 5, 6, 7], chkG n = true := by decide +kernel
theorem chkL_ok : ∀ m ∈ [1, 2, 3, 4, 5], ((RW m).all fun r => F_is_lot r (m : Int)) = true := by decide +kernel
section
variable {m k : Nat} {ws : List (List Int)} {c r g : List Int} {w x : Int}
theorem grp_ok (v : CS m k ws) : (∀ g ∈ cutA (F_lots_of (ws.length : Int)) (some (1 : Int)) none, g ≠ [] ∧ g.Sublist (rgI 0 (ws.length : Int))) ∧ ∀ g ∈ F__law_lots (rgI 0 (ws.length : Int)), g.Sublist (rgI 0 (ws.length : Int)) := by
  have h1 := v.n1
  have h7 := v.n7
  have := chkG_ok ws.length (by simp only [List.mem_cons, List.not_mem_nil, or_false]; omega)
  unfold chkG at this
  simp only [Bool.and_eq_true, List.all_eq_true, Bool.not_eq_true', List.isEmpty_eq_false_iff, List.isSublist_iff_sublist] at this
  refine ⟨fun g hg => ?_, this.2⟩
  rw [show cutA (F_lots_of (ws.length : Int)) (some (1 : Int)) none = (F_lots_of (ws.length : Int)).drop 1 from cutA_lo _ 1] at hg
  exact this.1 g hg
theorem lotW {l : List Int} {m : Int} : W_is_lot l m := fun _ => wfoldL_of (fun _ => True) trivial fun _ _ _ _ => ⟨trivial, fun _ _ => trivial⟩
theorem CS.case (v : CS m k ws) : F_is_case (cs m k ws) = true ∧ W_check_case (cs m k ws) := by
  obtain ⟨b1, b2, b3, b4, b5⟩ := mk_b v.mem
  have h1 := v.n1
  have h7 := v.n7
  have hl : ∀ r ∈ ws, F_is_lot r (m : Int) = true := fun r hr => by
    have := chkL_ok m (by simp only [List.mem_cons, List.not_mem_nil, or_false]; omega)
    rw [List.all_eq_true] at this
    exact this r (rw_mem (v.rows r hr))
  have e : F_is_case (cs m k ws) = true := by
    unfold F_is_case F_is_table F_is_within F_is_integer
    dsimp only
    have c1 : decide ((1 : Int) ≤ (m : Int)) = true := decide_eq_true (by omega)
    have c2 : decide ((m : Int) ≤ (7 : Int)) = true := decide_eq_true (by omega)
    have c3 : decide ((1 : Int) ≤ (k : Int)) = true := decide_eq_true (by omega)
    have c4 : decide ((k : Int) ≤ (m : Int)) = true := decide_eq_true (by omega)
    have c5 : decide ((1 : Int) ≤ (ws.length : Int)) = true := decide_eq_true (by omega)
    have c6 : decide ((ws.length : Int) ≤ (8 : Int)) = true := decide_eq_true (by omega)
    rw [c1, c2, c3, c4, c5, c6, all_mapId, List.all_eq_true.mpr hl]
    rfl
  refine ⟨e, ⟨fun _ _ => ⟨?_, fun _ _ => lotW⟩, ?_⟩⟩
  · show ws.length < _; omega
  · rw [e]; rfl
theorem CS.choice (v : CS m k ws) (hc : c ∈ chs m k) : W_check_choice (cs m k ws) c := by
  obtain ⟨l1, l2, _⟩ := (chs_ok v.mem).2.2.2.2 c hc
  refine ⟨v.case.2, lotW, ?_⟩
  show ((!(F_is_lot c (m : Int))) || (!decide ((c.length : Int) = (k : Int)))) = false
  rw [l2, l1, decide_eq_true rfl]
  rfl
/-! ### the exchange, told and due -/
theorem xb_told (v : CS m k ws) (hc : c ∈ chs m k) (ho : oth c w x ∈ chs m k) : F_is_below (frP (s12 (sc ws (oth c w x)))) (frP (s12 (sc ws c) + mkRat (ws.length : Int) (k * k))) = xb k ws c w x ∧ W_is_below (frP (s12 (sc ws (oth c w x)))) (frP (s12 (sc ws c) + mkRat (ws.length : Int) (k * k))) := by
  refine ⟨?_, mulFits_nice (nice_sc (few v ho)) _, ?_⟩
  · show decide (_ < _) = _
    rw [below_fr]
    exact decide_eq_decide.mpr (cmp_bd v)
  · unfold mulFits
    have : Pv.small64 (frP (s12 (sc ws (oth c w x)))).2 = true := by
      have := (nice_sc (few v ho)).de
      unfold Pv.small64
      show (decide (-18446744073709551616 < (((s12 (sc ws (oth c w x))).den : Nat) : Int)) && decide ((((s12 (sc ws (oth c w x))).den : Nat) : Int) < 18446744073709551616)) = true
      rw [decide_eq_true (by omega), decide_eq_true (by omega)]
      rfl
    rw [this]
    simp
theorem xb_due (v : CS m k ws) (hc : c ∈ chs m k) (ho : oth c w x ∈ chs m k) : F__law_is_less (F__law_minus (frP (s12 (sc ws (oth c w x)))) (frP (s12 (sc ws c)))) (frP (mkRat (ws.length : Int) (k * k))) = xb k ws c w x ∧ W__law_minus (frP (s12 (sc ws (oth c w x)))) (frP (s12 (sc ws c))) ∧ W__law_is_less (F__law_minus (frP (s12 (sc ws (oth c w x)))) (frP (s12 (sc ws c)))) (frP (mkRat (ws.length : Int) (k * k))) := by
  obtain ⟨e, w1⟩ := lminus_ok (nice_sc (few v ho)) (nice_sc (few v hc))
  refine ⟨?_, w1, ?_⟩
  · rw [e]
    show decide (_ < _) = _
    rw [below_fr]
    refine decide_eq_decide.mpr ?_
    rw [Rat.sub_lt_iff, Rat.add_comm]
    exact cmp_bd v
  · rw [e]
    refine ⟨?_, mulFits_nice (bd_nice v) _⟩
    have := (bd_nice v).de
    have hs : Pv.small64 (frP (mkRat (ws.length : Int) (k * k))).2 = true := by
      unfold Pv.small64
      show (decide (-18446744073709551616 < (((mkRat (ws.length : Int) (k * k)).den : Nat) : Int)) && decide ((((mkRat (ws.length : Int) (k * k)).den : Nat) : Int) < 18446744073709551616)) = true
      rw [decide_eq_true (by omega), decide_eq_true (by omega)]
      rfl
    unfold mulFits
    rw [hs]
    simp
theorem most_ok (v : CS m k ws) (hc : c ∈ chs m k) : F_plus (frP (s12 (sc ws c))) (frP (mkRat (ws.length : Int) (k * k))) = frP (s12 (sc ws c) + mkRat (ws.length : Int) (k * k)) ∧ W_plus (frP (s12 (sc ws c))) (frP (mkRat (ws.length : Int) (k * k))) := plus_ok (nice_sc (few v hc)) (bd_nice v)
theorem ex_in (v : CS m k ws) (hc : c ∈ chs m k) (hw : w ∈ c) (hx : x ∈ rgI 0 (m : Int)) (hm : (!memT x c) = true) : oth c w x ∈ chs m k := by
  obtain ⟨x0, x1⟩ := mem_rgI.mp hx
  rw [Bool.not_eq_true', ← Bool.not_eq_true, memT_iff] at hm
  exact ((chs_ok v.mem).2.2.2.2 c hc).ex w hw x x0 x1 hm
theorem nox_ok (v : CS m k ws) (hc : c ∈ chs m k) : F_no_exchange (cs m k ws) c = NX m k ws c ∧ W_no_exchange (cs m k ws) c := by
  obtain ⟨b1, b2, b3, b4, b5⟩ := mk_b v.mem
  obtain ⟨d1, d2, d3, d4, d5⟩ := made_bd v
  have fw := few v hc
  have r1 := raw_ok (m := m) (k := k) fw
  have hl := fw.cl
  have hmost : F_plus (F_raw_sum (cs m k ws) c) (F_made (ws.length : Int) ((k : Int) * (k : Int))) = frP (s12 (sc ws c) + mkRat (ws.length : Int) (k * k)) := by
    rw [r1.1, d1, (most_ok v hc).1]
  have st : ∀ w ∈ c, ∀ x ∈ rgI 0 (m : Int), F_no_exchange_s1 (cs m k ws) c (frP (s12 (sc ws c) + mkRat (ws.length : Int) (k * k))) w () x = toL ((IX k ws c w x).map fun y => some y) := fun w hw x hx => by
    unfold F_no_exchange_s1 IX
    dsimp only
    by_cases hm : (!memT x c) = true
    · rw [if_pos hm, if_pos hm]
      have ho := ex_in v hc hw hx hm
      rw [map_idf]
      show (if (!F_is_below (F_raw_sum (cs m k ws) (oth c w x)) _) = true then _ else _) = _
      rw [(raw_ok (m := m) (k := k) (few v ho)).1, (xb_told v hc ho).1]
      cases xb k ws c w x <;> rfl
    · rw [if_neg hm, if_neg hm]; rfl
  have wt : ∀ w ∈ c, ∀ x ∈ rgI 0 (m : Int), W_no_exchange_s1 (cs m k ws) c (frP (s12 (sc ws c) + mkRat (ws.length : Int) (k * k))) w () x := fun w hw x hx => by
    unfold W_no_exchange_s1
    dsimp only
    intro hm
    have ho := ex_in v hc hw hx hm
    rw [map_idf]
    refine ⟨by omega, ?_, ?_⟩
    · have := List.length_filter_le (fun y => !decide (y = w)) c
      rw [List.length_singleton]; omega
    · show W_raw_sum (cs m k ws) (oth c w x) ∧ W_is_below (F_raw_sum (cs m k ws) (oth c w x)) _
      rw [(raw_ok (m := m) (k := k) (few v ho)).1]
      exact ⟨(raw_ok (few v ho)).2, (xb_told v hc ho).2⟩
  have st2 : ∀ w ∈ c, F_no_exchange_s2 (cs m k ws) c (frP (s12 (sc ws c) + mkRat (ws.length : Int) (k * k))) () w = toL (((rgI 0 (m : Int)).findSome? fun x => IX k ws c w x).map fun y => some y) := fun w hw => by
    unfold F_no_exchange_s2
    dsimp only
    rw [foldL_opt _ (st w hw), findSome_map]
    exact exC_toL
  constructor
  · unfold F_no_exchange
    dsimp only
    rw [hmost, foldL_opt _ st2, findSome_map]
    exact exC_toO
  · unfold W_no_exchange
    dsimp only
    rw [hmost]
    refine ⟨v.choice hc, r1.2, d5, d2, ?_, wfoldL_of (fun _ => True) trivial fun s w hw _ => ⟨⟨rg62_of (show (-1000000000 : Int) ≤ (m : Int) by omega) (show (m : Int) ≤ 1000000000 by omega), wfoldL_of (fun _ => True) trivial fun s x hx _ => ⟨wt w hw x hx, fun _ _ => trivial⟩⟩, fun _ _ => trivial⟩⟩
    rw [r1.1, d1]
    exact (most_ok v hc).2
theorem lex_ok (v : CS m k ws) (hc : c ∈ chs m k) : F__law_exchange (cs m k ws) c = NX m k ws c ∧ W__law_exchange (cs m k ws) c := by
  obtain ⟨b1, b2, b3, b4, b5⟩ := mk_b v.mem
  obtain ⟨d1, d2, d3, d4, d5⟩ := made_bd v
  have fw := few v hc
  have r1 := lsum_ok (m := m) (k := k) fw
  have hl := fw.cl
  have st : ∀ w ∈ c, ∀ x ∈ (rgI 0 (m : Int)).filter fun x => !memT x c, F__law_exchange_s1 (cs m k ws) c (frP (mkRat (ws.length : Int) (k * k))) (frP (s12 (sc ws c))) w () x = toL ((if xb k ws c w x = true then none else some (w, x)).map fun y => some y) := fun w hw x hx => by
    obtain ⟨hx, hm⟩ := List.mem_filter.mp hx
    unfold F__law_exchange_s1
    dsimp only
    have ho := ex_in v hc hw hx hm
    rw [map_idf]
    show (if (!F__law_is_less (F__law_minus (F__law_sum (cs m k ws) (oth c w x)) _) _) = true then _ else _) = _
    rw [(lsum_ok (m := m) (k := k) (few v ho)).1, (xb_due v hc ho).1]
    cases xb k ws c w x <;> rfl
  have wt : ∀ w ∈ c, ∀ x ∈ (rgI 0 (m : Int)).filter fun x => !memT x c, W__law_exchange_s1 (cs m k ws) c (frP (mkRat (ws.length : Int) (k * k))) (frP (s12 (sc ws c))) w () x := fun w hw x hx => by
    obtain ⟨hx, hm⟩ := List.mem_filter.mp hx
    unfold W__law_exchange_s1
    dsimp only
    have ho := ex_in v hc hw hx hm
    rw [map_idf]
    refine ⟨by omega, ?_, ?_⟩
    · have := List.length_filter_le (fun y => !decide (y = w)) c
      rw [List.length_singleton]; omega
    · show W__law_sum (cs m k ws) (oth c w x) ∧ W__law_minus (F__law_sum (cs m k ws) (oth c w x)) _ ∧ W__law_is_less (F__law_minus (F__law_sum (cs m k ws) (oth c w x)) _) _
      rw [(lsum_ok (m := m) (k := k) (few v ho)).1]
      exact ⟨(lsum_ok (few v ho)).2, (xb_due v hc ho).2⟩
  have st2 : ∀ w ∈ c, F__law_exchange_s2 (cs m k ws) c (cs m k ws) (frP (mkRat (ws.length : Int) (k * k))) (frP (s12 (sc ws c))) () w = toL (((rgI 0 (m : Int)).findSome? fun x => IX k ws c w x).map fun y => some y) := fun w hw => by
    unfold F__law_exchange_s2
    dsimp only
    rw [map_idf, foldL_opt _ (st w hw), findSome_map, findSome_filter]
    exact exC_toL
  constructor
  · unfold F__law_exchange
    dsimp only
    rw [r1.1, d3, foldL_opt _ st2, findSome_map]
    exact exC_toO
  · unfold W__law_exchange
    dsimp only
    rw [r1.1, d3]
    refine ⟨d5, d4, r1.2, wfoldL_of (fun _ => True) trivial fun s w hw _ => ⟨⟨rg62_of (show (-1000000000 : Int) ≤ (m : Int) by omega) (show (m : Int) ≤ 1000000000 by omega), ?_, ?_⟩, fun _ _ => trivial⟩⟩
    · rw [len_rgI]
      show ((m : Int) - 0).toNat < _
      omega
    · rw [map_idf]
      exact wfoldL_of (fun _ => True) trivial fun s x hx _ => ⟨wt w hw x hx, fun _ _ => trivial⟩
end
end K18
set_option Elab.async false
set_option linter.all false
set_option maxRecDepth 100000
set_option maxHeartbeats 4000000
namespace K18
open PySem L2 Pv Tv PyProof.Rows
/-! ### lots -/
theorem lotsW : ∀ {l : List Int} {acc : List (List Int)}, acc.length * 2 ^ l.length ≤ 128 → (∀ r ∈ acc, r.length + l.length ≤ 7) → WFold F_lots_of_s1 W_lots_of_s1 acc l ∧ (l.foldl F_lots_of_s1 acc).length = acc.length * 2 ^ l.length ∧ ∀ r ∈ l.foldl F_lots_of_s1 acc, r.length ≤ 7
  | [], acc, h, hr => ⟨trivial, by simp, fun r h => hr r h⟩
  | x :: l, acc, h, hr => by
    rw [List.length_cons, Nat.pow_succ] at h
    have hp : 0 < 2 ^ l.length := Nat.pow_pos (by decide)
    have hle : acc.length * 2 ≤ 128 := by
      have : acc.length * 2 * 1 ≤ acc.length * 2 * 2 ^ l.length := Nat.mul_le_mul_left _ hp
      have e : acc.length * (2 ^ l.length * 2) = acc.length * 2 * 2 ^ l.length := by rw [Nat.mul_comm (2 ^ l.length), Nat.mul_assoc]
      omega
    have st : F_lots_of_s1 acc x = acc ++ acc.map (fun y => y ++ [x]) := rfl
    have hlen : (acc ++ acc.map (fun y => y ++ [x])).length = acc.length * 2 := by rw [List.length_append, List.length_map]; omega
    have hr2 : ∀ r ∈ acc ++ acc.map (fun y => y ++ [x]), r.length + l.length ≤ 7 := fun r h => by
      rcases List.mem_append.mp h with h | h
      · have := hr r h
        rw [List.length_cons] at this; omega
      · obtain ⟨y, hy, rfl⟩ := List.mem_map.mp h
        have := hr y hy
        rw [List.length_cons] at this
        rw [List.length_append, List.length_singleton]; omega
    obtain ⟨i1, i2, i3⟩ := lotsW (l := l) (acc := acc ++ acc.map (fun y => y ++ [x])) (by rw [hlen, Nat.mul_assoc, Nat.mul_comm 2]; exact h) hr2
    rw [List.foldl_cons, st]
    refine ⟨⟨?_, by rw [st]; exact i1⟩, ?_, i3⟩
    · refine ⟨by omega, fun y hy => ?_, by rw [List.length_map]; omega⟩
      have := hr y hy
      rw [List.length_cons] at this
      rw [List.length_singleton]; omega
    · rw [i2, hlen, List.length_cons, Nat.pow_succ, Nat.mul_assoc, Nat.mul_comm 2]
theorem lots_w {n : Nat} (h : n ≤ 7) : W_lots_of (n : Int) ∧ W__law_lots (rgI 0 (n : Int)) ∧ (F_lots_of (n : Int)).length ≤ 128 ∧ (F__law_lots (rgI 0 (n : Int))).length ≤ 128 := by
  have hl : (rgI 0 (n : Int)).length = n := by rw [len_rgI]; omega
  have hp : 2 ^ n ≤ 2 ^ 7 := Nat.pow_le_pow_right (by decide) h
  obtain ⟨i1, i2, i3⟩ := lotsW (l := rgI 0 (n : Int)) (acc := [[]]) (by rw [hl, List.length_singleton, Nat.one_mul]; exact hp) (fun r hr => by rw [List.mem_singleton.mp hr, hl]; simpa using h)
  rw [hl, List.length_singleton, Nat.one_mul] at i2
  have i4 : ((rgI 0 (n : Int)).foldl F_lots_of_s1 [[]]).length ≤ 128 := by rw [i2]; exact hp
  refine ⟨⟨rg62_of (by omega) (by omega), i1, ?_, ?_⟩, i1, ?_, ?_⟩
  · exact Nat.lt_of_le_of_lt i4 (by decide)
  · rw [len_sortT, List.length_map]
    exact Nat.lt_of_le_of_lt i4 (by decide)
  · unfold F_lots_of
    dsimp only
    rw [List.length_map, len_sortT, List.length_map]
    exact i4
  · unfold F__law_lots
    dsimp only
    rw [len_sortT]
    exact i4
section
variable {m k : Nat} {ws : List (List Int)} {c r g : List Int} {w x s : Int}
theorem choices_ok (v : CS m k ws) : F_choices_in (cs m k ws) = chs m k ∧ W_choices_in (cs m k ws) ∧ F__law_choices (cs m k ws) = chs m k ∧ W__law_choices (cs m k ws) := by
  obtain ⟨b1, b2, b3, b4, b5⟩ := mk_b v.mem
  obtain ⟨w1, w2, w3, w4⟩ := lots_w (n := m) (by omega)
  refine ⟨?_, ⟨w1, ?_⟩, ?_, ⟨⟨by show (0 : Int) ≤ (m : Int); omega, by show (m : Int) ≤ _; omega⟩, w2, ?_⟩⟩
  · unfold F_choices_in
    rw [map_idf]
    rfl
  · show (F_lots_of (m : Int)).length < _
    omega
  · unfold F__law_choices
    rw [map_idf]
    exact (chs_ok v.mem).1
  · show (F__law_lots (rgI 0 (m : Int))).length < _
    omega
/-! ### nobody is wronged -/
theorem in_g (hg : g.Sublist (rgI 0 (ws.length : Int))) {i : Int} (hi : i ∈ g) : ixOk ws.length i ∧ gx ws i ∈ ws := by
  obtain ⟨h0, h1⟩ := mem_rgI.mp (hg.subset hi)
  exact ⟨by unfold ixOk; omega, gx_mem h0 h1⟩
theorem seats3 (v : CS m k ws) (hg : g.Sublist (rgI 0 (ws.length : Int))) (hd : s * ws.length ≤ g.length * k) : s ≤ 3 := by
  obtain ⟨b1, b2, b3, b4, b5⟩ := mk_b v.mem
  have h1 := v.n1
  have hl := hg.length_le
  rw [len_rgI] at hl
  apply Classical.byContradiction
  intro h
  have : 4 * (ws.length : Int) ≤ s * ws.length := Int.mul_le_mul_of_nonneg_right (by omega) (by omega)
  have hk : (k : Int) = 1 ∨ (k : Int) = 2 ∨ (k : Int) = 3 := by omega
  generalize (k : Int) = K at hd hk
  rcases hk with rfl | rfl | rfl <;> omega
theorem told_no (v : CS m k ws) (hc : c ∈ chs m k) (hs : Still m k ws c) (hg : g.Sublist (rgI 0 (ws.length : Int))) (hne : g ≠ []) (s1 : 1 ≤ s) (hd : s * ws.length ≤ g.length * k) (hcm : s ≤ F_in_common (cs m k ws) g) : ∃ i ∈ g, s ≤ F_both (gx ws i) c := by
  apply Classical.byContradiction
  intro hno
  obtain ⟨i0, g', rfl⟩ := List.exists_cons_of_ne_nil hne
  have hlt : ¬ s ≤ F_both (gx ws i0) c := fun h => hno ⟨i0, by simp, h⟩
  have hr := (in_g hg (i := i0) (by simp)).2
  have : ∃ x ∈ gx ws i0, (i0 :: g').all (fun j => memT x (gx ws j)) = true ∧ memT x c = false := by
    apply Classical.byContradiction
    intro hn
    have hle : ((gx ws i0).filter fun x => (i0 :: g').all fun j => memT x (gx ws j)).length ≤ ((gx ws i0).filter fun x => memT x c).length := by
      rw [← List.countP_eq_length_filter, ← List.countP_eq_length_filter]
      refine List.countP_mono_left fun x hx h => ?_
      cases e : memT x c with
      | true => rfl
      | false => exact absurd ⟨x, hx, h, e⟩ hn
    unfold F_in_common at hcm
    unfold F_both at hlt
    dsimp only at hcm
    simp only [map_idf, all_mapId] at hcm hlt
    have e0 : gx (i0 :: g') (0 : Int) = i0 := rfl
    rw [e0] at hcm
    omega
  obtain ⟨x, hx, hall, hxc⟩ := this
  obtain ⟨x0, x1⟩ := mem_rgI.mp ((v.rows _ hr).subset hx)
  rw [List.all_eq_true] at hall
  exact hno (fact v hc hs hg s1 (seats3 v hg hd) hd x0 x1 (by rw [← memT_iff, hxc]; simp) fun i hi => memT_iff.mp (hall i hi))
theorem due_no (v : CS m k ws) (hc : c ∈ chs m k) (hs : Still m k ws c) (hg : g.Sublist (rgI 0 (ws.length : Int))) (hne : g ≠ []) (s1 : 1 ≤ s) (hd : s * ws.length ≤ g.length * k) (hcm : s ≤ (((rgI 0 (m : Int)).filter fun x => g.all fun j => memT x (gx ws j)).length : Int)) : ∃ i ∈ g, s ≤ F_both (gx ws i) c := by
  apply Classical.byContradiction
  intro hno
  obtain ⟨i0, g', rfl⟩ := List.exists_cons_of_ne_nil hne
  have hlt : ¬ s ≤ F_both (gx ws i0) c := fun h => hno ⟨i0, by simp, h⟩
  have hr := (in_g hg (i := i0) (by simp)).2
  have hcnt := (row_ok v hr hc).cnt
  have hb : 0 ≤ F_both (gx ws i0) c := both_nn
  have : ∃ x ∈ rgI 0 (m : Int), (i0 :: g').all (fun j => memT x (gx ws j)) = true ∧ memT x c = false := by
    apply Classical.byContradiction
    intro hn
    have hle : ((rgI 0 (m : Int)).filter fun x => (i0 :: g').all fun j => memT x (gx ws j)).length ≤ ((rgI 0 (m : Int)).filter fun x => memT x (gx ws i0) && memT x c).length := by
      rw [← List.countP_eq_length_filter, ← List.countP_eq_length_filter]
      refine List.countP_mono_left fun x hx h => ?_
      have h1 := List.all_eq_true.mp h i0 (by simp)
      cases e : memT x c with
      | true => rw [h1]; rfl
      | false => exact absurd ⟨x, hx, h, e⟩ hn
    omega
  obtain ⟨x, hx, hall, hxc⟩ := this
  obtain ⟨x0, x1⟩ := mem_rgI.mp hx
  rw [List.all_eq_true] at hall
  exact hno (fact v hc hs hg s1 (seats3 v hg hd) hd x0 x1 (by rw [← memT_iff, hxc]; simp) fun i hi => memT_iff.mp (hall i hi))
end
end K18
set_option Elab.async false
set_option linter.all false
set_option maxRecDepth 100000
set_option maxHeartbeats 4000000
namespace K18
open PySem L2 Pv Tv PyProof.Rows
theorem lay_each : (eS ("each" : Str)).canLay0 = true ∧ (eS ("one" : Str)).canLay0 = true ∧ (eS ("all" : Str)).canLay0 = true := by decide +kernel
theorem w_word : W_check_word ("each" : Str) := by
  unfold W_check_word
  exact ⟨fun _ => ⟨lay_each.1, by decide +kernel⟩, by decide +kernel⟩
section
variable {m k : Nat} {ws : List (List Int)} {c r g : List Int} {w x s : Int}
theorem bothW (v : CS m k ws) (hr : r ∈ ws) : W_both r c := by
  obtain ⟨b1, b2, b3, b4, b5⟩ := mk_b v.mem
  have := (v.rows r hr).length_le
  rw [len_rgI] at this
  show r.length < _
  omega
theorem gl (v : CS m k ws) (hg : g.Sublist (rgI 0 (ws.length : Int))) : g.length ≤ ws.length := by
  have := hg.length_le
  rw [len_rgI] at this
  omega
theorem commonW (v : CS m k ws) (hg : g.Sublist (rgI 0 (ws.length : Int))) (hne : g ≠ []) : W_in_common (cs m k ws) g := by
  obtain ⟨b1, b2, b3, b4, b5⟩ := mk_b v.mem
  have hl := gl v hg
  have h7 := v.n7
  have hp := List.length_pos_iff.mpr hne
  have h0 : gx g (0 : Int) ∈ g := gx_mem (by omega) (by omega)
  obtain ⟨i1, i2⟩ := in_g hg h0
  have := (v.rows _ i2).length_le
  rw [len_rgI] at this
  unfold W_in_common
  dsimp only
  exact ⟨by unfold ixOk; omega, i1, by omega, fun x hx => ⟨by omega, fun j hj => (in_g hg hj).1⟩⟩
theorem told_wr (v : CS m k ws) (hc : c ∈ chs m k) (hg : g.Sublist (rgI 0 (ws.length : Int))) : W_is_wronged (cs m k ws) c ("each" : Str) s g := by
  have hl := gl v hg
  have h7 := v.n7
  refine ⟨⟨lay_each.1, lay_each.2.1⟩, fun h => absurd h (by decide), fun _ => ⟨⟨lay_each.1, lay_each.2.2⟩, fun h => absurd h (by decide), fun _ => ⟨by omega, fun i hi => ⟨(in_g hg hi).1, bothW v (in_g hg hi).2⟩⟩⟩⟩
theorem told_f (hx : ∃ i ∈ g, s ≤ F_both (gx ws i) c) : F_is_wronged (cs m k ws) c ("each" : Str) s g = false := by
  obtain ⟨i, hi, h⟩ := hx
  unfold F_is_wronged
  rw [if_neg (by decide), if_neg (by decide), all_mapId]
  refine Bool.eq_false_iff.mpr fun e => ?_
  have := of_decide_eq_true (List.all_eq_true.mp e i hi)
  have h : s ≤ F_both (gx (cs m k ws).2.2 i) c := h
  omega
theorem des_ok (v : CS m k ws) (hg : g.Sublist (rgI 0 (ws.length : Int))) (hs : s ∈ rgI 1 (F_most_deserved (cs m k ws) g + 1)) : 1 ≤ s ∧ s * ws.length ≤ g.length * k ∧ s ≤ F_in_common (cs m k ws) g := by
  have h1 := v.n1
  obtain ⟨s1, s2⟩ := mem_rgI.mp hs
  have hle : s ≤ F_most_deserved (cs m k ws) g := by omega
  unfold F_most_deserved at hle
  have key : s ≤ F_in_common (cs m k ws) g ∧ s ≤ ((g.length : Int) * (k : Int)) / (ws.length : Int) := by
    split at hle
    · rename_i h
      exact ⟨hle, Int.le_trans hle (Int.le_of_lt h)⟩
    · rename_i h
      exact ⟨Int.le_trans hle (Int.not_lt.mp h), hle⟩
  exact ⟨s1, (Int.le_ediv_iff_mul_le (by omega)).mp key.2, key.1⟩
theorem desW (v : CS m k ws) (hg : g.Sublist (rgI 0 (ws.length : Int))) (hne : g ≠ []) : W_most_deserved (cs m k ws) g ∧ F_most_deserved (cs m k ws) g ≤ 100 := by
  have hl := gl v hg
  have h1 := v.n1
  have h7 := v.n7
  refine ⟨⟨mulFits_l (by omega), ⟨by show (0 : Int) < (ws.length : Int); omega, by show (ws.length : Int) < _; omega⟩, commonW v hg hne⟩, ?_⟩
  have hcb : F_in_common (cs m k ws) g ≤ 7 := by
    have hp := List.length_pos_iff.mpr hne
    have h0 : gx g (0 : Int) ∈ g := gx_mem (by omega) (by omega)
    have i2 := (in_g (ws := ws) hg h0).2
    obtain ⟨b1, b2, b3, b4, b5⟩ := mk_b v.mem
    have := (v.rows _ i2).length_le
    rw [len_rgI] at this
    have e : F_in_common (cs m k ws) g = (((gx ws (gx g 0)).filter fun x => g.all fun j => memT x (gx ws j)).length : Int) := by
      unfold F_in_common
      dsimp only
      simp only [map_idf, all_mapId]
    rw [e]
    have := List.length_filter_le (fun x => g.all fun j => memT x (gx ws j)) (gx ws (gx g 0))
    omega
  unfold F_most_deserved
  split <;> omega
theorem wr_told (v : CS m k ws) (hc : c ∈ chs m k) (hs : Still m k ws c) : F_wronged (cs m k ws) c ("each" : Str) = none ∧ W_wronged (cs m k ws) c ("each" : Str) := by
  have h7 := v.n7
  obtain ⟨k1, k2⟩ := wfold_inv (step := F_first_wronged_s2 (cs m k ws) c ("each" : Str)) (W := W_first_wronged_s2 (cs m k ws) c ("each" : Str)) (fun s => s = none) (l := cutA (F_lots_of (ws.length : Int)) (some (1 : Int)) none) (s := none) rfl fun s g hgm hs0 => by
    subst hs0
    obtain ⟨hne, hg⟩ := (grp_ok v).1 g hgm
    obtain ⟨d1, d2⟩ := desW v hg hne
    have hm0 : 0 ≤ F_most_deserved (cs m k ws) g := by
      unfold F_most_deserved
      split
      · exact Int.natCast_nonneg _
      · exact Int.ediv_nonneg (Int.mul_nonneg (Int.natCast_nonneg _) (Int.natCast_nonneg _)) (Int.natCast_nonneg _)
    obtain ⟨q1, q2⟩ := wfold_inv (step := F_first_wronged_s1 (cs m k ws) c ("each" : Str) g) (W := W_first_wronged_s1 (cs m k ws) c ("each" : Str) g) (fun s => s = none) (l := rgI (1 : Int) (F_most_deserved (cs m k ws) g + (1 : Int))) (s := none) rfl fun s x hx hs1 => by
      subst hs1
      obtain ⟨s1, s2, s3⟩ := des_ok v hg hx
      have hf := told_f (m := m) (k := k) (told_no v hc hs hg hne s1 s2 s3)
      refine ⟨by unfold W_first_wronged_s1; exact ⟨fun h => (by cases h), fun _ => told_wr v hc hg⟩, ?_⟩
      unfold F_first_wronged_s1
      dsimp only
      rw [hf, Bool.and_false]
      rfl
    exact ⟨⟨d1, ⟨by decide, rg62_of (by omega) (by omega)⟩, q1⟩, q2⟩
  exact ⟨k2, v.choice hc, w_word, (lots_w h7).1, k1⟩
theorem due_wr (v : CS m k ws) (hc : c ∈ chs m k) (hg : g.Sublist (rgI 0 (ws.length : Int))) (s1 : 1 ≤ s) (s3 : s ≤ 3) : W__law_is_wronged (cs m k ws) c ("each" : Str) s g := by
  obtain ⟨b1, b2, b3, b4, b5⟩ := mk_b v.mem
  have hl := gl v hg
  have h7 := v.n7
  have hcl := (few v hc).cl
  unfold W__law_is_wronged
  dsimp only
  refine ⟨rg62_of (show (-1000000000 : Int) ≤ (m : Int) by omega) (show (m : Int) ≤ 1000000000 by omega), ?_, fun x hx => ⟨by omega, fun j hj => (in_g hg hj).1⟩, mulFits_l (by omega), mulFits_l (by omega), fun _ => ⟨⟨lay_each.1, lay_each.1⟩, fun _ => ⟨by omega, fun i hi => ⟨(in_g hg hi).1, by show c.length < _; omega⟩⟩, fun h => absurd h (by decide)⟩⟩
  rw [len_rgI]
  show ((m : Int) - 0).toNat < _
  omega
theorem due_f (v : CS m k ws) (hc : c ∈ chs m k) (hs : Still m k ws c) (hg : g.Sublist (rgI 0 (ws.length : Int))) (hne : g ≠ []) (s1 : 1 ≤ s) : F__law_is_wronged (cs m k ws) c ("each" : Str) s g = false := by
  unfold F__law_is_wronged
  dsimp only
  simp only [map_idf, all_mapId]
  by_cases h : (decide ((g.length : Int) * (k : Int) < s * (ws.length : Int)) || decide ((((rgI 0 (m : Int)).filter fun x => g.all fun j => memT x (gx ws j)).length : Int) < s)) = true
  · rw [if_pos h]
  · rw [if_neg h, if_pos (by decide)]
    rw [Bool.or_eq_true, decide_eq_true_eq, decide_eq_true_eq, not_or] at h
    obtain ⟨i, hi, hge⟩ := due_no v hc hs hg hne s1 (by omega) (by omega)
    refine Bool.eq_false_iff.mpr fun e => ?_
    have := of_decide_eq_true (List.all_eq_true.mp e i hi)
    rw [(row_ok v (in_g hg hi).2 hc).com] at this
    omega
theorem wr_due (v : CS m k ws) (hc : c ∈ chs m k) (hs : Still m k ws c) : F__law_wronged (cs m k ws) c ("each" : Str) = none ∧ W__law_wronged (cs m k ws) c ("each" : Str) := by
  obtain ⟨b1, b2, b3, b4, b5⟩ := mk_b v.mem
  have h7 := v.n7
  obtain ⟨l1, l2, l3, l4⟩ := lots_w h7
  have grp : ∀ g ∈ F__law_groups (cs m k ws), g ≠ [] ∧ g.Sublist (rgI 0 (ws.length : Int)) := fun g hg => by
    unfold F__law_groups at hg
    rw [map_idf] at hg
    obtain ⟨h1, h2⟩ := List.mem_filter.mp hg
    refine ⟨fun e => ?_, (grp_ok v).2 g h1⟩
    subst e
    exact absurd (of_decide_eq_true h2) (by decide)
  have gw : W__law_groups (cs m k ws) := ⟨⟨Int.natCast_nonneg _, by show (ws.length : Int) ≤ _; omega⟩, l2, by show (F__law_lots (rgI 0 (ws.length : Int))).length < _; omega⟩
  obtain ⟨k1, u, k2, _⟩ := wfoldL_inv (step := F__law_wronged_s2 (cs m k ws) c ("each" : Str)) (W := W__law_wronged_s2 (cs m k ws) c ("each" : Str)) (fun _ => True) (l := rgI (1 : Int) ((k : Int) + (1 : Int))) (s := ()) trivial fun s x hx _ => by
    obtain ⟨x1, x2⟩ := mem_rgI.mp hx
    obtain ⟨q1, u, q2, _⟩ := wfoldL_inv (step := F__law_wronged_s1 (cs m k ws) c ("each" : Str) x) (W := W__law_wronged_s1 (cs m k ws) c ("each" : Str) x) (fun _ => True) (l := F__law_groups (cs m k ws)) (s := ()) trivial fun s g hg _ => by
      obtain ⟨hne, hg⟩ := grp g hg
      refine ⟨due_wr v hc hg x1 (by omega), (), ?_, trivial⟩
      unfold F__law_wronged_s1
      rw [due_f v hc hs hg hne x1]
      rfl
    refine ⟨⟨gw, q1⟩, (), ?_, trivial⟩
    unfold F__law_wronged_s2
    dsimp only
    rw [q2]
    rfl
  refine ⟨?_, ⟨⟨by decide, rg62_of (show (-1000000000 : Int) ≤ (k : Int) + 1 by omega) (show (k : Int) + 1 ≤ 1000000000 by omega)⟩, k1⟩⟩
  unfold F__law_wronged
  dsimp only
  have k2 : foldL (F__law_wronged_s2 (cs m k ws) c ("each" : Str)) () (rgI (1 : Int) ((cs m k ws).2.1 + (1 : Int))) = .ok u := k2
  rw [k2]
  rfl
end
end K18
set_option Elab.async false
set_option linter.all false
set_option maxRecDepth 100000
set_option maxHeartbeats 4000000
namespace K18
open PySem L2 Pv Tv PyProof.Rows
section
variable {α β ρ σ : Type}
theorem foldL_sim {step : σ → α → Lp σ ρ} {W : σ → α → Prop} (R : β → σ) (f : β → α → β) (I : β → Prop) : ∀ {l : List α} {b : β}, I b → (∀ b, ∀ x ∈ l, I b → W (R b) x ∧ step (R b) x = .nx (R (f b x)) ∧ I (f b x)) → WFoldL step W (R b) l ∧ foldL step (R b) l = .ok (R (l.foldl f b)) ∧ I (l.foldl f b)
  | [], b, h, _ => ⟨trivial, rfl, h⟩
  | x :: l, b, h, k => by
    obtain ⟨h1, h2, h3⟩ := k b x List.mem_cons_self h
    obtain ⟨i1, i2, i3⟩ := foldL_sim R f I (l := l) h3 fun b y hy => k b y (List.mem_cons_of_mem _ hy)
    unfold WFoldL foldL
    rw [h2]
    exact ⟨⟨h1, i1⟩, i2, i3⟩
theorem fold_sim {step : σ → α → σ} {W : σ → α → Prop} (R : β → σ) (f : β → α → β) (I : β → Prop) : ∀ {l : List α} {b : β}, I b → (∀ b, ∀ x ∈ l, I b → W (R b) x ∧ step (R b) x = R (f b x) ∧ I (f b x)) → WFold step W (R b) l ∧ l.foldl step (R b) = R (l.foldl f b)
  | [], b, h, _ => ⟨trivial, rfl⟩
  | x :: l, b, h, k => by
    obtain ⟨h1, h2, h3⟩ := k b x List.mem_cons_self h
    obtain ⟨i1, i2⟩ := fold_sim R f I (l := l) h3 fun b y hy => k b y (List.mem_cons_of_mem _ hy)
    rw [List.foldl_cons, List.foldl_cons, h2]
    exact ⟨⟨h1, by rw [h2]; exact i1⟩, i2⟩
end
/-! ### the best choice -/
def bs (ws : List (List Int)) (b : Option (List Int)) (c : List Int) : Option (List Int) := match b with
  | none => some c
  | some d => if sc ws d < sc ws c then some c else some d
def eb (ws : List (List Int)) (b : Option (List Int)) : Option ((Int × Int) × List Int) := b.map fun c => (frP (s12 (sc ws c)), c)
theorem bs_fold {ws : List (List Int)} : ∀ {l : List (List Int)} {d : List Int}, ∃ e, l.foldl (bs ws) (some d) = some e ∧ (e = d ∨ e ∈ l) ∧ sc ws d ≤ sc ws e ∧ ∀ c ∈ l, sc ws c ≤ sc ws e
  | [], d => ⟨d, rfl, .inl rfl, Int.le_refl _, fun c h => by cases h⟩
  | x :: l, d => by
    rw [List.foldl_cons]
    unfold bs
    dsimp only
    by_cases h : sc ws d < sc ws x
    · rw [if_pos h]
      obtain ⟨e, e1, e2, e3, e4⟩ := bs_fold (l := l) (d := x)
      refine ⟨e, e1, .inr ?_, by omega, fun c hc => ?_⟩
      · rcases e2 with rfl | e2
        · exact List.mem_cons_self
        · exact List.mem_cons_of_mem _ e2
      · rcases List.mem_cons.mp hc with rfl | hc
        · exact e3
        · exact e4 c hc
    · rw [if_neg h]
      obtain ⟨e, e1, e2, e3, e4⟩ := bs_fold (l := l) (d := d)
      refine ⟨e, e1, ?_, e3, fun c hc => ?_⟩
      · rcases e2 with rfl | e2
        · exact .inl rfl
        · exact .inr (List.mem_cons_of_mem _ e2)
      · rcases List.mem_cons.mp hc with rfl | hc
        · omega
        · exact e4 c hc
section
variable {m k : Nat} {ws : List (List Int)} {c r g : List Int} {w x s : Int} {b : Option (List Int)}
def Ib (m k : Nat) (b : Option (List Int)) : Prop := ∀ d, b = some d → d ∈ chs m k
theorem bs_in (hb : Ib m k b) (hc : c ∈ chs m k) : Ib m k (bs ws b c) := by
  intro d hd
  unfold bs at hd
  cases b with
  | none => cases hd; exact hc
  | some e0 =>
    dsimp only at hd
    have h0 := hb e0 rfl
    split at hd
    · cases hd; exact hc
    · cases hd; exact h0
theorem less12 (v : CS m k ws) {d : List Int} (hd : d ∈ chs m k) (hc : c ∈ chs m k) : F_is_below (frP (s12 (sc ws d))) (frP (s12 (sc ws c))) = decide (sc ws d < sc ws c) ∧ W_is_below (frP (s12 (sc ws d))) (frP (s12 (sc ws c))) ∧ F__law_is_less (frP (s12 (sc ws d))) (frP (s12 (sc ws c))) = decide (sc ws d < sc ws c) ∧ W__law_is_less (frP (s12 (sc ws d))) (frP (s12 (sc ws c))) := by
  have h1 := nice_sc (few v hd)
  have h2 := nice_sc (few v hc)
  obtain ⟨a1, a2⟩ := below_ok h1 h2
  obtain ⟨a3, a4⟩ := lless_ok h1 h2
  have e : decide (s12 (sc ws d) < s12 (sc ws c)) = decide (sc ws d < sc ws c) := decide_eq_decide.mpr (sq_lt (by decide))
  rw [e] at a1 a3
  exact ⟨a1, a2, a3, a4⟩
theorem best_ok (v : CS m k ws) : F_best_sum (cs m k ws) = eb ws ((chs m k).foldl (bs ws) none) ∧ W_best_sum (cs m k ws) := by
  obtain ⟨c1, c2, _⟩ := choices_ok v
  obtain ⟨f1, f2⟩ := fold_sim (step := F_best_sum_s1 (cs m k ws)) (W := W_best_sum_s1 (cs m k ws)) (eb ws) (bs ws) (Ib m k) (l := chs m k) (b := none) (fun d h => by cases h) fun b c hc hb => by
    obtain ⟨r1, r2⟩ := raw_ok (m := m) (k := k) (few v hc)
    refine ⟨?_, ?_, bs_in hb hc⟩
    · unfold W_best_sum_s1
      refine ⟨r2, fun h => ?_⟩
      cases b with
      | none => cases h
      | some d => exact ⟨rfl, by rw [r1]; exact (less12 v (hb d rfl) hc).2.1⟩
    · unfold F_best_sum_s1
      dsimp only
      rw [r1]
      cases b with
      | none => rfl
      | some d =>
        have e := (less12 v (hb d rfl) hc).1
        show (if (false || F_is_below (frP (s12 (sc ws d))) (frP (s12 (sc ws c)))) = true then _ else _) = _
        rw [e, Bool.false_or]
        unfold bs
        dsimp only
        by_cases h : sc ws d < sc ws c
        · rw [if_pos (decide_eq_true h), if_pos h]; rfl
        · rw [if_neg (by rw [decide_eq_false h]; simp), if_neg h]
  constructor
  · unfold F_best_sum
    dsimp only
    rw [c1]
    exact f2
  · refine ⟨v.case.2, c2, ?_⟩
    rw [c1]
    exact f1
theorem best_some (v : CS m k ws) : ∃ e, (chs m k).foldl (bs ws) none = some e ∧ e ∈ chs m k ∧ ∀ c ∈ chs m k, sc ws c ≤ sc ws e := by
  have hne := (chs_ok v.mem).2.1
  generalize chs m k = l at hne
  cases l with
  | nil => exact absurd rfl hne
  | cons d l =>
    obtain ⟨e, e1, e2, e3, e4⟩ := bs_fold (ws := ws) (l := l) (d := d)
    refine ⟨e, e1, ?_, fun c hc => ?_⟩
    · rcases e2 with rfl | e2
      · exact List.mem_cons_self
      · exact List.mem_cons_of_mem _ e2
    · rcases List.mem_cons.mp hc with rfl | hc
      · exact e3
      · exact e4 c hc
theorem top_still (v : CS m k ws) (hc : c ∈ chs m k) (ht : ∀ d ∈ chs m k, sc ws d ≤ sc ws c) : Still m k ws c := by
  intro w hw x x0 x1 hx
  have ho := ((chs_ok v.mem).2.2.2.2 c hc).ex w hw x x0 x1 hx
  have := ht _ ho
  have h1 := v.n1
  refine decide_eq_true ?_
  have hm : (k * k : Int) * sc ws (oth c w x) ≤ (k * k : Int) * sc ws c := Int.mul_le_mul_of_nonneg_left this (Int.mul_nonneg (by omega) (by omega))
  omega
theorem rok_fr {q : Rat} (h : Nice q) : ROk 10000 2 (eP eI eI (frP q)) := by
  have h1 := h.nu
  have h2 := h.de
  refine (rok_tup (w := 1921) (n := 1) (N := 2) (fun d hd => ?_) (by simp)).mono (by decide) (by decide)
  simp only [List.mem_cons, List.not_mem_nil, or_false] at hd
  rcases hd with rfl | rfl
  · exact rok_int (by show _ < q.num ∧ q.num < _; omega)
  · exact rok_int (by show _ < ((q.den : Nat) : Int) ∧ ((q.den : Nat) : Int) < _; omega)
end
end K18
set_option Elab.async false
set_option linter.all false
set_option maxRecDepth 100000
set_option maxHeartbeats 4000000
namespace K18
open PySem L2 Pv Tv PyProof.Rows
section
variable {m k : Nat} {ws : List (List Int)} {c r g : List Int} {w x s : Int} {b : Option (List Int)} {t : T}
theorem rok_cfr (v : CS m k ws) (hc : c ∈ chs m k) : reprOk (eP eI eI (frP (s12 (sc ws c)))) = true := (rok_fr (nice_sc (few v hc))).ok (by decide) (by decide)
theorem rok_pair {a b : Int} (ha : 0 ≤ a ∧ a < 100) (hb : 0 ≤ b ∧ b < 100) : ROk 10000 2 (eP eI eI (a, b)) := by
  refine (rok_tup (w := 1921) (n := 1) (N := 2) (fun d hd => ?_) (by simp)).mono (by decide) (by decide)
  simp only [List.mem_cons, List.not_mem_nil, or_false] at hd
  rcases hd with rfl | rfl
  · exact rok_int (by show _ < a ∧ a < _; omega)
  · exact rok_int (by show _ < b ∧ b < _; omega)
theorem rok_nx (v : CS m k ws) (hc : c ∈ chs m k) : reprOk (eO (eP eI eI) (NX m k ws c)) = true := by
  obtain ⟨b1, b2, b3, b4, b5⟩ := mk_b v.mem
  cases h : NX m k ws c with
  | none => exact (rok_none).ok (by decide) (by decide)
  | some p =>
    unfold NX at h
    obtain ⟨w, hw, h⟩ := List.exists_of_findSome?_eq_some h
    obtain ⟨x, hx, h⟩ := List.exists_of_findSome?_eq_some h
    unfold IX at h
    split at h
    · split at h
      · cases h
      · cases h
        have := ((chs_ok v.mem).2.2.2.2 c hc).rng w hw
        have := mem_rgI.mp hx
        exact (rok_pair (by omega) (by omega)).ok (by decide) (by decide)
    · cases h
theorem rok_best (v : CS m k ws) (hc : c ∈ chs m k) : reprOk (eO (eP (eP eI eI) (eT eI)) (eb ws (some c))) = true := by
  obtain ⟨b1, b2, b3, b4, b5⟩ := mk_b v.mem
  have hf := (chs_ok v.mem).2.2.2.2 c hc
  have : ROk 100000 3 (eP (eP eI eI) (eT eI) (frP (s12 (sc ws c)), c)) := by
    refine (rok_tup (w := 20000) (n := 2) (N := 2) (fun d hd => ?_) (by simp)).mono (by decide) (by decide)
    simp only [List.mem_cons, List.not_mem_nil, or_false] at hd
    rcases hd with rfl | rfl
    · exact (rok_fr (nice_sc (few v hc))).mono (by decide) (by decide)
    · refine (rok_tup (w := 1921) (n := 1) (N := 7) (fun d hd => ?_) ?_).mono (by decide) (by decide)
      · obtain ⟨y, hy, rfl⟩ := List.mem_map.mp hd
        have := hf.rng y hy
        exact rok_int (by omega)
      · rw [List.length_map]; exact (few v hc).cl
  exact this.ok (by decide) (by decide)
theorem sum_of_ok (v : CS m k ws) (hc : c ∈ chs m k) : F_sum_of (cs m k ws) c = frP (s12 (sc ws c)) ∧ W_sum_of (cs m k ws) c := by
  obtain ⟨r1, r2⟩ := raw_ok (m := m) (k := k) (few v hc)
  exact ⟨r1, v.choice hc, r2⟩
theorem right_step (v : CS m k ws) (hc : c ∈ chs m k) (hb : Ib m k b) : W__law_is_right_s1 (cs m k ws) (eb ws b) c ∧ F__law_is_right_s1 (cs m k ws) (eb ws b) c = .nx (eb ws (bs ws b c)) := by
  obtain ⟨s1, s2⟩ := sum_of_ok v hc
  obtain ⟨l1, l2⟩ := lsum_ok (m := m) (k := k) (few v hc)
  obtain ⟨n1, n2⟩ := nox_ok v hc
  obtain ⟨x1, x2⟩ := lex_ok v hc
  have hr := rok_cfr v hc
  have hn := rok_nx v hc
  have best : (if ((Option.isNone (eb ws b)) || (F__law_is_less (((gO (eb ws b))).1) (frP (s12 (sc ws c))))) = true then (some (frP (s12 (sc ws c)), c)) else eb ws b) = eb ws (bs ws b c) := by
    cases b with
    | none => rfl
    | some d =>
      have e := (less12 v (hb d rfl) hc).2.2.1
      show (if (false || F__law_is_less (frP (s12 (sc ws d))) (frP (s12 (sc ws c)))) = true then _ else _) = _
      rw [e, Bool.false_or]
      unfold bs
      dsimp only
      by_cases h : sc ws d < sc ws c
      · rw [if_pos (decide_eq_true h), if_pos h]; rfl
      · rw [if_neg (by rw [decide_eq_false h]; simp), if_neg h]
  have wr : (Option.isNone (NX m k ws c) && !Option.isNone (F_wronged (cs m k ws) c ("each" : Str))) = false := by
    cases h : NX m k ws c with
    | some p => rfl
    | none => rw [(wr_told v hc (nx_none.mp h)).1]; rfl
  constructor
  · unfold W__law_is_right_s1
    rw [s1, l1, n1, x1]
    refine ⟨s2, hr, l2, hr, fun _ => ⟨fun h => ?_, n2, hn, x2, hn, fun _ => ⟨n2, fun h => ?_⟩⟩⟩
    · cases b with
      | none => cases h
      | some d => exact ⟨rfl, (less12 v (hb d rfl) hc).2.2.2⟩
    · exact (wr_told v hc (nx_none.mp (Option.isNone_iff_eq_none.mp h))).2
  · unfold F__law_is_right_s1
    dsimp only
    rw [s1, l1, n1, x1, best, decide_eq_true rfl, decide_eq_true rfl, wr]
    rfl
theorem right_ok (v : CS m k ws) : F__law_is_right (cs m k ws) = true ∧ W__law_is_right (cs m k ws) := by
  obtain ⟨b1, b2, b3, b4, b5⟩ := mk_b v.mem
  obtain ⟨c1, c2, c3, c4⟩ := choices_ok v
  obtain ⟨f1, f2, f3⟩ := foldL_sim (step := F__law_is_right_s1 (cs m k ws)) (W := W__law_is_right_s1 (cs m k ws)) (eb ws) (bs ws) (Ib m k) (l := chs m k) (b := none) (fun d h => by cases h) fun b c hc hb => ⟨(right_step v hc hb).1, (right_step v hc hb).2, bs_in hb hc⟩
  obtain ⟨e, e1, e2, e3⟩ := best_some v
  rw [e1] at f2
  obtain ⟨g1, g2⟩ := best_ok v
  rw [e1] at g1
  have hst := top_still v e2 e3
  have hnx : NX m k ws e = none := nx_none.mpr hst
  obtain ⟨n1, n2⟩ := nox_ok v e2
  rw [hnx] at n1
  have tops : ∀ c ∈ (chs m k).filter (fun x => decide (F_sum_of (cs m k ws) x = (gO (eb ws (some e))).1)), c ∈ chs m k ∧ Still m k ws c := fun c hc => by
    obtain ⟨h1, h2⟩ := List.mem_filter.mp hc
    have h2 := of_decide_eq_true h2
    rw [(sum_of_ok v h1).1] at h2
    have h2 : frP (s12 (sc ws c)) = frP (s12 (sc ws e)) := h2
    have h3 := sq_inj (by decide) (frP_inj h2)
    exact ⟨h1, top_still v h1 fun d hd => by rw [h3]; exact e3 d hd⟩
  have hl : (chs m k).length ≤ 32 := by
    have := (chs_ok v.mem).2.2.1
    exact Nat.le_trans (List.length_filter_le _ _) this
  have n1' : F_no_exchange (cs m k ws) (gO (eb ws (some e))).2 = none := n1
  constructor
  · unfold F__law_is_right
    dsimp only
    rw [c3]
    have f2 : foldL (F__law_is_right_s1 (cs m k ws)) none (chs m k) = .ok (eb ws (some e)) := f2
    rw [f2]
    dsimp only [exC]
    rw [g1, decide_eq_true rfl, n1']
    dsimp only [Option.isNone_none, Bool.not_true, Bool.or_self]
    rw [if_neg (by decide), map_idf, all_mapId, List.all_eq_true]
    intro c hc
    obtain ⟨h1, h2⟩ := tops c hc
    rw [(wr_due v h1 h2).1]
    rfl
  · unfold W__law_is_right
    dsimp only
    rw [c3]
    refine ⟨c4, f1, fun z hz => ?_⟩
    have f2 : foldL (F__law_is_right_s1 (cs m k ws)) none (chs m k) = .ok (eb ws (some e)) := f2
    rw [f2] at hz
    cases hz
    rw [g1, map_idf]
    refine ⟨g2, rok_best v e2, rok_best v e2, fun _ => ⟨rfl, n2⟩, fun _ => ⟨c4, by omega, fun c hc => ⟨(sum_of_ok v hc).2, rfl⟩, ?_, fun c hc => ?_⟩⟩
    · exact Nat.lt_of_le_of_lt (List.length_filter_le _ _) (by omega)
    · obtain ⟨h1, h2⟩ := tops c hc
      exact (wr_due v h1 h2).2
/-! ### a drawn case -/
theorem dr {many : Int} (ht : HandC t) (h1 : 1 ≤ many) (h2 : many < 1000) : W__law_draw t many ∧ HandC (F__law_draw t many).2 ∧ 0 ≤ (F__law_draw t many).1 ∧ (F__law_draw t many).1 < many := by
  have hw : W__law_draw t many := ⟨ht, h1, by omega⟩
  exact ⟨hw, draw_ok hw⟩
theorem case_ok (ht : HandC t) : W__law_case t ∧ HandC (F__law_case t).2 ∧ ∃ m k ws, (F__law_case t).1 = cs m k ws ∧ CS m k ws := by
  obtain ⟨a1, a2, a3, a4⟩ := dr (many := 5) ht (by decide) (by decide)
  obtain ⟨d1, d2, d3, d4⟩ := dr (many := 5) a2 (by decide) (by decide)
  unfold W__law_case F__law_case
  dsimp only
  generalize F__law_draw t (5 : Int) = r1 at *
  generalize F__law_draw r1.2 (5 : Int) = r2 at *
  have hm : ∃ m : Nat, (1 : Int) + r1.1 = (m : Int) ∧ 1 ≤ m ∧ m ≤ 5 := ⟨(1 + r1.1).toNat, by omega, by omega, by omega⟩
  obtain ⟨m, em, m1, m5⟩ := hm
  rw [em]
  have hlen : (rgI 0 (m : Int)).length < 16777216 := by rw [len_rgI]; omega
  have row : ∀ s, HandC s → WKeepS (fun (s_2 : T) (x_2 : Int) => ((decide ((1 : Int) < (F__law_draw s_2 (5 : Int)).1)), (F__law_draw s_2 (5 : Int)).2)) (fun (s_2 : T) (x_2 : Int) => W__law_draw s_2 (5 : Int)) s (rgI 0 (m : Int)) ∧ HandC (keepS (fun (s_2 : T) (x_2 : Int) => ((decide ((1 : Int) < (F__law_draw s_2 (5 : Int)).1)), (F__law_draw s_2 (5 : Int)).2)) s (rgI 0 (m : Int))).2 := fun s hs =>
    keepS_inv HandC hs fun s x _ hs => by
      obtain ⟨w1, w2, _⟩ := dr (many := 5) hs (by decide) (by decide)
      exact ⟨w1, w2⟩
  obtain ⟨k1, k2, k3, k4⟩ := mapS_inv (step := fun (s_1 : T) (x_1 : Int) => ((keepS (fun (s_2 : T) (x_2 : Int) => ((decide ((1 : Int) < (F__law_draw s_2 (5 : Int)).1)), (F__law_draw s_2 (5 : Int)).2)) s_1 (rgI 0 (m : Int))).1, (keepS (fun (s_2 : T) (x_2 : Int) => ((decide ((1 : Int) < (F__law_draw s_2 (5 : Int)).1)), (F__law_draw s_2 (5 : Int)).2)) s_1 (rgI 0 (m : Int))).2))
    (W := fun (s_1 : T) (x_1 : Int) => (rg62 (m : Int) = true) ∧ (List.length (rgI 0 (m : Int)) < 16777216) ∧ (WKeepS (fun (s_2 : T) (x_2 : Int) => ((decide ((1 : Int) < (F__law_draw s_2 (5 : Int)).1)), (F__law_draw s_2 (5 : Int)).2)) (fun (s_2 : T) (x_2 : Int) => W__law_draw s_2 (5 : Int)) s_1 (rgI 0 (m : Int)))) HandC (fun r => r.Sublist (rgI 0 (m : Int))) (l := rgI 0 ((1 : Int) + r2.1)) (s := r2.2) d2 fun s x _ hs => by
      obtain ⟨w1, w2⟩ := row s hs
      exact ⟨⟨rg62_of (by omega) (by omega), hlen, w1⟩, keepS_sub, w2⟩
  generalize hm2 : mapS _ r2.2 (rgI 0 ((1 : Int) + r2.1)) = m2 at *
  have hl2 : (rgI 0 ((1 : Int) + r2.1)).length = (1 + r2.1).toNat := by rw [len_rgI]; omega
  rw [hl2] at k3
  obtain ⟨e1, e2, e3, e4⟩ := dr (many := 3) k2 (by decide) (by decide)
  generalize F__law_draw m2.2 (3 : Int) = r4 at *
  have hmn : 1 ≤ (if (3 : Int) < (m : Int) then (3 : Int) else (m : Int)) ∧ (if (3 : Int) < (m : Int) then (3 : Int) else (m : Int)) ≤ 3 ∧ (if (3 : Int) < (m : Int) then (3 : Int) else (m : Int)) ≤ m := by
    split <;> omega
  obtain ⟨f1, f2, f3, f4⟩ := dr (many := (if (3 : Int) < (m : Int) then (3 : Int) else (m : Int))) e2 hmn.1 (by omega)
  generalize F__law_draw r4.2 (if (3 : Int) < (m : Int) then (3 : Int) else (m : Int)) = r5 at *
  have hk : ∃ k : Nat, (1 : Int) + r5.1 = (k : Int) ∧ 1 ≤ k ∧ k ≤ 3 ∧ k ≤ m := ⟨(1 + r5.1).toNat, by omega, by omega, by omega, by omega⟩
  obtain ⟨k, ek, kk1, kk3, kkm⟩ := hk
  rw [ek]
  have hcut : (cutA m2.1 none (some (2 : Int))).length ≤ 2 ∧ (cutA m2.1 none (some (2 : Int))).Sublist m2.1 := by
    rw [show cutA m2.1 none (some (2 : Int)) = m2.1.take 2 from cutA_hi _ 2]
    exact ⟨List.length_take_le _ _, List.take_sublist _ _⟩
  refine ⟨⟨a1, d1, rg62_of (by omega) (by omega), by rw [hl2]; omega, k1, e1, fun _ => by omega, f1⟩, f2, m, k, _, rfl, ?_, ?_, ?_, ?_⟩
  · have : ∀ m ∈ [1, 2, 3, 4, 5], ∀ k ∈ [1, 2, 3], k ≤ m → (m, k) ∈ mk := by decide
    exact this m (by simp only [List.mem_cons, List.not_mem_nil, or_false]; omega) k (by simp only [List.mem_cons, List.not_mem_nil, or_false]; omega) kkm
  · split
    · rw [List.length_append]; omega
    · omega
  · split
    · rw [List.length_append]; omega
    · omega
  · intro r hr
    split at hr
    · rcases List.mem_append.mp hr with hr | hr
      · exact k4 r hr
      · exact k4 r (hcut.2.subset hr)
    · exact k4 r hr
end
/-! ### the end -/
def w1 : List (List Int) := [[0], [0, 1], [1], [1]]
def w2 : List (List Int) := [[0, 1]]
theorem v1 : CS 2 1 w1 := ⟨by decide, by decide, by decide, by decide +kernel⟩
theorem v2 : CS 2 2 w2 := ⟨by decide, by decide, by decide, by decide +kernel⟩
theorem law_plain (ns : List Int) (h : ns.length ≤ 63) : G_law [.list (ns.map PyData.int)] = some (.sh (.bool true)) := by
  have hh := (hand_ok h).2
  obtain ⟨k1, k2, k3, k4⟩ := mapS_inv (step := fun (s_1 : T) (x_1 : Int) => (F__law_is_right (F__law_case s_1).1, (F__law_case s_1).2)) (W := fun (s_1 : T) (x_1 : Int) => W__law_case s_1 ∧ W__law_is_right (F__law_case s_1).1) HandC (fun b => b = true) (l := rgI 0 (3 : Int)) (s := F__law_hand ns) hh fun s x _ hs => by
    obtain ⟨c1, c2, m, k, ws, c3, v⟩ := case_ok hs
    rw [c3]
    exact ⟨⟨c1, (right_ok v).2⟩, (right_ok v).1, c2⟩
  have b1 : F_best_sum (cs 2 1 w1) = some ((3, 1), [1]) := by decide +kernel
  have b2 : F_sum_of (cs 2 2 w2) [0, 1] = (3, 2) := by decide +kernel
  have hW : W_law ns := ⟨h, k1, fun _ => ⟨(best_ok v1).2, fun _ => (sum_of_ok v2 (by decide +kernel)).2⟩⟩
  have hF : F_law ns = true := by
    unfold F_law
    dsimp only
    rw [if_neg]
    · rw [Bool.and_eq_true]
      exact ⟨decide_eq_true b1, decide_eq_true b2⟩
    · rw [Bool.not_eq_true, Bool.not_eq_false']
      exact List.all_eq_true.mpr k4
  have := V_law hW
  rw [hF] at this
  exact this
end K18
set_option Elab.async false
set_option linter.all false
set_option maxRecDepth 100000
set_option maxHeartbeats 0
namespace K18
open PySem PySem.Spec PyProof.Rows L2 Pv
def top (i : Nat) : Stmt := PySem.Challenge.pw_slipfree_k18_whole_sums_of_choices.main.body.getD i (.Pass ⟨0, 0, 0, 0⟩)
abbrev s__law_mixed : Stmt := top 42
def d__law_mixed : He.DefD := ⟨("_law_mixed", none), "_law_mixed", "_law_mixed", defArgs s__law_mixed, defBody s__law_mixed, defScope s__law_mixed, [], []⟩
abbrev s__law_draw : Stmt := top 43
def d__law_draw : He.DefD := ⟨("_law_draw", none), "_law_draw", "_law_draw", defArgs s__law_draw, defBody s__law_draw, defScope s__law_draw, [], []⟩
abbrev s__law_case : Stmt := top 45
def d__law_case : He.DefD := ⟨("_law_case", none), "_law_case", "_law_case", defArgs s__law_case, defBody s__law_case, defScope s__law_case, [], []⟩
abbrev s__law_hand : Stmt := top 41
def d__law_hand : He.DefD := ⟨("_law_hand", none), "_law_hand", "_law_hand", defArgs s__law_hand, defBody s__law_hand, defScope s__law_hand, [], []⟩
abbrev s__law_lots : Stmt := top 46
def d__law_lots : He.DefD := ⟨("_law_lots", none), "_law_lots", "_law_lots", defArgs s__law_lots, defBody s__law_lots, defScope s__law_lots, [], []⟩
abbrev s__law_choices : Stmt := top 47
def d__law_choices : He.DefD := ⟨("_law_choices", none), "_law_choices", "_law_choices", defArgs s__law_choices, defBody s__law_choices, defScope s__law_choices, [], []⟩
abbrev s__law_is_less : Stmt := top 55
def d__law_is_less : He.DefD := ⟨("_law_is_less", none), "_law_is_less", "_law_is_less", defArgs s__law_is_less, defBody s__law_is_less, defScope s__law_is_less, [], []⟩
abbrev s__law_low : Stmt := top 52
def d__law_low : He.DefD := ⟨("_law_low", none), "_law_low", "_law_low", defArgs s__law_low, defBody s__law_low, defScope s__law_low, [], []⟩
abbrev s__law_minus : Stmt := top 54
def d__law_minus : He.DefD := ⟨("_law_minus", none), "_law_minus", "_law_minus", defArgs s__law_minus, defBody s__law_minus, defScope s__law_minus, [], []⟩
abbrev s__law_common : Stmt := top 49
def d__law_common : He.DefD := ⟨("_law_common", none), "_law_common", "_law_common", defArgs s__law_common, defBody s__law_common, defScope s__law_common, [], []⟩
abbrev s__law_plus : Stmt := top 53
def d__law_plus : He.DefD := ⟨("_law_plus", none), "_law_plus", "_law_plus", defArgs s__law_plus, defBody s__law_plus, defScope s__law_plus, [], []⟩
abbrev s__law_total : Stmt := top 56
def d__law_total : He.DefD := ⟨("_law_total", none), "_law_total", "_law_total", defArgs s__law_total, defBody s__law_total, defScope s__law_total, [], []⟩
abbrev s__law_sum : Stmt := top 57
def d__law_sum : He.DefD := ⟨("_law_sum", none), "_law_sum", "_law_sum", defArgs s__law_sum, defBody s__law_sum, defScope s__law_sum, [], []⟩
abbrev s__law_exchange : Stmt := top 58
def d__law_exchange : He.DefD := ⟨("_law_exchange", none), "_law_exchange", "_law_exchange", defArgs s__law_exchange, defBody s__law_exchange, defScope s__law_exchange, [], []⟩
abbrev s__law_groups : Stmt := top 48
def d__law_groups : He.DefD := ⟨("_law_groups", none), "_law_groups", "_law_groups", defArgs s__law_groups, defBody s__law_groups, defScope s__law_groups, [], []⟩
abbrev s__law_is_wronged : Stmt := top 50
def d__law_is_wronged : He.DefD := ⟨("_law_is_wronged", none), "_law_is_wronged", "_law_is_wronged", defArgs s__law_is_wronged, defBody s__law_is_wronged, defScope s__law_is_wronged, [], []⟩
abbrev s__law_wronged : Stmt := top 51
def d__law_wronged : He.DefD := ⟨("_law_wronged", none), "_law_wronged", "_law_wronged", defArgs s__law_wronged, defBody s__law_wronged, defScope s__law_wronged, [], []⟩
abbrev s_is_integer : Stmt := top 6
def d_is_integer : He.DefD := ⟨("is_integer", none), "is_integer", "is_integer", defArgs s_is_integer, defBody s_is_integer, defScope s_is_integer, [], []⟩
abbrev s_is_within : Stmt := top 7
def d_is_within : He.DefD := ⟨("is_within", none), "is_within", "is_within", defArgs s_is_within, defBody s_is_within, defScope s_is_within, [], []⟩
abbrev s_is_lot : Stmt := top 8
def d_is_lot : He.DefD := ⟨("is_lot", none), "is_lot", "is_lot", defArgs s_is_lot, defBody s_is_lot, defScope s_is_lot, [], []⟩
abbrev s_is_table : Stmt := top 9
def d_is_table : He.DefD := ⟨("is_table", none), "is_table", "is_table", defArgs s_is_table, defBody s_is_table, defScope s_is_table, [], []⟩
abbrev s_is_case : Stmt := top 23
def d_is_case : He.DefD := ⟨("is_case", none), "is_case", "is_case", defArgs s_is_case, defBody s_is_case, defScope s_is_case, [], []⟩
abbrev s_check_case : Stmt := top 24
def d_check_case : He.DefD := ⟨("check_case", none), "check_case", "check_case", defArgs s_check_case, defBody s_check_case, defScope s_check_case, [], []⟩
abbrev s_lots_of : Stmt := top 28
def d_lots_of : He.DefD := ⟨("lots_of", none), "lots_of", "lots_of", defArgs s_lots_of, defBody s_lots_of, defScope s_lots_of, [], []⟩
abbrev s_choices_in : Stmt := top 35
def d_choices_in : He.DefD := ⟨("choices_in", none), "choices_in", "choices_in", defArgs s_choices_in, defBody s_choices_in, defScope s_choices_in, [], []⟩
abbrev s_is_below : Stmt := top 14
def d_is_below : He.DefD := ⟨("is_below", none), "is_below", "is_below", defArgs s_is_below, defBody s_is_below, defScope s_is_below, [], []⟩
abbrev s_both : Stmt := top 26
def d_both : He.DefD := ⟨("both", none), "both", "both", defArgs s_both, defBody s_both, defScope s_both, [], []⟩
abbrev s_liked_by : Stmt := top 27
def d_liked_by : He.DefD := ⟨("liked_by", none), "liked_by", "liked_by", defArgs s_liked_by, defBody s_liked_by, defScope s_liked_by, [], []⟩
abbrev s_common : Stmt := top 11
def d_common : He.DefD := ⟨("common", none), "common", "common", defArgs s_common, defBody s_common, defScope s_common, [], []⟩
abbrev s_made : Stmt := top 12
def d_made : He.DefD := ⟨("made", none), "made", "made", defArgs s_made, defBody s_made, defScope s_made, [], []⟩
abbrev s_plus : Stmt := top 13
def d_plus : He.DefD := ⟨("plus", none), "plus", "plus", defArgs s_plus, defBody s_plus, defScope s_plus, [], []⟩
abbrev s_total_of : Stmt := top 15
def d_total_of : He.DefD := ⟨("total_of", none), "total_of", "total_of", defArgs s_total_of, defBody s_total_of, defScope s_total_of, [], []⟩
abbrev s_raw_sum : Stmt := top 36
def d_raw_sum : He.DefD := ⟨("raw_sum", none), "raw_sum", "raw_sum", defArgs s_raw_sum, defBody s_raw_sum, defScope s_raw_sum, [], []⟩
abbrev s_best_sum : Stmt := top 38
def d_best_sum : He.DefD := ⟨("best_sum", none), "best_sum", "best_sum", defArgs s_best_sum, defBody s_best_sum, defScope s_best_sum, [], []⟩
abbrev s_check_choice : Stmt := top 25
def d_check_choice : He.DefD := ⟨("check_choice", none), "check_choice", "check_choice", defArgs s_check_choice, defBody s_check_choice, defScope s_check_choice, [], []⟩
abbrev s_no_exchange : Stmt := top 39
def d_no_exchange : He.DefD := ⟨("no_exchange", none), "no_exchange", "no_exchange", defArgs s_no_exchange, defBody s_no_exchange, defScope s_no_exchange, [], []⟩
abbrev s_sum_of : Stmt := top 37
def d_sum_of : He.DefD := ⟨("sum_of", none), "sum_of", "sum_of", defArgs s_sum_of, defBody s_sum_of, defScope s_sum_of, [], []⟩
abbrev s_check_word : Stmt := top 33
def d_check_word : He.DefD := ⟨("check_word", none), "check_word", "check_word", defArgs s_check_word, defBody s_check_word, defScope s_check_word, [], []⟩
abbrev s_is_wronged : Stmt := top 31
def d_is_wronged : He.DefD := ⟨("is_wronged", none), "is_wronged", "is_wronged", defArgs s_is_wronged, defBody s_is_wronged, defScope s_is_wronged, [], []⟩
abbrev s_in_common : Stmt := top 29
def d_in_common : He.DefD := ⟨("in_common", none), "in_common", "in_common", defArgs s_in_common, defBody s_in_common, defScope s_in_common, [], []⟩
abbrev s_most_deserved : Stmt := top 30
def d_most_deserved : He.DefD := ⟨("most_deserved", none), "most_deserved", "most_deserved", defArgs s_most_deserved, defBody s_most_deserved, defScope s_most_deserved, [], []⟩
abbrev s_first_wronged : Stmt := top 32
def d_first_wronged : He.DefD := ⟨("first_wronged", none), "first_wronged", "first_wronged", defArgs s_first_wronged, defBody s_first_wronged, defScope s_first_wronged, [], []⟩
abbrev s_wronged : Stmt := top 34
def d_wronged : He.DefD := ⟨("wronged", none), "wronged", "wronged", defArgs s_wronged, defBody s_wronged, defScope s_wronged, [], []⟩
abbrev s__law_is_right : Stmt := top 59
def d__law_is_right : He.DefD := ⟨("_law_is_right", none), "_law_is_right", "_law_is_right", defArgs s__law_is_right, defBody s__law_is_right, defScope s__law_is_right, [], []⟩
abbrev s_law : Stmt := top 60
def d_law : He.DefD := ⟨("law", none), "law", "law", defArgs s_law, defBody s_law, defScope s_law, [], []⟩
def fn : List He.DefD := [d__law_mixed, d__law_draw, d__law_case, d__law_hand, d__law_lots, d__law_choices, d__law_is_less, d__law_low, d__law_minus, d__law_common, d__law_plus, d__law_total, d__law_sum, d__law_exchange, d__law_groups, d__law_is_wronged, d__law_wronged, d_is_integer, d_is_within, d_is_lot, d_is_table, d_is_case, d_check_case, d_lots_of, d_choices_in, d_is_below, d_both, d_liked_by, d_common, d_made, d_plus, d_total_of, d_raw_sum, d_best_sum, d_check_choice, d_no_exchange, d_sum_of, d_check_word, d_is_wronged, d_in_common, d_most_deserved, d_first_wronged, d_wronged, d__law_is_right, d_law]
def fa : List He.Fa := [.glo "_law_mixed", .glo "_law_draw", .glo "_law_case", .glo "_law_hand", .glo "_law_lots", .glo "_law_choices", .glo "_law_is_less", .glo "_law_low", .glo "_law_minus", .glo "_law_common", .glo "_law_plus", .glo "_law_total", .glo "_law_sum", .glo "_law_exchange", .glo "_law_groups", .glo "_law_is_wronged", .glo "_law_wronged", .glo "is_integer", .glo "is_within", .glo "is_lot", .glo "is_table", .glo "is_case", .glo "check_case", .glo "lots_of", .glo "choices_in", .glo "is_below", .glo "both", .glo "liked_by", .glo "common", .glo "made", .glo "plus", .glo "total_of", .glo "raw_sum", .glo "best_sum", .glo "check_choice", .glo "no_exchange", .glo "sum_of", .glo "check_word", .glo "is_wronged", .glo "in_common", .glo "most_deserved", .glo "first_wronged", .glo "wronged", .glo "_law_is_right", .glo "law", .glo "ZERO", .free "int", .free "len", .free "abs", .free "range", .free "tuple", .free "min", .free "sorted", .free "list", .free "all", .free "any", .free "isinstance", .free "bool", .free "str", .free "repr", .int "MOST_CANDIDATES" 7, .int "MOST_MEMBERS" 8, .str "EACH" "each", .str "ALL" "all", .str "ONE" "one"]
def gt : List Gt := [("ZERO", [(.int 0), (.int 1)])]
section
variable {P : Program} {w : World} {K : PySem.W.Frag} {mg : Str → Option Value} {base : Heap}
theorem sc__law_mixed : FnScope ["cell", "turn", "number"] ["cell", "turn"] (defScope s__law_mixed) := ⟨rfl, rfl, rfl, by decide +kernel, rfl, by decide +kernel, by decide +kernel⟩
theorem ok__law_mixed (T : TpG fa fn gt K mg) : ∃ fd, Has P w K mg base d__law_mixed ["cell", "turn"] 2 (spP K 2 G__law_mixed) fd := by
  have m_int := T.free 46 (x := "int")
  obtain ⟨fd, F0⟩ := T.c.def_ 0 (d := d__law_mixed) rfl
  have F : FunD K d__law_mixed.name d__law_mixed.qual d__law_mixed.params d__law_mixed.body d__law_mixed.scope [] [] (He.fAd K d__law_mixed.at_) fd := F0
  have bd : Binds K fd ["cell", "turn"] [] := F.bindsN fun _ _ _ _ _ _ us hl => match us, hl with | [_, _], _ => rfl
  have sc := sc__law_mixed
  refine ⟨fd, F, bd, def_ok (n := 2) (N := ["cell", "turn", "number"]) (fb := B__law_mixed) F sc rfl fun cdv A outer s H E hr hgd => ?_⟩
  have hu := good_u (k := 0) hr
  exact (psd_cons (psd_set (by decide) (ps_set sc.nd rfl (by first | exact Or.inl rfl | exact Or.inr rfl) (pd_bin rfl (pe_op opMod_ok (pd_call rfl (pe_callTy bInt_ok rfl m_int PyProof.Rows.boot_int (pad_cons (pd_bin rfl (pe_op opMul_ok (pd_bin rfl (pe_op opAdd_ok (pd_bin rfl (pe_op opAdd_ok (pd_bin rfl (pe_op opMod_ok (pd_callV rfl (pe_callTy bInt_ok rfl m_int PyProof.Rows.boot_int (pa_cons (pv 0) pa_nil))) pd_int)) (pd_binR rfl (pe_op opMul_ok pd_int (pv 1))))) pd_int)) pd_int)) pad_nil))) pd_int))))
    (psd_cons (psd_set (by decide) (ps_set sc.nd rfl (by first | exact Or.inl rfl | exact Or.inr rfl) (pd_bin rfl (pe_op opMod_ok (pd_call rfl (pe_callTy bInt_ok rfl m_int PyProof.Rows.boot_int (pad_cons (pd_binL rfl (pe_op opMul_ok (pv 2) (pd_bin rfl (pe_op opAdd_ok (pd_binL rfl (pe_op opFdiv_ok (pv 2) pd_int)) pd_int)))) pad_nil))) pd_int))))
    (psd_one (psd_ret (pd_bin rfl (pe_op opFdiv_ok (pd_bin rfl (pe_op opMod_ok (pd_call rfl (pe_callTy bInt_ok rfl m_int PyProof.Rows.boot_int (pad_cons (pd_binL rfl (pe_op opMul_ok (pv 2) (pd_bin rfl (pe_op opAdd_ok (pd_binL rfl (pe_op opFdiv_ok (pv 2) pd_int)) pd_int)))) pad_nil))) pd_int)) pd_int))))))
theorem sc__law_draw : FnScope ["hand", "many", "found", "cells", "at", "cell"] ["hand", "many"] (defScope s__law_draw) := ⟨rfl, rfl, rfl, by decide +kernel, rfl, by decide +kernel, by decide +kernel⟩
theorem ok__law_draw (T : TpG fa fn gt K mg) : ∃ fd, Has P w K mg base d__law_draw ["hand", "many"] 3 (spIO K 2 G__law_draw) fd := by
  have m_abs := T.free 48 (x := "abs")
  have m_int := T.free 46 (x := "int")
  have m_len := T.free 47 (x := "len")
  have g__law_mixed := T.glo 0 (x := "_law_mixed")
  obtain ⟨fd__law_mixed, H__law_mixed⟩ := ok__law_mixed (P := P) (w := w) (base := base) T
  obtain ⟨fd, F0⟩ := T.c.def_ 1 (d := d__law_draw) rfl
  have F : FunD K d__law_draw.name d__law_draw.qual d__law_draw.params d__law_draw.body d__law_draw.scope [] [] (He.fAd K d__law_draw.at_) fd := F0
  have bd : Binds K fd ["hand", "many"] [] := F.bindsN fun _ _ _ _ _ _ us hl => match us, hl with | [_, _], _ => rfl
  have sc := sc__law_draw
  refine ⟨fd, F, bd, def_okIO (n := 2) (N := ["hand", "many", "found", "cells", "at", "cell"]) (fb := B__law_draw) F sc rfl fun cdv A outer s H E hr hgd => ?_⟩
  have hu := good_u (k := 1) hr
  exact (psd_cons (psd_asg (by decide) (ps_asg (pd_bin rfl (pe_op opAdd_ok (pd_binL rfl (pe_ix opIx_ok (pv 0) pd_int (fun _ _ => rfl))) pd_int)) (pgd_sub (pg_sub (pv 0) pd_int set_list))))
    (psd_cons (psd_if (ptb_bin rfl (pt_cmpR (opGt_ok ⟨rfl, hu, hgd⟩) (pd_binL rfl (pe_ix opIx_ok (pv 0) pd_int (fun _ _ => rfl))) pd_int (by rfl))) (psd_cons (psd_set (by decide) (ps_set sc.nd rfl (by first | exact Or.inl rfl | exact Or.inr rfl) (pd_binR rfl (pe_op opMod_ok (pd_call rfl (pe_callTy bInt_ok rfl m_int PyProof.Rows.boot_int (pad_cons (pd_binL rfl (pe_ix opIx_ok (pv 0) pd_int (fun _ _ => rfl))) pad_nil))) (pv 1)))))
    (psd_cons (psd_asg (by decide) (ps_asg (pd_binR rfl (pe_op opFdiv_ok (pd_binL rfl (pe_ix opIx_ok (pv 0) pd_int (fun _ _ => rfl))) (pv 1))) (pgd_sub (pg_sub (pv 0) pd_int set_list))))
    (psd_one (psd_retV (pv 2))))) psd_nil)
    (psd_cons (psd_par (by decide) (by decide) (ps_par rfl sc.nd rfl rfl (by decide) rfl rfl (pad_cons (pd_binL rfl (pe_ix opIx_ok (pv 0) pd_int (fun _ _ => rfl))) (pad_cons (pd_binL rfl (pe_ix opIx_ok (pv 0) pd_int (fun _ _ => rfl))) pad_nil)) (by rfl)))
    (psd_cons (psd_asg (by decide) (ps_asg (pd_binL rfl (pe_op opAdd_ok (pv 4) pd_int)) (pgd_sub (pg_sub (pv 0) pd_int set_list))))
    (psd_cons (psd_if (ptb_bin rfl (pt_cmpR (opEq_ok ⟨rfl, hu, hgd⟩) (pd_callV rfl (pe_callB bLen_ok rfl m_len PySem.boot_len (pa_cons (pv 3) pa_nil))) pd_int (by rfl))) (psd_one (psd_ret (pd_binR rfl (pe_op opMod_ok (pd_call rfl (pe_callTy bInt_ok rfl m_int PyProof.Rows.boot_int (pad_cons (pd_def rfl (fun _ _ => gP_len) (pe_callG H__law_mixed.ok (hr.mono (by decide)) hgd rfl g__law_mixed H__law_mixed.F.kp H__law_mixed.b (pad_cons pd_int (pad_cons (pd_binL rfl (pe_ix opIx_ok (pv 0) pd_int (fun _ _ => rfl))) pad_nil)))) pad_nil))) (pv 1))))) psd_nil)
    (psd_cons (psd_set (by decide) (ps_set sc.nd rfl (by first | exact Or.inl rfl | exact Or.inr rfl) (pd_binL rfl (pe_ix opIx_ok (pv 3) (pd_bin rfl (pe_op opMod_ok (pd_callV rfl (pe_callTy bInt_ok rfl m_int PyProof.Rows.boot_int (pa_cons (pv 4) pa_nil))) (pd_callV rfl (pe_callB bLen_ok rfl m_len PySem.boot_len (pa_cons (pv 3) pa_nil))))) (fun _ _ => rfl)))))
    (psd_cons (psd_if (PW.pt (pwd_and (ptb_binL rfl (pt_cmpR (opLt_ok ⟨rfl, hu, hgd⟩) (pv 4) (pd_callV rfl (pe_callB bLen_ok rfl m_len PySem.boot_len (pa_cons (pv 3) pa_nil))) (by rfl))) (pwd_and1 (ptb_bin rfl (pt_cmpR (opGe_ok ⟨rfl, hu, hgd⟩) (pd_callV rfl (pe_callB bAbs_ok rfl m_abs PyProof.Rows.boot_abs (pa_cons (pv 5) pa_nil))) (pd_bin rfl (pe_op opPow_ok pd_int pd_int)) (by rfl)))))) (psd_cons (psd_asg (by decide) (ps_asg (pd_binR rfl (pe_op opFdiv_ok (pd_callV rfl (pe_callB bAbs_ok rfl m_abs PyProof.Rows.boot_abs (pa_cons (pv 5) pa_nil))) (pv 1))) (pgd_sub (pg_sub (pv 0) pd_int set_list))))
    (psd_one (psd_ret (pd_binR rfl (pe_op opMod_ok (pd_call rfl (pe_callTy bInt_ok rfl m_int PyProof.Rows.boot_int (pad_cons (pd_callV rfl (pe_callB bAbs_ok rfl m_abs PyProof.Rows.boot_abs (pa_cons (pv 5) pa_nil))) pad_nil))) (pv 1)))))) psd_nil)
    (psd_one (psd_ret (pd_binR rfl (pe_op opMod_ok (pd_call rfl (pe_callTy bInt_ok rfl m_int PyProof.Rows.boot_int (pad_cons (pd_def rfl (fun _ _ => gP_len) (pe_callG H__law_mixed.ok (hr.mono (by decide)) hgd rfl g__law_mixed H__law_mixed.F.kp H__law_mixed.b (pad_cons (pd_v (pv 5)) (pad_cons (pd_binL rfl (pe_ix opIx_ok (pv 0) pd_int (fun _ _ => rfl))) pad_nil)))) pad_nil))) (pv 1))))))))))))
theorem sc__law_case : FnScope ["hand", "many", "likes", "member", "one"] ["hand"] (defScope s__law_case) := ⟨rfl, rfl, rfl, by decide +kernel, rfl, by decide +kernel, by decide +kernel⟩
theorem ok__law_case (T : TpG fa fn gt K mg) : ∃ fd, Has P w K mg base d__law_case ["hand"] 4 (spIO K 1 G__law_case) fd := by
  have m_min := T.free 51 (x := "min")
  have m_range := T.free 49 (x := "range")
  have m_tuple := T.free 50 (x := "tuple")
  have g__law_draw := T.glo 1 (x := "_law_draw")
  obtain ⟨fd__law_draw, H__law_draw⟩ := ok__law_draw (P := P) (w := w) (base := base) T
  obtain ⟨fd, F0⟩ := T.c.def_ 2 (d := d__law_case) rfl
  have F : FunD K d__law_case.name d__law_case.qual d__law_case.params d__law_case.body d__law_case.scope [] [] (He.fAd K d__law_case.at_) fd := F0
  have bd : Binds K fd ["hand"] [] := F.bindsN fun _ _ _ _ _ _ us hl => match us, hl with | [_], _ => rfl
  have sc := sc__law_case
  refine ⟨fd, F, bd, def_okIO (n := 1) (N := ["hand", "many", "likes", "member", "one"]) (fb := B__law_case) F sc rfl fun cdv A outer s H E hr hgd => ?_⟩
  have hu := good_u (k := 2) hr
  exact (psd_cons (psd_set (by decide) (ps_set sc.nd rfl (by first | exact Or.inl rfl | exact Or.inr rfl) (pd_bin rfl (pe_op opAdd_ok pd_int (pd_defIO rfl (fun _ _ _ => gIO_len) (pe_callG H__law_draw.ok (hr.mono (by decide)) hgd rfl g__law_draw H__law_draw.F.kp H__law_draw.b (pa_cons (pv 0) (pad_cons pd_int pad_nil))))))))
    (psd_cons (psd_setLc (C' := cnN K) (ws := [3]) (own := [3]) (by decide) rfl (by decide) (by decide) (ps_setLc rfl sc.nd rfl rfl (sw_true rfl rfl rfl rfl) (pid_r1 (pi_range1 rfl m_range (pa_cons (pd_bin rfl (pe_op opAdd_ok pd_int (pd_defIO rfl (fun _ _ _ => gIO_len) (pe_callG H__law_draw.ok (hr.mono (by decide)) hgd rfl g__law_draw H__law_draw.F.kp H__law_draw.b (pa_cons (pv 0) (pad_cons pd_int pad_nil)))))) pa_nil))) (own := [("member", 3)]) (blkOk_by (by kernel_rfl)) (fun _ _ _ _ _ => (pgd_name (pg_name sc.nd rfl (by first | exact Or.inl rfl | exact Or.inr rfl)))) (fun _ _ _ _ _ => ptsd_nil) (fun _ _ _ _ _ => (pd_call rfl (pe_callTy bTuple_ok rfl m_tuple PyProof.Rows.boot_tuple (pad_cons (pd_comp (C' := cnN K) (ws := [4]) (own := [4]) rfl (by decide) (by decide) (pe_lc rfl sc.nd (pid_r1 (pi_range1 rfl m_range (pa_cons (pd_v (pv 1)) pa_nil))) (own := [("one", 4)]) (blkOk_by (by kernel_rfl)) (fun _ _ _ _ _ => (pgd_name (pg_name sc.nd rfl (by first | exact Or.inl rfl | exact Or.inr rfl)))) (fun _ _ _ _ _ => (ptsd_one (ptb_bin rfl (pt_cmpR (opGt_ok ⟨rfl, hu, hgd⟩) (pd_defIO rfl (fun _ _ _ => gIO_len) (pe_callG H__law_draw.ok (hr.mono (by decide)) hgd rfl g__law_draw H__law_draw.F.kp H__law_draw.b (pa_cons (pv 0) (pad_cons pd_int pad_nil)))) pd_int (by rfl))))) (fun _ _ _ _ _ => (pd_v (pv 4))))) pad_nil))))))
    (psd_cons (psd_if (ptb_bin rfl (pt_cmpR (opEq_ok ⟨rfl, hu, hgd⟩) (pd_defIO rfl (fun _ _ _ => gIO_len) (pe_callG H__law_draw.ok (hr.mono (by decide)) hgd rfl g__law_draw H__law_draw.F.kp H__law_draw.b (pa_cons (pv 0) (pad_cons pd_int pad_nil)))) pd_int (by rfl))) (psd_one (psd_set (by decide) (ps_set sc.nd rfl (by first | exact Or.inl rfl | exact Or.inr rfl) (pd_binL rfl (pe_op opAdd_ok (pv 2) (pd_slV rfl (pv 2) pod_none (pod_some pd_int))))))) psd_nil)
    (psd_one (psd_ret (pd_tup (pad_cons (pd_v (pv 1)) (pad_cons (pd_bin rfl (pe_op opAdd_ok pd_int (pd_defIO rfl (fun _ _ _ => gIO_len) (pe_callG H__law_draw.ok (hr.mono (by decide)) hgd rfl g__law_draw H__law_draw.F.kp H__law_draw.b (pa_cons (pv 0) (pad_cons (pd_call rfl (pe_callB (bMin_ok ⟨rfl, hu, hgd⟩) rfl m_min PyProof.Rows.boot_min (pad_cons (pd_v (pv 1)) (pad_cons pd_int pad_nil)))) pad_nil)))))) (pad_cons (pd_callV rfl (pe_callTy bTuple_ok rfl m_tuple PyProof.Rows.boot_tuple (pa_cons (pv 2) pa_nil))) pad_nil)))))))))
theorem sc__law_hand : FnScope ["script", "cell"] ["script"] (defScope s__law_hand) := ⟨rfl, rfl, rfl, by decide +kernel, rfl, by decide +kernel, by decide +kernel⟩
theorem ok__law_hand (T : TpG fa fn gt K mg) : ∃ fd, Has P w K mg base d__law_hand ["script"] 2 (spP K 1 G__law_hand) fd := by
  have m_int := T.free 46 (x := "int")
  obtain ⟨fd, F0⟩ := T.c.def_ 3 (d := d__law_hand) rfl
  have F : FunD K d__law_hand.name d__law_hand.qual d__law_hand.params d__law_hand.body d__law_hand.scope [] [] (He.fAd K d__law_hand.at_) fd := F0
  have bd : Binds K fd ["script"] [] := F.bindsN fun _ _ _ _ _ _ us hl => match us, hl with | [_], _ => rfl
  have sc := sc__law_hand
  refine ⟨fd, F, bd, def_ok (n := 1) (N := ["script", "cell"]) (fb := B__law_hand) F sc rfl fun cdv A outer s H E hr hgd => ?_⟩
  have hu := good_u (k := 0) hr
  exact (psd_one (psd_ret (pd_lst (pad_cons (pd_fz (pd_comp (C' := cnN K) (ws := [1]) (own := [1]) rfl (by decide) (by decide) (pe_lc rfl sc.nd (pid_seq rfl (pd_slV rfl (pv 0) pod_none (pod_some pd_int))) (own := [("cell", 1)]) (blkOk_by (by kernel_rfl)) (fun _ _ _ _ _ => (pgd_name (pg_name sc.nd rfl (by first | exact Or.inl rfl | exact Or.inr rfl)))) (fun _ _ _ _ _ => ptsd_nil) (fun _ _ _ _ _ => (pd_callV rfl (pe_callTy bInt_ok rfl m_int PyProof.Rows.boot_int (pa_cons (pv 1) pa_nil))))))) (pad_cons pd_int (pad_cons pd_int (pad_cons pd_int pad_nil)))))))
theorem sc__law_lots : FnScope ["some", "found", "one", "lot"] ["some"] (defScope s__law_lots) := ⟨rfl, rfl, rfl, by decide +kernel, rfl, by decide +kernel, by decide +kernel⟩
theorem ok__law_lots (T : TpG fa fn gt K mg) : ∃ fd, Has P w K mg base d__law_lots ["some"] 2 (spP K 1 G__law_lots) fd := by
  have m_sorted := T.free 52 (x := "sorted")
  obtain ⟨fd, F0⟩ := T.c.def_ 4 (d := d__law_lots) rfl
  have F : FunD K d__law_lots.name d__law_lots.qual d__law_lots.params d__law_lots.body d__law_lots.scope [] [] (He.fAd K d__law_lots.at_) fd := F0
  have bd : Binds K fd ["some"] [] := F.bindsN fun _ _ _ _ _ _ us hl => match us, hl with | [_], _ => rfl
  have sc := sc__law_lots
  refine ⟨fd, F, bd, def_ok (n := 1) (N := ["some", "found", "one", "lot"]) (fb := B__law_lots) F sc rfl fun cdv A outer s H E hr hgd => ?_⟩
  have hu := good_u (k := 0) hr
  exact (psd_cons (psd_set (by decide) (ps_set sc.nd rfl (by first | exact Or.inl rfl | exact Or.inr rfl) (pd_lst (pad_cons (pd_tup pad_nil) pad_nil))))
    (psd_cons (psd_forV (by decide) (ps_for PassesOwn.never rfl (pid_seqV rfl (pv 0)) (pgd_name (pg_name sc.nd rfl (by first | exact Or.inl rfl | exact Or.inr rfl))) (psd_one (psd_set (by decide) (ps_set sc.nd rfl (by first | exact Or.inl rfl | exact Or.inr rfl) (pd_binL rfl (pe_op opAdd_ok (pv 1) (pd_compV (C' := cnN K) (ws := [3]) (own := [3]) rfl (by decide) (by decide) (pe_lc rfl sc.nd (pid_seqV rfl (pv 1)) (own := [("lot", 3)]) (blkOk_by (by kernel_rfl)) (fun _ _ _ _ _ => (pgd_name (pg_name sc.nd rfl (by first | exact Or.inl rfl | exact Or.inr rfl)))) (fun _ _ _ _ _ => ptsd_nil) (fun _ _ _ _ _ => (pd_binL rfl (pe_op opAdd_ok (pv 3) (pd_tup (pad_cons (pd_v (pv 2)) pad_nil))))))))))))))
    (psd_one (psd_ret (pd_callV rfl (pe_callB (bSorted_ok ⟨rfl, hu, hgd⟩) rfl m_sorted PyProof.Rows.boot_sorted (pa_cons (pv 1) pa_nil)))))))
theorem sc__law_choices : FnScope ["case", "lot"] ["case"] (defScope s__law_choices) := ⟨rfl, rfl, rfl, by decide +kernel, rfl, by decide +kernel, by decide +kernel⟩
theorem ok__law_choices (T : TpG fa fn gt K mg) : ∃ fd, Has P w K mg base d__law_choices ["case"] 3 (spP K 1 G__law_choices) fd := by
  have m_len := T.free 47 (x := "len")
  have m_list := T.free 53 (x := "list")
  have m_range := T.free 49 (x := "range")
  have g__law_lots := T.glo 4 (x := "_law_lots")
  obtain ⟨fd__law_lots, H__law_lots⟩ := ok__law_lots (P := P) (w := w) (base := base) T
  obtain ⟨fd, F0⟩ := T.c.def_ 5 (d := d__law_choices) rfl
  have F : FunD K d__law_choices.name d__law_choices.qual d__law_choices.params d__law_choices.body d__law_choices.scope [] [] (He.fAd K d__law_choices.at_) fd := F0
  have bd : Binds K fd ["case"] [] := F.bindsN fun _ _ _ _ _ _ us hl => match us, hl with | [_], _ => rfl
  have sc := sc__law_choices
  refine ⟨fd, F, bd, def_ok (n := 1) (N := ["case", "lot"]) (fb := B__law_choices) F sc rfl fun cdv A outer s H E hr hgd => ?_⟩
  have hu := good_u (k := 1) hr
  exact (psd_one (psd_ret (pd_comp (C' := cnN K) (ws := [1]) (own := [1]) rfl (by decide) (by decide) (pe_lc rfl sc.nd (pid_seq rfl (pd_def rfl (fun _ _ => gP_len) (pe_callG H__law_lots.ok (hr.mono (by decide)) hgd rfl g__law_lots H__law_lots.F.kp H__law_lots.b (pad_cons (pd_lstRg1 (pe_listRg rfl rfl m_list (prg_1 rfl m_range (pd_binL rfl (pe_ix opIx_ok (pv 0) pd_int (fun _ _ => rfl)))))) pad_nil)))) (own := [("lot", 1)]) (blkOk_by (by kernel_rfl)) (fun _ _ _ _ _ => (pgd_name (pg_name sc.nd rfl (by first | exact Or.inl rfl | exact Or.inr rfl)))) (fun _ _ _ _ _ => (ptsd_one (ptb_bin rfl (pt_cmpR (opEq_ok ⟨rfl, hu, hgd⟩) (pd_callV rfl (pe_callB bLen_ok rfl m_len PySem.boot_len (pa_cons (pv 1) pa_nil))) (pd_binL rfl (pe_ix opIx_ok (pv 0) pd_int (fun _ _ => rfl))) (by rfl))))) (fun _ _ _ _ _ => (pd_v (pv 1)))))))
theorem sc__law_is_less : FnScope ["one", "other"] ["one", "other"] (defScope s__law_is_less) := ⟨rfl, rfl, rfl, by decide +kernel, rfl, by decide +kernel, by decide +kernel⟩
theorem ok__law_is_less (T : TpG fa fn gt K mg) : ∃ fd, Has P w K mg base d__law_is_less ["one", "other"] 2 (spP K 2 G__law_is_less) fd := by
  obtain ⟨fd, F0⟩ := T.c.def_ 6 (d := d__law_is_less) rfl
  have F : FunD K d__law_is_less.name d__law_is_less.qual d__law_is_less.params d__law_is_less.body d__law_is_less.scope [] [] (He.fAd K d__law_is_less.at_) fd := F0
  have bd : Binds K fd ["one", "other"] [] := F.bindsN fun _ _ _ _ _ _ us hl => match us, hl with | [_, _], _ => rfl
  have sc := sc__law_is_less
  refine ⟨fd, F, bd, def_ok (n := 2) (N := ["one", "other"]) (fb := B__law_is_less) F sc rfl fun cdv A outer s H E hr hgd => ?_⟩
  have hu := good_u (k := 0) hr
  exact (psd_one (psd_ret (pd_bin rfl (pe_cmpR (opLt_ok ⟨rfl, hu, hgd⟩) (pd_bin rfl (pe_op opMul_ok (pd_binL rfl (pe_ix opIx_ok (pv 0) pd_int (fun _ _ => rfl))) (pd_binL rfl (pe_ix opIx_ok (pv 1) pd_int (fun _ _ => rfl))))) (pd_bin rfl (pe_op opMul_ok (pd_binL rfl (pe_ix opIx_ok (pv 1) pd_int (fun _ _ => rfl))) (pd_binL rfl (pe_ix opIx_ok (pv 0) pd_int (fun _ _ => rfl))))) (by rfl)))))
theorem sc__law_low : FnScope ["top", "bottom", "one", "other"] ["top", "bottom"] (defScope s__law_low) := ⟨rfl, rfl, rfl, by decide +kernel, rfl, by decide +kernel, by decide +kernel⟩
theorem ok__law_low (T : TpG fa fn gt K mg) : ∃ fd, Has P w K mg base d__law_low ["top", "bottom"] 2 (spP K 2 G__law_low) fd := by
  have m_abs := T.free 48 (x := "abs")
  have m_int := T.free 46 (x := "int")
  obtain ⟨fd, F0⟩ := T.c.def_ 7 (d := d__law_low) rfl
  have F : FunD K d__law_low.name d__law_low.qual d__law_low.params d__law_low.body d__law_low.scope [] [] (He.fAd K d__law_low.at_) fd := F0
  have bd : Binds K fd ["top", "bottom"] [] := F.bindsN fun _ _ _ _ _ _ us hl => match us, hl with | [_, _], _ => rfl
  have sc := sc__law_low
  refine ⟨fd, F, bd, def_ok (n := 2) (N := ["top", "bottom", "one", "other"]) (fb := B__law_low) F sc rfl fun cdv A outer s H E hr hgd => ?_⟩
  have hu := good_u (k := 0) hr
  exact (psd_cons (psd_par (by decide) (by decide) (ps_par rfl sc.nd rfl rfl (by decide) rfl rfl (pad_cons (pd_callV rfl (pe_callB bAbs_ok rfl m_abs PyProof.Rows.boot_abs (pa_cons (pv 0) pa_nil))) (pad_cons (pd_v (pv 1)) pad_nil)) (by rfl)))
    (psd_cons (psd_while (ps_while PassesOwn.never (ptb_binL rfl (pt_cmpR (opGt_ok ⟨rfl, hu, hgd⟩) (pv 3) pd_int (by rfl))) (psd_one (psd_par (by decide) (by decide) (ps_par rfl sc.nd rfl rfl (by decide) rfl rfl (pad_cons (pd_v (pv 3)) (pad_cons (pd_binR rfl (pe_op opMod_ok (pd_callV rfl (pe_callTy bInt_ok rfl m_int PyProof.Rows.boot_int (pa_cons (pv 2) pa_nil))) (pv 3))) pad_nil)) (by rfl))))))
    (psd_one (psd_ret (pd_tup (pad_cons (pd_binLR rfl (pe_op opFdiv_ok (pv 0) (pv 2))) (pad_cons (pd_binLR rfl (pe_op opFdiv_ok (pv 1) (pv 2))) pad_nil)))))))
theorem sc__law_minus : FnScope ["one", "other"] ["one", "other"] (defScope s__law_minus) := ⟨rfl, rfl, rfl, by decide +kernel, rfl, by decide +kernel, by decide +kernel⟩
theorem ok__law_minus (T : TpG fa fn gt K mg) : ∃ fd, Has P w K mg base d__law_minus ["one", "other"] 3 (spP K 2 G__law_minus) fd := by
  have g__law_low := T.glo 7 (x := "_law_low")
  obtain ⟨fd__law_low, H__law_low⟩ := ok__law_low (P := P) (w := w) (base := base) T
  obtain ⟨fd, F0⟩ := T.c.def_ 8 (d := d__law_minus) rfl
  have F : FunD K d__law_minus.name d__law_minus.qual d__law_minus.params d__law_minus.body d__law_minus.scope [] [] (He.fAd K d__law_minus.at_) fd := F0
  have bd : Binds K fd ["one", "other"] [] := F.bindsN fun _ _ _ _ _ _ us hl => match us, hl with | [_, _], _ => rfl
  have sc := sc__law_minus
  refine ⟨fd, F, bd, def_ok (n := 2) (N := ["one", "other"]) (fb := B__law_minus) F sc rfl fun cdv A outer s H E hr hgd => ?_⟩
  have hu := good_u (k := 1) hr
  exact (psd_one (psd_ret (pd_def rfl (fun _ _ => gP_len) (pe_callG H__law_low.ok (hr.mono (by decide)) hgd rfl g__law_low H__law_low.F.kp H__law_low.b (pad_cons (pd_bin rfl (pe_op opSub_ok (pd_bin rfl (pe_op opMul_ok (pd_binL rfl (pe_ix opIx_ok (pv 0) pd_int (fun _ _ => rfl))) (pd_binL rfl (pe_ix opIx_ok (pv 1) pd_int (fun _ _ => rfl))))) (pd_bin rfl (pe_op opMul_ok (pd_binL rfl (pe_ix opIx_ok (pv 1) pd_int (fun _ _ => rfl))) (pd_binL rfl (pe_ix opIx_ok (pv 0) pd_int (fun _ _ => rfl))))))) (pad_cons (pd_bin rfl (pe_op opMul_ok (pd_binL rfl (pe_ix opIx_ok (pv 0) pd_int (fun _ _ => rfl))) (pd_binL rfl (pe_ix opIx_ok (pv 1) pd_int (fun _ _ => rfl))))) pad_nil))))))
theorem sc__law_common : FnScope ["wishes", "some", "one"] ["wishes", "some"] (defScope s__law_common) := ⟨rfl, rfl, rfl, by decide +kernel, rfl, by decide +kernel, by decide +kernel⟩
theorem ok__law_common (T : TpG fa fn gt K mg) : ∃ fd, Has P w K mg base d__law_common ["wishes", "some"] 2 (spP K 2 G__law_common) fd := by
  have m_len := T.free 47 (x := "len")
  obtain ⟨fd, F0⟩ := T.c.def_ 9 (d := d__law_common) rfl
  have F : FunD K d__law_common.name d__law_common.qual d__law_common.params d__law_common.body d__law_common.scope [] [] (He.fAd K d__law_common.at_) fd := F0
  have bd : Binds K fd ["wishes", "some"] [] := F.bindsN fun _ _ _ _ _ _ us hl => match us, hl with | [_, _], _ => rfl
  have sc := sc__law_common
  refine ⟨fd, F, bd, def_ok (n := 2) (N := ["wishes", "some", "one"]) (fb := B__law_common) F sc rfl fun cdv A outer s H E hr hgd => ?_⟩
  have hu := good_u (k := 0) hr
  exact (psd_one (psd_ret (pd_call rfl (pe_callB bLen_ok rfl m_len PySem.boot_len (pad_cons (pd_compV (C' := cnN K) (ws := [2]) (own := [2]) rfl (by decide) (by decide) (pe_lc rfl sc.nd (pid_seqV rfl (pv 1)) (own := [("one", 2)]) (blkOk_by (by kernel_rfl)) (fun _ _ _ _ _ => (pgd_name (pg_name sc.nd rfl (by first | exact Or.inl rfl | exact Or.inr rfl)))) (fun _ _ _ _ _ => (ptsd_one (ptb_binLR rfl (pt_cmpR (opIn_ok ⟨rfl, hu, hgd⟩) (pv 2) (pv 0) (by rfl))))) (fun _ _ _ _ _ => (pd_v (pv 2))))) pad_nil)))))
theorem sc__law_plus : FnScope ["one", "other"] ["one", "other"] (defScope s__law_plus) := ⟨rfl, rfl, rfl, by decide +kernel, rfl, by decide +kernel, by decide +kernel⟩
theorem ok__law_plus (T : TpG fa fn gt K mg) : ∃ fd, Has P w K mg base d__law_plus ["one", "other"] 3 (spP K 2 G__law_plus) fd := by
  have g__law_low := T.glo 7 (x := "_law_low")
  obtain ⟨fd__law_low, H__law_low⟩ := ok__law_low (P := P) (w := w) (base := base) T
  obtain ⟨fd, F0⟩ := T.c.def_ 10 (d := d__law_plus) rfl
  have F : FunD K d__law_plus.name d__law_plus.qual d__law_plus.params d__law_plus.body d__law_plus.scope [] [] (He.fAd K d__law_plus.at_) fd := F0
  have bd : Binds K fd ["one", "other"] [] := F.bindsN fun _ _ _ _ _ _ us hl => match us, hl with | [_, _], _ => rfl
  have sc := sc__law_plus
  refine ⟨fd, F, bd, def_ok (n := 2) (N := ["one", "other"]) (fb := B__law_plus) F sc rfl fun cdv A outer s H E hr hgd => ?_⟩
  have hu := good_u (k := 1) hr
  exact (psd_one (psd_ret (pd_def rfl (fun _ _ => gP_len) (pe_callG H__law_low.ok (hr.mono (by decide)) hgd rfl g__law_low H__law_low.F.kp H__law_low.b (pad_cons (pd_bin rfl (pe_op opAdd_ok (pd_bin rfl (pe_op opMul_ok (pd_binL rfl (pe_ix opIx_ok (pv 0) pd_int (fun _ _ => rfl))) (pd_binL rfl (pe_ix opIx_ok (pv 1) pd_int (fun _ _ => rfl))))) (pd_bin rfl (pe_op opMul_ok (pd_binL rfl (pe_ix opIx_ok (pv 1) pd_int (fun _ _ => rfl))) (pd_binL rfl (pe_ix opIx_ok (pv 0) pd_int (fun _ _ => rfl))))))) (pad_cons (pd_bin rfl (pe_op opMul_ok (pd_binL rfl (pe_ix opIx_ok (pv 0) pd_int (fun _ _ => rfl))) (pd_binL rfl (pe_ix opIx_ok (pv 1) pd_int (fun _ _ => rfl))))) pad_nil))))))
theorem sc__law_total : FnScope ["parts", "found", "part"] ["parts"] (defScope s__law_total) := ⟨rfl, rfl, rfl, by decide +kernel, rfl, by decide +kernel, by decide +kernel⟩
theorem ok__law_total (T : TpG fa fn gt K mg) : ∃ fd, Has P w K mg base d__law_total ["parts"] 4 (spP K 1 G__law_total) fd := by
  have g__law_plus := T.glo 10 (x := "_law_plus")
  obtain ⟨fd__law_plus, H__law_plus⟩ := ok__law_plus (P := P) (w := w) (base := base) T
  obtain ⟨fd, F0⟩ := T.c.def_ 11 (d := d__law_total) rfl
  have F : FunD K d__law_total.name d__law_total.qual d__law_total.params d__law_total.body d__law_total.scope [] [] (He.fAd K d__law_total.at_) fd := F0
  have bd : Binds K fd ["parts"] [] := F.bindsN fun _ _ _ _ _ _ us hl => match us, hl with | [_], _ => rfl
  have sc := sc__law_total
  refine ⟨fd, F, bd, def_ok (n := 1) (N := ["parts", "found", "part"]) (fb := B__law_total) F sc rfl fun cdv A outer s H E hr hgd => ?_⟩
  have hu := good_u (k := 2) hr
  exact (psd_cons (psd_set (by decide) (ps_set sc.nd rfl (by first | exact Or.inl rfl | exact Or.inr rfl) (pd_tup (pad_cons pd_int (pad_cons pd_int pad_nil)))))
    (psd_cons (psd_forV (by decide) (ps_for PassesOwn.never rfl (pid_seqV rfl (pv 0)) (pgd_name (pg_name sc.nd rfl (by first | exact Or.inl rfl | exact Or.inr rfl))) (psd_one (psd_set (by decide) (ps_set sc.nd rfl (by first | exact Or.inl rfl | exact Or.inr rfl) (pd_def rfl (fun _ _ => gP_len) (pe_callG H__law_plus.ok (hr.mono (by decide)) hgd rfl g__law_plus H__law_plus.F.kp H__law_plus.b (pad_cons (pd_v (pv 1)) (pad_cons (pd_v (pv 2)) pad_nil)))))))))
    (psd_one (psd_retV (pv 1)))))
theorem sc__law_sum : FnScope ["case", "choice", "parts", "row", "place"] ["case", "choice"] (defScope s__law_sum) := ⟨rfl, rfl, rfl, by decide +kernel, rfl, by decide +kernel, by decide +kernel⟩
theorem ok__law_sum (T : TpG fa fn gt K mg) : ∃ fd, Has P w K mg base d__law_sum ["case", "choice"] 5 (spP K 2 G__law_sum) fd := by
  have m_range := T.free 49 (x := "range")
  have g__law_common := T.glo 9 (x := "_law_common")
  obtain ⟨fd__law_common, H__law_common⟩ := ok__law_common (P := P) (w := w) (base := base) T
  have g__law_total := T.glo 11 (x := "_law_total")
  obtain ⟨fd__law_total, H__law_total⟩ := ok__law_total (P := P) (w := w) (base := base) T
  obtain ⟨fd, F0⟩ := T.c.def_ 12 (d := d__law_sum) rfl
  have F : FunD K d__law_sum.name d__law_sum.qual d__law_sum.params d__law_sum.body d__law_sum.scope [] [] (He.fAd K d__law_sum.at_) fd := F0
  have bd : Binds K fd ["case", "choice"] [] := F.bindsN fun _ _ _ _ _ _ us hl => match us, hl with | [_, _], _ => rfl
  have sc := sc__law_sum
  refine ⟨fd, F, bd, def_ok (n := 2) (N := ["case", "choice", "parts", "row", "place"]) (fb := B__law_sum) F sc rfl fun cdv A outer s H E hr hgd => ?_⟩
  have hu := good_u (k := 3) hr
  exact (psd_cons (psd_set (by decide) (ps_set sc.nd rfl (by first | exact Or.inl rfl | exact Or.inr rfl) (pd_lst pad_nil)))
    (psd_cons (psd_for (by decide) (ps_for PassesOwn.never rfl (pid_seq rfl (pd_binL rfl (pe_ix opIx_ok (pv 0) pd_int (fun _ _ => rfl)))) (pgd_name (pg_name sc.nd rfl (by first | exact Or.inl rfl | exact Or.inr rfl))) (psd_one (psd_expr (pd_mt1 rfl mExtend_ok (pe_bm PySem.F.plainAttrs_list PySem.F.slot_list_extend PySem.F.type_list_extend mt_extend (pv 2) (pa_cons (pd_comp (C' := cnN K) (ws := [4]) (own := [4]) rfl (by decide) (by decide) (pe_lc rfl sc.nd (pid_r1 (pi_range1 rfl m_range (pa_cons (pd_def rfl (fun _ _ => gP_len) (pe_callG H__law_common.ok (hr.mono (by decide)) hgd rfl g__law_common H__law_common.F.kp H__law_common.b (pad_cons (pd_v (pv 3)) (pad_cons (pd_v (pv 1)) pad_nil)))) pa_nil))) (own := [("place", 4)]) (blkOk_by (by kernel_rfl)) (fun _ _ _ _ _ => (pgd_name (pg_name sc.nd rfl (by first | exact Or.inl rfl | exact Or.inr rfl)))) (fun _ _ _ _ _ => ptsd_nil) (fun _ _ _ _ _ => (pd_tup (pad_cons pd_int (pad_cons (pd_binL rfl (pe_op opAdd_ok (pv 4) pd_int)) pad_nil)))))) pa_nil)))))))
    (psd_one (psd_ret (pd_def rfl (fun _ _ => gP_len) (pe_callG H__law_total.ok (hr.mono (by decide)) hgd rfl g__law_total H__law_total.F.kp H__law_total.b (pad_cons (pd_v (pv 2)) pad_nil)))))))
theorem sc__law_exchange : FnScope ["case", "choice", "many", "seats", "wishes", "bound", "here", "out", "into", "one", "other"] ["case", "choice"] (defScope s__law_exchange) := ⟨rfl, rfl, rfl, by decide +kernel, rfl, by decide +kernel, by decide +kernel⟩
theorem ok__law_exchange (T : TpG fa fn gt K mg) : ∃ fd, Has P w K mg base d__law_exchange ["case", "choice"] 6 (spP K 2 G__law_exchange) fd := by
  have m_len := T.free 47 (x := "len")
  have m_range := T.free 49 (x := "range")
  have m_sorted := T.free 52 (x := "sorted")
  have m_tuple := T.free 50 (x := "tuple")
  have g__law_is_less := T.glo 6 (x := "_law_is_less")
  obtain ⟨fd__law_is_less, H__law_is_less⟩ := ok__law_is_less (P := P) (w := w) (base := base) T
  have g__law_low := T.glo 7 (x := "_law_low")
  obtain ⟨fd__law_low, H__law_low⟩ := ok__law_low (P := P) (w := w) (base := base) T
  have g__law_minus := T.glo 8 (x := "_law_minus")
  obtain ⟨fd__law_minus, H__law_minus⟩ := ok__law_minus (P := P) (w := w) (base := base) T
  have g__law_sum := T.glo 12 (x := "_law_sum")
  obtain ⟨fd__law_sum, H__law_sum⟩ := ok__law_sum (P := P) (w := w) (base := base) T
  obtain ⟨fd, F0⟩ := T.c.def_ 13 (d := d__law_exchange) rfl
  have F : FunD K d__law_exchange.name d__law_exchange.qual d__law_exchange.params d__law_exchange.body d__law_exchange.scope [] [] (He.fAd K d__law_exchange.at_) fd := F0
  have bd : Binds K fd ["case", "choice"] [] := F.bindsN fun _ _ _ _ _ _ us hl => match us, hl with | [_, _], _ => rfl
  have sc := sc__law_exchange
  refine ⟨fd, F, bd, def_ok (n := 2) (N := ["case", "choice", "many", "seats", "wishes", "bound", "here", "out", "into", "one", "other"]) (fb := B__law_exchange) F sc rfl fun cdv A outer s H E hr hgd => ?_⟩
  have hu := good_u (k := 4) hr
  exact (psd_cons (psd_asg (by decide) (ps_asg (pd_v (pv 0)) (pgd_tup rfl rfl (pgsd_cons (pgd_name (pg_name sc.nd rfl (by first | exact Or.inl rfl | exact Or.inr rfl))) (pgsd_cons (pgd_name (pg_name sc.nd rfl (by first | exact Or.inl rfl | exact Or.inr rfl))) (pgsd_cons (pgd_name (pg_name sc.nd rfl (by first | exact Or.inl rfl | exact Or.inr rfl))) pgsd_nil))))))
    (psd_cons (psd_par (by decide) (by decide) (ps_par rfl sc.nd rfl rfl (by decide) rfl rfl (pad_cons (pd_def rfl (fun _ _ => gP_len) (pe_callG H__law_low.ok (hr.mono (by decide)) hgd rfl g__law_low H__law_low.F.kp H__law_low.b (pad_cons (pd_callV rfl (pe_callB bLen_ok rfl m_len PySem.boot_len (pa_cons (pv 4) pa_nil))) (pad_cons (pd_binLR rfl (pe_op opMul_ok (pv 3) (pv 3))) pad_nil)))) (pad_cons (pd_def rfl (fun _ _ => gP_len) (pe_callG H__law_sum.ok (hr.mono (by decide)) hgd rfl g__law_sum H__law_sum.F.kp H__law_sum.b (pad_cons (pd_v (pv 0)) (pad_cons (pd_v (pv 1)) pad_nil)))) pad_nil)) (by rfl)))
    (psd_cons (psd_forV (by decide) (ps_for PassesOwn.never rfl (pid_seqV rfl (pv 1)) (pgd_name (pg_name sc.nd rfl (by first | exact Or.inl rfl | exact Or.inr rfl))) (psd_one (psd_for (by decide) (ps_for PassesOwn.never rfl (pid_seq rfl (pd_comp (C' := cnN K) (ws := [9]) (own := [9]) rfl (by decide) (by decide) (pe_lc rfl sc.nd (pid_r1 (pi_range1 rfl m_range (pa_cons (pd_v (pv 2)) pa_nil))) (own := [("one", 9)]) (blkOk_by (by kernel_rfl)) (fun _ _ _ _ _ => (pgd_name (pg_name sc.nd rfl (by first | exact Or.inl rfl | exact Or.inr rfl)))) (fun _ _ _ _ _ => (ptsd_one (ptb_binLR rfl (pt_cmpR (opNotIn_ok ⟨rfl, hu, hgd⟩) (pv 9) (pv 1) (by rfl))))) (fun _ _ _ _ _ => (pd_v (pv 9)))))) (pgd_name (pg_name sc.nd rfl (by first | exact Or.inl rfl | exact Or.inr rfl))) (psd_cons (psd_set (by decide) (ps_set sc.nd rfl (by first | exact Or.inl rfl | exact Or.inr rfl) (pd_call rfl (pe_callTy bTuple_ok rfl m_tuple PyProof.Rows.boot_tuple (pad_cons (pd_call rfl (pe_callB (bSorted_ok ⟨rfl, hu, hgd⟩) rfl m_sorted PyProof.Rows.boot_sorted (pad_cons (pd_bin rfl (pe_op opAdd_ok (pd_compV (C' := cnN K) (ws := [9]) (own := [9]) rfl (by decide) (by decide) (pe_lc rfl sc.nd (pid_seqV rfl (pv 1)) (own := [("one", 9)]) (blkOk_by (by kernel_rfl)) (fun _ _ _ _ _ => (pgd_name (pg_name sc.nd rfl (by first | exact Or.inl rfl | exact Or.inr rfl)))) (fun _ _ _ _ _ => (ptsd_one (ptb_binLR rfl (pt_cmpR (opNe_ok ⟨rfl, hu, hgd⟩) (pv 9) (pv 7) (by rfl))))) (fun _ _ _ _ _ => (pd_v (pv 9))))) (pd_lst (pad_cons (pd_v (pv 8)) pad_nil)))) pad_nil))) pad_nil)))))
    (psd_one (psd_if (ptd_not (ptd_tru rfl (pd_def rfl (fun _ _ => gP_len) (pe_callG H__law_is_less.ok (hr.mono (by decide)) hgd rfl g__law_is_less H__law_is_less.F.kp H__law_is_less.b (pad_cons (pd_def rfl (fun _ _ => gP_len) (pe_callG H__law_minus.ok (hr.mono (by decide)) hgd rfl g__law_minus H__law_minus.F.kp H__law_minus.b (pad_cons (pd_def rfl (fun _ _ => gP_len) (pe_callG H__law_sum.ok (hr.mono (by decide)) hgd rfl g__law_sum H__law_sum.F.kp H__law_sum.b (pad_cons (pd_v (pv 0)) (pad_cons (pd_v (pv 10)) pad_nil)))) (pad_cons (pd_v (pv 6)) pad_nil)))) (pad_cons (pd_v (pv 5)) pad_nil)))))) (psd_one (psd_ret (pd_tup (pad_cons (pd_v (pv 7)) (pad_cons (pd_v (pv 8)) pad_nil))))) psd_nil))))))))
    (psd_one (psd_ret pd_none)))))
theorem sc__law_groups : FnScope ["case", "lot"] ["case"] (defScope s__law_groups) := ⟨rfl, rfl, rfl, by decide +kernel, rfl, by decide +kernel, by decide +kernel⟩
theorem ok__law_groups (T : TpG fa fn gt K mg) : ∃ fd, Has P w K mg base d__law_groups ["case"] 3 (spP K 1 G__law_groups) fd := by
  have m_len := T.free 47 (x := "len")
  have m_list := T.free 53 (x := "list")
  have m_range := T.free 49 (x := "range")
  have g__law_lots := T.glo 4 (x := "_law_lots")
  obtain ⟨fd__law_lots, H__law_lots⟩ := ok__law_lots (P := P) (w := w) (base := base) T
  obtain ⟨fd, F0⟩ := T.c.def_ 14 (d := d__law_groups) rfl
  have F : FunD K d__law_groups.name d__law_groups.qual d__law_groups.params d__law_groups.body d__law_groups.scope [] [] (He.fAd K d__law_groups.at_) fd := F0
  have bd : Binds K fd ["case"] [] := F.bindsN fun _ _ _ _ _ _ us hl => match us, hl with | [_], _ => rfl
  have sc := sc__law_groups
  refine ⟨fd, F, bd, def_ok (n := 1) (N := ["case", "lot"]) (fb := B__law_groups) F sc rfl fun cdv A outer s H E hr hgd => ?_⟩
  have hu := good_u (k := 1) hr
  exact (psd_one (psd_ret (pd_comp (C' := cnN K) (ws := [1]) (own := [1]) rfl (by decide) (by decide) (pe_lc rfl sc.nd (pid_seq rfl (pd_def rfl (fun _ _ => gP_len) (pe_callG H__law_lots.ok (hr.mono (by decide)) hgd rfl g__law_lots H__law_lots.F.kp H__law_lots.b (pad_cons (pd_lstRg1 (pe_listRg rfl rfl m_list (prg_1 rfl m_range (pd_call rfl (pe_callB bLen_ok rfl m_len PySem.boot_len (pad_cons (pd_binL rfl (pe_ix opIx_ok (pv 0) pd_int (fun _ _ => rfl))) pad_nil)))))) pad_nil)))) (own := [("lot", 1)]) (blkOk_by (by kernel_rfl)) (fun _ _ _ _ _ => (pgd_name (pg_name sc.nd rfl (by first | exact Or.inl rfl | exact Or.inr rfl)))) (fun _ _ _ _ _ => (ptsd_one (ptb_bin rfl (pt_cmpR (opGt_ok ⟨rfl, hu, hgd⟩) (pd_callV rfl (pe_callB bLen_ok rfl m_len PySem.boot_len (pa_cons (pv 1) pa_nil))) pd_int (by rfl))))) (fun _ _ _ _ _ => (pd_v (pv 1)))))))
theorem sc__law_is_wronged : FnScope ["case", "choice", "word", "s", "group", "many", "seats", "wishes", "alike", "one", "member", "union"] ["case", "choice", "word", "s", "group"] (defScope s__law_is_wronged) := ⟨rfl, rfl, rfl, by decide +kernel, rfl, by decide +kernel, by decide +kernel⟩
theorem ok__law_is_wronged (T : TpG fa fn gt K mg) : ∃ fd, Has P w K mg base d__law_is_wronged ["case", "choice", "word", "s", "group"] 3 (spP K 5 G__law_is_wronged) fd := by
  have m_all := T.free 54 (x := "all")
  have m_any := T.free 55 (x := "any")
  have m_len := T.free 47 (x := "len")
  have m_range := T.free 49 (x := "range")
  have g__law_common := T.glo 9 (x := "_law_common")
  obtain ⟨fd__law_common, H__law_common⟩ := ok__law_common (P := P) (w := w) (base := base) T
  obtain ⟨fd, F0⟩ := T.c.def_ 15 (d := d__law_is_wronged) rfl
  have F : FunD K d__law_is_wronged.name d__law_is_wronged.qual d__law_is_wronged.params d__law_is_wronged.body d__law_is_wronged.scope [] [] (He.fAd K d__law_is_wronged.at_) fd := F0
  have bd : Binds K fd ["case", "choice", "word", "s", "group"] [] := F.bindsN fun _ _ _ _ _ _ us hl => match us, hl with | [_, _, _, _, _], _ => rfl
  have sc := sc__law_is_wronged
  refine ⟨fd, F, bd, def_ok (n := 5) (N := ["case", "choice", "word", "s", "group", "many", "seats", "wishes", "alike", "one", "member", "union"]) (fb := B__law_is_wronged) F sc rfl fun cdv A outer s H E hr hgd => ?_⟩
  have hu := good_u (k := 1) hr
  exact (psd_cons (psd_asg (by decide) (ps_asg (pd_v (pv 0)) (pgd_tup rfl rfl (pgsd_cons (pgd_name (pg_name sc.nd rfl (by first | exact Or.inl rfl | exact Or.inr rfl))) (pgsd_cons (pgd_name (pg_name sc.nd rfl (by first | exact Or.inl rfl | exact Or.inr rfl))) (pgsd_cons (pgd_name (pg_name sc.nd rfl (by first | exact Or.inl rfl | exact Or.inr rfl))) pgsd_nil))))))
    (psd_cons (psd_setLc (C' := cnN K) (ws := [9]) (own := [9]) (by decide) rfl (by decide) (by decide) (ps_setLc rfl sc.nd rfl rfl (sw_true rfl rfl rfl rfl) (pid_r1 (pi_range1 rfl m_range (pa_cons (pd_v (pv 5)) pa_nil))) (own := [("one", 9)]) (blkOk_by (by kernel_rfl)) (fun _ _ _ _ _ => (pgd_name (pg_name sc.nd rfl (by first | exact Or.inl rfl | exact Or.inr rfl)))) (fun _ _ _ _ _ => (ptsd_one (ptd_tru rfl (pd_call rfl (pe_callB (bAll_ok ⟨rfl, hu, hgd⟩) rfl m_all PyProof.Rows.boot_all (pad_cons (pd_compV (C' := cnN K) (ws := [10]) (own := [10]) rfl (by decide) (by decide) (pe_lc rfl sc.nd (pid_seqV rfl (pv 4)) (own := [("member", 10)]) (blkOk_by (by kernel_rfl)) (fun _ _ _ _ _ => (pgd_name (pg_name sc.nd rfl (by first | exact Or.inl rfl | exact Or.inr rfl)))) (fun _ _ _ _ _ => ptsd_nil) (fun _ _ _ _ _ => (pd_binL rfl (pe_cmpR (opIn_ok ⟨rfl, hu, hgd⟩) (pv 9) (pd_binLR rfl (pe_ix opIx_ok (pv 7) (pv 10) (fun _ _ => rfl))) (by rfl)))))) pad_nil)))))) (fun _ _ _ _ _ => (pd_v (pv 9)))))
    (psd_cons (psd_if (PW.pt (pwd_or (ptb_bin rfl (pt_cmpR (opLt_ok ⟨rfl, hu, hgd⟩) (pd_binR rfl (pe_op opMul_ok (pd_callV rfl (pe_callB bLen_ok rfl m_len PySem.boot_len (pa_cons (pv 4) pa_nil))) (pv 6))) (pd_binL rfl (pe_op opMul_ok (pv 3) (pd_callV rfl (pe_callB bLen_ok rfl m_len PySem.boot_len (pa_cons (pv 7) pa_nil))))) (by rfl))) (pwd_or1 (ptb_binR rfl (pt_cmpR (opLt_ok ⟨rfl, hu, hgd⟩) (pd_callV rfl (pe_callB bLen_ok rfl m_len PySem.boot_len (pa_cons (pv 8) pa_nil))) (pv 3) (by rfl)))))) (psd_one (psd_ret pd_bool)) psd_nil)
    (psd_cons (psd_if (ptb_binL rfl (pt_cmpR (opEq_ok ⟨rfl, hu, hgd⟩) (pv 2) pd_str (by rfl))) (psd_one (psd_ret (pd_call rfl (pe_callB (bAll_ok ⟨rfl, hu, hgd⟩) rfl m_all PyProof.Rows.boot_all (pad_cons (pd_compV (C' := cnN K) (ws := [10]) (own := [10]) rfl (by decide) (by decide) (pe_lc rfl sc.nd (pid_seqV rfl (pv 4)) (own := [("member", 10)]) (blkOk_by (by kernel_rfl)) (fun _ _ _ _ _ => (pgd_name (pg_name sc.nd rfl (by first | exact Or.inl rfl | exact Or.inr rfl)))) (fun _ _ _ _ _ => ptsd_nil) (fun _ _ _ _ _ => (pd_binR rfl (pe_cmpR (opLt_ok ⟨rfl, hu, hgd⟩) (pd_def rfl (fun _ _ => gP_len) (pe_callG H__law_common.ok (hr.mono (by decide)) hgd rfl g__law_common H__law_common.F.kp H__law_common.b (pad_cons (pd_binLR rfl (pe_ix opIx_ok (pv 7) (pv 10) (fun _ _ => rfl))) (pad_cons (pd_v (pv 1)) pad_nil)))) (pv 3) (by rfl)))))) pad_nil))))) psd_nil)
    (psd_cons (psd_setLcV (C' := cnN K) (ws := [9]) (own := [9]) (by decide) rfl (by decide) (by decide) (ps_setLc rfl sc.nd rfl rfl (sw_true rfl rfl rfl rfl) (pid_seqV rfl (pv 1)) (own := [("one", 9)]) (blkOk_by (by kernel_rfl)) (fun _ _ _ _ _ => (pgd_name (pg_name sc.nd rfl (by first | exact Or.inl rfl | exact Or.inr rfl)))) (fun _ _ _ _ _ => (ptsd_one (ptd_tru rfl (pd_call rfl (pe_callB (bAny_ok ⟨rfl, hu, hgd⟩) rfl m_any PyProof.Rows.boot_any (pad_cons (pd_compV (C' := cnN K) (ws := [10]) (own := [10]) rfl (by decide) (by decide) (pe_lc rfl sc.nd (pid_seqV rfl (pv 4)) (own := [("member", 10)]) (blkOk_by (by kernel_rfl)) (fun _ _ _ _ _ => (pgd_name (pg_name sc.nd rfl (by first | exact Or.inl rfl | exact Or.inr rfl)))) (fun _ _ _ _ _ => ptsd_nil) (fun _ _ _ _ _ => (pd_binL rfl (pe_cmpR (opIn_ok ⟨rfl, hu, hgd⟩) (pv 9) (pd_binLR rfl (pe_ix opIx_ok (pv 7) (pv 10) (fun _ _ => rfl))) (by rfl)))))) pad_nil)))))) (fun _ _ _ _ _ => (pd_v (pv 9)))))
    (psd_one (psd_ret (pd_and (pd_binR rfl (pe_cmpR (opLt_ok ⟨rfl, hu, hgd⟩) (pd_callV rfl (pe_callB bLen_ok rfl m_len PySem.boot_len (pa_cons (pv 11) pa_nil))) (pv 3) (by rfl))) (pd_one (pd_or (pd_binL rfl (pe_cmpR (opEq_ok ⟨rfl, hu, hgd⟩) (pv 2) pd_str (by rfl))) (pd_one (pd_binL rfl (pe_cmpR (opEq_ok ⟨rfl, hu, hgd⟩) (pv 3) pd_int (by rfl))))))))))))))
theorem sc__law_wronged : FnScope ["case", "choice", "word", "s", "group"] ["case", "choice", "word"] (defScope s__law_wronged) := ⟨rfl, rfl, rfl, by decide +kernel, rfl, by decide +kernel, by decide +kernel⟩
theorem ok__law_wronged (T : TpG fa fn gt K mg) : ∃ fd, Has P w K mg base d__law_wronged ["case", "choice", "word"] 4 (spP K 3 G__law_wronged) fd := by
  have m_range := T.free 49 (x := "range")
  have g__law_groups := T.glo 14 (x := "_law_groups")
  obtain ⟨fd__law_groups, H__law_groups⟩ := ok__law_groups (P := P) (w := w) (base := base) T
  have g__law_is_wronged := T.glo 15 (x := "_law_is_wronged")
  obtain ⟨fd__law_is_wronged, H__law_is_wronged⟩ := ok__law_is_wronged (P := P) (w := w) (base := base) T
  obtain ⟨fd, F0⟩ := T.c.def_ 16 (d := d__law_wronged) rfl
  have F : FunD K d__law_wronged.name d__law_wronged.qual d__law_wronged.params d__law_wronged.body d__law_wronged.scope [] [] (He.fAd K d__law_wronged.at_) fd := F0
  have bd : Binds K fd ["case", "choice", "word"] [] := F.bindsN fun _ _ _ _ _ _ us hl => match us, hl with | [_, _, _], _ => rfl
  have sc := sc__law_wronged
  refine ⟨fd, F, bd, def_ok (n := 3) (N := ["case", "choice", "word", "s", "group"]) (fb := B__law_wronged) F sc rfl fun cdv A outer s H E hr hgd => ?_⟩
  have hu := good_u (k := 2) hr
  exact (psd_cons (psd_for (by decide) (ps_for PassesOwn.never rfl (pid_r2 (pi_range2 rfl m_range (pa_cons pd_int (pa_cons (pd_bin rfl (pe_op opAdd_ok (pd_binL rfl (pe_ix opIx_ok (pv 0) pd_int (fun _ _ => rfl))) pd_int)) pa_nil)))) (pgd_name (pg_name sc.nd rfl (by first | exact Or.inl rfl | exact Or.inr rfl))) (psd_one (psd_for (by decide) (ps_for PassesOwn.never rfl (pid_seq rfl (pd_def rfl (fun _ _ => gP_len) (pe_callG H__law_groups.ok (hr.mono (by decide)) hgd rfl g__law_groups H__law_groups.F.kp H__law_groups.b (pad_cons (pd_v (pv 0)) pad_nil)))) (pgd_name (pg_name sc.nd rfl (by first | exact Or.inl rfl | exact Or.inr rfl))) (psd_one (psd_if (ptd_tru rfl (pd_def rfl (fun _ _ => gP_len) (pe_callG H__law_is_wronged.ok (hr.mono (by decide)) hgd rfl g__law_is_wronged H__law_is_wronged.F.kp H__law_is_wronged.b (pad_cons (pd_v (pv 0)) (pad_cons (pd_v (pv 1)) (pad_cons (pd_v (pv 2)) (pad_cons (pd_v (pv 3)) (pad_cons (pd_v (pv 4)) pad_nil)))))))) (psd_one (psd_ret (pd_tup (pad_cons (pd_v (pv 3)) (pad_cons (pd_v (pv 4)) pad_nil))))) psd_nil)))))))
    (psd_one (psd_ret pd_none)))
theorem sc_is_integer : FnScope ["thing"] ["thing"] (defScope s_is_integer) := ⟨rfl, rfl, rfl, by decide +kernel, rfl, by decide +kernel, by decide +kernel⟩
theorem ok_is_integer (T : TpG fa fn gt K mg) : ∃ fd, Has P w K mg base d_is_integer ["thing"] 2 (spP K 1 G_is_integer) fd := by
  have m_bool := T.free 57 (x := "bool")
  have m_int := T.free 46 (x := "int")
  have m_isinstance := T.free 56 (x := "isinstance")
  obtain ⟨fd, F0⟩ := T.c.def_ 17 (d := d_is_integer) rfl
  have F : FunD K d_is_integer.name d_is_integer.qual d_is_integer.params d_is_integer.body d_is_integer.scope [] [] (He.fAd K d_is_integer.at_) fd := F0
  have bd : Binds K fd ["thing"] [] := F.bindsN fun _ _ _ _ _ _ us hl => match us, hl with | [_], _ => rfl
  have sc := sc_is_integer
  refine ⟨fd, F, bd, def_ok (n := 1) (N := ["thing"]) (fb := B_is_integer) F sc rfl fun cdv A outer s H E hr hgd => ?_⟩
  have hu := good_u (k := 0) hr
  exact (psd_one (psd_ret (pd_and (pd_isiV .int rfl (pe_callB call_isi rfl m_isinstance PyProof.Rows.boot_isinstance (pa_cons (pv 0) (pa_cons (pe_gty rfl m_int PyProof.Rows.boot_int) pa_nil)))) (pd_one (pd_not (pd_isiV .bool rfl (pe_callB call_isi rfl m_isinstance PyProof.Rows.boot_isinstance (pa_cons (pv 0) (pa_cons (pe_gty rfl m_bool PyProof.Rows.boot_bool) pa_nil)))))))))
theorem sc_is_within : FnScope ["thing", "least", "most"] ["thing", "least", "most"] (defScope s_is_within) := ⟨rfl, rfl, rfl, by decide +kernel, rfl, by decide +kernel, by decide +kernel⟩
theorem ok_is_within (T : TpG fa fn gt K mg) : ∃ fd, Has P w K mg base d_is_within ["thing", "least", "most"] 3 (spP K 3 G_is_within) fd := by
  have g_is_integer := T.glo 17 (x := "is_integer")
  obtain ⟨fd_is_integer, H_is_integer⟩ := ok_is_integer (P := P) (w := w) (base := base) T
  obtain ⟨fd, F0⟩ := T.c.def_ 18 (d := d_is_within) rfl
  have F : FunD K d_is_within.name d_is_within.qual d_is_within.params d_is_within.body d_is_within.scope [] [] (He.fAd K d_is_within.at_) fd := F0
  have bd : Binds K fd ["thing", "least", "most"] [] := F.bindsN fun _ _ _ _ _ _ us hl => match us, hl with | [_, _, _], _ => rfl
  have sc := sc_is_within
  refine ⟨fd, F, bd, def_ok (n := 3) (N := ["thing", "least", "most"]) (fb := B_is_within) F sc rfl fun cdv A outer s H E hr hgd => ?_⟩
  have hu := good_u (k := 1) hr
  exact (psd_one (psd_ret (pd_and (pd_def rfl (fun _ _ => gP_len) (pe_callG H_is_integer.ok (hr.mono (by decide)) hgd rfl g_is_integer H_is_integer.F.kp H_is_integer.b (pad_cons (pd_v (pv 0)) pad_nil))) (pd_one (pd_chain op_le op_le (pd_v (pv 1)) (pd_v (pv 0)) (pd_v (pv 2)))))))
theorem sc_is_lot : FnScope ["thing", "many", "last", "item"] ["thing", "many"] (defScope s_is_lot) := ⟨rfl, rfl, rfl, by decide +kernel, rfl, by decide +kernel, by decide +kernel⟩
theorem ok_is_lot (T : TpG fa fn gt K mg) : ∃ fd, Has P w K mg base d_is_lot ["thing", "many"] 4 (spP K 2 G_is_lot) fd := by
  have m_isinstance := T.free 56 (x := "isinstance")
  have m_tuple := T.free 50 (x := "tuple")
  have g_is_within := T.glo 18 (x := "is_within")
  obtain ⟨fd_is_within, H_is_within⟩ := ok_is_within (P := P) (w := w) (base := base) T
  obtain ⟨fd, F0⟩ := T.c.def_ 19 (d := d_is_lot) rfl
  have F : FunD K d_is_lot.name d_is_lot.qual d_is_lot.params d_is_lot.body d_is_lot.scope [] [] (He.fAd K d_is_lot.at_) fd := F0
  have bd : Binds K fd ["thing", "many"] [] := F.bindsN fun _ _ _ _ _ _ us hl => match us, hl with | [_, _], _ => rfl
  have sc := sc_is_lot
  refine ⟨fd, F, bd, def_ok (n := 2) (N := ["thing", "many", "last", "item"]) (fb := B_is_lot) F sc rfl fun cdv A outer s H E hr hgd => ?_⟩
  have hu := good_u (k := 2) hr
  exact (psd_cons (psd_if (ptd_not (ptd_tru rfl (pd_isiV .tuple rfl (pe_callB call_isi rfl m_isinstance PyProof.Rows.boot_isinstance (pa_cons (pv 0) (pa_cons (pe_gty rfl m_tuple PyProof.Rows.boot_tuple) pa_nil)))))) (psd_one (psd_ret pd_bool)) psd_nil)
    (psd_cons (psd_set (by decide) (ps_set sc.nd rfl (by first | exact Or.inl rfl | exact Or.inr rfl) (pd_un rfl opNeg_ok pd_int)))
    (psd_cons (psd_forV (by decide) (ps_for PassesOwn.never rfl (pid_seqV rfl (pv 0)) (pgd_name (pg_name sc.nd rfl (by first | exact Or.inl rfl | exact Or.inr rfl))) (psd_cons (psd_if (ptd_not (ptd_tru rfl (pd_def rfl (fun _ _ => gP_len) (pe_callG H_is_within.ok (hr.mono (by decide)) hgd rfl g_is_within H_is_within.F.kp H_is_within.b (pad_cons (pd_v (pv 3)) (pad_cons (pd_binL rfl (pe_op opAdd_ok (pv 2) pd_int)) (pad_cons (pd_binL rfl (pe_op opSub_ok (pv 1) pd_int)) pad_nil))))))) (psd_one (psd_ret pd_bool)) psd_nil)
    (psd_one (psd_set (by decide) (ps_set sc.nd rfl (by first | exact Or.inl rfl | exact Or.inr rfl) (pd_v (pv 3))))))))
    (psd_one (psd_ret pd_bool)))))
theorem sc_is_table : FnScope ["thing", "size"] ["thing", "size"] (defScope s_is_table) := ⟨rfl, rfl, rfl, by decide +kernel, rfl, by decide +kernel, by decide +kernel⟩
theorem ok_is_table (T : TpG fa fn gt K mg) : ∃ fd, Has P w K mg base d_is_table ["thing", "size"] 2 (spP K 2 G_is_table) fd := by
  have m_isinstance := T.free 56 (x := "isinstance")
  have m_len := T.free 47 (x := "len")
  have m_tuple := T.free 50 (x := "tuple")
  obtain ⟨fd, F0⟩ := T.c.def_ 20 (d := d_is_table) rfl
  have F : FunD K d_is_table.name d_is_table.qual d_is_table.params d_is_table.body d_is_table.scope [] [] (He.fAd K d_is_table.at_) fd := F0
  have bd : Binds K fd ["thing", "size"] [] := F.bindsN fun _ _ _ _ _ _ us hl => match us, hl with | [_, _], _ => rfl
  have sc := sc_is_table
  refine ⟨fd, F, bd, def_ok (n := 2) (N := ["thing", "size"]) (fb := B_is_table) F sc rfl fun cdv A outer s H E hr hgd => ?_⟩
  have hu := good_u (k := 0) hr
  exact (psd_one (psd_ret (pd_and (pd_isiV .tuple rfl (pe_callB call_isi rfl m_isinstance PyProof.Rows.boot_isinstance (pa_cons (pv 0) (pa_cons (pe_gty rfl m_tuple PyProof.Rows.boot_tuple) pa_nil)))) (pd_one (pd_binR rfl (pe_cmpR (opEq_ok ⟨rfl, hu, hgd⟩) (pd_callV rfl (pe_callB bLen_ok rfl m_len PySem.boot_len (pa_cons (pv 0) pa_nil))) (pv 1) (by rfl)))))))
theorem sc_is_case : FnScope ["thing", "row"] ["thing"] (defScope s_is_case) := ⟨rfl, rfl, rfl, by decide +kernel, rfl, by decide +kernel, by decide +kernel⟩
theorem ok_is_case (T : TpG fa fn gt K mg) : ∃ fd, Has P w K mg base d_is_case ["thing"] 5 (spP K 1 G_is_case) fd := by
  have m_all := T.free 54 (x := "all")
  have m_isinstance := T.free 56 (x := "isinstance")
  have m_len := T.free 47 (x := "len")
  have m_tuple := T.free 50 (x := "tuple")
  obtain ⟨_, m_MOST_CANDIDATES⟩ := T.int 60 (x := "MOST_CANDIDATES")
  obtain ⟨_, m_MOST_MEMBERS⟩ := T.int 61 (x := "MOST_MEMBERS")
  have g_is_lot := T.glo 19 (x := "is_lot")
  obtain ⟨fd_is_lot, H_is_lot⟩ := ok_is_lot (P := P) (w := w) (base := base) T
  have g_is_table := T.glo 20 (x := "is_table")
  obtain ⟨fd_is_table, H_is_table⟩ := ok_is_table (P := P) (w := w) (base := base) T
  have g_is_within := T.glo 18 (x := "is_within")
  obtain ⟨fd_is_within, H_is_within⟩ := ok_is_within (P := P) (w := w) (base := base) T
  obtain ⟨fd, F0⟩ := T.c.def_ 21 (d := d_is_case) rfl
  have F : FunD K d_is_case.name d_is_case.qual d_is_case.params d_is_case.body d_is_case.scope [] [] (He.fAd K d_is_case.at_) fd := F0
  have bd : Binds K fd ["thing"] [] := F.bindsN fun _ _ _ _ _ _ us hl => match us, hl with | [_], _ => rfl
  have sc := sc_is_case
  refine ⟨fd, F, bd, def_ok (n := 1) (N := ["thing", "row"]) (fb := B_is_case) F sc rfl fun cdv A outer s H E hr hgd => ?_⟩
  have hu := good_u (k := 3) hr
  exact (psd_cons (psd_if (PW.pt (pwd_or (ptd_not (ptd_tru rfl (pd_def rfl (fun _ _ => gP_len) (pe_callG H_is_table.ok (hr.mono (by decide)) hgd rfl g_is_table H_is_table.F.kp H_is_table.b (pad_cons (pd_v (pv 0)) (pad_cons pd_int pad_nil)))))) (pwd_or (ptd_not (ptd_tru rfl (pd_def rfl (fun _ _ => gP_len) (pe_callG H_is_within.ok (hr.mono (by decide)) hgd rfl g_is_within H_is_within.F.kp H_is_within.b (pad_cons (pd_binL rfl (pe_ix opIx_ok (pv 0) pd_int (fun _ _ => rfl))) (pad_cons pd_int (pad_cons (pd_c (pe_glob (v := .int 7) rfl m_MOST_CANDIDATES ⟨_, rfl⟩) fun _ => rp_c.1) pad_nil))))))) (pwd_or1 (ptd_not (ptd_tru rfl (pd_def rfl (fun _ _ => gP_len) (pe_callG H_is_within.ok (hr.mono (by decide)) hgd rfl g_is_within H_is_within.F.kp H_is_within.b (pad_cons (pd_binL rfl (pe_ix opIx_ok (pv 0) pd_int (fun _ _ => rfl))) (pad_cons pd_int (pad_cons (pd_binL rfl (pe_ix opIx_ok (pv 0) pd_int (fun _ _ => rfl))) pad_nil))))))))))) (psd_one (psd_ret pd_bool)) psd_nil)
    (psd_cons (psd_if (PW.pt (pwd_or (ptd_not (ptd_tru rfl (pd_isi .tuple rfl (pe_callB call_isi rfl m_isinstance PyProof.Rows.boot_isinstance (pa_cons (pd_binL rfl (pe_ix opIx_ok (pv 0) pd_int (fun _ _ => rfl))) (pa_cons (pe_gty rfl m_tuple PyProof.Rows.boot_tuple) pa_nil)))))) (pwd_or1 (ptd_not (ptd_chain op_le op_le pd_int (pd_call rfl (pe_callB bLen_ok rfl m_len PySem.boot_len (pad_cons (pd_binL rfl (pe_ix opIx_ok (pv 0) pd_int (fun _ _ => rfl))) pad_nil))) (pd_c (pe_glob (v := .int 8) rfl m_MOST_MEMBERS ⟨_, rfl⟩) fun _ => rp_c.1)))))) (psd_one (psd_ret pd_bool)) psd_nil)
    (psd_one (psd_ret (pd_call rfl (pe_callB (bAll_ok ⟨rfl, hu, hgd⟩) rfl m_all PyProof.Rows.boot_all (pad_cons (pd_comp (C' := cnN K) (ws := [1]) (own := [1]) rfl (by decide) (by decide) (pe_lc rfl sc.nd (pid_seq rfl (pd_binL rfl (pe_ix opIx_ok (pv 0) pd_int (fun _ _ => rfl)))) (own := [("row", 1)]) (blkOk_by (by kernel_rfl)) (fun _ _ _ _ _ => (pgd_name (pg_name sc.nd rfl (by first | exact Or.inl rfl | exact Or.inr rfl)))) (fun _ _ _ _ _ => ptsd_nil) (fun _ _ _ _ _ => (pd_def rfl (fun _ _ => gP_len) (pe_callG H_is_lot.ok (hr.mono (by decide)) hgd rfl g_is_lot H_is_lot.F.kp H_is_lot.b (pad_cons (pd_v (pv 1)) (pad_cons (pd_binL rfl (pe_ix opIx_ok (pv 0) pd_int (fun _ _ => rfl))) pad_nil))))))) pad_nil)))))))
theorem sc_check_case : FnScope ["case"] ["case"] (defScope s_check_case) := ⟨rfl, rfl, rfl, by decide +kernel, rfl, by decide +kernel, by decide +kernel⟩
theorem ok_check_case (T : TpG fa fn gt K mg) : ∃ fd, Has P w K mg base d_check_case ["case"] 6 (spP K 1 G_check_case) fd := by
  have g_is_case := T.glo 21 (x := "is_case")
  obtain ⟨fd_is_case, H_is_case⟩ := ok_is_case (P := P) (w := w) (base := base) T
  obtain ⟨fd, F0⟩ := T.c.def_ 22 (d := d_check_case) rfl
  have F : FunD K d_check_case.name d_check_case.qual d_check_case.params d_check_case.body d_check_case.scope [] [] (He.fAd K d_check_case.at_) fd := F0
  have bd : Binds K fd ["case"] [] := F.bindsN fun _ _ _ _ _ _ us hl => match us, hl with | [_], _ => rfl
  have sc := sc_check_case
  refine ⟨fd, F, bd, def_ok (n := 1) (N := ["case"]) (fb := B_check_case) F sc rfl fun cdv A outer s H E hr hgd => ?_⟩
  have hu := good_u (k := 4) hr
  exact (psd_one (psd_if (ptd_not (ptd_tru rfl (pd_def rfl (fun _ _ => gP_len) (pe_callG H_is_case.ok (hr.mono (by decide)) hgd rfl g_is_case H_is_case.F.kp H_is_case.b (pad_cons (pd_v (pv 0)) pad_nil))))) (psd_one psd_never) psd_nil))
theorem sc_lots_of : FnScope ["many", "found", "number", "lot", "size"] ["many"] (defScope s_lots_of) := ⟨rfl, rfl, rfl, by decide +kernel, rfl, by decide +kernel, by decide +kernel⟩
theorem ok_lots_of (T : TpG fa fn gt K mg) : ∃ fd, Has P w K mg base d_lots_of ["many"] 2 (spP K 1 G_lots_of) fd := by
  have m_len := T.free 47 (x := "len")
  have m_range := T.free 49 (x := "range")
  have m_sorted := T.free 52 (x := "sorted")
  obtain ⟨fd, F0⟩ := T.c.def_ 23 (d := d_lots_of) rfl
  have F : FunD K d_lots_of.name d_lots_of.qual d_lots_of.params d_lots_of.body d_lots_of.scope [] [] (He.fAd K d_lots_of.at_) fd := F0
  have bd : Binds K fd ["many"] [] := F.bindsN fun _ _ _ _ _ _ us hl => match us, hl with | [_], _ => rfl
  have sc := sc_lots_of
  refine ⟨fd, F, bd, def_ok (n := 1) (N := ["many", "found", "number", "lot", "size"]) (fb := B_lots_of) F sc rfl fun cdv A outer s H E hr hgd => ?_⟩
  have hu := good_u (k := 0) hr
  exact (psd_cons (psd_set (by decide) (ps_set sc.nd rfl (by first | exact Or.inl rfl | exact Or.inr rfl) (pd_lst (pad_cons (pd_tup pad_nil) pad_nil))))
    (psd_cons (psd_for (by decide) (ps_for PassesOwn.never rfl (pid_r1 (pi_range1 rfl m_range (pa_cons (pd_v (pv 0)) pa_nil))) (pgd_name (pg_name sc.nd rfl (by first | exact Or.inl rfl | exact Or.inr rfl))) (psd_one (psd_set (by decide) (ps_set sc.nd rfl (by first | exact Or.inl rfl | exact Or.inr rfl) (pd_binL rfl (pe_op opAdd_ok (pv 1) (pd_compV (C' := cnN K) (ws := [3]) (own := [3]) rfl (by decide) (by decide) (pe_lc rfl sc.nd (pid_seqV rfl (pv 1)) (own := [("lot", 3)]) (blkOk_by (by kernel_rfl)) (fun _ _ _ _ _ => (pgd_name (pg_name sc.nd rfl (by first | exact Or.inl rfl | exact Or.inr rfl)))) (fun _ _ _ _ _ => ptsd_nil) (fun _ _ _ _ _ => (pd_binL rfl (pe_op opAdd_ok (pv 3) (pd_tup (pad_cons (pd_v (pv 2)) pad_nil))))))))))))))
    (psd_one (psd_ret (pd_comp (C' := cnN K) (ws := [4, 3]) (own := [4, 3]) rfl (by decide) (by decide) (pe_lc rfl sc.nd (pid_seq rfl (pd_call rfl (pe_callB (bSorted_ok ⟨rfl, hu, hgd⟩) rfl m_sorted PyProof.Rows.boot_sorted (pad_cons (pd_compV (C' := cnN K) (ws := [3]) (own := [3]) rfl (by decide) (by decide) (pe_lc rfl sc.nd (pid_seqV rfl (pv 1)) (own := [("lot", 3)]) (blkOk_by (by kernel_rfl)) (fun _ _ _ _ _ => (pgd_name (pg_name sc.nd rfl (by first | exact Or.inl rfl | exact Or.inr rfl)))) (fun _ _ _ _ _ => ptsd_nil) (fun _ _ _ _ _ => (pd_tup (pad_cons (pd_callV rfl (pe_callB bLen_ok rfl m_len PySem.boot_len (pa_cons (pv 3) pa_nil))) (pad_cons (pd_v (pv 3)) pad_nil)))))) pad_nil)))) (own := [("size", 4), ("lot", 3)]) (blkOk_by (by kernel_rfl)) (fun _ _ _ _ _ => (pgd_tup rfl rfl (pgsd_cons (pgd_name (pg_name sc.nd rfl (by first | exact Or.inl rfl | exact Or.inr rfl))) (pgsd_cons (pgd_name (pg_name sc.nd rfl (by first | exact Or.inl rfl | exact Or.inr rfl))) pgsd_nil)))) (fun _ _ _ _ _ => ptsd_nil) (fun _ _ _ _ _ => (pd_v (pv 3)))))))))
theorem sc_choices_in : FnScope ["case", "lot"] ["case"] (defScope s_choices_in) := ⟨rfl, rfl, rfl, by decide +kernel, rfl, by decide +kernel, by decide +kernel⟩
theorem ok_choices_in (T : TpG fa fn gt K mg) : ∃ fd, Has P w K mg base d_choices_in ["case"] 3 (spP K 1 G_choices_in) fd := by
  have m_len := T.free 47 (x := "len")
  have g_lots_of := T.glo 23 (x := "lots_of")
  obtain ⟨fd_lots_of, H_lots_of⟩ := ok_lots_of (P := P) (w := w) (base := base) T
  obtain ⟨fd, F0⟩ := T.c.def_ 24 (d := d_choices_in) rfl
  have F : FunD K d_choices_in.name d_choices_in.qual d_choices_in.params d_choices_in.body d_choices_in.scope [] [] (He.fAd K d_choices_in.at_) fd := F0
  have bd : Binds K fd ["case"] [] := F.bindsN fun _ _ _ _ _ _ us hl => match us, hl with | [_], _ => rfl
  have sc := sc_choices_in
  refine ⟨fd, F, bd, def_ok (n := 1) (N := ["case", "lot"]) (fb := B_choices_in) F sc rfl fun cdv A outer s H E hr hgd => ?_⟩
  have hu := good_u (k := 1) hr
  exact (psd_one (psd_ret (pd_comp (C' := cnN K) (ws := [1]) (own := [1]) rfl (by decide) (by decide) (pe_lc rfl sc.nd (pid_seq rfl (pd_def rfl (fun _ _ => gP_len) (pe_callG H_lots_of.ok (hr.mono (by decide)) hgd rfl g_lots_of H_lots_of.F.kp H_lots_of.b (pad_cons (pd_binL rfl (pe_ix opIx_ok (pv 0) pd_int (fun _ _ => rfl))) pad_nil)))) (own := [("lot", 1)]) (blkOk_by (by kernel_rfl)) (fun _ _ _ _ _ => (pgd_name (pg_name sc.nd rfl (by first | exact Or.inl rfl | exact Or.inr rfl)))) (fun _ _ _ _ _ => (ptsd_one (ptb_bin rfl (pt_cmpR (opEq_ok ⟨rfl, hu, hgd⟩) (pd_callV rfl (pe_callB bLen_ok rfl m_len PySem.boot_len (pa_cons (pv 1) pa_nil))) (pd_binL rfl (pe_ix opIx_ok (pv 0) pd_int (fun _ _ => rfl))) (by rfl))))) (fun _ _ _ _ _ => (pd_v (pv 1)))))))
theorem sc_is_below : FnScope ["one", "other"] ["one", "other"] (defScope s_is_below) := ⟨rfl, rfl, rfl, by decide +kernel, rfl, by decide +kernel, by decide +kernel⟩
theorem ok_is_below (T : TpG fa fn gt K mg) : ∃ fd, Has P w K mg base d_is_below ["one", "other"] 2 (spP K 2 G_is_below) fd := by
  obtain ⟨fd, F0⟩ := T.c.def_ 25 (d := d_is_below) rfl
  have F : FunD K d_is_below.name d_is_below.qual d_is_below.params d_is_below.body d_is_below.scope [] [] (He.fAd K d_is_below.at_) fd := F0
  have bd : Binds K fd ["one", "other"] [] := F.bindsN fun _ _ _ _ _ _ us hl => match us, hl with | [_, _], _ => rfl
  have sc := sc_is_below
  refine ⟨fd, F, bd, def_ok (n := 2) (N := ["one", "other"]) (fb := B_is_below) F sc rfl fun cdv A outer s H E hr hgd => ?_⟩
  have hu := good_u (k := 0) hr
  exact (psd_one (psd_ret (pd_bin rfl (pe_cmpR (opLt_ok ⟨rfl, hu, hgd⟩) (pd_bin rfl (pe_op opMul_ok (pd_binL rfl (pe_ix opIx_ok (pv 0) pd_int (fun _ _ => rfl))) (pd_binL rfl (pe_ix opIx_ok (pv 1) pd_int (fun _ _ => rfl))))) (pd_bin rfl (pe_op opMul_ok (pd_binL rfl (pe_ix opIx_ok (pv 1) pd_int (fun _ _ => rfl))) (pd_binL rfl (pe_ix opIx_ok (pv 0) pd_int (fun _ _ => rfl))))) (by rfl)))))
theorem sc_both : FnScope ["one", "other", "thing"] ["one", "other"] (defScope s_both) := ⟨rfl, rfl, rfl, by decide +kernel, rfl, by decide +kernel, by decide +kernel⟩
theorem ok_both (T : TpG fa fn gt K mg) : ∃ fd, Has P w K mg base d_both ["one", "other"] 2 (spP K 2 G_both) fd := by
  have m_len := T.free 47 (x := "len")
  obtain ⟨fd, F0⟩ := T.c.def_ 26 (d := d_both) rfl
  have F : FunD K d_both.name d_both.qual d_both.params d_both.body d_both.scope [] [] (He.fAd K d_both.at_) fd := F0
  have bd : Binds K fd ["one", "other"] [] := F.bindsN fun _ _ _ _ _ _ us hl => match us, hl with | [_, _], _ => rfl
  have sc := sc_both
  refine ⟨fd, F, bd, def_ok (n := 2) (N := ["one", "other", "thing"]) (fb := B_both) F sc rfl fun cdv A outer s H E hr hgd => ?_⟩
  have hu := good_u (k := 0) hr
  exact (psd_one (psd_ret (pd_call rfl (pe_callB bLen_ok rfl m_len PySem.boot_len (pad_cons (pd_compV (C' := cnN K) (ws := [2]) (own := [2]) rfl (by decide) (by decide) (pe_lc rfl sc.nd (pid_seqV rfl (pv 0)) (own := [("thing", 2)]) (blkOk_by (by kernel_rfl)) (fun _ _ _ _ _ => (pgd_name (pg_name sc.nd rfl (by first | exact Or.inl rfl | exact Or.inr rfl)))) (fun _ _ _ _ _ => (ptsd_one (ptb_binLR rfl (pt_cmpR (opIn_ok ⟨rfl, hu, hgd⟩) (pv 2) (pv 1) (by rfl))))) (fun _ _ _ _ _ => (pd_v (pv 2))))) pad_nil)))))
theorem sc_liked_by : FnScope ["case", "choice", "row"] ["case", "choice"] (defScope s_liked_by) := ⟨rfl, rfl, rfl, by decide +kernel, rfl, by decide +kernel, by decide +kernel⟩
theorem ok_liked_by (T : TpG fa fn gt K mg) : ∃ fd, Has P w K mg base d_liked_by ["case", "choice"] 3 (spP K 2 G_liked_by) fd := by
  have g_both := T.glo 26 (x := "both")
  obtain ⟨fd_both, H_both⟩ := ok_both (P := P) (w := w) (base := base) T
  obtain ⟨fd, F0⟩ := T.c.def_ 27 (d := d_liked_by) rfl
  have F : FunD K d_liked_by.name d_liked_by.qual d_liked_by.params d_liked_by.body d_liked_by.scope [] [] (He.fAd K d_liked_by.at_) fd := F0
  have bd : Binds K fd ["case", "choice"] [] := F.bindsN fun _ _ _ _ _ _ us hl => match us, hl with | [_, _], _ => rfl
  have sc := sc_liked_by
  refine ⟨fd, F, bd, def_ok (n := 2) (N := ["case", "choice", "row"]) (fb := B_liked_by) F sc rfl fun cdv A outer s H E hr hgd => ?_⟩
  have hu := good_u (k := 1) hr
  exact (psd_one (psd_ret (pd_comp (C' := cnN K) (ws := [2]) (own := [2]) rfl (by decide) (by decide) (pe_lc rfl sc.nd (pid_seq rfl (pd_binL rfl (pe_ix opIx_ok (pv 0) pd_int (fun _ _ => rfl)))) (own := [("row", 2)]) (blkOk_by (by kernel_rfl)) (fun _ _ _ _ _ => (pgd_name (pg_name sc.nd rfl (by first | exact Or.inl rfl | exact Or.inr rfl)))) (fun _ _ _ _ _ => ptsd_nil) (fun _ _ _ _ _ => (pd_def rfl (fun _ _ => gP_len) (pe_callG H_both.ok (hr.mono (by decide)) hgd rfl g_both H_both.F.kp H_both.b (pad_cons (pd_v (pv 2)) (pad_cons (pd_v (pv 1)) pad_nil)))))))))
theorem sc_common : FnScope ["one", "other"] ["one", "other"] (defScope s_common) := ⟨rfl, rfl, rfl, by decide +kernel, rfl, by decide +kernel, by decide +kernel⟩
theorem ok_common (T : TpG fa fn gt K mg) : ∃ fd, Has P w K mg base d_common ["one", "other"] 2 (spP K 2 G_common) fd := by
  have m_abs := T.free 48 (x := "abs")
  obtain ⟨fd, F0⟩ := T.c.def_ 28 (d := d_common) rfl
  have F : FunD K d_common.name d_common.qual d_common.params d_common.body d_common.scope [] [] (He.fAd K d_common.at_) fd := F0
  have bd : Binds K fd ["one", "other"] [] := F.bindsN fun _ _ _ _ _ _ us hl => match us, hl with | [_, _], _ => rfl
  have sc := sc_common
  refine ⟨fd, F, bd, def_ok (n := 2) (N := ["one", "other"]) (fb := B_common) F sc rfl fun cdv A outer s H E hr hgd => ?_⟩
  have hu := good_u (k := 0) hr
  exact (psd_cons (psd_while (ps_while PassesOwn.never (ptb_binL rfl (pt_cmpR (opGt_ok ⟨rfl, hu, hgd⟩) (pv 1) pd_int (by rfl))) (psd_one (psd_par (by decide) (by decide) (ps_par rfl sc.nd rfl rfl (by decide) rfl rfl (pad_cons (pd_v (pv 1)) (pad_cons (pd_binLR rfl (pe_op opMod_ok (pv 0) (pv 1))) pad_nil)) (by rfl))))))
    (psd_one (psd_ret (pd_callV rfl (pe_callB bAbs_ok rfl m_abs PyProof.Rows.boot_abs (pa_cons (pv 0) pa_nil))))))
theorem sc_made : FnScope ["top", "bottom", "divisor"] ["top", "bottom"] (defScope s_made) := ⟨rfl, rfl, rfl, by decide +kernel, rfl, by decide +kernel, by decide +kernel⟩
theorem ok_made (T : TpG fa fn gt K mg) : ∃ fd, Has P w K mg base d_made ["top", "bottom"] 3 (spP K 2 G_made) fd := by
  have g_common := T.glo 28 (x := "common")
  obtain ⟨fd_common, H_common⟩ := ok_common (P := P) (w := w) (base := base) T
  obtain ⟨fd, F0⟩ := T.c.def_ 29 (d := d_made) rfl
  have F : FunD K d_made.name d_made.qual d_made.params d_made.body d_made.scope [] [] (He.fAd K d_made.at_) fd := F0
  have bd : Binds K fd ["top", "bottom"] [] := F.bindsN fun _ _ _ _ _ _ us hl => match us, hl with | [_, _], _ => rfl
  have sc := sc_made
  refine ⟨fd, F, bd, def_ok (n := 2) (N := ["top", "bottom", "divisor"]) (fb := B_made) F sc rfl fun cdv A outer s H E hr hgd => ?_⟩
  have hu := good_u (k := 1) hr
  exact (psd_cons (psd_set (by decide) (ps_set sc.nd rfl (by first | exact Or.inl rfl | exact Or.inr rfl) (pd_def rfl (fun _ _ => gP_len) (pe_callG H_common.ok (hr.mono (by decide)) hgd rfl g_common H_common.F.kp H_common.b (pad_cons (pd_v (pv 0)) (pad_cons (pd_v (pv 1)) pad_nil))))))
    (psd_one (psd_ret (pd_tup (pad_cons (pd_binLR rfl (pe_op opFdiv_ok (pv 0) (pv 2))) (pad_cons (pd_binLR rfl (pe_op opFdiv_ok (pv 1) (pv 2))) pad_nil))))))
theorem sc_plus : FnScope ["one", "other"] ["one", "other"] (defScope s_plus) := ⟨rfl, rfl, rfl, by decide +kernel, rfl, by decide +kernel, by decide +kernel⟩
theorem ok_plus (T : TpG fa fn gt K mg) : ∃ fd, Has P w K mg base d_plus ["one", "other"] 4 (spP K 2 G_plus) fd := by
  have g_made := T.glo 29 (x := "made")
  obtain ⟨fd_made, H_made⟩ := ok_made (P := P) (w := w) (base := base) T
  obtain ⟨fd, F0⟩ := T.c.def_ 30 (d := d_plus) rfl
  have F : FunD K d_plus.name d_plus.qual d_plus.params d_plus.body d_plus.scope [] [] (He.fAd K d_plus.at_) fd := F0
  have bd : Binds K fd ["one", "other"] [] := F.bindsN fun _ _ _ _ _ _ us hl => match us, hl with | [_, _], _ => rfl
  have sc := sc_plus
  refine ⟨fd, F, bd, def_ok (n := 2) (N := ["one", "other"]) (fb := B_plus) F sc rfl fun cdv A outer s H E hr hgd => ?_⟩
  have hu := good_u (k := 2) hr
  exact (psd_one (psd_ret (pd_def rfl (fun _ _ => gP_len) (pe_callG H_made.ok (hr.mono (by decide)) hgd rfl g_made H_made.F.kp H_made.b (pad_cons (pd_bin rfl (pe_op opAdd_ok (pd_bin rfl (pe_op opMul_ok (pd_binL rfl (pe_ix opIx_ok (pv 0) pd_int (fun _ _ => rfl))) (pd_binL rfl (pe_ix opIx_ok (pv 1) pd_int (fun _ _ => rfl))))) (pd_bin rfl (pe_op opMul_ok (pd_binL rfl (pe_ix opIx_ok (pv 1) pd_int (fun _ _ => rfl))) (pd_binL rfl (pe_ix opIx_ok (pv 0) pd_int (fun _ _ => rfl))))))) (pad_cons (pd_bin rfl (pe_op opMul_ok (pd_binL rfl (pe_ix opIx_ok (pv 0) pd_int (fun _ _ => rfl))) (pd_binL rfl (pe_ix opIx_ok (pv 1) pd_int (fun _ _ => rfl))))) pad_nil))))))
theorem sc_total_of : FnScope ["fractions", "found", "one"] ["fractions"] (defScope s_total_of) := ⟨rfl, rfl, rfl, by decide +kernel, rfl, by decide +kernel, by decide +kernel⟩
theorem ok_total_of (T : TpG fa fn gt K mg) : ∃ fd, Has P w K mg base d_total_of ["fractions"] 5 (spP K 1 G_total_of) fd := by
  have g_plus := T.glo 30 (x := "plus")
  obtain ⟨fd_plus, H_plus⟩ := ok_plus (P := P) (w := w) (base := base) T
  obtain ⟨fd, F0⟩ := T.c.def_ 31 (d := d_total_of) rfl
  have F : FunD K d_total_of.name d_total_of.qual d_total_of.params d_total_of.body d_total_of.scope [] [] (He.fAd K d_total_of.at_) fd := F0
  have bd : Binds K fd ["fractions"] [] := F.bindsN fun _ _ _ _ _ _ us hl => match us, hl with | [_], _ => rfl
  have sc := sc_total_of
  refine ⟨fd, F, bd, def_ok (n := 1) (N := ["fractions", "found", "one"]) (fb := B_total_of) F sc rfl fun cdv A outer s H E hr hgd => ?_⟩
  have hu := good_u (k := 3) hr
  exact (psd_cons (psd_set (by decide) (ps_set sc.nd rfl (by first | exact Or.inl rfl | exact Or.inr rfl) (pd_tup (pad_cons pd_int (pad_cons pd_int pad_nil)))))
    (psd_cons (psd_forV (by decide) (ps_for PassesOwn.never rfl (pid_seqV rfl (pv 0)) (pgd_name (pg_name sc.nd rfl (by first | exact Or.inl rfl | exact Or.inr rfl))) (psd_one (psd_set (by decide) (ps_set sc.nd rfl (by first | exact Or.inl rfl | exact Or.inr rfl) (pd_def rfl (fun _ _ => gP_len) (pe_callG H_plus.ok (hr.mono (by decide)) hgd rfl g_plus H_plus.F.kp H_plus.b (pad_cons (pd_v (pv 1)) (pad_cons (pd_v (pv 2)) pad_nil)))))))))
    (psd_one (psd_retV (pv 1)))))
theorem sc_raw_sum : FnScope ["case", "choice", "found", "many", "number"] ["case", "choice"] (defScope s_raw_sum) := ⟨rfl, rfl, rfl, by decide +kernel, rfl, by decide +kernel, by decide +kernel⟩
theorem ok_raw_sum (T : TpG fa fn gt K mg) : ∃ fd, Has P w K mg base d_raw_sum ["case", "choice"] 6 (spP K 2 G_raw_sum) fd := by
  have m_range := T.free 49 (x := "range")
  have m_ZERO := T.tup 0 (x := "ZERO") rfl 45 rfl
  have g_liked_by := T.glo 27 (x := "liked_by")
  obtain ⟨fd_liked_by, H_liked_by⟩ := ok_liked_by (P := P) (w := w) (base := base) T
  have g_plus := T.glo 30 (x := "plus")
  obtain ⟨fd_plus, H_plus⟩ := ok_plus (P := P) (w := w) (base := base) T
  have g_total_of := T.glo 31 (x := "total_of")
  obtain ⟨fd_total_of, H_total_of⟩ := ok_total_of (P := P) (w := w) (base := base) T
  obtain ⟨fd, F0⟩ := T.c.def_ 32 (d := d_raw_sum) rfl
  have F : FunD K d_raw_sum.name d_raw_sum.qual d_raw_sum.params d_raw_sum.body d_raw_sum.scope [] [] (He.fAd K d_raw_sum.at_) fd := F0
  have bd : Binds K fd ["case", "choice"] [] := F.bindsN fun _ _ _ _ _ _ us hl => match us, hl with | [_, _], _ => rfl
  have sc := sc_raw_sum
  refine ⟨fd, F, bd, def_ok (n := 2) (N := ["case", "choice", "found", "many", "number"]) (fb := B_raw_sum) F sc rfl fun cdv A outer s H E hr hgd => ?_⟩
  have hu := good_u (k := 4) hr
  exact (psd_cons (psd_set (by decide) (ps_set sc.nd rfl (by first | exact Or.inl rfl | exact Or.inr rfl) (pd_gt rfl rfl m_ZERO)))
    (psd_cons (psd_for (by decide) (ps_for PassesOwn.never rfl (pid_seq rfl (pd_def rfl (fun _ _ => gP_len) (pe_callG H_liked_by.ok (hr.mono (by decide)) hgd rfl g_liked_by H_liked_by.F.kp H_liked_by.b (pad_cons (pd_v (pv 0)) (pad_cons (pd_v (pv 1)) pad_nil))))) (pgd_name (pg_name sc.nd rfl (by first | exact Or.inl rfl | exact Or.inr rfl))) (psd_one (psd_set (by decide) (ps_set sc.nd rfl (by first | exact Or.inl rfl | exact Or.inr rfl) (pd_def rfl (fun _ _ => gP_len) (pe_callG H_plus.ok (hr.mono (by decide)) hgd rfl g_plus H_plus.F.kp H_plus.b (pad_cons (pd_v (pv 2)) (pad_cons (pd_def rfl (fun _ _ => gP_len) (pe_callG H_total_of.ok (hr.mono (by decide)) hgd rfl g_total_of H_total_of.F.kp H_total_of.b (pad_cons (pd_comp (C' := cnN K) (ws := [4]) (own := [4]) rfl (by decide) (by decide) (pe_lc rfl sc.nd (pid_r2 (pi_range2 rfl m_range (pa_cons pd_int (pa_cons (pd_binL rfl (pe_op opAdd_ok (pv 3) pd_int)) pa_nil)))) (own := [("number", 4)]) (blkOk_by (by kernel_rfl)) (fun _ _ _ _ _ => (pgd_name (pg_name sc.nd rfl (by first | exact Or.inl rfl | exact Or.inr rfl)))) (fun _ _ _ _ _ => ptsd_nil) (fun _ _ _ _ _ => (pd_tup (pad_cons pd_int (pad_cons (pd_v (pv 4)) pad_nil)))))) pad_nil))) pad_nil)))))))))
    (psd_one (psd_retV (pv 2)))))
theorem sc_best_sum : FnScope ["case", "best", "choice", "here"] ["case"] (defScope s_best_sum) := ⟨rfl, rfl, rfl, by decide +kernel, rfl, by decide +kernel, by decide +kernel⟩
theorem ok_best_sum (T : TpG fa fn gt K mg) : ∃ fd, Has P w K mg base d_best_sum ["case"] 7 (spP K 1 G_best_sum) fd := by
  have g_check_case := T.glo 22 (x := "check_case")
  obtain ⟨fd_check_case, H_check_case⟩ := ok_check_case (P := P) (w := w) (base := base) T
  have g_choices_in := T.glo 24 (x := "choices_in")
  obtain ⟨fd_choices_in, H_choices_in⟩ := ok_choices_in (P := P) (w := w) (base := base) T
  have g_is_below := T.glo 25 (x := "is_below")
  obtain ⟨fd_is_below, H_is_below⟩ := ok_is_below (P := P) (w := w) (base := base) T
  have g_raw_sum := T.glo 32 (x := "raw_sum")
  obtain ⟨fd_raw_sum, H_raw_sum⟩ := ok_raw_sum (P := P) (w := w) (base := base) T
  obtain ⟨fd, F0⟩ := T.c.def_ 33 (d := d_best_sum) rfl
  have F : FunD K d_best_sum.name d_best_sum.qual d_best_sum.params d_best_sum.body d_best_sum.scope [] [] (He.fAd K d_best_sum.at_) fd := F0
  have bd : Binds K fd ["case"] [] := F.bindsN fun _ _ _ _ _ _ us hl => match us, hl with | [_], _ => rfl
  have sc := sc_best_sum
  refine ⟨fd, F, bd, def_ok (n := 1) (N := ["case", "best", "choice", "here"]) (fb := B_best_sum) F sc rfl fun cdv A outer s H E hr hgd => ?_⟩
  have hu := good_u (k := 5) hr
  exact (psd_cons (psd_expr (pd_def rfl (fun _ _ => gP_len) (pe_callG H_check_case.ok (hr.mono (by decide)) hgd rfl g_check_case H_check_case.F.kp H_check_case.b (pad_cons (pd_v (pv 0)) pad_nil))))
    (psd_cons (psd_set (by decide) (ps_set sc.nd rfl (by first | exact Or.inl rfl | exact Or.inr rfl) pd_none))
    (psd_cons (psd_for (by decide) (ps_for PassesOwn.never rfl (pid_seq rfl (pd_def rfl (fun _ _ => gP_len) (pe_callG H_choices_in.ok (hr.mono (by decide)) hgd rfl g_choices_in H_choices_in.F.kp H_choices_in.b (pad_cons (pd_v (pv 0)) pad_nil)))) (pgd_name (pg_name sc.nd rfl (by first | exact Or.inl rfl | exact Or.inr rfl))) (psd_cons (psd_set (by decide) (ps_set sc.nd rfl (by first | exact Or.inl rfl | exact Or.inr rfl) (pd_def rfl (fun _ _ => gP_len) (pe_callG H_raw_sum.ok (hr.mono (by decide)) hgd rfl g_raw_sum H_raw_sum.F.kp H_raw_sum.b (pad_cons (pd_v (pv 0)) (pad_cons (pd_v (pv 2)) pad_nil))))))
    (psd_one (psd_if (PW.pt (pwd_or (ptb_binL rfl (pt_cmpR opIs_ok (pv 1) pd_none (by rfl))) (pwd_or1 (ptd_tru rfl (pd_def rfl (fun _ _ => gP_len) (pe_callG H_is_below.ok (hr.mono (by decide)) hgd rfl g_is_below H_is_below.F.kp H_is_below.b (pad_cons (pd_binL rfl (pe_ix opIx_ok (pv 1) pd_int (fun _ _ => rfl))) (pad_cons (pd_v (pv 3)) pad_nil)))))))) (psd_one (psd_set (by decide) (ps_set sc.nd rfl (by first | exact Or.inl rfl | exact Or.inr rfl) (pd_tup (pad_cons (pd_v (pv 3)) (pad_cons (pd_v (pv 2)) pad_nil)))))) psd_nil)))))
    (psd_one (psd_retV (pv 1))))))
theorem sc_check_choice : FnScope ["case", "choice"] ["case", "choice"] (defScope s_check_choice) := ⟨rfl, rfl, rfl, by decide +kernel, rfl, by decide +kernel, by decide +kernel⟩
theorem ok_check_choice (T : TpG fa fn gt K mg) : ∃ fd, Has P w K mg base d_check_choice ["case", "choice"] 7 (spP K 2 G_check_choice) fd := by
  have m_len := T.free 47 (x := "len")
  have g_check_case := T.glo 22 (x := "check_case")
  obtain ⟨fd_check_case, H_check_case⟩ := ok_check_case (P := P) (w := w) (base := base) T
  have g_is_lot := T.glo 19 (x := "is_lot")
  obtain ⟨fd_is_lot, H_is_lot⟩ := ok_is_lot (P := P) (w := w) (base := base) T
  obtain ⟨fd, F0⟩ := T.c.def_ 34 (d := d_check_choice) rfl
  have F : FunD K d_check_choice.name d_check_choice.qual d_check_choice.params d_check_choice.body d_check_choice.scope [] [] (He.fAd K d_check_choice.at_) fd := F0
  have bd : Binds K fd ["case", "choice"] [] := F.bindsN fun _ _ _ _ _ _ us hl => match us, hl with | [_, _], _ => rfl
  have sc := sc_check_choice
  refine ⟨fd, F, bd, def_ok (n := 2) (N := ["case", "choice"]) (fb := B_check_choice) F sc rfl fun cdv A outer s H E hr hgd => ?_⟩
  have hu := good_u (k := 5) hr
  exact (psd_cons (psd_expr (pd_def rfl (fun _ _ => gP_len) (pe_callG H_check_case.ok (hr.mono (by decide)) hgd rfl g_check_case H_check_case.F.kp H_check_case.b (pad_cons (pd_v (pv 0)) pad_nil))))
    (psd_one (psd_if (PW.pt (pwd_or (ptd_not (ptd_tru rfl (pd_def rfl (fun _ _ => gP_len) (pe_callG H_is_lot.ok (hr.mono (by decide)) hgd rfl g_is_lot H_is_lot.F.kp H_is_lot.b (pad_cons (pd_v (pv 1)) (pad_cons (pd_binL rfl (pe_ix opIx_ok (pv 0) pd_int (fun _ _ => rfl))) pad_nil)))))) (pwd_or1 (ptb_bin rfl (pt_cmpR (opNe_ok ⟨rfl, hu, hgd⟩) (pd_callV rfl (pe_callB bLen_ok rfl m_len PySem.boot_len (pa_cons (pv 1) pa_nil))) (pd_binL rfl (pe_ix opIx_ok (pv 0) pd_int (fun _ _ => rfl))) (by rfl)))))) (psd_one psd_never) psd_nil)))
theorem sc_no_exchange : FnScope ["case", "choice", "most", "out", "into", "other", "one"] ["case", "choice"] (defScope s_no_exchange) := ⟨rfl, rfl, rfl, by decide +kernel, rfl, by decide +kernel, by decide +kernel⟩
theorem ok_no_exchange (T : TpG fa fn gt K mg) : ∃ fd, Has P w K mg base d_no_exchange ["case", "choice"] 8 (spP K 2 G_no_exchange) fd := by
  have m_len := T.free 47 (x := "len")
  have m_range := T.free 49 (x := "range")
  have m_sorted := T.free 52 (x := "sorted")
  have m_tuple := T.free 50 (x := "tuple")
  have g_check_choice := T.glo 34 (x := "check_choice")
  obtain ⟨fd_check_choice, H_check_choice⟩ := ok_check_choice (P := P) (w := w) (base := base) T
  have g_is_below := T.glo 25 (x := "is_below")
  obtain ⟨fd_is_below, H_is_below⟩ := ok_is_below (P := P) (w := w) (base := base) T
  have g_made := T.glo 29 (x := "made")
  obtain ⟨fd_made, H_made⟩ := ok_made (P := P) (w := w) (base := base) T
  have g_plus := T.glo 30 (x := "plus")
  obtain ⟨fd_plus, H_plus⟩ := ok_plus (P := P) (w := w) (base := base) T
  have g_raw_sum := T.glo 32 (x := "raw_sum")
  obtain ⟨fd_raw_sum, H_raw_sum⟩ := ok_raw_sum (P := P) (w := w) (base := base) T
  obtain ⟨fd, F0⟩ := T.c.def_ 35 (d := d_no_exchange) rfl
  have F : FunD K d_no_exchange.name d_no_exchange.qual d_no_exchange.params d_no_exchange.body d_no_exchange.scope [] [] (He.fAd K d_no_exchange.at_) fd := F0
  have bd : Binds K fd ["case", "choice"] [] := F.bindsN fun _ _ _ _ _ _ us hl => match us, hl with | [_, _], _ => rfl
  have sc := sc_no_exchange
  refine ⟨fd, F, bd, def_ok (n := 2) (N := ["case", "choice", "most", "out", "into", "other", "one"]) (fb := B_no_exchange) F sc rfl fun cdv A outer s H E hr hgd => ?_⟩
  have hu := good_u (k := 6) hr
  exact (psd_cons (psd_expr (pd_def rfl (fun _ _ => gP_len) (pe_callG H_check_choice.ok (hr.mono (by decide)) hgd rfl g_check_choice H_check_choice.F.kp H_check_choice.b (pad_cons (pd_v (pv 0)) (pad_cons (pd_v (pv 1)) pad_nil)))))
    (psd_cons (psd_set (by decide) (ps_set sc.nd rfl (by first | exact Or.inl rfl | exact Or.inr rfl) (pd_def rfl (fun _ _ => gP_len) (pe_callG H_plus.ok (hr.mono (by decide)) hgd rfl g_plus H_plus.F.kp H_plus.b (pad_cons (pd_def rfl (fun _ _ => gP_len) (pe_callG H_raw_sum.ok (hr.mono (by decide)) hgd rfl g_raw_sum H_raw_sum.F.kp H_raw_sum.b (pad_cons (pd_v (pv 0)) (pad_cons (pd_v (pv 1)) pad_nil)))) (pad_cons (pd_def rfl (fun _ _ => gP_len) (pe_callG H_made.ok (hr.mono (by decide)) hgd rfl g_made H_made.F.kp H_made.b (pad_cons (pd_call rfl (pe_callB bLen_ok rfl m_len PySem.boot_len (pad_cons (pd_binL rfl (pe_ix opIx_ok (pv 0) pd_int (fun _ _ => rfl))) pad_nil))) (pad_cons (pd_bin rfl (pe_op opMul_ok (pd_binL rfl (pe_ix opIx_ok (pv 0) pd_int (fun _ _ => rfl))) (pd_binL rfl (pe_ix opIx_ok (pv 0) pd_int (fun _ _ => rfl))))) pad_nil)))) pad_nil))))))
    (psd_cons (psd_forV (by decide) (ps_for PassesOwn.never rfl (pid_seqV rfl (pv 1)) (pgd_name (pg_name sc.nd rfl (by first | exact Or.inl rfl | exact Or.inr rfl))) (psd_one (psd_for (by decide) (ps_for PassesOwn.never rfl (pid_r1 (pi_range1 rfl m_range (pa_cons (pd_binL rfl (pe_ix opIx_ok (pv 0) pd_int (fun _ _ => rfl))) pa_nil))) (pgd_name (pg_name sc.nd rfl (by first | exact Or.inl rfl | exact Or.inr rfl))) (psd_one (psd_if (ptb_binLR rfl (pt_cmpR (opNotIn_ok ⟨rfl, hu, hgd⟩) (pv 4) (pv 1) (by rfl))) (psd_cons (psd_set (by decide) (ps_set sc.nd rfl (by first | exact Or.inl rfl | exact Or.inr rfl) (pd_call rfl (pe_callTy bTuple_ok rfl m_tuple PyProof.Rows.boot_tuple (pad_cons (pd_call rfl (pe_callB (bSorted_ok ⟨rfl, hu, hgd⟩) rfl m_sorted PyProof.Rows.boot_sorted (pad_cons (pd_bin rfl (pe_op opAdd_ok (pd_compV (C' := cnN K) (ws := [6]) (own := [6]) rfl (by decide) (by decide) (pe_lc rfl sc.nd (pid_seqV rfl (pv 1)) (own := [("one", 6)]) (blkOk_by (by kernel_rfl)) (fun _ _ _ _ _ => (pgd_name (pg_name sc.nd rfl (by first | exact Or.inl rfl | exact Or.inr rfl)))) (fun _ _ _ _ _ => (ptsd_one (ptb_binLR rfl (pt_cmpR (opNe_ok ⟨rfl, hu, hgd⟩) (pv 6) (pv 3) (by rfl))))) (fun _ _ _ _ _ => (pd_v (pv 6))))) (pd_lst (pad_cons (pd_v (pv 4)) pad_nil)))) pad_nil))) pad_nil)))))
    (psd_one (psd_if (ptd_not (ptd_tru rfl (pd_def rfl (fun _ _ => gP_len) (pe_callG H_is_below.ok (hr.mono (by decide)) hgd rfl g_is_below H_is_below.F.kp H_is_below.b (pad_cons (pd_def rfl (fun _ _ => gP_len) (pe_callG H_raw_sum.ok (hr.mono (by decide)) hgd rfl g_raw_sum H_raw_sum.F.kp H_raw_sum.b (pad_cons (pd_v (pv 0)) (pad_cons (pd_v (pv 5)) pad_nil)))) (pad_cons (pd_v (pv 2)) pad_nil)))))) (psd_one (psd_ret (pd_tup (pad_cons (pd_v (pv 3)) (pad_cons (pd_v (pv 4)) pad_nil))))) psd_nil))) psd_nil)))))))
    (psd_one (psd_ret pd_none)))))
theorem sc_sum_of : FnScope ["case", "choice"] ["case", "choice"] (defScope s_sum_of) := ⟨rfl, rfl, rfl, by decide +kernel, rfl, by decide +kernel, by decide +kernel⟩
theorem ok_sum_of (T : TpG fa fn gt K mg) : ∃ fd, Has P w K mg base d_sum_of ["case", "choice"] 8 (spP K 2 G_sum_of) fd := by
  have g_check_choice := T.glo 34 (x := "check_choice")
  obtain ⟨fd_check_choice, H_check_choice⟩ := ok_check_choice (P := P) (w := w) (base := base) T
  have g_raw_sum := T.glo 32 (x := "raw_sum")
  obtain ⟨fd_raw_sum, H_raw_sum⟩ := ok_raw_sum (P := P) (w := w) (base := base) T
  obtain ⟨fd, F0⟩ := T.c.def_ 36 (d := d_sum_of) rfl
  have F : FunD K d_sum_of.name d_sum_of.qual d_sum_of.params d_sum_of.body d_sum_of.scope [] [] (He.fAd K d_sum_of.at_) fd := F0
  have bd : Binds K fd ["case", "choice"] [] := F.bindsN fun _ _ _ _ _ _ us hl => match us, hl with | [_, _], _ => rfl
  have sc := sc_sum_of
  refine ⟨fd, F, bd, def_ok (n := 2) (N := ["case", "choice"]) (fb := B_sum_of) F sc rfl fun cdv A outer s H E hr hgd => ?_⟩
  have hu := good_u (k := 6) hr
  exact (psd_cons (psd_expr (pd_def rfl (fun _ _ => gP_len) (pe_callG H_check_choice.ok (hr.mono (by decide)) hgd rfl g_check_choice H_check_choice.F.kp H_check_choice.b (pad_cons (pd_v (pv 0)) (pad_cons (pd_v (pv 1)) pad_nil)))))
    (psd_one (psd_ret (pd_def rfl (fun _ _ => gP_len) (pe_callG H_raw_sum.ok (hr.mono (by decide)) hgd rfl g_raw_sum H_raw_sum.F.kp H_raw_sum.b (pad_cons (pd_v (pv 0)) (pad_cons (pd_v (pv 1)) pad_nil)))))))
theorem sc_check_word : FnScope ["word"] ["word"] (defScope s_check_word) := ⟨rfl, rfl, rfl, by decide +kernel, rfl, by decide +kernel, by decide +kernel⟩
theorem ok_check_word (T : TpG fa fn gt K mg) : ∃ fd, Has P w K mg base d_check_word ["word"] 2 (spP K 1 G_check_word) fd := by
  have m_isinstance := T.free 56 (x := "isinstance")
  have m_str := T.free 58 (x := "str")
  obtain ⟨_, m_ALL⟩ := T.str 63 (x := "ALL")
  obtain ⟨_, m_EACH⟩ := T.str 62 (x := "EACH")
  obtain ⟨_, m_ONE⟩ := T.str 64 (x := "ONE")
  obtain ⟨fd, F0⟩ := T.c.def_ 37 (d := d_check_word) rfl
  have F : FunD K d_check_word.name d_check_word.qual d_check_word.params d_check_word.body d_check_word.scope [] [] (He.fAd K d_check_word.at_) fd := F0
  have bd : Binds K fd ["word"] [] := F.bindsN fun _ _ _ _ _ _ us hl => match us, hl with | [_], _ => rfl
  have sc := sc_check_word
  refine ⟨fd, F, bd, def_ok (n := 1) (N := ["word"]) (fb := B_check_word) F sc rfl fun cdv A outer s H E hr hgd => ?_⟩
  have hu := good_u (k := 0) hr
  exact (psd_one (psd_if (PW.pt (pwd_or (ptd_not (ptd_tru rfl (pd_isiV .str rfl (pe_callB call_isi rfl m_isinstance PyProof.Rows.boot_isinstance (pa_cons (pv 0) (pa_cons (pe_gty rfl m_str PyProof.Rows.boot_str) pa_nil)))))) (pwd_or1 (ptb_binL rfl (pt_cmpR (opNotIn_ok ⟨rfl, hu, hgd⟩) (pv 0) (pd_tup (pad_cons (pd_c (pe_glob (v := .str "one") rfl m_ONE ⟨_, rfl⟩) fun _ => rp_c.2.2.1) (pad_cons (pd_c (pe_glob (v := .str "all") rfl m_ALL ⟨_, rfl⟩) fun _ => rp_c.2.2.1) (pad_cons (pd_c (pe_glob (v := .str "each") rfl m_EACH ⟨_, rfl⟩) fun _ => rp_c.2.2.1) pad_nil)))) (by rfl)))))) (psd_one psd_never) psd_nil))
theorem sc_is_wronged : FnScope ["case", "choice", "word", "seats", "group", "member", "one"] ["case", "choice", "word", "seats", "group"] (defScope s_is_wronged) := ⟨rfl, rfl, rfl, by decide +kernel, rfl, by decide +kernel, by decide +kernel⟩
theorem ok_is_wronged (T : TpG fa fn gt K mg) : ∃ fd, Has P w K mg base d_is_wronged ["case", "choice", "word", "seats", "group"] 3 (spP K 5 G_is_wronged) fd := by
  have m_all := T.free 54 (x := "all")
  have m_any := T.free 55 (x := "any")
  have m_len := T.free 47 (x := "len")
  obtain ⟨_, m_ALL⟩ := T.str 63 (x := "ALL")
  obtain ⟨_, m_ONE⟩ := T.str 64 (x := "ONE")
  have g_both := T.glo 26 (x := "both")
  obtain ⟨fd_both, H_both⟩ := ok_both (P := P) (w := w) (base := base) T
  obtain ⟨fd, F0⟩ := T.c.def_ 38 (d := d_is_wronged) rfl
  have F : FunD K d_is_wronged.name d_is_wronged.qual d_is_wronged.params d_is_wronged.body d_is_wronged.scope [] [] (He.fAd K d_is_wronged.at_) fd := F0
  have bd : Binds K fd ["case", "choice", "word", "seats", "group"] [] := F.bindsN fun _ _ _ _ _ _ us hl => match us, hl with | [_, _, _, _, _], _ => rfl
  have sc := sc_is_wronged
  refine ⟨fd, F, bd, def_ok (n := 5) (N := ["case", "choice", "word", "seats", "group", "member", "one"]) (fb := B_is_wronged) F sc rfl fun cdv A outer s H E hr hgd => ?_⟩
  have hu := good_u (k := 1) hr
  exact (psd_cons (psd_if (ptb_binL rfl (pt_cmpR (opEq_ok ⟨rfl, hu, hgd⟩) (pv 2) (pd_c (pe_glob (v := .str "one") rfl m_ONE ⟨_, rfl⟩) fun _ => rp_c.2.2.1) (by rfl))) (psd_one (psd_ret (pd_and (pd_binL rfl (pe_cmpR (opEq_ok ⟨rfl, hu, hgd⟩) (pv 3) pd_int (by rfl))) (pd_one (pd_call rfl (pe_callB (bAll_ok ⟨rfl, hu, hgd⟩) rfl m_all PyProof.Rows.boot_all (pad_cons (pd_compV (C' := cnN K) (ws := [5]) (own := [5]) rfl (by decide) (by decide) (pe_lc rfl sc.nd (pid_seqV rfl (pv 4)) (own := [("member", 5)]) (blkOk_by (by kernel_rfl)) (fun _ _ _ _ _ => (pgd_name (pg_name sc.nd rfl (by first | exact Or.inl rfl | exact Or.inr rfl)))) (fun _ _ _ _ _ => ptsd_nil) (fun _ _ _ _ _ => (pd_bin rfl (pe_cmpR (opEq_ok ⟨rfl, hu, hgd⟩) (pd_def rfl (fun _ _ => gP_len) (pe_callG H_both.ok (hr.mono (by decide)) hgd rfl g_both H_both.F.kp H_both.b (pad_cons (pd_binR rfl (pe_ix opIx_ok (pd_binL rfl (pe_ix opIx_ok (pv 0) pd_int (fun _ _ => rfl))) (pv 5) (fun _ _ => rfl))) (pad_cons (pd_v (pv 1)) pad_nil)))) pd_int (by rfl)))))) pad_nil))))))) psd_nil)
    (psd_cons (psd_if (ptb_binL rfl (pt_cmpR (opEq_ok ⟨rfl, hu, hgd⟩) (pv 2) (pd_c (pe_glob (v := .str "all") rfl m_ALL ⟨_, rfl⟩) fun _ => rp_c.2.2.1) (by rfl))) (psd_one (psd_ret (pd_binR rfl (pe_cmpR (opLt_ok ⟨rfl, hu, hgd⟩) (pd_call rfl (pe_callB bLen_ok rfl m_len PySem.boot_len (pad_cons (pd_compV (C' := cnN K) (ws := [6]) (own := [6]) rfl (by decide) (by decide) (pe_lc rfl sc.nd (pid_seqV rfl (pv 1)) (own := [("one", 6)]) (blkOk_by (by kernel_rfl)) (fun _ _ _ _ _ => (pgd_name (pg_name sc.nd rfl (by first | exact Or.inl rfl | exact Or.inr rfl)))) (fun _ _ _ _ _ => (ptsd_one (ptd_tru rfl (pd_call rfl (pe_callB (bAny_ok ⟨rfl, hu, hgd⟩) rfl m_any PyProof.Rows.boot_any (pad_cons (pd_compV (C' := cnN K) (ws := [5]) (own := [5]) rfl (by decide) (by decide) (pe_lc rfl sc.nd (pid_seqV rfl (pv 4)) (own := [("member", 5)]) (blkOk_by (by kernel_rfl)) (fun _ _ _ _ _ => (pgd_name (pg_name sc.nd rfl (by first | exact Or.inl rfl | exact Or.inr rfl)))) (fun _ _ _ _ _ => ptsd_nil) (fun _ _ _ _ _ => (pd_binL rfl (pe_cmpR (opIn_ok ⟨rfl, hu, hgd⟩) (pv 6) (pd_binR rfl (pe_ix opIx_ok (pd_binL rfl (pe_ix opIx_ok (pv 0) pd_int (fun _ _ => rfl))) (pv 5) (fun _ _ => rfl))) (by rfl)))))) pad_nil)))))) (fun _ _ _ _ _ => (pd_v (pv 6))))) pad_nil))) (pv 3) (by rfl))))) psd_nil)
    (psd_one (psd_ret (pd_call rfl (pe_callB (bAll_ok ⟨rfl, hu, hgd⟩) rfl m_all PyProof.Rows.boot_all (pad_cons (pd_compV (C' := cnN K) (ws := [5]) (own := [5]) rfl (by decide) (by decide) (pe_lc rfl sc.nd (pid_seqV rfl (pv 4)) (own := [("member", 5)]) (blkOk_by (by kernel_rfl)) (fun _ _ _ _ _ => (pgd_name (pg_name sc.nd rfl (by first | exact Or.inl rfl | exact Or.inr rfl)))) (fun _ _ _ _ _ => ptsd_nil) (fun _ _ _ _ _ => (pd_binR rfl (pe_cmpR (opLt_ok ⟨rfl, hu, hgd⟩) (pd_def rfl (fun _ _ => gP_len) (pe_callG H_both.ok (hr.mono (by decide)) hgd rfl g_both H_both.F.kp H_both.b (pad_cons (pd_binR rfl (pe_ix opIx_ok (pd_binL rfl (pe_ix opIx_ok (pv 0) pd_int (fun _ _ => rfl))) (pv 5) (fun _ _ => rfl))) (pad_cons (pd_v (pv 1)) pad_nil)))) (pv 3) (by rfl)))))) pad_nil)))))))
theorem sc_in_common : FnScope ["case", "group", "first", "one", "member"] ["case", "group"] (defScope s_in_common) := ⟨rfl, rfl, rfl, by decide +kernel, rfl, by decide +kernel, by decide +kernel⟩
theorem ok_in_common (T : TpG fa fn gt K mg) : ∃ fd, Has P w K mg base d_in_common ["case", "group"] 2 (spP K 2 G_in_common) fd := by
  have m_all := T.free 54 (x := "all")
  have m_len := T.free 47 (x := "len")
  obtain ⟨fd, F0⟩ := T.c.def_ 39 (d := d_in_common) rfl
  have F : FunD K d_in_common.name d_in_common.qual d_in_common.params d_in_common.body d_in_common.scope [] [] (He.fAd K d_in_common.at_) fd := F0
  have bd : Binds K fd ["case", "group"] [] := F.bindsN fun _ _ _ _ _ _ us hl => match us, hl with | [_, _], _ => rfl
  have sc := sc_in_common
  refine ⟨fd, F, bd, def_ok (n := 2) (N := ["case", "group", "first", "one", "member"]) (fb := B_in_common) F sc rfl fun cdv A outer s H E hr hgd => ?_⟩
  have hu := good_u (k := 0) hr
  exact (psd_cons (psd_set (by decide) (ps_set sc.nd rfl (by first | exact Or.inl rfl | exact Or.inr rfl) (pd_bin rfl (pe_ix opIx_ok (pd_binL rfl (pe_ix opIx_ok (pv 0) pd_int (fun _ _ => rfl))) (pd_binL rfl (pe_ix opIx_ok (pv 1) pd_int (fun _ _ => rfl))) (fun _ _ => rfl)))))
    (psd_one (psd_ret (pd_call rfl (pe_callB bLen_ok rfl m_len PySem.boot_len (pad_cons (pd_compV (C' := cnN K) (ws := [3]) (own := [3]) rfl (by decide) (by decide) (pe_lc rfl sc.nd (pid_seqV rfl (pv 2)) (own := [("one", 3)]) (blkOk_by (by kernel_rfl)) (fun _ _ _ _ _ => (pgd_name (pg_name sc.nd rfl (by first | exact Or.inl rfl | exact Or.inr rfl)))) (fun _ _ _ _ _ => (ptsd_one (ptd_tru rfl (pd_call rfl (pe_callB (bAll_ok ⟨rfl, hu, hgd⟩) rfl m_all PyProof.Rows.boot_all (pad_cons (pd_compV (C' := cnN K) (ws := [4]) (own := [4]) rfl (by decide) (by decide) (pe_lc rfl sc.nd (pid_seqV rfl (pv 1)) (own := [("member", 4)]) (blkOk_by (by kernel_rfl)) (fun _ _ _ _ _ => (pgd_name (pg_name sc.nd rfl (by first | exact Or.inl rfl | exact Or.inr rfl)))) (fun _ _ _ _ _ => ptsd_nil) (fun _ _ _ _ _ => (pd_binL rfl (pe_cmpR (opIn_ok ⟨rfl, hu, hgd⟩) (pv 3) (pd_binR rfl (pe_ix opIx_ok (pd_binL rfl (pe_ix opIx_ok (pv 0) pd_int (fun _ _ => rfl))) (pv 4) (fun _ _ => rfl))) (by rfl)))))) pad_nil)))))) (fun _ _ _ _ _ => (pd_v (pv 3))))) pad_nil))))))
theorem sc_most_deserved : FnScope ["case", "group"] ["case", "group"] (defScope s_most_deserved) := ⟨rfl, rfl, rfl, by decide +kernel, rfl, by decide +kernel, by decide +kernel⟩
theorem ok_most_deserved (T : TpG fa fn gt K mg) : ∃ fd, Has P w K mg base d_most_deserved ["case", "group"] 3 (spP K 2 G_most_deserved) fd := by
  have m_len := T.free 47 (x := "len")
  have m_min := T.free 51 (x := "min")
  have g_in_common := T.glo 39 (x := "in_common")
  obtain ⟨fd_in_common, H_in_common⟩ := ok_in_common (P := P) (w := w) (base := base) T
  obtain ⟨fd, F0⟩ := T.c.def_ 40 (d := d_most_deserved) rfl
  have F : FunD K d_most_deserved.name d_most_deserved.qual d_most_deserved.params d_most_deserved.body d_most_deserved.scope [] [] (He.fAd K d_most_deserved.at_) fd := F0
  have bd : Binds K fd ["case", "group"] [] := F.bindsN fun _ _ _ _ _ _ us hl => match us, hl with | [_, _], _ => rfl
  have sc := sc_most_deserved
  refine ⟨fd, F, bd, def_ok (n := 2) (N := ["case", "group"]) (fb := B_most_deserved) F sc rfl fun cdv A outer s H E hr hgd => ?_⟩
  have hu := good_u (k := 1) hr
  exact (psd_one (psd_ret (pd_call rfl (pe_callB (bMin_ok ⟨rfl, hu, hgd⟩) rfl m_min PyProof.Rows.boot_min (pad_cons (pd_bin rfl (pe_op opFdiv_ok (pd_bin rfl (pe_op opMul_ok (pd_callV rfl (pe_callB bLen_ok rfl m_len PySem.boot_len (pa_cons (pv 1) pa_nil))) (pd_binL rfl (pe_ix opIx_ok (pv 0) pd_int (fun _ _ => rfl))))) (pd_call rfl (pe_callB bLen_ok rfl m_len PySem.boot_len (pad_cons (pd_binL rfl (pe_ix opIx_ok (pv 0) pd_int (fun _ _ => rfl))) pad_nil))))) (pad_cons (pd_def rfl (fun _ _ => gP_len) (pe_callG H_in_common.ok (hr.mono (by decide)) hgd rfl g_in_common H_in_common.F.kp H_in_common.b (pad_cons (pd_v (pv 0)) (pad_cons (pd_v (pv 1)) pad_nil)))) pad_nil))))))
theorem sc_first_wronged : FnScope ["case", "choice", "word", "found", "group", "seats"] ["case", "choice", "word"] (defScope s_first_wronged) := ⟨rfl, rfl, rfl, by decide +kernel, rfl, by decide +kernel, by decide +kernel⟩
theorem ok_first_wronged (T : TpG fa fn gt K mg) : ∃ fd, Has P w K mg base d_first_wronged ["case", "choice", "word"] 4 (spP K 3 G_first_wronged) fd := by
  have m_len := T.free 47 (x := "len")
  have m_range := T.free 49 (x := "range")
  have g_is_wronged := T.glo 38 (x := "is_wronged")
  obtain ⟨fd_is_wronged, H_is_wronged⟩ := ok_is_wronged (P := P) (w := w) (base := base) T
  have g_lots_of := T.glo 23 (x := "lots_of")
  obtain ⟨fd_lots_of, H_lots_of⟩ := ok_lots_of (P := P) (w := w) (base := base) T
  have g_most_deserved := T.glo 40 (x := "most_deserved")
  obtain ⟨fd_most_deserved, H_most_deserved⟩ := ok_most_deserved (P := P) (w := w) (base := base) T
  obtain ⟨fd, F0⟩ := T.c.def_ 41 (d := d_first_wronged) rfl
  have F : FunD K d_first_wronged.name d_first_wronged.qual d_first_wronged.params d_first_wronged.body d_first_wronged.scope [] [] (He.fAd K d_first_wronged.at_) fd := F0
  have bd : Binds K fd ["case", "choice", "word"] [] := F.bindsN fun _ _ _ _ _ _ us hl => match us, hl with | [_, _, _], _ => rfl
  have sc := sc_first_wronged
  refine ⟨fd, F, bd, def_ok (n := 3) (N := ["case", "choice", "word", "found", "group", "seats"]) (fb := B_first_wronged) F sc rfl fun cdv A outer s H E hr hgd => ?_⟩
  have hu := good_u (k := 2) hr
  exact (psd_cons (psd_set (by decide) (ps_set sc.nd rfl (by first | exact Or.inl rfl | exact Or.inr rfl) pd_none))
    (psd_cons (psd_for (by decide) (ps_for PassesOwn.never rfl (pid_seq rfl (pd_sl rfl (pd_def rfl (fun _ _ => gP_len) (pe_callG H_lots_of.ok (hr.mono (by decide)) hgd rfl g_lots_of H_lots_of.F.kp H_lots_of.b (pad_cons (pd_call rfl (pe_callB bLen_ok rfl m_len PySem.boot_len (pad_cons (pd_binL rfl (pe_ix opIx_ok (pv 0) pd_int (fun _ _ => rfl))) pad_nil))) pad_nil))) (pod_some pd_int) pod_none)) (pgd_name (pg_name sc.nd rfl (by first | exact Or.inl rfl | exact Or.inr rfl))) (psd_one (psd_for (by decide) (ps_for PassesOwn.never rfl (pid_r2 (pi_range2 rfl m_range (pa_cons pd_int (pa_cons (pd_bin rfl (pe_op opAdd_ok (pd_def rfl (fun _ _ => gP_len) (pe_callG H_most_deserved.ok (hr.mono (by decide)) hgd rfl g_most_deserved H_most_deserved.F.kp H_most_deserved.b (pad_cons (pd_v (pv 0)) (pad_cons (pd_v (pv 4)) pad_nil)))) pd_int)) pa_nil)))) (pgd_name (pg_name sc.nd rfl (by first | exact Or.inl rfl | exact Or.inr rfl))) (psd_one (psd_if (PW.pt (pwd_and (PW.pt (pwd_or (ptb_binL rfl (pt_cmpR opIs_ok (pv 3) pd_none (by rfl))) (pwd_or1 (ptb_binR rfl (pt_cmpR (opLt_ok ⟨rfl, hu, hgd⟩) (pd_tup (pad_cons (pd_v (pv 5)) (pad_cons (pd_v (pv 4)) pad_nil))) (pv 3) (by rfl)))))) (pwd_and1 (ptd_tru rfl (pd_def rfl (fun _ _ => gP_len) (pe_callG H_is_wronged.ok (hr.mono (by decide)) hgd rfl g_is_wronged H_is_wronged.F.kp H_is_wronged.b (pad_cons (pd_v (pv 0)) (pad_cons (pd_v (pv 1)) (pad_cons (pd_v (pv 2)) (pad_cons (pd_v (pv 5)) (pad_cons (pd_v (pv 4)) pad_nil))))))))))) (psd_one (psd_set (by decide) (ps_set sc.nd rfl (by first | exact Or.inl rfl | exact Or.inr rfl) (pd_tup (pad_cons (pd_v (pv 5)) (pad_cons (pd_v (pv 4)) pad_nil)))))) psd_nil)))))))
    (psd_one (psd_retV (pv 3)))))
theorem sc_wronged : FnScope ["case", "choice", "word"] ["case", "choice", "word"] (defScope s_wronged) := ⟨rfl, rfl, rfl, by decide +kernel, rfl, by decide +kernel, by decide +kernel⟩
theorem ok_wronged (T : TpG fa fn gt K mg) : ∃ fd, Has P w K mg base d_wronged ["case", "choice", "word"] 8 (spP K 3 G_wronged) fd := by
  have g_check_choice := T.glo 34 (x := "check_choice")
  obtain ⟨fd_check_choice, H_check_choice⟩ := ok_check_choice (P := P) (w := w) (base := base) T
  have g_check_word := T.glo 37 (x := "check_word")
  obtain ⟨fd_check_word, H_check_word⟩ := ok_check_word (P := P) (w := w) (base := base) T
  have g_first_wronged := T.glo 41 (x := "first_wronged")
  obtain ⟨fd_first_wronged, H_first_wronged⟩ := ok_first_wronged (P := P) (w := w) (base := base) T
  obtain ⟨fd, F0⟩ := T.c.def_ 42 (d := d_wronged) rfl
  have F : FunD K d_wronged.name d_wronged.qual d_wronged.params d_wronged.body d_wronged.scope [] [] (He.fAd K d_wronged.at_) fd := F0
  have bd : Binds K fd ["case", "choice", "word"] [] := F.bindsN fun _ _ _ _ _ _ us hl => match us, hl with | [_, _, _], _ => rfl
  have sc := sc_wronged
  refine ⟨fd, F, bd, def_ok (n := 3) (N := ["case", "choice", "word"]) (fb := B_wronged) F sc rfl fun cdv A outer s H E hr hgd => ?_⟩
  have hu := good_u (k := 6) hr
  exact (psd_cons (psd_expr (pd_def rfl (fun _ _ => gP_len) (pe_callG H_check_choice.ok (hr.mono (by decide)) hgd rfl g_check_choice H_check_choice.F.kp H_check_choice.b (pad_cons (pd_v (pv 0)) (pad_cons (pd_v (pv 1)) pad_nil)))))
    (psd_cons (psd_expr (pd_def rfl (fun _ _ => gP_len) (pe_callG H_check_word.ok (hr.mono (by decide)) hgd rfl g_check_word H_check_word.F.kp H_check_word.b (pad_cons (pd_v (pv 2)) pad_nil))))
    (psd_one (psd_ret (pd_def rfl (fun _ _ => gP_len) (pe_callG H_first_wronged.ok (hr.mono (by decide)) hgd rfl g_first_wronged H_first_wronged.F.kp H_first_wronged.b (pad_cons (pd_v (pv 0)) (pad_cons (pd_v (pv 1)) (pad_cons (pd_v (pv 2)) pad_nil)))))))))
theorem sc__law_is_right : FnScope ["case", "best", "choice", "told", "tops"] ["case"] (defScope s__law_is_right) := ⟨rfl, rfl, rfl, by decide +kernel, rfl, by decide +kernel, by decide +kernel⟩
theorem ok__law_is_right (T : TpG fa fn gt K mg) : ∃ fd, Has P w K mg base d__law_is_right ["case"] 9 (spP K 1 G__law_is_right) fd := by
  have m_all := T.free 54 (x := "all")
  have m_repr := T.free 59 (x := "repr")
  have g__law_choices := T.glo 5 (x := "_law_choices")
  obtain ⟨fd__law_choices, H__law_choices⟩ := ok__law_choices (P := P) (w := w) (base := base) T
  have g__law_exchange := T.glo 13 (x := "_law_exchange")
  obtain ⟨fd__law_exchange, H__law_exchange⟩ := ok__law_exchange (P := P) (w := w) (base := base) T
  have g__law_is_less := T.glo 6 (x := "_law_is_less")
  obtain ⟨fd__law_is_less, H__law_is_less⟩ := ok__law_is_less (P := P) (w := w) (base := base) T
  have g__law_sum := T.glo 12 (x := "_law_sum")
  obtain ⟨fd__law_sum, H__law_sum⟩ := ok__law_sum (P := P) (w := w) (base := base) T
  have g__law_wronged := T.glo 16 (x := "_law_wronged")
  obtain ⟨fd__law_wronged, H__law_wronged⟩ := ok__law_wronged (P := P) (w := w) (base := base) T
  have g_best_sum := T.glo 33 (x := "best_sum")
  obtain ⟨fd_best_sum, H_best_sum⟩ := ok_best_sum (P := P) (w := w) (base := base) T
  have g_no_exchange := T.glo 35 (x := "no_exchange")
  obtain ⟨fd_no_exchange, H_no_exchange⟩ := ok_no_exchange (P := P) (w := w) (base := base) T
  have g_sum_of := T.glo 36 (x := "sum_of")
  obtain ⟨fd_sum_of, H_sum_of⟩ := ok_sum_of (P := P) (w := w) (base := base) T
  have g_wronged := T.glo 42 (x := "wronged")
  obtain ⟨fd_wronged, H_wronged⟩ := ok_wronged (P := P) (w := w) (base := base) T
  obtain ⟨fd, F0⟩ := T.c.def_ 43 (d := d__law_is_right) rfl
  have F : FunD K d__law_is_right.name d__law_is_right.qual d__law_is_right.params d__law_is_right.body d__law_is_right.scope [] [] (He.fAd K d__law_is_right.at_) fd := F0
  have bd : Binds K fd ["case"] [] := F.bindsN fun _ _ _ _ _ _ us hl => match us, hl with | [_], _ => rfl
  have sc := sc__law_is_right
  refine ⟨fd, F, bd, def_ok (n := 1) (N := ["case", "best", "choice", "told", "tops"]) (fb := B__law_is_right) F sc rfl fun cdv A outer s H E hr hgd => ?_⟩
  have hu := good_u (k := 7) hr
  exact (psd_cons (psd_set (by decide) (ps_set sc.nd rfl (by first | exact Or.inl rfl | exact Or.inr rfl) pd_none))
    (psd_cons (psd_for (by decide) (ps_for PassesOwn.never rfl (pid_seq rfl (pd_def rfl (fun _ _ => gP_len) (pe_callG H__law_choices.ok (hr.mono (by decide)) hgd rfl g__law_choices H__law_choices.F.kp H__law_choices.b (pad_cons (pd_v (pv 0)) pad_nil)))) (pgd_name (pg_name sc.nd rfl (by first | exact Or.inl rfl | exact Or.inr rfl))) (psd_cons (psd_set (by decide) (ps_set sc.nd rfl (by first | exact Or.inl rfl | exact Or.inr rfl) (pd_def rfl (fun _ _ => gP_len) (pe_callG H_sum_of.ok (hr.mono (by decide)) hgd rfl g_sum_of H_sum_of.F.kp H_sum_of.b (pad_cons (pd_v (pv 0)) (pad_cons (pd_v (pv 2)) pad_nil))))))
    (psd_cons (psd_if (ptb_bin rfl (pt_cmpR opNeS_ok (pd_callV rfl (pe_callB (bRepr_ok ⟨rfl, hu, hgd⟩) rfl m_repr PyProof.Rows.bootS_repr (pa_cons (pv 3) pa_nil))) (pd_call rfl (pe_callB (bRepr_ok ⟨rfl, hu, hgd⟩) rfl m_repr PyProof.Rows.bootS_repr (pad_cons (pd_def rfl (fun _ _ => gP_len) (pe_callG H__law_sum.ok (hr.mono (by decide)) hgd rfl g__law_sum H__law_sum.F.kp H__law_sum.b (pad_cons (pd_v (pv 0)) (pad_cons (pd_v (pv 2)) pad_nil)))) pad_nil))) (by rfl))) (psd_one (psd_ret pd_bool)) psd_nil)
    (psd_cons (psd_set (by decide) (ps_set sc.nd rfl (by first | exact Or.inl rfl | exact Or.inr rfl) (pd_if (PW.pt (pwd_or (ptb_binL rfl (pt_cmpR opIs_ok (pv 1) pd_none (by rfl))) (pwd_or1 (ptd_tru rfl (pd_def rfl (fun _ _ => gP_len) (pe_callG H__law_is_less.ok (hr.mono (by decide)) hgd rfl g__law_is_less H__law_is_less.F.kp H__law_is_less.b (pad_cons (pd_binL rfl (pe_ix opIx_ok (pv 1) pd_int (fun _ _ => rfl))) (pad_cons (pd_v (pv 3)) pad_nil)))))))) (pd_tup (pad_cons (pd_v (pv 3)) (pad_cons (pd_v (pv 2)) pad_nil))) (pd_v (pv 1)))))
    (psd_cons (psd_if (ptb_bin rfl (pt_cmpR opNeS_ok (pd_call rfl (pe_callB (bRepr_ok ⟨rfl, hu, hgd⟩) rfl m_repr PyProof.Rows.bootS_repr (pad_cons (pd_def rfl (fun _ _ => gP_len) (pe_callG H_no_exchange.ok (hr.mono (by decide)) hgd rfl g_no_exchange H_no_exchange.F.kp H_no_exchange.b (pad_cons (pd_v (pv 0)) (pad_cons (pd_v (pv 2)) pad_nil)))) pad_nil))) (pd_call rfl (pe_callB (bRepr_ok ⟨rfl, hu, hgd⟩) rfl m_repr PyProof.Rows.bootS_repr (pad_cons (pd_def rfl (fun _ _ => gP_len) (pe_callG H__law_exchange.ok (hr.mono (by decide)) hgd rfl g__law_exchange H__law_exchange.F.kp H__law_exchange.b (pad_cons (pd_v (pv 0)) (pad_cons (pd_v (pv 2)) pad_nil)))) pad_nil))) (by rfl))) (psd_one (psd_ret pd_bool)) psd_nil)
    (psd_one (psd_if (PW.pt (pwd_and (ptb_bin rfl (pt_cmpR opIs_ok (pd_def rfl (fun _ _ => gP_len) (pe_callG H_no_exchange.ok (hr.mono (by decide)) hgd rfl g_no_exchange H_no_exchange.F.kp H_no_exchange.b (pad_cons (pd_v (pv 0)) (pad_cons (pd_v (pv 2)) pad_nil)))) pd_none (by rfl))) (pwd_and1 (ptb_bin rfl (pt_cmpR opIsNot_ok (pd_def rfl (fun _ _ => gP_len) (pe_callG H_wronged.ok (hr.mono (by decide)) hgd rfl g_wronged H_wronged.F.kp H_wronged.b (pad_cons (pd_v (pv 0)) (pad_cons (pd_v (pv 2)) (pad_cons pd_str pad_nil))))) pd_none (by rfl)))))) (psd_one (psd_ret pd_bool)) psd_nil))))))))
    (psd_cons (psd_if (PW.pt (pwd_or (ptb_bin rfl (pt_cmpR opNeS_ok (pd_call rfl (pe_callB (bRepr_ok ⟨rfl, hu, hgd⟩) rfl m_repr PyProof.Rows.bootS_repr (pad_cons (pd_def rfl (fun _ _ => gP_len) (pe_callG H_best_sum.ok (hr.mono (by decide)) hgd rfl g_best_sum H_best_sum.F.kp H_best_sum.b (pad_cons (pd_v (pv 0)) pad_nil))) pad_nil))) (pd_callV rfl (pe_callB (bRepr_ok ⟨rfl, hu, hgd⟩) rfl m_repr PyProof.Rows.bootS_repr (pa_cons (pv 1) pa_nil))) (by rfl))) (pwd_or1 (ptb_bin rfl (pt_cmpR opIsNot_ok (pd_def rfl (fun _ _ => gP_len) (pe_callG H_no_exchange.ok (hr.mono (by decide)) hgd rfl g_no_exchange H_no_exchange.F.kp H_no_exchange.b (pad_cons (pd_v (pv 0)) (pad_cons (pd_binL rfl (pe_ix opIx_ok (pv 1) pd_int (fun _ _ => rfl))) pad_nil)))) pd_none (by rfl)))))) (psd_one (psd_ret pd_bool)) psd_nil)
    (psd_cons (psd_setLc (C' := cnN K) (ws := [2]) (own := [2]) (by decide) rfl (by decide) (by decide) (ps_setLc rfl sc.nd rfl rfl (sw_true rfl rfl rfl rfl) (pid_seq rfl (pd_def rfl (fun _ _ => gP_len) (pe_callG H__law_choices.ok (hr.mono (by decide)) hgd rfl g__law_choices H__law_choices.F.kp H__law_choices.b (pad_cons (pd_v (pv 0)) pad_nil)))) (own := [("choice", 2)]) (blkOk_by (by kernel_rfl)) (fun _ _ _ _ _ => (pgd_name (pg_name sc.nd rfl (by first | exact Or.inl rfl | exact Or.inr rfl)))) (fun _ _ _ _ _ => (ptsd_one (ptb_bin rfl (pt_cmpR (opEq_ok ⟨rfl, hu, hgd⟩) (pd_def rfl (fun _ _ => gP_len) (pe_callG H_sum_of.ok (hr.mono (by decide)) hgd rfl g_sum_of H_sum_of.F.kp H_sum_of.b (pad_cons (pd_v (pv 0)) (pad_cons (pd_v (pv 2)) pad_nil)))) (pd_binL rfl (pe_ix opIx_ok (pv 1) pd_int (fun _ _ => rfl))) (by rfl))))) (fun _ _ _ _ _ => (pd_v (pv 2)))))
    (psd_one (psd_ret (pd_call rfl (pe_callB (bAll_ok ⟨rfl, hu, hgd⟩) rfl m_all PyProof.Rows.boot_all (pad_cons (pd_compV (C' := cnN K) (ws := [2]) (own := [2]) rfl (by decide) (by decide) (pe_lc rfl sc.nd (pid_seqV rfl (pv 4)) (own := [("choice", 2)]) (blkOk_by (by kernel_rfl)) (fun _ _ _ _ _ => (pgd_name (pg_name sc.nd rfl (by first | exact Or.inl rfl | exact Or.inr rfl)))) (fun _ _ _ _ _ => ptsd_nil) (fun _ _ _ _ _ => (pd_bin rfl (pe_cmpR opIs_ok (pd_def rfl (fun _ _ => gP_len) (pe_callG H__law_wronged.ok (hr.mono (by decide)) hgd rfl g__law_wronged H__law_wronged.F.kp H__law_wronged.b (pad_cons (pd_v (pv 0)) (pad_cons (pd_v (pv 2)) (pad_cons pd_str pad_nil))))) pd_none (by rfl)))))) pad_nil)))))))))
theorem sc_law : FnScope ["script", "hand", "turn", "case"] ["script"] (defScope s_law) := ⟨rfl, rfl, rfl, by decide +kernel, rfl, by decide +kernel, by decide +kernel⟩
theorem ok_law (T : TpG fa fn gt K mg) : ∃ fd, Has P w K mg base d_law ["script"] 10 (spP K 1 G_law) fd := by
  have m_all := T.free 54 (x := "all")
  have m_range := T.free 49 (x := "range")
  have g__law_case := T.glo 2 (x := "_law_case")
  obtain ⟨fd__law_case, H__law_case⟩ := ok__law_case (P := P) (w := w) (base := base) T
  have g__law_hand := T.glo 3 (x := "_law_hand")
  obtain ⟨fd__law_hand, H__law_hand⟩ := ok__law_hand (P := P) (w := w) (base := base) T
  have g__law_is_right := T.glo 43 (x := "_law_is_right")
  obtain ⟨fd__law_is_right, H__law_is_right⟩ := ok__law_is_right (P := P) (w := w) (base := base) T
  have g_best_sum := T.glo 33 (x := "best_sum")
  obtain ⟨fd_best_sum, H_best_sum⟩ := ok_best_sum (P := P) (w := w) (base := base) T
  have g_sum_of := T.glo 36 (x := "sum_of")
  obtain ⟨fd_sum_of, H_sum_of⟩ := ok_sum_of (P := P) (w := w) (base := base) T
  obtain ⟨fd, F0⟩ := T.c.def_ 44 (d := d_law) rfl
  have F : FunD K d_law.name d_law.qual d_law.params d_law.body d_law.scope [] [] (He.fAd K d_law.at_) fd := F0
  have bd : Binds K fd ["script"] [] := F.bindsN fun _ _ _ _ _ _ us hl => match us, hl with | [_], _ => rfl
  have sc := sc_law
  refine ⟨fd, F, bd, def_ok (n := 1) (N := ["script", "hand", "turn", "case"]) (fb := B_law) F sc rfl fun cdv A outer s H E hr hgd => ?_⟩
  have hu := good_u (k := 8) hr
  exact (psd_cons (psd_set (by decide) (ps_set sc.nd rfl (by first | exact Or.inl rfl | exact Or.inr rfl) (pd_def rfl (fun _ _ => gP_len) (pe_callG H__law_hand.ok (hr.mono (by decide)) hgd rfl g__law_hand H__law_hand.F.kp H__law_hand.b (pad_cons (pd_v (pv 0)) pad_nil)))))
    (psd_cons (psd_if (ptd_not (ptd_tru rfl (pd_call rfl (pe_callB (bAll_ok ⟨rfl, hu, hgd⟩) rfl m_all PyProof.Rows.boot_all (pad_cons (pd_comp (C' := cnN K) (ws := [2]) (own := [2]) rfl (by decide) (by decide) (pe_lc rfl sc.nd (pid_r1 (pi_range1 rfl m_range (pa_cons pd_int pa_nil))) (own := [("turn", 2)]) (blkOk_by (by kernel_rfl)) (fun _ _ _ _ _ => (pgd_name (pg_name sc.nd rfl (by first | exact Or.inl rfl | exact Or.inr rfl)))) (fun _ _ _ _ _ => ptsd_nil) (fun _ _ _ _ _ => (pd_def rfl (fun _ _ => gP_len) (pe_callG H__law_is_right.ok (hr.mono (by decide)) hgd rfl g__law_is_right H__law_is_right.F.kp H__law_is_right.b (pad_cons (pd_defIO rfl (fun _ _ _ => gIO_len) (pe_callG H__law_case.ok (hr.mono (by decide)) hgd rfl g__law_case H__law_case.F.kp H__law_case.b (pa_cons (pv 1) pad_nil))) pad_nil)))))) pad_nil))))) (psd_one (psd_ret pd_bool)) psd_nil)
    (psd_cons (psd_set (by decide) (ps_set sc.nd rfl (by first | exact Or.inl rfl | exact Or.inr rfl) (pd_tup (pad_cons pd_int (pad_cons pd_int (pad_cons (pd_tup (pad_cons (pd_tup (pad_cons pd_int pad_nil)) (pad_cons (pd_tup (pad_cons pd_int (pad_cons pd_int pad_nil))) (pad_cons (pd_tup (pad_cons pd_int pad_nil)) (pad_cons (pd_tup (pad_cons pd_int pad_nil)) pad_nil))))) pad_nil))))))
    (psd_one (psd_ret (pd_and (pd_bin rfl (pe_cmpR (opEq_ok ⟨rfl, hu, hgd⟩) (pd_def rfl (fun _ _ => gP_len) (pe_callG H_best_sum.ok (hr.mono (by decide)) hgd rfl g_best_sum H_best_sum.F.kp H_best_sum.b (pad_cons (pd_v (pv 3)) pad_nil))) (pd_tup (pad_cons (pd_tup (pad_cons pd_int (pad_cons pd_int pad_nil))) (pad_cons (pd_tup (pad_cons pd_int pad_nil)) pad_nil))) (by rfl))) (pd_one (pd_bin rfl (pe_cmpR (opEq_ok ⟨rfl, hu, hgd⟩) (pd_def rfl (fun _ _ => gP_len) (pe_callG H_sum_of.ok (hr.mono (by decide)) hgd rfl g_sum_of H_sum_of.F.kp H_sum_of.b (pad_cons (pd_tup (pad_cons pd_int (pad_cons pd_int (pad_cons (pd_tup (pad_cons (pd_tup (pad_cons pd_int (pad_cons pd_int pad_nil))) pad_nil)) pad_nil)))) (pad_cons (pd_tup (pad_cons pd_int (pad_cons pd_int pad_nil))) pad_nil)))) (pd_tup (pad_cons pd_int (pad_cons pd_int pad_nil))) (by rfl))))))))))
end
end K18
set_option Elab.async false
set_option linter.all false
set_option maxRecDepth 100000
set_option maxHeartbeats 0
namespace K18
open PySem PySem.W PySem.Calls PyProof.Rows L2 Pv
abbrev R : PySem.W.OpenRow := PySem.W.OpenLaw.row PySem.Challenge.rw_slipfree_k18_whole_sums_of_choices
def names0 : List PySem.Str := ["CauseError", "NoWord", "NoCase", "NoChoice", "is_integer", "is_within", "is_lot", "is_table", "common", "made", "plus", "is_below", "total_of", "MOST_CANDIDATES", "MOST_MEMBERS", "ZERO", "ONE", "ALL", "EACH", "is_case", "check_case", "check_choice", "both", "liked_by"]
def names1 : List PySem.Str := ["lots_of", "in_common", "most_deserved", "is_wronged", "first_wronged", "check_word", "wronged", "choices_in", "raw_sum", "sum_of", "best_sum", "no_exchange", "_law_hand", "_law_mixed", "_law_draw", "_law_any", "_law_case", "_law_lots", "_law_choices", "_law_groups", "_law_common", "_law_is_wronged", "_law_wronged", "_law_low"]
def names2 : List PySem.Str := ["_law_plus", "_law_minus", "_law_is_less", "_law_total", "_law_sum", "_law_exchange", "_law_is_right"]
def names : List PySem.Str := names0 ++ names1 ++ names2
abbrev hk : PySem.W.Hook := hookGt 4 fa fn gt
def ob (s : PySem.W.SharedT) : He.AlD := obsGtG 4 fa fn gt (HandSHeadRun.getT s)
theorem ob_eq (s : PySem.W.SharedT) : ob s = hk.obs s.abs := obsGtG_eq (HandSHeadRun.getT_eq s)
theorem run (w : World) : HandSHeadRun.RunEq R (PySem.W.view R.prog [60]) hk ob 4000 names w := by
  intro os
  kernel_rfl
end K18
open PySem PySem.W PySem.Calls PyProof.Rows
set_option maxRecDepth 100000 in
set_option maxHeartbeats 0 in
theorem PySem.Challenge.cw_slipfree_k18_whole_sums_of_choices_holds : PySem.Challenge.rw_slipfree_k18_whole_sums_of_choices.Holds := by
  w_on; o_law
  refine HandSHeadRun.head_any (r := OpenLaw.row PySem.Challenge.rw_slipfree_k18_whole_sums_of_choices) (q := view (OpenLaw.row PySem.Challenge.rw_slipfree_k18_whole_sums_of_choices).prog [60]) (H := K18.hk) (ob := K18.ob) (M := 4000) (loose := K18.names) (d := HandSHeadRun.topDef (OpenLaw.row PySem.Challenge.rw_slipfree_k18_whole_sums_of_choices).prog 60) (kwd := []) K18.ob_eq
    (by kernel_rfl) (fun s => by kernel_rfl) K18.run (by kernel_rfl) (by kernel_rfl) (by kernel_rfl) (by rfl) (by first | assumption | decide +kernel) (by decide +kernel) ⟨rfl, rfl, rfl, rfl, rfl, by decide +kernel⟩ ?hw ?hc
  case hw => w_witness2
  case hc =>
    refine Pv.walk_ofG (l := PySem.Challenge.rw_slipfree_k18_whole_sums_of_choices) (n := 63) (k := 10) (x := "script") rfl (by decide) (by kernel_rfl) ⟨rfl, by decide, by decide⟩ ?F
    intro w mg fa h Y G hmg0
    obtain ⟨K, KX, c⟩ := Y
    have T : Pv.TpG K18.fa K18.fn K18.gt K mg := ⟨⟨⟨h, KX, G⟩, c.d⟩, c⟩
    have hmg : mg ("law" : PySem.Str) = some (.ref fa) := by
      have e : (HandSHeadRun.topDef (OpenLaw.row PySem.Challenge.rw_slipfree_k18_whole_sums_of_choices).prog 60).name = ("law" : PySem.Str) := by kernel_rfl
      rw [← e]
      exact hmg0
    have e := hmg.symm.trans (T.glo 44 (x := "law"))
    cases e
    obtain ⟨fd, F0⟩ := c.d.def_ 44 (d := K18.d_law) rfl
    refine ⟨K, fd, Pv.spP K 1 K18.G_law, KX, fun s v => L2.FunD.bindsA (ps := ["script"]) (x := K18.d_law.name) (qual := K18.d_law.qual) (params := K18.d_law.params) (body := K18.d_law.body) (scope := K18.d_law.scope) (kws := []) F0 (fun _ _ _ _ _ _ us hl => match us, hl with | [_], _ => rfl) s [v] rfl, fun H a ns hl _ hS => Pv.law_sp K18.law_plain hl hS, fun base KX' G' => ?_⟩
    have T' : Pv.TpG K18.fa K18.fn K18.gt K mg := ⟨⟨⟨base, KX', G'⟩, c.d⟩, c⟩
    obtain ⟨fd', hh⟩ := K18.ok_law (P := (PySem.Challenge.rw_slipfree_k18_whole_sums_of_choices).prog) (w := w) (base := base) T'
    rw [Pv.fd_inj F0 hh.F]
    exact hh.ok
