import PyProof.Rows.All
import Wide.All
import OpenK.AllK
import Wide.FinOn
import HandS.ForMost
import HandS.ForExc
import HandS.TupMul
import HandS.Deep
import HandS.TupAny
import HandS.TupLe
import HandS.Style
import HandS.IsInst
import HandS.Wide
import HandS.WideBits
import HandS.SortInts
import HandS.Conv
import KE.DataCmp
import KE.DataMinMax
import KE.SortData
import KE.SortCalls
import PyProof.TupleOfSeq
import HandS.SetFor
import HandS.Dict
import HandS.Ends
import HandS.Codes
import HandS.Defaults
import HandS.HeadEnd
import PyProof.ReprRoads
import PyProof.CallFns
import PyProof.StrLawsRepr
import PyProof.Rows.RegStrFacts
import HandS.Zip
import KE.GoesEnum
import KE.GoesMore
import HandS.Head0
import HandS.Head1
import HandS.Head2
import HandS.HeadHook1
import HandS.HeadHook2
import HandS.WordsExc
import PyProof.TableCode
import KE.KStateDown
import Lean
import PySem.Challenge.RW_slipfree_k80_whole_blocks_and_plain_wort
set_option Elab.async false
set_option linter.all false
set_option maxRecDepth 100000
set_option maxHeartbeats 4000000
namespace Pv
open PySem L2

/-! ### data in the heap -/
def keyD : Key → PyData
  | .inl i => .int i
  | .inr x => .str x
mutual
def Rp (K : PySem.W.Frag) (F : Hp) : PyData → V → Prop
  | .none, v => v = .non
  | .bool b, v => v = .bl b
  | .int i, v => v = .int i
  | .str s, v => v = .str s
  | .list ds, v => ∃ a xs, v = .ref a ∧ SqL K F a xs ∧ RpAll K F ds xs
  | .tuple ds, v => ∃ a xs, v = .ref a ∧ SqT K F a xs ∧ RpAll K F ds xs
  | .dict kvs, v => ∃ a ks, v = .ref a ∧ F a = some (.dK ks) ∧ RpKv K F kvs ks
def RpAll (K : PySem.W.Frag) (F : Hp) : List PyData → List V → Prop
  | [], vs => vs = []
  | d :: ds, vs => ∃ x xs, vs = x :: xs ∧ Rp K F d x ∧ RpAll K F ds xs
/-- a dict: keys ints and texts -/
def RpKv (K : PySem.W.Frag) (F : Hp) : List (PyData × PyData) → List (Key × V) → Prop
  | [], ks => ks = []
  | (k, d) :: kvs, ks => ∃ q x qs, ks = (q, x) :: qs ∧ k = keyD q ∧ Rp K F d x ∧ RpKv K F kvs qs
end

theorem rd_mono {F F' : Hp} {a : Addr} {u : HO} (e : Same F F') (h : Rd F a u) : Rd F' a u := by
  rcases h with h | ⟨o, h⟩
  · exact .inl (e _ _ h)
  · exact .inr ⟨o, e _ _ h⟩
theorem sqL_mono {K : PySem.W.Frag} {F F' : Hp} {a : Addr} {xs : List V} (e : Same F F') (h : SqL K F a xs) : SqL K F' a xs := e.seq h
theorem sqT_mono {K : PySem.W.Frag} {F F' : Hp} {a : Addr} {xs : List V} (e : Same F F') (h : SqT K F a xs) : SqT K F' a xs := by
  rcases h with (h | ⟨o, h⟩) | h
  · exact .inl (.inl (e _ _ h))
  · exact .inl (.inr ⟨o, e _ _ h⟩)
  · exact .inr h
mutual
theorem Rp.mono {K : PySem.W.Frag} {F F' : Hp} (e : Same F F') : ∀ {d : PyData} {v : V}, Rp K F d v → Rp K F' d v
  | .none, _, h => by simpa only [Rp] using h
  | .bool _, _, h => by simpa only [Rp] using h
  | .int _, _, h => by simpa only [Rp] using h
  | .str _, _, h => by simpa only [Rp] using h
  | .list ds, v, h => by
    simp only [Rp] at h ⊢
    obtain ⟨a, xs, e1, q, r⟩ := h
    exact ⟨a, xs, e1, sqL_mono e q, RpAll.mono e r⟩
  | .tuple ds, v, h => by
    simp only [Rp] at h ⊢
    obtain ⟨a, xs, e1, q, r⟩ := h
    exact ⟨a, xs, e1, sqT_mono e q, RpAll.mono e r⟩
  | .dict kvs, v, h => by
    simp only [Rp] at h ⊢
    obtain ⟨a, ks, e1, q, r⟩ := h
    exact ⟨a, ks, e1, e _ _ q, RpKv.mono e r⟩
theorem RpKv.mono {K : PySem.W.Frag} {F F' : Hp} (e : Same F F') : ∀ {ds : List (PyData × PyData)} {vs : List (Key × V)}, RpKv K F ds vs → RpKv K F' ds vs
  | [], _, h => by simpa only [RpKv] using h
  | (k, d) :: ds, vs, h => by
    simp only [RpKv] at h ⊢
    obtain ⟨q, x, qs, e1, e2, r, t⟩ := h
    exact ⟨q, x, qs, e1, e2, Rp.mono e r, RpKv.mono e t⟩
theorem RpAll.mono {K : PySem.W.Frag} {F F' : Hp} (e : Same F F') : ∀ {ds : List PyData} {vs : List V}, RpAll K F ds vs → RpAll K F' ds vs
  | [], _, h => by simpa only [RpAll] using h
  | d :: ds, vs, h => by
    simp only [RpAll] at h ⊢
    obtain ⟨x, xs, e1, q, r⟩ := h
    exact ⟨x, xs, e1, Rp.mono e q, RpAll.mono e r⟩
end
theorem RpAll.len {K : PySem.W.Frag} {F : Hp} : ∀ {ds : List PyData} {vs : List V}, RpAll K F ds vs → vs.length = ds.length
  | [], _, h => by simp only [RpAll] at h; subst h; rfl
  | d :: ds, vs, h => by
    simp only [RpAll] at h
    obtain ⟨x, xs, rfl, q, r⟩ := h
    simp [RpAll.len r]
theorem RpAll.get {K : PySem.W.Frag} {F : Hp} : ∀ {ds : List PyData} {vs : List V} {i : Nat} {d : PyData}, RpAll K F ds vs → ds[i]? = some d → ∃ v, vs[i]? = some v ∧ Rp K F d v
  | [], _, _, _, _, h => by simp at h
  | d :: ds, vs, 0, d', h, e => by
    simp only [RpAll] at h
    obtain ⟨x, xs, rfl, q, r⟩ := h
    simp at e; subst e
    exact ⟨x, rfl, q⟩
  | d :: ds, vs, i + 1, d', h, e => by
    simp only [RpAll] at h
    obtain ⟨x, xs, rfl, q, r⟩ := h
    obtain ⟨v, h1, h2⟩ := RpAll.get (i := i) r (by simpa using e)
    exact ⟨v, by simpa using h1, h2⟩
theorem RpAll.get' {K : PySem.W.Frag} {F : Hp} {ds : List PyData} {vs : List V} {i : Nat} {v : V} (h : RpAll K F ds vs) (e : vs[i]? = some v) : ∃ d, ds[i]? = some d ∧ Rp K F d v := by
  have hl := h.len
  have hi : i < vs.length := (List.getElem?_eq_some_iff.mp e).1
  have : i < ds.length := by omega
  obtain ⟨w, h1, h2⟩ := h.get (i := i) (List.getElem?_eq_getElem this)
  rw [h1] at e; cases e
  exact ⟨_, List.getElem?_eq_getElem this, h2⟩
theorem RpAll.append {K : PySem.W.Frag} {F : Hp} : ∀ {ds es : List PyData} {vs us : List V}, RpAll K F ds vs → RpAll K F es us → RpAll K F (ds ++ es) (vs ++ us)
  | [], _, _, _, h, h' => by simp only [RpAll] at h; subst h; simpa using h'
  | d :: ds, es, vs, us, h, h' => by
    simp only [RpAll] at h
    obtain ⟨x, xs, rfl, q, r⟩ := h
    simp only [List.cons_append, RpAll]
    exact ⟨x, xs ++ us, rfl, q, r.append h'⟩
theorem RpAll.of_get {K : PySem.W.Frag} {F : Hp} : ∀ {ds : List PyData} {vs : List V}, vs.length = ds.length → (∀ (i : Nat) d v, ds[i]? = some d → vs[i]? = some v → Rp K F d v) → RpAll K F ds vs
  | [], vs, hl, _ => by
    simp only [RpAll]
    exact List.eq_nil_of_length_eq_zero (by simpa using hl)
  | d :: ds, [], hl, _ => by simp at hl
  | d :: ds, v :: vs, hl, h => by
    simp only [RpAll]
    refine ⟨v, vs, rfl, h 0 d v rfl rfl, RpAll.of_get (by simpa using hl) fun i d' v' h1 h2 => h (i + 1) d' v' (by simpa using h1) (by simpa using h2)⟩
theorem RpAll.nil {K : PySem.W.Frag} {F : Hp} : RpAll K F [] [] := by simp only [RpAll]
theorem RpAll.one {K : PySem.W.Frag} {F : Hp} {d : PyData} {v : V} (h : Rp K F d v) : RpAll K F [d] [v] := by
  simp only [RpAll]; exact ⟨v, [], rfl, h, rfl⟩
theorem RpAll.consI {K : PySem.W.Frag} {F : Hp} {d : PyData} {v : V} {ds : List PyData} {vs : List V} (h : Rp K F d v) (t : RpAll K F ds vs) : RpAll K F (d :: ds) (v :: vs) := by
  simp only [RpAll]; exact ⟨v, vs, rfl, h, t⟩
theorem RpAll.uncons {K : PySem.W.Frag} {F : Hp} {d : PyData} {ds : List PyData} {vs : List V} (h : RpAll K F (d :: ds) vs) : ∃ x xs, vs = x :: xs ∧ Rp K F d x ∧ RpAll K F ds xs := by
  simpa only [RpAll] using h
mutual
theorem Rp.dp {K : PySem.W.Frag} {F : Hp} : ∀ {d : PyData} {v : V}, Rp K F d v → d.canLay0 = true → Dp K F v d
  | .none, _, h, _ => by simp only [Rp] at h; subst h; exact .non
  | .bool _, _, h, _ => by simp only [Rp] at h; subst h; exact .bl _
  | .int _, _, h, _ => by simp only [Rp] at h; subst h; exact .int _
  | .str _, _, h, _ => by simp only [Rp] at h; subst h; exact .str _
  | .list ds, v, h, c => by
    simp only [Rp] at h
    obtain ⟨a, xs, rfl, q, r⟩ := h
    exact .lst q (RpAll.dp r (by simpa only [PyData.canLay0] using c))
  | .tuple ds, v, h, c => by
    simp only [Rp] at h
    obtain ⟨a, xs, rfl, q, r⟩ := h
    exact .tup q (RpAll.dp r (by simpa only [PyData.canLay0] using c))
  | .dict _, _, _, c => by simp only [PyData.canLay0] at c; cases c
theorem RpAll.dp {K : PySem.W.Frag} {F : Hp} : ∀ {ds : List PyData} {vs : List V}, RpAll K F ds vs → PyData.canLayAll0 ds = true → DpAll K F vs ds
  | [], _, h, _ => by simp only [RpAll] at h; subst h; exact .nil
  | d :: ds, vs, h, c => by
    simp only [RpAll] at h
    obtain ⟨x, xs, rfl, q, r⟩ := h
    simp only [PyData.canLayAll0, Bool.and_eq_true] at c
    exact .cons (Rp.dp q c.1) (RpAll.dp r c.2)
end

/-! ### owned trees -/
inductive T where
  | sh (d : PyData)
  | lst (ts : List T)
mutual
def T.val : T → PyData
  | .sh d => d
  | .lst ts => .list (T.vals ts)
def T.vals : List T → List PyData
  | [] => []
  | t :: ts => t.val :: T.vals ts
end
theorem vals_map (ts : List T) : T.vals ts = ts.map T.val := by
  induction ts with
  | nil => rfl
  | cons t ts ih => simp [T.vals, ih]
@[simp] theorem val_sh (d : PyData) : (T.sh d).val = d := rfl
@[simp] theorem vals_sh (ds : List PyData) : T.vals (ds.map T.sh) = ds := by
  induction ds with
  | nil => rfl
  | cons t ts ih => simp [T.vals, T.val, ih]
mutual
def RT (K : PySem.W.Frag) (F H : Hp) : T → V → List Addr → Prop
  | .sh d, v, f => f = [] ∧ Rp K F d v
  | .lst ts, v, f => ∃ a xs g, v = .ref a ∧ H a = some (.lst xs) ∧ f = a :: g ∧ RTs K F H ts xs g
def RTs (K : PySem.W.Frag) (F H : Hp) : List T → List V → List Addr → Prop
  | [], vs, f => vs = [] ∧ f = []
  | t :: ts, vs, f => ∃ x xs f1 f2, vs = x :: xs ∧ f = f1 ++ f2 ∧ RT K F H t x f1 ∧ RTs K F H ts xs f2
end
mutual
theorem RT.mono {K : PySem.W.Frag} {F F' H H' : Hp} (e : Same F F') : ∀ {t : T} {v : V} {f : List Addr}, (∀ a ∈ f, ∀ o, H a = some o → H' a = some o) → RT K F H t v f → RT K F' H' t v f
  | .sh d, v, f, _, h => by
    simp only [RT] at h ⊢
    exact ⟨h.1, h.2.mono e⟩
  | .lst ts, v, f, k, h => by
    simp only [RT] at h ⊢
    obtain ⟨a, xs, g, rfl, e1, rfl, r⟩ := h
    exact ⟨a, xs, g, rfl, k a (by simp) _ e1, rfl, RTs.mono e (fun b hb o => k b (by simp [hb]) o) r⟩
theorem RTs.mono {K : PySem.W.Frag} {F F' H H' : Hp} (e : Same F F') : ∀ {t : List T} {v : List V} {f : List Addr}, (∀ a ∈ f, ∀ o, H a = some o → H' a = some o) → RTs K F H t v f → RTs K F' H' t v f
  | [], v, f, _, h => by simpa only [RTs] using h
  | t :: ts, v, f, k, h => by
    simp only [RTs] at h ⊢
    obtain ⟨x, xs, f1, f2, rfl, rfl, r1, r2⟩ := h
    exact ⟨x, xs, f1, f2, rfl, rfl, RT.mono e (fun b hb o => k b (by simp [hb]) o) r1, RTs.mono e (fun b hb o => k b (by simp [hb]) o) r2⟩
end
mutual
/-- an owned tree is given away: its nodes become shared -/
theorem RT.freeze {K : PySem.W.Frag} {F F' H : Hp} (e : Same F F') : ∀ {t : T} {v : V} {f : List Addr}, (∀ a ∈ f, F' a = H a) → RT K F H t v f → Rp K F' t.val v
  | .sh d, v, f, _, h => by
    simp only [RT] at h
    exact h.2.mono e
  | .lst ts, v, f, k, h => by
    simp only [RT] at h
    obtain ⟨a, xs, g, rfl, e1, rfl, r⟩ := h
    simp only [T.val, Rp]
    exact ⟨a, xs, rfl, SqL.of (by rw [k a (by simp)]; exact e1), RTs.freeze e (fun b hb => k b (by simp [hb])) r⟩
theorem RTs.freeze {K : PySem.W.Frag} {F F' H : Hp} (e : Same F F') : ∀ {t : List T} {v : List V} {f : List Addr}, (∀ a ∈ f, F' a = H a) → RTs K F H t v f → RpAll K F' (T.vals t) v
  | [], v, f, _, h => by
    simp only [RTs] at h
    rw [h.1]
    exact RpAll.nil
  | t :: ts, v, f, k, h => by
    simp only [RTs] at h
    obtain ⟨x, xs, f1, f2, rfl, rfl, r1, r2⟩ := h
    simp only [T.vals, RpAll]
    exact ⟨x, xs, rfl, RT.freeze e (fun b hb => k b (by simp [hb])) r1, RTs.freeze e (fun b hb => k b (by simp [hb])) r2⟩
end
mutual
theorem RT.there {K : PySem.W.Frag} {F H : Hp} : ∀ {t : T} {v : V} {f : List Addr}, RT K F H t v f → ∀ a ∈ f, ∃ o, H a = some o
  | .sh d, v, f, h => by
    simp only [RT] at h
    intro a ha; rw [h.1] at ha; simp at ha
  | .lst ts, v, f, h => by
    simp only [RT] at h
    obtain ⟨a, xs, g, rfl, e1, rfl, r⟩ := h
    intro b hb
    rcases List.mem_cons.mp hb with rfl | hb
    · exact ⟨_, e1⟩
    · exact RTs.there r b hb
theorem RTs.there {K : PySem.W.Frag} {F H : Hp} : ∀ {t : List T} {v : List V} {f : List Addr}, RTs K F H t v f → ∀ a ∈ f, ∃ o, H a = some o
  | [], v, f, h => by
    simp only [RTs] at h
    intro a ha; rw [h.2] at ha; simp at ha
  | t :: ts, v, f, h => by
    simp only [RTs] at h
    obtain ⟨x, xs, f1, f2, rfl, rfl, r1, r2⟩ := h
    intro b hb
    rcases List.mem_append.mp hb with hb | hb
    · exact RT.there r1 b hb
    · exact RTs.there r2 b hb
end
theorem RTs.nil {K : PySem.W.Frag} {F H : Hp} : RTs K F H [] [] [] := by simp only [RTs]; exact ⟨trivial, trivial⟩
theorem RTs.one {K : PySem.W.Frag} {F H : Hp} {t : T} {v : V} {f : List Addr} (h : RT K F H t v f) : RTs K F H [t] [v] f := by
  simp only [RTs]
  exact ⟨v, [], f, [], rfl, by simp, h, rfl, rfl⟩
theorem RTs.uncons {K : PySem.W.Frag} {F H : Hp} {t : T} {ts : List T} {vs : List V} {f : List Addr} (h : RTs K F H (t :: ts) vs f) : ∃ x xs f1 f2, vs = x :: xs ∧ f = f1 ++ f2 ∧ RT K F H t x f1 ∧ RTs K F H ts xs f2 := by
  simpa only [RTs] using h
theorem RTs.append {K : PySem.W.Frag} {F H : Hp} : ∀ {ts us : List T} {vs ws : List V} {f g : List Addr}, RTs K F H ts vs f → RTs K F H us ws g → RTs K F H (ts ++ us) (vs ++ ws) (f ++ g)
  | [], us, vs, ws, f, g, h, h' => by
    simp only [RTs] at h
    obtain ⟨rfl, rfl⟩ := h
    simpa using h'
  | t :: ts, us, vs, ws, f, g, h, h' => by
    simp only [RTs] at h
    obtain ⟨x, xs, f1, f2, rfl, rfl, r1, r2⟩ := h
    simp only [List.cons_append, RTs]
    exact ⟨x, xs ++ ws, f1, f2 ++ g, rfl, by simp, r1, r2.append h'⟩
theorem RTs.len {K : PySem.W.Frag} {F H : Hp} : ∀ {ts : List T} {vs : List V} {f : List Addr}, RTs K F H ts vs f → vs.length = ts.length
  | [], vs, f, h => by
    simp only [RTs] at h
    rw [h.1]
    rfl
  | t :: ts, vs, f, h => by
    obtain ⟨x, xs, f1, f2, rfl, rfl, r1, r2⟩ := h.uncons
    simp [r2.len]
theorem RTs.of_sh {K : PySem.W.Frag} {F H : Hp} : ∀ {ds : List PyData} {vs : List V}, RpAll K F ds vs → RTs K F H (ds.map T.sh) vs []
  | [], vs, h => by simp only [RpAll] at h; subst h; exact .nil
  | d :: ds, vs, h => by
    obtain ⟨x, xs, rfl, q, r⟩ := h.uncons
    simp only [List.map_cons, RTs]
    exact ⟨x, xs, [], [], rfl, rfl, by simp only [RT]; exact ⟨trivial, q⟩, RTs.of_sh r⟩

/-! ### the slots -/
abbrev Env := List (Option T)
def RS (K : PySem.W.Frag) (F H : Hp) : Env → St → List Addr → Prop
  | [], σ, f => σ = [] ∧ f = []
  | .none :: η, σ, f => ∃ s σ', σ = s :: σ' ∧ RS K F H η σ' f
  | .some t :: η, σ, f => ∃ v σ' f1 f2, σ = some v :: σ' ∧ f = f1 ++ f2 ∧ RT K F H t v f1 ∧ RS K F H η σ' f2
theorem RS.mono {K : PySem.W.Frag} {F F' H H' : Hp} (e : Same F F') : ∀ {η : Env} {σ : St} {f : List Addr}, (∀ a ∈ f, ∀ o, H a = some o → H' a = some o) → RS K F H η σ f → RS K F' H' η σ f
  | [], σ, f, _, h => by simpa only [RS] using h
  | .none :: η, σ, f, k, h => by
    simp only [RS] at h ⊢
    obtain ⟨s, σ', rfl, r⟩ := h
    exact ⟨s, σ', rfl, RS.mono e k r⟩
  | .some t :: η, σ, f, k, h => by
    simp only [RS] at h ⊢
    obtain ⟨v, σ', f1, f2, rfl, rfl, r1, r2⟩ := h
    exact ⟨v, σ', f1, f2, rfl, rfl, r1.mono e (fun b hb o => k b (by simp [hb]) o), RS.mono e (fun b hb o => k b (by simp [hb]) o) r2⟩
theorem RS.len {K : PySem.W.Frag} {F H : Hp} : ∀ {η : Env} {σ : St} {f : List Addr}, RS K F H η σ f → σ.length = η.length
  | [], σ, f, h => by
    simp only [RS] at h
    rw [h.1]
    rfl
  | .none :: η, σ, f, h => by
    simp only [RS] at h
    obtain ⟨s, σ', rfl, r⟩ := h
    simp [r.len]
  | .some t :: η, σ, f, h => by
    simp only [RS] at h
    obtain ⟨v, σ', f1, f2, rfl, rfl, r1, r2⟩ := h
    simp [r2.len]
theorem RS.there {K : PySem.W.Frag} {F H : Hp} : ∀ {η : Env} {σ : St} {f : List Addr}, RS K F H η σ f → ∀ a ∈ f, ∃ o, H a = some o
  | [], σ, f, h => by
    simp only [RS] at h
    rw [h.2]
    simp
  | .none :: η, σ, f, h => by
    simp only [RS] at h
    obtain ⟨s, σ', rfl, r⟩ := h
    exact r.there
  | .some t :: η, σ, f, h => by
    simp only [RS] at h
    obtain ⟨v, σ', f1, f2, rfl, rfl, r1, r2⟩ := h
    intro b hb
    rcases List.mem_append.mp hb with hb | hb
    · exact r1.there b hb
    · exact r2.there b hb
/-- a slot is looked at: what it holds, the rest, and how it is built anew -/
theorem RS.focus {K : PySem.W.Frag} {F H : Hp} : ∀ {η : Env} {σ : St} {f : List Addr} {i : Nat}, RS K F H η σ f → i < η.length →
    ∃ s h r, σ[i]? = some s ∧ f.Perm (h ++ r) ∧ (∀ t, η[i]? = some (some t) → ∃ v, s = some v ∧ RT K F H t v h) ∧
      ∀ F' H', Same F F' → (∀ a ∈ r, ∀ o, H a = some o → H' a = some o) →
        (∀ t' v' h', RT K F' H' t' v' h' → ∃ f', RS K F' H' (η.set i (some t')) (σ.set i (some v')) f' ∧ f'.Perm (h' ++ r)) ∧
        (∀ s', ∃ f', RS K F' H' (η.set i none) (σ.set i s') f' ∧ f'.Perm r)
  | [], σ, f, i, _, e => by simp at e
  | .none :: η, σ, f, 0, r, e => by
    simp only [RS] at r
    obtain ⟨s, σ', rfl, r⟩ := r
    refine ⟨s, [], f, rfl, by simp, by simp, fun F' H' hF hH => ⟨fun t' v' h' q => ⟨h' ++ f, ?_, .refl _⟩, fun s' => ⟨f, ?_, .refl _⟩⟩⟩
    · simp only [List.set_cons_zero, RS]
      exact ⟨v', σ', h', f, rfl, rfl, q, r.mono hF hH⟩
    · simp only [List.set_cons_zero, RS]
      exact ⟨s', σ', rfl, r.mono hF hH⟩
  | .some u :: η, σ, f, 0, r, e => by
    simp only [RS] at r
    obtain ⟨v, σ', f1, f2, rfl, rfl, r1, r2⟩ := r
    refine ⟨some v, f1, f2, rfl, .refl _, fun t ht => ⟨v, rfl, by simp at ht; subst ht; exact r1⟩, fun F' H' hF hH => ⟨fun t' v' h' q => ⟨h' ++ f2, ?_, .refl _⟩, fun s' => ⟨f2, ?_, .refl _⟩⟩⟩
    · simp only [List.set_cons_zero, RS]
      exact ⟨v', σ', h', f2, rfl, rfl, q, r2.mono hF hH⟩
    · simp only [List.set_cons_zero, RS]
      exact ⟨s', σ', rfl, r2.mono hF hH⟩
  | .none :: η, σ, f, i + 1, r, e => by
    simp only [RS] at r
    obtain ⟨s, σ', rfl, r⟩ := r
    obtain ⟨s0, h, q, h1, h2, h3, h4⟩ := RS.focus (i := i) r (by simpa using e)
    refine ⟨s0, h, q, by simpa using h1, h2, fun t ht => h3 t (by simpa using ht), fun F' H' hF hH => ?_⟩
    obtain ⟨a, b⟩ := h4 F' H' hF hH
    refine ⟨fun t' v' h' w => ?_, fun s' => ?_⟩
    · obtain ⟨f', x, y⟩ := a t' v' h' w
      refine ⟨f', ?_, y⟩
      simp only [List.set_cons_succ, RS]
      exact ⟨s, _, rfl, x⟩
    · obtain ⟨f', x, y⟩ := b s'
      refine ⟨f', ?_, y⟩
      simp only [List.set_cons_succ, RS]
      exact ⟨s, _, rfl, x⟩
  | .some u :: η, σ, f, i + 1, r, e => by
    simp only [RS] at r
    obtain ⟨v, σ', f1, f2, rfl, rfl, r1, r2⟩ := r
    obtain ⟨s0, h, q, h1, h2, h3, h4⟩ := RS.focus (i := i) r2 (by simpa using e)
    refine ⟨s0, h, f1 ++ q, by simpa using h1, ?_, fun t ht => h3 t (by simpa using ht), fun F' H' hF hH => ?_⟩
    · have p1 : (f1 ++ f2).Perm (f1 ++ (h ++ q)) := h2.append_left f1
      have p2 : (f1 ++ (h ++ q)).Perm (h ++ (f1 ++ q)) := by
        rw [← List.append_assoc, ← List.append_assoc]
        exact (List.perm_append_comm).append_right q
      exact p1.trans p2
    · obtain ⟨a, b⟩ := h4 F' H' hF fun x hx => hH x (by simp [hx])
      have r1' := r1.mono (H' := H') hF fun x hx => hH x (by simp [hx])
      refine ⟨fun t' v' h' w => ?_, fun s' => ?_⟩
      · obtain ⟨f', x, y⟩ := a t' v' h' w
        refine ⟨f1 ++ f', ?_, ?_⟩
        · simp only [List.set_cons_succ, RS]
          exact ⟨v, _, f1, f', rfl, rfl, r1', x⟩
        · have p1 : (f1 ++ f').Perm (f1 ++ (h' ++ q)) := y.append_left f1
          have p2 : (f1 ++ (h' ++ q)).Perm (h' ++ (f1 ++ q)) := by
            rw [← List.append_assoc, ← List.append_assoc]
            exact (List.perm_append_comm).append_right q
          exact p1.trans p2
      · obtain ⟨f', x, y⟩ := b s'
        refine ⟨f1 ++ f', ?_, y.append_left f1⟩
        simp only [List.set_cons_succ, RS]
        exact ⟨v, _, f1, f', rfl, rfl, r1', x⟩

/-! ### results -/
structure Ex where
  name : Str
  fld : Option (Str × PyData)
inductive Rs (α : Type) where
  | ok (a : α)
  | exc (e : Ex) (η : Env)
  | bad
def Rs.post {α : Type} (r : Rs α) (P : α → Prop) (E : Ex → Env → Prop) : Prop := match r with
  | .ok a => P a
  | .exc e η => E e η
  | .bad => False
@[inline] def Rs.bind {α β : Type} (r : Rs α) (f : α → Rs β) : Rs β := match r with
  | .ok a => f a
  | .exc e η => .exc e η
  | .bad => .bad
@[simp] theorem Rs.bind_ok {α β : Type} (a : α) (f : α → Rs β) : (Rs.ok a).bind f = f a := rfl
@[simp] theorem Rs.bind_exc {α β : Type} (e : Ex) (η : Env) (f : α → Rs β) : (Rs.exc e η : Rs α).bind f = .exc e η := rfl
@[simp] theorem Rs.bind_bad {α β : Type} (f : α → Rs β) : (Rs.bad : Rs α).bind f = .bad := rfl
theorem Rs.post_mono {α : Type} {r : Rs α} {P P' : α → Prop} {E E' : Ex → Env → Prop} (h : r.post P E) (hP : ∀ a, P a → P' a) (hE : ∀ e η, E e η → E' e η) : r.post P' E' := by
  cases r with
  | ok a => exact hP a h
  | exc e η => exact hE e η h
  | bad => exact h

/-! ### what a step leaves: own addresses fp, the shared part F within the heap H -/
structure Ok (K : PySem.W.Frag) (F H : Hp) (η : Env) (σ : St) (fp : List Addr) : Prop where
  rs : RS K F H η σ fp
  nd : fp.Nodup
  fn : ∀ a ∈ fp, F a = none
  fh : Same F H
structure Ext (fp : List Addr) (F H F' H' : Hp) : Prop where
  ff : Same F F'
  keep : ∀ b o, H b = some o → b ∉ fp → H' b = some o
  new : ∀ b, H b ≠ none → b ∉ fp → F' b = F b
theorem Ext.refl {fp : List Addr} {F H : Hp} : Ext fp F H F H := ⟨.refl _, fun _ _ h _ => h, fun _ _ _ => rfl⟩
theorem Ext.trans {fp fp1 : List Addr} {F H F1 H1 F2 H2 : Hp} (a : Ext fp F H F1 H1) (b : Ext fp1 F1 H1 F2 H2) (s : ∀ x ∈ fp1, x ∈ fp ∨ H x = none) : Ext fp F H F2 H2 := by
  have n : ∀ c o, H c = some o → c ∉ fp → c ∉ fp1 := fun c o h hc hb => by
    rcases s c hb with z | z
    · exact hc z
    · rw [z] at h; cases h
  refine ⟨a.ff.trans b.ff, fun c o h hc => b.keep c o (a.keep c o h hc) (n c o h hc), fun c h hc => ?_⟩
  obtain ⟨o, e⟩ := Option.ne_none_iff_exists'.mp h
  rw [b.new c (by rw [a.keep c o e hc]; simp) (n c o e hc), a.new c h hc]
/-- behind an expression: the values vs hold ts, the slots σ hold η' -/
structure Aft (K : PySem.W.Frag) (fp : List Addr) (F H : Hp) (σ : St) (ts : List T) (vs : List V) (η' : Env) (F' H' : Hp) (f1 fp' : List Addr) : Prop where
  rt : RTs K F' H' ts vs f1
  rs : RS K F' H' η' σ fp'
  nd : (f1 ++ fp').Nodup
  fn : ∀ a ∈ f1 ++ fp', F' a = none
  fh : Same F' H'
  ext : Ext fp F H F' H'
  sub : ∀ a ∈ f1 ++ fp', a ∈ fp ∨ H a = none
theorem Ok.aft {K : PySem.W.Frag} {F H : Hp} {η : Env} {σ : St} {fp : List Addr} (o : Ok K F H η σ fp) : Aft K fp F H σ [] [] η F H [] fp :=
  ⟨.nil, o.rs, by simpa using o.nd, by simpa using o.fn, o.fh, .refl, fun a ha => .inl (by simpa using ha)⟩
theorem Aft.ok {K : PySem.W.Frag} {fp : List Addr} {F H : Hp} {σ : St} {ts : List T} {vs : List V} {η' : Env} {F' H' : Hp} {f1 fp' : List Addr} (a : Aft K fp F H σ ts vs η' F' H' f1 fp') : Ok K F' H' η' σ fp' :=
  ⟨a.rs, (List.nodup_append.mp a.nd).2.1, fun b hb => a.fn b (by simp [hb]), a.fh⟩
/-- one step, then another -/
theorem Aft.app {K : PySem.W.Frag} {fp : List Addr} {F H : Hp} {σ σ' : St} {ts us : List T} {vs ws : List V} {η1 η2 : Env} {F1 H1 F2 H2 : Hp} {f1 fp1 f2 fp2 : List Addr} (a : Aft K fp F H σ ts vs η1 F1 H1 f1 fp1)
    (b : Aft K fp1 F1 H1 σ' us ws η2 F2 H2 f2 fp2) : Aft K fp F H σ' (ts ++ us) (vs ++ ws) η2 F2 H2 (f1 ++ f2) fp2 := by
  have d1 : ∀ x ∈ f1, x ∉ fp1 := fun x hx hy => (List.nodup_append.mp a.nd).2.2 x hx x hy rfl
  have there1 : ∀ x ∈ f1, ∃ o, H1 x = some o := a.rt.there
  have d2 : ∀ x ∈ f1, x ∉ f2 ++ fp2 := fun x hx hy => by
    rcases b.sub x hy with z | z
    · exact d1 x hx z
    · obtain ⟨o, e⟩ := there1 x hx
      rw [e] at z; cases z
  refine ⟨(a.rt.mono b.ext.ff fun x hx o e => b.ext.keep x o e (d1 x hx)).append b.rt, b.rs, ?_, fun x hx => ?_, b.fh, a.ext.trans b.ext fun x hx => a.sub x (by simp [hx]), fun x hx => ?_⟩
  · rw [List.append_assoc]
    exact List.nodup_append.mpr ⟨(List.nodup_append.mp a.nd).1, b.nd, fun x hx y hy e => d2 x hx (e ▸ hy)⟩
  · rw [List.append_assoc] at hx
    rcases List.mem_append.mp hx with hx | hx
    · obtain ⟨o, e⟩ := there1 x hx
      rw [b.ext.new x (by rw [e]; simp) (d1 x hx)]
      exact a.fn x (by simp [hx])
    · exact b.fn x hx
  · rw [List.append_assoc] at hx
    rcases List.mem_append.mp hx with hx | hx
    · exact a.sub x (by simp [hx])
    · rcases b.sub x hx with z | z
      · exact a.sub x (by simp [z])
      · by_cases hm : x ∈ fp
        · exact .inl hm
        · cases e : H x with
          | none => exact .inr rfl
          | some o =>
            rw [a.ext.keep x o e hm] at z; cases z
/-- what was made is given away -/
theorem Aft.freeze {K : PySem.W.Frag} {fp : List Addr} {F H : Hp} {σ : St} {ts : List T} {vs : List V} {η' : Env} {F' H' : Hp} {f1 fp' : List Addr} (a : Aft K fp F H σ ts vs η' F' H' f1 fp') :
    ∃ F2, Aft K fp F H σ [] [] η' F2 H' [] fp' ∧ RpAll K F2 (T.vals ts) vs := by
  have d1 : ∀ x ∈ f1, x ∉ fp' := fun x hx hy => (List.nodup_append.mp a.nd).2.2 x hx x hy rfl
  have hF : Same F' (fun b => if b ∈ f1 then H' b else F' b) := fun b o e => by
    have nb : b ∉ f1 := fun hb => by rw [a.fn b (by simp [hb])] at e; cases e
    simp only [if_neg nb]; exact e
  refine ⟨fun b => if b ∈ f1 then H' b else F' b, ⟨.nil, a.rs.mono hF fun _ _ _ e => e, (List.nodup_append.mp a.nd).2.1, fun x hx => ?_, fun b o e => ?_, ⟨a.ext.ff.trans hF, a.ext.keep, fun b hb hn => ?_⟩, fun x hx => a.sub x (by simp at hx; simp [hx])⟩, a.rt.freeze hF fun b hb => if_pos hb⟩
  · have hx : x ∈ fp' := by simpa using hx
    have nx : x ∉ f1 := fun h => d1 x h hx
    simp only [if_neg nx]; exact a.fn x (by simp [hx])
  · by_cases hb : b ∈ f1
    · simp only [if_pos hb] at e; exact e
    · simp only [if_neg hb] at e; exact a.fh b o e
  · have nb : b ∉ f1 := fun h => by
      rcases a.sub b (by simp [h]) with z | z
      · exact hn z
      · exact hb z
    simp only [if_neg nb]; exact a.ext.new b hb hn

/-! ### what an operation gives -/
structure ResOk (K : PySem.W.Frag) (F H : Hp) (t : T) (v : V) (F' H' : Hp) (f : List Addr) : Prop where
  rt : RT K F' H' t v f
  ff : Same F F'
  fh : Same F' H'
  hh : Same H H'
  new : ∀ b, H b ≠ none → F' b = F b
  nd : f.Nodup
  fr : ∀ a ∈ f, H a = none ∧ F' a = none
def Res (K : PySem.W.Frag) (F H : Hp) (t : T) (Q : VK) : Prop := ∀ v F' H' f, ResOk K F H t v F' H' f → Q v H'
theorem Aft.res {K : PySem.W.Frag} {fp : List Addr} {F H : Hp} {σ : St} {η' : Env} {F' H' F2 H2 : Hp} {fp' f : List Addr} {t : T} {v : V} (a : Aft K fp F H σ [] [] η' F' H' [] fp') (r : ResOk K F' H' t v F2 H2 f) :
    Aft K fp F H σ [t] [v] η' F2 H2 f fp' := by
  have there : ∀ x ∈ fp', ∃ o, H' x = some o := a.rs.there
  refine ⟨.one r.rt, a.rs.mono r.ff fun x _ o e => r.hh x o e, List.nodup_append.mpr ⟨r.nd, by simpa using a.nd, fun x hx y hy e => ?_⟩, fun x hx => ?_, r.fh, ⟨a.ext.ff.trans r.ff, fun b o e hb => r.hh b o (a.ext.keep b o e hb), fun b h hb => ?_⟩, fun x hx => ?_⟩
  · subst e
    obtain ⟨o, q⟩ := there x hy
    rw [(r.fr x hx).1] at q; cases q
  · rcases List.mem_append.mp hx with hx | hx
    · exact (r.fr x hx).2
    · obtain ⟨o, q⟩ := there x hx
      rw [r.new x (by rw [q]; simp)]
      exact a.fn x (by simp [hx])
  · obtain ⟨o, e⟩ := Option.ne_none_iff_exists'.mp h
    rw [r.new b (by rw [a.ext.keep b o e hb]; simp), a.ext.new b h hb]
  · rcases List.mem_append.mp hx with hx | hx
    · by_cases hm : x ∈ fp
      · exact .inl hm
      · cases e : H x with
        | none => exact .inr rfl
        | some o =>
          have := (r.fr x hx).1
          rw [a.ext.keep x o e hm] at this; cases this
    · exact a.sub x (by simp [hx])
/-- a value that stands already -/
theorem ResOk.here {K : PySem.W.Frag} {F H : Hp} {d : PyData} {v : V} (fh : Same F H) (h : Rp K F d v) : ResOk K F H (.sh d) v F H [] :=
  ⟨by simp only [RT]; exact ⟨trivial, h⟩, .refl _, fh, .refl _, fun _ _ => rfl, by simp, by simp⟩
theorem same_upd {H : Hp} {p : Addr} {o : HO} (h : H p = none) : Same H (upd H p o) := fun b u e => by
  rw [upd_ne (ne_of_none e h)]; exact e
/-- a new tuple -/
theorem ResOk.tup {K : PySem.W.Frag} {F H : Hp} {ds : List PyData} {xs : List V} {p : Addr} (fh : Same F H) (h : RpAll K F ds xs) (hp : H p = none) : ResOk K F H (.sh (.tuple ds)) (.ref p) (upd F p (.tup xs)) (upd H p (.tup xs)) [] := by
  have fp : F p = none := fh.free hp
  refine ⟨?_, same_upd fp, fun b o e => ?_, same_upd hp, fun b hb => ?_, by simp, by simp⟩
  · simp only [RT, Rp]
    exact ⟨trivial, p, xs, rfl, SqT.of upd_same, h.mono (same_upd fp)⟩
  · by_cases hb : b = p
    · subst hb; rw [upd_same] at e ⊢; exact e
    · rw [upd_ne hb] at e ⊢; exact fh b o e
  · have : b ≠ p := fun e => by subst e; exact hb hp
    rw [upd_ne this]
/-- a new list, owned -/
theorem ResOk.lst {K : PySem.W.Frag} {F H : Hp} {ds : List PyData} {xs : List V} {p : Addr} (fh : Same F H) (h : RpAll K F ds xs) (hp : H p = none) : ResOk K F H (.lst (ds.map T.sh)) (.ref p) F (upd H p (.lst xs)) [p] := by
  have fp : F p = none := fh.free hp
  refine ⟨?_, .refl _, fun b o e => ?_, same_upd hp, fun b hb => rfl, by simp, fun a ha => ?_⟩
  · simp only [RT]
    exact ⟨p, xs, [], rfl, upd_same, rfl, .of_sh h⟩
  · rw [upd_ne (ne_of_none e fp)]; exact fh b o e
  · have : a = p := by simpa using ha
    subst this; exact ⟨hp, fp⟩

/-! ### readings -/
structure Cn where
  K : PySem.W.Frag
  W : WX
  cn : Str → Option Value
def ExR (C : Cn) (F' H' : Hp) (e : Ex) (cls : Value) (d : Option Addr) : Prop :=
  C.cn e.name = some cls ∧ match e.fld with
    | .none => d = none
    | .some (f, x) => ∃ da v, d = some da ∧ H' da = some (.xd [(f, v)]) ∧ Rp C.K F' x v
def XP (C : Cn) (fp : List Addr) (F H : Hp) (σ : St) (e : Ex) (η' : Env) : Prop := ∀ cls d F' H', ExR C F' H' e cls d → RS C.K F' H' η' σ [] → Same F' H' → Ext fp F H F' H' → C.W cls d σ H'
abbrev FE := Env → Rs (T × Env)
abbrev FB := Env → Rs (Bool × Env)
abbrev FA := Env → Rs (List T × Env)
def tD (C : Cn) (f : FE) : TE := fun σ H Q => ∃ η F fp, Ok C.K F H η σ fp ∧ (f η).post (fun p => ∀ v F' H' f1 fp', Aft C.K fp F H σ [p.1] [v] p.2 F' H' f1 fp' → Q v H') (XP C fp F H σ)
def tB (C : Cn) (f : FB) : TT := fun σ H Q => ∃ η F fp, Ok C.K F H η σ fp ∧ (f η).post (fun p => ∀ F' H' fp', Aft C.K fp F H σ [] [] p.2 F' H' [] fp' → Q p.1 H') (XP C fp F H σ)
def tA (C : Cn) (f : FA) : TA := fun σ H Q => ∃ η F fp, Ok C.K F H η σ fp ∧ (f η).post (fun p => ∀ vs F' H' f1 fp', Aft C.K fp F H σ p.1 vs p.2 F' H' f1 fp' → Q vs H') (XP C fp F H σ)
theorem XP.back {C : Cn} {fp fp1 f1 : List Addr} {F H F1 H1 : Hp} {σ : St} {ts : List T} {vs : List V} {η1 : Env} {e : Ex} {η' : Env} (a : Aft C.K fp F H σ ts vs η1 F1 H1 f1 fp1) (h : XP C fp F H σ e η') : XP C fp1 F1 H1 σ e η' :=
  fun cls d F' H' x r s ext => h cls d F' H' x r s (a.ext.trans ext fun b hb => a.sub b (by simp [hb]))
section
variable {C : Cn} {fp fp1 f1 : List Addr} {F H F1 H1 : Hp} {σ : St} {ts : List T} {vs : List V} {η1 : Env}
theorem tD_step {f : FE} {Q : VK} (a : Aft C.K fp F H σ ts vs η1 F1 H1 f1 fp1) (h : (f η1).post (fun p => ∀ v F2 H2 f2 fp2, Aft C.K fp F H σ (ts ++ [p.1]) (vs ++ [v]) p.2 F2 H2 f2 fp2 → Q v H2) (XP C fp F H σ)) : tD C f σ H1 Q :=
  ⟨η1, F1, fp1, a.ok, Rs.post_mono h (fun p hp v F' H' f' fp' b => hp v F' H' _ _ (a.app b)) fun e η' he => he.back a⟩
theorem tB_step {f : FB} {Q : Bool → Hp → Prop} (a : Aft C.K fp F H σ ts vs η1 F1 H1 f1 fp1) (h : (f η1).post (fun p => ∀ F2 H2 f2 fp2, Aft C.K fp F H σ ts vs p.2 F2 H2 f2 fp2 → Q p.1 H2) (XP C fp F H σ)) : tB C f σ H1 Q :=
  ⟨η1, F1, fp1, a.ok, Rs.post_mono h (fun p hp F' H' fp' b => hp F' H' _ _ (by simpa using a.app b)) fun e η' he => he.back a⟩
theorem tA_step {f : FA} {Q : List V → Hp → Prop} (a : Aft C.K fp F H σ ts vs η1 F1 H1 f1 fp1) (h : (f η1).post (fun p => ∀ ws F2 H2 f2 fp2, Aft C.K fp F H σ (ts ++ p.1) (vs ++ ws) p.2 F2 H2 f2 fp2 → Q ws H2) (XP C fp F H σ)) : tA C f σ H1 Q :=
  ⟨η1, F1, fp1, a.ok, Rs.post_mono h (fun p hp v F' H' f' fp' b => hp v F' H' _ _ (a.app b)) fun e η' he => he.back a⟩
end
theorem _root_.L2.PE.impD {X : Cx} {e : Expr} {t t' : TE} (h : PE X e t) (k : ∀ σ H Q, t' σ H Q → t σ H Q) : PE X e t' := ⟨fun pins s σ H Q I q => h.run pins s σ H Q I (k σ H Q q)⟩
theorem _root_.L2.PT.impD {X : Cx} {e : Expr} {t t' : TT} (h : PT X e t) (k : ∀ σ H Q, t' σ H Q → t σ H Q) : PT X e t' := ⟨fun pins s σ H Q I q => h.run pins s σ H Q I (k σ H Q q)⟩
theorem _root_.L2.PW.impD {X : Cx} {e : Expr} {t t' : TT} (h : PW X e t) (k : ∀ σ H Q, t' σ H Q → t σ H Q) : PW X e t' := ⟨fun wh pins s σ H Q I q => h.run wh pins s σ H Q I (k σ H Q q)⟩
theorem _root_.L2.PA.impD {X : Cx} {e : List Expr} {t t' : TA} (h : PA X e t) (k : ∀ σ H Q, t' σ H Q → t σ H Q) : PA X e t' := ⟨fun pos pins s σ H Q I q => h.run pos pins s σ H Q I (k σ H Q q)⟩

/-- post through a bind -/
theorem Rs.post_bind {α β : Type} {r : Rs α} {f : α → Rs β} {P : β → Prop} {E : Ex → Env → Prop} (h : (r.bind f).post P E) : r.post (fun a => (f a).post P E) E := by
  cases r with
  | ok a => exact h
  | exc e η => exact h
  | bad => exact h

/-! ### constants, names -/
def eC (d : PyData) : FE := fun η => .ok (.sh d, η)
def setT (η : Env) (i : Nat) (t : T) : Env := η.set i (some t)
def eV (i : Nat) : FE := fun η => match η[i]? with
  | some (some (.sh d)) => .ok (.sh d, η)
  | some (some (.lst ts)) => .ok (.sh (.list (T.vals ts)), η.set i (some (.sh (.list (T.vals ts)))))
  | _ => .bad
variable {X : Cx} {C : Cn}
theorem Ok.res {K : PySem.W.Frag} {F H : Hp} {η : Env} {σ : St} {fp : List Addr} {t : T} {v : V} {F2 H2 : Hp} {f : List Addr} (o : Ok K F H η σ fp) (r : ResOk K F H t v F2 H2 f) : Aft K fp F H σ [t] [v] η F2 H2 f fp := o.aft.res r
theorem rp_c {K : PySem.W.Frag} {F : Hp} : (∀ {i}, Rp K F (.int i) (.int i)) ∧ (∀ {b}, Rp K F (.bool b) (.bl b)) ∧ (∀ {s}, Rp K F (.str s) (.str s)) ∧ Rp K F .none .non := by
  refine ⟨?_, ?_, ?_, ?_⟩ <;> intros <;> simp only [Rp]
theorem pd_c {e : Expr} {v : V} {d : PyData} (h : PE X e (tC v)) (hd : ∀ F, Rp C.K F d v) : PE X e (tD C (eC d)) :=
  h.impD fun σ H Q ⟨η, F, fp, o, q⟩ => q v F H [] fp (o.res (.here o.fh (hd F)))
theorem pd_int {i j pos} : PE X (.Constant (.int i) j pos) (tD C (eC (.int i))) := pd_c pe_int fun _ => rp_c.1
theorem pd_bool {b j pos} : PE X (.Constant (.bool b) j pos) (tD C (eC (.bool b))) := pd_c pe_bl fun _ => rp_c.2.1
theorem pd_str {s j pos} : PE X (.Constant (.str s) j pos) (tD C (eC (.str s))) := pd_c pe_str fun _ => rp_c.2.2.1
theorem pd_none {j pos} : PE X (.Constant .none j pos) (tD C (eC .none)) := pd_c pe_non fun _ => rp_c.2.2.2
theorem set_self {α : Type} : ∀ {l : List α} {i : Nat} {x : α}, l[i]? = some x → l.set i x = l
  | [], _, _, h => by simp at h
  | a :: l, 0, x, h => by simp at h; subst h; rfl
  | a :: l, i + 1, x, h => by simp only [List.set_cons_succ]; rw [set_self (by simpa using h)]
theorem eV_var {i : Nat} {σ : St} {H : Hp} {Q : VK} (h : tD C (eV i) σ H Q) : tVar i σ H Q := by
  obtain ⟨η, F, fp, o, q⟩ := h
  unfold eV at q
  split at q
  · rename_i d e
    have hi : i < η.length := (List.getElem?_eq_some_iff.mp e).1
    obtain ⟨s, g, r, h1, h2, h3, h4⟩ := o.rs.focus hi
    obtain ⟨v, rfl, rt⟩ := h3 _ e
    simp only [RT] at rt
    exact ⟨v, h1, q v F H [] fp (o.res (.here o.fh rt.2))⟩
  · rename_i ts e
    have hi : i < η.length := (List.getElem?_eq_some_iff.mp e).1
    obtain ⟨s, g, r, h1, h2, h3, h4⟩ := o.rs.focus hi
    obtain ⟨v, rfl, rt⟩ := h3 _ e
    refine ⟨v, h1, ?_⟩
    have nd : (g ++ r).Nodup := h2.nodup_iff.mp o.nd
    have dj : ∀ x ∈ r, x ∉ g := fun x hx hy => (List.nodup_append.mp nd).2.2 x hy x hx rfl
    have mem : ∀ x, x ∈ g ∨ x ∈ r → x ∈ fp := fun x hx => h2.mem_iff.mpr (List.mem_append.mpr hx)
    have hF : Same F (fun b => if b ∈ g then H b else F b) := fun b u e => by
      have nb : b ∉ g := fun hb => by rw [o.fn b (mem b (.inl hb))] at e; cases e
      simp only [if_neg nb]; exact e
    have rp := rt.freeze hF fun b hb => if_pos hb
    obtain ⟨f', rs', pm⟩ := (h4 _ H hF (fun _ _ _ z => z)).1 (.sh (.list (T.vals ts))) v [] (by simp only [RT]; exact ⟨trivial, rp⟩)
    rw [set_self h1] at rs'
    have pm : f'.Perm r := pm
    refine q v _ H [] f' ⟨.one (by simp only [RT]; exact ⟨trivial, rp⟩), rs', ?_, fun x hx => ?_, fun b u e => ?_, ⟨hF, fun _ _ z _ => z, fun b hb hn => ?_⟩, fun x hx => .inl (mem x (.inr (pm.mem_iff.mp (by simpa using hx))))⟩
    · show ([] ++ f').Nodup
      rw [List.nil_append]
      exact pm.nodup_iff.mpr (List.nodup_append.mp nd).2.1
    · have hx : x ∈ r := pm.mem_iff.mp (by simpa using hx)
      simp only [if_neg (dj x hx)]
      exact o.fn x (mem x (.inr hx))
    · by_cases hb : b ∈ g
      · simp only [if_pos hb] at e; exact e
      · simp only [if_neg hb] at e; exact o.fh b u e
    · simp only [if_neg fun hg => hn (mem b (.inl hg))]
  · exact q.elim
theorem pd_v {i : Nat} {x : Str} {pos : Pos} (h : PE X (.Name x pos) (tVar i)) : PE X (.Name x pos) (tD C (eV i)) := PE.impD h fun σ H Q => eV_var

/-! ### operands: shared data, or a list that is owned by a slot and looked at, its items shared -/
def Rq (K : PySem.W.Frag) (F H : Hp) (d : PyData) (v : V) : Prop := Rp K F d v ∨ ∃ a xs ds, d = .list ds ∧ v = .ref a ∧ H a = some (.lst xs) ∧ RpAll K F ds xs
def RqAll (K : PySem.W.Frag) (F H : Hp) : List PyData → List V → Prop
  | [], vs => vs = []
  | d :: ds, vs => ∃ x xs, vs = x :: xs ∧ Rq K F H d x ∧ RqAll K F H ds xs
theorem RpAll.rq {K : PySem.W.Frag} {F H : Hp} : ∀ {ds : List PyData} {vs : List V}, RpAll K F ds vs → RqAll K F H ds vs
  | [], _, h => by simpa only [RpAll, RqAll] using h
  | d :: ds, vs, h => by
    obtain ⟨x, xs, rfl, q, r⟩ := h.uncons
    simp only [RqAll]
    exact ⟨x, xs, rfl, .inl q, RpAll.rq r⟩
theorem rq_int {K : PySem.W.Frag} {F H : Hp} {i : Int} {v : V} (h : Rq K F H (.int i) v) : v = .int i := by
  rcases h with h | ⟨a, xs, ds, e, _⟩
  · simpa only [Rp] using h
  · cases e
theorem rq_bool {K : PySem.W.Frag} {F H : Hp} {i : Bool} {v : V} (h : Rq K F H (.bool i) v) : v = .bl i := by
  rcases h with h | ⟨a, xs, ds, e, _⟩
  · simpa only [Rp] using h
  · cases e
theorem rq_str {K : PySem.W.Frag} {F H : Hp} {i : Str} {v : V} (h : Rq K F H (.str i) v) : v = .str i := by
  rcases h with h | ⟨a, xs, ds, e, _⟩
  · simpa only [Rp] using h
  · cases e
theorem rq_none {K : PySem.W.Frag} {F H : Hp} {v : V} (h : Rq K F H .none v) : v = .non := by
  rcases h with h | ⟨a, xs, ds, e, _⟩
  · simpa only [Rp] using h
  · cases e
theorem rq_list {K : PySem.W.Frag} {F H : Hp} {ds : List PyData} {v : V} (fh : Same F H) (h : Rq K F H (.list ds) v) : ∃ a xs, v = .ref a ∧ SqL K H a xs ∧ RpAll K F ds xs := by
  rcases h with h | ⟨a, xs, ds', e, rfl, h1, h2⟩
  · simp only [Rp] at h
    obtain ⟨a, xs, rfl, q, r⟩ := h
    exact ⟨a, xs, rfl, sqL_mono fh q, r⟩
  · cases e
    exact ⟨a, xs, rfl, SqL.of h1, h2⟩
theorem rq_tup {K : PySem.W.Frag} {F H : Hp} {ds : List PyData} {v : V} (h : Rq K F H (.tuple ds) v) : ∃ a xs, v = .ref a ∧ SqT K F a xs ∧ RpAll K F ds xs := by
  rcases h with h | ⟨a, xs, ds, e, _⟩
  · simpa only [Rp] using h
  · cases e
theorem rq_dict {K : PySem.W.Frag} {F H : Hp} {ds : List (PyData × PyData)} {v : V} (fh : Same F H) (h : Rq K F H (.dict ds) v) : ∃ a ks, v = .ref a ∧ H a = some (.dK ks) ∧ RpKv K F ds ks := by
  rcases h with h | ⟨a, xs, ds, e, _⟩
  · simp only [Rp] at h
    obtain ⟨a, ks, rfl, q, r⟩ := h
    exact ⟨a, ks, rfl, fh _ _ q, r⟩
  · cases e
/-- a new dict, shared -/
theorem ResOk.dct {K : PySem.W.Frag} {F H : Hp} {ds : List (PyData × PyData)} {ks : List (Key × V)} {p : Addr} (fh : Same F H) (h : RpKv K F ds ks) (hp : H p = none) : ResOk K F H (.sh (.dict ds)) (.ref p) (upd F p (.dK ks)) (upd H p (.dK ks)) [] := by
  have fp : F p = none := fh.free hp
  refine ⟨?_, same_upd fp, fun b o e => ?_, same_upd hp, fun b hb => ?_, by simp, by simp⟩
  · simp only [RT, Rp]
    exact ⟨trivial, p, ks, rfl, upd_same, h.mono (same_upd fp)⟩
  · by_cases hb : b = p
    · subst hb; rw [upd_same] at e ⊢; exact e
    · rw [upd_ne hb] at e ⊢; exact fh b o e
  · have : b ≠ p := fun e => by subst e; exact hb hp
    rw [upd_ne this]
theorem Rq.dp {K : PySem.W.Frag} {F H : Hp} {d : PyData} {v : V} (fh : Same F H) (h : Rq K F H d v) (c : d.canLay0 = true) : Dp K H v d := by
  rcases h with h | ⟨a, xs, ds, rfl, rfl, h1, h2⟩
  · exact (h.mono fh).dp c
  · exact .lst (SqL.of h1) ((h2.mono fh).dp (by simpa only [PyData.canLay0] using c))
/-- a slot looked at -/
def shD : T → Option PyData
  | .sh d => some d
  | .lst _ => none
def shDs : List T → Option (List PyData)
  | [] => some []
  | t :: ts => match shD t, shDs ts with
    | some d, some ds => some (d :: ds)
    | _, _ => none
@[simp] theorem shDs_map (ds : List PyData) : shDs (ds.map T.sh) = some ds := by
  induction ds with
  | nil => rfl
  | cons d ds ih => simp [shDs, shD, ih]
def pkD : T → Option PyData
  | .sh d => some d
  | .lst ts => match shDs ts with
    | some ds => some (.list ds)
    | none => none
def pk (η : Env) (i : Nat) : Option PyData := match η[i]? with
  | some (some t) => pkD t
  | _ => none
theorem shDs_rp {K : PySem.W.Frag} {F H : Hp} : ∀ {ts : List T} {ds : List PyData} {vs : List V} {f : List Addr}, shDs ts = some ds → RTs K F H ts vs f → RpAll K F ds vs ∧ f = [] ∧ ts = ds.map T.sh
  | [], ds, vs, f, e, h => by
    simp only [shDs, Option.some.injEq] at e
    subst e
    simp only [RTs] at h
    rw [h.1]
    exact ⟨.nil, h.2, rfl⟩
  | t :: ts, ds, vs, f, e, h => by
    obtain ⟨x, xs, f1, f2, rfl, rfl, r1, r2⟩ := h.uncons
    unfold shDs at e
    split at e
    · rename_i d ds' e1 e2
      cases e
      obtain ⟨q1, rfl, e3⟩ := shDs_rp e2 r2
      cases t with
      | sh d' =>
        simp only [shD, Option.some.injEq] at e1
        subst e1
        simp only [RT] at r1
        obtain ⟨rfl, r1⟩ := r1
        exact ⟨.consI r1 q1, rfl, by simp [e3]⟩
      | lst _ => simp [shD] at e1
    · cases e
theorem pk_rq {K : PySem.W.Frag} {F H : Hp} {η : Env} {σ : St} {fp : List Addr} {i : Nat} {d : PyData} (o : Ok K F H η σ fp) (e : pk η i = some d) : ∃ v, σ[i]? = some (some v) ∧ Rq K F H d v := by
  unfold pk at e
  split at e
  · rename_i t ht
    have hi : i < η.length := (List.getElem?_eq_some_iff.mp ht).1
    obtain ⟨s, g, r, h1, h2, h3, h4⟩ := o.rs.focus hi
    obtain ⟨v, rfl, rt⟩ := h3 _ ht
    refine ⟨v, h1, ?_⟩
    cases t with
    | sh d' =>
      simp only [pkD, Option.some.injEq] at e
      subst e
      simp only [RT] at rt
      exact .inl rt.2
    | lst ts =>
      unfold pkD at e
      simp only at e
      split at e
      · rename_i ds hds
        cases e
        simp only [RT] at rt
        obtain ⟨a, xs, g, rfl, q1, rfl, q2⟩ := rt
        exact .inr ⟨a, xs, ds, rfl, rfl, q1, (shDs_rp hds q2).1⟩
      · cases e
  · cases e

/-! ### operations on two values -/
def rD2 (K : PySem.W.Frag) (op : PyData → PyData → Option T) : R2 := fun x y H Q => ∃ F d e t, Same F H ∧ Rq K F H d x ∧ Rq K F H e y ∧ op d e = some t ∧ Res K F H t Q
def OpD (X : Cx) (f : Value → Value → Sem Value) (op : PyData → PyData → Option T) : Prop := OpR X f (rD2 X.K op)
def fin1 (r : Option T) (η : Env) : Rs (T × Env) := match r with
  | some t => .ok (t, η)
  | none => .bad
def eBin (op : PyData → PyData → Option T) (f g : FE) : FE := fun η => (f η).bind fun p => (g p.2).bind fun q => fin1 (op p.1.val q.1.val) q.2
/-- the end of an operation -/
theorem fin_res {fp : List Addr} {F H : Hp} {σ : St} {ts : List T} {vs : List V} {η1 : Env} {F1 H1 : Hp} {f1 fp1 : List Addr} {r : Option T} {Q : VK} (a : Aft C.K fp F H σ ts vs η1 F1 H1 f1 fp1)
    (h : (fin1 r η1).post (fun p => ∀ v F' H' f1 fp', Aft C.K fp F H σ [p.1] [v] p.2 F' H' f1 fp' → Q v H') (XP C fp F H σ)) : ∃ F2 t, Ok C.K F2 H1 η1 σ fp1 ∧ RpAll C.K F2 (T.vals ts) vs ∧ r = some t ∧ Res C.K F2 H1 t Q := by
  obtain ⟨F2, a2, rp⟩ := a.freeze
  unfold fin1 at h
  split at h
  · rename_i t
    exact ⟨F2, t, a2.ok, rp, rfl, fun v F' H' f r => h v F' H' f fp1 (a2.res r)⟩
  · exact h.elim
theorem t_bin {op : PyData → PyData → Option T} {f g : FE} {σ : St} {H : Hp} {Q : VK} (h : tD C (eBin op f g) σ H Q) : tOp (rD2 C.K op) (tD C f) (tD C g) σ H Q := by
  obtain ⟨η, F, fp, o, q⟩ := h
  refine tD_step o.aft (Rs.post_mono (Rs.post_bind q) (fun p hp x F1 H1 f1 fp1 a => ?_) fun _ _ z => z)
  refine tD_step a (Rs.post_mono (Rs.post_bind hp) (fun p2 hp2 y F2 H2 f2 fp2 b => ?_) fun _ _ z => z)
  obtain ⟨F3, t, s, r, e, k⟩ := fin_res b hp2
  simp only [List.nil_append, List.cons_append, T.vals, RpAll] at r
  obtain ⟨x', xs, e1, r1, y', ys, rfl, r2, rfl⟩ := r
  obtain ⟨rfl, rfl⟩ : x = x' ∧ y = y' := by simpa using e1
  exact ⟨F3, _, _, t, s.fh, .inl r1, .inl r2, e, k⟩
/-- the left operand a name -/
def eBinL (op : PyData → PyData → Option T) (i : Nat) (g : FE) : FE := fun η => (g η).bind fun q => match pk q.2 i with
  | some d => fin1 (op d q.1.val) q.2
  | none => .bad
/-- the right one a name -/
def eBinR (op : PyData → PyData → Option T) (f : FE) (j : Nat) : FE := fun η => (f η).bind fun p => match pk p.2 j with
  | some e => fin1 (op p.1.val e) p.2
  | none => .bad
def eBinLR (op : PyData → PyData → Option T) (i j : Nat) : FE := fun η => match pk η i, pk η j with
  | some d, some e => fin1 (op d e) η
  | _, _ => .bad
theorem slot_now {K : PySem.W.Frag} {F H : Hp} {η η' : Env} {σ : St} {fp : List Addr} {fp0 : List Addr} {F0 H0 : Hp} {i : Nat} {v : V} (h : σ[i]? = some (some v)) {w : V} (h' : σ[i]? = some (some w)) : v = w := by
  rw [h] at h'; cases h'; rfl
theorem pk_some {η : Env} {i : Nat} {P : T × Env → Prop} {E : Ex → Env → Prop} {k : PyData → Rs (T × Env)} (h : (match pk η i with
  | some d => k d
  | none => .bad : Rs (T × Env)).post P E) : ∃ d, pk η i = some d ∧ (k d).post P E := by
  split at h
  · rename_i d e
    exact ⟨d, e, h⟩
  · exact h.elim
/-- a name that is set has a value in its slot; which one does not change while an expression is evaluated -/
def Set (K : PySem.W.Frag) (η : Env) (i : Nat) : Prop := ∃ t, η[i]? = some (some t)
theorem t_binR {op : PyData → PyData → Option T} {f : FE} {j : Nat} {σ : St} {H : Hp} {Q : VK} (h : tD C (eBinR op f j) σ H Q) : tOp (rD2 C.K op) (tD C f) (tVar j) σ H Q := by
  obtain ⟨η, F, fp, o, q⟩ := h
  refine tD_step o.aft (Rs.post_mono (Rs.post_bind q) (fun p hp x F1 H1 f1 fp1 a => ?_) fun _ _ z => z)
  obtain ⟨e, he, hp⟩ := pk_some hp
  obtain ⟨F3, t, s, r, eq, k⟩ := fin_res a hp
  obtain ⟨y, hy, ry⟩ := pk_rq s he
  simp only [List.nil_append, T.vals, RpAll] at r
  obtain ⟨x', xs, e1, r1, rfl⟩ := r
  obtain rfl : x = x' := by simpa using e1
  exact ⟨y, hy, F3, _, _, t, s.fh, .inl r1, ry, eq, k⟩
theorem t_binLR {op : PyData → PyData → Option T} {i j : Nat} {σ : St} {H : Hp} {Q : VK} (h : tD C (eBinLR op i j) σ H Q) : tOp (rD2 C.K op) (tVar i) (tVar j) σ H Q := by
  obtain ⟨η, F, fp, o, q⟩ := h
  unfold eBinLR at q
  split at q
  · rename_i d e hd he
    obtain ⟨F3, t, s, r, eq, k⟩ := fin_res o.aft q
    obtain ⟨x, hx, rx⟩ := pk_rq s hd
    obtain ⟨y, hy, ry⟩ := pk_rq s he
    exact ⟨x, hx, y, hy, F3, d, e, t, s.fh, rx, ry, eq, k⟩
  · exact q.elim
theorem RS.slot {K : PySem.W.Frag} {F H : Hp} {η : Env} {σ : St} {f : List Addr} {i : Nat} {t : T} (h : RS K F H η σ f) (e : η[i]? = some (some t)) : ∃ v, σ[i]? = some (some v) := by
  obtain ⟨s, g, r, h1, h2, h3, h4⟩ := h.focus (List.getElem?_eq_some_iff.mp e).1
  obtain ⟨v, rfl, _⟩ := h3 _ e
  exact ⟨v, h1⟩
/-- the left operand a name: it has a value ahead (the check at the start makes sure of it) -/
def eBinL' (op : PyData → PyData → Option T) (i : Nat) (g : FE) : FE := fun η => match pk η i with
  | some _ => eBinL op i g η
  | none => .bad
theorem t_binL {op : PyData → PyData → Option T} {g : FE} {i : Nat} {σ : St} {H : Hp} {Q : VK} (h : tD C (eBinL' op i g) σ H Q) : tOp (rD2 C.K op) (tVar i) (tD C g) σ H Q := by
  obtain ⟨η, F, fp, o, q⟩ := h
  unfold eBinL' at q
  obtain ⟨d0, h0, q⟩ := pk_some q
  obtain ⟨x, hx, _⟩ := pk_rq o h0
  refine ⟨x, hx, ?_⟩
  unfold eBinL at q
  refine tD_step o.aft (Rs.post_mono (Rs.post_bind q) (fun p hp y F1 H1 f1 fp1 a => ?_) fun _ _ z => z)
  obtain ⟨d, hd, hp⟩ := pk_some hp
  obtain ⟨F3, t, s, r, eq, k⟩ := fin_res a hp
  obtain ⟨x2, hx2, rx⟩ := pk_rq s hd
  obtain rfl : x = x2 := by rw [hx] at hx2; cases hx2; rfl
  simp only [List.nil_append, T.vals, RpAll] at r
  obtain ⟨y', ys, e1, r1, rfl⟩ := r
  obtain rfl : y = y' := by simpa using e1
  exact ⟨F3, _, _, t, s.fh, rx, .inl r1, eq, k⟩
end Pv
set_option Elab.async false
set_option linter.all false
set_option maxRecDepth 100000
set_option maxHeartbeats 4000000
/-! tuple * int at one and at nought -/
namespace L2
open PySem PySem.Spec PyProof.Rows
theorem tuple_mul1 (l : Addr) (items : Array Value) (n : Nat) (dd : Option Addr) (sl : Array (Option Value)) (x : Int) (u : Tok) (c0 : (decide (x < -(2 ^ 63)) || decide (x ≥ 2 ^ 63)) = false) (c1 : (items.isEmpty || x == 1) = true) :
    Meets (Builtin.«tuple.__mul__» ⟨[.ref l, .int x u], []⟩) (fun _ R s => s.heap.get? l = some { cls := .type "tuple", dict := dd, data := .seq items n, slots := sl } ∧ R (.ok (.ret (Value.ref l))) s) :=
  .of_wp fun prog w A R s h => by
    obtain ⟨hp, g, d, tk, os⟩ := s
    obtain ⟨hl, h⟩ := h
    have f1 := AutoSeq1.idx_int
    wp_walk using wpAny_loadPart' hl
    repeat (first
      | (refine wpAny_ite_false (decide_eq_false (by rw [c0]; exact Bool.false_ne_true)) ?_; wp_walk using wpAny_loadPart' hl)
      | (refine wpAny_ite_true (decide_eq_true c1) ?_; wp_walk using wpAny_loadPart' hl))
    exact ⟨_, rfl, h⟩
theorem tuple_mul0 (l : Addr) (items : Array Value) (n : Nat) (dd : Option Addr) (sl : Array (Option Value)) (x : Int) (u : Tok) (c0 : (decide (x < -(2 ^ 63)) || decide (x ≥ 2 ^ 63)) = false) (c1 : (items.isEmpty || x == 1) = false) (c2 : (decide (x ≤ 0) || items.isEmpty) = true) :
    Meets (Builtin.«tuple.__mul__» ⟨[.ref l, .int x u], []⟩) (fun _ R s => s.heap.get? l = some { cls := .type "tuple", dict := dd, data := .seq items n, slots := sl } ∧
      R (.ok (.ret (Value.ref s.heap.objs.size))) { s with heap := s.heap.push { cls := Value.type "tuple", data := Data.seq #[] }, toks := s.toks }) :=
  .of_wp fun prog w A R s h => by
    obtain ⟨hp, g, d, tk, os⟩ := s
    obtain ⟨hl, h⟩ := h
    have f1 := AutoSeq1.idx_int
    wp_walk using wpAny_loadPart' hl
    repeat (first
      | (refine wpAny_ite_false (decide_eq_false (by rw [c0]; exact Bool.false_ne_true)) ?_; wp_walk using wpAny_loadPart' hl)
      | (refine wpAny_ite_false (decide_eq_false (by rw [c1]; exact Bool.false_ne_true)) ?_; wp_walk using wpAny_loadPart' hl)
      | (refine wpAny_ite_true (decide_eq_true c2) ?_; wp_walk using wpAny_loadPart' hl))
    exact ⟨_, rfl, h⟩
def rRepT0 (K : PySem.W.Frag) : R2 := fun x y H Q => ∃ l k xs, x = .ref l ∧ y = .int k ∧ SqT K H l xs ∧ (xs = [] ∨ k ≤ 1) ∧ -1000 ≤ k ∧ k ≤ 1000 ∧ (xs = [] ∨ k = 1 → Q (.ref l) H) ∧ (xs ≠ [] → k ≤ 0 → ∀ p, H p = none → Q (.ref p) (upd H p (.tup [])))
section
variable {X : Cx}
theorem op_repT0 : OpR X (binaryOp .Mult) (rRepT0 X.K) := by
  intro pins s σ H x y v u Q I rx ry h
  obtain ⟨l, k, xs, rfl, rfl, hT, h0, h1, h2, q1, q2⟩ := h
  cases rx
  obtain ⟨t, rfl⟩ := ry
  obtain ⟨its, r, ⟨⟨cls, dd, data, sl⟩, ho, hc, n, hd⟩, hs⟩ := I.tuple hT
  simp only at hc hd
  subst hc hd
  have hle : its.length = xs.length := r.length.symm
  have c0 : (decide (k < -(2 ^ 63)) || decide (k ≥ 2 ^ 63)) = false := by
    rw [decide_eq_false (by omega), decide_eq_false (by omega)] <;> rfl
  have hi : its.toArray.isEmpty = decide (xs = []) := by
    cases its with
    | nil =>
      have : xs = [] := List.eq_nil_of_length_eq_zero hle.symm
      rw [decide_eq_true this]; rfl
    | cons a b =>
      have : xs ≠ [] := fun e => by rw [e] at hle; simp at hle
      rw [decide_eq_false this]; rfl
  by_cases hk : xs = [] ∨ k = 1
  · have c1 : (its.toArray.isEmpty || k == 1) = true := by
      rw [hi]
      rcases hk with hk | hk <;> simp [hk]
    refine wpAny_binaryOp_repeat_ref (T := "tuple") (U := "int") (by decide) ⟨_, ho, rfl⟩ (fun s' => typeIs_int s' k t) noFill_tuple_mul F.fills_int_mul F.slot_int_rmul repeat_tuple F.slot_int_index.lookup
      (call_meets F.slot_int_rmul (typeIs_int s k t) F.entry_int_rmul (F.args_int_rmul_2 _ _) (int_rmul_tuple k t l its.toArray n dd sl)
        ⟨ho, rfl, ⟨_, ho, rfl⟩, call_meets F.slot_tuple_mul ⟨_, ho, rfl⟩ F.entry_tuple_mul (F.args_tuple_mul_2 _ _) (tuple_mul1 l its.toArray n dd sl k t c0 c1) ⟨ho, ?_⟩⟩)
    exact ⟨.ref l, _, I, rfl, q1 hk⟩
  · have hne : xs ≠ [] := fun e => hk (.inl e)
    have hk1 : k ≠ 1 := fun e => hk (.inr e)
    have hk0 : k ≤ 0 := by
      rcases h0 with h0 | h0
      · exact absurd h0 hne
      · omega
    have c1 : (its.toArray.isEmpty || k == 1) = false := by
      rw [hi, decide_eq_false hne, Bool.false_or]
      exact beq_eq_false_iff_ne.mpr hk1
    have c2 : (decide (k ≤ 0) || its.toArray.isEmpty) = true := by rw [decide_eq_true hk0]; rfl
    refine wpAny_binaryOp_repeat_ref (T := "tuple") (U := "int") (by decide) ⟨_, ho, rfl⟩ (fun s' => typeIs_int s' k t) noFill_tuple_mul F.fills_int_mul F.slot_int_rmul repeat_tuple F.slot_int_index.lookup
      (call_meets F.slot_int_rmul (typeIs_int s k t) F.entry_int_rmul (F.args_int_rmul_2 _ _) (int_rmul_tuple k t l its.toArray n dd sl)
        ⟨ho, rfl, ⟨_, ho, rfl⟩, call_meets F.slot_tuple_mul ⟨_, ho, rfl⟩ F.entry_tuple_mul (F.args_tuple_mul_2 _ _) (tuple_mul0 l its.toArray n dd sl k t c0 c1 c2) ⟨ho, ?_⟩⟩)
    refine ⟨.ref s.heap.objs.size, _, I.laid (t' := s.toks) (o := .tup []) (fun b ob q => Heap.get?_push_of_some _ q) (Nat.le_refl _) ?_, rfl, q2 hne hk0 _ (I.hok.fresh (Nat.le_refl _))⟩
    exact ⟨by rw [sizeLine_eq]; decide, [], .nil, IsTup.new _ _⟩
end
end L2
set_option Elab.async false
set_option linter.all false
set_option maxRecDepth 100000
set_option maxHeartbeats 4000000
namespace Pv
open PySem L2
section
variable {X : Cx}
structure Good (X : Cx) : Prop where
  calm : X.calm = true
  room : X.A.units + 66 < cLine
  gd : X.A.guards = some []

theorem Res.sh {K : PySem.W.Frag} {F H : Hp} {d : PyData} {v : V} {Q : VK} (k : Res K F H (.sh d) Q) (s : Same F H) (h : Rp K F d v) : Q v H := k v F H [] (.here s h)
theorem Res.int {K : PySem.W.Frag} {F H : Hp} {i : Int} {Q : VK} (k : Res K F H (.sh (.int i)) Q) (s : Same F H) : Q (.int i) H := k.sh s rp_c.1
theorem Res.bool {K : PySem.W.Frag} {F H : Hp} {i : Bool} {Q : VK} (k : Res K F H (.sh (.bool i)) Q) (s : Same F H) : Q (.bl i) H := k.sh s rp_c.2.1
theorem Res.none' {K : PySem.W.Frag} {F H : Hp} {Q : VK} (k : Res K F H (.sh .none) Q) (s : Same F H) : Q .non H := k.sh s rp_c.2.2.2
theorem rp_int {K : PySem.W.Frag} {F : Hp} {i : Int} {v : V} (h : Rp K F (.int i) v) : v = .int i := by simpa only [Rp] using h
theorem rp_bool {K : PySem.W.Frag} {F : Hp} {i : Bool} {v : V} (h : Rp K F (.bool i) v) : v = .bl i := by simpa only [Rp] using h
theorem rp_str {K : PySem.W.Frag} {F : Hp} {i : Str} {v : V} (h : Rp K F (.str i) v) : v = .str i := by simpa only [Rp] using h
theorem rp_none {K : PySem.W.Frag} {F : Hp} {v : V} (h : Rp K F .none v) : v = .non := by simpa only [Rp] using h
theorem rp_list {K : PySem.W.Frag} {F : Hp} {ds : List PyData} {v : V} (h : Rp K F (.list ds) v) : ∃ a xs, v = .ref a ∧ SqL K F a xs ∧ RpAll K F ds xs := by simpa only [Rp] using h
theorem rp_tup {K : PySem.W.Frag} {F : Hp} {ds : List PyData} {v : V} (h : Rp K F (.tuple ds) v) : ∃ a xs, v = .ref a ∧ SqT K F a xs ∧ RpAll K F ds xs := by simpa only [Rp] using h

/-- ints under a condition -/
def iop (c : Int → Int → Bool) (g : Int → Int → Int) : PyData → PyData → Option T
  | .int i, .int j => if c i j then some (.sh (.int (g i j))) else none
  | _, _ => none
theorem iop_ok {f : Value → Value → Sem Value} {C : Int → Int → Prop} {c : Int → Int → Bool} {g : Int → Int → Int} (ho : OpR X f (rI C fun i j => .int (g i j))) (hc : ∀ i j, c i j = true → C i j) : OpD X f (iop c g) := by
  intro pins s σ H x y v u Q I rx ry ⟨F, d, e, t, fh, r1, r2, eq, k⟩
  unfold iop at eq
  split at eq
  · rename_i i j
    split at eq
    · rename_i hcc
      cases eq
      cases rq_int r1
      cases rq_int r2
      exact ho pins s σ H _ _ v u Q I rx ry ⟨i, j, rfl, rfl, hc _ _ hcc, k.int fh⟩
    · cases eq
  · cases eq
def iop0 (g : Int → Int → Int) : PyData → PyData → Option T
  | .int i, .int j => some (.sh (.int (g i j)))
  | _, _ => none
theorem iop0_ok {f : Value → Value → Sem Value} {g : Int → Int → Int} (ho : OpR X f (rI0 fun i j => .int (g i j))) : OpD X f (iop0 g) := by
  intro pins s σ H x y v u Q I rx ry ⟨F, d, e, t, fh, r1, r2, eq, k⟩
  unfold iop0 at eq
  split at eq
  · rename_i i j
    cases eq
    cases rq_int r1
    cases rq_int r2
    exact ho pins s σ H _ _ v u Q I rx ry ⟨i, j, rfl, rfl, k.int fh⟩
  · cases eq
/-- a new list from a value-level rule -/
theorem Res.lstQ {K : PySem.W.Frag} {F H : Hp} {ds : List PyData} {xs : List V} {Q : VK} (k : Res K F H (.lst (ds.map T.sh)) Q) (s : Same F H) (h : RpAll K F ds xs) : ∀ p, H p = none → Q (.ref p) (upd H p (.lst xs)) :=
  fun p hp => k _ _ _ _ (.lst s h hp)
theorem Res.tupQ {K : PySem.W.Frag} {F H : Hp} {ds : List PyData} {xs : List V} {Q : VK} (k : Res K F H (.sh (.tuple ds)) Q) (s : Same F H) (h : RpAll K F ds xs) : ∀ p, H p = none → Q (.ref p) (upd H p (.tup xs)) :=
  fun p hp => k _ _ _ _ (.tup s h hp)

/-! ### + -/
def opAdd : PyData → PyData → Option T
  | .int i, .int j => some (.sh (.int (i + j)))
  | .tuple a, .tuple b => if a.length + b.length ≤ 16777216 then some (.sh (.tuple (a ++ b))) else none
  | .list a, .list b => if a.length + b.length ≤ 16777216 then some (.lst ((a ++ b).map T.sh)) else none
  | .str a, .str b => if a.length + b.length ≤ 16777216 then some (.sh (.str (a ++ b))) else none
  | .int i, .bool b => some (.sh (.int (i + PyProof.Rows.b2i b)))
  | _, _ => none
/-- list + list, read -/
theorem cat_sq {pins : List (Addr × Obj)} {σ : St} {H : Hp} {s : Shared} {Q : VK} {l b : Addr} {xs zs : List V} (I : Inv X pins σ H s) (hH : SqL X.K H l xs) (hB : SqL X.K H b zs) (hz : xs.length + zs.length ≤ sizeLine)
    (q : ∀ p, H p = none → Q (.ref p) (upd H p (.lst (xs ++ zs)))) : wpAny (model X.prog X.w) X.A (binaryOp .Add (.ref l) (.ref b)) (EP X pins σ Q) X.xe s := by
  obtain ⟨its, r, ⟨⟨cls, dd, data, sl⟩, n, e, hc, hd0, hd⟩, _⟩ := I.list hH
  obtain ⟨its2, r2, ⟨⟨cls2, dd2, data2, sl2⟩, n2, e2, hc2, hd02, hd2⟩, _⟩ := I.list hB
  simp only at hc hd hd0 hc2 hd2 hd02
  subst hc hd hd0 hc2 hd2 hd02
  have ea : its.toArray ++ its2.toArray = (its ++ its2).toArray := by simp
  have h1 := r.length
  have h2 := r2.length
  refine PySem.concat_meets ⟨_, e, rfl⟩ ⟨_, e2, rfl⟩ noFill_list_add seq_list_add PySem.F.slot_list_add PySem.F.entry_list_add (PySem.F.args_list_add_2 _ _) (PyProof.Rows.list_addW l b its.toArray its2.toArray n n2 none none sl sl2 (by rw [List.size_toArray, List.size_toArray]; omega)) ⟨e, e2, ?_⟩
  rw [ea]
  exact ⟨.ref _, _, I.lnew (t' := s.toks) (r.append r2) (by rw [List.length_append]; omega), rfl, q _ I.fresh⟩
theorem int_rmul_listW (a : Int) (t : Tok) (l : Addr) (items : Array Value) (n : Nat) (dd : Option Addr) (sl : Array (Option Value)) :
    Meets (Builtin.«int.__rmul__» ⟨[.int a t, .ref l], []⟩) (fun _ R s => s.heap.get? l = some { cls := .type "list", dict := dd, data := .seq items n, slots := sl } ∧ R (.ok (.ret Value.notImplemented)) s) :=
  .of_wp fun prog w A R s h => by obtain ⟨hp, g, d, tk, os⟩ := s; obtain ⟨hl, h⟩ := h; wp_walk using wpAny_loadPart' hl; exact ⟨_, rfl, h⟩
theorem list_mulW (l : Addr) (items : Array Value) (n : Nat) (dd : Option Addr) (sl : Array (Option Value)) (x : Int) (u : Tok) (hc0 : ¬(!Builtin.List.listFitsIndex x) = true) (hc1 : ¬items.size * x.toNat > (2 ^ 63 - 1) / 8) (hc2 : ¬Builtin.List.listTooLong (items.size * x.toNat) = true) :
    Meets (Builtin.«list.__mul__» ⟨[.ref l, .int x u], []⟩) (fun _ R s => s.heap.get? l = some { cls := .type "list", dict := dd, data := .seq items n, slots := sl } ∧ R (.ok (.ret (Value.ref s.heap.objs.size))) { s with heap := s.heap.push { cls := Value.type "list", data := Data.seq (List.foldl (fun x1 x2 => x1 ++ x2) #[] (List.replicate (if items.isEmpty = true then 0 else x.toNat) items)) }, toks := s.toks }) :=
  .of_wp fun prog w A R s h => by
    obtain ⟨hp, g, d, tk, os⟩ := s; obtain ⟨hl, h⟩ := h
    have hsz := PySem.AutoListH.joined_fits hc2
    have f1 := AutoSeq1.idx_int
    wp_walk using wpAny_loadPart' hl; refine wpAny_ite_false (decide_eq_false (Nat.not_lt.mpr hsz)) ?_; wp_walk using wpAny_loadPart' hl; exact ⟨_, rfl, h⟩
theorem rep_sq {pins : List (Addr × Obj)} {σ : St} {H : Hp} {s : Shared} {Q : VK} {l : Addr} {xs : List V} {k : Int} {t : Tok} (I : Inv X pins σ H s) (hH : SqL X.K H l xs) (h1 : -(2 ^ 63) ≤ k) (h2 : k < 2 ^ 63) (hz : xs.length * k.toNat ≤ sizeLine)
    (q : ∀ p, H p = none → Q (.ref p) (upd H p (.lst (List.replicate k.toNat xs).flatten))) : wpAny (model X.prog X.w) X.A (binaryOp .Mult (.ref l) (.int k t)) (EP X pins σ Q) X.xe s := by
  obtain ⟨its, r, ⟨⟨cls, dd, data, sl⟩, n, e, hc, hd0, hd⟩, _⟩ := I.list hH
  simp only at hc hd hd0
  subst hc hd hd0
  have hl := r.length
  have hlen : its.toArray.size * k.toNat ≤ sizeLine := by rw [List.size_toArray, ← hl]; exact hz
  have hcap : ¬ its.toArray.size * k.toNat > (2 ^ 63 - 1) / 8 := by
    have : (sizeLine : Nat) ≤ (2 ^ 63 - 1) / 8 := by decide
    omega
  have hfit : ¬ (!Builtin.List.listFitsIndex k) = true := by
    rw [fitsIndex_both h1 h2]
    exact Bool.false_ne_true
  have hlong : ¬ Builtin.List.listTooLong (its.toArray.size * k.toNat) = true := by
    rw [notLongL hlen]
    exact Bool.false_ne_true
  have hnew : List.foldl (fun x1 x2 => x1 ++ x2) #[] (List.replicate (if its.toArray.isEmpty = true then 0 else k.toNat) its.toArray) = (List.replicate k.toNat its).flatten.toArray := by
    have f0 : ∀ m : Nat, List.foldl (fun x1 x2 => x1 ++ x2) #[] (List.replicate m its.toArray) = (List.replicate m its).flatten.toArray := fun m => by
      have := foldl_rep its m []
      rw [List.nil_append] at this
      exact this
    rw [f0]
    cases its with
    | nil => simp
    | cons a r' => rw [if_neg (by simp)]
  refine wpAny_binaryOp_repeat_ref (T := "list") (U := "int") (by decide) ⟨_, e, rfl⟩ (fun s' => typeIs_int s' k t) noFill_list_mul F.fills_int_mul F.slot_int_rmul repeat_list F.slot_int_index.lookup
    (call_meets F.slot_int_rmul (typeIs_int s k t) F.entry_int_rmul (F.args_int_rmul_2 _ _) (int_rmul_listW k t l its.toArray n none sl)
      ⟨e, rfl, ⟨_, e, rfl⟩, call_meets F.slot_list_mul ⟨_, e, rfl⟩ F.entry_list_mul (F.args_list_mul_2 _ _) (list_mulW l its.toArray n none sl k t hfit hcap hlong) ⟨e, ?_⟩⟩)
  rw [hnew]
  exact ⟨.ref _, _, I.lnew (t' := s.toks) (r.rep k.toNat) (by rw [PyProof.Rows.lm_len_rep_flat, Nat.mul_comm]; exact hz), rfl, q _ I.fresh⟩
theorem opAdd_ok : OpD X (binaryOp .Add) opAdd := by
  intro pins s σ H x y v u Q I rx ry ⟨F, d, e, t, fh, r1, r2, eq, k⟩
  unfold opAdd at eq
  split at eq
  · rename_i i j
    cases eq
    cases rq_int r1
    cases rq_int r2
    exact op_add pins s σ H _ _ v u Q I rx ry ⟨i, j, rfl, rfl, k.int fh⟩
  · rename_i a b
    split at eq
    · rename_i hl
      cases eq
      obtain ⟨p, xs, rfl, q1, w1⟩ := rq_tup r1
      obtain ⟨p2, ys, rfl, q2, w2⟩ := rq_tup r2
      have l1 := w1.len
      have l2 := w2.len
      refine op_catA pins s σ H _ _ v u Q I rx ry ⟨p, p2, xs, ys, rfl, rfl, sqT_mono fh q1, sqT_mono fh q2, by rw [sizeLine_eq]; omega, fun e => ?_, fun _ e => ?_, fun _ _ => k.tupQ fh (w1.append w2)⟩
      · subst e
        have : a = [] := List.eq_nil_of_length_eq_zero (by simpa using l1.symm)
        subst this
        refine k.sh fh ?_
        simp only [Rp]
        exact ⟨p2, ys, rfl, q2, by simpa using w2⟩
      · subst e
        have : b = [] := List.eq_nil_of_length_eq_zero (by simpa using l2.symm)
        subst this
        refine k.sh fh ?_
        simp only [Rp]
        exact ⟨p, xs, rfl, q1, by simpa using w1⟩
    · cases eq
  · rename_i a b
    split at eq
    · rename_i hl
      cases eq
      obtain ⟨p, xs, rfl, q1, w1⟩ := rq_list fh r1
      obtain ⟨p2, ys, rfl, q2, w2⟩ := rq_list fh r2
      have l1 := w1.len
      have l2 := w2.len
      cases rx
      cases ry
      exact cat_sq I q1 q2 (by rw [sizeLine_eq]; omega) (k.lstQ fh (w1.append w2))
    · cases eq
  · rename_i a b
    split at eq
    · rename_i hl
      cases eq
      cases rq_str r1
      cases rq_str r2
      exact op_add_str pins s σ H _ _ v u Q I rx ry ⟨a, b, rfl, rfl, hl, k.sh fh rp_c.2.2.1⟩
    · cases eq
  · rename_i i b
    cases eq
    cases rq_int r1
    cases rq_bool r2
    exact op_add_ib pins s σ H _ _ v u Q I rx ry ⟨i, b, rfl, rfl, k.int fh⟩
  · cases eq
def opSub : PyData → PyData → Option T := iop0 fun i j => i - j
theorem opSub_ok : OpD X (binaryOp .Sub) opSub := iop0_ok op_sub
/-! ### * -/
def small64 (i : Int) : Bool := decide (-18446744073709551616 < i) && decide (i < 18446744073709551616)
def mulFits (i j : Int) : Bool := small64 i || small64 j || decide (i.natAbs.log2 + j.natAbs.log2 < 1000000)
def opMul : PyData → PyData → Option T
  | .int i, .int j => if mulFits i j then some (.sh (.int (i * j))) else none
  | .list a, .int k => if a.length * k.toNat ≤ 16777216 ∧ -1000000000 ≤ k ∧ k ≤ 1000000000 then some (.lst ((List.replicate k.toNat a).flatten.map T.sh)) else none
  | .tuple a, .int k => if -1000 ≤ k ∧ k ≤ 1000 ∧ a.length ≤ 1000 then some (.sh (.tuple (List.replicate k.toNat a).flatten)) else none
  | _, _ => none
theorem RpAll.rep {K : PySem.W.Frag} {F : Hp} {ds : List PyData} {vs : List V} (h : RpAll K F ds vs) : ∀ n, RpAll K F (List.replicate n ds).flatten (List.replicate n vs).flatten
  | 0 => by simpa using RpAll.nil
  | n + 1 => by
    rw [List.replicate_succ, List.replicate_succ, List.flatten_cons, List.flatten_cons]
    exact h.append (h.rep n)
theorem opMul_ok : OpD X (binaryOp .Mult) opMul := by
  intro pins s σ H x y v u Q I rx ry ⟨F, d, e, t, fh, r1, r2, eq, k⟩
  unfold opMul at eq
  split at eq
  · rename_i i j
    split at eq
    · rename_i hc
      cases eq
      cases rq_int r1
      cases rq_int r2
      unfold mulFits small64 at hc
      simp only [Bool.or_eq_true, Bool.and_eq_true, decide_eq_true_eq] at hc
      have e64 : (2 : Int) ^ 64 = 18446744073709551616 := by decide
      rcases hc with (hc | hc) | hc
      · exact op_mul pins s σ H _ _ v u Q I rx ry ⟨i, j, rfl, rfl, .inl (by rw [e64]; exact hc), k.int fh⟩
      · exact op_mul pins s σ H _ _ v u Q I rx ry ⟨i, j, rfl, rfl, .inr (by rw [e64]; exact hc), k.int fh⟩
      · exact op_mulW pins s σ H _ _ v u Q I rx ry ⟨i, j, rfl, rfl, hc, k.int fh⟩
    · cases eq
  · rename_i a n
    split at eq
    · rename_i hl
      cases eq
      obtain ⟨p, xs, rfl, q1, w1⟩ := rq_list fh r1
      cases rq_int r2
      have l1 := w1.len
      cases rx
      obtain ⟨t, rfl⟩ := ry
      have e63 : (2 : Int) ^ 63 = 9223372036854775808 := by decide
      exact rep_sq I q1 (by rw [e63]; omega) (by rw [e63]; omega) (by rw [l1, sizeLine_eq]; exact hl.1) (k.lstQ fh (w1.rep _))
    · cases eq
  · rename_i a n
    split at eq
    · rename_i hl
      cases eq
      obtain ⟨p, xs, rfl, q1, w1⟩ := rq_tup r1
      cases rq_int r2
      have l1 := w1.len
      by_cases h0 : xs = [] ∨ n ≤ 1
      · refine op_repT0 pins s σ H _ _ v u Q I rx ry ⟨p, n, xs, rfl, rfl, sqT_mono fh q1, h0, hl.1, hl.2.1, fun e => ?_, fun e e0 => ?_⟩
        · have ea : (List.replicate n.toNat a).flatten = a := by
            rcases e with e | e
            · subst e
              obtain rfl : a = [] := List.eq_nil_of_length_eq_zero (by simpa using l1.symm)
              simp
            · subst e
              simp
          rw [ea] at k
          refine k.sh fh ?_
          simp only [Rp]
          exact ⟨p, xs, rfl, q1, w1⟩
        · have e1 : n.toNat = 0 := by omega
          rw [e1] at k
          exact k.tupQ fh (by simpa using RpAll.nil)
      · refine op_repT pins s σ H _ _ v u Q I rx ry ⟨p, n, xs, rfl, rfl, sqT_mono fh q1, fun e => h0 (.inl e), by omega, hl.2.1, by omega, k.tupQ fh (w1.rep _)⟩
    · cases eq
  · cases eq
/-! ### //, %, **, shifts, bits -/
def opFdiv : PyData → PyData → Option T := iop (fun _ j => decide (0 < j) && decide (j.natAbs.log2 < 9000)) fun i j => i / j
theorem opFdiv_ok : OpD X (binaryOp .FloorDiv) opFdiv := iop_ok op_fdivW fun i j h => by
  simp only [Bool.and_eq_true, decide_eq_true_eq] at h
  exact h
def opMod : PyData → PyData → Option T := iop (fun _ j => decide (0 < j)) fun i j => i % j
theorem opMod_ok : OpD X (binaryOp .Mod) opMod := iop_ok op_mod fun i j h => by simpa using h
def opPow : PyData → PyData → Option T := iop (fun i j => decide (0 ≤ j ∧ j ≤ 1000000 ∧ i.natAbs < 18446744073709551616)) fun i j => i ^ j.toNat
theorem opPow_ok : OpD X (binaryOp .Pow) opPow := iop_ok op_pow fun i j h => of_decide_eq_true (p := 0 ≤ j ∧ j ≤ 1000000 ∧ i.natAbs < 2 ^ 64) h
def opShl : PyData → PyData → Option T := iop (fun i j => decide (0 ≤ j ∧ j ≤ 1000000 ∧ i.natAbs < 18446744073709551616)) fun i j => i * 2 ^ j.toNat
theorem opShl_ok : OpD X (binaryOp .LShift) opShl := iop_ok op_shl fun i j h => of_decide_eq_true (p := 0 ≤ j ∧ j ≤ 1000000 ∧ i.natAbs < 2 ^ 64) h
def opShr : PyData → PyData → Option T := iop (fun _ j => decide (0 ≤ j)) fun i j => i / 2 ^ j.toNat
theorem opShr_ok : OpD X (binaryOp .RShift) opShr := iop_ok op_shr fun i j h => by simpa using h
def opBand : PyData → PyData → Option T := iop0 Builtin.bitAnd
theorem opBand_ok : OpD X (binaryOp .BitAnd) opBand := iop0_ok op_and
def opBor : PyData → PyData → Option T := iop0 Builtin.bitOr
theorem opBor_ok : OpD X (binaryOp .BitOr) opBor := iop0_ok op_or
def opBxor : PyData → PyData → Option T := iop0 Builtin.bitXor
theorem opBxor_ok : OpD X (binaryOp .BitXor) opBxor := iop0_ok op_xor

/-! ### comparisons -/
def shp (d : PyData) : Bool := SeqAt.shaped d
def opEq (d e : PyData) : Option T := if shp d && shp e then some (.sh (.bool (PyData.eqv d e))) else none
def opNe (d e : PyData) : Option T := if shp d && shp e then some (.sh (.bool (!PyData.eqv d e))) else none
theorem opEq_ok (g : Good X) : OpD X (compareOp .Eq) opEq := by
  intro pins s σ H x y v u Q I rx ry ⟨F, d, e, t, fh, r1, r2, eq, k⟩
  unfold opEq at eq
  split at eq
  · rename_i h
    cases eq
    simp only [Bool.and_eq_true] at h
    have := g.room
    exact op_eqD (by omega) pins s σ H _ _ v u Q I rx ry ⟨d, e, (r1.dp fh (SeqAt.canLay_of_shaped h.1)), (r2.dp fh (SeqAt.canLay_of_shaped h.2)), h.1, h.2, k.bool fh⟩
  · cases eq
theorem opNe_ok (g : Good X) : OpD X (compareOp .NotEq) opNe := by
  intro pins s σ H x y v u Q I rx ry ⟨F, d, e, t, fh, r1, r2, eq, k⟩
  unfold opNe at eq
  split at eq
  · rename_i h
    cases eq
    simp only [Bool.and_eq_true] at h
    have := g.room
    exact op_neD (by omega) pins s σ H _ _ v u Q I rx ry ⟨d, e, (r1.dp fh (SeqAt.canLay_of_shaped h.1)), (r2.dp fh (SeqAt.canLay_of_shaped h.2)), h.1, h.2, k.bool fh⟩
  · cases eq
def isNone : PyData → Bool
  | .none => true
  | _ => false
def opIs : PyData → PyData → Option T
  | d, .none => some (.sh (.bool (isNone d)))
  | .bool a, .bool b => some (.sh (.bool (a == b)))
  | _, _ => none
def opIsNot : PyData → PyData → Option T
  | d, .none => some (.sh (.bool (!isNone d)))
  | .bool a, .bool b => some (.sh (.bool (!(a == b))))
  | _, _ => none
theorem rp_non {K : PySem.W.Frag} {F H : Hp} {d : PyData} {v : V} (fh : Same F H) (h : Rq K F H d v) : decide (v = V.non) = isNone d := by
  cases d with
  | none => rw [rq_none h]; rfl
  | bool b => rw [rq_bool h]; rfl
  | int b => rw [rq_int h]; rfl
  | str b => rw [rq_str h]; rfl
  | list b => obtain ⟨_, _, rfl, _⟩ := rq_list fh h; rfl
  | tuple b => obtain ⟨_, _, rfl, _⟩ := rq_tup h; rfl
  | dict b => obtain ⟨_, _, rfl, _⟩ := rq_dict fh h; rfl
theorem beq_dec (a b : Bool) : decide (a = b) = (a == b) := by cases a <;> cases b <;> rfl
theorem opIs_ok : OpD X (compareOp .Is) opIs := by
  intro pins s σ H x y v u Q I rx ry ⟨F, d, e, t, fh, r1, r2, eq, k⟩
  unfold opIs at eq
  split at eq
  · cases eq
    cases rq_none r2
    exact op_isN pins s σ H _ _ v u Q I rx ry ⟨rfl, by rw [rp_non fh r1]; exact k.bool fh⟩
  · rename_i a b
    cases eq
    cases rq_bool r1
    cases rq_bool r2
    exact op_is_bl pins s σ H _ _ v u Q I rx ry ⟨a, b, rfl, rfl, by rw [beq_dec]; exact k.bool fh⟩
  · cases eq
theorem opIsNot_ok : OpD X (compareOp .IsNot) opIsNot := by
  intro pins s σ H x y v u Q I rx ry ⟨F, d, e, t, fh, r1, r2, eq, k⟩
  unfold opIsNot at eq
  split at eq
  · cases eq
    cases rq_none r2
    exact op_notN pins s σ H _ _ v u Q I rx ry ⟨rfl, by rw [rp_non fh r1]; exact k.bool fh⟩
  · rename_i a b
    cases eq
    cases rq_bool r1
    cases rq_bool r2
    exact op_isnot_bl pins s σ H _ _ v u Q I rx ry ⟨a, b, rfl, rfl, by rw [beq_dec]; exact k.bool fh⟩
  · cases eq
/-- alike data in order -/
def cmpOk (d e : PyData) : Bool := W.alike d e && !isNone d && decide (d.depth ≤ 60) && d.canLay0 && e.canLay0
def opCmp (pi : Int → Int → Bool) (pd : PyData → PyData → Bool) : PyData → PyData → Option T
  | .int i, .int j => some (.sh (.bool (pi i j)))
  | d, e => if cmpOk d e then some (.sh (.bool (pd d e))) else none
def opLt : PyData → PyData → Option T := opCmp (fun i j => decide (i < j)) W.dataLt
def opLe : PyData → PyData → Option T := opCmp (fun i j => decide (i ≤ j)) fun d e => !W.dataLt e d
def opGt : PyData → PyData → Option T := opCmp (fun i j => decide (j < i)) fun d e => W.dataLt e d
def opGe : PyData → PyData → Option T := opCmp (fun i j => decide (j ≤ i)) fun d e => !W.dataLt d e
theorem isNone_ne {d : PyData} (h : isNone d = false) : d ≠ .none := by
  intro e; subst e; cases h
theorem opCmp_ok {op : CmpOp} {pi : Int → Int → Bool} {pd : PyData → PyData → Bool} (g : Good X) (ho : OpR X (compareOp op) (rI0 fun i j => .bl (pi i j)))
    (hd : ∀ {E : Value → Shared → Prop} {s : Shared} {a b : Value} {da db : PyData} {as bs : List Addr} {Q : Value → Shared → Prop}, Reads s.heap a da as → Reads s.heap b db bs → W.alike da db = true → da ≠ .none → X.A.units + min da.depth db.depth < cLine → Q (.bool (pd da db)) s → wpAny (model X.prog X.w) X.A (compareOp op a b) Q E s) :
    OpD X (compareOp op) (opCmp pi pd) := by
  intro pins s σ H x y v u Q I rx ry ⟨F, d, e, t, fh, r1, r2, eq, k⟩
  unfold opCmp at eq
  split at eq
  · rename_i i j
    cases eq
    cases rq_int r1
    cases rq_int r2
    exact ho pins s σ H _ _ v u Q I rx ry ⟨i, j, rfl, rfl, k.bool fh⟩
  · split at eq
    · rename_i h
      cases eq
      unfold cmpOk at h
      simp only [Bool.and_eq_true, decide_eq_true_eq, Bool.not_eq_true'] at h
      obtain ⟨as, ra⟩ := Dp.reads I d x v (r1.dp fh h.1.2) rx
      obtain ⟨bs, rb⟩ := Dp.reads I e y u (r2.dp fh h.2) ry
      have := g.room
      have hm : min d.depth e.depth ≤ d.depth := Nat.min_le_left _ _
      have hd60 := h.1.1.2
      exact hd ra rb h.1.1.1.1 (isNone_ne h.1.1.1.2) (by omega) ⟨.bl _, H, I, rfl, k.bool fh⟩
    · cases eq
theorem opLt_ok (g : Good X) : OpD X (compareOp .Lt) opLt := opCmp_ok g op_lt W.lt_data
theorem opLe_ok (g : Good X) : OpD X (compareOp .LtE) opLe := opCmp_ok g op_le W.le_data
theorem opGt_ok (g : Good X) : OpD X (compareOp .Gt) opGt := opCmp_ok g op_gt W.gt_data
theorem opGe_ok (g : Good X) : OpD X (compareOp .GtE) opGe := opCmp_ok g op_ge W.ge_data
/-- in -/
def inD (d : PyData) (es : List PyData) : Bool := es.any fun z => PyData.eqv z d
def shpAll (es : List PyData) : Bool := shp (.list es)
def opIn : PyData → PyData → Option T
  | d, .list es => if shp d && shpAll es then some (.sh (.bool (inD d es))) else none
  | d, .tuple es => if shp d && shpAll es then some (.sh (.bool (inD d es))) else none
  | _, _ => none
def opNotIn : PyData → PyData → Option T
  | d, .list es => if shp d && shpAll es then some (.sh (.bool (!inD d es))) else none
  | d, .tuple es => if shp d && shpAll es then some (.sh (.bool (!inD d es))) else none
  | _, _ => none
theorem opIn_ok (g : Good X) : OpD X (compareOp .In) opIn := by
  intro pins s σ H x y v u Q I rx ry ⟨F, d, e, t, fh, r1, r2, eq, k⟩
  have hu := g.room
  unfold opIn at eq
  split at eq
  · split at eq
    · rename_i es h
      cases eq
      simp only [Bool.and_eq_true] at h
      exact op_inD (by omega) pins s σ H _ _ v u Q I rx ry ⟨d, es, (r1.dp fh (SeqAt.canLay_of_shaped h.1)), (r2.dp fh (SeqAt.canLay_of_shaped h.2)), h.1, h.2, k.bool fh⟩
    · cases eq
  · split at eq
    · rename_i es h
      cases eq
      simp only [Bool.and_eq_true] at h
      obtain ⟨as, ra⟩ := Dp.reads I d x v (r1.dp fh (SeqAt.canLay_of_shaped h.1)) rx
      obtain ⟨bs, rb⟩ := Dp.reads I (.tuple es) y u (r2.dp fh (SeqAt.canLay_of_shaped h.2)) ry
      refine SeqAt.in_tuple_reads rb ra (SeqAt.canLay_of_shaped h.2) (SeqAt.canLay_of_shaped h.1) (PyProof.Rows.room_in_shaped h.1 (by omega)) ⟨.bl _, H, I, rfl, k.bool fh⟩
    · cases eq
  · cases eq
theorem opNotIn_ok (g : Good X) : OpD X (compareOp .NotIn) opNotIn := by
  intro pins s σ H x y v u Q I rx ry ⟨F, d, e, t, fh, r1, r2, eq, k⟩
  have hu := g.room
  unfold opNotIn at eq
  split at eq
  · split at eq
    · rename_i es h
      cases eq
      simp only [Bool.and_eq_true] at h
      exact op_notInD (by omega) pins s σ H _ _ v u Q I rx ry ⟨d, es, (r1.dp fh (SeqAt.canLay_of_shaped h.1)), (r2.dp fh (SeqAt.canLay_of_shaped h.2)), h.1, h.2, k.bool fh⟩
    · cases eq
  · split at eq
    · rename_i es h
      cases eq
      simp only [Bool.and_eq_true] at h
      obtain ⟨as, ra⟩ := Dp.reads I d x v (r1.dp fh (SeqAt.canLay_of_shaped h.1)) rx
      obtain ⟨bs, rb⟩ := Dp.reads I (.tuple es) y u (r2.dp fh (SeqAt.canLay_of_shaped h.2)) ry
      refine SeqAt.notIn_tuple_reads rb ra (SeqAt.canLay_of_shaped h.2) (SeqAt.canLay_of_shaped h.1) (PyProof.Rows.room_in_shaped h.1 (by omega)) ⟨.bl _, H, I, rfl, k.bool fh⟩
    · cases eq
  · cases eq
end
end Pv
set_option Elab.async false
set_option linter.all false
set_option maxRecDepth 100000
set_option maxHeartbeats 4000000
namespace Pv
open PySem L2
variable {X : Cx} {C : Cn}

/-! ### binary operations, comparisons -/
section
variable {e : Expr} {op : PyData → PyData → Option T} {f g : FE} {i j : Nat}
theorem pd_bin (hK : C.K = X.K) (h : PE X e (tOp (rD2 X.K op) (tD C f) (tD C g))) : PE X e (tD C (eBin op f g)) := by
  rw [← hK] at h
  exact h.impD fun _ _ _ => t_bin
theorem pd_binL (hK : C.K = X.K) (h : PE X e (tOp (rD2 X.K op) (tVar i) (tD C g))) : PE X e (tD C (eBinL' op i g)) := by
  rw [← hK] at h
  exact h.impD fun _ _ _ => t_binL
theorem pd_binR (hK : C.K = X.K) (h : PE X e (tOp (rD2 X.K op) (tD C f) (tVar j))) : PE X e (tD C (eBinR op f j)) := by
  rw [← hK] at h
  exact h.impD fun _ _ _ => t_binR
theorem pd_binLR (hK : C.K = X.K) (h : PE X e (tOp (rD2 X.K op) (tVar i) (tVar j))) : PE X e (tD C (eBinLR op i j)) := by
  rw [← hK] at h
  exact h.impD fun _ _ _ => t_binLR
end
/-! ### tests -/
def bT (f : FE) : FB := fun η => (f η).bind fun p => match p.1 with
  | .sh (.bool b) => .ok (b, p.2)
  | _ => .bad
theorem rt_bool {K : PySem.W.Frag} {F H : Hp} {b : Bool} {v : V} {f : List Addr} (h : RT K F H (.sh (.bool b)) v f) : v = .bl b ∧ f = [] := by
  simp only [RT, Rp] at h
  exact ⟨h.2, h.1⟩
theorem rt_int {K : PySem.W.Frag} {F H : Hp} {b : Int} {v : V} {f : List Addr} (h : RT K F H (.sh (.int b)) v f) : v = .int b ∧ f = [] := by
  simp only [RT, Rp] at h
  exact ⟨h.2, h.1⟩
/-- one value that is a scalar is dropped -/
theorem Aft.drop1 {K : PySem.W.Frag} {fp : List Addr} {F H : Hp} {σ : St} {t : T} {v : V} {η' : Env} {F' H' : Hp} {f1 fp' : List Addr} (a : Aft K fp F H σ [t] [v] η' F' H' f1 fp') : Aft K fp F H σ [] [] η' F' H' [] fp' :=
  ⟨.nil, a.rs, (List.nodup_append.mp a.nd).2.1, fun x hx => a.fn x (by simp at hx; simp [hx]), a.fh, a.ext, fun x hx => a.sub x (by simp at hx; simp [hx])⟩
theorem Aft.rt1 {K : PySem.W.Frag} {fp : List Addr} {F H : Hp} {σ : St} {t : T} {v : V} {η' : Env} {F' H' : Hp} {f1 fp' : List Addr} (a : Aft K fp F H σ [t] [v] η' F' H' f1 fp') : RT K F' H' t v f1 := by
  obtain ⟨x, xs, g1, g2, e1, e2, r1, r2⟩ := a.rt.uncons
  simp only [RTs] at r2
  obtain ⟨rfl, rfl⟩ := r2
  obtain rfl : v = x := by simpa using e1
  rw [e2]
  simpa using r1
theorem t_test {f : FE} {σ : St} {H : Hp} {Q : Bool → Hp → Prop} (h : tB C (bT f) σ H Q) : tD C f σ H (fun x H' => ∃ k, x = .bl k ∧ Q k H') := by
  obtain ⟨η, F, fp, o, q⟩ := h
  refine ⟨η, F, fp, o, Rs.post_mono (Rs.post_bind q) (fun p hp v F' H' f1 fp' a => ?_) fun _ _ z => z⟩
  split at hp
  · rename_i b e
    rw [e] at a
    exact ⟨b, (rt_bool a.rt1).1, hp F' H' fp' a.drop1⟩
  · exact hp.elim
theorem pt_bool {e : Expr} {t : TE} {f : FE} (h : PT X e (tTest t)) (k : ∀ σ H Q, tD C f σ H Q → t σ H Q) : PT X e (tB C (bT f)) :=
  h.impD fun σ H Q q => k σ H _ (t_test q)
section
variable {e : Expr} {op : PyData → PyData → Option T} {f g : FE} {i j : Nat}
theorem ptb_bin (hK : C.K = X.K) (h : PT X e (tTest (tOp (rD2 X.K op) (tD C f) (tD C g)))) : PT X e (tB C (bT (eBin op f g))) := by
  rw [← hK] at h
  exact pt_bool h fun _ _ _ => t_bin
theorem ptb_binL (hK : C.K = X.K) (h : PT X e (tTest (tOp (rD2 X.K op) (tVar i) (tD C g)))) : PT X e (tB C (bT (eBinL' op i g))) := by
  rw [← hK] at h
  exact pt_bool h fun _ _ _ => t_binL
theorem ptb_binR (hK : C.K = X.K) (h : PT X e (tTest (tOp (rD2 X.K op) (tD C f) (tVar j)))) : PT X e (tB C (bT (eBinR op f j))) := by
  rw [← hK] at h
  exact pt_bool h fun _ _ _ => t_binR
theorem ptb_binLR (hK : C.K = X.K) (h : PT X e (tTest (tOp (rD2 X.K op) (tVar i) (tVar j)))) : PT X e (tB C (bT (eBinLR op i j))) := by
  rw [← hK] at h
  exact pt_bool h fun _ _ _ => t_binLR
end
/-- truth -/
def truth : PyData → Option Bool
  | .none => some false
  | .bool b => some b
  | .int i => some (i != 0)
  | .list ds => some (!ds.isEmpty)
  | .tuple ds => some (!ds.isEmpty)
  | _ => none
theorem isEmpty_len {α β : Type} {xs : List α} {ds : List β} (h : xs.length = ds.length) : (!ds.isEmpty) = !xs.isEmpty := by
  cases xs <;> cases ds <;> simp_all
theorem truth_ok {K : PySem.W.Frag} {F H : Hp} {d : PyData} {v : V} {b : Bool} (fh : Same F H) (h : Rq K F H d v) (e : truth d = some b) : TruV K v H b := by
  unfold truth at e
  split at e
  · rw [rq_none h]; cases e; rfl
  · rw [rq_bool h]; cases e; rfl
  · rw [rq_int h]; cases e; rfl
  · cases e
    obtain ⟨a, xs, rfl, q, r⟩ := rq_list fh h
    refine .inl ⟨xs, q, ?_⟩
    have := r.len
    exact isEmpty_len this
  · cases e
    obtain ⟨a, xs, rfl, q, r⟩ := rq_tup h
    refine .inr (.inl ⟨xs, sqT_mono fh q, ?_⟩)
    have := r.len
    exact isEmpty_len this
  · cases e
def bTru (f : FE) : FB := fun η => (f η).bind fun p => match truth p.1.val with
  | some b => .ok (b, p.2)
  | none => .bad
theorem ptd_tru {e : Expr} {f : FE} (hK : C.K = X.K) (ha : PE X e (tD C f)) (he : ∀ whole, isTrue e X.env whole = (do let v ← whole; standAt e.pos; holding [v] (truthy v)) := by intro _; rfl) : PT X e (tB C (bTru f)) := by
  refine (pt_truth ha he).impD fun σ H Q ⟨η, F, fp, o, q⟩ => ?_
  refine ⟨η, F, fp, o, Rs.post_mono (Rs.post_bind q) (fun p hp v F' H' f1 fp' a => ?_) fun _ _ z => z⟩
  split at hp
  · rename_i b eb
    obtain ⟨F2, a2, rp⟩ := a.freeze
    simp only [T.vals, RpAll] at rp
    obtain ⟨x', xs, e1, r1, rfl⟩ := rp
    obtain rfl : v = x' := by simpa using e1
    rw [← hK]
    exact ⟨b, truth_ok a2.fh (.inl r1) eb, hp F2 H' fp' a2⟩
  · exact hp.elim
def bAnd (f g : FB) : FB := fun η => (f η).bind fun p => if p.1 then g p.2 else .ok (false, p.2)
def bOr (f g : FB) : FB := fun η => (f η).bind fun p => if p.1 then .ok (true, p.2) else g p.2
def bNot (f : FB) : FB := fun η => (f η).bind fun p => .ok (!p.1, p.2)
theorem ptd_not {a : Expr} {pos : Pos} {f : FB} (h : PT X a (tB C f)) : PT X (.UnaryOp .Not a pos) (tB C (bNot f)) := by
  refine (pt_not h).impD fun σ H Q ⟨η, F, fp, o, q⟩ => ?_
  exact ⟨η, F, fp, o, Rs.post_mono (Rs.post_bind q) (fun p hp F' H' fp' a => hp F' H' fp' a) fun _ _ z => z⟩
section
variable {a b : Expr} {rest : List Expr} {pos : Pos} {f g : FB}
theorem pwd_and1 (ha : PT X a (tB C f)) : PW X (.BoolOp .And [a] pos) (tB C f) := pw_and1 ha
theorem pwd_or1 (ha : PT X a (tB C f)) : PW X (.BoolOp .Or [a] pos) (tB C f) := pw_or1 ha
theorem pwd_and (ha : PT X a (tB C f)) (hb : PW X (.BoolOp .And (b :: rest) pos) (tB C g)) : PW X (.BoolOp .And (a :: b :: rest) pos) (tB C (bAnd f g)) := by
  refine PW.impD (pw_and ha hb) fun σ H Q ⟨η, F, fp, o, q⟩ => ?_
  refine tB_step o.aft (Rs.post_mono (Rs.post_bind q) (fun p hp F1 H1 f1 fp1 a => ?_) fun _ _ z => z)
  cases e : p.1 with
  | true =>
    rw [e, if_pos rfl] at hp
    rw [if_pos rfl]
    exact tB_step a (Rs.post_mono hp (fun p2 hp2 F2 H2 f2 fp2 b => by
      have hf : f2 = [] := by have := b.rt; simp only [RTs] at this; exact this.2
      subst hf
      exact hp2 F2 H2 fp2 b) fun _ _ z => z)
  | false =>
    rw [e, if_neg Bool.false_ne_true] at hp
    rw [if_neg Bool.false_ne_true]
    have hf : f1 = [] := by have := a.rt; simp only [RTs] at this; exact this.2
    subst hf
    exact hp F1 H1 fp1 a
theorem pwd_or (ha : PT X a (tB C f)) (hb : PW X (.BoolOp .Or (b :: rest) pos) (tB C g)) : PW X (.BoolOp .Or (a :: b :: rest) pos) (tB C (bOr f g)) := by
  refine PW.impD (pw_or ha hb) fun σ H Q ⟨η, F, fp, o, q⟩ => ?_
  refine tB_step o.aft (Rs.post_mono (Rs.post_bind q) (fun p hp F1 H1 f1 fp1 a => ?_) fun _ _ z => z)
  have hf : f1 = [] := by have := a.rt; simp only [RTs] at this; exact this.2
  subst hf
  cases e : p.1 with
  | false =>
    rw [e, if_neg Bool.false_ne_true] at hp
    rw [if_neg Bool.false_ne_true]
    exact tB_step a (Rs.post_mono hp (fun p2 hp2 F2 H2 f2 fp2 b => by
      have hf : f2 = [] := by have := b.rt; simp only [RTs] at this; exact this.2
      subst hf
      exact hp2 F2 H2 fp2 b) fun _ _ z => z)
  | true =>
    rw [e, if_pos rfl] at hp
    rw [if_pos rfl]
    exact hp F1 H1 fp1 a
end
/-! ### and, or, not, if-else as values -/
def eAnd (f g : FE) : FE := fun η => (f η).bind fun p => match p.1 with
  | .sh (.bool true) => g p.2
  | .sh (.bool false) => .ok (.sh (.bool false), p.2)
  | _ => .bad
def eOr (f g : FE) : FE := fun η => (f η).bind fun p => match p.1 with
  | .sh (.bool true) => .ok (.sh (.bool true), p.2)
  | .sh (.bool false) => g p.2
  | _ => .bad
section
variable {a b : Expr} {rest : List Expr} {pos : Pos} {f g : FE} {c : FB}
theorem pd_one {op : BoolOp} (ha : PE X a (tD C f)) : PE X (.BoolOp op [a] pos) (tD C f) := pe_one ha
theorem pd_and (ha : PE X a (tD C f)) (hb : PE X (.BoolOp .And (b :: rest) pos) (tD C g)) : PE X (.BoolOp .And (a :: b :: rest) pos) (tD C (eAnd f g)) := by
  refine (pe_and ha hb).impD fun σ H Q ⟨η, F, fp, o, q⟩ => ?_
  refine tD_step o.aft (Rs.post_mono (Rs.post_bind q) (fun p hp x F1 H1 f1 fp1 a => ?_) fun _ _ z => z)
  have a : Aft C.K fp F H σ [p.1] [x] p.2 F1 H1 f1 fp1 := a
  split at hp
  · rename_i e
    rw [e] at a
    refine ⟨true, (rt_bool a.rt1).1, ?_⟩
    rw [if_pos rfl]
    exact tD_step a.drop1 (Rs.post_mono hp (fun p2 hp2 v F2 H2 f2 fp2 b => hp2 v F2 H2 f2 fp2 b) fun _ _ z => z)
  · rename_i e
    rw [e] at a
    refine ⟨false, (rt_bool a.rt1).1, ?_⟩
    rw [if_neg Bool.false_ne_true]
    refine hp _ F1 H1 [] fp1 ?_
    have := a.rt1
    obtain ⟨rfl, rfl⟩ := rt_bool this
    exact a
  · exact hp.elim
theorem pd_or (ha : PE X a (tD C f)) (hb : PE X (.BoolOp .Or (b :: rest) pos) (tD C g)) : PE X (.BoolOp .Or (a :: b :: rest) pos) (tD C (eOr f g)) := by
  refine (pe_or ha hb).impD fun σ H Q ⟨η, F, fp, o, q⟩ => ?_
  refine tD_step o.aft (Rs.post_mono (Rs.post_bind q) (fun p hp x F1 H1 f1 fp1 a => ?_) fun _ _ z => z)
  have a : Aft C.K fp F H σ [p.1] [x] p.2 F1 H1 f1 fp1 := a
  split at hp
  · rename_i e
    rw [e] at a
    refine ⟨true, (rt_bool a.rt1).1, ?_⟩
    rw [if_pos rfl]
    refine hp _ F1 H1 [] fp1 ?_
    have := a.rt1
    obtain ⟨rfl, rfl⟩ := rt_bool this
    exact a
  · rename_i e
    rw [e] at a
    refine ⟨false, (rt_bool a.rt1).1, ?_⟩
    rw [if_neg Bool.false_ne_true]
    exact tD_step a.drop1 (Rs.post_mono hp (fun p2 hp2 v F2 H2 f2 fp2 b => hp2 v F2 H2 f2 fp2 b) fun _ _ z => z)
  · exact hp.elim
def eIf (c : FB) (f g : FE) : FE := fun η => (c η).bind fun p => if p.1 then f p.2 else g p.2
theorem pd_if {c0 : Expr} (hc : PT X c0 (tB C c)) (ha : PE X a (tD C f)) (hb : PE X b (tD C g)) : PE X (.IfExp c0 a b pos) (tD C (eIf c f g)) := by
  refine (pe_ifExp hc ha hb).impD fun σ H Q ⟨η, F, fp, o, q⟩ => ?_
  refine tB_step o.aft (Rs.post_mono (Rs.post_bind q) (fun p hp F1 H1 f1 fp1 a => ?_) fun _ _ z => z)
  cases e : p.1 with
  | true =>
    rw [e, if_pos rfl] at hp
    rw [if_pos rfl]
    exact tD_step a hp
  | false =>
    rw [e, if_neg Bool.false_ne_true] at hp
    rw [if_neg Bool.false_ne_true]
    exact tD_step a hp
end
/-! ### one operand -/
def rD1 (K : PySem.W.Frag) (op : PyData → Option T) : V → Hp → VK → Prop := fun x H Q => ∃ F d t, Same F H ∧ Rq K F H d x ∧ op d = some t ∧ Res K F H t Q
def eUn (op : PyData → Option T) (f : FE) : FE := fun η => (f η).bind fun p => fin1 (op p.1.val) p.2
theorem t_un {op : PyData → Option T} {f : FE} {σ : St} {H : Hp} {Q : VK} (h : tD C (eUn op f) σ H Q) : tUn (rD1 C.K op) (tD C f) σ H Q := by
  obtain ⟨η, F, fp, o, q⟩ := h
  refine tD_step o.aft (Rs.post_mono (Rs.post_bind q) (fun p hp x F1 H1 f1 fp1 a => ?_) fun _ _ z => z)
  obtain ⟨F3, t, s, r, eq, k⟩ := fin_res a hp
  simp only [List.nil_append, T.vals, RpAll] at r
  obtain ⟨x', xs, e1, r1, rfl⟩ := r
  obtain rfl : x = x' := by simpa using e1
  exact ⟨F3, _, t, s.fh, .inl r1, eq, k⟩
def opNeg : PyData → Option T
  | .int i => some (.sh (.int (-i)))
  | _ => none
theorem opNeg_ok : UnR X (unaryOp .USub) (rD1 X.K opNeg) := by
  intro pins s σ H x v Q I rx ⟨F, d, t, fh, r1, eq, k⟩
  unfold opNeg at eq
  split at eq
  · rename_i i
    cases eq
    cases rq_int r1
    exact un_neg pins s σ H _ v Q I rx ⟨i, rfl, k.int fh⟩
  · cases eq
theorem pd_un {o : UnaryOp} {op : PyData → Option T} {a : Expr} {pos : Pos} {f : FE} (hK : C.K = X.K) (ho : UnR X (unaryOp o) (rD1 X.K op)) (ha : PE X a (tD C f)) : PE X (.UnaryOp o a pos) (tD C (eUn op f)) := by
  rw [← hK] at ho
  exact (pe_un ho ha).impD fun _ _ _ => t_un
def eNot (c : FB) : FE := fun η => (c η).bind fun p => .ok (.sh (.bool (!p.1)), p.2)
def eNotV (f : FE) : FE := fun η => (f η).bind fun p => match p.1 with
  | .sh (.bool b) => .ok (.sh (.bool (!b)), p.2)
  | _ => .bad
theorem pd_not {a : Expr} {pos : Pos} {f : FE} (ha : PE X a (tD C f)) : PE X (.UnaryOp .Not a pos) (tD C (eNotV f)) := by
  refine (pe_not ha).impD fun σ H Q ⟨η, F, fp, o, q⟩ => ?_
  refine tD_step o.aft (Rs.post_mono (Rs.post_bind q) (fun p hp x F1 H1 f1 fp1 a => ?_) fun _ _ z => z)
  have a : Aft C.K fp F H σ [p.1] [x] p.2 F1 H1 f1 fp1 := a
  split at hp
  · rename_i b e
    rw [e] at a
    refine ⟨b, (rt_bool a.rt1).1, ?_⟩
    exact hp _ F1 H1 [] fp1 (a.drop1.res (.here a.fh rp_c.2.1))
  · exact hp.elim
/-! ### chains of comparisons of ints -/
def eChain (p1 p2 : Int → Int → Bool) (f g h : FE) : FE := fun η => (f η).bind fun a => (g a.2).bind fun b => match a.1, b.1 with
  | .sh (.int i), .sh (.int j) => if p1 i j then (h b.2).bind fun c => match c.1 with
      | .sh (.int k) => .ok (.sh (.bool (p2 j k)), c.2)
      | _ => .bad
    else .ok (.sh (.bool false), b.2)
  | _, _ => .bad
theorem Aft.rt2 {K : PySem.W.Frag} {fp : List Addr} {F H : Hp} {σ : St} {t t2 : T} {v v2 : V} {η' : Env} {F' H' : Hp} {f1 fp' : List Addr} (a : Aft K fp F H σ [t, t2] [v, v2] η' F' H' f1 fp') :
    ∃ g1 g2, f1 = g1 ++ g2 ∧ RT K F' H' t v g1 ∧ RT K F' H' t2 v2 g2 := by
  obtain ⟨x, xs, g1, g2, e1, e2, r1, r2⟩ := a.rt.uncons
  obtain ⟨y, ys, g3, g4, e3, e4, r3, r4⟩ := r2.uncons
  simp only [RTs] at r4
  obtain ⟨rfl, rfl⟩ := r4
  subst e3
  obtain ⟨rfl, rfl⟩ : v = x ∧ v2 = y := by simpa using e1
  subst e4
  exact ⟨g1, g3, by simpa using e2, r1, r3⟩
theorem Aft.drop {K : PySem.W.Frag} {fp : List Addr} {F H : Hp} {σ : St} {ts : List T} {vs : List V} {η' : Env} {F' H' : Hp} {f1 fp' : List Addr} (a : Aft K fp F H σ ts vs η' F' H' f1 fp') : Aft K fp F H σ [] [] η' F' H' [] fp' :=
  ⟨.nil, a.rs, (List.nodup_append.mp a.nd).2.1, fun x hx => a.fn x (by simp at hx; simp [hx]), a.fh, a.ext, fun x hx => a.sub x (by simp at hx; simp [hx])⟩
theorem t_chain {p1 p2 : Int → Int → Bool} {f g h : FE} {σ : St} {H : Hp} {Q : VK} (q : tD C (eChain p1 p2 f g h) σ H Q) :
    tChain (rI0 fun i j => .bl (p1 i j)) (rI0 fun i j => .bl (p2 i j)) (tD C f) (tD C g) (tD C h) σ H Q := by
  obtain ⟨η, F, fp, o, q⟩ := q
  refine tD_step o.aft (Rs.post_mono (Rs.post_bind q) (fun p hp x F1 H1 f1 fp1 a => ?_) fun _ _ z => z)
  refine tD_step a (Rs.post_mono (Rs.post_bind hp) (fun p2 hp2 y F2 H2 f2 fp2 b => ?_) fun _ _ z => z)
  have b : Aft C.K fp F H σ [p.1, p2.1] [x, y] p2.2 F2 H2 f2 fp2 := b
  split at hp2
  · rename_i i j e1 e2
    obtain ⟨g1, g2, rfl, r1, r2⟩ := b.rt2
    rw [e1] at r1
    rw [e2] at r2
    obtain ⟨rfl, rfl⟩ := rt_int r1
    obtain ⟨rfl, rfl⟩ := rt_int r2
    refine ⟨i, j, rfl, rfl, _, rfl, ?_⟩
    split at hp2
    · rename_i hc
      rw [if_pos hc]
      refine tD_step b.drop (Rs.post_mono (Rs.post_bind hp2) (fun p3 hp3 z F3 H3 f3 fp3 c => ?_) fun _ _ z => z)
      have c : Aft C.K fp F H σ [p3.1] [z] p3.2 F3 H3 f3 fp3 := c
      split at hp3
      · rename_i k e3
        rw [e3] at c
        obtain ⟨rfl, rfl⟩ := rt_int c.rt1
        exact ⟨j, k, rfl, rfl, hp3 _ F3 H3 [] fp3 (c.drop.res (.here c.fh rp_c.2.1))⟩
      · exact hp3.elim
    · rename_i hc
      rw [if_neg hc]
      exact hp2 _ F2 H2 [] fp2 (b.drop.res (.here b.fh rp_c.2.1))
  · exact hp2.elim
section
variable {a b c : Expr} {pos : Pos} {o1 o2 : CmpOp} {p1 p2 : Int → Int → Bool} {f g h : FE}
theorem pd_chain (h1 : OpR X (compareOp o1) (rI0 fun i j => .bl (p1 i j))) (h2 : OpR X (compareOp o2) (rI0 fun i j => .bl (p2 i j))) (ha : PE X a (tD C f)) (hb : PE X b (tD C g)) (hc : PE X c (tD C h))
    (hm : lastMarks [o1, o2] [b, c] = false := by with_unfolding_all rfl) : PE X (.Compare a [o1, o2] [b, c] pos) (tD C (eChain p1 p2 f g h)) := (pe_chain h1 h2 ha hb hc hm).impD fun _ _ _ => t_chain
theorem ptd_chain (h1 : OpR X (compareOp o1) (rI0 fun i j => .bl (p1 i j))) (h2 : OpR X (compareOp o2) (rI0 fun i j => .bl (p2 i j))) (ha : PE X a (tD C f)) (hb : PE X b (tD C g)) (hc : PE X c (tD C h))
    (hm : lastMarks [o1, o2] [b, c] = false := by with_unfolding_all rfl) : PT X (.Compare a [o1, o2] [b, c] pos) (tB C (bT (eChain p1 p2 f g h))) := pt_bool (pt_chain h1 h2 ha hb hc hm) fun _ _ _ => t_chain
end
/-! ### argument lists, displays -/
def aNil : FA := fun η => .ok ([], η)
def aCons (f : FE) (g : FA) : FA := fun η => (f η).bind fun p => (g p.2).bind fun q => .ok (p.1 :: q.1, q.2)
theorem pad_nil : PA X [] (tA C aNil) := pa_nil.impD fun σ H Q ⟨η, F, fp, o, q⟩ => q [] F H [] fp o.aft
theorem pad_cons {e : Expr} {es : List Expr} {f : FE} {g : FA} (ha : PE X e (tD C f)) (hr : PA X es (tA C g)) (hs : starEach (e :: es) X.env = (false, eval e X.env) :: starEach es X.env := by rfl) : PA X (e :: es) (tA C (aCons f g)) := by
  refine (pa_cons ha hr hs).impD fun σ H Q ⟨η, F, fp, o, q⟩ => ?_
  refine tD_step o.aft (Rs.post_mono (Rs.post_bind q) (fun p hp x F1 H1 f1 fp1 a => ?_) fun _ _ z => z)
  refine tA_step a (Rs.post_mono (Rs.post_bind hp) (fun p2 hp2 ws F2 H2 f2 fp2 b => ?_) fun _ _ z => z)
  exact hp2 (x :: ws) F2 H2 f2 fp2 b
def fits (n : Nat) : Bool := decide (n ≤ 1000)
theorem fits_line {n : Nat} (h : fits n = true) : n ≤ sizeLine := by
  have : n ≤ 1000 := of_decide_eq_true h
  rw [sizeLine_eq]; omega
def eTup (g : FA) : FE := fun η => (g η).bind fun p => if fits p.1.length then .ok (.sh (.tuple (T.vals p.1)), p.2) else .bad
def eLst (g : FA) : FE := fun η => (g η).bind fun p => if fits p.1.length then .ok (.lst p.1, p.2) else .bad
theorem pd_tup {es : List Expr} {k : Nat} {pos : Pos} {g : FA} (h : PA X es (tA C g)) : PE X (.Tuple es k pos) (tD C (eTup g)) := by
  refine (pe_tup h).impD fun σ H Q ⟨η, F, fp, o, q⟩ => ?_
  refine tA_step o.aft (Rs.post_mono (Rs.post_bind q) (fun p hp ws F1 H1 f1 fp1 a => ?_) fun _ _ z => z)
  have a : Aft C.K fp F H σ p.1 ws p.2 F1 H1 f1 fp1 := a
  split at hp
  · rename_i hf
    have hl := a.rt.len
    refine ⟨by rw [hl]; exact fits_line hf, fun p hp' => ?_⟩
    obtain ⟨F2, a2, rp⟩ := a.freeze
    exact hp _ _ _ [] fp1 (a2.res (.tup a2.fh rp hp'))
  · exact hp.elim
theorem pd_lst {es : List Expr} {pos : Pos} {g : FA} (h : PA X es (tA C g)) : PE X (.List es pos) (tD C (eLst g)) := by
  refine (pe_lst h).impD fun σ H Q ⟨η, F, fp, o, q⟩ => ?_
  refine tA_step o.aft (Rs.post_mono (Rs.post_bind q) (fun p hp ws F1 H1 f1 fp1 a => ?_) fun _ _ z => z)
  have a : Aft C.K fp F H σ p.1 ws p.2 F1 H1 f1 fp1 := a
  split at hp
  · rename_i hf
    have hl := a.rt.len
    refine ⟨by rw [hl]; exact fits_line hf, fun q hq => ?_⟩
    have fq : F1 q = none := a.fh.free hq
    have there : ∀ x ∈ f1 ++ fp1, ∃ o, H1 x = some o := fun x hx => by
      rcases List.mem_append.mp hx with hx | hx
      · exact a.rt.there x hx
      · exact a.rs.there x hx
    have nq : q ∉ f1 ++ fp1 := fun hm => by
      obtain ⟨o, e⟩ := there q hm
      rw [hq] at e; cases e
    refine hp _ F1 (upd H1 q (.lst ws)) (q :: f1) fp1 ⟨.one ?_, a.rs.mono (.refl _) fun x _ o e => same_upd hq x o e, ?_, fun x hx => ?_, fun b o e => ?_, ⟨a.ext.ff, fun b o e hb => same_upd hq b o (a.ext.keep b o e hb), a.ext.new⟩, fun x hx => ?_⟩
    · simp only [RT]
      exact ⟨q, ws, f1, rfl, upd_same, rfl, a.rt.mono (.refl _) fun x _ o e => same_upd hq x o e⟩
    · show (q :: (f1 ++ fp1)).Nodup
      exact List.nodup_cons.mpr ⟨nq, a.nd⟩
    · rcases List.mem_cons.mp (show x ∈ q :: (f1 ++ fp1) from hx) with rfl | hx
      · exact fq
      · exact a.fn x hx
    · exact same_upd hq b o (a.fh b o e)
    · rcases List.mem_cons.mp (show x ∈ q :: (f1 ++ fp1) from hx) with rfl | hx
      · by_cases hm : x ∈ fp
        · exact .inl hm
        · refine .inr ?_
          cases e : H x with
          | none => rfl
          | some o =>
            rw [a.ext.keep x o e hm] at hq; cases hq
      · exact a.sub x hx
  · exact hp.elim
/-! ### calls of built-ins -/
def rDC (K : PySem.W.Frag) (op : List PyData → Option T) : List V → Hp → VK → Prop := fun xs H Q => ∃ F ds t, Same F H ∧ RqAll K F H ds xs ∧ op ds = some t ∧ Res K F H t Q
abbrev CallD (X : Cx) (f : Value) (op : List PyData → Option T) : Prop := CallR X f (rDC X.K op)
def eCall (op : List PyData → Option T) (g : FA) : FE := fun η => (g η).bind fun p => fin1 (op (T.vals p.1)) p.2
def eCallV (op : List PyData → Option T) (i : Nat) : FE := fun η => match pk η i with
  | some d => fin1 (op [d]) η
  | none => .bad
theorem t_call {op : List PyData → Option T} {g : FA} {σ : St} {H : Hp} {Q : VK} (h : tD C (eCall op g) σ H Q) : tCB (rDC C.K op) (tA C g) σ H Q := by
  obtain ⟨η, F, fp, o, q⟩ := h
  refine tA_step o.aft (Rs.post_mono (Rs.post_bind q) (fun p hp x F1 H1 f1 fp1 a => ?_) fun _ _ z => z)
  obtain ⟨F3, t, s, r, eq, k⟩ := fin_res a hp
  exact ⟨F3, _, t, s.fh, RpAll.rq r, eq, k⟩
theorem t_callV {op : List PyData → Option T} {i : Nat} {σ : St} {H : Hp} {Q : VK} (h : tD C (eCallV op i) σ H Q) : tCB (rDC C.K op) (tCons (tVar i) tNil) σ H Q := by
  obtain ⟨η, F, fp, o, q⟩ := h
  unfold eCallV at q
  obtain ⟨d, hd, q⟩ := pk_some q
  obtain ⟨F3, t, s, r, eq, k⟩ := fin_res o.aft q
  obtain ⟨x, hx, rx⟩ := pk_rq s hd
  refine ⟨x, hx, F3, [d], t, s.fh, ?_, eq, k⟩
  simp only [RqAll]
  exact ⟨x, [], rfl, rx, rfl⟩
theorem pd_call {e : Expr} {op : List PyData → Option T} {g : FA} (hK : C.K = X.K) (h : PE X e (tCB (rDC X.K op) (tA C g))) : PE X e (tD C (eCall op g)) := by
  rw [← hK] at h
  exact h.impD fun _ _ _ => t_call
theorem pd_callV {e : Expr} {op : List PyData → Option T} {i : Nat} (hK : C.K = X.K) (h : PE X e (tCB (rDC X.K op) (tCons (tVar i) tNil))) : PE X e (tD C (eCallV op i)) := by
  rw [← hK] at h
  exact h.impD fun _ _ _ => t_callV
end Pv
set_option Elab.async false
set_option linter.all false
set_option maxRecDepth 100000
set_option maxHeartbeats 4000000
/-! sorted(x), x a tuple -/
namespace PySem.W
open PySem PyProof.Rows PySem.Spec
section
variable {prog : Program} {w : World} {A : Around} {E : Value → Shared → Prop} {s : Shared} {β : Type} {vs : List Value} {bs : List β} {enc : β → PyData} {R : Value → β → Prop}
theorem sorted_tup_data {l : Addr} {o : Obj} {n : Nat} {Q : Value → Shared → Prop} (ho : s.heap.get? l = some o) (hc : o.cls = .type "tuple") (hd : o.data = .seq vs.toArray n) (e : EachIs R vs bs) (er : EachIs (fun v b => ∃ as, Reads s.heap v (enc b) as) vs bs) (hal : AllAlike (bs.map enc)) (hk : Sortable (bs.map enc)) (hL : bs.length ≤ sizeLine)
    (hu : ∀ b, b ∈ bs → A.units + 2 + (enc b).depth < cLine)
    (h : ∀ (out : List Value) (h1 : Heap) (c : Nat) (h' : Heap), out.length = bs.length → EachIs R out (bs.mergeSort (dataLe false enc)) → (∀ b o, s.heap.get? b = some o → h1.get? b = some o) → (∀ b o, h1.get? b = some o → h'.get? b = some o) → h'.get? h1.objs.size = some (seqObj "list" (List.toArray out) c) → Q (.ref h1.objs.size) { s with heap := h' }) :
    wpAny (model prog w) A (call (.builtin "sorted") [.ref l]) Q E s := by
  have hLv : vs.length ≤ sizeLine := by rw [e.length]; exact hL
  refine Calls.call_function_entry kind_sorted plain_sorted entry_sorted (args_sorted1 _) ?_
  unfold Builtin.«sorted»
  refine wpAny_bind (m := checkCount "sorted" 1 1 _) (wpAny_pure ?_)
  refine wpAny_bind (wpAny_collect_seq l (.inr rfl) ho hc hd (fun h1 hk1 => ?_) (by rw [List.size_toArray]; exact hLv))
  refine wpAny_bind (wpAny_newList ?_ hLv)
  have hoL : (h1.push (seqObj "list" vs.toArray 0)).get? h1.objs.size = some (seqObj "list" vs.toArray 0) := Heap.get?_push_size _ rfl
  have old : ∀ b o, s.heap.get? b = some o → b ≠ h1.objs.size ∧ (h1.push (seqObj "list" vs.toArray 0)).get? b = some o := fun b o hb => ⟨Nat.ne_of_lt (Heap.lt_size (hk1 b o hb)), Heap.get?_push_of_some _ (hk1 b o hb)⟩
  have er' : EachIs (fun v b => ∃ as, Reads (sortingHeap (h1.push (seqObj "list" vs.toArray 0)) h1.objs.size vs) v (enc b) as) vs bs := er.mono fun _ _ ⟨as, r⟩ => ⟨as, PyProof.Rows.Reads.keeps (fun b o q => sortingHeap_old (old b o q).1 (old b o q).2) r⟩
  refine wpAny_bind (wpAny_holding (wpAny_call_entry slot_list_sort ⟨_, hoL, rfl⟩ entry_list_sort ?body (args_list_sort _)))
  case body =>
    refine list_sort_vals (κ := dataKind (sortingHeap (h1.push (seqObj "list" vs.toArray 0)) h1.objs.size vs) (bs.map enc)) hoL (SortsAt.data (s := { s with heap := sortingHeap (h1.push (seqObj "list" vs.toArray 0)) h1.objs.size vs }) (each_map (R := fun v d => ∃ as, Reads (sortingHeap (h1.push (seqObj "list" vs.toArray 0)) h1.objs.size vs) v d as) enc er') hal hk (bound_map hu)) hLv ?_
    refine ⟨_, rfl, wpAny_pure ⟨_, rfl, ?_⟩⟩
    obtain ⟨c, hc⟩ := sortedHeap_at (vs := vs) (out := (sortVals (dataKind (sortingHeap (h1.push (seqObj "list" vs.toArray 0)) h1.objs.size vs) (bs.map enc)) false vs vs).toArray) hoL
    refine h _ h1 c _ (by rw [sortVals_length false rfl]; exact e.length) (sortVals_data false e er' hal) hk1 (fun b o q => ?_) hc
    have q2 : (h1.push (seqObj "list" vs.toArray 0)).get? b = some o := Heap.get?_push_of_some _ q
    exact (sortedHeap_old (Nat.ne_of_lt (Heap.lt_size q)) (Heap.lt_size q2)).trans q2
end
end PySem.W
set_option Elab.async false
set_option linter.all false
set_option maxRecDepth 100000
set_option maxHeartbeats 4000000
namespace Pv
open PySem L2
variable {X : Cx} {C : Cn}

theorem RqAll.one {K : PySem.W.Frag} {F H : Hp} {d : PyData} {vs : List V} (h : RqAll K F H [d] vs) : ∃ v, vs = [v] ∧ Rq K F H d v := by
  simp only [RqAll] at h
  obtain ⟨x, xs, rfl, q, rfl⟩ := h
  exact ⟨x, rfl, q⟩
theorem RqAll.two {K : PySem.W.Frag} {F H : Hp} {d e : PyData} {vs : List V} (h : RqAll K F H [d, e] vs) : ∃ v w, vs = [v, w] ∧ Rq K F H d v ∧ Rq K F H e w := by
  simp only [RqAll] at h
  obtain ⟨x, xs, rfl, q, y, ys, rfl, r, rfl⟩ := h
  exact ⟨x, y, rfl, q, r⟩
theorem rpAll_ints {K : PySem.W.Frag} {F : Hp} : ∀ {ns : List Int} {vs : List V}, RpAll K F (ns.map PyData.int) vs → vs = ns.map V.int
  | [], vs, h => by simpa only [RpAll, List.map_nil] using h
  | n :: ns, vs, h => by
    obtain ⟨x, xs, rfl, q, r⟩ := h.uncons
    rw [rp_int q, rpAll_ints r]; rfl
theorem rpAll_bools {K : PySem.W.Frag} {F : Hp} : ∀ {ns : List Bool} {vs : List V}, RpAll K F (ns.map PyData.bool) vs → vs = ns.map V.bl
  | [], vs, h => by simpa only [RpAll, List.map_nil] using h
  | n :: ns, vs, h => by
    obtain ⟨x, xs, rfl, q, r⟩ := h.uncons
    rw [rp_bool q, rpAll_bools r]; rfl
/-- a list of intsOf, of boolsOf -/
def intsOf : List PyData → Option (List Int)
  | [] => some []
  | .int i :: ds => match intsOf ds with
    | some ns => some (i :: ns)
    | none => none
  | _ => none
def boolsOf : List PyData → Option (List Bool)
  | [] => some []
  | .bool i :: ds => match boolsOf ds with
    | some ns => some (i :: ns)
    | none => none
  | _ => none
@[simp] theorem ints_map (ns : List Int) : intsOf (ns.map PyData.int) = some ns := by
  induction ns with
  | nil => rfl
  | cons n ns ih => simp [intsOf, ih]
@[simp] theorem bools_map (ns : List Bool) : boolsOf (ns.map PyData.bool) = some ns := by
  induction ns with
  | nil => rfl
  | cons n ns ih => simp [boolsOf, ih]
theorem intsOf_eq : ∀ {ds : List PyData} {ns : List Int}, intsOf ds = some ns → ds = ns.map PyData.int
  | [], ns, h => by simp only [intsOf, Option.some.injEq] at h; subst h; rfl
  | .int i :: ds, ns, h => by
    simp only [intsOf] at h
    split at h
    · rename_i ms e
      cases h
      rw [intsOf_eq e]; rfl
    · cases h
  | .none :: _, _, h => by simp [intsOf] at h
  | .bool _ :: _, _, h => by simp [intsOf] at h
  | .str _ :: _, _, h => by simp [intsOf] at h
  | .list _ :: _, _, h => by simp [intsOf] at h
  | .tuple _ :: _, _, h => by simp [intsOf] at h
  | .dict _ :: _, _, h => by simp [intsOf] at h
theorem boolsOf_eq : ∀ {ds : List PyData} {ns : List Bool}, boolsOf ds = some ns → ds = ns.map PyData.bool
  | [], ns, h => by simp only [boolsOf, Option.some.injEq] at h; subst h; rfl
  | .bool i :: ds, ns, h => by
    simp only [boolsOf] at h
    split at h
    · rename_i ms e
      cases h
      rw [boolsOf_eq e]; rfl
    · cases h
  | .none :: _, _, h => by simp [boolsOf] at h
  | .int _ :: _, _, h => by simp [boolsOf] at h
  | .str _ :: _, _, h => by simp [boolsOf] at h
  | .list _ :: _, _, h => by simp [boolsOf] at h
  | .tuple _ :: _, _, h => by simp [boolsOf] at h
  | .dict _ :: _, _, h => by simp [boolsOf] at h

/-! ### len, abs, int, min, max, sum, any, all, list, tuple, sorted -/
def bLen : List PyData → Option T
  | [.list ds] => some (.sh (.int ds.length))
  | [.tuple ds] => some (.sh (.int ds.length))
  | _ => none
theorem bLen_ok : CallD X (.builtin "len") bLen := by
  intro pins s σ H xs us Q I r ⟨F, ds, t, fh, rq, eq, k⟩
  unfold bLen at eq
  split at eq
  · rename_i ds
    cases eq
    obtain ⟨v, rfl, r1⟩ := rq.one
    obtain ⟨a, xs, rfl, q, rp⟩ := rq_list fh r1
    exact call_len_seq pins s σ H _ us Q I r ⟨a, xs, rfl, .inl q, by rw [rp.len]; exact k.int fh⟩
  · rename_i ds
    cases eq
    obtain ⟨v, rfl, r1⟩ := rq.one
    obtain ⟨a, xs, rfl, q, rp⟩ := rq_tup r1
    exact call_len_seq pins s σ H _ us Q I r ⟨a, xs, rfl, .inr (sqT_mono fh q), by rw [rp.len]; exact k.int fh⟩
  · cases eq
def bAbs : List PyData → Option T
  | [.int i] => some (.sh (.int (if i < 0 then -i else i)))
  | _ => none
theorem bAbs_ok : CallD X (.builtin "abs") bAbs := by
  intro pins s σ H xs us Q I r ⟨F, ds, t, fh, rq, eq, k⟩
  unfold bAbs at eq
  split at eq
  · cases eq
    obtain ⟨v, rfl, r1⟩ := rq.one
    cases rq_int r1
    exact call_abs pins s σ H _ us Q I r ⟨_, rfl, k.int fh⟩
  · cases eq
def bInt : List PyData → Option T
  | [.int i] => some (.sh (.int i))
  | [.bool b] => some (.sh (.int (if b then 1 else 0)))
  | _ => none
theorem bInt_ok : CallD X (.type "int") bInt := by
  intro pins s σ H xs us Q I r ⟨F, ds, t, fh, rq, eq, k⟩
  unfold bInt at eq
  split at eq
  · cases eq
    obtain ⟨v, rfl, r1⟩ := rq.one
    cases rq_int r1
    exact call_int1 pins s σ H _ us Q I r (.inl ⟨_, rfl, k.int fh⟩)
  · cases eq
    obtain ⟨v, rfl, r1⟩ := rq.one
    cases rq_bool r1
    exact call_int1 pins s σ H _ us Q I r (.inr ⟨_, rfl, k.int fh⟩)
  · cases eq
/-- min, max of data -/
def alikeAll2 (ds : List PyData) : Bool := ds.all fun d => ds.all fun e => W.alike d e
def cmpAll (ds : List PyData) : Bool := alikeAll2 ds && ds.all (fun d => !isNone d) && SeqAt.shaped (.list ds) && decide (PyData.depthAll ds ≤ 60)
def minI : Int → List Int → Int := List.foldl fun a y => if y < a then y else a
def maxI : Int → List Int → Int := List.foldl fun a y => if a < y then y else a
def bMin : List PyData → Option T
  | [.int i, .int j] => some (.sh (.int (if j < i then j else i)))
  | [.list ds] => match intsOf ds with
    | some (n :: ns) => some (.sh (.int (minI n ns)))
    | some [] => none
    | none => match ds with
      | d :: ds => if cmpAll (d :: ds) then some (.sh (W.minD d ds)) else none
      | [] => none
  | [.tuple (d :: ds)] => if cmpAll (d :: ds) then some (.sh (W.minD d ds)) else none
  | _ => none
def bMax : List PyData → Option T
  | [.int i, .int j] => some (.sh (.int (if j > i then j else i)))
  | [.list ds] => match intsOf ds with
    | some (n :: ns) => some (.sh (.int (maxI n ns)))
    | some [] => none
    | none => match ds with
      | d :: ds => if cmpAll (d :: ds) then some (.sh (W.maxD d ds)) else none
      | [] => none
  | [.tuple (d :: ds)] => if cmpAll (d :: ds) then some (.sh (W.maxD d ds)) else none
  | _ => none
theorem minI_spec : ∀ (ns : List Int) (n : Int), minI n ns ∈ n :: ns ∧ ∀ y ∈ n :: ns, minI n ns ≤ y
  | [], n => by simp [minI]
  | m :: ns, n => by
    have ih := minI_spec ns (if m < n then m else n)
    have e : minI n (m :: ns) = minI (if m < n then m else n) ns := rfl
    rw [e]
    refine ⟨?_, fun y hy => ?_⟩
    · rcases List.mem_cons.mp ih.1 with h | h
      · rw [h]; split <;> simp
      · simp [h]
    · have h0 := ih.2 (if m < n then m else n) (by simp)
      have h1 := ih.2
      generalize minI (if m < n then m else n) ns = z at h0 h1 ⊢
      rcases List.mem_cons.mp hy with rfl | hy
      · split at h0 <;> omega
      · rcases List.mem_cons.mp hy with rfl | hy
        · split at h0 <;> omega
        · exact h1 y (by simp [hy])
theorem maxI_spec : ∀ (ns : List Int) (n : Int), maxI n ns ∈ n :: ns ∧ ∀ y ∈ n :: ns, y ≤ maxI n ns
  | [], n => by simp [maxI]
  | m :: ns, n => by
    have ih := maxI_spec ns (if n < m then m else n)
    have e : maxI n (m :: ns) = maxI (if n < m then m else n) ns := rfl
    rw [e]
    refine ⟨?_, fun y hy => ?_⟩
    · rcases List.mem_cons.mp ih.1 with h | h
      · rw [h]; split <;> simp
      · simp [h]
    · have h0 := ih.2 (if n < m then m else n) (by simp)
      have h1 := ih.2
      generalize maxI (if n < m then m else n) ns = z at h0 h1 ⊢
      rcases List.mem_cons.mp hy with rfl | hy
      · split at h0 <;> omega
      · rcases List.mem_cons.mp hy with rfl | hy
        · split at h0 <;> omega
        · exact h1 y (by simp [hy])
theorem all2_alike {ds : List PyData} (h : cmpAll ds = true) : W.AlikeAll ds ∧ SeqAt.shaped (.list ds) = true ∧ PyData.depthAll ds ≤ 60 := by
  unfold cmpAll alikeAll2 at h
  simp only [Bool.and_eq_true, List.all_eq_true, decide_eq_true_eq, Bool.not_eq_true'] at h
  exact ⟨⟨h.1.1.1, fun x hx => isNone_ne (h.1.1.2 x hx)⟩, h.1.2, h.2⟩
/-- a value of a list found by its place and its reading -/
theorem found_rp {pins : List (Addr × Obj)} {σ : St} {F H : Hp} {s : Shared} {ds : List PyData} {xs : List V} {its : List Value} {i : Nat} {u : Value} {h' : Heap} {m : PyData} {bs : List Addr} (I : Inv X pins σ H s) (fh : Same F H) (rp : RpAll X.K F ds xs) (rv : Vals xs its)
    (hi : its[i]? = some u) (kp : ∀ b o, s.heap.get? b = some o → h'.get? b = some o) (r : Reads h' u m bs) (hs : SeqAt.shaped (.list ds) = true) : ∃ v, RelV v u ∧ Rp X.K F m v := by
  have hil : i < its.length := (List.getElem?_eq_some_iff.mp hi).1
  have l1 := rv.length
  obtain ⟨x, hx⟩ : ∃ x, xs[i]? = some x := ⟨xs[i]'(by omega), by simp [l1, hil]⟩
  obtain ⟨u', hu', rx⟩ := rv.get hx
  rw [hi] at hu'; cases hu'
  obtain ⟨d, hd, rd⟩ := rp.get' hx
  have hcl : PyData.canLayAll0 ds = true := SeqAt.canLay_of_shaped hs
  have hc : d.canLay0 = true := by
    have all : ∀ (l : List PyData), PyData.canLayAll0 l = true → ∀ d ∈ l, d.canLay0 = true := by
      intro l
      induction l with
      | nil => intro _ d hd; cases hd
      | cons y l ih =>
        intro h d hd
        simp only [PyData.canLayAll0, Bool.and_eq_true] at h
        rcases List.mem_cons.mp hd with rfl | hd
        · exact h.1
        · exact ih h.2 d hd
    exact all ds hcl d (List.mem_of_getElem? hd)
  obtain ⟨as, ra⟩ := Dp.reads I d x u ((rd.mono fh).dp hc) rx
  refine ⟨x, rx, ?_⟩
  rw [← SeqAt.Reads.unique d m u _ _ hc (PyProof.Rows.Reads.keeps kp ra) r]
  exact rd
theorem bMin_ok (g : Good X) : CallD X (.builtin "min") bMin := by
  intro pins s σ H xs us Q I r ⟨F, ds, t, fh, rq, eq, k⟩
  have hroom := g.room
  unfold bMin at eq
  split at eq
  · cases eq
    obtain ⟨v, w, rfl, r1, r2⟩ := rq.two
    cases rq_int r1
    cases rq_int r2
    exact call_min2 g.calm pins s σ H _ us Q I r ⟨_, _, rfl, k.int fh⟩
  · rename_i ds
    obtain ⟨v, rfl, r1⟩ := rq.one
    obtain ⟨a, xs, rfl, q, rp⟩ := rq_list fh r1
    split at eq
    · rename_i n ns e
      cases eq
      have e2 := intsOf_eq e
      subst e2
      have e3 := rpAll_ints rp
      subst e3
      refine cr_min g.calm pins s σ H _ us Q I r ⟨a, n :: ns, rfl, q, by simp, fun m hm hle => ?_⟩
      have sp := minI_spec ns n
      have h1 := hle _ sp.1
      have h2 := sp.2 _ hm
      have : m = minI n ns := by omega
      rw [this]
      exact k.int fh
    · cases eq
    · split at eq
      · rename_i d ds _
        split at eq
        · rename_i hc
          cases eq
          obtain ⟨ha, hs, hd⟩ := all2_alike hc
          obtain ⟨its, rv, ⟨o, n, e, hoc, _, hod⟩, _⟩ := I.list q
          obtain ⟨as, ra⟩ := Dp.readsAll I (d :: ds) xs its ((rp.mono fh).dp (SeqAt.canLay_of_shaped hs)) rv
          obtain ⟨u, rfl, ru⟩ := vals1 r
          cases ru
          refine PySem.W.min_list_data (vs := its.toArray) (I.ok.hd g.calm) ⟨o, e, hoc, n, hod⟩ ra ha (by omega) fun i v h' tk bs hi hr kp => ?_
          obtain ⟨x, rx, rd⟩ := found_rp I fh rp rv (by simpa using hi) kp hr hs
          exact ⟨x, H, I.kept kp, rx, k.sh fh rd⟩
        · cases eq
      · cases eq
  · rename_i d ds
    split at eq
    · rename_i hc
      cases eq
      obtain ⟨ha, hs, hd⟩ := all2_alike hc
      obtain ⟨v, rfl, r1⟩ := rq.one
      obtain ⟨a, xs, rfl, q, rp⟩ := rq_tup r1
      obtain ⟨its, rv, ⟨o, e, hoc, n, hod⟩, _⟩ := I.tuple (sqT_mono fh q)
      obtain ⟨as, ra⟩ := Dp.readsAll I (d :: ds) xs its ((rp.mono fh).dp (SeqAt.canLay_of_shaped hs)) rv
      obtain ⟨u, rfl, ru⟩ := vals1 r
      cases ru
      refine PySem.W.min_tuple_data (vs := its.toArray) (I.ok.hd g.calm) ⟨o, e, hoc, n, hod⟩ ra ha (by omega) fun i v h' tk bs hi hr kp => ?_
      obtain ⟨x, rx, rd⟩ := found_rp I fh rp rv (by simpa using hi) kp hr hs
      exact ⟨x, H, I.kept kp, rx, k.sh fh rd⟩
    · cases eq
  · cases eq
theorem bMax_ok (g : Good X) : CallD X (.builtin "max") bMax := by
  intro pins s σ H xs us Q I r ⟨F, ds, t, fh, rq, eq, k⟩
  have hroom := g.room
  unfold bMax at eq
  split at eq
  · cases eq
    obtain ⟨v, w, rfl, r1, r2⟩ := rq.two
    cases rq_int r1
    cases rq_int r2
    exact call_max2 g.calm pins s σ H _ us Q I r ⟨_, _, rfl, k.int fh⟩
  · rename_i ds
    obtain ⟨v, rfl, r1⟩ := rq.one
    obtain ⟨a, xs, rfl, q, rp⟩ := rq_list fh r1
    split at eq
    · rename_i n ns e
      cases eq
      have e2 := intsOf_eq e
      subst e2
      have e3 := rpAll_ints rp
      subst e3
      refine cr_max g.calm pins s σ H _ us Q I r ⟨a, n :: ns, rfl, q, by simp, fun m hm hle => ?_⟩
      have sp := maxI_spec ns n
      have h1 := hle _ sp.1
      have h2 := sp.2 _ hm
      have : m = maxI n ns := by omega
      rw [this]
      exact k.int fh
    · cases eq
    · split at eq
      · rename_i d ds _
        split at eq
        · rename_i hc
          cases eq
          obtain ⟨ha, hs, hd⟩ := all2_alike hc
          obtain ⟨its, rv, ⟨o, n, e, hoc, _, hod⟩, _⟩ := I.list q
          obtain ⟨as, ra⟩ := Dp.readsAll I (d :: ds) xs its ((rp.mono fh).dp (SeqAt.canLay_of_shaped hs)) rv
          obtain ⟨u, rfl, ru⟩ := vals1 r
          cases ru
          refine PySem.W.max_list_data (vs := its.toArray) (I.ok.hd g.calm) ⟨o, e, hoc, n, hod⟩ ra ha (by omega) fun i v h' tk bs hi hr kp => ?_
          obtain ⟨x, rx, rd⟩ := found_rp I fh rp rv (by simpa using hi) kp hr hs
          exact ⟨x, H, I.kept kp, rx, k.sh fh rd⟩
        · cases eq
      · cases eq
  · rename_i d ds
    split at eq
    · rename_i hc
      cases eq
      obtain ⟨ha, hs, hd⟩ := all2_alike hc
      obtain ⟨v, rfl, r1⟩ := rq.one
      obtain ⟨a, xs, rfl, q, rp⟩ := rq_tup r1
      obtain ⟨its, rv, ⟨o, e, hoc, n, hod⟩, _⟩ := I.tuple (sqT_mono fh q)
      obtain ⟨as, ra⟩ := Dp.readsAll I (d :: ds) xs its ((rp.mono fh).dp (SeqAt.canLay_of_shaped hs)) rv
      obtain ⟨u, rfl, ru⟩ := vals1 r
      cases ru
      refine PySem.W.max_tuple_data (vs := its.toArray) (I.ok.hd g.calm) ⟨o, e, hoc, n, hod⟩ ra ha (by omega) fun i v h' tk bs hi hr kp => ?_
      obtain ⟨x, rx, rd⟩ := found_rp I fh rp rv (by simpa using hi) kp hr hs
      exact ⟨x, H, I.kept kp, rx, k.sh fh rd⟩
    · cases eq
  · cases eq
def bSum : List PyData → Option T
  | [.list ds] => match intsOf ds with
    | some ns => some (.sh (.int ns.sum))
    | none => none
  | _ => none
theorem bSum_ok (g : Good X) : CallD X (.builtin "sum") bSum := by
  intro pins s σ H xs us Q I r ⟨F, ds, t, fh, rq, eq, k⟩
  unfold bSum at eq
  split at eq
  · rename_i ds
    obtain ⟨v, rfl, r1⟩ := rq.one
    obtain ⟨a, xs, rfl, q, rp⟩ := rq_list fh r1
    split at eq
    · rename_i ns e
      cases eq
      have e2 := intsOf_eq e
      subst e2
      have e3 := rpAll_ints rp
      subst e3
      exact cr_sum g.calm pins s σ H _ us Q I r ⟨a, ns, rfl, q, k.int fh⟩
    · cases eq
  · cases eq
def bAny : List PyData → Option T
  | [.list ds] => match boolsOf ds with
    | some ns => some (.sh (.bool (ns.any id)))
    | none => none
  | _ => none
def bAll : List PyData → Option T
  | [.list ds] => match boolsOf ds with
    | some ns => some (.sh (.bool (ns.all id)))
    | none => none
  | _ => none
theorem bAny_ok (g : Good X) : CallD X (.builtin "any") bAny := by
  intro pins s σ H xs us Q I r ⟨F, ds, t, fh, rq, eq, k⟩
  unfold bAny at eq
  split at eq
  · rename_i ds
    obtain ⟨v, rfl, r1⟩ := rq.one
    obtain ⟨a, xs, rfl, q, rp⟩ := rq_list fh r1
    split at eq
    · rename_i ns e
      cases eq
      have e2 := boolsOf_eq e
      subst e2
      have e3 := rpAll_bools rp
      subst e3
      exact cr_any g.calm pins s σ H _ us Q I r ⟨a, ns, rfl, q, k.bool fh⟩
    · cases eq
  · cases eq
theorem bAll_ok (g : Good X) : CallD X (.builtin "all") bAll := by
  intro pins s σ H xs us Q I r ⟨F, ds, t, fh, rq, eq, k⟩
  unfold bAll at eq
  split at eq
  · rename_i ds
    obtain ⟨v, rfl, r1⟩ := rq.one
    obtain ⟨a, xs, rfl, q, rp⟩ := rq_list fh r1
    split at eq
    · rename_i ns e
      cases eq
      have e2 := boolsOf_eq e
      subst e2
      have e3 := rpAll_bools rp
      subst e3
      exact cr_all g.calm pins s σ H _ us Q I r ⟨a, ns, rfl, q, k.bool fh⟩
    · cases eq
  · cases eq
def bList : List PyData → Option T
  | [.list ds] => some (.lst (ds.map T.sh))
  | [.tuple ds] => some (.lst (ds.map T.sh))
  | _ => none
theorem bList_ok : CallD X (.type "list") bList := by
  intro pins s σ H xs us Q I r ⟨F, ds, t, fh, rq, eq, k⟩
  unfold bList at eq
  split at eq
  · rename_i ds
    cases eq
    obtain ⟨v, rfl, r1⟩ := rq.one
    obtain ⟨a, xs, rfl, q, rp⟩ := rq_list fh r1
    exact call_list_of pins s σ H _ us Q I r ⟨a, xs, rfl, .inl q, k.lstQ fh rp⟩
  · rename_i ds
    cases eq
    obtain ⟨v, rfl, r1⟩ := rq.one
    obtain ⟨a, xs, rfl, q, rp⟩ := rq_tup r1
    exact call_list_of pins s σ H _ us Q I r ⟨a, xs, rfl, .inr (sqT_mono fh q), k.lstQ fh rp⟩
  · cases eq
def bTuple : List PyData → Option T
  | [.list ds] => some (.sh (.tuple ds))
  | [.tuple ds] => some (.sh (.tuple ds))
  | _ => none
theorem bTuple_ok : CallD X (.type "tuple") bTuple := by
  intro pins s σ H xs us Q I r ⟨F, ds, t, fh, rq, eq, k⟩
  unfold bTuple at eq
  split at eq
  · rename_i ds
    cases eq
    obtain ⟨v, rfl, r1⟩ := rq.one
    obtain ⟨a, xs, rfl, q, rp⟩ := rq_list fh r1
    exact call_tuple_of pins s σ H _ us Q I r ⟨a, xs, rfl, .inl ⟨q, k.tupQ fh rp⟩⟩
  · rename_i ds
    cases eq
    obtain ⟨v, rfl, r1⟩ := rq.one
    obtain ⟨a, xs, rfl, q, rp⟩ := rq_tup r1
    exact call_tuple_of pins s σ H _ us Q I r ⟨a, xs, rfl, .inr ⟨sqT_mono fh q, k.sh fh (by simp only [Rp]; exact ⟨a, xs, rfl, q, rp⟩)⟩⟩
  · cases eq
/-- sorted -/
def isTup1 : PyData → Bool
  | .tuple (_ :: _) => true
  | _ => false
def isTupA : PyData → Bool
  | .tuple _ => true
  | _ => false
def sortable (ds : List PyData) : Bool := alikeAll2 ds && (ds.all isTup1 || ds.all fun d => !isNone d && !isTupA d) && decide (PyData.depthAll ds ≤ 60) && PyData.canLayAll0 ds
/-! ### sorting, by insertion (the same list as the stable merge) -/
mutual
theorem eqv_eq : ∀ {x y : PyData}, W.alike x y = true → PyData.eqv x y = true → x = y
  | .none, y, h, e => by cases y <;> simp_all [W.alike, PyData.eqv]
  | .bool a, y, h, e => by cases y <;> simp_all [W.alike, PyData.eqv]
  | .int a, y, h, e => by cases y <;> simp_all [W.alike, PyData.eqv]
  | .str a, y, h, e => by cases y <;> simp_all [W.alike, PyData.eqv]
  | .list a, y, h, e => by
    cases y <;> simp [W.alike, PyData.eqv] at h e
    rw [eqvAll_eq h e]
  | .tuple a, y, h, e => by
    cases y <;> simp [W.alike, PyData.eqv] at h e
    rw [eqvAll_eq h e]
  | .dict a, y, h, e => by cases y <;> simp [W.alike] at h
theorem eqvAll_eq : ∀ {x y : List PyData}, W.alikeAll x y = true → PyData.eqvAll x y = true → x = y
  | [], y, h, e => by cases y <;> simp_all [PyData.eqvAll]
  | a :: as, y, h, e => by
    cases y with
    | nil => simp [PyData.eqvAll] at e
    | cons b bs =>
      simp [W.alikeAll, PyData.eqvAll] at h e
      rw [eqv_eq h.1 e.1, eqvAll_eq h.2 e.2]
end
theorem toks_inj {x y : PyData} (h : W.alike x y = true) (e : W.keyToks x = W.keyToks y) : x = y := by
  cases e1 : PyData.eqv x y with
  | true => exact eqv_eq h e1
  | false =>
    have := (W.toks_eqv x y h).2 e1 [] [.inl 0]
    rw [e, List.append_nil] at this
    have h2 := W.lex_pre (W.keyToks y) [] [.inl 0]
    rw [List.append_nil] at h2
    rw [h2] at this
    have h3 : PyProof.Rows.lexLt PyProof.Rows.itemOrd (W.keyToks y) (W.keyToks y) = false := PyProof.Rows.lex_irrefl _
    rw [h3] at this
    cases this
abbrev leD : PyData → PyData → Bool := W.dataLe false id
theorem leD_total (a b : PyData) : (leD a b || leD b a) = true := Bool.or_eq_true_iff.mpr ((W.sortLe_total (PyProof.Rows.listOrd PyProof.Rows.itemOrd) false fun b => W.keyToks (id b)).total a b)
theorem leD_trans (a b c : PyData) : leD a b = true → leD b c = true → leD a c = true := (W.sortLe_total (PyProof.Rows.listOrd PyProof.Rows.itemOrd) false fun b => W.keyToks (id b)).trans a b c
theorem leD_anti {a b : PyData} (h : W.alike a b = true) (h1 : leD a b = true) (h2 : leD b a = true) : a = b := by
  have h1' : (!PyProof.Rows.lexLt PyProof.Rows.itemOrd (W.keyToks b) (W.keyToks a)) = true := h1
  have h2' : (!PyProof.Rows.lexLt PyProof.Rows.itemOrd (W.keyToks a) (W.keyToks b)) = true := h2
  rw [Bool.not_eq_true'] at h1' h2'
  exact toks_inj h (PyProof.Rows.lex_total _ _ h2' h1')
def insD (x : PyData) : List PyData → List PyData
  | [] => [x]
  | y :: r => if W.dataLt y x then y :: insD x r else x :: y :: r
def sortD : List PyData → List PyData
  | [] => []
  | x :: r => insD x (sortD r)
theorem insD_perm (x : PyData) : ∀ l : List PyData, (insD x l).Perm (x :: l)
  | [] => .refl _
  | y :: r => by
    unfold insD
    split
    · exact ((insD_perm x r).cons y).trans (.swap x y r)
    · exact .refl _
theorem sortD_perm : ∀ l : List PyData, (sortD l).Perm l
  | [] => .refl _
  | x :: r => (insD_perm x _).trans ((sortD_perm r).cons x)
theorem leD_def (a b : PyData) : leD a b = !W.dataLt b a := rfl
theorem insD_sorted (x : PyData) : ∀ {l : List PyData}, l.Pairwise (fun a b => leD a b = true) → (insD x l).Pairwise (fun a b => leD a b = true)
  | [], _ => by simp [insD]
  | y :: r, h => by
    rw [List.pairwise_cons] at h
    unfold insD
    split
    · rename_i e
      rw [List.pairwise_cons]
      refine ⟨fun z hz => ?_, insD_sorted x h.2⟩
      rcases List.mem_cons.mp ((insD_perm x r).mem_iff.mp hz) with rfl | hz
      · have := leD_total y z
        have e2 : leD z y = false := by rw [leD_def, e]; rfl
        rw [e2, Bool.or_false] at this
        exact this
      · exact h.1 z hz
    · rename_i e
      have e2 : leD x y = true := by rw [leD_def, Bool.eq_false_iff.mpr e]; rfl
      rw [List.pairwise_cons, List.pairwise_cons]
      refine ⟨fun z hz => ?_, h.1, h.2⟩
      rcases List.mem_cons.mp hz with rfl | hz
      · exact e2
      · exact leD_trans _ _ _ e2 (h.1 z hz)
theorem sortD_sorted : ∀ l : List PyData, (sortD l).Pairwise (fun a b => leD a b = true)
  | [] => by simp [sortD]
  | x :: r => insD_sorted x (sortD_sorted r)
theorem sort_unique {l s : List PyData} (ha : ∀ a ∈ l, ∀ b ∈ l, W.alike a b = true) (hp : s.Perm l) (hs : s.Pairwise (fun a b => leD a b = true)) {s' : List PyData} (hp' : s'.Perm l) (hs' : s'.Pairwise (fun a b => leD a b = true)) : s = s' :=
  List.Perm.eq_of_pairwise (le := fun a b => leD a b = true) (fun a b h1 h2 => leD_anti (ha a (hp.mem_iff.mp h1) b (hp'.mem_iff.mp h2))) hs hs' (hp.trans hp'.symm)
theorem merge_sortD {l : List PyData} (ha : ∀ a ∈ l, ∀ b ∈ l, W.alike a b = true) : l.mergeSort (W.dataLe false id) = sortD l :=
  sort_unique ha (List.mergeSort_perm _ _) (List.pairwise_mergeSort leD_trans leD_total l) (sortD_perm l) (sortD_sorted l)
theorem alike2_mem {l : List PyData} (h : alikeAll2 l = true) : ∀ a ∈ l, ∀ b ∈ l, W.alike a b = true := fun a ha b hb => List.all_eq_true.mp (List.all_eq_true.mp h a ha) b hb
def bSorted : List PyData → Option T
  | [.list ds] => if sortable ds then some (.lst ((sortD ds).map T.sh)) else none
  | [.tuple ds] => if sortable ds then some (.lst ((sortD ds).map T.sh)) else none
  | _ => none
theorem sortable_ok {ds : List PyData} (h : sortable ds = true) : W.AllAlike (ds.map id) ∧ W.Sortable (ds.map id) ∧ PyData.depthAll ds ≤ 60 := by
  unfold sortable alikeAll2 at h
  simp only [Bool.and_eq_true, Bool.or_eq_true, List.all_eq_true, decide_eq_true_eq, Bool.not_eq_true'] at h
  rw [List.map_id]
  refine ⟨fun d hd e he => h.1.1.1 d hd e he, ?_, h.1.2⟩
  rcases h.1.1.2 with h1 | h1
  · refine .inl fun d hd => ?_
    have := h1 d hd
    unfold isTup1 at this
    split at this
    · exact ⟨_, _, rfl⟩
    · cases this
  · refine .inr fun d hd => ⟨isNone_ne (h1 d hd).1, fun xs e => ?_⟩
    have := (h1 d hd).2
    rw [e] at this
    cases this
theorem sortable_lay {ds : List PyData} (h : sortable ds = true) : PyData.canLayAll0 ds = true := (Bool.and_eq_true_iff.mp h).2
theorem sortable_alike {ds : List PyData} (h : sortable ds = true) : alikeAll2 ds = true := by
  unfold sortable at h
  simp only [Bool.and_eq_true] at h
  exact h.1.1.1
theorem depth_mem : ∀ {ds : List PyData} {d : PyData}, d ∈ ds → d.depth ≤ PyData.depthAll ds
  | x :: xs, d, h => by
    simp only [PyData.depthAll]
    rcases List.mem_cons.mp h with rfl | h
    · exact Nat.le_max_left _ _
    · exact Nat.le_trans (depth_mem h) (Nat.le_max_right _ _)
theorem eachIs_of {F : Hp} {K : PySem.W.Frag} : ∀ {ds : List PyData} {xs : List V} {its : List Value}, RpAll K F ds xs → Vals xs its → W.EachIs (fun u d => ∃ x, RelV x u ∧ Rp K F d x) its ds
  | [], _, _, h, r => by
    simp only [RpAll] at h
    subst h
    cases r
    exact .nil
  | d :: ds, _, _, h, r => by
    obtain ⟨x, xs, rfl, q, t⟩ := h.uncons
    cases r with
    | cons r1 r2 => exact .cons ⟨x, r1, q⟩ (eachIs_of t r2)
theorem eachIs_to {F : Hp} {K : PySem.W.Frag} : ∀ {ds : List PyData} {its : List Value}, W.EachIs (fun u d => ∃ x, RelV x u ∧ Rp K F d x) its ds → ∃ xs, RpAll K F ds xs ∧ Vals xs its
  | _, _, .nil => ⟨[], .nil, .nil⟩
  | _, _, .cons ⟨x, r1, q⟩ t => by
    obtain ⟨xs, h1, h2⟩ := eachIs_to t
    exact ⟨x :: xs, .consI q h1, .cons r1 h2⟩
theorem bSorted_ok (g : Good X) : CallD X (.builtin "sorted") bSorted := by
  intro pins s σ H xs us Q I r ⟨F, ds, t, fh, rq, eq, k⟩
  have hroom := g.room
  unfold bSorted at eq
  split at eq
  · rename_i ds
    obtain ⟨v, rfl, r1⟩ := rq.one
    obtain ⟨a, xs, rfl, q, rp⟩ := rq_list fh r1
    split at eq
    · rename_i hs
      cases eq
      have hsrt := merge_sortD (alike2_mem (sortable_alike hs))
      obtain ⟨h1, h2, h3⟩ := sortable_ok hs
      obtain ⟨its, rv, ⟨o, n, e, hoc, _, hod⟩, hz⟩ := I.list q
      obtain ⟨as, ra⟩ := Dp.readsAll I ds xs its ((rp.mono fh).dp (sortable_lay hs)) rv
      obtain ⟨u, rfl, ru⟩ := vals1 r
      cases ru
      have hl := rp.len
      refine PySem.W.sorted_data (vs := its) (bs := ds) (enc := id) (R := fun u d => ∃ x, RelV x u ∧ Rp X.K F d x) ⟨o, e, hoc, n, hod⟩ (eachIs_of rp rv) (W.readsAll_each id (by rw [List.map_id]; exact ra)) h1 h2 (by omega) (fun b hb => ?_) fun out ho eo => ?_
      · have := depth_mem hb
        show X.A.units + 2 + b.depth < cLine
        omega
      · obtain ⟨ys, p1, p2⟩ := eachIs_to eo
        rw [hsrt] at p1
        obtain ⟨c, hc⟩ := PyProof.Rows.sortedAll_at s.heap its (List.toArray out)
        have hfree : H (s.heap.objs.size + 1) = none := I.hok.fresh (Nat.le_succ _)
        refine ⟨.ref (s.heap.objs.size + 1), upd H (s.heap.objs.size + 1) (.lst ys), I.laid (t' := s.toks) (fun b o => PyProof.Rows.sortedAll_old) (Nat.le_succ _) ⟨?_, out, c, p2, hc⟩, rfl, k.lstQ fh p1 _ hfree⟩
        have := p2.length
        omega
    · cases eq
  · rename_i ds
    obtain ⟨v, rfl, r1⟩ := rq.one
    obtain ⟨a, xs, rfl, q, rp⟩ := rq_tup r1
    have q := sqT_mono fh q
    split at eq
    · rename_i hs
      cases eq
      have hsrt := merge_sortD (alike2_mem (sortable_alike hs))
      obtain ⟨h1, h2, h3⟩ := sortable_ok hs
      obtain ⟨its, rv, ⟨o, e, hoc, n, hod⟩, hz⟩ := I.tuple q
      obtain ⟨as, ra⟩ := Dp.readsAll I ds xs its ((rp.mono fh).dp (sortable_lay hs)) rv
      obtain ⟨u, rfl, ru⟩ := vals1 r
      cases ru
      have hl := rp.len
      refine PySem.W.sorted_tup_data (vs := its) (bs := ds) (enc := id) (R := fun u d => ∃ x, RelV x u ∧ Rp X.K F d x) e hoc hod (eachIs_of rp rv) (W.readsAll_each id (by rw [List.map_id]; exact ra)) h1 h2 (by omega) (fun b hb => ?_) fun out g1 c g2 ho eo k1 k2 hc => ?_
      · have := depth_mem hb
        show X.A.units + 2 + b.depth < cLine
        omega
      · obtain ⟨ys, p1, p2⟩ := eachIs_to eo
        rw [hsrt] at p1
        have I1 := I.kept (t' := s.toks) k1
        have hfree : H g1.objs.size = none := I1.hok.fresh (Nat.le_refl _)
        refine ⟨.ref g1.objs.size, upd H g1.objs.size (.lst ys), I1.laid (t' := s.toks) k2 (Nat.le_refl _) ⟨?_, out, c, p2, hc⟩, rfl, k.lstQ fh p1 _ hfree⟩
        have := p2.length
        omega
    · cases eq
  · cases eq
end Pv
set_option Elab.async false
set_option linter.all false
set_option maxRecDepth 100000
set_option maxHeartbeats 4000000
namespace Pv
open PySem L2
variable {X : Cx} {C : Cn}

/-! ### x[i] -/
def opIx : PyData → PyData → Option T
  | .list ds, .int i => (atI ds i).map T.sh
  | .tuple ds, .int i => (atI ds i).map T.sh
  | _, _ => none
theorem atI_rp {K : PySem.W.Frag} {F : Hp} {ds : List PyData} {xs : List V} {i : Int} {d : PyData} (rp : RpAll K F ds xs) (e : atI ds i = some d) : ∃ v, atI xs i = some v ∧ Rp K F d v := by
  unfold atI at e ⊢
  rw [rp.len]
  cases h : ixN ds.length i with
  | none => rw [h] at e; cases e
  | some j =>
    rw [h] at e
    exact rp.get (by simpa using e)
theorem opIx_ok : IxR X (rD2 X.K opIx) := by
  intro value slice pins s σ H x y v u Q I rx ry ⟨F, d, e, t, fh, r1, r2, eq, k⟩ hs
  unfold opIx at eq
  split at eq
  · rename_i ds i
    obtain ⟨a, xs, rfl, q, rp⟩ := rq_list fh r1
    cases rq_int r2
    cases e : atI ds i with
    | none => rw [e] at eq; cases eq
    | some d =>
      rw [e] at eq
      cases eq
      obtain ⟨w, h1, h2⟩ := atI_rp rp e
      exact ix_list value slice pins s σ H _ _ v u Q I rx ry ⟨a, xs, i, w, rfl, rfl, q, h1, k.sh fh h2⟩ hs
  · rename_i ds i
    obtain ⟨a, xs, rfl, q, rp⟩ := rq_tup r1
    cases rq_int r2
    cases e : atI ds i with
    | none => rw [e] at eq; cases eq
    | some d =>
      rw [e] at eq
      cases eq
      obtain ⟨w, h1, h2⟩ := atI_rp rp e
      exact ix_tup value slice pins s σ H _ _ v u Q I rx ry ⟨a, xs, i, w, rfl, rfl, sqT_mono fh q, h1, k.sh fh h2⟩ hs
  · cases eq
/-! ### x[a:b] -/
abbrev FO := Env → Rs (Option Int × Env)
def oNone : FO := fun η => .ok (none, η)
def oSome (f : FE) : FO := fun η => (f η).bind fun p => match p.1 with
  | .sh (.int i) => .ok (some i, p.2)
  | _ => .bad
def tO (C : Cn) (f : FO) : TO := fun σ H Q => ∃ η F fp, Ok C.K F H η σ fp ∧ (f η).post (fun p => ∀ F' H' fp', Aft C.K fp F H σ [] [] p.2 F' H' [] fp' → Q p.1 H') (XP C fp F H σ)
theorem tO_step {fp fp1 f1 : List Addr} {F H F1 H1 : Hp} {σ : St} {ts : List T} {vs : List V} {η1 : Env} {f : FO} {Q : Option Int → Hp → Prop} (a : Aft C.K fp F H σ ts vs η1 F1 H1 f1 fp1) (h : (f η1).post (fun p => ∀ F2 H2 f2 fp2, Aft C.K fp F H σ ts vs p.2 F2 H2 f2 fp2 → Q p.1 H2) (XP C fp F H σ)) : tO C f σ H1 Q :=
  ⟨η1, F1, fp1, a.ok, Rs.post_mono h (fun p hp F' H' fp' b => hp F' H' _ _ (by simpa using a.app b)) fun e η' he => he.back a⟩
theorem _root_.L2.PO.impD {X : Cx} {e : Option Expr} {t t' : TO} (h : PO X e t) (k : ∀ σ H Q, t' σ H Q → t σ H Q) : PO X e t' := ⟨fun pins s σ H Q I q => h.run pins s σ H Q I (k σ H Q q)⟩
theorem pod_none : PO X none (tO C oNone) := po_none.impD fun σ H Q ⟨η, F, fp, o, q⟩ => q F H fp o.aft
theorem pod_some {e : Expr} {f : FE} (h : PE X e (tD C f)) : PO X (some e) (tO C (oSome f)) := by
  refine (po_some h).impD fun σ H Q ⟨η, F, fp, o, q⟩ => ?_
  refine tD_step o.aft (Rs.post_mono (Rs.post_bind q) (fun p hp x F1 H1 f1 fp1 a => ?_) fun _ _ z => z)
  have a : Aft C.K fp F H σ [p.1] [x] p.2 F1 H1 f1 fp1 := a
  split at hp
  · rename_i i e
    rw [e] at a
    exact ⟨i, (rt_int a.rt1).1, hp F1 H1 fp1 a.drop⟩
  · exact hp.elim
def rSlD (K : PySem.W.Frag) (op : PyData → Option Int → Option Int → Option T) : V → Option Int → Option Int → Hp → VK → Prop := fun x lo hi H Q => ∃ F d t, Same F H ∧ Rq K F H d x ∧ op d lo hi = some t ∧ Res K F H t Q
def cutA {α : Type} (xs : List α) (lo hi : Option Int) : List α := (xs.drop (HT.sIx xs.length 0 lo)).take (HT.sIx xs.length xs.length hi - HT.sIx xs.length 0 lo)
def opSl : PyData → Option Int → Option Int → Option T
  | .list ds, lo, hi => some (.lst ((cutA ds lo hi).map T.sh))
  | .tuple ds, lo, hi => some (.sh (.tuple (cutA ds lo hi)))
  | _, _, _ => none
theorem RpAll.drop {K : PySem.W.Frag} {F : Hp} : ∀ (n : Nat) {ds : List PyData} {vs : List V}, RpAll K F ds vs → RpAll K F (ds.drop n) (vs.drop n)
  | 0, _, _, h => by simpa using h
  | n + 1, [], vs, h => by
    simp only [RpAll] at h
    subst h
    simpa using RpAll.nil
  | n + 1, d :: ds, vs, h => by
    obtain ⟨x, xs, rfl, q, t⟩ := h.uncons
    simpa using RpAll.drop n t
theorem RpAll.take {K : PySem.W.Frag} {F : Hp} : ∀ (n : Nat) {ds : List PyData} {vs : List V}, RpAll K F ds vs → RpAll K F (ds.take n) (vs.take n)
  | 0, _, _, h => by simpa using RpAll.nil
  | n + 1, [], vs, h => by
    simp only [RpAll] at h
    subst h
    simpa using RpAll.nil
  | n + 1, d :: ds, vs, h => by
    obtain ⟨x, xs, rfl, q, t⟩ := h.uncons
    simpa using RpAll.consI q (RpAll.take n t)
theorem RpAll.cut {K : PySem.W.Frag} {F : Hp} {ds : List PyData} {vs : List V} (h : RpAll K F ds vs) (lo hi : Option Int) : RpAll K F (cutA ds lo hi) (cutV vs lo hi) := by
  unfold cutA cutV
  rw [h.len]
  exact (h.drop _).take _
theorem opSl_ok : SlR X (rSlD X.K opSl) := by
  intro pins s σ H x v vl vu lo hi sl Q I rx hs pl pu ⟨F, d, t, fh, r1, eq, k⟩
  unfold opSl at eq
  split at eq
  · rename_i ds
    cases eq
    obtain ⟨a, xs, rfl, q, rp⟩ := rq_list fh r1
    exact sl_list pins s σ H _ v vl vu _ _ sl Q I rx hs pl pu ⟨a, xs, rfl, q, k.lstQ fh (rp.cut _ _)⟩
  · rename_i ds
    cases eq
    obtain ⟨a, xs, rfl, q, rp⟩ := rq_tup r1
    refine sl_tupA pins s σ H _ v vl vu _ _ sl Q I rx hs pl pu ⟨a, xs, rfl, sqT_mono fh q, fun hw => ?_, fun _ => k.tupQ fh (rp.cut _ _)⟩
    refine k.sh fh ?_
    simp only [Rp]
    have e : cutA ds lo hi = ds := by
      unfold cutA
      rw [← rp.len, hw.1, hw.2, List.drop_zero, Nat.sub_zero, rp.len, List.take_length]
    rw [e]
    exact ⟨a, xs, rfl, q, rp⟩
  · cases eq
def eSl (f : FE) (lo hi : FO) : FE := fun η => (f η).bind fun p => (lo p.2).bind fun l => (hi l.2).bind fun u => fin1 (opSl p.1.val l.1 u.1) u.2
def eSlV (i : Nat) (lo hi : FO) : FE := fun η => match pk η i with
  | some _ => (lo η).bind fun l => (hi l.2).bind fun u => match pk u.2 i with
    | some d => fin1 (opSl d l.1 u.1) u.2
    | none => .bad
  | none => .bad
theorem pd_sl {e : Expr} {lo hi : Option Expr} {p2 pos : Pos} {f : FE} {fl fu : FO} (hK : C.K = X.K) (he : PE X e (tD C f)) (hl : PO X lo (tO C fl)) (hu : PO X hi (tO C fu)) : PE X (.Subscript e (.Slice lo hi none p2) pos) (tD C (eSl f fl fu)) := by
  refine (pe_slice opSl_ok he hl hu).impD fun σ H Q ⟨η, F, fp, o, q⟩ => ?_
  refine tD_step o.aft (Rs.post_mono (Rs.post_bind q) (fun p hp x F1 H1 f1 fp1 a => ?_) fun _ _ z => z)
  refine tO_step a (Rs.post_mono (Rs.post_bind hp) (fun p2 hp2 F2 H2 f2 fp2 b => ?_) fun _ _ z => z)
  refine tO_step b (Rs.post_mono (Rs.post_bind hp2) (fun p3 hp3 F3 H3 f3 fp3 c => ?_) fun _ _ z => z)
  obtain ⟨F4, t, s, r, eq, k⟩ := fin_res c hp3
  simp only [List.nil_append, T.vals, RpAll] at r
  obtain ⟨x', xs, e1, r1, rfl⟩ := r
  obtain rfl : x = x' := by simpa using e1
  rw [← hK]
  exact ⟨F4, _, t, s.fh, .inl r1, eq, k⟩
theorem pd_slV {e : Expr} {lo hi : Option Expr} {p2 pos : Pos} {i : Nat} {fl fu : FO} (hK : C.K = X.K) (he : PE X e (tVar i)) (hl : PO X lo (tO C fl)) (hu : PO X hi (tO C fu)) : PE X (.Subscript e (.Slice lo hi none p2) pos) (tD C (eSlV i fl fu)) := by
  refine (pe_slice opSl_ok he hl hu).impD fun σ H Q ⟨η, F, fp, o, q⟩ => ?_
  unfold eSlV at q
  obtain ⟨d0, h0, q⟩ := pk_some q
  obtain ⟨x, hx, _⟩ := pk_rq o h0
  refine ⟨x, hx, ?_⟩
  refine tO_step o.aft (Rs.post_mono (Rs.post_bind q) (fun p2 hp2 F2 H2 f2 fp2 b => ?_) fun _ _ z => z)
  refine tO_step b (Rs.post_mono (Rs.post_bind hp2) (fun p3 hp3 F3 H3 f3 fp3 c => ?_) fun _ _ z => z)
  obtain ⟨d, hd, hp3⟩ := pk_some hp3
  obtain ⟨F4, t, s, r, eq, k⟩ := fin_res c hp3
  obtain ⟨x2, hx2, rx⟩ := pk_rq s hd
  obtain rfl : x = x2 := by rw [hx] at hx2; cases hx2; rfl
  rw [← hK]
  exact ⟨F4, _, t, s.fh, rx, eq, k⟩

/-! ### isinstance -/
def tyN : PyData → String
  | .none => "NoneType"
  | .bool _ => "bool"
  | .int _ => "int"
  | .str _ => "str"
  | .list _ => "list"
  | .tuple _ => "tuple"
  | .dict _ => "dict"
inductive Ty where
  | int | bool | str | list | tuple | dict
def Ty.nm : Ty → String
  | .int => "int"
  | .bool => "bool"
  | .str => "str"
  | .list => "list"
  | .tuple => "tuple"
  | .dict => "dict"
def isI : Ty → PyData → Bool
  | .int, .int _ => true
  | .int, .bool _ => true
  | .bool, .bool _ => true
  | .str, .str _ => true
  | .list, .list _ => true
  | .tuple, .tuple _ => true
  | .dict, .dict _ => true
  | _, _ => false
theorem kit_isI (t : Ty) (d : PyData) : kitB (tyN d) t.nm = some (isI t d) := by
  cases t <;> cases d <;> (simp only [tyN, Ty.nm, isI]; decide +kernel)
theorem tyx_of {K : PySem.W.Frag} {F H : Hp} {d : PyData} {v : V} (fh : Same F H) (h : Rq K F H d v) : TyX K H v (.type (tyN d)) := by
  cases d with
  | none => rw [rq_none h]; exact .base .non
  | bool b => rw [rq_bool h]; exact .base (.bl b)
  | int b => rw [rq_int h]; exact .base (.int b)
  | str b => rw [rq_str h]; exact .base (.str b)
  | list b =>
    obtain ⟨a, xs, rfl, q, _⟩ := rq_list fh h
    rcases q with (q | ⟨o, q⟩) | ⟨o, its, n, q, qc, _⟩
    · exact .base (.lst q)
    · exact .base (.frz q)
    · exact .kList q qc
  | tuple b =>
    obtain ⟨a, xs, rfl, q, _⟩ := rq_tup h
    rcases sqT_mono fh q with (q | ⟨o, q⟩) | ⟨o, its, n, q, qc, _⟩
    · exact .base (.tup q)
    · exact .fTuple q
    · exact .kTuple q qc
  | dict b =>
    obtain ⟨a, ks, rfl, q, _⟩ := rq_dict fh h
    exact .base (.dK q)
def eIs (ts : List Ty) (f : FE) : FE := fun η => (f η).bind fun p => .ok (.sh (.bool (ts.any fun t => isI t p.1.val)), p.2)
def eIsV (ts : List Ty) (i : Nat) : FE := fun η => match pk η i with
  | some d => .ok (.sh (.bool (ts.any fun t => isI t d)), η)
  | none => .bad
theorem pd_isi {e : Expr} {f : FE} (t : Ty) (hK : C.K = X.K) (h : PE X e (tCB (rIsi X.K) (tCons (tD C f) (tCons (tC (.ty t.nm)) tNil)))) : PE X e (tD C (eIs [t] f)) := by
  refine h.impD fun σ H Q ⟨η, F, fp, o, q⟩ => ?_
  refine tD_step o.aft (Rs.post_mono (Rs.post_bind q) (fun p hp x F1 H1 f1 fp1 a => ?_) fun _ _ z => z)
  obtain ⟨F2, a2, rp⟩ := a.freeze
  simp only [List.nil_append, T.vals, RpAll] at rp
  obtain ⟨x', xs, e1, r1, rfl⟩ := rp
  obtain rfl : x = x' := by simpa using e1
  refine ⟨x, .ty t.nm, .type (tyN p.1.val), .type t.nm, isI t p.1.val, rfl, .ty _, ?_, kit_ty (kit_isI t _), ?_⟩
  · rw [← hK]; exact tyx_of a2.fh (.inl r1)
  · have e : ([t].any fun t => isI t p.1.val) = isI t p.1.val := by simp
    have hp : ∀ v F' H' f1 fp', Aft C.K fp F H σ [T.sh (.bool (isI t p.1.val))] [v] p.2 F' H' f1 fp' → Q v H' := by rw [e] at hp; exact hp
    exact hp _ F2 H1 [] fp1 (a2.res (.here a2.fh rp_c.2.1))
theorem pd_isiV {e : Expr} {i : Nat} (t : Ty) (hK : C.K = X.K) (h : PE X e (tCB (rIsi X.K) (tCons (tVar i) (tCons (tC (.ty t.nm)) tNil)))) : PE X e (tD C (eIsV [t] i)) := by
  refine h.impD fun σ H Q ⟨η, F, fp, o, q⟩ => ?_
  unfold eIsV at q
  obtain ⟨d, hd, q⟩ := pk_some q
  obtain ⟨x, hx, rx⟩ := pk_rq o hd
  refine ⟨x, hx, x, .ty t.nm, .type (tyN d), .type t.nm, isI t d, rfl, .ty _, ?_, kit_ty (kit_isI t _), ?_⟩
  · rw [← hK]; exact tyx_of o.fh rx
  · have e : ([t].any fun t => isI t d) = isI t d := by simp
    have q : ∀ v F' H' f1 fp', Aft C.K fp F H σ [T.sh (.bool (isI t d))] [v] η F' H' f1 fp' → Q v H' := by rw [e] at q; exact q
    exact q _ F H [] fp (o.res (.here o.fh rp_c.2.1))
theorem kitAny_tys {K : PySem.W.Frag} (d : PyData) : ∀ ts : List Ty, PySem.W.kitAny K (.type (tyN d)) (ts.map fun t => .type t.nm) = some (ts.any fun t => isI t d)
  | [] => rfl
  | t :: ts => by
    rw [List.map_cons]
    refine kitAny_cons (kit_ty (kit_isI t d)) (fun e => ?_) fun e => ?_
    · rw [List.any_cons, e, Bool.false_or]; exact kitAny_tys d ts
    · rw [List.any_cons, e, Bool.true_or]
theorem clsV_tys : ∀ ts : List Ty, PySem.Paired ClsV (ts.map fun t => V.ty t.nm) (ts.map fun t => Value.type t.nm)
  | [] => .nil
  | t :: ts => .cons (.ty _) (clsV_tys ts)
/-- a tuple of classes, written -/
def tTys : List Ty → TA
  | [] => tNil
  | t :: ts => tCons (tC (.ty t.nm)) (tTys ts)
theorem tTys_ok : ∀ (ts : List Ty) {σ : St} {H : Hp} {Q : List V → Hp → Prop}, Q (ts.map fun t => V.ty t.nm) H → tTys ts σ H Q
  | [], _, _, _, h => h
  | t :: ts, σ, H, Q, h => tTys_ok ts (Q := fun xs H2 => Q (V.ty t.nm :: xs) H2) h
theorem pd_isiTV {e : Expr} {i : Nat} (ts : List Ty) (hK : C.K = X.K) (hl : ts.length ≤ 1000) (h : PE X e (tCB (rIsiT X.K) (tCons (tVar i) (tCons (tTup (tTys ts)) tNil)))) : PE X e (tD C (eIsV ts i)) := by
  refine h.impD fun σ H Q ⟨η, F, fp, o, q⟩ => ?_
  unfold eIsV at q
  obtain ⟨d, hd, q⟩ := pk_some q
  obtain ⟨x, hx, rx⟩ := pk_rq o hd
  refine ⟨x, hx, tTys_ok ts ⟨by rw [List.length_map, PySem.sizeLine_eq]; omega, fun p hp => ?_⟩⟩
  have fh2 : Same F (upd H p (.tup (ts.map fun t => V.ty t.nm))) := o.fh.trans (same_upd hp)
  have rx2 : Rq C.K F (upd H p (.tup (ts.map fun t => V.ty t.nm))) d x := by
    rcases rx with rx | ⟨a, xs, ds, e1, e2, e3, e4⟩
    · exact .inl rx
    · exact .inr ⟨a, xs, ds, e1, e2, same_upd hp _ _ e3, e4⟩
  refine ⟨x, p, _, .type (tyN d), _, _, rfl, upd_same, clsV_tys ts, ?_, kitAny_tys d ts, ?_⟩
  · rw [← hK]; exact tyx_of fh2 rx2
  · refine q _ F _ [] fp (o.res ⟨by simp only [RT, Rp]; exact ⟨trivial, trivial⟩, .refl _, fh2, same_upd hp, fun _ _ => rfl, by simp, by simp⟩)
/-! ### list(range(..)), tuple(range(..)) -/
def rgD (a b : Int) : List PyData := (List.range (b - a).toNat).map fun i => PyData.int (a + (i : Nat))
theorem rp_rg {K : PySem.W.Frag} {F : Hp} (a b : Int) : RpAll K F (rgD a b) (rgV a b) := by
  unfold rgD rgV
  refine RpAll.of_get (by simp) fun i d v h1 h2 => ?_
  rw [List.getElem?_map] at h1 h2
  cases e : (List.range (b - a).toNat)[i]? with
  | none => rw [e] at h1; cases h1
  | some j =>
    rw [e] at h1 h2
    cases h1
    cases h2
    exact rp_c.1
def rgOk (a b : Int) : Bool := decide (0 ≤ a) && decide (a ≤ 16777216) && decide (0 ≤ b) && decide (b ≤ 16777216)
theorem rgOk_ok {a b : Int} (h : rgOk a b = true) : RgOk a b := by
  unfold rgOk at h
  simp only [Bool.and_eq_true, decide_eq_true_eq] at h
  exact RgOk.of_le h.1.1.1 h.2 h.1.1.2 h.1.2
def eLstRg1 (f : FE) : FE := fun η => (f η).bind fun p => match p.1 with
  | .sh (.int b) => if rgOk 0 b then .ok (.lst ((rgD 0 b).map T.sh), p.2) else .bad
  | _ => .bad
def eTupRg1 (f : FE) : FE := fun η => (f η).bind fun p => match p.1 with
  | .sh (.int b) => if rgOk 0 b then .ok (.sh (.tuple (rgD 0 b)), p.2) else .bad
  | _ => .bad
theorem pd_lstRg1 {e : Expr} {f : FE} (h : PE X e (tLstRg (tRg1 (tD C f)))) : PE X e (tD C (eLstRg1 f)) := by
  refine h.impD fun σ H Q ⟨η, F, fp, o, q⟩ => ?_
  refine tD_step o.aft (Rs.post_mono (Rs.post_bind q) (fun p hp x F1 H1 f1 fp1 a => ?_) fun _ _ z => z)
  have a : Aft C.K fp F H σ [p.1] [x] p.2 F1 H1 f1 fp1 := a
  split at hp
  · rename_i b e
    rw [e] at a
    split at hp
    · rename_i hr
      exact ⟨b, (rt_int a.rt1).1, rgOk_ok hr, fun q hq => hp _ _ _ _ _ (a.drop.res (.lst a.fh (rp_rg 0 b) hq))⟩
    · exact hp.elim
  · exact hp.elim
theorem pd_tupRg1 {e : Expr} {f : FE} (h : PE X e (tTupRg (tRg1 (tD C f)))) : PE X e (tD C (eTupRg1 f)) := by
  refine h.impD fun σ H Q ⟨η, F, fp, o, q⟩ => ?_
  refine tD_step o.aft (Rs.post_mono (Rs.post_bind q) (fun p hp x F1 H1 f1 fp1 a => ?_) fun _ _ z => z)
  have a : Aft C.K fp F H σ [p.1] [x] p.2 F1 H1 f1 fp1 := a
  split at hp
  · rename_i b e
    rw [e] at a
    split at hp
    · rename_i hr
      exact ⟨b, (rt_int a.rt1).1, rgOk_ok hr, fun q hq => hp _ _ _ _ _ (a.drop.res (.tup a.fh (rp_rg 0 b) hq))⟩
    · exact hp.elim
  · exact hp.elim
end Pv
set_option Elab.async false
set_option linter.all false
set_option maxRecDepth 100000
set_option maxHeartbeats 4000000
/-! dicts, shared: displays -/
namespace Pv
open PySem L2 PyProof.Rows
section
variable {X : Cx} {C : Cn}
theorem pd_dct0 {pos : Pos} : PE X (.Dict [] [] pos) (tD C (eC (.dict []))) :=
  pe_dnewK.impD fun σ H Q ⟨η, F, fp, o, q⟩ p hp => q _ _ _ _ _ (o.res (ResOk.dct (ds := []) (ks := []) o.fh (by simp only [RpKv]) hp))
/-- {k: x}, k a constant, x a name -/
def eDct1 (k : Key) (i : Nat) : FE := fun η => (eV i η).bind fun p => .ok (.sh (.dict [(keyD k, p.1.val)]), p.2)
theorem merge1 {k : Key} {v : V} : mergeK [] [(k, v)] = [(k, v)] := by
  simp [mergeK, putK]
theorem pd_dct1 {ke : Expr} {x : Str} {px pos : Pos} {k : Key} {i : Nat} (hk : PE X ke (tC (kV k))) (hv : PE X (.Name x px) (tVar i)) : PE X (.Dict [some ke] [.Name x px] pos) (tD C (eDct1 k i)) := by
  refine (pe_disp (pps_cons hk hv pps_nil) rfl rfl (by simp) (by simp)).impD fun σ H Q ⟨η, F, fp, o, q⟩ p hp => ?_
  have h : tD C (eV i) σ H fun v H' => ∀ p, H' p = none → Q (.ref p) (upd H' p (.dK [(k, v)])) := by
    refine ⟨η, F, fp, o, Rs.post_mono (Rs.post_bind q) (fun r hr v F1 H1 f1 fp1 a p hp => ?_) fun _ _ z => z⟩
    obtain ⟨F2, a2, rp⟩ := a.freeze
    simp only [T.vals, RpAll] at rp
    obtain ⟨v', xs, e1, r1, rfl⟩ := rp
    obtain rfl : v = v' := by simpa using e1
    exact hr _ _ _ _ _ (a2.res (ResOk.dct (ds := [(keyD k, r.1.val)]) (ks := [(k, v)]) a2.fh (by simp only [RpKv]; exact ⟨k, v, [], rfl, rfl, r1, rfl⟩) hp))
  obtain ⟨v, e, h⟩ := eV_var h
  show tVar i σ (upd H p (.dK [])) _
  refine ⟨v, e, ?_⟩
  refine ⟨upd_same, [(k, v)], rfl, by simp, ?_⟩
  rw [merge1, upd_upd]
  exact h p hp
end
end Pv
set_option Elab.async false
set_option linter.all false
set_option maxRecDepth 100000
set_option maxHeartbeats 4000000
/-! the call of a def where it is known that no repr is under way -/
namespace Pv
open PySem L2 PySem.Spec PyProof.Rows
/-- a def's promise, asked for only where nothing is under way -/
structure FnG (P : Program) (w : World) (K : PySem.W.Frag) (mg : Str → Option Value) (base : Heap) (k : Nat) (f : Addr) (fd : FuncData) (ps : List Str) (sp : Sp) : Prop where
  ln : ∀ vs H Q E, sp vs H Q E → vs.length = ps.length
  go : ∀ (A : Around) (outer : List PySem.Env) (s : Shared) (H : Hp) (args : Args) (us : List Value) (vs : List V) (Q : VK) (E : XK), Room k A → A.guards = some [] → Env0 P w K mg base A outer s H →
    BindsTo s fd args (ps.zip us) → Vals vs us → sp vs H Q E → codeAny (model P w) A (.call (.ref f) args) (CR CX0 outer P w H s Q E) s
theorem FnG.mono {P : Program} {w : World} {K : PySem.W.Frag} {mg : Str → Option Value} {base : Heap} {j k : Nat} {f : Addr} {fd : FuncData} {ps : List Str} {sp : Sp} (F : FnG P w K mg base j f fd ps sp) (h : j ≤ k) : FnG P w K mg base k f fd ps sp :=
  ⟨F.ln, fun A outer s H args us vs Q E hr => F.go A outer s H args us vs Q E (hr.mono h)⟩
section
variable {X : Cx} {k : Nat} {f : Addr} {fd : FuncData} {ps : List Str} {sp : Sp} {E : XK} {x : Str} {p pos : Pos} {e : Expr} {es : List Expr} {t : TA}
theorem fnG_at {pins : List (Addr × Obj)} {σ : L2.St} {H : Hp} {s : Shared} {Q : VK} {us : List Value} {vs : List V} (F : FnG X.prog X.w X.K X.mg X.base k f fd ps sp) (hr : Room k X.A) (hu : X.A.guards = some []) (hb : Binds X.K fd ps [])
    (I : Inv X pins σ H s) (r : Vals vs us) (h : sp vs H Q E) : wpAny (model X.prog X.w) X.A (call (.ref f) us) (EP X pins σ Q) X.xe s := by
  have hl : us.length = ps.length := r.length.symm.trans (F.ln _ _ _ _ h)
  have hz := hb s us I.kIn (by rw [List.append_nil]; exact hl)
  rw [List.append_nil] at hz
  refine wpAny_call (codeAny_mono (F.go X.A X.stack s H ⟨us, []⟩ us vs Q E hr hu I.env0 hz r h) fun res s' hq => ?_)
  match res, hq with
  | .error _, hq => exact hq.elim
  | .ok (.ret _), hq => exact I.after hq
def xk0 : XK := fun _ _ _ => False
theorem pe_callG (F : FnG X.prog X.w X.K X.mg X.base k f fd ps sp) (hr : Room k X.A) (hu : X.A.guards = some []) (hg : Gl X x) (hm : X.mg x = some (.ref f)) (hk : PySem.W.keepIn X.K (.ref f) = true) (hb : Binds X.K fd ps [])
    (ha : PA X (e :: es) t) (hdb : (x == ("__debug__" : Str)) = false := by decide) (he : starEach (e :: es) X.env = (false, eval e X.env) :: starEach es X.env := by rfl) (hpl : (backTo pos (starEach es X.env)).any (·.1) = false := by rfl) :
    PE X (.Call (.Name x p) (e :: es) [] pos) (tCall sp [] xk0 t) := ⟨fun pins s σ H Q I h =>
  wpAny_Call_Name_kw (ld_glob I hg hm (PySem.W.callWith_K (h₀ := X.base) I.ok.mod.kin hk (thn (ha.run pos pins s σ H _ I h) fun us s1 ⟨vs, H1, I1, r, q⟩ => ⟨I1.kIn, fnG_at F hr hu hb I1 r (by have q : sp (vs ++ []) H1 Q xk0 := q; rw [List.append_nil] at q; exact q)⟩) he hpl) hdb)⟩
theorem pe_callG0 (F : FnG X.prog X.w X.K X.mg X.base k f fd ps sp) (hr : Room k X.A) (hu : X.A.guards = some []) (hg : Gl X x) (hm : X.mg x = some (.ref f)) (hk : PySem.W.keepIn X.K (.ref f) = true) (hb : Binds X.K fd ps [])
    (hdb : (x == ("__debug__" : Str)) = false := by decide) : PE X (.Call (.Name x p) [] [] pos) (tCall sp [] xk0 tNil) := ⟨fun pins s σ H Q I h =>
  wpAny_Call_Name_kw (ld_glob I hg hm (PySem.W.callWith_K0 I.kIn hk (fnG_at (us := []) F hr hu hb I .nil h)) hdb)⟩
end
/-- THE RULE: the body, one stack deeper -/
theorem fnG_of {P : Program} {w : World} {K : PySem.W.Frag} {mg : Str → Option Value} {base : Heap} {x qual : Str} {params : Arguments} {body : List Stmt} {scope : Scope} {f : Addr} {fd : FuncData} {N ps : List Str} {k : Nat} {sp : Sp}
    (F : FunD K x qual params body scope [] [] f fd) (S : FnScope N ps scope) (ln : ∀ vs H Q E, sp vs H Q E → vs.length = ps.length)
    (hbody : ∀ (cdv : Value) (A : Around) (outer : List PySem.Env) (s : Shared) (H : Hp) (vs : List V) (Q : VK) (E : XK), Room k (A.deeper (envOfC qual scope s.heap.objs.size f cdv)) → (A.deeper (envOfC qual scope s.heap.objs.size f cdv)).guards = some [] → sp vs H Q E →
      ∃ t, PSs (cxOf CX0 P w K mg base N qual scope f cdv A outer s H E) body t ∧ t { nx := fun _ H' => Q .non H', rt := Q } (L2.start N vs) H) : FnG P w K mg base (k + 1) f fd ps sp := by
  obtain ⟨oc, od, dV, kV, doc, pm, an, cdv, ct, osl, rfl, lk, hcd, _, _⟩ := F.ex
  refine ⟨ln, fun A outer s H args us vs Q E hr hu e0 hb r hsp => ?_⟩
  have KX : K.In s.heap := e0.mod.kin.keeps fun b o z => (e0.bs b o z).1
  have lim : s.heap.NoLimit := e0.mod.nolimit.keeps fun b o z => (e0.bs b o z).1
  have hkind : ∀ y ∈ ps.zip us, scope.names.lookup y.1 = some .local ∨ (scope.names.lookup y.1 = some .cell ∧ ((cellsFrom (s.heap.objs.size + 1) scope.names []).lookup y.1).isSome = true) := by
    rintro ⟨n, v⟩ hy
    exact (S.par n (List.of_mem_zip hy).1).imp id fun z => ⟨z, PySem.W.cellsFrom_some _ _ _ (.inl z)⟩
  refine codeAny_call_function hr.depth (KX _ _ lk) rfl S.co S.gen rfl (PySem.W.codeRec_of KX hcd) (hb _ _ _ _ ?_)
  refine wpAny_newFunctionEnv_cells S.kind hkind fun env he s1 y => ?_
  subst he
  refine ⟨lim.keeps y.toInCall.keep, codeAny_func ?_⟩
  obtain ⟨t, ht, hq⟩ := hbody cdv A outer s H vs Q E (hr.deeper _) hu hsp
  have I : Inv (cxOf CX0 P w K mg base N qual scope f cdv A outer s H E) [] (L2.start N vs) H s1 := inv_start S hr.hd e0 (ln _ _ _ _ hsp) r y
  refine wpAny_mono (ht.run [] s1 (L2.start N vs) H _ I hq) (fun fl s' hs => ?_) fun _ _ z => z
  match fl, hs with
  | .ret _, ⟨v, σ', H', J, rv, q⟩ => exact ⟨v, H', J.os, J.bare, J.base, J.hok, rv, q⟩
  | .next, ⟨σ', H', J, q⟩ => exact ⟨.non, H', J.os, J.bare, J.base, J.hok, rfl, q⟩
  | .brk, ⟨_, _, _, q⟩ => exact q.elim
  | .cont, ⟨_, _, _, q⟩ => exact q.elim
/-! the law's call, at the top -/
section
variable {P : Program} {w : World} {K : PySem.W.Frag} {mg mb : Str → Option Value} {k : Nat} {fa a : Addr} {fd : FuncData} {x : Str} {sp : Sp} {s₁ : Shared} {vs : List Value} {ns : List Int}
theorem topG (H : Hp) (KX : K.In s₁.heap) (hns : s₁.heap.Ns mainGlobals mg) (hb : s₁.heap.Ns builtinsNs mb) (hbb : ∀ x : Str, x ≠ "__name__" → mb x = bootBuiltins x) (hlim : s₁.heap.NoLimit) (hg : s₁.gens = #[])
    (ha : s₁.heap.get? a = some { cls := .type "list", data := .seq vs.toArray }) (hr : Room k callerA)
    (F : ∀ base : Heap, K.In base → base.Ns mainGlobals mg → FnG P w K mg base k fa fd [x] sp) (hbind : ∀ (s : Shared) (u : Value), BindsTo s fd ⟨[u], []⟩ [(x, u)])
    (hO : Only H) (hsp : sp [.ref a] H (fun v _ => v = .bl true) fun _ _ _ => False) (hok : HOk P w H s₁.heap) (hA : ∀ b u, H b = some u → b = a) (hK : ∀ u, H a = some u → K.lookup a = none) :
    codeAny (model P w) callerA (.call (.ref fa) ⟨[.ref a], []⟩) (fun r s' => r = .ok (.ret (.bool true)) ∧ OldK s₁.heap s'.heap ∧ s'.os = s₁.os ∧ AllBare s'.gens) s₁ := by
  have nodict : ∀ {b : Addr} {o : Obj} {es : Array DictEntry} {ep : Nat}, s₁.heap.get? b = some o → o.data = .dict es ep → H b = none := by
    intro b o es ep e d
    cases q : H b with
    | none => rfl
    | some u =>
      rw [hA b u q, ha] at e
      rw [← Option.some.inj e] at d
      exact nomatch d
  have ns_of : ∀ {b : Addr} {m : Str → Option Value}, s₁.heap.Ns b m → (hidT s₁.heap H).Ns b m := fun ⟨o, es, ep, e, d, r⟩ => ⟨o, es, ep, hidT_get e (nodict e d), d, r⟩
  have hKb : K.In (hidT s₁.heap H) := by
    intro b o e
    refine hidT_get (KX b o e) ?_
    cases q : H b with
    | none => rfl
    | some u =>
      have hba := hA b u q
      rw [hba] at e q
      rw [hK u q] at e
      exact nomatch e
  have hM : Mod K mg (hidT s₁.heap H) := ⟨hKb, ns_of hns, ⟨mb, ns_of hb, hbb⟩, let ⟨mc, h1, h2⟩ := hlim; ⟨mc, ns_of h1, h2⟩⟩
  have e0 : Env0 P w K mg (hidT s₁.heap H) callerA [] s₁ H := ⟨rfl, hM, fun _ _ e => of_hidT e, Nat.le_of_eq (hidT_size _ _), trivial, fun _ hb => (List.not_mem_nil hb).elim, hok, .of_eq hg⟩
  refine codeAny_mono ((F _ hKb (ns_of hns)).go callerA [] s₁ H ⟨[.ref a], []⟩ [.ref a] [.ref a] _ _ hr rfl e0 (hbind s₁ (.ref a)) (.cons rfl .nil) hsp) fun r s' h => ?_
  match r, h with
  | .error _, h => exact h.elim
  | .ok (.ret u), ⟨v, H', os, bare, un, hok', r', q⟩ =>
    have q : v = .bl true := q
    subst q
    obtain rfl : u = Value.bool true := r'
    refine ⟨rfl, OldK.of_keep fun b o e => ?_, os, bare⟩
    cases q : H b with
    | none => exact un.keep b o e q (fun z => (List.not_mem_nil z).elim) List.not_mem_nil
    | some u =>
      obtain ⟨ob, xs, z⟩ := (hO b).resolve_left (by rw [q]; exact fun z => nomatch z)
      have e1 := (hok b _ z).1
      rw [e] at e1
      rw [Option.some.inj e1]
      exact (hok' b _ (un.frzs b ob _ z)).1
theorem law_callG (KX : K.In s₁.heap) (hns : s₁.heap.Ns mainGlobals mg) (hb : s₁.heap.Ns builtinsNs mb) (hbb : ∀ x : Str, x ≠ "__name__" → mb x = bootBuiltins x) (hlim : s₁.heap.NoLimit) (hg : s₁.gens = #[])
    (ha : s₁.heap.get? a = some { cls := .type "list", data := .seq vs.toArray }) (hi : IntsAre vs ns) (hl : ns.length ≤ sizeLine) (hr : Room k callerA)
    (F : ∀ base : Heap, K.In base → base.Ns mainGlobals mg → FnG P w K mg base k fa fd [x] sp) (hbind : ∀ (s : Shared) (u : Value), BindsTo s fd ⟨[u], []⟩ [(x, u)])
    (hsp : ∀ H : Hp, Only H → SqL K H a (ns.map V.int) → sp [.ref a] H (fun v _ => v = .bl true) fun _ _ _ => False) :
    codeAny (model P w) callerA (.call (.ref fa) ⟨[.ref a], []⟩) (fun r s' => r = .ok (.ret (.bool true)) ∧ OldK s₁.heap s'.heap ∧ s'.os = s₁.os ∧ AllBare s'.gens) s₁ := by
  have rv := vals_ints hi
  have lenV := hi.length
  cases hk : K.lookup a with
  | some o =>
    have e := KX a o hk
    rw [ha] at e
    have e := Option.some.inj e
    subst e
    have hO : Only fun _ => none := fun _ => .inl rfl
    exact topG (fun _ => none) KX hns hb hbb hlim hg ha hr F hbind hO (hsp _ hO (.inr ⟨_, vs.toArray, _, hk, rfl, rfl, rfl, by rw [List.size_toArray, lenV]; exact hl, by simpa using rv⟩)) (fun _ _ z => nomatch z) (fun _ _ z => nomatch z) fun _ z => nomatch z
  | none =>
    let ob : Obj := { cls := .type "list", data := .seq vs.toArray }
    let H0 : Hp := fun b => if b = a then some (.frz ob (.lst (ns.map V.int))) else none
    have at_ : H0 a = some (.frz ob (.lst (ns.map V.int))) := if_pos rfl
    have is : ∀ b u, H0 b = some u → b = a := fun b u z => by
      by_cases c : b = a
      · exact c
      · rw [show H0 b = none from if_neg c] at z
        exact nomatch z
    have hO : Only H0 := fun b => by
      by_cases c : b = a
      · rw [c]; exact .inr ⟨_, _, at_⟩
      · exact .inl (if_neg c)
    refine topG H0 KX hns hb hbb hlim hg ha hr F hbind hO (hsp _ hO (.inl (.inr ⟨_, at_⟩))) (fun b u z => ?_) is fun _ _ => hk
    have c := is b u z
    subst c
    rw [at_] at z
    rw [← Option.some.inj z]
    exact ⟨ha, by rw [List.length_map]; exact hl, vs, _, rv, ha⟩
end
theorem walk_ofG {l : PySem.W.OpenLaw} {n k : Nat} {q : Program} {loose : List Str} {XP : (Str → Option Value) → Heap → Prop} {YP : World → Heap → Prop} {d : DefRec} {x : Str} (hn : l.most = some n) (hn2 : n ≤ sizeLine) (hdf : d.params.defaults = []) (hr : Room k callerA)
    (F : ∀ (w : World) (mg : Str → Option Value) (fa : Addr) (h : Heap), YP w h → h.Ns mainGlobals mg → mg d.name = some (.ref fa) → ∃ (K : PySem.W.Frag) (fd : FuncData) (sp : Sp), K.In h ∧ (∀ (s : Shared) (u : Value), BindsTo s fd ⟨[u], []⟩ [(x, u)]) ∧
      (∀ (H : Hp) (a : Addr) (ns : List Int), ns.length ≤ n → Only H → SqL K H a (ns.map V.int) → sp [.ref a] H (fun v _ => v = .bl true) fun _ _ _ => False) ∧ ∀ base : Heap, K.In base → base.Ns mainGlobals mg → FnG l.prog w K mg base k fa fd [x] sp) :
    PySem.W.WalkO q loose XP YP l.row.toRowW d [] (fun f vs => PySem.call f vs) := by
  refine Att.attach_call hn hdf fun w s₀ s₁ mg mb fa o pm cd doc a vs ns G Y ho hd hcd hmg hobj hints hlen hg => ?_
  obtain ⟨K, fd, sp, KX, hb, hsp, hF⟩ := F w mg fa _ Y G.T.g hmg
  exact law_callG KX G.T.g G.T.b G.T.builtins G.T.nolimit hg hobj hints (Nat.le_trans hlen hn2) hr hF hb fun H hO hS => hsp H a ns hlen hO hS
end Pv
set_option Elab.async false
set_option linter.all false
set_option maxRecDepth 100000
set_option maxHeartbeats 4000000
/-! repr(d), d data without dicts; texts compared -/
namespace Pv
open PySem L2 PyProof.Rows
/-- how many signs repr shows at most -/
def shSz : PyData → Nat
  | .none => 4
  | .bool _ => 5
  | .int _ => 1921
  | .str x => 10 * x.length + 2
  | .list xs => shSzs xs + 3
  | .tuple xs => shSzs xs + 3
  | .dict _ => 0
where shSzs : List PyData → Nat
  | [] => 0
  | x :: xs => shSz x + 2 + shSzs xs
theorem list_text (ts : List Str) : (listText ts).length ≤ piled ts + 2 := by
  cases ts with
  | nil => decide
  | cons t r =>
    have h := textFrom_length_pos r 1 (("[" : Str) ++ (if (0 : Nat) > 0 then ", " else "" : String) ++ t) (Nat.succ_pos 0)
    have e : ((("[" : Str) ++ (if (0 : Nat) > 0 then ", " else "" : String) ++ t)).length = 1 + t.length := by
      rw [strLen_append, strLen_append]; rfl
    have h1 : (listText (t :: r)).length = (textFrom 0 "[" (t :: r)).length + 1 := by
      show (textFrom 0 "[" (t :: r) ++ "]").length = _
      rw [strLen_append]; rfl
    have h2 : (textFrom 0 "[" (t :: r)).length = (textFrom 1 (("[" : Str) ++ (if (0 : Nat) > 0 then ", " else "" : String) ++ t) r).length := rfl
    rw [h1, h2, h, e, piled_cons]
    omega
theorem tuple_text (ts : List Str) : (tupleText ts).length ≤ piled ts + 3 := by
  unfold tupleText
  rw [strLen_append, strLen_append]
  have e1 : ((("(" : String) : Str)).length = 1 := rfl
  have e3 : (((if ts.length == 1 then ",)" else ")" : String) : Str)).length ≤ 2 := by split <;> decide
  have e2 : (Str.join ", " ts).length ≤ piled ts := by
    by_cases h : ts = []
    · subst h; decide
    · have := join_length_add ts h
      omega
  rw [e1]
  omega
mutual
theorem shown_le : ∀ {d : PyData}, d.showable = true → d.canLay0 = true → d.shown.length ≤ shSz d
  | .none, _, _ => by decide
  | .bool b, _, _ => by cases b <;> decide
  | .int i, h, _ => by
    simp only [PyData.showable, decide_eq_true_eq] at h
    exact int_text_len_1921 h
  | .str x, _, h => by
    simp only [PyData.canLay0, PyData.strOk] at h
    simp only [PyData.shown, shSz]
    refine StrLaws.reprText_len x fun c hc => ?_
    rw [Array.all_eq_true] at h
    obtain ⟨i, hi, e⟩ := List.mem_iff_getElem.mp hc
    have := h i (by simpa using hi)
    simp only [Array.getElem_toList] at e
    rw [e] at this
    simp at this
    omega
  | .list xs, h, h2 => by
    simp only [PyData.showable] at h
    simp only [PyData.canLay0] at h2
    have := showns_le h h2
    have h3 := list_text (PyData.shownAll xs)
    simp only [PyData.shown, shSz]
    omega
  | .tuple xs, h, h2 => by
    simp only [PyData.showable] at h
    simp only [PyData.canLay0] at h2
    have := showns_le h h2
    have h3 := tuple_text (PyData.shownAll xs)
    simp only [PyData.shown, shSz]
    omega
  | .dict _, _, h => by simp only [PyData.canLay0] at h; cases h
theorem showns_le : ∀ {ds : List PyData}, PyData.showableAll ds = true → PyData.canLayAll0 ds = true → piled (PyData.shownAll ds) ≤ shSz.shSzs ds
  | [], _, _ => by decide
  | d :: ds, h, h2 => by
    simp only [PyData.showableAll, Bool.and_eq_true] at h
    simp only [PyData.canLayAll0, Bool.and_eq_true] at h2
    have a := shown_le h.1 h2.1
    have b := showns_le h.2 h2.2
    simp only [PyData.shownAll, piled_cons, shSz.shSzs]
    omega
end
def reprOk (d : PyData) : Bool := d.showable && d.canLay0 && decide (d.depth ≤ 60) && decide (shSz d ≤ 16777216)
def bRepr : List PyData → Option T
  | [d] => if reprOk d then some (.sh (.str d.shown)) else none
  | _ => none
variable {X : Cx}
theorem bRepr_ok (g : Good X) : CallD X (.builtin "repr") bRepr := by
  intro pins s σ H xs us Q I r ⟨F, ds, t, fh, rq, eq, k⟩
  have hroom := g.room
  have hgd := g.gd
  unfold bRepr at eq
  split at eq
  · rename_i d
    split at eq
    · rename_i hk
      cases eq
      unfold reprOk at hk
      simp only [Bool.and_eq_true, decide_eq_true_eq] at hk
      obtain ⟨⟨⟨hs, hc⟩, hd⟩, hz⟩ := hk
      have hle := shown_le hs hc
      have hsz : d.shown.length ≤ sizeLine := by rw [sizeLine_eq]; omega
      obtain ⟨v, rfl, r1⟩ := rq.one
      obtain ⟨u, rfl, ru⟩ := vals1 r
      have res : ∀ (h' : Heap) (u : Tok) (tk : Tok), (∀ b o, s.heap.get? b = some o → h'.get? b = some o) → EP X pins σ Q (.str d.shown u) { s with heap := h', toks := tk } := fun h' u tk kp =>
        ⟨.str d.shown, H, I.kept (t' := tk) kp, ⟨u, rfl⟩, k.sh fh rp_c.2.2.1⟩
      cases d with
      | none => rw [rq_none r1] at ru; cases ru; exact PySem.P.repr_of_none (res s.heap _ _ fun _ _ z => z)
      | bool b => rw [rq_bool r1] at ru; cases ru; exact PySem.P.repr_of_bool (by have := res s.heap s.toks (s.toks + 1) fun _ _ z => z; cases b <;> exact this)
      | int i =>
        rw [rq_int r1] at ru
        obtain ⟨t, rfl⟩ := ru
        simp only [PyData.showable, decide_eq_true_eq] at hs
        exact PySem.P.repr_of_int hs (res s.heap _ _ fun _ _ z => z)
      | str x =>
        rw [rq_str r1] at ru
        obtain ⟨t, rfl⟩ := ru
        exact PySem.P.repr_of_str (res s.heap _ _ fun _ _ z => z) hsz
      | list ds =>
        obtain ⟨as, ra⟩ := Dp.reads I (.list ds) v u (r1.dp fh hc) ru
        obtain ⟨a, xs, rfl, _⟩ := rq_list fh r1
        cases ru
        exact repr_of_reads' ra hs (PyData.noDict_hsm (PyData.hasDict_of_canLay _ hc)) hgd (by omega) (fun _ _ z => z) (fun h' u tk kp => res h' u tk kp) hsz
      | tuple ds =>
        obtain ⟨as, ra⟩ := Dp.reads I (.tuple ds) v u (r1.dp fh hc) ru
        obtain ⟨a, xs, rfl, _⟩ := rq_tup r1
        cases ru
        exact repr_of_reads' ra hs (PyData.noDict_hsm (PyData.hasDict_of_canLay _ hc)) hgd (by omega) (fun _ _ z => z) (fun h' u tk kp => res h' u tk kp) hsz
      | dict ds => simp only [PyData.canLay0] at hc; cases hc
    · cases eq
  · cases eq
/-- texts alike -/
def opEqS : PyData → PyData → Option T
  | .str a, .str b => some (.sh (.bool (decide (a = b))))
  | _, _ => none
def opNeS : PyData → PyData → Option T
  | .str a, .str b => some (.sh (.bool (!decide (a = b))))
  | _, _ => none
theorem vstr {a b : Str} : decide (V.str a = V.str b) = decide (a = b) := by
  rw [Bool.eq_iff_iff]
  simp
theorem opEqS_ok : OpD X (compareOp .Eq) opEqS := by
  intro pins s σ H x y v u Q I rx ry ⟨F, d, e, t, fh, r1, r2, eq, k⟩
  unfold opEqS at eq
  split at eq
  · cases eq
    cases rq_str r1
    cases rq_str r2
    exact op_eq pins s σ H _ _ v u Q I rx ry ⟨rfl, by rw [vstr]; exact k.bool fh⟩
  · cases eq
theorem opNeS_ok : OpD X (compareOp .NotEq) opNeS := by
  intro pins s σ H x y v u Q I rx ry ⟨F, d, e, t, fh, r1, r2, eq, k⟩
  unfold opNeS at eq
  split at eq
  · cases eq
    cases rq_str r1
    cases rq_str r2
    exact op_ne pins s σ H _ _ v u Q I rx ry ⟨rfl, by rw [vstr]; exact k.bool fh⟩
  · cases eq
end Pv
set_option Elab.async false
set_option linter.all false
set_option maxRecDepth 100000
set_option maxHeartbeats 4000000
namespace Pv
open PySem L2
variable {X : Cx} {C : Cn}

/-! ### a list that a slot owns is changed -/
theorem ne_mem {a p : Addr} {f : List Addr} (ha : a ∈ f) (hp : p ∉ f) : a ≠ p := fun z => hp (by rw [← z]; exact ha)
theorem RT.disj {K : PySem.W.Frag} {F H : Hp} {t : T} {v : V} {f : List Addr} {p : Addr} {o : HO} (h : RT K F H t v f) (hp : p ∉ f) : RT K F (upd H p o) t v f :=
  h.mono (.refl _) fun a ha u e => by rw [upd_ne (ne_mem ha hp)]; exact e
theorem RTs.disj {K : PySem.W.Frag} {F H : Hp} {t : List T} {v : List V} {f : List Addr} {p : Addr} {o : HO} (h : RTs K F H t v f) (hp : p ∉ f) : RTs K F (upd H p o) t v f :=
  h.mono (.refl _) fun a ha u e => by rw [upd_ne (ne_mem ha hp)]; exact e
/-- slot i owns the list at p, with the items xs; g: what its items own -/
structure Own (K : PySem.W.Frag) (F H : Hp) (σ : St) (i : Nat) (us : List T) (p : Addr) (xs : List V) (g : List Addr) : Prop where
  sl : σ[i]? = some (some (.ref p))
  at_ : H p = some (.lst xs)
  rt : RTs K F H us xs g
theorem Aft.mut {K : PySem.W.Frag} {fp : List Addr} {F H : Hp} {σ : St} {ts : List T} {vs : List V} {η1 : Env} {F1 H1 : Hp} {f1 fp1 : List Addr} {i : Nat} {us : List T} (a : Aft K fp F H σ ts vs η1 F1 H1 f1 fp1) (e : η1[i]? = some (some (.lst us))) :
    ∃ p xs g, Own K F1 H1 σ i us p xs g ∧ (p :: (g ++ f1)).Nodup ∧
      ∀ us' ys g' ws zs d, RTs K F1 H1 us' ys g' → RTs K F1 H1 ws zs d → (g' ++ d).Nodup → (∀ x ∈ g' ++ d, x ∈ g ++ f1) → ∃ fp2, Aft K fp F H σ ws zs (η1.set i (some (.lst us'))) F1 (upd H1 p (.lst ys)) d fp2 := by
  have hi : i < η1.length := (List.getElem?_eq_some_iff.mp e).1
  obtain ⟨s, h, r, h1, h2, h3, h4⟩ := a.rs.focus hi
  obtain ⟨v, rfl, rt⟩ := h3 _ e
  simp only [RT] at rt
  obtain ⟨p, xs, g, rfl, hp, rfl, rg⟩ := rt
  have ndf : ((p :: g) ++ r).Nodup := h2.nodup_iff.mp (List.nodup_append.mp a.nd).2.1
  have pr : p ∉ r := fun hx => (List.nodup_append.mp ndf).2.2 p (by simp) p hx rfl
  have gr : ∀ x ∈ g, x ∉ r := fun x hx hy => (List.nodup_append.mp ndf).2.2 x (by simp [hx]) x hy rfl
  have pg : p ∉ g := (List.nodup_cons.mp (List.nodup_append.mp ndf).1).1
  have mem : ∀ x, x = p ∨ x ∈ g ∨ x ∈ r → x ∈ fp1 := fun x hx => h2.mem_iff.mpr (by
    rcases hx with hx | hx | hx
    · simp [hx]
    · simp [hx]
    · simp [hx])
  have f1d : ∀ x ∈ f1, x ∉ fp1 := fun x hx hy => (List.nodup_append.mp a.nd).2.2 x hx x hy rfl
  have pf1 : p ∉ f1 := fun hx => f1d p hx (mem p (.inl rfl))
  refine ⟨p, xs, g, ⟨h1, hp, rg⟩, ?_, fun us' ys g' ws zs d r1 r2 nd sub => ?_⟩
  · refine List.nodup_cons.mpr ⟨fun hx => ?_, List.nodup_append.mpr ⟨(List.nodup_cons.mp (List.nodup_append.mp ndf).1).2, (List.nodup_append.mp a.nd).1, fun x hx y hy e => ?_⟩⟩
    · rcases List.mem_append.mp hx with hx | hx
      · exact pg hx
      · exact pf1 hx
    · subst e
      exact f1d x hy (mem x (.inr (.inl hx)))
  · have npd : p ∉ g' ++ d := fun hx => by
      rcases List.mem_append.mp (sub p hx) with hx | hx
      · exact pg hx
      · exact pf1 hx
    have Fp : F1 p = none := a.fn p (by simp [mem p (.inl rfl)])
    have sF : Same F1 (upd H1 p (.lst ys)) := fun b o e => by rw [upd_ne (ne_of_none e Fp)]; exact a.fh b o e
    obtain ⟨f', rs', pm⟩ := (h4 F1 (upd H1 p (.lst ys)) (.refl _) (fun x hx o e => by rw [upd_ne (ne_mem hx pr)]; exact e)).1 (.lst us') (.ref p) (p :: g')
      (by simp only [RT]; exact ⟨p, ys, g', rfl, upd_same, rfl, r1.disj fun hx => npd (by simp [hx])⟩)
    rw [set_self h1] at rs'
    have rnd : ∀ x ∈ r, x ∉ g' ++ d := fun x hx hy => by
      rcases List.mem_append.mp (sub x hy) with hy | hy
      · exact gr x hy hx
      · exact f1d x hy (mem x (.inr (.inr hx)))
    have memf : ∀ x ∈ f', x = p ∨ x ∈ g' ∨ x ∈ r := fun x hx => by
      have := pm.mem_iff.mp hx
      simpa using this
    refine ⟨f', ⟨r2.disj fun hx => npd (by simp [hx]), rs', ?_, fun x hx => ?_, sF, ⟨a.ext.ff, fun b o e hb => ?_, a.ext.new⟩, fun x hx => ?_⟩⟩
    · have nd2 : ((p :: g') ++ r).Nodup := by
        refine List.nodup_append.mpr ⟨List.nodup_cons.mpr ⟨fun hx => npd (by simp [hx]), (List.nodup_append.mp nd).1⟩, (List.nodup_append.mp ndf).2.1, fun x hx y hy e => ?_⟩
        subst e
        rcases List.mem_cons.mp hx with rfl | hx
        · exact pr hy
        · exact rnd x hy (by simp [hx])
      refine List.nodup_append.mpr ⟨(List.nodup_append.mp nd).2.1, pm.nodup_iff.mpr nd2, fun x hx y hy e => ?_⟩
      subst e
      rcases memf x hy with z | z | z
      · subst z; exact npd (by simp [hx])
      · exact (List.nodup_append.mp nd).2.2 x z x hx rfl
      · exact rnd x z (by simp [hx])
    · rcases List.mem_append.mp hx with hx | hx
      · rcases List.mem_append.mp (sub x (by simp [hx])) with hx | hx
        · exact a.fn x (by simp [mem x (.inr (.inl hx))])
        · exact a.fn x (by simp [hx])
      · rcases memf x hx with z | z | z
        · subst z; exact Fp
        · rcases List.mem_append.mp (sub x (by simp [z])) with hx | hx
          · exact a.fn x (by simp [mem x (.inr (.inl hx))])
          · exact a.fn x (by simp [hx])
        · exact a.fn x (by simp [mem x (.inr (.inr z))])
    · have := a.ext.keep b o e hb
      have nb : b ≠ p := fun z => by
        subst z
        rcases a.sub b (by simp [mem b (.inl rfl)]) with z | z
        · exact hb z
        · rw [z] at e; cases e
      rw [upd_ne nb]; exact this
    · have all : ∀ x, x ∈ g ++ f1 ∨ x = p ∨ x ∈ r → x ∈ fp ∨ H x = none := fun x hx => by
        rcases hx with hx | rfl | hx
        · rcases List.mem_append.mp hx with hx | hx
          · exact a.sub x (by simp [mem x (.inr (.inl hx))])
          · exact a.sub x (by simp [hx])
        · exact a.sub x (by simp [mem x (.inl rfl)])
        · exact a.sub x (by simp [mem x (.inr (.inr hx))])
      rcases List.mem_append.mp hx with hx | hx
      · exact all x (.inl (sub x (by simp [hx])))
      · rcases memf x hx with z | z | z
        · exact all x (.inr (.inl z))
        · exact all x (.inl (sub x (by simp [z])))
        · exact all x (.inr (.inr z))
/-- nothing is left of the values -/
theorem RTs.non {K : PySem.W.Frag} {F H : Hp} : RTs K F H [.sh .none] [.non] [] := .one (by simp only [RT, Rp]; exact ⟨trivial, trivial⟩)
theorem tyL {K : PySem.W.Frag} {H : Hp} {p : Addr} {xs : List V} (h : H p = some (.lst xs)) : tyV K "list" (.ref p) H := .inl ⟨rfl, _, SqL.of h⟩
def line (n : Nat) : Bool := decide (n < 16777216)
theorem line_lt {n : Nat} (h : line n = true) : n < sizeLine := by rw [PySem.sizeLine_eq]; exact of_decide_eq_true h
/-- the list that slot i owns -/
def own (η : Env) (i : Nat) : Option (List T) := match η[i]? with
  | some (some (.lst us)) => some us
  | _ => none
theorem own_eq {η : Env} {i : Nat} {us : List T} (h : own η i = some us) : η[i]? = some (some (.lst us)) := by
  unfold own at h
  split at h
  · rename_i us' e
    cases h
    exact e
  · cases h
def setL (η : Env) (i : Nat) (us : List T) : Env := η.set i (some (.lst us))
/-- x.m(e), x a name that owns a list; the change by the items and the argument -/
def eMt1 (op : List T → T → Option (List T × T)) (i : Nat) (g : FE) : FE := fun η => match own η i with
  | some _ => (g η).bind fun p => match own p.2 i with
    | some us => match op us p.1 with
      | some r => .ok (r.2, setL p.2 i r.1)
      | none => .bad
    | none => .bad
  | none => .bad
/-- what the method does, by values: for a list at p that is owned -/
def MtOk (X : Cx) (id : String) (op : List T → T → Option (List T × T)) (r : V → List V → Hp → VK → Prop) : Prop :=
  ∀ (F H : Hp) (us : List T) (p : Addr) (xs : List V) (g : List Addr) (t : T) (y : V) (f : List Addr) (us' : List T) (t' : T) (Q : VK), H p = some (.lst xs) → RTs X.K F H us xs g → RT X.K F H t y f → (p :: (g ++ f)).Nodup → (∀ a ∈ f, F a = none) → Same F H → op us t = some (us', t') →
    (∀ ys g' z d, RTs X.K F H us' ys g' → RT X.K F H t' z d → (g' ++ d).Nodup → (∀ x ∈ g' ++ d, x ∈ g ++ f) → Q z (upd H p (.lst ys))) → r (.ref p) [y] H Q
theorem Aft.rt1' {K : PySem.W.Frag} {fp : List Addr} {F H : Hp} {σ : St} {t : T} {v : V} {η' : Env} {F' H' : Hp} {f1 fp' : List Addr} (a : Aft K fp F H σ [t] [v] η' F' H' f1 fp') : RT K F' H' t v f1 := a.rt1
theorem pd_mt1 {e : Expr} {i : Nat} {g : FE} {id : String} {op : List T → T → Option (List T × T)} {r : V → List V → Hp → VK → Prop} (hK : C.K = X.K) (ok : MtOk X id op r)
    (h : PE X e (tBM X.K "list" r (tVar i) (tCons (tD C g) tNil))) : PE X e (tD C (eMt1 op i g)) := by
  refine h.impD fun σ H Q ⟨η, F, fp, o, q⟩ => ?_
  unfold eMt1 at q
  split at q
  · rename_i us0 e0
    obtain ⟨p0, xs0, g0, w0, _, _⟩ := o.aft.mut (own_eq e0)
    refine ⟨.ref p0, w0.sl, tyL w0.at_, ?_⟩
    refine tD_step o.aft (Rs.post_mono (Rs.post_bind q) (fun p hp y F1 H1 f1 fp1 a => ?_) fun _ _ z => z)
    have a : Aft C.K fp F H σ [p.1] [y] p.2 F1 H1 f1 fp1 := a
    split at hp
    · rename_i us e1
      split at hp
      · rename_i r e2
        obtain ⟨p1, xs, g1, w, nd, k⟩ := a.mut (own_eq e1)
        obtain rfl : p0 = p1 := by have := w.sl; rw [w0.sl] at this; cases this; rfl
        refine ok F1 H1 us p0 xs g1 p.1 y f1 r.1 r.2 Q w.at_ (hK ▸ w.rt) (hK ▸ a.rt1) nd (fun b hb => a.fn b (by simp [hb])) a.fh e2 fun ys g' z d r1 r2 nd' sub => ?_
        obtain ⟨fp2, a2⟩ := k r.1 ys g' [r.2] [z] d (hK ▸ r1) (.one (hK ▸ r2)) nd' sub
        exact hp z F1 _ d fp2 a2
      · exact hp.elim
    · exact hp.elim
  · exact q.elim
/-! append -/
def mAppend (us : List T) (t : T) : Option (List T × T) := if line us.length then some (us ++ [t], .sh .none) else none
theorem mAppend_ok : MtOk X "list.append" mAppend rAppend := by
  intro F H us p xs g t y f us' t' Q hp rg rt nd fn fh e k
  unfold mAppend at e
  split at e
  · rename_i hl
    cases e
    refine ⟨p, xs, y, rfl, rfl, hp, by rw [rg.len]; exact line_lt hl, k (xs ++ [y]) (g ++ f) .non [] (rg.append (.one rt)) (by simp only [RT, Rp]; exact ⟨trivial, trivial⟩) (by simpa using (List.nodup_cons.mp nd).2) (by simp)⟩
  · cases e
/-! extend by a list that was just made -/
def mExtend (us : List T) (t : T) : Option (List T × T) := match t with
  | .lst ts => if line (us.length + ts.length) then some (us ++ ts, .sh .none) else none
  | _ => none
theorem mExtend_ok : MtOk X "list.extend" mExtend rExtend := by
  intro F H us p xs g t y f us' t' Q hp rg rt nd fn fh e k
  unfold mExtend at e
  split at e
  · rename_i ts
    split at e
    · rename_i hl
      cases e
      simp only [RT] at rt
      obtain ⟨b, zs, g2, rfl, hb, rfl, r2⟩ := rt
      have hl' := line_lt hl
      refine ⟨p, b, xs, zs, rfl, rfl, hp, hb, by rw [rg.len, r2.len]; omega, k (xs ++ zs) (g ++ g2) .non [] (rg.append r2) (by simp only [RT, Rp]; exact ⟨trivial, trivial⟩) ?_ ?_⟩
      · have := (List.nodup_cons.mp nd).2
        have h1 := List.nodup_append.mp this
        rw [List.append_nil]
        exact List.nodup_append.mpr ⟨h1.1, (List.nodup_cons.mp h1.2.1).2, fun x hx z hz => h1.2.2 x hx z (by simp [hz])⟩
      · intro x hx
        rw [List.append_nil] at hx
        rcases List.mem_append.mp hx with hx | hx
        · simp [hx]
        · simp [hx]
    · cases e
  · cases e
/-! pop(i) -/
theorem RTs.split {K : PySem.W.Frag} {F H : Hp} : ∀ {us : List T} {xs : List V} {g : List Addr} {k : Nat} {t : T}, RTs K F H us xs g → us[k]? = some t →
    ∃ v d g', xs[k]? = some v ∧ RT K F H t v d ∧ RTs K F H (us.eraseIdx k) (xs.eraseIdx k) g' ∧ g.Perm (d ++ g') ∧ ∀ (t' : T) (v' : V) (d' : List Addr), RT K F H t' v' d' → ∃ g2, RTs K F H (us.set k t') (xs.set k v') g2 ∧ g2.Perm (d' ++ g')
  | [], _, _, _, _, _, e => by simp at e
  | u :: us, vs, f, 0, t, h, e => by
    obtain ⟨x, xs, f1, f2, rfl, rfl, r1, r2⟩ := h.uncons
    simp at e; subst e
    refine ⟨x, f1, f2, rfl, r1, r2, .refl _, fun t' v' d' q => ⟨d' ++ f2, ?_, .refl _⟩⟩
    simp only [List.set_cons_zero, RTs]
    exact ⟨v', xs, d', f2, rfl, rfl, q, r2⟩
  | u :: us, vs, f, k + 1, t, h, e => by
    obtain ⟨x, xs, f1, f2, rfl, rfl, r1, r2⟩ := h.uncons
    obtain ⟨v, d, g', h1, h2, h3, h4, h5⟩ := RTs.split (k := k) r2 (by simpa using e)
    have swap : ∀ a : List Addr, (f1 ++ (a ++ g')).Perm (a ++ (f1 ++ g')) := fun a => by
      rw [← List.append_assoc, ← List.append_assoc]
      exact (List.perm_append_comm).append_right g'
    refine ⟨v, d, f1 ++ g', by simpa using h1, h2, ?_, (h4.append_left f1).trans (swap d), fun t' v' d' q => ?_⟩
    · simp only [List.eraseIdx_cons_succ, RTs]
      exact ⟨x, _, f1, g', rfl, rfl, r1, h3⟩
    · obtain ⟨g2, q1, q2⟩ := h5 t' v' d' q
      refine ⟨f1 ++ g2, ?_, (q2.append_left f1).trans (swap d')⟩
      simp only [List.set_cons_succ, RTs]
      exact ⟨x, _, f1, g2, rfl, rfl, r1, q1⟩
def i63 (i : Int) : Bool := decide (-1000000000 ≤ i) && decide (i ≤ 1000000000)
def mPopAt (us : List T) (t : T) : Option (List T × T) := match t with
  | .sh (.int i) => if i63 i then match seqIndex? i us.length with
      | some k => match us[k]? with
        | some u => some (us.eraseIdx k, u)
        | none => none
      | none => none
    else none
  | _ => none
theorem mPopAt_ok : MtOk X "list.pop" mPopAt rPopAt := by
  intro F H us p xs g t y f us' t' Q hp rg rt nd fn fh e k
  unfold mPopAt at e
  split at e
  · rename_i i
    split at e
    · rename_i hi
      split at e
      · rename_i k' hk
        split at e
        · rename_i u hu
          cases e
          obtain ⟨rfl, rfl⟩ := rt_int rt
          obtain ⟨v, d, g', h1, h2, h3, h4, _⟩ := rg.split hu
          unfold i63 at hi
          simp only [Bool.and_eq_true, decide_eq_true_eq] at hi
          have pm : (g' ++ d).Perm g := (List.perm_append_comm).trans h4.symm
          refine ⟨p, xs, i, k', v, rfl, rfl, hp, (by have e : (2 : Int) ^ 63 = 9223372036854775808 := by decide
                                                     rw [e]; omega), (by have e : (2 : Int) ^ 63 = 9223372036854775808 := by decide
                                                                         rw [e]; omega), by rw [rg.len]; exact hk, h1, k (xs.eraseIdx k') g' v d h3 h2 (pm.nodup_iff.mpr ?_) fun x hx => ?_⟩
          · have := (List.nodup_cons.mp nd).2
            exact (List.nodup_append.mp this).1
          · have := pm.mem_iff.mp hx
            simp [this]
        · cases e
      · cases e
    · cases e
  · cases e
/-! x.pop() -/
def eMt0 (op : List T → Option (List T × T)) (i : Nat) : FE := fun η => match own η i with
  | some us => match op us with
    | some r => .ok (r.2, setL η i r.1)
    | none => .bad
  | none => .bad
def Mt0Ok (X : Cx) (op : List T → Option (List T × T)) (r : V → List V → Hp → VK → Prop) : Prop :=
  ∀ (F H : Hp) (us : List T) (p : Addr) (xs : List V) (g : List Addr) (us' : List T) (t' : T) (Q : VK), H p = some (.lst xs) → RTs X.K F H us xs g → (p :: g).Nodup → op us = some (us', t') →
    (∀ ys g' z d, RTs X.K F H us' ys g' → RT X.K F H t' z d → (g' ++ d).Nodup → (∀ x ∈ g' ++ d, x ∈ g) → Q z (upd H p (.lst ys))) → r (.ref p) [] H Q
theorem pd_mt0 {e : Expr} {i : Nat} {op : List T → Option (List T × T)} {r : V → List V → Hp → VK → Prop} (hK : C.K = X.K) (ok : Mt0Ok X op r) (h : PE X e (tBM0 X.K "list" r (tVar i))) : PE X e (tD C (eMt0 op i)) := by
  refine h.impD fun σ H Q ⟨η, F, fp, o, q⟩ => ?_
  unfold eMt0 at q
  split at q
  · rename_i us e0
    split at q
    · rename_i r e2
      obtain ⟨p, xs, g, w, nd, k⟩ := o.aft.mut (own_eq e0)
      refine ⟨.ref p, w.sl, tyL w.at_, ok F H us p xs g r.1 r.2 Q w.at_ (hK ▸ w.rt) (by simpa using nd) e2 fun ys g' z d r1 r2 nd' sub => ?_⟩
      obtain ⟨fp2, a2⟩ := k r.1 ys g' [r.2] [z] d (hK ▸ r1) (.one (hK ▸ r2)) nd' fun x hx => by simp [sub x hx]
      exact q z F _ d fp2 a2
    · exact q.elim
  · exact q.elim
def mPop (us : List T) : Option (List T × T) := match us[us.length - 1]? with
  | some u => some (us.dropLast, u)
  | none => none
theorem eraseIdx_last {α : Type} : ∀ (l : List α), l.eraseIdx (l.length - 1) = l.dropLast
  | [] => rfl
  | [a] => rfl
  | a :: b :: l => by
    have := eraseIdx_last (b :: l)
    simp only [List.length_cons, Nat.add_sub_cancel] at this ⊢
    rw [List.eraseIdx_cons_succ, this]; rfl
theorem mPop_ok : Mt0Ok X mPop rPop := by
  intro F H us p xs g us' t' Q hp rg nd e k
  unfold mPop at e
  split at e
  · rename_i u hu
    cases e
    obtain ⟨v, d, g', h1, h2, h3, h4, _⟩ := rg.split hu
    have pm : (g' ++ d).Perm g := (List.perm_append_comm).trans h4.symm
    have hl := rg.len
    refine ⟨p, xs, v, rfl, rfl, hp, by rw [hl]; exact h1, ?_⟩
    have e1 : xs.dropLast = xs.eraseIdx (us.length - 1) := by rw [← hl, eraseIdx_last]
    rw [eraseIdx_last] at h3
    rw [e1]
    exact k _ g' v d h3 h2 (pm.nodup_iff.mpr (List.nodup_cons.mp nd).2) fun x hx => pm.mem_iff.mp hx
  · cases e
end Pv
set_option Elab.async false
set_option linter.all false
set_option maxRecDepth 100000
set_option maxHeartbeats 4000000
/-! xs.index(e), xs[::-1], xs a list -/
namespace Pv
open PySem L2 PyProof.Rows
section
variable {X : Cx} {C : Cn}
/-- a method of a list that changes nothing -/
def eMq (op : List PyData → PyData → Option T) (f g : FE) : FE := fun η => (f η).bind fun p => match p.1.val with
  | .list ds => (g p.2).bind fun q => fin1 (op ds q.1.val) q.2
  | _ => .bad
theorem rt_list {K : PySem.W.Frag} {F H : Hp} {t : T} {x : V} {f : List Addr} {ds : List PyData} (fh : Same F H) (h : RT K F H t x f) (e : t.val = .list ds) : ∃ a xs, x = .ref a ∧ SqL K H a xs := by
  cases t with
  | sh d =>
    simp only [T.val] at e
    subst e
    simp only [RT, Rp] at h
    obtain ⟨_, a, xs, rfl, q, _⟩ := h
    exact ⟨a, xs, rfl, sqL_mono fh q⟩
  | lst ts =>
    simp only [RT] at h
    obtain ⟨a, xs, g, rfl, e1, _, _⟩ := h
    exact ⟨a, xs, rfl, SqL.of e1⟩
theorem pd_mq {e : Expr} {f g : FE} {op : List PyData → PyData → Option T} {r : V → List V → Hp → VK → Prop} (hK : C.K = X.K)
    (ok : ∀ F H a xs ds y d t Q, Same F H → SqL X.K H a xs → RpAll X.K F ds xs → Rp X.K F d y → op ds d = some t → Res X.K F H t Q → r (.ref a) [y] H Q)
    (h : PE X e (tBM X.K "list" r (tD C f) (tCons (tD C g) tNil))) : PE X e (tD C (eMq op f g)) := by
  refine h.impD fun σ H Q ⟨η, F, fp, o, q⟩ => ?_
  refine tD_step o.aft (Rs.post_mono (Rs.post_bind q) (fun p hp x F1 H1 f1 fp1 a => ?_) fun _ _ z => z)
  have a' : Aft C.K fp F H σ [p.1] [x] p.2 F1 H1 f1 fp1 := a
  split at hp
  · rename_i ds e0
    obtain ⟨b, xs0, rfl, hq⟩ := rt_list a'.fh a'.rt1 e0
    refine ⟨.inl ⟨rfl, xs0, hK ▸ hq⟩, ?_⟩
    refine tD_step a (Rs.post_mono (Rs.post_bind hp) (fun p2 hp2 y F2 H2 f2 fp2 c => ?_) fun _ _ z => z)
    obtain ⟨F3, t, s, rp, e2, k⟩ := fin_res c hp2
    simp only [List.nil_append, List.cons_append, T.vals, RpAll] at rp
    obtain ⟨x', xs, e3, r1, y', ys, rfl, r2, rfl⟩ := rp
    obtain ⟨rfl, rfl⟩ : V.ref b = x' ∧ y = y' := by simpa using e3
    rw [e0] at r1
    simp only [Rp] at r1
    obtain ⟨b', xs, eb, q1, w⟩ := r1
    cases eb
    exact ok F3 H2 b xs ds y p2.1.val t Q s.fh (hK ▸ sqL_mono s.fh q1) (hK ▸ w) (hK ▸ r2) e2 (hK ▸ k)
  · exact hp.elim
/-- the place of the first equal one -/
def mIndex (ds : List PyData) (d : PyData) : Option T := if SeqAt.shaped (.list ds) && SeqAt.shaped d then (ds.findIdx? fun z => PyData.eqv z d).map fun j => .sh (.int (j : Nat)) else none
theorem mIndex_ok : ∀ F H a xs ds y d t Q, Same F H → SqL X.K H a xs → RpAll X.K F ds xs → Rp X.K F d y → mIndex ds d = some t → Res X.K F H t Q → rIndexD X.K (.ref a) [y] H Q := by
  intro F H a xs ds y d t Q fh hs rp rd e k
  unfold mIndex at e
  split at e
  · rename_i hsh
    simp only [Bool.and_eq_true] at hsh
    cases hf : ds.findIdx? fun z => PyData.eqv z d with
    | none => rw [hf] at e; cases e
    | some j =>
      rw [hf] at e
      cases e
      rw [List.findIdx?_eq_some_iff_getElem] at hf
      obtain ⟨hj, h1, h2⟩ := hf
      have hl := SeqAt.canLay_of_shaped hsh.1
      simp only [PyData.canLay0] at hl
      exact ⟨a, y, d, ds, j, ds[j], rfl, rfl, .lst hs ((rp.mono fh).dp hl), (rd.mono fh).dp (SeqAt.canLay_of_shaped hsh.2), hsh.1, hsh.2, List.getElem?_eq_getElem hj, h1, fun m z' hm hz => by
        obtain ⟨hm', e⟩ := List.getElem?_eq_some_iff.mp hz
        have := h2 m hm
        rw [e] at this
        simpa using this, k.int fh⟩
  · cases e
/-- how often a number stands there -/
def mCount (ds : List PyData) (d : PyData) : Option T := match d with
  | .int k => (intsOf ds).map fun ns => .sh (.int (ns.count k : Nat))
  | _ => none
theorem mCount_ok : ∀ F H a xs ds y d t Q, Same F H → SqL X.K H a xs → RpAll X.K F ds xs → Rp X.K F d y → mCount ds d = some t → Res X.K F H t Q → rCntI X.K (.ref a) [y] H Q := by
  intro F H a xs ds y d t Q fh hs rp rd e k
  unfold mCount at e
  split at e
  · rename_i n
    cases hi : intsOf ds with
    | none => rw [hi] at e; cases e
    | some ns =>
      rw [hi] at e
      cases e
      rw [intsOf_eq hi] at rp
      obtain rfl := rpAll_ints rp
      simp only [Rp] at rd
      subst rd
      exact ⟨a, ns, n, rfl, rfl, hs, k.int fh⟩
  · cases e
/-- xs[::-1], xs a list -/
def eRevL (f : FE) : FE := fun η => (f η).bind fun p => match p.1.val with
  | .list ds => .ok (.lst (ds.reverse.map T.sh), p.2)
  | _ => .bad
theorem rpAll_rev {K : PySem.W.Frag} {F : Hp} {ds : List PyData} {xs : List V} (h : RpAll K F ds xs) : RpAll K F ds.reverse xs.reverse := by
  have hl := h.len
  refine RpAll.of_get (by simp [hl]) fun i d v h1 h2 => ?_
  obtain ⟨hi, e1⟩ := List.getElem?_eq_some_iff.mp h1
  obtain ⟨hj, e2⟩ := List.getElem?_eq_some_iff.mp h2
  rw [List.getElem_reverse] at e1 e2
  rw [List.length_reverse] at hi
  obtain ⟨v', h3, h4⟩ := h.get (i := ds.length - 1 - i) (d := d) (by rw [List.getElem?_eq_getElem (by omega), e1])
  have h5 : xs[xs.length - 1 - i]? = some v := by rw [List.getElem?_eq_getElem (by rw [List.length_reverse] at hj; omega), e2]
  rw [hl, h3] at h5
  exact Option.some.inj h5 ▸ h4
theorem pd_revL {e : Expr} {f : FE} (hK : C.K = X.K) (h : PE X e (tRevL X.K (tD C f))) : PE X e (tD C (eRevL f)) := by
  refine h.impD fun σ H Q ⟨η, F, fp, o, q⟩ => ?_
  refine tD_step o.aft (Rs.post_mono (Rs.post_bind q) (fun p hp x F1 H1 f1 fp1 a => ?_) fun _ _ z => z)
  have a' : Aft C.K fp F H σ [p.1] [x] p.2 F1 H1 f1 fp1 := a
  split at hp
  · rename_i ds e0
    obtain ⟨F2, a2, rp⟩ := a'.freeze
    simp only [T.vals, RpAll] at rp
    obtain ⟨x', xs, e1, r1, rfl⟩ := rp
    obtain rfl : x = x' := by simpa using e1
    rw [e0] at r1
    simp only [Rp] at r1
    obtain ⟨b, xs, rfl, q1, w⟩ := r1
    refine ⟨b, xs, rfl, hK ▸ sqL_mono a2.fh q1, fun p' hp' => ?_⟩
    exact hp _ _ _ _ _ (a2.res (ResOk.lst a2.fh (rpAll_rev w) hp'))
  · exact hp.elim
end
end Pv
set_option Elab.async false
set_option linter.all false
set_option maxRecDepth 100000
set_option maxHeartbeats 4000000
namespace Pv
open PySem L2
variable {X : Cx} {C : Cn}

/-! ### statements -/
inductive Fl where
  | nx
  | ret (t : T)
  | bk
  | ct
abbrev FS := Env → Rs (Fl × Env)
/-- the slots that stay -/
def IO (io : List Nat) (σ σ' : St) : Prop := ∀ j ∈ io, σ'[j]? = σ[j]?
theorem IO.refl {io : List Nat} {σ : St} : IO io σ σ := fun _ _ => rfl
theorem IO.trans {io : List Nat} {σ σ1 σ2 : St} (a : IO io σ σ1) (b : IO io σ1 σ2) : IO io σ σ2 := fun j hj => (b j hj).trans (a j hj)
def XPS (C : Cn) (fp : List Addr) (F H : Hp) (e : Ex) (η' : Env) : Prop := ∀ σ' cls d F' H', ExR C F' H' e cls d → RS C.K F' H' η' σ' [] → Same F' H' → Ext fp F H F' H' → C.W cls d σ' H'
theorem XPS.xp {fp : List Addr} {F H : Hp} {σ : St} {e : Ex} {η' : Env} (h : XPS C fp F H e η') : XP C fp F H σ e η' := fun cls d F' H' x r s ext => h σ cls d F' H' x r s ext
def tS (C : Cn) (io : List Nat) (f : FS) : TS := fun D σ H => ∃ η F fp, Ok C.K F H η σ fp ∧ (f η).post (fun p => match p.1 with
  | .nx => ∀ σ' F' H' fp', Aft C.K fp F H σ' [] [] p.2 F' H' [] fp' → IO io σ σ' → D.nx σ' H'
  | .bk => ∀ σ' F' H' fp', Aft C.K fp F H σ' [] [] p.2 F' H' [] fp' → IO io σ σ' → D.bk σ' H'
  | .ct => ∀ σ' F' H' fp', Aft C.K fp F H σ' [] [] p.2 F' H' [] fp' → IO io σ σ' → D.ct σ' H'
  | .ret t => ∀ v σ' F' H' f1 fp', Aft C.K fp F H σ' [t] [v] p.2 F' H' f1 fp' → IO io σ σ' → D.rt v H') (XPS C fp F H)
/-- values consumed, then on -/
theorem Aft.thn {K : PySem.W.Frag} {fp : List Addr} {F H : Hp} {σ σ' : St} {ts us : List T} {vs ws : List V} {η1 η2 : Env} {F1 H1 F2 H2 : Hp} {f1 fp1 f2 fp2 : List Addr} (a : Aft K fp F H σ ts vs η1 F1 H1 f1 fp1)
    (b : Aft K (f1 ++ fp1) F1 H1 σ' us ws η2 F2 H2 f2 fp2) : Aft K fp F H σ' us ws η2 F2 H2 f2 fp2 := by
  refine ⟨b.rt, b.rs, b.nd, b.fn, b.fh, a.ext.trans b.ext a.sub, fun x hx => ?_⟩
  rcases b.sub x hx with z | z
  · exact a.sub x z
  · by_cases hm : x ∈ fp
    · exact .inl hm
    · cases e : H x with
      | none => exact .inr rfl
      | some o => rw [a.ext.keep x o e hm] at z; cases z
theorem XPS.back {fp fp1 f1 : List Addr} {F H F1 H1 : Hp} {σ : St} {ts : List T} {vs : List V} {η1 : Env} {e : Ex} {η' : Env} (a : Aft C.K fp F H σ ts vs η1 F1 H1 f1 fp1) (h : XPS C fp F H e η') : XPS C fp1 F1 H1 e η' :=
  fun σ' cls d F' H' x r s ext => h σ' cls d F' H' x r s (a.ext.trans ext fun b hb => a.sub b (by simp [hb]))
theorem XPS.back' {fp fp1 f1 : List Addr} {F H F1 H1 : Hp} {σ : St} {ts : List T} {vs : List V} {η1 : Env} {e : Ex} {η' : Env} (a : Aft C.K fp F H σ ts vs η1 F1 H1 f1 fp1) (h : XPS C fp F H e η') : XPS C (f1 ++ fp1) F1 H1 e η' :=
  fun σ' cls d F' H' x r s ext => h σ' cls d F' H' x r s (a.ext.trans ext a.sub)
theorem tS_step {fp fp1 : List Addr} {F H F1 H1 : Hp} {σ σ1 : St} {η1 : Env} {io : List Nat} {f : FS} {D : Ends} (a : Aft C.K fp F H σ1 [] [] η1 F1 H1 [] fp1) (hio : IO io σ σ1) (h : (f η1).post (fun p => match p.1 with
  | .nx => ∀ σ' F' H' fp', Aft C.K fp F H σ' [] [] p.2 F' H' [] fp' → IO io σ σ' → D.nx σ' H'
  | .bk => ∀ σ' F' H' fp', Aft C.K fp F H σ' [] [] p.2 F' H' [] fp' → IO io σ σ' → D.bk σ' H'
  | .ct => ∀ σ' F' H' fp', Aft C.K fp F H σ' [] [] p.2 F' H' [] fp' → IO io σ σ' → D.ct σ' H'
  | .ret t => ∀ v σ' F' H' f1 fp', Aft C.K fp F H σ' [t] [v] p.2 F' H' f1 fp' → IO io σ σ' → D.rt v H') (XPS C fp F H)) : tS C io f D σ1 H1 := by
  refine ⟨η1, F1, fp1, a.ok, Rs.post_mono h (fun p hp => ?_) fun e η' he => he.back a⟩
  revert hp
  cases p.1 with
  | nx => exact fun hp σ' F' H' fp' b i => hp σ' F' H' fp' (a.thn b) (hio.trans i)
  | bk => exact fun hp σ' F' H' fp' b i => hp σ' F' H' fp' (a.thn b) (hio.trans i)
  | ct => exact fun hp σ' F' H' fp' b i => hp σ' F' H' fp' (a.thn b) (hio.trans i)
  | ret t => exact fun hp v σ' F' H' f1 fp' b i => hp v σ' F' H' f1 fp' (a.thn b) (hio.trans i)
theorem _root_.L2.PS.impD {X : Cx} {e : Stmt} {t t' : TS} (h : PS X e t) (k : ∀ D σ H, t' D σ H → t D σ H) : PS X e t' := ⟨fun pins s σ H D I q => h.run pins s σ H D I (k D σ H q)⟩
theorem _root_.L2.PSs.impD {X : Cx} {e : List Stmt} {t t' : TS} (h : PSs X e t) (k : ∀ D σ H, t' D σ H → t D σ H) : PSs X e t' := ⟨fun pins s σ H D I q => h.run pins s σ H D I (k D σ H q)⟩
/-! blocks -/
def sNil : FS := fun η => .ok (.nx, η)
def sSeq (f g : FS) : FS := fun η => (f η).bind fun p => match p.1 with
  | .nx => g p.2
  | _ => .ok p
variable {io : List Nat}
theorem psd_nil : PSs X [] (tS C io sNil) := pss_nil.impD fun D σ H ⟨η, F, fp, o, q⟩ => q σ F H fp o.aft .refl
theorem psd_one {st : Stmt} {f : FS} (h : PS X st (tS C io f)) : PSs X [st] (tS C io f) := pss_one h
theorem psd_cons {st : Stmt} {rest : List Stmt} {f g : FS} (h : PS X st (tS C io f)) (h2 : PSs X rest (tS C io g)) : PSs X (st :: rest) (tS C io (sSeq f g)) := by
  refine (pss_cons h h2).impD fun D σ H ⟨η, F, fp, o, q⟩ => ?_
  refine ⟨η, F, fp, o, Rs.post_mono (Rs.post_bind q) (fun p hp => ?_) fun _ _ z => z⟩
  revert hp
  dsimp only
  cases e : p.1 with
  | nx => exact fun hp σ' F' H' fp' a i => tS_step a i hp
  | bk =>
    intro hp
    have hp : (match p.1 with
      | .nx => ∀ σ' F' H' fp', Aft C.K fp F H σ' [] [] p.2 F' H' [] fp' → IO io σ σ' → D.nx σ' H'
      | .bk => ∀ σ' F' H' fp', Aft C.K fp F H σ' [] [] p.2 F' H' [] fp' → IO io σ σ' → D.bk σ' H'
      | .ct => ∀ σ' F' H' fp', Aft C.K fp F H σ' [] [] p.2 F' H' [] fp' → IO io σ σ' → D.ct σ' H'
      | .ret t => ∀ v σ' F' H' f1 fp', Aft C.K fp F H σ' [t] [v] p.2 F' H' f1 fp' → IO io σ σ' → D.rt v H') := hp
    rw [e] at hp
    exact hp
  | ct =>
    intro hp
    have hp : (match p.1 with
      | .nx => ∀ σ' F' H' fp', Aft C.K fp F H σ' [] [] p.2 F' H' [] fp' → IO io σ σ' → D.nx σ' H'
      | .bk => ∀ σ' F' H' fp', Aft C.K fp F H σ' [] [] p.2 F' H' [] fp' → IO io σ σ' → D.bk σ' H'
      | .ct => ∀ σ' F' H' fp', Aft C.K fp F H σ' [] [] p.2 F' H' [] fp' → IO io σ σ' → D.ct σ' H'
      | .ret t => ∀ v σ' F' H' f1 fp', Aft C.K fp F H σ' [t] [v] p.2 F' H' f1 fp' → IO io σ σ' → D.rt v H') := hp
    rw [e] at hp
    exact hp
  | ret t =>
    intro hp
    have hp : (match p.1 with
      | .nx => ∀ σ' F' H' fp', Aft C.K fp F H σ' [] [] p.2 F' H' [] fp' → IO io σ σ' → D.nx σ' H'
      | .bk => ∀ σ' F' H' fp', Aft C.K fp F H σ' [] [] p.2 F' H' [] fp' → IO io σ σ' → D.bk σ' H'
      | .ct => ∀ σ' F' H' fp', Aft C.K fp F H σ' [] [] p.2 F' H' [] fp' → IO io σ σ' → D.ct σ' H'
      | .ret t => ∀ v σ' F' H' f1 fp', Aft C.K fp F H σ' [t] [v] p.2 F' H' f1 fp' → IO io σ σ' → D.rt v H') := hp
    rw [e] at hp
    exact hp
/-! small statements -/
def sBad : FS := fun _ => .bad
theorem psd_never {st : Stmt} : PS X st (tS C io sBad) := ps_never.impD fun D σ H ⟨η, F, fp, o, q⟩ => q.elim
theorem psd_pass {pos : Pos} : PS X (.Pass pos) (tS C io sNil) := ps_pass.impD fun D σ H ⟨η, F, fp, o, q⟩ => q σ F H fp o.aft .refl
def sBreak : FS := fun η => .ok (.bk, η)
def sCont : FS := fun η => .ok (.ct, η)
theorem psd_break {pos : Pos} : PS X (.Break pos) (tS C io sBreak) := ps_break.impD fun D σ H ⟨η, F, fp, o, q⟩ => q σ F H fp o.aft .refl
theorem psd_cont {pos : Pos} : PS X (.Continue pos) (tS C io sCont) := ps_continue.impD fun D σ H ⟨η, F, fp, o, q⟩ => q σ F H fp o.aft .refl
def sExpr (f : FE) : FS := fun η => (f η).bind fun p => .ok (.nx, p.2)
theorem psd_expr {e : Expr} {f : FE} {pos : Pos} (he : PE X e (tD C f)) (hs : swapsWith e none pos.line X.env = pure false := by rfl) : PS X (.Expr e pos) (tS C io (sExpr f)) := by
  refine (ps_expr he hs).impD fun D σ H ⟨η, F, fp, o, q⟩ => ?_
  refine tD_step o.aft (Rs.post_mono (Rs.post_bind q) (fun p hp x F1 H1 f1 fp1 a => ?_) fun _ _ z => z.xp)
  exact hp σ F1 H1 fp1 a.drop .refl
def sRet (f : FE) : FS := fun η => (f η).bind fun p => .ok (.ret p.1, p.2)
theorem psd_ret {e : Expr} {f : FE} {pos : Pos} (he : PE X e (tD C f)) : PS X (.Return (some e) pos) (tS C io (sRet f)) := by
  refine (ps_ret he).impD fun D σ H ⟨η, F, fp, o, q⟩ => ?_
  refine tD_step o.aft (Rs.post_mono (Rs.post_bind q) (fun p hp x F1 H1 f1 fp1 a => ?_) fun _ _ z => z.xp)
  exact hp x σ F1 H1 f1 fp1 a .refl
/-- a name is handed back: its tree goes along -/
def sRetV (i : Nat) : FS := fun η => match η[i]? with
  | some (some t) => .ok (.ret t, η.set i none)
  | _ => .bad
theorem Ok.out {K : PySem.W.Frag} {F H : Hp} {η : Env} {σ : St} {fp : List Addr} {i : Nat} {t : T} (o : Ok K F H η σ fp) (e : η[i]? = some (some t)) : ∃ v f1 fp', σ[i]? = some (some v) ∧ Aft K fp F H σ [t] [v] (η.set i none) F H f1 fp' := by
  obtain ⟨s, h, r, h1, h2, h3, h4⟩ := o.rs.focus (List.getElem?_eq_some_iff.mp e).1
  obtain ⟨v, rfl, rt⟩ := h3 _ e
  obtain ⟨f', rs', pm⟩ := (h4 F H (.refl _) fun _ _ _ z => z).2 (some v)
  rw [set_self h1] at rs'
  have nd : (h ++ r).Nodup := h2.nodup_iff.mp o.nd
  have pm2 : (h ++ f').Perm fp := (pm.append_left h).trans h2.symm
  exact ⟨v, h, f', h1, .one rt, rs', pm2.nodup_iff.mpr o.nd, fun x hx => o.fn x (pm2.mem_iff.mp hx), o.fh, .refl, fun x hx => .inl (pm2.mem_iff.mp hx)⟩
theorem psd_retV {e : Expr} {i : Nat} {pos : Pos} (he : PE X e (tVar i)) : PS X (.Return (some e) pos) (tS C io (sRetV i)) := by
  refine (ps_ret he).impD fun D σ H ⟨η, F, fp, o, q⟩ => ?_
  unfold sRetV at q
  split at q
  · rename_i t e
    obtain ⟨v, f1, fp', h1, a⟩ := o.out e
    exact ⟨v, h1, q v σ F H f1 fp' a .refl⟩
  · exact q.elim
def sRetN : FS := fun η => .ok (.ret (.sh .none), η)
theorem psd_retN {pos : Pos} : PS X (.Return none pos) (tS C io sRetN) := ps_retN.impD fun D σ H ⟨η, F, fp, o, q⟩ => q .non σ F H [] fp (o.res (.here o.fh rp_c.2.2.2)) .refl
def sIf (c : FB) (f g : FS) : FS := fun η => (c η).bind fun p => if p.1 then f p.2 else g p.2
theorem psd_if {c0 : Expr} {a b : List Stmt} {c : FB} {f g : FS} {pos : Pos} (hc : PT X c0 (tB C c)) (ha : PSs X a (tS C io f)) (hb : PSs X b (tS C io g)) : PS X (.If c0 a b pos) (tS C io (sIf c f g)) := by
  refine (ps_if hc ha hb).impD fun D σ H ⟨η, F, fp, o, q⟩ => ?_
  refine tB_step o.aft (Rs.post_mono (Rs.post_bind q) (fun p hp F1 H1 f1 fp1 a => ?_) fun _ _ z => z.xp)
  have hf : f1 = [] := by have := a.rt; simp only [RTs] at this; exact this.2
  subst hf
  cases e : p.1 with
  | true =>
    rw [e, if_pos rfl] at hp
    rw [if_pos rfl]
    exact tS_step a .refl hp
  | false =>
    rw [e, if_neg Bool.false_ne_true] at hp
    rw [if_neg Bool.false_ne_true]
    exact tS_step a .refl hp
/-! ### targets -/
/-- only the slots ws may change -/
def Chg (ws : List Nat) (σ σ' : St) : Prop := σ'.length = σ.length ∧ ∀ j, j ∉ ws → σ'[j]? = σ[j]?
theorem Chg.toIO {ws : List Nat} {σ σ' : St} (h : Chg ws σ σ') (d : ∀ j ∈ io, j ∉ ws) : IO io σ σ' := fun j hj => h.2 j (d j hj)
abbrev FG := T → Env → Rs Env
def tG (C : Cn) (ws : List Nat) (h : FG) : TG := fun v σ H Q => ∃ η F fp t f, Aft C.K (f ++ fp) F H σ [t] [v] η F H f fp ∧ (h t η).post (fun η' => ∀ σ' F' H' fp', Aft C.K (f ++ fp) F H σ' [] [] η' F' H' [] fp' → Chg ws σ σ' → Q σ' H') (XPS C (f ++ fp) F H)
theorem Aft.self {K : PySem.W.Frag} {fp : List Addr} {F H : Hp} {σ : St} {ts : List T} {vs : List V} {η' : Env} {F' H' : Hp} {f1 fp' : List Addr} (a : Aft K fp F H σ ts vs η' F' H' f1 fp') : Aft K (f1 ++ fp') F' H' σ ts vs η' F' H' f1 fp' :=
  ⟨a.rt, a.rs, a.nd, a.fn, a.fh, .refl, fun x hx => .inl hx⟩
/-- a name takes a value -/
theorem Aft.put {K : PySem.W.Frag} {fp : List Addr} {F H : Hp} {σ : St} {t : T} {v : V} {η' : Env} {F' H' : Hp} {f1 fp' : List Addr} (i : Nat) (a : Aft K fp F H σ [t] [v] η' F' H' f1 fp') :
    ∃ fp2, Aft K fp F H (σ.set i (some v)) [] [] (η'.set i (some t)) F' H' [] fp2 := by
  by_cases hi : i < η'.length
  · obtain ⟨s, h, r, h1, h2, h3, h4⟩ := a.rs.focus hi
    obtain ⟨f', rs', pm⟩ := (h4 F' H' (.refl _) fun _ _ _ z => z).1 t v f1 a.rt1
    have sb : ∀ x ∈ f', x ∈ f1 ++ fp' := fun x hx => by
      rcases List.mem_append.mp (pm.mem_iff.mp hx) with hx | hx
      · simp [hx]
      · exact List.mem_append.mpr (.inr (h2.mem_iff.mpr (List.mem_append.mpr (.inr hx))))
    refine ⟨f', .nil, rs', ?_, fun x hx => a.fn x (sb x (by simpa using hx)), a.fh, a.ext, fun x hx => a.sub x (sb x (by simpa using hx))⟩
    rw [List.nil_append]
    refine pm.nodup_iff.mpr (List.nodup_append.mpr ⟨(List.nodup_append.mp a.nd).1, ?_, fun x hx y hy e => ?_⟩)
    · exact (List.nodup_append.mp (h2.nodup_iff.mp (List.nodup_append.mp a.nd).2.1)).2.1
    · exact (List.nodup_append.mp a.nd).2.2 x hx y (h2.mem_iff.mpr (by simp [hy])) e
  · have hl := a.rs.len
    rw [List.set_eq_of_length_le (by omega), List.set_eq_of_length_le (by omega)]
    exact ⟨fp', a.drop⟩
def gN (i : Nat) : FG := fun t η => .ok (η.set i (some t))
theorem pgd_name {i : Nat} {x : Str} {pos : Pos} (h : PG X (.Name x pos) (gName i)) : PG X (.Name x pos) (tG C [i] (gN i)) := by
  refine ⟨fun pins s σ H v u Q I r ⟨η, F, fp, t, f, a, q⟩ => h.run pins s σ H v u Q I r ?_⟩
  obtain ⟨fp2, a2⟩ := a.put i
  refine q _ F H fp2 a2 ⟨by simp, fun j hj => ?_⟩
  have : i ≠ j := fun e => hj (by simp [e])
  rw [List.getElem?_set_ne this]
/-- several targets take data -/
abbrev FGs := List PyData → Env → Rs Env
def gsNil : FGs := fun ds η => match ds with
  | [] => .ok η
  | _ => .bad
def gsCons (h : FG) (hs : FGs) : FGs := fun ds η => match ds with
  | d :: ds => (h (.sh d) η).bind fun η1 => hs ds η1
  | [] => .bad
def tGs (C : Cn) (ws : List Nat) (h : FGs) : TGs := fun vs σ H Q => ∃ η F fp ds, Ok C.K F H η σ fp ∧ RpAll C.K F ds vs ∧ (h ds η).post (fun η' => ∀ σ' F' H' fp', Aft C.K fp F H σ' [] [] η' F' H' [] fp' → Chg ws σ σ' → Q σ' H') (XPS C fp F H)
theorem _root_.L2.PGs.impD {X : Cx} {e : List Expr} {t t' : TGs} (h : PGs X e t) (k : ∀ v σ H Q, t' v σ H Q → t v σ H Q) : PGs X e t' := ⟨fun pins s σ H v u Q I r q => h.run pins s σ H v u Q I r (k v σ H Q q)⟩
theorem _root_.L2.PG.impD {X : Cx} {e : Expr} {t t' : TG} (h : PG X e t) (k : ∀ v σ H Q, t' v σ H Q → t v σ H Q) : PG X e t' := ⟨fun pins s σ H v u Q I r q => h.run pins s σ H v u Q I r (k v σ H Q q)⟩
theorem pgsd_nil : PGs X [] (tGs C [] gsNil) := by
  refine pgs_nil.impD fun vs σ H Q ⟨η, F, fp, ds, o, rp, q⟩ => ?_
  unfold gsNil at q
  split at q
  · simp only [RpAll] at rp
    exact ⟨rp, q σ F H fp o.aft ⟨rfl, fun _ _ => rfl⟩⟩
  · exact q.elim
theorem pgsd_cons {e : Expr} {es : List Expr} {ws wss : List Nat} {h : FG} {hs : FGs} (h1 : PG X e (tG C ws h)) (h2 : PGs X es (tGs C wss hs))
    (ha : (assignEach (e :: es) X.env).map (·.2) = assign e X.env :: (assignEach es X.env).map (·.2) := by rfl) : PGs X (e :: es) (tGs C (ws ++ wss) (gsCons h hs)) := by
  refine (pgs_cons h1 h2 ha).impD fun vs σ H Q ⟨η, F, fp, ds, o, rp, q⟩ => ?_
  unfold gsCons at q
  split at q
  · rename_i d ds
    obtain ⟨x, xs, rfl, r1, r2⟩ := rp.uncons
    have a0 : Aft C.K fp F H σ [.sh d] [x] η F H [] fp := o.res (.here o.fh r1)
    refine ⟨x, xs, rfl, η, F, fp, .sh d, [], a0.self, Rs.post_mono (Rs.post_bind q) (fun η1 hq σ1 F1 H1 fp1 b c1 => ?_) fun _ _ z => z⟩
    have b : Aft C.K fp F H σ1 [] [] η1 F1 H1 [] fp1 := b
    refine ⟨η1, F1, fp1, ds, b.ok, r2.mono b.ext.ff, Rs.post_mono hq (fun η2 hq2 σ2 F2 H2 fp2 c c2 => hq2 σ2 F2 H2 fp2 (b.thn c) ⟨c2.1.trans c1.1, fun j hj => ?_⟩) fun _ _ z => z.back b⟩
    rw [List.mem_append, not_or] at hj
    exact (c2.2 j hj.2).trans (c1.2 j hj.1)
  · exact q.elim
def gTupD (n : Nat) (hs : FGs) : FG := fun t η => match t.val with
  | .tuple ds => if ds.length = n then hs ds η else .bad
  | _ => .bad
theorem pgd_tup {es : List Expr} {k : Nat} {pos : Pos} {ws : List Nat} {n : Nat} {hs : FGs} (hK : C.K = X.K) (hc : X.calm = true) (h : PGs X es (tGs C ws hs)) (hn : (assignEach es X.env).length = n := by rfl) (hst : (assignEach es X.env).findIdx? (·.1) = none := by rfl) :
    PG X (.Tuple es k pos) (tG C ws (gTupD n hs)) := by
  refine (pg_tup hc h hn hst).impD fun v σ H Q ⟨η, F, fp, t, f, a, q⟩ => ?_
  unfold gTupD at q
  split at q
  · rename_i ds e
    split at q
    · rename_i hl
      obtain ⟨F2, a2, rp⟩ := a.freeze
      simp only [T.vals, RpAll] at rp
      obtain ⟨x', xs, e1, r1, rfl⟩ := rp
      obtain rfl : v = x' := by simpa using e1
      rw [e] at r1
      simp only [Rp] at r1
      obtain ⟨p, xs, rfl, q1, w⟩ := r1
      refine ⟨p, xs, rfl, by rw [← hK]; exact sqT_mono a2.fh q1, by rw [w.len]; exact hl, η, F2, fp, ds, a2.ok, w, Rs.post_mono q (fun η' hq σ' F' H' fp' b c => hq σ' F' H' fp' (a2.thn b) c) fun _ _ z => z.back a2⟩
    · exact q.elim
  · exact q.elim
/-- x[i] = .., x a name that owns a list -/
def gSub (i : Nat) (g : FE) : FG := fun t η => match own η i with
  | some _ => (g η).bind fun p => match own p.2 i, p.1 with
    | some us, .sh (.int k) => match ixN us.length k with
      | some j => .ok (setL p.2 i (us.set j t))
      | none => .bad
    | _, _ => .bad
  | none => .bad
theorem pgd_sub {x : Str} {px pos : Pos} {ix : Expr} {i : Nat} {g : FE} (h : PG X (.Subscript (.Name x px) ix pos) (L2.gSub (tVar i) (tD C g) rSetL)) : PG X (.Subscript (.Name x px) ix pos) (tG C [] (gSub i g)) := by
  refine h.impD fun v σ H Q ⟨η, F, fp, t, f, a, q⟩ => ?_
  unfold gSub at q
  split at q
  · rename_i us0 e0
    obtain ⟨p0, xs0, g0, w0, _, _⟩ := a.mut (own_eq e0)
    refine ⟨.ref p0, w0.sl, ?_⟩
    refine tD_step a (Rs.post_mono (Rs.post_bind q) (fun p hp y F1 H1 f1 fp1 b => ?_) fun _ _ z => z.xp)
    have b : Aft C.K (f ++ fp) F H σ [t, p.1] [v, y] p.2 F1 H1 f1 fp1 := b
    split at hp
    · rename_i us k e1 e2
      obtain ⟨g1, g2, rfl, r1, r2⟩ := b.rt2
      rw [e2] at r2
      obtain ⟨rfl, rfl⟩ := rt_int r2
      rw [List.append_nil] at b
      split at hp
      · rename_i j hj
        have b1 : Aft C.K (f ++ fp) F H σ [t] [v] p.2 F1 H1 g1 fp1 := ⟨.one r1, b.rs, b.nd, b.fn, b.fh, b.ext, b.sub⟩
        obtain ⟨p1, xs, g', w, nd, k'⟩ := b1.mut (own_eq e1)
        obtain rfl : p0 = p1 := by have := w.sl; rw [w0.sl] at this; cases this; rfl
        have hl := w.rt.len
        have hjl : j < us.length := (ixN_seq hj).2.1
        obtain ⟨v0, d0, g3, h1, h2, h3, h4, h5⟩ := w.rt.split (k := j) (List.getElem?_eq_getElem hjl)
        obtain ⟨g4, h6, h7⟩ := h5 t v g1 r1
        have nd' := (List.nodup_cons.mp nd).2
        have hsub : ∀ x ∈ g4, x ∈ g' ++ g1 := fun x hx => by
          rcases List.mem_append.mp (h7.mem_iff.mp hx) with hx | hx
          · simp [hx]
          · exact List.mem_append.mpr (.inl (h4.mem_iff.mpr (List.mem_append.mpr (.inr hx))))
        have hnd : g4.Nodup := h7.nodup_iff.mpr (List.nodup_append.mpr ⟨(List.nodup_append.mp nd').2.1, (List.nodup_append.mp (h4.nodup_iff.mp (List.nodup_append.mp nd').1)).2.1, fun x hx y hy e => by
          subst e
          exact (List.nodup_append.mp nd').2.2 x (h4.mem_iff.mpr (by simp [hy])) x hx rfl⟩)
        obtain ⟨fp2, a2⟩ := k' (us.set j t) (xs.set j v) g4 [] [] [] h6 .nil (by simpa using hnd) (by simpa using hsub)
        refine ⟨p0, xs, k, j, rfl, rfl, w.at_, by rw [hl]; exact hj, ?_⟩
        exact hp σ F1 _ fp2 a2 ⟨rfl, fun _ _ => rfl⟩
      · exact hp.elim
    · exact hp.elim
  · exact q.elim
/-! ### assignments -/
def sAsg (f : FE) (h : FG) : FS := fun η => (f η).bind fun p => (h p.1 p.2).bind fun η' => .ok (.nx, η')
theorem t_asg {f : FE} {ws : List Nat} {h : FG} {D : Ends} {σ : St} {H : Hp} (hio : ∀ j ∈ io, j ∉ ws) (q : tS C io (sAsg f h) D σ H) : tAsg (tD C f) (tG C ws h) D σ H := by
  obtain ⟨η, F, fp, o, q⟩ := q
  refine tD_step o.aft (Rs.post_mono (Rs.post_bind q) (fun p hp x F1 H1 f1 fp1 a => ?_) fun _ _ z => z.xp)
  have a : Aft C.K fp F H σ [p.1] [x] p.2 F1 H1 f1 fp1 := a
  refine ⟨p.2, F1, fp1, p.1, f1, a.self, Rs.post_mono (Rs.post_bind hp) (fun η' hq σ' F' H' fp' b c => ?_) fun _ _ z => z.back' a⟩
  exact hq σ' F' H' fp' (a.thn b) (c.toIO hio)
theorem psd_asg {st : Stmt} {f : FE} {ws : List Nat} {h : FG} (hio : ∀ j ∈ io, j ∉ ws) (p : PS X st (tAsg (tD C f) (tG C ws h))) : PS X st (tS C io (sAsg f h)) := p.impD fun _ _ _ => t_asg hio
/-- a name's assignment by its own rule -/
theorem psd_set {st : Stmt} {f : FE} {i : Nat} (hio : i ∉ io) (p : PS X st (tAsg (tD C f) (gName i))) : PS X st (tS C io (sAsg f (gN i))) := by
  refine p.impD fun D σ H ⟨η, F, fp, o, q⟩ => ?_
  refine tD_step o.aft (Rs.post_mono (Rs.post_bind q) (fun p hp x F1 H1 f1 fp1 a => ?_) fun _ _ z => z.xp)
  have a : Aft C.K fp F H σ [p.1] [x] p.2 F1 H1 f1 fp1 := a
  obtain ⟨fp2, a2⟩ := a.put i
  exact hp _ F1 H1 fp2 a2 fun j hj => by
    have : i ≠ j := fun e => hio (e ▸ hj)
    rw [List.getElem?_set_ne this]

/-- the first value goes to a slot, the others stay -/
theorem Aft.putR {K : PySem.W.Frag} {fp : List Addr} {F H : Hp} {σ : St} {t : T} {v : V} {us : List T} {ws : List V} {η' : Env} {F' H' : Hp} {f1 fp' : List Addr} (i : Nat) (a : Aft K fp F H σ (t :: us) (v :: ws) η' F' H' f1 fp') :
    ∃ f2 fp2, Aft K fp F H (σ.set i (some v)) us ws (η'.set i (some t)) F' H' f2 fp2 := by
  obtain ⟨x, xs, g1, g2, e1, rfl, r1, r2⟩ := a.rt.uncons
  obtain ⟨rfl, rfl⟩ : v = x ∧ ws = xs := by simpa using e1
  by_cases hi : i < η'.length
  · obtain ⟨s, h, r, h1, h2, h3, h4⟩ := a.rs.focus hi
    obtain ⟨f', rs', pm⟩ := (h4 F' H' (.refl _) fun _ _ _ z => z).1 t v g1 r1
    have tot : (h ++ (g2 ++ f')).Perm ((g1 ++ g2) ++ fp') := by
      refine List.perm_iff_count.mpr fun z => ?_
      have c1 := h2.count_eq z
      have c2 := pm.count_eq z
      rw [List.count_append] at c1 c2
      rw [List.count_append, List.count_append, List.count_append, List.count_append]
      omega
    have sb : ∀ z ∈ g2 ++ f', z ∈ (g1 ++ g2) ++ fp' := fun z hz => tot.mem_iff.mp (List.mem_append.mpr (.inr hz))
    exact ⟨g2, f', r2, rs', (List.nodup_append.mp (tot.nodup_iff.mpr a.nd)).2.1, fun z hz => a.fn z (sb z hz), a.fh, a.ext, fun z hz => a.sub z (sb z hz)⟩
  · have hl := a.rs.len
    rw [List.set_eq_of_length_le (by omega), List.set_eq_of_length_le (by omega)]
    have sb : ∀ z ∈ g2 ++ fp', z ∈ (g1 ++ g2) ++ fp' := fun z hz => by
      rcases List.mem_append.mp hz with hz | hz
      · exact List.mem_append.mpr (.inl (List.mem_append.mpr (.inr hz)))
      · exact List.mem_append.mpr (.inr hz)
    have nd : (g2 ++ fp').Nodup := by
      have := a.nd
      rw [List.append_assoc] at this
      exact (List.nodup_append.mp this).2.1
    exact ⟨g2, fp', r2, a.rs, nd, fun z hz => a.fn z (sb z hz), a.fh, a.ext, fun z hz => a.sub z (sb z hz)⟩
def sPar (i j : Nat) (g : FA) : FS := fun η => (g η).bind fun p => match p.1 with
  | [t, u] => .ok (.nx, (p.2.set i (some t)).set j (some u))
  | _ => .bad
theorem psd_par {st : Stmt} {i j : Nat} {g : FA} (h1 : i ∉ io) (h2 : j ∉ io) (p : PS X st (tPar i j (tA C g))) : PS X st (tS C io (sPar i j g)) := by
  refine p.impD fun D σ H ⟨η, F, fp, o, q⟩ => ?_
  refine tA_step o.aft (Rs.post_mono (Rs.post_bind q) (fun p hp ws F1 H1 f1 fp1 a => ?_) fun _ _ z => z.xp)
  have a : Aft C.K fp F H σ p.1 ws p.2 F1 H1 f1 fp1 := a
  split at hp
  · rename_i t u e
    rw [e] at a
    have hl := a.rt.len
    match ws, hl with
    | [x, y], _ =>
      refine ⟨x, y, rfl, ?_⟩
      obtain ⟨f2, fp2, b⟩ := a.putR i
      obtain ⟨f3, fp3, c⟩ := b.putR j
      have hf : f3 = [] := by have := c.rt; simp only [RTs] at this; exact this.2
      subst hf
      refine hp _ F1 H1 fp3 c fun k hk => ?_
      have n1 : i ≠ k := fun e => h1 (e ▸ hk)
      have n2 : j ≠ k := fun e => h2 (e ▸ hk)
      rw [List.getElem?_set_ne n2, List.getElem?_set_ne n1]
  · exact hp.elim
end Pv
set_option Elab.async false
set_option linter.all false
set_option maxRecDepth 100000
set_option maxHeartbeats 4000000
/-! enumerate of a tuple; a walk of a list or a tuple, whichever it is -/
namespace PySem
open Sem (wp)
theorem meets_enumerate_new1 {v : Value} {o : Obj} {H : Heap → Prop} (B : Begins v o H) :
    Meets (Builtin.«enumerate.__new__» ⟨[.type "enumerate", v], []⟩) (fun _ R s => H s.heap ∧
      R (.ok (.ret (.ref (s.heap.push o).objs.size))) { s with heap := (s.heap.push o).push { cls := .type "enumerate", data := .fields #[.none, .bool false, .ref s.heap.objs.size, rawInt 0, .none, .none] } }) :=
  .of_wp fun prog w A R s h => by
    obtain ⟨hp, g, d, tk, os⟩ := s; obtain ⟨h1, h⟩ := h
    have hsub := sub_enumerate
    have q1 : ∀ {A' : Around} {E : Value → Shared → Prop} {Q : Value → Shared → Prop}, Q (.ref hp.objs.size) ⟨hp.push o, g, d, tk, os⟩ → wpAny (model prog w) A' (pyIter v) Q E ⟨hp, g, d, tk, os⟩ :=
      fun q => B.iter prog w _ _ ⟨hp, g, d, tk, os⟩ _ h1 q
    wp_walk using q1
    refine wpAny_stack_any fun st => wpAny_pure ?_
    split
    · rename_i c _ _ _ _ _
      cases (c == Value.type "enumerate")
      · wp_walk using q1
        exact ⟨_, rfl, h⟩
      · wp_walk using q1
        exact ⟨_, rfl, h⟩
    · wp_walk using q1
      exact ⟨_, rfl, h⟩
theorem enum_begins1 {prog : Program} {w : World} {A : Around} {E : Value → Shared → Prop} {s : Shared} {v : Value} {o : Obj} {H : Heap → Prop} {Q : Value → Shared → Prop} (B : Begins v o H) (h1 : H s.heap)
    (h : ∀ h', IsEnum h' (s.heap.objs.size + 1) s.heap.objs.size 0 .none → h'.get? s.heap.objs.size = some o → h'.objs.size = s.heap.objs.size + 2 →
      (∀ b o, s.heap.get? b = some o → h'.get? b = some o) → Q (.ref (s.heap.objs.size + 1)) { s with heap := h' }) :
    wpAny (model prog w) A (call (.type "enumerate") [v]) Q E s := by
  refine callType_new F.called_enumerate (by decide) (F.typeCall_enumerate_1 _) (F.newCall_enumerate_1 _) (fun obj => F.args_object_init_2 obj _) F.entry_enumerate_new
    (meets_enumerate_new1 B) ⟨h1, ?_⟩
  have hz : (s.heap.push o).objs.size = s.heap.objs.size + 1 := Heap.size_push ..
  show _ ∧ _
  rw [hz]
  have he : IsEnum ((s.heap.push o).push { cls := .type "enumerate", data := .fields #[.none, .bool false, .ref s.heap.objs.size, rawInt 0, .none, .none] }) (s.heap.objs.size + 1) s.heap.objs.size 0 .none := by
    show Heap.get? _ _ = _
    rw [← hz]
    exact Heap.get?_push_size _ rfl
  refine ⟨⟨_, he, rfl⟩, h _ he (Heap.get?_push_of_some _ (Heap.get?_push_size _ B.free)) (by rw [Heap.size_push, hz]) fun b o q => Heap.get?_push_of_some _ (Heap.get?_push_of_some _ q)⟩
end PySem
namespace L2
open PySem PySem.Spec PyProof.Rows
def IteT (K : PySem.W.Frag) (a : Addr) : It :=
  ⟨fun i H => ∃ (xs : List V) (x : V), SqT K H a xs ∧ xs[i]? = some x, fun i H v H' => ∃ T x, v = .ref T ∧ H T = none ∧ H' = upd H T (.tup [.int (i : Nat), x]) ∧ ∀ xs, SqT K H a xs → xs[i]? = some x, fun i H => ∃ xs : List V, SqT K H a xs ∧ xs.length ≤ i⟩
theorem turn_enumT {P : Program} {w : World} {K : PySem.W.Frag} {elts : List Expr} {kk : Nat} {tpos : Pos} (a e it : Addr) :
    Turn P w K (.Tuple elts kk tpos) (IteT K a) [e, it] e (fun i h => (∃ old, IsEnum h e it ((i : Nat) : Int) old) ∧ h.IsTupleIter it a i ∧ e ≠ it) where
  mem := by simp
  obj := fun i h st b hb => by
    obtain ⟨⟨old, he⟩, ⟨o, ho, hc, hd⟩, _⟩ := st
    have e' : b = e ∨ b = it := by simpa using hb
    rcases e' with z | z
    · rw [z]; exact ⟨_, he, fun v q => nomatch q⟩
    · rw [z]; exact ⟨o, ho, fun v q => by rw [hd] at q; cases q⟩
  keep := fun i h h' st k => let ⟨⟨old, he⟩, hi, hne⟩ := st; ⟨⟨old, k e (by simp) _ he⟩, hi.at fun o q => k it (by simp) o q, hne⟩
  item := by
    intro X hP hw hK hc i pins s σ H E I hf st hg
    subst hP hw hK
    obtain ⟨⟨old, he⟩, hit, hne⟩ := st
    obtain ⟨xs, x, hq, hx⟩ := hg
    obtain ⟨its, rv, p, hz⟩ := I.tuple hq
    obtain ⟨u, hu, ru⟩ := rv.get hx
    have hel : e < s.heap.objs.size := Heap.lt_size he
    have hil : it < s.heap.objs.size := by obtain ⟨_, q, _⟩ := hit; exact Heap.lt_size q
    have pt : s.heap.IsTuple a its.toArray := p
    have hai : a ≠ it := fun z => by
      obtain ⟨o1, e1, c1, _⟩ := pt
      obtain ⟨o2, e2, c2, _⟩ := hit
      rw [z, e2] at e1
      cases e1
      rw [c2] at c1
      exact absurd (Value.type.inj c1) (by decide)
    have hae : a ≠ e := fun z => by
      obtain ⟨o1, e1, c1, _⟩ := pt
      have he' : s.heap.get? e = some _ := he
      rw [z, he'] at e1
      cases e1
      exact absurd (Value.type.inj c1) (by decide)
    have hlt : i < its.toArray.size := by
      have := (List.getElem?_eq_some_iff.mp hu).1
      simpa using this
    refine wpAny_pyNext_enum_itemC (Draws.tuple (A := X.A.in1) (I.ok.hd hc) it a hai its.toArray) he ⟨hit, pt⟩ hlt hne (by simp [hne, hae.symm]) fun y h' tk hy ho hst hT hsz hk => ?_
    have hyu : y = u := by
      have : its.toArray[i]? = some y := hy
      rw [show its.toArray[i]? = its[i]? by simp] at this
      rw [hu] at this; cases this; rfl
    subst hyu
    refine ⟨_, rfl, wpAny_letOwnedTupleGo_enum (s := { s with heap := h', toks := tk + 1 }) ho fun h'' he' sb => ?_⟩
    have hT2 : h''.get? s.heap.objs.size = some { cls := .type "tuple", data := .seq #[.int i tk, y] } := (sb.2 _ (Nat.ne_of_gt hel)).trans hT
    have new : ObjOk X.prog X.w (upd H s.heap.objs.size (.tup [.int (i : Nat), x])) h'' s.heap.objs.size (.tup [.int (i : Nat), x]) :=
      ⟨by show 2 ≤ sizeLine; decide, [.int i tk, y], .cons ⟨_, rfl⟩ (.cons ru .nil), ⟨_, hT2, rfl, _, rfl⟩⟩
    have I1 : Inv X pins σ (upd H s.heap.objs.size (.tup [.int (i : Nat), x])) { s with heap := h'', toks := tk + 1 } :=
      I.turnedNew (ch := [e, it]) (fun b ob hb q => (sb.2 b (fun z => hb (by simp [z]))).trans (hk b ob (fun z => hb (by simp [z])) (fun z => hb (by simp [z])) q)) hf (Nat.le_refl _) new
    refine ⟨.ref s.heap.objs.size, _, I1, rfl, ⟨_, x, rfl, I.hok.fresh (Nat.le_refl _), rfl, fun ys hy => by rw [I.tuple_inj hy hq]; exact hx⟩, ⟨⟨y, ?_⟩, hst.1.at fun o q => (sb.2 it (Ne.symm hne)).trans q, hne⟩, fun b hb => ?_⟩
    · have e1 : ((i + 1 : Nat) : Int) = (i : Int) + 1 := by omega
      rw [e1]; exact he'
    · have hb' : b < s.heap.objs.size := by
        have e' : b = e ∨ b = it := by simpa using hb
        rcases e' with z | z
        · rw [z]; exact hel
        · rw [z]; exact hil
      rw [upd_ne (Nat.ne_of_lt hb')]
      exact (hf b hb).1
  done := by
    intro X hP hw hK hc i pins s σ H E I hf st hg
    subst hP hw hK
    obtain ⟨⟨old, he⟩, hit, hne⟩ := st
    obtain ⟨xs, hq, hx⟩ := hg
    obtain ⟨its, rv, p, hz⟩ := I.tuple hq
    obtain ⟨f0, f1, f2, f3, f4, f5⟩ := hf it (by simp)
    have hl := rv.length
    have hT : s.TypeIs (.ref e) "enumerate" := ⟨_, he, rfl⟩
    unfold pyNext
    refine wpAny_bind (wpAny_attempt (wpAny_callSpecial?_slot (name := Str.ofString "__next__") hT F.slot_enumerate_next
      (wpAny_call_entry F.slot_enumerate_next hT F.entry_enumerate_next ?_ (F.args_enumerate_next_1 _))))
    show wpAny _ _ (field (.ref e) 2 >>= _) _ _ _
    refine wpAny_bind (wpAny_field he rfl (x := .ref it) rfl ?_)
    refine wpAny_bind (wpAny_nextOf_tuple_end (show X.A.in1.in1.handled = none from I.ok.hd hc) hit (show s.heap.IsTuple a its.toArray from p) (by simp; omega) fun h' x he' hx' => ?_)
    obtain ⟨o, ho, hcl⟩ := hx'
    refine wpAny_bind (wpAny_isInstance (T := "StopIteration") (b := true) ⟨o, ho, hcl⟩ isSubtype_stop ?_)
    exact wpAny_pure ⟨rfl, I.turned (t' := s.toks) (fun b o hb q => he' b o hb q) f0 f1 f3 f4 f5⟩
  self := fun A i s Q E st h => let ⟨⟨_, he⟩, _⟩ := st; wpAny_pyIter_enum he h
def iEnumA (K : PySem.W.Frag) (ta : TA) : TI := fun σ H R => ta σ H fun vs H1 => ∃ a xs, vs = [.ref a] ∧ ((SqL K H1 a xs ∧ R (Ite K a) H1) ∨ (SqT K H1 a xs ∧ R (IteT K a) H1))
theorem pi_enumA {X : Cx} {e : Expr} {ta : TA} {p pos tpos : Pos} {elts : List Expr} {kk : Nat} (hg : Gl X "enumerate") (hm : X.mg "enumerate" = none) (ha : PA X [e] ta) (hs : starEach [e] X.env = [(false, eval e X.env)] := by rfl) :
    PI X (.Tuple elts kk tpos) (.Call (.Name "enumerate" p) [e] [] pos) (iEnumA X.K ta) := by
  refine ⟨fun pins s σ H R I h => ?_⟩
  refine Call_ (ld_blt I hg hm boot_enumerate (PyProof.Rows.callWith_type1 (thn (ha.run pos pins s σ H _ I h) fun us s1 ⟨vs, H1, I1, r1, q1⟩ => ?_) hs rfl))
  obtain ⟨a, xs, ex, q1⟩ := q1
  subst ex
  cases r1 with
  | cons r rr =>
    cases rr
    cases r
    have fpk : ∀ b ∈ [s1.heap.objs.size + 1, s1.heap.objs.size], s1.heap.objs.size ≤ b := fun b hb => by
      have e' : b = s1.heap.objs.size + 1 ∨ b = s1.heap.objs.size := by simpa using hb
      rcases e' with z | z
      · rw [z]; exact Nat.le_add_right _ _
      · rw [z]; exact Nat.le_refl _
    rcases q1 with ⟨hq, q⟩ | ⟨hq, q⟩
    · obtain ⟨its, rv, p', hz⟩ := I1.list hq
      refine call_enumerate_list p'.isList fun h' he hit hsz hk => wpAny_pyIter_enum he ?_
      have I2 : Inv X pins σ H1 { s1 with heap := h' } := I1.kept (t' := s1.toks) hk
      exact ⟨s1.heap.objs.size + 1, [s1.heap.objs.size + 1, s1.heap.objs.size], _, _, H1, rfl, I2, turn_enum a (s1.heap.objs.size + 1) s1.heap.objs.size, ⟨⟨.none, he⟩, hit, Nat.succ_ne_self _⟩, fun b hb => I1.fpOk (fpk b hb) (I1.hok.fresh (fpk b hb)), q⟩
    · obtain ⟨its, rv, p', hz⟩ := I1.tuple hq
      refine enum_begins1 (begins_tuple a its.toArray) (show s1.heap.IsTuple a its.toArray from p') fun h' he hit hsz hk => wpAny_pyIter_enum he ?_
      have I2 : Inv X pins σ H1 { s1 with heap := h' } := I1.kept (t' := s1.toks) hk
      exact ⟨s1.heap.objs.size + 1, [s1.heap.objs.size + 1, s1.heap.objs.size], _, _, H1, rfl, I2, turn_enumT a (s1.heap.objs.size + 1) s1.heap.objs.size, ⟨⟨.none, he⟩, ⟨_, hit, rfl, rfl⟩, Nat.succ_ne_self _⟩, fun b hb => I1.fpOk (fpk b hb) (I1.hok.fresh (fpk b hb)), q⟩
/-- a list or a tuple -/
def iSeq (K : PySem.W.Frag) (tl : TE) : TI := fun σ H R => tl σ H fun x H1 => ∃ a xs, x = .ref a ∧ ((SqL K H1 a xs ∧ R (Itl K a) H1) ∨ (SqT K H1 a xs ∧ R (Itt K a) H1))
theorem pi_seq {X : Cx} {tg l : Expr} {tl : TE} (hl : PE X l tl) : PI X tg l (iSeq X.K tl) := by
  refine ⟨fun pins s σ H R I h => ?_⟩
  refine thn (hl.run pins s σ H _ I h) fun v s1 ⟨x, H1, I1, r1, q1⟩ => ?_
  obtain ⟨a, xs, e, q⟩ := q1
  subst e
  cases r1
  have fresh : ∀ b ∈ [s1.heap.objs.size], FpOk X pins H1 b := fun b hb => by
    have e : b = s1.heap.objs.size := by simpa using hb
    subst e
    exact I1.fpOk (Nat.le_refl _) (I1.hok.fresh (Nat.le_refl _))
  rcases q with ⟨hq, q⟩ | ⟨hq, q⟩
  · obtain ⟨its, rv, p, hz⟩ := I1.list hq
    refine wpAny_pyIter_list p.isList ?_
    exact ⟨s1.heap.objs.size, [s1.heap.objs.size], _, _, H1, rfl, I1.kept (t' := s1.toks) fun b o e => Heap.get?_push_of_some _ e, turn_list a _, ⟨_, Heap.get?_push_size _ rfl, rfl, rfl⟩, fresh, q⟩
  · obtain ⟨its, rv, p, hz⟩ := I1.tuple hq
    refine wpAny_pyIter_tuple (show s1.heap.IsTuple a its.toArray from p) ?_
    exact ⟨s1.heap.objs.size, [s1.heap.objs.size], _, _, H1, rfl, I1.kept (t' := s1.toks) fun b o e => Heap.get?_push_of_some _ e, turn_tuple a _, ⟨_, Heap.get?_push_size _ rfl, rfl, rfl⟩, fresh, q⟩
end L2
set_option Elab.async false
set_option linter.all false
set_option maxRecDepth 100000
set_option maxHeartbeats 4000000
namespace Pv
open PySem L2 RZ
variable {X : Cx} {C : Cn}

/-! ### what is walked -/
/-- ds: what the walk yields; inv: what must stay -/
structure ItOk (K : PySem.W.Frag) (inv : Hp → Hp → Prop) (F : Hp) (ds : List PyData) (J : It) : Prop where
  go : ∀ (i : Nat) (Fk Hk : Hp), i < ds.length → Same F Fk → Same Fk Hk → inv Fk Hk → J.go i Hk
  stop : ∀ (Fk Hk : Hp), Same F Fk → Same Fk Hk → inv Fk Hk → J.stop ds.length Hk
  yld : ∀ (i : Nat) (d : PyData) (Fk Hk : Hp) (x : V) (H' : Hp), ds[i]? = some d → Same F Fk → Same Fk Hk → inv Fk Hk → J.yld i Hk x H' → ∃ F2, ResOk K Fk Hk (.sh d) x F2 H' []
def inv0 : Hp → Hp → Prop := fun _ _ => True
abbrev FI := Env → Rs (List PyData × Env)
/-- a walk of an expression's value -/
def tI (C : Cn) (f : FI) : TI := fun σ H R => ∃ η F fp, Ok C.K F H η σ fp ∧ (f η).post (fun p => ∀ F' H' fp' J, Aft C.K fp F H σ [] [] p.2 F' H' [] fp' → ItOk C.K inv0 F' p.1 J → R J H') (XP C fp F H σ)
/-- a walk of what stands in slot i -/
def tIV (C : Cn) (i : Nat) : TI := fun σ H R => ∃ η F fp d ds v, Ok C.K F H η σ fp ∧ pk η i = some d ∧ (d = .list ds ∨ d = .tuple ds) ∧ σ[i]? = some (some v) ∧
  ∀ J, ItOk C.K (fun Fk Hk => Rq C.K Fk Hk d v) F ds J → R J H
theorem _root_.L2.PI.impD {X : Cx} {tg e : Expr} {t t' : TI} (h : PI X tg e t) (k : ∀ σ H R, t' σ H R → t σ H R) : PI X tg e t' := ⟨fun pins s σ H R I q => h.run pins s σ H R I (k σ H R q)⟩
def seqOf : PyData → Option (List PyData)
  | .list ds => some ds
  | .tuple ds => some ds
  | _ => none
theorem seqOf_eq {d : PyData} {ds : List PyData} (h : seqOf d = some ds) : d = .list ds ∨ d = .tuple ds := by
  cases d <;> simp_all [seqOf]
def iE (f : FE) : FI := fun η => (f η).bind fun p => match seqOf p.1.val with
  | some ds => .ok (ds, p.2)
  | none => .bad
theorem itl_ok {K : PySem.W.Frag} {F H : Hp} {ds : List PyData} {a : Addr} {xs : List V} (q : SqL K F a xs) (rp : RpAll K F ds xs) : ItOk K inv0 F ds (Itl K a) where
  go := fun i Fk Hk hi sf sh _ => by
    have hl := rp.len
    exact ⟨xs, xs[i]'(by omega), sqL_mono sh (sqL_mono sf q), by simp [hl, hi]⟩
  stop := fun Fk Hk sf sh _ => ⟨xs, sqL_mono sh (sqL_mono sf q), by rw [rp.len]; exact Nat.le_refl _⟩
  yld := fun i d Fk Hk x H' hd sf sh _ y => by
    obtain ⟨e, y⟩ := y
    subst e
    obtain ⟨v, h1, h2⟩ := rp.get hd
    have := y xs (sqL_mono sh (sqL_mono sf q))
    rw [h1] at this; cases this
    exact ⟨Fk, .here sh (h2.mono sf)⟩
theorem itt_ok {K : PySem.W.Frag} {F H : Hp} {ds : List PyData} {a : Addr} {xs : List V} (q : SqT K F a xs) (rp : RpAll K F ds xs) : ItOk K inv0 F ds (Itt K a) where
  go := fun i Fk Hk hi sf sh _ => by
    have hl := rp.len
    exact ⟨xs, xs[i]'(by omega), sqT_mono sh (sqT_mono sf q), by simp [hl, hi]⟩
  stop := fun Fk Hk sf sh _ => ⟨xs, sqT_mono sh (sqT_mono sf q), by rw [rp.len]; exact Nat.le_refl _⟩
  yld := fun i d Fk Hk x H' hd sf sh _ y => by
    obtain ⟨e, y⟩ := y
    subst e
    obtain ⟨v, h1, h2⟩ := rp.get hd
    have := y xs (sqT_mono sh (sqT_mono sf q))
    rw [h1] at this; cases this
    exact ⟨Fk, .here sh (h2.mono sf)⟩
theorem pid_seq {tg e : Expr} {f : FE} (hK : C.K = X.K) (h : PE X e (tD C f)) : PI X tg e (tI C (iE f)) := by
  refine (pi_seq (tg := tg) h).impD fun σ H R ⟨η, F, fp, o, q⟩ => ?_
  refine tD_step o.aft (Rs.post_mono (Rs.post_bind q) (fun p hp x F1 H1 f1 fp1 a => ?_) fun _ _ z => z)
  split at hp
  · rename_i ds e
    obtain ⟨F2, a2, rp⟩ := a.freeze
    simp only [List.nil_append, T.vals, RpAll] at rp
    obtain ⟨x', xs, e1, r1, rfl⟩ := rp
    obtain rfl : x = x' := by simpa using e1
    rcases seqOf_eq e with e | e
    · rw [e] at r1
      simp only [Rp] at r1
      obtain ⟨p', xs, rfl, q1, w⟩ := r1
      refine ⟨p', xs, rfl, .inl ⟨by rw [← hK]; exact sqL_mono a2.fh q1, hp F2 H1 fp1 _ a2 ?_⟩⟩
      rw [← hK]
      exact itl_ok (H := H1) q1 w
    · rw [e] at r1
      simp only [Rp] at r1
      obtain ⟨p', xs, rfl, q1, w⟩ := r1
      refine ⟨p', xs, rfl, .inr ⟨by rw [← hK]; exact sqT_mono a2.fh q1, hp F2 H1 fp1 _ a2 ?_⟩⟩
      rw [← hK]
      exact itt_ok (H := H1) q1 w
  · exact hp.elim
/-- .. of a name -/
theorem pid_seqV {tg e : Expr} {i : Nat} (hK : C.K = X.K) (h : PE X e (tVar i)) : PI X tg e (tIV C i) := by
  refine (pi_seq (tg := tg) h).impD fun σ H R ⟨η, F, fp, d, ds, v, o, e, ed, hv, k⟩ => ?_
  obtain ⟨w, hw, rq⟩ := pk_rq o e
  obtain rfl : v = w := by rw [hv] at hw; cases hw; rfl
  refine ⟨v, hv, ?_⟩
  rcases ed with rfl | rfl
  · obtain ⟨a, xs, rfl, q, rp⟩ := rq_list o.fh rq
    refine ⟨a, xs, rfl, .inl ⟨by rw [← hK]; exact q, k _ ?_⟩⟩
    rw [← hK]
    refine ⟨fun i Fk Hk hi sf sh iv => ?_, fun Fk Hk sf sh iv => ?_, fun i d Fk Hk x H' hd sf sh iv y => ?_⟩
    · obtain ⟨a', xs', e', q', rp'⟩ := rq_list sh iv
      cases e'
      have hl := rp'.len
      exact ⟨xs', xs'[i]'(by omega), q', by simp [hl, hi]⟩
    · obtain ⟨a', xs', e', q', rp'⟩ := rq_list sh iv
      cases e'
      exact ⟨xs', q', by rw [rp'.len]; exact Nat.le_refl _⟩
    · obtain ⟨a', xs', e', q', rp'⟩ := rq_list sh iv
      cases e'
      obtain ⟨e, y⟩ := y
      subst e
      obtain ⟨v, h1, h2⟩ := rp'.get hd
      have := y xs' q'
      rw [h1] at this; cases this
      exact ⟨Fk, .here sh h2⟩
  · obtain ⟨a, xs, rfl, q, rp⟩ := rq_tup rq
    refine ⟨a, xs, rfl, .inr ⟨by rw [← hK]; exact sqT_mono o.fh q, k _ ?_⟩⟩
    rw [← hK]
    have w := itt_ok (H := H) q rp
    exact ⟨fun i Fk Hk hi sf sh _ => w.go i Fk Hk hi sf sh trivial, fun Fk Hk sf sh _ => w.stop Fk Hk sf sh trivial, fun i d Fk Hk x H' hd sf sh _ y => w.yld i d Fk Hk x H' hd sf sh trivial y⟩
/-! range -/
def rg62 (i : Int) : Bool := decide (-1000000000 ≤ i) && decide (i ≤ 1000000000)
def iR1 (f : FE) : FI := fun η => (f η).bind fun p => match p.1 with
  | .sh (.int j) => if rg62 j then .ok (rgD 0 j, p.2) else .bad
  | _ => .bad
def iR2 (f g : FE) : FI := fun η => (f η).bind fun p => (g p.2).bind fun q => match p.1, q.1 with
  | .sh (.int i), .sh (.int j) => if rg62 i && rg62 j then .ok (rgD i j, q.2) else .bad
  | _, _ => .bad
theorem itr_ok {K : PySem.W.Frag} {F : Hp} (i j : Int) : ItOk K inv0 F (rgD i j) (Itr i (j - i).toNat) where
  go := fun k Fk Hk hk _ _ _ => by
    show k < (j - i).toNat
    simpa [rgD] using hk
  stop := fun Fk Hk _ _ _ => by
    show (j - i).toNat ≤ (rgD i j).length
    simp [rgD]
  yld := fun k d Fk Hk x H' hd sf sh _ y => by
    obtain ⟨e, y⟩ := y
    subst e y
    refine ⟨Fk, .here sh ?_⟩
    unfold rgD at hd
    rw [List.getElem?_map] at hd
    cases e : (List.range (j - i).toNat)[k]? with
    | none => rw [e] at hd; cases hd
    | some m =>
      rw [e] at hd
      cases hd
      have : m = k := by
        obtain ⟨h1, h2⟩ := List.getElem?_eq_some_iff.mp e
        simpa using h2.symm
      subst this
      exact rp_c.1
theorem rg62_ok {i : Int} (h : rg62 i = true) : -(2 ^ 62) ≤ i ∧ i < 2 ^ 62 := by
  unfold rg62 at h
  simp only [Bool.and_eq_true, decide_eq_true_eq] at h
  have e : (2 : Int) ^ 62 = 4611686018427387904 := by decide
  rw [e]
  omega
theorem pid_r1 {tg e : Expr} {f : FE} (h : PI X tg e (iRng1 (tCons (tD C f) tNil))) : PI X tg e (tI C (iR1 f)) := by
  refine h.impD fun σ H R ⟨η, F, fp, o, q⟩ => ?_
  refine tD_step o.aft (Rs.post_mono (Rs.post_bind q) (fun p hp x F1 H1 f1 fp1 a => ?_) fun _ _ z => z)
  have a : Aft C.K fp F H σ [p.1] [x] p.2 F1 H1 f1 fp1 := a
  split at hp
  · rename_i j e
    rw [e] at a
    split at hp
    · rename_i hr
      obtain ⟨rfl, rfl⟩ := rt_int a.rt1
      obtain ⟨h1, h2⟩ := rg62_ok hr
      refine ⟨j, rfl, h1, h2, hp F1 H1 fp1 _ a.drop ?_⟩
      have := itr_ok (K := C.K) (F := F1) 0 j
      simpa using this
    · exact hp.elim
  · exact hp.elim
theorem pid_r2 {tg e : Expr} {f g : FE} (h : PI X tg e (iRng2 (tCons (tD C f) (tCons (tD C g) tNil)))) : PI X tg e (tI C (iR2 f g)) := by
  refine h.impD fun σ H R ⟨η, F, fp, o, q⟩ => ?_
  refine tD_step o.aft (Rs.post_mono (Rs.post_bind q) (fun p hp x F1 H1 f1 fp1 a => ?_) fun _ _ z => z)
  refine tD_step a (Rs.post_mono (Rs.post_bind hp) (fun p2 hp2 y F2 H2 f2 fp2 b => ?_) fun _ _ z => z)
  have b : Aft C.K fp F H σ [p.1, p2.1] [x, y] p2.2 F2 H2 f2 fp2 := b
  split at hp2
  · rename_i i j e1 e2
    split at hp2
    · rename_i hr
      simp only [Bool.and_eq_true] at hr
      obtain ⟨g1, g2, rfl, r1, r2⟩ := b.rt2
      rw [e1] at r1
      rw [e2] at r2
      obtain ⟨rfl, rfl⟩ := rt_int r1
      obtain ⟨rfl, rfl⟩ := rt_int r2
      obtain ⟨h1, h2⟩ := rg62_ok hr.1
      obtain ⟨h3, h4⟩ := rg62_ok hr.2
      exact ⟨i, j, rfl, ⟨h1, h2, h3, h4⟩, hp2 F2 H2 fp2 _ b.drop (itr_ok i j)⟩
    · exact hp2.elim
  · exact hp2.elim
/-! enumerate, zip: pairs -/
def enumD : Nat → List PyData → List PyData
  | _, [] => []
  | n, d :: ds => .tuple [.int n, d] :: enumD (n + 1) ds
theorem enumD_len : ∀ (n : Nat) (ds : List PyData), (enumD n ds).length = ds.length
  | _, [] => rfl
  | n, d :: ds => by simp [enumD, enumD_len (n + 1) ds]
theorem enumD_get : ∀ (n : Nat) (ds : List PyData) (i : Nat) (e : PyData), (enumD n ds)[i]? = some e → ∃ d, ds[i]? = some d ∧ e = .tuple [.int ((n + i : Nat) : Int), d]
  | _, [], i, e, h => by simp [enumD] at h
  | n, d :: ds, 0, e, h => by
    simp only [enumD, List.getElem?_cons_zero, Option.some.injEq] at h
    exact ⟨d, rfl, h.symm⟩
  | n, d :: ds, i + 1, e, h => by
    simp only [enumD, List.getElem?_cons_succ] at h
    obtain ⟨d', h1, h2⟩ := enumD_get (n + 1) ds i e h
    refine ⟨d', by simpa using h1, ?_⟩
    rw [h2]
    congr 3
    omega
def zipD : List PyData → List PyData → List PyData
  | a :: as, b :: bs => .tuple [a, b] :: zipD as bs
  | _, _ => []
theorem zipD_len : ∀ (as bs : List PyData), (zipD as bs).length = min as.length bs.length
  | [], _ => by simp [zipD]
  | _ :: _, [] => by simp [zipD]
  | a :: as, b :: bs => by
    simp [zipD, zipD_len as bs]
theorem zipD_get : ∀ (as bs : List PyData) (i : Nat) (e : PyData), (zipD as bs)[i]? = some e → ∃ a b, as[i]? = some a ∧ bs[i]? = some b ∧ e = .tuple [a, b]
  | [], _, i, e, h => by simp [zipD] at h
  | _ :: _, [], i, e, h => by simp [zipD] at h
  | a :: as, b :: bs, 0, e, h => by
    simp only [zipD, List.getElem?_cons_zero, Option.some.injEq] at h
    exact ⟨a, b, rfl, rfl, h.symm⟩
  | a :: as, b :: bs, i + 1, e, h => by
    simp only [zipD, List.getElem?_cons_succ] at h
    obtain ⟨a', b', h1, h2, h3⟩ := zipD_get as bs i e h
    exact ⟨a', b', by simpa using h1, by simpa using h2, h3⟩
/-- a list or a tuple, read -/
def Sq (K : PySem.W.Frag) (F : Hp) (ds : List PyData) (a : Addr) (xs : List V) (l : Bool) : Prop := RpAll K F ds xs ∧ (if l then SqL K F a xs else SqT K F a xs)
theorem pair_new {K : PySem.W.Frag} {Fk Hk : Hp} {d e : PyData} {x y : V} {p : Addr} (sh : Same Fk Hk) (h1 : Rp K Fk d x) (h2 : Rp K Fk e y) (hp : Hk p = none) : ∃ F2, ResOk K Fk Hk (.sh (.tuple [d, e])) (.ref p) F2 (upd Hk p (.tup [x, y])) [] :=
  ⟨_, .tup sh (.consI h1 (.one h2)) hp⟩
theorem ite_ok {K : PySem.W.Frag} {F : Hp} {ds : List PyData} {a : Addr} {xs : List V} (q : SqL K F a xs) (rp : RpAll K F ds xs) : ItOk K inv0 F (enumD 0 ds) (Ite K a) where
  go := fun i Fk Hk hi sf sh _ => by
    have hl := rp.len
    rw [enumD_len] at hi
    exact ⟨xs, xs[i]'(by omega), sqL_mono sh (sqL_mono sf q), by simp [hl, hi]⟩
  stop := fun Fk Hk sf sh _ => ⟨xs, sqL_mono sh (sqL_mono sf q), by rw [enumD_len, rp.len]; exact Nat.le_refl _⟩
  yld := fun i d Fk Hk x H' hd sf sh _ y => by
    obtain ⟨p, u, rfl, hp, rfl, y⟩ := y
    obtain ⟨d', h1, rfl⟩ := enumD_get _ _ _ _ hd
    obtain ⟨v, h2, h3⟩ := rp.get h1
    have := y xs (sqL_mono sh (sqL_mono sf q))
    rw [h2] at this; cases this
    rw [Nat.zero_add]
    exact pair_new sh rp_c.1 (h3.mono sf) hp
theorem iteT_ok {K : PySem.W.Frag} {F : Hp} {ds : List PyData} {a : Addr} {xs : List V} (q : SqT K F a xs) (rp : RpAll K F ds xs) : ItOk K inv0 F (enumD 0 ds) (IteT K a) where
  go := fun i Fk Hk hi sf sh _ => by
    have hl := rp.len
    rw [enumD_len] at hi
    exact ⟨xs, xs[i]'(by omega), sqT_mono sh (sqT_mono sf q), by simp [hl, hi]⟩
  stop := fun Fk Hk sf sh _ => ⟨xs, sqT_mono sh (sqT_mono sf q), by rw [enumD_len, rp.len]; exact Nat.le_refl _⟩
  yld := fun i d Fk Hk x H' hd sf sh _ y => by
    obtain ⟨p, u, rfl, hp, rfl, y⟩ := y
    obtain ⟨d', h1, rfl⟩ := enumD_get _ _ _ _ hd
    obtain ⟨v, h2, h3⟩ := rp.get h1
    have := y xs (sqT_mono sh (sqT_mono sf q))
    rw [h2] at this; cases this
    rw [Nat.zero_add]
    exact pair_new sh rp_c.1 (h3.mono sf) hp
def iEn (f : FE) : FI := fun η => (f η).bind fun p => match seqOf p.1.val with
  | some ds => .ok (enumD 0 ds, p.2)
  | none => .bad
theorem pid_enum {tg e : Expr} {f : FE} (hK : C.K = X.K) (h : PI X tg e (iEnumA X.K (tCons (tD C f) tNil))) : PI X tg e (tI C (iEn f)) := by
  refine h.impD fun σ H R ⟨η, F, fp, o, q⟩ => ?_
  refine tD_step o.aft (Rs.post_mono (Rs.post_bind q) (fun p hp x F1 H1 f1 fp1 a => ?_) fun _ _ z => z)
  split at hp
  · rename_i ds e
    obtain ⟨F2, a2, rp⟩ := a.freeze
    simp only [List.nil_append, T.vals, RpAll] at rp
    obtain ⟨x', xs, e1, r1, rfl⟩ := rp
    obtain rfl : x = x' := by simpa using e1
    rcases seqOf_eq e with e | e
    · rw [e] at r1
      simp only [Rp] at r1
      obtain ⟨p', xs, rfl, q1, w⟩ := r1
      refine ⟨p', xs, rfl, .inl ⟨by rw [← hK]; exact sqL_mono a2.fh q1, hp F2 H1 fp1 _ a2 ?_⟩⟩
      rw [← hK]
      exact ite_ok q1 w
    · rw [e] at r1
      simp only [Rp] at r1
      obtain ⟨p', xs, rfl, q1, w⟩ := r1
      refine ⟨p', xs, rfl, .inr ⟨by rw [← hK]; exact sqT_mono a2.fh q1, hp F2 H1 fp1 _ a2 ?_⟩⟩
      rw [← hK]
      exact iteT_ok q1 w
  · exact hp.elim
theorem itz_ok {K : PySem.W.Frag} {F : Hp} {ds es : List PyData} {a b : Addr} {xs ys : List V} (q : SqL K F a xs) (rp : RpAll K F ds xs) (q2 : SqL K F b ys) (rp2 : RpAll K F es ys) : ItOk K inv0 F (zipD ds es) (Itz K a b) where
  go := fun i Fk Hk hi sf sh _ => by
    have hl := rp.len
    have hl2 := rp2.len
    rw [zipD_len] at hi
    exact ⟨xs, ys, xs[i]'(by omega), ys[i]'(by omega), sqL_mono sh (sqL_mono sf q), sqL_mono sh (sqL_mono sf q2), List.getElem?_eq_getElem _, List.getElem?_eq_getElem _⟩
  stop := fun Fk Hk sf sh _ => ⟨xs, ys, sqL_mono sh (sqL_mono sf q), sqL_mono sh (sqL_mono sf q2), by rw [zipD_len, rp.len, rp2.len]; omega⟩
  yld := fun i d Fk Hk x H' hd sf sh _ y => by
    obtain ⟨p, u, u2, rfl, hp, rfl, y, y2⟩ := y
    obtain ⟨d', e', h1, h1', rfl⟩ := zipD_get _ _ _ _ hd
    obtain ⟨v, h2, h3⟩ := rp.get h1
    obtain ⟨v2, h4, h5⟩ := rp2.get h1'
    have := y xs (sqL_mono sh (sqL_mono sf q))
    rw [h2] at this; cases this
    have := y2 ys (sqL_mono sh (sqL_mono sf q2))
    rw [h4] at this; cases this
    exact pair_new sh (h3.mono sf) (h5.mono sf) hp
theorem itzT_ok {K : PySem.W.Frag} {F : Hp} {ds es : List PyData} {a b : Addr} {xs ys : List V} (q : SqT K F a xs) (rp : RpAll K F ds xs) (q2 : SqT K F b ys) (rp2 : RpAll K F es ys) : ItOk K inv0 F (zipD ds es) (ItzT K a b) where
  go := fun i Fk Hk hi sf sh _ => by
    have hl := rp.len
    have hl2 := rp2.len
    rw [zipD_len] at hi
    exact ⟨xs, ys, xs[i]'(by omega), ys[i]'(by omega), sqT_mono sh (sqT_mono sf q), sqT_mono sh (sqT_mono sf q2), List.getElem?_eq_getElem _, List.getElem?_eq_getElem _⟩
  stop := fun Fk Hk sf sh _ => ⟨xs, ys, sqT_mono sh (sqT_mono sf q), sqT_mono sh (sqT_mono sf q2), by rw [zipD_len, rp.len, rp2.len]; omega⟩
  yld := fun i d Fk Hk x H' hd sf sh _ y => by
    obtain ⟨p, u, u2, rfl, hp, rfl, y, y2⟩ := y
    obtain ⟨d', e', h1, h1', rfl⟩ := zipD_get _ _ _ _ hd
    obtain ⟨v, h2, h3⟩ := rp.get h1
    obtain ⟨v2, h4, h5⟩ := rp2.get h1'
    have := y xs (sqT_mono sh (sqT_mono sf q))
    rw [h2] at this; cases this
    have := y2 ys (sqT_mono sh (sqT_mono sf q2))
    rw [h4] at this; cases this
    exact pair_new sh (h3.mono sf) (h5.mono sf) hp
/-- lists or tuples -/
def iZ (f g : FE) : FI := fun η => (f η).bind fun p => (g p.2).bind fun q => match seqOf p.1.val, seqOf q.1.val with
  | some ds, some es => .ok (zipD ds es, q.2)
  | _, _ => .bad
end Pv
set_option Elab.async false
set_option linter.all false
set_option maxRecDepth 100000
set_option maxHeartbeats 4000000
namespace Pv
open PySem L2
variable {X : Cx} {C : Cn} {io : List Nat}

def Cont (C : Cn) (io : List Nat) (fp : List Addr) (F H : Hp) (σ : St) (D : Ends) (p : Fl × Env) : Prop := match p.1 with
  | .nx => ∀ σ' F' H' fp', Aft C.K fp F H σ' [] [] p.2 F' H' [] fp' → IO io σ σ' → D.nx σ' H'
  | .bk => ∀ σ' F' H' fp', Aft C.K fp F H σ' [] [] p.2 F' H' [] fp' → IO io σ σ' → D.bk σ' H'
  | .ct => ∀ σ' F' H' fp', Aft C.K fp F H σ' [] [] p.2 F' H' [] fp' → IO io σ σ' → D.ct σ' H'
  | .ret t => ∀ v σ' F' H' f1 fp', Aft C.K fp F H σ' [t] [v] p.2 F' H' f1 fp' → IO io σ σ' → D.rt v H'
theorem tS_def {f : FS} {D : Ends} {σ : St} {H : Hp} : tS C io f D σ H ↔ ∃ η F fp, Ok C.K F H η σ fp ∧ (f η).post (Cont C io fp F H σ D) (XPS C fp F H) := Iff.rfl
theorem Cont.back {fp fp1 : List Addr} {F H F1 H1 : Hp} {σ σ1 : St} {η1 : Env} {D : Ends} (a : Aft C.K fp F H σ1 [] [] η1 F1 H1 [] fp1) (hio : IO io σ σ1) {p : Fl × Env} (h : Cont C io fp F H σ D p) : Cont C io fp1 F1 H1 σ1 D p := by
  unfold Cont at h ⊢
  revert h
  cases p.1 with
  | nx => exact fun hp σ' F' H' fp' b i => hp σ' F' H' fp' (a.thn b) (hio.trans i)
  | bk => exact fun hp σ' F' H' fp' b i => hp σ' F' H' fp' (a.thn b) (hio.trans i)
  | ct => exact fun hp σ' F' H' fp' b i => hp σ' F' H' fp' (a.thn b) (hio.trans i)
  | ret t => exact fun hp v σ' F' H' f1 fp' b i => hp v σ' F' H' f1 fp' (a.thn b) (hio.trans i)
/-! ### equality that can be run -/
mutual
def deq : PyData → PyData → Bool
  | .none, .none => true
  | .bool a, .bool b => a == b
  | .int a, .int b => a == b
  | .str a, .str b => decide (a = b)
  | .list a, .list b => deqs a b
  | .tuple a, .tuple b => deqs a b
  | .dict a, .dict b => deqk a b
  | _, _ => false
def deqs : List PyData → List PyData → Bool
  | [], [] => true
  | a :: as, b :: bs => deq a b && deqs as bs
  | _, _ => false
def deqk : List (PyData × PyData) → List (PyData × PyData) → Bool
  | [], [] => true
  | (a, x) :: as, (b, y) :: bs => deq a b && (deq x y && deqk as bs)
  | _, _ => false
end
mutual
theorem deq_eq : ∀ {a b : PyData}, deq a b = true → a = b
  | .none, b, h => by cases b <;> simp_all [deq]
  | .bool a, b, h => by cases b <;> simp_all [deq]
  | .int a, b, h => by cases b <;> simp_all [deq]
  | .str a, b, h => by cases b <;> simp_all [deq]
  | .list a, b, h => by
    cases b <;> simp [deq] at h
    exact congrArg _ (deqs_eq h)
  | .tuple a, b, h => by
    cases b <;> simp [deq] at h
    exact congrArg _ (deqs_eq h)
  | .dict a, b, h => by
    cases b <;> simp [deq] at h
    exact congrArg _ (deqk_eq h)
theorem deqs_eq : ∀ {a b : List PyData}, deqs a b = true → a = b
  | [], b, h => by cases b <;> simp_all [deqs]
  | a :: as, b, h => by
    cases b with
    | nil => simp [deqs] at h
    | cons b bs =>
      simp [deqs] at h
      rw [deq_eq h.1, deqs_eq h.2]
theorem deqk_eq : ∀ {a b : List (PyData × PyData)}, deqk a b = true → a = b
  | [], b, h => by cases b <;> simp_all [deqk]
  | (a, x) :: as, b, h => by
    cases b with
    | nil => simp [deqk] at h
    | cons b bs =>
      obtain ⟨b, y⟩ := b
      simp [deqk] at h
      rw [deq_eq h.1, deq_eq h.2.1, deqk_eq h.2.2]
end
mutual
theorem deq_refl : ∀ a : PyData, deq a a = true
  | .none => by simp [deq]
  | .bool a => by simp [deq]
  | .int a => by simp [deq]
  | .str a => by simp [deq]
  | .list a => by simp [deq, deqs_refl a]
  | .tuple a => by simp [deq, deqs_refl a]
  | .dict a => by simp [deq, deqk_refl a]
theorem deqs_refl : ∀ a : List PyData, deqs a a = true
  | [] => by simp [deqs]
  | a :: as => by simp [deqs, deq_refl a, deqs_refl as]
theorem deqk_refl : ∀ a : List (PyData × PyData), deqk a a = true
  | [] => by simp [deqk]
  | (a, x) :: as => by simp [deqk, deq_refl a, deq_refl x, deqk_refl as]
end
def pkIs (i : Nat) (d : PyData) (η : Env) : Bool := match pk η i with
  | some e => deq e d
  | none => false
theorem pkIs_eq {i : Nat} {d : PyData} {η : Env} (h : pkIs i d η = true) : pk η i = some d := by
  unfold pkIs at h
  split at h
  · rename_i e e1
    rw [e1, deq_eq h]
  · cases h
theorem pkIs_of {i : Nat} {d : PyData} {η : Env} (h : pk η i = some d) : pkIs i d η = true := by
  unfold pkIs
  rw [h]
  exact deq_refl d
/-! ### for -/
/-- the turns; chk: what must stand behind each -/
def loopF (chk : Env → Bool) (tgt : FG) (body : FS) : List PyData → Env → Rs (Fl × Env)
  | [], η => .ok (.nx, η)
  | d :: ds, η => (tgt (.sh d) η).bind fun η1 => (body η1).bind fun p => match p.1 with
    | .ret t => .ok (.ret t, p.2)
    | .bk => .ok (.nx, p.2)
    | _ => if chk p.2 then loopF chk tgt body ds p.2 else .bad
theorem IO.sub {io' : List Nat} {σ σ' : St} (s : ∀ j ∈ io, j ∈ io') (h : IO io' σ σ') : IO io σ σ' := fun j hj => h j (s j hj)
theorem for_core {inv : Hp → Hp → Prop} {chk : Env → Bool} {tgt : FG} {body : FS} {io' ws : List Nat} {F1 H1 : Hp} {σ0 : St} {η1 : Env} {fp1 : List Addr} {ds : List PyData} {J : It} {D : Ends} (o : Ok C.K F1 H1 η1 σ0 fp1) (it : ItOk C.K inv F1 ds J)
    (hinv : ∀ ηk σk Fk Hk fpk, Ok C.K Fk Hk ηk σk fpk → IO io' σ0 σk → chk ηk → inv Fk Hk) (hs : ∀ j ∈ io, j ∈ io') (hd : ∀ j ∈ io', j ∉ ws) (h0 : chk η1) (q : (loopF chk tgt body ds η1).post (Cont C io fp1 F1 H1 σ0 D) (XPS C fp1 F1 H1)) :
    ∃ W : Nat → Nat → St → Hp → Prop, (∃ m, W 0 m σ0 H1) ∧ ∀ i m σ H, W i m σ H →
      (J.stop i H ∧ D.nx σ H) ∨ (J.go i H ∧ ∃ N : St → Hp → Prop, (∀ σ' H', N σ' H' → ∃ m', m' < m ∧ W (i + 1) m' σ' H') ∧ ∀ x H', J.yld i H x H' → tG C ws tgt x σ H' fun σ2 H2 => tS C io' body { D with nx := N, ct := N, bk := D.nx } σ2 H2) := by
  refine ⟨fun i m σk Hk => ∃ ηk Fk fpk, Aft C.K fp1 F1 H1 σk [] [] ηk Fk Hk [] fpk ∧ IO io' σ0 σk ∧ chk ηk ∧ m = ds.length - i ∧ i ≤ ds.length ∧ (loopF chk tgt body (ds.drop i) ηk).post (Cont C io fp1 F1 H1 σ0 D) (XPS C fp1 F1 H1),
    ⟨ds.length, η1, F1, fp1, o.aft, .refl, h0, rfl, Nat.zero_le _, q⟩, ?_⟩
  rintro i m σk Hk ⟨ηk, Fk, fpk, a, hio, hc, rfl, hi, q⟩
  have iv := hinv ηk σk Fk Hk fpk a.ok hio hc
  by_cases hlt : i < ds.length
  · refine .inr ⟨it.go i Fk Hk hlt a.ext.ff a.fh iv, fun σ' H' => ∃ η' F' fp', Aft C.K fp1 F1 H1 σ' [] [] η' F' H' [] fp' ∧ IO io' σ0 σ' ∧ chk η' ∧ (loopF chk tgt body (ds.drop (i + 1)) η').post (Cont C io fp1 F1 H1 σ0 D) (XPS C fp1 F1 H1),
      fun σ' H' ⟨η', F', fp', h1, h2, h3, h4⟩ => ⟨ds.length - (i + 1), by omega, η', F', fp', h1, h2, h3, rfl, hlt, h4⟩, fun x H' y => ?_⟩
    have hd' : ds[i]? = some ds[i] := List.getElem?_eq_getElem hlt
    obtain ⟨F2, r⟩ := it.yld i _ Fk Hk x H' hd' a.ext.ff a.fh iv y
    have b : Aft C.K fp1 F1 H1 σk [.sh ds[i]] [x] ηk F2 H' [] fpk := a.res r
    rw [List.drop_eq_getElem_cons hlt] at q
    unfold loopF at q
    refine ⟨ηk, F2, fpk, .sh ds[i], [], b.self, Rs.post_mono (Rs.post_bind q) (fun η2 hq σ2 F3 H3 fp3 c ch => ?_) fun _ _ z => z.back' b⟩
    have c2 : Aft C.K fp1 F1 H1 σ2 [] [] η2 F3 H3 [] fp3 := b.thn c
    have io2 : IO io' σ0 σ2 := hio.trans (ch.toIO hd)
    refine tS_def.mpr ⟨η2, F3, fp3, c2.ok, Rs.post_mono (Rs.post_bind hq) (fun p hp => ?_) fun _ _ z => z.back c2⟩
    unfold Cont
    revert hp
    cases e : p.1 with
    | nx =>
      dsimp only
      intro hp σ' F' H' fp' g gi
      split at hp
      · rename_i hck
        exact ⟨p.2, F', fp', c2.thn g, io2.trans gi, hck, hp⟩
      · exact hp.elim
    | ct =>
      dsimp only
      intro hp σ' F' H' fp' g gi
      split at hp
      · rename_i hck
        exact ⟨p.2, F', fp', c2.thn g, io2.trans gi, hck, hp⟩
      · exact hp.elim
    | bk =>
      dsimp only
      intro hp σ' F' H' fp' g gi
      exact hp σ' F' H' fp' (c2.thn g) (IO.sub hs (io2.trans gi))
    | ret t =>
      dsimp only
      intro hp v σ' F' H' f1 fp' g gi
      exact hp v σ' F' H' f1 fp' (c2.thn g) (IO.sub hs (io2.trans gi))
  · have e : i = ds.length := by omega
    subst e
    rw [List.drop_length] at q
    exact .inl ⟨it.stop Fk Hk a.ext.ff a.fh iv, q σk Fk Hk fpk a (IO.sub hs hio)⟩
def sFor (fi : FI) (tgt : FG) (body : FS) : FS := fun η => (fi η).bind fun p => loopF (fun _ => true) tgt body p.1 p.2
def sForV (i : Nat) (tgt : FG) (body : FS) : FS := fun η => match pk η i with
  | some d => match seqOf d with
    | some ds => loopF (pkIs i d) tgt body ds η
    | none => .bad
  | none => .bad
theorem psd_for {st : Stmt} {fi : FI} {tgt : FG} {body : FS} {ws : List Nat} (hd : ∀ j ∈ io, j ∉ ws) (p : PS X st (tFor (tI C fi) (tG C ws tgt) (tS C io body))) : PS X st (tS C io (sFor fi tgt body)) := by
  refine p.impD fun D σ H ⟨η, F, fp, o, q⟩ => ?_
  refine ⟨η, F, fp, o, Rs.post_mono (Rs.post_bind q) (fun p hp F' H' fp' J a it => ?_) fun _ _ z => z.xp⟩
  exact for_core (io' := io) (inv := inv0) a.ok it (fun _ _ _ _ _ _ _ _ => trivial) (fun _ h => h) hd rfl (Rs.post_mono hp (fun p hp => Cont.back a .refl hp) fun _ _ z => z.back a)
theorem psd_forV {st : Stmt} {i : Nat} {tgt : FG} {body : FS} {ws : List Nat} (hd : ∀ j ∈ i :: io, j ∉ ws) (p : PS X st (tFor (tIV C i) (tG C ws tgt) (tS C (i :: io) body))) : PS X st (tS C io (sForV i tgt body)) := by
  refine p.impD fun D σ H ⟨η, F, fp, o, q⟩ => ?_
  unfold sForV at q
  split at q
  · rename_i d e
    split at q
    · rename_i ds e2
      obtain ⟨v, hv, rq⟩ := pk_rq o e
      refine ⟨η, F, fp, d, ds, v, o, e, seqOf_eq e2, hv, fun J it => ?_⟩
      refine for_core (io' := i :: io) o it (fun ηk σk Fk Hk fpk ok hio hc => ?_) (fun j hj => List.mem_cons_of_mem _ hj) hd (pkIs_of e) q
      obtain ⟨w, hw, rq⟩ := pk_rq ok (pkIs_eq hc)
      have := hio i List.mem_cons_self
      rw [hw, hv] at this
      cases this
      exact rq
    · exact q.elim
  · exact q.elim
/-! ### while -/
def loopW (c : FB) (body : FS) : Nat → Env → Rs (Fl × Env)
  | 0, _ => .bad
  | n + 1, η => (c η).bind fun b => if b.1 then (body b.2).bind fun p => match p.1 with
      | .ret t => .ok (.ret t, p.2)
      | .bk => .ok (.nx, p.2)
      | _ => loopW c body n p.2
    else .ok (.nx, b.2)
def sWhile (n : Nat) (c : FB) (body : FS) : FS := loopW c body n
theorem psd_while {st : Stmt} {n : Nat} {c : FB} {body : FS} (p : PS X st (tWhile (tB C c) (tS C io body))) : PS X st (tS C io (sWhile n c body)) := by
  refine p.impD fun D σ H ⟨η, F, fp, o, q⟩ => ?_
  refine ⟨fun m σk Hk => ∃ ηk Fk fpk, Aft C.K fp F H σk [] [] ηk Fk Hk [] fpk ∧ IO io σ σk ∧ (loopW c body m ηk).post (Cont C io fp F H σ D) (XPS C fp F H), ⟨n, η, F, fp, o.aft, .refl, q⟩, ?_⟩
  rintro m σk Hk ⟨ηk, Fk, fpk, a, hio, q⟩
  cases m with
  | zero => exact q.elim
  | succ m =>
    unfold loopW at q
    refine tB_step a.ok.aft (Rs.post_mono (Rs.post_bind q) (fun b hb F1 H1 f1 fp1 g => ?_) fun _ _ z => (z.back a).xp)
    have hf : f1 = [] := by have := g.rt; simp only [RTs] at this; exact this.2
    subst hf
    have a1 : Aft C.K fp F H σk [] [] b.2 F1 H1 [] fp1 := a.thn g
    cases e : b.1 with
    | true =>
      rw [e, if_pos rfl] at hb
      rw [if_pos rfl]
      refine ⟨fun σ' H' => ∃ η' F' fp', Aft C.K fp F H σ' [] [] η' F' H' [] fp' ∧ IO io σ σ' ∧ (loopW c body m η').post (Cont C io fp F H σ D) (XPS C fp F H), fun σ' H' w => ⟨m, Nat.lt_succ_self _, w⟩, ?_⟩
      refine tS_def.mpr ⟨b.2, F1, fp1, a1.ok, Rs.post_mono (Rs.post_bind hb) (fun p hp => ?_) fun _ _ z => z.back a1⟩
      unfold Cont
      revert hp
      cases e2 : p.1 with
      | nx => exact fun hp σ' F' H' fp' g gi => ⟨p.2, F', fp', a1.thn g, hio.trans gi, hp⟩
      | ct => exact fun hp σ' F' H' fp' g gi => ⟨p.2, F', fp', a1.thn g, hio.trans gi, hp⟩
      | bk => exact fun hp σ' F' H' fp' g gi => hp σ' F' H' fp' (a1.thn g) (hio.trans gi)
      | ret t => exact fun hp v σ' F' H' f1 fp' g gi => hp v σ' F' H' f1 fp' (a1.thn g) (hio.trans gi)
    | false =>
      rw [e, if_neg Bool.false_ne_true] at hb
      rw [if_neg Bool.false_ne_true]
      exact hb σk F1 H1 fp1 a1 hio
end Pv
set_option Elab.async false
set_option linter.all false
set_option maxRecDepth 100000
set_option maxHeartbeats 4000000
namespace Pv
open PySem L2
variable {X : Cx} {C C' : Cn}

/-! ### comprehensions -/
def wipeE (η : Env) : List Nat → Env
  | [] => η
  | v :: vs => (wipeE η vs).set v none
/-- no own slot holds a list of its own -/
def free1 (η : Env) (v : Nat) : Bool := match η[v]? with
  | some (some (.lst _)) => false
  | _ => true
def ownFree (η : Env) (own : List Nat) : Bool := own.all (free1 η)
def backE (η1 : Env) : List Nat → Env → Env
  | [], η => η
  | v :: vs, η => backE η1 vs (η.set v (η1[v]?.join))
def Rs.noX {α : Type} : Rs α → Rs α
  | .exc _ _ => .bad
  | r => r
theorem Rs.noX_post {α : Type} {r : Rs α} {P : α → Prop} {E E' : Ex → Env → Prop} (h : r.noX.post P E) : r.post P E' := by
  cases r with
  | ok a => exact h
  | exc e η => exact h.elim
  | bad => exact h
@[simp] theorem Rs.noX_ok {α : Type} (a : α) : (Rs.ok a).noX = .ok a := rfl
/-- the turns of [elt for tgt in .. if cond] -/
def loopC (chk : Env → Bool) (own : List Nat) (tgt : FG) (cond : FB) (elt : FE) : List PyData → Env → Rs (List T × Env)
  | [], η => .ok ([], η)
  | d :: ds, η => (tgt (.sh d) η).noX.bind fun η1 => (cond η1).noX.bind fun b => if b.1 then (elt b.2).noX.bind fun p => if ownFree p.2 own = true ∧ chk (wipeE p.2 own) then (loopC chk own tgt cond elt ds (wipeE p.2 own)).bind fun q => .ok (p.1 :: q.1, q.2) else .bad
    else if ownFree b.2 own = true ∧ chk (wipeE b.2 own) then loopC chk own tgt cond elt ds (wipeE b.2 own) else .bad
def bTrue : FB := fun η => .ok (true, η)
def eComp (own : List Nat) (fi : FI) (tgt : FG) (cond : FB) (elt : FE) : FE := fun η => (fi η).bind fun p => if ownFree p.2 own && line p.1.length then (loopC (fun _ => true) own tgt cond elt p.1 (wipeE p.2 own)).bind fun q => .ok (.lst q.1, backE p.2 own q.2) else .bad
def eCompV (own : List Nat) (i : Nat) (tgt : FG) (cond : FB) (elt : FE) : FE := fun η => match pk η i with
  | some d => match seqOf d with
    | some ds => if ownFree η own && line ds.length && !own.contains i then (loopC (pkIs i d) own tgt cond elt ds (wipeE η own)).bind fun q => .ok (.lst q.1, backE η own q.2) else .bad
    | none => .bad
  | none => .bad

theorem wipe_get {σ : St} {j : Nat} : ∀ {vs : List Nat}, j ∉ vs → (wipe σ vs)[j]? = σ[j]?
  | [], _ => rfl
  | v :: vs, h => by
    rw [List.mem_cons, not_or] at h
    show ((wipe σ vs).set v none)[j]? = _
    rw [List.getElem?_set_ne (Ne.symm h.1), wipe_get h.2]
theorem wipe_in {σ : St} {j : Nat} : ∀ {vs : List Nat}, j ∈ vs → j < σ.length → (wipe σ vs)[j]? = some none
  | v :: vs, h, hl => by
    show ((wipe σ vs).set v none)[j]? = _
    by_cases e : v = j
    · subst e
      rw [List.getElem?_set_self (by rw [wipe_length]; exact hl)]
    · rw [List.getElem?_set_ne e]
      rcases List.mem_cons.mp h with z | z
      · exact absurd z.symm e
      · exact wipe_in z hl
theorem wipe_eq {σ σ' : St} {vs : List Nat} (hl : σ'.length = σ.length) (h : ∀ j, j ∉ vs → σ'[j]? = σ[j]?) : wipe σ' vs = wipe σ vs := by
  apply List.ext_getElem?
  intro j
  by_cases hj : j ∈ vs
  · by_cases hlt : j < σ.length
    · rw [wipe_in hj hlt, wipe_in hj (by omega)]
    · rw [List.getElem?_eq_none (by rw [wipe_length]; omega), List.getElem?_eq_none (by rw [wipe_length]; omega)]
  · rw [wipe_get hj, wipe_get hj, h j hj]
theorem wipe_wipe {σ : St} {vs : List Nat} : wipe (wipe σ vs) vs = wipe σ vs := wipe_eq (wipe_length σ vs) fun j hj => wipe_get hj
theorem wipeE_get {η : Env} {j : Nat} : ∀ {vs : List Nat}, j ∉ vs → (wipeE η vs)[j]? = η[j]?
  | [], _ => rfl
  | v :: vs, h => by
    rw [List.mem_cons, not_or] at h
    show ((wipeE η vs).set v none)[j]? = _
    rw [List.getElem?_set_ne (Ne.symm h.1), wipeE_get h.2]
/-- a slot without a list of its own is forgotten -/
theorem RS.wipe1 {K : PySem.W.Frag} {F H : Hp} {η : Env} {σ : St} {f : List Addr} (v : Nat) (s' : Option V) (h : RS K F H η σ f) (fr : free1 η v = true) : ∃ f', RS K F H (η.set v none) (σ.set v s') f' ∧ f'.Perm f := by
  by_cases hi : v < η.length
  · obtain ⟨s, g, r, h1, h2, h3, h4⟩ := h.focus hi
    obtain ⟨f', rs', pm⟩ := (h4 F H (.refl _) fun _ _ _ z => z).2 s'
    by_cases hn : ∃ t, η[v]? = some (some t)
    · obtain ⟨t, ht⟩ := hn
      obtain ⟨w, rfl, rt⟩ := h3 t ht
      cases t with
      | sh d =>
        simp only [RT] at rt
        obtain ⟨rfl, _⟩ := rt
        exact ⟨f', rs', pm.trans (by simpa using h2.symm)⟩
      | lst ts =>
        unfold free1 at fr
        rw [ht] at fr
        cases fr
    · have hv : η[v]? = some none := by
        cases e : η[v]? with
        | none => rw [List.getElem?_eq_none_iff] at e; omega
        | some o =>
          cases o with
          | none => rfl
          | some t => exact absurd ⟨t, e⟩ hn
      have e1 : η.set v none = η := set_self hv
      have : ∃ f'', RS K F H (η.set v none) (σ.set v s') f'' ∧ f''.Perm f := by
        rw [e1]
        -- the slot was forgotten already: any value of σ there will do
        clear h1 h2 h3 h4 rs' pm hn fr hi e1
        induction η generalizing σ f v with
        | nil => simp at hv
        | cons o η ih =>
          cases v with
          | zero =>
            simp at hv
            subst hv
            simp only [RS] at h ⊢
            obtain ⟨s, σ', rfl, h⟩ := h
            exact ⟨f, ⟨s', σ', rfl, h⟩, .refl _⟩
          | succ v =>
            cases o with
            | none =>
              simp only [RS] at h ⊢
              obtain ⟨s, σ', rfl, h⟩ := h
              obtain ⟨f2, h2, p2⟩ := ih v h (by simpa using hv)
              exact ⟨f2, ⟨s, _, rfl, h2⟩, p2⟩
            | some t =>
              simp only [RS] at h ⊢
              obtain ⟨w, σ', f1, f2, rfl, rfl, r1, h⟩ := h
              obtain ⟨f3, h3, p3⟩ := ih v h (by simpa using hv)
              exact ⟨f1 ++ f3, ⟨w, _, f1, f3, rfl, rfl, r1, h3⟩, p3.append_left f1⟩
      exact this
  · have hl := h.len
    rw [List.set_eq_of_length_le (by omega), List.set_eq_of_length_le (by omega)]
    exact ⟨f, h, .refl _⟩
theorem free1_set {η : Env} {v u : Nat} (h : free1 η u = true) : free1 (η.set v none) u = true := by
  unfold free1 at h ⊢
  by_cases e : v = u
  · subst e
    by_cases hv : v < η.length
    · rw [List.getElem?_set_self hv]
    · rw [List.getElem?_eq_none (by simpa using hv)]
  · rw [List.getElem?_set_ne e]; exact h
theorem wipeE_free {η : Env} {u : Nat} : ∀ {vs : List Nat}, free1 η u = true → free1 (wipeE η vs) u = true
  | [], h => h
  | v :: vs, h => free1_set (wipeE_free h)
theorem RS.wipes {K : PySem.W.Frag} {F H : Hp} {η : Env} {σ : St} {f : List Addr} (h : RS K F H η σ f) : ∀ {vs : List Nat}, ownFree η vs = true → ∃ f', RS K F H (wipeE η vs) (wipe σ vs) f' ∧ f'.Perm f
  | [], _ => ⟨f, h, .refl _⟩
  | v :: vs, fr => by
    unfold ownFree at fr
    simp only [List.all_cons, Bool.and_eq_true] at fr
    obtain ⟨f1, h1, p1⟩ := RS.wipes (vs := vs) h fr.2
    obtain ⟨f2, h2, p2⟩ := h1.wipe1 v none (wipeE_free fr.1)
    exact ⟨f2, h2, p2.trans p1⟩
theorem Aft.perm {K : PySem.W.Frag} {fp : List Addr} {F H : Hp} {σ σ2 : St} {ts : List T} {vs : List V} {η' η2 : Env} {F' H' : Hp} {f1 fp' fp2 : List Addr} (a : Aft K fp F H σ ts vs η' F' H' f1 fp') (h : RS K F' H' η2 σ2 fp2) (p : fp2.Perm fp') : Aft K fp F H σ2 ts vs η2 F' H' f1 fp2 := by
  have pm : (f1 ++ fp2).Perm (f1 ++ fp') := p.append_left f1
  exact ⟨a.rt, h, pm.nodup_iff.mpr a.nd, fun x hx => a.fn x (pm.mem_iff.mp hx), a.fh, a.ext, fun x hx => a.sub x (pm.mem_iff.mp hx)⟩
mutual
def T.nodes : T → Nat
  | .sh _ => 0
  | .lst ts => T.nodess ts + 1
def T.nodess : List T → Nat
  | [] => 0
  | t :: ts => t.nodes + T.nodess ts
end
mutual
theorem RT.fpN {K : PySem.W.Frag} {F H : Hp} : ∀ {t : T} {v : V} {f : List Addr}, RT K F H t v f → f.length = t.nodes
  | .sh d, v, f, h => by
    simp only [RT] at h
    rw [h.1]; rfl
  | .lst ts, v, f, h => by
    simp only [RT] at h
    obtain ⟨a, xs, g, rfl, e1, rfl, r⟩ := h
    simp [T.nodes, RTs.fpN r]
theorem RTs.fpN {K : PySem.W.Frag} {F H : Hp} : ∀ {t : List T} {v : List V} {f : List Addr}, RTs K F H t v f → f.length = T.nodess t
  | [], v, f, h => by
    simp only [RTs] at h
    rw [h.2]; rfl
  | t :: ts, v, f, h => by
    obtain ⟨x, xs, f1, f2, rfl, rfl, r1, r2⟩ := h.uncons
    simp [T.nodess, RT.fpN r1, RTs.fpN r2]
end
def nodesE : Env → Nat
  | [] => 0
  | .none :: η => nodesE η
  | .some t :: η => t.nodes + nodesE η
theorem RS.fpN {K : PySem.W.Frag} {F H : Hp} : ∀ {η : Env} {σ : St} {f : List Addr}, RS K F H η σ f → f.length = nodesE η
  | [], σ, f, h => by
    simp only [RS] at h
    rw [h.2]; rfl
  | .none :: η, σ, f, h => by
    simp only [RS] at h
    obtain ⟨s, σ', rfl, r⟩ := h
    simp [nodesE, RS.fpN r]
  | .some t :: η, σ, f, h => by
    simp only [RS] at h
    obtain ⟨v, σ', f1, f2, rfl, rfl, r1, r2⟩ := h
    simp [nodesE, RT.fpN r1, RS.fpN r2]
theorem RS.fpLen {K : PySem.W.Frag} {F H : Hp} {η : Env} {σ : St} {f g : List Addr} (h : RS K F H η σ f) (h' : RS K F H η σ g) : f.length = g.length := h.fpN.trans h'.fpN.symm
/-- back to the slots ahead: those of its own names are as they were -/
theorem RS.back1 {K : PySem.W.Frag} {F H : Hp} : ∀ {η : Env} {σ : St} {f : List Addr} {v : Nat} {o : Option T} {s : Option V}, RS K F H η σ f → free1 η v = true → (∀ d, o = some (.sh d) → ∃ w, s = some w ∧ Rp K F d w) → (∀ ts, o ≠ some (.lst ts)) → ∃ f', RS K F H (η.set v o) (σ.set v s) f' ∧ f'.Perm f := by
  intro η σ f v o s h fr ho hl
  cases o with
  | none => exact h.wipe1 v s fr
  | some t =>
    cases t with
    | lst ts => exact absurd rfl (hl ts)
    | sh d =>
      obtain ⟨w, rfl, rp⟩ := ho d rfl
      obtain ⟨f1, h1, p1⟩ := h.wipe1 v (some w) fr
      by_cases hi : v < η.length
      · obtain ⟨s0, g, r, q1, q2, q3, q4⟩ := h1.focus (i := v) (by simpa using hi)
        obtain ⟨f', rs', pm⟩ := (q4 F H (.refl _) fun _ _ _ z => z).1 (.sh d) w [] (by simp only [RT]; exact ⟨trivial, rp⟩)
        rw [List.set_set, List.set_set] at rs'
        -- the slot was empty: g = []
        have hg : g = [] := by
          have e0 : (η.set v none)[v]? = some none := List.getElem?_set_self hi
          have l1 := (List.Perm.length_eq q2)
          obtain ⟨f'', rs'', pm''⟩ := (q4 F H (.refl _) fun _ _ _ z => z).2 s0
          rw [set_self q1, set_self e0] at rs''
          -- two footprints of the same state have one length
          have : f''.length = f1.length := RS.fpLen rs'' h1
          have l2 := pm''.length_eq
          rw [List.length_append] at l1
          exact List.eq_nil_of_length_eq_zero (by omega)
        subst hg
        exact ⟨f', rs', (show f'.Perm r from pm).trans ((show f1.Perm r from q2).symm.trans p1)⟩
      · have hlen := h.len
        rw [List.set_eq_of_length_le (by omega), List.set_eq_of_length_le (by omega)]
        exact ⟨f, h, .refl _⟩
theorem wipeE_len (η : Env) : ∀ vs : List Nat, (wipeE η vs).length = η.length
  | [] => rfl
  | v :: vs => by
    show ((wipeE η vs).set v none).length = _
    rw [List.length_set, wipeE_len η vs]
theorem free1_none {η : Env} {v : Nat} (h : η[v]? = some none) : free1 η v = true := by
  unfold free1
  rw [h]
/-- back to the slots ahead of a comprehension -/
theorem RS.backs {K : PySem.W.Frag} {F H : Hp} {η1 : Env} {σ : St} (hσ : ∀ (v : Nat) (d : PyData), η1[v]? = some (some (.sh d)) → ∃ w, σ[v]? = some (some w) ∧ Rp K F d w) :
    ∀ {vs : List Nat} {η : Env} {f : List Addr}, vs.Nodup → RS K F H η (wipe σ vs) f → (∀ v ∈ vs, free1 η v = true) → ownFree η1 vs = true → ∃ f', RS K F H (backE η1 vs η) σ f' ∧ f'.Perm f
  | [], η, f, _, h, _, _ => ⟨f, h, .refl _⟩
  | v :: vs, η, f, nd, h, hn, fr => by
    unfold ownFree at fr
    simp only [List.all_cons, Bool.and_eq_true] at fr
    have hv : v ∉ vs := (List.nodup_cons.mp nd).1
    have key : ∃ f', RS K F H (η.set v (η1[v]?.join)) (((wipe σ vs).set v none).set v ((wipe σ vs)[v]?.join)) f' ∧ f'.Perm f := by
      have h' : RS K F H η ((wipe σ vs).set v none) f := h
      refine h'.back1 (v := v) (o := η1[v]?.join) (s := (wipe σ vs)[v]?.join) (hn v List.mem_cons_self) (fun d e => ?_) (fun ts e => ?_)
      · cases e1 : η1[v]? with
        | none => rw [e1] at e; cases e
        | some o =>
          rw [e1] at e
          have e : o = some (.sh d) := e
          subst e
          obtain ⟨w, h1, h2⟩ := hσ v d e1
          rw [wipe_get hv, h1]
          exact ⟨w, rfl, h2⟩
      · cases e1 : η1[v]? with
        | none => rw [e1] at e; cases e
        | some o =>
          rw [e1] at e
          have e : o = some (.lst ts) := e
          subst e
          have := fr.1
          unfold free1 at this
          rw [e1] at this
          cases this
    rw [List.set_set] at key
    obtain ⟨f', h1, p⟩ := key
    have e2 : (wipe σ vs).set v ((wipe σ vs)[v]?.join) = wipe σ vs := by
      cases e : (wipe σ vs)[v]? with
      | none =>
        rw [List.getElem?_eq_none_iff] at e
        exact List.set_eq_of_length_le e
      | some o => exact set_self e
    rw [e2] at h1
    have hn' : ∀ u ∈ vs, free1 (η.set v (η1[v]?.join)) u = true := fun u hu => by
      have e : v ≠ u := fun e => hv (e ▸ hu)
      unfold free1
      rw [List.getElem?_set_ne e]
      exact hn u (List.mem_cons_of_mem _ hu)
    obtain ⟨f2, h2, p2⟩ := RS.backs hσ (vs := vs) (List.nodup_cons.mp nd).2 h1 hn' (by unfold ownFree; exact fr.2)
    exact ⟨f2, h2, p2.trans p⟩
theorem RS.sh {K : PySem.W.Frag} {F H : Hp} {η : Env} {σ : St} {f : List Addr} {v : Nat} {d : PyData} (h : RS K F H η σ f) (e : η[v]? = some (some (.sh d))) : ∃ w, σ[v]? = some (some w) ∧ Rp K F d w := by
  obtain ⟨s, g, r, h1, h2, h3, h4⟩ := h.focus (List.getElem?_eq_some_iff.mp e).1
  obtain ⟨w, rfl, rt⟩ := h3 _ e
  simp only [RT] at rt
  exact ⟨w, h1, rt.2⟩
theorem free_wiped {η : Env} {own : List Nat} : ∀ v ∈ own, free1 (wipeE η own) v = true := by
  induction own with
  | nil => intro v hv; cases hv
  | cons u own ih =>
    intro v hv
    by_cases e : u = v
    · subst e
      unfold free1
      show (match ((wipeE η own).set u none)[u]? with | some (some (.lst _)) => false | _ => true) = true
      by_cases hi : u < (wipeE η own).length
      · rw [List.getElem?_set_self hi]
      · rw [List.getElem?_eq_none (by simpa using hi)]
    · rcases List.mem_cons.mp hv with z | z
      · exact absurd z.symm e
      · exact free1_set (ih v z)
theorem lines {n : Nat} (h : line n = true) : n < sizeLine := line_lt h
/-- the new list takes an item -/
theorem Aft.push {K : PySem.W.Frag} {fp : List Addr} {F H : Hp} {σ : St} {acc : List T} {t : T} {D : Addr} {y : V} {η' : Env} {F' H' : Hp} {f1 fp' : List Addr} (a : Aft K fp F H σ [.lst acc, t] [.ref D, y] η' F' H' f1 fp') :
    ∃ xs f2, H' D = some (.lst xs) ∧ xs.length = acc.length ∧ Aft K fp F H σ [.lst (acc ++ [t])] [.ref D] η' F' (upd H' D (.lst (xs ++ [y]))) f2 fp' := by
  obtain ⟨g1, g2, rfl, r1, r2⟩ := a.rt2
  simp only [RT] at r1
  obtain ⟨D', xs, g, e, hD, rfl, rg⟩ := r1
  cases e
  have nd := a.nd
  have nD : D ∉ (g ++ g2) ++ fp' := by
    have h1 : (D :: ((g ++ g2) ++ fp')).Nodup := nd
    exact (List.nodup_cons.mp h1).1
  have Dg : D ∉ g ++ g2 := fun h => nD (List.mem_append.mpr (.inl h))
  have Df : D ∉ fp' := fun h => nD (List.mem_append.mpr (.inr h))
  have FD : F' D = none := a.fn D (by simp)
  refine ⟨xs, D :: (g ++ g2), hD, rg.len, .one ?_, a.rs.mono (.refl _) fun x hx o e => by rw [upd_ne (ne_mem hx Df)]; exact e, nd, a.fn, fun b o e => by rw [upd_ne (ne_of_none e FD)]; exact a.fh b o e, ⟨a.ext.ff, fun b o e hb => ?_, a.ext.new⟩, a.sub⟩
  · simp only [RT]
    refine ⟨D, xs ++ [y], g ++ g2, rfl, upd_same, rfl, ?_⟩
    exact ((rg.append (.one r2)).mono (.refl _) fun x hx o e => by rw [upd_ne (ne_mem hx Dg)]; exact e)
  · have nb : b ≠ D := fun z => by
      subst z
      rcases a.sub b (by simp) with z | z
      · exact hb z
      · rw [z] at e; cases e
    rw [upd_ne nb]
    exact a.ext.keep b o e hb
theorem Aft.newLst {K : PySem.W.Frag} {fp : List Addr} {F H : Hp} {σ : St} {η' : Env} {F' H' : Hp} {fp' : List Addr} {D : Addr} (a : Aft K fp F H σ [] [] η' F' H' [] fp') (hD : H' D = none) : Aft K fp F H σ [.lst []] [.ref D] η' F' (upd H' D (.lst [])) [D] fp' :=
  a.res (ResOk.lst (ds := []) (xs := []) a.fh .nil hD)
theorem lc_core' {inv : Hp → Hp → Prop} {chk : Env → Bool} {own ws : List Nat} {tgt : FG} {cond : FB} {elt : FE} {F1 H1 : Hp} {σ : St} {η1 : Env} {fp1 : List Addr} {ds : List PyData} {J : It} {Q : VK} {E : Ex → Env → Prop} {D : Addr} (nd : own.Nodup) (hws : ∀ j ∈ ws, j ∈ own) (o : Ok C.K F1 H1 η1 σ fp1) (hCC : C'.K = C.K) (it : ItOk C.K inv F1 ds J)
    (hinv : ∀ ηk Fk Hk fpk, Ok C.K Fk Hk ηk (wipe σ own) fpk → chk ηk → inv Fk Hk) (hf : ownFree η1 own = true) (hl : line ds.length = true) (h0 : chk (wipeE η1 own)) (hD : H1 D = none)
    (q : ((loopC chk own tgt cond elt ds (wipeE η1 own)).bind fun q => (.ok (.lst q.1, backE η1 own q.2) : Rs (T × Env))).post (fun p => ∀ v F' H' f1 fp', Aft C.K fp1 F1 H1 σ [p.1] [v] p.2 F' H' f1 fp' → Q v H') E) :
    ∃ W : Nat → Nat → Hp → Prop, (∃ m, W 0 m (upd H1 D (.lst []))) ∧ ∀ i m H, W i m H →
      (J.stop i H ∧ Q (.ref D) H) ∨ (J.go i H ∧ ∃ Nx : Hp → Prop, (∀ H', Nx H' → ∃ m', m' < m ∧ W (i + 1) m' H') ∧ ∀ x H', J.yld i H x H' → tG C' ws tgt x (wipe σ own) H' fun σ2 H2 => wipe σ2 own = wipe σ own ∧ tB C' cond σ2 H2 fun b H3 =>
        if b = true then tD C' elt σ2 H3 fun y H4 => ∃ acc, H4 D = some (.lst acc) ∧ acc.length < sizeLine ∧ Nx (upd H4 D (.lst (acc ++ [y]))) else Nx H3) := by
  obtain ⟨fw, rw_, pw⟩ := o.rs.wipes hf
  have a0 : Aft C.K fp1 F1 H1 (wipe σ own) [] [] (wipeE η1 own) F1 H1 [] fw := o.aft.perm rw_ pw
  refine ⟨fun i m Hk => ∃ ηk Fk fpk acc fa, Aft C.K fp1 F1 H1 (wipe σ own) [.lst acc] [.ref D] ηk Fk Hk fa fpk ∧ chk ηk ∧ (∀ v ∈ own, free1 ηk v = true) ∧ acc.length ≤ i ∧ m = ds.length - i ∧ i ≤ ds.length ∧
      (loopC chk own tgt cond elt (ds.drop i) ηk).post (fun r => ∀ F' H' f1 fp', Aft C.K fp1 F1 H1 (wipe σ own) [.lst (acc ++ r.1)] [.ref D] r.2 F' H' f1 fp' → (∀ v ∈ own, free1 r.2 v = true) → Q (.ref D) H') E,
    ⟨ds.length, wipeE η1 own, F1, fw, [], [D], a0.newLst hD, h0, free_wiped, Nat.zero_le _, rfl, Nat.zero_le _, ?_⟩, ?_⟩
  · rw [List.drop_zero]
    refine Rs.post_mono (Rs.post_bind q) (fun r hr F' H' f1 fp' a hfr => ?_) fun _ _ z => z
    obtain ⟨f2, h2, p2⟩ := RS.backs (η1 := η1) (σ := σ) (F := F') (fun v d e => by
      obtain ⟨w, h1, h2⟩ := o.rs.sh e
      exact ⟨w, h1, h2.mono a.ext.ff⟩) nd a.rs hfr hf
    exact hr (.ref D) F' H' f1 f2 (a.perm h2 p2)
  · rintro i m Hk ⟨ηk, Fk, fpk, acc, fa, a, hc, hfk, hal, rfl, hi, q⟩
    have iv := hinv ηk Fk Hk fpk a.ok hc
    by_cases hlt : i < ds.length
    · refine .inr ⟨it.go i Fk Hk hlt a.ext.ff a.fh iv, fun H' => ∃ η' F' fp' acc' fa', Aft C.K fp1 F1 H1 (wipe σ own) [.lst acc'] [.ref D] η' F' H' fa' fp' ∧ chk η' ∧ (∀ v ∈ own, free1 η' v = true) ∧ acc'.length ≤ i + 1 ∧
          (loopC chk own tgt cond elt (ds.drop (i + 1)) η').post (fun r => ∀ F' H' f1 fp', Aft C.K fp1 F1 H1 (wipe σ own) [.lst (acc' ++ r.1)] [.ref D] r.2 F' H' f1 fp' → (∀ v ∈ own, free1 r.2 v = true) → Q (.ref D) H') E,
        fun H' ⟨η', F', fp', acc', fa', h1, h2, h3, h4, h5⟩ => ⟨ds.length - (i + 1), by omega, η', F', fp', acc', fa', h1, h2, h3, h4, rfl, hlt, h5⟩, fun x H' y => ?_⟩
      obtain ⟨F2, r⟩ := it.yld i _ Fk Hk x H' (List.getElem?_eq_getElem hlt) a.ext.ff a.fh iv y
      rw [List.drop_eq_getElem_cons hlt] at q
      unfold loopC at q
      -- the item beside the new list
      have b0 : Aft C.K fpk Fk Hk (wipe σ own) [.sh ds[i]] [x] ηk F2 H' [] fpk := a.ok.res r
      have b1 : Aft C.K fp1 F1 H1 (wipe σ own) ([.lst acc] ++ [.sh ds[i]]) ([.ref D] ++ [x]) ηk F2 H' (fa ++ []) fpk := a.app b0
      refine ⟨ηk, F2, fpk, .sh ds[i], [], hCC ▸ b0.self, Rs.post_mono (Rs.noX_post (E' := XPS C' ([] ++ fpk) F2 H') (Rs.post_bind q)) (fun η2 hq σ2 F3 H3 fp3 c ch => ?_) fun _ _ z => z⟩
      have c : Aft C.K fpk F2 H' σ2 [] [] η2 F3 H3 [] fp3 := hCC ▸ c
      refine ⟨(wipe_eq ch.1 fun j hj => ch.2 j fun hw => hj (hws j hw)).trans wipe_wipe, ?_⟩
      have ew : wipe σ2 own = wipe σ own := (wipe_eq ch.1 fun j hj => ch.2 j fun hw => hj (hws j hw)).trans wipe_wipe
      -- the new list is carried over
      have d1 : Aft C.K fp1 F1 H1 σ2 [.lst acc] [.ref D] η2 F3 H3 fa fp3 := by
        have b2 : Aft C.K fp1 F1 H1 (wipe σ own) [.lst acc] [.ref D] ηk F2 H' fa fpk := by
          obtain ⟨g1, g2, e, r1, r2⟩ := b1.rt2
          simp only [RT] at r2
          obtain ⟨rfl, _⟩ := r2
          rw [List.append_nil, List.append_nil] at e
          subst e
          have := b1
          rw [List.append_nil] at this
          exact ⟨.one r1, this.rs, this.nd, this.fn, this.fh, this.ext, this.sub⟩
        have := b2.app c
        simpa using this
      refine ⟨η2, F3, fp3, hCC ▸ d1.ok, Rs.post_mono (Rs.noX_post (E' := XP C' fp3 F3 H3 σ2) (Rs.post_bind hq)) (fun b hb F4 H4 fp4 e => ?_) fun _ _ z => z⟩
      have e : Aft C.K fp3 F3 H3 σ2 [] [] b.2 F4 H4 [] fp4 := hCC ▸ e
      have d2 : Aft C.K fp1 F1 H1 σ2 [.lst acc] [.ref D] b.2 F4 H4 fa fp4 := by simpa using d1.app e
      cases eb : b.1 with
      | true =>
        rw [eb, if_pos rfl] at hb
        dsimp only
        rw [if_pos rfl]
        refine ⟨b.2, F4, fp4, hCC ▸ d2.ok, Rs.post_mono (Rs.noX_post (E' := XP C' fp4 F4 H4 σ2) (Rs.post_bind hb)) (fun p hp y F5 H5 f5 fp5 g => ?_) fun _ _ z => z⟩
        have g : Aft C.K fp4 F4 H4 σ2 [p.1] [y] p.2 F5 H5 f5 fp5 := hCC ▸ g
        have d3 : Aft C.K fp1 F1 H1 σ2 [.lst acc, p.1] [.ref D, y] p.2 F5 H5 (fa ++ f5) fp5 := d2.app g
        split at hp
        · rename_i hck
          obtain ⟨xs, f6, hx, hxl, d4⟩ := d3.push
          obtain ⟨f7, r7, p7⟩ := d4.rs.wipes hck.1
          rw [ew] at r7
          have hll := lines hl
          refine ⟨xs, hx, by omega, wipeE p.2 own, F5, f7, acc ++ [p.1], f6, d4.perm r7 p7, hck.2, free_wiped, by simp; omega, ?_⟩
          refine Rs.post_mono (Rs.post_bind hp) (fun r hr F' H' f1 fp' a hfr => ?_) fun _ _ z => z
          refine hr F' H' f1 fp' ?_ hfr
          rw [List.append_assoc] at a
          exact a
        · exact hp.elim
      | false =>
        rw [eb, if_neg Bool.false_ne_true] at hb
        dsimp only
        rw [if_neg Bool.false_ne_true]
        split at hb
        · rename_i hck
          obtain ⟨f7, r7, p7⟩ := d2.rs.wipes hck.1
          rw [ew] at r7
          exact ⟨wipeE b.2 own, F4, f7, acc, fa, d2.perm r7 p7, hck.2, free_wiped, by omega, hb⟩
        · exact hb.elim
    · have e : i = ds.length := by omega
      subst e
      rw [List.drop_length] at q
      refine .inl ⟨it.stop Fk Hk a.ext.ff a.fh iv, q Fk Hk fa fpk ?_ hfk⟩
      rw [List.append_nil]
      exact a
end Pv
set_option Elab.async false
set_option linter.all false
set_option maxRecDepth 100000
set_option maxHeartbeats 4000000
namespace Pv
open PySem L2
variable {X : Cx} {C C' : Cn} {io : List Nat}

/-! ### comprehensions as rules -/
theorem t_lc {own ws : List Nat} {fi : FI} {tgt : FG} {cond : FB} {elt : FE} {σ : St} {H : Hp} {Q : VK} (hCC : C'.K = C.K) (nd : own.Nodup) (hws : ∀ j ∈ ws, j ∈ own) (q : tD C (eComp own fi tgt cond elt) σ H Q) :
    tLc (tI C fi) (tG C' ws tgt) (tB C' cond) (tD C' elt) own σ H Q := by
  obtain ⟨η, F, fp, o, q⟩ := q
  refine ⟨η, F, fp, o, Rs.post_mono (Rs.post_bind q) (fun p hp F' H' fp' J a it D hD => ?_) fun _ _ z => z⟩
  split at hp
  · rename_i hc
    simp only [Bool.and_eq_true] at hc
    refine lc_core' (C := C) (C' := C') (inv := inv0) (chk := fun _ => true) nd hws a.ok hCC it (fun _ _ _ _ _ _ => trivial) hc.1 hc.2 rfl hD (E := XP C fp F H σ) (Rs.post_mono hp (fun r hr v F2 H2 f1 fp2 b => ?_) fun _ _ z => z)
    exact hr v F2 H2 _ fp2 (by simpa using a.app b)
  · exact hp.elim
theorem t_lcV {own ws : List Nat} {i : Nat} {tgt : FG} {cond : FB} {elt : FE} {σ : St} {H : Hp} {Q : VK} (hCC : C'.K = C.K) (nd : own.Nodup) (hws : ∀ j ∈ ws, j ∈ own) (q : tD C (eCompV own i tgt cond elt) σ H Q) :
    tLc (tIV C i) (tG C' ws tgt) (tB C' cond) (tD C' elt) own σ H Q := by
  obtain ⟨η, F, fp, o, q⟩ := q
  unfold eCompV at q
  split at q
  · rename_i d e
    split at q
    · rename_i ds e2
      split at q
      · rename_i hc
        simp only [Bool.and_eq_true, Bool.not_eq_true', List.contains_eq_mem, decide_eq_false_iff_not] at hc
        obtain ⟨v, hv, rq⟩ := pk_rq o e
        refine ⟨η, F, fp, d, ds, v, o, e, seqOf_eq e2, hv, fun J it D hD => ?_⟩
        have h0 : pk (wipeE η own) i = some d := by
          unfold pk
          rw [wipeE_get hc.2]
          exact e
        refine lc_core' (C := C) (C' := C') (chk := pkIs i d) nd hws o hCC it (fun ηk Fk Hk fpk ok hck => ?_) hc.1.1 hc.1.2 (pkIs_of h0) hD (E := XP C fp F H σ) q
        obtain ⟨w, hw, rq⟩ := pk_rq ok (pkIs_eq hck)
        rw [wipe_get hc.2, hv] at hw
        cases hw
        exact rq
      · exact q.elim
    · exact q.elim
  · exact q.elim
section
variable {e : Expr} {own ws : List Nat} {fi : FI} {i : Nat} {tgt : FG} {cond : FB} {elt : FE} {st : Stmt} {y : Nat}
theorem pd_comp (hCC : C'.K = C.K) (nd : own.Nodup) (hws : ∀ j ∈ ws, j ∈ own) (p : PE X e (tLc (tI C fi) (tG C' ws tgt) (tB C' cond) (tD C' elt) own)) : PE X e (tD C (eComp own fi tgt cond elt)) := p.impD fun _ _ _ => t_lc hCC nd hws
theorem pd_compV (hCC : C'.K = C.K) (nd : own.Nodup) (hws : ∀ j ∈ ws, j ∈ own) (p : PE X e (tLc (tIV C i) (tG C' ws tgt) (tB C' cond) (tD C' elt) own)) : PE X e (tD C (eCompV own i tgt cond elt)) := p.impD fun _ _ _ => t_lcV hCC nd hws
theorem psd_set' {te : TE} {f : FE} (hio : y ∉ io) (k : ∀ σ H Q, tD C f σ H Q → te σ H Q) (p : PS X st (tAsg te (gName y))) : PS X st (tS C io (sAsg f (gN y))) :=
  psd_set hio (p.impD fun D σ H q => k σ H _ q)
theorem psd_setLc (hio : y ∉ io) (hCC : C'.K = C.K) (nd : own.Nodup) (hws : ∀ j ∈ ws, j ∈ own) (p : PS X st (tAsg (tLc (tI C fi) (tG C' ws tgt) (tB C' cond) (tD C' elt) own) (gName y))) : PS X st (tS C io (sAsg (eComp own fi tgt cond elt) (gN y))) :=
  psd_set' hio (fun _ _ _ => t_lc hCC nd hws) p
theorem psd_setLcV (hio : y ∉ io) (hCC : C'.K = C.K) (nd : own.Nodup) (hws : ∀ j ∈ ws, j ∈ own) (p : PS X st (tAsg (tLc (tIV C i) (tG C' ws tgt) (tB C' cond) (tD C' elt) own) (gName y))) : PS X st (tS C io (sAsg (eCompV own i tgt cond elt) (gN y))) :=
  psd_set' hio (fun _ _ _ => t_lcV hCC nd hws) p
end
theorem _root_.L2.PTs.impD {X : Cx} {e : List Expr} {t t' : TT} (h : PTs X e t) (k : ∀ σ H Q, t' σ H Q → t σ H Q) : PTs X e t' := ⟨fun pins s σ H Q I q => h.run pins s σ H Q I (k σ H Q q)⟩
theorem ptsd_nil : PTs X [] (tB C bTrue) := pts_nil.impD fun σ H Q ⟨η, F, fp, o, q⟩ => q F H fp o.aft
theorem ptsd_one {a : Expr} {c : FB} (h : PT X a (tB C c)) : PTs X [a] (tB C c) := pts_one h

/-! ### defs -/
/-- a def of plain data; G: what it gives, where it gives something -/
def spP (K : PySem.W.Frag) (n : Nat) (G : List PyData → Option T) : Sp := fun vs H Q _ => ∃ F ds t, Same F H ∧ RpAll K F ds vs ∧ ds.length = n ∧ G ds = some t ∧ Res K F H t Q
def eDef (G : List PyData → Option T) (ga : FA) : FE := fun η => (ga η).bind fun p => fin1 (G (T.vals p.1)) p.2
theorem t_def {n : Nat} {G : List PyData → Option T} {ga : FA} {E : XK} {σ : St} {H : Hp} {Q : VK} (hn : ∀ ds t, G ds = some t → ds.length = n) (h : tD C (eDef G ga) σ H Q) : tCall (spP C.K n G) [] E (tA C ga) σ H Q := by
  obtain ⟨η, F, fp, o, q⟩ := h
  refine tA_step o.aft (Rs.post_mono (Rs.post_bind q) (fun p hp x F1 H1 f1 fp1 a => ?_) fun _ _ z => z)
  obtain ⟨F3, t, s, r, eq, k⟩ := fin_res a hp
  rw [List.append_nil]
  exact ⟨F3, _, t, s.fh, r, hn _ _ eq, eq, k⟩
theorem pd_def {e : Expr} {n : Nat} {G : List PyData → Option T} {ga : FA} {E : XK} (hK : C.K = X.K) (hn : ∀ ds t, G ds = some t → ds.length = n) (p : PE X e (tCall (spP X.K n G) [] E (tA C ga))) : PE X e (tD C (eDef G ga)) := by
  rw [← hK] at p
  exact p.impD fun _ _ _ => t_def hn
/-- a def of no arguments -/
theorem pd_def0 {e : Expr} {G : List PyData → Option T} {E : XK} (hK : C.K = X.K) (hn : ∀ ds t, G ds = some t → ds.length = 0) (p : PE X e (tCall (spP X.K 0 G) [] E tNil)) : PE X e (tD C (eDef G aNil)) := by
  rw [← hK] at p
  refine p.impD fun σ H Q ⟨η, F, fp, o, q⟩ => ?_
  obtain ⟨F3, t, s, r, eq, k⟩ := fin_res o.aft (show (fin1 (G []) η).post _ _ from q)
  exact ⟨F3, [], t, s.fh, r, rfl, eq, k⟩
/-- a def that changes the list that is its first argument -/
def spIO (K : PySem.W.Frag) (n : Nat) (G : T → List PyData → Option (T × T)) : Sp := fun vs H Q _ => ∃ F ds t0 v0 ws f t t1, vs = v0 :: ws ∧ RT K F H t0 v0 f ∧ f.Nodup ∧ (∀ a ∈ f, F a = none) ∧ Same F H ∧ RpAll K F ds ws ∧ ds.length + 1 = n ∧ G t0 ds = some (t, t1) ∧
  ∀ v F' H' f1 f', RT K F' H' t v f1 → RT K F' H' t1 v0 f' → (f1 ++ f').Nodup → (∀ a ∈ f1 ++ f', F' a = none) → Same F' H' → Ext f F H F' H' → (∀ a ∈ f1 ++ f', a ∈ f ∨ H a = none) → Q v H'
def eDefIO (G : T → List PyData → Option (T × T)) (i : Nat) (ga : FA) : FE := fun η => match η[i]? with
  | some (some _) => (ga η).bind fun p => match p.2[i]? with
    | some (some t0) => match G t0 (T.vals p.1) with
      | some r => .ok (r.1, p.2.set i (some r.2))
      | none => .bad
    | _ => .bad
  | _ => .bad
theorem t_defIO {n i : Nat} {G : T → List PyData → Option (T × T)} {ga : FA} {E : XK} {σ : St} {H : Hp} {Q : VK} (hn : ∀ t0 ds r, G t0 ds = some r → ds.length + 1 = n) (h : tD C (eDefIO G i ga) σ H Q) : tCall (spIO C.K n G) [] E (tCons (tVar i) (tA C ga)) σ H Q := by
  obtain ⟨η, F, fp, o, q⟩ := h
  unfold eDefIO at q
  split at q
  · rename_i t00 e0
    obtain ⟨v0, hv0⟩ := o.rs.slot e0
    refine ⟨v0, hv0, ?_⟩
    refine tA_step o.aft (Rs.post_mono (Rs.post_bind q) (fun p hp x F1 H1 f1 fp1 a => ?_) fun _ _ z => z)
    have a : Aft C.K fp F H σ p.1 x p.2 F1 H1 f1 fp1 := a
    split at hp
    · rename_i t0 e1
      split at hp
      · rename_i r e2
        obtain ⟨F2, a2, rp⟩ := a.freeze
        obtain ⟨s, h, rr, h1, h2, h3, h4⟩ := a2.rs.focus (List.getElem?_eq_some_iff.mp e1).1
        obtain ⟨v1, rfl, rt⟩ := h3 _ e1
        obtain rfl : v0 = v1 := by rw [hv0] at h1; cases h1; rfl
        have ndq : (h ++ rr).Nodup := h2.nodup_iff.mp (by simpa using a2.nd)
        have mem : ∀ z, z ∈ h ∨ z ∈ rr → z ∈ fp1 := fun z hz => h2.mem_iff.mpr (List.mem_append.mpr hz)
        have fn : ∀ z ∈ fp1, F2 z = none := fun z hz => a2.fn z (by simpa using hz)
        have sub2 : ∀ z ∈ fp1, z ∈ fp ∨ H z = none := fun z hz => a2.sub z (by simpa using hz)
        have there : ∀ z ∈ fp1, ∃ o, H1 z = some o := a2.rs.there
        show spIO C.K n G ((v0 :: x) ++ []) H1 Q E
        rw [List.append_nil]
        refine ⟨F2, T.vals p.1, t0, v0, x, h, r.1, r.2, rfl, rt, (List.nodup_append.mp ndq).1, fun z hz => fn z (mem z (.inl hz)), a2.fh, rp, hn _ _ _ e2, e2, fun v F' H' g1 g' r1 r2 nd' fn' sh' ext' sub' => ?_⟩
        have disj : ∀ z ∈ rr, z ∉ h := fun z hz hy => (List.nodup_append.mp ndq).2.2 z hy z hz rfl
        obtain ⟨f', rs', pm⟩ := (h4 F' H' ext'.ff (fun z hz o e => ext'.keep z o e (disj z hz))).1 r.2 v0 g' r2
        rw [set_self hv0] at rs'
        have nrr : ∀ z ∈ rr, z ∉ g1 ++ g' := fun z hz hy => by
          rcases sub' z hy with w | w
          · exact disj z hz w
          · obtain ⟨o, e⟩ := there z (mem z (.inr hz))
            rw [e] at w; cases w
        have memf : ∀ z ∈ f', z ∈ g' ∨ z ∈ rr := fun z hz => List.mem_append.mp (pm.mem_iff.mp hz)
        have subH : ∀ z, z ∈ h ∨ H1 z = none → z ∈ fp ∨ H z = none := fun z hz => by
          rcases hz with hz | hz
          · exact sub2 z (mem z (.inl hz))
          · by_cases hm : z ∈ fp
            · exact .inl hm
            · cases e : H z with
              | none => exact .inr rfl
              | some o => rw [a2.ext.keep z o e hm] at hz; cases hz
        refine hp v F' H' g1 f' ⟨.one r1, rs', ?_, fun z hz => ?_, sh', a2.ext.trans ext' fun z hz => sub2 z (mem z (.inl hz)), fun z hz => ?_⟩
        · have tot : (g1 ++ f').Perm ((g1 ++ g') ++ rr) := by
            rw [List.append_assoc]
            exact pm.append_left g1
          refine tot.nodup_iff.mpr (List.nodup_append.mpr ⟨nd', (List.nodup_append.mp ndq).2.1, fun z hz w hw e => nrr w hw (e ▸ hz)⟩)
        · rcases List.mem_append.mp hz with hz | hz
          · exact fn' z (List.mem_append.mpr (.inl hz))
          · rcases memf z hz with hz | hz
            · exact fn' z (List.mem_append.mpr (.inr hz))
            · obtain ⟨o, e⟩ := there z (mem z (.inr hz))
              rw [ext'.new z (by rw [e]; simp) (disj z hz)]
              exact fn z (mem z (.inr hz))
        · rcases List.mem_append.mp hz with hz | hz
          · exact subH z (sub' z (List.mem_append.mpr (.inl hz)))
          · rcases memf z hz with hz | hz
            · exact subH z (sub' z (List.mem_append.mpr (.inr hz)))
            · exact sub2 z (mem z (.inr hz))
      · exact hp.elim
    · exact hp.elim
  · exact q.elim
theorem pd_defIO {e : Expr} {n i : Nat} {G : T → List PyData → Option (T × T)} {ga : FA} {E : XK} (hK : C.K = X.K) (hn : ∀ t0 ds r, G t0 ds = some r → ds.length + 1 = n) (p : PE X e (tCall (spIO X.K n G) [] E (tCons (tVar i) (tA C ga)))) : PE X e (tD C (eDefIO G i ga)) := by
  rw [← hK] at p
  exact p.impD fun _ _ _ => t_defIO hn

/-! bodies -/
def cnN (K : PySem.W.Frag) : Cn := ⟨K, fun _ _ _ _ => False, fun _ => none⟩
def startE (n : Nat) (ts : List T) : Env := ts.map some ++ List.replicate (n - ts.length) none
def retOf (r : Rs (Fl × Env)) : Option (T × Env) := match r with
  | .ok (.ret t, η) => some (t, η)
  | .ok (.nx, η) => some (.sh .none, η)
  | _ => none
theorem RS.nones {K : PySem.W.Frag} {F H : Hp} : ∀ n : Nat, RS K F H (List.replicate n none) (List.replicate n none) []
  | 0 => by simp only [List.replicate, RS]; exact ⟨trivial, trivial⟩
  | n + 1 => by
    simp only [List.replicate_succ, RS]
    exact ⟨none, _, rfl, RS.nones n⟩
theorem RS.startT {K : PySem.W.Frag} {F H : Hp} {m : Nat} : ∀ {ts : List T} {vs : List V} {f : List Addr}, RTs K F H ts vs f → RS K F H (ts.map some ++ List.replicate m none) (vs.map some ++ List.replicate m none) f
  | [], vs, f, h => by
    simp only [RTs] at h
    obtain ⟨rfl, rfl⟩ := h
    exact RS.nones m
  | t :: ts, vs, f, h => by
    obtain ⟨x, xs, f1, f2, rfl, rfl, r1, r2⟩ := h.uncons
    simp only [List.map_cons, List.cons_append, RS]
    exact ⟨x, _, f1, f2, rfl, rfl, r1, RS.startT r2⟩
theorem start_ok {K : PySem.W.Frag} {F H : Hp} {N : List Str} {ts : List T} {vs : List V} {f : List Addr} (h : RTs K F H ts vs f) : RS K F H (startE N.length ts) (L2.start N vs) f := by
  unfold startE L2.start
  rw [h.len]
  exact RS.startT h
end Pv
set_option Elab.async false
set_option linter.all false
set_option maxRecDepth 100000
set_option maxHeartbeats 4000000
/-! several targets take several values, owned lists among them -/
namespace Pv
open PySem L2
variable {X : Cx} {C : Cn} {io : List Nat}
abbrev FGo := List T → Env → Rs Env
def goNil : FGo := fun ts η => match ts with
  | [] => .ok η
  | _ => .bad
def goCons (h : FG) (hs : FGo) : FGo := fun ts η => match ts with
  | t :: ts => (h t η).bind fun η1 => hs ts η1
  | [] => .bad
def tGo (C : Cn) (ws : List Nat) (h : FGo) : TGs := fun vs σ H Q => ∃ η F fp ts f, Aft C.K (f ++ fp) F H σ ts vs η F H f fp ∧ (h ts η).post (fun η' => ∀ σ' F' H' fp', Aft C.K (f ++ fp) F H σ' [] [] η' F' H' [] fp' → Chg ws σ σ' → Q σ' H') (XPS C (f ++ fp) F H)
theorem Ext.more {fp fp2 : List Addr} {F H F' H' : Hp} (a : Ext fp F H F' H') (s : ∀ x ∈ fp, x ∈ fp2) : Ext fp2 F H F' H' := ⟨a.ff, fun b o e h => a.keep b o e fun z => h (s b z), fun b e h => a.new b e fun z => h (s b z)⟩
theorem pgo_nil : PGs X [] (tGo C [] goNil) := by
  refine pgs_nil.impD fun vs σ H Q ⟨η, F, fp, ts, f, a, q⟩ => ?_
  unfold goNil at q
  split at q
  · have hr := a.rt
    simp only [RTs] at hr
    obtain ⟨rfl, rfl⟩ := hr
    exact ⟨rfl, q σ F H fp a ⟨rfl, fun _ _ => rfl⟩⟩
  · exact q.elim
theorem pgo_cons {e : Expr} {es : List Expr} {ws wss : List Nat} {h : FG} {hs : FGo} (h1 : PG X e (tG C ws h)) (h2 : PGs X es (tGo C wss hs))
    (ha : (assignEach (e :: es) X.env).map (·.2) = assign e X.env :: (assignEach es X.env).map (·.2) := by rfl) : PGs X (e :: es) (tGo C (ws ++ wss) (goCons h hs)) := by
  refine (pgs_cons h1 h2 ha).impD fun vs σ H Q ⟨η, F, fp, ts, f, a, q⟩ => ?_
  unfold goCons at q
  split at q
  · rename_i t ts
    obtain ⟨x, xs, f1, f2, rfl, rfl, r1, r2⟩ := a.rt.uncons
    have nd := a.nd
    have n12 := (List.nodup_append.mp nd).1
    have n3 := (List.nodup_append.mp nd).2.1
    have d3 := (List.nodup_append.mp nd).2.2
    have n1 := (List.nodup_append.mp n12).1
    have n2 := (List.nodup_append.mp n12).2.1
    have d12 := (List.nodup_append.mp n12).2.2
    have a0 : Aft C.K (f1 ++ fp) F H σ [t] [x] η F H f1 fp := ⟨.one r1, a.rs, List.nodup_append.mpr ⟨n1, n3, fun y hy z hz => d3 y (by simp [hy]) z hz⟩, fun y hy => a.fn y (by rcases List.mem_append.mp hy with hy | hy <;> simp [hy]), a.fh, .refl, fun y hy => .inl hy⟩
    have sub1 : ∀ y ∈ f1 ++ fp, y ∈ (f1 ++ f2) ++ fp := fun y hy => by rcases List.mem_append.mp hy with hy | hy <;> simp [hy]
    refine ⟨x, xs, rfl, η, F, fp, t, f1, a0, Rs.post_mono (Rs.post_bind q) (fun η1 hq σ1 F1 H1 fp1 b c1 => ?_) fun ex η' z => fun σ' cls d F' H' p1 p2 p3 p4 => z σ' cls d F' H' p1 p2 p3 (p4.more sub1)⟩
    have out : ∀ y ∈ f2, y ∉ f1 ++ fp := fun y hy hz => by
      rcases List.mem_append.mp hz with hz | hz
      · exact d12 y hz y hy rfl
      · exact d3 y (by simp [hy]) y hz rfl
    have there := r2.there
    have r2' : RTs C.K F1 H1 ts xs f2 := r2.mono b.ext.ff fun y hy o e => b.ext.keep y o e (out y hy)
    have a2 : Aft C.K (f2 ++ fp1) F1 H1 σ1 ts xs η1 F1 H1 f2 fp1 := by
      refine ⟨r2', b.rs, List.nodup_append.mpr ⟨n2, by simpa using b.nd, fun y hy z hz e => ?_⟩, fun y hy => ?_, b.fh, .refl, fun y hy => .inl hy⟩
      · subst e
        obtain ⟨o, e⟩ := there y hy
        rcases b.sub y (by simpa using hz) with w | w
        · exact out y hy w
        · rw [e] at w; cases w
      · rcases List.mem_append.mp hy with hy | hy
        · obtain ⟨o, e⟩ := there y hy
          rw [b.ext.new y (by rw [e]; simp) (out y hy)]
          exact a.fn y (by simp [hy])
        · exact b.fn y (by simpa using hy)
    have sub2 : ∀ y ∈ f2 ++ fp1, y ∈ (f1 ++ f2) ++ fp ∨ H y = none := fun y hy => by
      rcases List.mem_append.mp hy with hy | hy
      · exact .inl (by simp [hy])
      · rcases b.sub y (by simpa using hy) with w | w
        · exact .inl (sub1 y w)
        · exact .inr w
    have e01 : Ext ((f1 ++ f2) ++ fp) F H F1 H1 := b.ext.more sub1
    refine ⟨η1, F1, fp1, ts, f2, a2, Rs.post_mono hq (fun η2 hq2 σ2 F2 H2 fp2 c c2 => hq2 σ2 F2 H2 fp2 ⟨c.rt, c.rs, c.nd, c.fn, c.fh, e01.trans c.ext sub2, fun y hy => ?_⟩ ⟨c2.1.trans c1.1, fun j hj => ?_⟩) fun ex η' z => fun σ' cls d F' H' p1 p2 p3 p4 => z σ' cls d F' H' p1 p2 p3 (e01.trans p4 sub2)⟩
    · rcases c.sub y hy with w | w
      · exact sub2 y w
      · by_cases hm : y ∈ (f1 ++ f2) ++ fp
        · exact .inl hm
        · cases e : H y with
          | none => exact .inr rfl
          | some o =>
            have := e01.keep y o e hm
            rw [this] at w; cases w
    · rw [List.mem_append, not_or] at hj
      exact (c2.2 j hj.2).trans (c1.2 j hj.1)
  · exact q.elim
def sMul (n : Nat) (g : FA) (h : FGo) : FS := fun η => (g η).bind fun p => if p.1.length = n ∧ n ≤ 1000 then (h p.1 p.2).bind fun η' => .ok (.nx, η') else .bad
theorem psd_mul {st : Stmt} {n : Nat} {g : FA} {ws : List Nat} {h : FGo} (hK : C.K = X.K) (hio : ∀ j ∈ io, j ∉ ws) (p : PS X st (tAsg (tTup (tA C g)) (gTup X.K n (tGo C ws h)))) : PS X st (tS C io (sMul n g h)) := by
  refine p.impD fun D σ H ⟨η, F, fp, o, q⟩ => ?_
  refine tA_step o.aft (Rs.post_mono (Rs.post_bind q) (fun p hp xs F1 H1 f1 fp1 a => ?_) fun _ _ z => z.xp)
  have a : Aft C.K fp F H σ p.1 xs p.2 F1 H1 f1 fp1 := a
  split at hp
  · rename_i hn
    have hl := a.rt.len
    refine ⟨by rw [hl, hn.1, PySem.sizeLine_eq]; omega, fun t ht => ?_⟩
    have e12 : ∀ b o, H1 b = some o → upd H1 t (.tup xs) b = some o := fun b o e => by rw [upd_ne (ne_of_none e ht)]; exact e
    have a2 : Aft C.K (f1 ++ fp1) F1 (upd H1 t (.tup xs)) σ p.1 xs p.2 F1 (upd H1 t (.tup xs)) f1 fp1 :=
      ⟨a.rt.mono (.refl _) fun b _ o e => e12 b o e, a.rs.mono (.refl _) fun b _ o e => e12 b o e, a.nd, a.fn, fun b o e => e12 b o (a.fh b o e), .refl, fun b hb => .inl hb⟩
    have x12 : Ext (f1 ++ fp1) F1 H1 F1 (upd H1 t (.tup xs)) := ⟨.refl _, fun b o e _ => e12 b o e, fun _ _ _ => rfl⟩
    have x02 : Ext fp F H F1 (upd H1 t (.tup xs)) := a.ext.trans x12 fun b hb => a.sub b hb
    refine ⟨t, xs, rfl, SqT.of upd_same, by rw [hl, hn.1], p.2, F1, fp1, p.1, f1, a2, Rs.post_mono (Rs.post_bind hp) (fun η' hq σ' F' H' fp' b c => ?_) fun ex η' z => fun σ' cls d F' H' p1 p2 p3 p4 => z σ' cls d F' H' p1 p2 p3 (x02.trans p4 a.sub)⟩
    refine hq σ' F' H' fp' ⟨b.rt, b.rs, b.nd, b.fn, b.fh, x02.trans b.ext a.sub, fun y hy => ?_⟩ (c.toIO hio)
    rcases b.sub y hy with w | w
    · exact a.sub y w
    · by_cases hm : y ∈ fp
      · exact .inl hm
      · cases e : H y with
        | none => exact .inr rfl
        | some o =>
          have := x02.keep y o e hm
          rw [this] at w; cases w
  · exact hp.elim
end Pv
set_option Elab.async false
set_option linter.all false
set_option maxRecDepth 100000
set_option maxHeartbeats 4000000
/-! zip where the one is a list and the other a tuple: each side's kind is a Bool -/
namespace Pv
open PySem L2 RZ PySem.Spec PyProof.Rows
/-- the walker over a list (true) or a tuple (false) -/
def WkAt (k : Bool) (h : Heap) (it l : Addr) (i : Nat) : Prop := if k then h.IsListIter it l i else h.IsTupleIter it l i
def SrcAt (k : Bool) (h : Heap) (l : Addr) (xs : Array Value) : Prop := if k then h.IsList l xs else h.IsTuple l xs
section
variable {k : Bool} {h h' : Heap} {it l b : Addr} {i : Nat} {xs : Array Value}
theorem WkAt.far (x : WkAt k h it l i) (e : Heap.ExtBut b h h') (n : it ≠ b) : WkAt k h' it l i := by
  cases k with
  | true => exact Heap.IsListIter.extBut (show h.IsListIter it l i from x) e n
  | false => exact Heap.IsTupleIter.extBut (show h.IsTupleIter it l i from x) e n
theorem SrcAt.far (x : SrcAt k h l xs) (e : Heap.ExtBut b h h') (n : l ≠ b) : SrcAt k h' l xs := by
  cases k with
  | true => exact Heap.IsList.extBut (show h.IsList l xs from x) e n
  | false => exact Heap.IsTuple.extBut (show h.IsTuple l xs from x) e n
theorem WkAt.moved (x : WkAt k h it l i) (e : ∀ o, h.get? it = some o → h'.get? it = some o) : WkAt k h' it l i := by
  cases k with
  | true => exact Heap.IsListIter.at (show h.IsListIter it l i from x) e
  | false => exact Heap.IsTupleIter.at (show h.IsTupleIter it l i from x) e
end
section
variable {prog : Program} {w : World} {A : Around} {E : Value → Shared → Prop} {s : Shared} {k : Bool} {it l : Addr} {i : Nat} {xs : Array Value} {x : Value} {Q : Value → Shared → Prop}
theorem nx_item (a : WkAt k s.heap it l i) (b : SrcAt k s.heap l xs) (e : xs[i]? = some x) (q : ∀ h', WkAt k h' it l (i + 1) → Heap.SameBut it s.heap h' → Q x { s with heap := h' }) : wpAny (model prog w) A (Builtin.SmallTypes.nextOf (.ref it)) Q E s := by
  cases k with
  | true => exact wpAny_nextOf_list_item (show s.heap.IsListIter it l i from a) (show s.heap.IsList l xs from b) e q
  | false => exact nextOf_tuple_item (show s.heap.IsTupleIter it l i from a) (show s.heap.IsTuple l xs from b) e q
theorem nx_end (hh : A.handled = none) (a : WkAt k s.heap it l i) (b : SrcAt k s.heap l xs) (e : xs[i]? = none) (q : ∀ h' e, Heap.ExtBut it s.heap h' → (∃ o, h'.get? e = some o ∧ o.cls = .type "StopIteration") → E (.ref e) { s with heap := h' }) : wpAny (model prog w) A (Builtin.SmallTypes.nextOf (.ref it)) Q E s := by
  cases k with
  | true => exact wpAny_nextOf_list_end hh (show s.heap.IsListIter it l i from a) (show s.heap.IsList l xs from b) e q
  | false => exact nextOf_tuple_end hh (show s.heap.IsTupleIter it l i from a) (show s.heap.IsTuple l xs from b) e q
end
/-! one turn of the zip -/
section
variable {prog : Program} {w : World} {A : Around} {E : Value → Shared → Prop} {s : Shared} {k1 k2 : Bool} {z TI TO i1 i2 l1 l2 : Addr} {n1 n2 : Nat} {xs ys : Array Value} {x y a b : Value}
theorem zn_item {Q : Value → Shared → Prop} (D : ZipApart z TI TO i1 i2 l1 l2) (hz : IsZip s.heap z TI TO .none) (hI : IsPair s.heap TI (.ref i1) (.ref i2)) (hO : IsPair s.heap TO a b)
    (w1 : WkAt k1 s.heap i1 l1 n1) (w2 : WkAt k2 s.heap i2 l2 n2) (c1 : SrcAt k1 s.heap l1 xs) (c2 : SrcAt k2 s.heap l2 ys) (e1 : xs[n1]? = some x) (e2 : ys[n2]? = some y)
    (q : ∀ h', IsZip h' z TI TO (rawInt s.heap.objs.size) → IsPair h' TO x y → WkAt k1 h' i1 l1 (n1 + 1) → WkAt k2 h' i2 l2 (n2 + 1) → IsPair h' s.heap.objs.size x y → h'.objs.size = s.heap.objs.size + 1 →
      (∀ c o, c ≠ z → c ≠ TO → c ≠ i1 → c ≠ i2 → s.heap.get? c = some o → h'.get? c = some o) → Q (.ref s.heap.objs.size) { s with heap := h' }) :
    wpAny (model prog w) A (Builtin.«zip.__next__» ⟨[.ref z], []⟩) (fun fin s' => ∃ v, fin = .done (.ret v) ∧ Q v s') E s := by
  show wpAny _ _ (field (.ref z) 2 >>= _) _ _ _
  refine wpAny_bind (wpAny_field hz rfl (x := .bool false) rfl ?_)
  show wpAny _ _ (field (.ref z) 3 >>= _) _ _ _
  refine wpAny_bind (wpAny_field hz rfl (x := .ref TI) rfl (wpAny_bind (wpAny_seqItems hI rfl ?_)))
  show wpAny _ _ (Builtin.SmallTypes.ownedTupleIsFree (.ref z) >>= _) _ _ _
  refine wpAny_bind ?_
  unfold Builtin.SmallTypes.ownedTupleIsFree
  refine wpAny_bind (wpAny_field hz rfl (x := .none) rfl (wpAny_pure ?_))
  simp only [if_true]
  refine wpAny_bind (wpAny_rule (wpAny_bind (wpAny_field hz rfl (x := .ref TO) rfl (wpAny_bind (wpAny_setField_rec hz (by simp) fun g1 z1 s1 => ?_)))))
  replace z1 : IsZip g1 z TI TO .ellipsis := z1
  refine wpAny_bind ?_
  simp only [List.zipIdx_cons, List.zipIdx_nil, List.forIn_cons, List.forIn_nil]
  refine wpAny_bind (wpAny_bind (wpAny_onRaise ?_))
  show wpAny _ _ (Builtin.SmallTypes.nextOf (.ref i1) >>= _) _ _ _
  refine wpAny_bind (nx_item (w1.far s1.extBut D.i1z) (c1.far s1.extBut D.l1z) e1 fun g2 m1 s2 => wpAny_pure ?_)
  have O2 : IsPair g2 TO a b := s2.extBut _ _ D.TOi1 (s1.extBut _ _ D.TOz hO)
  refine wpAny_bind (wpAny_seqItems O2 rfl (wpAny_bind (wpAny_updateSeq_pair O2 fun g3 O3 s3 => ?_)))
  replace O3 : IsPair g3 TO x b := O3
  refine wpAny_bind (wpAny_letGo (wpAny_pure (wpAny_bind (wpAny_bind (wpAny_onRaise ?_)))))
  show wpAny _ _ (Builtin.SmallTypes.nextOf (.ref i2) >>= _) _ _ _
  refine wpAny_bind (nx_item (((w2.far s1.extBut D.i2z).far s2.extBut D.i12.symm).far s3.extBut D.TOi2.symm) (((c2.far s1.extBut D.l2z).far s2.extBut D.l2i1).far s3.extBut D.l2TO) e2 fun g4 m2 s4 => wpAny_pure ?_)
  have O4 : IsPair g4 TO x b := s4.extBut _ _ D.TOi2 O3
  refine wpAny_bind (wpAny_seqItems O4 rfl (wpAny_bind (wpAny_updateSeq_pair O4 fun g5 O5 s5 => ?_)))
  replace O5 : IsPair g5 TO x y := O5
  refine wpAny_bind (wpAny_letGo (wpAny_pure (wpAny_pure (wpAny_bind (wpAny_seqItems O5 rfl (wpAny_bind (wpAny_newTuple ?_)))))))
  have hsz : g5.objs.size = s.heap.objs.size := by rw [s5.1, s4.1, s3.1, s2.1, s1.1]
  have z5 : IsZip g5 z TI TO .ellipsis := s5.extBut _ _ D.TOz.symm (s4.extBut _ _ D.i2z.symm (s3.extBut _ _ D.TOz.symm (s2.extBut _ _ D.i1z.symm z1)))
  have m1' : WkAt k1 g5 i1 l1 (n1 + 1) := ((m1.far s3.extBut D.TOi1.symm).far s4.extBut D.i12).far s5.extBut D.TOi1.symm
  have m2' : WkAt k2 g5 i2 l2 (n2 + 1) := m2.far s5.extBut D.TOi2.symm
  have zlt : z < g5.objs.size := Heap.lt_size z5
  show wpAny _ _ (Builtin.SmallTypes.ownedTupleHandOut (.ref z) (.ref g5.objs.size) >>= _) _ _ _
  refine wpAny_bind ?_
  unfold Builtin.SmallTypes.ownedTupleHandOut
  have z6 : IsZip (g5.push { cls := .type "tuple", data := .seq #[x, y] }) z TI TO .ellipsis := Heap.get?_push_of_some _ z5
  refine wpAny_bind (wpAny_setField_rec z6 (by simp) fun g7 z7 s7 => ?_)
  replace z7 : IsZip g7 z TI TO (rawInt g5.objs.size) := z7
  refine wpAny_setField_rec z7 (by simp) fun g8 z8 s8 => ?_
  replace z8 : IsZip g8 z TI TO (rawInt g5.objs.size) := z8
  have up : ∀ c o, c ≠ z → g5.get? c = some o → g8.get? c = some o := fun c o n e => s8.extBut _ _ n (s7.extBut _ _ n (Heap.get?_push_of_some _ e))
  have T8 : IsPair g8 g5.objs.size x y := s8.extBut _ _ (Nat.ne_of_gt zlt) (s7.extBut _ _ (Nat.ne_of_gt zlt) (Heap.get?_push_size _ rfl))
  have n8 : g8.objs.size = g5.objs.size + 1 := by rw [s8.1, s7.1, Heap.size_push]
  rw [hsz] at z8 T8 n8
  refine wpAny_pure ⟨_, rfl, ?_⟩
  show Q (.ref g5.objs.size) _
  rw [hsz]
  exact q g8 z8 (up _ _ D.TOz O5) (m1'.moved fun o e => up _ o D.i1z e) (m2'.moved fun o e => up _ o D.i2z e) T8 n8 fun c o d1 d2 d3 d4 e => up c o d1 (s5.extBut _ _ d2 (s4.extBut _ _ d4 (s3.extBut _ _ d2 (s2.extBut _ _ d3 (s1.extBut _ _ d1 e)))))
theorem zn_end {Q : Fin → Shared → Prop} (hh : A.handled = none) (D : ZipApart z TI TO i1 i2 l1 l2) (hz : IsZip s.heap z TI TO .none) (hI : IsPair s.heap TI (.ref i1) (.ref i2)) (hO : IsPair s.heap TO a b)
    (w1 : WkAt k1 s.heap i1 l1 n1) (w2 : WkAt k2 s.heap i2 l2 n2) (c1 : SrcAt k1 s.heap l1 xs) (c2 : SrcAt k2 s.heap l2 ys) (he : xs[n1]? = none ∨ ys[n2]? = none)
    (q : ∀ h' e, (∀ c o, c ≠ z → c ≠ TO → c ≠ i1 → c ≠ i2 → s.heap.get? c = some o → h'.get? c = some o) → (∃ o, h'.get? e = some o ∧ o.cls = .type "StopIteration") → E (.ref e) { s with heap := h' }) :
    wpAny (model prog w) A (Builtin.«zip.__next__» ⟨[.ref z], []⟩) Q E s := by
  show wpAny _ _ (field (.ref z) 2 >>= _) _ _ _
  refine wpAny_bind (wpAny_field hz rfl (x := .bool false) rfl ?_)
  show wpAny _ _ (field (.ref z) 3 >>= _) _ _ _
  refine wpAny_bind (wpAny_field hz rfl (x := .ref TI) rfl (wpAny_bind (wpAny_seqItems hI rfl ?_)))
  show wpAny _ _ (Builtin.SmallTypes.ownedTupleIsFree (.ref z) >>= _) _ _ _
  refine wpAny_bind ?_
  unfold Builtin.SmallTypes.ownedTupleIsFree
  refine wpAny_bind (wpAny_field hz rfl (x := .none) rfl (wpAny_pure ?_))
  simp only [if_true]
  refine wpAny_bind (wpAny_rule (wpAny_bind (wpAny_field hz rfl (x := .ref TO) rfl (wpAny_bind (wpAny_setField_rec hz (by simp) fun g1 z1 s1 => ?_)))))
  replace z1 : IsZip g1 z TI TO .ellipsis := z1
  refine wpAny_bind ?_
  simp only [List.zipIdx_cons, List.zipIdx_nil, List.forIn_cons, List.forIn_nil]
  refine wpAny_bind (wpAny_bind (wpAny_onRaise ?_))
  show wpAny _ _ (Builtin.SmallTypes.nextOf (.ref i1) >>= _) _ _ _
  cases e1 : xs[n1]? with
  | none =>
    refine wpAny_bind (nx_end hh (w1.far s1.extBut D.i1z) (c1.far s1.extBut D.l1z) e1 fun g2 e s2 ⟨oe, ge, ce⟩ => ?_)
    have z2 : IsZip g2 z TI TO .ellipsis := s2 _ _ D.i1z.symm z1
    have ez : e ≠ z := fun x => by subst x; rw [z2] at ge; cases ge; simp at ce
    exact wpAny_setField_rec z2 (by simp) fun g3 _ s3 => q g3 e (fun c o d1 _ d3 _ x => s3.extBut _ _ d1 (s2 _ _ d3 (s1.extBut _ _ d1 x))) ⟨oe, s3.extBut _ _ ez ge, ce⟩
  | some x =>
    have e2 : ys[n2]? = none := by
      rcases he with h | h
      · rw [e1] at h; cases h
      · exact h
    refine wpAny_bind (nx_item (w1.far s1.extBut D.i1z) (c1.far s1.extBut D.l1z) e1 fun g2 m1 s2 => wpAny_pure ?_)
    have O2 : IsPair g2 TO a b := s2.extBut _ _ D.TOi1 (s1.extBut _ _ D.TOz hO)
    refine wpAny_bind (wpAny_seqItems O2 rfl (wpAny_bind (wpAny_updateSeq_pair O2 fun g3 O3 s3 => ?_)))
    refine wpAny_bind (wpAny_letGo (wpAny_pure (wpAny_bind (wpAny_bind (wpAny_onRaise ?_)))))
    show wpAny _ _ (Builtin.SmallTypes.nextOf (.ref i2) >>= _) _ _ _
    refine wpAny_bind (nx_end hh (((w2.far s1.extBut D.i2z).far s2.extBut D.i12.symm).far s3.extBut D.TOi2.symm) (((c2.far s1.extBut D.l2z).far s2.extBut D.l2i1).far s3.extBut D.l2TO) e2 fun g4 e s4 ⟨oe, ge, ce⟩ => ?_)
    have z4 : IsZip g4 z TI TO .ellipsis := s4 _ _ D.i2z.symm (s3.extBut _ _ D.TOz.symm (s2.extBut _ _ D.i1z.symm z1))
    have ez : e ≠ z := fun x => by subst x; rw [z4] at ge; cases ge; simp at ce
    exact wpAny_setField_rec z4 (by simp) fun g5 _ s5 => q g5 e (fun c o d1 d2 d3 d4 x => s5.extBut _ _ d1 (s4 _ _ d4 (s3.extBut _ _ d2 (s2.extBut _ _ d3 (s1.extBut _ _ d1 x))))) ⟨oe, s5.extBut _ _ ez ge, ce⟩
theorem pn_item {Q : Option Value → Shared → Prop} (D : ZipApart z TI TO i1 i2 l1 l2) (hz : IsZip s.heap z TI TO .none) (hI : IsPair s.heap TI (.ref i1) (.ref i2)) (hO : IsPair s.heap TO a b)
    (w1 : WkAt k1 s.heap i1 l1 n1) (w2 : WkAt k2 s.heap i2 l2 n2) (c1 : SrcAt k1 s.heap l1 xs) (c2 : SrcAt k2 s.heap l2 ys) (e1 : xs[n1]? = some x) (e2 : ys[n2]? = some y)
    (q : ∀ h', IsZip h' z TI TO (rawInt s.heap.objs.size) → IsPair h' TO x y → WkAt k1 h' i1 l1 (n1 + 1) → WkAt k2 h' i2 l2 (n2 + 1) → IsPair h' s.heap.objs.size x y → h'.objs.size = s.heap.objs.size + 1 →
      (∀ c o, c ≠ z → c ≠ TO → c ≠ i1 → c ≠ i2 → s.heap.get? c = some o → h'.get? c = some o) → Q (some (.ref s.heap.objs.size)) { s with heap := h' }) : wpAny (model prog w) A (pyNext (.ref z)) Q E s := by
  have ty : s.TypeIs (.ref z) "zip" := ⟨_, hz, rfl⟩
  unfold pyNext
  exact wpAny_bind (wpAny_attempt (wpAny_callSpecial?_slot (name := Str.ofString "__next__") ty F.slot_zip_next (wpAny_call_entry F.slot_zip_next ty F.entry_zip_next
    (zn_item D hz hI hO w1 w2 c1 c2 e1 e2 fun h' p1 p2 p3 p4 p5 p6 p7 => wpAny_pure (q h' p1 p2 p3 p4 p5 p6 p7)) (F.args_zip_next_1 _))))
theorem pn_end {Q : Option Value → Shared → Prop} (hh : A.handled = none) (D : ZipApart z TI TO i1 i2 l1 l2) (hz : IsZip s.heap z TI TO .none) (hI : IsPair s.heap TI (.ref i1) (.ref i2)) (hO : IsPair s.heap TO a b)
    (w1 : WkAt k1 s.heap i1 l1 n1) (w2 : WkAt k2 s.heap i2 l2 n2) (c1 : SrcAt k1 s.heap l1 xs) (c2 : SrcAt k2 s.heap l2 ys) (he : xs[n1]? = none ∨ ys[n2]? = none)
    (q : ∀ h', (∀ c o, c ≠ z → c ≠ TO → c ≠ i1 → c ≠ i2 → s.heap.get? c = some o → h'.get? c = some o) → Q none { s with heap := h' }) : wpAny (model prog w) A (pyNext (.ref z)) Q E s := by
  have ty : s.TypeIs (.ref z) "zip" := ⟨_, hz, rfl⟩
  unfold pyNext
  refine wpAny_bind (wpAny_attempt (wpAny_callSpecial?_slot (name := Str.ofString "__next__") ty F.slot_zip_next (wpAny_call_entry F.slot_zip_next ty F.entry_zip_next (zn_end hh D hz hI hO w1 w2 c1 c2 he fun h' e hk ⟨o, ho, hc⟩ => ?_) (F.args_zip_next_1 _))))
  exact wpAny_bind (wpAny_isInstance (T := "StopIteration") (b := true) ⟨o, ho, hc⟩ isSubtype_stop (wpAny_pure (q _ hk)))
end
/-! the zip is made -/
abbrev wkObj (k : Bool) (l : Addr) : Obj := { cls := .type (if k then "list_iterator" else "tuple_iterator"), data := .fields #[.ref l, .int 0 0] }
abbrev mz1 (k1 : Bool) (h : Heap) (l1 : Addr) : Heap := h.push (wkObj k1 l1)
abbrev mz2 (k1 k2 : Bool) (h : Heap) (l1 l2 : Addr) : Heap := (mz1 k1 h l1).push (wkObj k2 l2)
abbrev mz3 (k1 k2 : Bool) (h : Heap) (l1 l2 : Addr) : Heap := (mz2 k1 k2 h l1 l2).push { cls := .type "tuple", data := .seq #[.ref h.objs.size, .ref (mz1 k1 h l1).objs.size] }
abbrev mz4 (k1 k2 : Bool) (h : Heap) (l1 l2 : Addr) : Heap := (mz3 k1 k2 h l1 l2).push { cls := .type "tuple", data := .seq #[.none, .none] }
abbrev mz5 (k1 k2 : Bool) (h : Heap) (l1 l2 : Addr) : Heap := (mz4 k1 k2 h l1 l2).push { cls := .type "zip", data := .fields #[.none, .bool false, .bool false, .ref (mz2 k1 k2 h l1 l2).objs.size, .ref (mz3 k1 k2 h l1 l2).objs.size] }
abbrev wkFree (k : Bool) (l : Addr) : Prop := (wkObj k l).isFreed = false
theorem wkFree_ok (k : Bool) (l : Addr) : wkFree k l := by cases k <;> rfl
theorem meets_mzTL (l1 l2 : Addr) (xs ys : Array Value) : Meets (Builtin.«zip.__new__» ⟨[.type "zip", .ref l1, .ref l2], []⟩) (fun _ R s => s.heap.IsTuple l1 xs ∧ s.heap.IsList l2 ys ∧ R (.ok (.ret (.ref (mz4 false true s.heap l1 l2).objs.size))) { s with heap := mz5 false true s.heap l1 l2 }) :=
  .of_wp fun prog w A R s h => by
    obtain ⟨hp, g, d, tk, os⟩ := s
    obtain ⟨c1, c2, h⟩ := h
    have hsub := PySem.sub_zip
    have L1 : Heap.IsTuple (Shared.heap ⟨hp, g, d, tk, os⟩) l1 xs := c1
    have L2 : Heap.IsList (Shared.heap ⟨hp.push { cls := .type "tuple_iterator", data := .fields #[.ref l1, .int 0 0] }, g, d, tk, os⟩) l2 ys := Heap.IsList.push c2 _
    wp_walk using wpAny_pyIter_tuple L1, wpAny_pyIter_list L2
    exact ⟨_, rfl, h⟩
theorem meets_mzLT (l1 l2 : Addr) (xs ys : Array Value) : Meets (Builtin.«zip.__new__» ⟨[.type "zip", .ref l1, .ref l2], []⟩) (fun _ R s => s.heap.IsList l1 xs ∧ s.heap.IsTuple l2 ys ∧ R (.ok (.ret (.ref (mz4 true false s.heap l1 l2).objs.size))) { s with heap := mz5 true false s.heap l1 l2 }) :=
  .of_wp fun prog w A R s h => by
    obtain ⟨hp, g, d, tk, os⟩ := s
    obtain ⟨c1, c2, h⟩ := h
    have hsub := PySem.sub_zip
    have L1 : Heap.IsList (Shared.heap ⟨hp, g, d, tk, os⟩) l1 xs := c1
    have L2 : Heap.IsTuple (Shared.heap ⟨hp.push { cls := .type "list_iterator", data := .fields #[.ref l1, .int 0 0] }, g, d, tk, os⟩) l2 ys := Heap.IsTuple.push c2 _
    wp_walk using wpAny_pyIter_list L1, wpAny_pyIter_tuple L2
    exact ⟨_, rfl, h⟩
theorem meets_mz : ∀ (k1 k2 : Bool) (l1 l2 : Addr) (xs ys : Array Value), Meets (Builtin.«zip.__new__» ⟨[.type "zip", .ref l1, .ref l2], []⟩) (fun _ R s => SrcAt k1 s.heap l1 xs ∧ SrcAt k2 s.heap l2 ys ∧ R (.ok (.ret (.ref (mz4 k1 k2 s.heap l1 l2).objs.size))) { s with heap := mz5 k1 k2 s.heap l1 l2 })
  | true, true, l1, l2, xs, ys => meets_zip_new l1 l2 xs ys
  | false, false, l1, l2, xs, ys => meets_zipT_new l1 l2 xs ys
  | true, false, l1, l2, xs, ys => meets_mzLT l1 l2 xs ys
  | false, true, l1, l2, xs, ys => meets_mzTL l1 l2 xs ys
section
variable {prog : Program} {w : World} {A : Around} {E : Value → Shared → Prop} {s : Shared}
theorem wk_new {k : Bool} {h : Heap} {it l : Addr} (e : h.get? it = some (wkObj k l)) : WkAt k h it l 0 := by
  cases k with
  | true => exact ⟨_, e, rfl, rfl⟩
  | false => exact ⟨_, e, rfl, rfl⟩
theorem call_mz {k1 k2 : Bool} {l1 l2 : Addr} {xs ys : Array Value} {Q : Value → Shared → Prop} (c1 : SrcAt k1 s.heap l1 xs) (c2 : SrcAt k2 s.heap l2 ys)
    (q : ∀ h', IsZip h' (s.heap.objs.size + 4) (s.heap.objs.size + 2) (s.heap.objs.size + 3) .none → IsPair h' (s.heap.objs.size + 2) (.ref s.heap.objs.size) (.ref (s.heap.objs.size + 1)) → IsPair h' (s.heap.objs.size + 3) .none .none →
      WkAt k1 h' s.heap.objs.size l1 0 → WkAt k2 h' (s.heap.objs.size + 1) l2 0 → (∀ c o, s.heap.get? c = some o → h'.get? c = some o) → Q (.ref (s.heap.objs.size + 4)) { s with heap := h' }) :
    wpAny (model prog w) A (call (.type "zip") [.ref l1, .ref l2]) Q E s := by
  refine callType_new F.called_zip (by decide) (F.typeCall_zip_2 _ _) (F.newCall_zip_2 _ _) (fun obj => F.args_object_init_3 obj _ _) F.entry_zip_new (meets_mz k1 k2 l1 l2 xs ys) ⟨c1, c2, ?_⟩
  have n1 : (mz1 k1 s.heap l1).objs.size = s.heap.objs.size + 1 := Heap.size_push ..
  have n2 : (mz2 k1 k2 s.heap l1 l2).objs.size = s.heap.objs.size + 2 := by rw [Heap.size_push, n1]
  have n3 : (mz3 k1 k2 s.heap l1 l2).objs.size = s.heap.objs.size + 3 := by rw [Heap.size_push, n2]
  have n4 : (mz4 k1 k2 s.heap l1 l2).objs.size = s.heap.objs.size + 4 := by rw [Heap.size_push, n3]
  have f1 : wkFree k1 l1 := wkFree_ok _ _
  have f2 : wkFree k2 l2 := wkFree_ok _ _
  have g5 : (mz5 k1 k2 s.heap l1 l2).get? (mz4 k1 k2 s.heap l1 l2).objs.size = some _ := Heap.get?_push_size _ rfl
  have g4 : (mz5 k1 k2 s.heap l1 l2).get? (mz3 k1 k2 s.heap l1 l2).objs.size = some _ := Heap.get?_push_of_some _ (Heap.get?_push_size _ rfl)
  have g3 : (mz5 k1 k2 s.heap l1 l2).get? (mz2 k1 k2 s.heap l1 l2).objs.size = some _ := Heap.get?_push_of_some _ (Heap.get?_push_of_some _ (Heap.get?_push_size _ rfl))
  have g2 : (mz5 k1 k2 s.heap l1 l2).get? (mz1 k1 s.heap l1).objs.size = some (wkObj k2 l2) := Heap.get?_push_of_some _ (Heap.get?_push_of_some _ (Heap.get?_push_of_some _ (Heap.get?_push_size _ f2)))
  have g1 : (mz5 k1 k2 s.heap l1 l2).get? s.heap.objs.size = some (wkObj k1 l1) := Heap.get?_push_of_some _ (Heap.get?_push_of_some _ (Heap.get?_push_of_some _ (Heap.get?_push_of_some _ (Heap.get?_push_size _ f1))))
  show _ ∧ _
  rw [n2, n3, n4] at g5
  rw [n1, n2] at g3
  rw [n3] at g4
  rw [n1] at g2
  rw [n4]
  exact ⟨⟨_, g5, rfl⟩, q _ g5 g3 g4 (wk_new g1) (wk_new g2) fun c o x => Heap.get?_push_of_some _ (Heap.get?_push_of_some _ (Heap.get?_push_of_some _ (Heap.get?_push_of_some _ (Heap.get?_push_of_some _ x))))⟩
end
/-! the turn, the iterator, the rule -/
def SqW (k : Bool) (K : PySem.W.Frag) (H : Hp) (a : Addr) (xs : List V) : Prop := if k then SqL K H a xs else SqT K H a xs
theorem sqW_src {X : Cx} {pins : List (Addr × Obj)} {σ : L2.St} {H : Hp} {s : Shared} (I : Inv X pins σ H s) {k : Bool} {a : Addr} {xs : List V} (q : SqW k X.K H a xs) : ∃ its, Vals xs its ∧ SrcAt k s.heap a its.toArray ∧ a < s.heap.objs.size := by
  cases k with
  | true => obtain ⟨its, rv, p, _⟩ := I.list (show SqL X.K H a xs from q); exact ⟨its, rv, p.isList, p.lt⟩
  | false =>
    obtain ⟨its, rv, p, _⟩ := I.tuple (show SqT X.K H a xs from q)
    obtain ⟨o, ho, _⟩ := id p
    exact ⟨its, rv, p, Heap.lt_size ho⟩
theorem sqW_inj {X : Cx} {pins : List (Addr × Obj)} {σ : L2.St} {H : Hp} {s : Shared} (I : Inv X pins σ H s) {k : Bool} {a : Addr} {xs ys : List V} (q : SqW k X.K H a xs) (r : SqW k X.K H a ys) : xs = ys := by
  cases k with
  | true => exact I.list_inj (show SqL X.K H a xs from q) (show SqL X.K H a ys from r)
  | false => exact I.tuple_inj (show SqT X.K H a xs from q) (show SqT X.K H a ys from r)
def ItzM (K : PySem.W.Frag) (k1 k2 : Bool) (a b : Addr) : It :=
  ⟨fun i H => ∃ (xs ys : List V) (x y : V), SqW k1 K H a xs ∧ SqW k2 K H b ys ∧ xs[i]? = some x ∧ ys[i]? = some y,
    fun i H v H' => ∃ T x y, v = .ref T ∧ H T = none ∧ H' = upd H T (.tup [x, y]) ∧ (∀ xs, SqW k1 K H a xs → xs[i]? = some x) ∧ ∀ ys, SqW k2 K H b ys → ys[i]? = some y,
    fun i H => ∃ xs ys : List V, SqW k1 K H a xs ∧ SqW k2 K H b ys ∧ (xs.length ≤ i ∨ ys.length ≤ i)⟩
theorem WkAt.lt {k : Bool} {h : Heap} {it l : Addr} {i : Nat} (x : WkAt k h it l i) : it < h.objs.size := by
  cases k with
  | true => obtain ⟨_, e, _⟩ := (show h.IsListIter it l i from x); exact Heap.lt_size e
  | false => obtain ⟨_, e, _⟩ := (show h.IsTupleIter it l i from x); exact Heap.lt_size e
theorem WkAt.fld {k : Bool} {h : Heap} {it l : Addr} {i : Nat} (x : WkAt k h it l i) : ∃ o f, h.get? it = some o ∧ o.data = .fields f := by
  cases k with
  | true => obtain ⟨o, e, _, d⟩ := (show h.IsListIter it l i from x); exact ⟨o, _, e, d⟩
  | false => obtain ⟨o, e, _, d⟩ := (show h.IsTupleIter it l i from x); exact ⟨o, _, e, d⟩
theorem turn_zipM {P : Program} {w : World} {K : PySem.W.Frag} {elts : List Expr} {kk : Nat} {tpos : Pos} {k1 k2 : Bool} {a b z TI TO i1 i2 : Addr} (D : ZipApart z TI TO i1 i2 a b) :
    Turn P w K (.Tuple elts kk tpos) (ItzM K k1 k2 a b) [z, TI, TO, i1, i2] z (fun i h => IsZip h z TI TO .none ∧ IsPair h TI (.ref i1) (.ref i2) ∧ (∃ x y, IsPair h TO x y) ∧ WkAt k1 h i1 a i ∧ WkAt k2 h i2 b i) where
  mem := by simp
  obj := fun i h st c hc => by
    obtain ⟨hz, hTI, ⟨x, y, hTO⟩, w1, w2⟩ := st
    obtain ⟨o1, f1, e1, d1⟩ := w1.fld
    obtain ⟨o2, f2, e2, d2⟩ := w2.fld
    have e' : c = z ∨ c = TI ∨ c = TO ∨ c = i1 ∨ c = i2 := by simpa using hc
    rcases e' with q | q | q | q | q
    · rw [q]; exact ⟨_, hz, fun v q => nomatch q⟩
    · rw [q]; exact ⟨_, hTI, fun v q => nomatch q⟩
    · rw [q]; exact ⟨_, hTO, fun v q => nomatch q⟩
    · rw [q]; exact ⟨o1, e1, fun v q => by rw [d1] at q; cases q⟩
    · rw [q]; exact ⟨o2, e2, fun v q => by rw [d2] at q; cases q⟩
  keep := fun i h h' st k => by
    obtain ⟨hz, hTI, ⟨x, y, hTO⟩, h1, h2⟩ := st
    exact ⟨k z (by simp) _ hz, k TI (by simp) _ hTI, ⟨x, y, k TO (by simp) _ hTO⟩, h1.moved fun o q => k i1 (by simp) o q, h2.moved fun o q => k i2 (by simp) o q⟩
  item := by
    intro X hP hw hK hc i pins s σ H E I hf st hg
    subst hP hw hK
    obtain ⟨hz, hTI, ⟨x0, y0, hTO⟩, h1, h2⟩ := st
    obtain ⟨xs, ys, x, y, hqx, hqy, hx, hy⟩ := hg
    obtain ⟨its, rv, p, _⟩ := sqW_src I hqx
    obtain ⟨its2, rv2, p2, _⟩ := sqW_src I hqy
    obtain ⟨u, hu, ru⟩ := rv.get hx
    obtain ⟨u2, hu2, ru2⟩ := rv2.get hy
    have hzl : z < s.heap.objs.size := Heap.lt_size hz
    refine pn_item D hz hTI hTO h1 h2 p p2 (x := u) (y := u2) (by simpa using hu) (by simpa using hu2) fun h' z' TO' h1' h2' hT hsz hk => ?_
    refine ⟨_, rfl, wpAny_letOwnedTupleGo_zip (s := { s with heap := h' }) z' fun h'' z'' sb => ?_⟩
    have hT2 : h''.get? s.heap.objs.size = some { cls := .type "tuple", data := .seq #[u, u2] } := (sb.2 _ (Nat.ne_of_gt hzl)).trans hT
    have new : ObjOk X.prog X.w (upd H s.heap.objs.size (.tup [x, y])) h'' s.heap.objs.size (.tup [x, y]) :=
      ⟨by show 2 ≤ sizeLine; decide, [u, u2], .cons ru (.cons ru2 .nil), ⟨_, hT2, rfl, _, rfl⟩⟩
    have I1 : Inv X pins σ (upd H s.heap.objs.size (.tup [x, y])) { s with heap := h'' } :=
      I.turnedNew (t' := s.toks) (ch := [z, TI, TO, i1, i2]) (fun c o hb q => (sb.2 c (fun q' => hb (by simp [q']))).trans (hk c o (fun q' => hb (by simp [q'])) (fun q' => hb (by simp [q'])) (fun q' => hb (by simp [q'])) (fun q' => hb (by simp [q'])) q)) hf (Nat.le_refl _) new
    refine ⟨.ref s.heap.objs.size, _, I1, rfl, ⟨_, x, y, rfl, I.hok.fresh (Nat.le_refl _), rfl, fun l hl => by rw [sqW_inj I hl hqx]; exact hx, fun l hl => by rw [sqW_inj I hl hqy]; exact hy⟩, ⟨z'', ?_, ⟨u, u2, ?_⟩, ?_, ?_⟩, fun c hcm => ?_⟩
    · exact (sb.2 _ D.TIz).trans (hk _ _ D.TIz D.TITO D.TIi1 D.TIi2 hTI)
    · exact (sb.2 _ D.TOz).trans TO'
    · exact h1'.moved fun o q => (sb.2 _ D.i1z).trans q
    · exact h2'.moved fun o q => (sb.2 _ D.i2z).trans q
    · have hlt : c < s.heap.objs.size := by
        have e' : c = z ∨ c = TI ∨ c = TO ∨ c = i1 ∨ c = i2 := by simpa using hcm
        rcases e' with q | q | q | q | q
        · rw [q]; exact hzl
        · rw [q]; exact Heap.lt_size hTI
        · rw [q]; exact Heap.lt_size hTO
        · rw [q]; exact h1.lt
        · rw [q]; exact h2.lt
      rw [upd_ne (Nat.ne_of_lt hlt)]
      exact (hf c hcm).1
  done := by
    intro X hP hw hK hc i pins s σ H E I hf st hg
    subst hP hw hK
    obtain ⟨hz, hTI, ⟨x0, y0, hTO⟩, h1, h2⟩ := st
    obtain ⟨xs, ys, hqx, hqy, hend⟩ := hg
    obtain ⟨its, rv, p, _⟩ := sqW_src I hqx
    obtain ⟨its2, rv2, p2, _⟩ := sqW_src I hqy
    have l1 := rv.length
    have l2 := rv2.length
    have he : its.toArray[i]? = none ∨ its2.toArray[i]? = none := by
      rcases hend with q | q
      · exact .inl (by simp; omega)
      · exact .inr (by simp; omega)
    exact pn_end (I.ok.hd hc) D hz hTI hTO h1 h2 p p2 he fun h' hk => ⟨rfl, I.turnedL (t' := s.toks) (ch := [z, TI, TO, i1, i2]) (fun c o hb q =>
      hk c o (fun q' => hb (by simp [q'])) (fun q' => hb (by simp [q'])) (fun q' => hb (by simp [q'])) (fun q' => hb (by simp [q'])) q) hf⟩
  self := fun A i s Q E st h => wpAny_pyIter_zip st.1 h
def iZipM (K : PySem.W.Frag) (ta : TA) : L2.TI := fun σ H R => ta σ H fun vs H1 => ∃ k1 k2 a b xs ys, vs = [.ref a, .ref b] ∧ SqW k1 K H1 a xs ∧ SqW k2 K H1 b ys ∧ R (ItzM K k1 k2 a b) H1
theorem pi_zipM {X : Cx} {e e2 : Expr} {ta : TA} {p pos tpos : Pos} {elts : List Expr} {kk : Nat} (hg : Gl X "zip") (hm : X.mg "zip" = none) (ha : PA X [e, e2] ta)
    (hs : starEach [e, e2] X.env = (false, eval e X.env) :: starEach [e2] X.env := by rfl) (hpl : (backTo pos (starEach [e2] X.env)).any (·.1) = false := by rfl) :
    PI X (.Tuple elts kk tpos) (.Call (.Name "zip" p) [e, e2] [] pos) (iZipM X.K ta) := by
  refine ⟨fun pins s σ H R I h => ?_⟩
  refine Call_ (ld_blt I hg hm PyProof.Rows.boot_zip (PyProof.Rows.callWith_type1 (thn (ha.run pos pins s σ H _ I h) fun us s1 ⟨vs, H1, I1, r1, q1⟩ => ?_) hs hpl))
  obtain ⟨k1, k2, a, b, xs, ys, ex, hqx, hqy, q⟩ := q1
  subst ex
  cases r1 with
  | cons r rr =>
    cases rr with
    | cons r' rr =>
      cases rr
      cases r
      cases r'
      have fresh5 : ∀ c, c ∈ [s1.heap.objs.size + 4, s1.heap.objs.size + 2, s1.heap.objs.size + 3, s1.heap.objs.size, s1.heap.objs.size + 1] → FpOk X pins H1 c := fun c hcm => by
        have e' : c = s1.heap.objs.size + 4 ∨ c = s1.heap.objs.size + 2 ∨ c = s1.heap.objs.size + 3 ∨ c = s1.heap.objs.size ∨ c = s1.heap.objs.size + 1 := by simpa using hcm
        have hle : s1.heap.objs.size ≤ c := by
          rcases e' with z | z | z | z | z
          · rw [z]; exact Nat.le_add_right _ _
          · rw [z]; exact Nat.le_add_right _ _
          · rw [z]; exact Nat.le_add_right _ _
          · rw [z]; exact Nat.le_refl _
          · rw [z]; exact Nat.le_add_right _ _
        exact I1.fpOk hle (I1.hok.fresh hle)
      obtain ⟨its, rv, p1, lt1⟩ := sqW_src I1 hqx
      obtain ⟨its2, rv2, p2, lt2⟩ := sqW_src I1 hqy
      refine call_mz p1 p2 fun h' hz hTI hTO h1 h2 hk => wpAny_pyIter_zip hz ?_
      have I2 : Inv X pins σ H1 { s1 with heap := h' } := I1.kept (t' := s1.toks) hk
      exact ⟨s1.heap.objs.size + 4, [s1.heap.objs.size + 4, s1.heap.objs.size + 2, s1.heap.objs.size + 3, s1.heap.objs.size, s1.heap.objs.size + 1], _, _, H1, rfl, I2, turn_zipM (PySem.W.ktu_apart s1.heap.objs.size a b lt1 lt2), ⟨hz, hTI, ⟨_, _, hTO⟩, h1, h2⟩, fresh5, q⟩
theorem sqW_mono {k : Bool} {K : PySem.W.Frag} {F H : Hp} {a : Addr} {xs : List V} (h : Same F H) (q : SqW k K F a xs) : SqW k K H a xs := by
  cases k with
  | true => exact sqL_mono h q
  | false => exact sqT_mono h q
theorem itzM_ok {K : PySem.W.Frag} {F : Hp} {k1 k2 : Bool} {ds es : List PyData} {a b : Addr} {xs ys : List V} (q : SqW k1 K F a xs) (rp : RpAll K F ds xs) (q2 : SqW k2 K F b ys) (rp2 : RpAll K F es ys) : ItOk K inv0 F (zipD ds es) (ItzM K k1 k2 a b) where
  go := fun i Fk Hk hi sf sh _ => by
    have hl := rp.len
    have hl2 := rp2.len
    rw [zipD_len] at hi
    exact ⟨xs, ys, xs[i]'(by omega), ys[i]'(by omega), sqW_mono sh (sqW_mono sf q), sqW_mono sh (sqW_mono sf q2), List.getElem?_eq_getElem _, List.getElem?_eq_getElem _⟩
  stop := fun Fk Hk sf sh _ => ⟨xs, ys, sqW_mono sh (sqW_mono sf q), sqW_mono sh (sqW_mono sf q2), by rw [zipD_len, rp.len, rp2.len]; omega⟩
  yld := fun i d Fk Hk x H' hd sf sh _ y => by
    obtain ⟨p, u, u2, rfl, hp, rfl, y, y2⟩ := y
    obtain ⟨d', e', h1, h1', rfl⟩ := zipD_get _ _ _ _ hd
    obtain ⟨v, h2, h3⟩ := rp.get h1
    obtain ⟨v2, h4, h5⟩ := rp2.get h1'
    have := y xs (sqW_mono sh (sqW_mono sf q))
    rw [h2] at this; cases this
    have := y2 ys (sqW_mono sh (sqW_mono sf q2))
    rw [h4] at this; cases this
    exact pair_new sh (h3.mono sf) (h5.mono sf) hp
theorem rp_sqW {K : PySem.W.Frag} {F : Hp} {d : PyData} {ds : List PyData} {x : V} (e : seqOf d = some ds) (r : Rp K F d x) : ∃ k a xs, x = .ref a ∧ SqW k K F a xs ∧ RpAll K F ds xs := by
  rcases seqOf_eq e with e | e
  · subst e
    simp only [Rp] at r
    obtain ⟨p', xs, rfl, q1, w⟩ := r
    exact ⟨true, p', xs, rfl, q1, w⟩
  · subst e
    simp only [Rp] at r
    obtain ⟨p', xs, rfl, q1, w⟩ := r
    exact ⟨false, p', xs, rfl, q1, w⟩
section
variable {C : Cn} {X : Cx}
theorem pid_zipM {tg e : Expr} {f g : FE} (hK : C.K = X.K) (h : PI X tg e (iZipM X.K (tCons (tD C f) (tCons (tD C g) tNil)))) : PI X tg e (tI C (iZ f g)) := by
  refine h.impD fun σ H R ⟨η, F, fp, o, q⟩ => ?_
  refine tD_step o.aft (Rs.post_mono (Rs.post_bind q) (fun p hp x F1 H1 f1 fp1 a => ?_) fun _ _ z => z)
  refine tD_step a (Rs.post_mono (Rs.post_bind hp) (fun p2 hp2 y F2 H2 f2 fp2 b => ?_) fun _ _ z => z)
  obtain ⟨F3, a2, rp⟩ := b.freeze
  simp only [List.nil_append, List.cons_append, T.vals, RpAll] at rp
  obtain ⟨x', xs, e1, r1, y', ys, rfl, r2, rfl⟩ := rp
  obtain ⟨rfl, rfl⟩ : x = x' ∧ y = y' := by simpa using e1
  split at hp2
  · rename_i ds es e1 e2
    obtain ⟨k1, p', xs, rfl, q1, w⟩ := rp_sqW e1 r1
    obtain ⟨k2, p2', ys, rfl, q2, w2⟩ := rp_sqW e2 r2
    refine ⟨k1, k2, p', p2', xs, ys, rfl, by rw [← hK]; exact sqW_mono a2.fh q1, by rw [← hK]; exact sqW_mono a2.fh q2, hp2 F3 H2 fp2 _ a2 ?_⟩
    rw [← hK]
    exact itzM_ok q1 w q2 w2
  · exact hp2.elim
end
end Pv
set_option Elab.async false
set_option linter.all false
set_option maxRecDepth 100000
set_option maxHeartbeats 4000000
/-! zip of three, lists and tuples in any mix -/
namespace Pv
open PySem L2 RZ PySem.Spec PyProof.Rows
theorem drawsW {prog : Program} {w : World} {A : Around} (k : Bool) (hh : A.handled = none) (it l : Addr) (hne : l ≠ it) (items : Array Value) :
    Draws prog w A it [it, l] items.size (fun i v => items[i]? = some v) (fun i h => WkAt k h it l i ∧ SrcAt k h l items) := by
  cases k with
  | true => exact Draws.list hh it l hne items
  | false => exact Draws.tuple hh it l hne items
theorem beginsW (k : Bool) (l : Addr) (items : Array Value) : Begins (.ref l) (wkObj k l) fun h => SrcAt k h l items := by
  cases k with
  | true => exact begins_list l items
  | false => exact begins_tuple l items
def It3 (K : PySem.W.Frag) (k1 k2 k3 : Bool) (a b c : Addr) : It :=
  ⟨fun i H => ∃ (xs ys zs : List V) (x y z : V), (SqW k1 K H a xs ∧ SqW k2 K H b ys ∧ SqW k3 K H c zs) ∧ xs[i]? = some x ∧ ys[i]? = some y ∧ zs[i]? = some z,
    fun i H v H' => ∃ T x y z, v = .ref T ∧ H T = none ∧ H' = upd H T (.tup [x, y, z]) ∧ (∀ xs, SqW k1 K H a xs → xs[i]? = some x) ∧ (∀ ys, SqW k2 K H b ys → ys[i]? = some y) ∧ ∀ zs, SqW k3 K H c zs → zs[i]? = some z,
    fun i H => ∃ xs ys zs : List V, (SqW k1 K H a xs ∧ SqW k2 K H b ys ∧ SqW k3 K H c zs) ∧ (i ≤ xs.length ∧ i ≤ ys.length ∧ i ≤ zs.length) ∧ (xs.length = i ∨ ys.length = i ∨ zs.length = i)⟩
theorem turn_zip3 {P : Program} {w : World} {K : PySem.W.Frag} {elts : List Expr} {kk : Nat} {tpos : Pos} {k1 k2 k3 : Bool} {a b c z TI TO i1 i2 i3 : Addr} (S : ZipSep3 z TI TO i1 i2 i3 [i1, a] [i2, b] [i3, c]) (ha : a ≠ i1) (hb : b ≠ i2) (hc : c ≠ i3) :
    Turn P w K (.Tuple elts kk tpos) (It3 K k1 k2 k3 a b c) [z, TI, TO, i1, i2, i3] z (fun i h => IsZip h z TI TO .none ∧ IsTupOf3 h TI (.ref i1) (.ref i2) (.ref i3) ∧ (∃ x y u, IsTupOf3 h TO x y u) ∧ WkAt k1 h i1 a i ∧ WkAt k2 h i2 b i ∧ WkAt k3 h i3 c i) where
  mem := by simp
  obj := fun i h st d hd => by
    obtain ⟨hz, hTI, ⟨x, y, u, hTO⟩, w1, w2, w3⟩ := st
    obtain ⟨o1, f1, e1, d1⟩ := w1.fld
    obtain ⟨o2, f2, e2, d2⟩ := w2.fld
    obtain ⟨o3, f3, e3, d3⟩ := w3.fld
    have e' : d = z ∨ d = TI ∨ d = TO ∨ d = i1 ∨ d = i2 ∨ d = i3 := by simpa using hd
    rcases e' with q | q | q | q | q | q
    · rw [q]; exact ⟨_, hz, fun v q => nomatch q⟩
    · rw [q]; exact ⟨_, hTI, fun v q => nomatch q⟩
    · rw [q]; exact ⟨_, hTO, fun v q => nomatch q⟩
    · rw [q]; exact ⟨o1, e1, fun v q => by rw [d1] at q; cases q⟩
    · rw [q]; exact ⟨o2, e2, fun v q => by rw [d2] at q; cases q⟩
    · rw [q]; exact ⟨o3, e3, fun v q => by rw [d3] at q; cases q⟩
  keep := fun i h h' st k => by
    obtain ⟨hz, hTI, ⟨x, y, u, hTO⟩, h1, h2, h3⟩ := st
    exact ⟨k z (by simp) _ hz, k TI (by simp) _ hTI, ⟨x, y, u, k TO (by simp) _ hTO⟩, h1.moved fun o q => k i1 (by simp) o q, h2.moved fun o q => k i2 (by simp) o q, h3.moved fun o q => k i3 (by simp) o q⟩
  item := by
    intro X hP hw hK hcm i pins s σ H E I hf st hg
    subst hP hw hK
    obtain ⟨hz, hTI, ⟨x0, y0, u0, hTO⟩, h1, h2, h3⟩ := st
    obtain ⟨xs, ys, zs, x, y, zz, ⟨hqx, hqy, hqz⟩, hx, hy, hzz⟩ := hg
    obtain ⟨its, rv, p, _⟩ := sqW_src I hqx
    obtain ⟨its2, rv2, p2, _⟩ := sqW_src I hqy
    obtain ⟨its3, rv3, p3, _⟩ := sqW_src I hqz
    obtain ⟨v1, hv1, ru⟩ := rv.get hx
    obtain ⟨v2, hv2, ru2⟩ := rv2.get hy
    obtain ⟨v3, hv3, ru3⟩ := rv3.get hzz
    have hzl : z < s.heap.objs.size := Heap.lt_size hz
    have hh : X.A.in1.handled = none := I.ok.hd hcm
    have l1 := (List.getElem?_eq_some_iff.mp hv1).1
    have l2 := (List.getElem?_eq_some_iff.mp hv2).1
    have l3 := (List.getElem?_eq_some_iff.mp hv3).1
    refine wpAny_pyNext_zipD3_item (i := i) S (drawsW k1 hh i1 a ha its.toArray) (drawsW k2 hh i2 b hb its2.toArray) (drawsW k3 hh i3 c hc its3.toArray) hz hTI hTO ⟨h1, p⟩ ⟨h2, p2⟩ ⟨h3, p3⟩ (by simpa using l1) (by simpa using l2) (by simpa using l3) fun x1 x2 x3 h' tk q1 q2 q3 z' TO' s1 s2 s3 hT hsz hk => ?_
    have e1 : v1 = x1 := by
      have : its.toArray[i]? = some v1 := by simpa using hv1
      rw [this] at q1; exact Option.some.inj q1
    have e2 : v2 = x2 := by
      have : its2.toArray[i]? = some v2 := by simpa using hv2
      rw [this] at q2; exact Option.some.inj q2
    have e3 : v3 = x3 := by
      have : its3.toArray[i]? = some v3 := by simpa using hv3
      rw [this] at q3; exact Option.some.inj q3
    subst e1 e2 e3
    refine ⟨_, rfl, wpAny_letOwnedTupleGo_zip (s := { s with heap := h', toks := tk }) z' fun h'' z'' sb => ?_⟩
    have hT2 : h''.get? s.heap.objs.size = some { cls := .type "tuple", data := .seq #[v1, v2, v3] } := (sb.2 _ (Nat.ne_of_gt hzl)).trans hT
    have new : ObjOk X.prog X.w (upd H s.heap.objs.size (.tup [x, y, zz])) h'' s.heap.objs.size (.tup [x, y, zz]) :=
      ⟨by show 3 ≤ sizeLine; decide, [v1, v2, v3], .cons ru (.cons ru2 (.cons ru3 .nil)), ⟨_, hT2, rfl, _, rfl⟩⟩
    have I1 : Inv X pins σ (upd H s.heap.objs.size (.tup [x, y, zz])) { s with heap := h'', toks := tk } :=
      I.turnedNew (t' := tk) (ch := [z, TI, TO, i1, i2, i3]) (fun d o hd q => (sb.2 d (fun q' => hd (by simp [q']))).trans (hk d o (fun q' => hd (by simp [q'])) (fun q' => hd (by simp [q'])) (fun q' => hd (by simp [q'])) (fun q' => hd (by simp [q'])) (fun q' => hd (by simp [q'])) q)) hf (Nat.le_refl _) new
    refine ⟨.ref s.heap.objs.size, _, I1, rfl, ⟨_, x, y, zz, rfl, I.hok.fresh (Nat.le_refl _), rfl, fun l hl => by rw [sqW_inj I hl hqx]; exact hx, fun l hl => by rw [sqW_inj I hl hqy]; exact hy, fun l hl => by rw [sqW_inj I hl hqz]; exact hzz⟩, ⟨z'', ?_, ⟨v1, v2, v3, ?_⟩, ?_, ?_, ?_⟩, fun d hdm => ?_⟩
    · exact (sb.2 _ S.TIz).trans (hk _ _ S.TIz S.TITO S.TIi1 S.TIi2 S.TIi3 hTI)
    · exact (sb.2 _ S.TOz).trans TO'
    · exact s1.1.moved fun o q => (sb.2 _ S.zi1.symm).trans q
    · exact s2.1.moved fun o q => (sb.2 _ S.zi2.symm).trans q
    · exact s3.1.moved fun o q => (sb.2 _ S.zi3.symm).trans q
    · have hlt : d < s.heap.objs.size := by
        have e' : d = z ∨ d = TI ∨ d = TO ∨ d = i1 ∨ d = i2 ∨ d = i3 := by simpa using hdm
        rcases e' with q | q | q | q | q | q
        · rw [q]; exact hzl
        · rw [q]; exact Heap.lt_size hTI
        · rw [q]; exact Heap.lt_size hTO
        · rw [q]; exact h1.lt
        · rw [q]; exact h2.lt
        · rw [q]; exact h3.lt
      rw [upd_ne (Nat.ne_of_lt hlt)]
      exact (hf d hdm).1
  done := by
    intro X hP hw hK hcm i pins s σ H E I hf st hg
    subst hP hw hK
    obtain ⟨hz, hTI, ⟨x0, y0, u0, hTO⟩, h1, h2, h3⟩ := st
    obtain ⟨xs, ys, zs, ⟨hqx, hqy, hqz⟩, ⟨g1, g2, g3⟩, hend⟩ := hg
    obtain ⟨its, rv, p, _⟩ := sqW_src I hqx
    obtain ⟨its2, rv2, p2, _⟩ := sqW_src I hqy
    obtain ⟨its3, rv3, p3, _⟩ := sqW_src I hqz
    have l1 := rv.length
    have l2 := rv2.length
    have l3 := rv3.length
    have hh : X.A.in1.handled = none := I.ok.hd hcm
    exact wpAny_pyNext_zipD3_end (i := i) S (drawsW k1 hh i1 a ha its.toArray) (drawsW k2 hh i2 b hb its2.toArray) (drawsW k3 hh i3 c hc its3.toArray) hz hTI hTO ⟨h1, p⟩ ⟨h2, p2⟩ ⟨h3, p3⟩ (by rw [List.size_toArray]; omega) (by rw [List.size_toArray]; omega) (by rw [List.size_toArray]; omega) (by simp only [List.size_toArray]; omega) fun h' tk hk => ⟨rfl, I.turnedL (t' := tk) (ch := [z, TI, TO, i1, i2, i3]) (fun d o hd q =>
      hk d o (fun q' => hd (by simp [q'])) (fun q' => hd (by simp [q'])) (fun q' => hd (by simp [q'])) (fun q' => hd (by simp [q'])) (fun q' => hd (by simp [q'])) q) hf⟩
  self := fun A i s Q E st h => wpAny_pyIter_zip st.1 h
def iZip3 (K : PySem.W.Frag) (ta : TA) : L2.TI := fun σ H R => ta σ H fun vs H1 => ∃ k1 k2 k3 a b c xs ys zs, vs = [.ref a, .ref b, .ref c] ∧ SqW k1 K H1 a xs ∧ SqW k2 K H1 b ys ∧ SqW k3 K H1 c zs ∧ R (It3 K k1 k2 k3 a b c) H1
theorem pi_zip3 {X : Cx} {e e2 e3 : Expr} {ta : TA} {p pos tpos : Pos} {elts : List Expr} {kk : Nat} (hg : Gl X "zip") (hm : X.mg "zip" = none) (ha : PA X [e, e2, e3] ta)
    (hs : starEach [e, e2, e3] X.env = (false, eval e X.env) :: starEach [e2, e3] X.env := by rfl) (hpl : (backTo pos (starEach [e2, e3] X.env)).any (·.1) = false := by rfl) :
    PI X (.Tuple elts kk tpos) (.Call (.Name "zip" p) [e, e2, e3] [] pos) (iZip3 X.K ta) := by
  refine ⟨fun pins s σ H R I h => ?_⟩
  refine Call_ (ld_blt I hg hm PyProof.Rows.boot_zip (PyProof.Rows.callWith_type1 (thn (ha.run pos pins s σ H _ I h) fun us s1 ⟨vs, H1, I1, r1, q1⟩ => ?_) hs hpl))
  obtain ⟨k1, k2, k3, a, b, c, xs, ys, zs, ex, hqx, hqy, hqz, q⟩ := q1
  subst ex
  cases r1 with
  | cons r rr =>
    cases rr with
    | cons r' rr =>
      cases rr with
      | cons r'' rr =>
        cases rr
        cases r
        cases r'
        cases r''
        obtain ⟨its, rv, p1, lt1⟩ := sqW_src I1 hqx
        obtain ⟨its2, rv2, p2, lt2⟩ := sqW_src I1 hqy
        obtain ⟨its3, rv3, p3, lt3⟩ := sqW_src I1 hqz
        generalize hN : s1.heap.objs.size = N at lt1 lt2 lt3
        have fresh6 : ∀ d, d ∈ [N + 5, N + 3, N + 4, N, N + 1, N + 2] → FpOk X pins H1 d := fun d hdm => by
          have e' : d = N + 5 ∨ d = N + 3 ∨ d = N + 4 ∨ d = N ∨ d = N + 1 ∨ d = N + 2 := by simpa using hdm
          have hle : N ≤ d := by
            rcases e' with z | z | z | z | z | z
            · rw [z]; exact Nat.le_add_right _ _
            · rw [z]; exact Nat.le_add_right _ _
            · rw [z]; exact Nat.le_add_right _ _
            · rw [z]; exact Nat.le_refl _
            · rw [z]; exact Nat.le_add_right _ _
            · rw [z]; exact Nat.le_add_right _ _
          exact I1.fpOk (by rw [hN]; exact hle) (I1.hok.fresh (by rw [hN]; exact hle))
        refine zip_begins3 (beginsW k1 a its.toArray) (beginsW k2 b its2.toArray) (beginsW k3 c its3.toArray) p1 p2 p3 fun h' hz hTI hTO g1 g2 g3 hsz hk => wpAny_pyIter_zip hz ?_
        have I2 : Inv X pins σ H1 { s1 with heap := h' } := I1.kept (t' := s1.toks) hk
        rw [hN] at hz hTI hTO g1 g2 g3 ⊢
        have S : ZipSep3 (N + 5) (N + 3) (N + 4) N (N + 1) (N + 2) [N, a] [N + 1, b] [N + 2, c] := zip_sep3 (fp1 := [a]) (fp2 := [b]) (fp3 := [c]) (fun d hd => by rw [List.mem_singleton.mp hd]; exact lt1) (fun d hd => by rw [List.mem_singleton.mp hd]; exact lt2) (fun d hd => by rw [List.mem_singleton.mp hd]; exact lt3)
        exact ⟨N + 5, [N + 5, N + 3, N + 4, N, N + 1, N + 2], _, _, H1, rfl, I2, turn_zip3 S (Nat.ne_of_lt lt1) (Nat.ne_of_lt (Nat.lt_succ_of_lt lt2)) (Nat.ne_of_lt (Nat.lt_succ_of_lt (Nat.lt_succ_of_lt lt3))), ⟨hz, hTI, ⟨_, _, _, hTO⟩, wk_new g1, wk_new g2, wk_new g3⟩, fresh6, q⟩
def zip3D : List PyData → List PyData → List PyData → List PyData
  | a :: as, b :: bs, c :: cs => .tuple [a, b, c] :: zip3D as bs cs
  | _, _, _ => []
theorem zip3D_len : ∀ (as bs cs : List PyData), (zip3D as bs cs).length = min (min as.length bs.length) cs.length
  | [], _, _ => by simp [zip3D]
  | _ :: _, [], _ => by simp [zip3D]
  | _ :: _, _ :: _, [] => by simp [zip3D]
  | a :: as, b :: bs, c :: cs => by
    simp only [zip3D, List.length_cons, zip3D_len as bs cs]
    omega
theorem zip3D_get : ∀ (as bs cs : List PyData) (i : Nat) (e : PyData), (zip3D as bs cs)[i]? = some e → ∃ a b c, as[i]? = some a ∧ bs[i]? = some b ∧ cs[i]? = some c ∧ e = .tuple [a, b, c]
  | [], _, _, i, e, h => by simp [zip3D] at h
  | _ :: _, [], _, i, e, h => by simp [zip3D] at h
  | _ :: _, _ :: _, [], i, e, h => by simp [zip3D] at h
  | a :: as, b :: bs, c :: cs, 0, e, h => by
    simp only [zip3D, List.getElem?_cons_zero, Option.some.injEq] at h
    exact ⟨a, b, c, rfl, rfl, rfl, h.symm⟩
  | a :: as, b :: bs, c :: cs, i + 1, e, h => by
    simp only [zip3D, List.getElem?_cons_succ] at h
    obtain ⟨a', b', c', h1, h2, h3, h4⟩ := zip3D_get as bs cs i e h
    exact ⟨a', b', c', by simpa using h1, by simpa using h2, by simpa using h3, h4⟩
theorem it3_ok {K : PySem.W.Frag} {F : Hp} {k1 k2 k3 : Bool} {ds es gs : List PyData} {a b c : Addr} {xs ys zs : List V} (q : SqW k1 K F a xs) (rp : RpAll K F ds xs) (q2 : SqW k2 K F b ys) (rp2 : RpAll K F es ys) (q3 : SqW k3 K F c zs) (rp3 : RpAll K F gs zs) : ItOk K inv0 F (zip3D ds es gs) (It3 K k1 k2 k3 a b c) where
  go := fun i Fk Hk hi sf sh _ => by
    have hl := rp.len
    have hl2 := rp2.len
    have hl3 := rp3.len
    rw [zip3D_len] at hi
    exact ⟨xs, ys, zs, xs[i]'(by omega), ys[i]'(by omega), zs[i]'(by omega), ⟨sqW_mono sh (sqW_mono sf q), sqW_mono sh (sqW_mono sf q2), sqW_mono sh (sqW_mono sf q3)⟩, List.getElem?_eq_getElem _, List.getElem?_eq_getElem _, List.getElem?_eq_getElem _⟩
  stop := fun Fk Hk sf sh _ => by
    have hl := rp.len
    have hl2 := rp2.len
    have hl3 := rp3.len
    rw [zip3D_len]
    exact ⟨xs, ys, zs, ⟨sqW_mono sh (sqW_mono sf q), sqW_mono sh (sqW_mono sf q2), sqW_mono sh (sqW_mono sf q3)⟩, by omega, by omega⟩
  yld := fun i d Fk Hk x H' hd sf sh _ y => by
    obtain ⟨p, u, u2, u3, rfl, hp, rfl, y, y2, y3⟩ := y
    obtain ⟨d', e', g', h1, h1', h1'', rfl⟩ := zip3D_get _ _ _ _ _ hd
    obtain ⟨v, h2, h3⟩ := rp.get h1
    obtain ⟨v2, h4, h5⟩ := rp2.get h1'
    obtain ⟨v3, h6, h7⟩ := rp3.get h1''
    have := y xs (sqW_mono sh (sqW_mono sf q))
    rw [h2] at this; cases this
    have := y2 ys (sqW_mono sh (sqW_mono sf q2))
    rw [h4] at this; cases this
    have := y3 zs (sqW_mono sh (sqW_mono sf q3))
    rw [h6] at this; cases this
    exact ⟨_, .tup sh (.consI (h3.mono sf) (.consI (h5.mono sf) (.one (h7.mono sf)))) hp⟩
/-- zip of three -/
def iZ3 (f g h : FE) : FI := fun η => (f η).bind fun p => (g p.2).bind fun q => (h q.2).bind fun r => match seqOf p.1.val, seqOf q.1.val, seqOf r.1.val with
  | some ds, some es, some gs => .ok (zip3D ds es gs, r.2)
  | _, _, _ => .bad
section
variable {C : Cn} {X : Cx}
theorem pid_zip3 {tg e : Expr} {f g h : FE} (hK : C.K = X.K) (hi : PI X tg e (iZip3 X.K (tCons (tD C f) (tCons (tD C g) (tCons (tD C h) tNil))))) : PI X tg e (tI C (iZ3 f g h)) := by
  refine hi.impD fun σ H R ⟨η, F, fp, o, q⟩ => ?_
  refine tD_step o.aft (Rs.post_mono (Rs.post_bind q) (fun p hp x F1 H1 f1 fp1 a => ?_) fun _ _ z => z)
  refine tD_step a (Rs.post_mono (Rs.post_bind hp) (fun p2 hp2 y F2 H2 f2 fp2 b => ?_) fun _ _ z => z)
  refine tD_step b (Rs.post_mono (Rs.post_bind hp2) (fun p3 hp3 z F3 H3 f3 fp3 c => ?_) fun _ _ z => z)
  obtain ⟨F4, a2, rp⟩ := c.freeze
  simp only [List.nil_append, List.cons_append, T.vals, RpAll] at rp
  obtain ⟨x', xs, e1, r1, y', ys, rfl, r2, z', zs, rfl, r3, rfl⟩ := rp
  obtain ⟨rfl, rfl, rfl⟩ : x = x' ∧ y = y' ∧ z = z' := by simpa using e1
  split at hp3
  · rename_i ds es gs e1 e2 e3
    obtain ⟨k1, p', xs, rfl, q1, w⟩ := rp_sqW e1 r1
    obtain ⟨k2, p2', ys, rfl, q2, w2⟩ := rp_sqW e2 r2
    obtain ⟨k3, p3', zs, rfl, q3, w3⟩ := rp_sqW e3 r3
    refine ⟨k1, k2, k3, p', p2', p3', xs, ys, zs, rfl, by rw [← hK]; exact sqW_mono a2.fh q1, by rw [← hK]; exact sqW_mono a2.fh q2, by rw [← hK]; exact sqW_mono a2.fh q3, hp3 F4 H3 fp3 _ a2 ?_⟩
    rw [← hK]
    exact it3_ok q1 w q2 w2 q3 w3
  · exact hp3.elim
end
end Pv
set_option Elab.async false
set_option linter.all false
set_option maxRecDepth 100000
set_option maxHeartbeats 4000000
namespace Pv
open PySem L2 PyProof.Rows
/-! ### a def's meaning, by its body's -/
def gP (N n : Nat) (fb : FS) (ds : List PyData) : Option T := if ds.length = n then (retOf (fb (startE N (ds.map T.sh)))).map (·.1) else none
theorem gP_len {N n : Nat} {fb : FS} {ds : List PyData} {t : T} (h : gP N n fb ds = some t) : ds.length = n := by
  unfold gP at h
  split at h
  · assumption
  · cases h
def gIO (N n : Nat) (fb : FS) (t0 : T) (ds : List PyData) : Option (T × T) := if ds.length + 1 = n then match retOf (fb (startE N (t0 :: ds.map T.sh))) with
    | some (t, η) => match η[0]? with
      | some (some t1) => some (t, t1)
      | _ => none
    | none => none
  else none
theorem gIO_len {N n : Nat} {fb : FS} {t0 : T} {ds : List PyData} {r : T × T} (h : gIO N n fb t0 ds = some r) : ds.length + 1 = n := by
  unfold gIO at h
  split at h
  · assumption
  · cases h
theorem pe_gty {X : Cx} {x : Str} {n : String} {pos : Pos} (hg : Gl X x) (hm : X.mg x = none) (hv : bootBuiltins x = some (.type n)) (hn : x ≠ "__name__" := by decide) (hd : (x == ("__debug__" : Str)) = false := by decide) : PE X (.Name x pos) (tC (.ty n)) :=
  ⟨fun pins s σ H Q I h => ld_blt I hg hm hv ⟨.ty n, H, I, rfl, h⟩ hn hd⟩
structure Tp (fa : List He.Fa) (fn : List He.DefD) (K : PySem.W.Frag) (mg : Str → Option Value) : Prop where
  h : ∃ h : Heap, K.In h ∧ h.Ns mainGlobals mg
  c : He.SaysD fa fn K
section
variable {fa : List He.Fa} {fn : List He.DefD} {K : PySem.W.Frag} {mg : Str → Option Value}
theorem Tp.glo (T : Tp fa fn K mg) (i : Nat) {x : Str} (h : fa[i]? = some (.glo x) := by rfl) : mg x = some (.ref (He.ga K x)) := by
  obtain ⟨_, X, G⟩ := T.h
  exact He.glo_ok X G (T.c.fact i h)
theorem Tp.free (T : Tp fa fn K mg) (i : Nat) {x : Str} (h : fa[i]? = some (.free x) := by rfl) : mg x = none := by
  obtain ⟨_, X, G⟩ := T.h
  exact He.free_ok X G (T.c.fact i h)
theorem Tp.int (T : Tp fa fn K mg) (i : Nat) {x : Str} {z : Int} (h : fa[i]? = some (.int x z) := by rfl) : ∃ t, mg x = some (.int z t) := by
  obtain ⟨_, X, G⟩ := T.h
  exact He.int_ok X G (T.c.fact i h)
theorem Tp.str (T : Tp fa fn K mg) (i : Nat) {x z : Str} (h : fa[i]? = some (.str x z) := by rfl) : ∃ t, mg x = some (.str z t) := by
  obtain ⟨_, X, G⟩ := T.h
  exact He.str_ok X G (T.c.fact i h)
end
theorem nomore {ps : List Str} {vs : List Str} (h : ps = vs) : ps = vs := h
section
variable {P : Program} {w : World} {K : PySem.W.Frag} {mg : Str → Option Value} {base : Heap}
theorem fd_inj {x x' q q' : Str} {p p' : Arguments} {b b' : List Stmt} {sc sc' : Scope} {dv dv' : List V} {kw kw' : List (Str × V)} {f : Addr} {fd fd' : FuncData} (F : FunD K x q p b sc dv kw f fd) (F' : FunD K x' q' p' b' sc' dv' kw' f fd') : fd = fd' := by
  obtain ⟨_, _, _, _, _, _, _, _, _, _, _, l, _⟩ := F.ex
  obtain ⟨_, _, _, _, _, _, _, _, _, _, _, l', _⟩ := F'.ex
  rw [l] at l'
  cases l'
  rfl
/-- what a def is and keeps -/
structure Has (P : Program) (w : World) (K : PySem.W.Frag) (mg : Str → Option Value) (base : Heap) (d : He.DefD) (ps : List Str) (lvl : Nat) (sp : Sp) (fd : FuncData) : Prop where
  F : FunD K d.name d.qual d.params d.body d.scope [] [] (He.fAd K d.at_) fd
  b : Binds K fd ps []
  ok : FnG P w K mg base lvl (He.fAd K d.at_) fd ps sp
variable {x qual : Str} {params : Arguments} {bd : List Stmt} {scope : Scope} {f : Addr} {fd : FuncData} {N ps : List Str} {k n : Nat} {fb : FS}
/-- THE RULE for a def of plain data -/
theorem def_okG {G : List PyData → Option T} (F : FunD K x qual params bd scope [] [] f fd) (S : FnScope N ps scope) (hp : ps.length = n)
    (body : ∀ (cdv : Value) (A : Around) (outer : List PySem.Env) (s : Shared) (H : Hp) (E : XK), Room k (A.deeper (envOfC qual scope s.heap.objs.size f cdv)) → (A.deeper (envOfC qual scope s.heap.objs.size f cdv)).guards = some [] → PSs (cxOf CX0 P w K mg base N qual scope f cdv A outer s H E).nox bd (tS (cnN K) [] fb))
    (hG : ∀ ds t, ds.length = n → G ds = some t → (retOf (fb (startE N.length (ds.map T.sh)))).map (·.1) = some t) : FnG P w K mg base (k + 1) f fd ps (spP K n G) := by
  refine fnG_of F S (fun vs H Q E h => ?_) fun cdv A outer s H vs Q E hr hgd h => ?_
  · obtain ⟨F, ds, t, _, rp, hl, _⟩ := h
    rw [rp.len, hl, hp]
  · obtain ⟨F0, ds, t, fh, rp, hl, hg, res⟩ := h
    refine ⟨_, PSs.nox (body cdv A outer s H E hr hgd), ?_⟩
    have hrun := hG ds t hl hg
    have o : Ok K F0 H (startE N.length (ds.map T.sh)) (L2.start N vs) [] := ⟨start_ok (RTs.of_sh rp), List.nodup_nil, by simp, fh⟩
    refine tS_def.mpr ⟨_, F0, [], o, ?_⟩
    unfold retOf at hrun
    split at hrun
    · rename_i t' η' e
      rw [e]
      have ht : t' = t := by simpa using hrun
      subst ht
      show ∀ v σ' F' H' f1 fp', Aft K [] F0 H σ' [t'] [v] η' F' H' f1 fp' → IO [] (L2.start N vs) σ' → Q v H'
      intro v σ' F' H' f1 fp' a _
      exact res v F' H' f1 ⟨a.rt1, a.ext.ff, a.fh, fun b o e => a.ext.keep b o e (by simp), fun b hb => a.ext.new b hb (by simp), (List.nodup_append.mp a.nd).1, fun b hb => ⟨(a.sub b (by simp [hb])).resolve_left (by simp), a.fn b (by simp [hb])⟩⟩
    · rename_i η' e
      rw [e]
      have ht : T.sh .none = t := by simpa using hrun
      subst ht
      show ∀ σ' F' H' fp', Aft K [] F0 H σ' [] [] η' F' H' [] fp' → IO [] (L2.start N vs) σ' → Q .non H'
      intro σ' F' H' fp' a _
      exact res .non F' H' [] ⟨by simp only [RT, Rp]; exact ⟨trivial, trivial⟩, a.ext.ff, a.fh, fun b o e => a.ext.keep b o e (by simp), fun b hb => a.ext.new b hb (by simp), by simp, by simp⟩
    · simp at hrun
/-- THE RULE for a def that changes its first argument -/
theorem def_okGIO {G : T → List PyData → Option (T × T)} (F : FunD K x qual params bd scope [] [] f fd) (S : FnScope N ps scope) (hp : ps.length = n)
    (body : ∀ (cdv : Value) (A : Around) (outer : List PySem.Env) (s : Shared) (H : Hp) (E : XK), Room k (A.deeper (envOfC qual scope s.heap.objs.size f cdv)) → (A.deeper (envOfC qual scope s.heap.objs.size f cdv)).guards = some [] → PSs (cxOf CX0 P w K mg base N qual scope f cdv A outer s H E).nox bd (tS (cnN K) [0] fb))
    (hG : ∀ t0 ds t t1, ds.length + 1 = n → G t0 ds = some (t, t1) → ∃ η', retOf (fb (startE N.length (t0 :: ds.map T.sh))) = some (t, η') ∧ η'[0]? = some (some t1)) : FnG P w K mg base (k + 1) f fd ps (spIO K n G) := by
  refine fnG_of F S (fun vs H Q E h => ?_) fun cdv A outer s H vs Q E hr hgd h => ?_
  · obtain ⟨F, ds, t0, v0, ws, f, t, t1, rfl, _, _, _, _, rp, hl, _⟩ := h
    rw [List.length_cons, rp.len, hl, hp]
  · obtain ⟨F0, ds, t0, v0, ws, f0, t, t1, rfl, rt0, nd0, fn0, fh, rp, hl, hg, res⟩ := h
    refine ⟨_, PSs.nox (body cdv A outer s H E hr hgd), ?_⟩
    obtain ⟨η', hrun, h0⟩ := hG t0 ds t t1 hl hg
    have rts : RTs K F0 H (t0 :: ds.map T.sh) (v0 :: ws) f0 := by
      simp only [RTs]
      exact ⟨v0, ws, f0, [], rfl, by simp, rt0, RTs.of_sh rp⟩
    have o : Ok K F0 H (startE N.length (t0 :: ds.map T.sh)) (L2.start N (v0 :: ws)) f0 := ⟨start_ok rts, nd0, fn0, fh⟩
    refine tS_def.mpr ⟨_, F0, f0, o, ?_⟩
    have fin : ∀ v σ' F' H' f1 fp', Aft K f0 F0 H σ' [t] [v] η' F' H' f1 fp' → IO [0] (L2.start N (v0 :: ws)) σ' → Q v H' := by
      intro v σ' F' H' f1 fp' a hio
      have hi : 0 < η'.length := (List.getElem?_eq_some_iff.mp h0).1
      obtain ⟨s0, h, r, h1, h2, h3, h4⟩ := a.rs.focus hi
      obtain ⟨v1, rfl, rt1⟩ := h3 _ h0
      have hv : v1 = v0 := by
        have := hio 0 (by simp)
        rw [h1] at this
        simpa [L2.start] using this
      subst hv
      have mem : ∀ z ∈ h, z ∈ fp' := fun z hz => h2.mem_iff.mpr (List.mem_append.mpr (.inl hz))
      refine res v F' H' f1 h a.rt1 rt1 ?_ (fun z hz => ?_) a.fh a.ext fun z hz => ?_
      · have n1 := List.nodup_append.mp a.nd
        exact List.nodup_append.mpr ⟨n1.1, (List.nodup_append.mp (h2.nodup_iff.mp n1.2.1)).1, fun x hx y hy e => n1.2.2 x hx y (mem y hy) e⟩
      · rcases List.mem_append.mp hz with hz | hz
        · exact a.fn z (by simp [hz])
        · exact a.fn z (by simp [mem z hz])
      · rcases List.mem_append.mp hz with hz | hz
        · exact a.sub z (by simp [hz])
        · exact a.sub z (by simp [mem z hz])
    unfold retOf at hrun
    split at hrun
    · rename_i t' η2 e
      rw [e]
      cases hrun
      exact fin
    · rename_i η2 e
      rw [e]
      cases hrun
      show ∀ σ' F' H' fp', Aft K f0 F0 H σ' [] [] η' F' H' [] fp' → IO [0] (L2.start N (v0 :: ws)) σ' → Q .non H'
      intro σ' F' H' fp' a hio
      exact fin .non σ' F' H' [] fp' (a.res (.here a.fh rp_c.2.2.2)) hio
    · cases hrun

theorem def_ok (F : FunD K x qual params bd scope [] [] f fd) (S : FnScope N ps scope) (hp : ps.length = n)
    (body : ∀ (cdv : Value) (A : Around) (outer : List PySem.Env) (s : Shared) (H : Hp) (E : XK), Room k (A.deeper (envOfC qual scope s.heap.objs.size f cdv)) → (A.deeper (envOfC qual scope s.heap.objs.size f cdv)).guards = some [] → PSs (cxOf CX0 P w K mg base N qual scope f cdv A outer s H E).nox bd (tS (cnN K) [] fb)) : FnG P w K mg base (k + 1) f fd ps (spP K n (gP N.length n fb)) :=
  def_okG F S hp body fun ds t hl h => by
    unfold gP at h
    rw [if_pos hl] at h
    exact h
theorem def_okIO (F : FunD K x qual params bd scope [] [] f fd) (S : FnScope N ps scope) (hp : ps.length = n)
    (body : ∀ (cdv : Value) (A : Around) (outer : List PySem.Env) (s : Shared) (H : Hp) (E : XK), Room k (A.deeper (envOfC qual scope s.heap.objs.size f cdv)) → (A.deeper (envOfC qual scope s.heap.objs.size f cdv)).guards = some [] → PSs (cxOf CX0 P w K mg base N qual scope f cdv A outer s H E).nox bd (tS (cnN K) [0] fb)) : FnG P w K mg base (k + 1) f fd ps (spIO K n (gIO N.length n fb)) :=
  def_okGIO F S hp body fun t0 ds t t1 hl h => by
    unfold gIO at h
    rw [if_pos hl] at h
    split at h
    · rename_i t' η e
      split at h
      · rename_i t1' e2
        cases h
        exact ⟨η, e, e2⟩
      · cases h
    · cases h
/-- nothing can be asked of a def whose meaning is empty -/
theorem none_ok {ps : List Str} {n : Nat} {G : List PyData → Option T} {k : Nat} (h : ∀ ds, G ds = none) : FnG P w K mg base k f fd ps (spP K n G) := by
  have no : ∀ vs H Q E, ¬ spP K n G vs H Q E := fun vs H Q E h2 => by
    obtain ⟨F, ds, t, _, _, _, e, _⟩ := h2
    rw [h] at e
    cases e
  exact ⟨fun vs H Q E h => absurd h (no vs H Q E), fun A outer s H args us vs Q E _ _ _ _ _ h => absurd h (no vs H Q E)⟩
theorem good_u {A : Around} {k : Nat} (hr : Room (k + 1) A) : A.units + 66 < cLine := by
  have := hr.un
  omega
/-! ### the law: a list of at most 63 ints -/
theorem law_sp {K : PySem.W.Frag} {G : List PyData → Option T} (hG : ∀ ns : List Int, ns.length ≤ 63 → G [.list (ns.map PyData.int)] = some (.sh (.bool true))) {H : Hp} {a : Addr} {ns : List Int} (hl : ns.length ≤ 63) (hS : SqL K H a (ns.map V.int)) :
    spP K 1 G [.ref a] H (fun v _ => v = .bl true) fun _ _ _ => False := by
  have rp : ∀ ns : List Int, RpAll K H (ns.map PyData.int) (ns.map V.int) := fun ns => by
    induction ns with
    | nil => exact .nil
    | cons n ns ih => exact .consI rp_c.1 ih
  refine ⟨H, [.list (ns.map PyData.int)], .sh (.bool true), .refl H, .one (by simp only [Rp]; exact ⟨a, _, rfl, hS, rp ns⟩), rfl, hG ns hl, fun v F' H' f r => ?_⟩
  have := r.rt
  simp only [RT, Rp] at this
  exact this.2
end
end Pv
set_option Elab.async false
set_option linter.all false
set_option maxRecDepth 100000
set_option maxHeartbeats 4000000
namespace Pv
open PySem L2
/-! ### a computation that ends well -/
def Rs.Is {α : Type} (r : Rs α) (P : α → Prop) : Prop := ∃ a, r = .ok a ∧ P a
theorem Rs.is_ok {α : Type} {a : α} {P : α → Prop} : (Rs.ok a).Is P ↔ P a := ⟨fun ⟨b, e, h⟩ => by cases e; exact h, fun h => ⟨a, rfl, h⟩⟩
theorem Rs.Is.bind {α β : Type} {r : Rs α} {f : α → Rs β} {P : α → Prop} {Q : β → Prop} (h : r.Is P) (k : ∀ a, P a → (f a).Is Q) : (r.bind f).Is Q := by
  obtain ⟨a, rfl, p⟩ := h
  exact k a p
theorem Rs.Is.mono {α : Type} {r : Rs α} {P Q : α → Prop} (h : r.Is P) (k : ∀ a, P a → Q a) : r.Is Q := by
  obtain ⟨a, rfl, p⟩ := h
  exact ⟨a, rfl, k a p⟩
theorem Rs.Is.eq {α : Type} {r : Rs α} {a : α} (h : r.Is (· = a)) : r = .ok a := by
  obtain ⟨b, rfl, rfl⟩ := h
  rfl
theorem Rs.is_eq {α : Type} {r : Rs α} {a : α} {P : α → Prop} (h : r = .ok a) (p : P a) : r.Is P := ⟨a, h, p⟩
/-! ### loops -/
def LoopP (I : Nat → Env → Prop) (R : T → Env → Prop) (n : Nat) (p : Fl × Env) : Prop := match p.1 with
  | .nx => I n p.2
  | .ret t => R t p.2
  | _ => False
def StepP (chk : Env → Bool) (I : Nat → Env → Prop) (R : T → Env → Prop) (i n : Nat) (p : Fl × Env) : Prop := match p.1 with
  | .nx => chk p.2 = true ∧ I (i + 1) p.2
  | .ct => chk p.2 = true ∧ I (i + 1) p.2
  | .bk => I n p.2
  | .ret t => R t p.2
theorem loopF_inv {chk : Env → Bool} {tgt : FG} {body : FS} (I : Nat → Env → Prop) (R : T → Env → Prop) : ∀ {ds : List PyData} {η : Env}, I 0 η →
    (∀ i d η, ds[i]? = some d → I i η → ((tgt (.sh d) η).bind body).Is (StepP chk I R i ds.length)) → (loopF chk tgt body ds η).Is (LoopP I R ds.length)
  | [], η, h, _ => ⟨_, rfl, h⟩
  | d :: ds, η, h, st => by
    obtain ⟨p, e, hp⟩ := st 0 d η rfl h
    unfold loopF
    cases e1 : tgt (.sh d) η with
    | ok η1 =>
      rw [e1] at e
      have e : body η1 = .ok p := e
      show ((body η1).bind _).Is _
      rw [e]
      unfold StepP at hp
      have go : ∀ η2, chk η2 = true ∧ I 1 η2 → (if chk η2 = true then loopF chk tgt body ds η2 else .bad).Is (LoopP I R (ds.length + 1)) := fun η2 ⟨h1, h2⟩ => by
        rw [if_pos h1]
        have := loopF_inv (chk := chk) (tgt := tgt) (body := body) (fun i => I (i + 1)) R (ds := ds) (η := η2) h2 fun i d η hd hI => by
          have := st (i + 1) d η (by simpa using hd) hI
          exact this.mono fun p hp => by
            unfold StepP at hp ⊢
            exact hp
        exact this
      obtain ⟨fl, η2⟩ := p
      cases fl with
      | nx => exact go _ hp
      | ct => exact go _ hp
      | bk => exact ⟨_, rfl, hp⟩
      | ret t => exact ⟨_, rfl, hp⟩
    | exc a b => rw [e1] at e; cases e
    | bad => rw [e1] at e; cases e
theorem loopW_inv {c : FB} {body : FS} (I : Nat → Env → Prop) (J : Env → Prop) (R : T → Env → Prop)
    (step : ∀ n η, I n η → ((c η).bind fun b => if b.1 then (body b.2).bind fun p => .ok (some p.1, p.2) else .ok (none, b.2)).Is fun p => match p.1 with
      | none => J p.2
      | some .bk => J p.2
      | some (.ret t) => R t p.2
      | some _ => ∃ m, m < n ∧ I m p.2) : ∀ {n m : Nat} {η : Env}, I m η → m < n → (loopW c body n η).Is fun p => match p.1 with
      | .nx => J p.2
      | .ret t => R t p.2
      | _ => False
  | 0, m, η, _, h => absurd h (Nat.not_lt_zero _)
  | n + 1, m, η, hI, h => by
    obtain ⟨p, e, hp⟩ := step m η hI
    unfold loopW
    cases e1 : c η with
    | ok b =>
      rw [e1] at e
      show (if b.1 = true then _ else _ : Rs (Fl × Env)).Is _
      have e : (if b.1 then (body b.2).bind fun p => .ok (some p.1, p.2) else .ok (none, b.2) : Rs (Option Fl × Env)) = .ok p := e
      split at e
      · rename_i hb
        rw [if_pos hb]
        cases e2 : body b.2 with
        | ok q =>
          rw [e2] at e
          cases e
          obtain ⟨fl, η2⟩ := q
          cases fl with
          | nx =>
            obtain ⟨m', hm, hI'⟩ := hp
            exact loopW_inv I J R step hI' (by omega)
          | ct =>
            obtain ⟨m', hm, hI'⟩ := hp
            exact loopW_inv I J R step hI' (by omega)
          | bk => exact ⟨_, rfl, hp⟩
          | ret t => exact ⟨_, rfl, hp⟩
        | exc a b => rw [e2] at e; cases e
        | bad => rw [e2] at e; cases e
      · rename_i hb
        rw [if_neg hb]
        cases e
        exact ⟨_, rfl, hp⟩
    | exc a b => rw [e1] at e; cases e
    | bad => rw [e1] at e; cases e
theorem gN_bind {i : Nat} {t : T} {η : Env} {body : FS} : (gN i t η).bind body = body (η.set i (some t)) := rfl
theorem step_nx {chk : Env → Bool} {I : Nat → Env → Prop} {R : T → Env → Prop} {i n : Nat} {r : Rs (Fl × Env)} {η : Env} (h : r = .ok (.nx, η)) (hc : chk η = true) (hI : I (i + 1) η) : r.Is (StepP chk I R i n) := ⟨_, h, hc, hI⟩
theorem step_ct {chk : Env → Bool} {I : Nat → Env → Prop} {R : T → Env → Prop} {i n : Nat} {r : Rs (Fl × Env)} {η : Env} (h : r = .ok (.ct, η)) (hc : chk η = true) (hI : I (i + 1) η) : r.Is (StepP chk I R i n) := ⟨_, h, hc, hI⟩
theorem step_ret {chk : Env → Bool} {I : Nat → Env → Prop} {R : T → Env → Prop} {i n : Nat} {r : Rs (Fl × Env)} {t : T} {η : Env} (h : r = .ok (.ret t, η)) (hR : R t η) : r.Is (StepP chk I R i n) := ⟨_, h, hR⟩
theorem step_bk {chk : Env → Bool} {I : Nat → Env → Prop} {R : T → Env → Prop} {i n : Nat} {r : Rs (Fl × Env)} {η : Env} (h : r = .ok (.bk, η)) (hI : I n η) : r.Is (StepP chk I R i n) := ⟨_, h, hI⟩
theorem sFor_inv {α : Type} (l : List α) (f : α → PyData) {fi : FI} {tgt : FG} {body : FS} {η η1 : Env} (I : Nat → Env → Prop) (R : T → Env → Prop) (hit : fi η = .ok (l.map f, η1)) (h0 : I 0 η1)
    (st : ∀ i x η, l[i]? = some x → I i η → ((tgt (.sh (f x)) η).bind body).Is (StepP (fun _ => true) I R i l.length)) : (sFor fi tgt body η).Is (LoopP I R l.length) := by
  unfold sFor
  rw [hit]
  simp only [Rs.bind_ok]
  have h := loopF_inv (chk := fun _ => true) (tgt := tgt) (body := body) (ds := l.map f) I R h0 fun i d η hd hI => by
    rw [List.getElem?_map] at hd
    cases e : l[i]? with
    | none => rw [e] at hd; cases hd
    | some x =>
      rw [e] at hd
      cases hd
      rw [List.length_map]
      exact st i x η e hI
  rw [List.length_map] at h
  exact h
theorem sForV_inv {α : Type} (l : List α) (f : α → PyData) {j : Nat} {d0 : PyData} {tgt : FG} {body : FS} {η : Env} (I : Nat → Env → Prop) (R : T → Env → Prop) (hp : pk η j = some d0) (hs : seqOf d0 = some (l.map f)) (h0 : I 0 η)
    (st : ∀ i x η, l[i]? = some x → I i η → ((tgt (.sh (f x)) η).bind body).Is (StepP (pkIs j d0) I R i l.length)) : (sForV j tgt body η).Is (LoopP I R l.length) := by
  unfold sForV
  rw [hp]
  simp only [hs]
  have h := loopF_inv (chk := pkIs j d0) (tgt := tgt) (body := body) (ds := l.map f) I R h0 fun i d η hd hI => by
    rw [List.getElem?_map] at hd
    cases e : l[i]? with
    | none => rw [e] at hd; cases hd
    | some x =>
      rw [e] at hd
      cases hd
      rw [List.length_map]
      exact st i x η e hI
  rw [List.length_map] at h
  exact h
theorem sSeq_loop {f g : FS} {η : Env} {I : Nat → Env → Prop} {R : T → Env → Prop} {n : Nat} {P : Fl × Env → Prop} (h : (f η).Is (LoopP I R n)) (k : ∀ η, I n η → (g η).Is P) (kr : ∀ t η, R t η → P (.ret t, η)) : (sSeq f g η).Is P := by
  obtain ⟨⟨fl, η1⟩, e, hp⟩ := h
  unfold sSeq
  rw [e]
  simp only [Rs.bind_ok]
  cases fl with
  | nx => exact k _ hp
  | ret t => exact ⟨_, rfl, kr _ _ hp⟩
  | bk => exact hp.elim
  | ct => exact hp.elim
/-! ### comprehensions -/
/-- what the turns of a comprehension give: R for those that pass, in order -/
inductive Picks (c : PyData → T → Prop) : List PyData → List T → Prop
  | nil : Picks c [] []
  | take {d ds t ts} : c d t → Picks c ds ts → Picks c (d :: ds) (t :: ts)
  | drop {d ds ts} : Picks c ds ts → Picks c (d :: ds) ts
theorem loopC_inv {chk : Env → Bool} {own : List Nat} {tgt : FG} {cond : FB} {elt : FE} (I : Env → Prop) (R : PyData → T → Prop) : ∀ {ds : List PyData} {η : Env}, I η →
    (∀ d η, d ∈ ds → I η → ∃ η1 b η2, tgt (.sh d) η = .ok η1 ∧ cond η1 = .ok (b, η2) ∧
      (b = true → ∃ t η3, elt η2 = .ok (t, η3) ∧ R d t ∧ ownFree η3 own = true ∧ chk (wipeE η3 own) = true ∧ I (wipeE η3 own)) ∧
      (b = false → ownFree η2 own = true ∧ chk (wipeE η2 own) = true ∧ I (wipeE η2 own))) → ∃ ts η', loopC chk own tgt cond elt ds η = .ok (ts, η') ∧ I η' ∧ Picks R ds ts
  | [], η, h, _ => ⟨[], η, rfl, h, .nil⟩
  | d :: ds, η, h, st => by
    obtain ⟨η1, b, η2, e1, e2, ht, hf⟩ := st d η List.mem_cons_self h
    unfold loopC
    rw [e1]
    simp only [Rs.noX_ok, Rs.bind_ok]
    rw [e2]
    simp only [Rs.noX_ok, Rs.bind_ok]
    cases b with
    | true =>
      obtain ⟨t, η3, e3, r, f, k, hI⟩ := ht rfl
      rw [if_pos rfl, e3]
      simp only [Rs.noX_ok, Rs.bind_ok]
      rw [if_pos ⟨f, k⟩]
      obtain ⟨ts, η', e4, h4, pk⟩ := loopC_inv I R hI fun d' η hd => st d' η (List.mem_cons_of_mem _ hd)
      rw [e4]
      exact ⟨t :: ts, η', rfl, h4, .take r pk⟩
    | false =>
      obtain ⟨f, k, hI⟩ := hf rfl
      rw [if_neg Bool.false_ne_true, if_pos ⟨f, k⟩]
      obtain ⟨ts, η', e4, h4, pk⟩ := loopC_inv I R hI fun d' η hd => st d' η (List.mem_cons_of_mem _ hd)
      exact ⟨ts, η', e4, h4, .drop pk⟩
inductive All2 (c : PyData → T → Prop) : List PyData → List T → Prop
  | nil : All2 c [] []
  | cons {d ds t ts} : c d t → All2 c ds ts → All2 c (d :: ds) (t :: ts)
theorem All2.len {c : PyData → T → Prop} {ds : List PyData} {ts : List T} (h : All2 c ds ts) : ts.length = ds.length := by
  induction h with
  | nil => rfl
  | cons _ _ ih => simp [ih]
theorem All2.mem {c : PyData → T → Prop} {ds : List PyData} {ts : List T} (h : All2 c ds ts) : ∀ t ∈ ts, ∃ d ∈ ds, c d t := by
  induction h with
  | nil => simp
  | cons h _ ih =>
    intro t ht
    rcases List.mem_cons.mp ht with rfl | ht
    · exact ⟨_, List.mem_cons_self, h⟩
    · obtain ⟨d, hd, hc⟩ := ih t ht
      exact ⟨d, List.mem_cons_of_mem _ hd, hc⟩
theorem Picks.sub {ds : List PyData} {ts : List T} (h : Picks (fun d t => t = .sh d) ds ts) : ∃ ds' : List PyData, List.Sublist ds' ds ∧ ts = ds'.map T.sh := by
  induction h with
  | nil => exact ⟨[], .slnil, rfl⟩
  | take h _ ih =>
    obtain ⟨ds', h1, h2⟩ := ih
    exact ⟨_ :: ds', h1.cons_cons _, by rw [h, h2]; rfl⟩
  | drop _ ih =>
    obtain ⟨ds', h1, h2⟩ := ih
    exact ⟨ds', h1.cons _, h2⟩
theorem loopC_all {chk : Env → Bool} {own : List Nat} {tgt : FG} {elt : FE} (I : Env → Prop) (R : PyData → T → Prop) : ∀ {ds : List PyData} {η : Env}, I η →
    (∀ d η, d ∈ ds → I η → ∃ η1 t η3, tgt (.sh d) η = .ok η1 ∧ elt η1 = .ok (t, η3) ∧ R d t ∧ ownFree η3 own = true ∧ chk (wipeE η3 own) = true ∧ I (wipeE η3 own)) → ∃ ts η', loopC chk own tgt bTrue elt ds η = .ok (ts, η') ∧ I η' ∧ All2 R ds ts
  | [], η, h, _ => ⟨[], η, rfl, h, .nil⟩
  | d :: ds, η, h, st => by
    obtain ⟨η1, t, η3, e1, e2, r, f, k, hI⟩ := st d η List.mem_cons_self h
    obtain ⟨ts, η', e4, h4, pk⟩ := loopC_all (chk := chk) (own := own) (tgt := tgt) (elt := elt) I R hI fun d' η hd => st d' η (List.mem_cons_of_mem _ hd)
    unfold loopC
    rw [e1]
    simp only [Rs.noX_ok, Rs.bind_ok, bTrue, if_pos]
    rw [e2]
    simp only [Rs.noX_ok, Rs.bind_ok]
    rw [if_pos ⟨f, k⟩]
    rw [e4]
    exact ⟨t :: ts, η', rfl, h4, .cons r pk⟩
/-- .. where nothing changes: over things l that read as data by f -/
theorem loopC_pure {α : Type} {chk : Env → Bool} {own : List Nat} {tgt : FG} {cond : FB} {elt : FE} {η : Env} (f : α → PyData) (c : α → Bool) (t : α → T) : ∀ {l : List α},
    (∀ d, d ∈ l → ∃ η1 η2, tgt (.sh (f d)) η = .ok η1 ∧ cond η1 = .ok (c d, η2) ∧ (c d = false → ownFree η2 own = true ∧ wipeE η2 own = η) ∧ (c d = true → ∃ η3, elt η2 = .ok (t d, η3) ∧ ownFree η3 own = true ∧ wipeE η3 own = η)) →
    chk η = true → loopC chk own tgt cond elt (l.map f) η = .ok ((l.filter c).map t, η)
  | [], _, _ => rfl
  | d :: l, st, hc => by
    obtain ⟨η1, η2, e1, e2, hf, ht⟩ := st d List.mem_cons_self
    have ih := loopC_pure (chk := chk) (own := own) (tgt := tgt) (cond := cond) (elt := elt) (η := η) f c t (l := l) (fun d' hd => st d' (List.mem_cons_of_mem _ hd)) hc
    rw [List.map_cons]
    unfold loopC
    rw [e1]
    simp only [Rs.noX_ok, Rs.bind_ok]
    rw [e2]
    simp only [Rs.noX_ok, Rs.bind_ok]
    cases e : c d with
    | true =>
      obtain ⟨η3, e3, f', w⟩ := ht e
      rw [if_pos rfl, e3]
      simp only [Rs.noX_ok, Rs.bind_ok]
      rw [w, if_pos ⟨f', hc⟩, ih, List.filter_cons_of_pos e]
      rfl
    | false =>
      obtain ⟨f', w⟩ := hf e
      rw [if_neg Bool.false_ne_true, w, if_pos ⟨f', hc⟩, ih, List.filter_cons_of_neg (by rw [e]; exact Bool.false_ne_true)]
section
variable {α : Type} {own : List Nat} {i : Nat} {fi : FI} {tgt : FG} {cond : FB} {elt : FE} {η η1 : Env} {d0 : PyData} {ds : List PyData}
theorem eComp_pure (l : List α) (f : α → PyData) (c : α → Bool) (t : α → T) (hfi : fi η = .ok (l.map f, η1)) (hl : l.length < 16777216) (hf : ownFree η1 own = true) (hb : backE η1 own (wipeE η1 own) = η1)
    (st : ∀ d, d ∈ l → ∃ η2 η3, tgt (.sh (f d)) (wipeE η1 own) = .ok η2 ∧ cond η2 = .ok (c d, η3) ∧ (c d = false → ownFree η3 own = true ∧ wipeE η3 own = wipeE η1 own) ∧ (c d = true → ∃ η4, elt η3 = .ok (t d, η4) ∧ ownFree η4 own = true ∧ wipeE η4 own = wipeE η1 own)) :
    eComp own fi tgt cond elt η = .ok (.lst ((l.filter c).map t), η1) := by
  unfold eComp
  rw [hfi]
  have hl' : (l.map f).length < 16777216 := by rw [List.length_map]; exact hl
  simp only [Rs.bind_ok, hf, line, decide_eq_true hl', Bool.and_true, if_pos]
  rw [loopC_pure f c t st rfl]
  simp only [Rs.bind_ok, hb]
theorem eComp_map (l : List α) (f : α → PyData) (t : α → T) (hfi : fi η = .ok (l.map f, η1)) (hl : l.length < 16777216) (hf : ownFree η1 own = true) (hb : backE η1 own (wipeE η1 own) = η1)
    (st : ∀ d, d ∈ l → ∃ η2 η4, tgt (.sh (f d)) (wipeE η1 own) = .ok η2 ∧ elt η2 = .ok (t d, η4) ∧ ownFree η4 own = true ∧ wipeE η4 own = wipeE η1 own) :
    eComp own fi tgt bTrue elt η = .ok (.lst (l.map t), η1) := by
  have := eComp_pure (cond := bTrue) (elt := elt) (own := own) (tgt := tgt) l f (fun _ => true) t hfi hl hf hb fun d hd => by
    obtain ⟨η2, η4, a, b, c, e⟩ := st d hd
    exact ⟨η2, η2, a, rfl, fun h => (by cases h), fun _ => ⟨η4, b, c, e⟩⟩
  rw [this, List.filter_eq_self.mpr fun _ _ => rfl]
theorem eCompV_pure (l : List α) (f : α → PyData) (c : α → Bool) (t : α → T) (hp : pk η i = some d0) (hs : seqOf d0 = some (l.map f)) (hl : l.length < 16777216) (hf : ownFree η own = true) (hi : own.contains i = false) (hb : backE η own (wipeE η own) = η)
    (hw : pk (wipeE η own) i = some d0)
    (st : ∀ d, d ∈ l → ∃ η2 η3, tgt (.sh (f d)) (wipeE η own) = .ok η2 ∧ cond η2 = .ok (c d, η3) ∧ (c d = false → ownFree η3 own = true ∧ wipeE η3 own = wipeE η own) ∧ (c d = true → ∃ η4, elt η3 = .ok (t d, η4) ∧ ownFree η4 own = true ∧ wipeE η4 own = wipeE η own)) :
    eCompV own i tgt cond elt η = .ok (.lst ((l.filter c).map t), η) := by
  unfold eCompV
  rw [hp]
  have hl' : (l.map f).length < 16777216 := by rw [List.length_map]; exact hl
  simp only [hs, hf, line, decide_eq_true hl', hi, Bool.and_true, Bool.not_false, if_pos]
  rw [loopC_pure f c t st (pkIs_of hw)]
  simp only [Rs.bind_ok, hb]
theorem eCompV_map (l : List α) (f : α → PyData) (t : α → T) (hp : pk η i = some d0) (hs : seqOf d0 = some (l.map f)) (hl : l.length < 16777216) (hf : ownFree η own = true) (hi : own.contains i = false) (hb : backE η own (wipeE η own) = η)
    (hw : pk (wipeE η own) i = some d0)
    (st : ∀ d, d ∈ l → ∃ η2 η4, tgt (.sh (f d)) (wipeE η own) = .ok η2 ∧ elt η2 = .ok (t d, η4) ∧ ownFree η4 own = true ∧ wipeE η4 own = wipeE η own) :
    eCompV own i tgt bTrue elt η = .ok (.lst (l.map t), η) := by
  have := eCompV_pure (cond := bTrue) (elt := elt) (own := own) (tgt := tgt) l f (fun _ => true) t hp hs hl hf hi hb hw fun d hd => by
    obtain ⟨η2, η4, a, b, c, e⟩ := st d hd
    exact ⟨η2, η2, a, rfl, fun h => (by cases h), fun _ => ⟨η4, b, c, e⟩⟩
  rw [this, List.filter_eq_self.mpr fun _ _ => rfl]
end
/-! ### defs -/
theorem gP_of {N n : Nat} {fb : FS} {ds : List PyData} (hl : ds.length = n) {P : T → Prop} (h : (fb (startE N (ds.map T.sh))).Is fun p => match p.1 with
    | .ret t => P t
    | .nx => P (.sh .none)
    | _ => False) : ∃ t, gP N n fb ds = some t ∧ P t := by
  obtain ⟨⟨fl, η⟩, e, hp⟩ := h
  unfold gP
  rw [if_pos hl, e]
  cases fl with
  | nx => exact ⟨_, rfl, hp⟩
  | ret t => exact ⟨_, rfl, hp⟩
  | bk => exact hp.elim
  | ct => exact hp.elim
theorem gP_eq {N n : Nat} {fb : FS} {ds : List PyData} {t : T} {η : Env} (hl : ds.length = n) (h : fb (startE N (ds.map T.sh)) = .ok (.ret t, η)) : gP N n fb ds = some t := by
  unfold gP
  rw [if_pos hl, h]
  rfl
theorem gIO_of {N n : Nat} {fb : FS} {t0 : T} {ds : List PyData} (hl : ds.length + 1 = n) {P : T → T → Prop} (h : (fb (startE N (t0 :: ds.map T.sh))).Is fun p => ∃ t1, p.2[0]? = some (some t1) ∧ match p.1 with
    | .ret t => P t t1
    | .nx => P (.sh .none) t1
    | _ => False) : ∃ t t1, gIO N n fb t0 ds = some (t, t1) ∧ P t t1 := by
  obtain ⟨⟨fl, η⟩, e, t1, h0, hp⟩ := h
  unfold gIO
  rw [if_pos hl, e]
  have h0 : η[0]? = some (some t1) := h0
  cases fl with
  | nx => exact ⟨_, t1, by simp only [retOf, h0], hp⟩
  | ret t => exact ⟨_, t1, by simp only [retOf, h0], hp⟩
  | bk => exact hp.elim
  | ct => exact hp.elim
end Pv
set_option Elab.async false
set_option linter.all false
namespace Pv
open PySem L2
@[simp] theorem s_eC_eq_1 : type_of% @eC.eq_1 := @eC.eq_1
@[simp] theorem s_eV_eq_1 : type_of% @eV.eq_1 := @eV.eq_1
@[simp] theorem s_eBin_eq_1 : type_of% @eBin.eq_1 := @eBin.eq_1
@[simp] theorem s_eBinL'_eq_1 : type_of% @eBinL'.eq_1 := @eBinL'.eq_1
@[simp] theorem s_eBinL_eq_1 : type_of% @eBinL.eq_1 := @eBinL.eq_1
@[simp] theorem s_eBinR_eq_1 : type_of% @eBinR.eq_1 := @eBinR.eq_1
@[simp] theorem s_eBinLR_eq_1 : type_of% @eBinLR.eq_1 := @eBinLR.eq_1
@[simp] theorem s_fin1_eq_1 : type_of% @fin1.eq_1 := @fin1.eq_1
@[simp] theorem s_fin1_eq_2 : type_of% @fin1.eq_2 := @fin1.eq_2
@[simp] theorem s_bT_eq_1 : type_of% @bT.eq_1 := @bT.eq_1
@[simp] theorem s_bTru_eq_1 : type_of% @bTru.eq_1 := @bTru.eq_1
@[simp] theorem s_bAnd_eq_1 : type_of% @bAnd.eq_1 := @bAnd.eq_1
@[simp] theorem s_bOr_eq_1 : type_of% @bOr.eq_1 := @bOr.eq_1
@[simp] theorem s_bNot_eq_1 : type_of% @bNot.eq_1 := @bNot.eq_1
@[simp] theorem s_truth_eq_1 : type_of% @truth.eq_1 := @truth.eq_1
@[simp] theorem s_truth_eq_2 : type_of% @truth.eq_2 := @truth.eq_2
@[simp] theorem s_truth_eq_3 : type_of% @truth.eq_3 := @truth.eq_3
@[simp] theorem s_truth_eq_4 : type_of% @truth.eq_4 := @truth.eq_4
@[simp] theorem s_truth_eq_5 : type_of% @truth.eq_5 := @truth.eq_5
@[simp] theorem s_truth_eq_6 : type_of% @truth.eq_6 := @truth.eq_6
@[simp] theorem s_eAnd_eq_1 : type_of% @eAnd.eq_1 := @eAnd.eq_1
@[simp] theorem s_eOr_eq_1 : type_of% @eOr.eq_1 := @eOr.eq_1
@[simp] theorem s_eIf_eq_1 : type_of% @eIf.eq_1 := @eIf.eq_1
@[simp] theorem s_eUn_eq_1 : type_of% @eUn.eq_1 := @eUn.eq_1
@[simp] theorem s_eNot_eq_1 : type_of% @eNot.eq_1 := @eNot.eq_1
@[simp] theorem s_eNotV_eq_1 : type_of% @eNotV.eq_1 := @eNotV.eq_1
@[simp] theorem s_eChain_eq_1 : type_of% @eChain.eq_1 := @eChain.eq_1
@[simp] theorem s_aNil_eq_1 : type_of% @aNil.eq_1 := @aNil.eq_1
@[simp] theorem s_aCons_eq_1 : type_of% @aCons.eq_1 := @aCons.eq_1
@[simp] theorem s_eTup_eq_1 : type_of% @eTup.eq_1 := @eTup.eq_1
@[simp] theorem s_eLst_eq_1 : type_of% @eLst.eq_1 := @eLst.eq_1
@[simp] theorem s_eCall_eq_1 : type_of% @eCall.eq_1 := @eCall.eq_1
@[simp] theorem s_eCallV_eq_1 : type_of% @eCallV.eq_1 := @eCallV.eq_1
@[simp] theorem s_oNone_eq_1 : type_of% @oNone.eq_1 := @oNone.eq_1
@[simp] theorem s_oSome_eq_1 : type_of% @oSome.eq_1 := @oSome.eq_1
@[simp] theorem s_eSl_eq_1 : type_of% @eSl.eq_1 := @eSl.eq_1
@[simp] theorem s_eSlV_eq_1 : type_of% @eSlV.eq_1 := @eSlV.eq_1
@[simp] theorem s_eIs_eq_1 : type_of% @eIs.eq_1 := @eIs.eq_1
@[simp] theorem s_eIsV_eq_1 : type_of% @eIsV.eq_1 := @eIsV.eq_1
@[simp] theorem s_eDef_eq_1 : type_of% @eDef.eq_1 := @eDef.eq_1
@[simp] theorem s_eDefIO_eq_1 : type_of% @eDefIO.eq_1 := @eDefIO.eq_1
@[simp] theorem s_sNil_eq_1 : type_of% @sNil.eq_1 := @sNil.eq_1
@[simp] theorem s_sSeq_eq_1 : type_of% @sSeq.eq_1 := @sSeq.eq_1
@[simp] theorem s_sBad_eq_1 : type_of% @sBad.eq_1 := @sBad.eq_1
@[simp] theorem s_sExpr_eq_1 : type_of% @sExpr.eq_1 := @sExpr.eq_1
@[simp] theorem s_sRet_eq_1 : type_of% @sRet.eq_1 := @sRet.eq_1
@[simp] theorem s_sRetV_eq_1 : type_of% @sRetV.eq_1 := @sRetV.eq_1
@[simp] theorem s_sRetN_eq_1 : type_of% @sRetN.eq_1 := @sRetN.eq_1
@[simp] theorem s_sIf_eq_1 : type_of% @sIf.eq_1 := @sIf.eq_1
@[simp] theorem s_sBreak_eq_1 : type_of% @sBreak.eq_1 := @sBreak.eq_1
@[simp] theorem s_sCont_eq_1 : type_of% @sCont.eq_1 := @sCont.eq_1
@[simp] theorem s_sAsg_eq_1 : type_of% @sAsg.eq_1 := @sAsg.eq_1
@[simp] theorem s_gN_eq_1 : type_of% @gN.eq_1 := @gN.eq_1
@[simp] theorem s_gsNil_eq_1 : type_of% @gsNil.eq_1 := @gsNil.eq_1
@[simp] theorem s_gsNil_eq_2 : type_of% @gsNil.eq_2 := @gsNil.eq_2
@[simp] theorem s_gsCons_eq_1 : type_of% @gsCons.eq_1 := @gsCons.eq_1
@[simp] theorem s_gsCons_eq_2 : type_of% @gsCons.eq_2 := @gsCons.eq_2
@[simp] theorem s_gTupD_eq_1 : type_of% @gTupD.eq_1 := @gTupD.eq_1
@[simp] theorem s_gSub_eq_1 : type_of% @gSub.eq_1 := @gSub.eq_1
@[simp] theorem s_own_eq_1 : type_of% @own.eq_1 := @own.eq_1
@[simp] theorem s_setL_eq_1 : type_of% @setL.eq_1 := @setL.eq_1
@[simp] theorem s_pk_eq_1 : type_of% @pk.eq_1 := @pk.eq_1
@[simp] theorem s_pkD_eq_1 : type_of% @pkD.eq_1 := @pkD.eq_1
@[simp] theorem s_pkD_eq_2 : type_of% @pkD.eq_2 := @pkD.eq_2
@[simp] theorem s_shDs_eq_1 : type_of% @shDs.eq_1 := @shDs.eq_1
@[simp] theorem s_shDs_eq_2 : type_of% @shDs.eq_2 := @shDs.eq_2
@[simp] theorem s_shD_eq_1 : type_of% @shD.eq_1 := @shD.eq_1
@[simp] theorem s_shD_eq_2 : type_of% @shD.eq_2 := @shD.eq_2
@[simp] theorem s_eMt1_eq_1 : type_of% @eMt1.eq_1 := @eMt1.eq_1
@[simp] theorem s_eMt0_eq_1 : type_of% @eMt0.eq_1 := @eMt0.eq_1
@[simp] theorem s_iE_eq_1 : type_of% @iE.eq_1 := @iE.eq_1
@[simp] theorem s_iR1_eq_1 : type_of% @iR1.eq_1 := @iR1.eq_1
@[simp] theorem s_iR2_eq_1 : type_of% @iR2.eq_1 := @iR2.eq_1
@[simp] theorem s_iEn_eq_1 : type_of% @iEn.eq_1 := @iEn.eq_1
@[simp] theorem s_iZ_eq_1 : type_of% @iZ.eq_1 := @iZ.eq_1
@[simp] theorem s_startE_eq_1 : type_of% @startE.eq_1 := @startE.eq_1
@[simp] theorem s_T_val_eq_1 : type_of% @T.val.eq_1 := @T.val.eq_1
@[simp] theorem s_T_val_eq_2 : type_of% @T.val.eq_2 := @T.val.eq_2
@[simp] theorem s_T_vals_eq_1 : type_of% @T.vals.eq_1 := @T.vals.eq_1
@[simp] theorem s_T_vals_eq_2 : type_of% @T.vals.eq_2 := @T.vals.eq_2
@[simp] theorem s_wipeE_eq_1 : type_of% @wipeE.eq_1 := @wipeE.eq_1
@[simp] theorem s_wipeE_eq_2 : type_of% @wipeE.eq_2 := @wipeE.eq_2
@[simp] theorem s_backE_eq_1 : type_of% @backE.eq_1 := @backE.eq_1
@[simp] theorem s_backE_eq_2 : type_of% @backE.eq_2 := @backE.eq_2
@[simp] theorem s_ownFree_eq_1 : type_of% @ownFree.eq_1 := @ownFree.eq_1
@[simp] theorem s_free1_eq_1 : type_of% @free1.eq_1 := @free1.eq_1
@[simp] theorem s_seqOf_eq_1 : type_of% @seqOf.eq_1 := @seqOf.eq_1
@[simp] theorem s_seqOf_eq_2 : type_of% @seqOf.eq_2 := @seqOf.eq_2
@[simp] theorem s_seqOf_eq_3 : type_of% @seqOf.eq_3 := @seqOf.eq_3
@[simp] theorem s_bTrue_eq_1 : type_of% @bTrue.eq_1 := @bTrue.eq_1
@[simp] theorem s_eLstRg1_eq_1 : type_of% @eLstRg1.eq_1 := @eLstRg1.eq_1
@[simp] theorem s_eTupRg1_eq_1 : type_of% @eTupRg1.eq_1 := @eTupRg1.eq_1
@[simp] theorem s_isI_eq_1 : type_of% @isI.eq_1 := @isI.eq_1
@[simp] theorem s_isI_eq_2 : type_of% @isI.eq_2 := @isI.eq_2
@[simp] theorem s_isI_eq_3 : type_of% @isI.eq_3 := @isI.eq_3
@[simp] theorem s_isI_eq_4 : type_of% @isI.eq_4 := @isI.eq_4
@[simp] theorem s_isI_eq_5 : type_of% @isI.eq_5 := @isI.eq_5
@[simp] theorem s_isI_eq_6 : type_of% @isI.eq_6 := @isI.eq_6
@[simp] theorem s_isI_eq_7 : type_of% @isI.eq_7 := @isI.eq_7
@[simp] theorem s_isI_eq_8 : type_of% @isI.eq_8 := @isI.eq_8
@[simp] theorem s_goNil : type_of% @goNil.eq_1 := @goNil.eq_1
@[simp] theorem s_goCons : type_of% @goCons.eq_1 := @goCons.eq_1
@[simp] theorem s_goCons2 : type_of% @goCons.eq_2 := @goCons.eq_2
@[simp] theorem s_eMq : type_of% @eMq.eq_1 := @eMq.eq_1
@[simp] theorem s_eRevL : type_of% @eRevL.eq_1 := @eRevL.eq_1
@[simp] theorem s_iZ3 : type_of% @iZ3.eq_1 := @iZ3.eq_1
@[simp] theorem s_sPar : type_of% @sPar.eq_1 := @sPar.eq_1
@[simp] theorem s_eDct1 : type_of% @eDct1.eq_1 := @eDct1.eq_1
@[simp] theorem keyD_0 : keyD (.inl 0) = .int 0 := rfl
@[simp] theorem opEqS_str {a b : Str} : opEqS (.str a) (.str b) = some (.sh (.bool (decide (a = b)))) := rfl
@[simp] theorem opNeS_str {a b : Str} : opNeS (.str a) (.str b) = some (.sh (.bool (!decide (a = b)))) := rfl
@[simp] theorem s_sMul : type_of% @sMul.eq_1 := @sMul.eq_1
/-! ### operations on what is known -/
section
variable {i j : Int} {a b : List PyData} {x y : Bool} {s u : Str} {d e : PyData}
theorem mulFits_r (h : -18446744073709551616 < j ∧ j < 18446744073709551616) : mulFits i j = true := by
  unfold mulFits small64
  rw [decide_eq_true h.1, decide_eq_true h.2]
  simp
theorem mulFits_l (h : -18446744073709551616 < i ∧ i < 18446744073709551616) : mulFits i j = true := by
  unfold mulFits small64
  rw [decide_eq_true h.1, decide_eq_true h.2]
  simp
@[simp] theorem opAdd_int : opAdd (.int i) (.int j) = some (.sh (.int (i + j))) := rfl
theorem opAdd_tup (h : a.length + b.length ≤ 16777216) : opAdd (.tuple a) (.tuple b) = some (.sh (.tuple (a ++ b))) := if_pos h
theorem opAdd_list (h : a.length + b.length ≤ 16777216) : opAdd (.list a) (.list b) = some (.lst ((a ++ b).map T.sh)) := if_pos h
@[simp] theorem opSub_int : opSub (.int i) (.int j) = some (.sh (.int (i - j))) := rfl
theorem opMul_int (h : mulFits i j = true) : opMul (.int i) (.int j) = some (.sh (.int (i * j))) := if_pos h
@[simp] theorem opMul_intL (h : -18446744073709551616 < i ∧ i < 18446744073709551616) : opMul (.int i) (.int j) = some (.sh (.int (i * j))) := opMul_int (mulFits_l h)
@[simp] theorem opMul_intR (h : -18446744073709551616 < j ∧ j < 18446744073709551616) : opMul (.int i) (.int j) = some (.sh (.int (i * j))) := opMul_int (mulFits_r h)
theorem log2_small {n : Nat} (h : n < 2 ^ 64) : n.log2 < 9000 := by
  by_cases h0 : n = 0
  · subst h0; decide
  · have := (Nat.log2_lt h0).mpr h
    omega
@[simp] theorem opFdiv_int (h : 0 < j) (h2 : j < 18446744073709551616) : opFdiv (.int i) (.int j) = some (.sh (.int (i / j))) := by
  have c : (decide (0 < j) && decide (j.natAbs.log2 < 9000)) = true := by
    rw [decide_eq_true h, decide_eq_true (log2_small (by omega))]
    rfl
  exact if_pos c
@[simp] theorem opMod_int (h : 0 < j) : opMod (.int i) (.int j) = some (.sh (.int (i % j))) := by
  exact if_pos (decide_eq_true h)
theorem opPow_int (h : 0 ≤ j ∧ j ≤ 1000000 ∧ i.natAbs < 18446744073709551616) : opPow (.int i) (.int j) = some (.sh (.int (i ^ j.toNat))) := if_pos (decide_eq_true h)
@[simp] theorem shp_none : shp .none = true := by decide +kernel
@[simp] theorem shp_int : shp (.int i) = true := rfl
@[simp] theorem shp_bool : shp (.bool x) = true := rfl

theorem opEq_of (h1 : shp d = true) (h2 : shp e = true) : opEq d e = some (.sh (.bool (PyData.eqv d e))) := by
  unfold opEq
  rw [h1, h2]
  rfl
theorem opNe_of (h1 : shp d = true) (h2 : shp e = true) : opNe d e = some (.sh (.bool (!PyData.eqv d e))) := by
  unfold opNe
  rw [h1, h2]
  rfl
@[simp] theorem opEq_int : opEq (.int i) (.int j) = some (.sh (.bool (decide (i = j)))) := by
  rw [opEq_of rfl rfl]
  simp only [PyData.eqv]
  congr 3
@[simp] theorem opEq_bool : opEq (.bool x) (.bool y) = some (.sh (.bool (x == y))) := by
  rw [opEq_of rfl rfl]
  simp [PyData.eqv]
@[simp] theorem opEq_nn : opEq .none .none = some (.sh (.bool true)) := by
  rw [opEq_of rfl rfl]
  simp [PyData.eqv]
@[simp] theorem opEq_ni : opEq .none (.int i) = some (.sh (.bool false)) := by
  rw [opEq_of rfl rfl]
  simp [PyData.eqv]
@[simp] theorem opEq_in : opEq (.int i) .none = some (.sh (.bool false)) := by
  rw [opEq_of rfl rfl]
  simp [PyData.eqv]
@[simp] theorem opNe_int : opNe (.int i) (.int j) = some (.sh (.bool (!decide (i = j)))) := by
  rw [opNe_of rfl rfl]
  simp only [PyData.eqv]
  congr 3
@[simp] theorem opNe_bool : opNe (.bool x) (.bool y) = some (.sh (.bool (x != y))) := by
  rw [opNe_of rfl rfl]
  simp [PyData.eqv, bne]
@[simp] theorem opIs_none : opIs d .none = some (.sh (.bool (isNone d))) := by cases d <;> rfl
@[simp] theorem opIsNot_none : opIsNot d .none = some (.sh (.bool (!isNone d))) := by cases d <;> rfl
@[simp] theorem opIs_bool : opIs (.bool x) (.bool y) = some (.sh (.bool (x == y))) := rfl
@[simp] theorem opIsNot_bool : opIsNot (.bool x) (.bool y) = some (.sh (.bool (!(x == y)))) := rfl
@[simp] theorem isNone_int : isNone (.int i) = false := rfl
@[simp] theorem isNone_none : isNone .none = true := rfl
@[simp] theorem isNone_bool : isNone (.bool x) = false := rfl
@[simp] theorem isNone_tup : isNone (.tuple a) = false := rfl
@[simp] theorem isNone_list : isNone (.list a) = false := rfl
@[simp] theorem isNone_str : isNone (.str s) = false := rfl
@[simp] theorem opLt_int : opLt (.int i) (.int j) = some (.sh (.bool (decide (i < j)))) := rfl
@[simp] theorem opLe_int : opLe (.int i) (.int j) = some (.sh (.bool (decide (i ≤ j)))) := rfl
@[simp] theorem opGt_int : opGt (.int i) (.int j) = some (.sh (.bool (decide (j < i)))) := rfl
@[simp] theorem opGe_int : opGe (.int i) (.int j) = some (.sh (.bool (decide (j ≤ i)))) := rfl
@[simp] theorem opIx_list : opIx (.list a) (.int i) = (atI a i).map T.sh := rfl
@[simp] theorem opIx_tup : opIx (.tuple a) (.int i) = (atI a i).map T.sh := rfl
@[simp] theorem opSl_list {lo hi : Option Int} : opSl (.list a) lo hi = some (.lst ((cutA a lo hi).map T.sh)) := rfl
@[simp] theorem opSl_tup {lo hi : Option Int} : opSl (.tuple a) lo hi = some (.sh (.tuple (cutA a lo hi))) := rfl
@[simp] theorem opNeg_int : opNeg (.int i) = some (.sh (.int (-i))) := rfl
@[simp] theorem bLen_list : bLen [.list a] = some (.sh (.int a.length)) := rfl
@[simp] theorem bLen_tup : bLen [.tuple a] = some (.sh (.int a.length)) := rfl
@[simp] theorem bInt_int : bInt [.int i] = some (.sh (.int i)) := rfl
@[simp] theorem bInt_bool : bInt [.bool x] = some (.sh (.int (if x then 1 else 0))) := rfl
@[simp] theorem bAbs_int : bAbs [.int i] = some (.sh (.int (if i < 0 then -i else i))) := rfl
@[simp] theorem bMin_int : bMin [.int i, .int j] = some (.sh (.int (if j < i then j else i))) := rfl
@[simp] theorem bMax_int : bMax [.int i, .int j] = some (.sh (.int (if j > i then j else i))) := rfl
@[simp] theorem bTuple_list : bTuple [.list a] = some (.sh (.tuple a)) := rfl
@[simp] theorem bTuple_tup : bTuple [.tuple a] = some (.sh (.tuple a)) := rfl
@[simp] theorem bList_list : bList [.list a] = some (.lst (a.map T.sh)) := rfl
@[simp] theorem bList_tup : bList [.tuple a] = some (.lst (a.map T.sh)) := rfl
@[simp] theorem bSum_ints {ns : List Int} : bSum [.list (ns.map PyData.int)] = some (.sh (.int ns.sum)) := by simp [bSum]
@[simp] theorem bAll_bools {bs : List Bool} : bAll [.list (bs.map PyData.bool)] = some (.sh (.bool (bs.all id))) := by simp [bAll]
@[simp] theorem bAny_bools {bs : List Bool} : bAny [.list (bs.map PyData.bool)] = some (.sh (.bool (bs.any id))) := by simp [bAny]
@[simp] theorem vals_map_sh {α : Type} {l : List α} {g : α → PyData} : T.vals (l.map fun x => T.sh (g x)) = l.map g := by
  induction l with
  | nil => rfl
  | cons x l ih => simp [T.vals, ih]
@[simp] theorem vals_map_comp {α : Type} {l : List α} {g : α → PyData} : T.vals (l.map (T.sh ∘ g)) = l.map g := vals_map_sh
@[simp] theorem filter_tt {α : Type} {l : List α} : l.filter (fun _ => true) = l := List.filter_eq_self.mpr fun _ _ => rfl
@[simp] theorem shDs_map_sh {α : Type} {l : List α} {g : α → PyData} : shDs (l.map fun x => T.sh (g x)) = some (l.map g) := by
  induction l with
  | nil => rfl
  | cons x l ih => simp [shDs, shD, ih]
theorem ints_map' {α : Type} {l : List α} {g : α → Int} : intsOf (l.map fun x => PyData.int (g x)) = some (l.map g) := by
  induction l with
  | nil => rfl
  | cons x l ih => simp [intsOf, ih]
theorem bools_map' {α : Type} {l : List α} {g : α → Bool} : boolsOf (l.map fun x => PyData.bool (g x)) = some (l.map g) := by
  induction l with
  | nil => rfl
  | cons x l ih => simp [boolsOf, ih]
@[simp] theorem bSum_map {α : Type} {l : List α} {g : α → Int} : bSum [.list (l.map fun x => PyData.int (g x))] = some (.sh (.int (l.map g).sum)) := by simp [bSum, ints_map']
@[simp] theorem bAll_map {α : Type} {l : List α} {g : α → Bool} : bAll [.list (l.map fun x => PyData.bool (g x))] = some (.sh (.bool (l.all g))) := by simp [bAll, bools_map']
@[simp] theorem bAny_map {α : Type} {l : List α} {g : α → Bool} : bAny [.list (l.map fun x => PyData.bool (g x))] = some (.sh (.bool (l.any g))) := by simp [bAny, bools_map']
theorem bSorted_of {ds : List PyData} (h : sortable ds = true) : bSorted [.list ds] = some (.lst ((sortD ds).map T.sh)) := if_pos h
@[simp] theorem mAppend_of {us : List T} {t : T} (h : us.length < 16777216) : mAppend us t = some (us ++ [t], .sh .none) := by
  unfold mAppend line
  rw [if_pos (decide_eq_true h)]
@[simp] theorem mExtend_of {us ts : List T} (h : us.length + ts.length < 16777216) : mExtend us (.lst ts) = some (us ++ ts, .sh .none) := by
  unfold mExtend line
  simp only [decide_eq_true h, if_pos]
theorem atI_ok {ds : List PyData} {a : Int} (h0 : 0 ≤ a) (h1 : a < ds.length) : atI ds a = ds[a.toNat]? := by
  unfold atI ixN
  rw [if_pos h0, if_pos h1]
  rfl
theorem atI_of {α : Type} {ds : List α} {k : Nat} {v : α} (h : ds[k]? = some v) : atI ds (k : Int) = some v := atI_nat h
@[simp] theorem atI_0 {α : Type} {a : α} {l : List α} : atI (a :: l) 0 = some a := atI_nat (j := 0) rfl
@[simp] theorem atI_1 {α : Type} {a b : α} {l : List α} : atI (a :: b :: l) 1 = some b := atI_nat (j := 1) rfl
@[simp] theorem atI_2 {α : Type} {a b c : α} {l : List α} : atI (a :: b :: c :: l) 2 = some c := atI_nat (j := 2) rfl
@[simp] theorem atI_3 {α : Type} {a b c d : α} {l : List α} : atI (a :: b :: c :: d :: l) 3 = some d := atI_nat (j := 3) rfl
@[simp] theorem atI_4 {α : Type} {a b c d e : α} {l : List α} : atI (a :: b :: c :: d :: e :: l) 4 = some e := atI_nat (j := 4) rfl
@[simp] theorem ixN_0 {n : Nat} : ixN (n + 1) 0 = some 0 := by simp [ixN]
@[simp] theorem ixN_5 : ixN 5 0 = some 0 ∧ ixN 5 1 = some 1 ∧ ixN 5 2 = some 2 ∧ ixN 5 3 = some 3 ∧ ixN 5 4 = some 4 := by decide
@[simp] theorem fits_ok {n : Nat} (h : n ≤ 1000) : fits n = true := decide_eq_true h
theorem rg62_of {i : Int} (h : -1000000000 ≤ i) (h2 : i ≤ 1000000000) : rg62 i = true := by
  unfold rg62
  rw [decide_eq_true h, decide_eq_true h2]
  rfl
@[simp] theorem rg62_nat {n : Nat} (h : n ≤ 1000000) : rg62 (n : Int) = true := rg62_of (by omega) (by omega)
end
end Pv
set_option Elab.async false
set_option linter.all false
set_option maxRecDepth 100000
set_option maxHeartbeats 4000000
namespace Pv
open PySem L2
theorem sSeq_is {f g : FS} {η : Env} {P : Fl × Env → Prop} (h : (f η).Is fun p => match p.1 with
    | .nx => (g p.2).Is P
    | _ => P p) : (sSeq f g η).Is P := by
  obtain ⟨⟨fl, η1⟩, e, hp⟩ := h
  unfold sSeq
  rw [e]
  simp only [Rs.bind_ok]
  cases fl with
  | nx => exact hp
  | ret t => exact ⟨_, rfl, hp⟩
  | bk => exact ⟨_, rfl, hp⟩
  | ct => exact ⟨_, rfl, hp⟩
theorem sSeq_nx {f g : FS} {η η1 : Env} {P : Fl × Env → Prop} (h : f η = .ok (.nx, η1)) (k : (g η1).Is P) : (sSeq f g η).Is P := sSeq_is ⟨_, h, k⟩
/-! ### the hand that 18 laws draw from -/
def handT (cells : List Int) (a b c d : Int) : T := .lst [.sh (.list (cells.map PyData.int)), .sh (.int a), .sh (.int b), .sh (.int c), .sh (.int d)]
def Hand (t : T) : Prop := ∃ cells a b c d, t = handT cells a b c d ∧ (∀ x ∈ cells, 0 ≤ x) ∧ 0 ≤ a ∧ 0 ≤ b
def drawB : FS := (sSeq (sIf (bAnd (bT (eBin opEq (eBinL' opIx 0 (eC (.int 2))) (eC (.int 0)))) (bT (eBin opLt (eBinL' opIx 0 (eC (.int 1))) (eCall bLen (aCons (eBinL' opIx 0 (eC (.int 0))) aNil))))) (sSeq (sAsg (eBin opIx (eBinL' opIx 0 (eC (.int 0))) (eBinL' opIx 0 (eC (.int 1)))) (gN 2)) (sSeq (sAsg (eBin opAdd (eBinL' opIx 0 (eC (.int 1))) (eC (.int 1))) (gSub 0 (eC (.int 1)))) (sSeq (sAsg (eBin opMod (eCall bInt (aCons (eBin opAdd (eBinR opAdd (eBin opMul (eBinL' opIx 0 (eC (.int 3))) (eC (.int 48271))) 2) (eC (.int 31))) aNil)) (eC (.int 2147483647))) (gSub 0 (eC (.int 3)))) (sIf (bT (eBinL' opGe 2 (eBin opPow (eC (.int 10)) (eC (.int 18))))) (sAsg (eV 2) (gSub 0 (eC (.int 2)))) sNil)))) sNil) (sSeq (sIf (bT (eBin opGt (eBinL' opIx 0 (eC (.int 2))) (eC (.int 0)))) (sSeq (sAsg (eBinR opMod (eCall bInt (aCons (eBinL' opIx 0 (eC (.int 2))) aNil)) 1) (gN 3)) (sSeq (sAsg (eBinR opFdiv (eBinL' opIx 0 (eC (.int 2))) 1) (gSub 0 (eC (.int 2)))) (sRetV 3))) sNil) (sSeq (sAsg (eBin opAdd (eBinL' opIx 0 (eC (.int 4))) (eC (.int 1))) (gSub 0 (eC (.int 4)))) (sSeq (sAsg (eBin opMod (eCall bInt (aCons (eBin opMul (eCall bInt (aCons (eBin opAdd (eBinL' opIx 0 (eC (.int 3))) (eBin opMul (eC (.int 6151)) (eBinL' opIx 0 (eC (.int 4))))) aNil)) (eC (.int 40692))) aNil)) (eC (.int 2147483399))) (gN 4)) (sSeq (sAsg (eBin opMod (eCall bInt (aCons (eBinL' opMul 4 (eBin opAdd (eBinL' opFdiv 4 (eC (.int 1223))) (eC (.int 52027)))) aNil)) (eC (.int 2147483629))) (gN 4)) (sSeq (sAsg (eBin opMod (eCall bInt (aCons (eBinL' opMul 4 (eBin opAdd (eBinL' opFdiv 4 (eC (.int 2671))) (eC (.int 69621)))) aNil)) (eC (.int 2147483647))) (gN 4)) (sRet (eBinR opMod (eCall bInt (aCons (eBinL' opFdiv 4 (eC (.int 32))) aNil)) 1))))))))
def drawB1 : FS := (sIf (bAnd (bT (eBin opEq (eBinL' opIx 0 (eC (.int 2))) (eC (.int 0)))) (bT (eBin opLt (eBinL' opIx 0 (eC (.int 1))) (eCall bLen (aCons (eBinL' opIx 0 (eC (.int 0))) aNil))))) (sSeq (sAsg (eBin opIx (eBinL' opIx 0 (eC (.int 0))) (eBinL' opIx 0 (eC (.int 1)))) (gN 2)) (sSeq (sAsg (eBin opAdd (eBinL' opIx 0 (eC (.int 1))) (eC (.int 1))) (gSub 0 (eC (.int 1)))) (sSeq (sAsg (eBin opMod (eCall bInt (aCons (eBin opAdd (eBinR opAdd (eBin opMul (eBinL' opIx 0 (eC (.int 3))) (eC (.int 48271))) 2) (eC (.int 31))) aNil)) (eC (.int 2147483647))) (gSub 0 (eC (.int 3)))) (sIf (bT (eBinL' opGe 2 (eBin opPow (eC (.int 10)) (eC (.int 18))))) (sAsg (eV 2) (gSub 0 (eC (.int 2)))) sNil)))) sNil)
def drawB2 : FS := (sIf (bT (eBin opGt (eBinL' opIx 0 (eC (.int 2))) (eC (.int 0)))) (sSeq (sAsg (eBinR opMod (eCall bInt (aCons (eBinL' opIx 0 (eC (.int 2))) aNil)) 1) (gN 3)) (sSeq (sAsg (eBinR opFdiv (eBinL' opIx 0 (eC (.int 2))) 1) (gSub 0 (eC (.int 2)))) (sRetV 3))) sNil)
def drawB3 : FS := (sSeq (sAsg (eBin opAdd (eBinL' opIx 0 (eC (.int 4))) (eC (.int 1))) (gSub 0 (eC (.int 4)))) (sSeq (sAsg (eBin opMod (eCall bInt (aCons (eBin opMul (eCall bInt (aCons (eBin opAdd (eBinL' opIx 0 (eC (.int 3))) (eBin opMul (eC (.int 6151)) (eBinL' opIx 0 (eC (.int 4))))) aNil)) (eC (.int 40692))) aNil)) (eC (.int 2147483399))) (gN 4)) (sSeq (sAsg (eBin opMod (eCall bInt (aCons (eBinL' opMul 4 (eBin opAdd (eBinL' opFdiv 4 (eC (.int 1223))) (eC (.int 52027)))) aNil)) (eC (.int 2147483629))) (gN 4)) (sSeq (sAsg (eBin opMod (eCall bInt (aCons (eBinL' opMul 4 (eBin opAdd (eBinL' opFdiv 4 (eC (.int 2671))) (eC (.int 69621)))) aNil)) (eC (.int 2147483647))) (gN 4)) (sRet (eBinR opMod (eCall bInt (aCons (eBinL' opFdiv 4 (eC (.int 32))) aNil)) 1))))))
theorem drawB_eq : drawB = sSeq drawB1 (sSeq drawB2 drawB3) := rfl
theorem drawB1_ok {t : T} {many : Int} (h : Hand t) : ∃ t' x, Hand t' ∧ drawB1 [some t, some (.sh (.int many)), none, none, none] = .ok (.nx, [some t', some (.sh (.int many)), x, none, none]) := by
  obtain ⟨cells, a, b, c, d, rfl, hc, ha, hb⟩ := h
  unfold drawB1
  by_cases h1 : b = 0 ∧ a < cells.length
  · have hat : atI (cells.map PyData.int) a = some (.int (cells[a.toNat]'(by omega))) := by
      rw [atI_ok ha (by simpa using h1.2)]
      simp
    have hx : 0 ≤ cells[a.toNat]'(by omega) := hc _ (List.getElem_mem _)
    generalize cells[a.toNat]'(by omega) = x at hat hx
    obtain ⟨rfl, h1⟩ := h1
    by_cases h2 : (1000000000000000000 : Int) ≤ x
    · refine ⟨handT cells (a + 1) x ((c * 48271 + x + 31) % 2147483647) d, some (.sh (.int x)), ⟨_, _, _, _, _, rfl, hc, by omega, hx⟩, ?_⟩
      simp [handT, h1, hat, opPow_int, h2]
    · refine ⟨handT cells (a + 1) 0 ((c * 48271 + x + 31) % 2147483647) d, some (.sh (.int x)), ⟨_, _, _, _, _, rfl, hc, by omega, by omega⟩, ?_⟩
      simp [handT, h1, hat, opPow_int, h2]
  · refine ⟨handT cells a b c d, none, ⟨_, _, _, _, _, rfl, hc, ha, hb⟩, ?_⟩
    by_cases h2 : b = 0
    · have h3 : ¬ a < cells.length := fun z => h1 ⟨h2, z⟩
      simp [handT, h2, h3]
    · simp [handT, h2]
theorem drawB2_ok {t : T} {many : Int} {x : Option T} (hm : 1 ≤ many) (hm2 : many < 18446744073709551616) (h : Hand t) : (drawB2 [some t, some (.sh (.int many)), x, none, none]).Is fun p => (p.1 = .nx ∧ p.2 = [some t, some (.sh (.int many)), x, none, none]) ∨ ∃ t' f y, Hand t' ∧ 0 ≤ f ∧ f < many ∧ p = (.ret (.sh (.int f)), [some t', some (.sh (.int many)), x, y, none]) := by
  obtain ⟨cells, a, b, c, d, rfl, hc, ha, hb⟩ := h
  unfold drawB2
  by_cases h1 : 0 < b
  · refine ⟨(.ret (.sh (.int (b % many))), [some (handT cells a (b / many) c d), some (.sh (.int many)), x, none, none]), ?_, .inr ⟨_, _, none, ⟨_, _, _, _, _, rfl, hc, ha, Int.ediv_nonneg hb (by omega)⟩, Int.emod_nonneg _ (by omega), Int.emod_lt_of_pos _ (by omega), rfl⟩⟩
    simp [handT, h1, opMod_int (show 0 < many by omega), opFdiv_int (show 0 < many by omega) hm2]
  · refine ⟨(.nx, [some (handT cells a b c d), some (.sh (.int many)), x, none, none]), ?_, .inl ⟨rfl, rfl⟩⟩
    simp [handT, h1]
theorem drawB3_ok {t : T} {many : Int} {x : Option T} (hm : 1 ≤ many) (h : Hand t) : (drawB3 [some t, some (.sh (.int many)), x, none, none]).Is fun p => ∃ t' f y, Hand t' ∧ 0 ≤ f ∧ f < many ∧ p = (.ret (.sh (.int f)), [some t', some (.sh (.int many)), x, none, y]) := by
  obtain ⟨cells, a, b, c, d, rfl, hc, ha, hb⟩ := h
  have st : ∀ m : Int, 0 ≤ m → m < 2147483648 → mulFits m (m / 1223 + 52027) = true ∧ mulFits m (m / 2671 + 69621) = true := fun m h1 h2 => ⟨mulFits_l (by omega), mulFits_l (by omega)⟩
  have n1 := Int.emod_nonneg ((c + 6151 * (d + 1)) * 40692) (show (2147483399 : Int) ≠ 0 by decide)
  have n2 := Int.emod_lt_of_pos ((c + 6151 * (d + 1)) * 40692) (show (0 : Int) < 2147483399 by decide)
  have e1 := (st _ n1 (by omega)).1
  have hR : ∀ m1 : Int, m1 = (c + 6151 * (d + 1)) * 40692 % 2147483399 → ∀ m2 : Int, m2 = m1 * (m1 / 1223 + 52027) % 2147483629 → ∀ m3 : Int, m3 = m2 * (m2 / 2671 + 69621) % 2147483647 →
      drawB3 [some (handT cells a b c d), some (.sh (.int many)), x, none, none] = .ok (.ret (.sh (.int (m3 / 32 % many))), [some (handT cells a b c (d + 1)), some (.sh (.int many)), x, none, some (.sh (.int m3))]) := by
    intro m1 h1 m2 h2 m3 h3
    have e1 : mulFits m1 (m1 / 1223 + 52027) = true := (st m1 (by omega) (by omega)).1
    have b2 : 0 ≤ m2 ∧ m2 < 2147483629 := by
      rw [h2]
      exact ⟨Int.emod_nonneg _ (by decide), Int.emod_lt_of_pos _ (by decide)⟩
    have e2 : mulFits m2 (m2 / 2671 + 69621) = true := (st m2 b2.1 (by omega)).2
    unfold drawB3
    simp [handT, opMod_int (show 0 < many by omega), ← h1, opMul_int e1, ← h2, opMul_int e2, ← h3]
  refine ⟨_, hR _ rfl _ rfl _ rfl, _, _, _, ⟨_, _, _, _, _, rfl, hc, ha, hb⟩, Int.emod_nonneg _ (by omega), Int.emod_lt_of_pos _ (by omega), rfl⟩
/-- a draw gives a figure below many -/
theorem drawB_ok {t : T} {many : Int} (hm : 1 ≤ many) (hm2 : many < 18446744073709551616) (h : Hand t) : ∃ f t', gIO 5 2 drawB t [.int many] = some (.sh (.int f), t') ∧ Hand t' ∧ 0 ≤ f ∧ f < many := by
  have : ∃ u t', gIO 5 2 drawB t [.int many] = some (u, t') ∧ ∃ f, u = .sh (.int f) ∧ Hand t' ∧ 0 ≤ f ∧ f < many := by
    refine gIO_of (P := fun u t' => ∃ f, u = .sh (.int f) ∧ Hand t' ∧ 0 ≤ f ∧ f < many) rfl ?_
    rw [drawB_eq]
    obtain ⟨t1, x, h1, e1⟩ := drawB1_ok (many := many) h
    refine sSeq_nx e1 (sSeq_is ((drawB2_ok hm hm2 h1).mono fun p hp => ?_))
    rcases hp with ⟨e, e2⟩ | ⟨t', f, y, h2, f0, f1, rfl⟩
    · rw [e, e2]
      refine (drawB3_ok hm h1).mono fun p hp => ?_
      obtain ⟨t', f, y, h2, f0, f1, rfl⟩ := hp
      exact ⟨t', rfl, f, rfl, h2, f0, f1⟩
    · exact ⟨t', rfl, f, rfl, h2, f0, f1⟩
  obtain ⟨u, t', e, f, rfl, r⟩ := this
  exact ⟨f, t', e, r⟩
/-! ### the hand, one of the things -/
def handB : FS := (sSeq (sAsg (eComp [2] (iE (eSlV 0 oNone (oSome (eC (.int 63))))) (gN 2) bTrue (eCall bAbs (aCons (eCallV bInt 2) aNil))) (gN 1)) (sRet (eLst (aCons (eV 1) (aCons (eC (.int 0)) (aCons (eC (.int 0)) (aCons (eBin opAdd (eC (.int 97)) (eBin opMul (eC (.int 5)) (eCallV bLen 1))) (aCons (eC (.int 0)) aNil))))))))
theorem handB_ok {ns : List Int} (h : ns.length ≤ 63) : ∃ t, (gP 3 1 handB [.list (ns.map PyData.int)] = some t) ∧ Hand t := by
  have hcut : cutA (ns.map PyData.int) none (some 63) = ns.map PyData.int := by
    unfold cutA
    rw [show HT.sIx (ns.map PyData.int).length 0 none = 0 by rw [HT.sIx_none]]
    rw [show HT.sIx (ns.map PyData.int).length (ns.map PyData.int).length (some 63) = min 63 (ns.map PyData.int).length from HT.sIx_nat _ _ 63]
    simp only [List.length_map, List.drop_zero, Nat.sub_zero]
    rw [Nat.min_eq_right h]
    exact List.take_of_length_le (by simp)
  refine ⟨handT (ns.map fun x => if x < 0 then -x else x) 0 0 (97 + 5 * ns.length) 0, gP_eq rfl (η := [some (.sh (.list (ns.map PyData.int))), some (.sh (.list (ns.map fun x => PyData.int (if x < 0 then -x else x)))), none]) ?_, ⟨_, _, _, _, _, rfl, fun x hx => ?_, by omega, by omega⟩⟩
  · unfold handB
    have hc : eComp [2] (iE (eSlV 0 oNone (oSome (eC (.int 63))))) (gN 2) bTrue (eCall bAbs (aCons (eCallV bInt 2) aNil)) [some (.sh (.list (ns.map PyData.int))), none, none] = .ok (.lst (ns.map fun x => .sh (.int (if x < 0 then -x else x))), [some (.sh (.list (ns.map PyData.int))), none, none]) :=
      eComp_map ns PyData.int _ (by simp [hcut]) (by omega) (by simp) (by simp) fun x hx => ⟨_, [some (.sh (.list (ns.map PyData.int))), none, some (.sh (.int x))], rfl, by simp, by simp, by simp⟩
    simp [hc, handT]
  · obtain ⟨y, _, rfl⟩ := List.mem_map.mp hx
    split <;> omega
def someB : FS := (sRet (eBinL' opIx 1 (eDefIO (gIO 5 2 drawB) 0 (aCons (eCallV bLen 1) aNil))))
theorem someB_ok {t : T} {d : PyData} {ds : List PyData} (hd : d = .list ds ∨ d = .tuple ds) (h1 : ds ≠ []) (h2 : ds.length < 18446744073709551616) (h : Hand t) : ∃ x t', gIO 2 2 someB t [d] = some (.sh x, t') ∧ Hand t' ∧ x ∈ ds := by
  have hl : 0 < ds.length := List.length_pos_iff.mpr h1
  obtain ⟨f, t', e, h', f0, f1⟩ := drawB_ok (many := ds.length) (by omega) (by omega) h
  have hx : ∃ x, atI ds f = some x ∧ x ∈ ds := by
    refine ⟨ds[f.toNat]'(by omega), ?_, List.getElem_mem _⟩
    rw [atI_ok f0 f1]
    simp
  obtain ⟨x, hx, hm⟩ := hx
  have : ∃ u t', gIO 2 2 someB t [d] = some (u, t') ∧ ∃ x, u = .sh x ∧ Hand t' ∧ x ∈ ds := by
    refine gIO_of (P := fun u t' => ∃ x, u = .sh x ∧ Hand t' ∧ x ∈ ds) rfl ?_
    refine ⟨(.ret (.sh x), [some t', some (.sh d)]), ?_, t', rfl, x, rfl, h', hm⟩
    unfold someB
    rcases hd with rfl | rfl <;> (obtain ⟨cells, a, b, c, d, rfl, _⟩ := h; simp [handT] at e ⊢; simp [e, hx])
  obtain ⟨u, t', e, x, rfl, r⟩ := this
  exact ⟨x, t', e, r⟩
/-! ### the same data -/
def isB (Gs : List PyData → Option T) : FS := (sSeq (sIf (bTru (eIsV [.tuple, .list] 1)) (sSeq (sIf (bOr (bT (eBin opNe (eIsV [.tuple] 0) (eIsV [.tuple] 1))) (bNot (bTru (eIsV [.tuple, .list] 0)))) (sRet (eC (.bool false))) sNil) (sRet (eAnd (eBin opEq (eCallV bLen 0) (eCallV bLen 1)) (eCall bAll (aCons (eComp [2, 3] (iZ (eV 0) (eV 1)) (gTupD 2 (gsCons (gN 2) (gsCons (gN 3) gsNil))) bTrue (eDef Gs (aCons (eV 2) (aCons (eV 3) aNil)))) aNil))))) sNil) (sSeq (sIf (bOr (bTru (eIsV [.str] 1)) (bT (eBinL' opIs 1 (eC .none)))) (sRet (eAnd (eBin opEq (eIsV [.str] 0) (eIsV [.str] 1)) (eBinLR opEq 0 1))) sNil) (sRet (eAnd (eIsV [.int] 0) (eAnd (eBin opEq (eIsV [.bool] 0) (eIsV [.bool] 1)) (eBinLR opEq 0 1))))))
def isG : Nat → List PyData → Option T
  | 0 => fun _ => none
  | m + 1 => gP 4 2 (isB (isG m))
mutual
/-- data without dicts; d: to which depth -/
def plain : Nat → PyData → Bool
  | _, .none => true
  | _, .bool _ => true
  | _, .int _ => true
  | _, .str s => PyData.canLay0 (.str s)
  | n + 1, .list ds => plains n ds && decide (ds.length < 16777216)
  | n + 1, .tuple ds => plains n ds && decide (ds.length < 16777216)
  | _, _ => false
def plains : Nat → List PyData → Bool
  | _, [] => true
  | n, d :: ds => plain n d && plains n ds
end
theorem plains_mem {n : Nat} : ∀ {ds : List PyData}, plains n ds = true → ∀ d ∈ ds, plain n d = true
  | d :: ds, h, x, hx => by
    simp only [plains, Bool.and_eq_true] at h
    rcases List.mem_cons.mp hx with rfl | hx
    · exact h.1
    · exact plains_mem h.2 x hx
theorem plains_of {n : Nat} : ∀ {ds : List PyData}, (∀ d ∈ ds, plain n d = true) → plains n ds = true
  | [], _ => by simp [plains]
  | d :: ds, h => by
    simp only [plains, Bool.and_eq_true]
    exact ⟨h d List.mem_cons_self, plains_of fun x hx => h x (List.mem_cons_of_mem _ hx)⟩
theorem zipD_self : ∀ ds : List PyData, zipD ds ds = ds.map fun x => .tuple [x, x]
  | [] => rfl
  | d :: ds => by
    simp only [zipD, List.map_cons, zipD_self ds]
theorem isG_self : ∀ {n m : Nat} {d : PyData}, plain n d = true → n < m → isG m [d, d] = some (.sh (.bool true))
  | n, 0, d, _, h => absurd h (Nat.not_lt_zero _)
  | n, m + 1, d, hp, hm => by
    refine gP_eq rfl (η := [some (.sh d), some (.sh d), none, none]) ?_
    unfold isB
    have seq : ∀ (ds : List PyData) (n' : Nat), n = n' + 1 → plains n' ds = true → ds.length < 16777216 → d = .list ds ∨ d = .tuple ds →
        eComp [2, 3] (iZ (eV 0) (eV 1)) (gTupD 2 (gsCons (gN 2) (gsCons (gN 3) gsNil))) bTrue (eDef (isG m) (aCons (eV 2) (aCons (eV 3) aNil))) [some (.sh d), some (.sh d), none, none] = .ok (.lst (ds.map fun _ => .sh (.bool true)), [some (.sh d), some (.sh d), none, none]) := by
      intro ds n' hn h1 h2 hd
      refine eComp_map ds (fun x => .tuple [x, x]) _ (by rcases hd with rfl | rfl <;> simp [zipD_self]) h2 (by simp) (by simp) fun y hy => ?_
      have ih := isG_self (m := m) (plains_mem h1 y hy) (by omega)
      exact ⟨[some (.sh d), some (.sh d), some (.sh y), some (.sh y)], [some (.sh d), some (.sh d), some (.sh y), some (.sh y)], by simp, by simp [ih], by simp, by simp⟩
    cases d with
    | none => simp
    | bool b => simp
    | int i => simp
    | str s =>
      have h1 : shp (.str s) = true := by
        have hp : PyData.canLay0 (.str s) = true := by
          cases n <;> exact hp
        unfold shp SeqAt.shaped
        rw [hp]
        rfl
      simp [opEq_of h1 h1, PyData.eqv]
    | list ds =>
      cases n with
      | zero => simp [plain] at hp
      | succ n =>
        simp only [plain, Bool.and_eq_true, decide_eq_true_eq] at hp
        simp [seq ds n rfl hp.1 hp.2 (.inl rfl)]
    | tuple ds =>
      cases n with
      | zero => simp [plain] at hp
      | succ n =>
        simp only [plain, Bool.and_eq_true, decide_eq_true_eq] at hp
        simp [seq ds n rfl hp.1 hp.2 (.inr rfl)]
    | dict b => cases n <;> simp [plain] at hp
end Pv
set_option Elab.async false
set_option linter.all false
set_option maxRecDepth 100000
set_option maxHeartbeats 4000000
/-! the hand that 28 laws draw from; three numbers differ -/
namespace Pv
open PySem L2
section
variable (c2 c3 c4 : Int)
def drawA1 : FS := (sIf (bAnd (bT (eBin opEq (eBinL' opIx 0 (eC (.int 2))) (eC (.int 0)))) (bT (eBin opLt (eBinL' opIx 0 (eC (.int 1))) (eCall bLen (aCons (eBinL' opIx 0 (eC (.int 0))) aNil))))) (sSeq (sAsg (eBin opIx (eBinL' opIx 0 (eC (.int 0))) (eBinL' opIx 0 (eC (.int 1)))) (gN 2)) (sSeq (sAsg (eBin opAdd (eBinL' opIx 0 (eC (.int 1))) (eC (.int 1))) (gSub 0 (eC (.int 1)))) (sSeq (sAsg (eBin opMod (eCall bInt (aCons (eBin opAdd (eBin opAdd (eBin opMul (eBinL' opIx 0 (eC (.int 3))) (eC (.int 69621))) (eBinL' opMul 2 (eC (.int c2)))) (eC (.int c3))) aNil)) (eC (.int 2147483629))) (gSub 0 (eC (.int 3)))) (sIf (bT (eBinL' opGe 2 (eBin opPow (eC (.int 10)) (eC (.int 18))))) (sAsg (eV 2) (gSub 0 (eC (.int 2)))) sNil)))) sNil)
def drawA2 : FS := (sIf (bT (eBin opGt (eBinL' opIx 0 (eC (.int 2))) (eC (.int 0)))) (sSeq (sAsg (eBinR opMod (eCall bInt (aCons (eBinL' opIx 0 (eC (.int 2))) aNil)) 1) (gN 3)) (sSeq (sAsg (eBinR opFdiv (eBinL' opIx 0 (eC (.int 2))) 1) (gSub 0 (eC (.int 2)))) (sRetV 3))) sNil)
def drawA3 : FS := (sSeq (sAsg (eBin opAdd (eBinL' opIx 0 (eC (.int 4))) (eC (.int 1))) (gSub 0 (eC (.int 4)))) (sSeq (sAsg (eBin opMod (eCall bInt (aCons (eBin opMul (eCall bInt (aCons (eBin opAdd (eBinL' opIx 0 (eC (.int 3))) (eBin opMul (eC (.int 7919)) (eBinL' opIx 0 (eC (.int 4))))) aNil)) (eC (.int c4))) aNil)) (eC (.int 2147483647))) (gN 4)) (sSeq (sAsg (eBin opMod (eCall bInt (aCons (eBinL' opMul 4 (eBin opAdd (eBinL' opFdiv 4 (eC (.int 1009))) (eC (.int 69621)))) aNil)) (eC (.int 2147483647))) (gN 4)) (sSeq (sAsg (eBin opMod (eCall bInt (aCons (eBinL' opMul 4 (eBin opAdd (eBinL' opFdiv 4 (eC (.int 2003))) (eC (.int 40014)))) aNil)) (eC (.int 2147483563))) (gN 4)) (sRet (eBinR opMod (eCall bInt (aCons (eBinL' opFdiv 4 (eC (.int 16))) aNil)) 1))))))
def drawA : FS := sSeq (drawA1 c2 c3) (sSeq drawA2 (drawA3 c4))
end
variable {c2 c3 c4 : Int}
abbrev smallC (c : Int) : Prop := -1000000 < c ∧ c < 1000000
theorem mulC {c : Int} (k : smallC c) (x : Int) : opMul (.int x) (.int c) = some (.sh (.int (x * c))) := opMul_intR (by unfold smallC at k; omega)
theorem mulC' {c : Int} (k : smallC c) (x : Int) : opMul (.int c) (.int x) = some (.sh (.int (c * x))) := opMul_intL (by unfold smallC at k; omega)
theorem drawA1_ok (k2 : smallC c2) {t : T} {many : Int} (h : Hand t) : ∃ t' x, Hand t' ∧ drawA1 c2 c3 [some t, some (.sh (.int many)), none, none, none] = .ok (.nx, [some t', some (.sh (.int many)), x, none, none]) := by
  obtain ⟨cells, a, b, c, d, rfl, hc, ha, hb⟩ := h
  unfold drawA1
  by_cases h1 : b = 0 ∧ a < cells.length
  · have hat : atI (cells.map PyData.int) a = some (.int (cells[a.toNat]'(by omega))) := by
      rw [atI_ok ha (by simpa using h1.2)]
      simp
    have hx : 0 ≤ cells[a.toNat]'(by omega) := hc _ (List.getElem_mem _)
    generalize cells[a.toNat]'(by omega) = x at hat hx
    obtain ⟨rfl, h1⟩ := h1
    by_cases h2 : (1000000000000000000 : Int) ≤ x
    · refine ⟨handT cells (a + 1) x ((c * 69621 + x * c2 + c3) % 2147483629) d, some (.sh (.int x)), ⟨_, _, _, _, _, rfl, hc, by omega, hx⟩, ?_⟩
      simp [handT, h1, hat, opPow_int, h2, mulC k2]
    · refine ⟨handT cells (a + 1) 0 ((c * 69621 + x * c2 + c3) % 2147483629) d, some (.sh (.int x)), ⟨_, _, _, _, _, rfl, hc, by omega, by omega⟩, ?_⟩
      simp [handT, h1, hat, opPow_int, h2, mulC k2]
  · refine ⟨handT cells a b c d, none, ⟨_, _, _, _, _, rfl, hc, ha, hb⟩, ?_⟩
    by_cases h2 : b = 0
    · have h3 : ¬ a < cells.length := fun z => h1 ⟨h2, z⟩
      simp [handT, h2, h3]
    · simp [handT, h2]
theorem drawA2_ok {t : T} {many : Int} {x : Option T} (hm : 1 ≤ many) (hm2 : many < 18446744073709551616) (h : Hand t) : (drawA2 [some t, some (.sh (.int many)), x, none, none]).Is fun p => (p.1 = .nx ∧ p.2 = [some t, some (.sh (.int many)), x, none, none]) ∨ ∃ t' f y, Hand t' ∧ 0 ≤ f ∧ f < many ∧ p = (.ret (.sh (.int f)), [some t', some (.sh (.int many)), x, y, none]) := by
  obtain ⟨cells, a, b, c, d, rfl, hc, ha, hb⟩ := h
  unfold drawA2
  by_cases h1 : 0 < b
  · refine ⟨(.ret (.sh (.int (b % many))), [some (handT cells a (b / many) c d), some (.sh (.int many)), x, none, none]), ?_, .inr ⟨_, _, none, ⟨_, _, _, _, _, rfl, hc, ha, Int.ediv_nonneg hb (by omega)⟩, Int.emod_nonneg _ (by omega), Int.emod_lt_of_pos _ (by omega), rfl⟩⟩
    simp [handT, h1, opMod_int (show 0 < many by omega), opFdiv_int (show 0 < many by omega) hm2]
  · refine ⟨(.nx, [some (handT cells a b c d), some (.sh (.int many)), x, none, none]), ?_, .inl ⟨rfl, rfl⟩⟩
    simp [handT, h1]
theorem drawA3_ok (k4 : smallC c4) {t : T} {many : Int} {x : Option T} (hm : 1 ≤ many) (h : Hand t) : (drawA3 c4 [some t, some (.sh (.int many)), x, none, none]).Is fun p => ∃ t' f y, Hand t' ∧ 0 ≤ f ∧ f < many ∧ p = (.ret (.sh (.int f)), [some t', some (.sh (.int many)), x, none, y]) := by
  obtain ⟨cells, a, b, c, d, rfl, hc, ha, hb⟩ := h
  have st : ∀ m : Int, 0 ≤ m → m < 2147483648 → mulFits m (m / 1009 + 69621) = true ∧ mulFits m (m / 2003 + 40014) = true := fun m h1 h2 => ⟨mulFits_l (by omega), mulFits_l (by omega)⟩
  have n1 := Int.emod_nonneg ((c + 7919 * (d + 1)) * c4) (show (2147483647 : Int) ≠ 0 by decide)
  have n2 := Int.emod_lt_of_pos ((c + 7919 * (d + 1)) * c4) (show (0 : Int) < 2147483647 by decide)
  have e1 := (st _ n1 (by omega)).1
  have hR : ∀ m1 : Int, m1 = (c + 7919 * (d + 1)) * c4 % 2147483647 → ∀ m2 : Int, m2 = m1 * (m1 / 1009 + 69621) % 2147483647 → ∀ m3 : Int, m3 = m2 * (m2 / 2003 + 40014) % 2147483563 →
      drawA3 c4 [some (handT cells a b c d), some (.sh (.int many)), x, none, none] = .ok (.ret (.sh (.int (m3 / 16 % many))), [some (handT cells a b c (d + 1)), some (.sh (.int many)), x, none, some (.sh (.int m3))]) := by
    intro m1 h1 m2 h2 m3 h3
    have e1 : mulFits m1 (m1 / 1009 + 69621) = true := (st m1 (by omega) (by omega)).1
    have b2 : 0 ≤ m2 ∧ m2 < 2147483647 := by
      rw [h2]
      exact ⟨Int.emod_nonneg _ (by decide), Int.emod_lt_of_pos _ (by decide)⟩
    have e2 : mulFits m2 (m2 / 2003 + 40014) = true := (st m2 b2.1 (by omega)).2
    unfold drawA3
    simp [handT, opMod_int (show 0 < many by omega), mulC k4, ← h1, opMul_int e1, ← h2, opMul_int e2, ← h3]
  refine ⟨_, hR _ rfl _ rfl _ rfl, _, _, _, ⟨_, _, _, _, _, rfl, hc, ha, hb⟩, Int.emod_nonneg _ (by omega), Int.emod_lt_of_pos _ (by omega), rfl⟩
/-- a draw gives a figure below many -/
theorem drawA_ok (k2 : smallC c2) (k4 : smallC c4) {t : T} {many : Int} (hm : 1 ≤ many) (hm2 : many < 18446744073709551616) (h : Hand t) : ∃ f t', gIO 5 2 (drawA c2 c3 c4) t [.int many] = some (.sh (.int f), t') ∧ Hand t' ∧ 0 ≤ f ∧ f < many := by
  have : ∃ u t', gIO 5 2 (drawA c2 c3 c4) t [.int many] = some (u, t') ∧ ∃ f, u = .sh (.int f) ∧ Hand t' ∧ 0 ≤ f ∧ f < many := by
    refine gIO_of (P := fun u t' => ∃ f, u = .sh (.int f) ∧ Hand t' ∧ 0 ≤ f ∧ f < many) rfl ?_
    obtain ⟨t1, x, h1, e1⟩ := drawA1_ok k2 (many := many) h
    refine sSeq_nx e1 (sSeq_is ((drawA2_ok hm hm2 h1).mono fun p hp => ?_))
    rcases hp with ⟨e, e2⟩ | ⟨t', f, y, h2, f0, f1, rfl⟩
    · rw [e, e2]
      refine (drawA3_ok k4 hm h1).mono fun p hp => ?_
      obtain ⟨t', f, y, h2, f0, f1, rfl⟩ := hp
      exact ⟨t', rfl, f, rfl, h2, f0, f1⟩
    · exact ⟨t', rfl, f, rfl, h2, f0, f1⟩
  obtain ⟨u, t', e, f, rfl, r⟩ := this
  exact ⟨f, t', e, r⟩
/-! ### the hand, one of the things -/
def handA (c d : Int) : FS := (sSeq (sAsg (eComp [2] (iE (eSlV 0 oNone (oSome (eC (.int 63))))) (gN 2) bTrue (eCall bAbs (aCons (eCallV bInt 2) aNil))) (gN 1)) (sRet (eLst (aCons (eV 1) (aCons (eC (.int 0)) (aCons (eC (.int 0)) (aCons (eBin opAdd (eC (.int c)) (eBin opMul (eC (.int d)) (eCallV bLen 1))) (aCons (eC (.int 0)) aNil))))))))
theorem handA_ok {c d : Int} (hd : smallC d) {ns : List Int} (h : ns.length ≤ 63) : ∃ t, (gP 3 1 (handA c d) [.list (ns.map PyData.int)] = some t) ∧ Hand t := by
  have hcut : cutA (ns.map PyData.int) none (some 63) = ns.map PyData.int := by
    unfold cutA
    rw [show HT.sIx (ns.map PyData.int).length 0 none = 0 by rw [HT.sIx_none]]
    rw [show HT.sIx (ns.map PyData.int).length (ns.map PyData.int).length (some 63) = min 63 (ns.map PyData.int).length from HT.sIx_nat _ _ 63]
    simp only [List.length_map, List.drop_zero, Nat.sub_zero]
    rw [Nat.min_eq_right h]
    exact List.take_of_length_le (by simp)
  refine ⟨handT (ns.map fun x => if x < 0 then -x else x) 0 0 (c + d * ns.length) 0, gP_eq rfl (η := [some (.sh (.list (ns.map PyData.int))), some (.sh (.list (ns.map fun x => PyData.int (if x < 0 then -x else x)))), none]) ?_, ⟨_, _, _, _, _, rfl, fun x hx => ?_, by omega, by omega⟩⟩
  · unfold handA
    have hc : eComp [2] (iE (eSlV 0 oNone (oSome (eC (.int 63))))) (gN 2) bTrue (eCall bAbs (aCons (eCallV bInt 2) aNil)) [some (.sh (.list (ns.map PyData.int))), none, none] = .ok (.lst (ns.map fun x => .sh (.int (if x < 0 then -x else x))), [some (.sh (.list (ns.map PyData.int))), none, none]) :=
      eComp_map ns PyData.int _ (by simp [hcut]) (by omega) (by simp) (by simp) fun x hx => ⟨_, [some (.sh (.list (ns.map PyData.int))), none, some (.sh (.int x))], rfl, by simp, by simp, by simp⟩
    simp [hc, handT, mulC' hd]
  · obtain ⟨y, _, rfl⟩ := List.mem_map.mp hx
    split <;> omega
def someA (c2 c3 c4 : Int) : FS := (sRet (eBinL' opIx 1 (eDefIO (gIO 5 2 (drawA c2 c3 c4)) 0 (aCons (eCallV bLen 1) aNil))))
theorem someA_ok (k2 : smallC c2) (k4 : smallC c4) {t : T} {d : PyData} {ds : List PyData} (hd : d = .list ds ∨ d = .tuple ds) (h1 : ds ≠ []) (h2 : ds.length < 18446744073709551616) (h : Hand t) : ∃ x t', gIO 2 2 (someA c2 c3 c4) t [d] = some (.sh x, t') ∧ Hand t' ∧ x ∈ ds := by
  have hl : 0 < ds.length := List.length_pos_iff.mpr h1
  obtain ⟨f, t', e, h', f0, f1⟩ := drawA_ok (c3 := c3) k2 k4 (many := ds.length) (by omega) (by omega) h
  have hx : ∃ x, atI ds f = some x ∧ x ∈ ds := by
    refine ⟨ds[f.toNat]'(by omega), ?_, List.getElem_mem _⟩
    rw [atI_ok f0 f1]
    simp
  obtain ⟨x, hx, hm⟩ := hx
  have : ∃ u t', gIO 2 2 (someA c2 c3 c4) t [d] = some (u, t') ∧ ∃ x, u = .sh x ∧ Hand t' ∧ x ∈ ds := by
    refine gIO_of (P := fun u t' => ∃ x, u = .sh x ∧ Hand t' ∧ x ∈ ds) rfl ?_
    refine ⟨(.ret (.sh x), [some t', some (.sh d)]), ?_, t', rfl, x, rfl, h', hm⟩
    unfold someA
    rcases hd with rfl | rfl <;> (obtain ⟨cells, a, b, c, d, rfl, _⟩ := h; simp [handT] at e ⊢; simp [e, hx])
  obtain ⟨u, t', e, x, rfl, r⟩ := this
  exact ⟨x, t', e, r⟩
end Pv
set_option Elab.async false
set_option linter.all false
set_option maxRecDepth 100000
set_option maxHeartbeats 4000000
namespace Pv
open PySem L2
mutual
theorem plain_lay : ∀ {d : PyData} {n : Nat}, plain n d = true → d.canLay0 = true
  | .none, _, _ => rfl
  | .bool _, _, _ => rfl
  | .int _, _, _ => rfl
  | .str s, n, h => by cases n <;> exact h
  | .list ds, n, h => by
    cases n with
    | zero => simp [plain] at h
    | succ n =>
      simp only [plain, Bool.and_eq_true] at h
      simp only [PyData.canLay0]
      exact plains_lay h.1
  | .tuple ds, n, h => by
    cases n with
    | zero => simp [plain] at h
    | succ n =>
      simp only [plain, Bool.and_eq_true] at h
      simp only [PyData.canLay0]
      exact plains_lay h.1
  | .dict ds, n, h => by cases n <;> simp [plain] at h
theorem plains_lay : ∀ {ds : List PyData} {n : Nat}, plains n ds = true → PyData.canLayAll0 ds = true
  | [], _, _ => rfl
  | d :: ds, n, h => by
    simp only [plains, Bool.and_eq_true] at h
    simp only [PyData.canLayAll0, Bool.and_eq_true]
    exact ⟨plain_lay h.1, plains_lay h.2⟩
end
mutual
theorem plain_depth : ∀ {d : PyData} {n : Nat}, plain n d = true → d.depth ≤ n
  | .none, _, _ => Nat.zero_le _
  | .bool _, _, _ => Nat.zero_le _
  | .int _, _, _ => Nat.zero_le _
  | .str s, n, h => Nat.zero_le _
  | .list ds, n, h => by
    cases n with
    | zero => simp [plain] at h
    | succ n =>
      simp only [plain, Bool.and_eq_true] at h
      simp only [PyData.depth]
      exact Nat.succ_le_succ (plains_depth h.1)
  | .tuple ds, n, h => by
    cases n with
    | zero => simp [plain] at h
    | succ n =>
      simp only [plain, Bool.and_eq_true] at h
      simp only [PyData.depth]
      exact Nat.succ_le_succ (plains_depth h.1)
  | .dict ds, n, h => by cases n <;> simp [plain] at h
theorem plains_depth : ∀ {ds : List PyData} {n : Nat}, plains n ds = true → PyData.depthAll ds ≤ n
  | [], _, _ => Nat.zero_le _
  | d :: ds, n, h => by
    simp only [plains, Bool.and_eq_true] at h
    simp only [PyData.depthAll]
    exact Nat.max_le.mpr ⟨plain_depth h.1, plains_depth h.2⟩
end
theorem plain_shp {d : PyData} {n : Nat} (h : plain n d = true) (hn : n ≤ 64) : shp d = true := by
  unfold shp SeqAt.shaped
  rw [plain_lay h, decide_eq_true (Nat.le_trans (plain_depth h) hn)]
  rfl
theorem plains_shp {ds : List PyData} {n : Nat} (h : plains n ds = true) (hn : n ≤ 63) : shpAll ds = true := by
  unfold shpAll shp SeqAt.shaped
  have h1 : (PyData.list ds).canLay0 = true := by
    simp only [PyData.canLay0]
    exact plains_lay h
  have h2 : (PyData.list ds).depth ≤ 64 := by
    simp only [PyData.depth]
    have := plains_depth h
    omega
  rw [h1, decide_eq_true h2]
  rfl
theorem opIn_tup {d : PyData} {es : List PyData} (h1 : shp d = true) (h2 : shpAll es = true) : opIn d (.tuple es) = some (.sh (.bool (inD d es))) := by
  unfold opIn
  simp only [h1, h2, Bool.and_true, if_pos]
theorem opIn_list {d : PyData} {es : List PyData} (h1 : shp d = true) (h2 : shpAll es = true) : opIn d (.list es) = some (.sh (.bool (inD d es))) := by
  unfold opIn
  simp only [h1, h2, Bool.and_true, if_pos]
theorem opNotIn_tup {d : PyData} {es : List PyData} (h1 : shp d = true) (h2 : shpAll es = true) : opNotIn d (.tuple es) = some (.sh (.bool (!inD d es))) := by
  unfold opNotIn
  simp only [h1, h2, Bool.and_true, if_pos]
theorem opNotIn_list {d : PyData} {es : List PyData} (h1 : shp d = true) (h2 : shpAll es = true) : opNotIn d (.list es) = some (.sh (.bool (!inD d es))) := by
  unfold opNotIn
  simp only [h1, h2, Bool.and_true, if_pos]
theorem inD_map {α : Type} {l : List α} {f : α → PyData} {d : PyData} : inD d (l.map f) = l.any fun x => PyData.eqv (f x) d := by
  unfold inD
  rw [List.any_map]
  rfl
theorem plains_map {α : Type} {l : List α} {f : α → PyData} {n : Nat} (h : ∀ x ∈ l, plain n (f x) = true) : plains n (l.map f) = true := plains_of fun d hd => by
  obtain ⟨x, hx, rfl⟩ := List.mem_map.mp hd
  exact h x hx
theorem plain_tup {ds : List PyData} {n : Nat} (h : plains n ds = true) (hl : ds.length < 16777216) : plain (n + 1) (.tuple ds) = true := by
  simp only [plain, Bool.and_eq_true, decide_eq_true_eq]
  exact ⟨h, hl⟩
theorem plain_list {ds : List PyData} {n : Nat} (h : plains n ds = true) (hl : ds.length < 16777216) : plain (n + 1) (.list ds) = true := by
  simp only [plain, Bool.and_eq_true, decide_eq_true_eq]
  exact ⟨h, hl⟩
@[simp] theorem plain_int {i : Int} {n : Nat} : plain n (.int i) = true := by cases n <;> rfl
@[simp] theorem plain_none {n : Nat} : plain n .none = true := by cases n <;> rfl
@[simp] theorem plain_bool {b : Bool} {n : Nat} : plain n (.bool b) = true := by cases n <;> rfl
theorem eqv_int {i j : Int} : PyData.eqv (.int i) (.int j) = decide (i = j) := by
  simp only [PyData.eqv]
  rfl
theorem eqvAll_ints : ∀ {a b : List Int}, PyData.eqvAll (a.map PyData.int) (b.map PyData.int) = decide (a = b)
  | [], [] => rfl
  | [], _ :: _ => rfl
  | _ :: _, [] => rfl
  | x :: a, y :: b => by
    simp only [List.map_cons, PyData.eqvAll, eqv_int, eqvAll_ints (a := a) (b := b)]
    by_cases h : x = y <;> by_cases h2 : a = b <;> simp [h, h2]
end Pv
set_option Elab.async false
set_option linter.all false
set_option maxRecDepth 100000
set_option maxHeartbeats 4000000
/-! comprehensions with one name, or two, whose item leaves the names as they are: one equation a body -/
namespace Pv
open PySem L2 PyProof.Rows
theorem set_get {η : Env} {k : Nat} (hk : k < η.length) (x : Option T) : (η.set k x).set k (η[k]?.join) = η := by
  rw [List.set_set, List.getElem?_eq_getElem hk]
  exact List.set_getElem_self hk
theorem free1_own {η : Env} {k : Nat} {d : PyData} (hk : k < η.length) : free1 (η.set k (some (.sh d))) k = true := by
  unfold free1
  rw [List.getElem?_set_self hk]
section
variable {α : Type} {k j i : Nat} {fi : FI} {cond : FB} {elt : FE} {η η1 : Env} {d0 : PyData}
theorem back1 (hk : k < η.length) : backE η [k] (wipeE η [k]) = η := set_get hk none
theorem eCompV1_pure (l : List α) (f : α → PyData) (c : α → Bool) (t : α → T) (hp : pk η i = some d0) (hs : seqOf d0 = some (l.map f)) (hl : l.length < 16777216) (hk : k < η.length) (hf : free1 η k = true) (hik : i ≠ k)
    (st : ∀ d, d ∈ l → cond (η.set k (some (.sh (f d)))) = .ok (c d, η.set k (some (.sh (f d)))) ∧ (c d = true → elt (η.set k (some (.sh (f d)))) = .ok (t d, η.set k (some (.sh (f d)))))) :
    eCompV [k] i (gN k) cond elt η = .ok (.lst ((l.filter c).map t), η) := by
  have hw : pk (wipeE η [k]) i = some d0 := by
    show pk (η.set k none) i = _
    rw [← hp]
    simp only [pk, List.getElem?_set_ne (Ne.symm hik)]
  refine eCompV_pure l f c t hp hs hl (by simp only [ownFree, List.all_cons, hf, List.all_nil, Bool.and_true]) (by simp only [List.contains_cons, List.contains_nil, Bool.or_false, beq_eq_false_iff_ne, ne_eq]; exact hik) (back1 hk) hw fun d hd => ?_
  obtain ⟨h1, h2⟩ := st d hd
  have e : gN k (.sh (f d)) (wipeE η [k]) = .ok (η.set k (some (.sh (f d)))) := by
    show Rs.ok ((η.set k none).set k _) = _
    rw [List.set_set]
  have fr : ownFree (η.set k (some (.sh (f d)))) [k] = true := by simp only [ownFree, List.all_cons, free1_own hk, List.all_nil, Bool.and_true]
  have wp : wipeE (η.set k (some (.sh (f d)))) [k] = wipeE η [k] := List.set_set ..
  exact ⟨_, _, e, h1, fun _ => ⟨fr, wp⟩, fun hc => ⟨_, h2 hc, fr, wp⟩⟩
theorem eCompV1_map (l : List α) (f : α → PyData) (t : α → T) (hp : pk η i = some d0) (hs : seqOf d0 = some (l.map f)) (hl : l.length < 16777216) (hk : k < η.length) (hf : free1 η k = true) (hik : i ≠ k)
    (st : ∀ d, d ∈ l → elt (η.set k (some (.sh (f d)))) = .ok (t d, η.set k (some (.sh (f d))))) :
    eCompV [k] i (gN k) bTrue elt η = .ok (.lst (l.map t), η) := by
  have := eCompV1_pure (cond := bTrue) (elt := elt) l f (fun _ => true) t hp hs hl hk hf hik fun d hd => ⟨rfl, fun _ => st d hd⟩
  rw [this, List.filter_eq_self.mpr fun _ _ => rfl]
theorem eComp1_pure (l : List α) (f : α → PyData) (c : α → Bool) (t : α → T) (hfi : fi η = .ok (l.map f, η1)) (hl : l.length < 16777216) (hk : k < η1.length) (hf : free1 η1 k = true)
    (st : ∀ d, d ∈ l → cond (η1.set k (some (.sh (f d)))) = .ok (c d, η1.set k (some (.sh (f d)))) ∧ (c d = true → elt (η1.set k (some (.sh (f d)))) = .ok (t d, η1.set k (some (.sh (f d)))))) :
    eComp [k] fi (gN k) cond elt η = .ok (.lst ((l.filter c).map t), η1) := by
  refine eComp_pure l f c t hfi hl (by simp only [ownFree, List.all_cons, hf, List.all_nil, Bool.and_true]) (back1 hk) fun d hd => ?_
  obtain ⟨h1, h2⟩ := st d hd
  have e : gN k (.sh (f d)) (wipeE η1 [k]) = .ok (η1.set k (some (.sh (f d)))) := by
    show Rs.ok ((η1.set k none).set k _) = _
    rw [List.set_set]
  have fr : ownFree (η1.set k (some (.sh (f d)))) [k] = true := by simp only [ownFree, List.all_cons, free1_own hk, List.all_nil, Bool.and_true]
  have wp : wipeE (η1.set k (some (.sh (f d)))) [k] = wipeE η1 [k] := List.set_set ..
  exact ⟨_, _, e, h1, fun _ => ⟨fr, wp⟩, fun hc => ⟨_, h2 hc, fr, wp⟩⟩
theorem eComp1_map (l : List α) (f : α → PyData) (t : α → T) (hfi : fi η = .ok (l.map f, η1)) (hl : l.length < 16777216) (hk : k < η1.length) (hf : free1 η1 k = true)
    (st : ∀ d, d ∈ l → elt (η1.set k (some (.sh (f d)))) = .ok (t d, η1.set k (some (.sh (f d))))) :
    eComp [k] fi (gN k) bTrue elt η = .ok (.lst (l.map t), η1) := by
  have := eComp1_pure (cond := bTrue) (elt := elt) l f (fun _ => true) t hfi hl hk hf fun d hd => ⟨rfl, fun _ => st d hd⟩
  rw [this, List.filter_eq_self.mpr fun _ _ => rfl]
theorem back2 (hjk : j ≠ k) (hj : j < η.length) (hk : k < η.length) : backE η [j, k] (wipeE η [j, k]) = η := by
  show (((η.set k none).set j none).set j (η[j]?.join)).set k (η[k]?.join) = η
  have e1 : ((η.set k none).set j none).set j (η[j]?.join) = η.set k none := by
    have := set_get (η := η.set k none) (k := j) (by rw [List.length_set]; exact hj) none
    rw [List.getElem?_set_ne (Ne.symm hjk)] at this
    exact this
  rw [e1]
  exact set_get hk none
theorem free2 (hjk : j ≠ k) (hj : j < η.length) (hk : k < η.length) {a b : PyData} : ownFree ((η.set j (some (.sh a))).set k (some (.sh b))) [j, k] = true := by
  simp only [ownFree, List.all_cons, List.all_nil, Bool.and_true, Bool.and_eq_true]
  refine ⟨?_, free1_own (by rw [List.length_set]; exact hk)⟩
  unfold free1
  rw [List.getElem?_set_ne (Ne.symm hjk), List.getElem?_set_self hj]
theorem eComp2_pure (l : List α) (f g : α → PyData) (c : α → Bool) (t : α → T) (hfi : fi η = .ok (l.map fun x => .tuple [f x, g x], η1)) (hl : l.length < 16777216) (hjk : j ≠ k) (hj : j < η1.length) (hk : k < η1.length) (hf : free1 η1 j = true) (hf2 : free1 η1 k = true)
    (st : ∀ d, d ∈ l → cond ((η1.set j (some (.sh (f d)))).set k (some (.sh (g d)))) = .ok (c d, (η1.set j (some (.sh (f d)))).set k (some (.sh (g d)))) ∧ (c d = true → elt ((η1.set j (some (.sh (f d)))).set k (some (.sh (g d)))) = .ok (t d, (η1.set j (some (.sh (f d)))).set k (some (.sh (g d)))))) :
    eComp [j, k] fi (gTupD 2 (gsCons (gN j) (gsCons (gN k) gsNil))) cond elt η = .ok (.lst ((l.filter c).map t), η1) := by
  refine eComp_pure l (fun x => .tuple [f x, g x]) c t hfi hl (by simp only [ownFree, List.all_cons, hf, hf2, List.all_nil, Bool.and_true]) (back2 hjk hj hk) fun d hd => ?_
  obtain ⟨h1, h2⟩ := st d hd
  have e0 : (((η1.set k none).set j none).set j (some (.sh (f d)))).set k (some (.sh (g d))) = (η1.set j (some (.sh (f d)))).set k (some (.sh (g d))) := by
    rw [List.set_set, List.set_comm _ _ hjk, List.set_set, List.set_comm _ _ (Ne.symm hjk)]
  have e : gTupD 2 (gsCons (gN j) (gsCons (gN k) gsNil)) (.sh (.tuple [f d, g d])) (wipeE η1 [j, k]) = .ok ((η1.set j (some (.sh (f d)))).set k (some (.sh (g d)))) := by
    rw [← e0]
    rfl
  have wp : wipeE ((η1.set j (some (.sh (f d)))).set k (some (.sh (g d)))) [j, k] = wipeE η1 [j, k] := by
    show (((η1.set j (some (.sh (f d)))).set k (some (.sh (g d)))).set k none).set j none = (η1.set k none).set j none
    rw [List.set_set, List.set_comm _ _ (Ne.symm hjk), List.set_set, List.set_comm _ _ hjk]
  exact ⟨_, _, e, h1, fun _ => ⟨free2 hjk hj hk, wp⟩, fun hc => ⟨_, h2 hc, free2 hjk hj hk, wp⟩⟩
theorem eComp2_map (l : List α) (f g : α → PyData) (t : α → T) (hfi : fi η = .ok (l.map fun x => .tuple [f x, g x], η1)) (hl : l.length < 16777216) (hjk : j ≠ k) (hj : j < η1.length) (hk : k < η1.length) (hf : free1 η1 j = true) (hf2 : free1 η1 k = true)
    (st : ∀ d, d ∈ l → elt ((η1.set j (some (.sh (f d)))).set k (some (.sh (g d)))) = .ok (t d, (η1.set j (some (.sh (f d)))).set k (some (.sh (g d))))) :
    eComp [j, k] fi (gTupD 2 (gsCons (gN j) (gsCons (gN k) gsNil))) bTrue elt η = .ok (.lst (l.map t), η1) := by
  have := eComp2_pure (cond := bTrue) (elt := elt) l f g (fun _ => true) t hfi hl hjk hj hk hf hf2 fun d hd => ⟨rfl, fun _ => st d hd⟩
  rw [this, List.filter_eq_self.mpr fun _ _ => rfl]
end
/-! slices at plain numbers -/
theorem cutA_hi {α : Type} (l : List α) (j : Nat) : cutA l none (some (j : Int)) = l.take j := by
  unfold cutA
  rw [HT.sIx_none, HT.sIx_nat, Nat.sub_zero, List.drop_zero]
  by_cases h : j ≤ l.length
  · rw [Nat.min_eq_left h]
  · rw [Nat.min_eq_right (by omega), List.take_length, List.take_of_length_le (by omega)]
theorem cutA_lo {α : Type} (l : List α) (j : Nat) : cutA l (some (j : Int)) none = l.drop j := by
  unfold cutA
  rw [HT.sIx_none, HT.sIx_nat]
  by_cases h : j ≤ l.length
  · rw [Nat.min_eq_left h]
    exact List.take_of_length_le (by rw [List.length_drop]; omega)
  · rw [Nat.min_eq_right (by omega), List.drop_length, List.drop_of_length_le (by omega), List.take_nil]
theorem opMul_list {a : List PyData} {k : Int} (h : a.length * k.toNat ≤ 16777216) (h1 : -1000000000 ≤ k) (h2 : k ≤ 1000000000) : opMul (.list a) (.int k) = some (.lst ((List.replicate k.toNat a).flatten.map T.sh)) := if_pos ⟨h, h1, h2⟩
/-! a comprehension over range whose item draws: the hand is at slot j -/
theorem eComp_io {own_ : Nat} {j n : Nat} {fi : FI} {elt : FE} {η η1 : Env} {t : T} (P : T → Prop) (hfi : fi η = .ok (rgD 0 n, η1)) (hn : n < 1000000) (hj : η1[j]? = some (some t)) (ht : Hand t) (hne : own_ ≠ j) (ho : own_ < η1.length) (hfr : free1 η1 own_ = true)
    (st : ∀ (i : Nat) (t : T), Hand t → ∃ x t', elt ((η1.set j (some t)).set own_ (some (.sh (.int (i : Nat))))) = .ok (x, (η1.set j (some t')).set own_ (some (.sh (.int (i : Nat))))) ∧ Hand t' ∧ P x) :
    ∃ ts t', eComp [own_] fi (gN own_) bTrue elt η = .ok (.lst ts, η1.set j (some t')) ∧ Hand t' ∧ ts.length = n ∧ ∀ x ∈ ts, P x := by
  have hjl : j < η1.length := (List.getElem?_eq_some_iff.mp hj).1
  have hds : rgD 0 (n : Int) = (List.range n).map fun i => PyData.int (i : Nat) := by
    unfold rgD
    simp
  have h0 : wipeE η1 [own_] = (η1.set j (some t)).set own_ none := by
    show η1.set own_ none = _
    rw [set_self hj]
  obtain ⟨ts, η', e2, ⟨t2, h2, rfl⟩, pk⟩ := loopC_all (chk := fun _ => true) (own := [own_]) (tgt := gN own_) (elt := elt) (fun η => ∃ t, Hand t ∧ η = (η1.set j (some t)).set own_ none) (fun _ x => P x) (ds := rgD 0 n) (η := wipeE η1 [own_]) ⟨t, ht, h0⟩ (by
    rintro d η hd ⟨t2, h2, rfl⟩
    rw [hds] at hd
    obtain ⟨i, _, rfl⟩ := List.mem_map.mp hd
    obtain ⟨x, t3, e3, h3, hx⟩ := st i t2 h2
    refine ⟨(η1.set j (some t2)).set own_ (some (.sh (.int (i : Nat)))), x, (η1.set j (some t3)).set own_ (some (.sh (.int (i : Nat)))), ?_, e3, hx, ?_, rfl, t3, h3, ?_⟩
    · show Rs.ok (List.set _ own_ _) = _
      rw [List.set_set]
    · simp only [ownFree, List.all_cons, List.all_nil, Bool.and_true]
      exact free1_own (by rw [List.length_set]; exact ho)
    · show List.set (List.set (List.set η1 j (some t3)) own_ _) own_ none = _
      rw [List.set_set])
  have hlen := pk.len
  refine ⟨ts, t2, ?_, h2, by rw [hlen, hds, List.length_map, List.length_range], fun x hx => by
    obtain ⟨_, _, h⟩ := pk.mem x hx
    exact h⟩
  unfold eComp
  rw [hfi]
  have hll : (rgD 0 (n : Int)).length < 16777216 := by rw [hds, List.length_map, List.length_range]; omega
  have hof : ownFree η1 [own_] = true := by simp only [ownFree, List.all_cons, hfr, List.all_nil, Bool.and_true]
  simp only [Rs.bind_ok, hof, line, decide_eq_true hll, Bool.and_true, if_pos]
  rw [e2]
  simp only [Rs.bind_ok]
  congr 2
  show List.set (List.set _ own_ none) own_ (η1[own_]?.join) = _
  have := set_get (η := η1.set j (some t2)) (k := own_) (by rw [List.length_set]; exact ho) none
  rw [List.getElem?_set_ne (Ne.symm hne)] at this
  exact this
theorem pick_list {α : Type} (f : α → PyData) (S : α → Prop) : ∀ {ts : List T}, (∀ x ∈ ts, ∃ a, S a ∧ x = .sh (f a)) → ∃ l : List α, ts = l.map (fun a => T.sh (f a)) ∧ ∀ a ∈ l, S a
  | [], _ => ⟨[], rfl, fun _ h => (List.not_mem_nil h).elim⟩
  | x :: ts, h => by
    obtain ⟨l, e, hl⟩ := pick_list f S (ts := ts) fun y hy => h y (List.mem_cons_of_mem _ hy)
    obtain ⟨a, ha, rfl⟩ := h x List.mem_cons_self
    exact ⟨a :: l, by rw [e]; rfl, fun b hb => by
      rcases List.mem_cons.mp hb with rfl | hb
      · exact ha
      · exact hl b hb⟩
theorem hand_T {t : T} (h : Hand t) : ∃ a b c d e, t = handT a b c d e := by obtain ⟨a, b, c, d, e, rfl, _⟩ := h; exact ⟨a, b, c, d, e, rfl⟩
end Pv
set_option Elab.async false
set_option linter.all false
set_option maxRecDepth 100000
set_option maxHeartbeats 4000000
/-! more that is evaluated alike in many laws: range over n, three names, slices, numbers that are compared -/
namespace Pv
open PySem L2 PyProof.Rows
theorem rgN_ok {n : Nat} (h : n ≤ 1000000) : rg62 (n : Int) = true := rg62_of (by omega) (by omega)
def natsL (n : Nat) : List PyData := (List.range n).map fun i => PyData.int (i : Nat)
theorem rgN (n : Nat) : rgD 0 n = natsL n := by
  unfold rgD natsL
  simp
/-- range over a number that f gives -/
theorem iR1_of {f : FE} {η η1 : Env} {n : Nat} (h : f η = .ok (.sh (.int (n : Nat)), η1)) (hn : n ≤ 1000000) : iR1 f η = .ok (natsL n, η1) := by
  unfold iR1
  rw [h]
  simp only [Rs.bind_ok, rgN_ok hn, if_pos, rgN]
theorem iR1_c {η : Env} {n : Nat} (h : n ≤ 1000000) : iR1 (eC (.int (n : Nat))) η = .ok (natsL n, η) := iR1_of rfl h
theorem iR1_v {η : Env} {j n : Nat} (hj : η[j]? = some (some (.sh (.int (n : Nat))))) (h : n ≤ 1000000) : iR1 (eV j) η = .ok (natsL n, η) := iR1_of (by unfold eV; rw [hj]) h
theorem range_get {n k x : Nat} (h : (List.range n)[k]? = some x) : x = k ∧ k < n := by
  obtain ⟨h1, h2⟩ := List.getElem?_eq_some_iff.mp h
  rw [List.getElem_range] at h2
  exact ⟨h2.symm, by simpa using h1⟩
theorem take_range {α : Type} {n k : Nat} (h : k < n) (f : Nat → α) : ((List.range n).take (k + 1)).map f = ((List.range n).take k).map f ++ [f k] := by
  rw [List.take_succ_eq_append_getElem (by simpa using h), List.map_append, List.getElem_range]
  rfl
theorem cutA_lo1 {α : Type} (l : List α) (j : Nat) : cutA l (some ((j : Int) + 1)) none = l.drop (j + 1) := cutA_lo l (j + 1)
/-! three names -/
theorem back3 {η : Env} {i j k : Nat} (hij : i ≠ j) (hik : i ≠ k) (hjk : j ≠ k) (hi : i < η.length) (hj : j < η.length) (hk : k < η.length) : backE η [i, j, k] (wipeE η [i, j, k]) = η := by
  show ((((((η.set k none).set j none).set i none).set i (η[i]?.join)).set j (η[j]?.join)).set k (η[k]?.join)) = η
  have e1 : (((η.set k none).set j none).set i none).set i (η[i]?.join) = (η.set k none).set j none := by
    have := set_get (η := (η.set k none).set j none) (k := i) (by rw [List.length_set, List.length_set]; exact hi) none
    rw [List.getElem?_set_ne (Ne.symm hij), List.getElem?_set_ne (Ne.symm hik)] at this
    exact this
  have e2 : ((η.set k none).set j none).set j (η[j]?.join) = η.set k none := by
    have := set_get (η := η.set k none) (k := j) (by rw [List.length_set]; exact hj) none
    rw [List.getElem?_set_ne (Ne.symm hjk)] at this
    exact this
  rw [e1, e2]
  exact set_get hk none
theorem eComp3_map {α : Type} {i j k : Nat} {fi : FI} {elt : FE} {η η1 : Env} (l : List α) (f g h : α → PyData) (t : α → T) (hfi : fi η = .ok (l.map fun x => .tuple [f x, g x, h x], η1)) (hl : l.length < 16777216) (hij : i ≠ j) (hik : i ≠ k) (hjk : j ≠ k) (hi : i < η1.length) (hj : j < η1.length) (hk : k < η1.length) (f1 : free1 η1 i = true) (f2 : free1 η1 j = true) (f3 : free1 η1 k = true)
    (st : ∀ d, d ∈ l → elt (((η1.set i (some (.sh (f d)))).set j (some (.sh (g d)))).set k (some (.sh (h d)))) = .ok (t d, ((η1.set i (some (.sh (f d)))).set j (some (.sh (g d)))).set k (some (.sh (h d))))) :
    eComp [i, j, k] fi (gTupD 3 (gsCons (gN i) (gsCons (gN j) (gsCons (gN k) gsNil)))) bTrue elt η = .ok (.lst (l.map t), η1) := by
  refine eComp_map l (fun x => .tuple [f x, g x, h x]) t hfi hl (by simp only [ownFree, List.all_cons, f1, f2, f3, List.all_nil, Bool.and_true]) (back3 hij hik hjk hi hj hk) fun d hd => ?_
  have e0 : (((((η1.set k none).set j none).set i none).set i (some (.sh (f d)))).set j (some (.sh (g d)))).set k (some (.sh (h d))) = ((η1.set i (some (.sh (f d)))).set j (some (.sh (g d)))).set k (some (.sh (h d))) := by
    rw [List.set_set, List.set_comm _ _ (Ne.symm hij), List.set_set, List.set_comm _ _ (Ne.symm hik), List.set_comm _ _ (Ne.symm hjk), List.set_set]
  have e : gTupD 3 (gsCons (gN i) (gsCons (gN j) (gsCons (gN k) gsNil))) (.sh (.tuple [f d, g d, h d])) (wipeE η1 [i, j, k]) = .ok (((η1.set i (some (.sh (f d)))).set j (some (.sh (g d)))).set k (some (.sh (h d)))) := by
    rw [← e0]
    rfl
  refine ⟨_, _, e, st d hd, ?_, ?_⟩
  · have g1 : (((η1.set i (some (T.sh (f d)))).set j (some (T.sh (g d)))).set k (some (T.sh (h d))))[i]? = some (some (T.sh (f d))) := by
      rw [List.getElem?_set_ne (Ne.symm hik), List.getElem?_set_ne (Ne.symm hij), List.getElem?_set_self hi]
    have g2 : (((η1.set i (some (T.sh (f d)))).set j (some (T.sh (g d)))).set k (some (T.sh (h d))))[j]? = some (some (T.sh (g d))) := by
      rw [List.getElem?_set_ne (Ne.symm hjk), List.getElem?_set_self (by rw [List.length_set]; exact hj)]
    have g3 : (((η1.set i (some (T.sh (f d)))).set j (some (T.sh (g d)))).set k (some (T.sh (h d))))[k]? = some (some (T.sh (h d))) := by
      rw [List.getElem?_set_self (by rw [List.length_set, List.length_set]; exact hk)]
    simp only [ownFree, List.all_cons, List.all_nil, free1, g1, g2, g3, Bool.and_true]
  · show (((((η1.set i (some (T.sh (f d)))).set j (some (T.sh (g d)))).set k (some (T.sh (h d)))).set k none).set j none).set i none = ((η1.set k none).set j none).set i none
    refine List.ext_getElem? fun n => ?_
    simp only [List.getElem?_set, List.length_set]
    by_cases a : i = n <;> by_cases b : j = n <;> by_cases c : k = n <;> simp [a, b, c]
/-! min, max of numbers -/
theorem cmpAll_ints {ns : List Int} : cmpAll (ns.map PyData.int) = true := by
  unfold cmpAll alikeAll2
  have h1 : PyData.canLayAll0 (ns.map PyData.int) = true := plains_lay (n := 0) (plains_map fun x _ => plain_int)
  have h2 : PyData.depthAll (ns.map PyData.int) ≤ 0 := plains_depth (n := 0) (plains_map fun x _ => plain_int)
  have h3 : SeqAt.shaped (.list (ns.map PyData.int)) = true := by
    unfold SeqAt.shaped
    have : (PyData.list (ns.map PyData.int)).canLay0 = true := by simp only [PyData.canLay0]; exact h1
    rw [this]
    have h5 : (PyData.list (ns.map PyData.int)).depth ≤ 64 := by
      simp only [PyData.depth]
      omega
    rw [decide_eq_true h5]
    rfl
  rw [h3, decide_eq_true (Nat.le_trans h2 (by decide))]
  simp only [Bool.and_true, Bool.and_eq_true, List.all_eq_true, List.mem_map]
  constructor
  · rintro _ ⟨x, _, rfl⟩ _ ⟨y, _, rfl⟩
    simp only [W.alike]
  · rintro _ ⟨x, _, rfl⟩
    rfl
theorem bMin_tup {ns : List Int} {n : Int} (h : n ∈ ns) (hle : ∀ y ∈ ns, n ≤ y) : bMin [.tuple (ns.map PyData.int)] = some (.sh (.int n)) := by
  cases ns with
  | nil => cases h
  | cons k ns =>
    have e : bMin [.tuple ((k :: ns).map PyData.int)] = if cmpAll ((k :: ns).map PyData.int) then some (.sh (W.minD (.int k) (ns.map PyData.int))) else none := rfl
    rw [e, cmpAll_ints, if_pos rfl, W.minD_ints]
    have key : ∀ (ns : List Int) (k : Int), (ns.foldl min k) ∈ k :: ns ∧ ∀ y ∈ k :: ns, ns.foldl min k ≤ y := by
      intro ns
      induction ns with
      | nil => intro k; simp
      | cons x ns ih =>
        intro k
        obtain ⟨a, b⟩ := ih (min k x)
        have hb := b (min k x) List.mem_cons_self
        simp only [List.foldl_cons]
        refine ⟨?_, fun y hy => ?_⟩
        · rcases List.mem_cons.mp a with a | a
          · rw [a]
            rcases Int.le_total k x with c | c
            · rw [Int.min_eq_left c]; exact List.mem_cons_self
            · rw [Int.min_eq_right c]; exact List.mem_cons_of_mem _ List.mem_cons_self
          · exact List.mem_cons_of_mem _ (List.mem_cons_of_mem _ a)
        · rcases List.mem_cons.mp hy with rfl | hy
          · omega
          · rcases List.mem_cons.mp hy with rfl | hy
            · omega
            · exact b y (List.mem_cons_of_mem _ hy)
    obtain ⟨a, b⟩ := key ns k
    have h1 := b n h
    have h2 := hle _ a
    rw [show ns.foldl min k = n by omega]
theorem maxI_eq {n k : Int} {ns : List Int} (h : n ∈ k :: ns) (hle : ∀ y ∈ k :: ns, y ≤ n) : maxI k ns = n := by
  obtain ⟨a, b⟩ := maxI_spec ns k
  have := b n h
  have := hle _ a
  omega
theorem bMax_ints {ns : List Int} {n : Int} (h : n ∈ ns) (hle : ∀ y ∈ ns, y ≤ n) : bMax [.list (ns.map PyData.int)] = some (.sh (.int n)) := by
  cases ns with
  | nil => cases h
  | cons k ns =>
    have e : bMax [.list ((k :: ns).map PyData.int)] = match intsOf ((k :: ns).map PyData.int) with
      | some (n :: ns) => some (.sh (.int (maxI n ns)))
      | some [] => none
      | none => match (k :: ns).map PyData.int with
        | d :: ds => if cmpAll (d :: ds) then some (.sh (W.maxD d ds)) else none
        | [] => none := rfl
    rw [e, ints_map]
    show some (T.sh (.int (maxI k ns))) = _
    rw [maxI_eq h hle]
/-- the least of some data, told -/
theorem minD_best {b : PyData} : ∀ {xs : List PyData} {x : PyData}, (∀ y ∈ x :: xs, y = b ∨ (W.dataLt b y = true ∧ W.dataLt y b = false)) → b ∈ x :: xs → W.minD x xs = b
  | [], x, _, hb => by
    rcases List.mem_singleton.mp hb with rfl
    rfl
  | y :: xs, x, h, hb => by
    show W.minD (if W.dataLt y x then y else x) xs = b
    refine minD_best (fun z hz => ?_) ?_
    · rcases List.mem_cons.mp hz with rfl | hz
      · split
        · exact h y (by simp)
        · exact h x (by simp)
      · exact h z (by simp [hz])
    · rcases List.mem_cons.mp hb with rfl | hb
      · rcases h y (by simp) with rfl | ⟨_, e⟩
        · split <;> exact List.mem_cons_self
        · rw [e]; exact List.mem_cons_self
      · rcases List.mem_cons.mp hb with rfl | hb
        · rcases h x (by simp) with rfl | ⟨e, _⟩
          · split <;> exact List.mem_cons_self
          · rw [e]; exact List.mem_cons_self
        · exact List.mem_cons_of_mem _ hb
theorem gP_nx {N n : Nat} {fb : FS} {ds : List PyData} {η : Env} (hl : ds.length = n) (h : fb (startE N (ds.map T.sh)) = .ok (.nx, η)) : gP N n fb ds = some (.sh .none) := by
  unfold gP
  rw [if_pos hl, h]
  rfl
@[simp] theorem all_const {α : Type} {l : List α} : (l.all fun _ => true) = true := List.all_eq_true.mpr fun _ _ => rfl
/-! a comprehension with one name, whose item changes something: the names stand as E tells of a state s -/
inductive All3 {α : Type} (c : α → T → Prop) : List α → List T → Prop
  | nil : All3 c [] []
  | cons {d ds t ts} : c d t → All3 c ds ts → All3 c (d :: ds) (t :: ts)
theorem All3.len {α : Type} {c : α → T → Prop} {ds : List α} {ts : List T} (h : All3 c ds ts) : ts.length = ds.length := by
  induction h with
  | nil => rfl
  | cons _ _ ih => simp [ih]
theorem All3.map {α : Type} {c : α → T → Prop} {g : α → T} {ds : List α} {ts : List T} (h : All3 c ds ts) (k : ∀ a t, c a t → t = g a) : ts = ds.map g := by
  induction h with
  | nil => rfl
  | cons h _ ih => rw [List.map_cons, k _ _ h, ih]
theorem All3.mem {α : Type} {c : α → T → Prop} {ds : List α} {ts : List T} (h : All3 c ds ts) : ∀ t ∈ ts, ∃ d ∈ ds, c d t := by
  induction h with
  | nil => simp
  | cons h _ ih =>
    intro t ht
    rcases List.mem_cons.mp ht with rfl | ht
    · exact ⟨_, List.mem_cons_self, h⟩
    · obtain ⟨d, hd, hc⟩ := ih t ht
      exact ⟨d, List.mem_cons_of_mem _ hd, hc⟩
/-- the things behind the values, one for each -/
theorem All3.pick {α β : Type} {c : α → β → Prop} {f : β → PyData} {ds : List α} {ts : List T} (h : All3 (fun a t => ∃ b, c a b ∧ t = .sh (f b)) ds ts) : ∃ bs : List β, ts = bs.map (fun b => T.sh (f b)) ∧ bs.length = ds.length ∧ ∀ (i : Nat) (a : α) (b : β), ds[i]? = some a → bs[i]? = some b → c a b := by
  induction h with
  | nil => exact ⟨[], rfl, rfl, fun i a b h => by simp at h⟩
  | cons h _ ih =>
    obtain ⟨bs, e, hl, hi⟩ := ih
    obtain ⟨b, hb, rfl⟩ := h
    refine ⟨b :: bs, by rw [e]; rfl, by simp [hl], fun i a b' h1 h2 => ?_⟩
    cases i with
    | zero => cases h1; cases h2; exact hb
    | succ i => exact hi i a b' (by simpa using h1) (by simpa using h2)
theorem loopC1_st {α S : Type} {chk : Env → Bool} {k : Nat} {elt : FE} {f : α → PyData} (E : S → Env) (Good : S → Prop) (P : α → T → Prop) (hk : ∀ s, k < (E s).length) (hc : ∀ s, Good s → chk ((E s).set k none) = true) : ∀ {l : List α} {s : S}, Good s →
    (∀ a, a ∈ l → ∀ s, Good s → ∃ x s', elt ((E s).set k (some (.sh (f a)))) = .ok (x, (E s').set k (some (.sh (f a)))) ∧ Good s' ∧ P a x) →
    ∃ ts s', loopC chk [k] (gN k) bTrue elt (l.map f) ((E s).set k none) = .ok (ts, (E s').set k none) ∧ Good s' ∧ All3 P l ts
  | [], s, h, _ => ⟨[], s, rfl, h, .nil⟩
  | a :: l, s, h, st => by
    obtain ⟨x, s1, e1, h1, p1⟩ := st a List.mem_cons_self s h
    obtain ⟨ts, s2, e2, h2, p2⟩ := loopC1_st E Good P hk hc h1 fun b hb => st b (List.mem_cons_of_mem _ hb)
    refine ⟨x :: ts, s2, ?_, h2, .cons p1 p2⟩
    have e0 : gN k (.sh (f a)) ((E s).set k none) = .ok ((E s).set k (some (.sh (f a)))) := by
      show Rs.ok (((E s).set k none).set k _) = _
      rw [List.set_set]
    rw [List.map_cons]
    unfold loopC
    rw [e0]
    simp only [Rs.noX_ok, Rs.bind_ok, bTrue, if_pos]
    rw [e1]
    simp only [Rs.noX_ok, Rs.bind_ok]
    have w : wipeE ((E s1).set k (some (.sh (f a)))) [k] = (E s1).set k none := List.set_set ..
    have fr : ownFree ((E s1).set k (some (.sh (f a)))) [k] = true := by
      simp only [ownFree, List.all_cons, List.all_nil, Bool.and_true]
      exact free1_own (hk s1)
    rw [w, if_pos ⟨fr, hc s1 h1⟩, e2]
    rfl
theorem eComp1_st {α S : Type} {k : Nat} {fi : FI} {elt : FE} {f : α → PyData} {η : Env} (E : S → Env) (Good : S → Prop) (P : α → T → Prop) {l : List α} {s0 : S} (hfi : fi η = .ok (l.map f, E s0)) (h0 : Good s0) (hl : l.length < 16777216) (hk : ∀ s, k < (E s).length) (hf : free1 (E s0) k = true) (hs : ∀ s, (E s)[k]? = (E s0)[k]?)
    (st : ∀ a, a ∈ l → ∀ s, Good s → ∃ x s', elt ((E s).set k (some (.sh (f a)))) = .ok (x, (E s').set k (some (.sh (f a)))) ∧ Good s' ∧ P a x) :
    ∃ ts s', eComp [k] fi (gN k) bTrue elt η = .ok (.lst ts, E s') ∧ Good s' ∧ All3 P l ts := by
  obtain ⟨ts, s1, e, h1, p⟩ := loopC1_st (chk := fun _ => true) E Good P hk (fun _ _ => rfl) h0 st
  refine ⟨ts, s1, ?_, h1, p⟩
  unfold eComp
  rw [hfi]
  have hof : ownFree (E s0) [k] = true := by simp only [ownFree, List.all_cons, hf, List.all_nil, Bool.and_true]
  have hll : line (l.map f).length = true := by unfold line; rw [List.length_map]; exact decide_eq_true hl
  simp only [Rs.bind_ok, hof, hll, Bool.and_true, if_pos]
  rw [show wipeE (E s0) [k] = (E s0).set k none from rfl, e]
  simp only [Rs.bind_ok]
  congr 2
  show ((E s1).set k none).set k ((E s0)[k]?.join) = _
  rw [← hs s1]
  exact set_get (hk s1) none
/-- a comprehension over range whose item draws: the hand is at slot j; what each item is may hang on its number -/
theorem eComp_ioN {k j n : Nat} {fi : FI} {elt : FE} {η η1 : Env} {t : T} (P : Nat → T → Prop) (hfi : fi η = .ok (natsL n, η1)) (hn : n < 1000000) (hj : η1[j]? = some (some t)) (ht : Hand t) (hne : k ≠ j) (ho : k < η1.length) (hfr : free1 η1 k = true)
    (st : ∀ (i : Nat) (t : T), i < n → Hand t → ∃ x t', elt ((η1.set j (some t)).set k (some (.sh (.int (i : Nat))))) = .ok (x, (η1.set j (some t')).set k (some (.sh (.int (i : Nat))))) ∧ Hand t' ∧ P i x) :
    ∃ ts t', eComp [k] fi (gN k) bTrue elt η = .ok (.lst ts, η1.set j (some t')) ∧ Hand t' ∧ All3 P (List.range n) ts := by
  have hjl : j < η1.length := (List.getElem?_eq_some_iff.mp hj).1
  have e0 : η1.set j (some t) = η1 := set_self hj
  exact eComp1_st (fun t => η1.set j (some t)) Hand P (l := List.range n) (f := fun i => .int (i : Nat)) (s0 := t) (by rw [hfi, e0]; rfl) ht (by rw [List.length_range]; omega) (fun s => by rw [List.length_set]; exact ho) (by rw [e0]; exact hfr) (fun s => by rw [List.getElem?_set_ne (Ne.symm hne), List.getElem?_set_ne (Ne.symm hne)]) fun i hi s hs => st i s (List.mem_range.mp hi) hs
/-! what repr can show -/
structure ROk (w n : Nat) (d : PyData) : Prop where
  sh : d.showable = true
  lay : d.canLay0 = true
  dep : d.depth ≤ n
  sz : shSz d ≤ w
theorem rok_int {i : Int} (h : -1000000000000 < i ∧ i < 1000000000000) : ROk 1921 1 (.int i) := ⟨by
  simp only [PyData.showable, decide_eq_true_eq]
  have := log2_small (n := i.natAbs) (by omega)
  have h2 : i.natAbs.log2 < 64 := by
    by_cases h0 : i.natAbs = 0
    · rw [h0]; decide
    · exact (Nat.log2_lt h0).mpr (by omega)
  omega, rfl, by simp only [PyData.depth]; omega, Nat.le_refl _⟩
theorem rok_bool {b : Bool} : ROk 5 1 (.bool b) := ⟨rfl, rfl, by simp only [PyData.depth]; omega, Nat.le_refl _⟩
theorem rok_none : ROk 4 1 .none := ⟨rfl, rfl, by simp only [PyData.depth]; omega, Nat.le_refl _⟩
theorem ROk.mono {w n w' n' : Nat} {d : PyData} (h : ROk w n d) (h1 : w ≤ w') (h2 : n ≤ n') : ROk w' n' d := ⟨h.sh, h.lay, Nat.le_trans h.dep h2, Nat.le_trans h.sz h1⟩
theorem roks {w n : Nat} : ∀ {ds : List PyData}, (∀ d ∈ ds, ROk w n d) → PyData.showableAll ds = true ∧ PyData.canLayAll0 ds = true ∧ PyData.depthAll ds ≤ n ∧ shSz.shSzs ds ≤ ds.length * (w + 2)
  | [], _ => ⟨rfl, rfl, by simp only [PyData.depthAll]; omega, by simp [shSz.shSzs]⟩
  | d :: ds, h => by
    obtain ⟨a, b, c, e⟩ := roks (w := w) (n := n) (ds := ds) fun x hx => h x (List.mem_cons_of_mem _ hx)
    have h0 := h d List.mem_cons_self
    refine ⟨?_, ?_, ?_, ?_⟩
    · simp only [PyData.showableAll, h0.sh, a, Bool.and_self]
    · simp only [PyData.canLayAll0, h0.lay, b, Bool.and_self]
    · simp only [PyData.depthAll]
      exact Nat.max_le.mpr ⟨h0.dep, c⟩
    · simp only [shSz.shSzs, List.length_cons]
      have := h0.sz
      rw [Nat.add_mul]
      omega
theorem rok_tup {w n N : Nat} {ds : List PyData} (h : ∀ d ∈ ds, ROk w n d) (hl : ds.length ≤ N) : ROk (N * (w + 2) + 3) (n + 1) (.tuple ds) := by
  obtain ⟨a, b, c, e⟩ := roks h
  have := Nat.mul_le_mul_right (w + 2) hl
  refine ⟨?_, ?_, ?_, ?_⟩
  · simp only [PyData.showable]; exact a
  · simp only [PyData.canLay0]; exact b
  · simp only [PyData.depth]; omega
  · simp only [shSz]; omega
theorem rok_list {w n N : Nat} {ds : List PyData} (h : ∀ d ∈ ds, ROk w n d) (hl : ds.length ≤ N) : ROk (N * (w + 2) + 3) (n + 1) (.list ds) := by
  obtain ⟨a, b, c, e⟩ := roks h
  have := Nat.mul_le_mul_right (w + 2) hl
  refine ⟨?_, ?_, ?_, ?_⟩
  · simp only [PyData.showable]; exact a
  · simp only [PyData.canLay0]; exact b
  · simp only [PyData.depth]; omega
  · simp only [shSz]; omega
theorem ROk.repr {w n : Nat} {d : PyData} (h : ROk w n d) (hw : w ≤ 16777216) (hn : n ≤ 60) : bRepr [d] = some (.sh (.str d.shown)) := by
  refine if_pos ?_
  unfold reprOk
  rw [h.sh, h.lay, decide_eq_true (Nat.le_trans h.dep hn), decide_eq_true (Nat.le_trans h.sz hw)]
  rfl
/-! texts alike -/
theorem bRepr_of {d : PyData} (h : reprOk d = true) : bRepr [d] = some (.sh (.str d.shown)) := if_pos h
theorem opNeS_self {s : Str} : opNeS (.str s) (.str s) = some (.sh (.bool false)) := by
  show some (T.sh (.bool (!decide (s = s)))) = _
  rw [decide_eq_true rfl]
  rfl
end Pv
set_option Elab.async false
set_option linter.all false
set_option maxRecDepth 100000
set_option maxHeartbeats 4000000
/-! fractions: pairs of a top and a bottom, in lowest terms -/
namespace Pv
open PySem L2 PyProof.Rows
def frD (q : Rat) : PyData := .tuple [.int q.num, .int (q.den : Nat)]
theorem gcd_step (a b : Int) : Int.gcd b (a % b) = Int.gcd a b := by
  have h : a % b = a + (-(a / b)) * b := by
    rw [Int.emod_def, Int.neg_mul, Int.mul_comm b]
    omega
  rw [h, Int.gcd_add_mul_right_right, Int.gcd_comm]
theorem half_step {b r : Int} (hr : 0 < r) (hb : r < b) : 2 * (b % r) < b := by
  have h1 := Int.emod_def b r
  have h2 := Int.emod_lt_of_pos b hr
  have h3 : 1 ≤ b / r := by
    exact (Int.le_ediv_iff_mul_le hr).mpr (by omega)
  have h4 : r * 1 ≤ r * (b / r) := Int.mul_le_mul_of_nonneg_left h3 (by omega)
  omega
/-- Euclid's loop: at most two turns for each bit of the second number -/
theorem euclid {c : FB} {body : FS} (E : Int → Int → Env) (hc : ∀ a b, c (E a b) = .ok (decide (0 < b), E a b)) (hb : ∀ a b : Int, 0 < b → b < 1000000000000000000 → body (E a b) = .ok (.nx, E b (a % b))) :
    ∀ (k : Nat) (a b : Int) (n : Nat), 0 < b → b < 1000000000000000000 → b < 2 ^ k → 2 * k + 2 ≤ n → loopW c body n (E a b) = .ok (.nx, E (Int.gcd a b : Nat) 0)
  | k, a, b, 0, _, _, _, h => absurd h (by omega)
  | k, a, b, 1, _, _, _, h => absurd h (by omega)
  | k, a, b, n + 2, h0, hB, hk, hn => by
    have r0 := Int.emod_nonneg a (show b ≠ 0 by omega)
    have r1 := Int.emod_lt_of_pos a h0
    have hg := gcd_step a b
    unfold loopW
    rw [hc]
    simp only [Rs.bind_ok, decide_eq_true h0, if_pos]
    rw [hb a b h0 hB]
    simp only [Rs.bind_ok]
    generalize a % b = r at r0 r1 hg ⊢
    by_cases hr : r = 0
    · subst hr
      unfold loopW
      rw [hc]
      have : Int.gcd a b = b.natAbs := by rw [← hg, Int.gcd_zero_right]
      rw [this]
      simp only [Rs.bind_ok, Int.lt_irrefl, decide_false, Bool.false_eq_true, if_false]
      rw [show ((b.natAbs : Nat) : Int) = b by omega]
    · have hr0 : 0 < r := by omega
      unfold loopW
      rw [hc]
      simp only [Rs.bind_ok, decide_eq_true hr0, if_pos]
      rw [hb b r hr0 (by omega)]
      simp only [Rs.bind_ok]
      have s0 := Int.emod_nonneg b (show r ≠ 0 by omega)
      have s1 := half_step hr0 r1
      have hg2 := gcd_step b r
      rw [← hg, ← hg2]
      by_cases hs : b % r = 0
      · have : 1 ≤ n := by
          cases k with
          | zero => have : (2 : Int) ^ 0 = 1 := rfl; omega
          | succ k => omega
        obtain ⟨n', rfl⟩ : ∃ n', n = n' + 1 := ⟨n - 1, by omega⟩
        unfold loopW
        rw [hc, hs]
        simp only [Rs.bind_ok, Int.lt_irrefl, decide_false, Bool.false_eq_true, if_false, Int.gcd_zero_right]
        rw [show ((r.natAbs : Nat) : Int) = r by omega]
      · cases k with
        | zero => have : (2 : Int) ^ 0 = 1 := rfl; omega
        | succ k =>
          have hp : (2 : Int) ^ (k + 1) = 2 * 2 ^ k := by rw [Int.pow_succ, Int.mul_comm]
          exact euclid E hc hb k r (b % r) n (by omega) (by omega) (by omega) (by omega)
theorem pow60 : (1000000000000000000 : Int) < 2 ^ 60 := by decide
/-! ### common, made -/
def commonB : FS := (sSeq (sWhile 1000 (bT (eBinL' opGt 1 (eC (.int 0)))) (sPar 0 1 (aCons (eV 1) (aCons (eBinLR opMod 0 1) aNil)))) (sRet (eCallV bAbs 0)))
theorem common_ok {a b : Int} (hb : 0 < b) (h2 : b < 1000000000000000000) : gP 2 2 commonB [.int a, .int b] = some (.sh (.int (Int.gcd a b : Nat))) := by
  have hw : sWhile 1000 (bT (eBinL' opGt 1 (eC (.int 0)))) (sPar 0 1 (aCons (eV 1) (aCons (eBinLR opMod 0 1) aNil))) [some (.sh (.int a)), some (.sh (.int b))] = .ok (.nx, [some (.sh (.int (Int.gcd a b : Nat))), some (.sh (.int 0))]) := by
    refine euclid (fun a b => [some (.sh (.int a)), some (.sh (.int b))]) (fun a b => by simp) (fun a b hb h2 => ?_) 60 a b 1000 hb h2 (Int.lt_trans h2 pow60) (by decide)
    simp [sPar, opMod_int hb]
  refine gP_eq rfl (η := [some (.sh (.int (Int.gcd a b : Nat))), some (.sh (.int 0))]) ?_
  unfold commonB
  simp only [sSeq, startE, List.map_cons, List.map_nil, List.length_cons, List.length_nil, Nat.sub_self, List.replicate_zero, List.append_nil]
  rw [hw]
  have hn : ¬ ((Int.gcd a b : Nat) : Int) < 0 := by omega
  simp [hn]
theorem mkRat_fr {a b : Int} (hb : 0 < b) : (mkRat a b.toNat).num = a / (Int.gcd a b : Nat) ∧ (((mkRat a b.toNat).den : Nat) : Int) = b / (Int.gcd a b : Nat) := by
  have hn : b.toNat ≠ 0 := by omega
  have hg : b.toNat.gcd a.natAbs = Int.gcd a b := by
    rw [Int.gcd_eq_natAbs_gcd_natAbs, Nat.gcd_comm]
    congr 1
    omega
  rw [Rat.num_mkRat, Rat.den_mkRat, if_neg hn, if_neg hn, hg]
  refine ⟨rfl, ?_⟩
  rw [Int.natCast_ediv, show ((b.toNat : Nat) : Int) = b by omega]
theorem gcd_le {a b : Int} (hb : 0 < b) : 0 < ((Int.gcd a b : Nat) : Int) ∧ ((Int.gcd a b : Nat) : Int) ≤ b := by
  have h1 := Int.gcd_pos_of_ne_zero_right a (show b ≠ 0 by omega)
  have h2 := Int.gcd_le_natAbs_right a (show b ≠ 0 by omega)
  omega
def madeB (Gc : List PyData → Option T) : FS := (sSeq (sAsg (eDef Gc (aCons (eV 0) (aCons (eV 1) aNil))) (gN 2)) (sRet (eTup (aCons (eBinLR opFdiv 0 2) (aCons (eBinLR opFdiv 1 2) aNil)))))
theorem made_ok {a b : Int} (hb : 0 < b) (h2 : b < 1000000000000000000) : gP 3 2 (madeB (gP 2 2 commonB)) [.int a, .int b] = some (.sh (frD (mkRat a b.toNat))) := by
  obtain ⟨g1, g2⟩ := gcd_le (a := a) hb
  have hc := common_ok (a := a) hb h2
  obtain ⟨e1, e2⟩ := mkRat_fr (a := a) hb
  refine gP_eq rfl (η := [some (.sh (.int a)), some (.sh (.int b)), some (.sh (.int (Int.gcd a b : Nat)))]) ?_
  unfold frD
  rw [e1, e2]
  generalize ((Int.gcd a b : Nat) : Int) = g at g1 g2 hc ⊢
  have f1 : ∀ x, opFdiv (.int x) (.int g) = some (.sh (.int (x / g))) := fun x => opFdiv_int g1 (by omega)
  unfold madeB
  simp [startE, hc, f1]
def lowB : FS := (sSeq (sPar 2 3 (aCons (eCallV bAbs 0) (aCons (eV 1) aNil))) (sSeq (sWhile 1000 (bT (eBinL' opGt 3 (eC (.int 0)))) (sPar 2 3 (aCons (eV 3) (aCons (eBinR opMod (eCallV bInt 2) 3) aNil)))) (sRet (eTup (aCons (eBinLR opFdiv 0 2) (aCons (eBinLR opFdiv 1 2) aNil))))))
theorem low_ok {a b : Int} (hb : 0 < b) (h2 : b < 1000000000000000000) : gP 4 2 lowB [.int a, .int b] = some (.sh (frD (mkRat a b.toNat))) := by
  obtain ⟨g1, g2⟩ := gcd_le (a := a) hb
  obtain ⟨e1, e2⟩ := mkRat_fr (a := a) hb
  have hw : sWhile 1000 (bT (eBinL' opGt 3 (eC (.int 0)))) (sPar 2 3 (aCons (eV 3) (aCons (eBinR opMod (eCallV bInt 2) 3) aNil))) [some (.sh (.int a)), some (.sh (.int b)), some (.sh (.int (if a < 0 then -a else a))), some (.sh (.int b))] = .ok (.nx, [some (.sh (.int a)), some (.sh (.int b)), some (.sh (.int (Int.gcd a b : Nat))), some (.sh (.int 0))]) := by
    have hg : Int.gcd (if a < 0 then -a else a) b = Int.gcd a b := by
      split
      · exact Int.neg_gcd
      · rfl
    rw [← hg]
    refine euclid (fun x y => [some (.sh (.int a)), some (.sh (.int b)), some (.sh (.int x)), some (.sh (.int y))]) (fun a b => by simp) (fun x y hb h2 => ?_) 60 _ b 1000 hb h2 (Int.lt_trans h2 pow60) (by decide)
    simp [sPar, opMod_int hb]
  refine gP_eq rfl (η := [some (.sh (.int a)), some (.sh (.int b)), some (.sh (.int (Int.gcd a b : Nat))), some (.sh (.int 0))]) ?_
  unfold frD
  rw [e1, e2]
  generalize ((Int.gcd a b : Nat) : Int) = g at g1 g2 hw ⊢
  have f1 : ∀ x, opFdiv (.int x) (.int g) = some (.sh (.int (x / g))) := fun x => opFdiv_int g1 (by omega)
  have s0 : sPar 2 3 (aCons (eCallV bAbs 0) (aCons (eV 1) aNil)) (startE 4 (List.map T.sh [.int a, .int b])) = .ok (.nx, [some (.sh (.int a)), some (.sh (.int b)), some (.sh (.int (if a < 0 then -a else a))), some (.sh (.int b))]) := by
    simp [sPar, startE]
  unfold lowB
  simp only [sSeq, s0, Rs.bind_ok, hw]
  simp [f1]
/-! ### sums, differences -/
/-- small enough to be multiplied -/
structure Nice (q : Rat) : Prop where
  nu : -100000000 < q.num ∧ q.num < 100000000
  de : q.den < 100000000
theorem Nice.dp {q : Rat} (_ : Nice q) : 0 < q.den := q.den_pos
def plusB (G : List PyData → Option T) : FS := (sRet (eDef G (aCons (eBin opAdd (eBin opMul (eBinL' opIx 0 (eC (.int 0))) (eBinL' opIx 1 (eC (.int 1)))) (eBin opMul (eBinL' opIx 1 (eC (.int 0))) (eBinL' opIx 0 (eC (.int 1))))) (aCons (eBin opMul (eBinL' opIx 0 (eC (.int 1))) (eBinL' opIx 1 (eC (.int 1)))) aNil))))
def lessB (G : List PyData → Option T) : FS := (sRet (eDef G (aCons (eBin opSub (eBin opMul (eBinL' opIx 0 (eC (.int 0))) (eBinL' opIx 1 (eC (.int 1)))) (eBin opMul (eBinL' opIx 1 (eC (.int 0))) (eBinL' opIx 0 (eC (.int 1))))) (aCons (eBin opMul (eBinL' opIx 0 (eC (.int 1))) (eBinL' opIx 1 (eC (.int 1)))) aNil))))
def belowB : FS := (sRet (eBin opLt (eBin opMul (eBinL' opIx 0 (eC (.int 0))) (eBinL' opIx 1 (eC (.int 1)))) (eBin opMul (eBinL' opIx 1 (eC (.int 0))) (eBinL' opIx 0 (eC (.int 1))))))
/-- what makes a fraction of two numbers -/
def Makes (G : List PyData → Option T) : Prop := ∀ a b : Int, 0 < b → b < 1000000000000000000 → G [.int a, .int b] = some (.sh (frD (mkRat a b.toNat)))
theorem makes_made : Makes (gP 3 2 (madeB (gP 2 2 commonB))) := fun _ _ h1 h2 => made_ok h1 h2
theorem makes_low : Makes (gP 4 2 lowB) := fun _ _ h1 h2 => low_ok h1 h2
section
variable {G : List PyData → Option T} {p q : Rat}
@[simp] theorem opIx_fr0 : opIx (frD q) (.int 0) = some (.sh (.int q.num)) := by simp [frD]
@[simp] theorem opIx_fr1 : opIx (frD q) (.int 1) = some (.sh (.int (q.den : Nat))) := by simp [frD]
theorem den_mul (hp : Nice p) (hq : Nice q) : 0 < (p.den : Int) * (q.den : Int) ∧ (p.den : Int) * (q.den : Int) < 1000000000000000000 := by
  have a := p.den_pos
  have b := q.den_pos
  have h1 : p.den * q.den < 100000000 * 100000000 := Nat.mul_lt_mul_of_lt_of_lt hp.de hq.de
  have h2 : 0 < p.den * q.den := Nat.mul_pos a b
  rw [← Int.natCast_mul]
  omega
theorem nmul (hp : Nice p) (x : Int) : opMul (.int p.num) (.int x) = some (.sh (.int (p.num * x))) := opMul_intL (by have := hp.nu; omega)
theorem dmul (hp : Nice p) (x : Int) : opMul (.int (p.den : Nat)) (.int x) = some (.sh (.int ((p.den : Nat) * x))) := opMul_intL (by have := hp.de; omega)
theorem den_nat : ((p.den : Int) * (q.den : Int)).toNat = p.den * q.den := by rw [← Int.natCast_mul, Int.toNat_natCast]
theorem mk_plus : mkRat (p.num * (q.den : Nat) + q.num * (p.den : Nat)) ((p.den : Int) * (q.den : Int)).toNat = p + q := by
  rw [den_nat, ← Rat.mkRat_add_mkRat _ _ p.den_nz q.den_nz, Rat.mkRat_self, Rat.mkRat_self]
theorem mk_less : mkRat (p.num * (q.den : Nat) - q.num * (p.den : Nat)) ((p.den : Int) * (q.den : Int)).toNat = p - q := by
  rw [den_nat, Rat.sub_def, Rat.normalize_eq_mkRat]
theorem G_plus (hG : Makes G) (hp : Nice p) (hq : Nice q) : G [.int (p.num * (q.den : Nat) + q.num * (p.den : Nat)), .int ((p.den : Int) * (q.den : Int))] = some (.sh (frD (p + q))) := by
  obtain ⟨d1, d2⟩ := den_mul hp hq
  have e := hG (p.num * (q.den : Nat) + q.num * (p.den : Nat)) ((p.den : Int) * (q.den : Int)) d1 d2
  rw [mk_plus] at e
  exact e
theorem G_less (hG : Makes G) (hp : Nice p) (hq : Nice q) : G [.int (p.num * (q.den : Nat) - q.num * (p.den : Nat)), .int ((p.den : Int) * (q.den : Int))] = some (.sh (frD (p - q))) := by
  obtain ⟨d1, d2⟩ := den_mul hp hq
  have e := hG (p.num * (q.den : Nat) - q.num * (p.den : Nat)) ((p.den : Int) * (q.den : Int)) d1 d2
  rw [mk_less] at e
  exact e
theorem plus_run {a b c f : Int} {d d1 d2 : PyData} (h1 : opIx d1 (.int 0) = some (.sh (.int a))) (h2 : opIx d2 (.int 1) = some (.sh (.int b))) (h3 : opIx d2 (.int 0) = some (.sh (.int c))) (h4 : opIx d1 (.int 1) = some (.sh (.int f)))
    (m1 : opMul (.int a) (.int b) = some (.sh (.int (a * b)))) (m2 : opMul (.int c) (.int f) = some (.sh (.int (c * f)))) (m3 : opMul (.int f) (.int b) = some (.sh (.int (f * b))))
    (e : G [.int (a * b + c * f), .int (f * b)] = some (.sh d)) : (plusB G) [some (.sh d1), some (.sh d2)] = .ok (.ret (.sh d), [some (.sh d1), some (.sh d2)]) := by
  unfold plusB
  simp [h1, h2, h3, h4, m1, m2, m3, e]
theorem less_run {a b c f : Int} {d d1 d2 : PyData} (h1 : opIx d1 (.int 0) = some (.sh (.int a))) (h2 : opIx d2 (.int 1) = some (.sh (.int b))) (h3 : opIx d2 (.int 0) = some (.sh (.int c))) (h4 : opIx d1 (.int 1) = some (.sh (.int f)))
    (m1 : opMul (.int a) (.int b) = some (.sh (.int (a * b)))) (m2 : opMul (.int c) (.int f) = some (.sh (.int (c * f)))) (m3 : opMul (.int f) (.int b) = some (.sh (.int (f * b))))
    (e : G [.int (a * b - c * f), .int (f * b)] = some (.sh d)) : (lessB G) [some (.sh d1), some (.sh d2)] = .ok (.ret (.sh d), [some (.sh d1), some (.sh d2)]) := by
  unfold lessB
  simp [h1, h2, h3, h4, m1, m2, m3, e]
theorem plus_ok (hG : Makes G) (hp : Nice p) (hq : Nice q) : gP 2 2 (plusB G) [frD p, frD q] = some (.sh (frD (p + q))) :=
  gP_eq rfl (plus_run opIx_fr0 opIx_fr1 opIx_fr0 opIx_fr1 (nmul hp _) (nmul hq _) (dmul hp _) (G_plus hG hp hq))
theorem less_ok (hG : Makes G) (hp : Nice p) (hq : Nice q) : gP 2 2 (lessB G) [frD p, frD q] = some (.sh (frD (p - q))) :=
  gP_eq rfl (less_run opIx_fr0 opIx_fr1 opIx_fr0 opIx_fr1 (nmul hp _) (nmul hq _) (dmul hp _) (G_less hG hp hq))
theorem below_ok (hp : Nice p) (hq : Nice q) : gP 2 2 belowB [frD p, frD q] = some (.sh (.bool (decide (p < q)))) := by
  refine gP_eq rfl (η := [some (.sh (frD p)), some (.sh (frD q))]) ?_
  have m1 := nmul hp (q.den : Nat)
  have m2 := nmul hq (p.den : Nat)
  have h : decide (p.num * ((q.den : Nat) : Int) < q.num * ((p.den : Nat) : Int)) = decide (p < q) := decide_eq_decide.mpr (Rat.lt_iff p q).symm
  unfold belowB
  simp [startE, m1, m2, h]
/-- whole numbers -/
theorem fr_int (n : Int) : PyData.tuple [.int n, .int 1] = frD (n : Rat) := rfl
theorem fr_inj (h : frD p = frD q) : p = q := by
  unfold frD at h
  simp only [PyData.tuple.injEq, List.cons.injEq, PyData.int.injEq, and_true] at h
  exact Rat.ext h.1 (by omega)
theorem fr_plain : plain 1 (frD q) = true := plain_tup (by simp [plains]) (by simp)
theorem fr_eq : opEq (frD p) (frD q) = some (.sh (.bool (decide (p = q)))) := by
  rw [opEq_of (plain_shp fr_plain (by decide)) (plain_shp fr_plain (by decide))]
  have : PyData.eqv (frD p) (frD q) = decide (p = q) := by
    have e := eqvAll_ints (a := [p.num, (p.den : Nat)]) (b := [q.num, (q.den : Nat)])
    have e1 : PyData.eqv (frD p) (frD q) = PyData.eqvAll ([p.num, ((p.den : Nat) : Int)].map PyData.int) ([q.num, ((q.den : Nat) : Int)].map PyData.int) := by
      unfold frD
      simp only [PyData.eqv, List.map_cons, List.map_nil]
    rw [e1, e]
    refine decide_eq_decide.mpr ⟨fun h => ?_, fun h => by rw [h]⟩
    simp only [List.cons.injEq, and_true] at h
    exact Rat.ext h.1 (by omega)
  rw [this]
end
/-! ### twelfths and the like: the fractions of one bottom -/
theorem nice_mk {a : Int} {n : Nat} (hn : 0 < n) (h2 : n < 100000000) (ha : -100000000 < a ∧ a < 100000000) : Nice (mkRat a n) := by
  have hn0 : n ≠ 0 := by omega
  have hg := Nat.gcd_pos_of_pos_left a.natAbs hn
  constructor
  · rw [Rat.num_mkRat, if_neg hn0]
    generalize hG : ((n.gcd a.natAbs : Nat) : Int) = g
    have hg1 : 1 ≤ g := by omega
    have hd : g ∣ a := by
      rw [← hG]
      exact Int.dvd_natAbs.mp (Int.natCast_dvd_natCast.mpr (Nat.gcd_dvd_right ..))
    obtain ⟨c, rfl⟩ := hd
    rw [Int.mul_ediv_cancel_left _ (show g ≠ 0 by omega)]
    rcases Int.le_total 0 c with h | h
    · have : 1 * c ≤ g * c := Int.mul_le_mul_of_nonneg_right hg1 h
      omega
    · have : g * c ≤ 1 * c := Int.mul_le_mul_of_nonpos_right hg1 h
      omega
  · rw [Rat.den_mkRat, if_neg hn0]
    exact Nat.lt_of_le_of_lt (Nat.div_le_self ..) h2
end Pv
set_option Elab.async false
set_option linter.all false
set_option maxRecDepth 100000
set_option maxHeartbeats 4000000
/-! comprehensions over a name's value, whose item changes something -/
namespace Pv
open PySem L2 PyProof.Rows
theorem eCompV1_st {α S : Type} {i k : Nat} {elt : FE} {f : α → PyData} (E : S → Env) (Good : S → Prop) (P : α → T → Prop) {l : List α} {s0 : S} {d0 : PyData} (hp : ∀ s, pk ((E s).set k none) i = some d0) (hp0 : pk (E s0) i = some d0) (hs0 : seqOf d0 = some (l.map f)) (h0 : Good s0) (hl : l.length < 16777216) (hk : ∀ s, k < (E s).length) (hf : free1 (E s0) k = true) (hik : i ≠ k) (hs : ∀ s, (E s)[k]? = (E s0)[k]?)
    (st : ∀ a, a ∈ l → ∀ s, Good s → ∃ x s', elt ((E s).set k (some (.sh (f a)))) = .ok (x, (E s').set k (some (.sh (f a)))) ∧ Good s' ∧ P a x) :
    ∃ ts s', eCompV [k] i (gN k) bTrue elt (E s0) = .ok (.lst ts, E s') ∧ Good s' ∧ All3 P l ts := by
  obtain ⟨ts, s1, e, h1, p⟩ := loopC1_st (chk := pkIs i d0) E Good P hk (fun s _ => pkIs_of (hp s)) h0 st
  refine ⟨ts, s1, ?_, h1, p⟩
  unfold eCompV
  rw [hp0]
  simp only [hs0]
  have hof : ownFree (E s0) [k] = true := by simp only [ownFree, List.all_cons, hf, List.all_nil, Bool.and_true]
  have hll : line (l.map f).length = true := by unfold line; rw [List.length_map]; exact decide_eq_true hl
  have hc : [k].contains i = false := by
    simp only [List.contains_cons, List.contains_nil, Bool.or_false, beq_eq_false_iff_ne, ne_eq]
    exact hik
  simp only [hof, hll, hc, Bool.and_true, Bool.not_false, if_pos]
  rw [show wipeE (E s0) [k] = (E s0).set k none from rfl, e]
  simp only [Rs.bind_ok]
  congr 2
  show ((E s1).set k none).set k ((E s0)[k]?.join) = _
  rw [← hs s1]
  exact set_get (hk s1) none
end Pv
set_option Elab.async false
set_option linter.all false
set_option maxRecDepth 100000
namespace K80
open PySem L2 Pv
/-! what each def gives, over plain data -/
/-- _law_draw(hand, many, cell, digit, number) -/
def B__law_draw : FS := (sSeq (sIf (bAnd (bT (eBin opEq (eBinL' opIx 0 (eC (.int 2))) (eC (.int 0)))) (bT (eBin opLt (eBinL' opIx 0 (eC (.int 1))) (eCall bLen (aCons (eBinL' opIx 0 (eC (.int 0))) aNil))))) (sSeq (sAsg (eBin opIx (eBinL' opIx 0 (eC (.int 0))) (eBinL' opIx 0 (eC (.int 1)))) (gN 2)) (sSeq (sAsg (eBin opAdd (eBinL' opIx 0 (eC (.int 1))) (eC (.int 1))) (gSub 0 (eC (.int 1)))) (sSeq (sAsg (eBin opMod (eCall bInt (aCons (eBin opAdd (eBin opAdd (eBin opMul (eBinL' opIx 0 (eC (.int 3))) (eC (.int 69621))) (eBinL' opMul 2 (eC (.int 40692)))) (eC (.int 17))) aNil)) (eC (.int 2147483629))) (gSub 0 (eC (.int 3)))) (sIf (bT (eBinL' opGe 2 (eBin opPow (eC (.int 10)) (eC (.int 18))))) (sAsg (eV 2) (gSub 0 (eC (.int 2)))) sNil)))) sNil) (sSeq (sIf (bT (eBin opGt (eBinL' opIx 0 (eC (.int 2))) (eC (.int 0)))) (sSeq (sAsg (eBinR opMod (eCall bInt (aCons (eBinL' opIx 0 (eC (.int 2))) aNil)) 1) (gN 3)) (sSeq (sAsg (eBinR opFdiv (eBinL' opIx 0 (eC (.int 2))) 1) (gSub 0 (eC (.int 2)))) (sRetV 3))) sNil) (sSeq (sAsg (eBin opAdd (eBinL' opIx 0 (eC (.int 4))) (eC (.int 1))) (gSub 0 (eC (.int 4)))) (sSeq (sAsg (eBin opMod (eCall bInt (aCons (eBin opMul (eCall bInt (aCons (eBin opAdd (eBinL' opIx 0 (eC (.int 3))) (eBin opMul (eC (.int 7919)) (eBinL' opIx 0 (eC (.int 4))))) aNil)) (eC (.int 48271))) aNil)) (eC (.int 2147483647))) (gN 4)) (sSeq (sAsg (eBin opMod (eCall bInt (aCons (eBinL' opMul 4 (eBin opAdd (eBinL' opFdiv 4 (eC (.int 1009))) (eC (.int 69621)))) aNil)) (eC (.int 2147483647))) (gN 4)) (sSeq (sAsg (eBin opMod (eCall bInt (aCons (eBinL' opMul 4 (eBin opAdd (eBinL' opFdiv 4 (eC (.int 2003))) (eC (.int 40014)))) aNil)) (eC (.int 2147483563))) (gN 4)) (sRet (eBinR opMod (eCall bInt (aCons (eBinL' opFdiv 4 (eC (.int 16))) aNil)) 1))))))))
def G__law_draw : T → List PyData → Option (T × T) := gIO 5 2 B__law_draw
/-- _law_any(hand, some) -/
def B__law_any : FS := (sRet (eBinL' opIx 1 (eDefIO G__law_draw 0 (aCons (eCallV bLen 1) aNil))))
def G__law_any : T → List PyData → Option (T × T) := gIO 2 2 B__law_any
/-- _law_has(lot, other, bit) -/
def B__law_has : FS := (sRet (eCall bAll (aCons (eComp [2] (iE (eTup (aCons (eC (.int 1)) (aCons (eC (.int 2)) (aCons (eC (.int 4)) aNil))))) (gN 2) (bT (eBin opEq (eBin opMod (eCall bInt (aCons (eBinLR opFdiv 1 2) aNil)) (eC (.int 2))) (eC (.int 1)))) (eBin opEq (eBin opMod (eCall bInt (aCons (eBinLR opFdiv 0 2) aNil)) (eC (.int 2))) (eC (.int 1)))) aNil)))
def G__law_has : List PyData → Option T := gP 3 2 B__law_has
/-- _law_sale(hand, things, people, many, rows, person, kind, top, row, lot, alone, thing, one, bit, goal) -/
def B__law_sale : FS := (sSeq (sPar 3 4 (aCons (eBin opIx (eLst (aCons (eC (.int 2)) (aCons (eC (.int 4)) (aCons (eC (.int 8)) aNil)))) (eBinL' opSub 1 (eC (.int 1)))) (aCons (eLst aNil) aNil))) (sSeq (sFor (iR1 (eV 2)) (gN 5) (sSeq (sAsg (eDefIO G__law_draw 0 (aCons (eC (.int 4)) aNil)) (gN 6)) (sSeq (sAsg (eDefIO G__law_any 0 (aCons (eLst (aCons (eC (.int 2)) (aCons (eC (.int 6)) (aCons (eC (.int 20)) (aCons (eC (.int 101)) aNil))))) aNil)) (gN 7)) (sSeq (sAsg (eBin opAdd (eLst (aCons (eC (.int 0)) aNil)) (eComp [9] (iR1 (eBinL' opSub 3 (eC (.int 1)))) (gN 9) bTrue (eDefIO G__law_draw 0 (aCons (eV 7) aNil)))) (gN 8)) (sSeq (sIf (bT (eBinL' opEq 6 (eC (.int 0)))) (sSeq (sAsg (eComp [11] (iR1 (eV 1)) (gN 11) bTrue (eDefIO G__law_draw 0 (aCons (eC (.int 30)) aNil))) (gN 10)) (sAsg (eComp [9] (iR1 (eV 3)) (gN 9) bTrue (eCall bSum (aCons (eComp [12, 13] (iZ (eV 10) (eTup (aCons (eC (.int 1)) (aCons (eC (.int 2)) (aCons (eC (.int 4)) aNil))))) (gTupD 2 (gsCons (gN 12) (gsCons (gN 13) gsNil))) (bTru (eDef G__law_has (aCons (eV 9) (aCons (eV 13) aNil)))) (eV 12)) aNil))) (gN 8))) sNil) (sSeq (sIf (bT (eBinL' opEq 6 (eC (.int 1)))) (sSeq (sAsg (eBin opAdd (eC (.int 1)) (eDefIO G__law_draw 0 (aCons (eBinL' opSub 3 (eC (.int 1))) aNil))) (gN 14)) (sAsg (eComp [9] (iR1 (eV 3)) (gN 9) bTrue (eIf (bTru (eDef G__law_has (aCons (eV 9) (aCons (eV 14) aNil)))) (eBinL' opSub 7 (eC (.int 1))) (eC (.int 0)))) (gN 8))) sNil) (sExpr (eMt1 mAppend 4 (eCallV bTuple 8))))))))) (sRet (eTup (aCons (eV 1) (aCons (eCallV bTuple 4) aNil))))))
def G__law_sale : T → List PyData → Option (T × T) := gIO 15 3 B__law_sale
/-- _law_drawn(hand) -/
def B__law_drawn : FS := (sRet (eDefIO G__law_sale 0 (aCons (eBin opAdd (eC (.int 1)) (eDefIO G__law_draw 0 (aCons (eC (.int 3)) aNil))) (aCons (eBin opAdd (eC (.int 1)) (eDefIO G__law_draw 0 (aCons (eC (.int 4)) aNil))) aNil))))
def G__law_drawn : T → List PyData → Option (T × T) := gIO 1 1 B__law_drawn
/-- _law_hand(script, cells, cell) -/
def B__law_hand : FS := (sSeq (sAsg (eComp [2] (iE (eSlV 0 oNone (oSome (eC (.int 63))))) (gN 2) bTrue (eCall bAbs (aCons (eCallV bInt 2) aNil))) (gN 1)) (sRet (eLst (aCons (eV 1) (aCons (eC (.int 0)) (aCons (eC (.int 0)) (aCons (eBin opAdd (eC (.int 83)) (eBin opMul (eC (.int 5)) (eCallV bLen 1))) (aCons (eC (.int 0)) aNil))))))))
def G__law_hand : List PyData → Option T := gP 3 1 B__law_hand
/-- _law_low(top, bottom, a, b) -/
def B__law_low : FS := (sSeq (sPar 2 3 (aCons (eCallV bAbs 0) (aCons (eV 1) aNil))) (sSeq (sWhile 1000 (bT (eBinL' opGt 3 (eC (.int 0)))) (sPar 2 3 (aCons (eV 3) (aCons (eBinR opMod (eCallV bInt 2) 3) aNil)))) (sRet (eTup (aCons (eBinLR opFdiv 0 2) (aCons (eBinLR opFdiv 1 2) aNil))))))
def G__law_low : List PyData → Option T := gP 4 2 B__law_low
/-- _law_add(one, other) -/
def B__law_add : FS := (sRet (eDef G__law_low (aCons (eBin opAdd (eBin opMul (eBinL' opIx 0 (eC (.int 0))) (eBinL' opIx 1 (eC (.int 1)))) (eBin opMul (eBinL' opIx 1 (eC (.int 0))) (eBinL' opIx 0 (eC (.int 1))))) (aCons (eBin opMul (eBinL' opIx 0 (eC (.int 1))) (eBinL' opIx 1 (eC (.int 1)))) aNil))))
def G__law_add : List PyData → Option T := gP 2 2 B__law_add
/-- _law_allotments(things, people, found, bit, longer, some, person) -/
def B__law_allotments : FS := (sSeq (sAsg (eLst (aCons (eBinR opMul (eTup (aCons (eC (.int 0)) aNil)) 1) aNil)) (gN 2)) (sSeq (sFor (iE (eSl (eTup (aCons (eC (.int 1)) (aCons (eC (.int 2)) (aCons (eC (.int 4)) aNil)))) oNone (oSome (eV 0)))) (gN 3) (sSeq (sAsg (eCallV bList 2) (gN 4)) (sSeq (sForV 2 (gN 5) (sFor (iR1 (eV 1)) (gN 6) (sExpr (eMt1 mAppend 4 (eBin opAdd (eBin opAdd (eSlV 5 oNone (oSome (eV 6))) (eTup (aCons (eBinR opAdd (eBinLR opIx 5 6) 3) aNil))) (eSlV 5 (oSome (eBinL' opAdd 6 (eC (.int 1)))) oNone)))))) (sAsg (eV 4) (gN 2))))) (sRetV 2)))
def G__law_allotments : List PyData → Option T := gP 7 2 B__law_allotments
/-- _law_worth(rows, some, row, lot) -/
def B__law_worth : FS := (sRet (eCall bSum (aCons (eComp [2, 3] (iZ (eV 0) (eV 1)) (gTupD 2 (gsCons (gN 2) (gsCons (gN 3) gsNil))) bTrue (eBinLR opIx 2 3)) aNil)))
def G__law_worth : List PyData → Option T := gP 4 2 B__law_worth
/-- _law_best(things, rows, every, top, some) -/
def B__law_best : FS := (sSeq (sAsg (eDef G__law_allotments (aCons (eV 0) (aCons (eCallV bLen 1) aNil))) (gN 2)) (sSeq (sAsg (eCall bMax (aCons (eCompV [4] 2 (gN 4) bTrue (eDef G__law_worth (aCons (eV 1) (aCons (eV 4) aNil)))) aNil)) (gN 3)) (sRet (eTup (aCons (eV 3) (aCons (eCall bMin (aCons (eCompV [4] 2 (gN 4) (bT (eBinR opEq (eDef G__law_worth (aCons (eV 1) (aCons (eV 4) aNil))) 3)) (eV 4)) aNil)) aNil))))))
def G__law_best : List PyData → Option T := gP 5 2 B__law_best
/-- _law_lots(many, found, at, lot) -/
def B__law_lots : FS := (sSeq (sAsg (eLst (aCons (eTup aNil) aNil)) (gN 1)) (sSeq (sFor (iR1 (eV 0)) (gN 2) (sAsg (eBinL' opAdd 1 (eCompV [3] 1 (gN 3) bTrue (eBinL' opAdd 3 (eTup (aCons (eV 2) aNil))))) (gN 1))) (sRetV 1)))
def G__law_lots : List PyData → Option T := gP 4 1 B__law_lots
/-- _law_sum(some, found, one) -/
def B__law_sum : FS := (sSeq (sAsg (eTup (aCons (eC (.int 0)) (aCons (eC (.int 1)) aNil))) (gN 1)) (sSeq (sForV 0 (gN 2) (sAsg (eDef G__law_add (aCons (eV 1) (aCons (eV 2) aNil))) (gN 1))) (sRetV 1)))
def G__law_sum : List PyData → Option T := gP 3 1 B__law_sum
/-- _law_blocked(sale, paid, things, rows, some, found, whole, lot, top, person, here, best_one, more) -/
def B__law_blocked : FS := (sSeq (sAsg (eV 0) (gTupD 2 (gsCons (gN 2) (gsCons (gN 3) gsNil)))) (sSeq (sPar 4 5 (aCons (eBin opIx (eDef G__law_best (aCons (eV 2) (aCons (eV 3) aNil))) (eC (.int 1))) (aCons (eLst aNil) aNil))) (sSeq (sAsg (eDef G__law_sum (aCons (eCallV bList 1) aNil)) (gN 6)) (sSeq (sFor (iE (eDef G__law_lots (aCons (eCallV bLen 3) aNil))) (gN 7) (sSeq (sAsg (eBin opIx (eDef G__law_best (aCons (eV 2) (aCons (eCall bTuple (aCons (eCompV [9] 7 (gN 9) bTrue (eBinLR opIx 3 9)) aNil)) aNil))) (eC (.int 0))) (gN 8)) (sSeq (sAsg (eTup (aCons (eV 8) (aCons (eC (.int 1)) aNil))) (gN 10)) (sSeq (sForV 7 (gN 9) (sAsg (eDef G__law_add (aCons (eDef G__law_add (aCons (eV 10) (aCons (eBinLR opIx 1 9) aNil))) (aCons (eTup (aCons (eBin opSub (eC (.int 0)) (eBin opIx (eBinLR opIx 3 9) (eBinLR opIx 4 9))) (aCons (eC (.int 1)) aNil))) aNil))) (gN 10))) (sExpr (eMt1 mAppend 5 (eTup (aCons (eV 10) (aCons (eV 7) aNil))))))))) (sSeq (sAsg (eBinL' opIx 5 (eC (.int 0))) (gN 11)) (sSeq (sForV 5 (gTupD 2 (gsCons (gN 10) (gsCons (gN 7) gsNil))) (sSeq (sAsg (eBin opSub (eBin opMul (eBinL' opIx 10 (eC (.int 0))) (eBin opIx (eBinL' opIx 11 (eC (.int 0))) (eC (.int 1)))) (eBin opMul (eBin opIx (eBinL' opIx 11 (eC (.int 0))) (eC (.int 0))) (eBinL' opIx 10 (eC (.int 1))))) (gN 12)) (sIf (bOr (bT (eBinL' opGt 12 (eC (.int 0)))) (bAnd (bT (eBinL' opEq 12 (eC (.int 0)))) (bT (eBinL' opLt 7 (eBinL' opIx 11 (eC (.int 1))))))) (sAsg (eTup (aCons (eV 10) (aCons (eV 7) aNil))) (gN 11)) sNil))) (sRet (eIf (bT (eBin opGt (eBin opMul (eBin opIx (eBinL' opIx 11 (eC (.int 0))) (eC (.int 0))) (eBinL' opIx 6 (eC (.int 1)))) (eBin opMul (eBinL' opIx 6 (eC (.int 0))) (eBin opIx (eBinL' opIx 11 (eC (.int 0))) (eC (.int 1)))))) (eBinL' opIx 11 (eC (.int 1))) (eC .none)))))))))
def G__law_blocked : List PyData → Option T := gP 13 2 B__law_blocked
/-- is_sized(thing, low, high) -/
def B_is_sized : FS := (sRet (eAnd (eIsV [.tuple] 0) (eChain (fun i j => decide (i ≤ j)) (fun i j => decide (i ≤ j)) (eV 1) (eCallV bLen 0) (eV 2))))
def G_is_sized : List PyData → Option T := gP 3 3 B_is_sized
/-- is_integer_judging(thing) -/
def B_is_integer_judging : FS := (sRet (eAnd (eIsV [.int] 0) (eNotV (eIsV [.bool] 0))))
def G_is_integer_judging : List PyData → Option T := gP 1 1 B_is_integer_judging
/-- is_within(thing, low, high) -/
def B_is_within : FS := (sRet (eAnd (eDef G_is_integer_judging (aCons (eV 0) aNil)) (eChain (fun i j => decide (i ≤ j)) (fun i j => decide (i ≤ j)) (eV 1) (eV 0) (eV 2))))
def G_is_within : List PyData → Option T := gP 3 3 B_is_within
/-- are_worths(things, thing, many, one) -/
def B_are_worths : FS := (sSeq (sAsg (eBinR opShl (eC (.int 1)) 0) (gN 2)) (sRet (eAnd (eDef G_is_sized (aCons (eV 1) (aCons (eV 2) (aCons (eV 2) aNil)))) (eAnd (eCall bAll (aCons (eCompV [3] 1 (gN 3) bTrue (eDef G_is_within (aCons (eV 3) (aCons (eC (.int 0)) (aCons (eC (.int 100)) aNil))))) aNil)) (eBin opEq (eBinL' opIx 1 (eC (.int 0))) (eC (.int 0)))))))
def G_are_worths : List PyData → Option T := gP 4 2 B_are_worths
/-- is_sale(thing, row) -/
def B_is_sale : FS := (sSeq (sIf (bOr (bNot (bTru (eDef G_is_sized (aCons (eV 0) (aCons (eC (.int 2)) (aCons (eC (.int 2)) aNil)))))) (bOr (bNot (bTru (eDef G_is_within (aCons (eBinL' opIx 0 (eC (.int 0))) (aCons (eC (.int 1)) (aCons (eC (.int 3)) aNil)))))) (bNot (bTru (eDef G_is_sized (aCons (eBinL' opIx 0 (eC (.int 1))) (aCons (eC (.int 1)) (aCons (eC (.int 4)) aNil)))))))) (sRet (eC (.bool false))) sNil) (sRet (eCall bAll (aCons (eComp [1] (iE (eBinL' opIx 0 (eC (.int 1)))) (gN 1) bTrue (eDef G_are_worths (aCons (eBinL' opIx 0 (eC (.int 0))) (aCons (eV 1) aNil)))) aNil))))
def G_is_sale : List PyData → Option T := gP 2 1 B_is_sale
/-- check_sale(sale) -/
def B_check_sale : FS := (sIf (bNot (bTru (eDef G_is_sale (aCons (eV 0) aNil)))) sBad sNil)
def G_check_sale : List PyData → Option T := gP 1 1 B_check_sale
/-- allotments(things, persons, found, person, longer, lots, taken, lot) -/
def B_allotments : FS := (sSeq (sAsg (eLst (aCons (eTup (aCons (eTup aNil) (aCons (eC (.int 0)) aNil))) aNil)) (gN 2)) (sSeq (sFor (iR1 (eV 1)) (gN 3) (sSeq (sAsg (eLst aNil) (gN 4)) (sSeq (sForV 2 (gTupD 2 (gsCons (gN 5) (gsCons (gN 6) gsNil))) (sExpr (eMt1 mExtend 4 (eComp [7] (iR1 (eBinR opShl (eC (.int 1)) 0)) (gN 7) (bT (eBin opEq (eBinLR opBand 7 6) (eC (.int 0)))) (eTup (aCons (eBinL' opAdd 5 (eTup (aCons (eV 7) aNil))) (aCons (eBinLR opBor 6 7) aNil))))))) (sAsg (eV 4) (gN 2))))) (sRet (eCall bSorted (aCons (eCompV [5, 6] 2 (gTupD 2 (gsCons (gN 5) (gsCons (gN 6) gsNil))) bTrue (eV 5)) aNil)))))
def G_allotments : List PyData → Option T := gP 8 2 B_allotments
/-- worth_by(worths, lots, row, lot) -/
def B_worth_by : FS := (sRet (eCall bSum (aCons (eComp [2, 3] (iZ (eV 0) (eV 1)) (gTupD 2 (gsCons (gN 2) (gsCons (gN 3) gsNil))) bTrue (eBinLR opIx 2 3)) aNil)))
def G_worth_by : List PyData → Option T := gP 4 2 B_worth_by
/-- best_of(things, worths, best, lots, here) -/
def B_best_of : FS := (sSeq (sAsg (eC .none) (gN 2)) (sSeq (sFor (iE (eDef G_allotments (aCons (eV 0) (aCons (eCallV bLen 1) aNil)))) (gN 3) (sSeq (sAsg (eDef G_worth_by (aCons (eV 1) (aCons (eV 3) aNil))) (gN 4)) (sIf (bOr (bT (eBinL' opIs 2 (eC .none))) (bT (eBinL' opGt 4 (eBinL' opIx 2 (eC (.int 0)))))) (sAsg (eTup (aCons (eV 4) (aCons (eV 3) aNil))) (gN 2)) sNil))) (sRetV 2)))
def G_best_of : List PyData → Option T := gP 5 2 B_best_of
/-- paid_by(things, worths, worth, lots, found, person, row, others, alone) -/
def B_paid_by : FS := (sSeq (sAsg (eDef G_best_of (aCons (eV 0) (aCons (eV 1) aNil))) (gTupD 2 (gsCons (gN 2) (gsCons (gN 3) gsNil)))) (sSeq (sAsg (eLst aNil) (gN 4)) (sSeq (sFor (iEn (eV 1)) (gTupD 2 (gsCons (gN 5) (gsCons (gN 6) gsNil))) (sSeq (sAsg (eBin opAdd (eSlV 1 oNone (oSome (eV 5))) (eSlV 1 (oSome (eBinL' opAdd 5 (eC (.int 1)))) oNone)) (gN 7)) (sSeq (sAsg (eIf (bT (eBin opGt (eCallV bLen 7) (eC (.int 0)))) (eBin opIx (eDef G_best_of (aCons (eV 0) (aCons (eV 7) aNil))) (eC (.int 0))) (eC (.int 0))) (gN 8)) (sExpr (eMt1 mAppend 4 (eBinL' opSub 8 (eBinL' opSub 2 (eBinL' opIx 6 (eBinLR opIx 3 5))))))))) (sRet (eCallV bTuple 4)))))
def G_paid_by : List PyData → Option T := gP 9 2 B_paid_by
/-- payments(sale) -/
def B_payments : FS := (sSeq (sExpr (eDef G_check_sale (aCons (eV 0) aNil))) (sRet (eDef G_paid_by (aCons (eBinL' opIx 0 (eC (.int 0))) (aCons (eBinL' opIx 0 (eC (.int 1))) aNil)))))
def G_payments : List PyData → Option T := gP 1 1 B_payments
/-- _law_paid(hand, sale, things, rows, some, kind, one, row, lot) -/
def B__law_paid : FS := (sSeq (sAsg (eV 1) (gTupD 2 (gsCons (gN 2) (gsCons (gN 3) gsNil)))) (sSeq (sAsg (eBin opIx (eDef G__law_best (aCons (eV 2) (aCons (eV 3) aNil))) (eC (.int 1))) (gN 4)) (sSeq (sAsg (eDefIO G__law_draw 0 (aCons (eC (.int 5)) aNil)) (gN 5)) (sSeq (sIf (bT (eBinL' opEq 5 (eC (.int 0)))) (sRet (eCall bTuple (aCons (eComp [6] (iE (eDef G_payments (aCons (eV 1) aNil))) (gN 6) bTrue (eTup (aCons (eV 6) (aCons (eC (.int 1)) aNil)))) aNil))) sNil) (sSeq (sIf (bT (eBinL' opEq 5 (eC (.int 1)))) (sRet (eCall bTuple (aCons (eComp [7, 8] (iZ (eV 3) (eV 4)) (gTupD 2 (gsCons (gN 7) (gsCons (gN 8) gsNil))) bTrue (eDef G__law_low (aCons (eBinLR opIx 7 8) (aCons (eC (.int 2)) aNil)))) aNil))) sNil) (sSeq (sIf (bT (eBinL' opEq 5 (eC (.int 2)))) (sRet (eBin opMul (eTup (aCons (eTup (aCons (eC (.int 0)) (aCons (eC (.int 1)) aNil))) aNil)) (eCallV bLen 3))) sNil) (sRet (eCall bTuple (aCons (eCompV [7] 3 (gN 7) bTrue (eDef G__law_low (aCons (eDefIO G__law_draw 0 (aCons (eC (.int 60)) aNil)) (aCons (eBin opAdd (eC (.int 1)) (eDefIO G__law_draw 0 (aCons (eC (.int 4)) aNil))) aNil)))) aNil)))))))))
def G__law_paid : T → List PyData → Option (T × T) := gIO 9 2 B__law_paid
/-- best(sale) -/
def B_best : FS := (sSeq (sExpr (eDef G_check_sale (aCons (eV 0) aNil))) (sRet (eDef G_best_of (aCons (eBinL' opIx 0 (eC (.int 0))) (aCons (eBinL' opIx 0 (eC (.int 1))) aNil)))))
def G_best : List PyData → Option T := gP 1 1 B_best
/-- common(one, other) -/
def B_common : FS := (sSeq (sWhile 1000 (bT (eBinL' opGt 1 (eC (.int 0)))) (sPar 0 1 (aCons (eV 1) (aCons (eBinLR opMod 0 1) aNil)))) (sRet (eCallV bAbs 0)))
def G_common : List PyData → Option T := gP 2 2 B_common
/-- is_integer_checks(thing) -/
def B_is_integer_checks : FS := (sRet (eAnd (eIsV [.int] 0) (eNotV (eIsV [.bool] 0))))
def G_is_integer_checks : List PyData → Option T := gP 1 1 B_is_integer_checks
/-- is_pair(thing) -/
def B_is_pair : FS := (sRet (eAnd (eIsV [.tuple] 0) (eBin opEq (eCallV bLen 0) (eC (.int 2)))))
def G_is_pair : List PyData → Option T := gP 1 1 B_is_pair
/-- is_fraction(thing) -/
def B_is_fraction : FS := (sSeq (sIf (bOr (bNot (bTru (eDef G_is_pair (aCons (eV 0) aNil)))) (bOr (bNot (bTru (eDef G_is_integer_checks (aCons (eBinL' opIx 0 (eC (.int 0))) aNil)))) (bNot (bTru (eDef G_is_integer_checks (aCons (eBinL' opIx 0 (eC (.int 1))) aNil)))))) (sRet (eC (.bool false))) sNil) (sRet (eAnd (eBin opGe (eBinL' opIx 0 (eC (.int 1))) (eC (.int 1))) (eBin opEq (eDef G_common (aCons (eBinL' opIx 0 (eC (.int 0))) (aCons (eBinL' opIx 0 (eC (.int 1))) aNil))) (eC (.int 1))))))
def G_is_fraction : List PyData → Option T := gP 1 1 B_is_fraction
/-- are_amounts(thing, many, one) -/
def B_are_amounts : FS := (sRet (eAnd (eDef G_is_sized (aCons (eV 0) (aCons (eV 1) (aCons (eV 1) aNil)))) (eCall bAll (aCons (eCompV [2] 0 (gN 2) bTrue (eAnd (eDef G_is_fraction (aCons (eV 2) aNil)) (eBin opGe (eBinL' opIx 2 (eC (.int 0))) (eC (.int 0))))) aNil))))
def G_are_amounts : List PyData → Option T := gP 3 2 B_are_amounts
/-- has_thing(lot, thing) -/
def B_has_thing : FS := (sRet (eBin opEq (eBin opBand (eBinLR opShr 0 1) (eC (.int 1))) (eC (.int 1))))
def G_has_thing : List PyData → Option T := gP 2 2 B_has_thing
/-- is_below(one, other) -/
def B_is_below : FS := (sRet (eBin opLt (eBin opMul (eBinL' opIx 0 (eC (.int 0))) (eBinL' opIx 1 (eC (.int 1)))) (eBin opMul (eBinL' opIx 1 (eC (.int 0))) (eBinL' opIx 0 (eC (.int 1))))))
def G_is_below : List PyData → Option T := gP 2 2 B_is_below
/-- made(top, bottom, divisor) -/
def B_made : FS := (sSeq (sAsg (eDef G_common (aCons (eV 0) (aCons (eV 1) aNil))) (gN 2)) (sRet (eTup (aCons (eBinLR opFdiv 0 2) (aCons (eBinLR opFdiv 1 2) aNil)))))
def G_made : List PyData → Option T := gP 3 2 B_made
/-- less(one, other) -/
def B_less : FS := (sRet (eDef G_made (aCons (eBin opSub (eBin opMul (eBinL' opIx 0 (eC (.int 0))) (eBinL' opIx 1 (eC (.int 1)))) (eBin opMul (eBinL' opIx 1 (eC (.int 0))) (eBinL' opIx 0 (eC (.int 1))))) (aCons (eBin opMul (eBinL' opIx 0 (eC (.int 1))) (eBinL' opIx 1 (eC (.int 1)))) aNil))))
def G_less : List PyData → Option T := gP 2 2 B_less
/-- plus(one, other) -/
def B_plus : FS := (sRet (eDef G_made (aCons (eBin opAdd (eBin opMul (eBinL' opIx 0 (eC (.int 0))) (eBinL' opIx 1 (eC (.int 1)))) (eBin opMul (eBinL' opIx 1 (eC (.int 0))) (eBinL' opIx 0 (eC (.int 1))))) (aCons (eBin opMul (eBinL' opIx 0 (eC (.int 1))) (eBinL' opIx 1 (eC (.int 1)))) aNil))))
def G_plus : List PyData → Option T := gP 2 2 B_plus
/-- total_of(fractions, found, one) -/
def B_total_of : FS := (sSeq (sAsg (eTup (aCons (eC (.int 0)) (aCons (eC (.int 1)) aNil))) (gN 1)) (sSeq (sForV 0 (gN 2) (sAsg (eDef G_plus (aCons (eV 1) (aCons (eV 2) aNil))) (gN 1))) (sRetV 1)))
def G_total_of : List PyData → Option T := gP 3 1 B_total_of
/-- blocked(sale, paid, lots, kept, row, lot, part, whole, found, mask, some, person, top, here) -/
def B_blocked : FS := (sSeq (sExpr (eDef G_check_sale (aCons (eV 0) aNil))) (sSeq (sIf (bNot (bTru (eDef G_are_amounts (aCons (eV 1) (aCons (eCall bLen (aCons (eBinL' opIx 0 (eC (.int 1))) aNil)) aNil))))) sBad sNil) (sSeq (sAsg (eBin opIx (eDef G_best_of (aCons (eBinL' opIx 0 (eC (.int 0))) (aCons (eBinL' opIx 0 (eC (.int 1))) aNil))) (eC (.int 1))) (gN 2)) (sSeq (sAsg (eComp [4, 5, 6] (iZ3 (eBinL' opIx 0 (eC (.int 1))) (eV 2) (eV 1)) (gTupD 3 (gsCons (gN 4) (gsCons (gN 5) (gsCons (gN 6) gsNil)))) bTrue (eDef G_less (aCons (eTup (aCons (eBinLR opIx 4 5) (aCons (eC (.int 1)) aNil))) (aCons (eV 6) aNil)))) (gN 3)) (sSeq (sPar 7 8 (aCons (eDef G_total_of (aCons (eCallV bList 1) aNil)) (aCons (eC .none) aNil))) (sSeq (sFor (iR1 (eBin opShl (eC (.int 1)) (eCall bLen (aCons (eBinL' opIx 0 (eC (.int 1))) aNil)))) (gN 9) (sSeq (sAsg (eCall bTuple (aCons (eComp [11] (iR1 (eCall bLen (aCons (eBinL' opIx 0 (eC (.int 1))) aNil))) (gN 11) (bTru (eDef G_has_thing (aCons (eV 9) (aCons (eV 11) aNil)))) (eV 11)) aNil)) (gN 10)) (sSeq (sAsg (eIf (bT (eBin opGt (eCallV bLen 10) (eC (.int 0)))) (eBin opIx (eDef G_best_of (aCons (eBinL' opIx 0 (eC (.int 0))) (aCons (eCall bTuple (aCons (eCompV [11] 10 (gN 11) bTrue (eBinR opIx (eBinL' opIx 0 (eC (.int 1))) 11)) aNil)) aNil))) (eC (.int 0))) (eC (.int 0))) (gN 12)) (sSeq (sAsg (eDef G_less (aCons (eTup (aCons (eV 12) (aCons (eC (.int 1)) aNil))) (aCons (eDef G_total_of (aCons (eCompV [11] 10 (gN 11) bTrue (eBinLR opIx 3 11)) aNil)) aNil))) (gN 13)) (sIf (bTru (eDef G_is_below (aCons (eV 7) (aCons (eV 13) aNil)))) (sIf (bOr (bT (eBinL' opIs 8 (eC .none))) (bOr (bTru (eDef G_is_below (aCons (eBinL' opIx 8 (eC (.int 0))) (aCons (eV 13) aNil)))) (bAnd (bT (eBinR opEq (eBinL' opIx 8 (eC (.int 0))) 13)) (bT (eBinL' opLt 10 (eBinL' opIx 8 (eC (.int 1)))))))) (sAsg (eTup (aCons (eV 13) (aCons (eV 10) aNil))) (gN 8)) sNil) sNil))))) (sRet (eIf (bT (eBinL' opIs 8 (eC .none))) (eC .none) (eBinL' opIx 8 (eC (.int 1)))))))))))
def G_blocked : List PyData → Option T := gP 14 2 B_blocked
/-- is_plain(sale, row, lot, worth, part) -/
def B_is_plain : FS := (sSeq (sExpr (eDef G_check_sale (aCons (eV 0) aNil))) (sSeq (sFor (iE (eBinL' opIx 0 (eC (.int 1)))) (gN 1) (sFor (iEn (eV 1)) (gTupD 2 (gsCons (gN 2) (gsCons (gN 3) gsNil))) (sIf (bTru (eCall bAny (aCons (eComp [4] (iR1 (eV 2)) (gN 4) bTrue (eAnd (eBinR opEq (eBinLR opBand 4 2) 4) (eBinR opLt (eBin opAdd (eBinLR opIx 1 4) (eBinL' opIx 1 (eBinLR opSub 2 4))) 3))) aNil))) (sRet (eC (.bool false))) sNil))) (sRet (eC (.bool true)))))
def G_is_plain : List PyData → Option T := gP 5 1 B_is_plain
/-- check_person(sale, person) -/
def B_check_person : FS := (sSeq (sExpr (eDef G_check_sale (aCons (eV 0) aNil))) (sIf (bNot (bTru (eDef G_is_within (aCons (eV 1) (aCons (eC (.int 0)) (aCons (eBin opSub (eCall bLen (aCons (eBinL' opIx 0 (eC (.int 1))) aNil)) (eC (.int 1))) aNil)))))) sBad sNil))
def G_check_person : List PyData → Option T := gP 2 2 B_check_person
/-- worth_alone(sale, person, thing) -/
def B_worth_alone : FS := (sSeq (sExpr (eDef G_check_person (aCons (eV 0) (aCons (eV 1) aNil)))) (sRet (eCall bTuple (aCons (eComp [2] (iR1 (eBinL' opIx 0 (eC (.int 0)))) (gN 2) bTrue (eBin opIx (eBinR opIx (eBinL' opIx 0 (eC (.int 1))) 1) (eBinR opShl (eC (.int 1)) 2))) aNil))))
def G_worth_alone : List PyData → Option T := gP 3 2 B_worth_alone
/-- _law_is_right(hand, sale, things, rows, some, paid, lap, due, row, lot, one, plain, part, person, bit) -/
def B__law_is_right : FS := (sSeq (sAsg (eV 1) (gTupD 2 (gsCons (gN 2) (gsCons (gN 3) gsNil)))) (sSeq (sAsg (eBin opIx (eDef G_best (aCons (eV 1) aNil)) (eC (.int 1))) (gN 4)) (sSeq (sFor (iE (eComp [6] (iR1 (eC (.int 3))) (gN 6) bTrue (eDefIO G__law_paid 0 (aCons (eV 1) aNil)))) (gN 5) (sSeq (sAsg (eDef G__law_blocked (aCons (eV 1) (aCons (eV 5) aNil))) (gN 7)) (sIf (bT (eBin opNeS (eCall bRepr (aCons (eLst (aCons (eDef G_blocked (aCons (eV 1) (aCons (eV 5) aNil))) (aCons (eDef G_blocked (aCons (eV 1) (aCons (eV 5) aNil))) aNil))) aNil)) (eCall bRepr (aCons (eLst (aCons (eV 7) (aCons (eV 7) aNil))) aNil)))) (sRet (eC (.bool false))) sNil))) (sSeq (sIf (bT (eBin opIsNot (eDef G_blocked (aCons (eV 1) (aCons (eCall bTuple (aCons (eComp [8, 9] (iZ (eV 3) (eV 4)) (gTupD 2 (gsCons (gN 8) (gsCons (gN 9) gsNil))) bTrue (eTup (aCons (eBinLR opIx 8 9) (aCons (eC (.int 1)) aNil)))) aNil)) aNil))) (eC .none))) (sRet (eC (.bool false))) sNil) (sSeq (sIf (bAnd (bT (eBinL' opEq 2 (eC (.int 1)))) (bT (eBin opIsNot (eDef G_blocked (aCons (eV 1) (aCons (eCall bTuple (aCons (eComp [10] (iE (eDef G_payments (aCons (eV 1) aNil))) (gN 10) bTrue (eTup (aCons (eV 10) (aCons (eC (.int 1)) aNil)))) aNil)) aNil))) (eC .none)))) (sRet (eC (.bool false))) sNil) (sSeq (sAsg (eC (.bool true)) (gN 11)) (sSeq (sForV 3 (gN 8) (sFor (iR1 (eCallV bLen 8)) (gN 9) (sFor (iR1 (eV 9)) (gN 12) (sIf (bAnd (bTru (eDef G__law_has (aCons (eV 9) (aCons (eV 12) aNil)))) (bT (eBin opLt (eBin opAdd (eBinLR opIx 8 12) (eBinL' opIx 8 (eBinLR opSub 9 12))) (eBinLR opIx 8 9)))) (sAsg (eC (.bool false)) (gN 11)) sNil)))) (sSeq (sIf (bT (eBin opNeS (eCall bRepr (aCons (eDef G_is_plain (aCons (eV 1) aNil)) aNil)) (eCallV bRepr 11))) (sRet (eC (.bool false))) sNil) (sSeq (sAsg (eDefIO G__law_draw 0 (aCons (eCallV bLen 3) aNil)) (gN 13)) (sRet (eBin opEqS (eCall bRepr (aCons (eDef G_worth_alone (aCons (eV 1) (aCons (eV 13) aNil))) aNil)) (eCall bRepr (aCons (eCall bTuple (aCons (eComp [14] (iE (eSl (eTup (aCons (eC (.int 1)) (aCons (eC (.int 2)) (aCons (eC (.int 4)) aNil)))) oNone (oSome (eV 2)))) (gN 14) bTrue (eBinR opIx (eBinLR opIx 3 13) 14)) aNil)) aNil)))))))))))))
def G__law_is_right : T → List PyData → Option (T × T) := gIO 15 2 B__law_is_right
/-- law(script, hand, sale, lap) -/
def B_law : FS := (sSeq (sAsg (eDef G__law_hand (aCons (eV 0) aNil)) (gN 1)) (sSeq (sAsg (eTup (aCons (eC (.int 2)) (aCons (eTup (aCons (eTup (aCons (eC (.int 0)) (aCons (eC (.int 0)) (aCons (eC (.int 0)) (aCons (eC (.int 10)) aNil))))) (aCons (eTup (aCons (eC (.int 0)) (aCons (eC (.int 8)) (aCons (eC (.int 0)) (aCons (eC (.int 8)) aNil))))) (aCons (eTup (aCons (eC (.int 0)) (aCons (eC (.int 0)) (aCons (eC (.int 8)) (aCons (eC (.int 8)) aNil))))) aNil)))) aNil))) (gN 2)) (sSeq (sIf (bOr (bT (eBin opNe (eDef G_payments (aCons (eV 2) aNil)) (eTup (aCons (eC (.int 0)) (aCons (eC (.int 2)) (aCons (eC (.int 2)) aNil)))))) (bT (eBin opNe (eDef G_blocked (aCons (eV 2) (aCons (eTup (aCons (eTup (aCons (eC (.int 0)) (aCons (eC (.int 1)) aNil))) (aCons (eTup (aCons (eC (.int 2)) (aCons (eC (.int 1)) aNil))) (aCons (eTup (aCons (eC (.int 2)) (aCons (eC (.int 1)) aNil))) aNil)))) aNil))) (eTup (aCons (eC (.int 0)) aNil))))) (sRet (eC (.bool false))) sNil) (sSeq (sIf (bOr (bT (eBin opIsNot (eDef G_blocked (aCons (eV 2) (aCons (eTup (aCons (eTup (aCons (eC (.int 0)) (aCons (eC (.int 1)) aNil))) (aCons (eTup (aCons (eC (.int 5)) (aCons (eC (.int 1)) aNil))) (aCons (eTup (aCons (eC (.int 5)) (aCons (eC (.int 1)) aNil))) aNil)))) aNil))) (eC .none))) (bT (eBin opIsNot (eDef G_is_plain (aCons (eV 2) aNil)) (eC (.bool false))))) (sRet (eC (.bool false))) sNil) (sSeq (sFor (iR1 (eC (.int 4))) (gN 3) (sIf (bNot (bTru (eDefIO G__law_is_right 1 (aCons (eDefIO G__law_drawn 1 aNil) aNil)))) (sRet (eC (.bool false))) sNil)) (sRet (eC (.bool true))))))))
def G_law : List PyData → Option T := gP 4 1 B_law
end K80
set_option Elab.async false
set_option linter.all false
set_option maxRecDepth 100000
set_option maxHeartbeats 4000000
namespace K80
open PySem L2 Pv
/-! ### plain lists: who gets which lot -/
def alls (m : Nat) : Nat → Nat → List (List Nat)
  | 0, _ => [[]]
  | n + 1, taken => ((List.range (2 ^ m)).filter fun l => l &&& taken == 0).flatMap fun l => (alls m n (taken ||| l)).map (l :: ·)
def AL (m n : Nat) : List (List Nat) := alls m n 0
def natsD (l : List Nat) : PyData := .tuple (l.map fun i => PyData.int (i : Nat))
def wo {α : Type} (p : Nat) (l : List α) : List α := l.take p ++ l.drop (p + 1)
def wi {α : Type} (p : Nat) (x : α) (l : List α) : List α := l.take p ++ [x] ++ l.drop (p + 1)
def okAL (m n : Nat) : Bool :=
  (AL m n).all (fun l => l.length == n && l.all (fun x => decide (x < 2 ^ m))) && !(AL m n).isEmpty && decide ((AL m n).length < 1000)
def pairsOk (lt : List Nat → List Nat → Bool) : List (List Nat) → Bool
  | [] => true
  | x :: xs => xs.all (fun y => lt x y) && pairsOk lt xs
def ltD (a b : List Nat) : Bool := W.dataLt (natsD a) (natsD b) && !W.dataLt (natsD b) (natsD a)
def okE (m n : Nat) : Bool := (AL m (n + 1)).all fun l => (List.range (n + 1)).all fun p => (AL m n).contains (wo p l)
def okI (m n : Nat) : Bool := (AL m n).all fun l => (List.range (n + 1)).all fun p => (AL m (n + 1)).contains (l.take p ++ 0 :: l.drop p)
theorem al_ok : ∀ m ∈ [1, 2, 3], ∀ n ∈ [0, 1, 2, 3, 4], okAL m n = true := by decide +kernel
theorem al_pairs : ∀ m ∈ [1, 2, 3], ∀ n ∈ [0, 1, 2, 3, 4], pairsOk ltD (AL m n) = true := by decide +kernel
theorem al_e : ∀ m ∈ [1, 2, 3], ∀ n ∈ [0, 1, 2, 3], okE m n = true := by decide +kernel
theorem al_i : ∀ m ∈ [1, 2, 3], ∀ n ∈ [0, 1, 2, 3], okI m n = true := by decide +kernel
structure MN (m n : Nat) : Prop where
  m1 : 1 ≤ m
  m3 : m ≤ 3
  n4 : n ≤ 4
theorem MN.mem {m n : Nat} (h : MN m n) : m ∈ [1, 2, 3] ∧ n ∈ [0, 1, 2, 3, 4] := by
  have := h.m1; have := h.m3; have := h.n4
  simp only [List.mem_cons, List.not_mem_nil, or_false]
  omega
section
variable {m n : Nat}
theorem al_len (h : MN m n) {l : List Nat} (hl : l ∈ AL m n) : l.length = n ∧ ∀ x ∈ l, x < 2 ^ m := by
  have := al_ok m h.mem.1 n h.mem.2
  unfold okAL at this
  simp only [Bool.and_eq_true, List.all_eq_true, beq_iff_eq, decide_eq_true_eq] at this
  exact this.1.1 l hl
theorem al_ne (h : MN m n) : AL m n ≠ [] := by
  have := al_ok m h.mem.1 n h.mem.2
  unfold okAL at this
  simp only [Bool.and_eq_true, Bool.not_eq_true', List.isEmpty_eq_false_iff] at this
  exact this.1.2
theorem al_small (h : MN m n) : (AL m n).length < 1000 := by
  have := al_ok m h.mem.1 n h.mem.2
  unfold okAL at this
  simp only [Bool.and_eq_true, decide_eq_true_eq] at this
  exact this.2
theorem al_wo (h : MN m (n + 1)) {l : List Nat} (hl : l ∈ AL m (n + 1)) {p : Nat} (hp : p < n + 1) : wo p l ∈ AL m n := by
  have h4 := h.n4
  have := al_e m h.mem.1 n (by simp only [List.mem_cons, List.not_mem_nil, or_false]; omega)
  unfold okE at this
  simp only [List.all_eq_true, List.mem_range, List.contains_iff_mem] at this
  exact this l hl p hp
theorem al_in (h : MN m (n + 1)) {l : List Nat} (hl : l ∈ AL m n) {p : Nat} (hp : p < n + 1) : l.take p ++ 0 :: l.drop p ∈ AL m (n + 1) := by
  have h4 := h.n4
  have := al_i m h.mem.1 n (by simp only [List.mem_cons, List.not_mem_nil, or_false]; omega)
  unfold okI at this
  simp only [List.all_eq_true, List.mem_range, List.contains_iff_mem] at this
  exact this l hl p hp
theorem pairs_get {lt : List Nat → List Nat → Bool} : ∀ {L : List (List Nat)}, pairsOk lt L = true → L.Pairwise fun a b => lt a b = true
  | [], _ => .nil
  | x :: xs, h => by
    simp only [pairsOk, Bool.and_eq_true, List.all_eq_true] at h
    exact .cons h.1 (pairs_get h.2)
theorem al_lt (h : MN m n) : (AL m n).Pairwise fun a b => ltD a b = true := pairs_get (al_pairs m h.mem.1 n h.mem.2)
end
/-! ### worth, the best -/
def gd {α : Type} (d : α) (l : List α) (p : Nat) : α := l.getD p d
def at_ (r : List Int) (i : Nat) : Int := r.getD i 0
def worth : List (List Int) → List Nat → Int
  | r :: rs, i :: is => at_ r i + worth rs is
  | _, _ => 0
theorem worth_split : ∀ {rows : List (List Int)} {l : List Nat} {p : Nat} {r : List Int} {i : Nat}, rows[p]? = some r → l[p]? = some i → worth rows l = at_ r i + worth (wo p rows) (wo p l)
  | r0 :: rows, i0 :: l, 0, r, i, h1, h2 => by
    cases h1; cases h2; rfl
  | r0 :: rows, i0 :: l, p + 1, r, i, h1, h2 => by
    have ih := worth_split (rows := rows) (l := l) (p := p) (by simpa using h1) (by simpa using h2)
    show at_ r0 i0 + worth rows l = at_ r i + (at_ r0 i0 + worth (wo p rows) (wo p l))
    omega
  | [], _, _, _, _, h1, _ => by simp at h1
  | _ :: _, [], _, _, _, _, h2 => by simp at h2
def stepB (rows : List (List Int)) (b : Option (Int × List Nat)) (l : List Nat) : Option (Int × List Nat) := match b with
  | none => some (worth rows l, l)
  | some (t, k) => if t < worth rows l then some (worth rows l, l) else some (t, k)
def bestL (rows : List (List Int)) (L : List (List Nat)) : Option (Int × List Nat) := L.foldl (stepB rows) none
/-- the least of the best -/
structure Bst (rows : List (List Int)) (L : List (List Nat)) (t : Int) (l : List Nat) : Prop where
  mem : l ∈ L
  eq : worth rows l = t
  le : ∀ y ∈ L, worth rows y ≤ t
  lt : ∀ y ∈ L, worth rows y = t → y = l ∨ ltD l y = true
theorem bst_snoc {rows : List (List Int)} {L : List (List Nat)} {t : Int} {l x : List Nat} (h : Bst rows L t l) (hx : ∀ y ∈ L, ltD y x = true) :
    stepB rows (some (t, l)) x = some (if t < worth rows x then (worth rows x, x) else (t, l)) ∧ Bst rows (L ++ [x]) (if t < worth rows x then (worth rows x, x) else (t, l)).1 (if t < worth rows x then (worth rows x, x) else (t, l)).2 := by
  unfold stepB
  by_cases c : t < worth rows x
  · simp only [if_pos c, true_and]
    refine ⟨by simp, rfl, fun y hy => ?_, fun y hy e => ?_⟩
    · rcases List.mem_append.mp hy with hy | hy
      · have := h.le y hy; omega
      · rw [List.mem_singleton.mp hy]; exact Int.le_refl _
    · rcases List.mem_append.mp hy with hy | hy
      · have := h.le y hy; omega
      · exact .inl (List.mem_singleton.mp hy)
  · simp only [if_neg c, true_and]
    refine ⟨List.mem_append_left _ h.mem, h.eq, fun y hy => ?_, fun y hy e => ?_⟩
    · rcases List.mem_append.mp hy with hy | hy
      · exact h.le y hy
      · rw [List.mem_singleton.mp hy]; omega
    · rcases List.mem_append.mp hy with hy | hy
      · exact h.lt y hy e
      · rw [List.mem_singleton.mp hy]
        exact .inr (hx l h.mem)
theorem bestL_snoc {rows : List (List Int)} {L : List (List Nat)} {x : List Nat} : bestL rows (L ++ [x]) = stepB rows (bestL rows L) x := by
  unfold bestL
  rw [List.foldl_append]
  rfl
theorem bst_all {rows : List (List Int)} : ∀ {L1 L0 : List (List Nat)} {t : Int} {l : List Nat}, (L0 ++ L1).Pairwise (fun a b => ltD a b = true) → bestL rows L0 = some (t, l) → Bst rows L0 t l → ∃ t' l', bestL rows (L0 ++ L1) = some (t', l') ∧ Bst rows (L0 ++ L1) t' l'
  | [], L0, t, l, _, e, h => ⟨t, l, by rw [List.append_nil]; exact e, by rw [List.append_nil]; exact h⟩
  | x :: L1, L0, t, l, hp, e, h => by
    have hx : ∀ y ∈ L0, ltD y x = true := fun y hy => (List.pairwise_append.mp hp).2.2 y hy x List.mem_cons_self
    obtain ⟨e1, h1⟩ := bst_snoc h hx
    have e2 : L0 ++ x :: L1 = (L0 ++ [x]) ++ L1 := by simp
    rw [e2] at hp ⊢
    exact bst_all hp (by rw [bestL_snoc, e, e1]) h1
theorem bst_ex {rows : List (List Int)} {L : List (List Nat)} (hp : L.Pairwise fun a b => ltD a b = true) (hne : L ≠ []) : ∃ t l, bestL rows L = some (t, l) ∧ Bst rows L t l := by
  cases L with
  | nil => exact absurd rfl hne
  | cons x L =>
    exact bst_all (L0 := [x]) (L1 := L) (t := worth rows x) (l := x) hp rfl ⟨by simp, rfl, fun y hy => by rw [List.mem_singleton.mp hy]; exact Int.le_refl _, fun y hy _ => .inl (List.mem_singleton.mp hy)⟩
def best (m : Nat) (rows : List (List Int)) : Int × List Nat := (bestL rows (AL m rows.length)).getD (0, [])
section
variable {m n : Nat} {rows : List (List Int)}
theorem best_bst (h : MN m rows.length) : Bst rows (AL m rows.length) (best m rows).1 (best m rows).2 := by
  obtain ⟨t, l, e, hb⟩ := bst_ex (rows := rows) (al_lt h) (al_ne h)
  unfold best
  rw [e]
  exact hb
theorem bestL_eq (h : MN m rows.length) : bestL rows (AL m rows.length) = some (best m rows) := by
  obtain ⟨t, l, e, hb⟩ := bst_ex (rows := rows) (al_lt h) (al_ne h)
  unfold best
  rw [e]
  rfl
/-! ### payments and gains -/
def pay (m : Nat) (rows : List (List Int)) (p : Nat) : Int := (best m (wo p rows)).1 - ((best m rows).1 - at_ (gd [] rows p) (gd 0 (best m rows).2 p))
def gain (m : Nat) (told true_ : List (List Int)) (p : Nat) : Int := at_ (gd [] true_ p) (gd 0 (best m told).2 p) - pay m told p
theorem wo_len {α : Type} {p : Nat} {l : List α} (h : p < l.length) : (wo p l).length = l.length - 1 := by
  unfold wo
  rw [List.length_append, List.length_take, List.length_drop]
  omega
theorem wi_len {α : Type} {p : Nat} {x : α} {l : List α} (h : p < l.length) : (wi p x l).length = l.length := by
  unfold wi
  rw [List.length_append, List.length_append, List.length_take, List.length_drop, List.length_singleton]
  omega
theorem wo_wi {α : Type} {p : Nat} {x : α} {l : List α} (h : p < l.length) : wo p (wi p x l) = wo p l := by
  unfold wo wi
  have h1 : (List.take p l).length = p := by rw [List.length_take]; omega
  rw [List.append_assoc, List.take_append_of_le_length (by omega), List.take_of_length_le (by omega)]
  congr 1
  rw [List.drop_append, h1]
  have : List.drop (p + 1) (List.take p l) = [] := List.drop_eq_nil_of_le (by omega)
  rw [this, show p + 1 - p = 1 by omega]
  rfl
theorem wi_get {α : Type} {p : Nat} {x : α} {l : List α} (h : p < l.length) : (wi p x l)[p]? = some x := by
  unfold wi
  have h1 : (List.take p l).length = p := by rw [List.length_take]; omega
  rw [List.append_assoc, List.getElem?_append_right (by omega), h1, Nat.sub_self]
  rfl
theorem getD_get {α : Type} {p : Nat} {l : List α} {d : α} (h : p < l.length) : l[p]? = some (gd d l p) := by
  unfold gd
  rw [List.getD_eq_getElem?_getD, List.getElem?_eq_getElem h]
  rfl
theorem getD_of {α : Type} {p : Nat} {l : List α} {d x : α} (h : l[p]? = some x) : gd d l p = x := by
  unfold gd
  rw [List.getD_eq_getElem?_getD, h]
  rfl
theorem MN.wo (h : MN m rows.length) {p : Nat} (hp : p < rows.length) : MN m (wo p rows).length := ⟨h.m1, h.m3, by rw [wo_len hp]; have := h.n4; omega⟩
theorem best_split (h : MN m rows.length) {l : List Nat} (hl : l ∈ AL m rows.length) {p : Nat} (hp : p < rows.length) : worth rows l = at_ (gd [] rows p) (gd 0 l p) + worth (wo p rows) (wo p l) ∧ wo p l ∈ AL m (wo p rows).length := by
  have hll := (al_len h hl).1
  refine ⟨worth_split (getD_get hp) (getD_get (by omega)), ?_⟩
  rw [wo_len hp]
  obtain ⟨n, hn⟩ : ∃ n, rows.length = n + 1 := ⟨rows.length - 1, by omega⟩
  rw [hn] at hl h ⊢
  exact al_wo h hl (by omega)
theorem pay_pos (h : MN m rows.length) {p : Nat} (hp : p < rows.length) : 0 ≤ pay m rows p := by
  have b := best_bst h
  have b2 := best_bst (h.wo hp)
  obtain ⟨e, hm⟩ := best_split h b.mem hp
  have := b2.le _ hm
  have := b.eq
  unfold pay
  omega
theorem gain_eq (h : MN m rows.length) {p : Nat} {told : List Int} (hp : p < rows.length) : gain m (wi p told rows) rows p = worth rows (best m (wi p told rows)).2 - (best m (wo p rows)).1 := by
  have h' : MN m (wi p told rows).length := by rw [wi_len hp]; exact h
  have b := best_bst h'
  have hp' : p < (wi p told rows).length := by rw [wi_len hp]; exact hp
  obtain ⟨e, _⟩ := best_split h' b.mem hp'
  have hm := b.mem
  rw [wi_len hp] at hm
  obtain ⟨e2, _⟩ := best_split h hm hp
  have e3 := b.eq
  rw [wo_wi hp] at e
  unfold gain pay
  rw [wo_wi hp]
  omega
theorem wi_self {α : Type} {p : Nat} {l : List α} {d : α} (hp : p < l.length) : wi p (gd d l p) l = l := by
  unfold wi gd
  have : l.getD p d = l[p] := by rw [List.getD_eq_getElem?_getD, List.getElem?_eq_getElem hp]; rfl
  rw [this, List.append_assoc, List.singleton_append, ← List.drop_eq_getElem_cons hp, List.take_append_drop]
theorem gain_self (h : MN m rows.length) {p : Nat} (hp : p < rows.length) : gain m rows rows p = (best m rows).1 - (best m (wo p rows)).1 := by
  have := gain_eq h (told := gd [] rows p) hp
  rw [wi_self hp] at this
  rw [this, (best_bst h).eq]
theorem gain_mono (h : MN m rows.length) {p : Nat} {told : List Int} (hp : p < rows.length) : gain m (wi p told rows) rows p ≤ gain m rows rows p := by
  rw [gain_eq h hp, gain_self h hp]
  have h' : MN m (wi p told rows).length := by rw [wi_len hp]; exact h
  have b := best_bst h'
  have hm := b.mem
  rw [wi_len hp] at hm
  have := (best_bst h).le _ hm
  omega
theorem wo_ins {α : Type} {p : Nat} {x : α} {l : List α} (h : p ≤ l.length) : wo p (l.take p ++ x :: l.drop p) = l ∧ (l.take p ++ x :: l.drop p)[p]? = some x := by
  have h1 : (List.take p l).length = p := by rw [List.length_take]; omega
  constructor
  · unfold wo
    rw [List.take_append_of_le_length (by omega), List.take_of_length_le (by omega), List.drop_append, h1, show p + 1 - p = 1 by omega, List.drop_eq_nil_of_le (by omega)]
    simp
  · rw [List.getElem?_append_right (by omega), h1, Nat.sub_self]
    rfl
theorem gain_pos (h : MN m rows.length) {p : Nat} (hp : p < rows.length) (h0 : at_ (gd [] rows p) 0 = 0) : 0 ≤ gain m rows rows p := by
  rw [gain_self h hp]
  have b2 := best_bst (h.wo hp)
  have hm := b2.mem
  have hl := (al_len (h.wo hp) hm).1
  rw [wo_len hp] at hm hl
  obtain ⟨n, hn⟩ : ∃ n, rows.length = n + 1 := ⟨rows.length - 1, by omega⟩
  have hn1 : rows.length - 1 = n := by omega
  rw [hn1] at hm hl
  have h2 := al_in (m := m) (n := n) (by rw [← hn]; exact h) hm (p := p) (by omega)
  rw [← hn] at h2
  obtain ⟨e1, e2⟩ := wo_ins (x := 0) (l := (best m (wo p rows)).2) (p := p) (by omega)
  have e3 := worth_split (getD_get (d := []) hp) e2
  rw [e1, h0, b2.eq] at e3
  have := (best_bst h).le _ h2
  omega
end
end K80
set_option Elab.async false
set_option linter.all false
set_option maxRecDepth 100000
set_option maxHeartbeats 4000000
namespace K80
open PySem L2 Pv
def rowD (r : List Int) : PyData := .tuple (r.map PyData.int)
def rowsD (rows : List (List Int)) : PyData := .tuple (rows.map rowD)
def saleD (m : Nat) (rows : List (List Int)) : PyData := .tuple [.int (m : Nat), rowsD rows]
def bestD (b : Int × List Nat) : PyData := .tuple [.int b.1, natsD b.2]
section
variable {m n : Nat} {rows : List (List Int)} {r : List Int} {l : List Nat}
@[simp] theorem opIx_sale0 : opIx (saleD m rows) (.int 0) = some (.sh (.int (m : Nat))) := by simp [saleD]
@[simp] theorem opIx_sale1 : opIx (saleD m rows) (.int 1) = some (.sh (rowsD rows)) := by simp [saleD]
@[simp] theorem opIx_best0 {b : Int × List Nat} : opIx (bestD b) (.int 0) = some (.sh (.int b.1)) := by simp [bestD]
@[simp] theorem opIx_best1 {b : Int × List Nat} : opIx (bestD b) (.int 1) = some (.sh (natsD b.2)) := by simp [bestD]
@[simp] theorem bLen_rows : bLen [rowsD rows] = some (.sh (.int (rows.length : Nat))) := by simp [rowsD]
@[simp] theorem bLen_row : bLen [rowD r] = some (.sh (.int (r.length : Nat))) := by simp [rowD]
@[simp] theorem bLen_nats : bLen [natsD l] = some (.sh (.int (l.length : Nat))) := by simp [natsD]
theorem opIx_row {i : Nat} (h : i < r.length) : opIx (rowD r) (.int (i : Nat)) = some (.sh (.int (at_ r i))) := by
  have : atI (r.map PyData.int) (i : Int) = some (.int (at_ r i)) := by
    refine atI_of ?_
    rw [List.getElem?_map, getD_get (d := 0) h]
    rfl
  simp [rowD, this]
theorem opIx_rows {i : Nat} (h : i < rows.length) : opIx (rowsD rows) (.int (i : Nat)) = some (.sh (rowD (gd [] rows i))) := by
  have : atI (rows.map rowD) (i : Int) = some (rowD (gd [] rows i)) := by
    refine atI_of ?_
    rw [List.getElem?_map, getD_get (d := []) h]
    rfl
  simp [rowsD, this]
theorem opIx_nats {i : Nat} (h : i < l.length) : opIx (natsD l) (.int (i : Nat)) = some (.sh (.int (gd 0 l i : Nat))) := by
  have : atI (l.map fun i => PyData.int (i : Nat)) (i : Int) = some (.int (gd 0 l i : Nat)) := by
    refine atI_of ?_
    rw [List.getElem?_map, getD_get (d := 0) h]
    rfl
  simp [natsD, this]
theorem allot_ok (h : MN m n) (h1 : 1 ≤ n) : G_allotments [.int (m : Nat), .int (n : Nat)] = some (.lst ((AL m n).map fun l => T.sh (natsD l))) := by
  have h1 : (m = 1 ∨ m = 2 ∨ m = 3) ∧ (n = 1 ∨ n = 2 ∨ n = 3 ∨ n = 4) := by
    have := h.m1; have := h.m3; have := h.n4
    omega
  obtain ⟨rfl | rfl | rfl, rfl | rfl | rfl | rfl⟩ := h1 <;> kernel_rfl
theorem zip_rows : ∀ {rows : List (List Int)} {l : List Nat}, zipD (rows.map rowD) (l.map fun i => PyData.int (i : Nat)) = (rows.zip l).map fun x => .tuple [rowD x.1, .int (x.2 : Nat)]
  | [], l => rfl
  | r :: rows, [] => rfl
  | r :: rows, i :: l => by
    simp only [List.map_cons, zipD, List.zip_cons_cons, zip_rows (rows := rows) (l := l)]
theorem sum_worth : ∀ {rows : List (List Int)} {l : List Nat}, ((rows.zip l).map fun x => at_ x.1 x.2).sum = worth rows l
  | [], l => rfl
  | r :: rows, [] => rfl
  | r :: rows, i :: l => by
    simp only [List.zip_cons_cons, List.map_cons, List.sum_cons, sum_worth (rows := rows) (l := l)]
    rfl
/-- rows of which each has a number for each lot -/
def Wid (m : Nat) (rows : List (List Int)) : Prop := ∀ r ∈ rows, r.length = 2 ^ m
theorem worth_ok (hw : Wid m rows) (hl : ∀ x ∈ l, x < 2 ^ m) (hr : rows.length < 1000) : G_worth_by [rowsD rows, natsD l] = some (.sh (.int (worth rows l))) := by
  refine gP_eq rfl (η := [some (.sh (rowsD rows)), some (.sh (natsD l)), none, none]) ?_
  have hc := eComp2_map (j := 2) (k := 3) (fi := iZ (eV 0) (eV 1)) (elt := eBinLR opIx 2 3) (η := [some (.sh (rowsD rows)), some (.sh (natsD l)), none, none]) (rows.zip l) (fun x => rowD x.1) (fun x => .int (x.2 : Nat)) (fun x => .sh (.int (at_ x.1 x.2)))
    (by show Rs.ok (zipD (rows.map rowD) (l.map fun i => PyData.int (i : Nat)), _) = _; rw [zip_rows]) (by rw [List.length_zip]; omega) (by decide) (by simp) (by simp) rfl rfl fun x hx => by
      have := opIx_row (r := x.1) (i := x.2) (by rw [hw x.1 (List.of_mem_zip hx).1]; exact hl x.2 (List.of_mem_zip hx).2)
      simp [this]
  unfold B_worth_by
  simp [startE, hc, ints_map', sum_worth]
theorem law_worth_eq : G__law_worth = G_worth_by := rfl
def bstD : Option (Int × List Nat) → PyData
  | none => .none
  | some b => bestD b
@[simp] theorem opIs_best {b : Int × List Nat} : opIs (bestD b) .none = some (.sh (.bool false)) := rfl
theorem best_of_ok (h : MN m rows.length) (h1 : 1 ≤ rows.length) (hw : Wid m rows) : G_best_of [.int (m : Nat), rowsD rows] = some (.sh (bestD (best m rows))) := by
  have h4 := h.n4
  obtain ⟨t, e, rfl⟩ := gP_of (P := fun t => t = .sh (bestD (best m rows))) (N := 5) (n := 2) (fb := B_best_of) (ds := [.int (m : Nat), rowsD rows]) rfl (by
    unfold B_best_of
    refine sSeq_nx (η1 := [some (.sh (.int (m : Nat))), some (.sh (rowsD rows)), some (.sh .none), none, none]) rfl ?_
    refine sSeq_loop (sFor_inv (AL m rows.length) natsD (fun k η => ∃ x3 x4, η = [some (.sh (.int (m : Nat))), some (.sh (rowsD rows)), some (.sh (bstD (bestL rows ((AL m rows.length).take k)))), x3, x4]) (fun _ _ => False) (η1 := [some (.sh (.int (m : Nat))), some (.sh (rowsD rows)), some (.sh .none), none, none]) ?_ ⟨none, none, rfl⟩ ?_) ?_ (fun _ _ h => h.elim)
    · have := allot_ok h h1
      simp [this]
    · rintro k l η hk ⟨x3, x4, rfl⟩
      have hwo := worth_ok (l := l) hw (al_len h (List.mem_of_getElem? hk)).2 (by omega)
      refine step_nx (η := [some (.sh (.int (m : Nat))), some (.sh (rowsD rows)), some (.sh (bstD (bestL rows ((AL m rows.length).take (k + 1))))), some (.sh (natsD l)), some (.sh (.int (worth rows l)))]) ?_ rfl ⟨_, _, rfl⟩
      rw [gN_bind]
      have hs : bestL rows ((AL m rows.length).take (k + 1)) = stepB rows (bestL rows ((AL m rows.length).take k)) l := by
        obtain ⟨hk', e⟩ := List.getElem?_eq_some_iff.mp hk
        rw [List.take_succ_eq_append_getElem hk', e, bestL_snoc]
      rw [hs]
      generalize bestL rows ((AL m rows.length).take k) = b
      cases b with
      | none => simp [bstD, hwo, stepB, bestD]
      | some b =>
        obtain ⟨t, k⟩ := b
        by_cases c : t < worth rows l
        · simp [bstD, hwo, stepB, c, bestD]
        · simp [bstD, hwo, stepB, c]
          simp [bestD]
    · rintro η ⟨x3, x4, rfl⟩
      rw [List.take_length, bestL_eq h]
      exact ⟨(.ret (.sh (bestD (best m rows))), _), rfl, rfl⟩)
  exact e
end
end K80
set_option Elab.async false
set_option linter.all false
set_option maxRecDepth 100000
set_option maxHeartbeats 4000000
namespace K80
open PySem L2 Pv
section
variable {m n p : Nat} {rows : List (List Int)} {r told : List Int} {l : List Nat}
structure Okr (m : Nat) (rows : List (List Int)) : Prop where
  mn : MN m rows.length
  n1 : 1 ≤ rows.length
  wid : Wid m rows
@[simp] theorem opSl_rows_hi : opSl (rowsD rows) none (some (p : Int)) = some (.sh (rowsD (rows.take p))) := by
  show some (T.sh (.tuple (cutA (rows.map rowD) none (some (p : Int))))) = _
  rw [cutA_hi, ← List.map_take]
  rfl
@[simp] theorem opSl_rows_lo : opSl (rowsD rows) (some ((p : Int) + 1)) none = some (.sh (rowsD (rows.drop (p + 1)))) := by
  show some (T.sh (.tuple (cutA (rows.map rowD) (some ((p : Int) + 1)) none))) = _
  rw [cutA_lo1, ← List.map_drop]
  rfl
theorem opAdd_rows {a b : List (List Int)} (h : a.length + b.length ≤ 16777216) : opAdd (rowsD a) (rowsD b) = some (.sh (rowsD (a ++ b))) := by
  show opAdd (.tuple (a.map rowD)) (.tuple (b.map rowD)) = _
  rw [opAdd_tup (by rw [List.length_map, List.length_map]; exact h), ← List.map_append]
  rfl
theorem opAdd_wo (h : rows.length < 1000) : opAdd (rowsD (rows.take p)) (rowsD (rows.drop (p + 1))) = some (.sh (rowsD (wo p rows))) := opAdd_rows (by rw [List.length_take, List.length_drop]; omega)
theorem opAdd_w1 (h : rows.length < 1000) : opAdd (rowsD (rows.take p)) (.tuple [rowD told]) = some (.sh (rowsD (rows.take p ++ [told]))) := opAdd_rows (b := [told]) (by rw [List.length_take, List.length_singleton]; omega)
theorem opAdd_wi (h : rows.length < 1000) : opAdd (rowsD (rows.take p ++ [told])) (rowsD (rows.drop (p + 1))) = some (.sh (rowsD (wi p told rows))) := opAdd_rows (by rw [List.length_append, List.length_take, List.length_drop, List.length_singleton]; omega)
theorem Wid.wo (h : Wid m rows) : Wid m (wo p rows) := fun r hr => by
  unfold K80.wo at hr
  rcases List.mem_append.mp hr with hr | hr
  · exact h r (List.mem_of_mem_take hr)
  · exact h r (List.mem_of_mem_drop hr)
theorem Wid.wi (h : Wid m rows) (ht : told.length = 2 ^ m) : Wid m (wi p told rows) := fun r hr => by
  unfold K80.wi at hr
  rcases List.mem_append.mp hr with hr | hr
  · rcases List.mem_append.mp hr with hr | hr
    · exact h r (List.mem_of_mem_take hr)
    · rw [List.mem_singleton.mp hr]; exact ht
  · exact h r (List.mem_of_mem_drop hr)
theorem enum_rows : enumD 0 (rows.map rowD) = (List.range rows.length).map fun i => .tuple [.int (i : Nat), rowD (gd [] rows i)] := by
  refine List.ext_getElem? fun i => ?_
  by_cases hi : i < rows.length
  · obtain ⟨d, h1, h2⟩ : ∃ d, (enumD 0 (rows.map rowD))[i]? = some d ∧ True := ⟨_, List.getElem?_eq_getElem (by rw [enumD_len, List.length_map]; exact hi), trivial⟩
    obtain ⟨d', h3, h4⟩ := enumD_get _ _ _ _ h1
    rw [h1, List.getElem?_map, List.getElem?_range hi, h4]
    rw [List.getElem?_map, getD_get (d := []) hi] at h3
    cases h3
    rw [Nat.zero_add]
    rfl
  · rw [List.getElem?_eq_none (by rw [enumD_len, List.length_map]; omega), List.getElem?_eq_none (by rw [List.length_map, List.length_range]; omega)]
theorem row_len (hw : Wid m rows) (hp : p < rows.length) : (gd [] rows p).length = 2 ^ m := hw _ (by
  have := getD_get (d := []) hp
  exact List.mem_of_getElem? this)
theorem lot_lt (h : MN m rows.length) (hp : p < rows.length) : p < (best m rows).2.length ∧ gd 0 (best m rows).2 p < 2 ^ m := by
  obtain ⟨h1, h2⟩ := al_len h (best_bst h).mem
  exact ⟨by omega, h2 _ (List.mem_of_getElem? (getD_get (by omega)))⟩
theorem best_nil : best m [] = (0, []) := rfl
def payL (m : Nat) (rows : List (List Int)) : List Int := (List.range rows.length).map (pay m rows)
def intsT (l : List Int) : T := .lst (l.map fun x => T.sh (.int x))
theorem app_ok {l : List Int} {t : T} (h : l.length < 1000000) : mAppend (l.map fun x => T.sh (.int x)) t = some ((l.map fun x => T.sh (.int x)) ++ [t], .sh .none) := by
  exact mAppend_of (by rw [List.length_map]; omega)
theorem paid_ok (h : Okr m rows) : G_paid_by [.int (m : Nat), rowsD rows] = some (.sh (rowD (payL m rows))) := by
  have h4 := h.mn.n4
  have hb := best_of_ok h.mn h.n1 h.wid
  obtain ⟨t, e, rfl⟩ := gP_of (P := fun t => t = .sh (rowD (payL m rows))) (N := 9) (n := 2) (fb := B_paid_by) (ds := [.int (m : Nat), rowsD rows]) rfl (by
    unfold B_paid_by
    refine sSeq_nx (η1 := [some (.sh (.int (m : Nat))), some (.sh (rowsD rows)), some (.sh (.int (best m rows).1)), some (.sh (natsD (best m rows).2)), none, none, none, none, none]) (by simp [startE, hb, bestD]) ?_
    refine sSeq_nx (η1 := [some (.sh (.int (m : Nat))), some (.sh (rowsD rows)), some (.sh (.int (best m rows).1)), some (.sh (natsD (best m rows).2)), some (.lst []), none, none, none, none]) rfl ?_
    refine sSeq_loop (sFor_inv (List.range rows.length) (fun i => .tuple [.int (i : Nat), rowD (gd [] rows i)]) (fun k η => ∃ x5 x6 x7 x8, η = [some (.sh (.int (m : Nat))), some (.sh (rowsD rows)), some (.sh (.int (best m rows).1)), some (.sh (natsD (best m rows).2)), some (intsT (((List.range rows.length).take k).map (pay m rows))), x5, x6, x7, x8]) (fun _ _ => False) (η1 := [some (.sh (.int (m : Nat))), some (.sh (rowsD rows)), some (.sh (.int (best m rows).1)), some (.sh (natsD (best m rows).2)), some (.lst []), none, none, none, none]) ?_ ⟨none, none, none, none, rfl⟩ ?_) ?_ (fun _ _ h => h.elim)
    · show Rs.ok (enumD 0 (rows.map rowD), _) = _
      rw [enum_rows]
    · rintro k p η hk ⟨x5, x6, x7, x8, rfl⟩
      obtain ⟨rfl, hp⟩ := range_get hk
      obtain ⟨l1, l2⟩ := lot_lt h.mn hp
      have e1 := opIx_nats l1
      have e2 := opIx_row (r := gd [] rows p) (i := gd 0 (best m rows).2 p) (by rw [row_len h.wid hp]; exact l2)
      have e3 := opAdd_wo (rows := rows) (p := p) (by omega)
      have e4 := wo_len (l := rows) hp
      refine step_nx (η := [some (.sh (.int (m : Nat))), some (.sh (rowsD rows)), some (.sh (.int (best m rows).1)), some (.sh (natsD (best m rows).2)), some (intsT (((List.range rows.length).take (p + 1)).map (pay m rows))), some (.sh (.int (p : Nat))), some (.sh (rowD (gd [] rows p))), some (.sh (rowsD (wo p rows))), some (.sh (.int (best m (wo p rows)).1))]) ?_ rfl ⟨_, _, _, _, rfl⟩
      have e0 : gTupD 2 (gsCons (gN 5) (gsCons (gN 6) gsNil)) (.sh (.tuple [.int (p : Nat), rowD (gd [] rows p)])) [some (.sh (.int (m : Nat))), some (.sh (rowsD rows)), some (.sh (.int (best m rows).1)), some (.sh (natsD (best m rows).2)), some (intsT (((List.range rows.length).take p).map (pay m rows))), x5, x6, x7, x8] = .ok [some (.sh (.int (m : Nat))), some (.sh (rowsD rows)), some (.sh (.int (best m rows).1)), some (.sh (natsD (best m rows).2)), some (intsT (((List.range rows.length).take p).map (pay m rows))), some (.sh (.int (p : Nat))), some (.sh (rowD (gd [] rows p))), x7, x8] := rfl
      rw [e0, Rs.bind_ok]
      have ht : ((List.range rows.length).take (p + 1)).map (pay m rows) = ((List.range rows.length).take p).map (pay m rows) ++ [pay m rows p] := by
        obtain ⟨hk', e⟩ := List.getElem?_eq_some_iff.mp hk
        rw [List.take_succ_eq_append_getElem hk', e, List.map_append]
        rfl
      rw [ht]
      have ha : (((List.range rows.length).take p).map (pay m rows)).length < 100 := by rw [List.length_map, List.length_take]; omega
      generalize ((List.range rows.length).take p).map (pay m rows) = acc at ha
      have hap := fun t => app_ok (l := acc) (t := t) (by omega)
      by_cases c : rows.length = 1
      · have c0 : wo p rows = [] := List.eq_nil_of_length_eq_zero (by omega)
        rw [c0] at e3 ⊢
        simp [e3, e1, e2, best_nil, intsT, pay, c0, hap]
      · have hb2 := best_of_ok (m := m) (rows := wo p rows) (h.mn.wo hp) (by omega) h.wid.wo
        have c1 : 0 < rows.length - 1 := by omega
        simp [e3, e1, e2, e4, hb2, c1, intsT, pay, hap]
    · rintro η ⟨x5, x6, x7, x8, rfl⟩
      rw [List.take_length]
      exact ⟨(.ret (.sh (rowD (payL m rows))), [some (.sh (.int (m : Nat))), some (.sh (rowsD rows)), some (.sh (.int (best m rows).1)), some (.sh (natsD (best m rows).2)), some (intsT (payL m rows)), x5, x6, x7, x8]), by simp [intsT, payL, rowD, Function.comp_def], rfl⟩)
  exact e
def gainL (m : Nat) (told true_ : List (List Int)) : List Int := (List.range true_.length).map (gain m told true_)
end
end K80
set_option Elab.async false
set_option linter.all false
set_option maxRecDepth 100000
set_option maxHeartbeats 4000000
namespace K80
open PySem L2 Pv
section
variable {m n p : Nat} {rows : List (List Int)} {r told : List Int} {l : List Nat}
structure Rw (m : Nat) (r : List Int) : Prop where
  len : r.length = 2 ^ m
  rng : ∀ x ∈ r, 0 ≤ x ∧ x ≤ 100
  zero : at_ r 0 = 0
structure Sl (m : Nat) (rows : List (List Int)) : Prop where
  mn : MN m rows.length
  n1 : 1 ≤ rows.length
  rw_ : ∀ r ∈ rows, Rw m r
theorem Sl.ok (h : Sl m rows) : Okr m rows := ⟨h.mn, h.n1, fun r hr => (h.rw_ r hr).len⟩
theorem pow_le (h : MN m n) : 2 ≤ 2 ^ m ∧ 2 ^ m ≤ 8 := by
  have := h.m1; have := h.m3
  have : m = 1 ∨ m = 2 ∨ m = 3 := by omega
  rcases this with rfl | rfl | rfl <;> decide
theorem shl_ok (h : MN m n) : opShl (.int 1) (.int (m : Nat)) = some (.sh (.int (2 ^ m : Nat))) := by
  have := h.m1; have := h.m3
  have : m = 1 ∨ m = 2 ∨ m = 3 := by omega
  rcases this with rfl | rfl | rfl <;> rfl
theorem sized_ok {ds : List PyData} {a b : Int} (h1 : a ≤ ds.length) (h2 : ds.length ≤ b) : G_is_sized [.tuple ds, .int a, .int b] = some (.sh (.bool true)) := by
  refine gP_eq rfl (η := [some (.sh (.tuple ds)), some (.sh (.int a)), some (.sh (.int b))]) ?_
  simp [B_is_sized, h1, h2]
theorem integer_ok {i : Int} : G_is_integer_judging [.int i] = some (.sh (.bool true)) := by
  refine gP_eq rfl (η := [some (.sh (.int i))]) ?_
  simp [B_is_integer_judging]
theorem within_ok {i a b : Int} (h1 : a ≤ i) (h2 : i ≤ b) : G_is_within [.int i, .int a, .int b] = some (.sh (.bool true)) := by
  refine gP_eq rfl (η := [some (.sh (.int i)), some (.sh (.int a)), some (.sh (.int b))]) ?_
  simp [B_is_within, integer_ok, h1, h2]
theorem all_true {α : Type} {l : List α} : (l.map fun _ => T.sh (.bool true)) = l.map fun x => T.sh (.bool ((fun _ => true) x)) := rfl
theorem are_worths_ok (h : MN m n) (hr : Rw m r) : G_are_worths [.int (m : Nat), rowD r] = some (.sh (.bool true)) := by
  obtain ⟨p1, p2⟩ := pow_le h
  have hl := hr.len
  refine gP_eq rfl (η := [some (.sh (.int (m : Nat))), some (.sh (rowD r)), some (.sh (.int (2 ^ m : Nat))), none]) ?_
  have hs : G_is_sized [rowD r, .int (2 ^ m : Nat), .int (2 ^ m : Nat)] = some (.sh (.bool true)) := sized_ok (ds := r.map PyData.int) (by rw [List.length_map, hl]; omega) (by rw [List.length_map, hl]; omega)
  have hc := eCompV1_map (k := 3) (i := 1) (elt := (eDef G_is_within (aCons (eV 3) (aCons (eC (.int 0)) (aCons (eC (.int 100)) aNil))))) (η := [some (.sh (.int (m : Nat))), some (.sh (rowD r)), some (.sh (.int (2 ^ m : Nat))), none]) (d0 := rowD r)
    r PyData.int (fun _ => .sh (.bool true)) rfl rfl (by omega) (by simp) rfl (by decide) fun x hx => by
      obtain ⟨a, b⟩ := hr.rng x hx
      simp [within_ok (i := x) (a := 0) (b := 100) (by omega) (by omega)]
  rw [all_true] at hc
  have h0 : opIx (rowD r) (.int 0) = some (.sh (.int 0)) := by
    have := opIx_row (r := r) (i := 0) (by omega)
    rw [hr.zero] at this
    exact this
  have h1 := shl_ok h
  generalize hP : (2 ^ m : Nat) = P at hs hc h1 ⊢
  unfold B_are_worths
  simp [startE, h1, hs, hc, h0]
theorem is_sale_ok (h : Sl m rows) : G_is_sale [saleD m rows] = some (.sh (.bool true)) := by
  have := h.mn.m1; have := h.mn.m3; have := h.mn.n4; have := h.n1
  refine gP_eq rfl (η := [some (.sh (saleD m rows)), none]) ?_
  have h1 : G_is_sized [saleD m rows, .int 2, .int 2] = some (.sh (.bool true)) := sized_ok (by simp) (by simp)
  have h2 : G_is_within [.int (m : Nat), .int 1, .int 3] = some (.sh (.bool true)) := within_ok (by omega) (by omega)
  have h3 : G_is_sized [rowsD rows, .int 1, .int 4] = some (.sh (.bool true)) := sized_ok (by rw [List.length_map]; omega) (by rw [List.length_map]; omega)
  have hc := eComp1_map (k := 1) (fi := iE (eBinL' opIx 0 (eC (.int 1)))) (elt := (eDef G_are_worths (aCons (eBinL' opIx 0 (eC (.int 0))) (aCons (eV 1) aNil)))) (η := [some (.sh (saleD m rows)), none]) (η1 := [some (.sh (saleD m rows)), none])
    rows rowD (fun _ => .sh (.bool true)) (by simp; rfl) (by omega) (by simp) rfl fun r hr => by
      have := are_worths_ok h.mn (h.rw_ r hr)
      simp [this]
  rw [all_true] at hc
  unfold B_is_sale
  simp [startE, h1, h2, h3, hc]
theorem check_sale_ok (h : Sl m rows) : G_check_sale [saleD m rows] = some (.sh .none) := by
  have := is_sale_ok h
  have e : B_check_sale [some (.sh (saleD m rows))] = .ok (.nx, [some (.sh (saleD m rows))]) := by
    unfold B_check_sale
    simp [this]
  exact gP_nx rfl e
theorem best_ok (h : Sl m rows) : G_best [saleD m rows] = some (.sh (bestD (best m rows))) := by
  refine gP_eq rfl (η := [some (.sh (saleD m rows))]) ?_
  have h1 := check_sale_ok h
  have h2 := best_of_ok h.mn h.n1 h.ok.wid
  unfold B_best
  simp [startE, h1, h2]
theorem payments_ok (h : Sl m rows) : G_payments [saleD m rows] = some (.sh (rowD (payL m rows))) := by
  refine gP_eq rfl (η := [some (.sh (saleD m rows))]) ?_
  have h1 := check_sale_ok h
  have h2 := paid_ok h.ok
  unfold B_payments
  simp [startE, h1, h2]
theorem at_map {f : Nat → Int} (h : p < n) : at_ ((List.range n).map f) p = f p := by
  unfold at_
  rw [List.getD_eq_getElem?_getD, List.getElem?_map, List.getElem?_range h]
  rfl
theorem check_person_ok (h : Sl m rows) (hp : p < rows.length) : G_check_person [saleD m rows, .int (p : Nat)] = some (.sh .none) := by
  have h1 := check_sale_ok h
  have h2 : G_is_within [.int (p : Nat), .int 0, .int ((rows.length : Int) - 1)] = some (.sh (.bool true)) := within_ok (by omega) (by omega)
  have e : B_check_person [some (.sh (saleD m rows)), some (.sh (.int (p : Nat)))] = .ok (.nx, [some (.sh (saleD m rows)), some (.sh (.int (p : Nat)))]) := by
    unfold B_check_person
    simp [h1, h2]
  exact gP_nx rfl e
theorem natsD_plain (h : l.length < 1000) : plain 1 (natsD l) = true := plain_tup (plains_map fun x _ => plain_int) (by rw [List.length_map]; omega)
theorem allots_plain (h : MN m n) : plains 1 ((AL m n).map natsD) = true := plains_map fun x hx => natsD_plain (by have := (al_len h hx).1; have := h.n4; omega)
theorem eqv_nats {a b : List Nat} : PyData.eqv (natsD a) (natsD b) = decide (a = b) := by
  have e := eqvAll_ints (a := a.map fun i : Nat => (i : Int)) (b := b.map fun i : Nat => (i : Int))
  rw [List.map_map, List.map_map] at e
  have e2 : PyData.eqv (natsD a) (natsD b) = PyData.eqvAll (a.map fun i => PyData.int (i : Nat)) (b.map fun i => PyData.int (i : Nat)) := by
    unfold natsD
    simp only [PyData.eqv]
  rw [e2]
  refine e.trans ?_
  congr 1
  refine propext ⟨fun h => ?_, fun h => by rw [h]⟩
  have inj : ∀ {a b : List Nat}, a.map (fun i : Nat => (i : Int)) = b.map (fun i : Nat => (i : Int)) → a = b := by
    intro a
    induction a with
    | nil => intro b h; cases b with
      | nil => rfl
      | cons x b => simp at h
    | cons y a ih => intro b h; cases b with
      | nil => simp at h
      | cons x b =>
        simp only [List.map_cons, List.cons.injEq] at h
        rw [ih h.2]
        congr 1
        omega
  exact inj h
end
end K80
set_option Elab.async false
set_option linter.all false
set_option maxRecDepth 100000
set_option maxHeartbeats 4000000
namespace K80
open PySem L2 Pv
def LL (m n : Nat) : List (List Nat) := ([1, 2, 4].take m).foldl (fun found bit => found ++ found.flatMap fun s => (List.range n).map fun p => s.set p (gd 0 s p + bit)) [List.replicate n 0]
theorem ll_mem : ∀ m ∈ [1, 2, 3], ∀ n ∈ [0, 1, 2, 3, 4], ((AL m n).all fun x => (LL m n).contains x) = true ∧ ((LL m n).all fun x => (AL m n).contains x) = true ∧ (LL m n).length < 1000 := by decide +kernel
section
variable {m n p : Nat} {rows : List (List Int)} {r told : List Int} {l : List Nat}
theorem ll_iff (h : MN m n) : (l ∈ LL m n ↔ l ∈ AL m n) ∧ (LL m n).length < 1000 := by
  obtain ⟨a, b, c⟩ := ll_mem m h.mem.1 n h.mem.2
  simp only [List.all_eq_true, List.contains_iff_mem] at a b
  exact ⟨⟨b l, a l⟩, c⟩
theorem law_allot_ok (h : MN m n) : G__law_allotments [.int (m : Nat), .int (n : Nat)] = some (.sh (.list ((LL m n).map natsD))) := by
  have h1 : (m = 1 ∨ m = 2 ∨ m = 3) ∧ (n = 0 ∨ n = 1 ∨ n = 2 ∨ n = 3 ∨ n = 4) := by
    have := h.m1; have := h.m3; have := h.n4
    omega
  obtain ⟨rfl | rfl | rfl, rfl | rfl | rfl | rfl | rfl⟩ := h1 <;> kernel_rfl
theorem alike_nats {a b : List Nat} : W.alike (natsD a) (natsD b) = true := by
  have := W.alike_ints (a.map fun i : Nat => (i : Int)) (b.map fun i : Nat => (i : Int))
  rw [List.map_map, List.map_map] at this
  unfold natsD
  simp only [W.alike]
  exact this
theorem cmpAll_nats {L : List (List Nat)} (hl : ∀ x ∈ L, x.length < 1000) (hL : L.length < 1000) : cmpAll (L.map natsD) = true := by
  unfold cmpAll alikeAll2
  have hp : plains 1 (L.map natsD) = true := plains_map fun x hx => natsD_plain (hl x hx)
  have h1 : PyData.canLayAll0 (L.map natsD) = true := plains_lay hp
  have h2 : PyData.depthAll (L.map natsD) ≤ 1 := plains_depth hp
  have h3 : SeqAt.shaped (.list (L.map natsD)) = true := by
    have := plain_shp (plain_list hp (by rw [List.length_map]; omega)) (by omega)
    exact this
  rw [h3, decide_eq_true (Nat.le_trans h2 (by decide))]
  simp only [Bool.and_true, Bool.and_eq_true, List.all_eq_true, List.mem_map]
  constructor
  · rintro _ ⟨x, _, rfl⟩ _ ⟨y, _, rfl⟩
    exact alike_nats
  · rintro _ ⟨x, _, rfl⟩
    rfl
theorem bMin_nats {L : List (List Nat)} {b : List Nat} (hl : ∀ x ∈ L, x.length < 1000) (hL : L.length < 1000) (hb : b ∈ L) (hlt : ∀ y ∈ L, y = b ∨ ltD b y = true) : bMin [.list (L.map natsD)] = some (.sh (natsD b)) := by
  have hc := cmpAll_nats hl hL
  cases L with
  | nil => cases hb
  | cons x L =>
    have e : bMin [.list ((x :: L).map natsD)] = if cmpAll ((x :: L).map natsD) then some (.sh (W.minD (natsD x) (L.map natsD))) else none := rfl
    rw [e, hc, if_pos rfl]
    have : W.minD (natsD x) (L.map natsD) = natsD b := by
      refine minD_best (fun y hy => ?_) ?_
      · have hy : y ∈ (x :: L).map natsD := hy
        obtain ⟨z, hz, rfl⟩ := List.mem_map.mp hy
        rcases hlt z hz with rfl | h
        · exact .inl rfl
        · unfold ltD at h
          simp only [Bool.and_eq_true, Bool.not_eq_true'] at h
          exact .inr h
      · exact List.mem_map.mpr ⟨b, hb, rfl⟩
    rw [this]
theorem law_best_ok (h : MN m rows.length) (hw : Wid m rows) : G__law_best [.int (m : Nat), rowsD rows] = some (.sh (bestD (best m rows))) := by
  have h4 := h.n4
  have hb := best_bst h
  have hi := fun l => ll_iff (l := l) h
  have hLl := (hi []).2
  refine gP_eq rfl (η := [some (.sh (.int (m : Nat))), some (.sh (rowsD rows)), some (.sh (.list ((LL m rows.length).map natsD))), some (.sh (.int (best m rows).1)), none]) ?_
  have h1 := law_allot_ok h
  have hwo : ∀ l ∈ LL m rows.length, G__law_worth [rowsD rows, natsD l] = some (.sh (.int (worth rows l))) := fun l hl => by
    rw [law_worth_eq]
    exact worth_ok hw (al_len h ((hi l).1.mp hl)).2 (by omega)
  have hc := eCompV1_map (k := 4) (i := 2) (elt := (eDef G__law_worth (aCons (eV 1) (aCons (eV 4) aNil)))) (η := [some (.sh (.int (m : Nat))), some (.sh (rowsD rows)), some (.sh (.list ((LL m rows.length).map natsD))), none, none]) (d0 := .list ((LL m rows.length).map natsD))
    (LL m rows.length) natsD (fun l => .sh (.int (worth rows l))) rfl rfl (by omega) (by simp) rfl (by decide) fun l hl => by
      have := hwo l hl
      simp [this]
  have hc2 := eCompV1_pure (k := 4) (i := 2) (cond := (bT (eBinR opEq (eDef G__law_worth (aCons (eV 1) (aCons (eV 4) aNil))) 3))) (elt := eV 4) (η := [some (.sh (.int (m : Nat))), some (.sh (rowsD rows)), some (.sh (.list ((LL m rows.length).map natsD))), some (.sh (.int (best m rows).1)), none]) (d0 := .list ((LL m rows.length).map natsD))
    (LL m rows.length) natsD (fun l => decide (worth rows l = (best m rows).1)) (fun l => .sh (natsD l)) rfl rfl (by omega) (by simp) rfl (by decide) fun l hl => by
      have := hwo l hl
      simp [this]
  have hmax : bMax [.list ((LL m rows.length).map fun l => PyData.int (worth rows l))] = some (.sh (.int (best m rows).1)) := by
    have := bMax_ints (ns := (LL m rows.length).map (worth rows)) (n := (best m rows).1) (List.mem_map.mpr ⟨_, (hi _).1.mpr hb.mem, hb.eq⟩) fun y hy => by
      obtain ⟨l, hl, rfl⟩ := List.mem_map.mp hy
      exact hb.le l ((hi l).1.mp hl)
    rw [List.map_map] at this
    exact this
  have hmin := bMin_nats (L := (LL m rows.length).filter fun l => decide (worth rows l = (best m rows).1)) (b := (best m rows).2)
    (fun x hx => by have := (al_len h ((hi x).1.mp (List.mem_filter.mp hx).1)).1; omega) (Nat.lt_of_le_of_lt (List.length_filter_le ..) hLl)
    (List.mem_filter.mpr ⟨(hi _).1.mpr hb.mem, decide_eq_true hb.eq⟩) fun y hy => by
      obtain ⟨a, b⟩ := List.mem_filter.mp hy
      exact hb.lt y ((hi y).1.mp a) (of_decide_eq_true b)
  unfold B__law_best
  simp [startE, h1, hc, hc2, hmax, hmin, Function.comp_def, bestD]
end
end K80
set_option Elab.async false
set_option linter.all false
set_option maxRecDepth 100000
set_option maxHeartbeats 4000000
namespace K80
open PySem L2 Pv
theorem draw_ok {t : T} {many : Int} (hm : 1 ≤ many) (hm2 : many < 18446744073709551616) (h : Hand t) : ∃ f t', G__law_draw t [.int many] = some (.sh (.int f), t') ∧ Hand t' ∧ 0 ≤ f ∧ f < many := drawA_ok (c2 := 40692) (c3 := 17) (c4 := 48271) ⟨by decide, by decide⟩ ⟨by decide, by decide⟩ hm hm2 h
theorem any_ok {t : T} {ds : List PyData} (h1 : ds ≠ []) (h2 : ds.length < 18446744073709551616) (h : Hand t) : ∃ x t', G__law_any t [.list ds] = some (.sh x, t') ∧ Hand t' ∧ x ∈ ds := someA_ok (c2 := 40692) (c3 := 17) (c4 := 48271) ⟨by decide, by decide⟩ ⟨by decide, by decide⟩ (.inl rfl) h1 h2 h
def hasF (a b : Nat) : Bool := [1, 2, 4].all fun bit => !(b / bit % 2 == 1) || a / bit % 2 == 1
def hasChk (a b : Nat) : Bool := match G__law_has [.int (a : Nat), .int (b : Nat)] with
  | some (.sh (.bool v)) => v == hasF a b
  | _ => false
theorem has_all : ((List.range 8).all fun a => (List.range 8).all fun b => hasChk a b) = true := by kernel_rfl
theorem has_ok {a b : Nat} (ha : a < 8) (hb : b < 8) : G__law_has [.int (a : Nat), .int (b : Nat)] = some (.sh (.bool (hasF a b))) := by
  have h := has_all
  simp only [List.all_eq_true, List.mem_range] at h
  have h := h a ha b hb
  unfold hasChk at h
  split at h
  · rename_i v e
    rw [e, beq_iff_eq.mp h]
  · cases h
theorem has_zero : ∀ b < 8, 1 ≤ b → hasF 0 b = false := by decide
section
variable {m n p : Nat} {rows : List (List Int)} {r told : List Int} {l : List Nat}
/-- numbers that are drawn -/
theorem nums_of {N : Nat} {top : Int} {ts : List T} (h : All3 (fun _ x => ∃ v : Int, (0 ≤ v ∧ v < top) ∧ x = .sh (.int v)) (List.range N) ts) : ∃ l : List Int, ts = l.map (fun v => T.sh (.int v)) ∧ l.length = N ∧ ∀ x ∈ l, 0 ≤ x ∧ x < top := by
  obtain ⟨bs, e, hl, hi⟩ := h.pick
  refine ⟨bs, e, by simpa using hl, fun x hx => ?_⟩
  obtain ⟨i, hi', e'⟩ := List.mem_iff_getElem.mp hx
  rw [hl] at hi'
  exact hi i ((List.range N)[i]'hi') x (List.getElem?_eq_getElem hi') (by rw [List.getElem?_eq_getElem (by omega), e'])
def rowsT (rows : List (List Int)) : T := .lst (rows.map fun r => T.sh (rowD r))
def sEnv (t : T) (m n M : Nat) (rows : List (List Int)) (x5 x6 : Option T) (top : Int) (r : List Int) (x10 x14 : Option T) : Pv.Env :=
  [some t, some (.sh (.int (m : Nat))), some (.sh (.int (n : Nat))), some (.sh (.int (M : Nat))), some (rowsT rows), x5, x6, some (.sh (.int top)), some (intsT r), none, x10, none, none, none, x14]
def sK0 : FS := (sIf (bT (eBinL' opEq 6 (eC (.int 0)))) (sSeq (sAsg (eComp [11] (iR1 (eV 1)) (gN 11) bTrue (eDefIO G__law_draw 0 (aCons (eC (.int 30)) aNil))) (gN 10)) (sAsg (eComp [9] (iR1 (eV 3)) (gN 9) bTrue (eCall bSum (aCons (eComp [12, 13] (iZ (eV 10) (eTup (aCons (eC (.int 1)) (aCons (eC (.int 2)) (aCons (eC (.int 4)) aNil))))) (gTupD 2 (gsCons (gN 12) (gsCons (gN 13) gsNil))) (bTru (eDef G__law_has (aCons (eV 9) (aCons (eV 13) aNil)))) (eV 12)) aNil))) (gN 8))) sNil)
def sK1 : FS := (sIf (bT (eBinL' opEq 6 (eC (.int 1)))) (sSeq (sAsg (eBin opAdd (eC (.int 1)) (eDefIO G__law_draw 0 (aCons (eBinL' opSub 3 (eC (.int 1))) aNil))) (gN 14)) (sAsg (eComp [9] (iR1 (eV 3)) (gN 9) bTrue (eIf (bTru (eDef G__law_has (aCons (eV 9) (aCons (eV 14) aNil)))) (eBinL' opSub 7 (eC (.int 1))) (eC (.int 0)))) (gN 8))) sNil)
def sK2 : FS := (sAsg (eBin opAdd (eLst (aCons (eC (.int 0)) aNil)) (eComp [9] (iR1 (eBinL' opSub 3 (eC (.int 1)))) (gN 9) bTrue (eDefIO G__law_draw 0 (aCons (eV 7) aNil)))) (gN 8))
def sBody : FS := (sSeq (sAsg (eDefIO G__law_draw 0 (aCons (eC (.int 4)) aNil)) (gN 6)) (sSeq (sAsg (eDefIO G__law_any 0 (aCons (eLst (aCons (eC (.int 2)) (aCons (eC (.int 6)) (aCons (eC (.int 20)) (aCons (eC (.int 101)) aNil))))) aNil)) (gN 7)) (sSeq sK2 (sSeq sK0 (sSeq sK1 (sExpr (eMt1 mAppend 4 (eCallV bTuple 8))))))))
theorem sale_eq : B__law_sale = (sSeq (sPar 3 4 (aCons (eBin opIx (eLst (aCons (eC (.int 2)) (aCons (eC (.int 4)) (aCons (eC (.int 8)) aNil)))) (eBinL' opSub 1 (eC (.int 1)))) (aCons (eLst aNil) aNil))) (sSeq (sFor (iR1 (eV 2)) (gN 5) sBody) (sRet (eTup (aCons (eV 1) (aCons (eCallV bTuple 4) aNil)))))) := rfl
theorem sum_small : ∀ {l : List Int}, (∀ x ∈ l, 0 ≤ x ∧ x < 30) → 0 ≤ l.sum ∧ l.sum ≤ 29 * l.length
  | [], _ => by simp
  | x :: l, h => by
    have := sum_small (l := l) fun y hy => h y (List.mem_cons_of_mem _ hy)
    have := h x List.mem_cons_self
    simp only [List.sum_cons, List.length_cons]
    omega
def kSum (al : List Int) (a : Nat) : Int := (((al.zip [1, 2, 4]).filter fun x => hasF a x.2).map fun x => x.1).sum
theorem zip_al : ∀ {al : List Int} {bs : List Nat}, zipD (al.map PyData.int) (bs.map fun i => PyData.int (i : Nat)) = (al.zip bs).map fun x => .tuple [.int x.1, .int (x.2 : Nat)]
  | [], bs => rfl
  | r :: rows, [] => rfl
  | r :: rows, i :: l => by
    simp only [List.map_cons, zipD, List.zip_cons_cons, zip_al (al := rows) (bs := l)]
theorem kSum_row {al : List Int} (h : MN m n) (hl : al.length = m) (ha : ∀ x ∈ al, 0 ≤ x ∧ x < 30) : Rw m ((List.range (2 ^ m)).map (kSum al)) := by
  refine ⟨by simp, fun x hx => ?_, ?_⟩
  · obtain ⟨a, _, rfl⟩ := List.mem_map.mp hx
    unfold kSum
    obtain ⟨h1, h2⟩ := sum_small (l := ((al.zip [1, 2, 4]).filter fun x => hasF a x.2).map fun x => x.1) fun y hy => by
      obtain ⟨z, hz, rfl⟩ := List.mem_map.mp hy
      exact ha _ (List.of_mem_zip (List.mem_filter.mp hz).1).1
    have h3 : (((al.zip [1, 2, 4]).filter fun x => hasF a x.2).map fun x => x.1).length ≤ 3 := by
      rw [List.length_map]
      refine Nat.le_trans (List.length_filter_le ..) ?_
      rw [List.length_zip]
      have : ([1, 2, 4] : List Nat).length = 3 := rfl
      omega
    omega
  · have hp : 0 < 2 ^ m := Nat.pos_of_ne_zero (by have := (pow_le h).1; omega)
    rw [at_map hp]
    unfold kSum
    have : (al.zip [1, 2, 4]).filter (fun x => hasF 0 x.2) = [] := by
      rw [List.filter_eq_nil_iff]
      intro x hx
      have h2 := (List.of_mem_zip hx).2
      simp only [List.mem_cons, List.not_mem_nil, or_false] at h2
      rcases h2 with h2 | h2 | h2 <;> rw [h2] <;> decide
    rw [this]
    rfl
theorem sK0_ok {t : T} {M : Nat} {x5 x10 x14 : Option T} {kind top : Int} (h : MN m n) (hM : M = 2 ^ m) (ht : Hand t) (hr : Rw m r) : (sK0 (sEnv t m n M rows x5 (some (.sh (.int kind))) top r x10 x14)).Is fun q => q.1 = .nx ∧ ∃ t' r' x10', Hand t' ∧ Rw m r' ∧ q.2 = sEnv t' m n M rows x5 (some (.sh (.int kind))) top r' x10' x14 := by
  have hm3 := h.m3
  have hM8 := (pow_le h).2
  by_cases c : kind = 0
  · subst c
    obtain ⟨ts, t1, e1, h1, p1⟩ := eComp_ioN (k := 11) (j := 0) (n := m) (fi := iR1 (eV 1)) (elt := (eDefIO G__law_draw 0 (aCons (eC (.int 30)) aNil))) (η := sEnv t m n M rows x5 (some (.sh (.int 0))) top r x10 x14) (η1 := sEnv t m n M rows x5 (some (.sh (.int 0))) top r x10 x14) (t := t)
      (fun _ x => ∃ v : Int, (0 ≤ v ∧ v < 30) ∧ x = .sh (.int v)) (iR1_v rfl (by omega)) (by omega) rfl ht (by decide) (by simp [sEnv]) rfl fun i t hi ht => by
        obtain ⟨f, t', e, h', f0, f1⟩ := draw_ok (many := 30) (by omega) (by omega) ht
        exact ⟨_, t', by simp [sEnv, e], h', f, ⟨f0, f1⟩, rfl⟩
    obtain ⟨al, rfl, hl, ha⟩ := nums_of p1
    have s1 : (sAsg (eComp [11] (iR1 (eV 1)) (gN 11) bTrue (eDefIO G__law_draw 0 (aCons (eC (.int 30)) aNil))) (gN 10)) (sEnv t m n M rows x5 (some (.sh (.int 0))) top r x10 x14) = .ok (.nx, sEnv t1 m n M rows x5 (some (.sh (.int 0))) top r (some (intsT al)) x14) := by
      simp [e1]
      rfl
    obtain ⟨ts, x10', e2, h2, p2⟩ := eComp1_st (k := 9) (fi := iR1 (eV 3)) (elt := (eCall bSum (aCons (eComp [12, 13] (iZ (eV 10) (eTup (aCons (eC (.int 1)) (aCons (eC (.int 2)) (aCons (eC (.int 4)) aNil))))) (gTupD 2 (gsCons (gN 12) (gsCons (gN 13) gsNil))) (bTru (eDef G__law_has (aCons (eV 9) (aCons (eV 13) aNil)))) (eV 12)) aNil))) (f := fun i : Nat => PyData.int (i : Nat)) (η := sEnv t1 m n M rows x5 (some (.sh (.int 0))) top r (some (intsT al)) x14)
      (fun x10 : T => sEnv t1 m n M rows x5 (some (.sh (.int 0))) top r (some x10) x14) (fun x => x = intsT al ∨ x = .sh (.list (al.map PyData.int))) (fun a x => x = .sh (.int (kSum al a))) (l := List.range M) (s0 := intsT al) (iR1_v rfl (by omega)) (.inl rfl) (by simp; omega) (fun s => by simp [sEnv]) rfl (fun s => rfl) fun a ha' x hx => by
        have ha8 : a < 8 := by have := List.mem_range.mp ha'; omega
        have hz : zipD (al.map PyData.int) [.int 1, .int 2, .int 4] = (al.zip [1, 2, 4]).map fun x => .tuple [.int x.1, .int (x.2 : Nat)] := zip_al (al := al) (bs := [1, 2, 4])
        have hfi : (iZ (eV 10) (eTup (aCons (eC (.int 1)) (aCons (eC (.int 2)) (aCons (eC (.int 4)) aNil))))) ((sEnv t1 m n M rows x5 (some (.sh (.int 0))) top r (some x) x14).set 9 (some (.sh (.int (a : Nat))))) = .ok ((al.zip [1, 2, 4]).map fun x => .tuple [.int x.1, .int (x.2 : Nat)], (sEnv t1 m n M rows x5 (some (.sh (.int 0))) top r (some (.sh (.list (al.map PyData.int)))) x14).set 9 (some (.sh (.int (a : Nat))))) := by
          rw [← hz]
          rcases hx with rfl | rfl
          · simp [sEnv, intsT, Function.comp_def]
          · simp [sEnv]
        have hc := eComp2_pure (j := 12) (k := 13) (cond := (bTru (eDef G__law_has (aCons (eV 9) (aCons (eV 13) aNil))))) (elt := eV 12) (al.zip [1, 2, 4]) (fun x => .int x.1) (fun x => .int (x.2 : Nat)) (fun x => hasF a x.2) (fun x => .sh (.int x.1)) hfi (by rw [List.length_zip]; have : ([1, 2, 4] : List Nat).length = 3 := rfl; omega) (by decide) (by simp [sEnv]) (by simp [sEnv]) rfl rfl fun y hy => by
          have h2 := (List.of_mem_zip hy).2
          have hb : y.2 < 8 := by
            simp only [List.mem_cons, List.not_mem_nil, or_false] at h2
            omega
          have := has_ok ha8 hb
          exact ⟨by simp [sEnv, this], fun _ => by simp [sEnv]⟩
        refine ⟨_, .sh (.list (al.map PyData.int)), ?_, .inr rfl, rfl⟩
        have hs : bSum [.list (((al.zip [1, 2, 4]).filter fun x => hasF a x.2).map fun x => PyData.int x.1)] = some (.sh (.int (kSum al a))) := bSum_map
        simp only [eCall, aCons, aNil, hc]
        simp [hs, Function.comp_def]
    have hts := p2.map (g := fun a => T.sh (.int (kSum al a))) fun a t h => h
    refine ⟨(.nx, sEnv t1 m n M rows x5 (some (.sh (.int 0))) top ((List.range M).map (kSum al)) (some x10') x14), ?_, rfl, t1, _, _, h1, by rw [hM]; exact kSum_row h hl ha, rfl⟩
    have s2 : (sAsg (eComp [9] (iR1 (eV 3)) (gN 9) bTrue (eCall bSum (aCons (eComp [12, 13] (iZ (eV 10) (eTup (aCons (eC (.int 1)) (aCons (eC (.int 2)) (aCons (eC (.int 4)) aNil))))) (gTupD 2 (gsCons (gN 12) (gsCons (gN 13) gsNil))) (bTru (eDef G__law_has (aCons (eV 9) (aCons (eV 13) aNil)))) (eV 12)) aNil))) (gN 8)) (sEnv t1 m n M rows x5 (some (.sh (.int 0))) top r (some (intsT al)) x14) = .ok (.nx, sEnv t1 m n M rows x5 (some (.sh (.int 0))) top ((List.range M).map (kSum al)) (some x10') x14) := by
      rw [hts] at e2
      generalize eComp [9] (iR1 (eV 3)) (gN 9) bTrue _ = F at e2 ⊢
      simp only [sAsg, e2, Rs.bind_ok, gN]
      simp [sEnv, intsT, Function.comp_def]
    have b0 : (bT (eBinL' opEq 6 (eC (.int 0)))) (sEnv t m n M rows x5 (some (.sh (.int 0))) top r x10 x14) = .ok (true, sEnv t m n M rows x5 (some (.sh (.int 0))) top r x10 x14) := by simp [sEnv]
    unfold sK0 sIf
    rw [b0]
    simp only [Rs.bind_ok, if_pos, sSeq]
    rw [s1]
    simp only [Rs.bind_ok]
    exact s2
  · refine ⟨(.nx, sEnv t m n M rows x5 (some (.sh (.int kind))) top r x10 x14), ?_, rfl, t, r, x10, ht, hr, rfl⟩
    unfold sK0
    simp [sEnv, c]
theorem sK1_ok {t : T} {M : Nat} {x5 x10 x14 : Option T} {kind top : Int} (h : MN m n) (hM : M = 2 ^ m) (ht : Hand t) (hr : Rw m r) (htop : 1 ≤ top ∧ top ≤ 101) : (sK1 (sEnv t m n M rows x5 (some (.sh (.int kind))) top r x10 x14)).Is fun q => q.1 = .nx ∧ ∃ t' r' x14', Hand t' ∧ Rw m r' ∧ q.2 = sEnv t' m n M rows x5 (some (.sh (.int kind))) top r' x10 x14' := by
  have hm3 := h.m3
  obtain ⟨hM2, hM8⟩ := pow_le h
  by_cases c : kind = 1
  · subst c
    obtain ⟨f, t1, e1, h1, f0, f1⟩ := draw_ok (many := (M : Int) - 1) (by omega) (by omega) ht
    obtain ⟨g, hg, hg1, hg8⟩ : ∃ g : Nat, 1 + f = (g : Int) ∧ 1 ≤ g ∧ g < 8 := ⟨(1 + f).toNat, by omega, by omega, by omega⟩
    have s1 : (sAsg (eBin opAdd (eC (.int 1)) (eDefIO G__law_draw 0 (aCons (eBinL' opSub 3 (eC (.int 1))) aNil))) (gN 14)) (sEnv t m n M rows x5 (some (.sh (.int 1))) top r x10 x14) = .ok (.nx, sEnv t1 m n M rows x5 (some (.sh (.int 1))) top r x10 (some (.sh (.int (g : Nat))))) := by
      simp [sEnv, e1, hg]
    have hc := eComp1_map (k := 9) (fi := iR1 (eV 3)) (elt := (eIf (bTru (eDef G__law_has (aCons (eV 9) (aCons (eV 14) aNil)))) (eBinL' opSub 7 (eC (.int 1))) (eC (.int 0)))) (η := sEnv t1 m n M rows x5 (some (.sh (.int 1))) top r x10 (some (.sh (.int (g : Nat))))) (η1 := sEnv t1 m n M rows x5 (some (.sh (.int 1))) top r x10 (some (.sh (.int (g : Nat)))))
      (List.range M) (fun i => .int (i : Nat)) (fun a => .sh (.int (if hasF a g then top - 1 else 0))) (iR1_v rfl (by omega)) (by simp; omega) (by simp [sEnv]) rfl fun a ha => by
        have := has_ok (a := a) (b := g) (by have := List.mem_range.mp ha; omega) hg8
        cases hv : hasF a g <;> simp [sEnv, this, hv]
    refine ⟨(.nx, sEnv t1 m n M rows x5 (some (.sh (.int 1))) top ((List.range M).map fun a => if hasF a g then top - 1 else 0) x10 (some (.sh (.int (g : Nat))))), ?_, rfl, t1, _, _, h1, ?_, rfl⟩
    · have b0 : (bT (eBinL' opEq 6 (eC (.int 1)))) (sEnv t m n M rows x5 (some (.sh (.int 1))) top r x10 x14) = .ok (true, sEnv t m n M rows x5 (some (.sh (.int 1))) top r x10 x14) := by simp [sEnv]
      unfold sK1 sIf
      rw [b0]
      simp only [Rs.bind_ok, if_pos, sSeq]
      rw [s1]
      simp only [Rs.bind_ok]
      generalize eComp [9] (iR1 (eV 3)) (gN 9) bTrue _ = F at hc ⊢
      simp only [sAsg, hc, Rs.bind_ok, gN]
      simp [sEnv, intsT, Function.comp_def]
    · refine ⟨by simp [hM], fun x hx => ?_, ?_⟩
      · obtain ⟨a, _, rfl⟩ := List.mem_map.mp hx
        split <;> omega
      · rw [at_map (by omega), has_zero g hg8 hg1]
        rfl
  · refine ⟨(.nx, sEnv t m n M rows x5 (some (.sh (.int kind))) top r x10 x14), ?_, rfl, t, r, x14, ht, hr, rfl⟩
    unfold sK1
    simp [sEnv, c]
end
end K80
set_option Elab.async false
set_option linter.all false
set_option maxRecDepth 100000
set_option maxHeartbeats 4000000
namespace K80
open PySem L2 Pv
section
variable {m n p : Nat} {rows : List (List Int)} {r told : List Int} {l : List Nat}
theorem sBody_ok {t : T} {M : Nat} {x5 x6 x7 x8 x10 x14 : Option T} (h : MN m n) (hM : M = 2 ^ m) (ht : Hand t) (hrl : rows.length < 100) :
    (sBody [some t, some (.sh (.int (m : Nat))), some (.sh (.int (n : Nat))), some (.sh (.int (M : Nat))), some (rowsT rows), x5, x6, x7, x8, none, x10, none, none, none, x14]).Is fun q => q.1 = .nx ∧ ∃ t' r' x6 x7 x8 x10 x14, Hand t' ∧ Rw m r' ∧ q.2 = [some t', some (.sh (.int (m : Nat))), some (.sh (.int (n : Nat))), some (.sh (.int (M : Nat))), some (rowsT (rows ++ [r'])), x5, x6, x7, x8, none, x10, none, none, none, x14] := by
  obtain ⟨hM2, hM8⟩ := pow_le h
  obtain ⟨kind, t1, e1, h1, _, _⟩ := draw_ok (many := 4) (by omega) (by omega) ht
  obtain ⟨tp, t2, e2, h2, htp⟩ := any_ok (ds := [.int 2, .int 6, .int 20, .int 101]) (by simp) (by simp) h1
  obtain ⟨top, rfl, htop⟩ : ∃ top : Int, tp = .int top ∧ 2 ≤ top ∧ top ≤ 101 := by
    simp only [List.mem_cons, List.not_mem_nil, or_false] at htp
    rcases htp with rfl | rfl | rfl | rfl
    · exact ⟨_, rfl, by omega⟩
    · exact ⟨_, rfl, by omega⟩
    · exact ⟨_, rfl, by omega⟩
    · exact ⟨_, rfl, by omega⟩
  unfold sBody
  refine sSeq_nx (η1 := [some t1, some (.sh (.int (m : Nat))), some (.sh (.int (n : Nat))), some (.sh (.int (M : Nat))), some (rowsT rows), x5, some (.sh (.int kind)), x7, x8, none, x10, none, none, none, x14]) (by simp [e1]) ?_
  refine sSeq_nx (η1 := [some t2, some (.sh (.int (m : Nat))), some (.sh (.int (n : Nat))), some (.sh (.int (M : Nat))), some (rowsT rows), x5, some (.sh (.int kind)), some (.sh (.int top)), x8, none, x10, none, none, none, x14]) (by simp [e2]) ?_
  obtain ⟨ts, t3, e3, h3, p3⟩ := eComp_ioN (k := 9) (j := 0) (n := M - 1) (fi := iR1 (eBinL' opSub 3 (eC (.int 1)))) (elt := (eDefIO G__law_draw 0 (aCons (eV 7) aNil))) (η := [some t2, some (.sh (.int (m : Nat))), some (.sh (.int (n : Nat))), some (.sh (.int (M : Nat))), some (rowsT rows), x5, some (.sh (.int kind)), some (.sh (.int top)), x8, none, x10, none, none, none, x14]) (η1 := [some t2, some (.sh (.int (m : Nat))), some (.sh (.int (n : Nat))), some (.sh (.int (M : Nat))), some (rowsT rows), x5, some (.sh (.int kind)), some (.sh (.int top)), x8, none, x10, none, none, none, x14]) (t := t2)
    (fun _ x => ∃ v : Int, (0 ≤ v ∧ v < top) ∧ x = .sh (.int v)) (iR1_of (by simp; omega) (by omega)) (by omega) rfl h2 (by decide) (by simp) rfl fun i t hi ht => by
      obtain ⟨f, t', e, h', f0, f1⟩ := draw_ok (many := top) (by omega) (by omega) ht
      exact ⟨_, t', by simp [e], h', f, ⟨f0, f1⟩, rfl⟩
  obtain ⟨vs, rfl, hvl, hvs⟩ := nums_of p3
  have hr0 : Rw m (0 :: vs) := ⟨by rw [List.length_cons, hvl, hM]; omega, fun x hx => by
    rcases List.mem_cons.mp hx with rfl | hx
    · omega
    · have := hvs x hx; omega, rfl⟩
  refine sSeq_nx (η1 := sEnv t3 m n M rows x5 (some (.sh (.int kind))) top (0 :: vs) x10 x14) ?_ ?_
  · have ea : opAdd (.list [.int 0]) (.list (vs.map PyData.int)) = some (.lst (([PyData.int 0] ++ vs.map PyData.int).map T.sh)) := opAdd_list (by simp; omega)
    unfold sK2
    generalize eComp [9] (iR1 (eBinL' opSub 3 (eC (.int 1)))) (gN 9) bTrue _ = F at e3 ⊢
    simp [e3, ea, sEnv, intsT, Function.comp_def]
  refine sSeq_is ((sK0_ok h hM h3 hr0).mono ?_)
  rintro ⟨fl, η⟩ ⟨rfl, t4, r4, x10', h4, hr4, rfl⟩
  refine sSeq_is ((sK1_ok h hM h4 hr4 ⟨by omega, htop.2⟩).mono ?_)
  rintro ⟨fl, η⟩ ⟨rfl, t5, r5, x14', h5, hr5, rfl⟩
  refine ⟨(.nx, [some t5, some (.sh (.int (m : Nat))), some (.sh (.int (n : Nat))), some (.sh (.int (M : Nat))), some (rowsT (rows ++ [r5])), x5, some (.sh (.int kind)), some (.sh (.int top)), some (intsT r5), none, x10', none, none, none, x14']), ?_, rfl, t5, r5, _, _, _, _, _, h5, hr5, rfl⟩
  have ha : mAppend (rows.map fun r => T.sh (rowD r)) (T.sh (.tuple (r5.map PyData.int))) = some ((rows.map fun r => T.sh (rowD r)) ++ [T.sh (.tuple (r5.map PyData.int))], .sh .none) := mAppend_of (by rw [List.length_map]; omega)
  simp [sEnv, rowsT, intsT, Function.comp_def, ha, rowD]
  simp [rowD] at ha
  simp [ha]
theorem sale_ok {t : T} (h : MN m n) (h1 : 1 ≤ n) (ht : Hand t) : ∃ t' rows, G__law_sale t [.int (m : Nat), .int (n : Nat)] = some (.sh (saleD m rows), t') ∧ Hand t' ∧ Sl m rows ∧ rows.length = n := by
  have h4 := h.n4
  have : ∃ u t', G__law_sale t [.int (m : Nat), .int (n : Nat)] = some (u, t') ∧ ∃ rows, u = .sh (saleD m rows) ∧ Hand t' ∧ Sl m rows ∧ rows.length = n := by
    refine gIO_of (P := fun u t' => ∃ rows, u = .sh (saleD m rows) ∧ Hand t' ∧ Sl m rows ∧ rows.length = n) rfl ?_
    rw [sale_eq]
    refine sSeq_nx (η1 := [some t, some (.sh (.int (m : Nat))), some (.sh (.int (n : Nat))), some (.sh (.int (2 ^ m : Nat))), some (rowsT []), none, none, none, none, none, none, none, none, none, none]) (by
      have := h.m1; have := h.m3
      have : m = 1 ∨ m = 2 ∨ m = 3 := by omega
      rcases this with rfl | rfl | rfl <;> rfl) ?_
    refine sSeq_loop (sFor_inv (List.range n) (fun i => .int (i : Nat)) (fun k η => ∃ t' rows x5 x6 x7 x8 x10 x14, Hand t' ∧ rows.length = k ∧ (∀ r ∈ rows, Rw m r) ∧ η = [some t', some (.sh (.int (m : Nat))), some (.sh (.int (n : Nat))), some (.sh (.int (2 ^ m : Nat))), some (rowsT rows), x5, x6, x7, x8, none, x10, none, none, none, x14]) (fun _ _ => False) (η1 := [some t, some (.sh (.int (m : Nat))), some (.sh (.int (n : Nat))), some (.sh (.int (2 ^ m : Nat))), some (rowsT []), none, none, none, none, none, none, none, none, none, none]) ?_ ⟨t, [], none, none, none, none, none, none, ht, rfl, fun r hr => (List.not_mem_nil hr).elim, rfl⟩ ?_) ?_ (fun _ _ h => h.elim)
    · exact iR1_v rfl (by omega)
    · rintro k p η hk ⟨t', rows, x5, x6, x7, x8, x10, x14, ht', hrl, hrs, rfl⟩
      obtain ⟨rfl, hp⟩ := range_get hk
      rw [gN_bind]
      refine (sBody_ok (x5 := some (.sh (.int (p : Nat)))) (x6 := x6) (x7 := x7) (x8 := x8) (x10 := x10) (x14 := x14) (rows := rows) h rfl ht' (by omega)).mono ?_
      rintro ⟨fl, η⟩ ⟨rfl, t2, r2, y6, y7, y8, y10, y14, h2, hr2, rfl⟩
      exact ⟨rfl, t2, rows ++ [r2], _, _, _, _, _, _, h2, by rw [List.length_append, hrl]; rfl, fun r hr => by
        rcases List.mem_append.mp hr with hr | hr
        · exact hrs r hr
        · rw [List.mem_singleton.mp hr]; exact hr2, rfl⟩
    · rintro η ⟨t', rows, x5, x6, x7, x8, x10, x14, ht', hrl, hrs, rfl⟩
      rw [List.length_range] at hrl
      refine ⟨(.ret (.sh (saleD m rows)), [some t', some (.sh (.int (m : Nat))), some (.sh (.int (n : Nat))), some (.sh (.int (2 ^ m : Nat))), some (rowsT rows), x5, x6, x7, x8, none, x10, none, none, none, x14]), ?_, t', rfl, rows, rfl, ht', ⟨by rw [hrl]; exact h, by rw [hrl]; exact h1, hrs⟩, hrl⟩
      generalize (2 ^ m : Nat) = M
      simp [rowsT, saleD, rowsD, Function.comp_def]
  obtain ⟨u, t', e, rows, rfl, r⟩ := this
  exact ⟨t', rows, e, r⟩
theorem drawn_ok {t : T} (ht : Hand t) : ∃ t' m rows, G__law_drawn t [] = some (.sh (saleD m rows), t') ∧ Hand t' ∧ Sl m rows := by
  have : ∃ u t', G__law_drawn t [] = some (u, t') ∧ ∃ m rows, u = .sh (saleD m rows) ∧ Hand t' ∧ Sl m rows := by
    refine gIO_of (P := fun u t' => ∃ m rows, u = .sh (saleD m rows) ∧ Hand t' ∧ Sl m rows) rfl ?_
    obtain ⟨f1, t1, e1, h1, a1, a2⟩ := draw_ok (many := 3) (by omega) (by omega) ht
    obtain ⟨f2, t2, e2, h2, b1, b2⟩ := draw_ok (many := 4) (by omega) (by omega) h1
    obtain ⟨m, hm⟩ : ∃ m : Nat, 1 + f1 = (m : Int) := ⟨(1 + f1).toNat, by omega⟩
    obtain ⟨n, hn⟩ : ∃ n : Nat, 1 + f2 = (n : Int) := ⟨(1 + f2).toNat, by omega⟩
    obtain ⟨t3, rows, e3, h3, hs, _⟩ := sale_ok (m := m) (n := n) ⟨by omega, by omega, by omega⟩ (by omega) h2
    refine ⟨(.ret (.sh (saleD m rows)), [some t3]), ?_, t3, rfl, m, rows, rfl, h3, hs⟩
    unfold B__law_drawn
    simp [startE, e1, e2, hm, hn, e3]
  obtain ⟨u, t', e, m, rows, rfl, r⟩ := this
  exact ⟨t', m, rows, e, r⟩
end
end K80
set_option Elab.async false
set_option linter.all false
set_option maxRecDepth 100000
set_option maxHeartbeats 4000000
namespace K80
open PySem L2 Pv
/-! ### one thing alone -/
def unit (n j : Nat) : List Nat := (List.replicate n 0).set j 1
def okOne (n : Nat) : Bool := (AL 1 n).all (fun l => l == List.replicate n 0 || (List.range n).any fun j => l == unit n j) && (AL 1 n).contains (List.replicate n 0) && (List.range n).all fun j =>
  (AL 1 n).contains (unit n j) && wo j (unit n j) == List.replicate (n - 1) 0 && (unit n j)[j]? == some 1 && (List.range n).all (fun i => (!ltD (unit n j) (unit n i) || decide (i < j)) && gd 0 (unit n j) i == if i = j then 1 else 0)
theorem one_all : ∀ n ∈ [0, 1, 2, 3, 4], okOne n = true := by decide +kernel
structure One (n : Nat) : Prop where
  mem : ∀ l ∈ AL 1 n, l = List.replicate n 0 ∨ ∃ j < n, l = K80.unit n j
  zero : List.replicate n 0 ∈ AL 1 n
  uni : ∀ j < n, K80.unit n j ∈ AL 1 n
  wo : ∀ j < n, K80.wo j (K80.unit n j) = List.replicate (n - 1) 0
  at_ : ∀ j < n, (K80.unit n j)[j]? = some 1
  lt : ∀ j < n, ∀ i < n, ltD (K80.unit n j) (K80.unit n i) = true → i < j
  gd : ∀ j < n, ∀ i < n, K80.gd 0 (K80.unit n j) i = if i = j then 1 else 0
theorem one_of {n : Nat} (h : n ≤ 4) : One n := by
  have := one_all n (by simp only [List.mem_cons, List.not_mem_nil, or_false]; omega)
  unfold okOne at this
  simp only [Bool.and_eq_true, List.all_eq_true, Bool.or_eq_true, beq_iff_eq, List.any_eq_true, List.mem_range, List.contains_iff_mem, Bool.not_eq_true', decide_eq_true_eq] at this
  obtain ⟨⟨a, b⟩, c⟩ := this
  exact ⟨fun l hl => (a l hl).imp id fun ⟨j, h1, h2⟩ => ⟨j, h1, h2⟩, b, fun j hj => (c j hj).1.1.1, fun j hj => (c j hj).1.1.2, fun j hj => (c j hj).1.2, fun j hj i hi h => by
    rcases ((c j hj).2 i hi).1 with h' | h'
    · rw [h'] at h; cases h
    · exact h', fun j hj i hi => ((c j hj).2 i hi).2⟩
section
variable {rows : List (List Int)} {p w : Nat}
def vF (rows : List (List Int)) : List Int := rows.map fun r => at_ r 1
def Zr (rows : List (List Int)) : Prop := ∀ r ∈ rows, at_ r 0 = 0
theorem worth_zero : ∀ {rows : List (List Int)} {k : Nat}, Zr rows → worth rows (List.replicate k 0) = 0
  | [], k, _ => by cases k <;> rfl
  | r :: rows, 0, _ => rfl
  | r :: rows, k + 1, h => by
    rw [List.replicate_succ]
    show at_ r 0 + worth rows (List.replicate k 0) = 0
    rw [h r List.mem_cons_self, worth_zero fun x hx => h x (List.mem_cons_of_mem _ hx)]
    rfl
theorem vF_get {j : Nat} : (vF rows)[j]? = rows[j]?.map fun r => at_ r 1 := List.getElem?_map ..
theorem vF_gd (hj : p < rows.length) : (vF rows)[p]? = some (at_ (gd [] rows p) 1) := by
  rw [vF_get, getD_get (d := []) hj]
  rfl
theorem worth_unit (h : rows.length ≤ 4) (hz : Zr rows) (hp : p < rows.length) : worth rows (unit rows.length p) = at_ (gd [] rows p) 1 := by
  have o := one_of h
  rw [worth_split (getD_get (d := []) hp) (o.at_ p hp), o.wo p hp, worth_zero fun r hr => ?_]
  · omega
  · unfold K80.wo at hr
    rcases List.mem_append.mp hr with hr | hr
    · exact hz r (List.mem_of_mem_take hr)
    · exact hz r (List.mem_of_mem_drop hr)
theorem top_mem (h : rows.length ≤ 4) (hz : Zr rows) : (best 1 rows).1 ∈ vF rows ++ [0] ∧ ∀ y ∈ vF rows ++ [0], y ≤ (best 1 rows).1 := by
  have o := one_of h
  have b := best_bst (m := 1) (rows := rows) ⟨by omega, by omega, h⟩
  constructor
  · rw [← b.eq]
    rcases o.mem _ b.mem with e | ⟨j, hj, e⟩
    · rw [e, worth_zero hz]
      simp
    · rw [e, worth_unit h hz hj]
      exact List.mem_append_left _ (List.mem_of_getElem? (vF_gd hj))
  · intro y hy
    rcases List.mem_append.mp hy with hy | hy
    · obtain ⟨j, hj, e⟩ := List.mem_iff_getElem.mp hy
      have hj' : j < rows.length := by simpa [vF] using hj
      have e2 := vF_gd hj'
      rw [List.getElem?_eq_getElem hj, e] at e2
      cases e2
      rw [← worth_unit h hz hj']
      exact b.le _ (o.uni j hj')
    · rw [List.mem_singleton.mp hy, ← worth_zero (k := rows.length) hz]
      exact b.le _ o.zero
/-- w is the last of the greatest -/
structure LastW (v : List Int) (M : Int) (w : Nat) : Prop where
  at_ : v[w]? = some M
  aft : ∀ j : Nat, w < j → v[j]? ≠ some M
theorem best_lot (h : rows.length ≤ 4) (hz : Zr rows) (hM : 0 < (best 1 rows).1) (hw : LastW (vF rows) (best 1 rows).1 w) : w < rows.length ∧ ∀ p < rows.length, gd 0 (best 1 rows).2 p = if p = w then 1 else 0 := by
  have o := one_of h
  have b := best_bst (m := 1) (rows := rows) ⟨by omega, by omega, h⟩
  have hwl : w < rows.length := by
    have := (List.getElem?_eq_some_iff.mp hw.at_).1
    simpa [vF] using this
  refine ⟨hwl, fun p hp => ?_⟩
  have hwv := vF_gd hwl
  rw [hw.at_] at hwv
  have hww : worth rows (unit rows.length w) = (best 1 rows).1 := by rw [worth_unit h hz hwl]; exact (Option.some.inj hwv).symm
  rcases o.mem _ b.mem with e | ⟨j, hj, e⟩
  · have := b.eq
    rw [e, worth_zero hz] at this
    omega
  · have hjv : (vF rows)[j]? = some (best 1 rows).1 := by
      rw [vF_gd hj, ← worth_unit h hz hj, ← e, b.eq]
    have : j = w := by
      rcases b.lt _ (o.uni w hwl) hww with e2 | e2
      · rw [e] at e2
        have h1 := o.at_ w hwl
        have h2 := o.gd j hj w hwl
        rw [← e2] at h2
        have h3 := getD_of (d := 0) h1
        rw [h3] at h2
        by_cases c : w = j
        · exact c.symm
        · rw [if_neg c] at h2; cases h2
      · rw [e] at e2
        exact absurd hjv (hw.aft j (o.lt j hj w hwl e2))
    subst this
    rw [e]
    exact o.gd j hj p hp
theorem vF_wo : vF (wo p rows) = wo p (vF rows) := by
  unfold vF wo
  rw [List.map_append, List.map_take, List.map_drop]
theorem mem_wo {α : Type} {l : List α} {x : α} {j p : Nat} (h : l[j]? = some x) (hne : j ≠ p) : x ∈ wo p l := by
  unfold wo
  obtain ⟨hj, e⟩ := List.getElem?_eq_some_iff.mp h
  by_cases c : j < p
  · refine List.mem_append_left _ (List.mem_of_getElem? (i := j) ?_)
    rw [List.getElem?_take_of_lt c, h]
  · refine List.mem_append_right _ (List.mem_of_getElem? (i := j - (p + 1)) ?_)
    rw [List.getElem?_drop, show p + 1 + (j - (p + 1)) = j by omega, h]
theorem wo_sub {α : Type} {l : List α} {x : α} (h : x ∈ wo p l) : x ∈ l := by
  unfold wo at h
  rcases List.mem_append.mp h with h | h
  · exact List.mem_of_mem_take h
  · exact List.mem_of_mem_drop h
theorem Zr.wo (h : Zr rows) : Zr (wo p rows) := fun r hr => h r (wo_sub hr)
theorem count_wo {v : List Int} {M : Int} (h : v[w]? = some M) : v.count M = (wo w v).count M + 1 := by
  obtain ⟨hw, e⟩ := List.getElem?_eq_some_iff.mp h
  have : v = v.take w ++ M :: v.drop (w + 1) := by rw [← e, ← List.drop_eq_getElem_cons hw, List.take_append_drop]
  have h2 : v.count M = (v.take w ++ M :: v.drop (w + 1)).count M := by rw [← this]
  rw [h2, List.count_append, List.count_cons_self]
  unfold wo
  rw [List.count_append]
  omega
/-- the payments: the last of the greatest pays the greatest of the others -/
theorem pay_one (h : rows.length ≤ 4) (hz : Zr rows) (hM : 0 < (best 1 rows).1) (hw : LastW (vF rows) (best 1 rows).1 w) (hp : p < rows.length) : pay 1 rows p = if p = w then (best 1 (wo w rows)).1 else 0 := by
  obtain ⟨hwl, hl⟩ := best_lot h hz hM hw
  have hlp := hl p hp
  obtain ⟨t1, t2⟩ := top_mem h hz
  by_cases c : p = w
  · subst c
    rw [if_pos rfl] at hlp ⊢
    have := vF_gd hp
    rw [hw.at_] at this
    have this := Option.some.inj this
    unfold pay
    rw [hlp]
    omega
  · rw [if_neg c] at hlp ⊢
    have hr0 : at_ (gd [] rows p) 0 = 0 := hz _ (List.mem_of_getElem? (getD_get hp))
    obtain ⟨u1, u2⟩ := top_mem (rows := wo p rows) (by rw [wo_len hp]; omega) hz.wo
    rw [vF_wo] at u1 u2
    have e1 := u2 _ (List.mem_append_left _ (mem_wo hw.at_ (Ne.symm c)))
    have e2 : (best 1 (wo p rows)).1 ≤ (best 1 rows).1 := by
      rcases List.mem_append.mp u1 with u1 | u1
      · exact t2 _ (List.mem_append_left _ (wo_sub u1))
      · rw [List.mem_singleton.mp u1]; omega
    unfold pay
    rw [hlp, hr0]
    omega
theorem two_top (h : rows.length ≤ 4) (hz : Zr rows) (hw : LastW (vF rows) (best 1 rows).1 w) (hc : 1 < (vF rows).count (best 1 rows).1) (hM : 0 < (best 1 rows).1) : (best 1 (wo w rows)).1 = (best 1 rows).1 := by
  obtain ⟨hwl, _⟩ := best_lot h hz hM hw
  obtain ⟨t1, t2⟩ := top_mem h hz
  obtain ⟨u1, u2⟩ := top_mem (rows := wo w rows) (by rw [wo_len hwl]; omega) hz.wo
  rw [vF_wo] at u1 u2
  have hcw := count_wo hw.at_
  have hm : (best 1 rows).1 ∈ wo w (vF rows) := List.count_pos_iff.mp (by omega)
  have e1 := u2 _ (List.mem_append_left _ hm)
  have e2 : (best 1 (wo w rows)).1 ≤ (best 1 rows).1 := by
    rcases List.mem_append.mp u1 with u1 | u1
    · exact t2 _ (List.mem_append_left _ (wo_sub u1))
    · rw [List.mem_singleton.mp u1]; omega
  omega
theorem one_first {v : List Int} {M : Int} {f : Nat} (hw : LastW v M w) (hf : v[f]? = some M) (hc : v.count M ≤ 1) : f = w := by
  by_cases c : f = w
  · exact c
  · have hm := mem_wo hf c
    have := List.count_pos_iff.mpr hm
    have := count_wo hw.at_
    omega
end
end K80
set_option Elab.async false
set_option linter.all false
set_option maxRecDepth 100000
set_option maxHeartbeats 4000000
namespace K80
open PySem L2 Pv
/-! ### twelfths -/
def tw (z : Int) : Rat := mkRat z 12
theorem tw_add (x y : Int) : tw x + tw y = tw (x + y) := by
  unfold tw
  rw [Rat.mkRat_add_mkRat _ _ (by decide) (by decide), Rat.mkRat_eq_iff (by decide) (by decide)]
  omega
theorem tw_neg (x : Int) : -tw x = tw (-x) := Rat.neg_mkRat ..
theorem tw_sub (x y : Int) : tw x - tw y = tw (x - y) := by
  rw [Rat.sub_eq_add_neg, tw_neg, tw_add]
  congr 1
theorem tw_zero : tw 0 = 0 := rfl
theorem tw_int (n : Int) : (n : Rat) = tw (12 * n) := by
  have h : mkRat n 1 = (n : Rat) := by
    have := Rat.mkRat_self (n : Rat)
    exact this
  rw [← h]
  unfold tw
  rw [Rat.mkRat_eq_iff (by decide) (by decide)]
  omega
theorem tw_mk {n z : Int} {d : Nat} (hd : d ≠ 0) (h : n * 12 = z * d) : mkRat n d = tw z := by
  unfold tw
  rw [Rat.mkRat_eq_iff hd (by decide)]
  exact_mod_cast h
theorem tw_inj {x y : Int} (h : tw x = tw y) : x = y := by
  unfold tw at h
  rw [Rat.mkRat_eq_iff (by decide) (by decide)] at h
  omega
theorem tw_num (z : Int) : ∃ g : Int, 1 ≤ g ∧ z = g * (tw z).num ∧ (12 : Int) = g * ((tw z).den : Nat) := by
  refine ⟨((12 : Nat).gcd z.natAbs : Nat), ?_, ?_, ?_⟩
  · have := Nat.gcd_pos_of_pos_left z.natAbs (show 0 < 12 by decide)
    omega
  · unfold tw
    rw [Rat.num_mkRat, if_neg (by decide)]
    exact (Int.mul_ediv_cancel' (Int.dvd_natAbs.mp (Int.natCast_dvd_natCast.mpr (Nat.gcd_dvd_right ..)))).symm
  · unfold tw
    rw [Rat.den_mkRat, if_neg (by decide), Int.natCast_ediv]
    exact (Int.mul_ediv_cancel' (Int.natCast_dvd_natCast.mpr (Nat.gcd_dvd_left ..))).symm
theorem tw_lt {x y : Int} : tw x < tw y ↔ x < y := by
  have h0 : ∀ a b : Int, tw a < tw b → a < b := fun a b h => by
    have e := (Rat.lt_iff _ _).mp h
    obtain ⟨g, g1, ea, da⟩ := tw_num a
    obtain ⟨k, k1, eb, db⟩ := tw_num b
    have hd : 0 < g * k := Int.mul_pos (by omega) (by omega)
    have e2 := Int.mul_lt_mul_of_pos_left e hd
    have x1 : g * k * ((tw a).num * ((tw b).den : Nat)) = (g * (tw a).num) * (k * ((tw b).den : Nat)) := by
      rw [Int.mul_assoc, Int.mul_assoc, Int.mul_left_comm k]
    have x2 : g * k * ((tw b).num * ((tw a).den : Nat)) = (k * (tw b).num) * (g * ((tw a).den : Nat)) := by
      rw [Int.mul_comm g k, Int.mul_assoc, Int.mul_assoc, Int.mul_left_comm g]
    rw [x1, x2, ← ea, ← eb, ← da, ← db] at e2
    omega
  refine ⟨h0 x y, fun h => ?_⟩
  refine Classical.byContradiction fun hn => ?_
  have hle : tw y ≤ tw x := by grind
  have hne : tw y ≠ tw x := fun e => by have := tw_inj e; omega
  have hlt : tw y < tw x := by grind
  have := h0 _ _ hlt
  omega
theorem tw_nice {z : Int} (h : -100000000 < z ∧ z < 100000000) : Nice (tw z) := nice_mk (by decide) (by decide) h
theorem tw_num_pos {z : Int} (h : 0 ≤ z) : 0 ≤ (tw z).num := by
  unfold tw
  rw [Rat.num_mkRat, if_neg (by decide)]
  exact Int.ediv_nonneg h (by omega)
/-! ### the program's fractions -/
theorem made_eq : G_made = gP 3 2 (madeB (gP 2 2 commonB)) := rfl
theorem plus_eq : G_plus = gP 2 2 (plusB G_made) := rfl
theorem less_eq : G_less = gP 2 2 (lessB G_made) := rfl
theorem below_eq : G_is_below = gP 2 2 belowB := rfl
theorem low_eq : G__law_low = gP 4 2 lowB := rfl
theorem add_eq : G__law_add = gP 2 2 (plusB G__law_low) := rfl
theorem mk1 : Makes G_made := makes_made
theorem mk2 : Makes G__law_low := makes_low
def Sm (z : Int) : Prop := -1000000 ≤ z ∧ z ≤ 1000000
theorem Sm.nice {z : Int} (h : Sm z) : Nice (tw z) := tw_nice (by unfold Sm at h; omega)
theorem plus_tw {x y : Int} (hx : Sm x) (hy : Sm y) : G_plus [frD (tw x), frD (tw y)] = some (.sh (frD (tw (x + y)))) := by
  rw [plus_eq, plus_ok mk1 hx.nice hy.nice, tw_add]
theorem less_tw {x y : Int} (hx : Sm x) (hy : Sm y) : G_less [frD (tw x), frD (tw y)] = some (.sh (frD (tw (x - y)))) := by
  rw [less_eq, less_ok mk1 hx.nice hy.nice, tw_sub]
theorem below_tw {x y : Int} (hx : Sm x) (hy : Sm y) : G_is_below [frD (tw x), frD (tw y)] = some (.sh (.bool (decide (x < y)))) := by
  rw [below_eq, below_ok hx.nice hy.nice, decide_eq_decide.mpr tw_lt]
theorem add_tw {x y : Int} (hx : Sm x) (hy : Sm y) : G__law_add [frD (tw x), frD (tw y)] = some (.sh (frD (tw (x + y)))) := by
  rw [add_eq, plus_ok mk2 hx.nice hy.nice, tw_add]
def sumB (G : List PyData → Option T) : FS := (sSeq (sAsg (eTup (aCons (eC (.int 0)) (aCons (eC (.int 1)) aNil))) (gN 1)) (sSeq (sForV 0 (gN 2) (sAsg (eDef G (aCons (eV 1) (aCons (eV 2) aNil))) (gN 1))) (sRetV 1)))
def Zs (zs : List Int) : Prop := zs.length ≤ 10 ∧ ∀ z ∈ zs, -10000 ≤ z ∧ z ≤ 10000
theorem sum_bd : ∀ {zs : List Int}, (∀ z ∈ zs, -10000 ≤ z ∧ z ≤ 10000) → -10000 * zs.length ≤ zs.sum ∧ zs.sum ≤ 10000 * zs.length
  | [], _ => by simp
  | z :: zs, h => by
    have h1 := sum_bd (zs := zs) fun x hx => h x (List.mem_cons_of_mem _ hx)
    have h2 := h z List.mem_cons_self
    simp only [List.sum_cons, List.length_cons]
    omega
theorem Zs.sm {zs : List Int} (h : Zs zs) : Sm zs.sum := by
  have h1 := sum_bd h.2
  have h2 := h.1
  unfold Sm
  omega
theorem Zs.take {zs : List Int} (h : Zs zs) (k : Nat) : Zs (zs.take k) := ⟨by rw [List.length_take]; have := h.1; omega, fun z hz => h.2 z (List.mem_of_mem_take hz)⟩
theorem total_gen {G : List PyData → Option T} (hG : ∀ x y, Sm x → Sm y → G [frD (tw x), frD (tw y)] = some (.sh (frD (tw (x + y))))) {zs : List Int} (hz : Zs zs) : gP 3 1 (sumB G) [.list (zs.map fun z => frD (tw z))] = some (.sh (frD (tw zs.sum))) := by
  obtain ⟨t, e, rfl⟩ := gP_of (P := fun t => t = .sh (frD (tw zs.sum))) (N := 3) (n := 1) (fb := sumB G) (ds := [.list (zs.map fun z => frD (tw z))]) rfl (by
    unfold sumB
    refine sSeq_nx (η1 := [some (.sh (.list (zs.map fun z => frD (tw z)))), some (.sh (frD (tw 0))), none]) rfl ?_
    refine sSeq_loop (sForV_inv zs (fun z => frD (tw z)) (fun k η => ∃ x2, η = [some (.sh (.list (zs.map fun z => frD (tw z)))), some (.sh (frD (tw (zs.take k).sum))), x2]) (fun _ _ => False) (d0 := .list (zs.map fun z => frD (tw z))) rfl rfl ⟨none, rfl⟩ ?_) ?_ (fun _ _ h => h.elim)
    · rintro k z η hk ⟨x2, rfl⟩
      obtain ⟨hk', e⟩ := List.getElem?_eq_some_iff.mp hk
      have hzz := hz.2 z (List.mem_of_getElem? hk)
      have e1 := hG (zs.take k).sum z (hz.take k).sm (by unfold Sm; omega)
      refine step_nx (η := [some (.sh (.list (zs.map fun z => frD (tw z)))), some (.sh (frD (tw (zs.take (k + 1)).sum))), some (.sh (frD (tw z)))]) ?_ (pkIs_of rfl) ⟨_, rfl⟩
      rw [gN_bind, List.take_succ_eq_append_getElem hk', e, List.sum_append]
      generalize (zs.take k).sum = s at e1 ⊢
      have e2 : s + [z].sum = s + z := by simp
      rw [e2]
      simp [e1]
    · rintro η ⟨x2, rfl⟩
      rw [List.take_length]
      exact ⟨(.ret (.sh (frD (tw zs.sum))), _), rfl, rfl⟩)
  exact e
theorem total_ok {zs : List Int} (hz : Zs zs) : G_total_of [.list (zs.map fun z => frD (tw z))] = some (.sh (frD (tw zs.sum))) := total_gen (fun _ _ => plus_tw) hz
theorem lawSum_ok {zs : List Int} (hz : Zs zs) : G__law_sum [.list (zs.map fun z => frD (tw z))] = some (.sh (frD (tw zs.sum))) := total_gen (fun _ _ => add_tw) hz
theorem frac_ok {q : Rat} (h : Nice q) : G_is_fraction [frD q] = some (.sh (.bool true)) := by
  refine gP_eq rfl (η := [some (.sh (frD q))]) ?_
  have hd := q.den_pos
  have h1 : G_is_pair [frD q] = some (.sh (.bool true)) := rfl
  have h2 : ∀ i : Int, G_is_integer_checks [.int i] = some (.sh (.bool true)) := fun i => gP_eq rfl (η := [some (.sh (.int i))]) (by simp [B_is_integer_checks])
  have hg : Int.gcd q.num (q.den : Nat) = 1 := by
    rw [Int.gcd_eq_natAbs_gcd_natAbs]
    exact q.reduced
  have h3 : G_common [.int q.num, .int (q.den : Nat)] = some (.sh (.int 1)) := by
    have := common_ok (a := q.num) (b := (q.den : Nat)) (by omega) (by have := h.de; omega)
    rw [hg] at this
    exact this
  have h4 : (1 : Int) ≤ (q.den : Nat) := by omega
  have h5 : 1 ≤ q.den := by omega
  unfold B_is_fraction
  simp [startE, h1, h2, h3, h4, h5]
def paidD (zs : List Int) : PyData := .tuple (zs.map fun z => frD (tw z))
theorem amounts_ok {zs : List Int} (hz : Zs zs) (h0 : ∀ z ∈ zs, 0 ≤ z) : G_are_amounts [paidD zs, .int (zs.length : Nat)] = some (.sh (.bool true)) := by
  have hl := hz.1
  refine gP_eq rfl (η := [some (.sh (paidD zs)), some (.sh (.int (zs.length : Nat))), none]) ?_
  have h1 : G_is_sized [paidD zs, .int (zs.length : Nat), .int (zs.length : Nat)] = some (.sh (.bool true)) := sized_ok (by rw [List.length_map]; omega) (by rw [List.length_map]; omega)
  have hc := eCompV1_map (k := 2) (i := 0) (elt := (eAnd (eDef G_is_fraction (aCons (eV 2) aNil)) (eBin opGe (eBinL' opIx 2 (eC (.int 0))) (eC (.int 0))))) (η := [some (.sh (paidD zs)), some (.sh (.int (zs.length : Nat))), none]) (d0 := paidD zs)
    zs (fun z => frD (tw z)) (fun _ => .sh (.bool true)) rfl rfl (by omega) (by simp) rfl (by decide) fun z hzz => by
      have hb := hz.2 z hzz
      have e1 := frac_ok (q := tw z) (tw_nice (by omega))
      have e2 := tw_num_pos (h0 z hzz)
      simp [e1, e2]
  rw [all_true] at hc
  unfold B_are_amounts
  simp [startE, h1, hc]
end K80
set_option Elab.async false
set_option linter.all false
set_option maxRecDepth 100000
set_option maxHeartbeats 4000000
namespace K80
open PySem L2 Pv
/-! ### lots of people -/
def lots (n : Nat) : List (List Nat) := (List.range n).foldl (fun f a => f ++ f.map fun l => l ++ [a]) [[]]
def bitF (mask p : Nat) : Bool := mask / 2 ^ p % 2 == 1
def maskL (n mask : Nat) : List Nat := (List.range n).filter (bitF mask)
def bitChk (a b : Nat) : Bool := match G_has_thing [.int (a : Nat), .int (b : Nat)] with
  | some (.sh (.bool v)) => v == bitF a b
  | _ => false
theorem bit_all : ((List.range 16).all fun a => (List.range 4).all fun b => bitChk a b) = true := by kernel_rfl
theorem bit_ok {a b : Nat} (ha : a < 16) (hb : b < 4) : G_has_thing [.int (a : Nat), .int (b : Nat)] = some (.sh (.bool (bitF a b))) := by
  have h := bit_all
  simp only [List.all_eq_true, List.mem_range] at h
  have h := h a ha b hb
  unfold bitChk at h
  split at h
  · rename_i v e
    rw [e, beq_iff_eq.mp h]
  · cases h
theorem lots_all : ∀ n ∈ [1, 2, 3, 4], lots n = (List.range (2 ^ n)).map (maskL n) ∧ ((lots n).all fun l => decide (l.Sublist (List.range n)) && (List.range n).all fun w => l.contains w || decide (l.Sublist (wo w (List.range n)))) = true ∧ (lots n).head? = some [] ∧ (lots n).length = 2 ^ n := by decide +kernel
theorem lawLots_ok {n : Nat} (h1 : 1 ≤ n) (h4 : n ≤ 4) : G__law_lots [.int (n : Nat)] = some (.lst ((lots n).map fun l => T.sh (natsD l))) := by
  have : n = 1 ∨ n = 2 ∨ n = 3 ∨ n = 4 := by omega
  rcases this with rfl | rfl | rfl | rfl <;> kernel_rfl
structure LotOk (n : Nat) (l : List Nat) : Prop where
  sub : l.Sublist (List.range n)
  wo : ∀ w < n, w ∉ l → l.Sublist (K80.wo w (List.range n))
theorem LotOk.lt {n : Nat} {l : List Nat} (h : LotOk n l) : ∀ p ∈ l, p < n := fun p hp => List.mem_range.mp (h.sub.subset hp)
theorem LotOk.len {n : Nat} {l : List Nat} (h : LotOk n l) : l.length ≤ n := by
  have := h.sub.length_le
  simpa using this
theorem lots_ok {n : Nat} (h1 : 1 ≤ n) (h4 : n ≤ 4) : lots n = (List.range (2 ^ n)).map (maskL n) ∧ (∀ l ∈ lots n, LotOk n l) ∧ (∃ L, lots n = [] :: L) ∧ (lots n).length = 2 ^ n := by
  obtain ⟨a, b, c, d⟩ := lots_all n (by simp only [List.mem_cons, List.not_mem_nil, or_false]; omega)
  simp only [List.all_eq_true, Bool.and_eq_true, decide_eq_true_eq, Bool.or_eq_true, List.contains_iff_mem, List.mem_range] at b
  refine ⟨a, fun l hl => ⟨(b l hl).1, fun w hw hn => ((b l hl).2 w hw).resolve_left hn⟩, ?_, d⟩
  cases hL : lots n with
  | nil => rw [hL] at c; cases c
  | cons x L => rw [hL] at c; cases c; exact ⟨L, rfl⟩
theorem pow_n {n : Nat} (h1 : 1 ≤ n) (h4 : n ≤ 4) : 2 ^ n ≤ 16 := by
  have : n = 1 ∨ n = 2 ∨ n = 3 ∨ n = 4 := by omega
  rcases this with rfl | rfl | rfl | rfl <;> decide
/-! ### what a lot could have -/
def subR (rows : List (List Int)) (lot : List Nat) : List (List Int) := lot.map fun p => gd [] rows p
def kept (m : Nat) (rows : List (List Int)) (zs : List Int) (p : Nat) : Int := 12 * at_ (gd [] rows p) (gd 0 (best m rows).2 p) - gd 0 zs p
def val (m : Nat) (rows : List (List Int)) (zs : List Int) (lot : List Nat) : Int := 12 * (best m (subR rows lot)).1 - (lot.map (kept m rows zs)).sum
def ltB (a b : List Nat) : Bool := W.dataLt (natsD a) (natsD b)
section
variable {v : List Nat → Int} {w : Int}
def stepP (v : List Nat → Int) (w : Int) (b : Option (Int × List Nat)) (l : List Nat) : Option (Int × List Nat) := if w < v l then (match b with
    | none => some (v l, l)
    | some (h, k) => if h < v l ∨ (h = v l ∧ ltB l k = true) then some (v l, l) else some (h, k)) else b
def stepL (v : List Nat → Int) (b : Int × List Nat) (l : List Nat) : Int × List Nat := if b.1 < v l ∨ (v l = b.1 ∧ ltB l b.2 = true) then (v l, l) else b
def told (w : Int) (b : Int × List Nat) : Option (Int × List Nat) := if w < b.1 then some b else none
theorem step_told {b : Int × List Nat} {l : List Nat} : stepP v w (told w b) l = told w (stepL v b l) := by
  obtain ⟨h, k⟩ := b
  unfold stepP stepL told
  by_cases c1 : w < v l
  · rw [if_pos c1]
    by_cases c2 : w < h
    · simp only [if_pos c2]
      by_cases c3 : h < v l ∨ (h = v l ∧ ltB l k = true)
      · have c4 : h < v l ∨ (v l = h ∧ ltB l k = true) := c3.imp id fun ⟨a, b⟩ => ⟨a.symm, b⟩
        rw [if_pos c3, if_pos c4, if_pos c1]
      · have c4 : ¬ (h < v l ∨ (v l = h ∧ ltB l k = true)) := fun z => c3 (z.imp id fun ⟨a, b⟩ => ⟨a.symm, b⟩)
        rw [if_neg c3, if_neg c4, if_pos c2]
    · simp only [if_neg c2]
      have c4 : h < v l ∨ (v l = h ∧ ltB l k = true) := .inl (by omega)
      rw [if_pos c4, if_pos c1]
  · rw [if_neg c1]
    by_cases c2 : w < h
    · have c4 : ¬ (h < v l ∨ (v l = h ∧ ltB l k = true)) := by
        rintro (z | ⟨z, _⟩) <;> omega
      simp only [if_pos c2, if_neg c4]
    · simp only [if_neg c2]
      by_cases c4 : h < v l ∨ (v l = h ∧ ltB l k = true)
      · rw [if_pos c4, if_neg c1]
      · rw [if_neg c4, if_neg c2]
theorem fold_told : ∀ {L : List (List Nat)} {b : Int × List Nat}, L.foldl (stepP v w) (told w b) = told w (L.foldl (stepL v) b)
  | [], _ => rfl
  | l :: L, b => by
    rw [List.foldl_cons, List.foldl_cons, step_told, fold_told]
theorem fold_none : ∀ {L : List (List Nat)}, (∀ l ∈ L, v l ≤ w) → L.foldl (stepP v w) none = none
  | [], _ => rfl
  | l :: L, h => by
    have h0 := h l List.mem_cons_self
    have : stepP v w none l = none := by
      unfold stepP
      rw [if_neg (by omega)]
    rw [List.foldl_cons, this, fold_none fun x hx => h x (List.mem_cons_of_mem _ hx)]
end
def foundD : Option (Int × List Nat) → PyData
  | none => .none
  | some (h, l) => .tuple [frD (tw h), natsD l]
def blockD : Option (Int × List Nat) → PyData
  | none => .none
  | some (_, l) => natsD l
def blkF (m : Nat) (rows : List (List Int)) (zs : List Int) : Option (Int × List Nat) := (lots rows.length).foldl (stepP (val m rows zs) zs.sum) none
/-! ### bounds -/
section
variable {m n p : Nat} {rows : List (List Int)} {zs : List Int} {l : List Nat}
theorem at_bd {r : List Int} (h : ∀ x ∈ r, 0 ≤ x ∧ x ≤ 100) (i : Nat) : 0 ≤ at_ r i ∧ at_ r i ≤ 100 := by
  unfold at_
  rw [List.getD_eq_getElem?_getD]
  by_cases hi : i < r.length
  · rw [List.getElem?_eq_getElem hi]
    exact h _ (List.getElem_mem hi)
  · rw [List.getElem?_eq_none (by omega)]
    decide
theorem worth_bd : ∀ {rows : List (List Int)} {l : List Nat}, (∀ r ∈ rows, ∀ x ∈ r, 0 ≤ x ∧ x ≤ 100) → 0 ≤ worth rows l ∧ worth rows l ≤ 100 * rows.length
  | [], l, _ => ⟨Int.le_refl _, Int.le_refl _⟩
  | r :: rows, [], _ => by
    show 0 ≤ (0 : Int) ∧ (0 : Int) ≤ 100 * ((r :: rows).length : Nat)
    omega
  | r :: rows, i :: l, h => by
    have h1 := worth_bd (rows := rows) (l := l) fun x hx => h x (List.mem_cons_of_mem _ hx)
    have h2 := at_bd (h r List.mem_cons_self) i
    show 0 ≤ at_ r i + worth rows l ∧ at_ r i + worth rows l ≤ 100 * ((r :: rows).length : Nat)
    rw [List.length_cons]
    omega
def Bd (rows : List (List Int)) : Prop := ∀ r ∈ rows, ∀ x ∈ r, 0 ≤ x ∧ x ≤ 100
theorem Sl.bd (h : Sl m rows) : Bd rows := fun r hr => (h.rw_ r hr).rng
theorem best_bd (h : MN m rows.length) (hb : Bd rows) : 0 ≤ (best m rows).1 ∧ (best m rows).1 ≤ 400 := by
  have h4 := h.n4
  have b := best_bst h
  have := worth_bd (l := (best m rows).2) hb
  have := b.eq
  omega
theorem gd_bd (hb : Bd rows) (p i : Nat) : 0 ≤ at_ (gd [] rows p) i ∧ at_ (gd [] rows p) i ≤ 100 := by
  refine at_bd ?_ i
  unfold gd
  rw [List.getD_eq_getElem?_getD]
  by_cases hi : p < rows.length
  · rw [List.getElem?_eq_getElem hi]
    exact hb _ (List.getElem_mem hi)
  · rw [List.getElem?_eq_none (by omega)]
    exact fun x hx => (List.not_mem_nil hx).elim
theorem gd_mem {α : Type} {d : α} {l : List α} {p : Nat} (h : p < l.length) : gd d l p ∈ l := List.mem_of_getElem? (getD_get h)
theorem sub_len : (subR rows l).length = l.length := List.length_map ..
theorem sub_bd (h : Bd rows) (hl : LotOk rows.length l) : Bd (subR rows l) := fun r hr => by
  obtain ⟨p, hp, rfl⟩ := List.mem_map.mp hr
  exact h _ (gd_mem (hl.lt p hp))
theorem sub_wid (h : Wid m rows) (hl : LotOk rows.length l) : Wid m (subR rows l) := fun r hr => by
  obtain ⟨p, hp, rfl⟩ := List.mem_map.mp hr
  exact h _ (gd_mem (hl.lt p hp))
theorem sub_mn (h : MN m rows.length) (hl : LotOk rows.length l) : MN m (subR rows l).length := ⟨h.m1, h.m3, by rw [sub_len]; have := hl.len; have := h.n4; omega⟩
structure Pd (rows : List (List Int)) (zs : List Int) : Prop where
  len : zs.length = rows.length
  rng : ∀ z ∈ zs, 0 ≤ z ∧ z ≤ 6000
theorem Pd.zsok (h : Pd rows zs) (hn : rows.length ≤ 4) : Zs zs := ⟨by rw [h.len]; omega, fun z hz => by have := h.rng z hz; omega⟩
theorem Pd.at_ (h : Pd rows zs) (hp : p < rows.length) : 0 ≤ gd 0 zs p ∧ gd 0 zs p ≤ 6000 := h.rng _ (gd_mem (by rw [h.len]; exact hp))
theorem kept_bd (hb : Bd rows) (h : Pd rows zs) (hp : p < rows.length) : -10000 ≤ kept m rows zs p ∧ kept m rows zs p ≤ 10000 := by
  have := gd_bd hb p (gd 0 (best m rows).2 p)
  have := h.at_ hp
  unfold kept
  omega
theorem kept_zs (hb : Bd rows) (h : Pd rows zs) (hn : rows.length ≤ 4) (hl : LotOk rows.length l) : Zs (l.map (kept m rows zs)) := ⟨by rw [List.length_map]; have := hl.len; omega, fun z hz => by
  obtain ⟨p, hp, rfl⟩ := List.mem_map.mp hz
  exact kept_bd hb h (hl.lt p hp)⟩
theorem val_sm (hm : MN m rows.length) (hb : Bd rows) (h : Pd rows zs) (hl : LotOk rows.length l) : Sm (val m rows zs l) := by
  have h1 := best_bd (sub_mn hm hl) (sub_bd hb hl)
  have h2 := sum_bd (kept_zs (m := m) hb h hm.n4 hl).2
  have h3 := hl.len
  have h4 := hm.n4
  rw [List.length_map] at h2
  unfold val Sm
  omega
theorem opLt_nats {a b : List Nat} (ha : a.length < 1000) (hb : b.length < 1000) : opLt (natsD a) (natsD b) = some (.sh (.bool (ltB a b))) := by
  have h1 : cmpOk (natsD a) (natsD b) = true := by
    unfold cmpOk
    rw [alike_nats, plain_lay (natsD_plain ha), plain_lay (natsD_plain hb), decide_eq_true (Nat.le_trans (plain_depth (natsD_plain ha)) (by decide))]
    rfl
  show (if cmpOk (natsD a) (natsD b) then some (T.sh (.bool (W.dataLt (natsD a) (natsD b)))) else none) = _
  rw [h1, if_pos rfl]
  rfl
/-! ### the program's look -/
def keptT (m : Nat) (rows : List (List Int)) (zs : List Int) : T := .lst ((List.range rows.length).map fun p => T.sh (frD (tw (kept m rows zs p))))
def bEnv (m : Nat) (rows : List (List Int)) (zs : List Int) (x3 : Option T) (x7 : Option T) (x8 : Option T) (x9 x10 x12 x13 : Option T) : Pv.Env :=
  [some (.sh (saleD m rows)), some (.sh (paidD zs)), some (.sh (natsD (best m rows).2)), x3, none, none, none, x7, x8, x9, x10, none, x12, x13]
def bKept : FS := (sAsg (eComp [4, 5, 6] (iZ3 (eBinL' opIx 0 (eC (.int 1))) (eV 2) (eV 1)) (gTupD 3 (gsCons (gN 4) (gsCons (gN 5) (gsCons (gN 6) gsNil)))) bTrue (eDef G_less (aCons (eTup (aCons (eBinLR opIx 4 5) (aCons (eC (.int 1)) aNil))) (aCons (eV 6) aNil)))) (gN 3))
def bSome : FS := (sAsg (eCall bTuple (aCons (eComp [11] (iR1 (eCall bLen (aCons (eBinL' opIx 0 (eC (.int 1))) aNil))) (gN 11) (bTru (eDef G_has_thing (aCons (eV 9) (aCons (eV 11) aNil)))) (eV 11)) aNil)) (gN 10))
def bTop : FS := (sAsg (eIf (bT (eBin opGt (eCallV bLen 10) (eC (.int 0)))) (eBin opIx (eDef G_best_of (aCons (eBinL' opIx 0 (eC (.int 0))) (aCons (eCall bTuple (aCons (eCompV [11] 10 (gN 11) bTrue (eBinR opIx (eBinL' opIx 0 (eC (.int 1))) 11)) aNil)) aNil))) (eC (.int 0))) (eC (.int 0))) (gN 12))
def bHere : FS := (sAsg (eDef G_less (aCons (eTup (aCons (eV 12) (aCons (eC (.int 1)) aNil))) (aCons (eDef G_total_of (aCons (eCompV [11] 10 (gN 11) bTrue (eBinLR opIx 3 11)) aNil)) aNil))) (gN 13))
def bIf : FS := (sIf (bTru (eDef G_is_below (aCons (eV 7) (aCons (eV 13) aNil)))) (sIf (bOr (bT (eBinL' opIs 8 (eC .none))) (bOr (bTru (eDef G_is_below (aCons (eBinL' opIx 8 (eC (.int 0))) (aCons (eV 13) aNil)))) (bAnd (bT (eBinR opEq (eBinL' opIx 8 (eC (.int 0))) 13)) (bT (eBinL' opLt 10 (eBinL' opIx 8 (eC (.int 1)))))))) (sAsg (eTup (aCons (eV 13) (aCons (eV 10) aNil))) (gN 8)) sNil) sNil)
def bBody : FS := sSeq bSome (sSeq bTop (sSeq bHere bIf))
theorem blk_eq : B_blocked = (sSeq (sExpr (eDef G_check_sale (aCons (eV 0) aNil))) (sSeq (sIf (bNot (bTru (eDef G_are_amounts (aCons (eV 1) (aCons (eCall bLen (aCons (eBinL' opIx 0 (eC (.int 1))) aNil)) aNil))))) sBad sNil) (sSeq (sAsg (eBin opIx (eDef G_best_of (aCons (eBinL' opIx 0 (eC (.int 0))) (aCons (eBinL' opIx 0 (eC (.int 1))) aNil))) (eC (.int 1))) (gN 2)) (sSeq bKept (sSeq (sPar 7 8 (aCons (eDef G_total_of (aCons (eCallV bList 1) aNil)) (aCons (eC .none) aNil))) (sSeq (sFor (iR1 (eBin opShl (eC (.int 1)) (eCall bLen (aCons (eBinL' opIx 0 (eC (.int 1))) aNil)))) (gN 9) bBody) (sRet (eIf (bT (eBinL' opIs 8 (eC .none))) (eC .none) (eBinL' opIx 8 (eC (.int 1))))))))))) := rfl
theorem zip3_paid {rows : List (List Int)} {l : List Nat} {zs : List Int} (h1 : l.length = rows.length) (h2 : zs.length = rows.length) : zip3D (rows.map rowD) (l.map fun i => PyData.int (i : Nat)) (zs.map fun z => frD (tw z)) = (List.range rows.length).map fun i => .tuple [rowD (gd [] rows i), .int (gd 0 l i : Nat), frD (tw (gd 0 zs i))] := by
  induction rows generalizing l zs with
  | nil => cases l with
    | nil => rfl
    | cons a l => simp at h1
  | cons r rows ih =>
    cases l with
    | nil => simp at h1
    | cons a l =>
      cases zs with
      | nil => simp at h2
      | cons z zs =>
        have ih := ih (l := l) (zs := zs) (by simpa using h1) (by simpa using h2)
        simp only [List.length_cons, List.range_succ_eq_map, List.map_cons, zip3D, List.map_map]
        refine List.cons_eq_cons.mpr ⟨rfl, ?_⟩
        rw [ih]
        rfl
theorem val_int (v : Int) : PyData.tuple [.int v, .int 1] = frD (tw (12 * v)) := by
  rw [fr_int, tw_int]
theorem bKept_ok (h : Sl m rows) (hp : Pd rows zs) : bKept (bEnv m rows zs none none none none none none none) = .ok (.nx, bEnv m rows zs (some (keptT m rows zs)) none none none none none none) := by
  have h4 := h.mn.n4
  obtain ⟨a1, a2⟩ := al_len h.mn (best_bst h.mn).mem
  have hz := zip3_paid (rows := rows) (l := (best m rows).2) (zs := zs) (by omega) hp.len
  have hc := eComp3_map (i := 4) (j := 5) (k := 6) (fi := iZ3 (eBinL' opIx 0 (eC (.int 1))) (eV 2) (eV 1)) (elt := (eDef G_less (aCons (eTup (aCons (eBinLR opIx 4 5) (aCons (eC (.int 1)) aNil))) (aCons (eV 6) aNil)))) (η := bEnv m rows zs none none none none none none none) (η1 := bEnv m rows zs none none none none none none none)
    (List.range rows.length) (fun i => rowD (gd [] rows i)) (fun i => .int (gd 0 (best m rows).2 i : Nat)) (fun i => frD (tw (gd 0 zs i))) (fun i => .sh (frD (tw (kept m rows zs i))))
    (by rw [← hz]; simp [bEnv]; rfl) (by simp; omega) (by decide) (by decide) (by decide) (by simp [bEnv]) (by simp [bEnv]) (by simp [bEnv]) rfl rfl rfl fun i hi => by
      have hi := List.mem_range.mp hi
      have e2 := opIx_row (r := gd [] rows i) (i := gd 0 (best m rows).2 i) (by rw [row_len h.ok.wid hi]; exact a2 _ (gd_mem (by omega)))
      have b1 := gd_bd h.bd i (gd 0 (best m rows).2 i)
      have b2 := hp.at_ hi
      have e3 := less_tw (x := 12 * at_ (gd [] rows i) (gd 0 (best m rows).2 i)) (y := gd 0 zs i) (by unfold Sm; omega) (by unfold Sm; omega)
      rw [← val_int] at e3
      simp [bEnv, e2, e3, kept]
  unfold bKept
  generalize eComp [4, 5, 6] (iZ3 (eBinL' opIx 0 (eC (.int 1))) (eV 2) (eV 1)) (gTupD 3 (gsCons (gN 4) (gsCons (gN 5) (gsCons (gN 6) gsNil)))) bTrue _ = F at hc ⊢
  simp only [sAsg, hc, Rs.bind_ok, gN]
  rfl
theorem bBody_ok {k : Nat} {b : Option (Int × List Nat)} {x9 x10 x12 x13 : Option T} (h : Sl m rows) (hp : Pd rows zs) (hk : k < 2 ^ rows.length) (hl : LotOk rows.length (maskL rows.length k)) (hb : ∀ v l, b = some (v, l) → Sm v ∧ l.length < 1000) :
    bBody (bEnv m rows zs (some (keptT m rows zs)) (some (.sh (frD (tw zs.sum)))) (some (.sh (foundD b))) (some (.sh (.int (k : Nat)))) x10 x12 x13) = .ok (.nx, bEnv m rows zs (some (keptT m rows zs)) (some (.sh (frD (tw zs.sum)))) (some (.sh (foundD (stepP (val m rows zs) zs.sum b (maskL rows.length k))))) (some (.sh (.int (k : Nat)))) (some (.sh (natsD (maskL rows.length k)))) (some (.sh (.int (best m (subR rows (maskL rows.length k))).1))) (some (.sh (frD (tw (val m rows zs (maskL rows.length k))))))) := by
  have h4 := h.mn.n4
  have hk16 : k < 16 := Nat.lt_of_lt_of_le hk (pow_n h.n1 h4)
  have s1 : bSome (bEnv m rows zs (some (keptT m rows zs)) (some (.sh (frD (tw zs.sum)))) (some (.sh (foundD b))) (some (.sh (.int (k : Nat)))) x10 x12 x13) = .ok (.nx, bEnv m rows zs (some (keptT m rows zs)) (some (.sh (frD (tw zs.sum)))) (some (.sh (foundD b))) (some (.sh (.int (k : Nat)))) (some (.sh (natsD (maskL rows.length k)))) x12 x13) := by
    have hc := eComp1_pure (k := 11) (fi := (iR1 (eCall bLen (aCons (eBinL' opIx 0 (eC (.int 1))) aNil)))) (cond := (bTru (eDef G_has_thing (aCons (eV 9) (aCons (eV 11) aNil))))) (elt := eV 11) (η := bEnv m rows zs (some (keptT m rows zs)) (some (.sh (frD (tw zs.sum)))) (some (.sh (foundD b))) (some (.sh (.int (k : Nat)))) x10 x12 x13) (η1 := bEnv m rows zs (some (keptT m rows zs)) (some (.sh (frD (tw zs.sum)))) (some (.sh (foundD b))) (some (.sh (.int (k : Nat)))) x10 x12 x13)
      (List.range rows.length) (fun i => .int (i : Nat)) (bitF k) (fun i => .sh (.int (i : Nat))) (iR1_of (by simp [bEnv]) (by omega)) (by simp; omega) (by simp [bEnv]) rfl fun i hi => by
        have := bit_ok (a := k) (b := i) hk16 (by have := List.mem_range.mp hi; omega)
        exact ⟨by simp [bEnv, this], fun _ => by simp [bEnv]⟩
    unfold bSome
    generalize eComp [11] _ (gN 11) _ _ = F at hc ⊢
    simp only [sAsg, eCall, aCons, aNil, hc, Rs.bind_ok, gN]
    simp [bEnv, natsD, maskL, Function.comp_def]
  have hll := hl.len
  have hlt := hl.lt
  have hsm := val_sm h.mn h.bd hp hl
  have hkz := kept_zs (m := m) h.bd hp h4 hl
  have hwid := sub_wid h.ok.wid hl
  have hsmn := sub_mn h.mn hl
  have htb := best_bd hsmn (sub_bd h.bd hl)
  have hv : val m rows zs (maskL rows.length k) = 12 * (best m (subR rows (maskL rows.length k))).1 - ((maskL rows.length k).map (kept m rows zs)).sum := rfl
  generalize maskL rows.length k = l at *
  have s2 : bTop (bEnv m rows zs (some (keptT m rows zs)) (some (.sh (frD (tw zs.sum)))) (some (.sh (foundD b))) (some (.sh (.int (k : Nat)))) (some (.sh (natsD l))) x12 x13) = .ok (.nx, bEnv m rows zs (some (keptT m rows zs)) (some (.sh (frD (tw zs.sum)))) (some (.sh (foundD b))) (some (.sh (.int (k : Nat)))) (some (.sh (natsD l))) (some (.sh (.int (best m (subR rows l)).1))) x13) := by
    by_cases c : l.length = 0
    · have c0 : l = [] := List.eq_nil_of_length_eq_zero c
      subst c0
      unfold bTop
      simp [bEnv, subR, best_nil]
    · have hc := eCompV1_map (k := 11) (i := 10) (elt := (eBinR opIx (eBinL' opIx 0 (eC (.int 1))) 11)) (η := bEnv m rows zs (some (keptT m rows zs)) (some (.sh (frD (tw zs.sum)))) (some (.sh (foundD b))) (some (.sh (.int (k : Nat)))) (some (.sh (natsD l))) x12 x13) (d0 := natsD l)
        l (fun i => .int (i : Nat)) (fun p => .sh (rowD (gd [] rows p))) rfl rfl (by omega) (by simp [bEnv]) rfl (by decide) fun p hp => by
          have := opIx_rows (hlt p hp)
          simp [bEnv, this]
      have hbo := best_of_ok (m := m) (rows := subR rows l) hsmn (by rw [sub_len]; omega) hwid
      have hr : PyData.tuple (l.map fun p => rowD (gd [] rows p)) = rowsD (subR rows l) := by
        unfold rowsD subR
        rw [List.map_map]
        rfl
      have b0 : (bT (eBin opGt (eCallV bLen 10) (eC (.int 0)))) (bEnv m rows zs (some (keptT m rows zs)) (some (.sh (frD (tw zs.sum)))) (some (.sh (foundD b))) (some (.sh (.int (k : Nat)))) (some (.sh (natsD l))) x12 x13) = .ok (true, bEnv m rows zs (some (keptT m rows zs)) (some (.sh (frD (tw zs.sum)))) (some (.sh (foundD b))) (some (.sh (.int (k : Nat)))) (some (.sh (natsD l))) x12 x13) := by
        have c' : 0 < l.length := by omega
        simp [bEnv, c']
      have s0 : (eBin opIx (eDef G_best_of (aCons (eBinL' opIx 0 (eC (.int 0))) (aCons (eCall bTuple (aCons (eCompV [11] 10 (gN 11) bTrue (eBinR opIx (eBinL' opIx 0 (eC (.int 1))) 11)) aNil)) aNil))) (eC (.int 0))) (bEnv m rows zs (some (keptT m rows zs)) (some (.sh (frD (tw zs.sum)))) (some (.sh (foundD b))) (some (.sh (.int (k : Nat)))) (some (.sh (natsD l))) x12 x13) = .ok (.sh (.int (best m (subR rows l)).1), bEnv m rows zs (some (keptT m rows zs)) (some (.sh (frD (tw zs.sum)))) (some (.sh (foundD b))) (some (.sh (.int (k : Nat)))) (some (.sh (natsD l))) x12 x13) := by
        have hsale : (eBinL' opIx 0 (eC (.int 0))) (bEnv m rows zs (some (keptT m rows zs)) (some (.sh (frD (tw zs.sum)))) (some (.sh (foundD b))) (some (.sh (.int (k : Nat)))) (some (.sh (natsD l))) x12 x13) = .ok (.sh (.int (m : Nat)), bEnv m rows zs (some (keptT m rows zs)) (some (.sh (frD (tw zs.sum)))) (some (.sh (foundD b))) (some (.sh (.int (k : Nat)))) (some (.sh (natsD l))) x12 x13) := by simp [bEnv]
        generalize bEnv m rows zs (some (keptT m rows zs)) (some (.sh (frD (tw zs.sum)))) (some (.sh (foundD b))) (some (.sh (.int (k : Nat)))) (some (.sh (natsD l))) x12 x13 = η at hc hsale ⊢
        generalize eCompV [11] 10 (gN 11) bTrue _ = F at hc ⊢
        generalize eBinL' opIx 0 (eC (.int 0)) = F0 at hsale ⊢
        simp [hc, hsale, Function.comp_def, hr, hbo]
      unfold bTop
      simp only [sAsg, eIf, b0, Rs.bind_ok, if_pos, s0, gN]
      rfl
  have s3 : bHere (bEnv m rows zs (some (keptT m rows zs)) (some (.sh (frD (tw zs.sum)))) (some (.sh (foundD b))) (some (.sh (.int (k : Nat)))) (some (.sh (natsD l))) (some (.sh (.int (best m (subR rows l)).1))) x13) = .ok (.nx, bEnv m rows zs (some (keptT m rows zs)) (some (.sh (frD (tw zs.sum)))) (some (.sh (foundD b))) (some (.sh (.int (k : Nat)))) (some (.sh (natsD l))) (some (.sh (.int (best m (subR rows l)).1))) (some (.sh (frD (tw (val m rows zs l)))))) := by
    have hc := eCompV1_map (k := 11) (i := 10) (elt := (eBinLR opIx 3 11)) (η := bEnv m rows zs (some (keptT m rows zs)) (some (.sh (frD (tw zs.sum)))) (some (.sh (foundD b))) (some (.sh (.int (k : Nat)))) (some (.sh (natsD l))) (some (.sh (.int (best m (subR rows l)).1))) x13) (d0 := natsD l)
      l (fun i => .int (i : Nat)) (fun p => .sh (frD (tw (kept m rows zs p)))) rfl rfl (by omega) (by simp [bEnv]) rfl (by decide) fun p hp => by
        have : atI ((List.range rows.length).map fun p => frD (tw (kept m rows zs p))) (p : Int) = some (frD (tw (kept m rows zs p))) := by
          refine atI_of ?_
          rw [List.getElem?_map, List.getElem?_range (hlt p hp)]
          rfl
        simp [bEnv, keptT, Function.comp_def, this]
    have ht := total_ok hkz
    rw [List.map_map] at ht
    have ht : G_total_of [.list (l.map fun p => frD (tw (kept m rows zs p)))] = some (.sh (frD (tw (l.map (kept m rows zs)).sum))) := ht
    have hl2 := less_tw (x := 12 * (best m (subR rows l)).1) (y := (l.map (kept m rows zs)).sum) (by unfold Sm; omega) hkz.sm
    rw [← val_int, ← hv] at hl2
    unfold bHere
    generalize val m rows zs l = V at hl2 ⊢
    generalize (l.map (kept m rows zs)).sum = S at hl2 ht
    generalize (best m (subR rows l)).1 = B at hl2 hc ⊢
    have hx : (eTup (aCons (eV 12) (aCons (eC (.int 1)) aNil))) (bEnv m rows zs (some (keptT m rows zs)) (some (.sh (frD (tw zs.sum)))) (some (.sh (foundD b))) (some (.sh (.int (k : Nat)))) (some (.sh (natsD l))) (some (.sh (.int B))) x13) = .ok (.sh (.tuple [.int B, .int 1]), bEnv m rows zs (some (keptT m rows zs)) (some (.sh (frD (tw zs.sum)))) (some (.sh (foundD b))) (some (.sh (.int (k : Nat)))) (some (.sh (natsD l))) (some (.sh (.int B))) x13) := by simp [bEnv]
    generalize eTup (aCons (eV 12) (aCons (eC (.int 1)) aNil)) = F0 at hx ⊢
    generalize eCompV [11] 10 (gN 11) bTrue _ = F at hc ⊢
    have hfin : (bEnv m rows zs (some (keptT m rows zs)) (some (.sh (frD (tw zs.sum)))) (some (.sh (foundD b))) (some (.sh (.int (k : Nat)))) (some (.sh (natsD l))) (some (.sh (.int B))) x13).set 13 (some (.sh (frD (tw V)))) = bEnv m rows zs (some (keptT m rows zs)) (some (.sh (frD (tw zs.sum)))) (some (.sh (foundD b))) (some (.sh (.int (k : Nat)))) (some (.sh (natsD l))) (some (.sh (.int B))) (some (.sh (frD (tw V)))) := rfl
    rw [← hfin]
    generalize bEnv m rows zs (some (keptT m rows zs)) (some (.sh (frD (tw zs.sum)))) (some (.sh (foundD b))) (some (.sh (.int (k : Nat)))) (some (.sh (natsD l))) (some (.sh (.int B))) x13 = η at hc hx ⊢
    simp [hc, hx, Function.comp_def, ht, hl2]
  have hzs : Sm zs.sum := (hp.zsok h4).sm
  have s4 : bIf (bEnv m rows zs (some (keptT m rows zs)) (some (.sh (frD (tw zs.sum)))) (some (.sh (foundD b))) (some (.sh (.int (k : Nat)))) (some (.sh (natsD l))) (some (.sh (.int (best m (subR rows l)).1))) (some (.sh (frD (tw (val m rows zs l)))))) = .ok (.nx, bEnv m rows zs (some (keptT m rows zs)) (some (.sh (frD (tw zs.sum)))) (some (.sh (foundD (stepP (val m rows zs) zs.sum b l)))) (some (.sh (.int (k : Nat)))) (some (.sh (natsD l))) (some (.sh (.int (best m (subR rows l)).1))) (some (.sh (frD (tw (val m rows zs l)))))) := by
    have e1 := below_tw hzs hsm
    unfold stepP
    generalize val m rows zs l = V at *
    generalize zs.sum = W at *
    unfold bIf
    by_cases c1 : W < V
    · rw [decide_eq_true c1] at e1
      cases b with
      | none => simp [bEnv, e1, foundD, c1]
      | some b =>
        obtain ⟨x, kk⟩ := b
        obtain ⟨hx, hkl⟩ := hb x kk rfl
        have e2 := below_tw hx hsm
        have e3 : opEq (frD (tw x)) (frD (tw V)) = some (.sh (.bool (decide (x = V)))) := by rw [fr_eq, decide_eq_decide.mpr ⟨tw_inj, fun h => by rw [h]⟩]
        have e4 := opLt_nats (a := l) (b := kk) (by omega) hkl
        by_cases c2 : x < V
        · rw [decide_eq_true c2] at e2
          simp [bEnv, e1, foundD, c1, e2, c2]
        · rw [decide_eq_false c2] at e2
          by_cases c3 : x = V
          · subst c3
            rw [decide_eq_true rfl] at e3
            cases c4 : ltB l kk
            · rw [c4] at e4
              simp [bEnv, e1, foundD, c1, e2, e3, e4, c4]
            · rw [c4] at e4
              simp [bEnv, e1, foundD, c1, e2, e3, e4, c4]
          · rw [decide_eq_false c3] at e3
            simp [bEnv, e1, foundD, c1, e2, c2, e3, c3]
    · rw [decide_eq_false c1] at e1
      simp [bEnv, e1, c1]
  unfold bBody
  simp only [sSeq, s1, s2, s3, s4, Rs.bind_ok]
end
end K80
set_option Elab.async false
set_option linter.all false
set_option maxRecDepth 100000
set_option maxHeartbeats 4000000
namespace K80
open PySem L2 Pv
theorem fold_mem {v : List Nat → Int} {w : Int} {P : Int → List Nat → Prop} : ∀ {L : List (List Nat)} {b : Option (Int × List Nat)}, (∀ x l, b = some (x, l) → P x l) → (∀ l ∈ L, P (v l) l) → ∀ x l, L.foldl (stepP v w) b = some (x, l) → P x l
  | [], b, hb, _, x, l, e => hb x l e
  | a :: L, b, hb, hL, x, l, e => by
    refine fold_mem (L := L) (b := stepP v w b a) (fun x l e => ?_) (fun l hl => hL l (List.mem_cons_of_mem _ hl)) x l e
    have ha := hL a List.mem_cons_self
    unfold stepP at e
    split at e
    · cases b with
      | none => cases e; exact ha
      | some b =>
        obtain ⟨y, k⟩ := b
        have e : (if y < v a ∨ (y = v a ∧ ltB a k = true) then some (v a, a) else some (y, k)) = some (x, l) := e
        split at e
        · cases e; exact ha
        · cases e; exact hb _ _ rfl
    · exact hb x l e
section
variable {m n p : Nat} {rows : List (List Int)} {zs : List Int} {l : List Nat}
theorem shl_n (h1 : 1 ≤ n) (h4 : n ≤ 4) : opShl (.int 1) (.int (n : Nat)) = some (.sh (.int (2 ^ n : Nat))) := by
  have : n = 1 ∨ n = 2 ∨ n = 3 ∨ n = 4 := by omega
  rcases this with rfl | rfl | rfl | rfl <;> rfl
theorem blocked_ok (h : Sl m rows) (hp : Pd rows zs) : G_blocked [saleD m rows, paidD zs] = some (.sh (blockD (blkF m rows zs))) := by
  have h4 := h.mn.n4
  have h1 := h.n1
  obtain ⟨lo1, lo2, lo3, lo4⟩ := lots_ok h1 h4
  have e1 := check_sale_ok h
  have e2 := amounts_ok (hp.zsok h4) fun z hz => (hp.rng z hz).1
  rw [hp.len] at e2
  have e3 := best_of_ok h.mn h1 h.ok.wid
  have e4 := total_ok (hp.zsok h4)
  obtain ⟨t, e, rfl⟩ := gP_of (P := fun t => t = .sh (blockD (blkF m rows zs))) (N := 14) (n := 2) (fb := B_blocked) (ds := [saleD m rows, paidD zs]) rfl (by
    rw [blk_eq]
    refine sSeq_nx (η1 := [some (.sh (saleD m rows)), some (.sh (paidD zs)), none, none, none, none, none, none, none, none, none, none, none, none]) (by simp [startE, e1]) ?_
    refine sSeq_nx (η1 := [some (.sh (saleD m rows)), some (.sh (paidD zs)), none, none, none, none, none, none, none, none, none, none, none, none]) (by simp [e2]) ?_
    refine sSeq_nx (η1 := bEnv m rows zs none none none none none none none) (by simp [e3, bEnv]) ?_
    refine sSeq_nx (bKept_ok h hp) ?_
    refine sSeq_nx (η1 := bEnv m rows zs (some (keptT m rows zs)) (some (.sh (frD (tw zs.sum)))) (some (.sh (foundD none))) none none none none) (by
      have hli : bList [paidD zs] = some (.lst (zs.map fun z => T.sh (frD (tw z)))) := by
        show some (T.lst ((zs.map fun z => frD (tw z)).map T.sh)) = _
        rw [List.map_map]
        rfl
      simp [sPar, bEnv, hli, Function.comp_def, e4, foundD]) ?_
    refine sSeq_loop (sFor_inv (List.range (2 ^ rows.length)) (fun i => .int (i : Nat)) (fun k η => ∃ x9 x10 x12 x13, η = bEnv m rows zs (some (keptT m rows zs)) (some (.sh (frD (tw zs.sum)))) (some (.sh (foundD (((lots rows.length).take k).foldl (stepP (val m rows zs) zs.sum) none)))) x9 x10 x12 x13) (fun _ _ => False) (η1 := bEnv m rows zs (some (keptT m rows zs)) (some (.sh (frD (tw zs.sum)))) (some (.sh (foundD none))) none none none none) ?_ ⟨none, none, none, none, rfl⟩ ?_) ?_ (fun _ _ h => h.elim)
    · refine iR1_of ?_ (by have := pow_n h1 h4; omega)
      have := shl_n h1 h4
      generalize (2 ^ rows.length : Nat) = M at this ⊢
      simp [bEnv, this]
    · rintro k x η hk ⟨x9, x10, x12, x13, rfl⟩
      obtain ⟨rfl, hx⟩ := range_get hk
      have hlx : (lots rows.length)[x]? = some (maskL rows.length x) := by
        rw [lo1, List.getElem?_map, List.getElem?_range hx]
        rfl
      obtain ⟨hx', ex⟩ := List.getElem?_eq_some_iff.mp hlx
      have hlo := lo2 _ (List.mem_of_getElem? hlx)
      have st := bBody_ok (k := x) (b := ((lots rows.length).take x).foldl (stepP (val m rows zs) zs.sum) none) (x9 := x9) (x10 := x10) (x12 := x12) (x13 := x13) h hp hx hlo (fold_mem (P := fun v l => Sm v ∧ l.length < 1000) (fun _ _ e => by cases e) fun l hl => by
        have hl' := lo2 l (List.mem_of_mem_take hl)
        exact ⟨val_sm h.mn h.bd hp hl', by have := hl'.len; omega⟩)
      rw [gN_bind]
      refine step_nx (η := bEnv m rows zs (some (keptT m rows zs)) (some (.sh (frD (tw zs.sum)))) (some (.sh (foundD (((lots rows.length).take (x + 1)).foldl (stepP (val m rows zs) zs.sum) none)))) (some (.sh (.int (x : Nat)))) (some (.sh (natsD (maskL rows.length x)))) (some (.sh (.int (best m (subR rows (maskL rows.length x))).1))) (some (.sh (frD (tw (val m rows zs (maskL rows.length x))))))) ?_ rfl ⟨_, _, _, _, rfl⟩
      rw [List.take_succ_eq_append_getElem hx', ex, List.foldl_append]
      exact st
    · rintro η ⟨x9, x10, x12, x13, rfl⟩
      rw [List.length_range, ← lo4, List.take_length]
      refine ⟨(.ret (.sh (blockD (blkF m rows zs))), bEnv m rows zs (some (keptT m rows zs)) (some (.sh (frD (tw zs.sum)))) (some (.sh (foundD (blkF m rows zs)))) x9 x10 x12 x13), ?_, rfl⟩
      show sRet _ (bEnv m rows zs (some (keptT m rows zs)) (some (.sh (frD (tw zs.sum)))) (some (.sh (foundD (blkF m rows zs)))) x9 x10 x12 x13) = _
      generalize blkF m rows zs = b
      cases b with
      | none => simp [bEnv, foundD, blockD]
      | some b =>
        obtain ⟨x, l⟩ := b
        simp [bEnv, foundD, blockD])
  exact e
/-! ### the law's look -/
def lEnv (m : Nat) (rows : List (List Int)) (zs : List Int) (x5 x6 x7 x8 x9 x10 x11 x12 : Option T) : Pv.Env :=
  [some (.sh (saleD m rows)), some (.sh (paidD zs)), some (.sh (.int (m : Nat))), some (.sh (rowsD rows)), some (.sh (natsD (best m rows).2)), x5, x6, x7, x8, x9, x10, x11, x12]
def entT (m : Nat) (rows : List (List Int)) (zs : List Int) (l : List Nat) : PyData := .tuple [frD (tw (val m rows zs l)), natsD l]
def lFound (m : Nat) (rows : List (List Int)) (zs : List Int) (L : List (List Nat)) : T := .lst (L.map fun l => T.sh (entT m rows zs l))
def lA : FS := (sAsg (eBin opIx (eDef G__law_best (aCons (eV 2) (aCons (eCall bTuple (aCons (eCompV [9] 7 (gN 9) bTrue (eBinLR opIx 3 9)) aNil)) aNil))) (eC (.int 0))) (gN 8))
def lB0 : FS := (sAsg (eDef G__law_add (aCons (eDef G__law_add (aCons (eV 10) (aCons (eBinLR opIx 1 9) aNil))) (aCons (eTup (aCons (eBin opSub (eC (.int 0)) (eBin opIx (eBinLR opIx 3 9) (eBinLR opIx 4 9))) (aCons (eC (.int 1)) aNil))) aNil))) (gN 10))
def lB : FS := (sForV 7 (gN 9) lB0)
def lBody1 : FS := sSeq lA (sSeq (sAsg (eTup (aCons (eV 8) (aCons (eC (.int 1)) aNil))) (gN 10)) (sSeq lB (sExpr (eMt1 mAppend 5 (eTup (aCons (eV 10) (aCons (eV 7) aNil)))))))
def lBody2 : FS := (sSeq (sAsg (eBin opSub (eBin opMul (eBinL' opIx 10 (eC (.int 0))) (eBin opIx (eBinL' opIx 11 (eC (.int 0))) (eC (.int 1)))) (eBin opMul (eBin opIx (eBinL' opIx 11 (eC (.int 0))) (eC (.int 0))) (eBinL' opIx 10 (eC (.int 1))))) (gN 12)) (sIf (bOr (bT (eBinL' opGt 12 (eC (.int 0)))) (bAnd (bT (eBinL' opEq 12 (eC (.int 0)))) (bT (eBinL' opLt 7 (eBinL' opIx 11 (eC (.int 1))))))) (sAsg (eTup (aCons (eV 10) (aCons (eV 7) aNil))) (gN 11)) sNil))
def lRet : FS := (sRet (eIf (bT (eBin opGt (eBin opMul (eBin opIx (eBinL' opIx 11 (eC (.int 0))) (eC (.int 0))) (eBinL' opIx 6 (eC (.int 1)))) (eBin opMul (eBinL' opIx 6 (eC (.int 0))) (eBin opIx (eBinL' opIx 11 (eC (.int 0))) (eC (.int 1)))))) (eBinL' opIx 11 (eC (.int 1))) (eC .none)))
theorem lb_eq : B__law_blocked = (sSeq (sAsg (eV 0) (gTupD 2 (gsCons (gN 2) (gsCons (gN 3) gsNil)))) (sSeq (sPar 4 5 (aCons (eBin opIx (eDef G__law_best (aCons (eV 2) (aCons (eV 3) aNil))) (eC (.int 1))) (aCons (eLst aNil) aNil))) (sSeq (sAsg (eDef G__law_sum (aCons (eCallV bList 1) aNil)) (gN 6)) (sSeq (sFor (iE (eDef G__law_lots (aCons (eCallV bLen 3) aNil))) (gN 7) lBody1) (sSeq (sAsg (eBinL' opIx 5 (eC (.int 0))) (gN 11)) (sSeq (sForV 5 (gTupD 2 (gsCons (gN 10) (gsCons (gN 7) gsNil))) lBody2) lRet)))))) := rfl
theorem lA_ok {x5 x6 x8 x9 x10 : Option T} {k9 : Option PyData} (h : Sl m rows) (hl : LotOk rows.length l) (hx9 : x9 = k9.map T.sh) : lA (lEnv m rows zs x5 x6 (some (.sh (natsD l))) x8 x9 x10 none none) = .ok (.nx, lEnv m rows zs x5 x6 (some (.sh (natsD l))) (some (.sh (.int (best m (subR rows l)).1))) x9 x10 none none) := by
  have h4 := h.mn.n4
  have hll := hl.len
  have hlt := hl.lt
  have hc := eCompV1_map (k := 9) (i := 7) (elt := (eBinLR opIx 3 9)) (η := lEnv m rows zs x5 x6 (some (.sh (natsD l))) x8 x9 x10 none none) (d0 := natsD l)
    l (fun i => .int (i : Nat)) (fun p => .sh (rowD (gd [] rows p))) rfl rfl (by omega) (by simp [lEnv]) (by subst hx9; cases k9 <;> rfl) (by decide) fun p hp => by
      have := opIx_rows (hlt p hp)
      simp [lEnv, this]
  have hbo := law_best_ok (m := m) (rows := subR rows l) (sub_mn h.mn hl) (sub_wid h.ok.wid hl)
  have hr : PyData.tuple (l.map fun p => rowD (gd [] rows p)) = rowsD (subR rows l) := by
    unfold rowsD subR
    rw [List.map_map]
    rfl
  unfold lA
  have hv : (eV 2) (lEnv m rows zs x5 x6 (some (.sh (natsD l))) x8 x9 x10 none none) = .ok (.sh (.int (m : Nat)), lEnv m rows zs x5 x6 (some (.sh (natsD l))) x8 x9 x10 none none) := rfl
  have hfin : (lEnv m rows zs x5 x6 (some (.sh (natsD l))) x8 x9 x10 none none).set 8 (some (.sh (.int (best m (subR rows l)).1))) = lEnv m rows zs x5 x6 (some (.sh (natsD l))) (some (.sh (.int (best m (subR rows l)).1))) x9 x10 none none := rfl
  rw [← hfin]
  generalize lEnv m rows zs x5 x6 (some (.sh (natsD l))) x8 x9 x10 none none = η at hc hv ⊢
  generalize eCompV [9] 7 (gN 9) bTrue _ = F at hc ⊢
  generalize eV 2 = F0 at hv ⊢
  simp [hc, hv, Function.comp_def, hr, hbo]
def hereN (m : Nat) (rows : List (List Int)) (zs : List Int) (top : Int) (l : List Nat) : Int := 12 * top - (l.map (kept m rows zs)).sum
theorem lB_ok {x5 x6 x9 : Option T} {top : Int} (h : Sl m rows) (hp : Pd rows zs) (hl : LotOk rows.length l) (ht : 0 ≤ top ∧ top ≤ 400) {k9 : Option PyData} (hx9 : x9 = k9.map T.sh) : (lB (lEnv m rows zs x5 x6 (some (.sh (natsD l))) (some (.sh (.int top))) x9 (some (.sh (frD (tw (12 * top))))) none none)).Is (fun q => q.1 = .nx ∧ ∃ k9 : Option PyData, q.2 = lEnv m rows zs x5 x6 (some (.sh (natsD l))) (some (.sh (.int top))) (k9.map T.sh) (some (.sh (frD (tw (hereN m rows zs top l))))) none none) := by
  have h4 := h.mn.n4
  have hll := hl.len
  have hlt := hl.lt
  have key := sForV_inv (body := lB0) (tgt := gN 9) (j := 7) (η := lEnv m rows zs x5 x6 (some (.sh (natsD l))) (some (.sh (.int top))) x9 (some (.sh (frD (tw (12 * top))))) none none) l (fun i => PyData.int (i : Nat)) (fun k η => ∃ k9 : Option PyData, η = lEnv m rows zs x5 x6 (some (.sh (natsD l))) (some (.sh (.int top))) (k9.map T.sh) (some (.sh (frD (tw (hereN m rows zs top (l.take k)))))) none none) (fun _ _ => False) (d0 := natsD l) rfl rfl ⟨k9, by
      rw [hx9]
      show _ = lEnv m rows zs x5 x6 (some (.sh (natsD l))) (some (.sh (.int top))) (k9.map T.sh) (some (.sh (frD (tw (12 * top - 0))))) none none
      rw [Int.sub_zero]⟩ ?_
  · obtain ⟨⟨fl, η⟩, e, hq⟩ := key
    cases fl with
    | nx =>
      obtain ⟨k9', rfl⟩ := hq
      rw [List.take_length] at e
      exact ⟨_, e, rfl, k9', rfl⟩
    | ret t => exact hq.elim
    | bk => exact hq.elim
    | ct => exact hq.elim
  · rintro k p η hk ⟨k9', rfl⟩
    obtain ⟨hk', ek⟩ := List.getElem?_eq_some_iff.mp hk
    have hpl := hlt p (List.mem_of_getElem? hk)
    obtain ⟨a1, a2⟩ := al_len h.mn (best_bst h.mn).mem
    have i1 := opIx_rows hpl
    have i2 := opIx_nats (l := (best m rows).2) (i := p) (by omega)
    have i3 := opIx_row (r := gd [] rows p) (i := gd 0 (best m rows).2 p) (by rw [row_len h.ok.wid hpl]; exact a2 _ (gd_mem (by omega)))
    have b1 := gd_bd h.bd p (gd 0 (best m rows).2 p)
    have b2 := hp.at_ hpl
    have hsub : LotOk rows.length (l.take k) → True := fun _ => trivial
    have hkz : Zs ((l.take k).map (kept m rows zs)) := ⟨by rw [List.length_map, List.length_take]; omega, fun z hz => by
      obtain ⟨q, hq, rfl⟩ := List.mem_map.mp hz
      exact kept_bd h.bd hp (hlt q (List.mem_of_mem_take hq))⟩
    have hs0 := sum_bd hkz.2
    have hs1 := hkz.1
    rw [List.length_map] at hs0 hs1
    have hH : Sm (hereN m rows zs top (l.take k)) := by unfold hereN Sm; omega
    have e1 := add_tw hH (y := gd 0 zs p) (by unfold Sm; omega)
    have e2 := add_tw (x := hereN m rows zs top (l.take k) + gd 0 zs p) (y := 12 * (0 - at_ (gd [] rows p) (gd 0 (best m rows).2 p))) (by unfold Sm at hH ⊢; unfold hereN at hH ⊢; omega) (by unfold Sm; omega)
    rw [← val_int] at e2
    have hnew : hereN m rows zs top (l.take k) + gd 0 zs p + 12 * (0 - at_ (gd [] rows p) (gd 0 (best m rows).2 p)) = hereN m rows zs top (l.take (k + 1)) := by
      unfold hereN
      rw [List.take_succ_eq_append_getElem hk', ek, List.map_append, List.sum_append]
      have : ([p].map (kept m rows zs)).sum = kept m rows zs p := by simp
      rw [this]
      unfold kept
      omega
    rw [hnew] at e2
    have i4 : opIx (paidD zs) (.int (p : Nat)) = some (.sh (frD (tw (gd 0 zs p)))) := by
      have : atI (zs.map fun z => frD (tw z)) (p : Int) = some (frD (tw (gd 0 zs p))) := by
        refine atI_of ?_
        rw [List.getElem?_map, getD_get (d := 0) (by rw [hp.len]; exact hpl)]
        rfl
      simp [paidD, this]
    refine step_nx (η := lEnv m rows zs x5 x6 (some (.sh (natsD l))) (some (.sh (.int top))) (some (.sh (.int (p : Nat)))) (some (.sh (frD (tw (hereN m rows zs top (l.take (k + 1))))))) none none) ?_ (pkIs_of rfl) ⟨some (.int (p : Nat)), rfl⟩
    rw [gN_bind]
    generalize hereN m rows zs top (l.take (k + 1)) = N at e2 ⊢
    generalize hereN m rows zs top (l.take k) = N0 at e1 e2 ⊢
    have hz : (0 : Int) - at_ (gd [] rows p) (gd 0 (best m rows).2 p) = -at_ (gd [] rows p) (gd 0 (best m rows).2 p) := by omega
    rw [hz] at e2
    unfold lB0
    simp [lEnv, i1, i2, i3, i4, e1, e2]
theorem body1_ok {k : Nat} {x6 x7 x8 x9 x10 : Option T} {k9 : Option PyData} {L : List (List Nat)} (h : Sl m rows) (hp : Pd rows zs) (hl : LotOk rows.length l) (hL : L.length < 100) (hx9 : x9 = k9.map T.sh) :
    (lBody1 (lEnv m rows zs (some (lFound m rows zs L)) x6 (some (.sh (natsD l))) x8 x9 x10 none none)).Is (fun q => q.1 = .nx ∧ ∃ x8 x10, ∃ k9 : Option PyData, q.2 = lEnv m rows zs (some (lFound m rows zs (L ++ [l]))) x6 (some (.sh (natsD l))) x8 (k9.map T.sh) x10 none none) := by
  have htb := best_bd (sub_mn h.mn hl) (sub_bd h.bd hl)
  unfold lBody1
  refine sSeq_nx (lA_ok h hl hx9) ?_
  refine sSeq_nx (η1 := lEnv m rows zs (some (lFound m rows zs L)) x6 (some (.sh (natsD l))) (some (.sh (.int (best m (subR rows l)).1))) x9 (some (.sh (frD (tw (12 * (best m (subR rows l)).1))))) none none) (by
    rw [← val_int]
    simp [lEnv]) ?_
  refine sSeq_is ((lB_ok h hp hl htb hx9).mono ?_)
  rintro ⟨fl, η⟩ ⟨rfl, k9', rfl⟩
  have hv : hereN m rows zs (best m (subR rows l)).1 l = val m rows zs l := rfl
  rw [hv]
  refine ⟨(.nx, lEnv m rows zs (some (lFound m rows zs (L ++ [l]))) x6 (some (.sh (natsD l))) (some (.sh (.int (best m (subR rows l)).1))) (k9'.map T.sh) (some (.sh (frD (tw (val m rows zs l))))) none none), ?_, rfl, _, _, k9', rfl⟩
  have ha : ∀ t, mAppend (L.map fun l => T.sh (entT m rows zs l)) t = some ((L.map fun l => T.sh (entT m rows zs l)) ++ [t], .sh .none) := fun t => mAppend_of (by rw [List.length_map]; omega)
  generalize (best m (subR rows l)).1 = B
  simp [lEnv, lFound, ha]
  rfl
def lbD (b : Int × List Nat) : PyData := .tuple [frD (tw b.1), natsD b.2]
theorem rat_eq_iff {p q : Rat} : p = q ↔ p.num * (q.den : Nat) - q.num * (p.den : Nat) = 0 := by
  have := Rat.mkRat_eq_iff (n₁ := p.num) (n₂ := q.num) p.den_nz q.den_nz
  rw [Rat.mkRat_self, Rat.mkRat_self] at this
  rw [this]
  omega
theorem body2_ok {x5 x6 x8 : Option T} {k9 : Option T} {x12 : Option T} {b : Int × List Nat} {v : Int} (hb : Sm b.1) (hv : Sm v) (hl1 : l.length < 1000) (hl2 : b.2.length < 1000) :
    lBody2 (lEnv m rows zs x5 x6 (some (.sh (natsD l))) x8 k9 (some (.sh (frD (tw v)))) (some (.sh (lbD b))) x12) = .ok (.nx, lEnv m rows zs x5 x6 (some (.sh (natsD l))) x8 k9 (some (.sh (frD (tw v)))) (some (.sh (lbD (if b.1 < v ∨ (v = b.1 ∧ ltB l b.2 = true) then (v, l) else b)))) (some (.sh (.int ((tw v).num * ((tw b.1).den : Nat) - (tw b.1).num * ((tw v).den : Nat))))) ) := by
  obtain ⟨x, kk⟩ := b
  have n1 := hv.nice
  have n2 := hb.nice
  have m1 := nmul n1 ((tw x).den : Nat)
  have m2 := nmul n2 ((tw v).den : Nat)
  have e4 := opLt_nats hl1 hl2
  have c1 : (0 : Int) < (tw v).num * ((tw x).den : Nat) - (tw x).num * ((tw v).den : Nat) ↔ x < v := by
    rw [← tw_lt (x := x) (y := v), Rat.lt_iff]
    omega
  have c2 : (tw v).num * ((tw x).den : Nat) - (tw x).num * ((tw v).den : Nat) = 0 ↔ v = x := by
    rw [← rat_eq_iff]
    exact ⟨tw_inj, fun h => by rw [h]⟩
  have j0 : opIx (lbD (x, kk)) (.int 0) = some (.sh (frD (tw x))) := by simp [lbD]
  have j1 : opIx (lbD (x, kk)) (.int 1) = some (.sh (natsD kk)) := by simp [lbD]
  generalize hN : (tw v).num * ((tw x).den : Nat) - (tw x).num * ((tw v).den : Nat) = N at c1 c2
  unfold lBody2
  have s1 : (sAsg (eBin opSub (eBin opMul (eBinL' opIx 10 (eC (.int 0))) (eBin opIx (eBinL' opIx 11 (eC (.int 0))) (eC (.int 1)))) (eBin opMul (eBin opIx (eBinL' opIx 11 (eC (.int 0))) (eC (.int 0))) (eBinL' opIx 10 (eC (.int 1))))) (gN 12)) (lEnv m rows zs x5 x6 (some (.sh (natsD l))) x8 k9 (some (.sh (frD (tw v)))) (some (.sh (lbD (x, kk)))) x12) = .ok (.nx, lEnv m rows zs x5 x6 (some (.sh (natsD l))) x8 k9 (some (.sh (frD (tw v)))) (some (.sh (lbD (x, kk)))) (some (.sh (.int N)))) := by
    rw [← hN]
    have q0 := @opIx_fr0 (tw v)
    have q1 := @opIx_fr1 (tw v)
    have r0 := @opIx_fr0 (tw x)
    have r1 := @opIx_fr1 (tw x)
    generalize frD (tw v) = V at q0 q1 ⊢
    generalize frD (tw x) = X at r0 r1 j0
    generalize lbD (x, kk) = B at j0 j1 ⊢
    simp [lEnv, q0, q1, r0, r1, j0, m1, m2]
  simp only [sSeq, s1, Rs.bind_ok]
  by_cases d1 : x < v
  · have d1' := c1.mpr d1
    simp [lEnv, d1', d1]
    rfl
  · have d1' : ¬ 0 < N := fun z => d1 (c1.mp z)
    by_cases d2 : v = x
    · have d2' := c2.mpr d2
      subst d2'
      cases d3 : ltB l kk
      · rw [d3] at e4
        simp [lEnv, d1, d2, j1, e4, d3]
      · rw [d3] at e4
        simp [lEnv, d1, d2, j1, e4, d3]
        rfl
    · have d2' : ¬ N = 0 := fun z => d2 (c2.mp z)
      simp [lEnv, d1', d1, d2', d2]
theorem body2_ex {x5 x6 x8 : Option T} {k9 : Option T} {x12 : Option T} {b : Int × List Nat} {v : Int} (hb : Sm b.1) (hv : Sm v) (hl1 : l.length < 1000) (hl2 : b.2.length < 1000) :
    ∃ z12, lBody2 (lEnv m rows zs x5 x6 (some (.sh (natsD l))) x8 k9 (some (.sh (frD (tw v)))) (some (.sh (lbD b))) x12) = .ok (.nx, lEnv m rows zs x5 x6 (some (.sh (natsD l))) x8 k9 (some (.sh (frD (tw v)))) (some (.sh (lbD (if b.1 < v ∨ (v = b.1 ∧ ltB l b.2 = true) then (v, l) else b)))) z12) := ⟨_, body2_ok hb hv hl1 hl2⟩
theorem law_blocked_ok (h : Sl m rows) (hp : Pd rows zs) : G__law_blocked [saleD m rows, paidD zs] = some (.sh (blockD (blkF m rows zs))) := by
  have h4 := h.mn.n4
  have h1 := h.n1
  obtain ⟨lo1, lo2, ⟨L0, lo3⟩, lo4⟩ := lots_ok h1 h4
  have hll : (lots rows.length).length ≤ 16 := by rw [lo4]; exact pow_n h1 h4
  have e3 := law_best_ok h.mn h.ok.wid
  have e4 := lawSum_ok (hp.zsok h4)
  have e5 := lawLots_ok h1 h4
  have hzs : Sm zs.sum := (hp.zsok h4).sm
  obtain ⟨t, e, rfl⟩ := gP_of (P := fun t => t = .sh (blockD (blkF m rows zs))) (N := 13) (n := 2) (fb := B__law_blocked) (ds := [saleD m rows, paidD zs]) rfl (by
    rw [lb_eq]
    refine sSeq_nx (η1 := [some (.sh (saleD m rows)), some (.sh (paidD zs)), some (.sh (.int (m : Nat))), some (.sh (rowsD rows)), none, none, none, none, none, none, none, none, none]) rfl ?_
    refine sSeq_nx (η1 := lEnv m rows zs (some (lFound m rows zs [])) none none none none none none none) (by simp [sPar, e3, lEnv, lFound]) ?_
    refine sSeq_nx (η1 := lEnv m rows zs (some (lFound m rows zs [])) (some (.sh (frD (tw zs.sum)))) none none none none none none) (by
      have hli : bList [paidD zs] = some (.lst (zs.map fun z => T.sh (frD (tw z)))) := by
        show some (T.lst ((zs.map fun z => frD (tw z)).map T.sh)) = _
        rw [List.map_map]
        rfl
      simp [lEnv, hli, Function.comp_def, e4]) ?_
    refine sSeq_loop (sFor_inv (lots rows.length) natsD (fun k η => ∃ x7 x8 x10, ∃ k9 : Option PyData, η = lEnv m rows zs (some (lFound m rows zs ((lots rows.length).take k))) (some (.sh (frD (tw zs.sum)))) x7 x8 (k9.map T.sh) x10 none none) (fun _ _ => False) (η1 := lEnv m rows zs (some (lFound m rows zs [])) (some (.sh (frD (tw zs.sum)))) none none none none none none) ?_ ⟨none, none, none, none, rfl⟩ ?_) ?_ (fun _ _ h => h.elim)
    · simp [lEnv, e5, Function.comp_def]
    · rintro k l η hk ⟨x7, x8, x10, k9, rfl⟩
      obtain ⟨hk', ek⟩ := List.getElem?_eq_some_iff.mp hk
      rw [gN_bind]
      refine (body1_ok (k := 0) (x6 := some (.sh (frD (tw zs.sum)))) (x7 := none) (x8 := x8) (x9 := k9.map T.sh) (x10 := x10) (k9 := k9) (L := (lots rows.length).take k) h hp (lo2 l (List.mem_of_getElem? hk)) (by rw [List.length_take]; omega) rfl).mono ?_
      rintro ⟨fl, η⟩ ⟨rfl, y8, y10, j9, rfl⟩
      refine ⟨rfl, some (.sh (natsD l)), y8, y10, j9, ?_⟩
      rw [List.take_succ_eq_append_getElem hk', ek]
    · rintro η ⟨x7, x8, x10, k9, rfl⟩
      rw [List.take_length]
      have hlf : lFound m rows zs (lots rows.length) = .lst ((lots rows.length).map fun l => T.sh (entT m rows zs l)) := rfl
      refine sSeq_nx (η1 := lEnv m rows zs (some (lFound m rows zs (lots rows.length))) (some (.sh (frD (tw zs.sum)))) x7 x8 (k9.map T.sh) x10 (some (.sh (lbD (val m rows zs [], [])))) none) (by
        rw [hlf, lo3]
        simp [lEnv, Function.comp_def]
        rfl) ?_
      refine sSeq_loop (sForV_inv (lots rows.length) (entT m rows zs) (fun k η => ∃ x7 x10 x12, η = lEnv m rows zs (some (lFound m rows zs (lots rows.length))) (some (.sh (frD (tw zs.sum)))) x7 x8 (k9.map T.sh) x10 (some (.sh (lbD (((lots rows.length).take k).foldl (stepL (val m rows zs)) (val m rows zs [], []))))) x12) (fun _ _ => False) (d0 := .list ((lots rows.length).map (entT m rows zs))) (by simp [lEnv, hlf, Function.comp_def]) rfl ⟨x7, x10, none, rfl⟩ ?_) ?_ (fun _ _ h => h.elim)
      · rintro k l η hk ⟨y7, y10, y12, rfl⟩
        obtain ⟨hk', ek⟩ := List.getElem?_eq_some_iff.mp hk
        have hlo := lo2 l (List.mem_of_getElem? hk)
        have hcur : ∀ (L : List (List Nat)) (b : Int × List Nat), Sm b.1 ∧ b.2.length < 1000 → (∀ l ∈ L, LotOk rows.length l) → Sm (L.foldl (stepL (val m rows zs)) b).1 ∧ (L.foldl (stepL (val m rows zs)) b).2.length < 1000 := by
          intro L
          induction L with
          | nil => intro b hb _; exact hb
          | cons a L ih =>
            intro b hb hL
            refine ih _ ?_ fun x hx => hL x (List.mem_cons_of_mem _ hx)
            unfold stepL
            split
            · have ha := hL a List.mem_cons_self
              exact ⟨val_sm h.mn h.bd hp ha, by have := ha.len; show a.length < 1000; omega⟩
            · exact hb
        have hnil : LotOk rows.length [] := lo2 [] (by rw [lo3]; exact List.mem_cons_self)
        obtain ⟨hb1, hb2⟩ := hcur ((lots rows.length).take k) (val m rows zs [], []) ⟨val_sm h.mn h.bd hp hnil, Nat.zero_lt_succ _⟩ fun x hx => lo2 x (List.mem_of_mem_take hx)
        obtain ⟨z12, st⟩ := body2_ex (m := m) (rows := rows) (zs := zs) (l := l) (x5 := some (lFound m rows zs (lots rows.length))) (x6 := some (.sh (frD (tw zs.sum)))) (x8 := x8) (k9 := k9.map T.sh) (x12 := y12) hb1 (val_sm h.mn h.bd hp hlo) (by have := hlo.len; omega) hb2
        refine step_nx st (pkIs_of (by simp [lEnv, hlf, Function.comp_def])) ⟨some (.sh (natsD l)), some (.sh (frD (tw (val m rows zs l)))), z12, ?_⟩
        rw [List.take_succ_eq_append_getElem hk', ek, List.foldl_append]
        rfl
      · rintro η ⟨y7, y10, y12, rfl⟩
        rw [List.take_length]
        have hval0 : val m rows zs [] = 0 := by
          unfold val
          show 12 * (best m []).1 - 0 = 0
          rw [best_nil]
          rfl
        have hz0 : 0 ≤ zs.sum := by
          have : ∀ zs : List Int, (∀ z ∈ zs, 0 ≤ z) → 0 ≤ zs.sum := by
            intro zs
            induction zs with
            | nil => simp
            | cons z zs ih =>
              intro hz
              have := ih fun x hx => hz x (List.mem_cons_of_mem _ hx)
              have := hz z List.mem_cons_self
              simp only [List.sum_cons]
              omega
          exact this zs fun z hz => (hp.rng z hz).1
        have hft := fold_told (v := val m rows zs) (w := zs.sum) (L := lots rows.length) (b := (val m rows zs [], []))
        have ht0 : told zs.sum (val m rows zs [], []) = none := by
          unfold told
          rw [if_neg (by rw [hval0]; omega)]
        rw [ht0] at hft
        have hblk : blkF m rows zs = told zs.sum ((lots rows.length).foldl (stepL (val m rows zs)) (val m rows zs [], [])) := hft
        rw [hblk]
        have hcur : ∀ (L : List (List Nat)) (b : Int × List Nat), Sm b.1 → (∀ l ∈ L, LotOk rows.length l) → Sm (L.foldl (stepL (val m rows zs)) b).1 := by
          intro L
          induction L with
          | nil => intro b hb _; exact hb
          | cons a L ih =>
            intro b hb hL
            refine ih _ ?_ fun x hx => hL x (List.mem_cons_of_mem _ hx)
            unfold stepL
            split
            · exact val_sm h.mn h.bd hp (hL a List.mem_cons_self)
            · exact hb
        have hb1 := hcur (lots rows.length) (val m rows zs [], []) (by rw [hval0]; unfold Sm; decide) lo2
        generalize (lots rows.length).foldl (stepL (val m rows zs)) (val m rows zs [], []) = b at hb1 ⊢
        obtain ⟨x, kk⟩ := b
        have n1 := hzs.nice
        have n2 := Sm.nice hb1
        have m1 := nmul n2 ((tw zs.sum).den : Nat)
        have m2 := nmul n1 ((tw x).den : Nat)
        have j0 : opIx (lbD (x, kk)) (.int 0) = some (.sh (frD (tw x))) := by simp [lbD]
        have j1 : opIx (lbD (x, kk)) (.int 1) = some (.sh (natsD kk)) := by simp [lbD]
        have c1 : (tw zs.sum).num * ((tw x).den : Nat) < (tw x).num * ((tw zs.sum).den : Nat) ↔ zs.sum < x := by
          rw [← tw_lt (x := zs.sum) (y := x), Rat.lt_iff]
        refine ⟨(.ret (.sh (blockD (told zs.sum (x, kk)))), lEnv m rows zs (some (lFound m rows zs (lots rows.length))) (some (.sh (frD (tw zs.sum)))) y7 x8 (k9.map T.sh) y10 (some (.sh (lbD (x, kk)))) y12), ?_, rfl⟩
        have q0 := @opIx_fr0 (tw zs.sum)
        have q1 := @opIx_fr1 (tw zs.sum)
        have r0 := @opIx_fr0 (tw x)
        have r1 := @opIx_fr1 (tw x)
        unfold lRet told
        generalize frD (tw zs.sum) = V at q0 q1 ⊢
        generalize frD (tw x) = X at r0 r1 j0
        generalize lbD (x, kk) = B at j0 j1 ⊢
        by_cases c : zs.sum < x
        · have c' := c1.mpr c
          simp [lEnv, q0, q1, r0, r1, j0, j1, m1, m2, c', c, blockD]
        · have c' : ¬ (tw zs.sum).num * ((tw x).den : Nat) < (tw x).num * ((tw zs.sum).den : Nat) := fun z => c (c1.mp z)
          simp [lEnv, q0, q1, r0, r1, j0, j1, m1, m2, c', c, blockD])
  exact e
end
end K80
set_option Elab.async false
set_option linter.all false
set_option maxRecDepth 100000
set_option maxHeartbeats 4000000
namespace K80
open PySem L2 Pv
section
variable {m n p w : Nat} {rows : List (List Int)} {zs : List Int} {l : List Nat}
/-! ### fewer people are never worth more -/
theorem alls_cons {taken x : Nat} {l : List Nat} : (x :: l) ∈ alls m (n + 1) taken ↔ (x < 2 ^ m ∧ (x &&& taken) = 0) ∧ l ∈ alls m n (taken ||| x) := by
  simp only [alls, List.mem_flatMap, List.mem_filter, List.mem_range, List.mem_map, beq_iff_eq]
  constructor
  · rintro ⟨y, hy, z, hz, e⟩
    cases e
    exact ⟨hy, hz⟩
  · rintro ⟨h1, h2⟩
    exact ⟨x, h1, l, h2, rfl⟩
theorem alls_nil {taken : Nat} {l : List Nat} (h : l ∈ alls m (n + 1) taken) : ∃ x l', l = x :: l' := by
  simp only [alls, List.mem_flatMap, List.mem_map] at h
  obtain ⟨y, _, z, _, e⟩ := h
  exact ⟨y, z, e.symm⟩
theorem alls_sub {r1 r2 : List (List Int)} (h : r1.Sublist r2) : Zr r2 → ∀ {taken : Nat} {x : List Nat}, x ∈ alls m r1.length taken → ∃ y ∈ alls m r2.length taken, worth r2 y = worth r1 x := by
  induction h with
  | slnil => exact fun _ _ x hx => ⟨x, hx, rfl⟩
  | cons a _ ih =>
    intro hz taken x hx
    obtain ⟨y, hy, e⟩ := ih (fun r hr => hz r (List.mem_cons_of_mem _ hr)) hx
    refine ⟨0 :: y, alls_cons.mpr ⟨⟨Nat.pos_of_ne_zero (by simp), by simp⟩, by simpa using hy⟩, ?_⟩
    show at_ a 0 + worth _ y = _
    rw [hz a List.mem_cons_self, e]
    omega
  | cons_cons a _ ih =>
    intro hz taken x hx
    obtain ⟨x0, x', rfl⟩ := alls_nil hx
    obtain ⟨h1, h2⟩ := alls_cons.mp hx
    obtain ⟨y, hy, e⟩ := ih (fun r hr => hz r (List.mem_cons_of_mem _ hr)) h2
    refine ⟨x0 :: y, alls_cons.mpr ⟨h1, hy⟩, ?_⟩
    show at_ a x0 + worth _ y = at_ a x0 + worth _ x'
    rw [e]
theorem best_sub {r1 r2 : List (List Int)} (h : r1.Sublist r2) (hz : Zr r2) (hm : MN m r2.length) : (best m r1).1 ≤ (best m r2).1 := by
  have hm1 : MN m r1.length := ⟨hm.m1, hm.m3, by have := h.length_le; have := hm.n4; omega⟩
  have b1 := best_bst hm1
  obtain ⟨y, hy, e⟩ := alls_sub h hz b1.mem
  rw [← b1.eq, ← e]
  exact (best_bst hm).le y hy
theorem rows_range : (List.range rows.length).map (fun p => gd [] rows p) = rows := by
  refine List.ext_getElem? fun i => ?_
  by_cases hi : i < rows.length
  · rw [List.getElem?_map, List.getElem?_range hi, getD_get (d := []) hi]
    rfl
  · rw [List.getElem?_eq_none (by rw [List.length_map, List.length_range]; omega), List.getElem?_eq_none (by omega)]
theorem sub_sublist (hl : LotOk rows.length l) : (subR rows l).Sublist rows := by
  have := hl.sub.map (fun p => gd [] rows p)
  rw [rows_range] at this
  exact this
theorem sub_wo (hl : LotOk rows.length l) (hw : w < rows.length) (hn : w ∉ l) : (subR rows l).Sublist (wo w rows) := by
  have h1 := (hl.wo w hw hn).map (fun p => gd [] rows p)
  have h2 : (wo w (List.range rows.length)).map (fun p => gd [] rows p) = wo w rows := by
    have e : wo w ((List.range rows.length).map fun p => gd [] rows p) = wo w rows := by rw [rows_range]
    rw [← e]
    unfold wo
    rw [List.map_append, List.map_take, List.map_drop]
  rw [h2] at h1
  exact h1
/-! ### sums -/
theorem sum_sub {f : Nat → Int} {l1 l2 : List Nat} (h : l1.Sublist l2) : (∀ x ∈ l2, 0 ≤ f x) → (l1.map f).sum ≤ (l2.map f).sum := by
  induction h with
  | slnil => exact fun _ => Int.le_refl _
  | cons a _ ih =>
    intro hf
    have := ih fun x hx => hf x (List.mem_cons_of_mem _ hx)
    have := hf a List.mem_cons_self
    simp only [List.map_cons, List.sum_cons]
    omega
  | cons_cons a _ ih =>
    intro hf
    have := ih fun x hx => hf x (List.mem_cons_of_mem _ hx)
    simp only [List.map_cons, List.sum_cons]
    omega
theorem sum_wo {f : Nat → Int} (hw : w < n) : ((List.range n).map f).sum = ((wo w (List.range n)).map f).sum + f w := by
  have e : List.range n = (List.range n).take w ++ w :: (List.range n).drop (w + 1) := by
    have h1 : w < (List.range n).length := by simpa using hw
    have h2 := List.drop_eq_getElem_cons h1
    rw [List.getElem_range] at h2
    rw [← h2, List.take_append_drop]
  have e2 : ((List.range n).map f).sum = (((List.range n).take w ++ w :: (List.range n).drop (w + 1)).map f).sum := by rw [← e]
  rw [e2]
  unfold wo
  simp only [List.map_append, List.map_cons, List.sum_append, List.sum_cons]
  omega
theorem sum_pos {f : Nat → Int} : ∀ {l : List Nat}, (∀ x ∈ l, 0 ≤ f x) → 0 ≤ (l.map f).sum
  | [], _ => Int.le_refl _
  | a :: l, h => by
    have := sum_pos (l := l) fun x hx => h x (List.mem_cons_of_mem _ hx)
    have := h a List.mem_cons_self
    simp only [List.map_cons, List.sum_cons]
    omega
theorem sum_mem {f : Nat → Int} : ∀ {l : List Nat}, (∀ x ∈ l, 0 ≤ f x) → w ∈ l → f w ≤ (l.map f).sum
  | a :: l, h, hw => by
    have h1 := sum_pos (l := l) fun x hx => h x (List.mem_cons_of_mem _ hx)
    have h0 := h a List.mem_cons_self
    simp only [List.map_cons, List.sum_cons]
    rcases List.mem_cons.mp hw with rfl | hw
    · omega
    · have := sum_mem (l := l) (fun x hx => h x (List.mem_cons_of_mem _ hx)) hw
      omega
theorem sum_12 {f : Nat → Int} : ∀ {l : List Nat}, (l.map fun p => 12 * f p).sum = 12 * (l.map f).sum
  | [] => rfl
  | a :: l => by
    simp only [List.map_cons, List.sum_cons, sum_12 (l := l)]
    omega
theorem sum_diff {f g : Nat → Int} : ∀ {l : List Nat}, (l.map fun p => f p - g p).sum = (l.map f).sum - (l.map g).sum
  | [] => rfl
  | a :: l => by
    simp only [List.map_cons, List.sum_cons, sum_diff (l := l)]
    omega
theorem worth_sum : ∀ {rows : List (List Int)} {l : List Nat}, l.length = rows.length → worth rows l = ((List.range rows.length).map fun p => at_ (gd [] rows p) (gd 0 l p)).sum
  | [], [], _ => rfl
  | r :: rows, [], h => by simp at h
  | [], a :: l, h => by simp at h
  | r :: rows, a :: l, h => by
    have ih := worth_sum (rows := rows) (l := l) (by simpa using h)
    rw [List.length_cons, List.range_succ_eq_map, List.map_cons, List.map_map, List.sum_cons]
    show at_ r a + worth rows l = at_ r a + _
    rw [ih]
    rfl
/-! ### where nothing blocks -/
def got (m : Nat) (rows : List (List Int)) (p : Nat) : Int := at_ (gd [] rows p) (gd 0 (best m rows).2 p)
theorem got_bd (hb : Bd rows) (p : Nat) : 0 ≤ got m rows p ∧ got m rows p ≤ 100 := gd_bd hb p _
theorem gd_map {f : Nat → Int} (h : p < n) : gd 0 ((List.range n).map f) p = f p := by
  unfold gd
  rw [List.getD_eq_getElem?_getD, List.getElem?_map, List.getElem?_range h]
  rfl
def zsA (m : Nat) (rows : List (List Int)) : List Int := (List.range rows.length).map fun p => 12 * got m rows p
theorem zsA_pd (hb : Bd rows) : Pd rows (zsA m rows) := ⟨by unfold zsA; simp, fun z hz => by
  obtain ⟨p, _, rfl⟩ := List.mem_map.mp hz
  have := got_bd (m := m) hb p
  omega⟩
theorem zsA_none (h : Sl m rows) : blkF m rows (zsA m rows) = none := by
  obtain ⟨_, lo2, _, _⟩ := lots_ok h.n1 h.mn.n4
  have hz : Zr rows := fun r hr => (h.rw_ r hr).zero
  refine fold_none fun l hl => ?_
  have hlo := lo2 l hl
  have h1 := best_sub (sub_sublist hlo) hz h.mn
  have h2 : (zsA m rows).sum = 12 * (best m rows).1 := by
    unfold zsA
    rw [sum_12, ← (best_bst h.mn).eq, worth_sum (al_len h.mn (best_bst h.mn).mem).1]
    rfl
  have h3 : (l.map (kept m rows (zsA m rows))).sum = 0 := by
    have : l.map (kept m rows (zsA m rows)) = l.map fun _ => (0 : Int) := List.map_congr_left fun p hp => by
      unfold kept zsA
      rw [gd_map (hlo.lt p hp)]
      show 12 * got m rows p - 12 * got m rows p = 0
      omega
    rw [this]
    have : ∀ l : List Nat, (l.map fun _ => (0 : Int)).sum = 0 := by
      intro l
      induction l with
      | nil => rfl
      | cons a l ih => simp only [List.map_cons, List.sum_cons, ih]; rfl
    exact this l
  unfold val
  rw [h3, h2]
  omega
def zsB (m : Nat) (rows : List (List Int)) : List Int := (List.range rows.length).map fun p => 12 * pay m rows p
theorem pay_bd (h : MN m rows.length) (hb : Bd rows) (hp : p < rows.length) : 0 ≤ pay m rows p ∧ pay m rows p ≤ 500 := by
  have h0 := pay_pos h hp
  have h1 := best_bd h hb
  have hb2 : Bd (wo p rows) := fun r hr => hb r (wo_sub hr)
  have h2 := best_bd (h.wo hp) hb2
  have h3 := gd_bd hb p (gd 0 (best m rows).2 p)
  refine ⟨h0, ?_⟩
  unfold pay
  omega
theorem zsB_pd (h : MN m rows.length) (hb : Bd rows) : Pd rows (zsB m rows) := ⟨by unfold zsB; simp, fun z hz => by
  obtain ⟨p, hp, rfl⟩ := List.mem_map.mp hz
  have := pay_bd h hb (List.mem_range.mp hp)
  omega⟩
theorem last_ex {v : List Int} {M : Int} (h : M ∈ v) : ∃ w, LastW v M w := by
  induction v with
  | nil => cases h
  | cons a v ih =>
    by_cases hv : M ∈ v
    · obtain ⟨w, h1, h2⟩ := ih hv
      exact ⟨w + 1, by simpa using h1, fun j hj => by
        cases j with
        | zero => omega
        | succ j => simpa using h2 j (by omega)⟩
    · have ha : a = M := by
        rcases List.mem_cons.mp h with h | h
        · exact h.symm
        · exact absurd h hv
      refine ⟨0, by simp [ha], fun j hj e => ?_⟩
      cases j with
      | zero => omega
      | succ j => exact hv (List.mem_of_getElem? (by simpa using e))
theorem zsB_none (h : Sl 1 rows) : blkF 1 rows (zsB 1 rows) = none := by
  obtain ⟨_, lo2, _, _⟩ := lots_ok h.n1 h.mn.n4
  have h4 := h.mn.n4
  have hz : Zr rows := fun r hr => (h.rw_ r hr).zero
  obtain ⟨t1, t2⟩ := top_mem h4 hz
  refine fold_none fun l hl => ?_
  have hlo := lo2 l hl
  have hpp : ∀ p ∈ List.range rows.length, 0 ≤ pay 1 rows p := fun p hp => pay_pos h.mn (List.mem_range.mp hp)
  have hsum : (zsB 1 rows).sum = 12 * ((List.range rows.length).map (pay 1 rows)).sum := sum_12
  have hk : (l.map (kept 1 rows (zsB 1 rows))).sum = 12 * ((l.map (got 1 rows)).sum - (l.map (pay 1 rows)).sum) := by
    have : l.map (kept 1 rows (zsB 1 rows)) = l.map fun p => 12 * (got 1 rows p - pay 1 rows p) := List.map_congr_left fun p hp => by
      unfold kept zsB
      rw [gd_map (hlo.lt p hp)]
      show 12 * got 1 rows p - 12 * pay 1 rows p = _
      omega
    rw [this, sum_12, sum_diff]
  have hgot : ∀ p ∈ l, 0 ≤ got 1 rows p := fun p _ => (got_bd h.bd p).1
  have hle : (best 1 (subR rows l)).1 ≤ (l.map (got 1 rows)).sum + ((List.range rows.length).map (pay 1 rows)).sum - (l.map (pay 1 rows)).sum := by
    have hg0 := sum_pos hgot
    have hps := sum_sub hlo.sub hpp
    by_cases hM : 0 < (best 1 rows).1
    · have hMv : (best 1 rows).1 ∈ vF rows := by
        rcases List.mem_append.mp t1 with t1 | t1
        · exact t1
        · have := List.mem_singleton.mp t1; omega
      obtain ⟨w, hw⟩ := last_ex hMv
      obtain ⟨hwl, hlot⟩ := best_lot h4 hz hM hw
      by_cases hwm : w ∈ l
      · have h1 := best_sub (sub_sublist hlo) hz h.mn
        have h2 := sum_mem hgot hwm
        have h3 : got 1 rows w = (best 1 rows).1 := by
          have hv := vF_gd hwl
          rw [hw.at_] at hv
          have hv := Option.some.inj hv
          unfold got
          rw [hlot w hwl, if_pos rfl, hv]
        omega
      · have h1 := best_sub (sub_wo hlo hwl hwm) hz.wo (h.mn.wo hwl)
        have h2 := pay_one h4 hz hM hw hwl
        rw [if_pos rfl] at h2
        have h3 := sum_wo (f := pay 1 rows) hwl
        have h5 := sum_sub (hlo.wo w hwl hwm) fun p hp => hpp p (wo_sub hp)
        omega
    · have h1 := best_sub (sub_sublist hlo) hz h.mn
      omega
  unfold val
  rw [hk, hsum]
  omega
end
end K80
set_option Elab.async false
set_option linter.all false
set_option maxRecDepth 100000
set_option maxHeartbeats 4000000
namespace K80
open PySem L2 Pv
section
variable {m n p w : Nat} {rows : List (List Int)} {zs : List Int} {l : List Nat} {r : List Int}
/-! ### amounts that are drawn -/
theorem low_tw {a z : Int} {d : Nat} (hd : 0 < d) (hd2 : d < 1000) (h : a * 12 = z * d) : G__law_low [.int a, .int (d : Nat)] = some (.sh (frD (tw z))) := by
  have := mk2 a (d : Nat) (by omega) (by omega)
  rw [this, Int.toNat_natCast, tw_mk (by omega) h]
theorem tup_zs (f : Nat → Int) (n : Nat) : PyData.tuple ((List.range n).map fun p => frD (tw (f p))) = paidD ((List.range n).map f) := by
  unfold paidD
  rw [List.map_map]
  rfl
def pEnv (t : T) (m : Nat) (rows : List (List Int)) (x5 : Option T) : Pv.Env := [some t, some (.sh (saleD m rows)), some (.sh (.int (m : Nat))), some (.sh (rowsD rows)), some (.sh (natsD (best m rows).2)), x5, none, none, none]
theorem paidDraw_ok {t : T} (h : Sl m rows) (ht : Hand t) : ∃ t' zs, G__law_paid t [saleD m rows] = some (.sh (paidD zs), t') ∧ Hand t' ∧ Pd rows zs := by
  have : ∃ u t', G__law_paid t [saleD m rows] = some (u, t') ∧ ∃ zs, u = .sh (paidD zs) ∧ Hand t' ∧ Pd rows zs := by
    refine gIO_of (P := fun u t' => ∃ zs, u = .sh (paidD zs) ∧ Hand t' ∧ Pd rows zs) rfl ?_
    have h4 := h.mn.n4
    have hb := law_best_ok h.mn h.ok.wid
    obtain ⟨a1, a2⟩ := al_len h.mn (best_bst h.mn).mem
    obtain ⟨kind, t1, e1, h1, k0, k1⟩ := draw_ok (many := 5) (by omega) (by omega) ht
    unfold B__law_paid
    refine sSeq_nx (η1 := [some t, some (.sh (saleD m rows)), some (.sh (.int (m : Nat))), some (.sh (rowsD rows)), none, none, none, none, none]) rfl ?_
    refine sSeq_nx (η1 := pEnv t m rows none) (by simp [hb, pEnv]) ?_
    refine sSeq_nx (η1 := pEnv t1 m rows (some (.sh (.int kind)))) (by simp [e1, pEnv]) ?_
    by_cases c0 : kind = 0
    · subst c0
      have hp := payments_ok h
      have hc := eComp1_map (k := 6) (fi := iE (eDef G_payments (aCons (eV 1) aNil))) (elt := eTup (aCons (eV 6) (aCons (eC (.int 1)) aNil))) (η := pEnv t1 m rows (some (.sh (.int 0)))) (η1 := pEnv t1 m rows (some (.sh (.int 0))))
        (payL m rows) PyData.int (fun x => .sh (frD (tw (12 * x)))) (by simp [pEnv, hp]; rfl) (by unfold payL; simp; omega) (by simp [pEnv]) rfl fun x hx => by
          rw [← val_int]
          simp [pEnv]
      refine ⟨(.ret (.sh (paidD (zsB m rows))), pEnv t1 m rows (some (.sh (.int 0)))), ?_, t1, rfl, zsB m rows, rfl, h1, zsB_pd h.mn h.bd⟩
      have hz : PyData.tuple ((payL m rows).map fun x => frD (tw (12 * x))) = paidD (zsB m rows) := by
        unfold payL zsB
        rw [List.map_map]
        exact tup_zs (fun p => 12 * pay m rows p) _
      have b0 : (bT (eBinL' opEq 5 (eC (.int 0)))) (pEnv t1 m rows (some (.sh (.int 0)))) = .ok (true, pEnv t1 m rows (some (.sh (.int 0)))) := by simp [pEnv]
      generalize pEnv t1 m rows (some (.sh (.int 0))) = η at hc b0 ⊢
      generalize eComp [6] (iE (eDef G_payments (aCons (eV 1) aNil))) (gN 6) bTrue _ = F at hc ⊢
      simp only [sSeq, sIf, b0, Rs.bind_ok, if_pos]
      simp [hc, Function.comp_def, hz]
    · refine sSeq_nx (η1 := pEnv t1 m rows (some (.sh (.int kind)))) (by simp [pEnv, c0]) ?_
      by_cases c1 : kind = 1
      · subst c1
        have hz0 : zipD (rows.map rowD) ((best m rows).2.map fun i => PyData.int (i : Nat)) = (List.range rows.length).map fun i => .tuple [rowD (gd [] rows i), .int (gd 0 (best m rows).2 i : Nat)] := by
          rw [zip_rows]
          refine List.ext_getElem? fun i => ?_
          by_cases hi : i < rows.length
          · have hzz : (rows.zip (best m rows).2)[i]? = some (gd [] rows i, gd 0 (best m rows).2 i) := List.getElem?_zip_eq_some.mpr ⟨getD_get hi, getD_get (by omega)⟩
            rw [List.getElem?_map, List.getElem?_map, List.getElem?_range hi, hzz]
            rfl
          · rw [List.getElem?_eq_none (by rw [List.length_map, List.length_zip]; omega), List.getElem?_eq_none (by rw [List.length_map, List.length_range]; omega)]
        have hc := eComp2_map (j := 7) (k := 8) (fi := iZ (eV 3) (eV 4)) (elt := (eDef G__law_low (aCons (eBinLR opIx 7 8) (aCons (eC (.int 2)) aNil)))) (η := pEnv t1 m rows (some (.sh (.int 1)))) (η1 := pEnv t1 m rows (some (.sh (.int 1))))
          (List.range rows.length) (fun i => rowD (gd [] rows i)) (fun i => .int (gd 0 (best m rows).2 i : Nat)) (fun i => .sh (frD (tw (6 * got m rows i)))) (by rw [← hz0]; rfl) (by simp; omega) (by decide) (by simp [pEnv]) (by simp [pEnv]) rfl rfl fun i hi => by
            have hi := List.mem_range.mp hi
            have e2 := opIx_row (r := gd [] rows i) (i := gd 0 (best m rows).2 i) (by rw [row_len h.ok.wid hi]; exact a2 _ (gd_mem (by omega)))
            have e3 : G__law_low [.int (at_ (gd [] rows i) (gd 0 (best m rows).2 i)), .int 2] = some (.sh (frD (tw (6 * got m rows i)))) := low_tw (d := 2) (by decide) (by decide) (by unfold got; omega)
            simp [pEnv, e2, e3]
        refine ⟨(.ret (.sh (paidD ((List.range rows.length).map fun p => 6 * got m rows p))), pEnv t1 m rows (some (.sh (.int 1)))), ?_, t1, rfl, _, rfl, h1, ⟨by simp, fun z hz => by
          obtain ⟨p, _, rfl⟩ := List.mem_map.mp hz
          have := got_bd (m := m) h.bd p
          omega⟩⟩
        have hz := tup_zs (fun p => 6 * got m rows p) rows.length
        have b0 : (bT (eBinL' opEq 5 (eC (.int 1)))) (pEnv t1 m rows (some (.sh (.int 1)))) = .ok (true, pEnv t1 m rows (some (.sh (.int 1)))) := by simp [pEnv]
        generalize pEnv t1 m rows (some (.sh (.int 1))) = η at hc b0 ⊢
        generalize eComp [7, 8] _ _ bTrue _ = F at hc ⊢
        simp only [sSeq, sIf, b0, Rs.bind_ok, if_pos]
        simp [hc, Function.comp_def, hz]
      · refine sSeq_nx (η1 := pEnv t1 m rows (some (.sh (.int kind)))) (by simp [pEnv, c1]) ?_
        by_cases c2 : kind = 2
        · subst c2
          refine ⟨(.ret (.sh (paidD (List.replicate rows.length 0))), pEnv t1 m rows (some (.sh (.int 2)))), ?_, t1, rfl, _, rfl, h1, ⟨by simp, fun z hz => by rw [List.eq_of_mem_replicate hz]; omega⟩⟩
          have hm : opMul (.tuple [.tuple [.int 0, .int 1]]) (.int (rows.length : Nat)) = some (.sh (paidD (List.replicate rows.length 0))) := by
            have : opMul (.tuple [.tuple [.int 0, .int 1]]) (.int (rows.length : Nat)) = some (.sh (.tuple (List.replicate (rows.length : Int).toNat [PyData.tuple [.int 0, .int 1]]).flatten)) := if_pos ⟨by omega, by omega, by decide⟩
            rw [this, Int.toNat_natCast]
            have : ∀ n : Nat, (List.replicate n [PyData.tuple [.int 0, .int 1]]).flatten = (List.replicate n (0 : Int)).map fun z => frD (tw z) := by
              intro n
              induction n with
              | zero => rfl
              | succ n ih => rw [List.replicate_succ, List.flatten_cons, ih, List.replicate_succ]; rfl
            rw [this]
            rfl
          simp [pEnv, hm]
        · refine sSeq_nx (η1 := pEnv t1 m rows (some (.sh (.int kind)))) (by simp [pEnv, c2]) ?_
          obtain ⟨ts, t2, e2, h2, p2⟩ := eCompV1_st (i := 3) (k := 7) (elt := (eDef G__law_low (aCons (eDefIO G__law_draw 0 (aCons (eC (.int 60)) aNil)) (aCons (eBin opAdd (eC (.int 1)) (eDefIO G__law_draw 0 (aCons (eC (.int 4)) aNil))) aNil)))) (f := rowD)
            (fun t : T => pEnv t m rows (some (.sh (.int kind)))) Hand (fun _ x => ∃ z : Int, (0 ≤ z ∧ z ≤ 6000) ∧ x = .sh (frD (tw z))) (l := rows) (s0 := t1) (d0 := rowsD rows) (fun s => rfl) rfl rfl h1 (by omega) (fun s => by simp [pEnv]) rfl (by decide) (fun s => rfl) fun a ha t ht => by
              obtain ⟨f, t3, e3, h3, f0, f1⟩ := draw_ok (many := 60) (by omega) (by omega) ht
              obtain ⟨g, t4, e4, h4', g0, g1⟩ := draw_ok (many := 4) (by omega) (by omega) h3
              have hlow : ∃ z : Int, (0 ≤ z ∧ z ≤ 6000) ∧ G__law_low [.int f, .int (1 + g)] = some (.sh (frD (tw z))) := by
                have : g = 0 ∨ g = 1 ∨ g = 2 ∨ g = 3 := by omega
                rcases this with rfl | rfl | rfl | rfl
                · exact ⟨12 * f, by omega, low_tw (d := 1) (by decide) (by decide) (by omega)⟩
                · exact ⟨6 * f, by omega, low_tw (d := 2) (by decide) (by decide) (by omega)⟩
                · exact ⟨4 * f, by omega, low_tw (d := 3) (by decide) (by decide) (by omega)⟩
                · exact ⟨3 * f, by omega, low_tw (d := 4) (by decide) (by decide) (by omega)⟩
              obtain ⟨z, hz, e5⟩ := hlow
              exact ⟨_, t4, by simp [pEnv, e3, e4, e5], h4', z, hz, rfl⟩
          obtain ⟨zs, rfl, hzl, hzi⟩ := p2.pick
          refine ⟨(.ret (.sh (paidD zs)), pEnv t2 m rows (some (.sh (.int kind)))), ?_, t2, rfl, zs, rfl, h2, ⟨hzl, fun z hz => ?_⟩⟩
          · generalize pEnv t2 m rows (some (.sh (.int kind))) = η2 at e2 ⊢
            generalize pEnv t1 m rows (some (.sh (.int kind))) = η at e2 ⊢
            generalize eCompV [7] 3 (gN 7) bTrue _ = F at e2 ⊢
            simp [e2, paidD, Function.comp_def]
          · obtain ⟨i, hi', e'⟩ := List.mem_iff_getElem.mp hz
            exact hzi i (rows[i]'(by omega)) z (List.getElem?_eq_getElem (by omega)) (by rw [List.getElem?_eq_getElem hi', e'])
  obtain ⟨u, t', e, zs, rfl, r⟩ := this
  exact ⟨t', zs, e, r⟩
/-! ### plain worths -/
def badP (r : List Int) (lot part : Nat) : Bool := hasF lot part && decide (at_ r part + at_ r (lot - part) < at_ r lot)
def badF (r : List Int) (lot : Nat) : Bool := (List.range lot).any (badP r lot)
def plainF (m : Nat) (rows : List (List Int)) : Bool := rows.all fun r => (List.range (2 ^ m)).all fun lot => !badF r lot
def bandChk (a b : Nat) : Bool := match opBand (.int (a : Nat)) (.int (b : Nat)) with
  | some (.sh (.int x)) => decide (x = (a : Nat)) == hasF b a
  | _ => false
theorem band_all : ((List.range 8).all fun a => (List.range 8).all fun b => bandChk a b) = true := by kernel_rfl
theorem band_ok {a b : Nat} (ha : a < 8) (hb : b < 8) : ∃ x : Int, opBand (.int (a : Nat)) (.int (b : Nat)) = some (.sh (.int x)) ∧ decide (x = (a : Nat)) = hasF b a := by
  have h := band_all
  simp only [List.all_eq_true, List.mem_range] at h
  have h := h a ha b hb
  unfold bandChk at h
  split at h
  · rename_i x e
    exact ⟨x, e, beq_iff_eq.mp h⟩
  · cases h
theorem enum_row : enumD 0 (r.map PyData.int) = (List.range r.length).map fun i => .tuple [.int (i : Nat), .int (at_ r i)] := by
  refine List.ext_getElem? fun i => ?_
  by_cases hi : i < r.length
  · obtain ⟨d, h1, h2⟩ : ∃ d, (enumD 0 (r.map PyData.int))[i]? = some d ∧ True := ⟨_, List.getElem?_eq_getElem (by rw [enumD_len, List.length_map]; exact hi), trivial⟩
    obtain ⟨d', h3, h4⟩ := enumD_get _ _ _ _ h1
    rw [h1, List.getElem?_map, List.getElem?_range hi, h4]
    rw [List.getElem?_map, getD_get (d := 0) hi] at h3
    cases h3
    rw [Nat.zero_add]
    rfl
  · rw [List.getElem?_eq_none (by rw [enumD_len, List.length_map]; omega), List.getElem?_eq_none (by rw [List.length_map, List.length_range]; omega)]
def plIf : FS := (sIf (bTru (eCall bAny (aCons (eComp [4] (iR1 (eV 2)) (gN 4) bTrue (eAnd (eBinR opEq (eBinLR opBand 4 2) 4) (eBinR opLt (eBin opAdd (eBinLR opIx 1 4) (eBinL' opIx 1 (eBinLR opSub 2 4))) 3))) aNil))) (sRet (eC (.bool false))) sNil)
theorem pl_eq : B_is_plain = (sSeq (sExpr (eDef G_check_sale (aCons (eV 0) aNil))) (sSeq (sFor (iE (eBinL' opIx 0 (eC (.int 1)))) (gN 1) (sFor (iEn (eV 1)) (gTupD 2 (gsCons (gN 2) (gsCons (gN 3) gsNil))) plIf)) (sRet (eC (.bool true))))) := rfl
theorem bAny_of {α : Type} {l : List α} {f : α → Bool} : bAny [.list (l.map fun x => PyData.bool (f x))] = some (.sh (.bool (l.any f))) := by
  have := bools_map' (l := l) (g := f)
  unfold bAny
  simp only [this]
  rw [List.any_map]
  rfl
theorem plIf_ok {lot : Nat} (hr : r.length ≤ 8) (hl : lot < r.length) : (badF r lot = false ∧ plIf [some (.sh (saleD m rows)), some (.sh (rowD r)), some (.sh (.int (lot : Nat))), some (.sh (.int (at_ r lot))), none] = .ok (.nx, [some (.sh (saleD m rows)), some (.sh (rowD r)), some (.sh (.int (lot : Nat))), some (.sh (.int (at_ r lot))), none])) ∨ (badF r lot = true ∧ plIf [some (.sh (saleD m rows)), some (.sh (rowD r)), some (.sh (.int (lot : Nat))), some (.sh (.int (at_ r lot))), none] = .ok (.ret (.sh (.bool false)), [some (.sh (saleD m rows)), some (.sh (rowD r)), some (.sh (.int (lot : Nat))), some (.sh (.int (at_ r lot))), none])) := by
  have hc := eComp1_map (k := 4) (fi := iR1 (eV 2)) (elt := (eAnd (eBinR opEq (eBinLR opBand 4 2) 4) (eBinR opLt (eBin opAdd (eBinLR opIx 1 4) (eBinL' opIx 1 (eBinLR opSub 2 4))) 3))) (η := [some (.sh (saleD m rows)), some (.sh (rowD r)), some (.sh (.int (lot : Nat))), some (.sh (.int (at_ r lot))), none]) (η1 := [some (.sh (saleD m rows)), some (.sh (rowD r)), some (.sh (.int (lot : Nat))), some (.sh (.int (at_ r lot))), none])
    (List.range lot) (fun i => .int (i : Nat)) (fun part => .sh (.bool (badP r lot part))) (iR1_v rfl (by omega)) (by simp; omega) (by simp) rfl fun part hp => by
      have hp := List.mem_range.mp hp
      obtain ⟨x, e1, e2⟩ := band_ok (a := part) (b := lot) (by omega) (by omega)
      have e3 := opIx_row (r := r) (i := part) (by omega)
      have e4 : opIx (rowD r) (.int ((lot : Int) - (part : Nat))) = some (.sh (.int (at_ r (lot - part)))) := by
        have := opIx_row (r := r) (i := lot - part) (by omega)
        rw [Int.ofNat_sub (by omega)] at this
        exact this
      unfold badP
      rw [← e2]
      by_cases c : x = (part : Nat)
      · have e1 : opBand (.int (part : Nat)) (.int (lot : Nat)) = some (.sh (.int (part : Nat))) := by rw [e1, c]
        rw [decide_eq_true c]
        simp [e1, e3, e4]
      · rw [decide_eq_false c]
        simp [e1, c]
  have hany := bAny_of (l := List.range lot) (f := badP r lot)
  unfold plIf
  generalize eComp [4] (iR1 (eV 2)) (gN 4) bTrue _ = F at hc ⊢
  have hb : badF r lot = (List.range lot).any (badP r lot) := rfl
  rw [← hb] at hany
  cases hbb : badF r lot
  · rw [hbb] at hany
    refine .inl ⟨rfl, ?_⟩
    simp [hc, Function.comp_def, hany]
  · rw [hbb] at hany
    refine .inr ⟨rfl, ?_⟩
    simp [hc, Function.comp_def, hany]
theorem is_plain_ok (h : Sl m rows) : G_is_plain [saleD m rows] = some (.sh (.bool (plainF m rows))) := by
  have e1 := check_sale_ok h
  obtain ⟨p1, p2⟩ := pow_le h.mn
  obtain ⟨t, e, rfl⟩ := gP_of (P := fun t => t = .sh (.bool (plainF m rows))) (N := 5) (n := 1) (fb := B_is_plain) (ds := [saleD m rows]) rfl (by
    rw [pl_eq]
    refine sSeq_nx (η1 := [some (.sh (saleD m rows)), none, none, none, none]) (by simp [startE, e1]) ?_
    refine sSeq_loop (sFor_inv rows rowD (fun k η => (∀ i r, i < k → rows[i]? = some r → ((List.range (2 ^ m)).all fun lot => !badF r lot) = true) ∧ ∃ x1 x2 x3, η = [some (.sh (saleD m rows)), x1, x2, x3, none]) (fun t _ => t = .sh (.bool false) ∧ plainF m rows = false) (η1 := [some (.sh (saleD m rows)), none, none, none, none]) (by simp; rfl) ⟨fun i r hi => by omega, none, none, none, rfl⟩ ?_) ?_ ?_
    · rintro k r η hk ⟨hlt, x1, x2, x3, rfl⟩
      have hrm := List.mem_of_getElem? hk
      have hr := h.rw_ r hrm
      have hrl := hr.len
      rw [gN_bind]
      have key := sFor_inv (fi := iEn (eV 1)) (tgt := gTupD 2 (gsCons (gN 2) (gsCons (gN 3) gsNil))) (body := plIf) (η := [some (.sh (saleD m rows)), some (.sh (rowD r)), x2, x3, none]) (List.range r.length) (fun i => .tuple [.int (i : Nat), .int (at_ r i)]) (fun j η => (∀ lot, lot < j → badF r lot = false) ∧ ∃ x2 x3, η = [some (.sh (saleD m rows)), some (.sh (rowD r)), x2, x3, none]) (fun t _ => t = .sh (.bool false) ∧ plainF m rows = false) (η1 := [some (.sh (saleD m rows)), some (.sh (rowD r)), x2, x3, none]) (by
        show Rs.ok (enumD 0 (r.map PyData.int), _) = _
        rw [enum_row]) ⟨fun _ h => by omega, x2, x3, rfl⟩ ?_
      · refine key.mono ?_
        rintro ⟨fl, η⟩ hq
        cases fl with
        | nx =>
          obtain ⟨h1, y2, y3, rfl⟩ := hq
          rw [List.length_range] at h1
          refine ⟨rfl, fun i r' hi hir => ?_, _, y2, y3, rfl⟩
          by_cases c : i = k
          · subst c
            rw [hk] at hir
            cases hir
            rw [List.all_eq_true]
            intro lot hlot
            rw [h1 lot (by have := List.mem_range.mp hlot; omega)]
            rfl
          · exact hlt i r' (by omega) hir
        | ret t => exact hq
        | bk => exact hq.elim
        | ct => exact hq.elim
      · rintro j lot η hj ⟨hjl, y2, y3, rfl⟩
        obtain ⟨rfl, hlot⟩ := range_get hj
        rcases plIf_ok (m := m) (rows := rows) (r := r) (lot := lot) (by omega) hlot with ⟨hb, e2⟩ | ⟨hb, e2⟩
        · refine step_nx (η := [some (.sh (saleD m rows)), some (.sh (rowD r)), some (.sh (.int (lot : Nat))), some (.sh (.int (at_ r lot))), none]) e2 rfl ⟨fun l' hl' => ?_, _, _, rfl⟩
          by_cases c : l' = lot
          · rw [c]; exact hb
          · exact hjl l' (by omega)
        · refine step_ret (t := .sh (.bool false)) e2 ⟨rfl, ?_⟩
          refine Bool.eq_false_iff.mpr fun hp => ?_
          unfold plainF at hp
          rw [List.all_eq_true] at hp
          have := hp r hrm
          rw [List.all_eq_true] at this
          have := this lot (List.mem_range.mpr (by omega))
          rw [hb] at this
          cases this
    · rintro η ⟨hlt, x1, x2, x3, rfl⟩
      refine ⟨(.ret (.sh (.bool true)), _), rfl, ?_⟩
      show T.sh (.bool true) = _
      have : plainF m rows = true := by
        unfold plainF
        rw [List.all_eq_true]
        intro r hr
        obtain ⟨i, hi, e⟩ := List.mem_iff_getElem.mp hr
        exact hlt i r hi (by rw [List.getElem?_eq_getElem hi, e])
      rw [this]
    · rintro t η ⟨rfl, hp⟩
      show T.sh (.bool false) = _
      rw [hp])
  exact e
/-! ### worths of one thing alone -/
def aloneL (m : Nat) (r : List Int) : List Int := (List.range m).map fun t => at_ r (2 ^ t)
theorem alone_ok (h : Sl m rows) (hp : p < rows.length) : G_worth_alone [saleD m rows, .int (p : Nat)] = some (.sh (rowD (aloneL m (gd [] rows p)))) := by
  have hm3 := h.mn.m3
  refine gP_eq rfl (η := [some (.sh (saleD m rows)), some (.sh (.int (p : Nat))), none]) ?_
  have h1 := check_person_ok h hp
  have h2 := opIx_rows hp
  have hrl := row_len h.ok.wid hp
  have hc := eComp1_map (k := 2) (fi := iR1 (eBinL' opIx 0 (eC (.int 0)))) (elt := (eBin opIx (eBinR opIx (eBinL' opIx 0 (eC (.int 1))) 1) (eBinR opShl (eC (.int 1)) 2))) (η := [some (.sh (saleD m rows)), some (.sh (.int (p : Nat))), none]) (η1 := [some (.sh (saleD m rows)), some (.sh (.int (p : Nat))), none])
    (List.range m) (fun i => .int (i : Nat)) (fun t => .sh (.int (at_ (gd [] rows p) (2 ^ t)))) (iR1_of (by simp) (by omega)) (by simp; omega) (by simp) rfl fun t ht => by
      have ht := List.mem_range.mp ht
      have hs : opShl (.int 1) (.int (t : Nat)) = some (.sh (.int (2 ^ t : Nat))) := by
        have : t = 0 ∨ t = 1 ∨ t = 2 := by omega
        rcases this with rfl | rfl | rfl <;> rfl
      have hx := opIx_row (r := gd [] rows p) (i := 2 ^ t) (by rw [hrl]; exact Nat.pow_lt_pow_right (by decide) ht)
      generalize (2 ^ t : Nat) = P at hs hx ⊢
      simp [hs, h2, hx]
  unfold B_worth_alone
  simp [startE, h1, hc]
  unfold aloneL rowD
  simp [Function.comp_def]
end
end K80
set_option Elab.async false
set_option linter.all false
set_option maxRecDepth 100000
set_option maxHeartbeats 4000000
namespace K80
open PySem L2 Pv PyProof.Rows
def lSale : PyData := .tuple [.int 2, .tuple [.tuple [.int 0, .int 0, .int 0, .int 10], .tuple [.int 0, .int 8, .int 0, .int 8], .tuple [.int 0, .int 0, .int 8, .int 8]]]
def q1 : PyData := .tuple [.tuple [.int 0, .int 1], .tuple [.int 2, .int 1], .tuple [.int 2, .int 1]]
def q2 : PyData := .tuple [.tuple [.int 0, .int 1], .tuple [.int 5, .int 1], .tuple [.int 5, .int 1]]
theorem f1 : G_payments [lSale] = some (.sh (.tuple [.int 0, .int 2, .int 2])) := by kernel_rfl
theorem f2 : G_blocked [lSale, q1] = some (.sh (.tuple [.int 0])) := by kernel_rfl
theorem f3 : G_blocked [lSale, q2] = some (.sh .none) := by kernel_rfl
theorem f4 : G_is_plain [lSale] = some (.sh (.bool false)) := by kernel_rfl
end K80
set_option Elab.async false
set_option linter.all false
set_option maxRecDepth 100000
set_option maxHeartbeats 4000000
namespace K80
open PySem L2 Pv
section
variable {m n p w : Nat} {rows : List (List Int)} {zs : List Int} {l : List Nat} {r : List Int}
/-! ### what repr shows -/
theorem pair_repr {w k : Nat} {a b : PyData} (ha : ROk w k a) (hb : ROk w k b) (hw : w ≤ 1000000) (hk : k ≤ 50) : bRepr [.list [a, b]] = some (.sh (.str (PyData.shown (.list [a, b])))) :=
  (rok_list (w := w) (n := k) (N := 2) (fun d hd => by
    simp only [List.mem_cons, List.not_mem_nil, or_false] at hd
    rcases hd with rfl | rfl
    · exact ha
    · exact hb) (by simp)).repr (by omega) (by omega)
theorem rok_row (h : ∀ x ∈ r, -1000000000000 < x ∧ x < 1000000000000) (hl : r.length ≤ 10) : ROk 20000 2 (rowD r) := by
  refine (rok_tup (w := 1921) (n := 1) (N := 10) (fun d hd => ?_) (by rw [List.length_map]; exact hl)).mono (by decide) (by decide)
  obtain ⟨x, hx, rfl⟩ := List.mem_map.mp hd
  exact rok_int (h x hx)
theorem rok_block (h : Sl m rows) (hp : Pd rows zs) : ROk 20000 2 (blockD (blkF m rows zs)) := by
  obtain ⟨_, lo2, _, _⟩ := lots_ok h.n1 h.mn.n4
  have h4 := h.mn.n4
  cases hb : blkF m rows zs with
  | none => exact rok_none.mono (by decide) (by decide)
  | some x =>
    obtain ⟨v, l⟩ := x
    have hl : LotOk rows.length l := fold_mem (P := fun _ l => LotOk rows.length l) (by rintro x l ⟨⟩) (fun l hl => lo2 l hl) v l hb
    refine (rok_tup (w := 1921) (n := 1) (N := 10) (fun d hd => ?_) (by rw [List.length_map]; have := hl.len; omega)).mono (by decide) (by decide)
    obtain ⟨x, hx, rfl⟩ := List.mem_map.mp hd
    have := hl.lt x hx
    exact rok_int (by omega)
/-! ### plain worths by the law -/
def rvEnv (t : T) (m : Nat) (rows : List (List Int)) (x5 x6 x7 x8 x9 x11 x12 x13 : Option T) : Pv.Env := [some t, some (.sh (saleD m rows)), some (.sh (.int (m : Nat))), some (.sh (rowsD rows)), some (.sh (natsD (best m rows).2)), x5, x6, x7, x8, x9, none, x11, x12, x13, none]
def vIf : FS := (sIf (bAnd (bTru (eDef G__law_has (aCons (eV 9) (aCons (eV 12) aNil)))) (bT (eBin opLt (eBin opAdd (eBinLR opIx 8 12) (eBinL' opIx 8 (eBinLR opSub 9 12))) (eBinLR opIx 8 9)))) (sAsg (eC (.bool false)) (gN 11)) sNil)
def vFor : FS := (sForV 3 (gN 8) (sFor (iR1 (eCallV bLen 8)) (gN 9) (sFor (iR1 (eV 9)) (gN 12) vIf)))
theorem vIf_ok {t : T} {x5 x6 x7 : Option T} {lot part : Nat} {b : Bool} (hr : r.length ≤ 8) (hl : lot < r.length) (hp : part < lot) :
    vIf (rvEnv t m rows x5 x6 x7 (some (.sh (rowD r))) (some (.sh (.int (lot : Nat)))) (some (.sh (.bool b))) (some (.sh (.int (part : Nat)))) none) = .ok (.nx, rvEnv t m rows x5 x6 x7 (some (.sh (rowD r))) (some (.sh (.int (lot : Nat)))) (some (.sh (.bool (b && !badP r lot part)))) (some (.sh (.int (part : Nat)))) none) := by
  have e0 := has_ok (a := lot) (b := part) (by omega) (by omega)
  have e3 := opIx_row (r := r) (i := part) (by omega)
  have e5 := opIx_row (r := r) (i := lot) (by omega)
  have e4 : opIx (rowD r) (.int ((lot : Int) - (part : Nat))) = some (.sh (.int (at_ r (lot - part)))) := by
    have := opIx_row (r := r) (i := lot - part) (by omega)
    rw [Int.ofNat_sub (by omega)] at this
    exact this
  unfold vIf badP
  cases hh : hasF lot part
  · rw [hh] at e0
    simp [rvEnv, e0]
  · rw [hh] at e0
    by_cases c : at_ r part + at_ r (lot - part) < at_ r lot
    · simp [rvEnv, e0, e3, e4, e5, c]
    · simp [rvEnv, e0, e3, e4, e5, c]
theorem vFor_ok {t : T} {x5 x6 x7 : Option T} (h : Sl m rows) : (vFor (rvEnv t m rows x5 x6 x7 none none (some (.sh (.bool true))) none none)).Is fun p => p.1 = .nx ∧ ∃ x8 x9 x12, p.2 = rvEnv t m rows x5 x6 x7 x8 x9 (some (.sh (.bool (plainF m rows)))) x12 none := by
  obtain ⟨p1, p2⟩ := pow_le h.mn
  let pl (rs : List (List Int)) : Bool := rs.all fun r => (List.range (2 ^ m)).all fun lot => !badF r lot
  refine (sForV_inv rows rowD (fun k η => ∃ x8 x9 x12, η = rvEnv t m rows x5 x6 x7 x8 x9 (some (.sh (.bool (pl (rows.take k))))) x12 none) (fun _ _ => False) (d0 := rowsD rows) rfl rfl ⟨none, none, none, rfl⟩ ?_).mono ?_
  · rintro k r η hk ⟨x8, x9, x12, rfl⟩
    have hrm := List.mem_of_getElem? hk
    have hr := h.rw_ r hrm
    have hrl := hr.len
    have hkl := (List.getElem?_eq_some_iff.mp hk).1
    rw [gN_bind]
    have key := sFor_inv (fi := iR1 (eCallV bLen 8)) (tgt := gN 9) (body := sFor (iR1 (eV 9)) (gN 12) vIf) (η := rvEnv t m rows x5 x6 x7 (some (.sh (rowD r))) x9 (some (.sh (.bool (pl (rows.take k))))) x12 none) (List.range r.length) (fun i => .int (i : Nat))
      (fun j η => ∃ x9 x12, η = rvEnv t m rows x5 x6 x7 (some (.sh (rowD r))) x9 (some (.sh (.bool (pl (rows.take k) && ((List.range r.length).take j).all fun lot => !badF r lot)))) x12 none) (fun _ _ => False) (η1 := rvEnv t m rows x5 x6 x7 (some (.sh (rowD r))) x9 (some (.sh (.bool (pl (rows.take k))))) x12 none) (iR1_of (by simp [rvEnv, rowD]) (by omega)) ⟨x9, x12, by simp⟩ ?_
    · refine key.mono ?_
      rintro ⟨fl, η⟩ hq
      cases fl with
      | nx =>
        obtain ⟨y9, y12, rfl⟩ := hq
        refine ⟨pkIs_of rfl, some (.sh (rowD r)), y9, y12, ?_⟩
        rw [show (List.range r.length).take (List.range r.length).length = List.range r.length from List.take_length, hrl]
        have : pl (rows.take (k + 1)) = (pl (rows.take k) && (List.range (2 ^ m)).all fun lot => !badF r lot) := by
          show List.all _ _ = (List.all _ _ && _)
          rw [List.take_add_one, hk]
          simp
        rw [this]
      | ret t => exact hq.elim
      | bk => exact hq.elim
      | ct => exact hq.elim
    · rintro j lot η hj ⟨y9, y12, rfl⟩
      obtain ⟨rfl, hlot⟩ := range_get hj
      rw [gN_bind]
      generalize hB : (pl (rows.take k) && ((List.range r.length).take lot).all fun lot => !badF r lot) = B
      have key2 := sFor_inv (fi := iR1 (eV 9)) (tgt := gN 12) (body := vIf) (η := rvEnv t m rows x5 x6 x7 (some (.sh (rowD r))) (some (.sh (.int (lot : Nat)))) (some (.sh (.bool B))) y12 none) (List.range lot) (fun i => .int (i : Nat))
        (fun q η => ∃ x12, η = rvEnv t m rows x5 x6 x7 (some (.sh (rowD r))) (some (.sh (.int (lot : Nat)))) (some (.sh (.bool (B && ((List.range lot).take q).all fun part => !badP r lot part)))) x12 none) (fun _ _ => False) (η1 := rvEnv t m rows x5 x6 x7 (some (.sh (rowD r))) (some (.sh (.int (lot : Nat)))) (some (.sh (.bool B))) y12 none) (iR1_v rfl (by omega)) ⟨y12, by simp⟩ ?_
      · refine key2.mono ?_
        rintro ⟨fl, η⟩ hq
        cases fl with
        | nx =>
          obtain ⟨z12, rfl⟩ := hq
          refine ⟨rfl, some (.sh (.int (lot : Nat))), z12, ?_⟩
          rw [show (List.range lot).take (List.range lot).length = List.range lot from List.take_length, List.take_add_one, hj, ← hB]
          have : ((List.range lot).all fun part => !badP r lot part) = !badF r lot := by
            unfold badF
            rw [List.not_any_eq_all_not]
          rw [this]
          simp [Bool.and_assoc]
        | ret t => exact hq.elim
        | bk => exact hq.elim
        | ct => exact hq.elim
      · rintro q part η hq ⟨z12, rfl⟩
        obtain ⟨rfl, hpart⟩ := range_get hq
        rw [gN_bind]
        generalize hB2 : (B && ((List.range lot).take part).all fun part => !badP r lot part) = B2
        refine step_nx (η := rvEnv t m rows x5 x6 x7 (some (.sh (rowD r))) (some (.sh (.int (lot : Nat)))) (some (.sh (.bool (B2 && !badP r lot part)))) (some (.sh (.int (part : Nat)))) none) (vIf_ok (by omega) hlot hpart) rfl ⟨some (.sh (.int (part : Nat))), ?_⟩
        rw [List.take_add_one, hq, ← hB2]
        simp [Bool.and_assoc]
  · rintro ⟨fl, η⟩ hq
    cases fl with
    | nx =>
      obtain ⟨x8, x9, x12, rfl⟩ := hq
      refine ⟨rfl, x8, x9, x12, ?_⟩
      rw [List.take_of_length_le (by omega)]
      rfl
    | ret t => exact hq.elim
    | bk => exact hq.elim
    | ct => exact hq.elim
/-! ### the whole of a sale -/
def rA : FS := (sSeq (sAsg (eDef G__law_blocked (aCons (eV 1) (aCons (eV 5) aNil))) (gN 7)) (sIf (bT (eBin opNeS (eCall bRepr (aCons (eLst (aCons (eDef G_blocked (aCons (eV 1) (aCons (eV 5) aNil))) (aCons (eDef G_blocked (aCons (eV 1) (aCons (eV 5) aNil))) aNil))) aNil)) (eCall bRepr (aCons (eLst (aCons (eV 7) (aCons (eV 7) aNil))) aNil)))) (sRet (eC (.bool false))) sNil))
def cW : FE := (eComp [8, 9] (iZ (eV 3) (eV 4)) (gTupD 2 (gsCons (gN 8) (gsCons (gN 9) gsNil))) bTrue (eTup (aCons (eBinLR opIx 8 9) (aCons (eC (.int 1)) aNil))))
def cP : FE := (eComp [10] (iE (eDef G_payments (aCons (eV 1) aNil))) (gN 10) bTrue (eTup (aCons (eV 10) (aCons (eC (.int 1)) aNil))))
def cB : FE := (eComp [14] (iE (eSl (eTup (aCons (eC (.int 1)) (aCons (eC (.int 2)) (aCons (eC (.int 4)) aNil)))) oNone (oSome (eV 2)))) (gN 14) bTrue (eBinR opIx (eBinLR opIx 3 13) 14))
def cD : FE := (eComp [6] (iR1 (eC (.int 3))) (gN 6) bTrue (eDefIO G__law_paid 0 (aCons (eV 1) aNil)))
def rB : FS := (sIf (bT (eBin opIsNot (eDef G_blocked (aCons (eV 1) (aCons (eCall bTuple (aCons cW aNil)) aNil))) (eC .none))) (sRet (eC (.bool false))) sNil)
def rC : FS := (sIf (bAnd (bT (eBinL' opEq 2 (eC (.int 1)))) (bT (eBin opIsNot (eDef G_blocked (aCons (eV 1) (aCons (eCall bTuple (aCons cP aNil)) aNil))) (eC .none)))) (sRet (eC (.bool false))) sNil)
def rD : FS := (sIf (bT (eBin opNeS (eCall bRepr (aCons (eDef G_is_plain (aCons (eV 1) aNil)) aNil)) (eCallV bRepr 11))) (sRet (eC (.bool false))) sNil)
def rE : FS := (sRet (eBin opEqS (eCall bRepr (aCons (eDef G_worth_alone (aCons (eV 1) (aCons (eV 13) aNil))) aNil)) (eCall bRepr (aCons (eCall bTuple (aCons cB aNil)) aNil))))
theorem right_eq : B__law_is_right = (sSeq (sAsg (eV 1) (gTupD 2 (gsCons (gN 2) (gsCons (gN 3) gsNil)))) (sSeq (sAsg (eBin opIx (eDef G_best (aCons (eV 1) aNil)) (eC (.int 1))) (gN 4)) (sSeq (sFor (iE cD) (gN 5) rA) (sSeq rB (sSeq rC (sSeq (sAsg (eC (.bool true)) (gN 11)) (sSeq vFor (sSeq rD (sSeq (sAsg (eDefIO G__law_draw 0 (aCons (eCallV bLen 3) aNil)) (gN 13)) rE))))))))) := rfl
theorem opEqS_self {s : Str} : opEqS (.str s) (.str s) = some (.sh (.bool true)) := by
  show some (T.sh (.bool (decide (s = s)))) = _
  rw [decide_eq_true rfl]
theorem rA_ok {t : T} {x6 x7 : Option T} (h : Sl m rows) (hp : Pd rows zs) : rA (rvEnv t m rows (some (.sh (paidD zs))) x6 x7 none none none none none) = .ok (.nx, rvEnv t m rows (some (.sh (paidD zs))) x6 (some (.sh (blockD (blkF m rows zs)))) none none none none none) := by
  have e1 := law_blocked_ok h hp
  have e2 := blocked_ok h hp
  have e3 := pair_repr (rok_block h hp) (rok_block h hp) (by decide) (by decide)
  unfold rA
  simp [rvEnv, e1, e2, e3, opNeS_self]
theorem rB_ok {t : T} {x5 x6 x7 : Option T} (h : Sl m rows) : rB (rvEnv t m rows x5 x6 x7 none none none none none) = .ok (.nx, rvEnv t m rows x5 x6 x7 none none none none none) := by
  have h4 := h.mn.n4
  obtain ⟨a1, a2⟩ := al_len h.mn (best_bst h.mn).mem
  have hz0 : zipD (rows.map rowD) ((best m rows).2.map fun i => PyData.int (i : Nat)) = (List.range rows.length).map fun i => .tuple [rowD (gd [] rows i), .int (gd 0 (best m rows).2 i : Nat)] := by
    rw [zip_rows]
    refine List.ext_getElem? fun i => ?_
    by_cases hi : i < rows.length
    · have hzz : (rows.zip (best m rows).2)[i]? = some (gd [] rows i, gd 0 (best m rows).2 i) := List.getElem?_zip_eq_some.mpr ⟨getD_get hi, getD_get (by omega)⟩
      rw [List.getElem?_map, List.getElem?_map, List.getElem?_range hi, hzz]
      rfl
    · rw [List.getElem?_eq_none (by rw [List.length_map, List.length_zip]; omega), List.getElem?_eq_none (by rw [List.length_map, List.length_range]; omega)]
  have hc := eComp2_map (j := 8) (k := 9) (fi := iZ (eV 3) (eV 4)) (elt := (eTup (aCons (eBinLR opIx 8 9) (aCons (eC (.int 1)) aNil)))) (η := rvEnv t m rows x5 x6 x7 none none none none none) (η1 := rvEnv t m rows x5 x6 x7 none none none none none)
    (List.range rows.length) (fun i => rowD (gd [] rows i)) (fun i => .int (gd 0 (best m rows).2 i : Nat)) (fun i => .sh (frD (tw (12 * got m rows i)))) (by rw [← hz0]; rfl) (by simp; omega) (by decide) (by simp [rvEnv]) (by simp [rvEnv]) rfl rfl fun i hi => by
      have hi := List.mem_range.mp hi
      have e2 := opIx_row (r := gd [] rows i) (i := gd 0 (best m rows).2 i) (by rw [row_len h.ok.wid hi]; exact a2 _ (gd_mem (by omega)))
      rw [← val_int]
      simp [rvEnv, e2, got]
  have e1 := blocked_ok h (zsA_pd (m := m) h.bd)
  rw [zsA_none h] at e1
  have hz := tup_zs (fun p => 12 * got m rows p) rows.length
  have h6 : isNone (blockD none) = true := rfl
  unfold rB
  change cW _ = _ at hc
  generalize cW = F at hc ⊢
  unfold zsA at e1
  simp [rvEnv] at hc ⊢
  simp [hc, Function.comp_def, hz, e1, h6]
theorem rC_ok {t : T} {x5 x6 x7 : Option T} (h : Sl m rows) : rC (rvEnv t m rows x5 x6 x7 none none none none none) = .ok (.nx, rvEnv t m rows x5 x6 x7 none none none none none) := by
  have h4 := h.mn.n4
  by_cases c : m = 1
  · subst c
    have hp := payments_ok h
    have hc := eComp1_map (k := 10) (fi := iE (eDef G_payments (aCons (eV 1) aNil))) (elt := eTup (aCons (eV 10) (aCons (eC (.int 1)) aNil))) (η := rvEnv t 1 rows x5 x6 x7 none none none none none) (η1 := rvEnv t 1 rows x5 x6 x7 none none none none none)
      (payL 1 rows) PyData.int (fun x => .sh (frD (tw (12 * x)))) (by simp [rvEnv, hp]; rfl) (by unfold payL; simp; omega) (by simp [rvEnv]) rfl fun x hx => by
        rw [← val_int]
        simp [rvEnv]
    have hz : PyData.tuple ((payL 1 rows).map fun x => frD (tw (12 * x))) = paidD (zsB 1 rows) := by
      unfold payL zsB
      rw [List.map_map]
      exact tup_zs (fun p => 12 * pay 1 rows p) _
    have e1 := blocked_ok h (zsB_pd h.mn h.bd)
    rw [zsB_none h] at e1
    have h6 : isNone (blockD none) = true := rfl
    unfold rC
    change cP _ = _ at hc
    generalize cP = F at hc ⊢
    simp [rvEnv] at hc ⊢
    simp [hc, Function.comp_def, hz, e1, h6]
  · have c' : ¬ ((m : Nat) : Int) = 1 := by omega
    unfold rC
    generalize cP = F
    simp [rvEnv, c']
theorem rD_ok {t : T} {x5 x6 x7 x8 x9 x12 : Option T} (h : Sl m rows) : rD (rvEnv t m rows x5 x6 x7 x8 x9 (some (.sh (.bool (plainF m rows)))) x12 none) = .ok (.nx, rvEnv t m rows x5 x6 x7 x8 x9 (some (.sh (.bool (plainF m rows)))) x12 none) := by
  have e1 := is_plain_ok h
  have e2 := (rok_bool (b := plainF m rows)).repr (by decide) (by decide)
  unfold rD
  simp [rvEnv, e1, e2, opNeS_self]
theorem rE_ok {t : T} {x5 x6 x7 x8 x9 x11 x12 : Option T} (h : Sl m rows) (hp : p < rows.length) : rE (rvEnv t m rows x5 x6 x7 x8 x9 x11 x12 (some (.sh (.int (p : Nat))))) = .ok (.ret (.sh (.bool true)), rvEnv t m rows x5 x6 x7 x8 x9 x11 x12 (some (.sh (.int (p : Nat))))) := by
  have hm3 := h.mn.m3
  have hm1 := h.mn.m1
  have e1 := alone_ok h hp
  have h2 := opIx_rows hp
  have hrl := row_len h.ok.wid hp
  have hs : opSl (.tuple [.int 1, .int 2, .int 4]) none (some ((m : Nat) : Int)) = some (.sh (.tuple ((List.range m).map fun i => .int (2 ^ i : Nat)))) := by
    have : m = 1 ∨ m = 2 ∨ m = 3 := by omega
    rcases this with rfl | rfl | rfl <;> rfl
  have hc := eComp1_map (k := 14) (fi := iE (eSl (eTup (aCons (eC (.int 1)) (aCons (eC (.int 2)) (aCons (eC (.int 4)) aNil)))) oNone (oSome (eV 2)))) (elt := (eBinR opIx (eBinLR opIx 3 13) 14)) (η := rvEnv t m rows x5 x6 x7 x8 x9 x11 x12 (some (.sh (.int (p : Nat))))) (η1 := rvEnv t m rows x5 x6 x7 x8 x9 x11 x12 (some (.sh (.int (p : Nat)))))
    (List.range m) (fun i => .int (2 ^ i : Nat)) (fun t => .sh (.int (at_ (gd [] rows p) (2 ^ t)))) (by
      have hs' : cutA [PyData.int 1, PyData.int 2, PyData.int 4] none (some ((m : Nat) : Int)) = (List.range m).map fun i => PyData.int (2 ^ i : Nat) := by
        have : m = 1 ∨ m = 2 ∨ m = 3 := by omega
        rcases this with rfl | rfl | rfl <;> rfl
      simp only [rvEnv]
      simp [hs']) (by simp; omega) (by simp [rvEnv]) rfl fun t ht => by
      have ht := List.mem_range.mp ht
      have hx := opIx_row (r := gd [] rows p) (i := 2 ^ t) (by rw [hrl]; exact Nat.pow_lt_pow_right (by decide) ht)
      generalize (2 ^ t : Nat) = P at hx ⊢
      simp [rvEnv, h2, hx]
  have hb : ∀ x ∈ aloneL m (gd [] rows p), -1000000000000 < x ∧ x < 1000000000000 := fun x hx => by
    obtain ⟨t, _, rfl⟩ := List.mem_map.mp hx
    have := gd_bd h.bd p (2 ^ t)
    omega
  have e2 := (rok_row hb (by unfold aloneL; simp; omega)).repr (by decide) (by decide)
  have e3 : PyData.tuple ((List.range m).map fun t => .int (at_ (gd [] rows p) (2 ^ t))) = rowD (aloneL m (gd [] rows p)) := by
    unfold rowD aloneL
    rw [List.map_map]
    rfl
  unfold rE
  change cB _ = _ at hc
  generalize cB = F at hc ⊢
  simp [rvEnv] at hc ⊢
  simp [hc, Function.comp_def, e1, e3, e2, opEqS_self]
theorem right_ok {t : T} (h : Sl m rows) (ht : Hand t) : ∃ t', G__law_is_right t [saleD m rows] = some (.sh (.bool true), t') ∧ Hand t' := by
  have : ∃ u t', G__law_is_right t [saleD m rows] = some (u, t') ∧ u = .sh (.bool true) ∧ Hand t' := by
    refine gIO_of (P := fun u t' => u = .sh (.bool true) ∧ Hand t') rfl ?_
    have h4 := h.mn.n4
    have h1 := h.n1
    have hb := best_ok h
    rw [right_eq]
    refine sSeq_nx (η1 := [some t, some (.sh (saleD m rows)), some (.sh (.int (m : Nat))), some (.sh (rowsD rows)), none, none, none, none, none, none, none, none, none, none, none]) rfl ?_
    refine sSeq_nx (η1 := rvEnv t m rows none none none none none none none none) (by simp [hb, bestD, rvEnv]) ?_
    obtain ⟨ts, t1, e1, h1', p1⟩ := eComp_ioN (k := 6) (j := 0) (n := 3) (fi := iR1 (eC (.int 3))) (elt := (eDefIO G__law_paid 0 (aCons (eV 1) aNil))) (η := rvEnv t m rows none none none none none none none none) (η1 := rvEnv t m rows none none none none none none none none) (t := t)
      (fun _ x => ∃ zs, Pd rows zs ∧ x = T.sh (paidD zs)) (iR1_c (n := 3) (by decide)) (by decide) rfl ht (by decide) (by simp [rvEnv]) rfl fun i t hi ht => by
        obtain ⟨t', zs, e, h', hz⟩ := paidDraw_ok h ht
        exact ⟨_, t', by simp [rvEnv, e], h', zs, hz, rfl⟩
    obtain ⟨zss, rfl, hzl, hzi⟩ := p1.pick
    have hzz : ∀ zs ∈ zss, Pd rows zs := fun zs hz => by
      obtain ⟨i, hi', e'⟩ := List.mem_iff_getElem.mp hz
      have hl3 : zss.length = 3 := by simpa using hzl
      exact hzi i i zs (List.getElem?_range (by omega)) (by rw [List.getElem?_eq_getElem hi', e'])
    have e1 : cD (rvEnv t m rows none none none none none none none none) = .ok (.lst (zss.map fun zs => T.sh (paidD zs)), rvEnv t1 m rows none none none none none none none none) := e1
    refine sSeq_loop (sFor_inv zss paidD (fun _ η => ∃ x5 x7, η = rvEnv t1 m rows x5 none x7 none none none none none) (fun _ _ => False) (η1 := rvEnv t1 m rows none none none none none none none none) (by
      generalize cD = F at e1 ⊢
      simp only [iE, e1, Rs.bind_ok]
      simp [Function.comp_def]) ⟨none, none, rfl⟩ ?_) ?_ (fun _ _ h => h.elim)
    · rintro k zs η hk ⟨x5, x7, rfl⟩
      rw [gN_bind]
      exact step_nx (η := rvEnv t1 m rows (some (.sh (paidD zs))) none (some (.sh (blockD (blkF m rows zs)))) none none none none none) (rA_ok (x6 := none) (x7 := x7) h (hzz zs (List.mem_of_getElem? hk))) rfl ⟨_, _, rfl⟩
    · rintro η ⟨x5, x7, rfl⟩
      refine sSeq_nx (rB_ok h) ?_
      refine sSeq_nx (rC_ok h) ?_
      refine sSeq_nx (η1 := rvEnv t1 m rows x5 none x7 none none (some (.sh (.bool true))) none none) rfl ?_
      obtain ⟨⟨fl, η⟩, e2, hfl, x8, x9, x12, hη⟩ := vFor_ok (t := t1) (x5 := x5) (x6 := none) (x7 := x7) h
      have hfl : fl = .nx := hfl
      have hη : η = rvEnv t1 m rows x5 none x7 x8 x9 (some (.sh (.bool (plainF m rows)))) x12 none := hη
      subst hfl hη
      refine sSeq_nx e2 ?_
      refine sSeq_nx (rD_ok h) ?_
      obtain ⟨f, t3, e3, h3, a1, a2⟩ := draw_ok (many := (rows.length : Nat)) (by omega) (by omega) h1'
      obtain ⟨q, hq⟩ : ∃ q : Nat, f = (q : Int) := ⟨f.toNat, by omega⟩
      subst hq
      refine sSeq_nx (η1 := rvEnv t3 m rows x5 none x7 x8 x9 (some (.sh (.bool (plainF m rows)))) x12 (some (.sh (.int (q : Nat))))) (by simp [rvEnv, rowsD, e3]) ?_
      exact ⟨_, rE_ok h (by omega), t3, rfl, rfl, h3⟩
  obtain ⟨u, t', e, rfl, r⟩ := this
  exact ⟨t', e, r⟩
/-! ### the law -/
theorem lawHand_ok {ns : List Int} (h : ns.length ≤ 63) : ∃ t, (G__law_hand [.list (ns.map PyData.int)] = some t) ∧ Hand t := handA_ok (c := 83) (d := 5) ⟨by decide, by decide⟩ h
def lawA : FS := (sIf (bOr (bT (eBin opNe (eDef G_payments (aCons (eV 2) aNil)) (eTup (aCons (eC (.int 0)) (aCons (eC (.int 2)) (aCons (eC (.int 2)) aNil)))))) (bT (eBin opNe (eDef G_blocked (aCons (eV 2) (aCons (eTup (aCons (eTup (aCons (eC (.int 0)) (aCons (eC (.int 1)) aNil))) (aCons (eTup (aCons (eC (.int 2)) (aCons (eC (.int 1)) aNil))) (aCons (eTup (aCons (eC (.int 2)) (aCons (eC (.int 1)) aNil))) aNil)))) aNil))) (eTup (aCons (eC (.int 0)) aNil))))) (sRet (eC (.bool false))) sNil)
def lawB : FS := (sIf (bOr (bT (eBin opIsNot (eDef G_blocked (aCons (eV 2) (aCons (eTup (aCons (eTup (aCons (eC (.int 0)) (aCons (eC (.int 1)) aNil))) (aCons (eTup (aCons (eC (.int 5)) (aCons (eC (.int 1)) aNil))) (aCons (eTup (aCons (eC (.int 5)) (aCons (eC (.int 1)) aNil))) aNil)))) aNil))) (eC .none))) (bT (eBin opIsNot (eDef G_is_plain (aCons (eV 2) aNil)) (eC (.bool false))))) (sRet (eC (.bool false))) sNil)
def lawC : FS := (sIf (bNot (bTru (eDefIO G__law_is_right 1 (aCons (eDefIO G__law_drawn 1 aNil) aNil)))) (sRet (eC (.bool false))) sNil)
theorem law_eq : B_law = (sSeq (sAsg (eDef G__law_hand (aCons (eV 0) aNil)) (gN 1)) (sSeq (sAsg (eTup (aCons (eC (.int 2)) (aCons (eTup (aCons (eTup (aCons (eC (.int 0)) (aCons (eC (.int 0)) (aCons (eC (.int 0)) (aCons (eC (.int 10)) aNil))))) (aCons (eTup (aCons (eC (.int 0)) (aCons (eC (.int 8)) (aCons (eC (.int 0)) (aCons (eC (.int 8)) aNil))))) (aCons (eTup (aCons (eC (.int 0)) (aCons (eC (.int 0)) (aCons (eC (.int 8)) (aCons (eC (.int 8)) aNil))))) aNil)))) aNil))) (gN 2)) (sSeq lawA (sSeq lawB (sSeq (sFor (iR1 (eC (.int 4))) (gN 3) lawC) (sRet (eC (.bool true)))))))) := rfl
theorem lawS_ok (S : PyData) (t0 : T) : (sAsg (eTup (aCons (eC (.int 2)) (aCons (eTup (aCons (eTup (aCons (eC (.int 0)) (aCons (eC (.int 0)) (aCons (eC (.int 0)) (aCons (eC (.int 10)) aNil))))) (aCons (eTup (aCons (eC (.int 0)) (aCons (eC (.int 8)) (aCons (eC (.int 0)) (aCons (eC (.int 8)) aNil))))) (aCons (eTup (aCons (eC (.int 0)) (aCons (eC (.int 0)) (aCons (eC (.int 8)) (aCons (eC (.int 8)) aNil))))) aNil)))) aNil))) (gN 2)) [some (.sh S), some t0, none, none] = .ok (.nx, [some (.sh S), some t0, some (.sh lSale), none]) := by
  simp [lSale]
theorem lawA_ok (S : PyData) (t0 : T) : lawA [some (.sh S), some t0, some (.sh lSale), none] = .ok (.nx, [some (.sh S), some t0, some (.sh lSale), none]) := by
  have n1 : opNe (.tuple [.int 0, .int 2, .int 2]) (.tuple [.int 0, .int 2, .int 2]) = some (.sh (.bool false)) := by kernel_rfl
  have n2 : opNe (.tuple [.int 0]) (.tuple [.int 0]) = some (.sh (.bool false)) := by kernel_rfl
  have g1 := f1
  have g2 := f2
  unfold q1 at g2
  unfold lawA
  generalize G_payments = A at g1 ⊢
  generalize G_blocked = B at g2 ⊢
  generalize lSale = L at g1 g2 ⊢
  simp [g1, g2, n1, n2]
theorem lawB_ok (S : PyData) (t0 : T) : lawB [some (.sh S), some t0, some (.sh lSale), none] = .ok (.nx, [some (.sh S), some t0, some (.sh lSale), none]) := by
  have n1 : isNone .none = true := rfl
  have n2 : opIsNot (.bool false) (.bool false) = some (.sh (.bool false)) := rfl
  have g1 := f4
  have g2 := f3
  unfold q2 at g2
  unfold lawB
  generalize G_is_plain = A at g1 ⊢
  generalize G_blocked = B at g2 ⊢
  generalize lSale = L at g1 g2 ⊢
  simp [g1, g2, n1, n2]
theorem law_plain (ns : List Int) (h : ns.length ≤ 63) : G_law [.list (ns.map PyData.int)] = some (.sh (.bool true)) := by
  obtain ⟨t0, e0, h0⟩ := lawHand_ok h
  generalize hS : PyData.list (ns.map PyData.int) = S at e0 ⊢
  obtain ⟨t, e, rfl⟩ := gP_of (P := fun t => t = .sh (.bool true)) (N := 4) (n := 1) (fb := B_law) (ds := [S]) rfl (by
    rw [law_eq]
    refine sSeq_nx (η1 := [some (.sh S), some t0, none, none]) (by simp [startE, e0]) ?_
    refine sSeq_nx (η1 := [some (.sh S), some t0, some (.sh lSale), none]) (lawS_ok S t0) ?_
    refine sSeq_nx (lawA_ok S t0) ?_
    refine sSeq_nx (lawB_ok S t0) ?_
    refine sSeq_loop (sFor_inv (List.range 4) (fun i => .int (i : Nat)) (fun _ η => ∃ t x3, Hand t ∧ η = [some (.sh S), some t, some (.sh lSale), x3]) (fun _ _ => False) (η1 := [some (.sh S), some t0, some (.sh lSale), none]) (iR1_c (n := 4) (by decide)) ⟨t0, none, h0, rfl⟩ ?_) ?_ (fun _ _ h => h.elim)
    · rintro k p η hk ⟨t, x3, ht, rfl⟩
      rw [gN_bind]
      obtain ⟨t1, m, rows, e1, h1, hs⟩ := drawn_ok ht
      obtain ⟨t2, e2, h2⟩ := right_ok hs h1
      refine step_nx (η := [some (.sh S), some t2, some (.sh lSale), some (.sh (.int (p : Nat)))]) ?_ rfl ⟨t2, _, h2, rfl⟩
      unfold lawC
      simp [e1, e2]
    · rintro η ⟨t, x3, ht, rfl⟩
      exact ⟨(.ret (.sh (.bool true)), _), rfl, rfl⟩)
  exact e
end
end K80
set_option Elab.async false
set_option linter.all false
set_option maxRecDepth 100000
set_option maxHeartbeats 0
namespace K80
open PySem PySem.Spec PyProof.Rows L2 Pv
def top (i : Nat) : Stmt := PySem.Challenge.pw_slipfree_k80_whole_blocks_and_plain_wort.main.body.getD i (.Pass ⟨0, 0, 0, 0⟩)
abbrev s__law_draw : Stmt := top 43
def d__law_draw : He.DefD := ⟨("_law_draw", none), "_law_draw", "_law_draw", defArgs s__law_draw, defBody s__law_draw, defScope s__law_draw, [], []⟩
abbrev s__law_any : Stmt := top 44
def d__law_any : He.DefD := ⟨("_law_any", none), "_law_any", "_law_any", defArgs s__law_any, defBody s__law_any, defScope s__law_any, [], []⟩
abbrev s__law_has : Stmt := top 49
def d__law_has : He.DefD := ⟨("_law_has", none), "_law_has", "_law_has", defArgs s__law_has, defBody s__law_has, defScope s__law_has, [], []⟩
abbrev s__law_sale : Stmt := top 48
def d__law_sale : He.DefD := ⟨("_law_sale", none), "_law_sale", "_law_sale", defArgs s__law_sale, defBody s__law_sale, defScope s__law_sale, [], []⟩
abbrev s__law_drawn : Stmt := top 50
def d__law_drawn : He.DefD := ⟨("_law_drawn", none), "_law_drawn", "_law_drawn", defArgs s__law_drawn, defBody s__law_drawn, defScope s__law_drawn, [], []⟩
abbrev s__law_hand : Stmt := top 42
def d__law_hand : He.DefD := ⟨("_law_hand", none), "_law_hand", "_law_hand", defArgs s__law_hand, defBody s__law_hand, defScope s__law_hand, [], []⟩
abbrev s__law_low : Stmt := top 45
def d__law_low : He.DefD := ⟨("_law_low", none), "_law_low", "_law_low", defArgs s__law_low, defBody s__law_low, defScope s__law_low, [], []⟩
abbrev s__law_add : Stmt := top 46
def d__law_add : He.DefD := ⟨("_law_add", none), "_law_add", "_law_add", defArgs s__law_add, defBody s__law_add, defScope s__law_add, [], []⟩
abbrev s__law_allotments : Stmt := top 51
def d__law_allotments : He.DefD := ⟨("_law_allotments", none), "_law_allotments", "_law_allotments", defArgs s__law_allotments, defBody s__law_allotments, defScope s__law_allotments, [], []⟩
abbrev s__law_worth : Stmt := top 52
def d__law_worth : He.DefD := ⟨("_law_worth", none), "_law_worth", "_law_worth", defArgs s__law_worth, defBody s__law_worth, defScope s__law_worth, [], []⟩
abbrev s__law_best : Stmt := top 53
def d__law_best : He.DefD := ⟨("_law_best", none), "_law_best", "_law_best", defArgs s__law_best, defBody s__law_best, defScope s__law_best, [], []⟩
abbrev s__law_lots : Stmt := top 54
def d__law_lots : He.DefD := ⟨("_law_lots", none), "_law_lots", "_law_lots", defArgs s__law_lots, defBody s__law_lots, defScope s__law_lots, [], []⟩
abbrev s__law_sum : Stmt := top 47
def d__law_sum : He.DefD := ⟨("_law_sum", none), "_law_sum", "_law_sum", defArgs s__law_sum, defBody s__law_sum, defScope s__law_sum, [], []⟩
abbrev s__law_blocked : Stmt := top 55
def d__law_blocked : He.DefD := ⟨("_law_blocked", none), "_law_blocked", "_law_blocked", defArgs s__law_blocked, defBody s__law_blocked, defScope s__law_blocked, [], []⟩
abbrev s_is_sized : Stmt := top 21
def d_is_sized : He.DefD := ⟨("is_sized", none), "is_sized", "is_sized", defArgs s_is_sized, defBody s_is_sized, defScope s_is_sized, [], []⟩
abbrev s_is_integer_judging : Stmt := top 18
def d_is_integer_judging : He.DefD := ⟨("is_integer_judging", none), "is_integer", "is_integer", defArgs s_is_integer_judging, defBody s_is_integer_judging, defScope s_is_integer_judging, [], []⟩
abbrev s_is_within : Stmt := top 20
def d_is_within : He.DefD := ⟨("is_within", none), "is_within", "is_within", defArgs s_is_within, defBody s_is_within, defScope s_is_within, [], []⟩
abbrev s_are_worths : Stmt := top 26
def d_are_worths : He.DefD := ⟨("are_worths", none), "are_worths", "are_worths", defArgs s_are_worths, defBody s_are_worths, defScope s_are_worths, [], []⟩
abbrev s_is_sale : Stmt := top 27
def d_is_sale : He.DefD := ⟨("is_sale", none), "is_sale", "is_sale", defArgs s_is_sale, defBody s_is_sale, defScope s_is_sale, [], []⟩
abbrev s_check_sale : Stmt := top 28
def d_check_sale : He.DefD := ⟨("check_sale", none), "check_sale", "check_sale", defArgs s_check_sale, defBody s_check_sale, defScope s_check_sale, [], []⟩
abbrev s_allotments : Stmt := top 30
def d_allotments : He.DefD := ⟨("allotments", none), "allotments", "allotments", defArgs s_allotments, defBody s_allotments, defScope s_allotments, [], []⟩
abbrev s_worth_by : Stmt := top 31
def d_worth_by : He.DefD := ⟨("worth_by", none), "worth_by", "worth_by", defArgs s_worth_by, defBody s_worth_by, defScope s_worth_by, [], []⟩
abbrev s_best_of : Stmt := top 32
def d_best_of : He.DefD := ⟨("best_of", none), "best_of", "best_of", defArgs s_best_of, defBody s_best_of, defScope s_best_of, [], []⟩
abbrev s_paid_by : Stmt := top 34
def d_paid_by : He.DefD := ⟨("paid_by", none), "paid_by", "paid_by", defArgs s_paid_by, defBody s_paid_by, defScope s_paid_by, [], []⟩
abbrev s_payments : Stmt := top 35
def d_payments : He.DefD := ⟨("payments", none), "payments", "payments", defArgs s_payments, defBody s_payments, defScope s_payments, [], []⟩
abbrev s__law_paid : Stmt := top 56
def d__law_paid : He.DefD := ⟨("_law_paid", none), "_law_paid", "_law_paid", defArgs s__law_paid, defBody s__law_paid, defScope s__law_paid, [], []⟩
abbrev s_best : Stmt := top 33
def d_best : He.DefD := ⟨("best", none), "best", "best", defArgs s_best, defBody s_best, defScope s_best, [], []⟩
abbrev s_common : Stmt := top 10
def d_common : He.DefD := ⟨("common", none), "common", "common", defArgs s_common, defBody s_common, defScope s_common, [], []⟩
abbrev s_is_integer_checks : Stmt := top 6
def d_is_integer_checks : He.DefD := ⟨("is_integer_checks", none), "is_integer", "is_integer", defArgs s_is_integer_checks, defBody s_is_integer_checks, defScope s_is_integer_checks, [], []⟩
abbrev s_is_pair : Stmt := top 8
def d_is_pair : He.DefD := ⟨("is_pair", none), "is_pair", "is_pair", defArgs s_is_pair, defBody s_is_pair, defScope s_is_pair, [], []⟩
abbrev s_is_fraction : Stmt := top 12
def d_is_fraction : He.DefD := ⟨("is_fraction", none), "is_fraction", "is_fraction", defArgs s_is_fraction, defBody s_is_fraction, defScope s_is_fraction, [], []⟩
abbrev s_are_amounts : Stmt := top 37
def d_are_amounts : He.DefD := ⟨("are_amounts", none), "are_amounts", "are_amounts", defArgs s_are_amounts, defBody s_are_amounts, defScope s_are_amounts, [], []⟩
abbrev s_has_thing : Stmt := top 29
def d_has_thing : He.DefD := ⟨("has_thing", none), "has_thing", "has_thing", defArgs s_has_thing, defBody s_has_thing, defScope s_has_thing, [], []⟩
abbrev s_is_below : Stmt := top 15
def d_is_below : He.DefD := ⟨("is_below", none), "is_below", "is_below", defArgs s_is_below, defBody s_is_below, defScope s_is_below, [], []⟩
abbrev s_made : Stmt := top 11
def d_made : He.DefD := ⟨("made", none), "made", "made", defArgs s_made, defBody s_made, defScope s_made, [], []⟩
abbrev s_less : Stmt := top 14
def d_less : He.DefD := ⟨("less", none), "less", "less", defArgs s_less, defBody s_less, defScope s_less, [], []⟩
abbrev s_plus : Stmt := top 13
def d_plus : He.DefD := ⟨("plus", none), "plus", "plus", defArgs s_plus, defBody s_plus, defScope s_plus, [], []⟩
abbrev s_total_of : Stmt := top 16
def d_total_of : He.DefD := ⟨("total_of", none), "total_of", "total_of", defArgs s_total_of, defBody s_total_of, defScope s_total_of, [], []⟩
abbrev s_blocked : Stmt := top 38
def d_blocked : He.DefD := ⟨("blocked", none), "blocked", "blocked", defArgs s_blocked, defBody s_blocked, defScope s_blocked, [], []⟩
abbrev s_is_plain : Stmt := top 39
def d_is_plain : He.DefD := ⟨("is_plain", none), "is_plain", "is_plain", defArgs s_is_plain, defBody s_is_plain, defScope s_is_plain, [], []⟩
abbrev s_check_person : Stmt := top 36
def d_check_person : He.DefD := ⟨("check_person", none), "check_person", "check_person", defArgs s_check_person, defBody s_check_person, defScope s_check_person, [], []⟩
abbrev s_worth_alone : Stmt := top 40
def d_worth_alone : He.DefD := ⟨("worth_alone", none), "worth_alone", "worth_alone", defArgs s_worth_alone, defBody s_worth_alone, defScope s_worth_alone, [], []⟩
abbrev s__law_is_right : Stmt := top 57
def d__law_is_right : He.DefD := ⟨("_law_is_right", none), "_law_is_right", "_law_is_right", defArgs s__law_is_right, defBody s__law_is_right, defScope s__law_is_right, [], []⟩
abbrev s_law : Stmt := top 58
def d_law : He.DefD := ⟨("law", none), "law", "law", defArgs s_law, defBody s_law, defScope s_law, [], []⟩
def fn : List He.DefD := [d__law_draw, d__law_any, d__law_has, d__law_sale, d__law_drawn, d__law_hand, d__law_low, d__law_add, d__law_allotments, d__law_worth, d__law_best, d__law_lots, d__law_sum, d__law_blocked, d_is_sized, d_is_integer_judging, d_is_within, d_are_worths, d_is_sale, d_check_sale, d_allotments, d_worth_by, d_best_of, d_paid_by, d_payments, d__law_paid, d_best, d_common, d_is_integer_checks, d_is_pair, d_is_fraction, d_are_amounts, d_has_thing, d_is_below, d_made, d_less, d_plus, d_total_of, d_blocked, d_is_plain, d_check_person, d_worth_alone, d__law_is_right, d_law]
def fa : List He.Fa := [.glo "_law_draw", .glo "_law_any", .glo "_law_has", .glo "_law_sale", .glo "_law_drawn", .glo "_law_hand", .glo "_law_low", .glo "_law_add", .glo "_law_allotments", .glo "_law_worth", .glo "_law_best", .glo "_law_lots", .glo "_law_sum", .glo "_law_blocked", .glo "is_sized", .glo "is_integer_judging", .glo "is_within", .glo "are_worths", .glo "is_sale", .glo "check_sale", .glo "allotments", .glo "worth_by", .glo "best_of", .glo "paid_by", .glo "payments", .glo "_law_paid", .glo "best", .glo "common", .glo "is_integer_checks", .glo "is_pair", .glo "is_fraction", .glo "are_amounts", .glo "has_thing", .glo "is_below", .glo "made", .glo "less", .glo "plus", .glo "total_of", .glo "blocked", .glo "is_plain", .glo "check_person", .glo "worth_alone", .glo "_law_is_right", .glo "law", .free "len", .free "int", .free "all", .free "range", .free "sum", .free "zip", .free "tuple", .free "abs", .free "list", .free "max", .free "min", .free "isinstance", .free "bool", .free "sorted", .free "enumerate", .free "any", .free "repr", .int "MOST_WORTH" 100, .int "MOST_THINGS" 3, .int "MOST_PERSONS" 4]
section
variable {P : Program} {w : World} {K : PySem.W.Frag} {mg : Str → Option Value} {base : Heap}
theorem sc__law_draw : FnScope ["hand", "many", "cell", "digit", "number"] ["hand", "many"] (defScope s__law_draw) := ⟨rfl, rfl, rfl, by decide +kernel, rfl, by decide +kernel, by decide +kernel⟩
theorem ok__law_draw (T : Tp fa fn K mg) : ∃ fd, Has P w K mg base d__law_draw ["hand", "many"] 2 (spIO K 2 G__law_draw) fd := by
  have m_int := T.free 45 (x := "int")
  have m_len := T.free 44 (x := "len")
  obtain ⟨fd, F0⟩ := T.c.def_ 0 (d := d__law_draw) rfl
  have F : FunD K d__law_draw.name d__law_draw.qual d__law_draw.params d__law_draw.body d__law_draw.scope [] [] (He.fAd K d__law_draw.at_) fd := F0
  have bd : Binds K fd ["hand", "many"] [] := F.bindsN fun _ _ _ _ _ _ us hl => match us, hl with | [_, _], _ => rfl
  have sc := sc__law_draw
  refine ⟨fd, F, bd, def_okIO (n := 2) (N := ["hand", "many", "cell", "digit", "number"]) (fb := B__law_draw) F sc rfl fun cdv A outer s H E hr hgd => ?_⟩
  have hu := good_u (k := 0) hr
  exact (psd_cons (psd_if (PW.pt (pwd_and (ptb_bin rfl (pt_cmpR (opEq_ok ⟨rfl, hu, hgd⟩) (pd_binL rfl (pe_ix opIx_ok (pv 0) pd_int (fun _ _ => rfl))) pd_int (by rfl))) (pwd_and1 (ptb_bin rfl (pt_cmpR (opLt_ok ⟨rfl, hu, hgd⟩) (pd_binL rfl (pe_ix opIx_ok (pv 0) pd_int (fun _ _ => rfl))) (pd_call rfl (pe_callB bLen_ok rfl m_len PySem.boot_len (pad_cons (pd_binL rfl (pe_ix opIx_ok (pv 0) pd_int (fun _ _ => rfl))) pad_nil))) (by rfl)))))) (psd_cons (psd_set (by decide) (ps_set sc.nd rfl (by first | exact Or.inl rfl | exact Or.inr rfl) (pd_bin rfl (pe_ix opIx_ok (pd_binL rfl (pe_ix opIx_ok (pv 0) pd_int (fun _ _ => rfl))) (pd_binL rfl (pe_ix opIx_ok (pv 0) pd_int (fun _ _ => rfl))) (fun _ _ => rfl)))))
    (psd_cons (psd_asg (by decide) (ps_asg (pd_bin rfl (pe_op opAdd_ok (pd_binL rfl (pe_ix opIx_ok (pv 0) pd_int (fun _ _ => rfl))) pd_int)) (pgd_sub (pg_sub (pv 0) pd_int set_list))))
    (psd_cons (psd_asg (by decide) (ps_asg (pd_bin rfl (pe_op opMod_ok (pd_call rfl (pe_callTy bInt_ok rfl m_int PyProof.Rows.boot_int (pad_cons (pd_bin rfl (pe_op opAdd_ok (pd_bin rfl (pe_op opAdd_ok (pd_bin rfl (pe_op opMul_ok (pd_binL rfl (pe_ix opIx_ok (pv 0) pd_int (fun _ _ => rfl))) pd_int)) (pd_binL rfl (pe_op opMul_ok (pv 2) pd_int)))) pd_int)) pad_nil))) pd_int)) (pgd_sub (pg_sub (pv 0) pd_int set_list))))
    (psd_one (psd_if (ptb_binL rfl (pt_cmpR (opGe_ok ⟨rfl, hu, hgd⟩) (pv 2) (pd_bin rfl (pe_op opPow_ok pd_int pd_int)) (by rfl))) (psd_one (psd_asg (by decide) (ps_asg (pd_v (pv 2)) (pgd_sub (pg_sub (pv 0) pd_int set_list))))) psd_nil))))) psd_nil)
    (psd_cons (psd_if (ptb_bin rfl (pt_cmpR (opGt_ok ⟨rfl, hu, hgd⟩) (pd_binL rfl (pe_ix opIx_ok (pv 0) pd_int (fun _ _ => rfl))) pd_int (by rfl))) (psd_cons (psd_set (by decide) (ps_set sc.nd rfl (by first | exact Or.inl rfl | exact Or.inr rfl) (pd_binR rfl (pe_op opMod_ok (pd_call rfl (pe_callTy bInt_ok rfl m_int PyProof.Rows.boot_int (pad_cons (pd_binL rfl (pe_ix opIx_ok (pv 0) pd_int (fun _ _ => rfl))) pad_nil))) (pv 1)))))
    (psd_cons (psd_asg (by decide) (ps_asg (pd_binR rfl (pe_op opFdiv_ok (pd_binL rfl (pe_ix opIx_ok (pv 0) pd_int (fun _ _ => rfl))) (pv 1))) (pgd_sub (pg_sub (pv 0) pd_int set_list))))
    (psd_one (psd_retV (pv 3))))) psd_nil)
    (psd_cons (psd_asg (by decide) (ps_asg (pd_bin rfl (pe_op opAdd_ok (pd_binL rfl (pe_ix opIx_ok (pv 0) pd_int (fun _ _ => rfl))) pd_int)) (pgd_sub (pg_sub (pv 0) pd_int set_list))))
    (psd_cons (psd_set (by decide) (ps_set sc.nd rfl (by first | exact Or.inl rfl | exact Or.inr rfl) (pd_bin rfl (pe_op opMod_ok (pd_call rfl (pe_callTy bInt_ok rfl m_int PyProof.Rows.boot_int (pad_cons (pd_bin rfl (pe_op opMul_ok (pd_call rfl (pe_callTy bInt_ok rfl m_int PyProof.Rows.boot_int (pad_cons (pd_bin rfl (pe_op opAdd_ok (pd_binL rfl (pe_ix opIx_ok (pv 0) pd_int (fun _ _ => rfl))) (pd_bin rfl (pe_op opMul_ok pd_int (pd_binL rfl (pe_ix opIx_ok (pv 0) pd_int (fun _ _ => rfl))))))) pad_nil))) pd_int)) pad_nil))) pd_int))))
    (psd_cons (psd_set (by decide) (ps_set sc.nd rfl (by first | exact Or.inl rfl | exact Or.inr rfl) (pd_bin rfl (pe_op opMod_ok (pd_call rfl (pe_callTy bInt_ok rfl m_int PyProof.Rows.boot_int (pad_cons (pd_binL rfl (pe_op opMul_ok (pv 4) (pd_bin rfl (pe_op opAdd_ok (pd_binL rfl (pe_op opFdiv_ok (pv 4) pd_int)) pd_int)))) pad_nil))) pd_int))))
    (psd_cons (psd_set (by decide) (ps_set sc.nd rfl (by first | exact Or.inl rfl | exact Or.inr rfl) (pd_bin rfl (pe_op opMod_ok (pd_call rfl (pe_callTy bInt_ok rfl m_int PyProof.Rows.boot_int (pad_cons (pd_binL rfl (pe_op opMul_ok (pv 4) (pd_bin rfl (pe_op opAdd_ok (pd_binL rfl (pe_op opFdiv_ok (pv 4) pd_int)) pd_int)))) pad_nil))) pd_int))))
    (psd_one (psd_ret (pd_binR rfl (pe_op opMod_ok (pd_call rfl (pe_callTy bInt_ok rfl m_int PyProof.Rows.boot_int (pad_cons (pd_binL rfl (pe_op opFdiv_ok (pv 4) pd_int)) pad_nil))) (pv 1)))))))))))
theorem sc__law_any : FnScope ["hand", "some"] ["hand", "some"] (defScope s__law_any) := ⟨rfl, rfl, rfl, by decide +kernel, rfl, by decide +kernel, by decide +kernel⟩
theorem ok__law_any (T : Tp fa fn K mg) : ∃ fd, Has P w K mg base d__law_any ["hand", "some"] 3 (spIO K 2 G__law_any) fd := by
  have m_len := T.free 44 (x := "len")
  have g__law_draw := T.glo 0 (x := "_law_draw")
  obtain ⟨fd__law_draw, H__law_draw⟩ := ok__law_draw (P := P) (w := w) (base := base) T
  obtain ⟨fd, F0⟩ := T.c.def_ 1 (d := d__law_any) rfl
  have F : FunD K d__law_any.name d__law_any.qual d__law_any.params d__law_any.body d__law_any.scope [] [] (He.fAd K d__law_any.at_) fd := F0
  have bd : Binds K fd ["hand", "some"] [] := F.bindsN fun _ _ _ _ _ _ us hl => match us, hl with | [_, _], _ => rfl
  have sc := sc__law_any
  refine ⟨fd, F, bd, def_okIO (n := 2) (N := ["hand", "some"]) (fb := B__law_any) F sc rfl fun cdv A outer s H E hr hgd => ?_⟩
  have hu := good_u (k := 1) hr
  exact (psd_one (psd_ret (pd_binL rfl (pe_ix opIx_ok (pv 1) (pd_defIO rfl (fun _ _ _ => gIO_len) (pe_callG H__law_draw.ok (hr.mono (by decide)) hgd rfl g__law_draw H__law_draw.F.kp H__law_draw.b (pa_cons (pv 0) (pad_cons (pd_callV rfl (pe_callB bLen_ok rfl m_len PySem.boot_len (pa_cons (pv 1) pa_nil))) pad_nil)))) (fun _ _ => rfl)))))
theorem sc__law_has : FnScope ["lot", "other", "bit"] ["lot", "other"] (defScope s__law_has) := ⟨rfl, rfl, rfl, by decide +kernel, rfl, by decide +kernel, by decide +kernel⟩
theorem ok__law_has (T : Tp fa fn K mg) : ∃ fd, Has P w K mg base d__law_has ["lot", "other"] 2 (spP K 2 G__law_has) fd := by
  have m_all := T.free 46 (x := "all")
  have m_int := T.free 45 (x := "int")
  obtain ⟨fd, F0⟩ := T.c.def_ 2 (d := d__law_has) rfl
  have F : FunD K d__law_has.name d__law_has.qual d__law_has.params d__law_has.body d__law_has.scope [] [] (He.fAd K d__law_has.at_) fd := F0
  have bd : Binds K fd ["lot", "other"] [] := F.bindsN fun _ _ _ _ _ _ us hl => match us, hl with | [_, _], _ => rfl
  have sc := sc__law_has
  refine ⟨fd, F, bd, def_ok (n := 2) (N := ["lot", "other", "bit"]) (fb := B__law_has) F sc rfl fun cdv A outer s H E hr hgd => ?_⟩
  have hu := good_u (k := 0) hr
  exact (psd_one (psd_ret (pd_call rfl (pe_callB (bAll_ok ⟨rfl, hu, hgd⟩) rfl m_all PyProof.Rows.boot_all (pad_cons (pd_comp (C' := cnN K) (ws := [2]) (own := [2]) rfl (by decide) (by decide) (pe_lc rfl sc.nd (pid_seq rfl (pd_tup (pad_cons pd_int (pad_cons pd_int (pad_cons pd_int pad_nil))))) (own := [("bit", 2)]) (blkOk_by (by kernel_rfl)) (fun _ _ _ _ _ => (pgd_name (pg_name sc.nd rfl (by first | exact Or.inl rfl | exact Or.inr rfl)))) (fun _ _ _ _ _ => (ptsd_one (ptb_bin rfl (pt_cmpR (opEq_ok ⟨rfl, hu, hgd⟩) (pd_bin rfl (pe_op opMod_ok (pd_call rfl (pe_callTy bInt_ok rfl m_int PyProof.Rows.boot_int (pad_cons (pd_binLR rfl (pe_op opFdiv_ok (pv 1) (pv 2))) pad_nil))) pd_int)) pd_int (by rfl))))) (fun _ _ _ _ _ => (pd_bin rfl (pe_cmpR (opEq_ok ⟨rfl, hu, hgd⟩) (pd_bin rfl (pe_op opMod_ok (pd_call rfl (pe_callTy bInt_ok rfl m_int PyProof.Rows.boot_int (pad_cons (pd_binLR rfl (pe_op opFdiv_ok (pv 0) (pv 2))) pad_nil))) pd_int)) pd_int (by rfl)))))) pad_nil)))))
theorem sc__law_sale : FnScope ["hand", "things", "people", "many", "rows", "person", "kind", "top", "row", "lot", "alone", "thing", "one", "bit", "goal"] ["hand", "things", "people"] (defScope s__law_sale) := ⟨rfl, rfl, rfl, by decide +kernel, rfl, by decide +kernel, by decide +kernel⟩
theorem ok__law_sale (T : Tp fa fn K mg) : ∃ fd, Has P w K mg base d__law_sale ["hand", "things", "people"] 4 (spIO K 3 G__law_sale) fd := by
  have m_range := T.free 47 (x := "range")
  have m_sum := T.free 48 (x := "sum")
  have m_tuple := T.free 50 (x := "tuple")
  have m_zip := T.free 49 (x := "zip")
  have g__law_any := T.glo 1 (x := "_law_any")
  obtain ⟨fd__law_any, H__law_any⟩ := ok__law_any (P := P) (w := w) (base := base) T
  have g__law_draw := T.glo 0 (x := "_law_draw")
  obtain ⟨fd__law_draw, H__law_draw⟩ := ok__law_draw (P := P) (w := w) (base := base) T
  have g__law_has := T.glo 2 (x := "_law_has")
  obtain ⟨fd__law_has, H__law_has⟩ := ok__law_has (P := P) (w := w) (base := base) T
  obtain ⟨fd, F0⟩ := T.c.def_ 3 (d := d__law_sale) rfl
  have F : FunD K d__law_sale.name d__law_sale.qual d__law_sale.params d__law_sale.body d__law_sale.scope [] [] (He.fAd K d__law_sale.at_) fd := F0
  have bd : Binds K fd ["hand", "things", "people"] [] := F.bindsN fun _ _ _ _ _ _ us hl => match us, hl with | [_, _, _], _ => rfl
  have sc := sc__law_sale
  refine ⟨fd, F, bd, def_okIO (n := 3) (N := ["hand", "things", "people", "many", "rows", "person", "kind", "top", "row", "lot", "alone", "thing", "one", "bit", "goal"]) (fb := B__law_sale) F sc rfl fun cdv A outer s H E hr hgd => ?_⟩
  have hu := good_u (k := 2) hr
  exact (psd_cons (psd_par (by decide) (by decide) (ps_par rfl sc.nd rfl rfl (by decide) rfl rfl (pad_cons (pd_bin rfl (pe_ix opIx_ok (pd_lst (pad_cons pd_int (pad_cons pd_int (pad_cons pd_int pad_nil)))) (pd_binL rfl (pe_op opSub_ok (pv 1) pd_int)) (fun _ _ => rfl))) (pad_cons (pd_lst pad_nil) pad_nil)) (by rfl)))
    (psd_cons (psd_for (by decide) (ps_for PassesOwn.never rfl (pid_r1 (pi_range1 rfl m_range (pa_cons (pd_v (pv 2)) pa_nil))) (pgd_name (pg_name sc.nd rfl (by first | exact Or.inl rfl | exact Or.inr rfl))) (psd_cons (psd_set (by decide) (ps_set sc.nd rfl (by first | exact Or.inl rfl | exact Or.inr rfl) (pd_defIO rfl (fun _ _ _ => gIO_len) (pe_callG H__law_draw.ok (hr.mono (by decide)) hgd rfl g__law_draw H__law_draw.F.kp H__law_draw.b (pa_cons (pv 0) (pad_cons pd_int pad_nil))))))
    (psd_cons (psd_set (by decide) (ps_set sc.nd rfl (by first | exact Or.inl rfl | exact Or.inr rfl) (pd_defIO rfl (fun _ _ _ => gIO_len) (pe_callG H__law_any.ok (hr.mono (by decide)) hgd rfl g__law_any H__law_any.F.kp H__law_any.b (pa_cons (pv 0) (pad_cons (pd_lst (pad_cons pd_int (pad_cons pd_int (pad_cons pd_int (pad_cons pd_int pad_nil))))) pad_nil))))))
    (psd_cons (psd_set (by decide) (ps_set sc.nd rfl (by first | exact Or.inl rfl | exact Or.inr rfl) (pd_bin rfl (pe_op opAdd_ok (pd_lst (pad_cons pd_int pad_nil)) (pd_comp (C' := cnN K) (ws := [9]) (own := [9]) rfl (by decide) (by decide) (pe_lc rfl sc.nd (pid_r1 (pi_range1 rfl m_range (pa_cons (pd_binL rfl (pe_op opSub_ok (pv 3) pd_int)) pa_nil))) (own := [("lot", 9)]) (blkOk_by (by kernel_rfl)) (fun _ _ _ _ _ => (pgd_name (pg_name sc.nd rfl (by first | exact Or.inl rfl | exact Or.inr rfl)))) (fun _ _ _ _ _ => ptsd_nil) (fun _ _ _ _ _ => (pd_defIO rfl (fun _ _ _ => gIO_len) (pe_callG H__law_draw.ok (hr.mono (by decide)) hgd rfl g__law_draw H__law_draw.F.kp H__law_draw.b (pa_cons (pv 0) (pad_cons (pd_v (pv 7)) pad_nil)))))))))))
    (psd_cons (psd_if (ptb_binL rfl (pt_cmpR (opEq_ok ⟨rfl, hu, hgd⟩) (pv 6) pd_int (by rfl))) (psd_cons (psd_set (by decide) (ps_set sc.nd rfl (by first | exact Or.inl rfl | exact Or.inr rfl) (pd_comp (C' := cnN K) (ws := [11]) (own := [11]) rfl (by decide) (by decide) (pe_lc rfl sc.nd (pid_r1 (pi_range1 rfl m_range (pa_cons (pd_v (pv 1)) pa_nil))) (own := [("thing", 11)]) (blkOk_by (by kernel_rfl)) (fun _ _ _ _ _ => (pgd_name (pg_name sc.nd rfl (by first | exact Or.inl rfl | exact Or.inr rfl)))) (fun _ _ _ _ _ => ptsd_nil) (fun _ _ _ _ _ => (pd_defIO rfl (fun _ _ _ => gIO_len) (pe_callG H__law_draw.ok (hr.mono (by decide)) hgd rfl g__law_draw H__law_draw.F.kp H__law_draw.b (pa_cons (pv 0) (pad_cons pd_int pad_nil)))))))))
    (psd_one (psd_setLc (C' := cnN K) (ws := [9]) (own := [9]) (by decide) rfl (by decide) (by decide) (ps_setLc rfl sc.nd rfl rfl (sw_true rfl rfl rfl rfl) (pid_r1 (pi_range1 rfl m_range (pa_cons (pd_v (pv 3)) pa_nil))) (own := [("lot", 9)]) (blkOk_by (by kernel_rfl)) (fun _ _ _ _ _ => (pgd_name (pg_name sc.nd rfl (by first | exact Or.inl rfl | exact Or.inr rfl)))) (fun _ _ _ _ _ => ptsd_nil) (fun _ _ _ _ _ => (pd_call rfl (pe_callB (bSum_ok ⟨rfl, hu, hgd⟩) rfl m_sum PyProof.Rows.boot_sum (pad_cons (pd_comp (C' := cnN K) (ws := [12, 13]) (own := [12, 13]) rfl (by decide) (by decide) (pe_lc rfl sc.nd (pid_zipM rfl (pi_zipM rfl m_zip (pa_cons (pd_v (pv 10)) (pa_cons (pd_tup (pad_cons pd_int (pad_cons pd_int (pad_cons pd_int pad_nil)))) pa_nil)))) (own := [("one", 12), ("bit", 13)]) (blkOk_by (by kernel_rfl)) (fun _ _ _ _ _ => (pgd_tup rfl rfl (pgsd_cons (pgd_name (pg_name sc.nd rfl (by first | exact Or.inl rfl | exact Or.inr rfl))) (pgsd_cons (pgd_name (pg_name sc.nd rfl (by first | exact Or.inl rfl | exact Or.inr rfl))) pgsd_nil)))) (fun _ _ _ _ _ => (ptsd_one (ptd_tru rfl (pd_def rfl (fun _ _ => gP_len) (pe_callG H__law_has.ok (hr.mono (by decide)) hgd rfl g__law_has H__law_has.F.kp H__law_has.b (pad_cons (pd_v (pv 9)) (pad_cons (pd_v (pv 13)) pad_nil))))))) (fun _ _ _ _ _ => (pd_v (pv 12))))) pad_nil)))))))) psd_nil)
    (psd_cons (psd_if (ptb_binL rfl (pt_cmpR (opEq_ok ⟨rfl, hu, hgd⟩) (pv 6) pd_int (by rfl))) (psd_cons (psd_set (by decide) (ps_set sc.nd rfl (by first | exact Or.inl rfl | exact Or.inr rfl) (pd_bin rfl (pe_op opAdd_ok pd_int (pd_defIO rfl (fun _ _ _ => gIO_len) (pe_callG H__law_draw.ok (hr.mono (by decide)) hgd rfl g__law_draw H__law_draw.F.kp H__law_draw.b (pa_cons (pv 0) (pad_cons (pd_binL rfl (pe_op opSub_ok (pv 3) pd_int)) pad_nil))))))))
    (psd_one (psd_setLc (C' := cnN K) (ws := [9]) (own := [9]) (by decide) rfl (by decide) (by decide) (ps_setLc rfl sc.nd rfl rfl (sw_true rfl rfl rfl rfl) (pid_r1 (pi_range1 rfl m_range (pa_cons (pd_v (pv 3)) pa_nil))) (own := [("lot", 9)]) (blkOk_by (by kernel_rfl)) (fun _ _ _ _ _ => (pgd_name (pg_name sc.nd rfl (by first | exact Or.inl rfl | exact Or.inr rfl)))) (fun _ _ _ _ _ => ptsd_nil) (fun _ _ _ _ _ => (pd_if (ptd_tru rfl (pd_def rfl (fun _ _ => gP_len) (pe_callG H__law_has.ok (hr.mono (by decide)) hgd rfl g__law_has H__law_has.F.kp H__law_has.b (pad_cons (pd_v (pv 9)) (pad_cons (pd_v (pv 14)) pad_nil))))) (pd_binL rfl (pe_op opSub_ok (pv 7) pd_int)) pd_int)))))) psd_nil)
    (psd_one (psd_expr (pd_mt1 rfl mAppend_ok (pe_bm PySem.F.plainAttrs_list PySem.F.slot_list_append PySem.F.type_list_append mt_append (pv 4) (pa_cons (pd_callV rfl (pe_callTy bTuple_ok rfl m_tuple PyProof.Rows.boot_tuple (pa_cons (pv 8) pa_nil))) pa_nil))))))))))))
    (psd_one (psd_ret (pd_tup (pad_cons (pd_v (pv 1)) (pad_cons (pd_callV rfl (pe_callTy bTuple_ok rfl m_tuple PyProof.Rows.boot_tuple (pa_cons (pv 4) pa_nil))) pad_nil)))))))
theorem sc__law_drawn : FnScope ["hand"] ["hand"] (defScope s__law_drawn) := ⟨rfl, rfl, rfl, by decide +kernel, rfl, by decide +kernel, by decide +kernel⟩
theorem ok__law_drawn (T : Tp fa fn K mg) : ∃ fd, Has P w K mg base d__law_drawn ["hand"] 5 (spIO K 1 G__law_drawn) fd := by
  have g__law_draw := T.glo 0 (x := "_law_draw")
  obtain ⟨fd__law_draw, H__law_draw⟩ := ok__law_draw (P := P) (w := w) (base := base) T
  have g__law_sale := T.glo 3 (x := "_law_sale")
  obtain ⟨fd__law_sale, H__law_sale⟩ := ok__law_sale (P := P) (w := w) (base := base) T
  obtain ⟨fd, F0⟩ := T.c.def_ 4 (d := d__law_drawn) rfl
  have F : FunD K d__law_drawn.name d__law_drawn.qual d__law_drawn.params d__law_drawn.body d__law_drawn.scope [] [] (He.fAd K d__law_drawn.at_) fd := F0
  have bd : Binds K fd ["hand"] [] := F.bindsN fun _ _ _ _ _ _ us hl => match us, hl with | [_], _ => rfl
  have sc := sc__law_drawn
  refine ⟨fd, F, bd, def_okIO (n := 1) (N := ["hand"]) (fb := B__law_drawn) F sc rfl fun cdv A outer s H E hr hgd => ?_⟩
  have hu := good_u (k := 3) hr
  exact (psd_one (psd_ret (pd_defIO rfl (fun _ _ _ => gIO_len) (pe_callG H__law_sale.ok (hr.mono (by decide)) hgd rfl g__law_sale H__law_sale.F.kp H__law_sale.b (pa_cons (pv 0) (pad_cons (pd_bin rfl (pe_op opAdd_ok pd_int (pd_defIO rfl (fun _ _ _ => gIO_len) (pe_callG H__law_draw.ok (hr.mono (by decide)) hgd rfl g__law_draw H__law_draw.F.kp H__law_draw.b (pa_cons (pv 0) (pad_cons pd_int pad_nil)))))) (pad_cons (pd_bin rfl (pe_op opAdd_ok pd_int (pd_defIO rfl (fun _ _ _ => gIO_len) (pe_callG H__law_draw.ok (hr.mono (by decide)) hgd rfl g__law_draw H__law_draw.F.kp H__law_draw.b (pa_cons (pv 0) (pad_cons pd_int pad_nil)))))) pad_nil)))))))
theorem sc__law_hand : FnScope ["script", "cells", "cell"] ["script"] (defScope s__law_hand) := ⟨rfl, rfl, rfl, by decide +kernel, rfl, by decide +kernel, by decide +kernel⟩
theorem ok__law_hand (T : Tp fa fn K mg) : ∃ fd, Has P w K mg base d__law_hand ["script"] 2 (spP K 1 G__law_hand) fd := by
  have m_abs := T.free 51 (x := "abs")
  have m_int := T.free 45 (x := "int")
  have m_len := T.free 44 (x := "len")
  obtain ⟨fd, F0⟩ := T.c.def_ 5 (d := d__law_hand) rfl
  have F : FunD K d__law_hand.name d__law_hand.qual d__law_hand.params d__law_hand.body d__law_hand.scope [] [] (He.fAd K d__law_hand.at_) fd := F0
  have bd : Binds K fd ["script"] [] := F.bindsN fun _ _ _ _ _ _ us hl => match us, hl with | [_], _ => rfl
  have sc := sc__law_hand
  refine ⟨fd, F, bd, def_ok (n := 1) (N := ["script", "cells", "cell"]) (fb := B__law_hand) F sc rfl fun cdv A outer s H E hr hgd => ?_⟩
  have hu := good_u (k := 0) hr
  exact (psd_cons (psd_setLc (C' := cnN K) (ws := [2]) (own := [2]) (by decide) rfl (by decide) (by decide) (ps_setLc rfl sc.nd rfl rfl (sw_true rfl rfl rfl rfl) (pid_seq rfl (pd_slV rfl (pv 0) pod_none (pod_some pd_int))) (own := [("cell", 2)]) (blkOk_by (by kernel_rfl)) (fun _ _ _ _ _ => (pgd_name (pg_name sc.nd rfl (by first | exact Or.inl rfl | exact Or.inr rfl)))) (fun _ _ _ _ _ => ptsd_nil) (fun _ _ _ _ _ => (pd_call rfl (pe_callB bAbs_ok rfl m_abs PyProof.Rows.boot_abs (pad_cons (pd_callV rfl (pe_callTy bInt_ok rfl m_int PyProof.Rows.boot_int (pa_cons (pv 2) pa_nil))) pad_nil))))))
    (psd_one (psd_ret (pd_lst (pad_cons (pd_v (pv 1)) (pad_cons pd_int (pad_cons pd_int (pad_cons (pd_bin rfl (pe_op opAdd_ok pd_int (pd_bin rfl (pe_op opMul_ok pd_int (pd_callV rfl (pe_callB bLen_ok rfl m_len PySem.boot_len (pa_cons (pv 1) pa_nil))))))) (pad_cons pd_int pad_nil)))))))))
theorem sc__law_low : FnScope ["top", "bottom", "a", "b"] ["top", "bottom"] (defScope s__law_low) := ⟨rfl, rfl, rfl, by decide +kernel, rfl, by decide +kernel, by decide +kernel⟩
theorem ok__law_low (T : Tp fa fn K mg) : ∃ fd, Has P w K mg base d__law_low ["top", "bottom"] 2 (spP K 2 G__law_low) fd := by
  have m_abs := T.free 51 (x := "abs")
  have m_int := T.free 45 (x := "int")
  obtain ⟨fd, F0⟩ := T.c.def_ 6 (d := d__law_low) rfl
  have F : FunD K d__law_low.name d__law_low.qual d__law_low.params d__law_low.body d__law_low.scope [] [] (He.fAd K d__law_low.at_) fd := F0
  have bd : Binds K fd ["top", "bottom"] [] := F.bindsN fun _ _ _ _ _ _ us hl => match us, hl with | [_, _], _ => rfl
  have sc := sc__law_low
  refine ⟨fd, F, bd, def_ok (n := 2) (N := ["top", "bottom", "a", "b"]) (fb := B__law_low) F sc rfl fun cdv A outer s H E hr hgd => ?_⟩
  have hu := good_u (k := 0) hr
  exact (psd_cons (psd_par (by decide) (by decide) (ps_par rfl sc.nd rfl rfl (by decide) rfl rfl (pad_cons (pd_callV rfl (pe_callB bAbs_ok rfl m_abs PyProof.Rows.boot_abs (pa_cons (pv 0) pa_nil))) (pad_cons (pd_v (pv 1)) pad_nil)) (by rfl)))
    (psd_cons (psd_while (ps_while PassesOwn.never (ptb_binL rfl (pt_cmpR (opGt_ok ⟨rfl, hu, hgd⟩) (pv 3) pd_int (by rfl))) (psd_one (psd_par (by decide) (by decide) (ps_par rfl sc.nd rfl rfl (by decide) rfl rfl (pad_cons (pd_v (pv 3)) (pad_cons (pd_binR rfl (pe_op opMod_ok (pd_callV rfl (pe_callTy bInt_ok rfl m_int PyProof.Rows.boot_int (pa_cons (pv 2) pa_nil))) (pv 3))) pad_nil)) (by rfl))))))
    (psd_one (psd_ret (pd_tup (pad_cons (pd_binLR rfl (pe_op opFdiv_ok (pv 0) (pv 2))) (pad_cons (pd_binLR rfl (pe_op opFdiv_ok (pv 1) (pv 2))) pad_nil)))))))
theorem sc__law_add : FnScope ["one", "other"] ["one", "other"] (defScope s__law_add) := ⟨rfl, rfl, rfl, by decide +kernel, rfl, by decide +kernel, by decide +kernel⟩
theorem ok__law_add (T : Tp fa fn K mg) : ∃ fd, Has P w K mg base d__law_add ["one", "other"] 3 (spP K 2 G__law_add) fd := by
  have g__law_low := T.glo 6 (x := "_law_low")
  obtain ⟨fd__law_low, H__law_low⟩ := ok__law_low (P := P) (w := w) (base := base) T
  obtain ⟨fd, F0⟩ := T.c.def_ 7 (d := d__law_add) rfl
  have F : FunD K d__law_add.name d__law_add.qual d__law_add.params d__law_add.body d__law_add.scope [] [] (He.fAd K d__law_add.at_) fd := F0
  have bd : Binds K fd ["one", "other"] [] := F.bindsN fun _ _ _ _ _ _ us hl => match us, hl with | [_, _], _ => rfl
  have sc := sc__law_add
  refine ⟨fd, F, bd, def_ok (n := 2) (N := ["one", "other"]) (fb := B__law_add) F sc rfl fun cdv A outer s H E hr hgd => ?_⟩
  have hu := good_u (k := 1) hr
  exact (psd_one (psd_ret (pd_def rfl (fun _ _ => gP_len) (pe_callG H__law_low.ok (hr.mono (by decide)) hgd rfl g__law_low H__law_low.F.kp H__law_low.b (pad_cons (pd_bin rfl (pe_op opAdd_ok (pd_bin rfl (pe_op opMul_ok (pd_binL rfl (pe_ix opIx_ok (pv 0) pd_int (fun _ _ => rfl))) (pd_binL rfl (pe_ix opIx_ok (pv 1) pd_int (fun _ _ => rfl))))) (pd_bin rfl (pe_op opMul_ok (pd_binL rfl (pe_ix opIx_ok (pv 1) pd_int (fun _ _ => rfl))) (pd_binL rfl (pe_ix opIx_ok (pv 0) pd_int (fun _ _ => rfl))))))) (pad_cons (pd_bin rfl (pe_op opMul_ok (pd_binL rfl (pe_ix opIx_ok (pv 0) pd_int (fun _ _ => rfl))) (pd_binL rfl (pe_ix opIx_ok (pv 1) pd_int (fun _ _ => rfl))))) pad_nil))))))
theorem sc__law_allotments : FnScope ["things", "people", "found", "bit", "longer", "some", "person"] ["things", "people"] (defScope s__law_allotments) := ⟨rfl, rfl, rfl, by decide +kernel, rfl, by decide +kernel, by decide +kernel⟩
theorem ok__law_allotments (T : Tp fa fn K mg) : ∃ fd, Has P w K mg base d__law_allotments ["things", "people"] 2 (spP K 2 G__law_allotments) fd := by
  have m_list := T.free 52 (x := "list")
  have m_range := T.free 47 (x := "range")
  obtain ⟨fd, F0⟩ := T.c.def_ 8 (d := d__law_allotments) rfl
  have F : FunD K d__law_allotments.name d__law_allotments.qual d__law_allotments.params d__law_allotments.body d__law_allotments.scope [] [] (He.fAd K d__law_allotments.at_) fd := F0
  have bd : Binds K fd ["things", "people"] [] := F.bindsN fun _ _ _ _ _ _ us hl => match us, hl with | [_, _], _ => rfl
  have sc := sc__law_allotments
  refine ⟨fd, F, bd, def_ok (n := 2) (N := ["things", "people", "found", "bit", "longer", "some", "person"]) (fb := B__law_allotments) F sc rfl fun cdv A outer s H E hr hgd => ?_⟩
  have hu := good_u (k := 0) hr
  exact (psd_cons (psd_set (by decide) (ps_set sc.nd rfl (by first | exact Or.inl rfl | exact Or.inr rfl) (pd_lst (pad_cons (pd_binR rfl (pe_op opMul_ok (pd_tup (pad_cons pd_int pad_nil)) (pv 1))) pad_nil))))
    (psd_cons (psd_for (by decide) (ps_for PassesOwn.never rfl (pid_seq rfl (pd_sl rfl (pd_tup (pad_cons pd_int (pad_cons pd_int (pad_cons pd_int pad_nil)))) pod_none (pod_some (pd_v (pv 0))))) (pgd_name (pg_name sc.nd rfl (by first | exact Or.inl rfl | exact Or.inr rfl))) (psd_cons (psd_set (by decide) (ps_set sc.nd rfl (by first | exact Or.inl rfl | exact Or.inr rfl) (pd_callV rfl (pe_callTy bList_ok rfl m_list PyProof.Rows.boot_list (pa_cons (pv 2) pa_nil)))))
    (psd_cons (psd_forV (by decide) (ps_for PassesOwn.never rfl (pid_seqV rfl (pv 2)) (pgd_name (pg_name sc.nd rfl (by first | exact Or.inl rfl | exact Or.inr rfl))) (psd_one (psd_for (by decide) (ps_for PassesOwn.never rfl (pid_r1 (pi_range1 rfl m_range (pa_cons (pd_v (pv 1)) pa_nil))) (pgd_name (pg_name sc.nd rfl (by first | exact Or.inl rfl | exact Or.inr rfl))) (psd_one (psd_expr (pd_mt1 rfl mAppend_ok (pe_bm PySem.F.plainAttrs_list PySem.F.slot_list_append PySem.F.type_list_append mt_append (pv 4) (pa_cons (pd_bin rfl (pe_op opAdd_ok (pd_bin rfl (pe_op opAdd_ok (pd_slV rfl (pv 5) pod_none (pod_some (pd_v (pv 6)))) (pd_tup (pad_cons (pd_binR rfl (pe_op opAdd_ok (pd_binLR rfl (pe_ix opIx_ok (pv 5) (pv 6) (fun _ _ => rfl))) (pv 3))) pad_nil)))) (pd_slV rfl (pv 5) (pod_some (pd_binL rfl (pe_op opAdd_ok (pv 6) pd_int))) pod_none))) pa_nil))))))))))
    (psd_one (psd_set (by decide) (ps_set sc.nd rfl (by first | exact Or.inl rfl | exact Or.inr rfl) (pd_v (pv 4)))))))))
    (psd_one (psd_retV (pv 2)))))
theorem sc__law_worth : FnScope ["rows", "some", "row", "lot"] ["rows", "some"] (defScope s__law_worth) := ⟨rfl, rfl, rfl, by decide +kernel, rfl, by decide +kernel, by decide +kernel⟩
theorem ok__law_worth (T : Tp fa fn K mg) : ∃ fd, Has P w K mg base d__law_worth ["rows", "some"] 2 (spP K 2 G__law_worth) fd := by
  have m_sum := T.free 48 (x := "sum")
  have m_zip := T.free 49 (x := "zip")
  obtain ⟨fd, F0⟩ := T.c.def_ 9 (d := d__law_worth) rfl
  have F : FunD K d__law_worth.name d__law_worth.qual d__law_worth.params d__law_worth.body d__law_worth.scope [] [] (He.fAd K d__law_worth.at_) fd := F0
  have bd : Binds K fd ["rows", "some"] [] := F.bindsN fun _ _ _ _ _ _ us hl => match us, hl with | [_, _], _ => rfl
  have sc := sc__law_worth
  refine ⟨fd, F, bd, def_ok (n := 2) (N := ["rows", "some", "row", "lot"]) (fb := B__law_worth) F sc rfl fun cdv A outer s H E hr hgd => ?_⟩
  have hu := good_u (k := 0) hr
  exact (psd_one (psd_ret (pd_call rfl (pe_callB (bSum_ok ⟨rfl, hu, hgd⟩) rfl m_sum PyProof.Rows.boot_sum (pad_cons (pd_comp (C' := cnN K) (ws := [2, 3]) (own := [2, 3]) rfl (by decide) (by decide) (pe_lc rfl sc.nd (pid_zipM rfl (pi_zipM rfl m_zip (pa_cons (pd_v (pv 0)) (pa_cons (pd_v (pv 1)) pa_nil)))) (own := [("row", 2), ("lot", 3)]) (blkOk_by (by kernel_rfl)) (fun _ _ _ _ _ => (pgd_tup rfl rfl (pgsd_cons (pgd_name (pg_name sc.nd rfl (by first | exact Or.inl rfl | exact Or.inr rfl))) (pgsd_cons (pgd_name (pg_name sc.nd rfl (by first | exact Or.inl rfl | exact Or.inr rfl))) pgsd_nil)))) (fun _ _ _ _ _ => ptsd_nil) (fun _ _ _ _ _ => (pd_binLR rfl (pe_ix opIx_ok (pv 2) (pv 3) (fun _ _ => rfl)))))) pad_nil)))))
theorem sc__law_best : FnScope ["things", "rows", "every", "top", "some"] ["things", "rows"] (defScope s__law_best) := ⟨rfl, rfl, rfl, by decide +kernel, rfl, by decide +kernel, by decide +kernel⟩
theorem ok__law_best (T : Tp fa fn K mg) : ∃ fd, Has P w K mg base d__law_best ["things", "rows"] 3 (spP K 2 G__law_best) fd := by
  have m_len := T.free 44 (x := "len")
  have m_max := T.free 53 (x := "max")
  have m_min := T.free 54 (x := "min")
  have g__law_allotments := T.glo 8 (x := "_law_allotments")
  obtain ⟨fd__law_allotments, H__law_allotments⟩ := ok__law_allotments (P := P) (w := w) (base := base) T
  have g__law_worth := T.glo 9 (x := "_law_worth")
  obtain ⟨fd__law_worth, H__law_worth⟩ := ok__law_worth (P := P) (w := w) (base := base) T
  obtain ⟨fd, F0⟩ := T.c.def_ 10 (d := d__law_best) rfl
  have F : FunD K d__law_best.name d__law_best.qual d__law_best.params d__law_best.body d__law_best.scope [] [] (He.fAd K d__law_best.at_) fd := F0
  have bd : Binds K fd ["things", "rows"] [] := F.bindsN fun _ _ _ _ _ _ us hl => match us, hl with | [_, _], _ => rfl
  have sc := sc__law_best
  refine ⟨fd, F, bd, def_ok (n := 2) (N := ["things", "rows", "every", "top", "some"]) (fb := B__law_best) F sc rfl fun cdv A outer s H E hr hgd => ?_⟩
  have hu := good_u (k := 1) hr
  exact (psd_cons (psd_set (by decide) (ps_set sc.nd rfl (by first | exact Or.inl rfl | exact Or.inr rfl) (pd_def rfl (fun _ _ => gP_len) (pe_callG H__law_allotments.ok (hr.mono (by decide)) hgd rfl g__law_allotments H__law_allotments.F.kp H__law_allotments.b (pad_cons (pd_v (pv 0)) (pad_cons (pd_callV rfl (pe_callB bLen_ok rfl m_len PySem.boot_len (pa_cons (pv 1) pa_nil))) pad_nil))))))
    (psd_cons (psd_set (by decide) (ps_set sc.nd rfl (by first | exact Or.inl rfl | exact Or.inr rfl) (pd_call rfl (pe_callB (bMax_ok ⟨rfl, hu, hgd⟩) rfl m_max PyProof.Rows.boot_max (pad_cons (pd_compV (C' := cnN K) (ws := [4]) (own := [4]) rfl (by decide) (by decide) (pe_lc rfl sc.nd (pid_seqV rfl (pv 2)) (own := [("some", 4)]) (blkOk_by (by kernel_rfl)) (fun _ _ _ _ _ => (pgd_name (pg_name sc.nd rfl (by first | exact Or.inl rfl | exact Or.inr rfl)))) (fun _ _ _ _ _ => ptsd_nil) (fun _ _ _ _ _ => (pd_def rfl (fun _ _ => gP_len) (pe_callG H__law_worth.ok (hr.mono (by decide)) hgd rfl g__law_worth H__law_worth.F.kp H__law_worth.b (pad_cons (pd_v (pv 1)) (pad_cons (pd_v (pv 4)) pad_nil))))))) pad_nil)))))
    (psd_one (psd_ret (pd_tup (pad_cons (pd_v (pv 3)) (pad_cons (pd_call rfl (pe_callB (bMin_ok ⟨rfl, hu, hgd⟩) rfl m_min PyProof.Rows.boot_min (pad_cons (pd_compV (C' := cnN K) (ws := [4]) (own := [4]) rfl (by decide) (by decide) (pe_lc rfl sc.nd (pid_seqV rfl (pv 2)) (own := [("some", 4)]) (blkOk_by (by kernel_rfl)) (fun _ _ _ _ _ => (pgd_name (pg_name sc.nd rfl (by first | exact Or.inl rfl | exact Or.inr rfl)))) (fun _ _ _ _ _ => (ptsd_one (ptb_binR rfl (pt_cmpR (opEq_ok ⟨rfl, hu, hgd⟩) (pd_def rfl (fun _ _ => gP_len) (pe_callG H__law_worth.ok (hr.mono (by decide)) hgd rfl g__law_worth H__law_worth.F.kp H__law_worth.b (pad_cons (pd_v (pv 1)) (pad_cons (pd_v (pv 4)) pad_nil)))) (pv 3) (by rfl))))) (fun _ _ _ _ _ => (pd_v (pv 4))))) pad_nil))) pad_nil)))))))
theorem sc__law_lots : FnScope ["many", "found", "at", "lot"] ["many"] (defScope s__law_lots) := ⟨rfl, rfl, rfl, by decide +kernel, rfl, by decide +kernel, by decide +kernel⟩
theorem ok__law_lots (T : Tp fa fn K mg) : ∃ fd, Has P w K mg base d__law_lots ["many"] 2 (spP K 1 G__law_lots) fd := by
  have m_range := T.free 47 (x := "range")
  obtain ⟨fd, F0⟩ := T.c.def_ 11 (d := d__law_lots) rfl
  have F : FunD K d__law_lots.name d__law_lots.qual d__law_lots.params d__law_lots.body d__law_lots.scope [] [] (He.fAd K d__law_lots.at_) fd := F0
  have bd : Binds K fd ["many"] [] := F.bindsN fun _ _ _ _ _ _ us hl => match us, hl with | [_], _ => rfl
  have sc := sc__law_lots
  refine ⟨fd, F, bd, def_ok (n := 1) (N := ["many", "found", "at", "lot"]) (fb := B__law_lots) F sc rfl fun cdv A outer s H E hr hgd => ?_⟩
  have hu := good_u (k := 0) hr
  exact (psd_cons (psd_set (by decide) (ps_set sc.nd rfl (by first | exact Or.inl rfl | exact Or.inr rfl) (pd_lst (pad_cons (pd_tup pad_nil) pad_nil))))
    (psd_cons (psd_for (by decide) (ps_for PassesOwn.never rfl (pid_r1 (pi_range1 rfl m_range (pa_cons (pd_v (pv 0)) pa_nil))) (pgd_name (pg_name sc.nd rfl (by first | exact Or.inl rfl | exact Or.inr rfl))) (psd_one (psd_set (by decide) (ps_set sc.nd rfl (by first | exact Or.inl rfl | exact Or.inr rfl) (pd_binL rfl (pe_op opAdd_ok (pv 1) (pd_compV (C' := cnN K) (ws := [3]) (own := [3]) rfl (by decide) (by decide) (pe_lc rfl sc.nd (pid_seqV rfl (pv 1)) (own := [("lot", 3)]) (blkOk_by (by kernel_rfl)) (fun _ _ _ _ _ => (pgd_name (pg_name sc.nd rfl (by first | exact Or.inl rfl | exact Or.inr rfl)))) (fun _ _ _ _ _ => ptsd_nil) (fun _ _ _ _ _ => (pd_binL rfl (pe_op opAdd_ok (pv 3) (pd_tup (pad_cons (pd_v (pv 2)) pad_nil))))))))))))))
    (psd_one (psd_retV (pv 1)))))
theorem sc__law_sum : FnScope ["some", "found", "one"] ["some"] (defScope s__law_sum) := ⟨rfl, rfl, rfl, by decide +kernel, rfl, by decide +kernel, by decide +kernel⟩
theorem ok__law_sum (T : Tp fa fn K mg) : ∃ fd, Has P w K mg base d__law_sum ["some"] 4 (spP K 1 G__law_sum) fd := by
  have g__law_add := T.glo 7 (x := "_law_add")
  obtain ⟨fd__law_add, H__law_add⟩ := ok__law_add (P := P) (w := w) (base := base) T
  obtain ⟨fd, F0⟩ := T.c.def_ 12 (d := d__law_sum) rfl
  have F : FunD K d__law_sum.name d__law_sum.qual d__law_sum.params d__law_sum.body d__law_sum.scope [] [] (He.fAd K d__law_sum.at_) fd := F0
  have bd : Binds K fd ["some"] [] := F.bindsN fun _ _ _ _ _ _ us hl => match us, hl with | [_], _ => rfl
  have sc := sc__law_sum
  refine ⟨fd, F, bd, def_ok (n := 1) (N := ["some", "found", "one"]) (fb := B__law_sum) F sc rfl fun cdv A outer s H E hr hgd => ?_⟩
  have hu := good_u (k := 2) hr
  exact (psd_cons (psd_set (by decide) (ps_set sc.nd rfl (by first | exact Or.inl rfl | exact Or.inr rfl) (pd_tup (pad_cons pd_int (pad_cons pd_int pad_nil)))))
    (psd_cons (psd_forV (by decide) (ps_for PassesOwn.never rfl (pid_seqV rfl (pv 0)) (pgd_name (pg_name sc.nd rfl (by first | exact Or.inl rfl | exact Or.inr rfl))) (psd_one (psd_set (by decide) (ps_set sc.nd rfl (by first | exact Or.inl rfl | exact Or.inr rfl) (pd_def rfl (fun _ _ => gP_len) (pe_callG H__law_add.ok (hr.mono (by decide)) hgd rfl g__law_add H__law_add.F.kp H__law_add.b (pad_cons (pd_v (pv 1)) (pad_cons (pd_v (pv 2)) pad_nil)))))))))
    (psd_one (psd_retV (pv 1)))))
theorem sc__law_blocked : FnScope ["sale", "paid", "things", "rows", "some", "found", "whole", "lot", "top", "person", "here", "best_one", "more"] ["sale", "paid"] (defScope s__law_blocked) := ⟨rfl, rfl, rfl, by decide +kernel, rfl, by decide +kernel, by decide +kernel⟩
theorem ok__law_blocked (T : Tp fa fn K mg) : ∃ fd, Has P w K mg base d__law_blocked ["sale", "paid"] 5 (spP K 2 G__law_blocked) fd := by
  have m_len := T.free 44 (x := "len")
  have m_list := T.free 52 (x := "list")
  have m_tuple := T.free 50 (x := "tuple")
  have g__law_add := T.glo 7 (x := "_law_add")
  obtain ⟨fd__law_add, H__law_add⟩ := ok__law_add (P := P) (w := w) (base := base) T
  have g__law_best := T.glo 10 (x := "_law_best")
  obtain ⟨fd__law_best, H__law_best⟩ := ok__law_best (P := P) (w := w) (base := base) T
  have g__law_lots := T.glo 11 (x := "_law_lots")
  obtain ⟨fd__law_lots, H__law_lots⟩ := ok__law_lots (P := P) (w := w) (base := base) T
  have g__law_sum := T.glo 12 (x := "_law_sum")
  obtain ⟨fd__law_sum, H__law_sum⟩ := ok__law_sum (P := P) (w := w) (base := base) T
  obtain ⟨fd, F0⟩ := T.c.def_ 13 (d := d__law_blocked) rfl
  have F : FunD K d__law_blocked.name d__law_blocked.qual d__law_blocked.params d__law_blocked.body d__law_blocked.scope [] [] (He.fAd K d__law_blocked.at_) fd := F0
  have bd : Binds K fd ["sale", "paid"] [] := F.bindsN fun _ _ _ _ _ _ us hl => match us, hl with | [_, _], _ => rfl
  have sc := sc__law_blocked
  refine ⟨fd, F, bd, def_ok (n := 2) (N := ["sale", "paid", "things", "rows", "some", "found", "whole", "lot", "top", "person", "here", "best_one", "more"]) (fb := B__law_blocked) F sc rfl fun cdv A outer s H E hr hgd => ?_⟩
  have hu := good_u (k := 3) hr
  exact (psd_cons (psd_asg (by decide) (ps_asg (pd_v (pv 0)) (pgd_tup rfl rfl (pgsd_cons (pgd_name (pg_name sc.nd rfl (by first | exact Or.inl rfl | exact Or.inr rfl))) (pgsd_cons (pgd_name (pg_name sc.nd rfl (by first | exact Or.inl rfl | exact Or.inr rfl))) pgsd_nil)))))
    (psd_cons (psd_par (by decide) (by decide) (ps_par rfl sc.nd rfl rfl (by decide) rfl rfl (pad_cons (pd_bin rfl (pe_ix opIx_ok (pd_def rfl (fun _ _ => gP_len) (pe_callG H__law_best.ok (hr.mono (by decide)) hgd rfl g__law_best H__law_best.F.kp H__law_best.b (pad_cons (pd_v (pv 2)) (pad_cons (pd_v (pv 3)) pad_nil)))) pd_int (fun _ _ => rfl))) (pad_cons (pd_lst pad_nil) pad_nil)) (by rfl)))
    (psd_cons (psd_set (by decide) (ps_set sc.nd rfl (by first | exact Or.inl rfl | exact Or.inr rfl) (pd_def rfl (fun _ _ => gP_len) (pe_callG H__law_sum.ok (hr.mono (by decide)) hgd rfl g__law_sum H__law_sum.F.kp H__law_sum.b (pad_cons (pd_callV rfl (pe_callTy bList_ok rfl m_list PyProof.Rows.boot_list (pa_cons (pv 1) pa_nil))) pad_nil)))))
    (psd_cons (psd_for (by decide) (ps_for PassesOwn.never rfl (pid_seq rfl (pd_def rfl (fun _ _ => gP_len) (pe_callG H__law_lots.ok (hr.mono (by decide)) hgd rfl g__law_lots H__law_lots.F.kp H__law_lots.b (pad_cons (pd_callV rfl (pe_callB bLen_ok rfl m_len PySem.boot_len (pa_cons (pv 3) pa_nil))) pad_nil)))) (pgd_name (pg_name sc.nd rfl (by first | exact Or.inl rfl | exact Or.inr rfl))) (psd_cons (psd_set (by decide) (ps_set sc.nd rfl (by first | exact Or.inl rfl | exact Or.inr rfl) (pd_bin rfl (pe_ix opIx_ok (pd_def rfl (fun _ _ => gP_len) (pe_callG H__law_best.ok (hr.mono (by decide)) hgd rfl g__law_best H__law_best.F.kp H__law_best.b (pad_cons (pd_v (pv 2)) (pad_cons (pd_call rfl (pe_callTy bTuple_ok rfl m_tuple PyProof.Rows.boot_tuple (pad_cons (pd_compV (C' := cnN K) (ws := [9]) (own := [9]) rfl (by decide) (by decide) (pe_lc rfl sc.nd (pid_seqV rfl (pv 7)) (own := [("person", 9)]) (blkOk_by (by kernel_rfl)) (fun _ _ _ _ _ => (pgd_name (pg_name sc.nd rfl (by first | exact Or.inl rfl | exact Or.inr rfl)))) (fun _ _ _ _ _ => ptsd_nil) (fun _ _ _ _ _ => (pd_binLR rfl (pe_ix opIx_ok (pv 3) (pv 9) (fun _ _ => rfl)))))) pad_nil))) pad_nil)))) pd_int (fun _ _ => rfl)))))
    (psd_cons (psd_set (by decide) (ps_set sc.nd rfl (by first | exact Or.inl rfl | exact Or.inr rfl) (pd_tup (pad_cons (pd_v (pv 8)) (pad_cons pd_int pad_nil)))))
    (psd_cons (psd_forV (by decide) (ps_for PassesOwn.never rfl (pid_seqV rfl (pv 7)) (pgd_name (pg_name sc.nd rfl (by first | exact Or.inl rfl | exact Or.inr rfl))) (psd_one (psd_set (by decide) (ps_set sc.nd rfl (by first | exact Or.inl rfl | exact Or.inr rfl) (pd_def rfl (fun _ _ => gP_len) (pe_callG H__law_add.ok (hr.mono (by decide)) hgd rfl g__law_add H__law_add.F.kp H__law_add.b (pad_cons (pd_def rfl (fun _ _ => gP_len) (pe_callG H__law_add.ok (hr.mono (by decide)) hgd rfl g__law_add H__law_add.F.kp H__law_add.b (pad_cons (pd_v (pv 10)) (pad_cons (pd_binLR rfl (pe_ix opIx_ok (pv 1) (pv 9) (fun _ _ => rfl))) pad_nil)))) (pad_cons (pd_tup (pad_cons (pd_bin rfl (pe_op opSub_ok pd_int (pd_bin rfl (pe_ix opIx_ok (pd_binLR rfl (pe_ix opIx_ok (pv 3) (pv 9) (fun _ _ => rfl))) (pd_binLR rfl (pe_ix opIx_ok (pv 4) (pv 9) (fun _ _ => rfl))) (fun _ _ => rfl))))) (pad_cons pd_int pad_nil))) pad_nil)))))))))
    (psd_one (psd_expr (pd_mt1 rfl mAppend_ok (pe_bm PySem.F.plainAttrs_list PySem.F.slot_list_append PySem.F.type_list_append mt_append (pv 5) (pa_cons (pd_tup (pad_cons (pd_v (pv 10)) (pad_cons (pd_v (pv 7)) pad_nil))) pa_nil))))))))))
    (psd_cons (psd_set (by decide) (ps_set sc.nd rfl (by first | exact Or.inl rfl | exact Or.inr rfl) (pd_binL rfl (pe_ix opIx_ok (pv 5) pd_int (fun _ _ => rfl)))))
    (psd_cons (psd_forV (by decide) (ps_for PassesOwn.never rfl (pid_seqV rfl (pv 5)) (pgd_tup rfl rfl (pgsd_cons (pgd_name (pg_name sc.nd rfl (by first | exact Or.inl rfl | exact Or.inr rfl))) (pgsd_cons (pgd_name (pg_name sc.nd rfl (by first | exact Or.inl rfl | exact Or.inr rfl))) pgsd_nil))) (psd_cons (psd_set (by decide) (ps_set sc.nd rfl (by first | exact Or.inl rfl | exact Or.inr rfl) (pd_bin rfl (pe_op opSub_ok (pd_bin rfl (pe_op opMul_ok (pd_binL rfl (pe_ix opIx_ok (pv 10) pd_int (fun _ _ => rfl))) (pd_bin rfl (pe_ix opIx_ok (pd_binL rfl (pe_ix opIx_ok (pv 11) pd_int (fun _ _ => rfl))) pd_int (fun _ _ => rfl))))) (pd_bin rfl (pe_op opMul_ok (pd_bin rfl (pe_ix opIx_ok (pd_binL rfl (pe_ix opIx_ok (pv 11) pd_int (fun _ _ => rfl))) pd_int (fun _ _ => rfl))) (pd_binL rfl (pe_ix opIx_ok (pv 10) pd_int (fun _ _ => rfl)))))))))
    (psd_one (psd_if (PW.pt (pwd_or (ptb_binL rfl (pt_cmpR (opGt_ok ⟨rfl, hu, hgd⟩) (pv 12) pd_int (by rfl))) (pwd_or1 (PW.pt (pwd_and (ptb_binL rfl (pt_cmpR (opEq_ok ⟨rfl, hu, hgd⟩) (pv 12) pd_int (by rfl))) (pwd_and1 (ptb_binL rfl (pt_cmpR (opLt_ok ⟨rfl, hu, hgd⟩) (pv 7) (pd_binL rfl (pe_ix opIx_ok (pv 11) pd_int (fun _ _ => rfl))) (by rfl))))))))) (psd_one (psd_set (by decide) (ps_set sc.nd rfl (by first | exact Or.inl rfl | exact Or.inr rfl) (pd_tup (pad_cons (pd_v (pv 10)) (pad_cons (pd_v (pv 7)) pad_nil)))))) psd_nil)))))
    (psd_one (psd_ret (pd_if (ptb_bin rfl (pt_cmpR (opGt_ok ⟨rfl, hu, hgd⟩) (pd_bin rfl (pe_op opMul_ok (pd_bin rfl (pe_ix opIx_ok (pd_binL rfl (pe_ix opIx_ok (pv 11) pd_int (fun _ _ => rfl))) pd_int (fun _ _ => rfl))) (pd_binL rfl (pe_ix opIx_ok (pv 6) pd_int (fun _ _ => rfl))))) (pd_bin rfl (pe_op opMul_ok (pd_binL rfl (pe_ix opIx_ok (pv 6) pd_int (fun _ _ => rfl))) (pd_bin rfl (pe_ix opIx_ok (pd_binL rfl (pe_ix opIx_ok (pv 11) pd_int (fun _ _ => rfl))) pd_int (fun _ _ => rfl))))) (by rfl))) (pd_binL rfl (pe_ix opIx_ok (pv 11) pd_int (fun _ _ => rfl))) pd_none)))))))))
theorem sc_is_sized : FnScope ["thing", "low", "high"] ["thing", "low", "high"] (defScope s_is_sized) := ⟨rfl, rfl, rfl, by decide +kernel, rfl, by decide +kernel, by decide +kernel⟩
theorem ok_is_sized (T : Tp fa fn K mg) : ∃ fd, Has P w K mg base d_is_sized ["thing", "low", "high"] 2 (spP K 3 G_is_sized) fd := by
  have m_isinstance := T.free 55 (x := "isinstance")
  have m_len := T.free 44 (x := "len")
  have m_tuple := T.free 50 (x := "tuple")
  obtain ⟨fd, F0⟩ := T.c.def_ 14 (d := d_is_sized) rfl
  have F : FunD K d_is_sized.name d_is_sized.qual d_is_sized.params d_is_sized.body d_is_sized.scope [] [] (He.fAd K d_is_sized.at_) fd := F0
  have bd : Binds K fd ["thing", "low", "high"] [] := F.bindsN fun _ _ _ _ _ _ us hl => match us, hl with | [_, _, _], _ => rfl
  have sc := sc_is_sized
  refine ⟨fd, F, bd, def_ok (n := 3) (N := ["thing", "low", "high"]) (fb := B_is_sized) F sc rfl fun cdv A outer s H E hr hgd => ?_⟩
  have hu := good_u (k := 0) hr
  exact (psd_one (psd_ret (pd_and (pd_isiV .tuple rfl (pe_callB call_isi rfl m_isinstance PyProof.Rows.boot_isinstance (pa_cons (pv 0) (pa_cons (pe_gty rfl m_tuple PyProof.Rows.boot_tuple) pa_nil)))) (pd_one (pd_chain op_le op_le (pd_v (pv 1)) (pd_callV rfl (pe_callB bLen_ok rfl m_len PySem.boot_len (pa_cons (pv 0) pa_nil))) (pd_v (pv 2)))))))
theorem sc_is_integer_judging : FnScope ["thing"] ["thing"] (defScope s_is_integer_judging) := ⟨rfl, rfl, rfl, by decide +kernel, rfl, by decide +kernel, by decide +kernel⟩
theorem ok_is_integer_judging (T : Tp fa fn K mg) : ∃ fd, Has P w K mg base d_is_integer_judging ["thing"] 2 (spP K 1 G_is_integer_judging) fd := by
  have m_bool := T.free 56 (x := "bool")
  have m_int := T.free 45 (x := "int")
  have m_isinstance := T.free 55 (x := "isinstance")
  obtain ⟨fd, F0⟩ := T.c.def_ 15 (d := d_is_integer_judging) rfl
  have F : FunD K d_is_integer_judging.name d_is_integer_judging.qual d_is_integer_judging.params d_is_integer_judging.body d_is_integer_judging.scope [] [] (He.fAd K d_is_integer_judging.at_) fd := F0
  have bd : Binds K fd ["thing"] [] := F.bindsN fun _ _ _ _ _ _ us hl => match us, hl with | [_], _ => rfl
  have sc := sc_is_integer_judging
  refine ⟨fd, F, bd, def_ok (n := 1) (N := ["thing"]) (fb := B_is_integer_judging) F sc rfl fun cdv A outer s H E hr hgd => ?_⟩
  have hu := good_u (k := 0) hr
  exact (psd_one (psd_ret (pd_and (pd_isiV .int rfl (pe_callB call_isi rfl m_isinstance PyProof.Rows.boot_isinstance (pa_cons (pv 0) (pa_cons (pe_gty rfl m_int PyProof.Rows.boot_int) pa_nil)))) (pd_one (pd_not (pd_isiV .bool rfl (pe_callB call_isi rfl m_isinstance PyProof.Rows.boot_isinstance (pa_cons (pv 0) (pa_cons (pe_gty rfl m_bool PyProof.Rows.boot_bool) pa_nil)))))))))
theorem sc_is_within : FnScope ["thing", "low", "high"] ["thing", "low", "high"] (defScope s_is_within) := ⟨rfl, rfl, rfl, by decide +kernel, rfl, by decide +kernel, by decide +kernel⟩
theorem ok_is_within (T : Tp fa fn K mg) : ∃ fd, Has P w K mg base d_is_within ["thing", "low", "high"] 3 (spP K 3 G_is_within) fd := by
  have g_is_integer_judging := T.glo 15 (x := "is_integer_judging")
  obtain ⟨fd_is_integer_judging, H_is_integer_judging⟩ := ok_is_integer_judging (P := P) (w := w) (base := base) T
  obtain ⟨fd, F0⟩ := T.c.def_ 16 (d := d_is_within) rfl
  have F : FunD K d_is_within.name d_is_within.qual d_is_within.params d_is_within.body d_is_within.scope [] [] (He.fAd K d_is_within.at_) fd := F0
  have bd : Binds K fd ["thing", "low", "high"] [] := F.bindsN fun _ _ _ _ _ _ us hl => match us, hl with | [_, _, _], _ => rfl
  have sc := sc_is_within
  refine ⟨fd, F, bd, def_ok (n := 3) (N := ["thing", "low", "high"]) (fb := B_is_within) F sc rfl fun cdv A outer s H E hr hgd => ?_⟩
  have hu := good_u (k := 1) hr
  exact (psd_one (psd_ret (pd_and (pd_def rfl (fun _ _ => gP_len) (pe_callG H_is_integer_judging.ok (hr.mono (by decide)) hgd rfl g_is_integer_judging H_is_integer_judging.F.kp H_is_integer_judging.b (pad_cons (pd_v (pv 0)) pad_nil))) (pd_one (pd_chain op_le op_le (pd_v (pv 1)) (pd_v (pv 0)) (pd_v (pv 2)))))))
theorem sc_are_worths : FnScope ["things", "thing", "many", "one"] ["things", "thing"] (defScope s_are_worths) := ⟨rfl, rfl, rfl, by decide +kernel, rfl, by decide +kernel, by decide +kernel⟩
theorem ok_are_worths (T : Tp fa fn K mg) : ∃ fd, Has P w K mg base d_are_worths ["things", "thing"] 4 (spP K 2 G_are_worths) fd := by
  have m_all := T.free 46 (x := "all")
  obtain ⟨_, m_MOST_WORTH⟩ := T.int 61 (x := "MOST_WORTH")
  have g_is_sized := T.glo 14 (x := "is_sized")
  obtain ⟨fd_is_sized, H_is_sized⟩ := ok_is_sized (P := P) (w := w) (base := base) T
  have g_is_within := T.glo 16 (x := "is_within")
  obtain ⟨fd_is_within, H_is_within⟩ := ok_is_within (P := P) (w := w) (base := base) T
  obtain ⟨fd, F0⟩ := T.c.def_ 17 (d := d_are_worths) rfl
  have F : FunD K d_are_worths.name d_are_worths.qual d_are_worths.params d_are_worths.body d_are_worths.scope [] [] (He.fAd K d_are_worths.at_) fd := F0
  have bd : Binds K fd ["things", "thing"] [] := F.bindsN fun _ _ _ _ _ _ us hl => match us, hl with | [_, _], _ => rfl
  have sc := sc_are_worths
  refine ⟨fd, F, bd, def_ok (n := 2) (N := ["things", "thing", "many", "one"]) (fb := B_are_worths) F sc rfl fun cdv A outer s H E hr hgd => ?_⟩
  have hu := good_u (k := 2) hr
  exact (psd_cons (psd_set (by decide) (ps_set sc.nd rfl (by first | exact Or.inl rfl | exact Or.inr rfl) (pd_binR rfl (pe_op opShl_ok pd_int (pv 0)))))
    (psd_one (psd_ret (pd_and (pd_def rfl (fun _ _ => gP_len) (pe_callG H_is_sized.ok (hr.mono (by decide)) hgd rfl g_is_sized H_is_sized.F.kp H_is_sized.b (pad_cons (pd_v (pv 1)) (pad_cons (pd_v (pv 2)) (pad_cons (pd_v (pv 2)) pad_nil))))) (pd_and (pd_call rfl (pe_callB (bAll_ok ⟨rfl, hu, hgd⟩) rfl m_all PyProof.Rows.boot_all (pad_cons (pd_compV (C' := cnN K) (ws := [3]) (own := [3]) rfl (by decide) (by decide) (pe_lc rfl sc.nd (pid_seqV rfl (pv 1)) (own := [("one", 3)]) (blkOk_by (by kernel_rfl)) (fun _ _ _ _ _ => (pgd_name (pg_name sc.nd rfl (by first | exact Or.inl rfl | exact Or.inr rfl)))) (fun _ _ _ _ _ => ptsd_nil) (fun _ _ _ _ _ => (pd_def rfl (fun _ _ => gP_len) (pe_callG H_is_within.ok (hr.mono (by decide)) hgd rfl g_is_within H_is_within.F.kp H_is_within.b (pad_cons (pd_v (pv 3)) (pad_cons pd_int (pad_cons (pd_c (pe_glob (v := .int 100) rfl m_MOST_WORTH ⟨_, rfl⟩) fun _ => rp_c.1) pad_nil)))))))) pad_nil))) (pd_one (pd_bin rfl (pe_cmpR (opEq_ok ⟨rfl, hu, hgd⟩) (pd_binL rfl (pe_ix opIx_ok (pv 1) pd_int (fun _ _ => rfl))) pd_int (by rfl)))))))))
theorem sc_is_sale : FnScope ["thing", "row"] ["thing"] (defScope s_is_sale) := ⟨rfl, rfl, rfl, by decide +kernel, rfl, by decide +kernel, by decide +kernel⟩
theorem ok_is_sale (T : Tp fa fn K mg) : ∃ fd, Has P w K mg base d_is_sale ["thing"] 5 (spP K 1 G_is_sale) fd := by
  have m_all := T.free 46 (x := "all")
  obtain ⟨_, m_MOST_PERSONS⟩ := T.int 63 (x := "MOST_PERSONS")
  obtain ⟨_, m_MOST_THINGS⟩ := T.int 62 (x := "MOST_THINGS")
  have g_are_worths := T.glo 17 (x := "are_worths")
  obtain ⟨fd_are_worths, H_are_worths⟩ := ok_are_worths (P := P) (w := w) (base := base) T
  have g_is_sized := T.glo 14 (x := "is_sized")
  obtain ⟨fd_is_sized, H_is_sized⟩ := ok_is_sized (P := P) (w := w) (base := base) T
  have g_is_within := T.glo 16 (x := "is_within")
  obtain ⟨fd_is_within, H_is_within⟩ := ok_is_within (P := P) (w := w) (base := base) T
  obtain ⟨fd, F0⟩ := T.c.def_ 18 (d := d_is_sale) rfl
  have F : FunD K d_is_sale.name d_is_sale.qual d_is_sale.params d_is_sale.body d_is_sale.scope [] [] (He.fAd K d_is_sale.at_) fd := F0
  have bd : Binds K fd ["thing"] [] := F.bindsN fun _ _ _ _ _ _ us hl => match us, hl with | [_], _ => rfl
  have sc := sc_is_sale
  refine ⟨fd, F, bd, def_ok (n := 1) (N := ["thing", "row"]) (fb := B_is_sale) F sc rfl fun cdv A outer s H E hr hgd => ?_⟩
  have hu := good_u (k := 3) hr
  exact (psd_cons (psd_if (PW.pt (pwd_or (ptd_not (ptd_tru rfl (pd_def rfl (fun _ _ => gP_len) (pe_callG H_is_sized.ok (hr.mono (by decide)) hgd rfl g_is_sized H_is_sized.F.kp H_is_sized.b (pad_cons (pd_v (pv 0)) (pad_cons pd_int (pad_cons pd_int pad_nil))))))) (pwd_or (ptd_not (ptd_tru rfl (pd_def rfl (fun _ _ => gP_len) (pe_callG H_is_within.ok (hr.mono (by decide)) hgd rfl g_is_within H_is_within.F.kp H_is_within.b (pad_cons (pd_binL rfl (pe_ix opIx_ok (pv 0) pd_int (fun _ _ => rfl))) (pad_cons pd_int (pad_cons (pd_c (pe_glob (v := .int 3) rfl m_MOST_THINGS ⟨_, rfl⟩) fun _ => rp_c.1) pad_nil))))))) (pwd_or1 (ptd_not (ptd_tru rfl (pd_def rfl (fun _ _ => gP_len) (pe_callG H_is_sized.ok (hr.mono (by decide)) hgd rfl g_is_sized H_is_sized.F.kp H_is_sized.b (pad_cons (pd_binL rfl (pe_ix opIx_ok (pv 0) pd_int (fun _ _ => rfl))) (pad_cons pd_int (pad_cons (pd_c (pe_glob (v := .int 4) rfl m_MOST_PERSONS ⟨_, rfl⟩) fun _ => rp_c.1) pad_nil))))))))))) (psd_one (psd_ret pd_bool)) psd_nil)
    (psd_one (psd_ret (pd_call rfl (pe_callB (bAll_ok ⟨rfl, hu, hgd⟩) rfl m_all PyProof.Rows.boot_all (pad_cons (pd_comp (C' := cnN K) (ws := [1]) (own := [1]) rfl (by decide) (by decide) (pe_lc rfl sc.nd (pid_seq rfl (pd_binL rfl (pe_ix opIx_ok (pv 0) pd_int (fun _ _ => rfl)))) (own := [("row", 1)]) (blkOk_by (by kernel_rfl)) (fun _ _ _ _ _ => (pgd_name (pg_name sc.nd rfl (by first | exact Or.inl rfl | exact Or.inr rfl)))) (fun _ _ _ _ _ => ptsd_nil) (fun _ _ _ _ _ => (pd_def rfl (fun _ _ => gP_len) (pe_callG H_are_worths.ok (hr.mono (by decide)) hgd rfl g_are_worths H_are_worths.F.kp H_are_worths.b (pad_cons (pd_binL rfl (pe_ix opIx_ok (pv 0) pd_int (fun _ _ => rfl))) (pad_cons (pd_v (pv 1)) pad_nil))))))) pad_nil))))))
theorem sc_check_sale : FnScope ["sale"] ["sale"] (defScope s_check_sale) := ⟨rfl, rfl, rfl, by decide +kernel, rfl, by decide +kernel, by decide +kernel⟩
theorem ok_check_sale (T : Tp fa fn K mg) : ∃ fd, Has P w K mg base d_check_sale ["sale"] 6 (spP K 1 G_check_sale) fd := by
  have g_is_sale := T.glo 18 (x := "is_sale")
  obtain ⟨fd_is_sale, H_is_sale⟩ := ok_is_sale (P := P) (w := w) (base := base) T
  obtain ⟨fd, F0⟩ := T.c.def_ 19 (d := d_check_sale) rfl
  have F : FunD K d_check_sale.name d_check_sale.qual d_check_sale.params d_check_sale.body d_check_sale.scope [] [] (He.fAd K d_check_sale.at_) fd := F0
  have bd : Binds K fd ["sale"] [] := F.bindsN fun _ _ _ _ _ _ us hl => match us, hl with | [_], _ => rfl
  have sc := sc_check_sale
  refine ⟨fd, F, bd, def_ok (n := 1) (N := ["sale"]) (fb := B_check_sale) F sc rfl fun cdv A outer s H E hr hgd => ?_⟩
  have hu := good_u (k := 4) hr
  exact (psd_one (psd_if (ptd_not (ptd_tru rfl (pd_def rfl (fun _ _ => gP_len) (pe_callG H_is_sale.ok (hr.mono (by decide)) hgd rfl g_is_sale H_is_sale.F.kp H_is_sale.b (pad_cons (pd_v (pv 0)) pad_nil))))) (psd_one psd_never) psd_nil))
theorem sc_allotments : FnScope ["things", "persons", "found", "person", "longer", "lots", "taken", "lot"] ["things", "persons"] (defScope s_allotments) := ⟨rfl, rfl, rfl, by decide +kernel, rfl, by decide +kernel, by decide +kernel⟩
theorem ok_allotments (T : Tp fa fn K mg) : ∃ fd, Has P w K mg base d_allotments ["things", "persons"] 2 (spP K 2 G_allotments) fd := by
  have m_range := T.free 47 (x := "range")
  have m_sorted := T.free 57 (x := "sorted")
  obtain ⟨fd, F0⟩ := T.c.def_ 20 (d := d_allotments) rfl
  have F : FunD K d_allotments.name d_allotments.qual d_allotments.params d_allotments.body d_allotments.scope [] [] (He.fAd K d_allotments.at_) fd := F0
  have bd : Binds K fd ["things", "persons"] [] := F.bindsN fun _ _ _ _ _ _ us hl => match us, hl with | [_, _], _ => rfl
  have sc := sc_allotments
  refine ⟨fd, F, bd, def_ok (n := 2) (N := ["things", "persons", "found", "person", "longer", "lots", "taken", "lot"]) (fb := B_allotments) F sc rfl fun cdv A outer s H E hr hgd => ?_⟩
  have hu := good_u (k := 0) hr
  exact (psd_cons (psd_set (by decide) (ps_set sc.nd rfl (by first | exact Or.inl rfl | exact Or.inr rfl) (pd_lst (pad_cons (pd_tup (pad_cons (pd_tup pad_nil) (pad_cons pd_int pad_nil))) pad_nil))))
    (psd_cons (psd_for (by decide) (ps_for PassesOwn.never rfl (pid_r1 (pi_range1 rfl m_range (pa_cons (pd_v (pv 1)) pa_nil))) (pgd_name (pg_name sc.nd rfl (by first | exact Or.inl rfl | exact Or.inr rfl))) (psd_cons (psd_set (by decide) (ps_set sc.nd rfl (by first | exact Or.inl rfl | exact Or.inr rfl) (pd_lst pad_nil)))
    (psd_cons (psd_forV (by decide) (ps_for PassesOwn.never rfl (pid_seqV rfl (pv 2)) (pgd_tup rfl rfl (pgsd_cons (pgd_name (pg_name sc.nd rfl (by first | exact Or.inl rfl | exact Or.inr rfl))) (pgsd_cons (pgd_name (pg_name sc.nd rfl (by first | exact Or.inl rfl | exact Or.inr rfl))) pgsd_nil))) (psd_one (psd_expr (pd_mt1 rfl mExtend_ok (pe_bm PySem.F.plainAttrs_list PySem.F.slot_list_extend PySem.F.type_list_extend mt_extend (pv 4) (pa_cons (pd_comp (C' := cnN K) (ws := [7]) (own := [7]) rfl (by decide) (by decide) (pe_lc rfl sc.nd (pid_r1 (pi_range1 rfl m_range (pa_cons (pd_binR rfl (pe_op opShl_ok pd_int (pv 0))) pa_nil))) (own := [("lot", 7)]) (blkOk_by (by kernel_rfl)) (fun _ _ _ _ _ => (pgd_name (pg_name sc.nd rfl (by first | exact Or.inl rfl | exact Or.inr rfl)))) (fun _ _ _ _ _ => (ptsd_one (ptb_bin rfl (pt_cmpR (opEq_ok ⟨rfl, hu, hgd⟩) (pd_binLR rfl (pe_op opBand_ok (pv 7) (pv 6))) pd_int (by rfl))))) (fun _ _ _ _ _ => (pd_tup (pad_cons (pd_binL rfl (pe_op opAdd_ok (pv 5) (pd_tup (pad_cons (pd_v (pv 7)) pad_nil)))) (pad_cons (pd_binLR rfl (pe_op opBor_ok (pv 6) (pv 7))) pad_nil)))))) pa_nil)))))))
    (psd_one (psd_set (by decide) (ps_set sc.nd rfl (by first | exact Or.inl rfl | exact Or.inr rfl) (pd_v (pv 4)))))))))
    (psd_one (psd_ret (pd_call rfl (pe_callB (bSorted_ok ⟨rfl, hu, hgd⟩) rfl m_sorted PyProof.Rows.boot_sorted (pad_cons (pd_compV (C' := cnN K) (ws := [5, 6]) (own := [5, 6]) rfl (by decide) (by decide) (pe_lc rfl sc.nd (pid_seqV rfl (pv 2)) (own := [("lots", 5), ("taken", 6)]) (blkOk_by (by kernel_rfl)) (fun _ _ _ _ _ => (pgd_tup rfl rfl (pgsd_cons (pgd_name (pg_name sc.nd rfl (by first | exact Or.inl rfl | exact Or.inr rfl))) (pgsd_cons (pgd_name (pg_name sc.nd rfl (by first | exact Or.inl rfl | exact Or.inr rfl))) pgsd_nil)))) (fun _ _ _ _ _ => ptsd_nil) (fun _ _ _ _ _ => (pd_v (pv 5))))) pad_nil)))))))
theorem sc_worth_by : FnScope ["worths", "lots", "row", "lot"] ["worths", "lots"] (defScope s_worth_by) := ⟨rfl, rfl, rfl, by decide +kernel, rfl, by decide +kernel, by decide +kernel⟩
theorem ok_worth_by (T : Tp fa fn K mg) : ∃ fd, Has P w K mg base d_worth_by ["worths", "lots"] 2 (spP K 2 G_worth_by) fd := by
  have m_sum := T.free 48 (x := "sum")
  have m_zip := T.free 49 (x := "zip")
  obtain ⟨fd, F0⟩ := T.c.def_ 21 (d := d_worth_by) rfl
  have F : FunD K d_worth_by.name d_worth_by.qual d_worth_by.params d_worth_by.body d_worth_by.scope [] [] (He.fAd K d_worth_by.at_) fd := F0
  have bd : Binds K fd ["worths", "lots"] [] := F.bindsN fun _ _ _ _ _ _ us hl => match us, hl with | [_, _], _ => rfl
  have sc := sc_worth_by
  refine ⟨fd, F, bd, def_ok (n := 2) (N := ["worths", "lots", "row", "lot"]) (fb := B_worth_by) F sc rfl fun cdv A outer s H E hr hgd => ?_⟩
  have hu := good_u (k := 0) hr
  exact (psd_one (psd_ret (pd_call rfl (pe_callB (bSum_ok ⟨rfl, hu, hgd⟩) rfl m_sum PyProof.Rows.boot_sum (pad_cons (pd_comp (C' := cnN K) (ws := [2, 3]) (own := [2, 3]) rfl (by decide) (by decide) (pe_lc rfl sc.nd (pid_zipM rfl (pi_zipM rfl m_zip (pa_cons (pd_v (pv 0)) (pa_cons (pd_v (pv 1)) pa_nil)))) (own := [("row", 2), ("lot", 3)]) (blkOk_by (by kernel_rfl)) (fun _ _ _ _ _ => (pgd_tup rfl rfl (pgsd_cons (pgd_name (pg_name sc.nd rfl (by first | exact Or.inl rfl | exact Or.inr rfl))) (pgsd_cons (pgd_name (pg_name sc.nd rfl (by first | exact Or.inl rfl | exact Or.inr rfl))) pgsd_nil)))) (fun _ _ _ _ _ => ptsd_nil) (fun _ _ _ _ _ => (pd_binLR rfl (pe_ix opIx_ok (pv 2) (pv 3) (fun _ _ => rfl)))))) pad_nil)))))
theorem sc_best_of : FnScope ["things", "worths", "best", "lots", "here"] ["things", "worths"] (defScope s_best_of) := ⟨rfl, rfl, rfl, by decide +kernel, rfl, by decide +kernel, by decide +kernel⟩
theorem ok_best_of (T : Tp fa fn K mg) : ∃ fd, Has P w K mg base d_best_of ["things", "worths"] 3 (spP K 2 G_best_of) fd := by
  have m_len := T.free 44 (x := "len")
  have g_allotments := T.glo 20 (x := "allotments")
  obtain ⟨fd_allotments, H_allotments⟩ := ok_allotments (P := P) (w := w) (base := base) T
  have g_worth_by := T.glo 21 (x := "worth_by")
  obtain ⟨fd_worth_by, H_worth_by⟩ := ok_worth_by (P := P) (w := w) (base := base) T
  obtain ⟨fd, F0⟩ := T.c.def_ 22 (d := d_best_of) rfl
  have F : FunD K d_best_of.name d_best_of.qual d_best_of.params d_best_of.body d_best_of.scope [] [] (He.fAd K d_best_of.at_) fd := F0
  have bd : Binds K fd ["things", "worths"] [] := F.bindsN fun _ _ _ _ _ _ us hl => match us, hl with | [_, _], _ => rfl
  have sc := sc_best_of
  refine ⟨fd, F, bd, def_ok (n := 2) (N := ["things", "worths", "best", "lots", "here"]) (fb := B_best_of) F sc rfl fun cdv A outer s H E hr hgd => ?_⟩
  have hu := good_u (k := 1) hr
  exact (psd_cons (psd_set (by decide) (ps_set sc.nd rfl (by first | exact Or.inl rfl | exact Or.inr rfl) pd_none))
    (psd_cons (psd_for (by decide) (ps_for PassesOwn.never rfl (pid_seq rfl (pd_def rfl (fun _ _ => gP_len) (pe_callG H_allotments.ok (hr.mono (by decide)) hgd rfl g_allotments H_allotments.F.kp H_allotments.b (pad_cons (pd_v (pv 0)) (pad_cons (pd_callV rfl (pe_callB bLen_ok rfl m_len PySem.boot_len (pa_cons (pv 1) pa_nil))) pad_nil))))) (pgd_name (pg_name sc.nd rfl (by first | exact Or.inl rfl | exact Or.inr rfl))) (psd_cons (psd_set (by decide) (ps_set sc.nd rfl (by first | exact Or.inl rfl | exact Or.inr rfl) (pd_def rfl (fun _ _ => gP_len) (pe_callG H_worth_by.ok (hr.mono (by decide)) hgd rfl g_worth_by H_worth_by.F.kp H_worth_by.b (pad_cons (pd_v (pv 1)) (pad_cons (pd_v (pv 3)) pad_nil))))))
    (psd_one (psd_if (PW.pt (pwd_or (ptb_binL rfl (pt_cmpR opIs_ok (pv 2) pd_none (by rfl))) (pwd_or1 (ptb_binL rfl (pt_cmpR (opGt_ok ⟨rfl, hu, hgd⟩) (pv 4) (pd_binL rfl (pe_ix opIx_ok (pv 2) pd_int (fun _ _ => rfl))) (by rfl)))))) (psd_one (psd_set (by decide) (ps_set sc.nd rfl (by first | exact Or.inl rfl | exact Or.inr rfl) (pd_tup (pad_cons (pd_v (pv 4)) (pad_cons (pd_v (pv 3)) pad_nil)))))) psd_nil)))))
    (psd_one (psd_retV (pv 2)))))
theorem sc_paid_by : FnScope ["things", "worths", "worth", "lots", "found", "person", "row", "others", "alone"] ["things", "worths"] (defScope s_paid_by) := ⟨rfl, rfl, rfl, by decide +kernel, rfl, by decide +kernel, by decide +kernel⟩
theorem ok_paid_by (T : Tp fa fn K mg) : ∃ fd, Has P w K mg base d_paid_by ["things", "worths"] 4 (spP K 2 G_paid_by) fd := by
  have m_enumerate := T.free 58 (x := "enumerate")
  have m_len := T.free 44 (x := "len")
  have m_tuple := T.free 50 (x := "tuple")
  have g_best_of := T.glo 22 (x := "best_of")
  obtain ⟨fd_best_of, H_best_of⟩ := ok_best_of (P := P) (w := w) (base := base) T
  obtain ⟨fd, F0⟩ := T.c.def_ 23 (d := d_paid_by) rfl
  have F : FunD K d_paid_by.name d_paid_by.qual d_paid_by.params d_paid_by.body d_paid_by.scope [] [] (He.fAd K d_paid_by.at_) fd := F0
  have bd : Binds K fd ["things", "worths"] [] := F.bindsN fun _ _ _ _ _ _ us hl => match us, hl with | [_, _], _ => rfl
  have sc := sc_paid_by
  refine ⟨fd, F, bd, def_ok (n := 2) (N := ["things", "worths", "worth", "lots", "found", "person", "row", "others", "alone"]) (fb := B_paid_by) F sc rfl fun cdv A outer s H E hr hgd => ?_⟩
  have hu := good_u (k := 2) hr
  exact (psd_cons (psd_asg (by decide) (ps_asg (pd_def rfl (fun _ _ => gP_len) (pe_callG H_best_of.ok (hr.mono (by decide)) hgd rfl g_best_of H_best_of.F.kp H_best_of.b (pad_cons (pd_v (pv 0)) (pad_cons (pd_v (pv 1)) pad_nil)))) (pgd_tup rfl rfl (pgsd_cons (pgd_name (pg_name sc.nd rfl (by first | exact Or.inl rfl | exact Or.inr rfl))) (pgsd_cons (pgd_name (pg_name sc.nd rfl (by first | exact Or.inl rfl | exact Or.inr rfl))) pgsd_nil)))))
    (psd_cons (psd_set (by decide) (ps_set sc.nd rfl (by first | exact Or.inl rfl | exact Or.inr rfl) (pd_lst pad_nil)))
    (psd_cons (psd_for (by decide) (ps_for PassesOwn.never rfl (pid_enum rfl (pi_enumA rfl m_enumerate (pa_cons (pd_v (pv 1)) pa_nil))) (pgd_tup rfl rfl (pgsd_cons (pgd_name (pg_name sc.nd rfl (by first | exact Or.inl rfl | exact Or.inr rfl))) (pgsd_cons (pgd_name (pg_name sc.nd rfl (by first | exact Or.inl rfl | exact Or.inr rfl))) pgsd_nil))) (psd_cons (psd_set (by decide) (ps_set sc.nd rfl (by first | exact Or.inl rfl | exact Or.inr rfl) (pd_bin rfl (pe_op opAdd_ok (pd_slV rfl (pv 1) pod_none (pod_some (pd_v (pv 5)))) (pd_slV rfl (pv 1) (pod_some (pd_binL rfl (pe_op opAdd_ok (pv 5) pd_int))) pod_none)))))
    (psd_cons (psd_set (by decide) (ps_set sc.nd rfl (by first | exact Or.inl rfl | exact Or.inr rfl) (pd_if (ptb_bin rfl (pt_cmpR (opGt_ok ⟨rfl, hu, hgd⟩) (pd_callV rfl (pe_callB bLen_ok rfl m_len PySem.boot_len (pa_cons (pv 7) pa_nil))) pd_int (by rfl))) (pd_bin rfl (pe_ix opIx_ok (pd_def rfl (fun _ _ => gP_len) (pe_callG H_best_of.ok (hr.mono (by decide)) hgd rfl g_best_of H_best_of.F.kp H_best_of.b (pad_cons (pd_v (pv 0)) (pad_cons (pd_v (pv 7)) pad_nil)))) pd_int (fun _ _ => rfl))) pd_int)))
    (psd_one (psd_expr (pd_mt1 rfl mAppend_ok (pe_bm PySem.F.plainAttrs_list PySem.F.slot_list_append PySem.F.type_list_append mt_append (pv 4) (pa_cons (pd_binL rfl (pe_op opSub_ok (pv 8) (pd_binL rfl (pe_op opSub_ok (pv 2) (pd_binL rfl (pe_ix opIx_ok (pv 6) (pd_binLR rfl (pe_ix opIx_ok (pv 3) (pv 5) (fun _ _ => rfl))) (fun _ _ => rfl))))))) pa_nil)))))))))
    (psd_one (psd_ret (pd_callV rfl (pe_callTy bTuple_ok rfl m_tuple PyProof.Rows.boot_tuple (pa_cons (pv 4) pa_nil))))))))
theorem sc_payments : FnScope ["sale"] ["sale"] (defScope s_payments) := ⟨rfl, rfl, rfl, by decide +kernel, rfl, by decide +kernel, by decide +kernel⟩
theorem ok_payments (T : Tp fa fn K mg) : ∃ fd, Has P w K mg base d_payments ["sale"] 7 (spP K 1 G_payments) fd := by
  have g_check_sale := T.glo 19 (x := "check_sale")
  obtain ⟨fd_check_sale, H_check_sale⟩ := ok_check_sale (P := P) (w := w) (base := base) T
  have g_paid_by := T.glo 23 (x := "paid_by")
  obtain ⟨fd_paid_by, H_paid_by⟩ := ok_paid_by (P := P) (w := w) (base := base) T
  obtain ⟨fd, F0⟩ := T.c.def_ 24 (d := d_payments) rfl
  have F : FunD K d_payments.name d_payments.qual d_payments.params d_payments.body d_payments.scope [] [] (He.fAd K d_payments.at_) fd := F0
  have bd : Binds K fd ["sale"] [] := F.bindsN fun _ _ _ _ _ _ us hl => match us, hl with | [_], _ => rfl
  have sc := sc_payments
  refine ⟨fd, F, bd, def_ok (n := 1) (N := ["sale"]) (fb := B_payments) F sc rfl fun cdv A outer s H E hr hgd => ?_⟩
  have hu := good_u (k := 5) hr
  exact (psd_cons (psd_expr (pd_def rfl (fun _ _ => gP_len) (pe_callG H_check_sale.ok (hr.mono (by decide)) hgd rfl g_check_sale H_check_sale.F.kp H_check_sale.b (pad_cons (pd_v (pv 0)) pad_nil))))
    (psd_one (psd_ret (pd_def rfl (fun _ _ => gP_len) (pe_callG H_paid_by.ok (hr.mono (by decide)) hgd rfl g_paid_by H_paid_by.F.kp H_paid_by.b (pad_cons (pd_binL rfl (pe_ix opIx_ok (pv 0) pd_int (fun _ _ => rfl))) (pad_cons (pd_binL rfl (pe_ix opIx_ok (pv 0) pd_int (fun _ _ => rfl))) pad_nil)))))))
theorem sc__law_paid : FnScope ["hand", "sale", "things", "rows", "some", "kind", "one", "row", "lot"] ["hand", "sale"] (defScope s__law_paid) := ⟨rfl, rfl, rfl, by decide +kernel, rfl, by decide +kernel, by decide +kernel⟩
theorem ok__law_paid (T : Tp fa fn K mg) : ∃ fd, Has P w K mg base d__law_paid ["hand", "sale"] 8 (spIO K 2 G__law_paid) fd := by
  have m_len := T.free 44 (x := "len")
  have m_tuple := T.free 50 (x := "tuple")
  have m_zip := T.free 49 (x := "zip")
  have g__law_best := T.glo 10 (x := "_law_best")
  obtain ⟨fd__law_best, H__law_best⟩ := ok__law_best (P := P) (w := w) (base := base) T
  have g__law_draw := T.glo 0 (x := "_law_draw")
  obtain ⟨fd__law_draw, H__law_draw⟩ := ok__law_draw (P := P) (w := w) (base := base) T
  have g__law_low := T.glo 6 (x := "_law_low")
  obtain ⟨fd__law_low, H__law_low⟩ := ok__law_low (P := P) (w := w) (base := base) T
  have g_payments := T.glo 24 (x := "payments")
  obtain ⟨fd_payments, H_payments⟩ := ok_payments (P := P) (w := w) (base := base) T
  obtain ⟨fd, F0⟩ := T.c.def_ 25 (d := d__law_paid) rfl
  have F : FunD K d__law_paid.name d__law_paid.qual d__law_paid.params d__law_paid.body d__law_paid.scope [] [] (He.fAd K d__law_paid.at_) fd := F0
  have bd : Binds K fd ["hand", "sale"] [] := F.bindsN fun _ _ _ _ _ _ us hl => match us, hl with | [_, _], _ => rfl
  have sc := sc__law_paid
  refine ⟨fd, F, bd, def_okIO (n := 2) (N := ["hand", "sale", "things", "rows", "some", "kind", "one", "row", "lot"]) (fb := B__law_paid) F sc rfl fun cdv A outer s H E hr hgd => ?_⟩
  have hu := good_u (k := 6) hr
  exact (psd_cons (psd_asg (by decide) (ps_asg (pd_v (pv 1)) (pgd_tup rfl rfl (pgsd_cons (pgd_name (pg_name sc.nd rfl (by first | exact Or.inl rfl | exact Or.inr rfl))) (pgsd_cons (pgd_name (pg_name sc.nd rfl (by first | exact Or.inl rfl | exact Or.inr rfl))) pgsd_nil)))))
    (psd_cons (psd_set (by decide) (ps_set sc.nd rfl (by first | exact Or.inl rfl | exact Or.inr rfl) (pd_bin rfl (pe_ix opIx_ok (pd_def rfl (fun _ _ => gP_len) (pe_callG H__law_best.ok (hr.mono (by decide)) hgd rfl g__law_best H__law_best.F.kp H__law_best.b (pad_cons (pd_v (pv 2)) (pad_cons (pd_v (pv 3)) pad_nil)))) pd_int (fun _ _ => rfl)))))
    (psd_cons (psd_set (by decide) (ps_set sc.nd rfl (by first | exact Or.inl rfl | exact Or.inr rfl) (pd_defIO rfl (fun _ _ _ => gIO_len) (pe_callG H__law_draw.ok (hr.mono (by decide)) hgd rfl g__law_draw H__law_draw.F.kp H__law_draw.b (pa_cons (pv 0) (pad_cons pd_int pad_nil))))))
    (psd_cons (psd_if (ptb_binL rfl (pt_cmpR (opEq_ok ⟨rfl, hu, hgd⟩) (pv 5) pd_int (by rfl))) (psd_one (psd_ret (pd_call rfl (pe_callTy bTuple_ok rfl m_tuple PyProof.Rows.boot_tuple (pad_cons (pd_comp (C' := cnN K) (ws := [6]) (own := [6]) rfl (by decide) (by decide) (pe_lc rfl sc.nd (pid_seq rfl (pd_def rfl (fun _ _ => gP_len) (pe_callG H_payments.ok (hr.mono (by decide)) hgd rfl g_payments H_payments.F.kp H_payments.b (pad_cons (pd_v (pv 1)) pad_nil)))) (own := [("one", 6)]) (blkOk_by (by kernel_rfl)) (fun _ _ _ _ _ => (pgd_name (pg_name sc.nd rfl (by first | exact Or.inl rfl | exact Or.inr rfl)))) (fun _ _ _ _ _ => ptsd_nil) (fun _ _ _ _ _ => (pd_tup (pad_cons (pd_v (pv 6)) (pad_cons pd_int pad_nil)))))) pad_nil))))) psd_nil)
    (psd_cons (psd_if (ptb_binL rfl (pt_cmpR (opEq_ok ⟨rfl, hu, hgd⟩) (pv 5) pd_int (by rfl))) (psd_one (psd_ret (pd_call rfl (pe_callTy bTuple_ok rfl m_tuple PyProof.Rows.boot_tuple (pad_cons (pd_comp (C' := cnN K) (ws := [7, 8]) (own := [7, 8]) rfl (by decide) (by decide) (pe_lc rfl sc.nd (pid_zipM rfl (pi_zipM rfl m_zip (pa_cons (pd_v (pv 3)) (pa_cons (pd_v (pv 4)) pa_nil)))) (own := [("row", 7), ("lot", 8)]) (blkOk_by (by kernel_rfl)) (fun _ _ _ _ _ => (pgd_tup rfl rfl (pgsd_cons (pgd_name (pg_name sc.nd rfl (by first | exact Or.inl rfl | exact Or.inr rfl))) (pgsd_cons (pgd_name (pg_name sc.nd rfl (by first | exact Or.inl rfl | exact Or.inr rfl))) pgsd_nil)))) (fun _ _ _ _ _ => ptsd_nil) (fun _ _ _ _ _ => (pd_def rfl (fun _ _ => gP_len) (pe_callG H__law_low.ok (hr.mono (by decide)) hgd rfl g__law_low H__law_low.F.kp H__law_low.b (pad_cons (pd_binLR rfl (pe_ix opIx_ok (pv 7) (pv 8) (fun _ _ => rfl))) (pad_cons pd_int pad_nil))))))) pad_nil))))) psd_nil)
    (psd_cons (psd_if (ptb_binL rfl (pt_cmpR (opEq_ok ⟨rfl, hu, hgd⟩) (pv 5) pd_int (by rfl))) (psd_one (psd_ret (pd_bin rfl (pe_op opMul_ok (pd_tup (pad_cons (pd_tup (pad_cons pd_int (pad_cons pd_int pad_nil))) pad_nil)) (pd_callV rfl (pe_callB bLen_ok rfl m_len PySem.boot_len (pa_cons (pv 3) pa_nil))))))) psd_nil)
    (psd_one (psd_ret (pd_call rfl (pe_callTy bTuple_ok rfl m_tuple PyProof.Rows.boot_tuple (pad_cons (pd_compV (C' := cnN K) (ws := [7]) (own := [7]) rfl (by decide) (by decide) (pe_lc rfl sc.nd (pid_seqV rfl (pv 3)) (own := [("row", 7)]) (blkOk_by (by kernel_rfl)) (fun _ _ _ _ _ => (pgd_name (pg_name sc.nd rfl (by first | exact Or.inl rfl | exact Or.inr rfl)))) (fun _ _ _ _ _ => ptsd_nil) (fun _ _ _ _ _ => (pd_def rfl (fun _ _ => gP_len) (pe_callG H__law_low.ok (hr.mono (by decide)) hgd rfl g__law_low H__law_low.F.kp H__law_low.b (pad_cons (pd_defIO rfl (fun _ _ _ => gIO_len) (pe_callG H__law_draw.ok (hr.mono (by decide)) hgd rfl g__law_draw H__law_draw.F.kp H__law_draw.b (pa_cons (pv 0) (pad_cons pd_int pad_nil)))) (pad_cons (pd_bin rfl (pe_op opAdd_ok pd_int (pd_defIO rfl (fun _ _ _ => gIO_len) (pe_callG H__law_draw.ok (hr.mono (by decide)) hgd rfl g__law_draw H__law_draw.F.kp H__law_draw.b (pa_cons (pv 0) (pad_cons pd_int pad_nil)))))) pad_nil))))))) pad_nil)))))))))))
theorem sc_best : FnScope ["sale"] ["sale"] (defScope s_best) := ⟨rfl, rfl, rfl, by decide +kernel, rfl, by decide +kernel, by decide +kernel⟩
theorem ok_best (T : Tp fa fn K mg) : ∃ fd, Has P w K mg base d_best ["sale"] 7 (spP K 1 G_best) fd := by
  have g_best_of := T.glo 22 (x := "best_of")
  obtain ⟨fd_best_of, H_best_of⟩ := ok_best_of (P := P) (w := w) (base := base) T
  have g_check_sale := T.glo 19 (x := "check_sale")
  obtain ⟨fd_check_sale, H_check_sale⟩ := ok_check_sale (P := P) (w := w) (base := base) T
  obtain ⟨fd, F0⟩ := T.c.def_ 26 (d := d_best) rfl
  have F : FunD K d_best.name d_best.qual d_best.params d_best.body d_best.scope [] [] (He.fAd K d_best.at_) fd := F0
  have bd : Binds K fd ["sale"] [] := F.bindsN fun _ _ _ _ _ _ us hl => match us, hl with | [_], _ => rfl
  have sc := sc_best
  refine ⟨fd, F, bd, def_ok (n := 1) (N := ["sale"]) (fb := B_best) F sc rfl fun cdv A outer s H E hr hgd => ?_⟩
  have hu := good_u (k := 5) hr
  exact (psd_cons (psd_expr (pd_def rfl (fun _ _ => gP_len) (pe_callG H_check_sale.ok (hr.mono (by decide)) hgd rfl g_check_sale H_check_sale.F.kp H_check_sale.b (pad_cons (pd_v (pv 0)) pad_nil))))
    (psd_one (psd_ret (pd_def rfl (fun _ _ => gP_len) (pe_callG H_best_of.ok (hr.mono (by decide)) hgd rfl g_best_of H_best_of.F.kp H_best_of.b (pad_cons (pd_binL rfl (pe_ix opIx_ok (pv 0) pd_int (fun _ _ => rfl))) (pad_cons (pd_binL rfl (pe_ix opIx_ok (pv 0) pd_int (fun _ _ => rfl))) pad_nil)))))))
theorem sc_common : FnScope ["one", "other"] ["one", "other"] (defScope s_common) := ⟨rfl, rfl, rfl, by decide +kernel, rfl, by decide +kernel, by decide +kernel⟩
theorem ok_common (T : Tp fa fn K mg) : ∃ fd, Has P w K mg base d_common ["one", "other"] 2 (spP K 2 G_common) fd := by
  have m_abs := T.free 51 (x := "abs")
  obtain ⟨fd, F0⟩ := T.c.def_ 27 (d := d_common) rfl
  have F : FunD K d_common.name d_common.qual d_common.params d_common.body d_common.scope [] [] (He.fAd K d_common.at_) fd := F0
  have bd : Binds K fd ["one", "other"] [] := F.bindsN fun _ _ _ _ _ _ us hl => match us, hl with | [_, _], _ => rfl
  have sc := sc_common
  refine ⟨fd, F, bd, def_ok (n := 2) (N := ["one", "other"]) (fb := B_common) F sc rfl fun cdv A outer s H E hr hgd => ?_⟩
  have hu := good_u (k := 0) hr
  exact (psd_cons (psd_while (ps_while PassesOwn.never (ptb_binL rfl (pt_cmpR (opGt_ok ⟨rfl, hu, hgd⟩) (pv 1) pd_int (by rfl))) (psd_one (psd_par (by decide) (by decide) (ps_par rfl sc.nd rfl rfl (by decide) rfl rfl (pad_cons (pd_v (pv 1)) (pad_cons (pd_binLR rfl (pe_op opMod_ok (pv 0) (pv 1))) pad_nil)) (by rfl))))))
    (psd_one (psd_ret (pd_callV rfl (pe_callB bAbs_ok rfl m_abs PyProof.Rows.boot_abs (pa_cons (pv 0) pa_nil))))))
theorem sc_is_integer_checks : FnScope ["thing"] ["thing"] (defScope s_is_integer_checks) := ⟨rfl, rfl, rfl, by decide +kernel, rfl, by decide +kernel, by decide +kernel⟩
theorem ok_is_integer_checks (T : Tp fa fn K mg) : ∃ fd, Has P w K mg base d_is_integer_checks ["thing"] 2 (spP K 1 G_is_integer_checks) fd := by
  have m_bool := T.free 56 (x := "bool")
  have m_int := T.free 45 (x := "int")
  have m_isinstance := T.free 55 (x := "isinstance")
  obtain ⟨fd, F0⟩ := T.c.def_ 28 (d := d_is_integer_checks) rfl
  have F : FunD K d_is_integer_checks.name d_is_integer_checks.qual d_is_integer_checks.params d_is_integer_checks.body d_is_integer_checks.scope [] [] (He.fAd K d_is_integer_checks.at_) fd := F0
  have bd : Binds K fd ["thing"] [] := F.bindsN fun _ _ _ _ _ _ us hl => match us, hl with | [_], _ => rfl
  have sc := sc_is_integer_checks
  refine ⟨fd, F, bd, def_ok (n := 1) (N := ["thing"]) (fb := B_is_integer_checks) F sc rfl fun cdv A outer s H E hr hgd => ?_⟩
  have hu := good_u (k := 0) hr
  exact (psd_one (psd_ret (pd_and (pd_isiV .int rfl (pe_callB call_isi rfl m_isinstance PyProof.Rows.boot_isinstance (pa_cons (pv 0) (pa_cons (pe_gty rfl m_int PyProof.Rows.boot_int) pa_nil)))) (pd_one (pd_not (pd_isiV .bool rfl (pe_callB call_isi rfl m_isinstance PyProof.Rows.boot_isinstance (pa_cons (pv 0) (pa_cons (pe_gty rfl m_bool PyProof.Rows.boot_bool) pa_nil)))))))))
theorem sc_is_pair : FnScope ["thing"] ["thing"] (defScope s_is_pair) := ⟨rfl, rfl, rfl, by decide +kernel, rfl, by decide +kernel, by decide +kernel⟩
theorem ok_is_pair (T : Tp fa fn K mg) : ∃ fd, Has P w K mg base d_is_pair ["thing"] 2 (spP K 1 G_is_pair) fd := by
  have m_isinstance := T.free 55 (x := "isinstance")
  have m_len := T.free 44 (x := "len")
  have m_tuple := T.free 50 (x := "tuple")
  obtain ⟨fd, F0⟩ := T.c.def_ 29 (d := d_is_pair) rfl
  have F : FunD K d_is_pair.name d_is_pair.qual d_is_pair.params d_is_pair.body d_is_pair.scope [] [] (He.fAd K d_is_pair.at_) fd := F0
  have bd : Binds K fd ["thing"] [] := F.bindsN fun _ _ _ _ _ _ us hl => match us, hl with | [_], _ => rfl
  have sc := sc_is_pair
  refine ⟨fd, F, bd, def_ok (n := 1) (N := ["thing"]) (fb := B_is_pair) F sc rfl fun cdv A outer s H E hr hgd => ?_⟩
  have hu := good_u (k := 0) hr
  exact (psd_one (psd_ret (pd_and (pd_isiV .tuple rfl (pe_callB call_isi rfl m_isinstance PyProof.Rows.boot_isinstance (pa_cons (pv 0) (pa_cons (pe_gty rfl m_tuple PyProof.Rows.boot_tuple) pa_nil)))) (pd_one (pd_bin rfl (pe_cmpR (opEq_ok ⟨rfl, hu, hgd⟩) (pd_callV rfl (pe_callB bLen_ok rfl m_len PySem.boot_len (pa_cons (pv 0) pa_nil))) pd_int (by rfl)))))))
theorem sc_is_fraction : FnScope ["thing"] ["thing"] (defScope s_is_fraction) := ⟨rfl, rfl, rfl, by decide +kernel, rfl, by decide +kernel, by decide +kernel⟩
theorem ok_is_fraction (T : Tp fa fn K mg) : ∃ fd, Has P w K mg base d_is_fraction ["thing"] 3 (spP K 1 G_is_fraction) fd := by
  have g_common := T.glo 27 (x := "common")
  obtain ⟨fd_common, H_common⟩ := ok_common (P := P) (w := w) (base := base) T
  have g_is_integer_checks := T.glo 28 (x := "is_integer_checks")
  obtain ⟨fd_is_integer_checks, H_is_integer_checks⟩ := ok_is_integer_checks (P := P) (w := w) (base := base) T
  have g_is_pair := T.glo 29 (x := "is_pair")
  obtain ⟨fd_is_pair, H_is_pair⟩ := ok_is_pair (P := P) (w := w) (base := base) T
  obtain ⟨fd, F0⟩ := T.c.def_ 30 (d := d_is_fraction) rfl
  have F : FunD K d_is_fraction.name d_is_fraction.qual d_is_fraction.params d_is_fraction.body d_is_fraction.scope [] [] (He.fAd K d_is_fraction.at_) fd := F0
  have bd : Binds K fd ["thing"] [] := F.bindsN fun _ _ _ _ _ _ us hl => match us, hl with | [_], _ => rfl
  have sc := sc_is_fraction
  refine ⟨fd, F, bd, def_ok (n := 1) (N := ["thing"]) (fb := B_is_fraction) F sc rfl fun cdv A outer s H E hr hgd => ?_⟩
  have hu := good_u (k := 1) hr
  exact (psd_cons (psd_if (PW.pt (pwd_or (ptd_not (ptd_tru rfl (pd_def rfl (fun _ _ => gP_len) (pe_callG H_is_pair.ok (hr.mono (by decide)) hgd rfl g_is_pair H_is_pair.F.kp H_is_pair.b (pad_cons (pd_v (pv 0)) pad_nil))))) (pwd_or (ptd_not (ptd_tru rfl (pd_def rfl (fun _ _ => gP_len) (pe_callG H_is_integer_checks.ok (hr.mono (by decide)) hgd rfl g_is_integer_checks H_is_integer_checks.F.kp H_is_integer_checks.b (pad_cons (pd_binL rfl (pe_ix opIx_ok (pv 0) pd_int (fun _ _ => rfl))) pad_nil))))) (pwd_or1 (ptd_not (ptd_tru rfl (pd_def rfl (fun _ _ => gP_len) (pe_callG H_is_integer_checks.ok (hr.mono (by decide)) hgd rfl g_is_integer_checks H_is_integer_checks.F.kp H_is_integer_checks.b (pad_cons (pd_binL rfl (pe_ix opIx_ok (pv 0) pd_int (fun _ _ => rfl))) pad_nil))))))))) (psd_one (psd_ret pd_bool)) psd_nil)
    (psd_one (psd_ret (pd_and (pd_bin rfl (pe_cmpR (opGe_ok ⟨rfl, hu, hgd⟩) (pd_binL rfl (pe_ix opIx_ok (pv 0) pd_int (fun _ _ => rfl))) pd_int (by rfl))) (pd_one (pd_bin rfl (pe_cmpR (opEq_ok ⟨rfl, hu, hgd⟩) (pd_def rfl (fun _ _ => gP_len) (pe_callG H_common.ok (hr.mono (by decide)) hgd rfl g_common H_common.F.kp H_common.b (pad_cons (pd_binL rfl (pe_ix opIx_ok (pv 0) pd_int (fun _ _ => rfl))) (pad_cons (pd_binL rfl (pe_ix opIx_ok (pv 0) pd_int (fun _ _ => rfl))) pad_nil)))) pd_int (by rfl))))))))
theorem sc_are_amounts : FnScope ["thing", "many", "one"] ["thing", "many"] (defScope s_are_amounts) := ⟨rfl, rfl, rfl, by decide +kernel, rfl, by decide +kernel, by decide +kernel⟩
theorem ok_are_amounts (T : Tp fa fn K mg) : ∃ fd, Has P w K mg base d_are_amounts ["thing", "many"] 4 (spP K 2 G_are_amounts) fd := by
  have m_all := T.free 46 (x := "all")
  have g_is_fraction := T.glo 30 (x := "is_fraction")
  obtain ⟨fd_is_fraction, H_is_fraction⟩ := ok_is_fraction (P := P) (w := w) (base := base) T
  have g_is_sized := T.glo 14 (x := "is_sized")
  obtain ⟨fd_is_sized, H_is_sized⟩ := ok_is_sized (P := P) (w := w) (base := base) T
  obtain ⟨fd, F0⟩ := T.c.def_ 31 (d := d_are_amounts) rfl
  have F : FunD K d_are_amounts.name d_are_amounts.qual d_are_amounts.params d_are_amounts.body d_are_amounts.scope [] [] (He.fAd K d_are_amounts.at_) fd := F0
  have bd : Binds K fd ["thing", "many"] [] := F.bindsN fun _ _ _ _ _ _ us hl => match us, hl with | [_, _], _ => rfl
  have sc := sc_are_amounts
  refine ⟨fd, F, bd, def_ok (n := 2) (N := ["thing", "many", "one"]) (fb := B_are_amounts) F sc rfl fun cdv A outer s H E hr hgd => ?_⟩
  have hu := good_u (k := 2) hr
  exact (psd_one (psd_ret (pd_and (pd_def rfl (fun _ _ => gP_len) (pe_callG H_is_sized.ok (hr.mono (by decide)) hgd rfl g_is_sized H_is_sized.F.kp H_is_sized.b (pad_cons (pd_v (pv 0)) (pad_cons (pd_v (pv 1)) (pad_cons (pd_v (pv 1)) pad_nil))))) (pd_one (pd_call rfl (pe_callB (bAll_ok ⟨rfl, hu, hgd⟩) rfl m_all PyProof.Rows.boot_all (pad_cons (pd_compV (C' := cnN K) (ws := [2]) (own := [2]) rfl (by decide) (by decide) (pe_lc rfl sc.nd (pid_seqV rfl (pv 0)) (own := [("one", 2)]) (blkOk_by (by kernel_rfl)) (fun _ _ _ _ _ => (pgd_name (pg_name sc.nd rfl (by first | exact Or.inl rfl | exact Or.inr rfl)))) (fun _ _ _ _ _ => ptsd_nil) (fun _ _ _ _ _ => (pd_and (pd_def rfl (fun _ _ => gP_len) (pe_callG H_is_fraction.ok (hr.mono (by decide)) hgd rfl g_is_fraction H_is_fraction.F.kp H_is_fraction.b (pad_cons (pd_v (pv 2)) pad_nil))) (pd_one (pd_bin rfl (pe_cmpR (opGe_ok ⟨rfl, hu, hgd⟩) (pd_binL rfl (pe_ix opIx_ok (pv 2) pd_int (fun _ _ => rfl))) pd_int (by rfl)))))))) pad_nil)))))))
theorem sc_has_thing : FnScope ["lot", "thing"] ["lot", "thing"] (defScope s_has_thing) := ⟨rfl, rfl, rfl, by decide +kernel, rfl, by decide +kernel, by decide +kernel⟩
theorem ok_has_thing (T : Tp fa fn K mg) : ∃ fd, Has P w K mg base d_has_thing ["lot", "thing"] 2 (spP K 2 G_has_thing) fd := by
  obtain ⟨fd, F0⟩ := T.c.def_ 32 (d := d_has_thing) rfl
  have F : FunD K d_has_thing.name d_has_thing.qual d_has_thing.params d_has_thing.body d_has_thing.scope [] [] (He.fAd K d_has_thing.at_) fd := F0
  have bd : Binds K fd ["lot", "thing"] [] := F.bindsN fun _ _ _ _ _ _ us hl => match us, hl with | [_, _], _ => rfl
  have sc := sc_has_thing
  refine ⟨fd, F, bd, def_ok (n := 2) (N := ["lot", "thing"]) (fb := B_has_thing) F sc rfl fun cdv A outer s H E hr hgd => ?_⟩
  have hu := good_u (k := 0) hr
  exact (psd_one (psd_ret (pd_bin rfl (pe_cmpR (opEq_ok ⟨rfl, hu, hgd⟩) (pd_bin rfl (pe_op opBand_ok (pd_binLR rfl (pe_op opShr_ok (pv 0) (pv 1))) pd_int)) pd_int (by rfl)))))
theorem sc_is_below : FnScope ["one", "other"] ["one", "other"] (defScope s_is_below) := ⟨rfl, rfl, rfl, by decide +kernel, rfl, by decide +kernel, by decide +kernel⟩
theorem ok_is_below (T : Tp fa fn K mg) : ∃ fd, Has P w K mg base d_is_below ["one", "other"] 2 (spP K 2 G_is_below) fd := by
  obtain ⟨fd, F0⟩ := T.c.def_ 33 (d := d_is_below) rfl
  have F : FunD K d_is_below.name d_is_below.qual d_is_below.params d_is_below.body d_is_below.scope [] [] (He.fAd K d_is_below.at_) fd := F0
  have bd : Binds K fd ["one", "other"] [] := F.bindsN fun _ _ _ _ _ _ us hl => match us, hl with | [_, _], _ => rfl
  have sc := sc_is_below
  refine ⟨fd, F, bd, def_ok (n := 2) (N := ["one", "other"]) (fb := B_is_below) F sc rfl fun cdv A outer s H E hr hgd => ?_⟩
  have hu := good_u (k := 0) hr
  exact (psd_one (psd_ret (pd_bin rfl (pe_cmpR (opLt_ok ⟨rfl, hu, hgd⟩) (pd_bin rfl (pe_op opMul_ok (pd_binL rfl (pe_ix opIx_ok (pv 0) pd_int (fun _ _ => rfl))) (pd_binL rfl (pe_ix opIx_ok (pv 1) pd_int (fun _ _ => rfl))))) (pd_bin rfl (pe_op opMul_ok (pd_binL rfl (pe_ix opIx_ok (pv 1) pd_int (fun _ _ => rfl))) (pd_binL rfl (pe_ix opIx_ok (pv 0) pd_int (fun _ _ => rfl))))) (by rfl)))))
theorem sc_made : FnScope ["top", "bottom", "divisor"] ["top", "bottom"] (defScope s_made) := ⟨rfl, rfl, rfl, by decide +kernel, rfl, by decide +kernel, by decide +kernel⟩
theorem ok_made (T : Tp fa fn K mg) : ∃ fd, Has P w K mg base d_made ["top", "bottom"] 3 (spP K 2 G_made) fd := by
  have g_common := T.glo 27 (x := "common")
  obtain ⟨fd_common, H_common⟩ := ok_common (P := P) (w := w) (base := base) T
  obtain ⟨fd, F0⟩ := T.c.def_ 34 (d := d_made) rfl
  have F : FunD K d_made.name d_made.qual d_made.params d_made.body d_made.scope [] [] (He.fAd K d_made.at_) fd := F0
  have bd : Binds K fd ["top", "bottom"] [] := F.bindsN fun _ _ _ _ _ _ us hl => match us, hl with | [_, _], _ => rfl
  have sc := sc_made
  refine ⟨fd, F, bd, def_ok (n := 2) (N := ["top", "bottom", "divisor"]) (fb := B_made) F sc rfl fun cdv A outer s H E hr hgd => ?_⟩
  have hu := good_u (k := 1) hr
  exact (psd_cons (psd_set (by decide) (ps_set sc.nd rfl (by first | exact Or.inl rfl | exact Or.inr rfl) (pd_def rfl (fun _ _ => gP_len) (pe_callG H_common.ok (hr.mono (by decide)) hgd rfl g_common H_common.F.kp H_common.b (pad_cons (pd_v (pv 0)) (pad_cons (pd_v (pv 1)) pad_nil))))))
    (psd_one (psd_ret (pd_tup (pad_cons (pd_binLR rfl (pe_op opFdiv_ok (pv 0) (pv 2))) (pad_cons (pd_binLR rfl (pe_op opFdiv_ok (pv 1) (pv 2))) pad_nil))))))
theorem sc_less : FnScope ["one", "other"] ["one", "other"] (defScope s_less) := ⟨rfl, rfl, rfl, by decide +kernel, rfl, by decide +kernel, by decide +kernel⟩
theorem ok_less (T : Tp fa fn K mg) : ∃ fd, Has P w K mg base d_less ["one", "other"] 4 (spP K 2 G_less) fd := by
  have g_made := T.glo 34 (x := "made")
  obtain ⟨fd_made, H_made⟩ := ok_made (P := P) (w := w) (base := base) T
  obtain ⟨fd, F0⟩ := T.c.def_ 35 (d := d_less) rfl
  have F : FunD K d_less.name d_less.qual d_less.params d_less.body d_less.scope [] [] (He.fAd K d_less.at_) fd := F0
  have bd : Binds K fd ["one", "other"] [] := F.bindsN fun _ _ _ _ _ _ us hl => match us, hl with | [_, _], _ => rfl
  have sc := sc_less
  refine ⟨fd, F, bd, def_ok (n := 2) (N := ["one", "other"]) (fb := B_less) F sc rfl fun cdv A outer s H E hr hgd => ?_⟩
  have hu := good_u (k := 2) hr
  exact (psd_one (psd_ret (pd_def rfl (fun _ _ => gP_len) (pe_callG H_made.ok (hr.mono (by decide)) hgd rfl g_made H_made.F.kp H_made.b (pad_cons (pd_bin rfl (pe_op opSub_ok (pd_bin rfl (pe_op opMul_ok (pd_binL rfl (pe_ix opIx_ok (pv 0) pd_int (fun _ _ => rfl))) (pd_binL rfl (pe_ix opIx_ok (pv 1) pd_int (fun _ _ => rfl))))) (pd_bin rfl (pe_op opMul_ok (pd_binL rfl (pe_ix opIx_ok (pv 1) pd_int (fun _ _ => rfl))) (pd_binL rfl (pe_ix opIx_ok (pv 0) pd_int (fun _ _ => rfl))))))) (pad_cons (pd_bin rfl (pe_op opMul_ok (pd_binL rfl (pe_ix opIx_ok (pv 0) pd_int (fun _ _ => rfl))) (pd_binL rfl (pe_ix opIx_ok (pv 1) pd_int (fun _ _ => rfl))))) pad_nil))))))
theorem sc_plus : FnScope ["one", "other"] ["one", "other"] (defScope s_plus) := ⟨rfl, rfl, rfl, by decide +kernel, rfl, by decide +kernel, by decide +kernel⟩
theorem ok_plus (T : Tp fa fn K mg) : ∃ fd, Has P w K mg base d_plus ["one", "other"] 4 (spP K 2 G_plus) fd := by
  have g_made := T.glo 34 (x := "made")
  obtain ⟨fd_made, H_made⟩ := ok_made (P := P) (w := w) (base := base) T
  obtain ⟨fd, F0⟩ := T.c.def_ 36 (d := d_plus) rfl
  have F : FunD K d_plus.name d_plus.qual d_plus.params d_plus.body d_plus.scope [] [] (He.fAd K d_plus.at_) fd := F0
  have bd : Binds K fd ["one", "other"] [] := F.bindsN fun _ _ _ _ _ _ us hl => match us, hl with | [_, _], _ => rfl
  have sc := sc_plus
  refine ⟨fd, F, bd, def_ok (n := 2) (N := ["one", "other"]) (fb := B_plus) F sc rfl fun cdv A outer s H E hr hgd => ?_⟩
  have hu := good_u (k := 2) hr
  exact (psd_one (psd_ret (pd_def rfl (fun _ _ => gP_len) (pe_callG H_made.ok (hr.mono (by decide)) hgd rfl g_made H_made.F.kp H_made.b (pad_cons (pd_bin rfl (pe_op opAdd_ok (pd_bin rfl (pe_op opMul_ok (pd_binL rfl (pe_ix opIx_ok (pv 0) pd_int (fun _ _ => rfl))) (pd_binL rfl (pe_ix opIx_ok (pv 1) pd_int (fun _ _ => rfl))))) (pd_bin rfl (pe_op opMul_ok (pd_binL rfl (pe_ix opIx_ok (pv 1) pd_int (fun _ _ => rfl))) (pd_binL rfl (pe_ix opIx_ok (pv 0) pd_int (fun _ _ => rfl))))))) (pad_cons (pd_bin rfl (pe_op opMul_ok (pd_binL rfl (pe_ix opIx_ok (pv 0) pd_int (fun _ _ => rfl))) (pd_binL rfl (pe_ix opIx_ok (pv 1) pd_int (fun _ _ => rfl))))) pad_nil))))))
theorem sc_total_of : FnScope ["fractions", "found", "one"] ["fractions"] (defScope s_total_of) := ⟨rfl, rfl, rfl, by decide +kernel, rfl, by decide +kernel, by decide +kernel⟩
theorem ok_total_of (T : Tp fa fn K mg) : ∃ fd, Has P w K mg base d_total_of ["fractions"] 5 (spP K 1 G_total_of) fd := by
  have g_plus := T.glo 36 (x := "plus")
  obtain ⟨fd_plus, H_plus⟩ := ok_plus (P := P) (w := w) (base := base) T
  obtain ⟨fd, F0⟩ := T.c.def_ 37 (d := d_total_of) rfl
  have F : FunD K d_total_of.name d_total_of.qual d_total_of.params d_total_of.body d_total_of.scope [] [] (He.fAd K d_total_of.at_) fd := F0
  have bd : Binds K fd ["fractions"] [] := F.bindsN fun _ _ _ _ _ _ us hl => match us, hl with | [_], _ => rfl
  have sc := sc_total_of
  refine ⟨fd, F, bd, def_ok (n := 1) (N := ["fractions", "found", "one"]) (fb := B_total_of) F sc rfl fun cdv A outer s H E hr hgd => ?_⟩
  have hu := good_u (k := 3) hr
  exact (psd_cons (psd_set (by decide) (ps_set sc.nd rfl (by first | exact Or.inl rfl | exact Or.inr rfl) (pd_tup (pad_cons pd_int (pad_cons pd_int pad_nil)))))
    (psd_cons (psd_forV (by decide) (ps_for PassesOwn.never rfl (pid_seqV rfl (pv 0)) (pgd_name (pg_name sc.nd rfl (by first | exact Or.inl rfl | exact Or.inr rfl))) (psd_one (psd_set (by decide) (ps_set sc.nd rfl (by first | exact Or.inl rfl | exact Or.inr rfl) (pd_def rfl (fun _ _ => gP_len) (pe_callG H_plus.ok (hr.mono (by decide)) hgd rfl g_plus H_plus.F.kp H_plus.b (pad_cons (pd_v (pv 1)) (pad_cons (pd_v (pv 2)) pad_nil)))))))))
    (psd_one (psd_retV (pv 1)))))
theorem sc_blocked : FnScope ["sale", "paid", "lots", "kept", "row", "lot", "part", "whole", "found", "mask", "some", "person", "top", "here"] ["sale", "paid"] (defScope s_blocked) := ⟨rfl, rfl, rfl, by decide +kernel, rfl, by decide +kernel, by decide +kernel⟩
theorem ok_blocked (T : Tp fa fn K mg) : ∃ fd, Has P w K mg base d_blocked ["sale", "paid"] 7 (spP K 2 G_blocked) fd := by
  have m_len := T.free 44 (x := "len")
  have m_list := T.free 52 (x := "list")
  have m_range := T.free 47 (x := "range")
  have m_tuple := T.free 50 (x := "tuple")
  have m_zip := T.free 49 (x := "zip")
  have g_are_amounts := T.glo 31 (x := "are_amounts")
  obtain ⟨fd_are_amounts, H_are_amounts⟩ := ok_are_amounts (P := P) (w := w) (base := base) T
  have g_best_of := T.glo 22 (x := "best_of")
  obtain ⟨fd_best_of, H_best_of⟩ := ok_best_of (P := P) (w := w) (base := base) T
  have g_check_sale := T.glo 19 (x := "check_sale")
  obtain ⟨fd_check_sale, H_check_sale⟩ := ok_check_sale (P := P) (w := w) (base := base) T
  have g_has_thing := T.glo 32 (x := "has_thing")
  obtain ⟨fd_has_thing, H_has_thing⟩ := ok_has_thing (P := P) (w := w) (base := base) T
  have g_is_below := T.glo 33 (x := "is_below")
  obtain ⟨fd_is_below, H_is_below⟩ := ok_is_below (P := P) (w := w) (base := base) T
  have g_less := T.glo 35 (x := "less")
  obtain ⟨fd_less, H_less⟩ := ok_less (P := P) (w := w) (base := base) T
  have g_total_of := T.glo 37 (x := "total_of")
  obtain ⟨fd_total_of, H_total_of⟩ := ok_total_of (P := P) (w := w) (base := base) T
  obtain ⟨fd, F0⟩ := T.c.def_ 38 (d := d_blocked) rfl
  have F : FunD K d_blocked.name d_blocked.qual d_blocked.params d_blocked.body d_blocked.scope [] [] (He.fAd K d_blocked.at_) fd := F0
  have bd : Binds K fd ["sale", "paid"] [] := F.bindsN fun _ _ _ _ _ _ us hl => match us, hl with | [_, _], _ => rfl
  have sc := sc_blocked
  refine ⟨fd, F, bd, def_ok (n := 2) (N := ["sale", "paid", "lots", "kept", "row", "lot", "part", "whole", "found", "mask", "some", "person", "top", "here"]) (fb := B_blocked) F sc rfl fun cdv A outer s H E hr hgd => ?_⟩
  have hu := good_u (k := 5) hr
  exact (psd_cons (psd_expr (pd_def rfl (fun _ _ => gP_len) (pe_callG H_check_sale.ok (hr.mono (by decide)) hgd rfl g_check_sale H_check_sale.F.kp H_check_sale.b (pad_cons (pd_v (pv 0)) pad_nil))))
    (psd_cons (psd_if (ptd_not (ptd_tru rfl (pd_def rfl (fun _ _ => gP_len) (pe_callG H_are_amounts.ok (hr.mono (by decide)) hgd rfl g_are_amounts H_are_amounts.F.kp H_are_amounts.b (pad_cons (pd_v (pv 1)) (pad_cons (pd_call rfl (pe_callB bLen_ok rfl m_len PySem.boot_len (pad_cons (pd_binL rfl (pe_ix opIx_ok (pv 0) pd_int (fun _ _ => rfl))) pad_nil))) pad_nil)))))) (psd_one psd_never) psd_nil)
    (psd_cons (psd_set (by decide) (ps_set sc.nd rfl (by first | exact Or.inl rfl | exact Or.inr rfl) (pd_bin rfl (pe_ix opIx_ok (pd_def rfl (fun _ _ => gP_len) (pe_callG H_best_of.ok (hr.mono (by decide)) hgd rfl g_best_of H_best_of.F.kp H_best_of.b (pad_cons (pd_binL rfl (pe_ix opIx_ok (pv 0) pd_int (fun _ _ => rfl))) (pad_cons (pd_binL rfl (pe_ix opIx_ok (pv 0) pd_int (fun _ _ => rfl))) pad_nil)))) pd_int (fun _ _ => rfl)))))
    (psd_cons (psd_set (by decide) (ps_set sc.nd rfl (by first | exact Or.inl rfl | exact Or.inr rfl) (pd_comp (C' := cnN K) (ws := [4, 5, 6]) (own := [4, 5, 6]) rfl (by decide) (by decide) (pe_lc rfl sc.nd (pid_zip3 rfl (pi_zip3 rfl m_zip (pa_cons (pd_binL rfl (pe_ix opIx_ok (pv 0) pd_int (fun _ _ => rfl))) (pa_cons (pd_v (pv 2)) (pa_cons (pd_v (pv 1)) pa_nil))))) (own := [("row", 4), ("lot", 5), ("part", 6)]) (blkOk_by (by kernel_rfl)) (fun _ _ _ _ _ => (pgd_tup rfl rfl (pgsd_cons (pgd_name (pg_name sc.nd rfl (by first | exact Or.inl rfl | exact Or.inr rfl))) (pgsd_cons (pgd_name (pg_name sc.nd rfl (by first | exact Or.inl rfl | exact Or.inr rfl))) (pgsd_cons (pgd_name (pg_name sc.nd rfl (by first | exact Or.inl rfl | exact Or.inr rfl))) pgsd_nil))))) (fun _ _ _ _ _ => ptsd_nil) (fun _ _ _ _ _ => (pd_def rfl (fun _ _ => gP_len) (pe_callG H_less.ok (hr.mono (by decide)) hgd rfl g_less H_less.F.kp H_less.b (pad_cons (pd_tup (pad_cons (pd_binLR rfl (pe_ix opIx_ok (pv 4) (pv 5) (fun _ _ => rfl))) (pad_cons pd_int pad_nil))) (pad_cons (pd_v (pv 6)) pad_nil)))))))))
    (psd_cons (psd_par (by decide) (by decide) (ps_par rfl sc.nd rfl rfl (by decide) rfl rfl (pad_cons (pd_def rfl (fun _ _ => gP_len) (pe_callG H_total_of.ok (hr.mono (by decide)) hgd rfl g_total_of H_total_of.F.kp H_total_of.b (pad_cons (pd_callV rfl (pe_callTy bList_ok rfl m_list PyProof.Rows.boot_list (pa_cons (pv 1) pa_nil))) pad_nil))) (pad_cons pd_none pad_nil)) (by rfl)))
    (psd_cons (psd_for (by decide) (ps_for PassesOwn.never rfl (pid_r1 (pi_range1 rfl m_range (pa_cons (pd_bin rfl (pe_op opShl_ok pd_int (pd_call rfl (pe_callB bLen_ok rfl m_len PySem.boot_len (pad_cons (pd_binL rfl (pe_ix opIx_ok (pv 0) pd_int (fun _ _ => rfl))) pad_nil))))) pa_nil))) (pgd_name (pg_name sc.nd rfl (by first | exact Or.inl rfl | exact Or.inr rfl))) (psd_cons (psd_set (by decide) (ps_set sc.nd rfl (by first | exact Or.inl rfl | exact Or.inr rfl) (pd_call rfl (pe_callTy bTuple_ok rfl m_tuple PyProof.Rows.boot_tuple (pad_cons (pd_comp (C' := cnN K) (ws := [11]) (own := [11]) rfl (by decide) (by decide) (pe_lc rfl sc.nd (pid_r1 (pi_range1 rfl m_range (pa_cons (pd_call rfl (pe_callB bLen_ok rfl m_len PySem.boot_len (pad_cons (pd_binL rfl (pe_ix opIx_ok (pv 0) pd_int (fun _ _ => rfl))) pad_nil))) pa_nil))) (own := [("person", 11)]) (blkOk_by (by kernel_rfl)) (fun _ _ _ _ _ => (pgd_name (pg_name sc.nd rfl (by first | exact Or.inl rfl | exact Or.inr rfl)))) (fun _ _ _ _ _ => (ptsd_one (ptd_tru rfl (pd_def rfl (fun _ _ => gP_len) (pe_callG H_has_thing.ok (hr.mono (by decide)) hgd rfl g_has_thing H_has_thing.F.kp H_has_thing.b (pad_cons (pd_v (pv 9)) (pad_cons (pd_v (pv 11)) pad_nil))))))) (fun _ _ _ _ _ => (pd_v (pv 11))))) pad_nil)))))
    (psd_cons (psd_set (by decide) (ps_set sc.nd rfl (by first | exact Or.inl rfl | exact Or.inr rfl) (pd_if (ptb_bin rfl (pt_cmpR (opGt_ok ⟨rfl, hu, hgd⟩) (pd_callV rfl (pe_callB bLen_ok rfl m_len PySem.boot_len (pa_cons (pv 10) pa_nil))) pd_int (by rfl))) (pd_bin rfl (pe_ix opIx_ok (pd_def rfl (fun _ _ => gP_len) (pe_callG H_best_of.ok (hr.mono (by decide)) hgd rfl g_best_of H_best_of.F.kp H_best_of.b (pad_cons (pd_binL rfl (pe_ix opIx_ok (pv 0) pd_int (fun _ _ => rfl))) (pad_cons (pd_call rfl (pe_callTy bTuple_ok rfl m_tuple PyProof.Rows.boot_tuple (pad_cons (pd_compV (C' := cnN K) (ws := [11]) (own := [11]) rfl (by decide) (by decide) (pe_lc rfl sc.nd (pid_seqV rfl (pv 10)) (own := [("person", 11)]) (blkOk_by (by kernel_rfl)) (fun _ _ _ _ _ => (pgd_name (pg_name sc.nd rfl (by first | exact Or.inl rfl | exact Or.inr rfl)))) (fun _ _ _ _ _ => ptsd_nil) (fun _ _ _ _ _ => (pd_binR rfl (pe_ix opIx_ok (pd_binL rfl (pe_ix opIx_ok (pv 0) pd_int (fun _ _ => rfl))) (pv 11) (fun _ _ => rfl)))))) pad_nil))) pad_nil)))) pd_int (fun _ _ => rfl))) pd_int)))
    (psd_cons (psd_set (by decide) (ps_set sc.nd rfl (by first | exact Or.inl rfl | exact Or.inr rfl) (pd_def rfl (fun _ _ => gP_len) (pe_callG H_less.ok (hr.mono (by decide)) hgd rfl g_less H_less.F.kp H_less.b (pad_cons (pd_tup (pad_cons (pd_v (pv 12)) (pad_cons pd_int pad_nil))) (pad_cons (pd_def rfl (fun _ _ => gP_len) (pe_callG H_total_of.ok (hr.mono (by decide)) hgd rfl g_total_of H_total_of.F.kp H_total_of.b (pad_cons (pd_compV (C' := cnN K) (ws := [11]) (own := [11]) rfl (by decide) (by decide) (pe_lc rfl sc.nd (pid_seqV rfl (pv 10)) (own := [("person", 11)]) (blkOk_by (by kernel_rfl)) (fun _ _ _ _ _ => (pgd_name (pg_name sc.nd rfl (by first | exact Or.inl rfl | exact Or.inr rfl)))) (fun _ _ _ _ _ => ptsd_nil) (fun _ _ _ _ _ => (pd_binLR rfl (pe_ix opIx_ok (pv 3) (pv 11) (fun _ _ => rfl)))))) pad_nil))) pad_nil))))))
    (psd_one (psd_if (ptd_tru rfl (pd_def rfl (fun _ _ => gP_len) (pe_callG H_is_below.ok (hr.mono (by decide)) hgd rfl g_is_below H_is_below.F.kp H_is_below.b (pad_cons (pd_v (pv 7)) (pad_cons (pd_v (pv 13)) pad_nil))))) (psd_one (psd_if (PW.pt (pwd_or (ptb_binL rfl (pt_cmpR opIs_ok (pv 8) pd_none (by rfl))) (pwd_or (ptd_tru rfl (pd_def rfl (fun _ _ => gP_len) (pe_callG H_is_below.ok (hr.mono (by decide)) hgd rfl g_is_below H_is_below.F.kp H_is_below.b (pad_cons (pd_binL rfl (pe_ix opIx_ok (pv 8) pd_int (fun _ _ => rfl))) (pad_cons (pd_v (pv 13)) pad_nil))))) (pwd_or1 (PW.pt (pwd_and (ptb_binR rfl (pt_cmpR (opEq_ok ⟨rfl, hu, hgd⟩) (pd_binL rfl (pe_ix opIx_ok (pv 8) pd_int (fun _ _ => rfl))) (pv 13) (by rfl))) (pwd_and1 (ptb_binL rfl (pt_cmpR (opLt_ok ⟨rfl, hu, hgd⟩) (pv 10) (pd_binL rfl (pe_ix opIx_ok (pv 8) pd_int (fun _ _ => rfl))) (by rfl)))))))))) (psd_one (psd_set (by decide) (ps_set sc.nd rfl (by first | exact Or.inl rfl | exact Or.inr rfl) (pd_tup (pad_cons (pd_v (pv 13)) (pad_cons (pd_v (pv 10)) pad_nil)))))) psd_nil)) psd_nil)))))))
    (psd_one (psd_ret (pd_if (ptb_binL rfl (pt_cmpR opIs_ok (pv 8) pd_none (by rfl))) pd_none (pd_binL rfl (pe_ix opIx_ok (pv 8) pd_int (fun _ _ => rfl))))))))))))
theorem sc_is_plain : FnScope ["sale", "row", "lot", "worth", "part"] ["sale"] (defScope s_is_plain) := ⟨rfl, rfl, rfl, by decide +kernel, rfl, by decide +kernel, by decide +kernel⟩
theorem ok_is_plain (T : Tp fa fn K mg) : ∃ fd, Has P w K mg base d_is_plain ["sale"] 7 (spP K 1 G_is_plain) fd := by
  have m_any := T.free 59 (x := "any")
  have m_enumerate := T.free 58 (x := "enumerate")
  have m_range := T.free 47 (x := "range")
  have g_check_sale := T.glo 19 (x := "check_sale")
  obtain ⟨fd_check_sale, H_check_sale⟩ := ok_check_sale (P := P) (w := w) (base := base) T
  obtain ⟨fd, F0⟩ := T.c.def_ 39 (d := d_is_plain) rfl
  have F : FunD K d_is_plain.name d_is_plain.qual d_is_plain.params d_is_plain.body d_is_plain.scope [] [] (He.fAd K d_is_plain.at_) fd := F0
  have bd : Binds K fd ["sale"] [] := F.bindsN fun _ _ _ _ _ _ us hl => match us, hl with | [_], _ => rfl
  have sc := sc_is_plain
  refine ⟨fd, F, bd, def_ok (n := 1) (N := ["sale", "row", "lot", "worth", "part"]) (fb := B_is_plain) F sc rfl fun cdv A outer s H E hr hgd => ?_⟩
  have hu := good_u (k := 5) hr
  exact (psd_cons (psd_expr (pd_def rfl (fun _ _ => gP_len) (pe_callG H_check_sale.ok (hr.mono (by decide)) hgd rfl g_check_sale H_check_sale.F.kp H_check_sale.b (pad_cons (pd_v (pv 0)) pad_nil))))
    (psd_cons (psd_for (by decide) (ps_for PassesOwn.never rfl (pid_seq rfl (pd_binL rfl (pe_ix opIx_ok (pv 0) pd_int (fun _ _ => rfl)))) (pgd_name (pg_name sc.nd rfl (by first | exact Or.inl rfl | exact Or.inr rfl))) (psd_one (psd_for (by decide) (ps_for PassesOwn.never rfl (pid_enum rfl (pi_enumA rfl m_enumerate (pa_cons (pd_v (pv 1)) pa_nil))) (pgd_tup rfl rfl (pgsd_cons (pgd_name (pg_name sc.nd rfl (by first | exact Or.inl rfl | exact Or.inr rfl))) (pgsd_cons (pgd_name (pg_name sc.nd rfl (by first | exact Or.inl rfl | exact Or.inr rfl))) pgsd_nil))) (psd_one (psd_if (ptd_tru rfl (pd_call rfl (pe_callB (bAny_ok ⟨rfl, hu, hgd⟩) rfl m_any PyProof.Rows.boot_any (pad_cons (pd_comp (C' := cnN K) (ws := [4]) (own := [4]) rfl (by decide) (by decide) (pe_lc rfl sc.nd (pid_r1 (pi_range1 rfl m_range (pa_cons (pd_v (pv 2)) pa_nil))) (own := [("part", 4)]) (blkOk_by (by kernel_rfl)) (fun _ _ _ _ _ => (pgd_name (pg_name sc.nd rfl (by first | exact Or.inl rfl | exact Or.inr rfl)))) (fun _ _ _ _ _ => ptsd_nil) (fun _ _ _ _ _ => (pd_and (pd_binR rfl (pe_cmpR (opEq_ok ⟨rfl, hu, hgd⟩) (pd_binLR rfl (pe_op opBand_ok (pv 4) (pv 2))) (pv 4) (by rfl))) (pd_one (pd_binR rfl (pe_cmpR (opLt_ok ⟨rfl, hu, hgd⟩) (pd_bin rfl (pe_op opAdd_ok (pd_binLR rfl (pe_ix opIx_ok (pv 1) (pv 4) (fun _ _ => rfl))) (pd_binL rfl (pe_ix opIx_ok (pv 1) (pd_binLR rfl (pe_op opSub_ok (pv 2) (pv 4))) (fun _ _ => rfl))))) (pv 3) (by rfl)))))))) pad_nil)))) (psd_one (psd_ret pd_bool)) psd_nil)))))))
    (psd_one (psd_ret pd_bool))))
theorem sc_check_person : FnScope ["sale", "person"] ["sale", "person"] (defScope s_check_person) := ⟨rfl, rfl, rfl, by decide +kernel, rfl, by decide +kernel, by decide +kernel⟩
theorem ok_check_person (T : Tp fa fn K mg) : ∃ fd, Has P w K mg base d_check_person ["sale", "person"] 7 (spP K 2 G_check_person) fd := by
  have m_len := T.free 44 (x := "len")
  have g_check_sale := T.glo 19 (x := "check_sale")
  obtain ⟨fd_check_sale, H_check_sale⟩ := ok_check_sale (P := P) (w := w) (base := base) T
  have g_is_within := T.glo 16 (x := "is_within")
  obtain ⟨fd_is_within, H_is_within⟩ := ok_is_within (P := P) (w := w) (base := base) T
  obtain ⟨fd, F0⟩ := T.c.def_ 40 (d := d_check_person) rfl
  have F : FunD K d_check_person.name d_check_person.qual d_check_person.params d_check_person.body d_check_person.scope [] [] (He.fAd K d_check_person.at_) fd := F0
  have bd : Binds K fd ["sale", "person"] [] := F.bindsN fun _ _ _ _ _ _ us hl => match us, hl with | [_, _], _ => rfl
  have sc := sc_check_person
  refine ⟨fd, F, bd, def_ok (n := 2) (N := ["sale", "person"]) (fb := B_check_person) F sc rfl fun cdv A outer s H E hr hgd => ?_⟩
  have hu := good_u (k := 5) hr
  exact (psd_cons (psd_expr (pd_def rfl (fun _ _ => gP_len) (pe_callG H_check_sale.ok (hr.mono (by decide)) hgd rfl g_check_sale H_check_sale.F.kp H_check_sale.b (pad_cons (pd_v (pv 0)) pad_nil))))
    (psd_one (psd_if (ptd_not (ptd_tru rfl (pd_def rfl (fun _ _ => gP_len) (pe_callG H_is_within.ok (hr.mono (by decide)) hgd rfl g_is_within H_is_within.F.kp H_is_within.b (pad_cons (pd_v (pv 1)) (pad_cons pd_int (pad_cons (pd_bin rfl (pe_op opSub_ok (pd_call rfl (pe_callB bLen_ok rfl m_len PySem.boot_len (pad_cons (pd_binL rfl (pe_ix opIx_ok (pv 0) pd_int (fun _ _ => rfl))) pad_nil))) pd_int)) pad_nil))))))) (psd_one psd_never) psd_nil)))
theorem sc_worth_alone : FnScope ["sale", "person", "thing"] ["sale", "person"] (defScope s_worth_alone) := ⟨rfl, rfl, rfl, by decide +kernel, rfl, by decide +kernel, by decide +kernel⟩
theorem ok_worth_alone (T : Tp fa fn K mg) : ∃ fd, Has P w K mg base d_worth_alone ["sale", "person"] 8 (spP K 2 G_worth_alone) fd := by
  have m_range := T.free 47 (x := "range")
  have m_tuple := T.free 50 (x := "tuple")
  have g_check_person := T.glo 40 (x := "check_person")
  obtain ⟨fd_check_person, H_check_person⟩ := ok_check_person (P := P) (w := w) (base := base) T
  obtain ⟨fd, F0⟩ := T.c.def_ 41 (d := d_worth_alone) rfl
  have F : FunD K d_worth_alone.name d_worth_alone.qual d_worth_alone.params d_worth_alone.body d_worth_alone.scope [] [] (He.fAd K d_worth_alone.at_) fd := F0
  have bd : Binds K fd ["sale", "person"] [] := F.bindsN fun _ _ _ _ _ _ us hl => match us, hl with | [_, _], _ => rfl
  have sc := sc_worth_alone
  refine ⟨fd, F, bd, def_ok (n := 2) (N := ["sale", "person", "thing"]) (fb := B_worth_alone) F sc rfl fun cdv A outer s H E hr hgd => ?_⟩
  have hu := good_u (k := 6) hr
  exact (psd_cons (psd_expr (pd_def rfl (fun _ _ => gP_len) (pe_callG H_check_person.ok (hr.mono (by decide)) hgd rfl g_check_person H_check_person.F.kp H_check_person.b (pad_cons (pd_v (pv 0)) (pad_cons (pd_v (pv 1)) pad_nil)))))
    (psd_one (psd_ret (pd_call rfl (pe_callTy bTuple_ok rfl m_tuple PyProof.Rows.boot_tuple (pad_cons (pd_comp (C' := cnN K) (ws := [2]) (own := [2]) rfl (by decide) (by decide) (pe_lc rfl sc.nd (pid_r1 (pi_range1 rfl m_range (pa_cons (pd_binL rfl (pe_ix opIx_ok (pv 0) pd_int (fun _ _ => rfl))) pa_nil))) (own := [("thing", 2)]) (blkOk_by (by kernel_rfl)) (fun _ _ _ _ _ => (pgd_name (pg_name sc.nd rfl (by first | exact Or.inl rfl | exact Or.inr rfl)))) (fun _ _ _ _ _ => ptsd_nil) (fun _ _ _ _ _ => (pd_bin rfl (pe_ix opIx_ok (pd_binR rfl (pe_ix opIx_ok (pd_binL rfl (pe_ix opIx_ok (pv 0) pd_int (fun _ _ => rfl))) (pv 1) (fun _ _ => rfl))) (pd_binR rfl (pe_op opShl_ok pd_int (pv 2))) (fun _ _ => rfl)))))) pad_nil))))))
theorem sc__law_is_right : FnScope ["hand", "sale", "things", "rows", "some", "paid", "lap", "due", "row", "lot", "one", "plain", "part", "person", "bit"] ["hand", "sale"] (defScope s__law_is_right) := ⟨rfl, rfl, rfl, by decide +kernel, rfl, by decide +kernel, by decide +kernel⟩
theorem ok__law_is_right (T : Tp fa fn K mg) : ∃ fd, Has P w K mg base d__law_is_right ["hand", "sale"] 9 (spIO K 2 G__law_is_right) fd := by
  have m_len := T.free 44 (x := "len")
  have m_range := T.free 47 (x := "range")
  have m_repr := T.free 60 (x := "repr")
  have m_tuple := T.free 50 (x := "tuple")
  have m_zip := T.free 49 (x := "zip")
  have g__law_blocked := T.glo 13 (x := "_law_blocked")
  obtain ⟨fd__law_blocked, H__law_blocked⟩ := ok__law_blocked (P := P) (w := w) (base := base) T
  have g__law_draw := T.glo 0 (x := "_law_draw")
  obtain ⟨fd__law_draw, H__law_draw⟩ := ok__law_draw (P := P) (w := w) (base := base) T
  have g__law_has := T.glo 2 (x := "_law_has")
  obtain ⟨fd__law_has, H__law_has⟩ := ok__law_has (P := P) (w := w) (base := base) T
  have g__law_paid := T.glo 25 (x := "_law_paid")
  obtain ⟨fd__law_paid, H__law_paid⟩ := ok__law_paid (P := P) (w := w) (base := base) T
  have g_best := T.glo 26 (x := "best")
  obtain ⟨fd_best, H_best⟩ := ok_best (P := P) (w := w) (base := base) T
  have g_blocked := T.glo 38 (x := "blocked")
  obtain ⟨fd_blocked, H_blocked⟩ := ok_blocked (P := P) (w := w) (base := base) T
  have g_is_plain := T.glo 39 (x := "is_plain")
  obtain ⟨fd_is_plain, H_is_plain⟩ := ok_is_plain (P := P) (w := w) (base := base) T
  have g_payments := T.glo 24 (x := "payments")
  obtain ⟨fd_payments, H_payments⟩ := ok_payments (P := P) (w := w) (base := base) T
  have g_worth_alone := T.glo 41 (x := "worth_alone")
  obtain ⟨fd_worth_alone, H_worth_alone⟩ := ok_worth_alone (P := P) (w := w) (base := base) T
  obtain ⟨fd, F0⟩ := T.c.def_ 42 (d := d__law_is_right) rfl
  have F : FunD K d__law_is_right.name d__law_is_right.qual d__law_is_right.params d__law_is_right.body d__law_is_right.scope [] [] (He.fAd K d__law_is_right.at_) fd := F0
  have bd : Binds K fd ["hand", "sale"] [] := F.bindsN fun _ _ _ _ _ _ us hl => match us, hl with | [_, _], _ => rfl
  have sc := sc__law_is_right
  refine ⟨fd, F, bd, def_okIO (n := 2) (N := ["hand", "sale", "things", "rows", "some", "paid", "lap", "due", "row", "lot", "one", "plain", "part", "person", "bit"]) (fb := B__law_is_right) F sc rfl fun cdv A outer s H E hr hgd => ?_⟩
  have hu := good_u (k := 7) hr
  exact (psd_cons (psd_asg (by decide) (ps_asg (pd_v (pv 1)) (pgd_tup rfl rfl (pgsd_cons (pgd_name (pg_name sc.nd rfl (by first | exact Or.inl rfl | exact Or.inr rfl))) (pgsd_cons (pgd_name (pg_name sc.nd rfl (by first | exact Or.inl rfl | exact Or.inr rfl))) pgsd_nil)))))
    (psd_cons (psd_set (by decide) (ps_set sc.nd rfl (by first | exact Or.inl rfl | exact Or.inr rfl) (pd_bin rfl (pe_ix opIx_ok (pd_def rfl (fun _ _ => gP_len) (pe_callG H_best.ok (hr.mono (by decide)) hgd rfl g_best H_best.F.kp H_best.b (pad_cons (pd_v (pv 1)) pad_nil))) pd_int (fun _ _ => rfl)))))
    (psd_cons (psd_for (by decide) (ps_for PassesOwn.never rfl (pid_seq rfl (pd_comp (C' := cnN K) (ws := [6]) (own := [6]) rfl (by decide) (by decide) (pe_lc rfl sc.nd (pid_r1 (pi_range1 rfl m_range (pa_cons pd_int pa_nil))) (own := [("lap", 6)]) (blkOk_by (by kernel_rfl)) (fun _ _ _ _ _ => (pgd_name (pg_name sc.nd rfl (by first | exact Or.inl rfl | exact Or.inr rfl)))) (fun _ _ _ _ _ => ptsd_nil) (fun _ _ _ _ _ => (pd_defIO rfl (fun _ _ _ => gIO_len) (pe_callG H__law_paid.ok (hr.mono (by decide)) hgd rfl g__law_paid H__law_paid.F.kp H__law_paid.b (pa_cons (pv 0) (pad_cons (pd_v (pv 1)) pad_nil)))))))) (pgd_name (pg_name sc.nd rfl (by first | exact Or.inl rfl | exact Or.inr rfl))) (psd_cons (psd_set (by decide) (ps_set sc.nd rfl (by first | exact Or.inl rfl | exact Or.inr rfl) (pd_def rfl (fun _ _ => gP_len) (pe_callG H__law_blocked.ok (hr.mono (by decide)) hgd rfl g__law_blocked H__law_blocked.F.kp H__law_blocked.b (pad_cons (pd_v (pv 1)) (pad_cons (pd_v (pv 5)) pad_nil))))))
    (psd_one (psd_if (ptb_bin rfl (pt_cmpR opNeS_ok (pd_call rfl (pe_callB (bRepr_ok ⟨rfl, hu, hgd⟩) rfl m_repr PyProof.Rows.bootS_repr (pad_cons (pd_lst (pad_cons (pd_def rfl (fun _ _ => gP_len) (pe_callG H_blocked.ok (hr.mono (by decide)) hgd rfl g_blocked H_blocked.F.kp H_blocked.b (pad_cons (pd_v (pv 1)) (pad_cons (pd_v (pv 5)) pad_nil)))) (pad_cons (pd_def rfl (fun _ _ => gP_len) (pe_callG H_blocked.ok (hr.mono (by decide)) hgd rfl g_blocked H_blocked.F.kp H_blocked.b (pad_cons (pd_v (pv 1)) (pad_cons (pd_v (pv 5)) pad_nil)))) pad_nil))) pad_nil))) (pd_call rfl (pe_callB (bRepr_ok ⟨rfl, hu, hgd⟩) rfl m_repr PyProof.Rows.bootS_repr (pad_cons (pd_lst (pad_cons (pd_v (pv 7)) (pad_cons (pd_v (pv 7)) pad_nil))) pad_nil))) (by rfl))) (psd_one (psd_ret pd_bool)) psd_nil)))))
    (psd_cons (psd_if (ptb_bin rfl (pt_cmpR opIsNot_ok (pd_def rfl (fun _ _ => gP_len) (pe_callG H_blocked.ok (hr.mono (by decide)) hgd rfl g_blocked H_blocked.F.kp H_blocked.b (pad_cons (pd_v (pv 1)) (pad_cons (pd_call rfl (pe_callTy bTuple_ok rfl m_tuple PyProof.Rows.boot_tuple (pad_cons (pd_comp (C' := cnN K) (ws := [8, 9]) (own := [8, 9]) rfl (by decide) (by decide) (pe_lc rfl sc.nd (pid_zipM rfl (pi_zipM rfl m_zip (pa_cons (pd_v (pv 3)) (pa_cons (pd_v (pv 4)) pa_nil)))) (own := [("row", 8), ("lot", 9)]) (blkOk_by (by kernel_rfl)) (fun _ _ _ _ _ => (pgd_tup rfl rfl (pgsd_cons (pgd_name (pg_name sc.nd rfl (by first | exact Or.inl rfl | exact Or.inr rfl))) (pgsd_cons (pgd_name (pg_name sc.nd rfl (by first | exact Or.inl rfl | exact Or.inr rfl))) pgsd_nil)))) (fun _ _ _ _ _ => ptsd_nil) (fun _ _ _ _ _ => (pd_tup (pad_cons (pd_binLR rfl (pe_ix opIx_ok (pv 8) (pv 9) (fun _ _ => rfl))) (pad_cons pd_int pad_nil)))))) pad_nil))) pad_nil)))) pd_none (by rfl))) (psd_one (psd_ret pd_bool)) psd_nil)
    (psd_cons (psd_if (PW.pt (pwd_and (ptb_binL rfl (pt_cmpR (opEq_ok ⟨rfl, hu, hgd⟩) (pv 2) pd_int (by rfl))) (pwd_and1 (ptb_bin rfl (pt_cmpR opIsNot_ok (pd_def rfl (fun _ _ => gP_len) (pe_callG H_blocked.ok (hr.mono (by decide)) hgd rfl g_blocked H_blocked.F.kp H_blocked.b (pad_cons (pd_v (pv 1)) (pad_cons (pd_call rfl (pe_callTy bTuple_ok rfl m_tuple PyProof.Rows.boot_tuple (pad_cons (pd_comp (C' := cnN K) (ws := [10]) (own := [10]) rfl (by decide) (by decide) (pe_lc rfl sc.nd (pid_seq rfl (pd_def rfl (fun _ _ => gP_len) (pe_callG H_payments.ok (hr.mono (by decide)) hgd rfl g_payments H_payments.F.kp H_payments.b (pad_cons (pd_v (pv 1)) pad_nil)))) (own := [("one", 10)]) (blkOk_by (by kernel_rfl)) (fun _ _ _ _ _ => (pgd_name (pg_name sc.nd rfl (by first | exact Or.inl rfl | exact Or.inr rfl)))) (fun _ _ _ _ _ => ptsd_nil) (fun _ _ _ _ _ => (pd_tup (pad_cons (pd_v (pv 10)) (pad_cons pd_int pad_nil)))))) pad_nil))) pad_nil)))) pd_none (by rfl)))))) (psd_one (psd_ret pd_bool)) psd_nil)
    (psd_cons (psd_set (by decide) (ps_set sc.nd rfl (by first | exact Or.inl rfl | exact Or.inr rfl) pd_bool))
    (psd_cons (psd_forV (by decide) (ps_for PassesOwn.never rfl (pid_seqV rfl (pv 3)) (pgd_name (pg_name sc.nd rfl (by first | exact Or.inl rfl | exact Or.inr rfl))) (psd_one (psd_for (by decide) (ps_for PassesOwn.never rfl (pid_r1 (pi_range1 rfl m_range (pa_cons (pd_callV rfl (pe_callB bLen_ok rfl m_len PySem.boot_len (pa_cons (pv 8) pa_nil))) pa_nil))) (pgd_name (pg_name sc.nd rfl (by first | exact Or.inl rfl | exact Or.inr rfl))) (psd_one (psd_for (by decide) (ps_for PassesOwn.never rfl (pid_r1 (pi_range1 rfl m_range (pa_cons (pd_v (pv 9)) pa_nil))) (pgd_name (pg_name sc.nd rfl (by first | exact Or.inl rfl | exact Or.inr rfl))) (psd_one (psd_if (PW.pt (pwd_and (ptd_tru rfl (pd_def rfl (fun _ _ => gP_len) (pe_callG H__law_has.ok (hr.mono (by decide)) hgd rfl g__law_has H__law_has.F.kp H__law_has.b (pad_cons (pd_v (pv 9)) (pad_cons (pd_v (pv 12)) pad_nil))))) (pwd_and1 (ptb_bin rfl (pt_cmpR (opLt_ok ⟨rfl, hu, hgd⟩) (pd_bin rfl (pe_op opAdd_ok (pd_binLR rfl (pe_ix opIx_ok (pv 8) (pv 12) (fun _ _ => rfl))) (pd_binL rfl (pe_ix opIx_ok (pv 8) (pd_binLR rfl (pe_op opSub_ok (pv 9) (pv 12))) (fun _ _ => rfl))))) (pd_binLR rfl (pe_ix opIx_ok (pv 8) (pv 9) (fun _ _ => rfl))) (by rfl)))))) (psd_one (psd_set (by decide) (ps_set sc.nd rfl (by first | exact Or.inl rfl | exact Or.inr rfl) pd_bool))) psd_nil))))))))))
    (psd_cons (psd_if (ptb_bin rfl (pt_cmpR opNeS_ok (pd_call rfl (pe_callB (bRepr_ok ⟨rfl, hu, hgd⟩) rfl m_repr PyProof.Rows.bootS_repr (pad_cons (pd_def rfl (fun _ _ => gP_len) (pe_callG H_is_plain.ok (hr.mono (by decide)) hgd rfl g_is_plain H_is_plain.F.kp H_is_plain.b (pad_cons (pd_v (pv 1)) pad_nil))) pad_nil))) (pd_callV rfl (pe_callB (bRepr_ok ⟨rfl, hu, hgd⟩) rfl m_repr PyProof.Rows.bootS_repr (pa_cons (pv 11) pa_nil))) (by rfl))) (psd_one (psd_ret pd_bool)) psd_nil)
    (psd_cons (psd_set (by decide) (ps_set sc.nd rfl (by first | exact Or.inl rfl | exact Or.inr rfl) (pd_defIO rfl (fun _ _ _ => gIO_len) (pe_callG H__law_draw.ok (hr.mono (by decide)) hgd rfl g__law_draw H__law_draw.F.kp H__law_draw.b (pa_cons (pv 0) (pad_cons (pd_callV rfl (pe_callB bLen_ok rfl m_len PySem.boot_len (pa_cons (pv 3) pa_nil))) pad_nil))))))
    (psd_one (psd_ret (pd_bin rfl (pe_cmpR opEqS_ok (pd_call rfl (pe_callB (bRepr_ok ⟨rfl, hu, hgd⟩) rfl m_repr PyProof.Rows.bootS_repr (pad_cons (pd_def rfl (fun _ _ => gP_len) (pe_callG H_worth_alone.ok (hr.mono (by decide)) hgd rfl g_worth_alone H_worth_alone.F.kp H_worth_alone.b (pad_cons (pd_v (pv 1)) (pad_cons (pd_v (pv 13)) pad_nil)))) pad_nil))) (pd_call rfl (pe_callB (bRepr_ok ⟨rfl, hu, hgd⟩) rfl m_repr PyProof.Rows.bootS_repr (pad_cons (pd_call rfl (pe_callTy bTuple_ok rfl m_tuple PyProof.Rows.boot_tuple (pad_cons (pd_comp (C' := cnN K) (ws := [14]) (own := [14]) rfl (by decide) (by decide) (pe_lc rfl sc.nd (pid_seq rfl (pd_sl rfl (pd_tup (pad_cons pd_int (pad_cons pd_int (pad_cons pd_int pad_nil)))) pod_none (pod_some (pd_v (pv 2))))) (own := [("bit", 14)]) (blkOk_by (by kernel_rfl)) (fun _ _ _ _ _ => (pgd_name (pg_name sc.nd rfl (by first | exact Or.inl rfl | exact Or.inr rfl)))) (fun _ _ _ _ _ => ptsd_nil) (fun _ _ _ _ _ => (pd_binR rfl (pe_ix opIx_ok (pd_binLR rfl (pe_ix opIx_ok (pv 3) (pv 13) (fun _ _ => rfl))) (pv 14) (fun _ _ => rfl)))))) pad_nil))) pad_nil))) (by rfl))))))))))))))
theorem sc_law : FnScope ["script", "hand", "sale", "lap"] ["script"] (defScope s_law) := ⟨rfl, rfl, rfl, by decide +kernel, rfl, by decide +kernel, by decide +kernel⟩
theorem ok_law (T : Tp fa fn K mg) : ∃ fd, Has P w K mg base d_law ["script"] 10 (spP K 1 G_law) fd := by
  have m_range := T.free 47 (x := "range")
  have g__law_drawn := T.glo 4 (x := "_law_drawn")
  obtain ⟨fd__law_drawn, H__law_drawn⟩ := ok__law_drawn (P := P) (w := w) (base := base) T
  have g__law_hand := T.glo 5 (x := "_law_hand")
  obtain ⟨fd__law_hand, H__law_hand⟩ := ok__law_hand (P := P) (w := w) (base := base) T
  have g__law_is_right := T.glo 42 (x := "_law_is_right")
  obtain ⟨fd__law_is_right, H__law_is_right⟩ := ok__law_is_right (P := P) (w := w) (base := base) T
  have g_blocked := T.glo 38 (x := "blocked")
  obtain ⟨fd_blocked, H_blocked⟩ := ok_blocked (P := P) (w := w) (base := base) T
  have g_is_plain := T.glo 39 (x := "is_plain")
  obtain ⟨fd_is_plain, H_is_plain⟩ := ok_is_plain (P := P) (w := w) (base := base) T
  have g_payments := T.glo 24 (x := "payments")
  obtain ⟨fd_payments, H_payments⟩ := ok_payments (P := P) (w := w) (base := base) T
  obtain ⟨fd, F0⟩ := T.c.def_ 43 (d := d_law) rfl
  have F : FunD K d_law.name d_law.qual d_law.params d_law.body d_law.scope [] [] (He.fAd K d_law.at_) fd := F0
  have bd : Binds K fd ["script"] [] := F.bindsN fun _ _ _ _ _ _ us hl => match us, hl with | [_], _ => rfl
  have sc := sc_law
  refine ⟨fd, F, bd, def_ok (n := 1) (N := ["script", "hand", "sale", "lap"]) (fb := B_law) F sc rfl fun cdv A outer s H E hr hgd => ?_⟩
  have hu := good_u (k := 8) hr
  exact (psd_cons (psd_set (by decide) (ps_set sc.nd rfl (by first | exact Or.inl rfl | exact Or.inr rfl) (pd_def rfl (fun _ _ => gP_len) (pe_callG H__law_hand.ok (hr.mono (by decide)) hgd rfl g__law_hand H__law_hand.F.kp H__law_hand.b (pad_cons (pd_v (pv 0)) pad_nil)))))
    (psd_cons (psd_set (by decide) (ps_set sc.nd rfl (by first | exact Or.inl rfl | exact Or.inr rfl) (pd_tup (pad_cons pd_int (pad_cons (pd_tup (pad_cons (pd_tup (pad_cons pd_int (pad_cons pd_int (pad_cons pd_int (pad_cons pd_int pad_nil))))) (pad_cons (pd_tup (pad_cons pd_int (pad_cons pd_int (pad_cons pd_int (pad_cons pd_int pad_nil))))) (pad_cons (pd_tup (pad_cons pd_int (pad_cons pd_int (pad_cons pd_int (pad_cons pd_int pad_nil))))) pad_nil)))) pad_nil)))))
    (psd_cons (psd_if (PW.pt (pwd_or (ptb_bin rfl (pt_cmpR (opNe_ok ⟨rfl, hu, hgd⟩) (pd_def rfl (fun _ _ => gP_len) (pe_callG H_payments.ok (hr.mono (by decide)) hgd rfl g_payments H_payments.F.kp H_payments.b (pad_cons (pd_v (pv 2)) pad_nil))) (pd_tup (pad_cons pd_int (pad_cons pd_int (pad_cons pd_int pad_nil)))) (by rfl))) (pwd_or1 (ptb_bin rfl (pt_cmpR (opNe_ok ⟨rfl, hu, hgd⟩) (pd_def rfl (fun _ _ => gP_len) (pe_callG H_blocked.ok (hr.mono (by decide)) hgd rfl g_blocked H_blocked.F.kp H_blocked.b (pad_cons (pd_v (pv 2)) (pad_cons (pd_tup (pad_cons (pd_tup (pad_cons pd_int (pad_cons pd_int pad_nil))) (pad_cons (pd_tup (pad_cons pd_int (pad_cons pd_int pad_nil))) (pad_cons (pd_tup (pad_cons pd_int (pad_cons pd_int pad_nil))) pad_nil)))) pad_nil)))) (pd_tup (pad_cons pd_int pad_nil)) (by rfl)))))) (psd_one (psd_ret pd_bool)) psd_nil)
    (psd_cons (psd_if (PW.pt (pwd_or (ptb_bin rfl (pt_cmpR opIsNot_ok (pd_def rfl (fun _ _ => gP_len) (pe_callG H_blocked.ok (hr.mono (by decide)) hgd rfl g_blocked H_blocked.F.kp H_blocked.b (pad_cons (pd_v (pv 2)) (pad_cons (pd_tup (pad_cons (pd_tup (pad_cons pd_int (pad_cons pd_int pad_nil))) (pad_cons (pd_tup (pad_cons pd_int (pad_cons pd_int pad_nil))) (pad_cons (pd_tup (pad_cons pd_int (pad_cons pd_int pad_nil))) pad_nil)))) pad_nil)))) pd_none (by rfl))) (pwd_or1 (ptb_bin rfl (pt_cmpR opIsNot_ok (pd_def rfl (fun _ _ => gP_len) (pe_callG H_is_plain.ok (hr.mono (by decide)) hgd rfl g_is_plain H_is_plain.F.kp H_is_plain.b (pad_cons (pd_v (pv 2)) pad_nil))) pd_bool (by rfl)))))) (psd_one (psd_ret pd_bool)) psd_nil)
    (psd_cons (psd_for (by decide) (ps_for PassesOwn.never rfl (pid_r1 (pi_range1 rfl m_range (pa_cons pd_int pa_nil))) (pgd_name (pg_name sc.nd rfl (by first | exact Or.inl rfl | exact Or.inr rfl))) (psd_one (psd_if (ptd_not (ptd_tru rfl (pd_defIO rfl (fun _ _ _ => gIO_len) (pe_callG H__law_is_right.ok (hr.mono (by decide)) hgd rfl g__law_is_right H__law_is_right.F.kp H__law_is_right.b (pa_cons (pv 1) (pad_cons (pd_defIO rfl (fun _ _ _ => gIO_len) (pe_callG H__law_drawn.ok (hr.mono (by decide)) hgd rfl g__law_drawn H__law_drawn.F.kp H__law_drawn.b (pa_cons (pv 1) pad_nil))) pad_nil)))))) (psd_one (psd_ret pd_bool)) psd_nil))))
    (psd_one (psd_ret pd_bool)))))))
end
end K80
set_option Elab.async false
set_option linter.all false
set_option maxRecDepth 100000
set_option maxHeartbeats 0
namespace K80
open PySem PySem.W PySem.Calls PyProof.Rows L2 Pv
abbrev R : PySem.W.OpenRow := PySem.W.OpenLaw.row PySem.Challenge.rw_slipfree_k80_whole_blocks_and_plain_wort
def names0 : List PySem.Str := ["CauseError", "NoPaid", "NoPerson", "NoSale", "is_integer", "is_integer_checks", "is_pair", "common", "made", "is_fraction", "plus", "less", "is_below", "total_of", "is_integer_judging", "is_within", "is_sized", "MOST_THINGS", "MOST_PERSONS", "MOST_WORTH", "are_worths", "is_sale", "check_sale", "has_thing"]
def names1 : List PySem.Str := ["allotments", "worth_by", "best_of", "best", "paid_by", "payments", "check_person", "are_amounts", "blocked", "is_plain", "worth_alone", "_law_hand", "_law_draw", "_law_any", "_law_low", "_law_add", "_law_sum", "_law_sale", "_law_has", "_law_drawn", "_law_allotments", "_law_worth", "_law_best", "_law_lots"]
def names2 : List PySem.Str := ["_law_blocked", "_law_paid", "_law_is_right"]
def names : List PySem.Str := names0 ++ names1 ++ names2
abbrev hk : PySem.W.Hook := He.hookD 4 fa fn
def ob (s : PySem.W.SharedT) : He.AlD := He.obsDG 4 fa fn (HandSHeadRun.getT s)
theorem ob_eq (s : PySem.W.SharedT) : ob s = hk.obs s.abs := He.obsDG_eq (HandSHeadRun.getT_eq s)
theorem run (w : World) : HandSHeadRun.RunEq R (PySem.W.view R.prog [58]) hk ob 4000 names w := by
  intro os
  kernel_rfl
end K80
open PySem PySem.W PySem.Calls PyProof.Rows
set_option maxRecDepth 100000 in
set_option maxHeartbeats 0 in
theorem PySem.Challenge.cw_slipfree_k80_whole_blocks_and_plain_wort_holds : PySem.Challenge.rw_slipfree_k80_whole_blocks_and_plain_wort.Holds := by
  w_on; o_law
  refine HandSHeadRun.head_any (r := OpenLaw.row PySem.Challenge.rw_slipfree_k80_whole_blocks_and_plain_wort) (q := view (OpenLaw.row PySem.Challenge.rw_slipfree_k80_whole_blocks_and_plain_wort).prog [58]) (H := K80.hk) (ob := K80.ob) (M := 4000) (loose := K80.names) (d := HandSHeadRun.topDef (OpenLaw.row PySem.Challenge.rw_slipfree_k80_whole_blocks_and_plain_wort).prog 58) (kwd := []) K80.ob_eq
    (by kernel_rfl) (fun s => by kernel_rfl) K80.run (by kernel_rfl) (by kernel_rfl) (by kernel_rfl) (by rfl) (by first | assumption | decide +kernel) (by decide +kernel) ⟨rfl, rfl, rfl, rfl, rfl, by decide +kernel⟩ ?hw ?hc
  case hw => w_witness2
  case hc =>
    refine Pv.walk_ofG (l := PySem.Challenge.rw_slipfree_k80_whole_blocks_and_plain_wort) (n := 63) (k := 10) (x := "script") rfl (by decide) (by kernel_rfl) ⟨rfl, by decide, by decide⟩ ?F
    intro w mg fa h Y G hmg0
    obtain ⟨K, KX, c⟩ := Y
    have T : Pv.Tp K80.fa K80.fn K mg := ⟨⟨h, KX, G⟩, c⟩
    have hmg : mg ("law" : PySem.Str) = some (.ref fa) := by
      have e : (HandSHeadRun.topDef (OpenLaw.row PySem.Challenge.rw_slipfree_k80_whole_blocks_and_plain_wort).prog 58).name = ("law" : PySem.Str) := by kernel_rfl
      rw [← e]
      exact hmg0
    have e := hmg.symm.trans (T.glo 43 (x := "law"))
    cases e
    obtain ⟨fd, F0⟩ := c.def_ 43 (d := K80.d_law) rfl
    refine ⟨K, fd, Pv.spP K 1 K80.G_law, KX, fun s v => L2.FunD.bindsA (ps := ["script"]) (x := K80.d_law.name) (qual := K80.d_law.qual) (params := K80.d_law.params) (body := K80.d_law.body) (scope := K80.d_law.scope) (kws := []) F0 (fun _ _ _ _ _ _ us hl => match us, hl with | [_], _ => rfl) s [v] rfl, fun H a ns hl _ hS => Pv.law_sp K80.law_plain hl hS, fun base KX' G' => ?_⟩
    have T' : Pv.Tp K80.fa K80.fn K mg := ⟨⟨base, KX', G'⟩, c⟩
    obtain ⟨fd', hh⟩ := K80.ok_law (P := (PySem.Challenge.rw_slipfree_k80_whole_blocks_and_plain_wort).prog) (w := w) (base := base) T'
    rw [Pv.fd_inj F0 hh.F]
    exact hh.ok
