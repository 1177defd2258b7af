import PyProof.Rows.All
import Wide.All
import OpenK.AllK
import Wide.FinOn
import HandS.ForMost
import HandS.ForExc
import HandS.TupMul
import HandS.Deep
import HandS.TupAny
import HandS.TupLe
import HandS.Style
import HandS.IsInst
import HandS.Wide
import HandS.WideBits
import HandS.SortInts
import HandS.Conv
import KE.DataCmp
import KE.DataMinMax
import KE.SortData
import KE.SortCalls
import KE.KSortTup
import PyProof.TupleOfSeq
import HandS.More
import HandS.Dict
import KE.KDictPairs
import HandS.SetFor
import HandS.Zip
import KE.GoesEnum
import HandS.Ends
import HandS.Codes
import HandS.Defaults
import HandS.HeadEnd
import PyProof.ReprRoads
import PyProof.CallFns
import PyProof.StrLawsRepr
import PyProof.Rows.RegStrFacts
import KE.GoesMore
import HandS.List
import HandS.Small
import KE.KDictZip
import KE.KDictKeyed
import HandS.Head0
import HandS.Head1
import HandS.Head2
import HandS.HeadHook1
import HandS.HeadHook2
import HandS.WordsExc
import PyProof.TableCode
import KE.KStateDown
import Lean
import PySem.Challenge.RW_slipfree_k12_whole_gains_of_voters_with
set_option Elab.async false
set_option linter.all false
set_option maxRecDepth 100000
set_option maxHeartbeats 4000000
namespace Pv
open PySem L2

/-! ### data in the heap -/
def keyD : Key → PyData
  | .inl i => .int i
  | .inr x => .str x
/-- an entry of a dict whose keys are tuples of ints: the key, its tuple, its value -/
structure TdE where
  k : List Int
  a : Addr
  x : V
  v : Value
def TdE.ent (e : TdE) : DictEntry := ⟨reduceHash (Builtin.Tuple.tupleHashOf (e.k.map hashInt)), .ref e.a, e.v⟩
def tdO (d : Addr) (es : List TdE) : HO := .ext fun h => ∃ (o : Obj) (ar : Array DictEntry) (ep : Nat), h.get? d = some o ∧ o.ExactDict ∧ o.data = .dict ar ep ∧ ar.toList = es.map TdE.ent
mutual
def Rp (K : PySem.W.Frag) (F : Hp) : PyData → V → Prop
  | .none, v => v = .non
  | .bool b, v => v = .bl b
  | .int i, v => v = .int i
  | .str s, v => v = .str s
  | .list ds, v => ∃ a xs, v = .ref a ∧ SqL K F a xs ∧ RpAll K F ds xs
  | .tuple ds, v => ∃ a xs, v = .ref a ∧ SqT K F a xs ∧ RpAll K F ds xs
  | .dict kvs, v => (∃ a ks, v = .ref a ∧ F a = some (.dK ks) ∧ RpKv K F kvs ks) ∨ ∃ a es, v = .ref a ∧ (a == sysModules) = false ∧ F a = some (tdO a es) ∧ (es.map TdE.k).Nodup ∧ kvs ≠ [] ∧ RpTd K F kvs es
/-- a dict: keys tuples of ints -/
def RpTd (K : PySem.W.Frag) (F : Hp) : List (PyData × PyData) → List TdE → Prop
  | [], es => es = []
  | (k, d) :: kvs, es => ∃ e es', es = e :: es' ∧ k = .tuple (e.k.map PyData.int) ∧ SqT K F e.a (e.k.map V.int) ∧ L2.RelV e.x e.v ∧ Rp K F d e.x ∧ RpTd K F kvs es'
def RpAll (K : PySem.W.Frag) (F : Hp) : List PyData → List V → Prop
  | [], vs => vs = []
  | d :: ds, vs => ∃ x xs, vs = x :: xs ∧ Rp K F d x ∧ RpAll K F ds xs
/-- a dict: keys ints and texts -/
def RpKv (K : PySem.W.Frag) (F : Hp) : List (PyData × PyData) → List (Key × V) → Prop
  | [], ks => ks = []
  | (k, d) :: kvs, ks => ∃ q x qs, ks = (q, x) :: qs ∧ k = keyD q ∧ Rp K F d x ∧ RpKv K F kvs qs
end

theorem rd_mono {F F' : Hp} {a : Addr} {u : HO} (e : Same F F') (h : Rd F a u) : Rd F' a u := by
  rcases h with h | ⟨o, h⟩
  · exact .inl (e _ _ h)
  · exact .inr ⟨o, e _ _ h⟩
theorem sqL_mono {K : PySem.W.Frag} {F F' : Hp} {a : Addr} {xs : List V} (e : Same F F') (h : SqL K F a xs) : SqL K F' a xs := e.seq h
theorem sqT_mono {K : PySem.W.Frag} {F F' : Hp} {a : Addr} {xs : List V} (e : Same F F') (h : SqT K F a xs) : SqT K F' a xs := by
  rcases h with (h | ⟨o, h⟩) | h
  · exact .inl (.inl (e _ _ h))
  · exact .inl (.inr ⟨o, e _ _ h⟩)
  · exact .inr h
mutual
theorem Rp.mono {K : PySem.W.Frag} {F F' : Hp} (e : Same F F') : ∀ {d : PyData} {v : V}, Rp K F d v → Rp K F' d v
  | .none, _, h => by simpa only [Rp] using h
  | .bool _, _, h => by simpa only [Rp] using h
  | .int _, _, h => by simpa only [Rp] using h
  | .str _, _, h => by simpa only [Rp] using h
  | .list ds, v, h => by
    simp only [Rp] at h ⊢
    obtain ⟨a, xs, e1, q, r⟩ := h
    exact ⟨a, xs, e1, sqL_mono e q, RpAll.mono e r⟩
  | .tuple ds, v, h => by
    simp only [Rp] at h ⊢
    obtain ⟨a, xs, e1, q, r⟩ := h
    exact ⟨a, xs, e1, sqT_mono e q, RpAll.mono e r⟩
  | .dict kvs, v, h => by
    simp only [Rp] at h ⊢
    rcases h with ⟨a, ks, e1, q, r⟩ | ⟨a, es, e1, b, q, nd, ne, r⟩
    · exact .inl ⟨a, ks, e1, e _ _ q, RpKv.mono e r⟩
    · exact .inr ⟨a, es, e1, b, e _ _ q, nd, ne, RpTd.mono e r⟩
theorem RpTd.mono {K : PySem.W.Frag} {F F' : Hp} (e : Same F F') : ∀ {ds : List (PyData × PyData)} {es : List TdE}, RpTd K F ds es → RpTd K F' ds es
  | [], _, h => by simpa only [RpTd] using h
  | (k, d) :: ds, es, h => by
    simp only [RpTd] at h ⊢
    obtain ⟨q, qs, e1, e2, s, v, r, t⟩ := h
    exact ⟨q, qs, e1, e2, sqT_mono e s, v, Rp.mono e r, RpTd.mono e t⟩
theorem RpKv.mono {K : PySem.W.Frag} {F F' : Hp} (e : Same F F') : ∀ {ds : List (PyData × PyData)} {vs : List (Key × V)}, RpKv K F ds vs → RpKv K F' ds vs
  | [], _, h => by simpa only [RpKv] using h
  | (k, d) :: ds, vs, h => by
    simp only [RpKv] at h ⊢
    obtain ⟨q, x, qs, e1, e2, r, t⟩ := h
    exact ⟨q, x, qs, e1, e2, Rp.mono e r, RpKv.mono e t⟩
theorem RpAll.mono {K : PySem.W.Frag} {F F' : Hp} (e : Same F F') : ∀ {ds : List PyData} {vs : List V}, RpAll K F ds vs → RpAll K F' ds vs
  | [], _, h => by simpa only [RpAll] using h
  | d :: ds, vs, h => by
    simp only [RpAll] at h ⊢
    obtain ⟨x, xs, e1, q, r⟩ := h
    exact ⟨x, xs, e1, Rp.mono e q, RpAll.mono e r⟩
end
theorem RpAll.len {K : PySem.W.Frag} {F : Hp} : ∀ {ds : List PyData} {vs : List V}, RpAll K F ds vs → vs.length = ds.length
  | [], _, h => by simp only [RpAll] at h; subst h; rfl
  | d :: ds, vs, h => by
    simp only [RpAll] at h
    obtain ⟨x, xs, rfl, q, r⟩ := h
    simp [RpAll.len r]
theorem RpAll.get {K : PySem.W.Frag} {F : Hp} : ∀ {ds : List PyData} {vs : List V} {i : Nat} {d : PyData}, RpAll K F ds vs → ds[i]? = some d → ∃ v, vs[i]? = some v ∧ Rp K F d v
  | [], _, _, _, _, h => by simp at h
  | d :: ds, vs, 0, d', h, e => by
    simp only [RpAll] at h
    obtain ⟨x, xs, rfl, q, r⟩ := h
    simp at e; subst e
    exact ⟨x, rfl, q⟩
  | d :: ds, vs, i + 1, d', h, e => by
    simp only [RpAll] at h
    obtain ⟨x, xs, rfl, q, r⟩ := h
    obtain ⟨v, h1, h2⟩ := RpAll.get (i := i) r (by simpa using e)
    exact ⟨v, by simpa using h1, h2⟩
theorem RpAll.get' {K : PySem.W.Frag} {F : Hp} {ds : List PyData} {vs : List V} {i : Nat} {v : V} (h : RpAll K F ds vs) (e : vs[i]? = some v) : ∃ d, ds[i]? = some d ∧ Rp K F d v := by
  have hl := h.len
  have hi : i < vs.length := (List.getElem?_eq_some_iff.mp e).1
  have : i < ds.length := by omega
  obtain ⟨w, h1, h2⟩ := h.get (i := i) (List.getElem?_eq_getElem this)
  rw [h1] at e; cases e
  exact ⟨_, List.getElem?_eq_getElem this, h2⟩
theorem RpAll.append {K : PySem.W.Frag} {F : Hp} : ∀ {ds es : List PyData} {vs us : List V}, RpAll K F ds vs → RpAll K F es us → RpAll K F (ds ++ es) (vs ++ us)
  | [], _, _, _, h, h' => by simp only [RpAll] at h; subst h; simpa using h'
  | d :: ds, es, vs, us, h, h' => by
    simp only [RpAll] at h
    obtain ⟨x, xs, rfl, q, r⟩ := h
    simp only [List.cons_append, RpAll]
    exact ⟨x, xs ++ us, rfl, q, r.append h'⟩
theorem RpAll.of_get {K : PySem.W.Frag} {F : Hp} : ∀ {ds : List PyData} {vs : List V}, vs.length = ds.length → (∀ (i : Nat) d v, ds[i]? = some d → vs[i]? = some v → Rp K F d v) → RpAll K F ds vs
  | [], vs, hl, _ => by
    simp only [RpAll]
    exact List.eq_nil_of_length_eq_zero (by simpa using hl)
  | d :: ds, [], hl, _ => by simp at hl
  | d :: ds, v :: vs, hl, h => by
    simp only [RpAll]
    refine ⟨v, vs, rfl, h 0 d v rfl rfl, RpAll.of_get (by simpa using hl) fun i d' v' h1 h2 => h (i + 1) d' v' (by simpa using h1) (by simpa using h2)⟩
theorem RpAll.nil {K : PySem.W.Frag} {F : Hp} : RpAll K F [] [] := by simp only [RpAll]
theorem RpAll.one {K : PySem.W.Frag} {F : Hp} {d : PyData} {v : V} (h : Rp K F d v) : RpAll K F [d] [v] := by
  simp only [RpAll]; exact ⟨v, [], rfl, h, rfl⟩
theorem RpAll.consI {K : PySem.W.Frag} {F : Hp} {d : PyData} {v : V} {ds : List PyData} {vs : List V} (h : Rp K F d v) (t : RpAll K F ds vs) : RpAll K F (d :: ds) (v :: vs) := by
  simp only [RpAll]; exact ⟨v, vs, rfl, h, t⟩
theorem RpAll.uncons {K : PySem.W.Frag} {F : Hp} {d : PyData} {ds : List PyData} {vs : List V} (h : RpAll K F (d :: ds) vs) : ∃ x xs, vs = x :: xs ∧ Rp K F d x ∧ RpAll K F ds xs := by
  simpa only [RpAll] using h
mutual
theorem Rp.dp {K : PySem.W.Frag} {F : Hp} : ∀ {d : PyData} {v : V}, Rp K F d v → d.canLay0 = true → Dp K F v d
  | .none, _, h, _ => by simp only [Rp] at h; subst h; exact .non
  | .bool _, _, h, _ => by simp only [Rp] at h; subst h; exact .bl _
  | .int _, _, h, _ => by simp only [Rp] at h; subst h; exact .int _
  | .str _, _, h, _ => by simp only [Rp] at h; subst h; exact .str _
  | .list ds, v, h, c => by
    simp only [Rp] at h
    obtain ⟨a, xs, rfl, q, r⟩ := h
    exact .lst q (RpAll.dp r (by simpa only [PyData.canLay0] using c))
  | .tuple ds, v, h, c => by
    simp only [Rp] at h
    obtain ⟨a, xs, rfl, q, r⟩ := h
    exact .tup q (RpAll.dp r (by simpa only [PyData.canLay0] using c))
  | .dict _, _, _, c => by simp only [PyData.canLay0] at c; cases c
theorem RpAll.dp {K : PySem.W.Frag} {F : Hp} : ∀ {ds : List PyData} {vs : List V}, RpAll K F ds vs → PyData.canLayAll0 ds = true → DpAll K F vs ds
  | [], _, h, _ => by simp only [RpAll] at h; subst h; exact .nil
  | d :: ds, vs, h, c => by
    simp only [RpAll] at h
    obtain ⟨x, xs, rfl, q, r⟩ := h
    simp only [PyData.canLayAll0, Bool.and_eq_true] at c
    exact .cons (Rp.dp q c.1) (RpAll.dp r c.2)
end

/-! ### owned trees -/
/-- the data of a dict's pairs -/
def kvD (kvs : List (Key × PyData)) : List (PyData × PyData) := kvs.map fun p => (keyD p.1, p.2)
inductive T where
  | sh (d : PyData)
  | lst (ts : List T)
  | dct (kvs : List (Key × PyData))
mutual
def T.val : T → PyData
  | .sh d => d
  | .lst ts => .list (T.vals ts)
  | .dct kvs => .dict (kvD kvs)
def T.vals : List T → List PyData
  | [] => []
  | t :: ts => t.val :: T.vals ts
end
theorem vals_map (ts : List T) : T.vals ts = ts.map T.val := by
  induction ts with
  | nil => rfl
  | cons t ts ih => simp [T.vals, ih]
@[simp] theorem val_sh (d : PyData) : (T.sh d).val = d := rfl
@[simp] theorem vals_sh (ds : List PyData) : T.vals (ds.map T.sh) = ds := by
  induction ds with
  | nil => rfl
  | cons t ts ih => simp [T.vals, T.val, ih]
mutual
def RT (K : PySem.W.Frag) (F H : Hp) : T → V → List Addr → Prop
  | .sh d, v, f => f = [] ∧ Rp K F d v
  | .lst ts, v, f => ∃ a xs g, v = .ref a ∧ H a = some (.lst xs) ∧ f = a :: g ∧ RTs K F H ts xs g
  | .dct kvs, v, f => ∃ a ks, v = .ref a ∧ H a = some (.dK ks) ∧ f = [a] ∧ RpKv K F (kvD kvs) ks
def RTs (K : PySem.W.Frag) (F H : Hp) : List T → List V → List Addr → Prop
  | [], vs, f => vs = [] ∧ f = []
  | t :: ts, vs, f => ∃ x xs f1 f2, vs = x :: xs ∧ f = f1 ++ f2 ∧ RT K F H t x f1 ∧ RTs K F H ts xs f2
end
mutual
theorem RT.mono {K : PySem.W.Frag} {F F' H H' : Hp} (e : Same F F') : ∀ {t : T} {v : V} {f : List Addr}, (∀ a ∈ f, ∀ o, H a = some o → H' a = some o) → RT K F H t v f → RT K F' H' t v f
  | .sh d, v, f, _, h => by
    simp only [RT] at h ⊢
    exact ⟨h.1, h.2.mono e⟩
  | .lst ts, v, f, k, h => by
    simp only [RT] at h ⊢
    obtain ⟨a, xs, g, rfl, e1, rfl, r⟩ := h
    exact ⟨a, xs, g, rfl, k a (by simp) _ e1, rfl, RTs.mono e (fun b hb o => k b (by simp [hb]) o) r⟩
  | .dct kvs, v, f, k, h => by
    simp only [RT] at h ⊢
    obtain ⟨a, ks, rfl, e1, rfl, r⟩ := h
    exact ⟨a, ks, rfl, k a (by simp) _ e1, rfl, r.mono e⟩
theorem RTs.mono {K : PySem.W.Frag} {F F' H H' : Hp} (e : Same F F') : ∀ {t : List T} {v : List V} {f : List Addr}, (∀ a ∈ f, ∀ o, H a = some o → H' a = some o) → RTs K F H t v f → RTs K F' H' t v f
  | [], v, f, _, h => by simpa only [RTs] using h
  | t :: ts, v, f, k, h => by
    simp only [RTs] at h ⊢
    obtain ⟨x, xs, f1, f2, rfl, rfl, r1, r2⟩ := h
    exact ⟨x, xs, f1, f2, rfl, rfl, RT.mono e (fun b hb o => k b (by simp [hb]) o) r1, RTs.mono e (fun b hb o => k b (by simp [hb]) o) r2⟩
end
mutual
/-- an owned tree is given away: its nodes become shared -/
theorem RT.freeze {K : PySem.W.Frag} {F F' H : Hp} (e : Same F F') : ∀ {t : T} {v : V} {f : List Addr}, (∀ a ∈ f, F' a = H a) → RT K F H t v f → Rp K F' t.val v
  | .sh d, v, f, _, h => by
    simp only [RT] at h
    exact h.2.mono e
  | .lst ts, v, f, k, h => by
    simp only [RT] at h
    obtain ⟨a, xs, g, rfl, e1, rfl, r⟩ := h
    simp only [T.val, Rp]
    exact ⟨a, xs, rfl, SqL.of (by rw [k a (by simp)]; exact e1), RTs.freeze e (fun b hb => k b (by simp [hb])) r⟩
  | .dct kvs, v, f, k, h => by
    simp only [RT] at h
    obtain ⟨a, ks, rfl, e1, rfl, r⟩ := h
    simp only [T.val, Rp]
    exact .inl ⟨a, ks, rfl, by rw [k a (by simp)]; exact e1, r.mono e⟩
theorem RTs.freeze {K : PySem.W.Frag} {F F' H : Hp} (e : Same F F') : ∀ {t : List T} {v : List V} {f : List Addr}, (∀ a ∈ f, F' a = H a) → RTs K F H t v f → RpAll K F' (T.vals t) v
  | [], v, f, _, h => by
    simp only [RTs] at h
    rw [h.1]
    exact RpAll.nil
  | t :: ts, v, f, k, h => by
    simp only [RTs] at h
    obtain ⟨x, xs, f1, f2, rfl, rfl, r1, r2⟩ := h
    simp only [T.vals, RpAll]
    exact ⟨x, xs, rfl, RT.freeze e (fun b hb => k b (by simp [hb])) r1, RTs.freeze e (fun b hb => k b (by simp [hb])) r2⟩
end
mutual
theorem RT.there {K : PySem.W.Frag} {F H : Hp} : ∀ {t : T} {v : V} {f : List Addr}, RT K F H t v f → ∀ a ∈ f, ∃ o, H a = some o
  | .sh d, v, f, h => by
    simp only [RT] at h
    intro a ha; rw [h.1] at ha; simp at ha
  | .lst ts, v, f, h => by
    simp only [RT] at h
    obtain ⟨a, xs, g, rfl, e1, rfl, r⟩ := h
    intro b hb
    rcases List.mem_cons.mp hb with rfl | hb
    · exact ⟨_, e1⟩
    · exact RTs.there r b hb
  | .dct kvs, v, f, h => by
    simp only [RT] at h
    obtain ⟨a, ks, rfl, e1, rfl, r⟩ := h
    intro b hb
    rw [List.mem_singleton.mp hb]
    exact ⟨_, e1⟩
theorem RTs.there {K : PySem.W.Frag} {F H : Hp} : ∀ {t : List T} {v : List V} {f : List Addr}, RTs K F H t v f → ∀ a ∈ f, ∃ o, H a = some o
  | [], v, f, h => by
    simp only [RTs] at h
    intro a ha; rw [h.2] at ha; simp at ha
  | t :: ts, v, f, h => by
    simp only [RTs] at h
    obtain ⟨x, xs, f1, f2, rfl, rfl, r1, r2⟩ := h
    intro b hb
    rcases List.mem_append.mp hb with hb | hb
    · exact RT.there r1 b hb
    · exact RTs.there r2 b hb
end
theorem RTs.nil {K : PySem.W.Frag} {F H : Hp} : RTs K F H [] [] [] := by simp only [RTs]; exact ⟨trivial, trivial⟩
theorem RTs.one {K : PySem.W.Frag} {F H : Hp} {t : T} {v : V} {f : List Addr} (h : RT K F H t v f) : RTs K F H [t] [v] f := by
  simp only [RTs]
  exact ⟨v, [], f, [], rfl, by simp, h, rfl, rfl⟩
theorem RTs.uncons {K : PySem.W.Frag} {F H : Hp} {t : T} {ts : List T} {vs : List V} {f : List Addr} (h : RTs K F H (t :: ts) vs f) : ∃ x xs f1 f2, vs = x :: xs ∧ f = f1 ++ f2 ∧ RT K F H t x f1 ∧ RTs K F H ts xs f2 := by
  simpa only [RTs] using h
theorem RTs.append {K : PySem.W.Frag} {F H : Hp} : ∀ {ts us : List T} {vs ws : List V} {f g : List Addr}, RTs K F H ts vs f → RTs K F H us ws g → RTs K F H (ts ++ us) (vs ++ ws) (f ++ g)
  | [], us, vs, ws, f, g, h, h' => by
    simp only [RTs] at h
    obtain ⟨rfl, rfl⟩ := h
    simpa using h'
  | t :: ts, us, vs, ws, f, g, h, h' => by
    simp only [RTs] at h
    obtain ⟨x, xs, f1, f2, rfl, rfl, r1, r2⟩ := h
    simp only [List.cons_append, RTs]
    exact ⟨x, xs ++ ws, f1, f2 ++ g, rfl, by simp, r1, r2.append h'⟩
theorem RTs.len {K : PySem.W.Frag} {F H : Hp} : ∀ {ts : List T} {vs : List V} {f : List Addr}, RTs K F H ts vs f → vs.length = ts.length
  | [], vs, f, h => by
    simp only [RTs] at h
    rw [h.1]
    rfl
  | t :: ts, vs, f, h => by
    obtain ⟨x, xs, f1, f2, rfl, rfl, r1, r2⟩ := h.uncons
    simp [r2.len]
theorem RTs.of_sh {K : PySem.W.Frag} {F H : Hp} : ∀ {ds : List PyData} {vs : List V}, RpAll K F ds vs → RTs K F H (ds.map T.sh) vs []
  | [], vs, h => by simp only [RpAll] at h; subst h; exact .nil
  | d :: ds, vs, h => by
    obtain ⟨x, xs, rfl, q, r⟩ := h.uncons
    simp only [List.map_cons, RTs]
    exact ⟨x, xs, [], [], rfl, rfl, by simp only [RT]; exact ⟨trivial, q⟩, RTs.of_sh r⟩

/-! ### the slots -/
abbrev Env := List (Option T)
def RS (K : PySem.W.Frag) (F H : Hp) : Env → St → List Addr → Prop
  | [], σ, f => σ = [] ∧ f = []
  | .none :: η, σ, f => ∃ s σ', σ = s :: σ' ∧ RS K F H η σ' f
  | .some t :: η, σ, f => ∃ v σ' f1 f2, σ = some v :: σ' ∧ f = f1 ++ f2 ∧ RT K F H t v f1 ∧ RS K F H η σ' f2
theorem RS.mono {K : PySem.W.Frag} {F F' H H' : Hp} (e : Same F F') : ∀ {η : Env} {σ : St} {f : List Addr}, (∀ a ∈ f, ∀ o, H a = some o → H' a = some o) → RS K F H η σ f → RS K F' H' η σ f
  | [], σ, f, _, h => by simpa only [RS] using h
  | .none :: η, σ, f, k, h => by
    simp only [RS] at h ⊢
    obtain ⟨s, σ', rfl, r⟩ := h
    exact ⟨s, σ', rfl, RS.mono e k r⟩
  | .some t :: η, σ, f, k, h => by
    simp only [RS] at h ⊢
    obtain ⟨v, σ', f1, f2, rfl, rfl, r1, r2⟩ := h
    exact ⟨v, σ', f1, f2, rfl, rfl, r1.mono e (fun b hb o => k b (by simp [hb]) o), RS.mono e (fun b hb o => k b (by simp [hb]) o) r2⟩
theorem RS.len {K : PySem.W.Frag} {F H : Hp} : ∀ {η : Env} {σ : St} {f : List Addr}, RS K F H η σ f → σ.length = η.length
  | [], σ, f, h => by
    simp only [RS] at h
    rw [h.1]
    rfl
  | .none :: η, σ, f, h => by
    simp only [RS] at h
    obtain ⟨s, σ', rfl, r⟩ := h
    simp [r.len]
  | .some t :: η, σ, f, h => by
    simp only [RS] at h
    obtain ⟨v, σ', f1, f2, rfl, rfl, r1, r2⟩ := h
    simp [r2.len]
theorem RS.there {K : PySem.W.Frag} {F H : Hp} : ∀ {η : Env} {σ : St} {f : List Addr}, RS K F H η σ f → ∀ a ∈ f, ∃ o, H a = some o
  | [], σ, f, h => by
    simp only [RS] at h
    rw [h.2]
    simp
  | .none :: η, σ, f, h => by
    simp only [RS] at h
    obtain ⟨s, σ', rfl, r⟩ := h
    exact r.there
  | .some t :: η, σ, f, h => by
    simp only [RS] at h
    obtain ⟨v, σ', f1, f2, rfl, rfl, r1, r2⟩ := h
    intro b hb
    rcases List.mem_append.mp hb with hb | hb
    · exact r1.there b hb
    · exact r2.there b hb
/-- a slot is looked at: what it holds, the rest, and how it is built anew -/
theorem RS.focus {K : PySem.W.Frag} {F H : Hp} : ∀ {η : Env} {σ : St} {f : List Addr} {i : Nat}, RS K F H η σ f → i < η.length →
    ∃ s h r, σ[i]? = some s ∧ f.Perm (h ++ r) ∧ (∀ t, η[i]? = some (some t) → ∃ v, s = some v ∧ RT K F H t v h) ∧
      ∀ F' H', Same F F' → (∀ a ∈ r, ∀ o, H a = some o → H' a = some o) →
        (∀ t' v' h', RT K F' H' t' v' h' → ∃ f', RS K F' H' (η.set i (some t')) (σ.set i (some v')) f' ∧ f'.Perm (h' ++ r)) ∧
        (∀ s', ∃ f', RS K F' H' (η.set i none) (σ.set i s') f' ∧ f'.Perm r)
  | [], σ, f, i, _, e => by simp at e
  | .none :: η, σ, f, 0, r, e => by
    simp only [RS] at r
    obtain ⟨s, σ', rfl, r⟩ := r
    refine ⟨s, [], f, rfl, by simp, by simp, fun F' H' hF hH => ⟨fun t' v' h' q => ⟨h' ++ f, ?_, .refl _⟩, fun s' => ⟨f, ?_, .refl _⟩⟩⟩
    · simp only [List.set_cons_zero, RS]
      exact ⟨v', σ', h', f, rfl, rfl, q, r.mono hF hH⟩
    · simp only [List.set_cons_zero, RS]
      exact ⟨s', σ', rfl, r.mono hF hH⟩
  | .some u :: η, σ, f, 0, r, e => by
    simp only [RS] at r
    obtain ⟨v, σ', f1, f2, rfl, rfl, r1, r2⟩ := r
    refine ⟨some v, f1, f2, rfl, .refl _, fun t ht => ⟨v, rfl, by simp at ht; subst ht; exact r1⟩, fun F' H' hF hH => ⟨fun t' v' h' q => ⟨h' ++ f2, ?_, .refl _⟩, fun s' => ⟨f2, ?_, .refl _⟩⟩⟩
    · simp only [List.set_cons_zero, RS]
      exact ⟨v', σ', h', f2, rfl, rfl, q, r2.mono hF hH⟩
    · simp only [List.set_cons_zero, RS]
      exact ⟨s', σ', rfl, r2.mono hF hH⟩
  | .none :: η, σ, f, i + 1, r, e => by
    simp only [RS] at r
    obtain ⟨s, σ', rfl, r⟩ := r
    obtain ⟨s0, h, q, h1, h2, h3, h4⟩ := RS.focus (i := i) r (by simpa using e)
    refine ⟨s0, h, q, by simpa using h1, h2, fun t ht => h3 t (by simpa using ht), fun F' H' hF hH => ?_⟩
    obtain ⟨a, b⟩ := h4 F' H' hF hH
    refine ⟨fun t' v' h' w => ?_, fun s' => ?_⟩
    · obtain ⟨f', x, y⟩ := a t' v' h' w
      refine ⟨f', ?_, y⟩
      simp only [List.set_cons_succ, RS]
      exact ⟨s, _, rfl, x⟩
    · obtain ⟨f', x, y⟩ := b s'
      refine ⟨f', ?_, y⟩
      simp only [List.set_cons_succ, RS]
      exact ⟨s, _, rfl, x⟩
  | .some u :: η, σ, f, i + 1, r, e => by
    simp only [RS] at r
    obtain ⟨v, σ', f1, f2, rfl, rfl, r1, r2⟩ := r
    obtain ⟨s0, h, q, h1, h2, h3, h4⟩ := RS.focus (i := i) r2 (by simpa using e)
    refine ⟨s0, h, f1 ++ q, by simpa using h1, ?_, fun t ht => h3 t (by simpa using ht), fun F' H' hF hH => ?_⟩
    · have p1 : (f1 ++ f2).Perm (f1 ++ (h ++ q)) := h2.append_left f1
      have p2 : (f1 ++ (h ++ q)).Perm (h ++ (f1 ++ q)) := by
        rw [← List.append_assoc, ← List.append_assoc]
        exact (List.perm_append_comm).append_right q
      exact p1.trans p2
    · obtain ⟨a, b⟩ := h4 F' H' hF fun x hx => hH x (by simp [hx])
      have r1' := r1.mono (H' := H') hF fun x hx => hH x (by simp [hx])
      refine ⟨fun t' v' h' w => ?_, fun s' => ?_⟩
      · obtain ⟨f', x, y⟩ := a t' v' h' w
        refine ⟨f1 ++ f', ?_, ?_⟩
        · simp only [List.set_cons_succ, RS]
          exact ⟨v, _, f1, f', rfl, rfl, r1', x⟩
        · have p1 : (f1 ++ f').Perm (f1 ++ (h' ++ q)) := y.append_left f1
          have p2 : (f1 ++ (h' ++ q)).Perm (h' ++ (f1 ++ q)) := by
            rw [← List.append_assoc, ← List.append_assoc]
            exact (List.perm_append_comm).append_right q
          exact p1.trans p2
      · obtain ⟨f', x, y⟩ := b s'
        refine ⟨f1 ++ f', ?_, y.append_left f1⟩
        simp only [List.set_cons_succ, RS]
        exact ⟨v, _, f1, f', rfl, rfl, r1', x⟩

/-! ### results -/
structure Ex where
  name : Str
  fld : Option (Str × PyData)
inductive Rs (α : Type) where
  | ok (a : α)
  | exc (e : Ex) (η : Env)
  | bad
def Rs.post {α : Type} (r : Rs α) (P : α → Prop) (E : Ex → Env → Prop) : Prop := match r with
  | .ok a => P a
  | .exc e η => E e η
  | .bad => False
@[inline] def Rs.bind {α β : Type} (r : Rs α) (f : α → Rs β) : Rs β := match r with
  | .ok a => f a
  | .exc e η => .exc e η
  | .bad => .bad
@[simp] theorem Rs.bind_ok {α β : Type} (a : α) (f : α → Rs β) : (Rs.ok a).bind f = f a := rfl
@[simp] theorem Rs.bind_exc {α β : Type} (e : Ex) (η : Env) (f : α → Rs β) : (Rs.exc e η : Rs α).bind f = .exc e η := rfl
@[simp] theorem Rs.bind_bad {α β : Type} (f : α → Rs β) : (Rs.bad : Rs α).bind f = .bad := rfl
theorem Rs.post_mono {α : Type} {r : Rs α} {P P' : α → Prop} {E E' : Ex → Env → Prop} (h : r.post P E) (hP : ∀ a, P a → P' a) (hE : ∀ e η, E e η → E' e η) : r.post P' E' := by
  cases r with
  | ok a => exact hP a h
  | exc e η => exact hE e η h
  | bad => exact h

/-! ### what a step leaves: own addresses fp, the shared part F within the heap H -/
structure Ok (K : PySem.W.Frag) (F H : Hp) (η : Env) (σ : St) (fp : List Addr) : Prop where
  rs : RS K F H η σ fp
  nd : fp.Nodup
  fn : ∀ a ∈ fp, F a = none
  fh : Same F H
structure Ext (fp : List Addr) (F H F' H' : Hp) : Prop where
  ff : Same F F'
  keep : ∀ b o, H b = some o → b ∉ fp → H' b = some o
  new : ∀ b, H b ≠ none → b ∉ fp → F' b = F b
theorem Ext.refl {fp : List Addr} {F H : Hp} : Ext fp F H F H := ⟨.refl _, fun _ _ h _ => h, fun _ _ _ => rfl⟩
theorem Ext.trans {fp fp1 : List Addr} {F H F1 H1 F2 H2 : Hp} (a : Ext fp F H F1 H1) (b : Ext fp1 F1 H1 F2 H2) (s : ∀ x ∈ fp1, x ∈ fp ∨ H x = none) : Ext fp F H F2 H2 := by
  have n : ∀ c o, H c = some o → c ∉ fp → c ∉ fp1 := fun c o h hc hb => by
    rcases s c hb with z | z
    · exact hc z
    · rw [z] at h; cases h
  refine ⟨a.ff.trans b.ff, fun c o h hc => b.keep c o (a.keep c o h hc) (n c o h hc), fun c h hc => ?_⟩
  obtain ⟨o, e⟩ := Option.ne_none_iff_exists'.mp h
  rw [b.new c (by rw [a.keep c o e hc]; simp) (n c o e hc), a.new c h hc]
/-- behind an expression: the values vs hold ts, the slots σ hold η' -/
structure Aft (K : PySem.W.Frag) (fp : List Addr) (F H : Hp) (σ : St) (ts : List T) (vs : List V) (η' : Env) (F' H' : Hp) (f1 fp' : List Addr) : Prop where
  rt : RTs K F' H' ts vs f1
  rs : RS K F' H' η' σ fp'
  nd : (f1 ++ fp').Nodup
  fn : ∀ a ∈ f1 ++ fp', F' a = none
  fh : Same F' H'
  ext : Ext fp F H F' H'
  sub : ∀ a ∈ f1 ++ fp', a ∈ fp ∨ H a = none
theorem Ok.aft {K : PySem.W.Frag} {F H : Hp} {η : Env} {σ : St} {fp : List Addr} (o : Ok K F H η σ fp) : Aft K fp F H σ [] [] η F H [] fp :=
  ⟨.nil, o.rs, by simpa using o.nd, by simpa using o.fn, o.fh, .refl, fun a ha => .inl (by simpa using ha)⟩
theorem Aft.ok {K : PySem.W.Frag} {fp : List Addr} {F H : Hp} {σ : St} {ts : List T} {vs : List V} {η' : Env} {F' H' : Hp} {f1 fp' : List Addr} (a : Aft K fp F H σ ts vs η' F' H' f1 fp') : Ok K F' H' η' σ fp' :=
  ⟨a.rs, (List.nodup_append.mp a.nd).2.1, fun b hb => a.fn b (by simp [hb]), a.fh⟩
/-- one step, then another -/
theorem Aft.app {K : PySem.W.Frag} {fp : List Addr} {F H : Hp} {σ σ' : St} {ts us : List T} {vs ws : List V} {η1 η2 : Env} {F1 H1 F2 H2 : Hp} {f1 fp1 f2 fp2 : List Addr} (a : Aft K fp F H σ ts vs η1 F1 H1 f1 fp1)
    (b : Aft K fp1 F1 H1 σ' us ws η2 F2 H2 f2 fp2) : Aft K fp F H σ' (ts ++ us) (vs ++ ws) η2 F2 H2 (f1 ++ f2) fp2 := by
  have d1 : ∀ x ∈ f1, x ∉ fp1 := fun x hx hy => (List.nodup_append.mp a.nd).2.2 x hx x hy rfl
  have there1 : ∀ x ∈ f1, ∃ o, H1 x = some o := a.rt.there
  have d2 : ∀ x ∈ f1, x ∉ f2 ++ fp2 := fun x hx hy => by
    rcases b.sub x hy with z | z
    · exact d1 x hx z
    · obtain ⟨o, e⟩ := there1 x hx
      rw [e] at z; cases z
  refine ⟨(a.rt.mono b.ext.ff fun x hx o e => b.ext.keep x o e (d1 x hx)).append b.rt, b.rs, ?_, fun x hx => ?_, b.fh, a.ext.trans b.ext fun x hx => a.sub x (by simp [hx]), fun x hx => ?_⟩
  · rw [List.append_assoc]
    exact List.nodup_append.mpr ⟨(List.nodup_append.mp a.nd).1, b.nd, fun x hx y hy e => d2 x hx (e ▸ hy)⟩
  · rw [List.append_assoc] at hx
    rcases List.mem_append.mp hx with hx | hx
    · obtain ⟨o, e⟩ := there1 x hx
      rw [b.ext.new x (by rw [e]; simp) (d1 x hx)]
      exact a.fn x (by simp [hx])
    · exact b.fn x hx
  · rw [List.append_assoc] at hx
    rcases List.mem_append.mp hx with hx | hx
    · exact a.sub x (by simp [hx])
    · rcases b.sub x hx with z | z
      · exact a.sub x (by simp [z])
      · by_cases hm : x ∈ fp
        · exact .inl hm
        · cases e : H x with
          | none => exact .inr rfl
          | some o =>
            rw [a.ext.keep x o e hm] at z; cases z
/-- what was made is given away -/
theorem Aft.freeze {K : PySem.W.Frag} {fp : List Addr} {F H : Hp} {σ : St} {ts : List T} {vs : List V} {η' : Env} {F' H' : Hp} {f1 fp' : List Addr} (a : Aft K fp F H σ ts vs η' F' H' f1 fp') :
    ∃ F2, Aft K fp F H σ [] [] η' F2 H' [] fp' ∧ RpAll K F2 (T.vals ts) vs := by
  have d1 : ∀ x ∈ f1, x ∉ fp' := fun x hx hy => (List.nodup_append.mp a.nd).2.2 x hx x hy rfl
  have hF : Same F' (fun b => if b ∈ f1 then H' b else F' b) := fun b o e => by
    have nb : b ∉ f1 := fun hb => by rw [a.fn b (by simp [hb])] at e; cases e
    simp only [if_neg nb]; exact e
  refine ⟨fun b => if b ∈ f1 then H' b else F' b, ⟨.nil, a.rs.mono hF fun _ _ _ e => e, (List.nodup_append.mp a.nd).2.1, fun x hx => ?_, fun b o e => ?_, ⟨a.ext.ff.trans hF, a.ext.keep, fun b hb hn => ?_⟩, fun x hx => a.sub x (by simp at hx; simp [hx])⟩, a.rt.freeze hF fun b hb => if_pos hb⟩
  · have hx : x ∈ fp' := by simpa using hx
    have nx : x ∉ f1 := fun h => d1 x h hx
    simp only [if_neg nx]; exact a.fn x (by simp [hx])
  · by_cases hb : b ∈ f1
    · simp only [if_pos hb] at e; exact e
    · simp only [if_neg hb] at e; exact a.fh b o e
  · have nb : b ∉ f1 := fun h => by
      rcases a.sub b (by simp [h]) with z | z
      · exact hn z
      · exact hb z
    simp only [if_neg nb]; exact a.ext.new b hb hn

/-! ### what an operation gives -/
structure ResOk (K : PySem.W.Frag) (F H : Hp) (t : T) (v : V) (F' H' : Hp) (f : List Addr) : Prop where
  rt : RT K F' H' t v f
  ff : Same F F'
  fh : Same F' H'
  hh : Same H H'
  new : ∀ b, H b ≠ none → F' b = F b
  nd : f.Nodup
  fr : ∀ a ∈ f, H a = none ∧ F' a = none
def Res (K : PySem.W.Frag) (F H : Hp) (t : T) (Q : VK) : Prop := ∀ v F' H' f, ResOk K F H t v F' H' f → Q v H'
theorem Aft.res {K : PySem.W.Frag} {fp : List Addr} {F H : Hp} {σ : St} {η' : Env} {F' H' F2 H2 : Hp} {fp' f : List Addr} {t : T} {v : V} (a : Aft K fp F H σ [] [] η' F' H' [] fp') (r : ResOk K F' H' t v F2 H2 f) :
    Aft K fp F H σ [t] [v] η' F2 H2 f fp' := by
  have there : ∀ x ∈ fp', ∃ o, H' x = some o := a.rs.there
  refine ⟨.one r.rt, a.rs.mono r.ff fun x _ o e => r.hh x o e, List.nodup_append.mpr ⟨r.nd, by simpa using a.nd, fun x hx y hy e => ?_⟩, fun x hx => ?_, r.fh, ⟨a.ext.ff.trans r.ff, fun b o e hb => r.hh b o (a.ext.keep b o e hb), fun b h hb => ?_⟩, fun x hx => ?_⟩
  · subst e
    obtain ⟨o, q⟩ := there x hy
    rw [(r.fr x hx).1] at q; cases q
  · rcases List.mem_append.mp hx with hx | hx
    · exact (r.fr x hx).2
    · obtain ⟨o, q⟩ := there x hx
      rw [r.new x (by rw [q]; simp)]
      exact a.fn x (by simp [hx])
  · obtain ⟨o, e⟩ := Option.ne_none_iff_exists'.mp h
    rw [r.new b (by rw [a.ext.keep b o e hb]; simp), a.ext.new b h hb]
  · rcases List.mem_append.mp hx with hx | hx
    · by_cases hm : x ∈ fp
      · exact .inl hm
      · cases e : H x with
        | none => exact .inr rfl
        | some o =>
          have := (r.fr x hx).1
          rw [a.ext.keep x o e hm] at this; cases this
    · exact a.sub x (by simp [hx])
/-- a value that stands already -/
theorem ResOk.here {K : PySem.W.Frag} {F H : Hp} {d : PyData} {v : V} (fh : Same F H) (h : Rp K F d v) : ResOk K F H (.sh d) v F H [] :=
  ⟨by simp only [RT]; exact ⟨trivial, h⟩, .refl _, fh, .refl _, fun _ _ => rfl, by simp, by simp⟩
theorem same_upd {H : Hp} {p : Addr} {o : HO} (h : H p = none) : Same H (upd H p o) := fun b u e => by
  rw [upd_ne (ne_of_none e h)]; exact e
/-- a new tuple -/
theorem ResOk.tup {K : PySem.W.Frag} {F H : Hp} {ds : List PyData} {xs : List V} {p : Addr} (fh : Same F H) (h : RpAll K F ds xs) (hp : H p = none) : ResOk K F H (.sh (.tuple ds)) (.ref p) (upd F p (.tup xs)) (upd H p (.tup xs)) [] := by
  have fp : F p = none := fh.free hp
  refine ⟨?_, same_upd fp, fun b o e => ?_, same_upd hp, fun b hb => ?_, by simp, by simp⟩
  · simp only [RT, Rp]
    exact ⟨trivial, p, xs, rfl, SqT.of upd_same, h.mono (same_upd fp)⟩
  · by_cases hb : b = p
    · subst hb; rw [upd_same] at e ⊢; exact e
    · rw [upd_ne hb] at e ⊢; exact fh b o e
  · have : b ≠ p := fun e => by subst e; exact hb hp
    rw [upd_ne this]
/-- a new list, owned -/
theorem ResOk.lst {K : PySem.W.Frag} {F H : Hp} {ds : List PyData} {xs : List V} {p : Addr} (fh : Same F H) (h : RpAll K F ds xs) (hp : H p = none) : ResOk K F H (.lst (ds.map T.sh)) (.ref p) F (upd H p (.lst xs)) [p] := by
  have fp : F p = none := fh.free hp
  refine ⟨?_, .refl _, fun b o e => ?_, same_upd hp, fun b hb => rfl, by simp, fun a ha => ?_⟩
  · simp only [RT]
    exact ⟨p, xs, [], rfl, upd_same, rfl, .of_sh h⟩
  · rw [upd_ne (ne_of_none e fp)]; exact fh b o e
  · have : a = p := by simpa using ha
    subst this; exact ⟨hp, fp⟩

/-! ### readings -/
structure Cn where
  K : PySem.W.Frag
  W : WX
  cn : Str → Option Value
def ExR (C : Cn) (F' H' : Hp) (e : Ex) (cls : Value) (d : Option Addr) : Prop :=
  C.cn e.name = some cls ∧ match e.fld with
    | .none => d = none
    | .some (f, x) => ∃ da v, d = some da ∧ H' da = some (.xd [(f, v)]) ∧ Rp C.K F' x v
def XP (C : Cn) (fp : List Addr) (F H : Hp) (σ : St) (e : Ex) (η' : Env) : Prop := ∀ cls d F' H', ExR C F' H' e cls d → RS C.K F' H' η' σ [] → Same F' H' → Ext fp F H F' H' → C.W cls d σ H'
abbrev FE := Env → Rs (T × Env)
abbrev FB := Env → Rs (Bool × Env)
abbrev FA := Env → Rs (List T × Env)
def tD (C : Cn) (f : FE) : TE := fun σ H Q => ∃ η F fp, Ok C.K F H η σ fp ∧ (f η).post (fun p => ∀ v F' H' f1 fp', Aft C.K fp F H σ [p.1] [v] p.2 F' H' f1 fp' → Q v H') (XP C fp F H σ)
def tB (C : Cn) (f : FB) : TT := fun σ H Q => ∃ η F fp, Ok C.K F H η σ fp ∧ (f η).post (fun p => ∀ F' H' fp', Aft C.K fp F H σ [] [] p.2 F' H' [] fp' → Q p.1 H') (XP C fp F H σ)
def tA (C : Cn) (f : FA) : TA := fun σ H Q => ∃ η F fp, Ok C.K F H η σ fp ∧ (f η).post (fun p => ∀ vs F' H' f1 fp', Aft C.K fp F H σ p.1 vs p.2 F' H' f1 fp' → Q vs H') (XP C fp F H σ)
theorem XP.back {C : Cn} {fp fp1 f1 : List Addr} {F H F1 H1 : Hp} {σ : St} {ts : List T} {vs : List V} {η1 : Env} {e : Ex} {η' : Env} (a : Aft C.K fp F H σ ts vs η1 F1 H1 f1 fp1) (h : XP C fp F H σ e η') : XP C fp1 F1 H1 σ e η' :=
  fun cls d F' H' x r s ext => h cls d F' H' x r s (a.ext.trans ext fun b hb => a.sub b (by simp [hb]))
section
variable {C : Cn} {fp fp1 f1 : List Addr} {F H F1 H1 : Hp} {σ : St} {ts : List T} {vs : List V} {η1 : Env}
theorem tD_step {f : FE} {Q : VK} (a : Aft C.K fp F H σ ts vs η1 F1 H1 f1 fp1) (h : (f η1).post (fun p => ∀ v F2 H2 f2 fp2, Aft C.K fp F H σ (ts ++ [p.1]) (vs ++ [v]) p.2 F2 H2 f2 fp2 → Q v H2) (XP C fp F H σ)) : tD C f σ H1 Q :=
  ⟨η1, F1, fp1, a.ok, Rs.post_mono h (fun p hp v F' H' f' fp' b => hp v F' H' _ _ (a.app b)) fun e η' he => he.back a⟩
theorem tB_step {f : FB} {Q : Bool → Hp → Prop} (a : Aft C.K fp F H σ ts vs η1 F1 H1 f1 fp1) (h : (f η1).post (fun p => ∀ F2 H2 f2 fp2, Aft C.K fp F H σ ts vs p.2 F2 H2 f2 fp2 → Q p.1 H2) (XP C fp F H σ)) : tB C f σ H1 Q :=
  ⟨η1, F1, fp1, a.ok, Rs.post_mono h (fun p hp F' H' fp' b => hp F' H' _ _ (by simpa using a.app b)) fun e η' he => he.back a⟩
theorem tA_step {f : FA} {Q : List V → Hp → Prop} (a : Aft C.K fp F H σ ts vs η1 F1 H1 f1 fp1) (h : (f η1).post (fun p => ∀ ws F2 H2 f2 fp2, Aft C.K fp F H σ (ts ++ p.1) (vs ++ ws) p.2 F2 H2 f2 fp2 → Q ws H2) (XP C fp F H σ)) : tA C f σ H1 Q :=
  ⟨η1, F1, fp1, a.ok, Rs.post_mono h (fun p hp v F' H' f' fp' b => hp v F' H' _ _ (a.app b)) fun e η' he => he.back a⟩
end
theorem _root_.L2.PE.impD {X : Cx} {e : Expr} {t t' : TE} (h : PE X e t) (k : ∀ σ H Q, t' σ H Q → t σ H Q) : PE X e t' := ⟨fun pins s σ H Q I q => h.run pins s σ H Q I (k σ H Q q)⟩
theorem _root_.L2.PT.impD {X : Cx} {e : Expr} {t t' : TT} (h : PT X e t) (k : ∀ σ H Q, t' σ H Q → t σ H Q) : PT X e t' := ⟨fun pins s σ H Q I q => h.run pins s σ H Q I (k σ H Q q)⟩
theorem _root_.L2.PW.impD {X : Cx} {e : Expr} {t t' : TT} (h : PW X e t) (k : ∀ σ H Q, t' σ H Q → t σ H Q) : PW X e t' := ⟨fun wh pins s σ H Q I q => h.run wh pins s σ H Q I (k σ H Q q)⟩
theorem _root_.L2.PA.impD {X : Cx} {e : List Expr} {t t' : TA} (h : PA X e t) (k : ∀ σ H Q, t' σ H Q → t σ H Q) : PA X e t' := ⟨fun pos pins s σ H Q I q => h.run pos pins s σ H Q I (k σ H Q q)⟩

/-- post through a bind -/
theorem Rs.post_bind {α β : Type} {r : Rs α} {f : α → Rs β} {P : β → Prop} {E : Ex → Env → Prop} (h : (r.bind f).post P E) : r.post (fun a => (f a).post P E) E := by
  cases r with
  | ok a => exact h
  | exc e η => exact h
  | bad => exact h

/-! ### constants, names -/
def eC (d : PyData) : FE := fun η => .ok (.sh d, η)
def setT (η : Env) (i : Nat) (t : T) : Env := η.set i (some t)
def eV (i : Nat) : FE := fun η => match η[i]? with
  | some (some (.sh d)) => .ok (.sh d, η)
  | some (some (.lst ts)) => .ok (.sh (.list (T.vals ts)), η.set i (some (.sh (.list (T.vals ts)))))
  | some (some (.dct kvs)) => .ok (.sh (.dict (kvD kvs)), η.set i (some (.sh (.dict (kvD kvs)))))
  | _ => .bad
variable {X : Cx} {C : Cn}
theorem Ok.res {K : PySem.W.Frag} {F H : Hp} {η : Env} {σ : St} {fp : List Addr} {t : T} {v : V} {F2 H2 : Hp} {f : List Addr} (o : Ok K F H η σ fp) (r : ResOk K F H t v F2 H2 f) : Aft K fp F H σ [t] [v] η F2 H2 f fp := o.aft.res r
theorem rp_c {K : PySem.W.Frag} {F : Hp} : (∀ {i}, Rp K F (.int i) (.int i)) ∧ (∀ {b}, Rp K F (.bool b) (.bl b)) ∧ (∀ {s}, Rp K F (.str s) (.str s)) ∧ Rp K F .none .non := by
  refine ⟨?_, ?_, ?_, ?_⟩ <;> intros <;> simp only [Rp]
theorem pd_c {e : Expr} {v : V} {d : PyData} (h : PE X e (tC v)) (hd : ∀ F, Rp C.K F d v) : PE X e (tD C (eC d)) :=
  h.impD fun σ H Q ⟨η, F, fp, o, q⟩ => q v F H [] fp (o.res (.here o.fh (hd F)))
theorem pd_int {i j pos} : PE X (.Constant (.int i) j pos) (tD C (eC (.int i))) := pd_c pe_int fun _ => rp_c.1
theorem pd_bool {b j pos} : PE X (.Constant (.bool b) j pos) (tD C (eC (.bool b))) := pd_c pe_bl fun _ => rp_c.2.1
theorem pd_str {s j pos} : PE X (.Constant (.str s) j pos) (tD C (eC (.str s))) := pd_c pe_str fun _ => rp_c.2.2.1
theorem pd_none {j pos} : PE X (.Constant .none j pos) (tD C (eC .none)) := pd_c pe_non fun _ => rp_c.2.2.2
theorem set_self {α : Type} : ∀ {l : List α} {i : Nat} {x : α}, l[i]? = some x → l.set i x = l
  | [], _, _, h => by simp at h
  | a :: l, 0, x, h => by simp at h; subst h; rfl
  | a :: l, i + 1, x, h => by simp only [List.set_cons_succ]; rw [set_self (by simpa using h)]
theorem eV_var {i : Nat} {σ : St} {H : Hp} {Q : VK} (h : tD C (eV i) σ H Q) : tVar i σ H Q := by
  obtain ⟨η, F, fp, o, q⟩ := h
  unfold eV at q
  split at q
  · rename_i d e
    have hi : i < η.length := (List.getElem?_eq_some_iff.mp e).1
    obtain ⟨s, g, r, h1, h2, h3, h4⟩ := o.rs.focus hi
    obtain ⟨v, rfl, rt⟩ := h3 _ e
    simp only [RT] at rt
    exact ⟨v, h1, q v F H [] fp (o.res (.here o.fh rt.2))⟩
  · rename_i ts e
    have hi : i < η.length := (List.getElem?_eq_some_iff.mp e).1
    obtain ⟨s, g, r, h1, h2, h3, h4⟩ := o.rs.focus hi
    obtain ⟨v, rfl, rt⟩ := h3 _ e
    refine ⟨v, h1, ?_⟩
    have nd : (g ++ r).Nodup := h2.nodup_iff.mp o.nd
    have dj : ∀ x ∈ r, x ∉ g := fun x hx hy => (List.nodup_append.mp nd).2.2 x hy x hx rfl
    have mem : ∀ x, x ∈ g ∨ x ∈ r → x ∈ fp := fun x hx => h2.mem_iff.mpr (List.mem_append.mpr hx)
    have hF : Same F (fun b => if b ∈ g then H b else F b) := fun b u e => by
      have nb : b ∉ g := fun hb => by rw [o.fn b (mem b (.inl hb))] at e; cases e
      simp only [if_neg nb]; exact e
    have rp := rt.freeze hF fun b hb => if_pos hb
    obtain ⟨f', rs', pm⟩ := (h4 _ H hF (fun _ _ _ z => z)).1 (.sh (.list (T.vals ts))) v [] (by simp only [RT]; exact ⟨trivial, rp⟩)
    rw [set_self h1] at rs'
    have pm : f'.Perm r := pm
    refine q v _ H [] f' ⟨.one (by simp only [RT]; exact ⟨trivial, rp⟩), rs', ?_, fun x hx => ?_, fun b u e => ?_, ⟨hF, fun _ _ z _ => z, fun b hb hn => ?_⟩, fun x hx => .inl (mem x (.inr (pm.mem_iff.mp (by simpa using hx))))⟩
    · show ([] ++ f').Nodup
      rw [List.nil_append]
      exact pm.nodup_iff.mpr (List.nodup_append.mp nd).2.1
    · have hx : x ∈ r := pm.mem_iff.mp (by simpa using hx)
      simp only [if_neg (dj x hx)]
      exact o.fn x (mem x (.inr hx))
    · by_cases hb : b ∈ g
      · simp only [if_pos hb] at e; exact e
      · simp only [if_neg hb] at e; exact o.fh b u e
    · simp only [if_neg fun hg => hn (mem b (.inl hg))]
  · rename_i kvs e
    have hi : i < η.length := (List.getElem?_eq_some_iff.mp e).1
    obtain ⟨s, g, r, h1, h2, h3, h4⟩ := o.rs.focus hi
    obtain ⟨v, rfl, rt⟩ := h3 _ e
    refine ⟨v, h1, ?_⟩
    have nd : (g ++ r).Nodup := h2.nodup_iff.mp o.nd
    have dj : ∀ x ∈ r, x ∉ g := fun x hx hy => (List.nodup_append.mp nd).2.2 x hy x hx rfl
    have mem : ∀ x, x ∈ g ∨ x ∈ r → x ∈ fp := fun x hx => h2.mem_iff.mpr (List.mem_append.mpr hx)
    have hF : Same F (fun b => if b ∈ g then H b else F b) := fun b u e => by
      have nb : b ∉ g := fun hb => by rw [o.fn b (mem b (.inl hb))] at e; cases e
      simp only [if_neg nb]; exact e
    have rp := rt.freeze hF fun b hb => if_pos hb
    obtain ⟨f', rs', pm⟩ := (h4 _ H hF (fun _ _ _ z => z)).1 (.sh (.dict (kvD kvs))) v [] (by simp only [RT]; exact ⟨trivial, rp⟩)
    rw [set_self h1] at rs'
    have pm : f'.Perm r := pm
    refine q v _ H [] f' ⟨.one (by simp only [RT]; exact ⟨trivial, rp⟩), rs', ?_, fun x hx => ?_, fun b u e => ?_, ⟨hF, fun _ _ z _ => z, fun b hb hn => ?_⟩, fun x hx => .inl (mem x (.inr (pm.mem_iff.mp (by simpa using hx))))⟩
    · show ([] ++ f').Nodup
      rw [List.nil_append]
      exact pm.nodup_iff.mpr (List.nodup_append.mp nd).2.1
    · have hx : x ∈ r := pm.mem_iff.mp (by simpa using hx)
      simp only [if_neg (dj x hx)]
      exact o.fn x (mem x (.inr hx))
    · by_cases hb : b ∈ g
      · simp only [if_pos hb] at e; exact e
      · simp only [if_neg hb] at e; exact o.fh b u e
    · simp only [if_neg fun hg => hn (mem b (.inl hg))]
  · exact q.elim
theorem pd_v {i : Nat} {x : Str} {pos : Pos} (h : PE X (.Name x pos) (tVar i)) : PE X (.Name x pos) (tD C (eV i)) := PE.impD h fun σ H Q => eV_var

/-! ### operands: shared data, or a list that is owned by a slot and looked at, its items shared -/
def Rq (K : PySem.W.Frag) (F H : Hp) (d : PyData) (v : V) : Prop := Rp K F d v ∨ (∃ a xs ds, d = .list ds ∧ v = .ref a ∧ H a = some (.lst xs) ∧ RpAll K F ds xs) ∨ ∃ a ks ds, d = .dict ds ∧ v = .ref a ∧ H a = some (.dK ks) ∧ RpKv K F ds ks
def RqAll (K : PySem.W.Frag) (F H : Hp) : List PyData → List V → Prop
  | [], vs => vs = []
  | d :: ds, vs => ∃ x xs, vs = x :: xs ∧ Rq K F H d x ∧ RqAll K F H ds xs
theorem RpAll.rq {K : PySem.W.Frag} {F H : Hp} : ∀ {ds : List PyData} {vs : List V}, RpAll K F ds vs → RqAll K F H ds vs
  | [], _, h => by simpa only [RpAll, RqAll] using h
  | d :: ds, vs, h => by
    obtain ⟨x, xs, rfl, q, r⟩ := h.uncons
    simp only [RqAll]
    exact ⟨x, xs, rfl, .inl q, RpAll.rq r⟩
theorem rq_int {K : PySem.W.Frag} {F H : Hp} {i : Int} {v : V} (h : Rq K F H (.int i) v) : v = .int i := by
  rcases h with h | ⟨a, xs, ds, e, _⟩ | ⟨a, xs, ds, e, _⟩
  · simpa only [Rp] using h
  · cases e
  · cases e
theorem rq_bool {K : PySem.W.Frag} {F H : Hp} {i : Bool} {v : V} (h : Rq K F H (.bool i) v) : v = .bl i := by
  rcases h with h | ⟨a, xs, ds, e, _⟩ | ⟨a, xs, ds, e, _⟩
  · simpa only [Rp] using h
  · cases e
  · cases e
theorem rq_str {K : PySem.W.Frag} {F H : Hp} {i : Str} {v : V} (h : Rq K F H (.str i) v) : v = .str i := by
  rcases h with h | ⟨a, xs, ds, e, _⟩ | ⟨a, xs, ds, e, _⟩
  · simpa only [Rp] using h
  · cases e
  · cases e
theorem rq_none {K : PySem.W.Frag} {F H : Hp} {v : V} (h : Rq K F H .none v) : v = .non := by
  rcases h with h | ⟨a, xs, ds, e, _⟩ | ⟨a, xs, ds, e, _⟩
  · simpa only [Rp] using h
  · cases e
  · cases e
theorem rq_list {K : PySem.W.Frag} {F H : Hp} {ds : List PyData} {v : V} (fh : Same F H) (h : Rq K F H (.list ds) v) : ∃ a xs, v = .ref a ∧ SqL K H a xs ∧ RpAll K F ds xs := by
  rcases h with h | ⟨a, xs, ds', e, rfl, h1, h2⟩ | ⟨a, xs, ds, e, _⟩
  · simp only [Rp] at h
    obtain ⟨a, xs, rfl, q, r⟩ := h
    exact ⟨a, xs, rfl, sqL_mono fh q, r⟩
  · cases e
    exact ⟨a, xs, rfl, SqL.of h1, h2⟩
  · cases e
theorem rq_tup {K : PySem.W.Frag} {F H : Hp} {ds : List PyData} {v : V} (h : Rq K F H (.tuple ds) v) : ∃ a xs, v = .ref a ∧ SqT K F a xs ∧ RpAll K F ds xs := by
  rcases h with h | ⟨a, xs, ds, e, _⟩ | ⟨a, xs, ds, e, _⟩
  · simpa only [Rp] using h
  · cases e
  · cases e
/-- no dict whose keys are tuples -/
def noTd : PyData → Bool
  | .dict ((.tuple _, _) :: _) => false
  | _ => true
@[simp] theorem noTd_none : noTd .none = true := rfl
@[simp] theorem noTd_bool {b : Bool} : noTd (.bool b) = true := rfl
@[simp] theorem noTd_int {i : Int} : noTd (.int i) = true := rfl
@[simp] theorem noTd_str {x : Str} : noTd (.str x) = true := rfl
@[simp] theorem noTd_list {ds : List PyData} : noTd (.list ds) = true := rfl
@[simp] theorem noTd_tup {ds : List PyData} : noTd (.tuple ds) = true := rfl
@[simp] theorem noTd_nil : noTd (.dict []) = true := rfl
@[simp] theorem noTd_dint {i : Int} {d : PyData} {kvs : List (PyData × PyData)} : noTd (.dict ((.int i, d) :: kvs)) = true := rfl
@[simp] theorem noTd_dstr {x : Str} {d : PyData} {kvs : List (PyData × PyData)} : noTd (.dict ((.str x, d) :: kvs)) = true := rfl
theorem rq_dict {K : PySem.W.Frag} {F H : Hp} {ds : List (PyData × PyData)} {v : V} (fh : Same F H) (h : Rq K F H (.dict ds) v) (hn : noTd (.dict ds) = true) : ∃ a ks, v = .ref a ∧ H a = some (.dK ks) ∧ RpKv K F ds ks := by
  rcases h with h | ⟨a, xs, ds, e, _⟩ | ⟨a, ks, ds', e, rfl, h1, h2⟩
  · simp only [Rp] at h
    rcases h with ⟨a, ks, rfl, q, r⟩ | ⟨a, es, rfl, b, q, nd, ne, r⟩
    · exact ⟨a, ks, rfl, fh _ _ q, r⟩
    · cases ds with
      | nil => exact absurd rfl ne
      | cons p ds =>
        obtain ⟨k, d⟩ := p
        simp only [RpTd] at r
        obtain ⟨e, es', _, rfl, _⟩ := r
        cases hn
  · cases e
  · cases e
    exact ⟨a, ks, rfl, h1, h2⟩
theorem rq_dict_ref {K : PySem.W.Frag} {F H : Hp} {ds : List (PyData × PyData)} {v : V} (h : Rq K F H (.dict ds) v) : ∃ a, v = .ref a := by
  rcases h with h | ⟨a, xs, ds, e, _⟩ | ⟨a, ks, ds', e, rfl, h1, h2⟩
  · simp only [Rp] at h
    rcases h with ⟨a, ks, rfl, _⟩ | ⟨a, es, rfl, _⟩ <;> exact ⟨a, rfl⟩
  · cases e
  · exact ⟨a, rfl⟩
/-- a dict whose keys are tuples -/
theorem rq_td {K : PySem.W.Frag} {F H : Hp} {d : PyData} {ds : List (PyData × PyData)} {ks : List PyData} {v : V} (fh : Same F H) (h : Rq K F H (.dict ((.tuple ks, d) :: ds)) v) : ∃ a es, v = .ref a ∧ (a == sysModules) = false ∧ H a = some (tdO a es) ∧ (es.map TdE.k).Nodup ∧ RpTd K F ((.tuple ks, d) :: ds) es := by
  have no : ∀ {q : List (Key × V)}, ¬ RpKv K F ((.tuple ks, d) :: ds) q := fun h => by
    simp only [RpKv] at h
    obtain ⟨q, x, qs, _, e, _⟩ := h
    cases q <;> cases e
  rcases h with h | ⟨a, xs, ds, e, _⟩ | ⟨a, ks, ds', e, rfl, h1, h2⟩
  · simp only [Rp] at h
    rcases h with ⟨a, ks, rfl, q, r⟩ | ⟨a, es, rfl, b, q, nd, ne, r⟩
    · exact absurd r no
    · exact ⟨a, es, rfl, b, fh _ _ q, nd, r⟩
  · cases e
  · cases e
    exact absurd h2 no
/-- a new dict, shared -/
theorem ResOk.dct {K : PySem.W.Frag} {F H : Hp} {ds : List (PyData × PyData)} {ks : List (Key × V)} {p : Addr} (fh : Same F H) (h : RpKv K F ds ks) (hp : H p = none) : ResOk K F H (.sh (.dict ds)) (.ref p) (upd F p (.dK ks)) (upd H p (.dK ks)) [] := by
  have fp : F p = none := fh.free hp
  refine ⟨?_, same_upd fp, fun b o e => ?_, same_upd hp, fun b hb => ?_, by simp, by simp⟩
  · simp only [RT, Rp]
    exact ⟨trivial, .inl ⟨p, ks, rfl, upd_same, h.mono (same_upd fp)⟩⟩
  · by_cases hb : b = p
    · subst hb; rw [upd_same] at e ⊢; exact e
    · rw [upd_ne hb] at e ⊢; exact fh b o e
  · have : b ≠ p := fun e => by subst e; exact hb hp
    rw [upd_ne this]
theorem Rq.dp {K : PySem.W.Frag} {F H : Hp} {d : PyData} {v : V} (fh : Same F H) (h : Rq K F H d v) (c : d.canLay0 = true) : Dp K H v d := by
  rcases h with h | ⟨a, xs, ds, rfl, rfl, h1, h2⟩ | ⟨a, xs, ds, rfl, _⟩
  · exact (h.mono fh).dp c
  · exact .lst (SqL.of h1) ((h2.mono fh).dp (by simpa only [PyData.canLay0] using c))
  · simp only [PyData.canLay0] at c; cases c
/-- a slot looked at -/
def shD : T → Option PyData
  | .sh d => some d
  | .lst _ => none
  | .dct _ => none
def shDs : List T → Option (List PyData)
  | [] => some []
  | t :: ts => match shD t, shDs ts with
    | some d, some ds => some (d :: ds)
    | _, _ => none
@[simp] theorem shDs_map (ds : List PyData) : shDs (ds.map T.sh) = some ds := by
  induction ds with
  | nil => rfl
  | cons d ds ih => simp [shDs, shD, ih]
def pkD : T → Option PyData
  | .sh d => some d
  | .lst ts => match shDs ts with
    | some ds => some (.list ds)
    | none => none
  | .dct kvs => some (.dict (kvD kvs))
def pk (η : Env) (i : Nat) : Option PyData := match η[i]? with
  | some (some t) => pkD t
  | _ => none
theorem shDs_rp {K : PySem.W.Frag} {F H : Hp} : ∀ {ts : List T} {ds : List PyData} {vs : List V} {f : List Addr}, shDs ts = some ds → RTs K F H ts vs f → RpAll K F ds vs ∧ f = [] ∧ ts = ds.map T.sh
  | [], ds, vs, f, e, h => by
    simp only [shDs, Option.some.injEq] at e
    subst e
    simp only [RTs] at h
    rw [h.1]
    exact ⟨.nil, h.2, rfl⟩
  | t :: ts, ds, vs, f, e, h => by
    obtain ⟨x, xs, f1, f2, rfl, rfl, r1, r2⟩ := h.uncons
    unfold shDs at e
    split at e
    · rename_i d ds' e1 e2
      cases e
      obtain ⟨q1, rfl, e3⟩ := shDs_rp e2 r2
      cases t with
      | sh d' =>
        simp only [shD, Option.some.injEq] at e1
        subst e1
        simp only [RT] at r1
        obtain ⟨rfl, r1⟩ := r1
        exact ⟨.consI r1 q1, rfl, by simp [e3]⟩
      | lst _ => simp [shD] at e1
      | dct _ => simp [shD] at e1
    · cases e
theorem pk_rq {K : PySem.W.Frag} {F H : Hp} {η : Env} {σ : St} {fp : List Addr} {i : Nat} {d : PyData} (o : Ok K F H η σ fp) (e : pk η i = some d) : ∃ v, σ[i]? = some (some v) ∧ Rq K F H d v := by
  unfold pk at e
  split at e
  · rename_i t ht
    have hi : i < η.length := (List.getElem?_eq_some_iff.mp ht).1
    obtain ⟨s, g, r, h1, h2, h3, h4⟩ := o.rs.focus hi
    obtain ⟨v, rfl, rt⟩ := h3 _ ht
    refine ⟨v, h1, ?_⟩
    cases t with
    | sh d' =>
      simp only [pkD, Option.some.injEq] at e
      subst e
      simp only [RT] at rt
      exact .inl rt.2
    | lst ts =>
      unfold pkD at e
      simp only at e
      split at e
      · rename_i ds hds
        cases e
        simp only [RT] at rt
        obtain ⟨a, xs, g, rfl, q1, rfl, q2⟩ := rt
        exact .inr (.inl ⟨a, xs, ds, rfl, rfl, q1, (shDs_rp hds q2).1⟩)
      · cases e
    | dct kvs =>
      unfold pkD at e
      cases e
      simp only [RT] at rt
      obtain ⟨a, ks, rfl, q1, rfl, q2⟩ := rt
      exact .inr (.inr ⟨a, ks, _, rfl, rfl, q1, q2⟩)
  · cases e

/-! ### operations on two values -/
def rD2 (K : PySem.W.Frag) (op : PyData → PyData → Option T) : R2 := fun x y H Q => ∃ F d e t, Same F H ∧ Rq K F H d x ∧ Rq K F H e y ∧ op d e = some t ∧ Res K F H t Q
def OpD (X : Cx) (f : Value → Value → Sem Value) (op : PyData → PyData → Option T) : Prop := OpR X f (rD2 X.K op)
def fin1 (r : Option T) (η : Env) : Rs (T × Env) := match r with
  | some t => .ok (t, η)
  | none => .bad
def eBin (op : PyData → PyData → Option T) (f g : FE) : FE := fun η => (f η).bind fun p => (g p.2).bind fun q => fin1 (op p.1.val q.1.val) q.2
/-- the end of an operation -/
theorem fin_res {fp : List Addr} {F H : Hp} {σ : St} {ts : List T} {vs : List V} {η1 : Env} {F1 H1 : Hp} {f1 fp1 : List Addr} {r : Option T} {Q : VK} (a : Aft C.K fp F H σ ts vs η1 F1 H1 f1 fp1)
    (h : (fin1 r η1).post (fun p => ∀ v F' H' f1 fp', Aft C.K fp F H σ [p.1] [v] p.2 F' H' f1 fp' → Q v H') (XP C fp F H σ)) : ∃ F2 t, Ok C.K F2 H1 η1 σ fp1 ∧ RpAll C.K F2 (T.vals ts) vs ∧ r = some t ∧ Res C.K F2 H1 t Q := by
  obtain ⟨F2, a2, rp⟩ := a.freeze
  unfold fin1 at h
  split at h
  · rename_i t
    exact ⟨F2, t, a2.ok, rp, rfl, fun v F' H' f r => h v F' H' f fp1 (a2.res r)⟩
  · exact h.elim
theorem t_bin {op : PyData → PyData → Option T} {f g : FE} {σ : St} {H : Hp} {Q : VK} (h : tD C (eBin op f g) σ H Q) : tOp (rD2 C.K op) (tD C f) (tD C g) σ H Q := by
  obtain ⟨η, F, fp, o, q⟩ := h
  refine tD_step o.aft (Rs.post_mono (Rs.post_bind q) (fun p hp x F1 H1 f1 fp1 a => ?_) fun _ _ z => z)
  refine tD_step a (Rs.post_mono (Rs.post_bind hp) (fun p2 hp2 y F2 H2 f2 fp2 b => ?_) fun _ _ z => z)
  obtain ⟨F3, t, s, r, e, k⟩ := fin_res b hp2
  simp only [List.nil_append, List.cons_append, T.vals, RpAll] at r
  obtain ⟨x', xs, e1, r1, y', ys, rfl, r2, rfl⟩ := r
  obtain ⟨rfl, rfl⟩ : x = x' ∧ y = y' := by simpa using e1
  exact ⟨F3, _, _, t, s.fh, .inl r1, .inl r2, e, k⟩
/-- the left operand a name -/
def eBinL (op : PyData → PyData → Option T) (i : Nat) (g : FE) : FE := fun η => (g η).bind fun q => match pk q.2 i with
  | some d => fin1 (op d q.1.val) q.2
  | none => .bad
/-- the right one a name -/
def eBinR (op : PyData → PyData → Option T) (f : FE) (j : Nat) : FE := fun η => (f η).bind fun p => match pk p.2 j with
  | some e => fin1 (op p.1.val e) p.2
  | none => .bad
def eBinLR (op : PyData → PyData → Option T) (i j : Nat) : FE := fun η => match pk η i, pk η j with
  | some d, some e => fin1 (op d e) η
  | _, _ => .bad
theorem slot_now {K : PySem.W.Frag} {F H : Hp} {η η' : Env} {σ : St} {fp : List Addr} {fp0 : List Addr} {F0 H0 : Hp} {i : Nat} {v : V} (h : σ[i]? = some (some v)) {w : V} (h' : σ[i]? = some (some w)) : v = w := by
  rw [h] at h'; cases h'; rfl
theorem pk_some {η : Env} {i : Nat} {P : T × Env → Prop} {E : Ex → Env → Prop} {k : PyData → Rs (T × Env)} (h : (match pk η i with
  | some d => k d
  | none => .bad : Rs (T × Env)).post P E) : ∃ d, pk η i = some d ∧ (k d).post P E := by
  split at h
  · rename_i d e
    exact ⟨d, e, h⟩
  · exact h.elim
/-- a name that is set has a value in its slot; which one does not change while an expression is evaluated -/
def Set (K : PySem.W.Frag) (η : Env) (i : Nat) : Prop := ∃ t, η[i]? = some (some t)
theorem t_binR {op : PyData → PyData → Option T} {f : FE} {j : Nat} {σ : St} {H : Hp} {Q : VK} (h : tD C (eBinR op f j) σ H Q) : tOp (rD2 C.K op) (tD C f) (tVar j) σ H Q := by
  obtain ⟨η, F, fp, o, q⟩ := h
  refine tD_step o.aft (Rs.post_mono (Rs.post_bind q) (fun p hp x F1 H1 f1 fp1 a => ?_) fun _ _ z => z)
  obtain ⟨e, he, hp⟩ := pk_some hp
  obtain ⟨F3, t, s, r, eq, k⟩ := fin_res a hp
  obtain ⟨y, hy, ry⟩ := pk_rq s he
  simp only [List.nil_append, T.vals, RpAll] at r
  obtain ⟨x', xs, e1, r1, rfl⟩ := r
  obtain rfl : x = x' := by simpa using e1
  exact ⟨y, hy, F3, _, _, t, s.fh, .inl r1, ry, eq, k⟩
theorem t_binLR {op : PyData → PyData → Option T} {i j : Nat} {σ : St} {H : Hp} {Q : VK} (h : tD C (eBinLR op i j) σ H Q) : tOp (rD2 C.K op) (tVar i) (tVar j) σ H Q := by
  obtain ⟨η, F, fp, o, q⟩ := h
  unfold eBinLR at q
  split at q
  · rename_i d e hd he
    obtain ⟨F3, t, s, r, eq, k⟩ := fin_res o.aft q
    obtain ⟨x, hx, rx⟩ := pk_rq s hd
    obtain ⟨y, hy, ry⟩ := pk_rq s he
    exact ⟨x, hx, y, hy, F3, d, e, t, s.fh, rx, ry, eq, k⟩
  · exact q.elim
theorem RS.slot {K : PySem.W.Frag} {F H : Hp} {η : Env} {σ : St} {f : List Addr} {i : Nat} {t : T} (h : RS K F H η σ f) (e : η[i]? = some (some t)) : ∃ v, σ[i]? = some (some v) := by
  obtain ⟨s, g, r, h1, h2, h3, h4⟩ := h.focus (List.getElem?_eq_some_iff.mp e).1
  obtain ⟨v, rfl, _⟩ := h3 _ e
  exact ⟨v, h1⟩
/-- the left operand a name: it has a value ahead (the check at the start makes sure of it) -/
def eBinL' (op : PyData → PyData → Option T) (i : Nat) (g : FE) : FE := fun η => match pk η i with
  | some _ => eBinL op i g η
  | none => .bad
theorem t_binL {op : PyData → PyData → Option T} {g : FE} {i : Nat} {σ : St} {H : Hp} {Q : VK} (h : tD C (eBinL' op i g) σ H Q) : tOp (rD2 C.K op) (tVar i) (tD C g) σ H Q := by
  obtain ⟨η, F, fp, o, q⟩ := h
  unfold eBinL' at q
  obtain ⟨d0, h0, q⟩ := pk_some q
  obtain ⟨x, hx, _⟩ := pk_rq o h0
  refine ⟨x, hx, ?_⟩
  unfold eBinL at q
  refine tD_step o.aft (Rs.post_mono (Rs.post_bind q) (fun p hp y F1 H1 f1 fp1 a => ?_) fun _ _ z => z)
  obtain ⟨d, hd, hp⟩ := pk_some hp
  obtain ⟨F3, t, s, r, eq, k⟩ := fin_res a hp
  obtain ⟨x2, hx2, rx⟩ := pk_rq s hd
  obtain rfl : x = x2 := by rw [hx] at hx2; cases hx2; rfl
  simp only [List.nil_append, T.vals, RpAll] at r
  obtain ⟨y', ys, e1, r1, rfl⟩ := r
  obtain rfl : y = y' := by simpa using e1
  exact ⟨F3, _, _, t, s.fh, rx, .inl r1, eq, k⟩
end Pv
set_option Elab.async false
set_option linter.all false
set_option maxRecDepth 100000
set_option maxHeartbeats 4000000
/-! tuple * int at one and at nought -/
namespace L2
open PySem PySem.Spec PyProof.Rows
theorem tuple_mul1 (l : Addr) (items : Array Value) (n : Nat) (dd : Option Addr) (sl : Array (Option Value)) (x : Int) (u : Tok) (c0 : (decide (x < -(2 ^ 63)) || decide (x ≥ 2 ^ 63)) = false) (c1 : (items.isEmpty || x == 1) = true) :
    Meets (Builtin.«tuple.__mul__» ⟨[.ref l, .int x u], []⟩) (fun _ R s => s.heap.get? l = some { cls := .type "tuple", dict := dd, data := .seq items n, slots := sl } ∧ R (.ok (.ret (Value.ref l))) s) :=
  .of_wp fun prog w A R s h => by
    obtain ⟨hp, g, d, tk, os⟩ := s
    obtain ⟨hl, h⟩ := h
    have f1 := AutoSeq1.idx_int
    wp_walk using wpAny_loadPart' hl
    repeat (first
      | (refine wpAny_ite_false (decide_eq_false (by rw [c0]; exact Bool.false_ne_true)) ?_; wp_walk using wpAny_loadPart' hl)
      | (refine wpAny_ite_true (decide_eq_true c1) ?_; wp_walk using wpAny_loadPart' hl))
    exact ⟨_, rfl, h⟩
theorem tuple_mul0 (l : Addr) (items : Array Value) (n : Nat) (dd : Option Addr) (sl : Array (Option Value)) (x : Int) (u : Tok) (c0 : (decide (x < -(2 ^ 63)) || decide (x ≥ 2 ^ 63)) = false) (c1 : (items.isEmpty || x == 1) = false) (c2 : (decide (x ≤ 0) || items.isEmpty) = true) :
    Meets (Builtin.«tuple.__mul__» ⟨[.ref l, .int x u], []⟩) (fun _ R s => s.heap.get? l = some { cls := .type "tuple", dict := dd, data := .seq items n, slots := sl } ∧
      R (.ok (.ret (Value.ref s.heap.objs.size))) { s with heap := s.heap.push { cls := Value.type "tuple", data := Data.seq #[] }, toks := s.toks }) :=
  .of_wp fun prog w A R s h => by
    obtain ⟨hp, g, d, tk, os⟩ := s
    obtain ⟨hl, h⟩ := h
    have f1 := AutoSeq1.idx_int
    wp_walk using wpAny_loadPart' hl
    repeat (first
      | (refine wpAny_ite_false (decide_eq_false (by rw [c0]; exact Bool.false_ne_true)) ?_; wp_walk using wpAny_loadPart' hl)
      | (refine wpAny_ite_false (decide_eq_false (by rw [c1]; exact Bool.false_ne_true)) ?_; wp_walk using wpAny_loadPart' hl)
      | (refine wpAny_ite_true (decide_eq_true c2) ?_; wp_walk using wpAny_loadPart' hl))
    exact ⟨_, rfl, h⟩
def rRepT0 (K : PySem.W.Frag) : R2 := fun x y H Q => ∃ l k xs, x = .ref l ∧ y = .int k ∧ SqT K H l xs ∧ (xs = [] ∨ k ≤ 1) ∧ -1000 ≤ k ∧ k ≤ 1000 ∧ (xs = [] ∨ k = 1 → Q (.ref l) H) ∧ (xs ≠ [] → k ≤ 0 → ∀ p, H p = none → Q (.ref p) (upd H p (.tup [])))
section
variable {X : Cx}
theorem op_repT0 : OpR X (binaryOp .Mult) (rRepT0 X.K) := by
  intro pins s σ H x y v u Q I rx ry h
  obtain ⟨l, k, xs, rfl, rfl, hT, h0, h1, h2, q1, q2⟩ := h
  cases rx
  obtain ⟨t, rfl⟩ := ry
  obtain ⟨its, r, ⟨⟨cls, dd, data, sl⟩, ho, hc, n, hd⟩, hs⟩ := I.tuple hT
  simp only at hc hd
  subst hc hd
  have hle : its.length = xs.length := r.length.symm
  have c0 : (decide (k < -(2 ^ 63)) || decide (k ≥ 2 ^ 63)) = false := by
    rw [decide_eq_false (by omega), decide_eq_false (by omega)] <;> rfl
  have hi : its.toArray.isEmpty = decide (xs = []) := by
    cases its with
    | nil =>
      have : xs = [] := List.eq_nil_of_length_eq_zero hle.symm
      rw [decide_eq_true this]; rfl
    | cons a b =>
      have : xs ≠ [] := fun e => by rw [e] at hle; simp at hle
      rw [decide_eq_false this]; rfl
  by_cases hk : xs = [] ∨ k = 1
  · have c1 : (its.toArray.isEmpty || k == 1) = true := by
      rw [hi]
      rcases hk with hk | hk <;> simp [hk]
    refine wpAny_binaryOp_repeat_ref (T := "tuple") (U := "int") (by decide) ⟨_, ho, rfl⟩ (fun s' => typeIs_int s' k t) noFill_tuple_mul F.fills_int_mul F.slot_int_rmul repeat_tuple F.slot_int_index.lookup
      (call_meets F.slot_int_rmul (typeIs_int s k t) F.entry_int_rmul (F.args_int_rmul_2 _ _) (int_rmul_tuple k t l its.toArray n dd sl)
        ⟨ho, rfl, ⟨_, ho, rfl⟩, call_meets F.slot_tuple_mul ⟨_, ho, rfl⟩ F.entry_tuple_mul (F.args_tuple_mul_2 _ _) (tuple_mul1 l its.toArray n dd sl k t c0 c1) ⟨ho, ?_⟩⟩)
    exact ⟨.ref l, _, I, rfl, q1 hk⟩
  · have hne : xs ≠ [] := fun e => hk (.inl e)
    have hk1 : k ≠ 1 := fun e => hk (.inr e)
    have hk0 : k ≤ 0 := by
      rcases h0 with h0 | h0
      · exact absurd h0 hne
      · omega
    have c1 : (its.toArray.isEmpty || k == 1) = false := by
      rw [hi, decide_eq_false hne, Bool.false_or]
      exact beq_eq_false_iff_ne.mpr hk1
    have c2 : (decide (k ≤ 0) || its.toArray.isEmpty) = true := by rw [decide_eq_true hk0]; rfl
    refine wpAny_binaryOp_repeat_ref (T := "tuple") (U := "int") (by decide) ⟨_, ho, rfl⟩ (fun s' => typeIs_int s' k t) noFill_tuple_mul F.fills_int_mul F.slot_int_rmul repeat_tuple F.slot_int_index.lookup
      (call_meets F.slot_int_rmul (typeIs_int s k t) F.entry_int_rmul (F.args_int_rmul_2 _ _) (int_rmul_tuple k t l its.toArray n dd sl)
        ⟨ho, rfl, ⟨_, ho, rfl⟩, call_meets F.slot_tuple_mul ⟨_, ho, rfl⟩ F.entry_tuple_mul (F.args_tuple_mul_2 _ _) (tuple_mul0 l its.toArray n dd sl k t c0 c1 c2) ⟨ho, ?_⟩⟩)
    refine ⟨.ref s.heap.objs.size, _, I.laid (t' := s.toks) (o := .tup []) (fun b ob q => Heap.get?_push_of_some _ q) (Nat.le_refl _) ?_, rfl, q2 hne hk0 _ (I.hok.fresh (Nat.le_refl _))⟩
    exact ⟨by rw [sizeLine_eq]; decide, [], .nil, IsTup.new _ _⟩
end
end L2
set_option Elab.async false
set_option linter.all false
set_option maxRecDepth 100000
set_option maxHeartbeats 4000000
namespace Pv
open PySem L2
section
variable {X : Cx}
structure Good (X : Cx) : Prop where
  calm : X.calm = true
  room : X.A.units + 66 < cLine
  gd : X.A.guards = some []

theorem Res.sh {K : PySem.W.Frag} {F H : Hp} {d : PyData} {v : V} {Q : VK} (k : Res K F H (.sh d) Q) (s : Same F H) (h : Rp K F d v) : Q v H := k v F H [] (.here s h)
theorem Res.int {K : PySem.W.Frag} {F H : Hp} {i : Int} {Q : VK} (k : Res K F H (.sh (.int i)) Q) (s : Same F H) : Q (.int i) H := k.sh s rp_c.1
theorem Res.bool {K : PySem.W.Frag} {F H : Hp} {i : Bool} {Q : VK} (k : Res K F H (.sh (.bool i)) Q) (s : Same F H) : Q (.bl i) H := k.sh s rp_c.2.1
theorem Res.none' {K : PySem.W.Frag} {F H : Hp} {Q : VK} (k : Res K F H (.sh .none) Q) (s : Same F H) : Q .non H := k.sh s rp_c.2.2.2
theorem rp_int {K : PySem.W.Frag} {F : Hp} {i : Int} {v : V} (h : Rp K F (.int i) v) : v = .int i := by simpa only [Rp] using h
theorem rp_bool {K : PySem.W.Frag} {F : Hp} {i : Bool} {v : V} (h : Rp K F (.bool i) v) : v = .bl i := by simpa only [Rp] using h
theorem rp_str {K : PySem.W.Frag} {F : Hp} {i : Str} {v : V} (h : Rp K F (.str i) v) : v = .str i := by simpa only [Rp] using h
theorem rp_none {K : PySem.W.Frag} {F : Hp} {v : V} (h : Rp K F .none v) : v = .non := by simpa only [Rp] using h
theorem rp_list {K : PySem.W.Frag} {F : Hp} {ds : List PyData} {v : V} (h : Rp K F (.list ds) v) : ∃ a xs, v = .ref a ∧ SqL K F a xs ∧ RpAll K F ds xs := by simpa only [Rp] using h
theorem rp_tup {K : PySem.W.Frag} {F : Hp} {ds : List PyData} {v : V} (h : Rp K F (.tuple ds) v) : ∃ a xs, v = .ref a ∧ SqT K F a xs ∧ RpAll K F ds xs := by simpa only [Rp] using h

/-- ints under a condition -/
def iop (c : Int → Int → Bool) (g : Int → Int → Int) : PyData → PyData → Option T
  | .int i, .int j => if c i j then some (.sh (.int (g i j))) else none
  | _, _ => none
theorem iop_ok {f : Value → Value → Sem Value} {C : Int → Int → Prop} {c : Int → Int → Bool} {g : Int → Int → Int} (ho : OpR X f (rI C fun i j => .int (g i j))) (hc : ∀ i j, c i j = true → C i j) : OpD X f (iop c g) := by
  intro pins s σ H x y v u Q I rx ry ⟨F, d, e, t, fh, r1, r2, eq, k⟩
  unfold iop at eq
  split at eq
  · rename_i i j
    split at eq
    · rename_i hcc
      cases eq
      cases rq_int r1
      cases rq_int r2
      exact ho pins s σ H _ _ v u Q I rx ry ⟨i, j, rfl, rfl, hc _ _ hcc, k.int fh⟩
    · cases eq
  · cases eq
def iop0 (g : Int → Int → Int) : PyData → PyData → Option T
  | .int i, .int j => some (.sh (.int (g i j)))
  | _, _ => none
theorem iop0_ok {f : Value → Value → Sem Value} {g : Int → Int → Int} (ho : OpR X f (rI0 fun i j => .int (g i j))) : OpD X f (iop0 g) := by
  intro pins s σ H x y v u Q I rx ry ⟨F, d, e, t, fh, r1, r2, eq, k⟩
  unfold iop0 at eq
  split at eq
  · rename_i i j
    cases eq
    cases rq_int r1
    cases rq_int r2
    exact ho pins s σ H _ _ v u Q I rx ry ⟨i, j, rfl, rfl, k.int fh⟩
  · cases eq
/-- a new list from a value-level rule -/
theorem Res.lstQ {K : PySem.W.Frag} {F H : Hp} {ds : List PyData} {xs : List V} {Q : VK} (k : Res K F H (.lst (ds.map T.sh)) Q) (s : Same F H) (h : RpAll K F ds xs) : ∀ p, H p = none → Q (.ref p) (upd H p (.lst xs)) :=
  fun p hp => k _ _ _ _ (.lst s h hp)
theorem Res.tupQ {K : PySem.W.Frag} {F H : Hp} {ds : List PyData} {xs : List V} {Q : VK} (k : Res K F H (.sh (.tuple ds)) Q) (s : Same F H) (h : RpAll K F ds xs) : ∀ p, H p = none → Q (.ref p) (upd H p (.tup xs)) :=
  fun p hp => k _ _ _ _ (.tup s h hp)

/-! ### + -/
def opAdd : PyData → PyData → Option T
  | .int i, .int j => some (.sh (.int (i + j)))
  | .tuple a, .tuple b => if a.length + b.length ≤ 16777216 then some (.sh (.tuple (a ++ b))) else none
  | .list a, .list b => if a.length + b.length ≤ 16777216 then some (.lst ((a ++ b).map T.sh)) else none
  | .str a, .str b => if a.length + b.length ≤ 16777216 then some (.sh (.str (a ++ b))) else none
  | .int i, .bool b => some (.sh (.int (i + PyProof.Rows.b2i b)))
  | _, _ => none
/-- list + list, read -/
theorem cat_sq {pins : List (Addr × Obj)} {σ : St} {H : Hp} {s : Shared} {Q : VK} {l b : Addr} {xs zs : List V} (I : Inv X pins σ H s) (hH : SqL X.K H l xs) (hB : SqL X.K H b zs) (hz : xs.length + zs.length ≤ sizeLine)
    (q : ∀ p, H p = none → Q (.ref p) (upd H p (.lst (xs ++ zs)))) : wpAny (model X.prog X.w) X.A (binaryOp .Add (.ref l) (.ref b)) (EP X pins σ Q) X.xe s := by
  obtain ⟨its, r, ⟨⟨cls, dd, data, sl⟩, n, e, hc, hd0, hd⟩, _⟩ := I.list hH
  obtain ⟨its2, r2, ⟨⟨cls2, dd2, data2, sl2⟩, n2, e2, hc2, hd02, hd2⟩, _⟩ := I.list hB
  simp only at hc hd hd0 hc2 hd2 hd02
  subst hc hd hd0 hc2 hd2 hd02
  have ea : its.toArray ++ its2.toArray = (its ++ its2).toArray := by simp
  have h1 := r.length
  have h2 := r2.length
  refine PySem.concat_meets ⟨_, e, rfl⟩ ⟨_, e2, rfl⟩ noFill_list_add seq_list_add PySem.F.slot_list_add PySem.F.entry_list_add (PySem.F.args_list_add_2 _ _) (PyProof.Rows.list_addW l b its.toArray its2.toArray n n2 none none sl sl2 (by rw [List.size_toArray, List.size_toArray]; omega)) ⟨e, e2, ?_⟩
  rw [ea]
  exact ⟨.ref _, _, I.lnew (t' := s.toks) (r.append r2) (by rw [List.length_append]; omega), rfl, q _ I.fresh⟩
theorem int_rmul_listW (a : Int) (t : Tok) (l : Addr) (items : Array Value) (n : Nat) (dd : Option Addr) (sl : Array (Option Value)) :
    Meets (Builtin.«int.__rmul__» ⟨[.int a t, .ref l], []⟩) (fun _ R s => s.heap.get? l = some { cls := .type "list", dict := dd, data := .seq items n, slots := sl } ∧ R (.ok (.ret Value.notImplemented)) s) :=
  .of_wp fun prog w A R s h => by obtain ⟨hp, g, d, tk, os⟩ := s; obtain ⟨hl, h⟩ := h; wp_walk using wpAny_loadPart' hl; exact ⟨_, rfl, h⟩
theorem list_mulW (l : Addr) (items : Array Value) (n : Nat) (dd : Option Addr) (sl : Array (Option Value)) (x : Int) (u : Tok) (hc0 : ¬(!Builtin.List.listFitsIndex x) = true) (hc1 : ¬items.size * x.toNat > (2 ^ 63 - 1) / 8) (hc2 : ¬Builtin.List.listTooLong (items.size * x.toNat) = true) :
    Meets (Builtin.«list.__mul__» ⟨[.ref l, .int x u], []⟩) (fun _ R s => s.heap.get? l = some { cls := .type "list", dict := dd, data := .seq items n, slots := sl } ∧ R (.ok (.ret (Value.ref s.heap.objs.size))) { s with heap := s.heap.push { cls := Value.type "list", data := Data.seq (List.foldl (fun x1 x2 => x1 ++ x2) #[] (List.replicate (if items.isEmpty = true then 0 else x.toNat) items)) }, toks := s.toks }) :=
  .of_wp fun prog w A R s h => by
    obtain ⟨hp, g, d, tk, os⟩ := s; obtain ⟨hl, h⟩ := h
    have hsz := PySem.AutoListH.joined_fits hc2
    have f1 := AutoSeq1.idx_int
    wp_walk using wpAny_loadPart' hl; refine wpAny_ite_false (decide_eq_false (Nat.not_lt.mpr hsz)) ?_; wp_walk using wpAny_loadPart' hl; exact ⟨_, rfl, h⟩
theorem rep_sq {pins : List (Addr × Obj)} {σ : St} {H : Hp} {s : Shared} {Q : VK} {l : Addr} {xs : List V} {k : Int} {t : Tok} (I : Inv X pins σ H s) (hH : SqL X.K H l xs) (h1 : -(2 ^ 63) ≤ k) (h2 : k < 2 ^ 63) (hz : xs.length * k.toNat ≤ sizeLine)
    (q : ∀ p, H p = none → Q (.ref p) (upd H p (.lst (List.replicate k.toNat xs).flatten))) : wpAny (model X.prog X.w) X.A (binaryOp .Mult (.ref l) (.int k t)) (EP X pins σ Q) X.xe s := by
  obtain ⟨its, r, ⟨⟨cls, dd, data, sl⟩, n, e, hc, hd0, hd⟩, _⟩ := I.list hH
  simp only at hc hd hd0
  subst hc hd hd0
  have hl := r.length
  have hlen : its.toArray.size * k.toNat ≤ sizeLine := by rw [List.size_toArray, ← hl]; exact hz
  have hcap : ¬ its.toArray.size * k.toNat > (2 ^ 63 - 1) / 8 := by
    have : (sizeLine : Nat) ≤ (2 ^ 63 - 1) / 8 := by decide
    omega
  have hfit : ¬ (!Builtin.List.listFitsIndex k) = true := by
    rw [fitsIndex_both h1 h2]
    exact Bool.false_ne_true
  have hlong : ¬ Builtin.List.listTooLong (its.toArray.size * k.toNat) = true := by
    rw [notLongL hlen]
    exact Bool.false_ne_true
  have hnew : List.foldl (fun x1 x2 => x1 ++ x2) #[] (List.replicate (if its.toArray.isEmpty = true then 0 else k.toNat) its.toArray) = (List.replicate k.toNat its).flatten.toArray := by
    have f0 : ∀ m : Nat, List.foldl (fun x1 x2 => x1 ++ x2) #[] (List.replicate m its.toArray) = (List.replicate m its).flatten.toArray := fun m => by
      have := foldl_rep its m []
      rw [List.nil_append] at this
      exact this
    rw [f0]
    cases its with
    | nil => simp
    | cons a r' => rw [if_neg (by simp)]
  refine wpAny_binaryOp_repeat_ref (T := "list") (U := "int") (by decide) ⟨_, e, rfl⟩ (fun s' => typeIs_int s' k t) noFill_list_mul F.fills_int_mul F.slot_int_rmul repeat_list F.slot_int_index.lookup
    (call_meets F.slot_int_rmul (typeIs_int s k t) F.entry_int_rmul (F.args_int_rmul_2 _ _) (int_rmul_listW k t l its.toArray n none sl)
      ⟨e, rfl, ⟨_, e, rfl⟩, call_meets F.slot_list_mul ⟨_, e, rfl⟩ F.entry_list_mul (F.args_list_mul_2 _ _) (list_mulW l its.toArray n none sl k t hfit hcap hlong) ⟨e, ?_⟩⟩)
  rw [hnew]
  exact ⟨.ref _, _, I.lnew (t' := s.toks) (r.rep k.toNat) (by rw [PyProof.Rows.lm_len_rep_flat, Nat.mul_comm]; exact hz), rfl, q _ I.fresh⟩
theorem opAdd_ok : OpD X (binaryOp .Add) opAdd := by
  intro pins s σ H x y v u Q I rx ry ⟨F, d, e, t, fh, r1, r2, eq, k⟩
  unfold opAdd at eq
  split at eq
  · rename_i i j
    cases eq
    cases rq_int r1
    cases rq_int r2
    exact op_add pins s σ H _ _ v u Q I rx ry ⟨i, j, rfl, rfl, k.int fh⟩
  · rename_i a b
    split at eq
    · rename_i hl
      cases eq
      obtain ⟨p, xs, rfl, q1, w1⟩ := rq_tup r1
      obtain ⟨p2, ys, rfl, q2, w2⟩ := rq_tup r2
      have l1 := w1.len
      have l2 := w2.len
      refine op_catA pins s σ H _ _ v u Q I rx ry ⟨p, p2, xs, ys, rfl, rfl, sqT_mono fh q1, sqT_mono fh q2, by rw [sizeLine_eq]; omega, fun e => ?_, fun _ e => ?_, fun _ _ => k.tupQ fh (w1.append w2)⟩
      · subst e
        have : a = [] := List.eq_nil_of_length_eq_zero (by simpa using l1.symm)
        subst this
        refine k.sh fh ?_
        simp only [Rp]
        exact ⟨p2, ys, rfl, q2, by simpa using w2⟩
      · subst e
        have : b = [] := List.eq_nil_of_length_eq_zero (by simpa using l2.symm)
        subst this
        refine k.sh fh ?_
        simp only [Rp]
        exact ⟨p, xs, rfl, q1, by simpa using w1⟩
    · cases eq
  · rename_i a b
    split at eq
    · rename_i hl
      cases eq
      obtain ⟨p, xs, rfl, q1, w1⟩ := rq_list fh r1
      obtain ⟨p2, ys, rfl, q2, w2⟩ := rq_list fh r2
      have l1 := w1.len
      have l2 := w2.len
      cases rx
      cases ry
      exact cat_sq I q1 q2 (by rw [sizeLine_eq]; omega) (k.lstQ fh (w1.append w2))
    · cases eq
  · rename_i a b
    split at eq
    · rename_i hl
      cases eq
      cases rq_str r1
      cases rq_str r2
      exact op_add_str pins s σ H _ _ v u Q I rx ry ⟨a, b, rfl, rfl, hl, k.sh fh rp_c.2.2.1⟩
    · cases eq
  · rename_i i b
    cases eq
    cases rq_int r1
    cases rq_bool r2
    exact op_add_ib pins s σ H _ _ v u Q I rx ry ⟨i, b, rfl, rfl, k.int fh⟩
  · cases eq
def opSub : PyData → PyData → Option T := iop0 fun i j => i - j
theorem opSub_ok : OpD X (binaryOp .Sub) opSub := iop0_ok op_sub
/-! ### * -/
def small64 (i : Int) : Bool := decide (-18446744073709551616 < i) && decide (i < 18446744073709551616)
def mulFits (i j : Int) : Bool := small64 i || small64 j || decide (i.natAbs.log2 + j.natAbs.log2 < 1000000)
def opMul : PyData → PyData → Option T
  | .int i, .int j => if mulFits i j then some (.sh (.int (i * j))) else none
  | .list a, .int k => if a.length * k.toNat ≤ 16777216 ∧ -1000000000 ≤ k ∧ k ≤ 1000000000 then some (.lst ((List.replicate k.toNat a).flatten.map T.sh)) else none
  | .tuple a, .int k => if -1000 ≤ k ∧ k ≤ 1000 ∧ a.length ≤ 1000 then some (.sh (.tuple (List.replicate k.toNat a).flatten)) else none
  | _, _ => none
theorem RpAll.rep {K : PySem.W.Frag} {F : Hp} {ds : List PyData} {vs : List V} (h : RpAll K F ds vs) : ∀ n, RpAll K F (List.replicate n ds).flatten (List.replicate n vs).flatten
  | 0 => by simpa using RpAll.nil
  | n + 1 => by
    rw [List.replicate_succ, List.replicate_succ, List.flatten_cons, List.flatten_cons]
    exact h.append (h.rep n)
theorem opMul_ok : OpD X (binaryOp .Mult) opMul := by
  intro pins s σ H x y v u Q I rx ry ⟨F, d, e, t, fh, r1, r2, eq, k⟩
  unfold opMul at eq
  split at eq
  · rename_i i j
    split at eq
    · rename_i hc
      cases eq
      cases rq_int r1
      cases rq_int r2
      unfold mulFits small64 at hc
      simp only [Bool.or_eq_true, Bool.and_eq_true, decide_eq_true_eq] at hc
      have e64 : (2 : Int) ^ 64 = 18446744073709551616 := by decide
      rcases hc with (hc | hc) | hc
      · exact op_mul pins s σ H _ _ v u Q I rx ry ⟨i, j, rfl, rfl, .inl (by rw [e64]; exact hc), k.int fh⟩
      · exact op_mul pins s σ H _ _ v u Q I rx ry ⟨i, j, rfl, rfl, .inr (by rw [e64]; exact hc), k.int fh⟩
      · exact op_mulW pins s σ H _ _ v u Q I rx ry ⟨i, j, rfl, rfl, hc, k.int fh⟩
    · cases eq
  · rename_i a n
    split at eq
    · rename_i hl
      cases eq
      obtain ⟨p, xs, rfl, q1, w1⟩ := rq_list fh r1
      cases rq_int r2
      have l1 := w1.len
      cases rx
      obtain ⟨t, rfl⟩ := ry
      have e63 : (2 : Int) ^ 63 = 9223372036854775808 := by decide
      exact rep_sq I q1 (by rw [e63]; omega) (by rw [e63]; omega) (by rw [l1, sizeLine_eq]; exact hl.1) (k.lstQ fh (w1.rep _))
    · cases eq
  · rename_i a n
    split at eq
    · rename_i hl
      cases eq
      obtain ⟨p, xs, rfl, q1, w1⟩ := rq_tup r1
      cases rq_int r2
      have l1 := w1.len
      by_cases h0 : xs = [] ∨ n ≤ 1
      · refine op_repT0 pins s σ H _ _ v u Q I rx ry ⟨p, n, xs, rfl, rfl, sqT_mono fh q1, h0, hl.1, hl.2.1, fun e => ?_, fun e e0 => ?_⟩
        · have ea : (List.replicate n.toNat a).flatten = a := by
            rcases e with e | e
            · subst e
              obtain rfl : a = [] := List.eq_nil_of_length_eq_zero (by simpa using l1.symm)
              simp
            · subst e
              simp
          rw [ea] at k
          refine k.sh fh ?_
          simp only [Rp]
          exact ⟨p, xs, rfl, q1, w1⟩
        · have e1 : n.toNat = 0 := by omega
          rw [e1] at k
          exact k.tupQ fh (by simpa using RpAll.nil)
      · refine op_repT pins s σ H _ _ v u Q I rx ry ⟨p, n, xs, rfl, rfl, sqT_mono fh q1, fun e => h0 (.inl e), by omega, hl.2.1, by omega, k.tupQ fh (w1.rep _)⟩
    · cases eq
  · cases eq
/-! ### //, %, **, shifts, bits -/
def opFdiv : PyData → PyData → Option T := iop (fun _ j => decide (0 < j) && decide (j.natAbs.log2 < 9000)) fun i j => i / j
theorem opFdiv_ok : OpD X (binaryOp .FloorDiv) opFdiv := iop_ok op_fdivW fun i j h => by
  simp only [Bool.and_eq_true, decide_eq_true_eq] at h
  exact h
def opMod : PyData → PyData → Option T := iop (fun _ j => decide (0 < j)) fun i j => i % j
theorem opMod_ok : OpD X (binaryOp .Mod) opMod := iop_ok op_mod fun i j h => by simpa using h
def opPow : PyData → PyData → Option T := iop (fun i j => decide (0 ≤ j ∧ j ≤ 1000000 ∧ i.natAbs < 18446744073709551616)) fun i j => i ^ j.toNat
theorem opPow_ok : OpD X (binaryOp .Pow) opPow := iop_ok op_pow fun i j h => of_decide_eq_true (p := 0 ≤ j ∧ j ≤ 1000000 ∧ i.natAbs < 2 ^ 64) h
def opShl : PyData → PyData → Option T := iop (fun i j => decide (0 ≤ j ∧ j ≤ 1000000 ∧ i.natAbs < 18446744073709551616)) fun i j => i * 2 ^ j.toNat
theorem opShl_ok : OpD X (binaryOp .LShift) opShl := iop_ok op_shl fun i j h => of_decide_eq_true (p := 0 ≤ j ∧ j ≤ 1000000 ∧ i.natAbs < 2 ^ 64) h
def opShr : PyData → PyData → Option T := iop (fun _ j => decide (0 ≤ j)) fun i j => i / 2 ^ j.toNat
theorem opShr_ok : OpD X (binaryOp .RShift) opShr := iop_ok op_shr fun i j h => by simpa using h
def opBand : PyData → PyData → Option T := iop0 Builtin.bitAnd
theorem opBand_ok : OpD X (binaryOp .BitAnd) opBand := iop0_ok op_and
def opBor : PyData → PyData → Option T := iop0 Builtin.bitOr
theorem opBor_ok : OpD X (binaryOp .BitOr) opBor := iop0_ok op_or
def opBxor : PyData → PyData → Option T := iop0 Builtin.bitXor
theorem opBxor_ok : OpD X (binaryOp .BitXor) opBxor := iop0_ok op_xor

/-! ### comparisons -/
def shp (d : PyData) : Bool := SeqAt.shaped d
def opEq (d e : PyData) : Option T := if shp d && shp e then some (.sh (.bool (PyData.eqv d e))) else none
def opNe (d e : PyData) : Option T := if shp d && shp e then some (.sh (.bool (!PyData.eqv d e))) else none
theorem opEq_ok (g : Good X) : OpD X (compareOp .Eq) opEq := by
  intro pins s σ H x y v u Q I rx ry ⟨F, d, e, t, fh, r1, r2, eq, k⟩
  unfold opEq at eq
  split at eq
  · rename_i h
    cases eq
    simp only [Bool.and_eq_true] at h
    have := g.room
    exact op_eqD (by omega) pins s σ H _ _ v u Q I rx ry ⟨d, e, (r1.dp fh (SeqAt.canLay_of_shaped h.1)), (r2.dp fh (SeqAt.canLay_of_shaped h.2)), h.1, h.2, k.bool fh⟩
  · cases eq
theorem opNe_ok (g : Good X) : OpD X (compareOp .NotEq) opNe := by
  intro pins s σ H x y v u Q I rx ry ⟨F, d, e, t, fh, r1, r2, eq, k⟩
  unfold opNe at eq
  split at eq
  · rename_i h
    cases eq
    simp only [Bool.and_eq_true] at h
    have := g.room
    exact op_neD (by omega) pins s σ H _ _ v u Q I rx ry ⟨d, e, (r1.dp fh (SeqAt.canLay_of_shaped h.1)), (r2.dp fh (SeqAt.canLay_of_shaped h.2)), h.1, h.2, k.bool fh⟩
  · cases eq
def isNone : PyData → Bool
  | .none => true
  | _ => false
def opIs : PyData → PyData → Option T
  | d, .none => some (.sh (.bool (isNone d)))
  | .bool a, .bool b => some (.sh (.bool (a == b)))
  | _, _ => none
def opIsNot : PyData → PyData → Option T
  | d, .none => some (.sh (.bool (!isNone d)))
  | .bool a, .bool b => some (.sh (.bool (!(a == b))))
  | _, _ => none
theorem rp_non {K : PySem.W.Frag} {F H : Hp} {d : PyData} {v : V} (fh : Same F H) (h : Rq K F H d v) : decide (v = V.non) = isNone d := by
  cases d with
  | none => rw [rq_none h]; rfl
  | bool b => rw [rq_bool h]; rfl
  | int b => rw [rq_int h]; rfl
  | str b => rw [rq_str h]; rfl
  | list b => obtain ⟨_, _, rfl, _⟩ := rq_list fh h; rfl
  | tuple b => obtain ⟨_, _, rfl, _⟩ := rq_tup h; rfl
  | dict b => obtain ⟨_, rfl⟩ := rq_dict_ref h; rfl
theorem beq_dec (a b : Bool) : decide (a = b) = (a == b) := by cases a <;> cases b <;> rfl
theorem opIs_ok : OpD X (compareOp .Is) opIs := by
  intro pins s σ H x y v u Q I rx ry ⟨F, d, e, t, fh, r1, r2, eq, k⟩
  unfold opIs at eq
  split at eq
  · cases eq
    cases rq_none r2
    exact op_isN pins s σ H _ _ v u Q I rx ry ⟨rfl, by rw [rp_non fh r1]; exact k.bool fh⟩
  · rename_i a b
    cases eq
    cases rq_bool r1
    cases rq_bool r2
    exact op_is_bl pins s σ H _ _ v u Q I rx ry ⟨a, b, rfl, rfl, by rw [beq_dec]; exact k.bool fh⟩
  · cases eq
theorem opIsNot_ok : OpD X (compareOp .IsNot) opIsNot := by
  intro pins s σ H x y v u Q I rx ry ⟨F, d, e, t, fh, r1, r2, eq, k⟩
  unfold opIsNot at eq
  split at eq
  · cases eq
    cases rq_none r2
    exact op_notN pins s σ H _ _ v u Q I rx ry ⟨rfl, by rw [rp_non fh r1]; exact k.bool fh⟩
  · rename_i a b
    cases eq
    cases rq_bool r1
    cases rq_bool r2
    exact op_isnot_bl pins s σ H _ _ v u Q I rx ry ⟨a, b, rfl, rfl, by rw [beq_dec]; exact k.bool fh⟩
  · cases eq
/-- alike data in order -/
def cmpOk (d e : PyData) : Bool := W.alike d e && !isNone d && decide (d.depth ≤ 60) && d.canLay0 && e.canLay0
def opCmp (pi : Int → Int → Bool) (pd : PyData → PyData → Bool) : PyData → PyData → Option T
  | .int i, .int j => some (.sh (.bool (pi i j)))
  | d, e => if cmpOk d e then some (.sh (.bool (pd d e))) else none
def opLt : PyData → PyData → Option T := opCmp (fun i j => decide (i < j)) W.dataLt
def opLe : PyData → PyData → Option T := opCmp (fun i j => decide (i ≤ j)) fun d e => !W.dataLt e d
def opGt : PyData → PyData → Option T := opCmp (fun i j => decide (j < i)) fun d e => W.dataLt e d
def opGe : PyData → PyData → Option T := opCmp (fun i j => decide (j ≤ i)) fun d e => !W.dataLt d e
theorem isNone_ne {d : PyData} (h : isNone d = false) : d ≠ .none := by
  intro e; subst e; cases h
theorem opCmp_ok {op : CmpOp} {pi : Int → Int → Bool} {pd : PyData → PyData → Bool} (g : Good X) (ho : OpR X (compareOp op) (rI0 fun i j => .bl (pi i j)))
    (hd : ∀ {E : Value → Shared → Prop} {s : Shared} {a b : Value} {da db : PyData} {as bs : List Addr} {Q : Value → Shared → Prop}, Reads s.heap a da as → Reads s.heap b db bs → W.alike da db = true → da ≠ .none → X.A.units + min da.depth db.depth < cLine → Q (.bool (pd da db)) s → wpAny (model X.prog X.w) X.A (compareOp op a b) Q E s) :
    OpD X (compareOp op) (opCmp pi pd) := by
  intro pins s σ H x y v u Q I rx ry ⟨F, d, e, t, fh, r1, r2, eq, k⟩
  unfold opCmp at eq
  split at eq
  · rename_i i j
    cases eq
    cases rq_int r1
    cases rq_int r2
    exact ho pins s σ H _ _ v u Q I rx ry ⟨i, j, rfl, rfl, k.bool fh⟩
  · split at eq
    · rename_i h
      cases eq
      unfold cmpOk at h
      simp only [Bool.and_eq_true, decide_eq_true_eq, Bool.not_eq_true'] at h
      obtain ⟨as, ra⟩ := Dp.reads I d x v (r1.dp fh h.1.2) rx
      obtain ⟨bs, rb⟩ := Dp.reads I e y u (r2.dp fh h.2) ry
      have := g.room
      have hm : min d.depth e.depth ≤ d.depth := Nat.min_le_left _ _
      have hd60 := h.1.1.2
      exact hd ra rb h.1.1.1.1 (isNone_ne h.1.1.1.2) (by omega) ⟨.bl _, H, I, rfl, k.bool fh⟩
    · cases eq
theorem opLt_ok (g : Good X) : OpD X (compareOp .Lt) opLt := opCmp_ok g op_lt W.lt_data
theorem opLe_ok (g : Good X) : OpD X (compareOp .LtE) opLe := opCmp_ok g op_le W.le_data
theorem opGt_ok (g : Good X) : OpD X (compareOp .Gt) opGt := opCmp_ok g op_gt W.gt_data
theorem opGe_ok (g : Good X) : OpD X (compareOp .GtE) opGe := opCmp_ok g op_ge W.ge_data
/-- in -/
def inD (d : PyData) (es : List PyData) : Bool := es.any fun z => PyData.eqv z d
def shpAll (es : List PyData) : Bool := shp (.list es)
def opIn : PyData → PyData → Option T
  | d, .list es => if shp d && shpAll es then some (.sh (.bool (inD d es))) else none
  | d, .tuple es => if shp d && shpAll es then some (.sh (.bool (inD d es))) else none
  | _, _ => none
def opNotIn : PyData → PyData → Option T
  | d, .list es => if shp d && shpAll es then some (.sh (.bool (!inD d es))) else none
  | d, .tuple es => if shp d && shpAll es then some (.sh (.bool (!inD d es))) else none
  | _, _ => none
theorem opIn_ok (g : Good X) : OpD X (compareOp .In) opIn := by
  intro pins s σ H x y v u Q I rx ry ⟨F, d, e, t, fh, r1, r2, eq, k⟩
  have hu := g.room
  unfold opIn at eq
  split at eq
  · split at eq
    · rename_i es h
      cases eq
      simp only [Bool.and_eq_true] at h
      exact op_inD (by omega) pins s σ H _ _ v u Q I rx ry ⟨d, es, (r1.dp fh (SeqAt.canLay_of_shaped h.1)), (r2.dp fh (SeqAt.canLay_of_shaped h.2)), h.1, h.2, k.bool fh⟩
    · cases eq
  · split at eq
    · rename_i es h
      cases eq
      simp only [Bool.and_eq_true] at h
      obtain ⟨as, ra⟩ := Dp.reads I d x v (r1.dp fh (SeqAt.canLay_of_shaped h.1)) rx
      obtain ⟨bs, rb⟩ := Dp.reads I (.tuple es) y u (r2.dp fh (SeqAt.canLay_of_shaped h.2)) ry
      refine SeqAt.in_tuple_reads rb ra (SeqAt.canLay_of_shaped h.2) (SeqAt.canLay_of_shaped h.1) (PyProof.Rows.room_in_shaped h.1 (by omega)) ⟨.bl _, H, I, rfl, k.bool fh⟩
    · cases eq
  · cases eq
theorem opNotIn_ok (g : Good X) : OpD X (compareOp .NotIn) opNotIn := by
  intro pins s σ H x y v u Q I rx ry ⟨F, d, e, t, fh, r1, r2, eq, k⟩
  have hu := g.room
  unfold opNotIn at eq
  split at eq
  · split at eq
    · rename_i es h
      cases eq
      simp only [Bool.and_eq_true] at h
      exact op_notInD (by omega) pins s σ H _ _ v u Q I rx ry ⟨d, es, (r1.dp fh (SeqAt.canLay_of_shaped h.1)), (r2.dp fh (SeqAt.canLay_of_shaped h.2)), h.1, h.2, k.bool fh⟩
    · cases eq
  · split at eq
    · rename_i es h
      cases eq
      simp only [Bool.and_eq_true] at h
      obtain ⟨as, ra⟩ := Dp.reads I d x v (r1.dp fh (SeqAt.canLay_of_shaped h.1)) rx
      obtain ⟨bs, rb⟩ := Dp.reads I (.tuple es) y u (r2.dp fh (SeqAt.canLay_of_shaped h.2)) ry
      refine SeqAt.notIn_tuple_reads rb ra (SeqAt.canLay_of_shaped h.2) (SeqAt.canLay_of_shaped h.1) (PyProof.Rows.room_in_shaped h.1 (by omega)) ⟨.bl _, H, I, rfl, k.bool fh⟩
    · cases eq
  · cases eq
end
end Pv
set_option Elab.async false
set_option linter.all false
set_option maxRecDepth 100000
set_option maxHeartbeats 4000000
namespace Pv
open PySem L2
variable {X : Cx} {C : Cn}

/-! ### binary operations, comparisons -/
section
variable {e : Expr} {op : PyData → PyData → Option T} {f g : FE} {i j : Nat}
theorem pd_bin (hK : C.K = X.K) (h : PE X e (tOp (rD2 X.K op) (tD C f) (tD C g))) : PE X e (tD C (eBin op f g)) := by
  rw [← hK] at h
  exact h.impD fun _ _ _ => t_bin
theorem pd_binL (hK : C.K = X.K) (h : PE X e (tOp (rD2 X.K op) (tVar i) (tD C g))) : PE X e (tD C (eBinL' op i g)) := by
  rw [← hK] at h
  exact h.impD fun _ _ _ => t_binL
theorem pd_binR (hK : C.K = X.K) (h : PE X e (tOp (rD2 X.K op) (tD C f) (tVar j))) : PE X e (tD C (eBinR op f j)) := by
  rw [← hK] at h
  exact h.impD fun _ _ _ => t_binR
theorem pd_binLR (hK : C.K = X.K) (h : PE X e (tOp (rD2 X.K op) (tVar i) (tVar j))) : PE X e (tD C (eBinLR op i j)) := by
  rw [← hK] at h
  exact h.impD fun _ _ _ => t_binLR
end
/-! ### tests -/
def bT (f : FE) : FB := fun η => (f η).bind fun p => match p.1 with
  | .sh (.bool b) => .ok (b, p.2)
  | _ => .bad
theorem rt_bool {K : PySem.W.Frag} {F H : Hp} {b : Bool} {v : V} {f : List Addr} (h : RT K F H (.sh (.bool b)) v f) : v = .bl b ∧ f = [] := by
  simp only [RT, Rp] at h
  exact ⟨h.2, h.1⟩
theorem rt_int {K : PySem.W.Frag} {F H : Hp} {b : Int} {v : V} {f : List Addr} (h : RT K F H (.sh (.int b)) v f) : v = .int b ∧ f = [] := by
  simp only [RT, Rp] at h
  exact ⟨h.2, h.1⟩
/-- one value that is a scalar is dropped -/
theorem Aft.drop1 {K : PySem.W.Frag} {fp : List Addr} {F H : Hp} {σ : St} {t : T} {v : V} {η' : Env} {F' H' : Hp} {f1 fp' : List Addr} (a : Aft K fp F H σ [t] [v] η' F' H' f1 fp') : Aft K fp F H σ [] [] η' F' H' [] fp' :=
  ⟨.nil, a.rs, (List.nodup_append.mp a.nd).2.1, fun x hx => a.fn x (by simp at hx; simp [hx]), a.fh, a.ext, fun x hx => a.sub x (by simp at hx; simp [hx])⟩
theorem Aft.rt1 {K : PySem.W.Frag} {fp : List Addr} {F H : Hp} {σ : St} {t : T} {v : V} {η' : Env} {F' H' : Hp} {f1 fp' : List Addr} (a : Aft K fp F H σ [t] [v] η' F' H' f1 fp') : RT K F' H' t v f1 := by
  obtain ⟨x, xs, g1, g2, e1, e2, r1, r2⟩ := a.rt.uncons
  simp only [RTs] at r2
  obtain ⟨rfl, rfl⟩ := r2
  obtain rfl : v = x := by simpa using e1
  rw [e2]
  simpa using r1
theorem t_test {f : FE} {σ : St} {H : Hp} {Q : Bool → Hp → Prop} (h : tB C (bT f) σ H Q) : tD C f σ H (fun x H' => ∃ k, x = .bl k ∧ Q k H') := by
  obtain ⟨η, F, fp, o, q⟩ := h
  refine ⟨η, F, fp, o, Rs.post_mono (Rs.post_bind q) (fun p hp v F' H' f1 fp' a => ?_) fun _ _ z => z⟩
  split at hp
  · rename_i b e
    rw [e] at a
    exact ⟨b, (rt_bool a.rt1).1, hp F' H' fp' a.drop1⟩
  · exact hp.elim
theorem pt_bool {e : Expr} {t : TE} {f : FE} (h : PT X e (tTest t)) (k : ∀ σ H Q, tD C f σ H Q → t σ H Q) : PT X e (tB C (bT f)) :=
  h.impD fun σ H Q q => k σ H _ (t_test q)
section
variable {e : Expr} {op : PyData → PyData → Option T} {f g : FE} {i j : Nat}
theorem ptb_bin (hK : C.K = X.K) (h : PT X e (tTest (tOp (rD2 X.K op) (tD C f) (tD C g)))) : PT X e (tB C (bT (eBin op f g))) := by
  rw [← hK] at h
  exact pt_bool h fun _ _ _ => t_bin
theorem ptb_binL (hK : C.K = X.K) (h : PT X e (tTest (tOp (rD2 X.K op) (tVar i) (tD C g)))) : PT X e (tB C (bT (eBinL' op i g))) := by
  rw [← hK] at h
  exact pt_bool h fun _ _ _ => t_binL
theorem ptb_binR (hK : C.K = X.K) (h : PT X e (tTest (tOp (rD2 X.K op) (tD C f) (tVar j)))) : PT X e (tB C (bT (eBinR op f j))) := by
  rw [← hK] at h
  exact pt_bool h fun _ _ _ => t_binR
theorem ptb_binLR (hK : C.K = X.K) (h : PT X e (tTest (tOp (rD2 X.K op) (tVar i) (tVar j)))) : PT X e (tB C (bT (eBinLR op i j))) := by
  rw [← hK] at h
  exact pt_bool h fun _ _ _ => t_binLR
end
/-- truth -/
def truth : PyData → Option Bool
  | .none => some false
  | .bool b => some b
  | .int i => some (i != 0)
  | .list ds => some (!ds.isEmpty)
  | .tuple ds => some (!ds.isEmpty)
  | _ => none
theorem isEmpty_len {α β : Type} {xs : List α} {ds : List β} (h : xs.length = ds.length) : (!ds.isEmpty) = !xs.isEmpty := by
  cases xs <;> cases ds <;> simp_all
theorem truth_ok {K : PySem.W.Frag} {F H : Hp} {d : PyData} {v : V} {b : Bool} (fh : Same F H) (h : Rq K F H d v) (e : truth d = some b) : TruV K v H b := by
  unfold truth at e
  split at e
  · rw [rq_none h]; cases e; rfl
  · rw [rq_bool h]; cases e; rfl
  · rw [rq_int h]; cases e; rfl
  · cases e
    obtain ⟨a, xs, rfl, q, r⟩ := rq_list fh h
    refine .inl ⟨xs, q, ?_⟩
    have := r.len
    exact isEmpty_len this
  · cases e
    obtain ⟨a, xs, rfl, q, r⟩ := rq_tup h
    refine .inr (.inl ⟨xs, sqT_mono fh q, ?_⟩)
    have := r.len
    exact isEmpty_len this
  · cases e
def bTru (f : FE) : FB := fun η => (f η).bind fun p => match truth p.1.val with
  | some b => .ok (b, p.2)
  | none => .bad
theorem ptd_tru {e : Expr} {f : FE} (hK : C.K = X.K) (ha : PE X e (tD C f)) (he : ∀ whole, isTrue e X.env whole = (do let v ← whole; standAt e.pos; holding [v] (truthy v)) := by intro _; rfl) : PT X e (tB C (bTru f)) := by
  refine (pt_truth ha he).impD fun σ H Q ⟨η, F, fp, o, q⟩ => ?_
  refine ⟨η, F, fp, o, Rs.post_mono (Rs.post_bind q) (fun p hp v F' H' f1 fp' a => ?_) fun _ _ z => z⟩
  split at hp
  · rename_i b eb
    obtain ⟨F2, a2, rp⟩ := a.freeze
    simp only [T.vals, RpAll] at rp
    obtain ⟨x', xs, e1, r1, rfl⟩ := rp
    obtain rfl : v = x' := by simpa using e1
    rw [← hK]
    exact ⟨b, truth_ok a2.fh (.inl r1) eb, hp F2 H' fp' a2⟩
  · exact hp.elim
def bAnd (f g : FB) : FB := fun η => (f η).bind fun p => if p.1 then g p.2 else .ok (false, p.2)
def bOr (f g : FB) : FB := fun η => (f η).bind fun p => if p.1 then .ok (true, p.2) else g p.2
def bNot (f : FB) : FB := fun η => (f η).bind fun p => .ok (!p.1, p.2)
theorem ptd_not {a : Expr} {pos : Pos} {f : FB} (h : PT X a (tB C f)) : PT X (.UnaryOp .Not a pos) (tB C (bNot f)) := by
  refine (pt_not h).impD fun σ H Q ⟨η, F, fp, o, q⟩ => ?_
  exact ⟨η, F, fp, o, Rs.post_mono (Rs.post_bind q) (fun p hp F' H' fp' a => hp F' H' fp' a) fun _ _ z => z⟩
section
variable {a b : Expr} {rest : List Expr} {pos : Pos} {f g : FB}
theorem pwd_and1 (ha : PT X a (tB C f)) : PW X (.BoolOp .And [a] pos) (tB C f) := pw_and1 ha
theorem pwd_or1 (ha : PT X a (tB C f)) : PW X (.BoolOp .Or [a] pos) (tB C f) := pw_or1 ha
theorem pwd_and (ha : PT X a (tB C f)) (hb : PW X (.BoolOp .And (b :: rest) pos) (tB C g)) : PW X (.BoolOp .And (a :: b :: rest) pos) (tB C (bAnd f g)) := by
  refine PW.impD (pw_and ha hb) fun σ H Q ⟨η, F, fp, o, q⟩ => ?_
  refine tB_step o.aft (Rs.post_mono (Rs.post_bind q) (fun p hp F1 H1 f1 fp1 a => ?_) fun _ _ z => z)
  cases e : p.1 with
  | true =>
    rw [e, if_pos rfl] at hp
    rw [if_pos rfl]
    exact tB_step a (Rs.post_mono hp (fun p2 hp2 F2 H2 f2 fp2 b => by
      have hf : f2 = [] := by have := b.rt; simp only [RTs] at this; exact this.2
      subst hf
      exact hp2 F2 H2 fp2 b) fun _ _ z => z)
  | false =>
    rw [e, if_neg Bool.false_ne_true] at hp
    rw [if_neg Bool.false_ne_true]
    have hf : f1 = [] := by have := a.rt; simp only [RTs] at this; exact this.2
    subst hf
    exact hp F1 H1 fp1 a
theorem pwd_or (ha : PT X a (tB C f)) (hb : PW X (.BoolOp .Or (b :: rest) pos) (tB C g)) : PW X (.BoolOp .Or (a :: b :: rest) pos) (tB C (bOr f g)) := by
  refine PW.impD (pw_or ha hb) fun σ H Q ⟨η, F, fp, o, q⟩ => ?_
  refine tB_step o.aft (Rs.post_mono (Rs.post_bind q) (fun p hp F1 H1 f1 fp1 a => ?_) fun _ _ z => z)
  have hf : f1 = [] := by have := a.rt; simp only [RTs] at this; exact this.2
  subst hf
  cases e : p.1 with
  | false =>
    rw [e, if_neg Bool.false_ne_true] at hp
    rw [if_neg Bool.false_ne_true]
    exact tB_step a (Rs.post_mono hp (fun p2 hp2 F2 H2 f2 fp2 b => by
      have hf : f2 = [] := by have := b.rt; simp only [RTs] at this; exact this.2
      subst hf
      exact hp2 F2 H2 fp2 b) fun _ _ z => z)
  | true =>
    rw [e, if_pos rfl] at hp
    rw [if_pos rfl]
    exact hp F1 H1 fp1 a
end
/-! ### and, or, not, if-else as values -/
def eAnd (f g : FE) : FE := fun η => (f η).bind fun p => match p.1 with
  | .sh (.bool true) => g p.2
  | .sh (.bool false) => .ok (.sh (.bool false), p.2)
  | _ => .bad
def eOr (f g : FE) : FE := fun η => (f η).bind fun p => match p.1 with
  | .sh (.bool true) => .ok (.sh (.bool true), p.2)
  | .sh (.bool false) => g p.2
  | _ => .bad
section
variable {a b : Expr} {rest : List Expr} {pos : Pos} {f g : FE} {c : FB}
theorem pd_one {op : BoolOp} (ha : PE X a (tD C f)) : PE X (.BoolOp op [a] pos) (tD C f) := pe_one ha
theorem pd_and (ha : PE X a (tD C f)) (hb : PE X (.BoolOp .And (b :: rest) pos) (tD C g)) : PE X (.BoolOp .And (a :: b :: rest) pos) (tD C (eAnd f g)) := by
  refine (pe_and ha hb).impD fun σ H Q ⟨η, F, fp, o, q⟩ => ?_
  refine tD_step o.aft (Rs.post_mono (Rs.post_bind q) (fun p hp x F1 H1 f1 fp1 a => ?_) fun _ _ z => z)
  have a : Aft C.K fp F H σ [p.1] [x] p.2 F1 H1 f1 fp1 := a
  split at hp
  · rename_i e
    rw [e] at a
    refine ⟨true, (rt_bool a.rt1).1, ?_⟩
    rw [if_pos rfl]
    exact tD_step a.drop1 (Rs.post_mono hp (fun p2 hp2 v F2 H2 f2 fp2 b => hp2 v F2 H2 f2 fp2 b) fun _ _ z => z)
  · rename_i e
    rw [e] at a
    refine ⟨false, (rt_bool a.rt1).1, ?_⟩
    rw [if_neg Bool.false_ne_true]
    refine hp _ F1 H1 [] fp1 ?_
    have := a.rt1
    obtain ⟨rfl, rfl⟩ := rt_bool this
    exact a
  · exact hp.elim
theorem pd_or (ha : PE X a (tD C f)) (hb : PE X (.BoolOp .Or (b :: rest) pos) (tD C g)) : PE X (.BoolOp .Or (a :: b :: rest) pos) (tD C (eOr f g)) := by
  refine (pe_or ha hb).impD fun σ H Q ⟨η, F, fp, o, q⟩ => ?_
  refine tD_step o.aft (Rs.post_mono (Rs.post_bind q) (fun p hp x F1 H1 f1 fp1 a => ?_) fun _ _ z => z)
  have a : Aft C.K fp F H σ [p.1] [x] p.2 F1 H1 f1 fp1 := a
  split at hp
  · rename_i e
    rw [e] at a
    refine ⟨true, (rt_bool a.rt1).1, ?_⟩
    rw [if_pos rfl]
    refine hp _ F1 H1 [] fp1 ?_
    have := a.rt1
    obtain ⟨rfl, rfl⟩ := rt_bool this
    exact a
  · rename_i e
    rw [e] at a
    refine ⟨false, (rt_bool a.rt1).1, ?_⟩
    rw [if_neg Bool.false_ne_true]
    exact tD_step a.drop1 (Rs.post_mono hp (fun p2 hp2 v F2 H2 f2 fp2 b => hp2 v F2 H2 f2 fp2 b) fun _ _ z => z)
  · exact hp.elim
def eIf (c : FB) (f g : FE) : FE := fun η => (c η).bind fun p => if p.1 then f p.2 else g p.2
theorem pd_if {c0 : Expr} (hc : PT X c0 (tB C c)) (ha : PE X a (tD C f)) (hb : PE X b (tD C g)) : PE X (.IfExp c0 a b pos) (tD C (eIf c f g)) := by
  refine (pe_ifExp hc ha hb).impD fun σ H Q ⟨η, F, fp, o, q⟩ => ?_
  refine tB_step o.aft (Rs.post_mono (Rs.post_bind q) (fun p hp F1 H1 f1 fp1 a => ?_) fun _ _ z => z)
  cases e : p.1 with
  | true =>
    rw [e, if_pos rfl] at hp
    rw [if_pos rfl]
    exact tD_step a hp
  | false =>
    rw [e, if_neg Bool.false_ne_true] at hp
    rw [if_neg Bool.false_ne_true]
    exact tD_step a hp
end
/-! ### one operand -/
def rD1 (K : PySem.W.Frag) (op : PyData → Option T) : V → Hp → VK → Prop := fun x H Q => ∃ F d t, Same F H ∧ Rq K F H d x ∧ op d = some t ∧ Res K F H t Q
def eUn (op : PyData → Option T) (f : FE) : FE := fun η => (f η).bind fun p => fin1 (op p.1.val) p.2
theorem t_un {op : PyData → Option T} {f : FE} {σ : St} {H : Hp} {Q : VK} (h : tD C (eUn op f) σ H Q) : tUn (rD1 C.K op) (tD C f) σ H Q := by
  obtain ⟨η, F, fp, o, q⟩ := h
  refine tD_step o.aft (Rs.post_mono (Rs.post_bind q) (fun p hp x F1 H1 f1 fp1 a => ?_) fun _ _ z => z)
  obtain ⟨F3, t, s, r, eq, k⟩ := fin_res a hp
  simp only [List.nil_append, T.vals, RpAll] at r
  obtain ⟨x', xs, e1, r1, rfl⟩ := r
  obtain rfl : x = x' := by simpa using e1
  exact ⟨F3, _, t, s.fh, .inl r1, eq, k⟩
def opNeg : PyData → Option T
  | .int i => some (.sh (.int (-i)))
  | _ => none
theorem opNeg_ok : UnR X (unaryOp .USub) (rD1 X.K opNeg) := by
  intro pins s σ H x v Q I rx ⟨F, d, t, fh, r1, eq, k⟩
  unfold opNeg at eq
  split at eq
  · rename_i i
    cases eq
    cases rq_int r1
    exact un_neg pins s σ H _ v Q I rx ⟨i, rfl, k.int fh⟩
  · cases eq
theorem pd_un {o : UnaryOp} {op : PyData → Option T} {a : Expr} {pos : Pos} {f : FE} (hK : C.K = X.K) (ho : UnR X (unaryOp o) (rD1 X.K op)) (ha : PE X a (tD C f)) : PE X (.UnaryOp o a pos) (tD C (eUn op f)) := by
  rw [← hK] at ho
  exact (pe_un ho ha).impD fun _ _ _ => t_un
def eNot (c : FB) : FE := fun η => (c η).bind fun p => .ok (.sh (.bool (!p.1)), p.2)
def eNotV (f : FE) : FE := fun η => (f η).bind fun p => match p.1 with
  | .sh (.bool b) => .ok (.sh (.bool (!b)), p.2)
  | _ => .bad
theorem pd_not {a : Expr} {pos : Pos} {f : FE} (ha : PE X a (tD C f)) : PE X (.UnaryOp .Not a pos) (tD C (eNotV f)) := by
  refine (pe_not ha).impD fun σ H Q ⟨η, F, fp, o, q⟩ => ?_
  refine tD_step o.aft (Rs.post_mono (Rs.post_bind q) (fun p hp x F1 H1 f1 fp1 a => ?_) fun _ _ z => z)
  have a : Aft C.K fp F H σ [p.1] [x] p.2 F1 H1 f1 fp1 := a
  split at hp
  · rename_i b e
    rw [e] at a
    refine ⟨b, (rt_bool a.rt1).1, ?_⟩
    exact hp _ F1 H1 [] fp1 (a.drop1.res (.here a.fh rp_c.2.1))
  · exact hp.elim
/-! ### chains of comparisons of ints -/
def eChain (p1 p2 : Int → Int → Bool) (f g h : FE) : FE := fun η => (f η).bind fun a => (g a.2).bind fun b => match a.1, b.1 with
  | .sh (.int i), .sh (.int j) => if p1 i j then (h b.2).bind fun c => match c.1 with
      | .sh (.int k) => .ok (.sh (.bool (p2 j k)), c.2)
      | _ => .bad
    else .ok (.sh (.bool false), b.2)
  | _, _ => .bad
theorem Aft.rt2 {K : PySem.W.Frag} {fp : List Addr} {F H : Hp} {σ : St} {t t2 : T} {v v2 : V} {η' : Env} {F' H' : Hp} {f1 fp' : List Addr} (a : Aft K fp F H σ [t, t2] [v, v2] η' F' H' f1 fp') :
    ∃ g1 g2, f1 = g1 ++ g2 ∧ RT K F' H' t v g1 ∧ RT K F' H' t2 v2 g2 := by
  obtain ⟨x, xs, g1, g2, e1, e2, r1, r2⟩ := a.rt.uncons
  obtain ⟨y, ys, g3, g4, e3, e4, r3, r4⟩ := r2.uncons
  simp only [RTs] at r4
  obtain ⟨rfl, rfl⟩ := r4
  subst e3
  obtain ⟨rfl, rfl⟩ : v = x ∧ v2 = y := by simpa using e1
  subst e4
  exact ⟨g1, g3, by simpa using e2, r1, r3⟩
theorem Aft.drop {K : PySem.W.Frag} {fp : List Addr} {F H : Hp} {σ : St} {ts : List T} {vs : List V} {η' : Env} {F' H' : Hp} {f1 fp' : List Addr} (a : Aft K fp F H σ ts vs η' F' H' f1 fp') : Aft K fp F H σ [] [] η' F' H' [] fp' :=
  ⟨.nil, a.rs, (List.nodup_append.mp a.nd).2.1, fun x hx => a.fn x (by simp at hx; simp [hx]), a.fh, a.ext, fun x hx => a.sub x (by simp at hx; simp [hx])⟩
theorem t_chain {p1 p2 : Int → Int → Bool} {f g h : FE} {σ : St} {H : Hp} {Q : VK} (q : tD C (eChain p1 p2 f g h) σ H Q) :
    tChain (rI0 fun i j => .bl (p1 i j)) (rI0 fun i j => .bl (p2 i j)) (tD C f) (tD C g) (tD C h) σ H Q := by
  obtain ⟨η, F, fp, o, q⟩ := q
  refine tD_step o.aft (Rs.post_mono (Rs.post_bind q) (fun p hp x F1 H1 f1 fp1 a => ?_) fun _ _ z => z)
  refine tD_step a (Rs.post_mono (Rs.post_bind hp) (fun p2 hp2 y F2 H2 f2 fp2 b => ?_) fun _ _ z => z)
  have b : Aft C.K fp F H σ [p.1, p2.1] [x, y] p2.2 F2 H2 f2 fp2 := b
  split at hp2
  · rename_i i j e1 e2
    obtain ⟨g1, g2, rfl, r1, r2⟩ := b.rt2
    rw [e1] at r1
    rw [e2] at r2
    obtain ⟨rfl, rfl⟩ := rt_int r1
    obtain ⟨rfl, rfl⟩ := rt_int r2
    refine ⟨i, j, rfl, rfl, _, rfl, ?_⟩
    split at hp2
    · rename_i hc
      rw [if_pos hc]
      refine tD_step b.drop (Rs.post_mono (Rs.post_bind hp2) (fun p3 hp3 z F3 H3 f3 fp3 c => ?_) fun _ _ z => z)
      have c : Aft C.K fp F H σ [p3.1] [z] p3.2 F3 H3 f3 fp3 := c
      split at hp3
      · rename_i k e3
        rw [e3] at c
        obtain ⟨rfl, rfl⟩ := rt_int c.rt1
        exact ⟨j, k, rfl, rfl, hp3 _ F3 H3 [] fp3 (c.drop.res (.here c.fh rp_c.2.1))⟩
      · exact hp3.elim
    · rename_i hc
      rw [if_neg hc]
      exact hp2 _ F2 H2 [] fp2 (b.drop.res (.here b.fh rp_c.2.1))
  · exact hp2.elim
section
variable {a b c : Expr} {pos : Pos} {o1 o2 : CmpOp} {p1 p2 : Int → Int → Bool} {f g h : FE}
theorem pd_chain (h1 : OpR X (compareOp o1) (rI0 fun i j => .bl (p1 i j))) (h2 : OpR X (compareOp o2) (rI0 fun i j => .bl (p2 i j))) (ha : PE X a (tD C f)) (hb : PE X b (tD C g)) (hc : PE X c (tD C h))
    (hm : lastMarks [o1, o2] [b, c] = false := by with_unfolding_all rfl) : PE X (.Compare a [o1, o2] [b, c] pos) (tD C (eChain p1 p2 f g h)) := (pe_chain h1 h2 ha hb hc hm).impD fun _ _ _ => t_chain
theorem ptd_chain (h1 : OpR X (compareOp o1) (rI0 fun i j => .bl (p1 i j))) (h2 : OpR X (compareOp o2) (rI0 fun i j => .bl (p2 i j))) (ha : PE X a (tD C f)) (hb : PE X b (tD C g)) (hc : PE X c (tD C h))
    (hm : lastMarks [o1, o2] [b, c] = false := by with_unfolding_all rfl) : PT X (.Compare a [o1, o2] [b, c] pos) (tB C (bT (eChain p1 p2 f g h))) := pt_bool (pt_chain h1 h2 ha hb hc hm) fun _ _ _ => t_chain
end
/-! ### argument lists, displays -/
def aNil : FA := fun η => .ok ([], η)
def aCons (f : FE) (g : FA) : FA := fun η => (f η).bind fun p => (g p.2).bind fun q => .ok (p.1 :: q.1, q.2)
theorem pad_nil : PA X [] (tA C aNil) := pa_nil.impD fun σ H Q ⟨η, F, fp, o, q⟩ => q [] F H [] fp o.aft
theorem pad_cons {e : Expr} {es : List Expr} {f : FE} {g : FA} (ha : PE X e (tD C f)) (hr : PA X es (tA C g)) (hs : starEach (e :: es) X.env = (false, eval e X.env) :: starEach es X.env := by rfl) : PA X (e :: es) (tA C (aCons f g)) := by
  refine (pa_cons ha hr hs).impD fun σ H Q ⟨η, F, fp, o, q⟩ => ?_
  refine tD_step o.aft (Rs.post_mono (Rs.post_bind q) (fun p hp x F1 H1 f1 fp1 a => ?_) fun _ _ z => z)
  refine tA_step a (Rs.post_mono (Rs.post_bind hp) (fun p2 hp2 ws F2 H2 f2 fp2 b => ?_) fun _ _ z => z)
  exact hp2 (x :: ws) F2 H2 f2 fp2 b
def fits (n : Nat) : Bool := decide (n ≤ 1000)
theorem fits_line {n : Nat} (h : fits n = true) : n ≤ sizeLine := by
  have : n ≤ 1000 := of_decide_eq_true h
  rw [sizeLine_eq]; omega
def eTup (g : FA) : FE := fun η => (g η).bind fun p => if fits p.1.length then .ok (.sh (.tuple (T.vals p.1)), p.2) else .bad
def eLst (g : FA) : FE := fun η => (g η).bind fun p => if fits p.1.length then .ok (.lst p.1, p.2) else .bad
theorem pd_tup {es : List Expr} {k : Nat} {pos : Pos} {g : FA} (h : PA X es (tA C g)) : PE X (.Tuple es k pos) (tD C (eTup g)) := by
  refine (pe_tup h).impD fun σ H Q ⟨η, F, fp, o, q⟩ => ?_
  refine tA_step o.aft (Rs.post_mono (Rs.post_bind q) (fun p hp ws F1 H1 f1 fp1 a => ?_) fun _ _ z => z)
  have a : Aft C.K fp F H σ p.1 ws p.2 F1 H1 f1 fp1 := a
  split at hp
  · rename_i hf
    have hl := a.rt.len
    refine ⟨by rw [hl]; exact fits_line hf, fun p hp' => ?_⟩
    obtain ⟨F2, a2, rp⟩ := a.freeze
    exact hp _ _ _ [] fp1 (a2.res (.tup a2.fh rp hp'))
  · exact hp.elim
theorem pd_lst {es : List Expr} {pos : Pos} {g : FA} (h : PA X es (tA C g)) : PE X (.List es pos) (tD C (eLst g)) := by
  refine (pe_lst h).impD fun σ H Q ⟨η, F, fp, o, q⟩ => ?_
  refine tA_step o.aft (Rs.post_mono (Rs.post_bind q) (fun p hp ws F1 H1 f1 fp1 a => ?_) fun _ _ z => z)
  have a : Aft C.K fp F H σ p.1 ws p.2 F1 H1 f1 fp1 := a
  split at hp
  · rename_i hf
    have hl := a.rt.len
    refine ⟨by rw [hl]; exact fits_line hf, fun q hq => ?_⟩
    have fq : F1 q = none := a.fh.free hq
    have there : ∀ x ∈ f1 ++ fp1, ∃ o, H1 x = some o := fun x hx => by
      rcases List.mem_append.mp hx with hx | hx
      · exact a.rt.there x hx
      · exact a.rs.there x hx
    have nq : q ∉ f1 ++ fp1 := fun hm => by
      obtain ⟨o, e⟩ := there q hm
      rw [hq] at e; cases e
    refine hp _ F1 (upd H1 q (.lst ws)) (q :: f1) fp1 ⟨.one ?_, a.rs.mono (.refl _) fun x _ o e => same_upd hq x o e, ?_, fun x hx => ?_, fun b o e => ?_, ⟨a.ext.ff, fun b o e hb => same_upd hq b o (a.ext.keep b o e hb), a.ext.new⟩, fun x hx => ?_⟩
    · simp only [RT]
      exact ⟨q, ws, f1, rfl, upd_same, rfl, a.rt.mono (.refl _) fun x _ o e => same_upd hq x o e⟩
    · show (q :: (f1 ++ fp1)).Nodup
      exact List.nodup_cons.mpr ⟨nq, a.nd⟩
    · rcases List.mem_cons.mp (show x ∈ q :: (f1 ++ fp1) from hx) with rfl | hx
      · exact fq
      · exact a.fn x hx
    · exact same_upd hq b o (a.fh b o e)
    · rcases List.mem_cons.mp (show x ∈ q :: (f1 ++ fp1) from hx) with rfl | hx
      · by_cases hm : x ∈ fp
        · exact .inl hm
        · refine .inr ?_
          cases e : H x with
          | none => rfl
          | some o =>
            rw [a.ext.keep x o e hm] at hq; cases hq
      · exact a.sub x hx
  · exact hp.elim
/-! ### calls of built-ins -/
def rDC (K : PySem.W.Frag) (op : List PyData → Option T) : List V → Hp → VK → Prop := fun xs H Q => ∃ F ds t, Same F H ∧ RqAll K F H ds xs ∧ op ds = some t ∧ Res K F H t Q
abbrev CallD (X : Cx) (f : Value) (op : List PyData → Option T) : Prop := CallR X f (rDC X.K op)
def eCall (op : List PyData → Option T) (g : FA) : FE := fun η => (g η).bind fun p => fin1 (op (T.vals p.1)) p.2
def eCallV (op : List PyData → Option T) (i : Nat) : FE := fun η => match pk η i with
  | some d => fin1 (op [d]) η
  | none => .bad
theorem t_call {op : List PyData → Option T} {g : FA} {σ : St} {H : Hp} {Q : VK} (h : tD C (eCall op g) σ H Q) : tCB (rDC C.K op) (tA C g) σ H Q := by
  obtain ⟨η, F, fp, o, q⟩ := h
  refine tA_step o.aft (Rs.post_mono (Rs.post_bind q) (fun p hp x F1 H1 f1 fp1 a => ?_) fun _ _ z => z)
  obtain ⟨F3, t, s, r, eq, k⟩ := fin_res a hp
  exact ⟨F3, _, t, s.fh, RpAll.rq r, eq, k⟩
theorem t_callV {op : List PyData → Option T} {i : Nat} {σ : St} {H : Hp} {Q : VK} (h : tD C (eCallV op i) σ H Q) : tCB (rDC C.K op) (tCons (tVar i) tNil) σ H Q := by
  obtain ⟨η, F, fp, o, q⟩ := h
  unfold eCallV at q
  obtain ⟨d, hd, q⟩ := pk_some q
  obtain ⟨F3, t, s, r, eq, k⟩ := fin_res o.aft q
  obtain ⟨x, hx, rx⟩ := pk_rq s hd
  refine ⟨x, hx, F3, [d], t, s.fh, ?_, eq, k⟩
  simp only [RqAll]
  exact ⟨x, [], rfl, rx, rfl⟩
theorem pd_call {e : Expr} {op : List PyData → Option T} {g : FA} (hK : C.K = X.K) (h : PE X e (tCB (rDC X.K op) (tA C g))) : PE X e (tD C (eCall op g)) := by
  rw [← hK] at h
  exact h.impD fun _ _ _ => t_call
theorem pd_callV {e : Expr} {op : List PyData → Option T} {i : Nat} (hK : C.K = X.K) (h : PE X e (tCB (rDC X.K op) (tCons (tVar i) tNil))) : PE X e (tD C (eCallV op i)) := by
  rw [← hK] at h
  exact h.impD fun _ _ _ => t_callV
end Pv
set_option Elab.async false
set_option linter.all false
set_option maxRecDepth 100000
set_option maxHeartbeats 4000000
/-! sorting tuples of which some are empty -/
namespace PySem.W
open PySem PySem.Calls PyProof.Rows PySem.SeqAt
section
variable {A : Around} {s : Shared}
theorem pv_call_tuple_lt {prog : Program} {w : World} {E : Value → Shared → Prop} {Q : Value → Shared → Prop} {l b : Addr} {items items2 : Array Value} {e r : Nat → Bool} (hl : s.heap.IsTuple l items) (hb : s.heap.IsTuple b items2)
    (he : ∀ j (h1 : j < items.size) (h2 : j < items2.size), EqAt A.in1 s items[j] items2[j] (e j)) (hr : ∀ j (h1 : j < items.size) (h2 : j < items2.size), e j = false → RcLt A.in1 s items[j] items2[j] (r j))
    (h : Q (.bool (firstLt e r (decide (items.size < items2.size)) (List.range (min items.size items2.size)))) s) : wpAny (model prog w) A (call (.builtin "tuple.__lt__") [.ref l, .ref b]) Q E s := by
  obtain ⟨⟨cls, dd, data, sl⟩, ho, hc, n, hd⟩ := id hl
  obtain ⟨⟨cls2, dd2, data2, sl2⟩, ho2, hc2, n2, hd2⟩ := id hb
  simp only at hc hd hc2 hd2
  subst hc hd hc2 hd2
  exact call_meets F.slot_tuple_lt ⟨_, ho, rfl⟩ F.entry_tuple_lt (F.args_tuple_lt_2 _ _) (tuple_ltAt l b items items2 n n2 dd dd2 sl sl2 e r) ⟨ho, ho2, he, hr, h⟩
end
section
variable {prog : Program} {w : World} {A : Around} {E : Value → Shared → Prop} {s : Shared}
theorem pv_oneLt_tup {xs ys : List PyData} {a b : Value} {as bs : List Addr} {Q : Bool → Shared → Prop} (ra : Reads s.heap a (.tuple xs) as) (rb : Reads s.heap b (.tuple ys) bs) (h : alike (.tuple xs) (.tuple ys) = true)
    (hu : A.units + min (PyData.tuple xs).depth (PyData.tuple ys).depth < cLine) (hq : Q (dataLt (.tuple xs) (.tuple ys)) s) : wpAny (model prog w) A (oneLt' true a b) Q E s := by
  have hal : alikeAll xs ys = true := by simpa [alike] using h
  cases ra with
  | @tuple l o vs n _ as₁ h1 h2 h3 h4 =>
    cases rb with
    | @tuple l' o' vs' n' _ bs₁ k1 k2 k3 k4 =>
      have n1 : vs.size = xs.length := by simpa using ReadsAll.length _ _ _ h4
      have n2 : vs'.size = ys.length := by simpa using ReadsAll.length _ _ _ k4
      rw [dataLt_tuple, ← firstLt_toks xs ys hal, ← n1, ← n2] at hq
      rw [oneLt'_eq]
      simp only [if_true]
      refine wpAny_bind (wpAny_cRoomFor (room_here hu) ?_)
      refine wpAny_bind (wpAny_callSpecialIfBound?_slot (T := "tuple") ⟨_, h1, h2⟩ F.slot_tuple_lt (pv_call_tuple_lt (e := pairEq xs ys) (r := fun j => dataLt (xs.getD j .none) (ys.getD j .none)) ⟨_, h1, h2, _, h3⟩ ⟨_, k1, k2, _, k3⟩ (fun j j1 j2 => ?_) (fun j j1 j2 hj => ?_) ?_))
      · have := eqAt_alikeAll xs ys A.in1 s vs.toList vs'.toList _ _ h4 k4 hal (room_in hu) j (by simpa using j1) (by simpa using j2)
        simpa using this
      · have := rcLt_alikeAll xs ys A.in1 s vs.toList vs'.toList _ _ h4 k4 hal (room_in hu) j (by simpa using j1) (by simpa using j2) hj
        simpa using this
      · exact wpAny_truthy_bool hq
def pvTup1 : PyData → Bool
  | .tuple (_ :: _) => true
  | _ => false
theorem pv_firsts {M : Model} : ∀ {vs : List Value} {ds : List PyData} {Q : List (Option Value) → Shared → Prop}, EachIs (fun v d => ∃ as, Reads s.heap v d as) vs ds → (∀ d ∈ ds, ∃ xs, d = .tuple xs) → (∀ fs : List (Option Value), fs.map Option.isSome = ds.map pvTup1 → Q fs s) → wpAny M A (vs.mapM firstOfTuple') Q E s
  | _, _, Q, .nil, _, h => by
    rw [List.mapM_nil]
    exact wpAny_pure (h [] rfl)
  | v :: vs, d :: ds, Q, .cons ⟨as, r⟩ t, hd, h => by
    obtain ⟨xs, rfl⟩ := hd _ (List.mem_cons_self ..)
    rw [List.mapM_cons]
    refine wpAny_bind ?_
    cases r with
    | @tuple a o vals n _ _ ho hc hdd hr =>
      rw [kas_first_eq]
      refine wpAny_bind (Looks.here (show Looks M s.heap (typeOf (.ref a)) o.cls from (Looks.ld ho).andThen .now) ?_)
      rw [hc, if_neg (by first | decide | simp)]
      refine wpAny_bind (listItems_at ho hdd (wpAny_pure ?_))
      refine wpAny_bind (pv_firsts t (fun d h' => hd d (List.mem_cons_of_mem _ h')) fun fs hfs => wpAny_pure (h _ ?_))
      rw [List.map_cons, List.map_cons, hfs]
      congr 1
      have hlen : vals.size = xs.length := by simpa using ReadsAll.length _ _ _ hr
      cases xs with
      | nil =>
        have : vals[0]? = none := Array.getElem?_eq_none (by simpa using Nat.le_of_eq hlen)
        rw [this]
        rfl
      | cons x xs =>
        have hz : 0 < vals.size := by rw [hlen]; simp
        rw [Array.getElem?_eq_getElem hz]
        rfl
theorem pv_mixed {vs : List Value} {ds : List PyData} (e : EachIs (fun v d => ∃ as, Reads s.heap v d as) vs ds) (hal : AllAlike ds) (ht : ∀ d ∈ ds, ∃ xs, d = .tuple xs) (hu : ∀ d, d ∈ ds → A.units + d.depth < cLine) : SortsAt prog w A s (dataKind s.heap ds) vs := by
  by_cases hall : ∀ d ∈ ds, ∃ x r, d = .tuple (x :: r)
  · exact SortsAt.data e hal (.inl hall) hu
  have room : ∀ {d d' : PyData}, d ∈ ds → A.units + min d.depth d'.depth < cLine := fun {d d'} hd => Nat.lt_of_le_of_lt (Nat.add_le_add_left (Nat.min_le_left _ _) _) (hu d hd)
  have hno : (ds.map pvTup1).all id = false := by
    rw [Bool.eq_false_iff]
    intro hc
    refine hall fun d hd => ?_
    rw [List.all_map, List.all_eq_true] at hc
    have h1 := hc d hd
    obtain ⟨xs, rfl⟩ := ht d hd
    cases xs with
    | nil => cases h1
    | cons x r => exact ⟨x, r, rfl⟩
  have key : ∀ fs : List (Option Value), fs.map Option.isSome = ds.map pvTup1 → ¬ (fs.toArray.all fun x => x.isSome) = true := fun fs hfs hc => by
    rw [← hfs] at hno
    rw [List.all_toArray] at hc
    rw [List.all_map] at hno
    have hc' : fs.all (id ∘ Option.isSome) = true := hc
    rw [hc'] at hno
    cases hno
  refine ⟨fun v hv => ?_, ?_⟩
  · obtain ⟨d, hd, as, r⟩ := e.left v hv
    exact ⟨_, dataKind_some hal hd r⟩
  by_cases h0 : (ds.map pvTup1).head? = some true
  · refine ⟨general', ?_, fun h2 E Q hq => ?_⟩
    · intro E x y a b Q ha hb hq
      obtain ⟨d, as, hd, ra, rfl⟩ := dataKind_inv ha
      obtain ⟨d', as', hd', rb, rfl⟩ := dataKind_inv hb
      show wpAny (model prog w) A (oneLt' false x y) Q E s
      obtain ⟨xs, rfl⟩ := ht d hd
      exact oneLt_alike (fun h => by cases h) ra rb (hal _ hd d' hd') (fun h => by cases h) (room hd) hq
    · rw [kat_kind_eq, List.mapM_toArray, map_eq_pure_bind]
      refine wpAny_bind (wpAny_bind (pv_firsts e ht fun fs hfs => wpAny_pure ?_))
      rw [if_neg (key fs hfs)]
      have : (fs.toArray[0]?.bind id).isSome = true := by
        rw [← hfs] at h0
        cases fs with
        | nil => simp at h0
        | cons f fs => simpa using h0
      rw [if_pos this]
      exact wpAny_pure hq
  · refine ⟨oneType', ?_, fun h2 E Q hq => ?_⟩
    · intro E x y a b Q ha hb hq
      obtain ⟨d, as, hd, ra, rfl⟩ := dataKind_inv ha
      obtain ⟨d', as', hd', rb, rfl⟩ := dataKind_inv hb
      rw [keyLt'_oneType]
      obtain ⟨xs, rfl⟩ := ht d hd
      obtain ⟨ys, rfl⟩ := ht d' hd'
      exact pv_oneLt_tup ra rb (hal _ hd _ hd') (room hd) hq
    · rw [kat_kind_eq, List.mapM_toArray, map_eq_pure_bind]
      refine wpAny_bind (wpAny_bind (pv_firsts e ht fun fs hfs => wpAny_pure ?_))
      rw [if_neg (key fs hfs)]
      have : ¬ (fs.toArray[0]?.bind id).isSome = true := by
        rw [← hfs] at h0
        cases fs with
        | nil => simp
        | cons f fs => simpa using h0
      rw [if_neg this]
      have hT : ∀ v ∈ vs, Looks (model prog w) s.heap (typeOf v) (.type "tuple") := fun v hv => by
        obtain ⟨d, hd, as, r⟩ := e.left v hv
        obtain ⟨xs, rfl⟩ := ht d hd
        exact looks_reads r
      obtain ⟨v₁, v₂, rest, rfl⟩ : ∃ v₁ v₂ rest, vs = v₁ :: v₂ :: rest := by
        match vs, h2 with
        | [], h2 => simp at h2
        | [_], h2 => simp at h2
        | v₁ :: v₂ :: rest, _ => exact ⟨v₁, v₂, rest, rfl⟩
      rw [oneTypeOnly'_eq, List.mapM_toArray, map_eq_pure_bind]
      refine wpAny_bind (wpAny_bind (wpAny_bind (kas_mapM (r := Value.type "tuple") _ (fun v hv Q' hq => (hT v hv).here hq) (wpAny_pure ?_))))
      have hall : ((List.map (fun _ => Value.type "tuple") (v₁ :: v₂ :: rest)).toArray.all fun x => x == Value.type "tuple") = true := by
        simp only [List.all_toArray, List.all_map, List.all_eq_true]
        intro _ _
        exact beq_self_eq_true _
      have h0 : (List.map (fun _ => Value.type "tuple") (v₁ :: v₂ :: rest)).toArray[0]? = some (Value.type "tuple") := by simp
      rw [h0]
      simp only [hall, if_true]
      exact wpAny_pure (wpAny_pure hq)
/-- all tuples, or Sortable -/
def PvSortable (ds : List PyData) : Prop := (∀ d ∈ ds, ∃ xs, d = .tuple xs) ∨ Sortable ds
theorem PvSortable.at {vs : List Value} {ds : List PyData} (hk : PvSortable ds) (e : EachIs (fun v d => ∃ as, Reads s.heap v d as) vs ds) (hal : AllAlike ds) (hu : ∀ d, d ∈ ds → A.units + d.depth < cLine) : SortsAt prog w A s (dataKind s.heap ds) vs := by
  rcases hk with h | h
  · exact pv_mixed e hal h hu
  · exact SortsAt.data e hal h hu
end
section
variable {prog : Program} {w : World} {A : Around} {E : Value → Shared → Prop} {s : Shared} {β : Type} {vs : List Value} {bs : List β} {enc : β → PyData} {R : Value → β → Prop}
theorem pv_sorted_data {l : Addr} {Q : Value → Shared → Prop} (hl : s.heap.IsList l vs.toArray) (e : EachIs R vs bs) (er : EachIs (fun v b => ∃ as, Reads s.heap v (enc b) as) vs bs) (hal : AllAlike (bs.map enc)) (hk : PvSortable (bs.map enc)) (hL : bs.length ≤ sizeLine)
    (hu : ∀ b, b ∈ bs → A.units + 2 + (enc b).depth < cLine) (h : ∀ out, out.length = bs.length → EachIs R out (bs.mergeSort (dataLe false enc)) → Q (.ref (s.heap.objs.size + 1)) { s with heap := sortedAll s.heap vs (List.toArray out) }) :
    wpAny (model prog w) A (call (.builtin "sorted") [.ref l]) Q E s := by
  have er' : EachIs (fun v b => ∃ as, Reads (sortingHeap (copyHeap s.heap vs) (s.heap.objs.size + 1) vs) v (enc b) as) vs bs := er.mono fun _ _ ⟨as, r⟩ => ⟨as, PyProof.Rows.Reads.keeps (fun _ _ => sorting_copy_old) r⟩
  exact sorted_vals hl (PvSortable.at (s := { s with heap := sortingHeap (copyHeap s.heap vs) (s.heap.objs.size + 1) vs }) hk (each_map (R := fun v d => ∃ as, Reads (sortingHeap (copyHeap s.heap vs) (s.heap.objs.size + 1) vs) v d as) enc er') hal (bound_map hu)) (by rw [e.length]; exact hL)
    (h _ (by rw [sortVals_length false rfl]; exact e.length) (sortVals_data false e er' hal))
end
end PySem.W
set_option Elab.async false
set_option linter.all false
set_option maxRecDepth 100000
set_option maxHeartbeats 4000000
/-! sorted(x), x a tuple -/
namespace PySem.W
open PySem PyProof.Rows PySem.Spec
section
variable {prog : Program} {w : World} {A : Around} {E : Value → Shared → Prop} {s : Shared} {β : Type} {vs : List Value} {bs : List β} {enc : β → PyData} {R : Value → β → Prop}
theorem sorted_tup_data {l : Addr} {o : Obj} {n : Nat} {Q : Value → Shared → Prop} (ho : s.heap.get? l = some o) (hc : o.cls = .type "tuple") (hd : o.data = .seq vs.toArray n) (e : EachIs R vs bs) (er : EachIs (fun v b => ∃ as, Reads s.heap v (enc b) as) vs bs) (hal : AllAlike (bs.map enc)) (hk : PvSortable (bs.map enc)) (hL : bs.length ≤ sizeLine)
    (hu : ∀ b, b ∈ bs → A.units + 2 + (enc b).depth < cLine)
    (h : ∀ (out : List Value) (h1 : Heap) (c : Nat) (h' : Heap), out.length = bs.length → EachIs R out (bs.mergeSort (dataLe false enc)) → (∀ b o, s.heap.get? b = some o → h1.get? b = some o) → (∀ b o, h1.get? b = some o → h'.get? b = some o) → h'.get? h1.objs.size = some (seqObj "list" (List.toArray out) c) → Q (.ref h1.objs.size) { s with heap := h' }) :
    wpAny (model prog w) A (call (.builtin "sorted") [.ref l]) Q E s := by
  have hLv : vs.length ≤ sizeLine := by rw [e.length]; exact hL
  refine Calls.call_function_entry kind_sorted plain_sorted entry_sorted (args_sorted1 _) ?_
  unfold Builtin.«sorted»
  refine wpAny_bind (m := checkCount "sorted" 1 1 _) (wpAny_pure ?_)
  refine wpAny_bind (wpAny_collect_seq l (.inr rfl) ho hc hd (fun h1 hk1 => ?_) (by rw [List.size_toArray]; exact hLv))
  refine wpAny_bind (wpAny_newList ?_ hLv)
  have hoL : (h1.push (seqObj "list" vs.toArray 0)).get? h1.objs.size = some (seqObj "list" vs.toArray 0) := Heap.get?_push_size _ rfl
  have old : ∀ b o, s.heap.get? b = some o → b ≠ h1.objs.size ∧ (h1.push (seqObj "list" vs.toArray 0)).get? b = some o := fun b o hb => ⟨Nat.ne_of_lt (Heap.lt_size (hk1 b o hb)), Heap.get?_push_of_some _ (hk1 b o hb)⟩
  have er' : EachIs (fun v b => ∃ as, Reads (sortingHeap (h1.push (seqObj "list" vs.toArray 0)) h1.objs.size vs) v (enc b) as) vs bs := er.mono fun _ _ ⟨as, r⟩ => ⟨as, PyProof.Rows.Reads.keeps (fun b o q => sortingHeap_old (old b o q).1 (old b o q).2) r⟩
  refine wpAny_bind (wpAny_holding (wpAny_call_entry slot_list_sort ⟨_, hoL, rfl⟩ entry_list_sort ?body (args_list_sort _)))
  case body =>
    refine list_sort_vals (κ := dataKind (sortingHeap (h1.push (seqObj "list" vs.toArray 0)) h1.objs.size vs) (bs.map enc)) hoL (PvSortable.at (s := { s with heap := sortingHeap (h1.push (seqObj "list" vs.toArray 0)) h1.objs.size vs }) hk (each_map (R := fun v d => ∃ as, Reads (sortingHeap (h1.push (seqObj "list" vs.toArray 0)) h1.objs.size vs) v d as) enc er') hal (bound_map hu)) hLv ?_
    refine ⟨_, rfl, wpAny_pure ⟨_, rfl, ?_⟩⟩
    obtain ⟨c, hc⟩ := sortedHeap_at (vs := vs) (out := (sortVals (dataKind (sortingHeap (h1.push (seqObj "list" vs.toArray 0)) h1.objs.size vs) (bs.map enc)) false vs vs).toArray) hoL
    refine h _ h1 c _ (by rw [sortVals_length false rfl]; exact e.length) (sortVals_data false e er' hal) hk1 (fun b o q => ?_) hc
    have q2 : (h1.push (seqObj "list" vs.toArray 0)).get? b = some o := Heap.get?_push_of_some _ q
    exact (sortedHeap_old (Nat.ne_of_lt (Heap.lt_size q)) (Heap.lt_size q2)).trans q2
end
end PySem.W
set_option Elab.async false
set_option linter.all false
set_option maxRecDepth 100000
set_option maxHeartbeats 4000000
namespace Pv
open PySem L2
variable {X : Cx} {C : Cn}

theorem RqAll.one {K : PySem.W.Frag} {F H : Hp} {d : PyData} {vs : List V} (h : RqAll K F H [d] vs) : ∃ v, vs = [v] ∧ Rq K F H d v := by
  simp only [RqAll] at h
  obtain ⟨x, xs, rfl, q, rfl⟩ := h
  exact ⟨x, rfl, q⟩
theorem RqAll.two {K : PySem.W.Frag} {F H : Hp} {d e : PyData} {vs : List V} (h : RqAll K F H [d, e] vs) : ∃ v w, vs = [v, w] ∧ Rq K F H d v ∧ Rq K F H e w := by
  simp only [RqAll] at h
  obtain ⟨x, xs, rfl, q, y, ys, rfl, r, rfl⟩ := h
  exact ⟨x, y, rfl, q, r⟩
theorem rpAll_ints {K : PySem.W.Frag} {F : Hp} : ∀ {ns : List Int} {vs : List V}, RpAll K F (ns.map PyData.int) vs → vs = ns.map V.int
  | [], vs, h => by simpa only [RpAll, List.map_nil] using h
  | n :: ns, vs, h => by
    obtain ⟨x, xs, rfl, q, r⟩ := h.uncons
    rw [rp_int q, rpAll_ints r]; rfl
theorem rpAll_bools {K : PySem.W.Frag} {F : Hp} : ∀ {ns : List Bool} {vs : List V}, RpAll K F (ns.map PyData.bool) vs → vs = ns.map V.bl
  | [], vs, h => by simpa only [RpAll, List.map_nil] using h
  | n :: ns, vs, h => by
    obtain ⟨x, xs, rfl, q, r⟩ := h.uncons
    rw [rp_bool q, rpAll_bools r]; rfl
/-- a list of intsOf, of boolsOf -/
def intsOf : List PyData → Option (List Int)
  | [] => some []
  | .int i :: ds => match intsOf ds with
    | some ns => some (i :: ns)
    | none => none
  | _ => none
def boolsOf : List PyData → Option (List Bool)
  | [] => some []
  | .bool i :: ds => match boolsOf ds with
    | some ns => some (i :: ns)
    | none => none
  | _ => none
@[simp] theorem ints_map (ns : List Int) : intsOf (ns.map PyData.int) = some ns := by
  induction ns with
  | nil => rfl
  | cons n ns ih => simp [intsOf, ih]
@[simp] theorem bools_map (ns : List Bool) : boolsOf (ns.map PyData.bool) = some ns := by
  induction ns with
  | nil => rfl
  | cons n ns ih => simp [boolsOf, ih]
theorem intsOf_eq : ∀ {ds : List PyData} {ns : List Int}, intsOf ds = some ns → ds = ns.map PyData.int
  | [], ns, h => by simp only [intsOf, Option.some.injEq] at h; subst h; rfl
  | .int i :: ds, ns, h => by
    simp only [intsOf] at h
    split at h
    · rename_i ms e
      cases h
      rw [intsOf_eq e]; rfl
    · cases h
  | .none :: _, _, h => by simp [intsOf] at h
  | .bool _ :: _, _, h => by simp [intsOf] at h
  | .str _ :: _, _, h => by simp [intsOf] at h
  | .list _ :: _, _, h => by simp [intsOf] at h
  | .tuple _ :: _, _, h => by simp [intsOf] at h
  | .dict _ :: _, _, h => by simp [intsOf] at h
theorem boolsOf_eq : ∀ {ds : List PyData} {ns : List Bool}, boolsOf ds = some ns → ds = ns.map PyData.bool
  | [], ns, h => by simp only [boolsOf, Option.some.injEq] at h; subst h; rfl
  | .bool i :: ds, ns, h => by
    simp only [boolsOf] at h
    split at h
    · rename_i ms e
      cases h
      rw [boolsOf_eq e]; rfl
    · cases h
  | .none :: _, _, h => by simp [boolsOf] at h
  | .int _ :: _, _, h => by simp [boolsOf] at h
  | .str _ :: _, _, h => by simp [boolsOf] at h
  | .list _ :: _, _, h => by simp [boolsOf] at h
  | .tuple _ :: _, _, h => by simp [boolsOf] at h
  | .dict _ :: _, _, h => by simp [boolsOf] at h

/-! ### len, abs, int, min, max, sum, any, all, list, tuple, sorted -/
def bLen : List PyData → Option T
  | [.list ds] => some (.sh (.int ds.length))
  | [.tuple ds] => some (.sh (.int ds.length))
  | _ => none
theorem bLen_ok : CallD X (.builtin "len") bLen := by
  intro pins s σ H xs us Q I r ⟨F, ds, t, fh, rq, eq, k⟩
  unfold bLen at eq
  split at eq
  · rename_i ds
    cases eq
    obtain ⟨v, rfl, r1⟩ := rq.one
    obtain ⟨a, xs, rfl, q, rp⟩ := rq_list fh r1
    exact call_len_seq pins s σ H _ us Q I r ⟨a, xs, rfl, .inl q, by rw [rp.len]; exact k.int fh⟩
  · rename_i ds
    cases eq
    obtain ⟨v, rfl, r1⟩ := rq.one
    obtain ⟨a, xs, rfl, q, rp⟩ := rq_tup r1
    exact call_len_seq pins s σ H _ us Q I r ⟨a, xs, rfl, .inr (sqT_mono fh q), by rw [rp.len]; exact k.int fh⟩
  · cases eq
def bAbs : List PyData → Option T
  | [.int i] => some (.sh (.int (if i < 0 then -i else i)))
  | _ => none
theorem bAbs_ok : CallD X (.builtin "abs") bAbs := by
  intro pins s σ H xs us Q I r ⟨F, ds, t, fh, rq, eq, k⟩
  unfold bAbs at eq
  split at eq
  · cases eq
    obtain ⟨v, rfl, r1⟩ := rq.one
    cases rq_int r1
    exact call_abs pins s σ H _ us Q I r ⟨_, rfl, k.int fh⟩
  · cases eq
def bInt : List PyData → Option T
  | [.int i] => some (.sh (.int i))
  | [.bool b] => some (.sh (.int (if b then 1 else 0)))
  | _ => none
theorem bInt_ok : CallD X (.type "int") bInt := by
  intro pins s σ H xs us Q I r ⟨F, ds, t, fh, rq, eq, k⟩
  unfold bInt at eq
  split at eq
  · cases eq
    obtain ⟨v, rfl, r1⟩ := rq.one
    cases rq_int r1
    exact call_int1 pins s σ H _ us Q I r (.inl ⟨_, rfl, k.int fh⟩)
  · cases eq
    obtain ⟨v, rfl, r1⟩ := rq.one
    cases rq_bool r1
    exact call_int1 pins s σ H _ us Q I r (.inr ⟨_, rfl, k.int fh⟩)
  · cases eq
/-- min, max of data -/
def alikeAll2 (ds : List PyData) : Bool := ds.all fun d => ds.all fun e => W.alike d e
def cmpAll (ds : List PyData) : Bool := alikeAll2 ds && ds.all (fun d => !isNone d) && SeqAt.shaped (.list ds) && decide (PyData.depthAll ds ≤ 60)
def minI : Int → List Int → Int := List.foldl fun a y => if y < a then y else a
def maxI : Int → List Int → Int := List.foldl fun a y => if a < y then y else a
def bMin : List PyData → Option T
  | [.int i, .int j] => some (.sh (.int (if j < i then j else i)))
  | [.list ds] => match intsOf ds with
    | some (n :: ns) => some (.sh (.int (minI n ns)))
    | some [] => none
    | none => match ds with
      | d :: ds => if cmpAll (d :: ds) then some (.sh (W.minD d ds)) else none
      | [] => none
  | [.tuple (d :: ds)] => if cmpAll (d :: ds) then some (.sh (W.minD d ds)) else none
  | _ => none
def bMax : List PyData → Option T
  | [.int i, .int j] => some (.sh (.int (if j > i then j else i)))
  | [.list ds] => match intsOf ds with
    | some (n :: ns) => some (.sh (.int (maxI n ns)))
    | some [] => none
    | none => match ds with
      | d :: ds => if cmpAll (d :: ds) then some (.sh (W.maxD d ds)) else none
      | [] => none
  | [.tuple (d :: ds)] => if cmpAll (d :: ds) then some (.sh (W.maxD d ds)) else none
  | _ => none
theorem minI_spec : ∀ (ns : List Int) (n : Int), minI n ns ∈ n :: ns ∧ ∀ y ∈ n :: ns, minI n ns ≤ y
  | [], n => by simp [minI]
  | m :: ns, n => by
    have ih := minI_spec ns (if m < n then m else n)
    have e : minI n (m :: ns) = minI (if m < n then m else n) ns := rfl
    rw [e]
    refine ⟨?_, fun y hy => ?_⟩
    · rcases List.mem_cons.mp ih.1 with h | h
      · rw [h]; split <;> simp
      · simp [h]
    · have h0 := ih.2 (if m < n then m else n) (by simp)
      have h1 := ih.2
      generalize minI (if m < n then m else n) ns = z at h0 h1 ⊢
      rcases List.mem_cons.mp hy with rfl | hy
      · split at h0 <;> omega
      · rcases List.mem_cons.mp hy with rfl | hy
        · split at h0 <;> omega
        · exact h1 y (by simp [hy])
theorem maxI_spec : ∀ (ns : List Int) (n : Int), maxI n ns ∈ n :: ns ∧ ∀ y ∈ n :: ns, y ≤ maxI n ns
  | [], n => by simp [maxI]
  | m :: ns, n => by
    have ih := maxI_spec ns (if n < m then m else n)
    have e : maxI n (m :: ns) = maxI (if n < m then m else n) ns := rfl
    rw [e]
    refine ⟨?_, fun y hy => ?_⟩
    · rcases List.mem_cons.mp ih.1 with h | h
      · rw [h]; split <;> simp
      · simp [h]
    · have h0 := ih.2 (if n < m then m else n) (by simp)
      have h1 := ih.2
      generalize maxI (if n < m then m else n) ns = z at h0 h1 ⊢
      rcases List.mem_cons.mp hy with rfl | hy
      · split at h0 <;> omega
      · rcases List.mem_cons.mp hy with rfl | hy
        · split at h0 <;> omega
        · exact h1 y (by simp [hy])
theorem all2_alike {ds : List PyData} (h : cmpAll ds = true) : W.AlikeAll ds ∧ SeqAt.shaped (.list ds) = true ∧ PyData.depthAll ds ≤ 60 := by
  unfold cmpAll alikeAll2 at h
  simp only [Bool.and_eq_true, List.all_eq_true, decide_eq_true_eq, Bool.not_eq_true'] at h
  exact ⟨⟨h.1.1.1, fun x hx => isNone_ne (h.1.1.2 x hx)⟩, h.1.2, h.2⟩
/-- a value of a list found by its place and its reading -/
theorem found_rp {pins : List (Addr × Obj)} {σ : St} {F H : Hp} {s : Shared} {ds : List PyData} {xs : List V} {its : List Value} {i : Nat} {u : Value} {h' : Heap} {m : PyData} {bs : List Addr} (I : Inv X pins σ H s) (fh : Same F H) (rp : RpAll X.K F ds xs) (rv : Vals xs its)
    (hi : its[i]? = some u) (kp : ∀ b o, s.heap.get? b = some o → h'.get? b = some o) (r : Reads h' u m bs) (hs : SeqAt.shaped (.list ds) = true) : ∃ v, RelV v u ∧ Rp X.K F m v := by
  have hil : i < its.length := (List.getElem?_eq_some_iff.mp hi).1
  have l1 := rv.length
  obtain ⟨x, hx⟩ : ∃ x, xs[i]? = some x := ⟨xs[i]'(by omega), by simp [l1, hil]⟩
  obtain ⟨u', hu', rx⟩ := rv.get hx
  rw [hi] at hu'; cases hu'
  obtain ⟨d, hd, rd⟩ := rp.get' hx
  have hcl : PyData.canLayAll0 ds = true := SeqAt.canLay_of_shaped hs
  have hc : d.canLay0 = true := by
    have all : ∀ (l : List PyData), PyData.canLayAll0 l = true → ∀ d ∈ l, d.canLay0 = true := by
      intro l
      induction l with
      | nil => intro _ d hd; cases hd
      | cons y l ih =>
        intro h d hd
        simp only [PyData.canLayAll0, Bool.and_eq_true] at h
        rcases List.mem_cons.mp hd with rfl | hd
        · exact h.1
        · exact ih h.2 d hd
    exact all ds hcl d (List.mem_of_getElem? hd)
  obtain ⟨as, ra⟩ := Dp.reads I d x u ((rd.mono fh).dp hc) rx
  refine ⟨x, rx, ?_⟩
  rw [← SeqAt.Reads.unique d m u _ _ hc (PyProof.Rows.Reads.keeps kp ra) r]
  exact rd
theorem bMin_ok (g : Good X) : CallD X (.builtin "min") bMin := by
  intro pins s σ H xs us Q I r ⟨F, ds, t, fh, rq, eq, k⟩
  have hroom := g.room
  unfold bMin at eq
  split at eq
  · cases eq
    obtain ⟨v, w, rfl, r1, r2⟩ := rq.two
    cases rq_int r1
    cases rq_int r2
    exact call_min2 g.calm pins s σ H _ us Q I r ⟨_, _, rfl, k.int fh⟩
  · rename_i ds
    obtain ⟨v, rfl, r1⟩ := rq.one
    obtain ⟨a, xs, rfl, q, rp⟩ := rq_list fh r1
    split at eq
    · rename_i n ns e
      cases eq
      have e2 := intsOf_eq e
      subst e2
      have e3 := rpAll_ints rp
      subst e3
      refine cr_min g.calm pins s σ H _ us Q I r ⟨a, n :: ns, rfl, q, by simp, fun m hm hle => ?_⟩
      have sp := minI_spec ns n
      have h1 := hle _ sp.1
      have h2 := sp.2 _ hm
      have : m = minI n ns := by omega
      rw [this]
      exact k.int fh
    · cases eq
    · split at eq
      · rename_i d ds _
        split at eq
        · rename_i hc
          cases eq
          obtain ⟨ha, hs, hd⟩ := all2_alike hc
          obtain ⟨its, rv, ⟨o, n, e, hoc, _, hod⟩, _⟩ := I.list q
          obtain ⟨as, ra⟩ := Dp.readsAll I (d :: ds) xs its ((rp.mono fh).dp (SeqAt.canLay_of_shaped hs)) rv
          obtain ⟨u, rfl, ru⟩ := vals1 r
          cases ru
          refine PySem.W.min_list_data (vs := its.toArray) (I.ok.hd g.calm) ⟨o, e, hoc, n, hod⟩ ra ha (by omega) fun i v h' tk bs hi hr kp => ?_
          obtain ⟨x, rx, rd⟩ := found_rp I fh rp rv (by simpa using hi) kp hr hs
          exact ⟨x, H, I.kept kp, rx, k.sh fh rd⟩
        · cases eq
      · cases eq
  · rename_i d ds
    split at eq
    · rename_i hc
      cases eq
      obtain ⟨ha, hs, hd⟩ := all2_alike hc
      obtain ⟨v, rfl, r1⟩ := rq.one
      obtain ⟨a, xs, rfl, q, rp⟩ := rq_tup r1
      obtain ⟨its, rv, ⟨o, e, hoc, n, hod⟩, _⟩ := I.tuple (sqT_mono fh q)
      obtain ⟨as, ra⟩ := Dp.readsAll I (d :: ds) xs its ((rp.mono fh).dp (SeqAt.canLay_of_shaped hs)) rv
      obtain ⟨u, rfl, ru⟩ := vals1 r
      cases ru
      refine PySem.W.min_tuple_data (vs := its.toArray) (I.ok.hd g.calm) ⟨o, e, hoc, n, hod⟩ ra ha (by omega) fun i v h' tk bs hi hr kp => ?_
      obtain ⟨x, rx, rd⟩ := found_rp I fh rp rv (by simpa using hi) kp hr hs
      exact ⟨x, H, I.kept kp, rx, k.sh fh rd⟩
    · cases eq
  · cases eq
theorem bMax_ok (g : Good X) : CallD X (.builtin "max") bMax := by
  intro pins s σ H xs us Q I r ⟨F, ds, t, fh, rq, eq, k⟩
  have hroom := g.room
  unfold bMax at eq
  split at eq
  · cases eq
    obtain ⟨v, w, rfl, r1, r2⟩ := rq.two
    cases rq_int r1
    cases rq_int r2
    exact call_max2 g.calm pins s σ H _ us Q I r ⟨_, _, rfl, k.int fh⟩
  · rename_i ds
    obtain ⟨v, rfl, r1⟩ := rq.one
    obtain ⟨a, xs, rfl, q, rp⟩ := rq_list fh r1
    split at eq
    · rename_i n ns e
      cases eq
      have e2 := intsOf_eq e
      subst e2
      have e3 := rpAll_ints rp
      subst e3
      refine cr_max g.calm pins s σ H _ us Q I r ⟨a, n :: ns, rfl, q, by simp, fun m hm hle => ?_⟩
      have sp := maxI_spec ns n
      have h1 := hle _ sp.1
      have h2 := sp.2 _ hm
      have : m = maxI n ns := by omega
      rw [this]
      exact k.int fh
    · cases eq
    · split at eq
      · rename_i d ds _
        split at eq
        · rename_i hc
          cases eq
          obtain ⟨ha, hs, hd⟩ := all2_alike hc
          obtain ⟨its, rv, ⟨o, n, e, hoc, _, hod⟩, _⟩ := I.list q
          obtain ⟨as, ra⟩ := Dp.readsAll I (d :: ds) xs its ((rp.mono fh).dp (SeqAt.canLay_of_shaped hs)) rv
          obtain ⟨u, rfl, ru⟩ := vals1 r
          cases ru
          refine PySem.W.max_list_data (vs := its.toArray) (I.ok.hd g.calm) ⟨o, e, hoc, n, hod⟩ ra ha (by omega) fun i v h' tk bs hi hr kp => ?_
          obtain ⟨x, rx, rd⟩ := found_rp I fh rp rv (by simpa using hi) kp hr hs
          exact ⟨x, H, I.kept kp, rx, k.sh fh rd⟩
        · cases eq
      · cases eq
  · rename_i d ds
    split at eq
    · rename_i hc
      cases eq
      obtain ⟨ha, hs, hd⟩ := all2_alike hc
      obtain ⟨v, rfl, r1⟩ := rq.one
      obtain ⟨a, xs, rfl, q, rp⟩ := rq_tup r1
      obtain ⟨its, rv, ⟨o, e, hoc, n, hod⟩, _⟩ := I.tuple (sqT_mono fh q)
      obtain ⟨as, ra⟩ := Dp.readsAll I (d :: ds) xs its ((rp.mono fh).dp (SeqAt.canLay_of_shaped hs)) rv
      obtain ⟨u, rfl, ru⟩ := vals1 r
      cases ru
      refine PySem.W.max_tuple_data (vs := its.toArray) (I.ok.hd g.calm) ⟨o, e, hoc, n, hod⟩ ra ha (by omega) fun i v h' tk bs hi hr kp => ?_
      obtain ⟨x, rx, rd⟩ := found_rp I fh rp rv (by simpa using hi) kp hr hs
      exact ⟨x, H, I.kept kp, rx, k.sh fh rd⟩
    · cases eq
  · cases eq
def bSum : List PyData → Option T
  | [.list ds] => match intsOf ds with
    | some ns => some (.sh (.int ns.sum))
    | none => none
  | _ => none
theorem bSum_ok (g : Good X) : CallD X (.builtin "sum") bSum := by
  intro pins s σ H xs us Q I r ⟨F, ds, t, fh, rq, eq, k⟩
  unfold bSum at eq
  split at eq
  · rename_i ds
    obtain ⟨v, rfl, r1⟩ := rq.one
    obtain ⟨a, xs, rfl, q, rp⟩ := rq_list fh r1
    split at eq
    · rename_i ns e
      cases eq
      have e2 := intsOf_eq e
      subst e2
      have e3 := rpAll_ints rp
      subst e3
      exact cr_sum g.calm pins s σ H _ us Q I r ⟨a, ns, rfl, q, k.int fh⟩
    · cases eq
  · cases eq
def bAny : List PyData → Option T
  | [.list ds] => match boolsOf ds with
    | some ns => some (.sh (.bool (ns.any id)))
    | none => none
  | _ => none
def bAll : List PyData → Option T
  | [.list ds] => match boolsOf ds with
    | some ns => some (.sh (.bool (ns.all id)))
    | none => none
  | _ => none
theorem bAny_ok (g : Good X) : CallD X (.builtin "any") bAny := by
  intro pins s σ H xs us Q I r ⟨F, ds, t, fh, rq, eq, k⟩
  unfold bAny at eq
  split at eq
  · rename_i ds
    obtain ⟨v, rfl, r1⟩ := rq.one
    obtain ⟨a, xs, rfl, q, rp⟩ := rq_list fh r1
    split at eq
    · rename_i ns e
      cases eq
      have e2 := boolsOf_eq e
      subst e2
      have e3 := rpAll_bools rp
      subst e3
      exact cr_any g.calm pins s σ H _ us Q I r ⟨a, ns, rfl, q, k.bool fh⟩
    · cases eq
  · cases eq
theorem bAll_ok (g : Good X) : CallD X (.builtin "all") bAll := by
  intro pins s σ H xs us Q I r ⟨F, ds, t, fh, rq, eq, k⟩
  unfold bAll at eq
  split at eq
  · rename_i ds
    obtain ⟨v, rfl, r1⟩ := rq.one
    obtain ⟨a, xs, rfl, q, rp⟩ := rq_list fh r1
    split at eq
    · rename_i ns e
      cases eq
      have e2 := boolsOf_eq e
      subst e2
      have e3 := rpAll_bools rp
      subst e3
      exact cr_all g.calm pins s σ H _ us Q I r ⟨a, ns, rfl, q, k.bool fh⟩
    · cases eq
  · cases eq
def bList : List PyData → Option T
  | [.list ds] => some (.lst (ds.map T.sh))
  | [.tuple ds] => some (.lst (ds.map T.sh))
  | _ => none
theorem bList_ok : CallD X (.type "list") bList := by
  intro pins s σ H xs us Q I r ⟨F, ds, t, fh, rq, eq, k⟩
  unfold bList at eq
  split at eq
  · rename_i ds
    cases eq
    obtain ⟨v, rfl, r1⟩ := rq.one
    obtain ⟨a, xs, rfl, q, rp⟩ := rq_list fh r1
    exact call_list_of pins s σ H _ us Q I r ⟨a, xs, rfl, .inl q, k.lstQ fh rp⟩
  · rename_i ds
    cases eq
    obtain ⟨v, rfl, r1⟩ := rq.one
    obtain ⟨a, xs, rfl, q, rp⟩ := rq_tup r1
    exact call_list_of pins s σ H _ us Q I r ⟨a, xs, rfl, .inr (sqT_mono fh q), k.lstQ fh rp⟩
  · cases eq
def bTuple : List PyData → Option T
  | [.list ds] => some (.sh (.tuple ds))
  | [.tuple ds] => some (.sh (.tuple ds))
  | _ => none
theorem bTuple_ok : CallD X (.type "tuple") bTuple := by
  intro pins s σ H xs us Q I r ⟨F, ds, t, fh, rq, eq, k⟩
  unfold bTuple at eq
  split at eq
  · rename_i ds
    cases eq
    obtain ⟨v, rfl, r1⟩ := rq.one
    obtain ⟨a, xs, rfl, q, rp⟩ := rq_list fh r1
    exact call_tuple_of pins s σ H _ us Q I r ⟨a, xs, rfl, .inl ⟨q, k.tupQ fh rp⟩⟩
  · rename_i ds
    cases eq
    obtain ⟨v, rfl, r1⟩ := rq.one
    obtain ⟨a, xs, rfl, q, rp⟩ := rq_tup r1
    exact call_tuple_of pins s σ H _ us Q I r ⟨a, xs, rfl, .inr ⟨sqT_mono fh q, k.sh fh (by simp only [Rp]; exact ⟨a, xs, rfl, q, rp⟩)⟩⟩
  · cases eq
/-- sorted -/
def isTup1 : PyData → Bool
  | .tuple (_ :: _) => true
  | _ => false
def isTupA : PyData → Bool
  | .tuple _ => true
  | _ => false
def sortable (ds : List PyData) : Bool := alikeAll2 ds && (ds.all fun d => !isNone d) && decide (PyData.depthAll ds ≤ 60) && PyData.canLayAll0 ds
/-! ### sorting, by insertion (the same list as the stable merge) -/
mutual
theorem eqv_eq : ∀ {x y : PyData}, W.alike x y = true → PyData.eqv x y = true → x = y
  | .none, y, h, e => by cases y <;> simp_all [W.alike, PyData.eqv]
  | .bool a, y, h, e => by cases y <;> simp_all [W.alike, PyData.eqv]
  | .int a, y, h, e => by cases y <;> simp_all [W.alike, PyData.eqv]
  | .str a, y, h, e => by cases y <;> simp_all [W.alike, PyData.eqv]
  | .list a, y, h, e => by
    cases y <;> simp [W.alike, PyData.eqv] at h e
    rw [eqvAll_eq h e]
  | .tuple a, y, h, e => by
    cases y <;> simp [W.alike, PyData.eqv] at h e
    rw [eqvAll_eq h e]
  | .dict a, y, h, e => by cases y <;> simp [W.alike] at h
theorem eqvAll_eq : ∀ {x y : List PyData}, W.alikeAll x y = true → PyData.eqvAll x y = true → x = y
  | [], y, h, e => by cases y <;> simp_all [PyData.eqvAll]
  | a :: as, y, h, e => by
    cases y with
    | nil => simp [PyData.eqvAll] at e
    | cons b bs =>
      simp [W.alikeAll, PyData.eqvAll] at h e
      rw [eqv_eq h.1 e.1, eqvAll_eq h.2 e.2]
end
theorem toks_inj {x y : PyData} (h : W.alike x y = true) (e : W.keyToks x = W.keyToks y) : x = y := by
  cases e1 : PyData.eqv x y with
  | true => exact eqv_eq h e1
  | false =>
    have := (W.toks_eqv x y h).2 e1 [] [.inl 0]
    rw [e, List.append_nil] at this
    have h2 := W.lex_pre (W.keyToks y) [] [.inl 0]
    rw [List.append_nil] at h2
    rw [h2] at this
    have h3 : PyProof.Rows.lexLt PyProof.Rows.itemOrd (W.keyToks y) (W.keyToks y) = false := PyProof.Rows.lex_irrefl _
    rw [h3] at this
    cases this
abbrev leD : PyData → PyData → Bool := W.dataLe false id
theorem leD_total (a b : PyData) : (leD a b || leD b a) = true := Bool.or_eq_true_iff.mpr ((W.sortLe_total (PyProof.Rows.listOrd PyProof.Rows.itemOrd) false fun b => W.keyToks (id b)).total a b)
theorem leD_trans (a b c : PyData) : leD a b = true → leD b c = true → leD a c = true := (W.sortLe_total (PyProof.Rows.listOrd PyProof.Rows.itemOrd) false fun b => W.keyToks (id b)).trans a b c
theorem leD_anti {a b : PyData} (h : W.alike a b = true) (h1 : leD a b = true) (h2 : leD b a = true) : a = b := by
  have h1' : (!PyProof.Rows.lexLt PyProof.Rows.itemOrd (W.keyToks b) (W.keyToks a)) = true := h1
  have h2' : (!PyProof.Rows.lexLt PyProof.Rows.itemOrd (W.keyToks a) (W.keyToks b)) = true := h2
  rw [Bool.not_eq_true'] at h1' h2'
  exact toks_inj h (PyProof.Rows.lex_total _ _ h2' h1')
def insD (x : PyData) : List PyData → List PyData
  | [] => [x]
  | y :: r => if W.dataLt y x then y :: insD x r else x :: y :: r
def sortD : List PyData → List PyData
  | [] => []
  | x :: r => insD x (sortD r)
theorem insD_perm (x : PyData) : ∀ l : List PyData, (insD x l).Perm (x :: l)
  | [] => .refl _
  | y :: r => by
    unfold insD
    split
    · exact ((insD_perm x r).cons y).trans (.swap x y r)
    · exact .refl _
theorem sortD_perm : ∀ l : List PyData, (sortD l).Perm l
  | [] => .refl _
  | x :: r => (insD_perm x _).trans ((sortD_perm r).cons x)
theorem leD_def (a b : PyData) : leD a b = !W.dataLt b a := rfl
theorem insD_sorted (x : PyData) : ∀ {l : List PyData}, l.Pairwise (fun a b => leD a b = true) → (insD x l).Pairwise (fun a b => leD a b = true)
  | [], _ => by simp [insD]
  | y :: r, h => by
    rw [List.pairwise_cons] at h
    unfold insD
    split
    · rename_i e
      rw [List.pairwise_cons]
      refine ⟨fun z hz => ?_, insD_sorted x h.2⟩
      rcases List.mem_cons.mp ((insD_perm x r).mem_iff.mp hz) with rfl | hz
      · have := leD_total y z
        have e2 : leD z y = false := by rw [leD_def, e]; rfl
        rw [e2, Bool.or_false] at this
        exact this
      · exact h.1 z hz
    · rename_i e
      have e2 : leD x y = true := by rw [leD_def, Bool.eq_false_iff.mpr e]; rfl
      rw [List.pairwise_cons, List.pairwise_cons]
      refine ⟨fun z hz => ?_, h.1, h.2⟩
      rcases List.mem_cons.mp hz with rfl | hz
      · exact e2
      · exact leD_trans _ _ _ e2 (h.1 z hz)
theorem sortD_sorted : ∀ l : List PyData, (sortD l).Pairwise (fun a b => leD a b = true)
  | [] => by simp [sortD]
  | x :: r => insD_sorted x (sortD_sorted r)
theorem sort_unique {l s : List PyData} (ha : ∀ a ∈ l, ∀ b ∈ l, W.alike a b = true) (hp : s.Perm l) (hs : s.Pairwise (fun a b => leD a b = true)) {s' : List PyData} (hp' : s'.Perm l) (hs' : s'.Pairwise (fun a b => leD a b = true)) : s = s' :=
  List.Perm.eq_of_pairwise (le := fun a b => leD a b = true) (fun a b h1 h2 => leD_anti (ha a (hp.mem_iff.mp h1) b (hp'.mem_iff.mp h2))) hs hs' (hp.trans hp'.symm)
theorem merge_sortD {l : List PyData} (ha : ∀ a ∈ l, ∀ b ∈ l, W.alike a b = true) : l.mergeSort (W.dataLe false id) = sortD l :=
  sort_unique ha (List.mergeSort_perm _ _) (List.pairwise_mergeSort leD_trans leD_total l) (sortD_perm l) (sortD_sorted l)
theorem alike2_mem {l : List PyData} (h : alikeAll2 l = true) : ∀ a ∈ l, ∀ b ∈ l, W.alike a b = true := fun a ha b hb => List.all_eq_true.mp (List.all_eq_true.mp h a ha) b hb
/-- the keys of a dict, whole numbers -/
def intKs : List (PyData × PyData) → Option (List Int)
  | [] => some []
  | (.int i, _) :: kvs => (intKs kvs).map fun is => i :: is
  | _ => none
theorem intKs_noTd : ∀ {kvs : List (PyData × PyData)} {is : List Int}, intKs kvs = some is → noTd (.dict kvs) = true
  | [], _, _ => rfl
  | (d, _) :: _, _, h => by cases d <;> first | rfl | cases h
theorem intKs_keys {K : PySem.W.Frag} {F : Hp} : ∀ {kvs : List (PyData × PyData)} {ks : List (Key × V)} {is : List Int}, RpKv K F kvs ks → intKs kvs = some is → ks.map (·.1) = is.map Sum.inl
  | [], ks, is, h, e => by
    simp only [RpKv] at h
    subst h
    cases e
    rfl
  | (d, x) :: kvs, ks, is, h, e => by
    simp only [RpKv] at h
    obtain ⟨q, y, qs, rfl, rfl, r, t⟩ := h
    cases q with
    | inr z => cases e
    | inl i =>
      have e : (intKs kvs).map (fun is => i :: is) = some is := e
      obtain ⟨js, e1, rfl⟩ := Option.map_eq_some_iff.mp e
      rw [List.map_cons, List.map_cons, intKs_keys t e1]
theorem sortD_ints {ys ks : List Int} (hp : ys.Perm ks) (hs : ys.Pairwise (· ≤ ·)) : sortD (ks.map PyData.int) = ys.map PyData.int := by
  refine sort_unique (l := ks.map PyData.int) (fun a ha b hb => ?_) (sortD_perm _) (sortD_sorted _) (hp.map _) ?_
  · obtain ⟨i, _, rfl⟩ := List.mem_map.mp ha
    obtain ⟨j, _, rfl⟩ := List.mem_map.mp hb
    rfl
  · rw [List.pairwise_map]
    refine hs.imp fun {a b} h => ?_
    rw [leD_def]
    have : W.dataLt (.int b) (.int a) = decide (b < a) := W.dataLt_int ..
    rw [this, decide_eq_false (by omega)]
    rfl
theorem rpAll_intsOf {K : PySem.W.Frag} {F : Hp} : ∀ ys : List Int, RpAll K F (ys.map PyData.int) (ys.map V.int)
  | [] => RpAll.nil
  | y :: ys => RpAll.consI (by simp only [Rp]) (rpAll_intsOf ys)
def bSorted : List PyData → Option T
  | [.dict kvs] => (intKs kvs).bind fun is => if is.length < 64 then some (.lst ((sortD (is.map PyData.int)).map T.sh)) else none
  | [.list ds] => if sortable ds then some (.lst ((sortD ds).map T.sh)) else none
  | [.tuple ds] => if sortable ds then some (.lst ((sortD ds).map T.sh)) else none
  | _ => none
theorem sortable_ok {ds : List PyData} (h : sortable ds = true) : W.AllAlike (ds.map id) ∧ W.PvSortable (ds.map id) ∧ PyData.depthAll ds ≤ 60 := by
  unfold sortable alikeAll2 at h
  simp only [Bool.and_eq_true, List.all_eq_true, decide_eq_true_eq, Bool.not_eq_true'] at h
  rw [List.map_id]
  refine ⟨fun d hd e he => h.1.1.1 d hd e he, ?_, h.1.2⟩
  by_cases ht : ∀ d ∈ ds, ∃ xs, d = .tuple xs
  · exact .inl ht
  · refine .inr (.inr fun d hd => ⟨isNone_ne (h.1.1.2 d hd), fun xs e => ht fun d' hd' => ?_⟩)
    have := h.1.1.1 d hd d' hd'
    rw [e] at this
    cases d' <;> first | exact ⟨_, rfl⟩ | (simp [W.alike] at this)
theorem sortable_lay {ds : List PyData} (h : sortable ds = true) : PyData.canLayAll0 ds = true := (Bool.and_eq_true_iff.mp h).2
theorem sortable_alike {ds : List PyData} (h : sortable ds = true) : alikeAll2 ds = true := by
  unfold sortable at h
  simp only [Bool.and_eq_true] at h
  exact h.1.1.1
theorem depth_mem : ∀ {ds : List PyData} {d : PyData}, d ∈ ds → d.depth ≤ PyData.depthAll ds
  | x :: xs, d, h => by
    simp only [PyData.depthAll]
    rcases List.mem_cons.mp h with rfl | h
    · exact Nat.le_max_left _ _
    · exact Nat.le_trans (depth_mem h) (Nat.le_max_right _ _)
theorem eachIs_of {F : Hp} {K : PySem.W.Frag} : ∀ {ds : List PyData} {xs : List V} {its : List Value}, RpAll K F ds xs → Vals xs its → W.EachIs (fun u d => ∃ x, RelV x u ∧ Rp K F d x) its ds
  | [], _, _, h, r => by
    simp only [RpAll] at h
    subst h
    cases r
    exact .nil
  | d :: ds, _, _, h, r => by
    obtain ⟨x, xs, rfl, q, t⟩ := h.uncons
    cases r with
    | cons r1 r2 => exact .cons ⟨x, r1, q⟩ (eachIs_of t r2)
theorem eachIs_to {F : Hp} {K : PySem.W.Frag} : ∀ {ds : List PyData} {its : List Value}, W.EachIs (fun u d => ∃ x, RelV x u ∧ Rp K F d x) its ds → ∃ xs, RpAll K F ds xs ∧ Vals xs its
  | _, _, .nil => ⟨[], .nil, .nil⟩
  | _, _, .cons ⟨x, r1, q⟩ t => by
    obtain ⟨xs, h1, h2⟩ := eachIs_to t
    exact ⟨x :: xs, .consI q h1, .cons r1 h2⟩
theorem bSorted_ok (g : Good X) : CallD X (.builtin "sorted") bSorted := by
  intro pins s σ H xs us Q I r ⟨F, ds, t, fh, rq, eq, k⟩
  have hroom := g.room
  unfold bSorted at eq
  split at eq
  · rename_i kvs
    obtain ⟨v, rfl, r1⟩ := rq.one
    cases hi : intKs kvs with
    | none => rw [hi] at eq; cases eq
    | some is =>
      obtain ⟨a, ks, rfl, q, rp⟩ := rq_dict fh r1 (intKs_noTd hi)
      rw [hi] at eq
      have eq : (if is.length < 64 then some (T.lst ((sortD (is.map PyData.int)).map T.sh)) else none) = some t := eq
      split at eq
      · rename_i h64
        cases eq
        refine call_sortedDI g.calm pins s σ H _ us Q I r ⟨a, ks, is, rfl, .inl q, intKs_keys rp hi, h64, fun ys p hp hs hn => ?_⟩
        rw [sortD_ints hp hs] at k
        exact k.lstQ fh (rpAll_intsOf ys) _ hn
      · cases eq
  · rename_i ds
    obtain ⟨v, rfl, r1⟩ := rq.one
    obtain ⟨a, xs, rfl, q, rp⟩ := rq_list fh r1
    split at eq
    · rename_i hs
      cases eq
      have hsrt := merge_sortD (alike2_mem (sortable_alike hs))
      obtain ⟨h1, h2, h3⟩ := sortable_ok hs
      obtain ⟨its, rv, ⟨o, n, e, hoc, _, hod⟩, hz⟩ := I.list q
      obtain ⟨as, ra⟩ := Dp.readsAll I ds xs its ((rp.mono fh).dp (sortable_lay hs)) rv
      obtain ⟨u, rfl, ru⟩ := vals1 r
      cases ru
      have hl := rp.len
      refine PySem.W.pv_sorted_data (vs := its) (bs := ds) (enc := id) (R := fun u d => ∃ x, RelV x u ∧ Rp X.K F d x) ⟨o, e, hoc, n, hod⟩ (eachIs_of rp rv) (W.readsAll_each id (by rw [List.map_id]; exact ra)) h1 h2 (by omega) (fun b hb => ?_) fun out ho eo => ?_
      · have := depth_mem hb
        show X.A.units + 2 + b.depth < cLine
        omega
      · obtain ⟨ys, p1, p2⟩ := eachIs_to eo
        rw [hsrt] at p1
        obtain ⟨c, hc⟩ := PyProof.Rows.sortedAll_at s.heap its (List.toArray out)
        have hfree : H (s.heap.objs.size + 1) = none := I.hok.fresh (Nat.le_succ _)
        refine ⟨.ref (s.heap.objs.size + 1), upd H (s.heap.objs.size + 1) (.lst ys), I.laid (t' := s.toks) (fun b o => PyProof.Rows.sortedAll_old) (Nat.le_succ _) ⟨?_, out, c, p2, hc⟩, rfl, k.lstQ fh p1 _ hfree⟩
        have := p2.length
        omega
    · cases eq
  · rename_i ds
    obtain ⟨v, rfl, r1⟩ := rq.one
    obtain ⟨a, xs, rfl, q, rp⟩ := rq_tup r1
    have q := sqT_mono fh q
    split at eq
    · rename_i hs
      cases eq
      have hsrt := merge_sortD (alike2_mem (sortable_alike hs))
      obtain ⟨h1, h2, h3⟩ := sortable_ok hs
      obtain ⟨its, rv, ⟨o, e, hoc, n, hod⟩, hz⟩ := I.tuple q
      obtain ⟨as, ra⟩ := Dp.readsAll I ds xs its ((rp.mono fh).dp (sortable_lay hs)) rv
      obtain ⟨u, rfl, ru⟩ := vals1 r
      cases ru
      have hl := rp.len
      refine PySem.W.sorted_tup_data (vs := its) (bs := ds) (enc := id) (R := fun u d => ∃ x, RelV x u ∧ Rp X.K F d x) e hoc hod (eachIs_of rp rv) (W.readsAll_each id (by rw [List.map_id]; exact ra)) h1 h2 (by omega) (fun b hb => ?_) fun out g1 c g2 ho eo k1 k2 hc => ?_
      · have := depth_mem hb
        show X.A.units + 2 + b.depth < cLine
        omega
      · obtain ⟨ys, p1, p2⟩ := eachIs_to eo
        rw [hsrt] at p1
        have I1 := I.kept (t' := s.toks) k1
        have hfree : H g1.objs.size = none := I1.hok.fresh (Nat.le_refl _)
        refine ⟨.ref g1.objs.size, upd H g1.objs.size (.lst ys), I1.laid (t' := s.toks) k2 (Nat.le_refl _) ⟨?_, out, c, p2, hc⟩, rfl, k.lstQ fh p1 _ hfree⟩
        have := p2.length
        omega
    · cases eq
  · cases eq
end Pv
set_option Elab.async false
set_option linter.all false
set_option maxRecDepth 100000
set_option maxHeartbeats 4000000
/-! dicts whose keys are tuples of ints: what they hold, d[k] -/
namespace Pv
open PySem L2
def keyI : PyData → Option (List Int)
  | .tuple ks => intsOf ks
  | _ => none
def tdGet : List (PyData × PyData) → List Int → Option PyData
  | [], _ => none
  | (k, d) :: kvs, ks => if keyI k = some ks then some d else tdGet kvs ks
def keyQ : PyData → Option Key
  | .int i => some (.inl i)
  | .str x => some (.inr x)
  | _ => none
def kGet : List (PyData × PyData) → Key → Option PyData
  | [], _ => none
  | (k, d) :: kvs, q => if keyQ k = some q then some d else kGet kvs q
theorem intsOf_ints : ∀ ns : List Int, intsOf (ns.map PyData.int) = some ns
  | [] => rfl
  | n :: ns => by
    show (match intsOf (ns.map PyData.int) with | some ns => some (n :: ns) | none => none) = _
    rw [intsOf_ints ns]
theorem keyQ_keyD (q : Key) : keyQ (keyD q) = some q := by cases q <;> rfl
/-- the entries as the library's rules tell them -/
def TdE.t (e : TdE) : List Int × Addr × Value := (e.k, e.a, e.v)
theorem ent_eq {P : Program} {w : World} (e : TdE) : entryOfKey (tupleKind (intKind P w)) e.t = e.ent := rfl
theorem td_get {K : PySem.W.Frag} {F : Hp} {ks : List Int} {d : PyData} : ∀ {kvs : List (PyData × PyData)} {es : List TdE}, RpTd K F kvs es → tdGet kvs ks = some d →
    ∃ e ∈ es, atKey (es.map TdE.t) ks = some (e.a, e.v) ∧ L2.RelV e.x e.v ∧ Rp K F d e.x
  | [], _, _, h => by cases h
  | (k, d') :: kvs, es, r, h => by
    simp only [RpTd] at r
    obtain ⟨e, es', rfl, rfl, hs, hv, hd, t⟩ := r
    unfold tdGet at h
    have hk : keyI (.tuple (e.k.map PyData.int)) = some e.k := intsOf_ints e.k
    rw [hk] at h
    by_cases c : e.k = ks
    · rw [if_pos (by rw [c])] at h
      cases h
      refine ⟨e, by simp, ?_, hv, hd⟩
      unfold atKey TdE.t
      simp [c]
    · rw [if_neg (fun x => c (Option.some.inj x))] at h
      obtain ⟨e2, h1, h2, h3, h4⟩ := td_get t h
      refine ⟨e2, by simp [h1], ?_, h3, h4⟩
      unfold atKey at h2 ⊢
      rw [List.map_cons, List.find?_cons]
      have : decide (e.t.1 = ks) = false := decide_eq_false c
      rw [this]
      exact h2
theorem kv_get {K : PySem.W.Frag} {F : Hp} {q : Key} {d : PyData} : ∀ {kvs : List (PyData × PyData)} {es : List (Key × V)}, RpKv K F kvs es → kGet kvs q = some d → ∃ x, valV es q = some x ∧ Rp K F d x
  | [], _, _, h => by cases h
  | (k, d') :: kvs, es, r, h => by
    simp only [RpKv] at r
    obtain ⟨p, x, es', rfl, rfl, hd, t⟩ := r
    unfold kGet at h
    rw [keyQ_keyD] at h
    by_cases c : p = q
    · rw [if_pos (by rw [c])] at h
      cases h
      refine ⟨x, ?_, hd⟩
      unfold valV
      simp [c]
    · rw [if_neg (fun x => c (Option.some.inj x))] at h
      obtain ⟨y, h1, h2⟩ := kv_get t h
      refine ⟨y, ?_, h2⟩
      unfold valV at h1 ⊢
      rw [List.find?_cons]
      have : decide (p = q) = false := decide_eq_false c
      rw [this]
      exact h1
theorem keyI_tup {d : PyData} {is : List Int} (h : keyI d = some is) : ∃ ks, d = .tuple ks ∧ intsOf ks = some is := by
  cases d <;> first | exact ⟨_, rfl, h⟩ | cases h
theorem noTd_not {kvs : List (PyData × PyData)} (h : ¬ noTd (.dict kvs) = true) : ∃ k d kvs', kvs = (PyData.tuple k, d) :: kvs' := by
  cases kvs with
  | nil => exact absurd rfl h
  | cons p l =>
    obtain ⟨k, d⟩ := p
    cases k <;> first | exact ⟨_, _, _, rfl⟩ | exact absurd rfl h
theorem rq_keyQ {K : PySem.W.Frag} {F H : Hp} {d : PyData} {q : Key} {v : V} (r : Rq K F H d v) (h : keyQ d = some q) : v = kV q := by
  cases d <;> first | (cases h; first | exact rq_int r | exact rq_str r) | cases h
section
variable {X : Cx} {pins : List (Addr × Obj)} {σ : L2.St} {H : Hp} {s : Shared}
theorem itemsI {P : Program} {w : World} : ∀ {ks : List Int} {its : List Value}, Vals (ks.map V.int) its → ItemsAre (intKind P w) ks its
  | [], _, h => by cases h; exact .nil
  | k :: ks, _, h => by
    rw [List.map_cons] at h
    cases h with
    | cons r t =>
      obtain ⟨u, rfl⟩ := r
      exact .cons (by simp [intKind, Value.isInt]) (itemsI t)
/-- a tuple of ints is a key -/
theorem td_key (I : Inv X pins σ H s) {a : Addr} {ks : List Int} (h : SqT X.K H a (ks.map V.int)) : (tupleKind (intKind X.prog X.w)).is s.heap ks a := by
  obtain ⟨its, r, ⟨o, h1, h2, n, h3⟩, _⟩ := I.tuple h
  exact ⟨o, its.toArray, n, h1, h2, h3, itemsI (by simpa using r)⟩
theorem td_keys (I : Inv X pins σ H s) {F : Hp} (fh : Same F H) : ∀ {kvs : List (PyData × PyData)} {es : List TdE}, RpTd X.K F kvs es → ∀ x ∈ es.map TdE.t, (tupleKind (intKind X.prog X.w)).is s.heap x.1 x.2.1
  | [], es, h => by simp only [RpTd] at h; subst h; simp
  | (k, d) :: kvs, es, h => by
    simp only [RpTd] at h
    obtain ⟨e, es', rfl, _, hs, _, _, t⟩ := h
    intro x hx
    rcases List.mem_cons.mp hx with rfl | hx
    · exact td_key I (sqT_mono fh hs)
    · exact td_keys I fh t x hx
theorem td_dict (I : Inv X pins σ H s) {F : Hp} (fh : Same F H) {a : Addr} {kvs : List (PyData × PyData)} {es : List TdE} (h : H a = some (tdO a es)) (nd : (es.map TdE.k).Nodup) (r : RpTd X.K F kvs es) : s.heap.DictOfH (tupleKind (intKind X.prog X.w)) a (es.map TdE.t) := by
  obtain ⟨⟨o, ar, ep, h1, h2, h3, h4⟩, _⟩ := I.hok a _ h
  refine ⟨o, ar, ep, h1, h2, h3, ?_, td_keys I fh r, ?_⟩
  · rw [h4, List.map_map]
    rfl
  · rw [List.map_map]
    exact nd
theorem rq_keyI {K : PySem.W.Frag} {F : Hp} {ks : List PyData} {is : List Int} {v : V} (r : Rq K F H (.tuple ks) v) (h : intsOf ks = some is) : ∃ b, v = .ref b ∧ SqT K F b (is.map V.int) := by
  obtain ⟨b, xs, rfl, q, rp⟩ := rq_tup r
  have := intsOf_eq h
  subst this
  have e : xs = is.map V.int := by
    clear q r h
    induction is generalizing xs with
    | nil => simp only [List.map_nil, RpAll] at rp; exact rp
    | cons i is ih =>
      rw [List.map_cons] at rp
      obtain ⟨x, ys, rfl, h1, h2⟩ := rp.uncons
      simp only [Rp] at h1
      rw [h1, ih _ h2, List.map_cons]
  rw [e] at q
  exact ⟨b, rfl, q⟩
end
end Pv
set_option Elab.async false
set_option linter.all false
set_option maxRecDepth 100000
set_option maxHeartbeats 4000000
namespace Pv
open PySem L2
variable {X : Cx} {C : Cn}

/-! ### x[i] -/
def opIxD (kvs : List (PyData × PyData)) (q : PyData) : Option T := if noTd (.dict kvs) = true then match keyQ q with
    | some q => (kGet kvs q).map T.sh
    | none => none
  else match keyI q with
    | some is => (tdGet kvs is).map T.sh
    | none => none
def opIx : PyData → PyData → Option T
  | .list ds, .int i => (atI ds i).map T.sh
  | .tuple ds, .int i => (atI ds i).map T.sh
  | .dict kvs, q => opIxD kvs q
  | _, _ => none
theorem atI_rp {K : PySem.W.Frag} {F : Hp} {ds : List PyData} {xs : List V} {i : Int} {d : PyData} (rp : RpAll K F ds xs) (e : atI ds i = some d) : ∃ v, atI xs i = some v ∧ Rp K F d v := by
  unfold atI at e ⊢
  rw [rp.len]
  cases h : ixN ds.length i with
  | none => rw [h] at e; cases e
  | some j =>
    rw [h] at e
    exact rp.get (by simpa using e)
theorem opIx_ok (g : Good X) : IxR X (rD2 X.K opIx) := by
  intro value slice pins s σ H x y v u Q I rx ry ⟨F, d, e, t, fh, r1, r2, eq, k⟩ hs
  unfold opIx at eq
  split at eq
  · rename_i ds i
    obtain ⟨a, xs, rfl, q, rp⟩ := rq_list fh r1
    cases rq_int r2
    cases e : atI ds i with
    | none => rw [e] at eq; cases eq
    | some d =>
      rw [e] at eq
      cases eq
      obtain ⟨w, h1, h2⟩ := atI_rp rp e
      exact ix_list value slice pins s σ H _ _ v u Q I rx ry ⟨a, xs, i, w, rfl, rfl, q, h1, k.sh fh h2⟩ hs
  · rename_i ds i
    obtain ⟨a, xs, rfl, q, rp⟩ := rq_tup r1
    cases rq_int r2
    cases e : atI ds i with
    | none => rw [e] at eq; cases eq
    | some d =>
      rw [e] at eq
      cases eq
      obtain ⟨w, h1, h2⟩ := atI_rp rp e
      exact ix_tup value slice pins s σ H _ _ v u Q I rx ry ⟨a, xs, i, w, rfl, rfl, sqT_mono fh q, h1, k.sh fh h2⟩ hs
  · rename_i kvs q
    have hu : X.A.units + 1 < cLine := by have := g.room; omega
    unfold opIxD at eq
    split at eq
    · rename_i hn
      split at eq
      · rename_i q' hq
        obtain ⟨d, hd, rfl⟩ := Option.map_eq_some_iff.mp eq
        obtain ⟨a, ks, rfl, ho, r⟩ := rq_dict fh r1 hn
        obtain ⟨z, hz, hrp⟩ := kv_get r hd
        have hy := rq_keyQ r2 hq
        have dg : DGet H a (kV q') (some z) := by rw [← hz]; exact DGet.k ho
        rw [hy] at ry
        cases rx
        exact PyProof.Rows.tail_any (dict_typeIs I dg) slot_dict_getitem.lookup (d_getItem hu I dg ry fun w' s3 I3 rw' => ⟨z, H, I3, rw', k.sh fh hrp⟩) hs
      · cases eq
    · rename_i hn
      split at eq
      · rename_i is hi
        obtain ⟨d, hd, rfl⟩ := Option.map_eq_some_iff.mp eq
        obtain ⟨ks, rfl, hi⟩ := keyI_tup hi
        obtain ⟨b, rfl, sq⟩ := rq_keyI r2 hi
        obtain ⟨k0, d0, kvs', rfl⟩ := noTd_not hn
        obtain ⟨a, es, rfl, hb, ho, nd, r⟩ := rq_td fh r1
        obtain ⟨e, he, hk, hv, hrp⟩ := td_get r hd
        have m := td_dict I fh ho nd r
        cases rx
        cases ry
        exact PyProof.Rows.tail_any m.typeIs slot_dict_getitem.lookup (wpAny_getItem_heap (tupleKind_room_in1 hu) (td_key I (sqT_mono fh sq)) m hk ⟨e.x, H, I.tok _, hv, k.sh fh hrp⟩) hs
      · cases eq
  · cases eq
/-! ### x[a:b] -/
abbrev FO := Env → Rs (Option Int × Env)
def oNone : FO := fun η => .ok (none, η)
def oSome (f : FE) : FO := fun η => (f η).bind fun p => match p.1 with
  | .sh (.int i) => .ok (some i, p.2)
  | _ => .bad
def tO (C : Cn) (f : FO) : TO := fun σ H Q => ∃ η F fp, Ok C.K F H η σ fp ∧ (f η).post (fun p => ∀ F' H' fp', Aft C.K fp F H σ [] [] p.2 F' H' [] fp' → Q p.1 H') (XP C fp F H σ)
theorem tO_step {fp fp1 f1 : List Addr} {F H F1 H1 : Hp} {σ : St} {ts : List T} {vs : List V} {η1 : Env} {f : FO} {Q : Option Int → Hp → Prop} (a : Aft C.K fp F H σ ts vs η1 F1 H1 f1 fp1) (h : (f η1).post (fun p => ∀ F2 H2 f2 fp2, Aft C.K fp F H σ ts vs p.2 F2 H2 f2 fp2 → Q p.1 H2) (XP C fp F H σ)) : tO C f σ H1 Q :=
  ⟨η1, F1, fp1, a.ok, Rs.post_mono h (fun p hp F' H' fp' b => hp F' H' _ _ (by simpa using a.app b)) fun e η' he => he.back a⟩
theorem _root_.L2.PO.impD {X : Cx} {e : Option Expr} {t t' : TO} (h : PO X e t) (k : ∀ σ H Q, t' σ H Q → t σ H Q) : PO X e t' := ⟨fun pins s σ H Q I q => h.run pins s σ H Q I (k σ H Q q)⟩
theorem pod_none : PO X none (tO C oNone) := po_none.impD fun σ H Q ⟨η, F, fp, o, q⟩ => q F H fp o.aft
theorem pod_some {e : Expr} {f : FE} (h : PE X e (tD C f)) : PO X (some e) (tO C (oSome f)) := by
  refine (po_some h).impD fun σ H Q ⟨η, F, fp, o, q⟩ => ?_
  refine tD_step o.aft (Rs.post_mono (Rs.post_bind q) (fun p hp x F1 H1 f1 fp1 a => ?_) fun _ _ z => z)
  have a : Aft C.K fp F H σ [p.1] [x] p.2 F1 H1 f1 fp1 := a
  split at hp
  · rename_i i e
    rw [e] at a
    exact ⟨i, (rt_int a.rt1).1, hp F1 H1 fp1 a.drop⟩
  · exact hp.elim
def rSlD (K : PySem.W.Frag) (op : PyData → Option Int → Option Int → Option T) : V → Option Int → Option Int → Hp → VK → Prop := fun x lo hi H Q => ∃ F d t, Same F H ∧ Rq K F H d x ∧ op d lo hi = some t ∧ Res K F H t Q
def cutA {α : Type} (xs : List α) (lo hi : Option Int) : List α := (xs.drop (HT.sIx xs.length 0 lo)).take (HT.sIx xs.length xs.length hi - HT.sIx xs.length 0 lo)
def opSl : PyData → Option Int → Option Int → Option T
  | .list ds, lo, hi => some (.lst ((cutA ds lo hi).map T.sh))
  | .tuple ds, lo, hi => some (.sh (.tuple (cutA ds lo hi)))
  | _, _, _ => none
theorem RpAll.drop {K : PySem.W.Frag} {F : Hp} : ∀ (n : Nat) {ds : List PyData} {vs : List V}, RpAll K F ds vs → RpAll K F (ds.drop n) (vs.drop n)
  | 0, _, _, h => by simpa using h
  | n + 1, [], vs, h => by
    simp only [RpAll] at h
    subst h
    simpa using RpAll.nil
  | n + 1, d :: ds, vs, h => by
    obtain ⟨x, xs, rfl, q, t⟩ := h.uncons
    simpa using RpAll.drop n t
theorem RpAll.take {K : PySem.W.Frag} {F : Hp} : ∀ (n : Nat) {ds : List PyData} {vs : List V}, RpAll K F ds vs → RpAll K F (ds.take n) (vs.take n)
  | 0, _, _, h => by simpa using RpAll.nil
  | n + 1, [], vs, h => by
    simp only [RpAll] at h
    subst h
    simpa using RpAll.nil
  | n + 1, d :: ds, vs, h => by
    obtain ⟨x, xs, rfl, q, t⟩ := h.uncons
    simpa using RpAll.consI q (RpAll.take n t)
theorem RpAll.cut {K : PySem.W.Frag} {F : Hp} {ds : List PyData} {vs : List V} (h : RpAll K F ds vs) (lo hi : Option Int) : RpAll K F (cutA ds lo hi) (cutV vs lo hi) := by
  unfold cutA cutV
  rw [h.len]
  exact (h.drop _).take _
theorem opSl_ok : SlR X (rSlD X.K opSl) := by
  intro pins s σ H x v vl vu lo hi sl Q I rx hs pl pu ⟨F, d, t, fh, r1, eq, k⟩
  unfold opSl at eq
  split at eq
  · rename_i ds
    cases eq
    obtain ⟨a, xs, rfl, q, rp⟩ := rq_list fh r1
    exact sl_list pins s σ H _ v vl vu _ _ sl Q I rx hs pl pu ⟨a, xs, rfl, q, k.lstQ fh (rp.cut _ _)⟩
  · rename_i ds
    cases eq
    obtain ⟨a, xs, rfl, q, rp⟩ := rq_tup r1
    refine sl_tupA pins s σ H _ v vl vu _ _ sl Q I rx hs pl pu ⟨a, xs, rfl, sqT_mono fh q, fun hw => ?_, fun _ => k.tupQ fh (rp.cut _ _)⟩
    refine k.sh fh ?_
    simp only [Rp]
    have e : cutA ds lo hi = ds := by
      unfold cutA
      rw [← rp.len, hw.1, hw.2, List.drop_zero, Nat.sub_zero, rp.len, List.take_length]
    rw [e]
    exact ⟨a, xs, rfl, q, rp⟩
  · cases eq
def eSl (f : FE) (lo hi : FO) : FE := fun η => (f η).bind fun p => (lo p.2).bind fun l => (hi l.2).bind fun u => fin1 (opSl p.1.val l.1 u.1) u.2
def eSlV (i : Nat) (lo hi : FO) : FE := fun η => match pk η i with
  | some _ => (lo η).bind fun l => (hi l.2).bind fun u => match pk u.2 i with
    | some d => fin1 (opSl d l.1 u.1) u.2
    | none => .bad
  | none => .bad
theorem pd_sl {e : Expr} {lo hi : Option Expr} {p2 pos : Pos} {f : FE} {fl fu : FO} (hK : C.K = X.K) (he : PE X e (tD C f)) (hl : PO X lo (tO C fl)) (hu : PO X hi (tO C fu)) : PE X (.Subscript e (.Slice lo hi none p2) pos) (tD C (eSl f fl fu)) := by
  refine (pe_slice opSl_ok he hl hu).impD fun σ H Q ⟨η, F, fp, o, q⟩ => ?_
  refine tD_step o.aft (Rs.post_mono (Rs.post_bind q) (fun p hp x F1 H1 f1 fp1 a => ?_) fun _ _ z => z)
  refine tO_step a (Rs.post_mono (Rs.post_bind hp) (fun p2 hp2 F2 H2 f2 fp2 b => ?_) fun _ _ z => z)
  refine tO_step b (Rs.post_mono (Rs.post_bind hp2) (fun p3 hp3 F3 H3 f3 fp3 c => ?_) fun _ _ z => z)
  obtain ⟨F4, t, s, r, eq, k⟩ := fin_res c hp3
  simp only [List.nil_append, T.vals, RpAll] at r
  obtain ⟨x', xs, e1, r1, rfl⟩ := r
  obtain rfl : x = x' := by simpa using e1
  rw [← hK]
  exact ⟨F4, _, t, s.fh, .inl r1, eq, k⟩
theorem pd_slV {e : Expr} {lo hi : Option Expr} {p2 pos : Pos} {i : Nat} {fl fu : FO} (hK : C.K = X.K) (he : PE X e (tVar i)) (hl : PO X lo (tO C fl)) (hu : PO X hi (tO C fu)) : PE X (.Subscript e (.Slice lo hi none p2) pos) (tD C (eSlV i fl fu)) := by
  refine (pe_slice opSl_ok he hl hu).impD fun σ H Q ⟨η, F, fp, o, q⟩ => ?_
  unfold eSlV at q
  obtain ⟨d0, h0, q⟩ := pk_some q
  obtain ⟨x, hx, _⟩ := pk_rq o h0
  refine ⟨x, hx, ?_⟩
  refine tO_step o.aft (Rs.post_mono (Rs.post_bind q) (fun p2 hp2 F2 H2 f2 fp2 b => ?_) fun _ _ z => z)
  refine tO_step b (Rs.post_mono (Rs.post_bind hp2) (fun p3 hp3 F3 H3 f3 fp3 c => ?_) fun _ _ z => z)
  obtain ⟨d, hd, hp3⟩ := pk_some hp3
  obtain ⟨F4, t, s, r, eq, k⟩ := fin_res c hp3
  obtain ⟨x2, hx2, rx⟩ := pk_rq s hd
  obtain rfl : x = x2 := by rw [hx] at hx2; cases hx2; rfl
  rw [← hK]
  exact ⟨F4, _, t, s.fh, rx, eq, k⟩

/-! ### isinstance -/
def tyN : PyData → String
  | .none => "NoneType"
  | .bool _ => "bool"
  | .int _ => "int"
  | .str _ => "str"
  | .list _ => "list"
  | .tuple _ => "tuple"
  | .dict _ => "dict"
inductive Ty where
  | int | bool | str | list | tuple | dict
def Ty.nm : Ty → String
  | .int => "int"
  | .bool => "bool"
  | .str => "str"
  | .list => "list"
  | .tuple => "tuple"
  | .dict => "dict"
def isI : Ty → PyData → Bool
  | .int, .int _ => true
  | .int, .bool _ => true
  | .bool, .bool _ => true
  | .str, .str _ => true
  | .list, .list _ => true
  | .tuple, .tuple _ => true
  | .dict, .dict _ => true
  | _, _ => false
theorem kit_isI (t : Ty) (d : PyData) : kitB (tyN d) t.nm = some (isI t d) := by
  cases t <;> cases d <;> (simp only [tyN, Ty.nm, isI]; decide +kernel)
theorem tyx_of {K : PySem.W.Frag} {F H : Hp} {d : PyData} {v : V} (fh : Same F H) (h : Rq K F H d v) (hn : noTd d = true) : TyX K H v (.type (tyN d)) := by
  cases d with
  | none => rw [rq_none h]; exact .base .non
  | bool b => rw [rq_bool h]; exact .base (.bl b)
  | int b => rw [rq_int h]; exact .base (.int b)
  | str b => rw [rq_str h]; exact .base (.str b)
  | list b =>
    obtain ⟨a, xs, rfl, q, _⟩ := rq_list fh h
    rcases q with (q | ⟨o, q⟩) | ⟨o, its, n, q, qc, _⟩
    · exact .base (.lst q)
    · exact .base (.frz q)
    · exact .kList q qc
  | tuple b =>
    obtain ⟨a, xs, rfl, q, _⟩ := rq_tup h
    rcases sqT_mono fh q with (q | ⟨o, q⟩) | ⟨o, its, n, q, qc, _⟩
    · exact .base (.tup q)
    · exact .fTuple q
    · exact .kTuple q qc
  | dict b =>
    obtain ⟨a, ks, rfl, q, _⟩ := rq_dict fh h hn
    exact .base (.dK q)
theorem post_if {α : Type} {c : Bool} {r : Rs α} {P : α → Prop} {E : Ex → Env → Prop} (h : (if c = true then r else .bad).post P E) : c = true ∧ r.post P E := by
  split at h
  · exact ⟨by assumption, h⟩
  · exact h.elim
def eIs (ts : List Ty) (f : FE) : FE := fun η => (f η).bind fun p => if noTd p.1.val = true then .ok (.sh (.bool (ts.any fun t => isI t p.1.val)), p.2) else .bad
def eIsV (ts : List Ty) (i : Nat) : FE := fun η => match pk η i with
  | some d => if noTd d = true then .ok (.sh (.bool (ts.any fun t => isI t d)), η) else .bad
  | none => .bad
theorem pd_isi {e : Expr} {f : FE} (t : Ty) (hK : C.K = X.K) (h : PE X e (tCB (rIsi X.K) (tCons (tD C f) (tCons (tC (.ty t.nm)) tNil)))) : PE X e (tD C (eIs [t] f)) := by
  refine h.impD fun σ H Q ⟨η, F, fp, o, q⟩ => ?_
  refine tD_step o.aft (Rs.post_mono (Rs.post_bind q) (fun p hp x F1 H1 f1 fp1 a => ?_) fun _ _ z => z)
  obtain ⟨hn, hp⟩ := post_if hp
  obtain ⟨F2, a2, rp⟩ := a.freeze
  simp only [List.nil_append, T.vals, RpAll] at rp
  obtain ⟨x', xs, e1, r1, rfl⟩ := rp
  obtain rfl : x = x' := by simpa using e1
  refine ⟨x, .ty t.nm, .type (tyN p.1.val), .type t.nm, isI t p.1.val, rfl, .ty _, ?_, kit_ty (kit_isI t _), ?_⟩
  · rw [← hK]; exact tyx_of a2.fh (.inl r1) hn
  · have e : ([t].any fun t => isI t p.1.val) = isI t p.1.val := by simp
    have hp : ∀ v F' H' f1 fp', Aft C.K fp F H σ [T.sh (.bool (isI t p.1.val))] [v] p.2 F' H' f1 fp' → Q v H' := by rw [e] at hp; exact hp
    exact hp _ F2 H1 [] fp1 (a2.res (.here a2.fh rp_c.2.1))
theorem pd_isiV {e : Expr} {i : Nat} (t : Ty) (hK : C.K = X.K) (h : PE X e (tCB (rIsi X.K) (tCons (tVar i) (tCons (tC (.ty t.nm)) tNil)))) : PE X e (tD C (eIsV [t] i)) := by
  refine h.impD fun σ H Q ⟨η, F, fp, o, q⟩ => ?_
  unfold eIsV at q
  obtain ⟨d, hd, q⟩ := pk_some q
  obtain ⟨hn, q⟩ := post_if q
  obtain ⟨x, hx, rx⟩ := pk_rq o hd
  refine ⟨x, hx, x, .ty t.nm, .type (tyN d), .type t.nm, isI t d, rfl, .ty _, ?_, kit_ty (kit_isI t _), ?_⟩
  · rw [← hK]; exact tyx_of o.fh rx hn
  · have e : ([t].any fun t => isI t d) = isI t d := by simp
    have q : ∀ v F' H' f1 fp', Aft C.K fp F H σ [T.sh (.bool (isI t d))] [v] η F' H' f1 fp' → Q v H' := by rw [e] at q; exact q
    exact q _ F H [] fp (o.res (.here o.fh rp_c.2.1))
theorem kitAny_tys {K : PySem.W.Frag} (d : PyData) : ∀ ts : List Ty, PySem.W.kitAny K (.type (tyN d)) (ts.map fun t => .type t.nm) = some (ts.any fun t => isI t d)
  | [] => rfl
  | t :: ts => by
    rw [List.map_cons]
    refine kitAny_cons (kit_ty (kit_isI t d)) (fun e => ?_) fun e => ?_
    · rw [List.any_cons, e, Bool.false_or]; exact kitAny_tys d ts
    · rw [List.any_cons, e, Bool.true_or]
theorem clsV_tys : ∀ ts : List Ty, PySem.Paired ClsV (ts.map fun t => V.ty t.nm) (ts.map fun t => Value.type t.nm)
  | [] => .nil
  | t :: ts => .cons (.ty _) (clsV_tys ts)
/-- a tuple of classes, written -/
def tTys : List Ty → TA
  | [] => tNil
  | t :: ts => tCons (tC (.ty t.nm)) (tTys ts)
theorem tTys_ok : ∀ (ts : List Ty) {σ : St} {H : Hp} {Q : List V → Hp → Prop}, Q (ts.map fun t => V.ty t.nm) H → tTys ts σ H Q
  | [], _, _, _, h => h
  | t :: ts, σ, H, Q, h => tTys_ok ts (Q := fun xs H2 => Q (V.ty t.nm :: xs) H2) h
theorem pd_isiTV {e : Expr} {i : Nat} (ts : List Ty) (hK : C.K = X.K) (hl : ts.length ≤ 1000) (h : PE X e (tCB (rIsiT X.K) (tCons (tVar i) (tCons (tTup (tTys ts)) tNil)))) : PE X e (tD C (eIsV ts i)) := by
  refine h.impD fun σ H Q ⟨η, F, fp, o, q⟩ => ?_
  unfold eIsV at q
  obtain ⟨d, hd, q⟩ := pk_some q
  obtain ⟨hn, q⟩ := post_if q
  obtain ⟨x, hx, rx⟩ := pk_rq o hd
  refine ⟨x, hx, tTys_ok ts ⟨by rw [List.length_map, PySem.sizeLine_eq]; omega, fun p hp => ?_⟩⟩
  have fh2 : Same F (upd H p (.tup (ts.map fun t => V.ty t.nm))) := o.fh.trans (same_upd hp)
  have rx2 : Rq C.K F (upd H p (.tup (ts.map fun t => V.ty t.nm))) d x := by
    rcases rx with rx | ⟨a, xs, ds, e1, e2, e3, e4⟩ | ⟨a, xs, ds, e1, e2, e3, e4⟩
    · exact .inl rx
    · exact .inr (.inl ⟨a, xs, ds, e1, e2, same_upd hp _ _ e3, e4⟩)
    · exact .inr (.inr ⟨a, xs, ds, e1, e2, same_upd hp _ _ e3, e4⟩)
  refine ⟨x, p, _, .type (tyN d), _, _, rfl, upd_same, clsV_tys ts, ?_, kitAny_tys d ts, ?_⟩
  · rw [← hK]; exact tyx_of fh2 rx2 hn
  · refine q _ F _ [] fp (o.res ⟨by simp only [RT, Rp]; exact ⟨trivial, trivial⟩, .refl _, fh2, same_upd hp, fun _ _ => rfl, by simp, by simp⟩)
/-! ### list(range(..)), tuple(range(..)) -/
def rgD (a b : Int) : List PyData := (List.range (b - a).toNat).map fun i => PyData.int (a + (i : Nat))
theorem rp_rg {K : PySem.W.Frag} {F : Hp} (a b : Int) : RpAll K F (rgD a b) (rgV a b) := by
  unfold rgD rgV
  refine RpAll.of_get (by simp) fun i d v h1 h2 => ?_
  rw [List.getElem?_map] at h1 h2
  cases e : (List.range (b - a).toNat)[i]? with
  | none => rw [e] at h1; cases h1
  | some j =>
    rw [e] at h1 h2
    cases h1
    cases h2
    exact rp_c.1
def rgOk (a b : Int) : Bool := decide (0 ≤ a) && decide (a ≤ 16777216) && decide (0 ≤ b) && decide (b ≤ 16777216)
theorem rgOk_ok {a b : Int} (h : rgOk a b = true) : RgOk a b := by
  unfold rgOk at h
  simp only [Bool.and_eq_true, decide_eq_true_eq] at h
  exact RgOk.of_le h.1.1.1 h.2 h.1.1.2 h.1.2
def eLstRg1 (f : FE) : FE := fun η => (f η).bind fun p => match p.1 with
  | .sh (.int b) => if rgOk 0 b then .ok (.lst ((rgD 0 b).map T.sh), p.2) else .bad
  | _ => .bad
def eTupRg1 (f : FE) : FE := fun η => (f η).bind fun p => match p.1 with
  | .sh (.int b) => if rgOk 0 b then .ok (.sh (.tuple (rgD 0 b)), p.2) else .bad
  | _ => .bad
theorem pd_lstRg1 {e : Expr} {f : FE} (h : PE X e (tLstRg (tRg1 (tD C f)))) : PE X e (tD C (eLstRg1 f)) := by
  refine h.impD fun σ H Q ⟨η, F, fp, o, q⟩ => ?_
  refine tD_step o.aft (Rs.post_mono (Rs.post_bind q) (fun p hp x F1 H1 f1 fp1 a => ?_) fun _ _ z => z)
  have a : Aft C.K fp F H σ [p.1] [x] p.2 F1 H1 f1 fp1 := a
  split at hp
  · rename_i b e
    rw [e] at a
    split at hp
    · rename_i hr
      exact ⟨b, (rt_int a.rt1).1, rgOk_ok hr, fun q hq => hp _ _ _ _ _ (a.drop.res (.lst a.fh (rp_rg 0 b) hq))⟩
    · exact hp.elim
  · exact hp.elim
theorem pd_tupRg1 {e : Expr} {f : FE} (h : PE X e (tTupRg (tRg1 (tD C f)))) : PE X e (tD C (eTupRg1 f)) := by
  refine h.impD fun σ H Q ⟨η, F, fp, o, q⟩ => ?_
  refine tD_step o.aft (Rs.post_mono (Rs.post_bind q) (fun p hp x F1 H1 f1 fp1 a => ?_) fun _ _ z => z)
  have a : Aft C.K fp F H σ [p.1] [x] p.2 F1 H1 f1 fp1 := a
  split at hp
  · rename_i b e
    rw [e] at a
    split at hp
    · rename_i hr
      exact ⟨b, (rt_int a.rt1).1, rgOk_ok hr, fun q hq => hp _ _ _ _ _ (a.drop.res (.tup a.fh (rp_rg 0 b) hq))⟩
    · exact hp.elim
  · exact hp.elim
end Pv
set_option Elab.async false
set_option linter.all false
set_option maxRecDepth 100000
set_option maxHeartbeats 4000000
namespace Pv
open PySem L2
variable {X : Cx} {C : Cn}

/-! ### a list that a slot owns is changed -/
theorem ne_mem {a p : Addr} {f : List Addr} (ha : a ∈ f) (hp : p ∉ f) : a ≠ p := fun z => hp (by rw [← z]; exact ha)
theorem RT.disj {K : PySem.W.Frag} {F H : Hp} {t : T} {v : V} {f : List Addr} {p : Addr} {o : HO} (h : RT K F H t v f) (hp : p ∉ f) : RT K F (upd H p o) t v f :=
  h.mono (.refl _) fun a ha u e => by rw [upd_ne (ne_mem ha hp)]; exact e
theorem RTs.disj {K : PySem.W.Frag} {F H : Hp} {t : List T} {v : List V} {f : List Addr} {p : Addr} {o : HO} (h : RTs K F H t v f) (hp : p ∉ f) : RTs K F (upd H p o) t v f :=
  h.mono (.refl _) fun a ha u e => by rw [upd_ne (ne_mem ha hp)]; exact e
/-- slot i owns the list at p, with the items xs; g: what its items own -/
structure Own (K : PySem.W.Frag) (F H : Hp) (σ : St) (i : Nat) (us : List T) (p : Addr) (xs : List V) (g : List Addr) : Prop where
  sl : σ[i]? = some (some (.ref p))
  at_ : H p = some (.lst xs)
  rt : RTs K F H us xs g
theorem Aft.mut {K : PySem.W.Frag} {fp : List Addr} {F H : Hp} {σ : St} {ts : List T} {vs : List V} {η1 : Env} {F1 H1 : Hp} {f1 fp1 : List Addr} {i : Nat} {us : List T} (a : Aft K fp F H σ ts vs η1 F1 H1 f1 fp1) (e : η1[i]? = some (some (.lst us))) :
    ∃ p xs g, Own K F1 H1 σ i us p xs g ∧ (p :: (g ++ f1)).Nodup ∧
      ∀ us' ys g' ws zs d, RTs K F1 H1 us' ys g' → RTs K F1 H1 ws zs d → (g' ++ d).Nodup → (∀ x ∈ g' ++ d, x ∈ g ++ f1) → ∃ fp2, Aft K fp F H σ ws zs (η1.set i (some (.lst us'))) F1 (upd H1 p (.lst ys)) d fp2 := by
  have hi : i < η1.length := (List.getElem?_eq_some_iff.mp e).1
  obtain ⟨s, h, r, h1, h2, h3, h4⟩ := a.rs.focus hi
  obtain ⟨v, rfl, rt⟩ := h3 _ e
  simp only [RT] at rt
  obtain ⟨p, xs, g, rfl, hp, rfl, rg⟩ := rt
  have ndf : ((p :: g) ++ r).Nodup := h2.nodup_iff.mp (List.nodup_append.mp a.nd).2.1
  have pr : p ∉ r := fun hx => (List.nodup_append.mp ndf).2.2 p (by simp) p hx rfl
  have gr : ∀ x ∈ g, x ∉ r := fun x hx hy => (List.nodup_append.mp ndf).2.2 x (by simp [hx]) x hy rfl
  have pg : p ∉ g := (List.nodup_cons.mp (List.nodup_append.mp ndf).1).1
  have mem : ∀ x, x = p ∨ x ∈ g ∨ x ∈ r → x ∈ fp1 := fun x hx => h2.mem_iff.mpr (by
    rcases hx with hx | hx | hx
    · simp [hx]
    · simp [hx]
    · simp [hx])
  have f1d : ∀ x ∈ f1, x ∉ fp1 := fun x hx hy => (List.nodup_append.mp a.nd).2.2 x hx x hy rfl
  have pf1 : p ∉ f1 := fun hx => f1d p hx (mem p (.inl rfl))
  refine ⟨p, xs, g, ⟨h1, hp, rg⟩, ?_, fun us' ys g' ws zs d r1 r2 nd sub => ?_⟩
  · refine List.nodup_cons.mpr ⟨fun hx => ?_, List.nodup_append.mpr ⟨(List.nodup_cons.mp (List.nodup_append.mp ndf).1).2, (List.nodup_append.mp a.nd).1, fun x hx y hy e => ?_⟩⟩
    · rcases List.mem_append.mp hx with hx | hx
      · exact pg hx
      · exact pf1 hx
    · subst e
      exact f1d x hy (mem x (.inr (.inl hx)))
  · have npd : p ∉ g' ++ d := fun hx => by
      rcases List.mem_append.mp (sub p hx) with hx | hx
      · exact pg hx
      · exact pf1 hx
    have Fp : F1 p = none := a.fn p (by simp [mem p (.inl rfl)])
    have sF : Same F1 (upd H1 p (.lst ys)) := fun b o e => by rw [upd_ne (ne_of_none e Fp)]; exact a.fh b o e
    obtain ⟨f', rs', pm⟩ := (h4 F1 (upd H1 p (.lst ys)) (.refl _) (fun x hx o e => by rw [upd_ne (ne_mem hx pr)]; exact e)).1 (.lst us') (.ref p) (p :: g')
      (by simp only [RT]; exact ⟨p, ys, g', rfl, upd_same, rfl, r1.disj fun hx => npd (by simp [hx])⟩)
    rw [set_self h1] at rs'
    have rnd : ∀ x ∈ r, x ∉ g' ++ d := fun x hx hy => by
      rcases List.mem_append.mp (sub x hy) with hy | hy
      · exact gr x hy hx
      · exact f1d x hy (mem x (.inr (.inr hx)))
    have memf : ∀ x ∈ f', x = p ∨ x ∈ g' ∨ x ∈ r := fun x hx => by
      have := pm.mem_iff.mp hx
      simpa using this
    refine ⟨f', ⟨r2.disj fun hx => npd (by simp [hx]), rs', ?_, fun x hx => ?_, sF, ⟨a.ext.ff, fun b o e hb => ?_, a.ext.new⟩, fun x hx => ?_⟩⟩
    · have nd2 : ((p :: g') ++ r).Nodup := by
        refine List.nodup_append.mpr ⟨List.nodup_cons.mpr ⟨fun hx => npd (by simp [hx]), (List.nodup_append.mp nd).1⟩, (List.nodup_append.mp ndf).2.1, fun x hx y hy e => ?_⟩
        subst e
        rcases List.mem_cons.mp hx with rfl | hx
        · exact pr hy
        · exact rnd x hy (by simp [hx])
      refine List.nodup_append.mpr ⟨(List.nodup_append.mp nd).2.1, pm.nodup_iff.mpr nd2, fun x hx y hy e => ?_⟩
      subst e
      rcases memf x hy with z | z | z
      · subst z; exact npd (by simp [hx])
      · exact (List.nodup_append.mp nd).2.2 x z x hx rfl
      · exact rnd x z (by simp [hx])
    · rcases List.mem_append.mp hx with hx | hx
      · rcases List.mem_append.mp (sub x (by simp [hx])) with hx | hx
        · exact a.fn x (by simp [mem x (.inr (.inl hx))])
        · exact a.fn x (by simp [hx])
      · rcases memf x hx with z | z | z
        · subst z; exact Fp
        · rcases List.mem_append.mp (sub x (by simp [z])) with hx | hx
          · exact a.fn x (by simp [mem x (.inr (.inl hx))])
          · exact a.fn x (by simp [hx])
        · exact a.fn x (by simp [mem x (.inr (.inr z))])
    · have := a.ext.keep b o e hb
      have nb : b ≠ p := fun z => by
        subst z
        rcases a.sub b (by simp [mem b (.inl rfl)]) with z | z
        · exact hb z
        · rw [z] at e; cases e
      rw [upd_ne nb]; exact this
    · have all : ∀ x, x ∈ g ++ f1 ∨ x = p ∨ x ∈ r → x ∈ fp ∨ H x = none := fun x hx => by
        rcases hx with hx | rfl | hx
        · rcases List.mem_append.mp hx with hx | hx
          · exact a.sub x (by simp [mem x (.inr (.inl hx))])
          · exact a.sub x (by simp [hx])
        · exact a.sub x (by simp [mem x (.inl rfl)])
        · exact a.sub x (by simp [mem x (.inr (.inr hx))])
      rcases List.mem_append.mp hx with hx | hx
      · exact all x (.inl (sub x (by simp [hx])))
      · rcases memf x hx with z | z | z
        · exact all x (.inr (.inl z))
        · exact all x (.inl (sub x (by simp [z])))
        · exact all x (.inr (.inr z))
/-- nothing is left of the values -/
theorem RTs.non {K : PySem.W.Frag} {F H : Hp} : RTs K F H [.sh .none] [.non] [] := .one (by simp only [RT, Rp]; exact ⟨trivial, trivial⟩)
theorem tyL {K : PySem.W.Frag} {H : Hp} {p : Addr} {xs : List V} (h : H p = some (.lst xs)) : tyV K "list" (.ref p) H := .inl ⟨rfl, _, SqL.of h⟩
def line (n : Nat) : Bool := decide (n < 16777216)
theorem line_lt {n : Nat} (h : line n = true) : n < sizeLine := by rw [PySem.sizeLine_eq]; exact of_decide_eq_true h
/-- the list that slot i owns -/
def own (η : Env) (i : Nat) : Option (List T) := match η[i]? with
  | some (some (.lst us)) => some us
  | _ => none
theorem own_eq {η : Env} {i : Nat} {us : List T} (h : own η i = some us) : η[i]? = some (some (.lst us)) := by
  unfold own at h
  split at h
  · rename_i us' e
    cases h
    exact e
  · cases h
def setL (η : Env) (i : Nat) (us : List T) : Env := η.set i (some (.lst us))
/-- x.m(e), x a name that owns a list; the change by the items and the argument -/
def eMt1 (op : List T → T → Option (List T × T)) (i : Nat) (g : FE) : FE := fun η => match own η i with
  | some _ => (g η).bind fun p => match own p.2 i with
    | some us => match op us p.1 with
      | some r => .ok (r.2, setL p.2 i r.1)
      | none => .bad
    | none => .bad
  | none => .bad
/-- what the method does, by values: for a list at p that is owned -/
def MtOk (X : Cx) (id : String) (op : List T → T → Option (List T × T)) (r : V → List V → Hp → VK → Prop) : Prop :=
  ∀ (F H : Hp) (us : List T) (p : Addr) (xs : List V) (g : List Addr) (t : T) (y : V) (f : List Addr) (us' : List T) (t' : T) (Q : VK), H p = some (.lst xs) → RTs X.K F H us xs g → RT X.K F H t y f → (p :: (g ++ f)).Nodup → (∀ a ∈ f, F a = none) → Same F H → op us t = some (us', t') →
    (∀ ys g' z d, RTs X.K F H us' ys g' → RT X.K F H t' z d → (g' ++ d).Nodup → (∀ x ∈ g' ++ d, x ∈ g ++ f) → Q z (upd H p (.lst ys))) → r (.ref p) [y] H Q
theorem Aft.rt1' {K : PySem.W.Frag} {fp : List Addr} {F H : Hp} {σ : St} {t : T} {v : V} {η' : Env} {F' H' : Hp} {f1 fp' : List Addr} (a : Aft K fp F H σ [t] [v] η' F' H' f1 fp') : RT K F' H' t v f1 := a.rt1
theorem pd_mt1 {e : Expr} {i : Nat} {g : FE} {id : String} {op : List T → T → Option (List T × T)} {r : V → List V → Hp → VK → Prop} (hK : C.K = X.K) (ok : MtOk X id op r)
    (h : PE X e (tBM X.K "list" r (tVar i) (tCons (tD C g) tNil))) : PE X e (tD C (eMt1 op i g)) := by
  refine h.impD fun σ H Q ⟨η, F, fp, o, q⟩ => ?_
  unfold eMt1 at q
  split at q
  · rename_i us0 e0
    obtain ⟨p0, xs0, g0, w0, _, _⟩ := o.aft.mut (own_eq e0)
    refine ⟨.ref p0, w0.sl, tyL w0.at_, ?_⟩
    refine tD_step o.aft (Rs.post_mono (Rs.post_bind q) (fun p hp y F1 H1 f1 fp1 a => ?_) fun _ _ z => z)
    have a : Aft C.K fp F H σ [p.1] [y] p.2 F1 H1 f1 fp1 := a
    split at hp
    · rename_i us e1
      split at hp
      · rename_i r e2
        obtain ⟨p1, xs, g1, w, nd, k⟩ := a.mut (own_eq e1)
        obtain rfl : p0 = p1 := by have := w.sl; rw [w0.sl] at this; cases this; rfl
        refine ok F1 H1 us p0 xs g1 p.1 y f1 r.1 r.2 Q w.at_ (hK ▸ w.rt) (hK ▸ a.rt1) nd (fun b hb => a.fn b (by simp [hb])) a.fh e2 fun ys g' z d r1 r2 nd' sub => ?_
        obtain ⟨fp2, a2⟩ := k r.1 ys g' [r.2] [z] d (hK ▸ r1) (.one (hK ▸ r2)) nd' sub
        exact hp z F1 _ d fp2 a2
      · exact hp.elim
    · exact hp.elim
  · exact q.elim
/-! append -/
def mAppend (us : List T) (t : T) : Option (List T × T) := if line us.length then some (us ++ [t], .sh .none) else none
theorem mAppend_ok : MtOk X "list.append" mAppend rAppend := by
  intro F H us p xs g t y f us' t' Q hp rg rt nd fn fh e k
  unfold mAppend at e
  split at e
  · rename_i hl
    cases e
    refine ⟨p, xs, y, rfl, rfl, hp, by rw [rg.len]; exact line_lt hl, k (xs ++ [y]) (g ++ f) .non [] (rg.append (.one rt)) (by simp only [RT, Rp]; exact ⟨trivial, trivial⟩) (by simpa using (List.nodup_cons.mp nd).2) (by simp)⟩
  · cases e
/-! extend by a list that was just made -/
def mExtend (us : List T) (t : T) : Option (List T × T) := match t with
  | .lst ts => if line (us.length + ts.length) then some (us ++ ts, .sh .none) else none
  | _ => none
theorem mExtend_ok : MtOk X "list.extend" mExtend rExtend := by
  intro F H us p xs g t y f us' t' Q hp rg rt nd fn fh e k
  unfold mExtend at e
  split at e
  · rename_i ts
    split at e
    · rename_i hl
      cases e
      simp only [RT] at rt
      obtain ⟨b, zs, g2, rfl, hb, rfl, r2⟩ := rt
      have hl' := line_lt hl
      refine ⟨p, b, xs, zs, rfl, rfl, hp, hb, by rw [rg.len, r2.len]; omega, k (xs ++ zs) (g ++ g2) .non [] (rg.append r2) (by simp only [RT, Rp]; exact ⟨trivial, trivial⟩) ?_ ?_⟩
      · have := (List.nodup_cons.mp nd).2
        have h1 := List.nodup_append.mp this
        rw [List.append_nil]
        exact List.nodup_append.mpr ⟨h1.1, (List.nodup_cons.mp h1.2.1).2, fun x hx z hz => h1.2.2 x hx z (by simp [hz])⟩
      · intro x hx
        rw [List.append_nil] at hx
        rcases List.mem_append.mp hx with hx | hx
        · simp [hx]
        · simp [hx]
    · cases e
  · cases e
/-! pop(i) -/
theorem RTs.split {K : PySem.W.Frag} {F H : Hp} : ∀ {us : List T} {xs : List V} {g : List Addr} {k : Nat} {t : T}, RTs K F H us xs g → us[k]? = some t →
    ∃ v d g', xs[k]? = some v ∧ RT K F H t v d ∧ RTs K F H (us.eraseIdx k) (xs.eraseIdx k) g' ∧ g.Perm (d ++ g') ∧ ∀ (t' : T) (v' : V) (d' : List Addr), RT K F H t' v' d' → ∃ g2, RTs K F H (us.set k t') (xs.set k v') g2 ∧ g2.Perm (d' ++ g')
  | [], _, _, _, _, _, e => by simp at e
  | u :: us, vs, f, 0, t, h, e => by
    obtain ⟨x, xs, f1, f2, rfl, rfl, r1, r2⟩ := h.uncons
    simp at e; subst e
    refine ⟨x, f1, f2, rfl, r1, r2, .refl _, fun t' v' d' q => ⟨d' ++ f2, ?_, .refl _⟩⟩
    simp only [List.set_cons_zero, RTs]
    exact ⟨v', xs, d', f2, rfl, rfl, q, r2⟩
  | u :: us, vs, f, k + 1, t, h, e => by
    obtain ⟨x, xs, f1, f2, rfl, rfl, r1, r2⟩ := h.uncons
    obtain ⟨v, d, g', h1, h2, h3, h4, h5⟩ := RTs.split (k := k) r2 (by simpa using e)
    have swap : ∀ a : List Addr, (f1 ++ (a ++ g')).Perm (a ++ (f1 ++ g')) := fun a => by
      rw [← List.append_assoc, ← List.append_assoc]
      exact (List.perm_append_comm).append_right g'
    refine ⟨v, d, f1 ++ g', by simpa using h1, h2, ?_, (h4.append_left f1).trans (swap d), fun t' v' d' q => ?_⟩
    · simp only [List.eraseIdx_cons_succ, RTs]
      exact ⟨x, _, f1, g', rfl, rfl, r1, h3⟩
    · obtain ⟨g2, q1, q2⟩ := h5 t' v' d' q
      refine ⟨f1 ++ g2, ?_, (q2.append_left f1).trans (swap d')⟩
      simp only [List.set_cons_succ, RTs]
      exact ⟨x, _, f1, g2, rfl, rfl, r1, q1⟩
def i63 (i : Int) : Bool := decide (-1000000000 ≤ i) && decide (i ≤ 1000000000)
def mPopAt (us : List T) (t : T) : Option (List T × T) := match t with
  | .sh (.int i) => if i63 i then match seqIndex? i us.length with
      | some k => match us[k]? with
        | some u => some (us.eraseIdx k, u)
        | none => none
      | none => none
    else none
  | _ => none
theorem mPopAt_ok : MtOk X "list.pop" mPopAt rPopAt := by
  intro F H us p xs g t y f us' t' Q hp rg rt nd fn fh e k
  unfold mPopAt at e
  split at e
  · rename_i i
    split at e
    · rename_i hi
      split at e
      · rename_i k' hk
        split at e
        · rename_i u hu
          cases e
          obtain ⟨rfl, rfl⟩ := rt_int rt
          obtain ⟨v, d, g', h1, h2, h3, h4, _⟩ := rg.split hu
          unfold i63 at hi
          simp only [Bool.and_eq_true, decide_eq_true_eq] at hi
          have pm : (g' ++ d).Perm g := (List.perm_append_comm).trans h4.symm
          refine ⟨p, xs, i, k', v, rfl, rfl, hp, (by have e : (2 : Int) ^ 63 = 9223372036854775808 := by decide
                                                     rw [e]; omega), (by have e : (2 : Int) ^ 63 = 9223372036854775808 := by decide
                                                                         rw [e]; omega), by rw [rg.len]; exact hk, h1, k (xs.eraseIdx k') g' v d h3 h2 (pm.nodup_iff.mpr ?_) fun x hx => ?_⟩
          · have := (List.nodup_cons.mp nd).2
            exact (List.nodup_append.mp this).1
          · have := pm.mem_iff.mp hx
            simp [this]
        · cases e
      · cases e
    · cases e
  · cases e
/-! x.pop() -/
def eMt0 (op : List T → Option (List T × T)) (i : Nat) : FE := fun η => match own η i with
  | some us => match op us with
    | some r => .ok (r.2, setL η i r.1)
    | none => .bad
  | none => .bad
def Mt0Ok (X : Cx) (op : List T → Option (List T × T)) (r : V → List V → Hp → VK → Prop) : Prop :=
  ∀ (F H : Hp) (us : List T) (p : Addr) (xs : List V) (g : List Addr) (us' : List T) (t' : T) (Q : VK), H p = some (.lst xs) → RTs X.K F H us xs g → (p :: g).Nodup → op us = some (us', t') →
    (∀ ys g' z d, RTs X.K F H us' ys g' → RT X.K F H t' z d → (g' ++ d).Nodup → (∀ x ∈ g' ++ d, x ∈ g) → Q z (upd H p (.lst ys))) → r (.ref p) [] H Q
theorem pd_mt0 {e : Expr} {i : Nat} {op : List T → Option (List T × T)} {r : V → List V → Hp → VK → Prop} (hK : C.K = X.K) (ok : Mt0Ok X op r) (h : PE X e (tBM0 X.K "list" r (tVar i))) : PE X e (tD C (eMt0 op i)) := by
  refine h.impD fun σ H Q ⟨η, F, fp, o, q⟩ => ?_
  unfold eMt0 at q
  split at q
  · rename_i us e0
    split at q
    · rename_i r e2
      obtain ⟨p, xs, g, w, nd, k⟩ := o.aft.mut (own_eq e0)
      refine ⟨.ref p, w.sl, tyL w.at_, ok F H us p xs g r.1 r.2 Q w.at_ (hK ▸ w.rt) (by simpa using nd) e2 fun ys g' z d r1 r2 nd' sub => ?_⟩
      obtain ⟨fp2, a2⟩ := k r.1 ys g' [r.2] [z] d (hK ▸ r1) (.one (hK ▸ r2)) nd' fun x hx => by simp [sub x hx]
      exact q z F _ d fp2 a2
    · exact q.elim
  · exact q.elim
def mPop (us : List T) : Option (List T × T) := match us[us.length - 1]? with
  | some u => some (us.dropLast, u)
  | none => none
theorem eraseIdx_last {α : Type} : ∀ (l : List α), l.eraseIdx (l.length - 1) = l.dropLast
  | [] => rfl
  | [a] => rfl
  | a :: b :: l => by
    have := eraseIdx_last (b :: l)
    simp only [List.length_cons, Nat.add_sub_cancel] at this ⊢
    rw [List.eraseIdx_cons_succ, this]; rfl
theorem mPop_ok : Mt0Ok X mPop rPop := by
  intro F H us p xs g us' t' Q hp rg nd e k
  unfold mPop at e
  split at e
  · rename_i u hu
    cases e
    obtain ⟨v, d, g', h1, h2, h3, h4, _⟩ := rg.split hu
    have pm : (g' ++ d).Perm g := (List.perm_append_comm).trans h4.symm
    have hl := rg.len
    refine ⟨p, xs, v, rfl, rfl, hp, by rw [hl]; exact h1, ?_⟩
    have e1 : xs.dropLast = xs.eraseIdx (us.length - 1) := by rw [← hl, eraseIdx_last]
    rw [eraseIdx_last] at h3
    rw [e1]
    exact k _ g' v d h3 h2 (pm.nodup_iff.mpr (List.nodup_cons.mp nd).2) fun x hx => pm.mem_iff.mp hx
  · cases e
end Pv
set_option Elab.async false
set_option linter.all false
set_option maxRecDepth 100000
set_option maxHeartbeats 4000000
namespace Pv
open PySem L2
variable {X : Cx} {C : Cn}

/-! ### statements -/
inductive Fl where
  | nx
  | ret (t : T)
  | bk
  | ct
abbrev FS := Env → Rs (Fl × Env)
/-- the slots that stay -/
def IO (io : List Nat) (σ σ' : St) : Prop := ∀ j ∈ io, σ'[j]? = σ[j]?
theorem IO.refl {io : List Nat} {σ : St} : IO io σ σ := fun _ _ => rfl
theorem IO.trans {io : List Nat} {σ σ1 σ2 : St} (a : IO io σ σ1) (b : IO io σ1 σ2) : IO io σ σ2 := fun j hj => (b j hj).trans (a j hj)
def XPS (C : Cn) (fp : List Addr) (F H : Hp) (e : Ex) (η' : Env) : Prop := ∀ σ' cls d F' H', ExR C F' H' e cls d → RS C.K F' H' η' σ' [] → Same F' H' → Ext fp F H F' H' → C.W cls d σ' H'
theorem XPS.xp {fp : List Addr} {F H : Hp} {σ : St} {e : Ex} {η' : Env} (h : XPS C fp F H e η') : XP C fp F H σ e η' := fun cls d F' H' x r s ext => h σ cls d F' H' x r s ext
def tS (C : Cn) (io : List Nat) (f : FS) : TS := fun D σ H => ∃ η F fp, Ok C.K F H η σ fp ∧ (f η).post (fun p => match p.1 with
  | .nx => ∀ σ' F' H' fp', Aft C.K fp F H σ' [] [] p.2 F' H' [] fp' → IO io σ σ' → D.nx σ' H'
  | .bk => ∀ σ' F' H' fp', Aft C.K fp F H σ' [] [] p.2 F' H' [] fp' → IO io σ σ' → D.bk σ' H'
  | .ct => ∀ σ' F' H' fp', Aft C.K fp F H σ' [] [] p.2 F' H' [] fp' → IO io σ σ' → D.ct σ' H'
  | .ret t => ∀ v σ' F' H' f1 fp', Aft C.K fp F H σ' [t] [v] p.2 F' H' f1 fp' → IO io σ σ' → D.rt v H') (XPS C fp F H)
/-- values consumed, then on -/
theorem Aft.thn {K : PySem.W.Frag} {fp : List Addr} {F H : Hp} {σ σ' : St} {ts us : List T} {vs ws : List V} {η1 η2 : Env} {F1 H1 F2 H2 : Hp} {f1 fp1 f2 fp2 : List Addr} (a : Aft K fp F H σ ts vs η1 F1 H1 f1 fp1)
    (b : Aft K (f1 ++ fp1) F1 H1 σ' us ws η2 F2 H2 f2 fp2) : Aft K fp F H σ' us ws η2 F2 H2 f2 fp2 := by
  refine ⟨b.rt, b.rs, b.nd, b.fn, b.fh, a.ext.trans b.ext a.sub, fun x hx => ?_⟩
  rcases b.sub x hx with z | z
  · exact a.sub x z
  · by_cases hm : x ∈ fp
    · exact .inl hm
    · cases e : H x with
      | none => exact .inr rfl
      | some o => rw [a.ext.keep x o e hm] at z; cases z
theorem XPS.back {fp fp1 f1 : List Addr} {F H F1 H1 : Hp} {σ : St} {ts : List T} {vs : List V} {η1 : Env} {e : Ex} {η' : Env} (a : Aft C.K fp F H σ ts vs η1 F1 H1 f1 fp1) (h : XPS C fp F H e η') : XPS C fp1 F1 H1 e η' :=
  fun σ' cls d F' H' x r s ext => h σ' cls d F' H' x r s (a.ext.trans ext fun b hb => a.sub b (by simp [hb]))
theorem XPS.back' {fp fp1 f1 : List Addr} {F H F1 H1 : Hp} {σ : St} {ts : List T} {vs : List V} {η1 : Env} {e : Ex} {η' : Env} (a : Aft C.K fp F H σ ts vs η1 F1 H1 f1 fp1) (h : XPS C fp F H e η') : XPS C (f1 ++ fp1) F1 H1 e η' :=
  fun σ' cls d F' H' x r s ext => h σ' cls d F' H' x r s (a.ext.trans ext a.sub)
theorem tS_step {fp fp1 : List Addr} {F H F1 H1 : Hp} {σ σ1 : St} {η1 : Env} {io : List Nat} {f : FS} {D : Ends} (a : Aft C.K fp F H σ1 [] [] η1 F1 H1 [] fp1) (hio : IO io σ σ1) (h : (f η1).post (fun p => match p.1 with
  | .nx => ∀ σ' F' H' fp', Aft C.K fp F H σ' [] [] p.2 F' H' [] fp' → IO io σ σ' → D.nx σ' H'
  | .bk => ∀ σ' F' H' fp', Aft C.K fp F H σ' [] [] p.2 F' H' [] fp' → IO io σ σ' → D.bk σ' H'
  | .ct => ∀ σ' F' H' fp', Aft C.K fp F H σ' [] [] p.2 F' H' [] fp' → IO io σ σ' → D.ct σ' H'
  | .ret t => ∀ v σ' F' H' f1 fp', Aft C.K fp F H σ' [t] [v] p.2 F' H' f1 fp' → IO io σ σ' → D.rt v H') (XPS C fp F H)) : tS C io f D σ1 H1 := by
  refine ⟨η1, F1, fp1, a.ok, Rs.post_mono h (fun p hp => ?_) fun e η' he => he.back a⟩
  revert hp
  cases p.1 with
  | nx => exact fun hp σ' F' H' fp' b i => hp σ' F' H' fp' (a.thn b) (hio.trans i)
  | bk => exact fun hp σ' F' H' fp' b i => hp σ' F' H' fp' (a.thn b) (hio.trans i)
  | ct => exact fun hp σ' F' H' fp' b i => hp σ' F' H' fp' (a.thn b) (hio.trans i)
  | ret t => exact fun hp v σ' F' H' f1 fp' b i => hp v σ' F' H' f1 fp' (a.thn b) (hio.trans i)
theorem _root_.L2.PS.impD {X : Cx} {e : Stmt} {t t' : TS} (h : PS X e t) (k : ∀ D σ H, t' D σ H → t D σ H) : PS X e t' := ⟨fun pins s σ H D I q => h.run pins s σ H D I (k D σ H q)⟩
theorem _root_.L2.PSs.impD {X : Cx} {e : List Stmt} {t t' : TS} (h : PSs X e t) (k : ∀ D σ H, t' D σ H → t D σ H) : PSs X e t' := ⟨fun pins s σ H D I q => h.run pins s σ H D I (k D σ H q)⟩
/-! blocks -/
def sNil : FS := fun η => .ok (.nx, η)
def sSeq (f g : FS) : FS := fun η => (f η).bind fun p => match p.1 with
  | .nx => g p.2
  | _ => .ok p
variable {io : List Nat}
theorem psd_nil : PSs X [] (tS C io sNil) := pss_nil.impD fun D σ H ⟨η, F, fp, o, q⟩ => q σ F H fp o.aft .refl
theorem psd_one {st : Stmt} {f : FS} (h : PS X st (tS C io f)) : PSs X [st] (tS C io f) := pss_one h
theorem psd_cons {st : Stmt} {rest : List Stmt} {f g : FS} (h : PS X st (tS C io f)) (h2 : PSs X rest (tS C io g)) : PSs X (st :: rest) (tS C io (sSeq f g)) := by
  refine (pss_cons h h2).impD fun D σ H ⟨η, F, fp, o, q⟩ => ?_
  refine ⟨η, F, fp, o, Rs.post_mono (Rs.post_bind q) (fun p hp => ?_) fun _ _ z => z⟩
  revert hp
  dsimp only
  cases e : p.1 with
  | nx => exact fun hp σ' F' H' fp' a i => tS_step a i hp
  | bk =>
    intro hp
    have hp : (match p.1 with
      | .nx => ∀ σ' F' H' fp', Aft C.K fp F H σ' [] [] p.2 F' H' [] fp' → IO io σ σ' → D.nx σ' H'
      | .bk => ∀ σ' F' H' fp', Aft C.K fp F H σ' [] [] p.2 F' H' [] fp' → IO io σ σ' → D.bk σ' H'
      | .ct => ∀ σ' F' H' fp', Aft C.K fp F H σ' [] [] p.2 F' H' [] fp' → IO io σ σ' → D.ct σ' H'
      | .ret t => ∀ v σ' F' H' f1 fp', Aft C.K fp F H σ' [t] [v] p.2 F' H' f1 fp' → IO io σ σ' → D.rt v H') := hp
    rw [e] at hp
    exact hp
  | ct =>
    intro hp
    have hp : (match p.1 with
      | .nx => ∀ σ' F' H' fp', Aft C.K fp F H σ' [] [] p.2 F' H' [] fp' → IO io σ σ' → D.nx σ' H'
      | .bk => ∀ σ' F' H' fp', Aft C.K fp F H σ' [] [] p.2 F' H' [] fp' → IO io σ σ' → D.bk σ' H'
      | .ct => ∀ σ' F' H' fp', Aft C.K fp F H σ' [] [] p.2 F' H' [] fp' → IO io σ σ' → D.ct σ' H'
      | .ret t => ∀ v σ' F' H' f1 fp', Aft C.K fp F H σ' [t] [v] p.2 F' H' f1 fp' → IO io σ σ' → D.rt v H') := hp
    rw [e] at hp
    exact hp
  | ret t =>
    intro hp
    have hp : (match p.1 with
      | .nx => ∀ σ' F' H' fp', Aft C.K fp F H σ' [] [] p.2 F' H' [] fp' → IO io σ σ' → D.nx σ' H'
      | .bk => ∀ σ' F' H' fp', Aft C.K fp F H σ' [] [] p.2 F' H' [] fp' → IO io σ σ' → D.bk σ' H'
      | .ct => ∀ σ' F' H' fp', Aft C.K fp F H σ' [] [] p.2 F' H' [] fp' → IO io σ σ' → D.ct σ' H'
      | .ret t => ∀ v σ' F' H' f1 fp', Aft C.K fp F H σ' [t] [v] p.2 F' H' f1 fp' → IO io σ σ' → D.rt v H') := hp
    rw [e] at hp
    exact hp
/-! small statements -/
def sBad : FS := fun _ => .bad
theorem psd_never {st : Stmt} : PS X st (tS C io sBad) := ps_never.impD fun D σ H ⟨η, F, fp, o, q⟩ => q.elim
theorem psd_pass {pos : Pos} : PS X (.Pass pos) (tS C io sNil) := ps_pass.impD fun D σ H ⟨η, F, fp, o, q⟩ => q σ F H fp o.aft .refl
def sBreak : FS := fun η => .ok (.bk, η)
def sCont : FS := fun η => .ok (.ct, η)
theorem psd_break {pos : Pos} : PS X (.Break pos) (tS C io sBreak) := ps_break.impD fun D σ H ⟨η, F, fp, o, q⟩ => q σ F H fp o.aft .refl
theorem psd_cont {pos : Pos} : PS X (.Continue pos) (tS C io sCont) := ps_continue.impD fun D σ H ⟨η, F, fp, o, q⟩ => q σ F H fp o.aft .refl
def sExpr (f : FE) : FS := fun η => (f η).bind fun p => .ok (.nx, p.2)
theorem psd_expr {e : Expr} {f : FE} {pos : Pos} (he : PE X e (tD C f)) (hs : swapsWith e none pos.line X.env = pure false := by rfl) : PS X (.Expr e pos) (tS C io (sExpr f)) := by
  refine (ps_expr he hs).impD fun D σ H ⟨η, F, fp, o, q⟩ => ?_
  refine tD_step o.aft (Rs.post_mono (Rs.post_bind q) (fun p hp x F1 H1 f1 fp1 a => ?_) fun _ _ z => z.xp)
  exact hp σ F1 H1 fp1 a.drop .refl
def sRet (f : FE) : FS := fun η => (f η).bind fun p => .ok (.ret p.1, p.2)
theorem psd_ret {e : Expr} {f : FE} {pos : Pos} (he : PE X e (tD C f)) : PS X (.Return (some e) pos) (tS C io (sRet f)) := by
  refine (ps_ret he).impD fun D σ H ⟨η, F, fp, o, q⟩ => ?_
  refine tD_step o.aft (Rs.post_mono (Rs.post_bind q) (fun p hp x F1 H1 f1 fp1 a => ?_) fun _ _ z => z.xp)
  exact hp x σ F1 H1 f1 fp1 a .refl
/-- a name is handed back: its tree goes along -/
def sRetV (i : Nat) : FS := fun η => match η[i]? with
  | some (some t) => .ok (.ret t, η.set i none)
  | _ => .bad
theorem Ok.out {K : PySem.W.Frag} {F H : Hp} {η : Env} {σ : St} {fp : List Addr} {i : Nat} {t : T} (o : Ok K F H η σ fp) (e : η[i]? = some (some t)) : ∃ v f1 fp', σ[i]? = some (some v) ∧ Aft K fp F H σ [t] [v] (η.set i none) F H f1 fp' := by
  obtain ⟨s, h, r, h1, h2, h3, h4⟩ := o.rs.focus (List.getElem?_eq_some_iff.mp e).1
  obtain ⟨v, rfl, rt⟩ := h3 _ e
  obtain ⟨f', rs', pm⟩ := (h4 F H (.refl _) fun _ _ _ z => z).2 (some v)
  rw [set_self h1] at rs'
  have nd : (h ++ r).Nodup := h2.nodup_iff.mp o.nd
  have pm2 : (h ++ f').Perm fp := (pm.append_left h).trans h2.symm
  exact ⟨v, h, f', h1, .one rt, rs', pm2.nodup_iff.mpr o.nd, fun x hx => o.fn x (pm2.mem_iff.mp hx), o.fh, .refl, fun x hx => .inl (pm2.mem_iff.mp hx)⟩
theorem psd_retV {e : Expr} {i : Nat} {pos : Pos} (he : PE X e (tVar i)) : PS X (.Return (some e) pos) (tS C io (sRetV i)) := by
  refine (ps_ret he).impD fun D σ H ⟨η, F, fp, o, q⟩ => ?_
  unfold sRetV at q
  split at q
  · rename_i t e
    obtain ⟨v, f1, fp', h1, a⟩ := o.out e
    exact ⟨v, h1, q v σ F H f1 fp' a .refl⟩
  · exact q.elim
def sRetN : FS := fun η => .ok (.ret (.sh .none), η)
theorem psd_retN {pos : Pos} : PS X (.Return none pos) (tS C io sRetN) := ps_retN.impD fun D σ H ⟨η, F, fp, o, q⟩ => q .non σ F H [] fp (o.res (.here o.fh rp_c.2.2.2)) .refl
def sIf (c : FB) (f g : FS) : FS := fun η => (c η).bind fun p => if p.1 then f p.2 else g p.2
theorem psd_if {c0 : Expr} {a b : List Stmt} {c : FB} {f g : FS} {pos : Pos} (hc : PT X c0 (tB C c)) (ha : PSs X a (tS C io f)) (hb : PSs X b (tS C io g)) : PS X (.If c0 a b pos) (tS C io (sIf c f g)) := by
  refine (ps_if hc ha hb).impD fun D σ H ⟨η, F, fp, o, q⟩ => ?_
  refine tB_step o.aft (Rs.post_mono (Rs.post_bind q) (fun p hp F1 H1 f1 fp1 a => ?_) fun _ _ z => z.xp)
  have hf : f1 = [] := by have := a.rt; simp only [RTs] at this; exact this.2
  subst hf
  cases e : p.1 with
  | true =>
    rw [e, if_pos rfl] at hp
    rw [if_pos rfl]
    exact tS_step a .refl hp
  | false =>
    rw [e, if_neg Bool.false_ne_true] at hp
    rw [if_neg Bool.false_ne_true]
    exact tS_step a .refl hp
/-! ### targets -/
/-- only the slots ws may change -/
def Chg (ws : List Nat) (σ σ' : St) : Prop := σ'.length = σ.length ∧ ∀ j, j ∉ ws → σ'[j]? = σ[j]?
theorem Chg.toIO {ws : List Nat} {σ σ' : St} (h : Chg ws σ σ') (d : ∀ j ∈ io, j ∉ ws) : IO io σ σ' := fun j hj => h.2 j (d j hj)
abbrev FG := T → Env → Rs Env
def tG (C : Cn) (ws : List Nat) (h : FG) : TG := fun v σ H Q => ∃ η F fp t f, Aft C.K (f ++ fp) F H σ [t] [v] η F H f fp ∧ (h t η).post (fun η' => ∀ σ' F' H' fp', Aft C.K (f ++ fp) F H σ' [] [] η' F' H' [] fp' → Chg ws σ σ' → Q σ' H') (XPS C (f ++ fp) F H)
theorem Aft.self {K : PySem.W.Frag} {fp : List Addr} {F H : Hp} {σ : St} {ts : List T} {vs : List V} {η' : Env} {F' H' : Hp} {f1 fp' : List Addr} (a : Aft K fp F H σ ts vs η' F' H' f1 fp') : Aft K (f1 ++ fp') F' H' σ ts vs η' F' H' f1 fp' :=
  ⟨a.rt, a.rs, a.nd, a.fn, a.fh, .refl, fun x hx => .inl hx⟩
/-- a name takes a value -/
theorem Aft.put {K : PySem.W.Frag} {fp : List Addr} {F H : Hp} {σ : St} {t : T} {v : V} {η' : Env} {F' H' : Hp} {f1 fp' : List Addr} (i : Nat) (a : Aft K fp F H σ [t] [v] η' F' H' f1 fp') :
    ∃ fp2, Aft K fp F H (σ.set i (some v)) [] [] (η'.set i (some t)) F' H' [] fp2 := by
  by_cases hi : i < η'.length
  · obtain ⟨s, h, r, h1, h2, h3, h4⟩ := a.rs.focus hi
    obtain ⟨f', rs', pm⟩ := (h4 F' H' (.refl _) fun _ _ _ z => z).1 t v f1 a.rt1
    have sb : ∀ x ∈ f', x ∈ f1 ++ fp' := fun x hx => by
      rcases List.mem_append.mp (pm.mem_iff.mp hx) with hx | hx
      · simp [hx]
      · exact List.mem_append.mpr (.inr (h2.mem_iff.mpr (List.mem_append.mpr (.inr hx))))
    refine ⟨f', .nil, rs', ?_, fun x hx => a.fn x (sb x (by simpa using hx)), a.fh, a.ext, fun x hx => a.sub x (sb x (by simpa using hx))⟩
    rw [List.nil_append]
    refine pm.nodup_iff.mpr (List.nodup_append.mpr ⟨(List.nodup_append.mp a.nd).1, ?_, fun x hx y hy e => ?_⟩)
    · exact (List.nodup_append.mp (h2.nodup_iff.mp (List.nodup_append.mp a.nd).2.1)).2.1
    · exact (List.nodup_append.mp a.nd).2.2 x hx y (h2.mem_iff.mpr (by simp [hy])) e
  · have hl := a.rs.len
    rw [List.set_eq_of_length_le (by omega), List.set_eq_of_length_le (by omega)]
    exact ⟨fp', a.drop⟩
def gN (i : Nat) : FG := fun t η => .ok (η.set i (some t))
theorem pgd_name {i : Nat} {x : Str} {pos : Pos} (h : PG X (.Name x pos) (gName i)) : PG X (.Name x pos) (tG C [i] (gN i)) := by
  refine ⟨fun pins s σ H v u Q I r ⟨η, F, fp, t, f, a, q⟩ => h.run pins s σ H v u Q I r ?_⟩
  obtain ⟨fp2, a2⟩ := a.put i
  refine q _ F H fp2 a2 ⟨by simp, fun j hj => ?_⟩
  have : i ≠ j := fun e => hj (by simp [e])
  rw [List.getElem?_set_ne this]
/-- several targets take data -/
abbrev FGs := List PyData → Env → Rs Env
def gsNil : FGs := fun ds η => match ds with
  | [] => .ok η
  | _ => .bad
def gsCons (h : FG) (hs : FGs) : FGs := fun ds η => match ds with
  | d :: ds => (h (.sh d) η).bind fun η1 => hs ds η1
  | [] => .bad
def tGs (C : Cn) (ws : List Nat) (h : FGs) : TGs := fun vs σ H Q => ∃ η F fp ds, Ok C.K F H η σ fp ∧ RpAll C.K F ds vs ∧ (h ds η).post (fun η' => ∀ σ' F' H' fp', Aft C.K fp F H σ' [] [] η' F' H' [] fp' → Chg ws σ σ' → Q σ' H') (XPS C fp F H)
theorem _root_.L2.PGs.impD {X : Cx} {e : List Expr} {t t' : TGs} (h : PGs X e t) (k : ∀ v σ H Q, t' v σ H Q → t v σ H Q) : PGs X e t' := ⟨fun pins s σ H v u Q I r q => h.run pins s σ H v u Q I r (k v σ H Q q)⟩
theorem _root_.L2.PG.impD {X : Cx} {e : Expr} {t t' : TG} (h : PG X e t) (k : ∀ v σ H Q, t' v σ H Q → t v σ H Q) : PG X e t' := ⟨fun pins s σ H v u Q I r q => h.run pins s σ H v u Q I r (k v σ H Q q)⟩
theorem pgsd_nil : PGs X [] (tGs C [] gsNil) := by
  refine pgs_nil.impD fun vs σ H Q ⟨η, F, fp, ds, o, rp, q⟩ => ?_
  unfold gsNil at q
  split at q
  · simp only [RpAll] at rp
    exact ⟨rp, q σ F H fp o.aft ⟨rfl, fun _ _ => rfl⟩⟩
  · exact q.elim
theorem pgsd_cons {e : Expr} {es : List Expr} {ws wss : List Nat} {h : FG} {hs : FGs} (h1 : PG X e (tG C ws h)) (h2 : PGs X es (tGs C wss hs))
    (ha : (assignEach (e :: es) X.env).map (·.2) = assign e X.env :: (assignEach es X.env).map (·.2) := by rfl) : PGs X (e :: es) (tGs C (ws ++ wss) (gsCons h hs)) := by
  refine (pgs_cons h1 h2 ha).impD fun vs σ H Q ⟨η, F, fp, ds, o, rp, q⟩ => ?_
  unfold gsCons at q
  split at q
  · rename_i d ds
    obtain ⟨x, xs, rfl, r1, r2⟩ := rp.uncons
    have a0 : Aft C.K fp F H σ [.sh d] [x] η F H [] fp := o.res (.here o.fh r1)
    refine ⟨x, xs, rfl, η, F, fp, .sh d, [], a0.self, Rs.post_mono (Rs.post_bind q) (fun η1 hq σ1 F1 H1 fp1 b c1 => ?_) fun _ _ z => z⟩
    have b : Aft C.K fp F H σ1 [] [] η1 F1 H1 [] fp1 := b
    refine ⟨η1, F1, fp1, ds, b.ok, r2.mono b.ext.ff, Rs.post_mono hq (fun η2 hq2 σ2 F2 H2 fp2 c c2 => hq2 σ2 F2 H2 fp2 (b.thn c) ⟨c2.1.trans c1.1, fun j hj => ?_⟩) fun _ _ z => z.back b⟩
    rw [List.mem_append, not_or] at hj
    exact (c2.2 j hj.2).trans (c1.2 j hj.1)
  · exact q.elim
def gTupD (n : Nat) (hs : FGs) : FG := fun t η => match t.val with
  | .tuple ds => if ds.length = n then hs ds η else .bad
  | _ => .bad
theorem pgd_tup {es : List Expr} {k : Nat} {pos : Pos} {ws : List Nat} {n : Nat} {hs : FGs} (hK : C.K = X.K) (hc : X.calm = true) (h : PGs X es (tGs C ws hs)) (hn : (assignEach es X.env).length = n := by rfl) (hst : (assignEach es X.env).findIdx? (·.1) = none := by rfl) :
    PG X (.Tuple es k pos) (tG C ws (gTupD n hs)) := by
  refine (pg_tup hc h hn hst).impD fun v σ H Q ⟨η, F, fp, t, f, a, q⟩ => ?_
  unfold gTupD at q
  split at q
  · rename_i ds e
    split at q
    · rename_i hl
      obtain ⟨F2, a2, rp⟩ := a.freeze
      simp only [T.vals, RpAll] at rp
      obtain ⟨x', xs, e1, r1, rfl⟩ := rp
      obtain rfl : v = x' := by simpa using e1
      rw [e] at r1
      simp only [Rp] at r1
      obtain ⟨p, xs, rfl, q1, w⟩ := r1
      refine ⟨p, xs, rfl, by rw [← hK]; exact sqT_mono a2.fh q1, by rw [w.len]; exact hl, η, F2, fp, ds, a2.ok, w, Rs.post_mono q (fun η' hq σ' F' H' fp' b c => hq σ' F' H' fp' (a2.thn b) c) fun _ _ z => z.back a2⟩
    · exact q.elim
  · exact q.elim
/-- x[i] = .., x a name that owns a list -/
def gSub (i : Nat) (g : FE) : FG := fun t η => match own η i with
  | some _ => (g η).bind fun p => match own p.2 i, p.1 with
    | some us, .sh (.int k) => match ixN us.length k with
      | some j => .ok (setL p.2 i (us.set j t))
      | none => .bad
    | _, _ => .bad
  | none => .bad
theorem pgd_sub {x : Str} {px pos : Pos} {ix : Expr} {i : Nat} {g : FE} (h : PG X (.Subscript (.Name x px) ix pos) (L2.gSub (tVar i) (tD C g) rSetL)) : PG X (.Subscript (.Name x px) ix pos) (tG C [] (gSub i g)) := by
  refine h.impD fun v σ H Q ⟨η, F, fp, t, f, a, q⟩ => ?_
  unfold gSub at q
  split at q
  · rename_i us0 e0
    obtain ⟨p0, xs0, g0, w0, _, _⟩ := a.mut (own_eq e0)
    refine ⟨.ref p0, w0.sl, ?_⟩
    refine tD_step a (Rs.post_mono (Rs.post_bind q) (fun p hp y F1 H1 f1 fp1 b => ?_) fun _ _ z => z.xp)
    have b : Aft C.K (f ++ fp) F H σ [t, p.1] [v, y] p.2 F1 H1 f1 fp1 := b
    split at hp
    · rename_i us k e1 e2
      obtain ⟨g1, g2, rfl, r1, r2⟩ := b.rt2
      rw [e2] at r2
      obtain ⟨rfl, rfl⟩ := rt_int r2
      rw [List.append_nil] at b
      split at hp
      · rename_i j hj
        have b1 : Aft C.K (f ++ fp) F H σ [t] [v] p.2 F1 H1 g1 fp1 := ⟨.one r1, b.rs, b.nd, b.fn, b.fh, b.ext, b.sub⟩
        obtain ⟨p1, xs, g', w, nd, k'⟩ := b1.mut (own_eq e1)
        obtain rfl : p0 = p1 := by have := w.sl; rw [w0.sl] at this; cases this; rfl
        have hl := w.rt.len
        have hjl : j < us.length := (ixN_seq hj).2.1
        obtain ⟨v0, d0, g3, h1, h2, h3, h4, h5⟩ := w.rt.split (k := j) (List.getElem?_eq_getElem hjl)
        obtain ⟨g4, h6, h7⟩ := h5 t v g1 r1
        have nd' := (List.nodup_cons.mp nd).2
        have hsub : ∀ x ∈ g4, x ∈ g' ++ g1 := fun x hx => by
          rcases List.mem_append.mp (h7.mem_iff.mp hx) with hx | hx
          · simp [hx]
          · exact List.mem_append.mpr (.inl (h4.mem_iff.mpr (List.mem_append.mpr (.inr hx))))
        have hnd : g4.Nodup := h7.nodup_iff.mpr (List.nodup_append.mpr ⟨(List.nodup_append.mp nd').2.1, (List.nodup_append.mp (h4.nodup_iff.mp (List.nodup_append.mp nd').1)).2.1, fun x hx y hy e => by
          subst e
          exact (List.nodup_append.mp nd').2.2 x (h4.mem_iff.mpr (by simp [hy])) x hx rfl⟩)
        obtain ⟨fp2, a2⟩ := k' (us.set j t) (xs.set j v) g4 [] [] [] h6 .nil (by simpa using hnd) (by simpa using hsub)
        refine ⟨p0, xs, k, j, rfl, rfl, w.at_, by rw [hl]; exact hj, ?_⟩
        exact hp σ F1 _ fp2 a2 ⟨rfl, fun _ _ => rfl⟩
      · exact hp.elim
    · exact hp.elim
  · exact q.elim
/-! ### assignments -/
def sAsg (f : FE) (h : FG) : FS := fun η => (f η).bind fun p => (h p.1 p.2).bind fun η' => .ok (.nx, η')
theorem t_asg {f : FE} {ws : List Nat} {h : FG} {D : Ends} {σ : St} {H : Hp} (hio : ∀ j ∈ io, j ∉ ws) (q : tS C io (sAsg f h) D σ H) : tAsg (tD C f) (tG C ws h) D σ H := by
  obtain ⟨η, F, fp, o, q⟩ := q
  refine tD_step o.aft (Rs.post_mono (Rs.post_bind q) (fun p hp x F1 H1 f1 fp1 a => ?_) fun _ _ z => z.xp)
  have a : Aft C.K fp F H σ [p.1] [x] p.2 F1 H1 f1 fp1 := a
  refine ⟨p.2, F1, fp1, p.1, f1, a.self, Rs.post_mono (Rs.post_bind hp) (fun η' hq σ' F' H' fp' b c => ?_) fun _ _ z => z.back' a⟩
  exact hq σ' F' H' fp' (a.thn b) (c.toIO hio)
theorem psd_asg {st : Stmt} {f : FE} {ws : List Nat} {h : FG} (hio : ∀ j ∈ io, j ∉ ws) (p : PS X st (tAsg (tD C f) (tG C ws h))) : PS X st (tS C io (sAsg f h)) := p.impD fun _ _ _ => t_asg hio
/-- a name's assignment by its own rule -/
theorem psd_set {st : Stmt} {f : FE} {i : Nat} (hio : i ∉ io) (p : PS X st (tAsg (tD C f) (gName i))) : PS X st (tS C io (sAsg f (gN i))) := by
  refine p.impD fun D σ H ⟨η, F, fp, o, q⟩ => ?_
  refine tD_step o.aft (Rs.post_mono (Rs.post_bind q) (fun p hp x F1 H1 f1 fp1 a => ?_) fun _ _ z => z.xp)
  have a : Aft C.K fp F H σ [p.1] [x] p.2 F1 H1 f1 fp1 := a
  obtain ⟨fp2, a2⟩ := a.put i
  exact hp _ F1 H1 fp2 a2 fun j hj => by
    have : i ≠ j := fun e => hio (e ▸ hj)
    rw [List.getElem?_set_ne this]

/-- the first value goes to a slot, the others stay -/
theorem Aft.putR {K : PySem.W.Frag} {fp : List Addr} {F H : Hp} {σ : St} {t : T} {v : V} {us : List T} {ws : List V} {η' : Env} {F' H' : Hp} {f1 fp' : List Addr} (i : Nat) (a : Aft K fp F H σ (t :: us) (v :: ws) η' F' H' f1 fp') :
    ∃ f2 fp2, Aft K fp F H (σ.set i (some v)) us ws (η'.set i (some t)) F' H' f2 fp2 := by
  obtain ⟨x, xs, g1, g2, e1, rfl, r1, r2⟩ := a.rt.uncons
  obtain ⟨rfl, rfl⟩ : v = x ∧ ws = xs := by simpa using e1
  by_cases hi : i < η'.length
  · obtain ⟨s, h, r, h1, h2, h3, h4⟩ := a.rs.focus hi
    obtain ⟨f', rs', pm⟩ := (h4 F' H' (.refl _) fun _ _ _ z => z).1 t v g1 r1
    have tot : (h ++ (g2 ++ f')).Perm ((g1 ++ g2) ++ fp') := by
      refine List.perm_iff_count.mpr fun z => ?_
      have c1 := h2.count_eq z
      have c2 := pm.count_eq z
      rw [List.count_append] at c1 c2
      rw [List.count_append, List.count_append, List.count_append, List.count_append]
      omega
    have sb : ∀ z ∈ g2 ++ f', z ∈ (g1 ++ g2) ++ fp' := fun z hz => tot.mem_iff.mp (List.mem_append.mpr (.inr hz))
    exact ⟨g2, f', r2, rs', (List.nodup_append.mp (tot.nodup_iff.mpr a.nd)).2.1, fun z hz => a.fn z (sb z hz), a.fh, a.ext, fun z hz => a.sub z (sb z hz)⟩
  · have hl := a.rs.len
    rw [List.set_eq_of_length_le (by omega), List.set_eq_of_length_le (by omega)]
    have sb : ∀ z ∈ g2 ++ fp', z ∈ (g1 ++ g2) ++ fp' := fun z hz => by
      rcases List.mem_append.mp hz with hz | hz
      · exact List.mem_append.mpr (.inl (List.mem_append.mpr (.inr hz)))
      · exact List.mem_append.mpr (.inr hz)
    have nd : (g2 ++ fp').Nodup := by
      have := a.nd
      rw [List.append_assoc] at this
      exact (List.nodup_append.mp this).2.1
    exact ⟨g2, fp', r2, a.rs, nd, fun z hz => a.fn z (sb z hz), a.fh, a.ext, fun z hz => a.sub z (sb z hz)⟩
def sPar (i j : Nat) (g : FA) : FS := fun η => (g η).bind fun p => match p.1 with
  | [t, u] => .ok (.nx, (p.2.set i (some t)).set j (some u))
  | _ => .bad
theorem psd_par {st : Stmt} {i j : Nat} {g : FA} (h1 : i ∉ io) (h2 : j ∉ io) (p : PS X st (tPar i j (tA C g))) : PS X st (tS C io (sPar i j g)) := by
  refine p.impD fun D σ H ⟨η, F, fp, o, q⟩ => ?_
  refine tA_step o.aft (Rs.post_mono (Rs.post_bind q) (fun p hp ws F1 H1 f1 fp1 a => ?_) fun _ _ z => z.xp)
  have a : Aft C.K fp F H σ p.1 ws p.2 F1 H1 f1 fp1 := a
  split at hp
  · rename_i t u e
    rw [e] at a
    have hl := a.rt.len
    match ws, hl with
    | [x, y], _ =>
      refine ⟨x, y, rfl, ?_⟩
      obtain ⟨f2, fp2, b⟩ := a.putR i
      obtain ⟨f3, fp3, c⟩ := b.putR j
      have hf : f3 = [] := by have := c.rt; simp only [RTs] at this; exact this.2
      subst hf
      refine hp _ F1 H1 fp3 c fun k hk => ?_
      have n1 : i ≠ k := fun e => h1 (e ▸ hk)
      have n2 : j ≠ k := fun e => h2 (e ▸ hk)
      rw [List.getElem?_set_ne n2, List.getElem?_set_ne n1]
  · exact hp.elim
end Pv
set_option Elab.async false
set_option linter.all false
set_option maxRecDepth 100000
set_option maxHeartbeats 4000000
/-! enumerate of a tuple; a walk of a list or a tuple, whichever it is -/
namespace PySem
open Sem (wp)
theorem meets_enumerate_new1 {v : Value} {o : Obj} {H : Heap → Prop} (B : Begins v o H) :
    Meets (Builtin.«enumerate.__new__» ⟨[.type "enumerate", v], []⟩) (fun _ R s => H s.heap ∧
      R (.ok (.ret (.ref (s.heap.push o).objs.size))) { s with heap := (s.heap.push o).push { cls := .type "enumerate", data := .fields #[.none, .bool false, .ref s.heap.objs.size, rawInt 0, .none, .none] } }) :=
  .of_wp fun prog w A R s h => by
    obtain ⟨hp, g, d, tk, os⟩ := s; obtain ⟨h1, h⟩ := h
    have hsub := sub_enumerate
    have q1 : ∀ {A' : Around} {E : Value → Shared → Prop} {Q : Value → Shared → Prop}, Q (.ref hp.objs.size) ⟨hp.push o, g, d, tk, os⟩ → wpAny (model prog w) A' (pyIter v) Q E ⟨hp, g, d, tk, os⟩ :=
      fun q => B.iter prog w _ _ ⟨hp, g, d, tk, os⟩ _ h1 q
    wp_walk using q1
    refine wpAny_stack_any fun st => wpAny_pure ?_
    split
    · rename_i c _ _ _ _ _
      cases (c == Value.type "enumerate")
      · wp_walk using q1
        exact ⟨_, rfl, h⟩
      · wp_walk using q1
        exact ⟨_, rfl, h⟩
    · wp_walk using q1
      exact ⟨_, rfl, h⟩
theorem enum_begins1 {prog : Program} {w : World} {A : Around} {E : Value → Shared → Prop} {s : Shared} {v : Value} {o : Obj} {H : Heap → Prop} {Q : Value → Shared → Prop} (B : Begins v o H) (h1 : H s.heap)
    (h : ∀ h', IsEnum h' (s.heap.objs.size + 1) s.heap.objs.size 0 .none → h'.get? s.heap.objs.size = some o → h'.objs.size = s.heap.objs.size + 2 →
      (∀ b o, s.heap.get? b = some o → h'.get? b = some o) → Q (.ref (s.heap.objs.size + 1)) { s with heap := h' }) :
    wpAny (model prog w) A (call (.type "enumerate") [v]) Q E s := by
  refine callType_new F.called_enumerate (by decide) (F.typeCall_enumerate_1 _) (F.newCall_enumerate_1 _) (fun obj => F.args_object_init_2 obj _) F.entry_enumerate_new
    (meets_enumerate_new1 B) ⟨h1, ?_⟩
  have hz : (s.heap.push o).objs.size = s.heap.objs.size + 1 := Heap.size_push ..
  show _ ∧ _
  rw [hz]
  have he : IsEnum ((s.heap.push o).push { cls := .type "enumerate", data := .fields #[.none, .bool false, .ref s.heap.objs.size, rawInt 0, .none, .none] }) (s.heap.objs.size + 1) s.heap.objs.size 0 .none := by
    show Heap.get? _ _ = _
    rw [← hz]
    exact Heap.get?_push_size _ rfl
  refine ⟨⟨_, he, rfl⟩, h _ he (Heap.get?_push_of_some _ (Heap.get?_push_size _ B.free)) (by rw [Heap.size_push, hz]) fun b o q => Heap.get?_push_of_some _ (Heap.get?_push_of_some _ q)⟩
end PySem
namespace L2
open PySem PySem.Spec PyProof.Rows
def IteT (K : PySem.W.Frag) (a : Addr) : It :=
  ⟨fun i H => ∃ (xs : List V) (x : V), SqT K H a xs ∧ xs[i]? = some x, fun i H v H' => ∃ T x, v = .ref T ∧ H T = none ∧ H' = upd H T (.tup [.int (i : Nat), x]) ∧ ∀ xs, SqT K H a xs → xs[i]? = some x, fun i H => ∃ xs : List V, SqT K H a xs ∧ xs.length ≤ i⟩
theorem turn_enumT {P : Program} {w : World} {K : PySem.W.Frag} {elts : List Expr} {kk : Nat} {tpos : Pos} (a e it : Addr) :
    Turn P w K (.Tuple elts kk tpos) (IteT K a) [e, it] e (fun i h => (∃ old, IsEnum h e it ((i : Nat) : Int) old) ∧ h.IsTupleIter it a i ∧ e ≠ it) where
  mem := by simp
  obj := fun i h st b hb => by
    obtain ⟨⟨old, he⟩, ⟨o, ho, hc, hd⟩, _⟩ := st
    have e' : b = e ∨ b = it := by simpa using hb
    rcases e' with z | z
    · rw [z]; exact ⟨_, he, fun v q => nomatch q⟩
    · rw [z]; exact ⟨o, ho, fun v q => by rw [hd] at q; cases q⟩
  keep := fun i h h' st k => let ⟨⟨old, he⟩, hi, hne⟩ := st; ⟨⟨old, k e (by simp) _ he⟩, hi.at fun o q => k it (by simp) o q, hne⟩
  item := by
    intro X hP hw hK hc i pins s σ H E I hf st hg
    subst hP hw hK
    obtain ⟨⟨old, he⟩, hit, hne⟩ := st
    obtain ⟨xs, x, hq, hx⟩ := hg
    obtain ⟨its, rv, p, hz⟩ := I.tuple hq
    obtain ⟨u, hu, ru⟩ := rv.get hx
    have hel : e < s.heap.objs.size := Heap.lt_size he
    have hil : it < s.heap.objs.size := by obtain ⟨_, q, _⟩ := hit; exact Heap.lt_size q
    have pt : s.heap.IsTuple a its.toArray := p
    have hai : a ≠ it := fun z => by
      obtain ⟨o1, e1, c1, _⟩ := pt
      obtain ⟨o2, e2, c2, _⟩ := hit
      rw [z, e2] at e1
      cases e1
      rw [c2] at c1
      exact absurd (Value.type.inj c1) (by decide)
    have hae : a ≠ e := fun z => by
      obtain ⟨o1, e1, c1, _⟩ := pt
      have he' : s.heap.get? e = some _ := he
      rw [z, he'] at e1
      cases e1
      exact absurd (Value.type.inj c1) (by decide)
    have hlt : i < its.toArray.size := by
      have := (List.getElem?_eq_some_iff.mp hu).1
      simpa using this
    refine wpAny_pyNext_enum_itemC (Draws.tuple (A := X.A.in1) (I.ok.hd hc) it a hai its.toArray) he ⟨hit, pt⟩ hlt hne (by simp [hne, hae.symm]) fun y h' tk hy ho hst hT hsz hk => ?_
    have hyu : y = u := by
      have : its.toArray[i]? = some y := hy
      rw [show its.toArray[i]? = its[i]? by simp] at this
      rw [hu] at this; cases this; rfl
    subst hyu
    refine ⟨_, rfl, wpAny_letOwnedTupleGo_enum (s := { s with heap := h', toks := tk + 1 }) ho fun h'' he' sb => ?_⟩
    have hT2 : h''.get? s.heap.objs.size = some { cls := .type "tuple", data := .seq #[.int i tk, y] } := (sb.2 _ (Nat.ne_of_gt hel)).trans hT
    have new : ObjOk X.prog X.w (upd H s.heap.objs.size (.tup [.int (i : Nat), x])) h'' s.heap.objs.size (.tup [.int (i : Nat), x]) :=
      ⟨by show 2 ≤ sizeLine; decide, [.int i tk, y], .cons ⟨_, rfl⟩ (.cons ru .nil), ⟨_, hT2, rfl, _, rfl⟩⟩
    have I1 : Inv X pins σ (upd H s.heap.objs.size (.tup [.int (i : Nat), x])) { s with heap := h'', toks := tk + 1 } :=
      I.turnedNew (ch := [e, it]) (fun b ob hb q => (sb.2 b (fun z => hb (by simp [z]))).trans (hk b ob (fun z => hb (by simp [z])) (fun z => hb (by simp [z])) q)) hf (Nat.le_refl _) new
    refine ⟨.ref s.heap.objs.size, _, I1, rfl, ⟨_, x, rfl, I.hok.fresh (Nat.le_refl _), rfl, fun ys hy => by rw [I.tuple_inj hy hq]; exact hx⟩, ⟨⟨y, ?_⟩, hst.1.at fun o q => (sb.2 it (Ne.symm hne)).trans q, hne⟩, fun b hb => ?_⟩
    · have e1 : ((i + 1 : Nat) : Int) = (i : Int) + 1 := by omega
      rw [e1]; exact he'
    · have hb' : b < s.heap.objs.size := by
        have e' : b = e ∨ b = it := by simpa using hb
        rcases e' with z | z
        · rw [z]; exact hel
        · rw [z]; exact hil
      rw [upd_ne (Nat.ne_of_lt hb')]
      exact (hf b hb).1
  done := by
    intro X hP hw hK hc i pins s σ H E I hf st hg
    subst hP hw hK
    obtain ⟨⟨old, he⟩, hit, hne⟩ := st
    obtain ⟨xs, hq, hx⟩ := hg
    obtain ⟨its, rv, p, hz⟩ := I.tuple hq
    obtain ⟨f0, f1, f2, f3, f4, f5⟩ := hf it (by simp)
    have hl := rv.length
    have hT : s.TypeIs (.ref e) "enumerate" := ⟨_, he, rfl⟩
    unfold pyNext
    refine wpAny_bind (wpAny_attempt (wpAny_callSpecial?_slot (name := Str.ofString "__next__") hT F.slot_enumerate_next
      (wpAny_call_entry F.slot_enumerate_next hT F.entry_enumerate_next ?_ (F.args_enumerate_next_1 _))))
    show wpAny _ _ (field (.ref e) 2 >>= _) _ _ _
    refine wpAny_bind (wpAny_field he rfl (x := .ref it) rfl ?_)
    refine wpAny_bind (wpAny_nextOf_tuple_end (show X.A.in1.in1.handled = none from I.ok.hd hc) hit (show s.heap.IsTuple a its.toArray from p) (by simp; omega) fun h' x he' hx' => ?_)
    obtain ⟨o, ho, hcl⟩ := hx'
    refine wpAny_bind (wpAny_isInstance (T := "StopIteration") (b := true) ⟨o, ho, hcl⟩ isSubtype_stop ?_)
    exact wpAny_pure ⟨rfl, I.turned (t' := s.toks) (fun b o hb q => he' b o hb q) f0 f1 f3 f4 f5⟩
  self := fun A i s Q E st h => let ⟨⟨_, he⟩, _⟩ := st; wpAny_pyIter_enum he h
def iEnumA (K : PySem.W.Frag) (ta : TA) : TI := fun σ H R => ta σ H fun vs H1 => ∃ a xs, vs = [.ref a] ∧ ((SqL K H1 a xs ∧ R (Ite K a) H1) ∨ (SqT K H1 a xs ∧ R (IteT K a) H1))
theorem pi_enumA {X : Cx} {e : Expr} {ta : TA} {p pos tpos : Pos} {elts : List Expr} {kk : Nat} (hg : Gl X "enumerate") (hm : X.mg "enumerate" = none) (ha : PA X [e] ta) (hs : starEach [e] X.env = [(false, eval e X.env)] := by rfl) :
    PI X (.Tuple elts kk tpos) (.Call (.Name "enumerate" p) [e] [] pos) (iEnumA X.K ta) := by
  refine ⟨fun pins s σ H R I h => ?_⟩
  refine Call_ (ld_blt I hg hm boot_enumerate (PyProof.Rows.callWith_type1 (thn (ha.run pos pins s σ H _ I h) fun us s1 ⟨vs, H1, I1, r1, q1⟩ => ?_) hs rfl))
  obtain ⟨a, xs, ex, q1⟩ := q1
  subst ex
  cases r1 with
  | cons r rr =>
    cases rr
    cases r
    have fpk : ∀ b ∈ [s1.heap.objs.size + 1, s1.heap.objs.size], s1.heap.objs.size ≤ b := fun b hb => by
      have e' : b = s1.heap.objs.size + 1 ∨ b = s1.heap.objs.size := by simpa using hb
      rcases e' with z | z
      · rw [z]; exact Nat.le_add_right _ _
      · rw [z]; exact Nat.le_refl _
    rcases q1 with ⟨hq, q⟩ | ⟨hq, q⟩
    · obtain ⟨its, rv, p', hz⟩ := I1.list hq
      refine call_enumerate_list p'.isList fun h' he hit hsz hk => wpAny_pyIter_enum he ?_
      have I2 : Inv X pins σ H1 { s1 with heap := h' } := I1.kept (t' := s1.toks) hk
      exact ⟨s1.heap.objs.size + 1, [s1.heap.objs.size + 1, s1.heap.objs.size], _, _, H1, rfl, I2, turn_enum a (s1.heap.objs.size + 1) s1.heap.objs.size, ⟨⟨.none, he⟩, hit, Nat.succ_ne_self _⟩, fun b hb => I1.fpOk (fpk b hb) (I1.hok.fresh (fpk b hb)), q⟩
    · obtain ⟨its, rv, p', hz⟩ := I1.tuple hq
      refine enum_begins1 (begins_tuple a its.toArray) (show s1.heap.IsTuple a its.toArray from p') fun h' he hit hsz hk => wpAny_pyIter_enum he ?_
      have I2 : Inv X pins σ H1 { s1 with heap := h' } := I1.kept (t' := s1.toks) hk
      exact ⟨s1.heap.objs.size + 1, [s1.heap.objs.size + 1, s1.heap.objs.size], _, _, H1, rfl, I2, turn_enumT a (s1.heap.objs.size + 1) s1.heap.objs.size, ⟨⟨.none, he⟩, ⟨_, hit, rfl, rfl⟩, Nat.succ_ne_self _⟩, fun b hb => I1.fpOk (fpk b hb) (I1.hok.fresh (fpk b hb)), q⟩
/-- a list or a tuple -/
def iSeq (K : PySem.W.Frag) (tl : TE) : TI := fun σ H R => tl σ H fun x H1 => ∃ a xs, x = .ref a ∧ ((SqL K H1 a xs ∧ R (Itl K a) H1) ∨ (SqT K H1 a xs ∧ R (Itt K a) H1))
theorem pi_seq {X : Cx} {tg l : Expr} {tl : TE} (hl : PE X l tl) : PI X tg l (iSeq X.K tl) := by
  refine ⟨fun pins s σ H R I h => ?_⟩
  refine thn (hl.run pins s σ H _ I h) fun v s1 ⟨x, H1, I1, r1, q1⟩ => ?_
  obtain ⟨a, xs, e, q⟩ := q1
  subst e
  cases r1
  have fresh : ∀ b ∈ [s1.heap.objs.size], FpOk X pins H1 b := fun b hb => by
    have e : b = s1.heap.objs.size := by simpa using hb
    subst e
    exact I1.fpOk (Nat.le_refl _) (I1.hok.fresh (Nat.le_refl _))
  rcases q with ⟨hq, q⟩ | ⟨hq, q⟩
  · obtain ⟨its, rv, p, hz⟩ := I1.list hq
    refine wpAny_pyIter_list p.isList ?_
    exact ⟨s1.heap.objs.size, [s1.heap.objs.size], _, _, H1, rfl, I1.kept (t' := s1.toks) fun b o e => Heap.get?_push_of_some _ e, turn_list a _, ⟨_, Heap.get?_push_size _ rfl, rfl, rfl⟩, fresh, q⟩
  · obtain ⟨its, rv, p, hz⟩ := I1.tuple hq
    refine wpAny_pyIter_tuple (show s1.heap.IsTuple a its.toArray from p) ?_
    exact ⟨s1.heap.objs.size, [s1.heap.objs.size], _, _, H1, rfl, I1.kept (t' := s1.toks) fun b o e => Heap.get?_push_of_some _ e, turn_tuple a _, ⟨_, Heap.get?_push_size _ rfl, rfl, rfl⟩, fresh, q⟩
end L2
set_option Elab.async false
set_option linter.all false
set_option maxRecDepth 100000
set_option maxHeartbeats 4000000
namespace Pv
open PySem L2 RZ
variable {X : Cx} {C : Cn}

/-! ### what is walked -/
/-- ds: what the walk yields; inv: what must stay -/
structure ItOk (K : PySem.W.Frag) (inv : Hp → Hp → Prop) (F : Hp) (ds : List PyData) (J : It) : Prop where
  go : ∀ (i : Nat) (Fk Hk : Hp), i < ds.length → Same F Fk → Same Fk Hk → inv Fk Hk → J.go i Hk
  stop : ∀ (Fk Hk : Hp), Same F Fk → Same Fk Hk → inv Fk Hk → J.stop ds.length Hk
  yld : ∀ (i : Nat) (d : PyData) (Fk Hk : Hp) (x : V) (H' : Hp), ds[i]? = some d → Same F Fk → Same Fk Hk → inv Fk Hk → J.yld i Hk x H' → ∃ F2, ResOk K Fk Hk (.sh d) x F2 H' []
def inv0 : Hp → Hp → Prop := fun _ _ => True
abbrev FI := Env → Rs (List PyData × Env)
/-- a walk of an expression's value -/
def tI (C : Cn) (f : FI) : TI := fun σ H R => ∃ η F fp, Ok C.K F H η σ fp ∧ (f η).post (fun p => ∀ F' H' fp' J, Aft C.K fp F H σ [] [] p.2 F' H' [] fp' → ItOk C.K inv0 F' p.1 J → R J H') (XP C fp F H σ)
/-- a walk of what stands in slot i -/
def tIV (C : Cn) (i : Nat) : TI := fun σ H R => ∃ η F fp d ds v, Ok C.K F H η σ fp ∧ pk η i = some d ∧ (d = .list ds ∨ d = .tuple ds) ∧ σ[i]? = some (some v) ∧
  ∀ J, ItOk C.K (fun Fk Hk => Rq C.K Fk Hk d v) F ds J → R J H
theorem _root_.L2.PI.impD {X : Cx} {tg e : Expr} {t t' : TI} (h : PI X tg e t) (k : ∀ σ H R, t' σ H R → t σ H R) : PI X tg e t' := ⟨fun pins s σ H R I q => h.run pins s σ H R I (k σ H R q)⟩
def seqOf : PyData → Option (List PyData)
  | .list ds => some ds
  | .tuple ds => some ds
  | _ => none
theorem seqOf_eq {d : PyData} {ds : List PyData} (h : seqOf d = some ds) : d = .list ds ∨ d = .tuple ds := by
  cases d <;> simp_all [seqOf]
def iE (f : FE) : FI := fun η => (f η).bind fun p => match seqOf p.1.val with
  | some ds => .ok (ds, p.2)
  | none => .bad
theorem itl_ok {K : PySem.W.Frag} {F H : Hp} {ds : List PyData} {a : Addr} {xs : List V} (q : SqL K F a xs) (rp : RpAll K F ds xs) : ItOk K inv0 F ds (Itl K a) where
  go := fun i Fk Hk hi sf sh _ => by
    have hl := rp.len
    exact ⟨xs, xs[i]'(by omega), sqL_mono sh (sqL_mono sf q), by simp [hl, hi]⟩
  stop := fun Fk Hk sf sh _ => ⟨xs, sqL_mono sh (sqL_mono sf q), by rw [rp.len]; exact Nat.le_refl _⟩
  yld := fun i d Fk Hk x H' hd sf sh _ y => by
    obtain ⟨e, y⟩ := y
    subst e
    obtain ⟨v, h1, h2⟩ := rp.get hd
    have := y xs (sqL_mono sh (sqL_mono sf q))
    rw [h1] at this; cases this
    exact ⟨Fk, .here sh (h2.mono sf)⟩
theorem itt_ok {K : PySem.W.Frag} {F H : Hp} {ds : List PyData} {a : Addr} {xs : List V} (q : SqT K F a xs) (rp : RpAll K F ds xs) : ItOk K inv0 F ds (Itt K a) where
  go := fun i Fk Hk hi sf sh _ => by
    have hl := rp.len
    exact ⟨xs, xs[i]'(by omega), sqT_mono sh (sqT_mono sf q), by simp [hl, hi]⟩
  stop := fun Fk Hk sf sh _ => ⟨xs, sqT_mono sh (sqT_mono sf q), by rw [rp.len]; exact Nat.le_refl _⟩
  yld := fun i d Fk Hk x H' hd sf sh _ y => by
    obtain ⟨e, y⟩ := y
    subst e
    obtain ⟨v, h1, h2⟩ := rp.get hd
    have := y xs (sqT_mono sh (sqT_mono sf q))
    rw [h1] at this; cases this
    exact ⟨Fk, .here sh (h2.mono sf)⟩
theorem pid_seq {tg e : Expr} {f : FE} (hK : C.K = X.K) (h : PE X e (tD C f)) : PI X tg e (tI C (iE f)) := by
  refine (pi_seq (tg := tg) h).impD fun σ H R ⟨η, F, fp, o, q⟩ => ?_
  refine tD_step o.aft (Rs.post_mono (Rs.post_bind q) (fun p hp x F1 H1 f1 fp1 a => ?_) fun _ _ z => z)
  split at hp
  · rename_i ds e
    obtain ⟨F2, a2, rp⟩ := a.freeze
    simp only [List.nil_append, T.vals, RpAll] at rp
    obtain ⟨x', xs, e1, r1, rfl⟩ := rp
    obtain rfl : x = x' := by simpa using e1
    rcases seqOf_eq e with e | e
    · rw [e] at r1
      simp only [Rp] at r1
      obtain ⟨p', xs, rfl, q1, w⟩ := r1
      refine ⟨p', xs, rfl, .inl ⟨by rw [← hK]; exact sqL_mono a2.fh q1, hp F2 H1 fp1 _ a2 ?_⟩⟩
      rw [← hK]
      exact itl_ok (H := H1) q1 w
    · rw [e] at r1
      simp only [Rp] at r1
      obtain ⟨p', xs, rfl, q1, w⟩ := r1
      refine ⟨p', xs, rfl, .inr ⟨by rw [← hK]; exact sqT_mono a2.fh q1, hp F2 H1 fp1 _ a2 ?_⟩⟩
      rw [← hK]
      exact itt_ok (H := H1) q1 w
  · exact hp.elim
/-- .. of a name -/
theorem pid_seqV {tg e : Expr} {i : Nat} (hK : C.K = X.K) (h : PE X e (tVar i)) : PI X tg e (tIV C i) := by
  refine (pi_seq (tg := tg) h).impD fun σ H R ⟨η, F, fp, d, ds, v, o, e, ed, hv, k⟩ => ?_
  obtain ⟨w, hw, rq⟩ := pk_rq o e
  obtain rfl : v = w := by rw [hv] at hw; cases hw; rfl
  refine ⟨v, hv, ?_⟩
  rcases ed with rfl | rfl
  · obtain ⟨a, xs, rfl, q, rp⟩ := rq_list o.fh rq
    refine ⟨a, xs, rfl, .inl ⟨by rw [← hK]; exact q, k _ ?_⟩⟩
    rw [← hK]
    refine ⟨fun i Fk Hk hi sf sh iv => ?_, fun Fk Hk sf sh iv => ?_, fun i d Fk Hk x H' hd sf sh iv y => ?_⟩
    · obtain ⟨a', xs', e', q', rp'⟩ := rq_list sh iv
      cases e'
      have hl := rp'.len
      exact ⟨xs', xs'[i]'(by omega), q', by simp [hl, hi]⟩
    · obtain ⟨a', xs', e', q', rp'⟩ := rq_list sh iv
      cases e'
      exact ⟨xs', q', by rw [rp'.len]; exact Nat.le_refl _⟩
    · obtain ⟨a', xs', e', q', rp'⟩ := rq_list sh iv
      cases e'
      obtain ⟨e, y⟩ := y
      subst e
      obtain ⟨v, h1, h2⟩ := rp'.get hd
      have := y xs' q'
      rw [h1] at this; cases this
      exact ⟨Fk, .here sh h2⟩
  · obtain ⟨a, xs, rfl, q, rp⟩ := rq_tup rq
    refine ⟨a, xs, rfl, .inr ⟨by rw [← hK]; exact sqT_mono o.fh q, k _ ?_⟩⟩
    rw [← hK]
    have w := itt_ok (H := H) q rp
    exact ⟨fun i Fk Hk hi sf sh _ => w.go i Fk Hk hi sf sh trivial, fun Fk Hk sf sh _ => w.stop Fk Hk sf sh trivial, fun i d Fk Hk x H' hd sf sh _ y => w.yld i d Fk Hk x H' hd sf sh trivial y⟩
/-! range -/
def rg62 (i : Int) : Bool := decide (-1000000000 ≤ i) && decide (i ≤ 1000000000)
def iR1 (f : FE) : FI := fun η => (f η).bind fun p => match p.1 with
  | .sh (.int j) => if rg62 j then .ok (rgD 0 j, p.2) else .bad
  | _ => .bad
def iR2 (f g : FE) : FI := fun η => (f η).bind fun p => (g p.2).bind fun q => match p.1, q.1 with
  | .sh (.int i), .sh (.int j) => if rg62 i && rg62 j then .ok (rgD i j, q.2) else .bad
  | _, _ => .bad
theorem itr_ok {K : PySem.W.Frag} {F : Hp} (i j : Int) : ItOk K inv0 F (rgD i j) (Itr i (j - i).toNat) where
  go := fun k Fk Hk hk _ _ _ => by
    show k < (j - i).toNat
    simpa [rgD] using hk
  stop := fun Fk Hk _ _ _ => by
    show (j - i).toNat ≤ (rgD i j).length
    simp [rgD]
  yld := fun k d Fk Hk x H' hd sf sh _ y => by
    obtain ⟨e, y⟩ := y
    subst e y
    refine ⟨Fk, .here sh ?_⟩
    unfold rgD at hd
    rw [List.getElem?_map] at hd
    cases e : (List.range (j - i).toNat)[k]? with
    | none => rw [e] at hd; cases hd
    | some m =>
      rw [e] at hd
      cases hd
      have : m = k := by
        obtain ⟨h1, h2⟩ := List.getElem?_eq_some_iff.mp e
        simpa using h2.symm
      subst this
      exact rp_c.1
theorem rg62_ok {i : Int} (h : rg62 i = true) : -(2 ^ 62) ≤ i ∧ i < 2 ^ 62 := by
  unfold rg62 at h
  simp only [Bool.and_eq_true, decide_eq_true_eq] at h
  have e : (2 : Int) ^ 62 = 4611686018427387904 := by decide
  rw [e]
  omega
theorem pid_r1 {tg e : Expr} {f : FE} (h : PI X tg e (iRng1 (tCons (tD C f) tNil))) : PI X tg e (tI C (iR1 f)) := by
  refine h.impD fun σ H R ⟨η, F, fp, o, q⟩ => ?_
  refine tD_step o.aft (Rs.post_mono (Rs.post_bind q) (fun p hp x F1 H1 f1 fp1 a => ?_) fun _ _ z => z)
  have a : Aft C.K fp F H σ [p.1] [x] p.2 F1 H1 f1 fp1 := a
  split at hp
  · rename_i j e
    rw [e] at a
    split at hp
    · rename_i hr
      obtain ⟨rfl, rfl⟩ := rt_int a.rt1
      obtain ⟨h1, h2⟩ := rg62_ok hr
      refine ⟨j, rfl, h1, h2, hp F1 H1 fp1 _ a.drop ?_⟩
      have := itr_ok (K := C.K) (F := F1) 0 j
      simpa using this
    · exact hp.elim
  · exact hp.elim
theorem pid_r2 {tg e : Expr} {f g : FE} (h : PI X tg e (iRng2 (tCons (tD C f) (tCons (tD C g) tNil)))) : PI X tg e (tI C (iR2 f g)) := by
  refine h.impD fun σ H R ⟨η, F, fp, o, q⟩ => ?_
  refine tD_step o.aft (Rs.post_mono (Rs.post_bind q) (fun p hp x F1 H1 f1 fp1 a => ?_) fun _ _ z => z)
  refine tD_step a (Rs.post_mono (Rs.post_bind hp) (fun p2 hp2 y F2 H2 f2 fp2 b => ?_) fun _ _ z => z)
  have b : Aft C.K fp F H σ [p.1, p2.1] [x, y] p2.2 F2 H2 f2 fp2 := b
  split at hp2
  · rename_i i j e1 e2
    split at hp2
    · rename_i hr
      simp only [Bool.and_eq_true] at hr
      obtain ⟨g1, g2, rfl, r1, r2⟩ := b.rt2
      rw [e1] at r1
      rw [e2] at r2
      obtain ⟨rfl, rfl⟩ := rt_int r1
      obtain ⟨rfl, rfl⟩ := rt_int r2
      obtain ⟨h1, h2⟩ := rg62_ok hr.1
      obtain ⟨h3, h4⟩ := rg62_ok hr.2
      exact ⟨i, j, rfl, ⟨h1, h2, h3, h4⟩, hp2 F2 H2 fp2 _ b.drop (itr_ok i j)⟩
    · exact hp2.elim
  · exact hp2.elim
/-! enumerate, zip: pairs -/
def enumD : Nat → List PyData → List PyData
  | _, [] => []
  | n, d :: ds => .tuple [.int n, d] :: enumD (n + 1) ds
theorem enumD_len : ∀ (n : Nat) (ds : List PyData), (enumD n ds).length = ds.length
  | _, [] => rfl
  | n, d :: ds => by simp [enumD, enumD_len (n + 1) ds]
theorem enumD_get : ∀ (n : Nat) (ds : List PyData) (i : Nat) (e : PyData), (enumD n ds)[i]? = some e → ∃ d, ds[i]? = some d ∧ e = .tuple [.int ((n + i : Nat) : Int), d]
  | _, [], i, e, h => by simp [enumD] at h
  | n, d :: ds, 0, e, h => by
    simp only [enumD, List.getElem?_cons_zero, Option.some.injEq] at h
    exact ⟨d, rfl, h.symm⟩
  | n, d :: ds, i + 1, e, h => by
    simp only [enumD, List.getElem?_cons_succ] at h
    obtain ⟨d', h1, h2⟩ := enumD_get (n + 1) ds i e h
    refine ⟨d', by simpa using h1, ?_⟩
    rw [h2]
    congr 3
    omega
def zipD : List PyData → List PyData → List PyData
  | a :: as, b :: bs => .tuple [a, b] :: zipD as bs
  | _, _ => []
theorem zipD_len : ∀ (as bs : List PyData), (zipD as bs).length = min as.length bs.length
  | [], _ => by simp [zipD]
  | _ :: _, [] => by simp [zipD]
  | a :: as, b :: bs => by
    simp [zipD, zipD_len as bs]
theorem zipD_get : ∀ (as bs : List PyData) (i : Nat) (e : PyData), (zipD as bs)[i]? = some e → ∃ a b, as[i]? = some a ∧ bs[i]? = some b ∧ e = .tuple [a, b]
  | [], _, i, e, h => by simp [zipD] at h
  | _ :: _, [], i, e, h => by simp [zipD] at h
  | a :: as, b :: bs, 0, e, h => by
    simp only [zipD, List.getElem?_cons_zero, Option.some.injEq] at h
    exact ⟨a, b, rfl, rfl, h.symm⟩
  | a :: as, b :: bs, i + 1, e, h => by
    simp only [zipD, List.getElem?_cons_succ] at h
    obtain ⟨a', b', h1, h2, h3⟩ := zipD_get as bs i e h
    exact ⟨a', b', by simpa using h1, by simpa using h2, h3⟩
/-- a list or a tuple, read -/
def Sq (K : PySem.W.Frag) (F : Hp) (ds : List PyData) (a : Addr) (xs : List V) (l : Bool) : Prop := RpAll K F ds xs ∧ (if l then SqL K F a xs else SqT K F a xs)
theorem pair_new {K : PySem.W.Frag} {Fk Hk : Hp} {d e : PyData} {x y : V} {p : Addr} (sh : Same Fk Hk) (h1 : Rp K Fk d x) (h2 : Rp K Fk e y) (hp : Hk p = none) : ∃ F2, ResOk K Fk Hk (.sh (.tuple [d, e])) (.ref p) F2 (upd Hk p (.tup [x, y])) [] :=
  ⟨_, .tup sh (.consI h1 (.one h2)) hp⟩
theorem ite_ok {K : PySem.W.Frag} {F : Hp} {ds : List PyData} {a : Addr} {xs : List V} (q : SqL K F a xs) (rp : RpAll K F ds xs) : ItOk K inv0 F (enumD 0 ds) (Ite K a) where
  go := fun i Fk Hk hi sf sh _ => by
    have hl := rp.len
    rw [enumD_len] at hi
    exact ⟨xs, xs[i]'(by omega), sqL_mono sh (sqL_mono sf q), by simp [hl, hi]⟩
  stop := fun Fk Hk sf sh _ => ⟨xs, sqL_mono sh (sqL_mono sf q), by rw [enumD_len, rp.len]; exact Nat.le_refl _⟩
  yld := fun i d Fk Hk x H' hd sf sh _ y => by
    obtain ⟨p, u, rfl, hp, rfl, y⟩ := y
    obtain ⟨d', h1, rfl⟩ := enumD_get _ _ _ _ hd
    obtain ⟨v, h2, h3⟩ := rp.get h1
    have := y xs (sqL_mono sh (sqL_mono sf q))
    rw [h2] at this; cases this
    rw [Nat.zero_add]
    exact pair_new sh rp_c.1 (h3.mono sf) hp
theorem iteT_ok {K : PySem.W.Frag} {F : Hp} {ds : List PyData} {a : Addr} {xs : List V} (q : SqT K F a xs) (rp : RpAll K F ds xs) : ItOk K inv0 F (enumD 0 ds) (IteT K a) where
  go := fun i Fk Hk hi sf sh _ => by
    have hl := rp.len
    rw [enumD_len] at hi
    exact ⟨xs, xs[i]'(by omega), sqT_mono sh (sqT_mono sf q), by simp [hl, hi]⟩
  stop := fun Fk Hk sf sh _ => ⟨xs, sqT_mono sh (sqT_mono sf q), by rw [enumD_len, rp.len]; exact Nat.le_refl _⟩
  yld := fun i d Fk Hk x H' hd sf sh _ y => by
    obtain ⟨p, u, rfl, hp, rfl, y⟩ := y
    obtain ⟨d', h1, rfl⟩ := enumD_get _ _ _ _ hd
    obtain ⟨v, h2, h3⟩ := rp.get h1
    have := y xs (sqT_mono sh (sqT_mono sf q))
    rw [h2] at this; cases this
    rw [Nat.zero_add]
    exact pair_new sh rp_c.1 (h3.mono sf) hp
def iEn (f : FE) : FI := fun η => (f η).bind fun p => match seqOf p.1.val with
  | some ds => .ok (enumD 0 ds, p.2)
  | none => .bad
theorem pid_enum {tg e : Expr} {f : FE} (hK : C.K = X.K) (h : PI X tg e (iEnumA X.K (tCons (tD C f) tNil))) : PI X tg e (tI C (iEn f)) := by
  refine h.impD fun σ H R ⟨η, F, fp, o, q⟩ => ?_
  refine tD_step o.aft (Rs.post_mono (Rs.post_bind q) (fun p hp x F1 H1 f1 fp1 a => ?_) fun _ _ z => z)
  split at hp
  · rename_i ds e
    obtain ⟨F2, a2, rp⟩ := a.freeze
    simp only [List.nil_append, T.vals, RpAll] at rp
    obtain ⟨x', xs, e1, r1, rfl⟩ := rp
    obtain rfl : x = x' := by simpa using e1
    rcases seqOf_eq e with e | e
    · rw [e] at r1
      simp only [Rp] at r1
      obtain ⟨p', xs, rfl, q1, w⟩ := r1
      refine ⟨p', xs, rfl, .inl ⟨by rw [← hK]; exact sqL_mono a2.fh q1, hp F2 H1 fp1 _ a2 ?_⟩⟩
      rw [← hK]
      exact ite_ok q1 w
    · rw [e] at r1
      simp only [Rp] at r1
      obtain ⟨p', xs, rfl, q1, w⟩ := r1
      refine ⟨p', xs, rfl, .inr ⟨by rw [← hK]; exact sqT_mono a2.fh q1, hp F2 H1 fp1 _ a2 ?_⟩⟩
      rw [← hK]
      exact iteT_ok q1 w
  · exact hp.elim
theorem itz_ok {K : PySem.W.Frag} {F : Hp} {ds es : List PyData} {a b : Addr} {xs ys : List V} (q : SqL K F a xs) (rp : RpAll K F ds xs) (q2 : SqL K F b ys) (rp2 : RpAll K F es ys) : ItOk K inv0 F (zipD ds es) (Itz K a b) where
  go := fun i Fk Hk hi sf sh _ => by
    have hl := rp.len
    have hl2 := rp2.len
    rw [zipD_len] at hi
    exact ⟨xs, ys, xs[i]'(by omega), ys[i]'(by omega), sqL_mono sh (sqL_mono sf q), sqL_mono sh (sqL_mono sf q2), List.getElem?_eq_getElem _, List.getElem?_eq_getElem _⟩
  stop := fun Fk Hk sf sh _ => ⟨xs, ys, sqL_mono sh (sqL_mono sf q), sqL_mono sh (sqL_mono sf q2), by rw [zipD_len, rp.len, rp2.len]; omega⟩
  yld := fun i d Fk Hk x H' hd sf sh _ y => by
    obtain ⟨p, u, u2, rfl, hp, rfl, y, y2⟩ := y
    obtain ⟨d', e', h1, h1', rfl⟩ := zipD_get _ _ _ _ hd
    obtain ⟨v, h2, h3⟩ := rp.get h1
    obtain ⟨v2, h4, h5⟩ := rp2.get h1'
    have := y xs (sqL_mono sh (sqL_mono sf q))
    rw [h2] at this; cases this
    have := y2 ys (sqL_mono sh (sqL_mono sf q2))
    rw [h4] at this; cases this
    exact pair_new sh (h3.mono sf) (h5.mono sf) hp
theorem itzT_ok {K : PySem.W.Frag} {F : Hp} {ds es : List PyData} {a b : Addr} {xs ys : List V} (q : SqT K F a xs) (rp : RpAll K F ds xs) (q2 : SqT K F b ys) (rp2 : RpAll K F es ys) : ItOk K inv0 F (zipD ds es) (ItzT K a b) where
  go := fun i Fk Hk hi sf sh _ => by
    have hl := rp.len
    have hl2 := rp2.len
    rw [zipD_len] at hi
    exact ⟨xs, ys, xs[i]'(by omega), ys[i]'(by omega), sqT_mono sh (sqT_mono sf q), sqT_mono sh (sqT_mono sf q2), List.getElem?_eq_getElem _, List.getElem?_eq_getElem _⟩
  stop := fun Fk Hk sf sh _ => ⟨xs, ys, sqT_mono sh (sqT_mono sf q), sqT_mono sh (sqT_mono sf q2), by rw [zipD_len, rp.len, rp2.len]; omega⟩
  yld := fun i d Fk Hk x H' hd sf sh _ y => by
    obtain ⟨p, u, u2, rfl, hp, rfl, y, y2⟩ := y
    obtain ⟨d', e', h1, h1', rfl⟩ := zipD_get _ _ _ _ hd
    obtain ⟨v, h2, h3⟩ := rp.get h1
    obtain ⟨v2, h4, h5⟩ := rp2.get h1'
    have := y xs (sqT_mono sh (sqT_mono sf q))
    rw [h2] at this; cases this
    have := y2 ys (sqT_mono sh (sqT_mono sf q2))
    rw [h4] at this; cases this
    exact pair_new sh (h3.mono sf) (h5.mono sf) hp
/-- lists or tuples -/
def iZ (f g : FE) : FI := fun η => (f η).bind fun p => (g p.2).bind fun q => match seqOf p.1.val, seqOf q.1.val with
  | some ds, some es => .ok (zipD ds es, q.2)
  | _, _ => .bad
end Pv
set_option Elab.async false
set_option linter.all false
set_option maxRecDepth 100000
set_option maxHeartbeats 4000000
namespace Pv
open PySem L2
variable {X : Cx} {C : Cn} {io : List Nat}

def Cont (C : Cn) (io : List Nat) (fp : List Addr) (F H : Hp) (σ : St) (D : Ends) (p : Fl × Env) : Prop := match p.1 with
  | .nx => ∀ σ' F' H' fp', Aft C.K fp F H σ' [] [] p.2 F' H' [] fp' → IO io σ σ' → D.nx σ' H'
  | .bk => ∀ σ' F' H' fp', Aft C.K fp F H σ' [] [] p.2 F' H' [] fp' → IO io σ σ' → D.bk σ' H'
  | .ct => ∀ σ' F' H' fp', Aft C.K fp F H σ' [] [] p.2 F' H' [] fp' → IO io σ σ' → D.ct σ' H'
  | .ret t => ∀ v σ' F' H' f1 fp', Aft C.K fp F H σ' [t] [v] p.2 F' H' f1 fp' → IO io σ σ' → D.rt v H'
theorem tS_def {f : FS} {D : Ends} {σ : St} {H : Hp} : tS C io f D σ H ↔ ∃ η F fp, Ok C.K F H η σ fp ∧ (f η).post (Cont C io fp F H σ D) (XPS C fp F H) := Iff.rfl
theorem Cont.back {fp fp1 : List Addr} {F H F1 H1 : Hp} {σ σ1 : St} {η1 : Env} {D : Ends} (a : Aft C.K fp F H σ1 [] [] η1 F1 H1 [] fp1) (hio : IO io σ σ1) {p : Fl × Env} (h : Cont C io fp F H σ D p) : Cont C io fp1 F1 H1 σ1 D p := by
  unfold Cont at h ⊢
  revert h
  cases p.1 with
  | nx => exact fun hp σ' F' H' fp' b i => hp σ' F' H' fp' (a.thn b) (hio.trans i)
  | bk => exact fun hp σ' F' H' fp' b i => hp σ' F' H' fp' (a.thn b) (hio.trans i)
  | ct => exact fun hp σ' F' H' fp' b i => hp σ' F' H' fp' (a.thn b) (hio.trans i)
  | ret t => exact fun hp v σ' F' H' f1 fp' b i => hp v σ' F' H' f1 fp' (a.thn b) (hio.trans i)
/-! ### equality that can be run -/
mutual
def deq : PyData → PyData → Bool
  | .none, .none => true
  | .bool a, .bool b => a == b
  | .int a, .int b => a == b
  | .str a, .str b => decide (a = b)
  | .list a, .list b => deqs a b
  | .tuple a, .tuple b => deqs a b
  | .dict a, .dict b => deqk a b
  | _, _ => false
def deqs : List PyData → List PyData → Bool
  | [], [] => true
  | a :: as, b :: bs => deq a b && deqs as bs
  | _, _ => false
def deqk : List (PyData × PyData) → List (PyData × PyData) → Bool
  | [], [] => true
  | (a, x) :: as, (b, y) :: bs => deq a b && (deq x y && deqk as bs)
  | _, _ => false
end
mutual
theorem deq_eq : ∀ {a b : PyData}, deq a b = true → a = b
  | .none, b, h => by cases b <;> simp_all [deq]
  | .bool a, b, h => by cases b <;> simp_all [deq]
  | .int a, b, h => by cases b <;> simp_all [deq]
  | .str a, b, h => by cases b <;> simp_all [deq]
  | .list a, b, h => by
    cases b <;> simp [deq] at h
    exact congrArg _ (deqs_eq h)
  | .tuple a, b, h => by
    cases b <;> simp [deq] at h
    exact congrArg _ (deqs_eq h)
  | .dict a, b, h => by
    cases b <;> simp [deq] at h
    exact congrArg _ (deqk_eq h)
theorem deqs_eq : ∀ {a b : List PyData}, deqs a b = true → a = b
  | [], b, h => by cases b <;> simp_all [deqs]
  | a :: as, b, h => by
    cases b with
    | nil => simp [deqs] at h
    | cons b bs =>
      simp [deqs] at h
      rw [deq_eq h.1, deqs_eq h.2]
theorem deqk_eq : ∀ {a b : List (PyData × PyData)}, deqk a b = true → a = b
  | [], b, h => by cases b <;> simp_all [deqk]
  | (a, x) :: as, b, h => by
    cases b with
    | nil => simp [deqk] at h
    | cons b bs =>
      obtain ⟨b, y⟩ := b
      simp [deqk] at h
      rw [deq_eq h.1, deq_eq h.2.1, deqk_eq h.2.2]
end
mutual
theorem deq_refl : ∀ a : PyData, deq a a = true
  | .none => by simp [deq]
  | .bool a => by simp [deq]
  | .int a => by simp [deq]
  | .str a => by simp [deq]
  | .list a => by simp [deq, deqs_refl a]
  | .tuple a => by simp [deq, deqs_refl a]
  | .dict a => by simp [deq, deqk_refl a]
theorem deqs_refl : ∀ a : List PyData, deqs a a = true
  | [] => by simp [deqs]
  | a :: as => by simp [deqs, deq_refl a, deqs_refl as]
theorem deqk_refl : ∀ a : List (PyData × PyData), deqk a a = true
  | [] => by simp [deqk]
  | (a, x) :: as => by simp [deqk, deq_refl a, deq_refl x, deqk_refl as]
end
def pkIs (i : Nat) (d : PyData) (η : Env) : Bool := match pk η i with
  | some e => deq e d
  | none => false
theorem pkIs_eq {i : Nat} {d : PyData} {η : Env} (h : pkIs i d η = true) : pk η i = some d := by
  unfold pkIs at h
  split at h
  · rename_i e e1
    rw [e1, deq_eq h]
  · cases h
theorem pkIs_of {i : Nat} {d : PyData} {η : Env} (h : pk η i = some d) : pkIs i d η = true := by
  unfold pkIs
  rw [h]
  exact deq_refl d
/-! ### for -/
/-- the turns; chk: what must stand behind each -/
def loopF (chk : Env → Bool) (tgt : FG) (body : FS) : List PyData → Env → Rs (Fl × Env)
  | [], η => .ok (.nx, η)
  | d :: ds, η => (tgt (.sh d) η).bind fun η1 => (body η1).bind fun p => match p.1 with
    | .ret t => .ok (.ret t, p.2)
    | .bk => .ok (.nx, p.2)
    | _ => if chk p.2 then loopF chk tgt body ds p.2 else .bad
theorem IO.sub {io' : List Nat} {σ σ' : St} (s : ∀ j ∈ io, j ∈ io') (h : IO io' σ σ') : IO io σ σ' := fun j hj => h j (s j hj)
theorem for_core {inv : Hp → Hp → Prop} {chk : Env → Bool} {tgt : FG} {body : FS} {io' ws : List Nat} {F1 H1 : Hp} {σ0 : St} {η1 : Env} {fp1 : List Addr} {ds : List PyData} {J : It} {D : Ends} (o : Ok C.K F1 H1 η1 σ0 fp1) (it : ItOk C.K inv F1 ds J)
    (hinv : ∀ ηk σk Fk Hk fpk, Ok C.K Fk Hk ηk σk fpk → IO io' σ0 σk → chk ηk → inv Fk Hk) (hs : ∀ j ∈ io, j ∈ io') (hd : ∀ j ∈ io', j ∉ ws) (h0 : chk η1) (q : (loopF chk tgt body ds η1).post (Cont C io fp1 F1 H1 σ0 D) (XPS C fp1 F1 H1)) :
    ∃ W : Nat → Nat → St → Hp → Prop, (∃ m, W 0 m σ0 H1) ∧ ∀ i m σ H, W i m σ H →
      (J.stop i H ∧ D.nx σ H) ∨ (J.go i H ∧ ∃ N : St → Hp → Prop, (∀ σ' H', N σ' H' → ∃ m', m' < m ∧ W (i + 1) m' σ' H') ∧ ∀ x H', J.yld i H x H' → tG C ws tgt x σ H' fun σ2 H2 => tS C io' body { D with nx := N, ct := N, bk := D.nx } σ2 H2) := by
  refine ⟨fun i m σk Hk => ∃ ηk Fk fpk, Aft C.K fp1 F1 H1 σk [] [] ηk Fk Hk [] fpk ∧ IO io' σ0 σk ∧ chk ηk ∧ m = ds.length - i ∧ i ≤ ds.length ∧ (loopF chk tgt body (ds.drop i) ηk).post (Cont C io fp1 F1 H1 σ0 D) (XPS C fp1 F1 H1),
    ⟨ds.length, η1, F1, fp1, o.aft, .refl, h0, rfl, Nat.zero_le _, q⟩, ?_⟩
  rintro i m σk Hk ⟨ηk, Fk, fpk, a, hio, hc, rfl, hi, q⟩
  have iv := hinv ηk σk Fk Hk fpk a.ok hio hc
  by_cases hlt : i < ds.length
  · refine .inr ⟨it.go i Fk Hk hlt a.ext.ff a.fh iv, fun σ' H' => ∃ η' F' fp', Aft C.K fp1 F1 H1 σ' [] [] η' F' H' [] fp' ∧ IO io' σ0 σ' ∧ chk η' ∧ (loopF chk tgt body (ds.drop (i + 1)) η').post (Cont C io fp1 F1 H1 σ0 D) (XPS C fp1 F1 H1),
      fun σ' H' ⟨η', F', fp', h1, h2, h3, h4⟩ => ⟨ds.length - (i + 1), by omega, η', F', fp', h1, h2, h3, rfl, hlt, h4⟩, fun x H' y => ?_⟩
    have hd' : ds[i]? = some ds[i] := List.getElem?_eq_getElem hlt
    obtain ⟨F2, r⟩ := it.yld i _ Fk Hk x H' hd' a.ext.ff a.fh iv y
    have b : Aft C.K fp1 F1 H1 σk [.sh ds[i]] [x] ηk F2 H' [] fpk := a.res r
    rw [List.drop_eq_getElem_cons hlt] at q
    unfold loopF at q
    refine ⟨ηk, F2, fpk, .sh ds[i], [], b.self, Rs.post_mono (Rs.post_bind q) (fun η2 hq σ2 F3 H3 fp3 c ch => ?_) fun _ _ z => z.back' b⟩
    have c2 : Aft C.K fp1 F1 H1 σ2 [] [] η2 F3 H3 [] fp3 := b.thn c
    have io2 : IO io' σ0 σ2 := hio.trans (ch.toIO hd)
    refine tS_def.mpr ⟨η2, F3, fp3, c2.ok, Rs.post_mono (Rs.post_bind hq) (fun p hp => ?_) fun _ _ z => z.back c2⟩
    unfold Cont
    revert hp
    cases e : p.1 with
    | nx =>
      dsimp only
      intro hp σ' F' H' fp' g gi
      split at hp
      · rename_i hck
        exact ⟨p.2, F', fp', c2.thn g, io2.trans gi, hck, hp⟩
      · exact hp.elim
    | ct =>
      dsimp only
      intro hp σ' F' H' fp' g gi
      split at hp
      · rename_i hck
        exact ⟨p.2, F', fp', c2.thn g, io2.trans gi, hck, hp⟩
      · exact hp.elim
    | bk =>
      dsimp only
      intro hp σ' F' H' fp' g gi
      exact hp σ' F' H' fp' (c2.thn g) (IO.sub hs (io2.trans gi))
    | ret t =>
      dsimp only
      intro hp v σ' F' H' f1 fp' g gi
      exact hp v σ' F' H' f1 fp' (c2.thn g) (IO.sub hs (io2.trans gi))
  · have e : i = ds.length := by omega
    subst e
    rw [List.drop_length] at q
    exact .inl ⟨it.stop Fk Hk a.ext.ff a.fh iv, q σk Fk Hk fpk a (IO.sub hs hio)⟩
def sFor (fi : FI) (tgt : FG) (body : FS) : FS := fun η => (fi η).bind fun p => loopF (fun _ => true) tgt body p.1 p.2
def sForV (i : Nat) (tgt : FG) (body : FS) : FS := fun η => match pk η i with
  | some d => match seqOf d with
    | some ds => loopF (pkIs i d) tgt body ds η
    | none => .bad
  | none => .bad
theorem psd_for {st : Stmt} {fi : FI} {tgt : FG} {body : FS} {ws : List Nat} (hd : ∀ j ∈ io, j ∉ ws) (p : PS X st (tFor (tI C fi) (tG C ws tgt) (tS C io body))) : PS X st (tS C io (sFor fi tgt body)) := by
  refine p.impD fun D σ H ⟨η, F, fp, o, q⟩ => ?_
  refine ⟨η, F, fp, o, Rs.post_mono (Rs.post_bind q) (fun p hp F' H' fp' J a it => ?_) fun _ _ z => z.xp⟩
  exact for_core (io' := io) (inv := inv0) a.ok it (fun _ _ _ _ _ _ _ _ => trivial) (fun _ h => h) hd rfl (Rs.post_mono hp (fun p hp => Cont.back a .refl hp) fun _ _ z => z.back a)
theorem psd_forV {st : Stmt} {i : Nat} {tgt : FG} {body : FS} {ws : List Nat} (hd : ∀ j ∈ i :: io, j ∉ ws) (p : PS X st (tFor (tIV C i) (tG C ws tgt) (tS C (i :: io) body))) : PS X st (tS C io (sForV i tgt body)) := by
  refine p.impD fun D σ H ⟨η, F, fp, o, q⟩ => ?_
  unfold sForV at q
  split at q
  · rename_i d e
    split at q
    · rename_i ds e2
      obtain ⟨v, hv, rq⟩ := pk_rq o e
      refine ⟨η, F, fp, d, ds, v, o, e, seqOf_eq e2, hv, fun J it => ?_⟩
      refine for_core (io' := i :: io) o it (fun ηk σk Fk Hk fpk ok hio hc => ?_) (fun j hj => List.mem_cons_of_mem _ hj) hd (pkIs_of e) q
      obtain ⟨w, hw, rq⟩ := pk_rq ok (pkIs_eq hc)
      have := hio i List.mem_cons_self
      rw [hw, hv] at this
      cases this
      exact rq
    · exact q.elim
  · exact q.elim
/-! ### while -/
def loopW (c : FB) (body : FS) : Nat → Env → Rs (Fl × Env)
  | 0, _ => .bad
  | n + 1, η => (c η).bind fun b => if b.1 then (body b.2).bind fun p => match p.1 with
      | .ret t => .ok (.ret t, p.2)
      | .bk => .ok (.nx, p.2)
      | _ => loopW c body n p.2
    else .ok (.nx, b.2)
def sWhile (n : Nat) (c : FB) (body : FS) : FS := loopW c body n
theorem psd_while {st : Stmt} {n : Nat} {c : FB} {body : FS} (p : PS X st (tWhile (tB C c) (tS C io body))) : PS X st (tS C io (sWhile n c body)) := by
  refine p.impD fun D σ H ⟨η, F, fp, o, q⟩ => ?_
  refine ⟨fun m σk Hk => ∃ ηk Fk fpk, Aft C.K fp F H σk [] [] ηk Fk Hk [] fpk ∧ IO io σ σk ∧ (loopW c body m ηk).post (Cont C io fp F H σ D) (XPS C fp F H), ⟨n, η, F, fp, o.aft, .refl, q⟩, ?_⟩
  rintro m σk Hk ⟨ηk, Fk, fpk, a, hio, q⟩
  cases m with
  | zero => exact q.elim
  | succ m =>
    unfold loopW at q
    refine tB_step a.ok.aft (Rs.post_mono (Rs.post_bind q) (fun b hb F1 H1 f1 fp1 g => ?_) fun _ _ z => (z.back a).xp)
    have hf : f1 = [] := by have := g.rt; simp only [RTs] at this; exact this.2
    subst hf
    have a1 : Aft C.K fp F H σk [] [] b.2 F1 H1 [] fp1 := a.thn g
    cases e : b.1 with
    | true =>
      rw [e, if_pos rfl] at hb
      rw [if_pos rfl]
      refine ⟨fun σ' H' => ∃ η' F' fp', Aft C.K fp F H σ' [] [] η' F' H' [] fp' ∧ IO io σ σ' ∧ (loopW c body m η').post (Cont C io fp F H σ D) (XPS C fp F H), fun σ' H' w => ⟨m, Nat.lt_succ_self _, w⟩, ?_⟩
      refine tS_def.mpr ⟨b.2, F1, fp1, a1.ok, Rs.post_mono (Rs.post_bind hb) (fun p hp => ?_) fun _ _ z => z.back a1⟩
      unfold Cont
      revert hp
      cases e2 : p.1 with
      | nx => exact fun hp σ' F' H' fp' g gi => ⟨p.2, F', fp', a1.thn g, hio.trans gi, hp⟩
      | ct => exact fun hp σ' F' H' fp' g gi => ⟨p.2, F', fp', a1.thn g, hio.trans gi, hp⟩
      | bk => exact fun hp σ' F' H' fp' g gi => hp σ' F' H' fp' (a1.thn g) (hio.trans gi)
      | ret t => exact fun hp v σ' F' H' f1 fp' g gi => hp v σ' F' H' f1 fp' (a1.thn g) (hio.trans gi)
    | false =>
      rw [e, if_neg Bool.false_ne_true] at hb
      rw [if_neg Bool.false_ne_true]
      exact hb σk F1 H1 fp1 a1 hio
end Pv
set_option Elab.async false
set_option linter.all false
set_option maxRecDepth 100000
set_option maxHeartbeats 4000000
namespace Pv
open PySem L2
variable {X : Cx} {C C' : Cn}

/-! ### comprehensions -/
def wipeE (η : Env) : List Nat → Env
  | [] => η
  | v :: vs => (wipeE η vs).set v none
/-- no own slot holds a list of its own -/
def free1 (η : Env) (v : Nat) : Bool := match η[v]? with
  | some (some (.lst _)) => false
  | some (some (.dct _)) => false
  | _ => true
def ownFree (η : Env) (own : List Nat) : Bool := own.all (free1 η)
def backE (η1 : Env) : List Nat → Env → Env
  | [], η => η
  | v :: vs, η => backE η1 vs (η.set v (η1[v]?.join))
def Rs.noX {α : Type} : Rs α → Rs α
  | .exc _ _ => .bad
  | r => r
theorem Rs.noX_post {α : Type} {r : Rs α} {P : α → Prop} {E E' : Ex → Env → Prop} (h : r.noX.post P E) : r.post P E' := by
  cases r with
  | ok a => exact h
  | exc e η => exact h.elim
  | bad => exact h
@[simp] theorem Rs.noX_ok {α : Type} (a : α) : (Rs.ok a).noX = .ok a := rfl
/-- the turns of [elt for tgt in .. if cond] -/
def loopC (chk : Env → Bool) (own : List Nat) (tgt : FG) (cond : FB) (elt : FE) : List PyData → Env → Rs (List T × Env)
  | [], η => .ok ([], η)
  | d :: ds, η => (tgt (.sh d) η).noX.bind fun η1 => (cond η1).noX.bind fun b => if b.1 then (elt b.2).noX.bind fun p => if ownFree p.2 own = true ∧ chk (wipeE p.2 own) then (loopC chk own tgt cond elt ds (wipeE p.2 own)).bind fun q => .ok (p.1 :: q.1, q.2) else .bad
    else if ownFree b.2 own = true ∧ chk (wipeE b.2 own) then loopC chk own tgt cond elt ds (wipeE b.2 own) else .bad
def bTrue : FB := fun η => .ok (true, η)
def eComp (own : List Nat) (fi : FI) (tgt : FG) (cond : FB) (elt : FE) : FE := fun η => (fi η).bind fun p => if ownFree p.2 own && line p.1.length then (loopC (fun _ => true) own tgt cond elt p.1 (wipeE p.2 own)).bind fun q => .ok (.lst q.1, backE p.2 own q.2) else .bad
def eCompV (own : List Nat) (i : Nat) (tgt : FG) (cond : FB) (elt : FE) : FE := fun η => match pk η i with
  | some d => match seqOf d with
    | some ds => if ownFree η own && line ds.length && !own.contains i then (loopC (pkIs i d) own tgt cond elt ds (wipeE η own)).bind fun q => .ok (.lst q.1, backE η own q.2) else .bad
    | none => .bad
  | none => .bad

theorem wipe_get {σ : St} {j : Nat} : ∀ {vs : List Nat}, j ∉ vs → (wipe σ vs)[j]? = σ[j]?
  | [], _ => rfl
  | v :: vs, h => by
    rw [List.mem_cons, not_or] at h
    show ((wipe σ vs).set v none)[j]? = _
    rw [List.getElem?_set_ne (Ne.symm h.1), wipe_get h.2]
theorem wipe_in {σ : St} {j : Nat} : ∀ {vs : List Nat}, j ∈ vs → j < σ.length → (wipe σ vs)[j]? = some none
  | v :: vs, h, hl => by
    show ((wipe σ vs).set v none)[j]? = _
    by_cases e : v = j
    · subst e
      rw [List.getElem?_set_self (by rw [wipe_length]; exact hl)]
    · rw [List.getElem?_set_ne e]
      rcases List.mem_cons.mp h with z | z
      · exact absurd z.symm e
      · exact wipe_in z hl
theorem wipe_eq {σ σ' : St} {vs : List Nat} (hl : σ'.length = σ.length) (h : ∀ j, j ∉ vs → σ'[j]? = σ[j]?) : wipe σ' vs = wipe σ vs := by
  apply List.ext_getElem?
  intro j
  by_cases hj : j ∈ vs
  · by_cases hlt : j < σ.length
    · rw [wipe_in hj hlt, wipe_in hj (by omega)]
    · rw [List.getElem?_eq_none (by rw [wipe_length]; omega), List.getElem?_eq_none (by rw [wipe_length]; omega)]
  · rw [wipe_get hj, wipe_get hj, h j hj]
theorem wipe_wipe {σ : St} {vs : List Nat} : wipe (wipe σ vs) vs = wipe σ vs := wipe_eq (wipe_length σ vs) fun j hj => wipe_get hj
theorem wipeE_get {η : Env} {j : Nat} : ∀ {vs : List Nat}, j ∉ vs → (wipeE η vs)[j]? = η[j]?
  | [], _ => rfl
  | v :: vs, h => by
    rw [List.mem_cons, not_or] at h
    show ((wipeE η vs).set v none)[j]? = _
    rw [List.getElem?_set_ne (Ne.symm h.1), wipeE_get h.2]
/-- a slot without a list of its own is forgotten -/
theorem RS.wipe1 {K : PySem.W.Frag} {F H : Hp} {η : Env} {σ : St} {f : List Addr} (v : Nat) (s' : Option V) (h : RS K F H η σ f) (fr : free1 η v = true) : ∃ f', RS K F H (η.set v none) (σ.set v s') f' ∧ f'.Perm f := by
  by_cases hi : v < η.length
  · obtain ⟨s, g, r, h1, h2, h3, h4⟩ := h.focus hi
    obtain ⟨f', rs', pm⟩ := (h4 F H (.refl _) fun _ _ _ z => z).2 s'
    by_cases hn : ∃ t, η[v]? = some (some t)
    · obtain ⟨t, ht⟩ := hn
      obtain ⟨w, rfl, rt⟩ := h3 t ht
      cases t with
      | sh d =>
        simp only [RT] at rt
        obtain ⟨rfl, _⟩ := rt
        exact ⟨f', rs', pm.trans (by simpa using h2.symm)⟩
      | lst ts =>
        unfold free1 at fr
        rw [ht] at fr
        cases fr
      | dct kvs =>
        unfold free1 at fr
        rw [ht] at fr
        cases fr
    · have hv : η[v]? = some none := by
        cases e : η[v]? with
        | none => rw [List.getElem?_eq_none_iff] at e; omega
        | some o =>
          cases o with
          | none => rfl
          | some t => exact absurd ⟨t, e⟩ hn
      have e1 : η.set v none = η := set_self hv
      have : ∃ f'', RS K F H (η.set v none) (σ.set v s') f'' ∧ f''.Perm f := by
        rw [e1]
        -- the slot was forgotten already: any value of σ there will do
        clear h1 h2 h3 h4 rs' pm hn fr hi e1
        induction η generalizing σ f v with
        | nil => simp at hv
        | cons o η ih =>
          cases v with
          | zero =>
            simp at hv
            subst hv
            simp only [RS] at h ⊢
            obtain ⟨s, σ', rfl, h⟩ := h
            exact ⟨f, ⟨s', σ', rfl, h⟩, .refl _⟩
          | succ v =>
            cases o with
            | none =>
              simp only [RS] at h ⊢
              obtain ⟨s, σ', rfl, h⟩ := h
              obtain ⟨f2, h2, p2⟩ := ih v h (by simpa using hv)
              exact ⟨f2, ⟨s, _, rfl, h2⟩, p2⟩
            | some t =>
              simp only [RS] at h ⊢
              obtain ⟨w, σ', f1, f2, rfl, rfl, r1, h⟩ := h
              obtain ⟨f3, h3, p3⟩ := ih v h (by simpa using hv)
              exact ⟨f1 ++ f3, ⟨w, _, f1, f3, rfl, rfl, r1, h3⟩, p3.append_left f1⟩
      exact this
  · have hl := h.len
    rw [List.set_eq_of_length_le (by omega), List.set_eq_of_length_le (by omega)]
    exact ⟨f, h, .refl _⟩
theorem free1_set {η : Env} {v u : Nat} (h : free1 η u = true) : free1 (η.set v none) u = true := by
  unfold free1 at h ⊢
  by_cases e : v = u
  · subst e
    by_cases hv : v < η.length
    · rw [List.getElem?_set_self hv]
    · rw [List.getElem?_eq_none (by simpa using hv)]
  · rw [List.getElem?_set_ne e]; exact h
theorem wipeE_free {η : Env} {u : Nat} : ∀ {vs : List Nat}, free1 η u = true → free1 (wipeE η vs) u = true
  | [], h => h
  | v :: vs, h => free1_set (wipeE_free h)
theorem RS.wipes {K : PySem.W.Frag} {F H : Hp} {η : Env} {σ : St} {f : List Addr} (h : RS K F H η σ f) : ∀ {vs : List Nat}, ownFree η vs = true → ∃ f', RS K F H (wipeE η vs) (wipe σ vs) f' ∧ f'.Perm f
  | [], _ => ⟨f, h, .refl _⟩
  | v :: vs, fr => by
    unfold ownFree at fr
    simp only [List.all_cons, Bool.and_eq_true] at fr
    obtain ⟨f1, h1, p1⟩ := RS.wipes (vs := vs) h fr.2
    obtain ⟨f2, h2, p2⟩ := h1.wipe1 v none (wipeE_free fr.1)
    exact ⟨f2, h2, p2.trans p1⟩
theorem Aft.perm {K : PySem.W.Frag} {fp : List Addr} {F H : Hp} {σ σ2 : St} {ts : List T} {vs : List V} {η' η2 : Env} {F' H' : Hp} {f1 fp' fp2 : List Addr} (a : Aft K fp F H σ ts vs η' F' H' f1 fp') (h : RS K F' H' η2 σ2 fp2) (p : fp2.Perm fp') : Aft K fp F H σ2 ts vs η2 F' H' f1 fp2 := by
  have pm : (f1 ++ fp2).Perm (f1 ++ fp') := p.append_left f1
  exact ⟨a.rt, h, pm.nodup_iff.mpr a.nd, fun x hx => a.fn x (pm.mem_iff.mp hx), a.fh, a.ext, fun x hx => a.sub x (pm.mem_iff.mp hx)⟩
mutual
def T.nodes : T → Nat
  | .sh _ => 0
  | .lst ts => T.nodess ts + 1
  | .dct _ => 1
def T.nodess : List T → Nat
  | [] => 0
  | t :: ts => t.nodes + T.nodess ts
end
mutual
theorem RT.fpN {K : PySem.W.Frag} {F H : Hp} : ∀ {t : T} {v : V} {f : List Addr}, RT K F H t v f → f.length = t.nodes
  | .sh d, v, f, h => by
    simp only [RT] at h
    rw [h.1]; rfl
  | .lst ts, v, f, h => by
    simp only [RT] at h
    obtain ⟨a, xs, g, rfl, e1, rfl, r⟩ := h
    simp [T.nodes, RTs.fpN r]
  | .dct kvs, v, f, h => by
    simp only [RT] at h
    obtain ⟨a, ks, rfl, e1, rfl, r⟩ := h
    rfl
theorem RTs.fpN {K : PySem.W.Frag} {F H : Hp} : ∀ {t : List T} {v : List V} {f : List Addr}, RTs K F H t v f → f.length = T.nodess t
  | [], v, f, h => by
    simp only [RTs] at h
    rw [h.2]; rfl
  | t :: ts, v, f, h => by
    obtain ⟨x, xs, f1, f2, rfl, rfl, r1, r2⟩ := h.uncons
    simp [T.nodess, RT.fpN r1, RTs.fpN r2]
end
def nodesE : Env → Nat
  | [] => 0
  | .none :: η => nodesE η
  | .some t :: η => t.nodes + nodesE η
theorem RS.fpN {K : PySem.W.Frag} {F H : Hp} : ∀ {η : Env} {σ : St} {f : List Addr}, RS K F H η σ f → f.length = nodesE η
  | [], σ, f, h => by
    simp only [RS] at h
    rw [h.2]; rfl
  | .none :: η, σ, f, h => by
    simp only [RS] at h
    obtain ⟨s, σ', rfl, r⟩ := h
    simp [nodesE, RS.fpN r]
  | .some t :: η, σ, f, h => by
    simp only [RS] at h
    obtain ⟨v, σ', f1, f2, rfl, rfl, r1, r2⟩ := h
    simp [nodesE, RT.fpN r1, RS.fpN r2]
theorem RS.fpLen {K : PySem.W.Frag} {F H : Hp} {η : Env} {σ : St} {f g : List Addr} (h : RS K F H η σ f) (h' : RS K F H η σ g) : f.length = g.length := h.fpN.trans h'.fpN.symm
/-- back to the slots ahead: those of its own names are as they were -/
theorem RS.back1 {K : PySem.W.Frag} {F H : Hp} : ∀ {η : Env} {σ : St} {f : List Addr} {v : Nat} {o : Option T} {s : Option V}, RS K F H η σ f → free1 η v = true → (∀ d, o = some (.sh d) → ∃ w, s = some w ∧ Rp K F d w) → (∀ t, o = some t → ∃ d, t = .sh d) → ∃ f', RS K F H (η.set v o) (σ.set v s) f' ∧ f'.Perm f := by
  intro η σ f v o s h fr ho hl
  cases o with
  | none => exact h.wipe1 v s fr
  | some t =>
    cases t with
    | lst ts => obtain ⟨d, e⟩ := hl _ rfl; cases e
    | dct ts => obtain ⟨d, e⟩ := hl _ rfl; cases e
    | sh d =>
      obtain ⟨w, rfl, rp⟩ := ho d rfl
      obtain ⟨f1, h1, p1⟩ := h.wipe1 v (some w) fr
      by_cases hi : v < η.length
      · obtain ⟨s0, g, r, q1, q2, q3, q4⟩ := h1.focus (i := v) (by simpa using hi)
        obtain ⟨f', rs', pm⟩ := (q4 F H (.refl _) fun _ _ _ z => z).1 (.sh d) w [] (by simp only [RT]; exact ⟨trivial, rp⟩)
        rw [List.set_set, List.set_set] at rs'
        -- the slot was empty: g = []
        have hg : g = [] := by
          have e0 : (η.set v none)[v]? = some none := List.getElem?_set_self hi
          have l1 := (List.Perm.length_eq q2)
          obtain ⟨f'', rs'', pm''⟩ := (q4 F H (.refl _) fun _ _ _ z => z).2 s0
          rw [set_self q1, set_self e0] at rs''
          -- two footprints of the same state have one length
          have : f''.length = f1.length := RS.fpLen rs'' h1
          have l2 := pm''.length_eq
          rw [List.length_append] at l1
          exact List.eq_nil_of_length_eq_zero (by omega)
        subst hg
        exact ⟨f', rs', (show f'.Perm r from pm).trans ((show f1.Perm r from q2).symm.trans p1)⟩
      · have hlen := h.len
        rw [List.set_eq_of_length_le (by omega), List.set_eq_of_length_le (by omega)]
        exact ⟨f, h, .refl _⟩
theorem wipeE_len (η : Env) : ∀ vs : List Nat, (wipeE η vs).length = η.length
  | [] => rfl
  | v :: vs => by
    show ((wipeE η vs).set v none).length = _
    rw [List.length_set, wipeE_len η vs]
theorem free1_none {η : Env} {v : Nat} (h : η[v]? = some none) : free1 η v = true := by
  unfold free1
  rw [h]
/-- back to the slots ahead of a comprehension -/
theorem RS.backs {K : PySem.W.Frag} {F H : Hp} {η1 : Env} {σ : St} (hσ : ∀ (v : Nat) (d : PyData), η1[v]? = some (some (.sh d)) → ∃ w, σ[v]? = some (some w) ∧ Rp K F d w) :
    ∀ {vs : List Nat} {η : Env} {f : List Addr}, vs.Nodup → RS K F H η (wipe σ vs) f → (∀ v ∈ vs, free1 η v = true) → ownFree η1 vs = true → ∃ f', RS K F H (backE η1 vs η) σ f' ∧ f'.Perm f
  | [], η, f, _, h, _, _ => ⟨f, h, .refl _⟩
  | v :: vs, η, f, nd, h, hn, fr => by
    unfold ownFree at fr
    simp only [List.all_cons, Bool.and_eq_true] at fr
    have hv : v ∉ vs := (List.nodup_cons.mp nd).1
    have key : ∃ f', RS K F H (η.set v (η1[v]?.join)) (((wipe σ vs).set v none).set v ((wipe σ vs)[v]?.join)) f' ∧ f'.Perm f := by
      have h' : RS K F H η ((wipe σ vs).set v none) f := h
      refine h'.back1 (v := v) (o := η1[v]?.join) (s := (wipe σ vs)[v]?.join) (hn v List.mem_cons_self) (fun d e => ?_) (fun ts e => ?_)
      · cases e1 : η1[v]? with
        | none => rw [e1] at e; cases e
        | some o =>
          rw [e1] at e
          have e : o = some (.sh d) := e
          subst e
          obtain ⟨w, h1, h2⟩ := hσ v d e1
          rw [wipe_get hv, h1]
          exact ⟨w, rfl, h2⟩
      · cases e1 : η1[v]? with
        | none => rw [e1] at e; cases e
        | some o =>
          rw [e1] at e
          have e : o = some ts := e
          subst e
          have := fr.1
          unfold free1 at this
          rw [e1] at this
          cases ts with
          | sh d => exact ⟨d, rfl⟩
          | lst _ => cases this
          | dct _ => cases this
    rw [List.set_set] at key
    obtain ⟨f', h1, p⟩ := key
    have e2 : (wipe σ vs).set v ((wipe σ vs)[v]?.join) = wipe σ vs := by
      cases e : (wipe σ vs)[v]? with
      | none =>
        rw [List.getElem?_eq_none_iff] at e
        exact List.set_eq_of_length_le e
      | some o => exact set_self e
    rw [e2] at h1
    have hn' : ∀ u ∈ vs, free1 (η.set v (η1[v]?.join)) u = true := fun u hu => by
      have e : v ≠ u := fun e => hv (e ▸ hu)
      unfold free1
      rw [List.getElem?_set_ne e]
      exact hn u (List.mem_cons_of_mem _ hu)
    obtain ⟨f2, h2, p2⟩ := RS.backs hσ (vs := vs) (List.nodup_cons.mp nd).2 h1 hn' (by unfold ownFree; exact fr.2)
    exact ⟨f2, h2, p2.trans p⟩
theorem RS.sh {K : PySem.W.Frag} {F H : Hp} {η : Env} {σ : St} {f : List Addr} {v : Nat} {d : PyData} (h : RS K F H η σ f) (e : η[v]? = some (some (.sh d))) : ∃ w, σ[v]? = some (some w) ∧ Rp K F d w := by
  obtain ⟨s, g, r, h1, h2, h3, h4⟩ := h.focus (List.getElem?_eq_some_iff.mp e).1
  obtain ⟨w, rfl, rt⟩ := h3 _ e
  simp only [RT] at rt
  exact ⟨w, h1, rt.2⟩
theorem free_wiped {η : Env} {own : List Nat} : ∀ v ∈ own, free1 (wipeE η own) v = true := by
  induction own with
  | nil => intro v hv; cases hv
  | cons u own ih =>
    intro v hv
    by_cases e : u = v
    · subst e
      unfold free1
      have e2 : wipeE η (u :: own) = (wipeE η own).set u none := rfl
      rw [e2]
      by_cases hi : u < (wipeE η own).length
      · rw [List.getElem?_set_self hi]
      · rw [List.getElem?_eq_none (by simpa using hi)]
    · rcases List.mem_cons.mp hv with z | z
      · exact absurd z.symm e
      · exact free1_set (ih v z)
theorem lines {n : Nat} (h : line n = true) : n < sizeLine := line_lt h
/-- the new list takes an item -/
theorem Aft.push {K : PySem.W.Frag} {fp : List Addr} {F H : Hp} {σ : St} {acc : List T} {t : T} {D : Addr} {y : V} {η' : Env} {F' H' : Hp} {f1 fp' : List Addr} (a : Aft K fp F H σ [.lst acc, t] [.ref D, y] η' F' H' f1 fp') :
    ∃ xs f2, H' D = some (.lst xs) ∧ xs.length = acc.length ∧ Aft K fp F H σ [.lst (acc ++ [t])] [.ref D] η' F' (upd H' D (.lst (xs ++ [y]))) f2 fp' := by
  obtain ⟨g1, g2, rfl, r1, r2⟩ := a.rt2
  simp only [RT] at r1
  obtain ⟨D', xs, g, e, hD, rfl, rg⟩ := r1
  cases e
  have nd := a.nd
  have nD : D ∉ (g ++ g2) ++ fp' := by
    have h1 : (D :: ((g ++ g2) ++ fp')).Nodup := nd
    exact (List.nodup_cons.mp h1).1
  have Dg : D ∉ g ++ g2 := fun h => nD (List.mem_append.mpr (.inl h))
  have Df : D ∉ fp' := fun h => nD (List.mem_append.mpr (.inr h))
  have FD : F' D = none := a.fn D (by simp)
  refine ⟨xs, D :: (g ++ g2), hD, rg.len, .one ?_, a.rs.mono (.refl _) fun x hx o e => by rw [upd_ne (ne_mem hx Df)]; exact e, nd, a.fn, fun b o e => by rw [upd_ne (ne_of_none e FD)]; exact a.fh b o e, ⟨a.ext.ff, fun b o e hb => ?_, a.ext.new⟩, a.sub⟩
  · simp only [RT]
    refine ⟨D, xs ++ [y], g ++ g2, rfl, upd_same, rfl, ?_⟩
    exact ((rg.append (.one r2)).mono (.refl _) fun x hx o e => by rw [upd_ne (ne_mem hx Dg)]; exact e)
  · have nb : b ≠ D := fun z => by
      subst z
      rcases a.sub b (by simp) with z | z
      · exact hb z
      · rw [z] at e; cases e
    rw [upd_ne nb]
    exact a.ext.keep b o e hb
theorem Aft.newLst {K : PySem.W.Frag} {fp : List Addr} {F H : Hp} {σ : St} {η' : Env} {F' H' : Hp} {fp' : List Addr} {D : Addr} (a : Aft K fp F H σ [] [] η' F' H' [] fp') (hD : H' D = none) : Aft K fp F H σ [.lst []] [.ref D] η' F' (upd H' D (.lst [])) [D] fp' :=
  a.res (ResOk.lst (ds := []) (xs := []) a.fh .nil hD)
theorem lc_core' {inv : Hp → Hp → Prop} {chk : Env → Bool} {own ws : List Nat} {tgt : FG} {cond : FB} {elt : FE} {F1 H1 : Hp} {σ : St} {η1 : Env} {fp1 : List Addr} {ds : List PyData} {J : It} {Q : VK} {E : Ex → Env → Prop} {D : Addr} (nd : own.Nodup) (hws : ∀ j ∈ ws, j ∈ own) (o : Ok C.K F1 H1 η1 σ fp1) (hCC : C'.K = C.K) (it : ItOk C.K inv F1 ds J)
    (hinv : ∀ ηk Fk Hk fpk, Ok C.K Fk Hk ηk (wipe σ own) fpk → chk ηk → inv Fk Hk) (hf : ownFree η1 own = true) (hl : line ds.length = true) (h0 : chk (wipeE η1 own)) (hD : H1 D = none)
    (q : ((loopC chk own tgt cond elt ds (wipeE η1 own)).bind fun q => (.ok (.lst q.1, backE η1 own q.2) : Rs (T × Env))).post (fun p => ∀ v F' H' f1 fp', Aft C.K fp1 F1 H1 σ [p.1] [v] p.2 F' H' f1 fp' → Q v H') E) :
    ∃ W : Nat → Nat → Hp → Prop, (∃ m, W 0 m (upd H1 D (.lst []))) ∧ ∀ i m H, W i m H →
      (J.stop i H ∧ Q (.ref D) H) ∨ (J.go i H ∧ ∃ Nx : Hp → Prop, (∀ H', Nx H' → ∃ m', m' < m ∧ W (i + 1) m' H') ∧ ∀ x H', J.yld i H x H' → tG C' ws tgt x (wipe σ own) H' fun σ2 H2 => wipe σ2 own = wipe σ own ∧ tB C' cond σ2 H2 fun b H3 =>
        if b = true then tD C' elt σ2 H3 fun y H4 => ∃ acc, H4 D = some (.lst acc) ∧ acc.length < sizeLine ∧ Nx (upd H4 D (.lst (acc ++ [y]))) else Nx H3) := by
  obtain ⟨fw, rw_, pw⟩ := o.rs.wipes hf
  have a0 : Aft C.K fp1 F1 H1 (wipe σ own) [] [] (wipeE η1 own) F1 H1 [] fw := o.aft.perm rw_ pw
  refine ⟨fun i m Hk => ∃ ηk Fk fpk acc fa, Aft C.K fp1 F1 H1 (wipe σ own) [.lst acc] [.ref D] ηk Fk Hk fa fpk ∧ chk ηk ∧ (∀ v ∈ own, free1 ηk v = true) ∧ acc.length ≤ i ∧ m = ds.length - i ∧ i ≤ ds.length ∧
      (loopC chk own tgt cond elt (ds.drop i) ηk).post (fun r => ∀ F' H' f1 fp', Aft C.K fp1 F1 H1 (wipe σ own) [.lst (acc ++ r.1)] [.ref D] r.2 F' H' f1 fp' → (∀ v ∈ own, free1 r.2 v = true) → Q (.ref D) H') E,
    ⟨ds.length, wipeE η1 own, F1, fw, [], [D], a0.newLst hD, h0, free_wiped, Nat.zero_le _, rfl, Nat.zero_le _, ?_⟩, ?_⟩
  · rw [List.drop_zero]
    refine Rs.post_mono (Rs.post_bind q) (fun r hr F' H' f1 fp' a hfr => ?_) fun _ _ z => z
    obtain ⟨f2, h2, p2⟩ := RS.backs (η1 := η1) (σ := σ) (F := F') (fun v d e => by
      obtain ⟨w, h1, h2⟩ := o.rs.sh e
      exact ⟨w, h1, h2.mono a.ext.ff⟩) nd a.rs hfr hf
    exact hr (.ref D) F' H' f1 f2 (a.perm h2 p2)
  · rintro i m Hk ⟨ηk, Fk, fpk, acc, fa, a, hc, hfk, hal, rfl, hi, q⟩
    have iv := hinv ηk Fk Hk fpk a.ok hc
    by_cases hlt : i < ds.length
    · refine .inr ⟨it.go i Fk Hk hlt a.ext.ff a.fh iv, fun H' => ∃ η' F' fp' acc' fa', Aft C.K fp1 F1 H1 (wipe σ own) [.lst acc'] [.ref D] η' F' H' fa' fp' ∧ chk η' ∧ (∀ v ∈ own, free1 η' v = true) ∧ acc'.length ≤ i + 1 ∧
          (loopC chk own tgt cond elt (ds.drop (i + 1)) η').post (fun r => ∀ F' H' f1 fp', Aft C.K fp1 F1 H1 (wipe σ own) [.lst (acc' ++ r.1)] [.ref D] r.2 F' H' f1 fp' → (∀ v ∈ own, free1 r.2 v = true) → Q (.ref D) H') E,
        fun H' ⟨η', F', fp', acc', fa', h1, h2, h3, h4, h5⟩ => ⟨ds.length - (i + 1), by omega, η', F', fp', acc', fa', h1, h2, h3, h4, rfl, hlt, h5⟩, fun x H' y => ?_⟩
      obtain ⟨F2, r⟩ := it.yld i _ Fk Hk x H' (List.getElem?_eq_getElem hlt) a.ext.ff a.fh iv y
      rw [List.drop_eq_getElem_cons hlt] at q
      unfold loopC at q
      -- the item beside the new list
      have b0 : Aft C.K fpk Fk Hk (wipe σ own) [.sh ds[i]] [x] ηk F2 H' [] fpk := a.ok.res r
      have b1 : Aft C.K fp1 F1 H1 (wipe σ own) ([.lst acc] ++ [.sh ds[i]]) ([.ref D] ++ [x]) ηk F2 H' (fa ++ []) fpk := a.app b0
      refine ⟨ηk, F2, fpk, .sh ds[i], [], hCC ▸ b0.self, Rs.post_mono (Rs.noX_post (E' := XPS C' ([] ++ fpk) F2 H') (Rs.post_bind q)) (fun η2 hq σ2 F3 H3 fp3 c ch => ?_) fun _ _ z => z⟩
      have c : Aft C.K fpk F2 H' σ2 [] [] η2 F3 H3 [] fp3 := hCC ▸ c
      refine ⟨(wipe_eq ch.1 fun j hj => ch.2 j fun hw => hj (hws j hw)).trans wipe_wipe, ?_⟩
      have ew : wipe σ2 own = wipe σ own := (wipe_eq ch.1 fun j hj => ch.2 j fun hw => hj (hws j hw)).trans wipe_wipe
      -- the new list is carried over
      have d1 : Aft C.K fp1 F1 H1 σ2 [.lst acc] [.ref D] η2 F3 H3 fa fp3 := by
        have b2 : Aft C.K fp1 F1 H1 (wipe σ own) [.lst acc] [.ref D] ηk F2 H' fa fpk := by
          obtain ⟨g1, g2, e, r1, r2⟩ := b1.rt2
          simp only [RT] at r2
          obtain ⟨rfl, _⟩ := r2
          rw [List.append_nil, List.append_nil] at e
          subst e
          have := b1
          rw [List.append_nil] at this
          exact ⟨.one r1, this.rs, this.nd, this.fn, this.fh, this.ext, this.sub⟩
        have := b2.app c
        simpa using this
      refine ⟨η2, F3, fp3, hCC ▸ d1.ok, Rs.post_mono (Rs.noX_post (E' := XP C' fp3 F3 H3 σ2) (Rs.post_bind hq)) (fun b hb F4 H4 fp4 e => ?_) fun _ _ z => z⟩
      have e : Aft C.K fp3 F3 H3 σ2 [] [] b.2 F4 H4 [] fp4 := hCC ▸ e
      have d2 : Aft C.K fp1 F1 H1 σ2 [.lst acc] [.ref D] b.2 F4 H4 fa fp4 := by simpa using d1.app e
      cases eb : b.1 with
      | true =>
        rw [eb, if_pos rfl] at hb
        dsimp only
        rw [if_pos rfl]
        refine ⟨b.2, F4, fp4, hCC ▸ d2.ok, Rs.post_mono (Rs.noX_post (E' := XP C' fp4 F4 H4 σ2) (Rs.post_bind hb)) (fun p hp y F5 H5 f5 fp5 g => ?_) fun _ _ z => z⟩
        have g : Aft C.K fp4 F4 H4 σ2 [p.1] [y] p.2 F5 H5 f5 fp5 := hCC ▸ g
        have d3 : Aft C.K fp1 F1 H1 σ2 [.lst acc, p.1] [.ref D, y] p.2 F5 H5 (fa ++ f5) fp5 := d2.app g
        split at hp
        · rename_i hck
          obtain ⟨xs, f6, hx, hxl, d4⟩ := d3.push
          obtain ⟨f7, r7, p7⟩ := d4.rs.wipes hck.1
          rw [ew] at r7
          have hll := lines hl
          refine ⟨xs, hx, by omega, wipeE p.2 own, F5, f7, acc ++ [p.1], f6, d4.perm r7 p7, hck.2, free_wiped, by simp; omega, ?_⟩
          refine Rs.post_mono (Rs.post_bind hp) (fun r hr F' H' f1 fp' a hfr => ?_) fun _ _ z => z
          refine hr F' H' f1 fp' ?_ hfr
          rw [List.append_assoc] at a
          exact a
        · exact hp.elim
      | false =>
        rw [eb, if_neg Bool.false_ne_true] at hb
        dsimp only
        rw [if_neg Bool.false_ne_true]
        split at hb
        · rename_i hck
          obtain ⟨f7, r7, p7⟩ := d2.rs.wipes hck.1
          rw [ew] at r7
          exact ⟨wipeE b.2 own, F4, f7, acc, fa, d2.perm r7 p7, hck.2, free_wiped, by omega, hb⟩
        · exact hb.elim
    · have e : i = ds.length := by omega
      subst e
      rw [List.drop_length] at q
      refine .inl ⟨it.stop Fk Hk a.ext.ff a.fh iv, q Fk Hk fa fpk ?_ hfk⟩
      rw [List.append_nil]
      exact a
end Pv
set_option Elab.async false
set_option linter.all false
set_option maxRecDepth 100000
set_option maxHeartbeats 4000000
namespace Pv
open PySem L2
variable {X : Cx} {C C' : Cn} {io : List Nat}

/-! ### comprehensions as rules -/
theorem t_lc {own ws : List Nat} {fi : FI} {tgt : FG} {cond : FB} {elt : FE} {σ : St} {H : Hp} {Q : VK} (hCC : C'.K = C.K) (nd : own.Nodup) (hws : ∀ j ∈ ws, j ∈ own) (q : tD C (eComp own fi tgt cond elt) σ H Q) :
    tLc (tI C fi) (tG C' ws tgt) (tB C' cond) (tD C' elt) own σ H Q := by
  obtain ⟨η, F, fp, o, q⟩ := q
  refine ⟨η, F, fp, o, Rs.post_mono (Rs.post_bind q) (fun p hp F' H' fp' J a it D hD => ?_) fun _ _ z => z⟩
  split at hp
  · rename_i hc
    simp only [Bool.and_eq_true] at hc
    refine lc_core' (C := C) (C' := C') (inv := inv0) (chk := fun _ => true) nd hws a.ok hCC it (fun _ _ _ _ _ _ => trivial) hc.1 hc.2 rfl hD (E := XP C fp F H σ) (Rs.post_mono hp (fun r hr v F2 H2 f1 fp2 b => ?_) fun _ _ z => z)
    exact hr v F2 H2 _ fp2 (by simpa using a.app b)
  · exact hp.elim
theorem t_lcV {own ws : List Nat} {i : Nat} {tgt : FG} {cond : FB} {elt : FE} {σ : St} {H : Hp} {Q : VK} (hCC : C'.K = C.K) (nd : own.Nodup) (hws : ∀ j ∈ ws, j ∈ own) (q : tD C (eCompV own i tgt cond elt) σ H Q) :
    tLc (tIV C i) (tG C' ws tgt) (tB C' cond) (tD C' elt) own σ H Q := by
  obtain ⟨η, F, fp, o, q⟩ := q
  unfold eCompV at q
  split at q
  · rename_i d e
    split at q
    · rename_i ds e2
      split at q
      · rename_i hc
        simp only [Bool.and_eq_true, Bool.not_eq_true', List.contains_eq_mem, decide_eq_false_iff_not] at hc
        obtain ⟨v, hv, rq⟩ := pk_rq o e
        refine ⟨η, F, fp, d, ds, v, o, e, seqOf_eq e2, hv, fun J it D hD => ?_⟩
        have h0 : pk (wipeE η own) i = some d := by
          unfold pk
          rw [wipeE_get hc.2]
          exact e
        refine lc_core' (C := C) (C' := C') (chk := pkIs i d) nd hws o hCC it (fun ηk Fk Hk fpk ok hck => ?_) hc.1.1 hc.1.2 (pkIs_of h0) hD (E := XP C fp F H σ) q
        obtain ⟨w, hw, rq⟩ := pk_rq ok (pkIs_eq hck)
        rw [wipe_get hc.2, hv] at hw
        cases hw
        exact rq
      · exact q.elim
    · exact q.elim
  · exact q.elim
section
variable {e : Expr} {own ws : List Nat} {fi : FI} {i : Nat} {tgt : FG} {cond : FB} {elt : FE} {st : Stmt} {y : Nat}
theorem pd_comp (hCC : C'.K = C.K) (nd : own.Nodup) (hws : ∀ j ∈ ws, j ∈ own) (p : PE X e (tLc (tI C fi) (tG C' ws tgt) (tB C' cond) (tD C' elt) own)) : PE X e (tD C (eComp own fi tgt cond elt)) := p.impD fun _ _ _ => t_lc hCC nd hws
theorem pd_compV (hCC : C'.K = C.K) (nd : own.Nodup) (hws : ∀ j ∈ ws, j ∈ own) (p : PE X e (tLc (tIV C i) (tG C' ws tgt) (tB C' cond) (tD C' elt) own)) : PE X e (tD C (eCompV own i tgt cond elt)) := p.impD fun _ _ _ => t_lcV hCC nd hws
theorem psd_set' {te : TE} {f : FE} (hio : y ∉ io) (k : ∀ σ H Q, tD C f σ H Q → te σ H Q) (p : PS X st (tAsg te (gName y))) : PS X st (tS C io (sAsg f (gN y))) :=
  psd_set hio (p.impD fun D σ H q => k σ H _ q)
theorem psd_setLc (hio : y ∉ io) (hCC : C'.K = C.K) (nd : own.Nodup) (hws : ∀ j ∈ ws, j ∈ own) (p : PS X st (tAsg (tLc (tI C fi) (tG C' ws tgt) (tB C' cond) (tD C' elt) own) (gName y))) : PS X st (tS C io (sAsg (eComp own fi tgt cond elt) (gN y))) :=
  psd_set' hio (fun _ _ _ => t_lc hCC nd hws) p
theorem psd_setLcV (hio : y ∉ io) (hCC : C'.K = C.K) (nd : own.Nodup) (hws : ∀ j ∈ ws, j ∈ own) (p : PS X st (tAsg (tLc (tIV C i) (tG C' ws tgt) (tB C' cond) (tD C' elt) own) (gName y))) : PS X st (tS C io (sAsg (eCompV own i tgt cond elt) (gN y))) :=
  psd_set' hio (fun _ _ _ => t_lcV hCC nd hws) p
end
theorem _root_.L2.PTs.impD {X : Cx} {e : List Expr} {t t' : TT} (h : PTs X e t) (k : ∀ σ H Q, t' σ H Q → t σ H Q) : PTs X e t' := ⟨fun pins s σ H Q I q => h.run pins s σ H Q I (k σ H Q q)⟩
theorem ptsd_nil : PTs X [] (tB C bTrue) := pts_nil.impD fun σ H Q ⟨η, F, fp, o, q⟩ => q F H fp o.aft
theorem ptsd_one {a : Expr} {c : FB} (h : PT X a (tB C c)) : PTs X [a] (tB C c) := pts_one h

/-! ### defs -/
/-- a def of plain data; G: what it gives, where it gives something -/
def spP (K : PySem.W.Frag) (n : Nat) (G : List PyData → Option T) : Sp := fun vs H Q _ => ∃ F ds t, Same F H ∧ RpAll K F ds vs ∧ ds.length = n ∧ G ds = some t ∧ Res K F H t Q
def eDef (G : List PyData → Option T) (ga : FA) : FE := fun η => (ga η).bind fun p => fin1 (G (T.vals p.1)) p.2
theorem t_def {n : Nat} {G : List PyData → Option T} {ga : FA} {E : XK} {σ : St} {H : Hp} {Q : VK} (hn : ∀ ds t, G ds = some t → ds.length = n) (h : tD C (eDef G ga) σ H Q) : tCall (spP C.K n G) [] E (tA C ga) σ H Q := by
  obtain ⟨η, F, fp, o, q⟩ := h
  refine tA_step o.aft (Rs.post_mono (Rs.post_bind q) (fun p hp x F1 H1 f1 fp1 a => ?_) fun _ _ z => z)
  obtain ⟨F3, t, s, r, eq, k⟩ := fin_res a hp
  rw [List.append_nil]
  exact ⟨F3, _, t, s.fh, r, hn _ _ eq, eq, k⟩
theorem pd_def {e : Expr} {n : Nat} {G : List PyData → Option T} {ga : FA} {E : XK} (hK : C.K = X.K) (hn : ∀ ds t, G ds = some t → ds.length = n) (p : PE X e (tCall (spP X.K n G) [] E (tA C ga))) : PE X e (tD C (eDef G ga)) := by
  rw [← hK] at p
  exact p.impD fun _ _ _ => t_def hn
/-- a def of no arguments -/
theorem pd_def0 {e : Expr} {G : List PyData → Option T} {E : XK} (hK : C.K = X.K) (hn : ∀ ds t, G ds = some t → ds.length = 0) (p : PE X e (tCall (spP X.K 0 G) [] E tNil)) : PE X e (tD C (eDef G aNil)) := by
  rw [← hK] at p
  refine p.impD fun σ H Q ⟨η, F, fp, o, q⟩ => ?_
  obtain ⟨F3, t, s, r, eq, k⟩ := fin_res o.aft (show (fin1 (G []) η).post _ _ from q)
  exact ⟨F3, [], t, s.fh, r, rfl, eq, k⟩
/-- a def that changes the list that is its first argument -/
def spIO (K : PySem.W.Frag) (n : Nat) (G : T → List PyData → Option (T × T)) : Sp := fun vs H Q _ => ∃ F ds t0 v0 ws f t t1, vs = v0 :: ws ∧ RT K F H t0 v0 f ∧ f.Nodup ∧ (∀ a ∈ f, F a = none) ∧ Same F H ∧ RpAll K F ds ws ∧ ds.length + 1 = n ∧ G t0 ds = some (t, t1) ∧
  ∀ v F' H' f1 f', RT K F' H' t v f1 → RT K F' H' t1 v0 f' → (f1 ++ f').Nodup → (∀ a ∈ f1 ++ f', F' a = none) → Same F' H' → Ext f F H F' H' → (∀ a ∈ f1 ++ f', a ∈ f ∨ H a = none) → Q v H'
def eDefIO (G : T → List PyData → Option (T × T)) (i : Nat) (ga : FA) : FE := fun η => match η[i]? with
  | some (some _) => (ga η).bind fun p => match p.2[i]? with
    | some (some t0) => match G t0 (T.vals p.1) with
      | some r => .ok (r.1, p.2.set i (some r.2))
      | none => .bad
    | _ => .bad
  | _ => .bad
theorem t_defIO {n i : Nat} {G : T → List PyData → Option (T × T)} {ga : FA} {E : XK} {σ : St} {H : Hp} {Q : VK} (hn : ∀ t0 ds r, G t0 ds = some r → ds.length + 1 = n) (h : tD C (eDefIO G i ga) σ H Q) : tCall (spIO C.K n G) [] E (tCons (tVar i) (tA C ga)) σ H Q := by
  obtain ⟨η, F, fp, o, q⟩ := h
  unfold eDefIO at q
  split at q
  · rename_i t00 e0
    obtain ⟨v0, hv0⟩ := o.rs.slot e0
    refine ⟨v0, hv0, ?_⟩
    refine tA_step o.aft (Rs.post_mono (Rs.post_bind q) (fun p hp x F1 H1 f1 fp1 a => ?_) fun _ _ z => z)
    have a : Aft C.K fp F H σ p.1 x p.2 F1 H1 f1 fp1 := a
    split at hp
    · rename_i t0 e1
      split at hp
      · rename_i r e2
        obtain ⟨F2, a2, rp⟩ := a.freeze
        obtain ⟨s, h, rr, h1, h2, h3, h4⟩ := a2.rs.focus (List.getElem?_eq_some_iff.mp e1).1
        obtain ⟨v1, rfl, rt⟩ := h3 _ e1
        obtain rfl : v0 = v1 := by rw [hv0] at h1; cases h1; rfl
        have ndq : (h ++ rr).Nodup := h2.nodup_iff.mp (by simpa using a2.nd)
        have mem : ∀ z, z ∈ h ∨ z ∈ rr → z ∈ fp1 := fun z hz => h2.mem_iff.mpr (List.mem_append.mpr hz)
        have fn : ∀ z ∈ fp1, F2 z = none := fun z hz => a2.fn z (by simpa using hz)
        have sub2 : ∀ z ∈ fp1, z ∈ fp ∨ H z = none := fun z hz => a2.sub z (by simpa using hz)
        have there : ∀ z ∈ fp1, ∃ o, H1 z = some o := a2.rs.there
        show spIO C.K n G ((v0 :: x) ++ []) H1 Q E
        rw [List.append_nil]
        refine ⟨F2, T.vals p.1, t0, v0, x, h, r.1, r.2, rfl, rt, (List.nodup_append.mp ndq).1, fun z hz => fn z (mem z (.inl hz)), a2.fh, rp, hn _ _ _ e2, e2, fun v F' H' g1 g' r1 r2 nd' fn' sh' ext' sub' => ?_⟩
        have disj : ∀ z ∈ rr, z ∉ h := fun z hz hy => (List.nodup_append.mp ndq).2.2 z hy z hz rfl
        obtain ⟨f', rs', pm⟩ := (h4 F' H' ext'.ff (fun z hz o e => ext'.keep z o e (disj z hz))).1 r.2 v0 g' r2
        rw [set_self hv0] at rs'
        have nrr : ∀ z ∈ rr, z ∉ g1 ++ g' := fun z hz hy => by
          rcases sub' z hy with w | w
          · exact disj z hz w
          · obtain ⟨o, e⟩ := there z (mem z (.inr hz))
            rw [e] at w; cases w
        have memf : ∀ z ∈ f', z ∈ g' ∨ z ∈ rr := fun z hz => List.mem_append.mp (pm.mem_iff.mp hz)
        have subH : ∀ z, z ∈ h ∨ H1 z = none → z ∈ fp ∨ H z = none := fun z hz => by
          rcases hz with hz | hz
          · exact sub2 z (mem z (.inl hz))
          · by_cases hm : z ∈ fp
            · exact .inl hm
            · cases e : H z with
              | none => exact .inr rfl
              | some o => rw [a2.ext.keep z o e hm] at hz; cases hz
        refine hp v F' H' g1 f' ⟨.one r1, rs', ?_, fun z hz => ?_, sh', a2.ext.trans ext' fun z hz => sub2 z (mem z (.inl hz)), fun z hz => ?_⟩
        · have tot : (g1 ++ f').Perm ((g1 ++ g') ++ rr) := by
            rw [List.append_assoc]
            exact pm.append_left g1
          refine tot.nodup_iff.mpr (List.nodup_append.mpr ⟨nd', (List.nodup_append.mp ndq).2.1, fun z hz w hw e => nrr w hw (e ▸ hz)⟩)
        · rcases List.mem_append.mp hz with hz | hz
          · exact fn' z (List.mem_append.mpr (.inl hz))
          · rcases memf z hz with hz | hz
            · exact fn' z (List.mem_append.mpr (.inr hz))
            · obtain ⟨o, e⟩ := there z (mem z (.inr hz))
              rw [ext'.new z (by rw [e]; simp) (disj z hz)]
              exact fn z (mem z (.inr hz))
        · rcases List.mem_append.mp hz with hz | hz
          · exact subH z (sub' z (List.mem_append.mpr (.inl hz)))
          · rcases memf z hz with hz | hz
            · exact subH z (sub' z (List.mem_append.mpr (.inr hz)))
            · exact sub2 z (mem z (.inr hz))
      · exact hp.elim
    · exact hp.elim
  · exact q.elim
theorem pd_defIO {e : Expr} {n i : Nat} {G : T → List PyData → Option (T × T)} {ga : FA} {E : XK} (hK : C.K = X.K) (hn : ∀ t0 ds r, G t0 ds = some r → ds.length + 1 = n) (p : PE X e (tCall (spIO X.K n G) [] E (tCons (tVar i) (tA C ga)))) : PE X e (tD C (eDefIO G i ga)) := by
  rw [← hK] at p
  exact p.impD fun _ _ _ => t_defIO hn

/-! bodies -/
def cnN (K : PySem.W.Frag) : Cn := ⟨K, fun _ _ _ _ => False, fun _ => none⟩
def startE (n : Nat) (ts : List T) : Env := ts.map some ++ List.replicate (n - ts.length) none
def retOf (r : Rs (Fl × Env)) : Option (T × Env) := match r with
  | .ok (.ret t, η) => some (t, η)
  | .ok (.nx, η) => some (.sh .none, η)
  | _ => none
theorem RS.nones {K : PySem.W.Frag} {F H : Hp} : ∀ n : Nat, RS K F H (List.replicate n none) (List.replicate n none) []
  | 0 => by simp only [List.replicate, RS]; exact ⟨trivial, trivial⟩
  | n + 1 => by
    simp only [List.replicate_succ, RS]
    exact ⟨none, _, rfl, RS.nones n⟩
theorem RS.startT {K : PySem.W.Frag} {F H : Hp} {m : Nat} : ∀ {ts : List T} {vs : List V} {f : List Addr}, RTs K F H ts vs f → RS K F H (ts.map some ++ List.replicate m none) (vs.map some ++ List.replicate m none) f
  | [], vs, f, h => by
    simp only [RTs] at h
    obtain ⟨rfl, rfl⟩ := h
    exact RS.nones m
  | t :: ts, vs, f, h => by
    obtain ⟨x, xs, f1, f2, rfl, rfl, r1, r2⟩ := h.uncons
    simp only [List.map_cons, List.cons_append, RS]
    exact ⟨x, _, f1, f2, rfl, rfl, r1, RS.startT r2⟩
theorem start_ok {K : PySem.W.Frag} {F H : Hp} {N : List Str} {ts : List T} {vs : List V} {f : List Addr} (h : RTs K F H ts vs f) : RS K F H (startE N.length ts) (L2.start N vs) f := by
  unfold startE L2.start
  rw [h.len]
  exact RS.startT h
end Pv
set_option Elab.async false
set_option linter.all false
set_option maxRecDepth 100000
set_option maxHeartbeats 4000000
/-! several targets take several values, owned lists among them -/
namespace Pv
open PySem L2
variable {X : Cx} {C : Cn} {io : List Nat}
abbrev FGo := List T → Env → Rs Env
def goNil : FGo := fun ts η => match ts with
  | [] => .ok η
  | _ => .bad
def goCons (h : FG) (hs : FGo) : FGo := fun ts η => match ts with
  | t :: ts => (h t η).bind fun η1 => hs ts η1
  | [] => .bad
def tGo (C : Cn) (ws : List Nat) (h : FGo) : TGs := fun vs σ H Q => ∃ η F fp ts f, Aft C.K (f ++ fp) F H σ ts vs η F H f fp ∧ (h ts η).post (fun η' => ∀ σ' F' H' fp', Aft C.K (f ++ fp) F H σ' [] [] η' F' H' [] fp' → Chg ws σ σ' → Q σ' H') (XPS C (f ++ fp) F H)
theorem Ext.more {fp fp2 : List Addr} {F H F' H' : Hp} (a : Ext fp F H F' H') (s : ∀ x ∈ fp, x ∈ fp2) : Ext fp2 F H F' H' := ⟨a.ff, fun b o e h => a.keep b o e fun z => h (s b z), fun b e h => a.new b e fun z => h (s b z)⟩
theorem pgo_nil : PGs X [] (tGo C [] goNil) := by
  refine pgs_nil.impD fun vs σ H Q ⟨η, F, fp, ts, f, a, q⟩ => ?_
  unfold goNil at q
  split at q
  · have hr := a.rt
    simp only [RTs] at hr
    obtain ⟨rfl, rfl⟩ := hr
    exact ⟨rfl, q σ F H fp a ⟨rfl, fun _ _ => rfl⟩⟩
  · exact q.elim
theorem pgo_cons {e : Expr} {es : List Expr} {ws wss : List Nat} {h : FG} {hs : FGo} (h1 : PG X e (tG C ws h)) (h2 : PGs X es (tGo C wss hs))
    (ha : (assignEach (e :: es) X.env).map (·.2) = assign e X.env :: (assignEach es X.env).map (·.2) := by rfl) : PGs X (e :: es) (tGo C (ws ++ wss) (goCons h hs)) := by
  refine (pgs_cons h1 h2 ha).impD fun vs σ H Q ⟨η, F, fp, ts, f, a, q⟩ => ?_
  unfold goCons at q
  split at q
  · rename_i t ts
    obtain ⟨x, xs, f1, f2, rfl, rfl, r1, r2⟩ := a.rt.uncons
    have nd := a.nd
    have n12 := (List.nodup_append.mp nd).1
    have n3 := (List.nodup_append.mp nd).2.1
    have d3 := (List.nodup_append.mp nd).2.2
    have n1 := (List.nodup_append.mp n12).1
    have n2 := (List.nodup_append.mp n12).2.1
    have d12 := (List.nodup_append.mp n12).2.2
    have a0 : Aft C.K (f1 ++ fp) F H σ [t] [x] η F H f1 fp := ⟨.one r1, a.rs, List.nodup_append.mpr ⟨n1, n3, fun y hy z hz => d3 y (by simp [hy]) z hz⟩, fun y hy => a.fn y (by rcases List.mem_append.mp hy with hy | hy <;> simp [hy]), a.fh, .refl, fun y hy => .inl hy⟩
    have sub1 : ∀ y ∈ f1 ++ fp, y ∈ (f1 ++ f2) ++ fp := fun y hy => by rcases List.mem_append.mp hy with hy | hy <;> simp [hy]
    refine ⟨x, xs, rfl, η, F, fp, t, f1, a0, Rs.post_mono (Rs.post_bind q) (fun η1 hq σ1 F1 H1 fp1 b c1 => ?_) fun ex η' z => fun σ' cls d F' H' p1 p2 p3 p4 => z σ' cls d F' H' p1 p2 p3 (p4.more sub1)⟩
    have out : ∀ y ∈ f2, y ∉ f1 ++ fp := fun y hy hz => by
      rcases List.mem_append.mp hz with hz | hz
      · exact d12 y hz y hy rfl
      · exact d3 y (by simp [hy]) y hz rfl
    have there := r2.there
    have r2' : RTs C.K F1 H1 ts xs f2 := r2.mono b.ext.ff fun y hy o e => b.ext.keep y o e (out y hy)
    have a2 : Aft C.K (f2 ++ fp1) F1 H1 σ1 ts xs η1 F1 H1 f2 fp1 := by
      refine ⟨r2', b.rs, List.nodup_append.mpr ⟨n2, by simpa using b.nd, fun y hy z hz e => ?_⟩, fun y hy => ?_, b.fh, .refl, fun y hy => .inl hy⟩
      · subst e
        obtain ⟨o, e⟩ := there y hy
        rcases b.sub y (by simpa using hz) with w | w
        · exact out y hy w
        · rw [e] at w; cases w
      · rcases List.mem_append.mp hy with hy | hy
        · obtain ⟨o, e⟩ := there y hy
          rw [b.ext.new y (by rw [e]; simp) (out y hy)]
          exact a.fn y (by simp [hy])
        · exact b.fn y (by simpa using hy)
    have sub2 : ∀ y ∈ f2 ++ fp1, y ∈ (f1 ++ f2) ++ fp ∨ H y = none := fun y hy => by
      rcases List.mem_append.mp hy with hy | hy
      · exact .inl (by simp [hy])
      · rcases b.sub y (by simpa using hy) with w | w
        · exact .inl (sub1 y w)
        · exact .inr w
    have e01 : Ext ((f1 ++ f2) ++ fp) F H F1 H1 := b.ext.more sub1
    refine ⟨η1, F1, fp1, ts, f2, a2, Rs.post_mono hq (fun η2 hq2 σ2 F2 H2 fp2 c c2 => hq2 σ2 F2 H2 fp2 ⟨c.rt, c.rs, c.nd, c.fn, c.fh, e01.trans c.ext sub2, fun y hy => ?_⟩ ⟨c2.1.trans c1.1, fun j hj => ?_⟩) fun ex η' z => fun σ' cls d F' H' p1 p2 p3 p4 => z σ' cls d F' H' p1 p2 p3 (e01.trans p4 sub2)⟩
    · rcases c.sub y hy with w | w
      · exact sub2 y w
      · by_cases hm : y ∈ (f1 ++ f2) ++ fp
        · exact .inl hm
        · cases e : H y with
          | none => exact .inr rfl
          | some o =>
            have := e01.keep y o e hm
            rw [this] at w; cases w
    · rw [List.mem_append, not_or] at hj
      exact (c2.2 j hj.2).trans (c1.2 j hj.1)
  · exact q.elim
def sMul (n : Nat) (g : FA) (h : FGo) : FS := fun η => (g η).bind fun p => if p.1.length = n ∧ n ≤ 1000 then (h p.1 p.2).bind fun η' => .ok (.nx, η') else .bad
theorem psd_mul {st : Stmt} {n : Nat} {g : FA} {ws : List Nat} {h : FGo} (hK : C.K = X.K) (hio : ∀ j ∈ io, j ∉ ws) (p : PS X st (tAsg (tTup (tA C g)) (gTup X.K n (tGo C ws h)))) : PS X st (tS C io (sMul n g h)) := by
  refine p.impD fun D σ H ⟨η, F, fp, o, q⟩ => ?_
  refine tA_step o.aft (Rs.post_mono (Rs.post_bind q) (fun p hp xs F1 H1 f1 fp1 a => ?_) fun _ _ z => z.xp)
  have a : Aft C.K fp F H σ p.1 xs p.2 F1 H1 f1 fp1 := a
  split at hp
  · rename_i hn
    have hl := a.rt.len
    refine ⟨by rw [hl, hn.1, PySem.sizeLine_eq]; omega, fun t ht => ?_⟩
    have e12 : ∀ b o, H1 b = some o → upd H1 t (.tup xs) b = some o := fun b o e => by rw [upd_ne (ne_of_none e ht)]; exact e
    have a2 : Aft C.K (f1 ++ fp1) F1 (upd H1 t (.tup xs)) σ p.1 xs p.2 F1 (upd H1 t (.tup xs)) f1 fp1 :=
      ⟨a.rt.mono (.refl _) fun b _ o e => e12 b o e, a.rs.mono (.refl _) fun b _ o e => e12 b o e, a.nd, a.fn, fun b o e => e12 b o (a.fh b o e), .refl, fun b hb => .inl hb⟩
    have x12 : Ext (f1 ++ fp1) F1 H1 F1 (upd H1 t (.tup xs)) := ⟨.refl _, fun b o e _ => e12 b o e, fun _ _ _ => rfl⟩
    have x02 : Ext fp F H F1 (upd H1 t (.tup xs)) := a.ext.trans x12 fun b hb => a.sub b hb
    refine ⟨t, xs, rfl, SqT.of upd_same, by rw [hl, hn.1], p.2, F1, fp1, p.1, f1, a2, Rs.post_mono (Rs.post_bind hp) (fun η' hq σ' F' H' fp' b c => ?_) fun ex η' z => fun σ' cls d F' H' p1 p2 p3 p4 => z σ' cls d F' H' p1 p2 p3 (x02.trans p4 a.sub)⟩
    refine hq σ' F' H' fp' ⟨b.rt, b.rs, b.nd, b.fn, b.fh, x02.trans b.ext a.sub, fun y hy => ?_⟩ (c.toIO hio)
    rcases b.sub y hy with w | w
    · exact a.sub y w
    · by_cases hm : y ∈ fp
      · exact .inl hm
      · cases e : H y with
        | none => exact .inr rfl
        | some o =>
          have := x02.keep y o e hm
          rw [this] at w; cases w
  · exact hp.elim
end Pv
set_option Elab.async false
set_option linter.all false
set_option maxRecDepth 100000
set_option maxHeartbeats 4000000
/-! zip where the one is a list and the other a tuple: each side's kind is a Bool -/
namespace Pv
open PySem L2 RZ PySem.Spec PyProof.Rows
/-- the walker over a list (true) or a tuple (false) -/
def WkAt (k : Bool) (h : Heap) (it l : Addr) (i : Nat) : Prop := if k then h.IsListIter it l i else h.IsTupleIter it l i
def SrcAt (k : Bool) (h : Heap) (l : Addr) (xs : Array Value) : Prop := if k then h.IsList l xs else h.IsTuple l xs
section
variable {k : Bool} {h h' : Heap} {it l b : Addr} {i : Nat} {xs : Array Value}
theorem WkAt.far (x : WkAt k h it l i) (e : Heap.ExtBut b h h') (n : it ≠ b) : WkAt k h' it l i := by
  cases k with
  | true => exact Heap.IsListIter.extBut (show h.IsListIter it l i from x) e n
  | false => exact Heap.IsTupleIter.extBut (show h.IsTupleIter it l i from x) e n
theorem SrcAt.far (x : SrcAt k h l xs) (e : Heap.ExtBut b h h') (n : l ≠ b) : SrcAt k h' l xs := by
  cases k with
  | true => exact Heap.IsList.extBut (show h.IsList l xs from x) e n
  | false => exact Heap.IsTuple.extBut (show h.IsTuple l xs from x) e n
theorem WkAt.moved (x : WkAt k h it l i) (e : ∀ o, h.get? it = some o → h'.get? it = some o) : WkAt k h' it l i := by
  cases k with
  | true => exact Heap.IsListIter.at (show h.IsListIter it l i from x) e
  | false => exact Heap.IsTupleIter.at (show h.IsTupleIter it l i from x) e
end
section
variable {prog : Program} {w : World} {A : Around} {E : Value → Shared → Prop} {s : Shared} {k : Bool} {it l : Addr} {i : Nat} {xs : Array Value} {x : Value} {Q : Value → Shared → Prop}
theorem nx_item (a : WkAt k s.heap it l i) (b : SrcAt k s.heap l xs) (e : xs[i]? = some x) (q : ∀ h', WkAt k h' it l (i + 1) → Heap.SameBut it s.heap h' → Q x { s with heap := h' }) : wpAny (model prog w) A (Builtin.SmallTypes.nextOf (.ref it)) Q E s := by
  cases k with
  | true => exact wpAny_nextOf_list_item (show s.heap.IsListIter it l i from a) (show s.heap.IsList l xs from b) e q
  | false => exact nextOf_tuple_item (show s.heap.IsTupleIter it l i from a) (show s.heap.IsTuple l xs from b) e q
theorem nx_end (hh : A.handled = none) (a : WkAt k s.heap it l i) (b : SrcAt k s.heap l xs) (e : xs[i]? = none) (q : ∀ h' e, Heap.ExtBut it s.heap h' → (∃ o, h'.get? e = some o ∧ o.cls = .type "StopIteration") → E (.ref e) { s with heap := h' }) : wpAny (model prog w) A (Builtin.SmallTypes.nextOf (.ref it)) Q E s := by
  cases k with
  | true => exact wpAny_nextOf_list_end hh (show s.heap.IsListIter it l i from a) (show s.heap.IsList l xs from b) e q
  | false => exact nextOf_tuple_end hh (show s.heap.IsTupleIter it l i from a) (show s.heap.IsTuple l xs from b) e q
end
/-! one turn of the zip -/
section
variable {prog : Program} {w : World} {A : Around} {E : Value → Shared → Prop} {s : Shared} {k1 k2 : Bool} {z TI TO i1 i2 l1 l2 : Addr} {n1 n2 : Nat} {xs ys : Array Value} {x y a b : Value}
theorem zn_item {Q : Value → Shared → Prop} (D : ZipApart z TI TO i1 i2 l1 l2) (hz : IsZip s.heap z TI TO .none) (hI : IsPair s.heap TI (.ref i1) (.ref i2)) (hO : IsPair s.heap TO a b)
    (w1 : WkAt k1 s.heap i1 l1 n1) (w2 : WkAt k2 s.heap i2 l2 n2) (c1 : SrcAt k1 s.heap l1 xs) (c2 : SrcAt k2 s.heap l2 ys) (e1 : xs[n1]? = some x) (e2 : ys[n2]? = some y)
    (q : ∀ h', IsZip h' z TI TO (rawInt s.heap.objs.size) → IsPair h' TO x y → WkAt k1 h' i1 l1 (n1 + 1) → WkAt k2 h' i2 l2 (n2 + 1) → IsPair h' s.heap.objs.size x y → h'.objs.size = s.heap.objs.size + 1 →
      (∀ c o, c ≠ z → c ≠ TO → c ≠ i1 → c ≠ i2 → s.heap.get? c = some o → h'.get? c = some o) → Q (.ref s.heap.objs.size) { s with heap := h' }) :
    wpAny (model prog w) A (Builtin.«zip.__next__» ⟨[.ref z], []⟩) (fun fin s' => ∃ v, fin = .done (.ret v) ∧ Q v s') E s := by
  show wpAny _ _ (field (.ref z) 2 >>= _) _ _ _
  refine wpAny_bind (wpAny_field hz rfl (x := .bool false) rfl ?_)
  show wpAny _ _ (field (.ref z) 3 >>= _) _ _ _
  refine wpAny_bind (wpAny_field hz rfl (x := .ref TI) rfl (wpAny_bind (wpAny_seqItems hI rfl ?_)))
  show wpAny _ _ (Builtin.SmallTypes.ownedTupleIsFree (.ref z) >>= _) _ _ _
  refine wpAny_bind ?_
  unfold Builtin.SmallTypes.ownedTupleIsFree
  refine wpAny_bind (wpAny_field hz rfl (x := .none) rfl (wpAny_pure ?_))
  simp only [if_true]
  refine wpAny_bind (wpAny_rule (wpAny_bind (wpAny_field hz rfl (x := .ref TO) rfl (wpAny_bind (wpAny_setField_rec hz (by simp) fun g1 z1 s1 => ?_)))))
  replace z1 : IsZip g1 z TI TO .ellipsis := z1
  refine wpAny_bind ?_
  simp only [List.zipIdx_cons, List.zipIdx_nil, List.forIn_cons, List.forIn_nil]
  refine wpAny_bind (wpAny_bind (wpAny_onRaise ?_))
  show wpAny _ _ (Builtin.SmallTypes.nextOf (.ref i1) >>= _) _ _ _
  refine wpAny_bind (nx_item (w1.far s1.extBut D.i1z) (c1.far s1.extBut D.l1z) e1 fun g2 m1 s2 => wpAny_pure ?_)
  have O2 : IsPair g2 TO a b := s2.extBut _ _ D.TOi1 (s1.extBut _ _ D.TOz hO)
  refine wpAny_bind (wpAny_seqItems O2 rfl (wpAny_bind (wpAny_updateSeq_pair O2 fun g3 O3 s3 => ?_)))
  replace O3 : IsPair g3 TO x b := O3
  refine wpAny_bind (wpAny_letGo (wpAny_pure (wpAny_bind (wpAny_bind (wpAny_onRaise ?_)))))
  show wpAny _ _ (Builtin.SmallTypes.nextOf (.ref i2) >>= _) _ _ _
  refine wpAny_bind (nx_item (((w2.far s1.extBut D.i2z).far s2.extBut D.i12.symm).far s3.extBut D.TOi2.symm) (((c2.far s1.extBut D.l2z).far s2.extBut D.l2i1).far s3.extBut D.l2TO) e2 fun g4 m2 s4 => wpAny_pure ?_)
  have O4 : IsPair g4 TO x b := s4.extBut _ _ D.TOi2 O3
  refine wpAny_bind (wpAny_seqItems O4 rfl (wpAny_bind (wpAny_updateSeq_pair O4 fun g5 O5 s5 => ?_)))
  replace O5 : IsPair g5 TO x y := O5
  refine wpAny_bind (wpAny_letGo (wpAny_pure (wpAny_pure (wpAny_bind (wpAny_seqItems O5 rfl (wpAny_bind (wpAny_newTuple ?_)))))))
  have hsz : g5.objs.size = s.heap.objs.size := by rw [s5.1, s4.1, s3.1, s2.1, s1.1]
  have z5 : IsZip g5 z TI TO .ellipsis := s5.extBut _ _ D.TOz.symm (s4.extBut _ _ D.i2z.symm (s3.extBut _ _ D.TOz.symm (s2.extBut _ _ D.i1z.symm z1)))
  have m1' : WkAt k1 g5 i1 l1 (n1 + 1) := ((m1.far s3.extBut D.TOi1.symm).far s4.extBut D.i12).far s5.extBut D.TOi1.symm
  have m2' : WkAt k2 g5 i2 l2 (n2 + 1) := m2.far s5.extBut D.TOi2.symm
  have zlt : z < g5.objs.size := Heap.lt_size z5
  show wpAny _ _ (Builtin.SmallTypes.ownedTupleHandOut (.ref z) (.ref g5.objs.size) >>= _) _ _ _
  refine wpAny_bind ?_
  unfold Builtin.SmallTypes.ownedTupleHandOut
  have z6 : IsZip (g5.push { cls := .type "tuple", data := .seq #[x, y] }) z TI TO .ellipsis := Heap.get?_push_of_some _ z5
  refine wpAny_bind (wpAny_setField_rec z6 (by simp) fun g7 z7 s7 => ?_)
  replace z7 : IsZip g7 z TI TO (rawInt g5.objs.size) := z7
  refine wpAny_setField_rec z7 (by simp) fun g8 z8 s8 => ?_
  replace z8 : IsZip g8 z TI TO (rawInt g5.objs.size) := z8
  have up : ∀ c o, c ≠ z → g5.get? c = some o → g8.get? c = some o := fun c o n e => s8.extBut _ _ n (s7.extBut _ _ n (Heap.get?_push_of_some _ e))
  have T8 : IsPair g8 g5.objs.size x y := s8.extBut _ _ (Nat.ne_of_gt zlt) (s7.extBut _ _ (Nat.ne_of_gt zlt) (Heap.get?_push_size _ rfl))
  have n8 : g8.objs.size = g5.objs.size + 1 := by rw [s8.1, s7.1, Heap.size_push]
  rw [hsz] at z8 T8 n8
  refine wpAny_pure ⟨_, rfl, ?_⟩
  show Q (.ref g5.objs.size) _
  rw [hsz]
  exact q g8 z8 (up _ _ D.TOz O5) (m1'.moved fun o e => up _ o D.i1z e) (m2'.moved fun o e => up _ o D.i2z e) T8 n8 fun c o d1 d2 d3 d4 e => up c o d1 (s5.extBut _ _ d2 (s4.extBut _ _ d4 (s3.extBut _ _ d2 (s2.extBut _ _ d3 (s1.extBut _ _ d1 e)))))
theorem zn_end {Q : Fin → Shared → Prop} (hh : A.handled = none) (D : ZipApart z TI TO i1 i2 l1 l2) (hz : IsZip s.heap z TI TO .none) (hI : IsPair s.heap TI (.ref i1) (.ref i2)) (hO : IsPair s.heap TO a b)
    (w1 : WkAt k1 s.heap i1 l1 n1) (w2 : WkAt k2 s.heap i2 l2 n2) (c1 : SrcAt k1 s.heap l1 xs) (c2 : SrcAt k2 s.heap l2 ys) (he : xs[n1]? = none ∨ ys[n2]? = none)
    (q : ∀ h' e, (∀ c o, c ≠ z → c ≠ TO → c ≠ i1 → c ≠ i2 → s.heap.get? c = some o → h'.get? c = some o) → (∃ o, h'.get? e = some o ∧ o.cls = .type "StopIteration") → E (.ref e) { s with heap := h' }) :
    wpAny (model prog w) A (Builtin.«zip.__next__» ⟨[.ref z], []⟩) Q E s := by
  show wpAny _ _ (field (.ref z) 2 >>= _) _ _ _
  refine wpAny_bind (wpAny_field hz rfl (x := .bool false) rfl ?_)
  show wpAny _ _ (field (.ref z) 3 >>= _) _ _ _
  refine wpAny_bind (wpAny_field hz rfl (x := .ref TI) rfl (wpAny_bind (wpAny_seqItems hI rfl ?_)))
  show wpAny _ _ (Builtin.SmallTypes.ownedTupleIsFree (.ref z) >>= _) _ _ _
  refine wpAny_bind ?_
  unfold Builtin.SmallTypes.ownedTupleIsFree
  refine wpAny_bind (wpAny_field hz rfl (x := .none) rfl (wpAny_pure ?_))
  simp only [if_true]
  refine wpAny_bind (wpAny_rule (wpAny_bind (wpAny_field hz rfl (x := .ref TO) rfl (wpAny_bind (wpAny_setField_rec hz (by simp) fun g1 z1 s1 => ?_)))))
  replace z1 : IsZip g1 z TI TO .ellipsis := z1
  refine wpAny_bind ?_
  simp only [List.zipIdx_cons, List.zipIdx_nil, List.forIn_cons, List.forIn_nil]
  refine wpAny_bind (wpAny_bind (wpAny_onRaise ?_))
  show wpAny _ _ (Builtin.SmallTypes.nextOf (.ref i1) >>= _) _ _ _
  cases e1 : xs[n1]? with
  | none =>
    refine wpAny_bind (nx_end hh (w1.far s1.extBut D.i1z) (c1.far s1.extBut D.l1z) e1 fun g2 e s2 ⟨oe, ge, ce⟩ => ?_)
    have z2 : IsZip g2 z TI TO .ellipsis := s2 _ _ D.i1z.symm z1
    have ez : e ≠ z := fun x => by subst x; rw [z2] at ge; cases ge; simp at ce
    exact wpAny_setField_rec z2 (by simp) fun g3 _ s3 => q g3 e (fun c o d1 _ d3 _ x => s3.extBut _ _ d1 (s2 _ _ d3 (s1.extBut _ _ d1 x))) ⟨oe, s3.extBut _ _ ez ge, ce⟩
  | some x =>
    have e2 : ys[n2]? = none := by
      rcases he with h | h
      · rw [e1] at h; cases h
      · exact h
    refine wpAny_bind (nx_item (w1.far s1.extBut D.i1z) (c1.far s1.extBut D.l1z) e1 fun g2 m1 s2 => wpAny_pure ?_)
    have O2 : IsPair g2 TO a b := s2.extBut _ _ D.TOi1 (s1.extBut _ _ D.TOz hO)
    refine wpAny_bind (wpAny_seqItems O2 rfl (wpAny_bind (wpAny_updateSeq_pair O2 fun g3 O3 s3 => ?_)))
    refine wpAny_bind (wpAny_letGo (wpAny_pure (wpAny_bind (wpAny_bind (wpAny_onRaise ?_)))))
    show wpAny _ _ (Builtin.SmallTypes.nextOf (.ref i2) >>= _) _ _ _
    refine wpAny_bind (nx_end hh (((w2.far s1.extBut D.i2z).far s2.extBut D.i12.symm).far s3.extBut D.TOi2.symm) (((c2.far s1.extBut D.l2z).far s2.extBut D.l2i1).far s3.extBut D.l2TO) e2 fun g4 e s4 ⟨oe, ge, ce⟩ => ?_)
    have z4 : IsZip g4 z TI TO .ellipsis := s4 _ _ D.i2z.symm (s3.extBut _ _ D.TOz.symm (s2.extBut _ _ D.i1z.symm z1))
    have ez : e ≠ z := fun x => by subst x; rw [z4] at ge; cases ge; simp at ce
    exact wpAny_setField_rec z4 (by simp) fun g5 _ s5 => q g5 e (fun c o d1 d2 d3 d4 x => s5.extBut _ _ d1 (s4 _ _ d4 (s3.extBut _ _ d2 (s2.extBut _ _ d3 (s1.extBut _ _ d1 x))))) ⟨oe, s5.extBut _ _ ez ge, ce⟩
theorem pn_item {Q : Option Value → Shared → Prop} (D : ZipApart z TI TO i1 i2 l1 l2) (hz : IsZip s.heap z TI TO .none) (hI : IsPair s.heap TI (.ref i1) (.ref i2)) (hO : IsPair s.heap TO a b)
    (w1 : WkAt k1 s.heap i1 l1 n1) (w2 : WkAt k2 s.heap i2 l2 n2) (c1 : SrcAt k1 s.heap l1 xs) (c2 : SrcAt k2 s.heap l2 ys) (e1 : xs[n1]? = some x) (e2 : ys[n2]? = some y)
    (q : ∀ h', IsZip h' z TI TO (rawInt s.heap.objs.size) → IsPair h' TO x y → WkAt k1 h' i1 l1 (n1 + 1) → WkAt k2 h' i2 l2 (n2 + 1) → IsPair h' s.heap.objs.size x y → h'.objs.size = s.heap.objs.size + 1 →
      (∀ c o, c ≠ z → c ≠ TO → c ≠ i1 → c ≠ i2 → s.heap.get? c = some o → h'.get? c = some o) → Q (some (.ref s.heap.objs.size)) { s with heap := h' }) : wpAny (model prog w) A (pyNext (.ref z)) Q E s := by
  have ty : s.TypeIs (.ref z) "zip" := ⟨_, hz, rfl⟩
  unfold pyNext
  exact wpAny_bind (wpAny_attempt (wpAny_callSpecial?_slot (name := Str.ofString "__next__") ty F.slot_zip_next (wpAny_call_entry F.slot_zip_next ty F.entry_zip_next
    (zn_item D hz hI hO w1 w2 c1 c2 e1 e2 fun h' p1 p2 p3 p4 p5 p6 p7 => wpAny_pure (q h' p1 p2 p3 p4 p5 p6 p7)) (F.args_zip_next_1 _))))
theorem pn_end {Q : Option Value → Shared → Prop} (hh : A.handled = none) (D : ZipApart z TI TO i1 i2 l1 l2) (hz : IsZip s.heap z TI TO .none) (hI : IsPair s.heap TI (.ref i1) (.ref i2)) (hO : IsPair s.heap TO a b)
    (w1 : WkAt k1 s.heap i1 l1 n1) (w2 : WkAt k2 s.heap i2 l2 n2) (c1 : SrcAt k1 s.heap l1 xs) (c2 : SrcAt k2 s.heap l2 ys) (he : xs[n1]? = none ∨ ys[n2]? = none)
    (q : ∀ h', (∀ c o, c ≠ z → c ≠ TO → c ≠ i1 → c ≠ i2 → s.heap.get? c = some o → h'.get? c = some o) → Q none { s with heap := h' }) : wpAny (model prog w) A (pyNext (.ref z)) Q E s := by
  have ty : s.TypeIs (.ref z) "zip" := ⟨_, hz, rfl⟩
  unfold pyNext
  refine wpAny_bind (wpAny_attempt (wpAny_callSpecial?_slot (name := Str.ofString "__next__") ty F.slot_zip_next (wpAny_call_entry F.slot_zip_next ty F.entry_zip_next (zn_end hh D hz hI hO w1 w2 c1 c2 he fun h' e hk ⟨o, ho, hc⟩ => ?_) (F.args_zip_next_1 _))))
  exact wpAny_bind (wpAny_isInstance (T := "StopIteration") (b := true) ⟨o, ho, hc⟩ isSubtype_stop (wpAny_pure (q _ hk)))
end
/-! the zip is made -/
abbrev wkObj (k : Bool) (l : Addr) : Obj := { cls := .type (if k then "list_iterator" else "tuple_iterator"), data := .fields #[.ref l, .int 0 0] }
abbrev mz1 (k1 : Bool) (h : Heap) (l1 : Addr) : Heap := h.push (wkObj k1 l1)
abbrev mz2 (k1 k2 : Bool) (h : Heap) (l1 l2 : Addr) : Heap := (mz1 k1 h l1).push (wkObj k2 l2)
abbrev mz3 (k1 k2 : Bool) (h : Heap) (l1 l2 : Addr) : Heap := (mz2 k1 k2 h l1 l2).push { cls := .type "tuple", data := .seq #[.ref h.objs.size, .ref (mz1 k1 h l1).objs.size] }
abbrev mz4 (k1 k2 : Bool) (h : Heap) (l1 l2 : Addr) : Heap := (mz3 k1 k2 h l1 l2).push { cls := .type "tuple", data := .seq #[.none, .none] }
abbrev mz5 (k1 k2 : Bool) (h : Heap) (l1 l2 : Addr) : Heap := (mz4 k1 k2 h l1 l2).push { cls := .type "zip", data := .fields #[.none, .bool false, .bool false, .ref (mz2 k1 k2 h l1 l2).objs.size, .ref (mz3 k1 k2 h l1 l2).objs.size] }
abbrev wkFree (k : Bool) (l : Addr) : Prop := (wkObj k l).isFreed = false
theorem wkFree_ok (k : Bool) (l : Addr) : wkFree k l := by cases k <;> rfl
theorem meets_mzTL (l1 l2 : Addr) (xs ys : Array Value) : Meets (Builtin.«zip.__new__» ⟨[.type "zip", .ref l1, .ref l2], []⟩) (fun _ R s => s.heap.IsTuple l1 xs ∧ s.heap.IsList l2 ys ∧ R (.ok (.ret (.ref (mz4 false true s.heap l1 l2).objs.size))) { s with heap := mz5 false true s.heap l1 l2 }) :=
  .of_wp fun prog w A R s h => by
    obtain ⟨hp, g, d, tk, os⟩ := s
    obtain ⟨c1, c2, h⟩ := h
    have hsub := PySem.sub_zip
    have L1 : Heap.IsTuple (Shared.heap ⟨hp, g, d, tk, os⟩) l1 xs := c1
    have L2 : Heap.IsList (Shared.heap ⟨hp.push { cls := .type "tuple_iterator", data := .fields #[.ref l1, .int 0 0] }, g, d, tk, os⟩) l2 ys := Heap.IsList.push c2 _
    wp_walk using wpAny_pyIter_tuple L1, wpAny_pyIter_list L2
    exact ⟨_, rfl, h⟩
theorem meets_mzLT (l1 l2 : Addr) (xs ys : Array Value) : Meets (Builtin.«zip.__new__» ⟨[.type "zip", .ref l1, .ref l2], []⟩) (fun _ R s => s.heap.IsList l1 xs ∧ s.heap.IsTuple l2 ys ∧ R (.ok (.ret (.ref (mz4 true false s.heap l1 l2).objs.size))) { s with heap := mz5 true false s.heap l1 l2 }) :=
  .of_wp fun prog w A R s h => by
    obtain ⟨hp, g, d, tk, os⟩ := s
    obtain ⟨c1, c2, h⟩ := h
    have hsub := PySem.sub_zip
    have L1 : Heap.IsList (Shared.heap ⟨hp, g, d, tk, os⟩) l1 xs := c1
    have L2 : Heap.IsTuple (Shared.heap ⟨hp.push { cls := .type "list_iterator", data := .fields #[.ref l1, .int 0 0] }, g, d, tk, os⟩) l2 ys := Heap.IsTuple.push c2 _
    wp_walk using wpAny_pyIter_list L1, wpAny_pyIter_tuple L2
    exact ⟨_, rfl, h⟩
theorem meets_mz : ∀ (k1 k2 : Bool) (l1 l2 : Addr) (xs ys : Array Value), Meets (Builtin.«zip.__new__» ⟨[.type "zip", .ref l1, .ref l2], []⟩) (fun _ R s => SrcAt k1 s.heap l1 xs ∧ SrcAt k2 s.heap l2 ys ∧ R (.ok (.ret (.ref (mz4 k1 k2 s.heap l1 l2).objs.size))) { s with heap := mz5 k1 k2 s.heap l1 l2 })
  | true, true, l1, l2, xs, ys => meets_zip_new l1 l2 xs ys
  | false, false, l1, l2, xs, ys => meets_zipT_new l1 l2 xs ys
  | true, false, l1, l2, xs, ys => meets_mzLT l1 l2 xs ys
  | false, true, l1, l2, xs, ys => meets_mzTL l1 l2 xs ys
section
variable {prog : Program} {w : World} {A : Around} {E : Value → Shared → Prop} {s : Shared}
theorem wk_new {k : Bool} {h : Heap} {it l : Addr} (e : h.get? it = some (wkObj k l)) : WkAt k h it l 0 := by
  cases k with
  | true => exact ⟨_, e, rfl, rfl⟩
  | false => exact ⟨_, e, rfl, rfl⟩
theorem call_mz {k1 k2 : Bool} {l1 l2 : Addr} {xs ys : Array Value} {Q : Value → Shared → Prop} (c1 : SrcAt k1 s.heap l1 xs) (c2 : SrcAt k2 s.heap l2 ys)
    (q : ∀ h', IsZip h' (s.heap.objs.size + 4) (s.heap.objs.size + 2) (s.heap.objs.size + 3) .none → IsPair h' (s.heap.objs.size + 2) (.ref s.heap.objs.size) (.ref (s.heap.objs.size + 1)) → IsPair h' (s.heap.objs.size + 3) .none .none →
      WkAt k1 h' s.heap.objs.size l1 0 → WkAt k2 h' (s.heap.objs.size + 1) l2 0 → (∀ c o, s.heap.get? c = some o → h'.get? c = some o) → Q (.ref (s.heap.objs.size + 4)) { s with heap := h' }) :
    wpAny (model prog w) A (call (.type "zip") [.ref l1, .ref l2]) Q E s := by
  refine callType_new F.called_zip (by decide) (F.typeCall_zip_2 _ _) (F.newCall_zip_2 _ _) (fun obj => F.args_object_init_3 obj _ _) F.entry_zip_new (meets_mz k1 k2 l1 l2 xs ys) ⟨c1, c2, ?_⟩
  have n1 : (mz1 k1 s.heap l1).objs.size = s.heap.objs.size + 1 := Heap.size_push ..
  have n2 : (mz2 k1 k2 s.heap l1 l2).objs.size = s.heap.objs.size + 2 := by rw [Heap.size_push, n1]
  have n3 : (mz3 k1 k2 s.heap l1 l2).objs.size = s.heap.objs.size + 3 := by rw [Heap.size_push, n2]
  have n4 : (mz4 k1 k2 s.heap l1 l2).objs.size = s.heap.objs.size + 4 := by rw [Heap.size_push, n3]
  have f1 : wkFree k1 l1 := wkFree_ok _ _
  have f2 : wkFree k2 l2 := wkFree_ok _ _
  have g5 : (mz5 k1 k2 s.heap l1 l2).get? (mz4 k1 k2 s.heap l1 l2).objs.size = some _ := Heap.get?_push_size _ rfl
  have g4 : (mz5 k1 k2 s.heap l1 l2).get? (mz3 k1 k2 s.heap l1 l2).objs.size = some _ := Heap.get?_push_of_some _ (Heap.get?_push_size _ rfl)
  have g3 : (mz5 k1 k2 s.heap l1 l2).get? (mz2 k1 k2 s.heap l1 l2).objs.size = some _ := Heap.get?_push_of_some _ (Heap.get?_push_of_some _ (Heap.get?_push_size _ rfl))
  have g2 : (mz5 k1 k2 s.heap l1 l2).get? (mz1 k1 s.heap l1).objs.size = some (wkObj k2 l2) := Heap.get?_push_of_some _ (Heap.get?_push_of_some _ (Heap.get?_push_of_some _ (Heap.get?_push_size _ f2)))
  have g1 : (mz5 k1 k2 s.heap l1 l2).get? s.heap.objs.size = some (wkObj k1 l1) := Heap.get?_push_of_some _ (Heap.get?_push_of_some _ (Heap.get?_push_of_some _ (Heap.get?_push_of_some _ (Heap.get?_push_size _ f1))))
  show _ ∧ _
  rw [n2, n3, n4] at g5
  rw [n1, n2] at g3
  rw [n3] at g4
  rw [n1] at g2
  rw [n4]
  exact ⟨⟨_, g5, rfl⟩, q _ g5 g3 g4 (wk_new g1) (wk_new g2) fun c o x => Heap.get?_push_of_some _ (Heap.get?_push_of_some _ (Heap.get?_push_of_some _ (Heap.get?_push_of_some _ (Heap.get?_push_of_some _ x))))⟩
end
/-! the turn, the iterator, the rule -/
def SqW (k : Bool) (K : PySem.W.Frag) (H : Hp) (a : Addr) (xs : List V) : Prop := if k then SqL K H a xs else SqT K H a xs
theorem sqW_src {X : Cx} {pins : List (Addr × Obj)} {σ : L2.St} {H : Hp} {s : Shared} (I : Inv X pins σ H s) {k : Bool} {a : Addr} {xs : List V} (q : SqW k X.K H a xs) : ∃ its, Vals xs its ∧ SrcAt k s.heap a its.toArray ∧ a < s.heap.objs.size := by
  cases k with
  | true => obtain ⟨its, rv, p, _⟩ := I.list (show SqL X.K H a xs from q); exact ⟨its, rv, p.isList, p.lt⟩
  | false =>
    obtain ⟨its, rv, p, _⟩ := I.tuple (show SqT X.K H a xs from q)
    obtain ⟨o, ho, _⟩ := id p
    exact ⟨its, rv, p, Heap.lt_size ho⟩
theorem sqW_inj {X : Cx} {pins : List (Addr × Obj)} {σ : L2.St} {H : Hp} {s : Shared} (I : Inv X pins σ H s) {k : Bool} {a : Addr} {xs ys : List V} (q : SqW k X.K H a xs) (r : SqW k X.K H a ys) : xs = ys := by
  cases k with
  | true => exact I.list_inj (show SqL X.K H a xs from q) (show SqL X.K H a ys from r)
  | false => exact I.tuple_inj (show SqT X.K H a xs from q) (show SqT X.K H a ys from r)
def ItzM (K : PySem.W.Frag) (k1 k2 : Bool) (a b : Addr) : It :=
  ⟨fun i H => ∃ (xs ys : List V) (x y : V), SqW k1 K H a xs ∧ SqW k2 K H b ys ∧ xs[i]? = some x ∧ ys[i]? = some y,
    fun i H v H' => ∃ T x y, v = .ref T ∧ H T = none ∧ H' = upd H T (.tup [x, y]) ∧ (∀ xs, SqW k1 K H a xs → xs[i]? = some x) ∧ ∀ ys, SqW k2 K H b ys → ys[i]? = some y,
    fun i H => ∃ xs ys : List V, SqW k1 K H a xs ∧ SqW k2 K H b ys ∧ (xs.length ≤ i ∨ ys.length ≤ i)⟩
theorem WkAt.lt {k : Bool} {h : Heap} {it l : Addr} {i : Nat} (x : WkAt k h it l i) : it < h.objs.size := by
  cases k with
  | true => obtain ⟨_, e, _⟩ := (show h.IsListIter it l i from x); exact Heap.lt_size e
  | false => obtain ⟨_, e, _⟩ := (show h.IsTupleIter it l i from x); exact Heap.lt_size e
theorem WkAt.fld {k : Bool} {h : Heap} {it l : Addr} {i : Nat} (x : WkAt k h it l i) : ∃ o f, h.get? it = some o ∧ o.data = .fields f := by
  cases k with
  | true => obtain ⟨o, e, _, d⟩ := (show h.IsListIter it l i from x); exact ⟨o, _, e, d⟩
  | false => obtain ⟨o, e, _, d⟩ := (show h.IsTupleIter it l i from x); exact ⟨o, _, e, d⟩
theorem turn_zipM {P : Program} {w : World} {K : PySem.W.Frag} {elts : List Expr} {kk : Nat} {tpos : Pos} {k1 k2 : Bool} {a b z TI TO i1 i2 : Addr} (D : ZipApart z TI TO i1 i2 a b) :
    Turn P w K (.Tuple elts kk tpos) (ItzM K k1 k2 a b) [z, TI, TO, i1, i2] z (fun i h => IsZip h z TI TO .none ∧ IsPair h TI (.ref i1) (.ref i2) ∧ (∃ x y, IsPair h TO x y) ∧ WkAt k1 h i1 a i ∧ WkAt k2 h i2 b i) where
  mem := by simp
  obj := fun i h st c hc => by
    obtain ⟨hz, hTI, ⟨x, y, hTO⟩, w1, w2⟩ := st
    obtain ⟨o1, f1, e1, d1⟩ := w1.fld
    obtain ⟨o2, f2, e2, d2⟩ := w2.fld
    have e' : c = z ∨ c = TI ∨ c = TO ∨ c = i1 ∨ c = i2 := by simpa using hc
    rcases e' with q | q | q | q | q
    · rw [q]; exact ⟨_, hz, fun v q => nomatch q⟩
    · rw [q]; exact ⟨_, hTI, fun v q => nomatch q⟩
    · rw [q]; exact ⟨_, hTO, fun v q => nomatch q⟩
    · rw [q]; exact ⟨o1, e1, fun v q => by rw [d1] at q; cases q⟩
    · rw [q]; exact ⟨o2, e2, fun v q => by rw [d2] at q; cases q⟩
  keep := fun i h h' st k => by
    obtain ⟨hz, hTI, ⟨x, y, hTO⟩, h1, h2⟩ := st
    exact ⟨k z (by simp) _ hz, k TI (by simp) _ hTI, ⟨x, y, k TO (by simp) _ hTO⟩, h1.moved fun o q => k i1 (by simp) o q, h2.moved fun o q => k i2 (by simp) o q⟩
  item := by
    intro X hP hw hK hc i pins s σ H E I hf st hg
    subst hP hw hK
    obtain ⟨hz, hTI, ⟨x0, y0, hTO⟩, h1, h2⟩ := st
    obtain ⟨xs, ys, x, y, hqx, hqy, hx, hy⟩ := hg
    obtain ⟨its, rv, p, _⟩ := sqW_src I hqx
    obtain ⟨its2, rv2, p2, _⟩ := sqW_src I hqy
    obtain ⟨u, hu, ru⟩ := rv.get hx
    obtain ⟨u2, hu2, ru2⟩ := rv2.get hy
    have hzl : z < s.heap.objs.size := Heap.lt_size hz
    refine pn_item D hz hTI hTO h1 h2 p p2 (x := u) (y := u2) (by simpa using hu) (by simpa using hu2) fun h' z' TO' h1' h2' hT hsz hk => ?_
    refine ⟨_, rfl, wpAny_letOwnedTupleGo_zip (s := { s with heap := h' }) z' fun h'' z'' sb => ?_⟩
    have hT2 : h''.get? s.heap.objs.size = some { cls := .type "tuple", data := .seq #[u, u2] } := (sb.2 _ (Nat.ne_of_gt hzl)).trans hT
    have new : ObjOk X.prog X.w (upd H s.heap.objs.size (.tup [x, y])) h'' s.heap.objs.size (.tup [x, y]) :=
      ⟨by show 2 ≤ sizeLine; decide, [u, u2], .cons ru (.cons ru2 .nil), ⟨_, hT2, rfl, _, rfl⟩⟩
    have I1 : Inv X pins σ (upd H s.heap.objs.size (.tup [x, y])) { s with heap := h'' } :=
      I.turnedNew (t' := s.toks) (ch := [z, TI, TO, i1, i2]) (fun c o hb q => (sb.2 c (fun q' => hb (by simp [q']))).trans (hk c o (fun q' => hb (by simp [q'])) (fun q' => hb (by simp [q'])) (fun q' => hb (by simp [q'])) (fun q' => hb (by simp [q'])) q)) hf (Nat.le_refl _) new
    refine ⟨.ref s.heap.objs.size, _, I1, rfl, ⟨_, x, y, rfl, I.hok.fresh (Nat.le_refl _), rfl, fun l hl => by rw [sqW_inj I hl hqx]; exact hx, fun l hl => by rw [sqW_inj I hl hqy]; exact hy⟩, ⟨z'', ?_, ⟨u, u2, ?_⟩, ?_, ?_⟩, fun c hcm => ?_⟩
    · exact (sb.2 _ D.TIz).trans (hk _ _ D.TIz D.TITO D.TIi1 D.TIi2 hTI)
    · exact (sb.2 _ D.TOz).trans TO'
    · exact h1'.moved fun o q => (sb.2 _ D.i1z).trans q
    · exact h2'.moved fun o q => (sb.2 _ D.i2z).trans q
    · have hlt : c < s.heap.objs.size := by
        have e' : c = z ∨ c = TI ∨ c = TO ∨ c = i1 ∨ c = i2 := by simpa using hcm
        rcases e' with q | q | q | q | q
        · rw [q]; exact hzl
        · rw [q]; exact Heap.lt_size hTI
        · rw [q]; exact Heap.lt_size hTO
        · rw [q]; exact h1.lt
        · rw [q]; exact h2.lt
      rw [upd_ne (Nat.ne_of_lt hlt)]
      exact (hf c hcm).1
  done := by
    intro X hP hw hK hc i pins s σ H E I hf st hg
    subst hP hw hK
    obtain ⟨hz, hTI, ⟨x0, y0, hTO⟩, h1, h2⟩ := st
    obtain ⟨xs, ys, hqx, hqy, hend⟩ := hg
    obtain ⟨its, rv, p, _⟩ := sqW_src I hqx
    obtain ⟨its2, rv2, p2, _⟩ := sqW_src I hqy
    have l1 := rv.length
    have l2 := rv2.length
    have he : its.toArray[i]? = none ∨ its2.toArray[i]? = none := by
      rcases hend with q | q
      · exact .inl (by simp; omega)
      · exact .inr (by simp; omega)
    exact pn_end (I.ok.hd hc) D hz hTI hTO h1 h2 p p2 he fun h' hk => ⟨rfl, I.turnedL (t' := s.toks) (ch := [z, TI, TO, i1, i2]) (fun c o hb q =>
      hk c o (fun q' => hb (by simp [q'])) (fun q' => hb (by simp [q'])) (fun q' => hb (by simp [q'])) (fun q' => hb (by simp [q'])) q) hf⟩
  self := fun A i s Q E st h => wpAny_pyIter_zip st.1 h
def iZipM (K : PySem.W.Frag) (ta : TA) : L2.TI := fun σ H R => ta σ H fun vs H1 => ∃ k1 k2 a b xs ys, vs = [.ref a, .ref b] ∧ SqW k1 K H1 a xs ∧ SqW k2 K H1 b ys ∧ R (ItzM K k1 k2 a b) H1
theorem pi_zipM {X : Cx} {e e2 : Expr} {ta : TA} {p pos tpos : Pos} {elts : List Expr} {kk : Nat} (hg : Gl X "zip") (hm : X.mg "zip" = none) (ha : PA X [e, e2] ta)
    (hs : starEach [e, e2] X.env = (false, eval e X.env) :: starEach [e2] X.env := by rfl) (hpl : (backTo pos (starEach [e2] X.env)).any (·.1) = false := by rfl) :
    PI X (.Tuple elts kk tpos) (.Call (.Name "zip" p) [e, e2] [] pos) (iZipM X.K ta) := by
  refine ⟨fun pins s σ H R I h => ?_⟩
  refine Call_ (ld_blt I hg hm PyProof.Rows.boot_zip (PyProof.Rows.callWith_type1 (thn (ha.run pos pins s σ H _ I h) fun us s1 ⟨vs, H1, I1, r1, q1⟩ => ?_) hs hpl))
  obtain ⟨k1, k2, a, b, xs, ys, ex, hqx, hqy, q⟩ := q1
  subst ex
  cases r1 with
  | cons r rr =>
    cases rr with
    | cons r' rr =>
      cases rr
      cases r
      cases r'
      have fresh5 : ∀ c, c ∈ [s1.heap.objs.size + 4, s1.heap.objs.size + 2, s1.heap.objs.size + 3, s1.heap.objs.size, s1.heap.objs.size + 1] → FpOk X pins H1 c := fun c hcm => by
        have e' : c = s1.heap.objs.size + 4 ∨ c = s1.heap.objs.size + 2 ∨ c = s1.heap.objs.size + 3 ∨ c = s1.heap.objs.size ∨ c = s1.heap.objs.size + 1 := by simpa using hcm
        have hle : s1.heap.objs.size ≤ c := by
          rcases e' with z | z | z | z | z
          · rw [z]; exact Nat.le_add_right _ _
          · rw [z]; exact Nat.le_add_right _ _
          · rw [z]; exact Nat.le_add_right _ _
          · rw [z]; exact Nat.le_refl _
          · rw [z]; exact Nat.le_add_right _ _
        exact I1.fpOk hle (I1.hok.fresh hle)
      obtain ⟨its, rv, p1, lt1⟩ := sqW_src I1 hqx
      obtain ⟨its2, rv2, p2, lt2⟩ := sqW_src I1 hqy
      refine call_mz p1 p2 fun h' hz hTI hTO h1 h2 hk => wpAny_pyIter_zip hz ?_
      have I2 : Inv X pins σ H1 { s1 with heap := h' } := I1.kept (t' := s1.toks) hk
      exact ⟨s1.heap.objs.size + 4, [s1.heap.objs.size + 4, s1.heap.objs.size + 2, s1.heap.objs.size + 3, s1.heap.objs.size, s1.heap.objs.size + 1], _, _, H1, rfl, I2, turn_zipM (PySem.W.ktu_apart s1.heap.objs.size a b lt1 lt2), ⟨hz, hTI, ⟨_, _, hTO⟩, h1, h2⟩, fresh5, q⟩
theorem sqW_mono {k : Bool} {K : PySem.W.Frag} {F H : Hp} {a : Addr} {xs : List V} (h : Same F H) (q : SqW k K F a xs) : SqW k K H a xs := by
  cases k with
  | true => exact sqL_mono h q
  | false => exact sqT_mono h q
theorem itzM_ok {K : PySem.W.Frag} {F : Hp} {k1 k2 : Bool} {ds es : List PyData} {a b : Addr} {xs ys : List V} (q : SqW k1 K F a xs) (rp : RpAll K F ds xs) (q2 : SqW k2 K F b ys) (rp2 : RpAll K F es ys) : ItOk K inv0 F (zipD ds es) (ItzM K k1 k2 a b) where
  go := fun i Fk Hk hi sf sh _ => by
    have hl := rp.len
    have hl2 := rp2.len
    rw [zipD_len] at hi
    exact ⟨xs, ys, xs[i]'(by omega), ys[i]'(by omega), sqW_mono sh (sqW_mono sf q), sqW_mono sh (sqW_mono sf q2), List.getElem?_eq_getElem _, List.getElem?_eq_getElem _⟩
  stop := fun Fk Hk sf sh _ => ⟨xs, ys, sqW_mono sh (sqW_mono sf q), sqW_mono sh (sqW_mono sf q2), by rw [zipD_len, rp.len, rp2.len]; omega⟩
  yld := fun i d Fk Hk x H' hd sf sh _ y => by
    obtain ⟨p, u, u2, rfl, hp, rfl, y, y2⟩ := y
    obtain ⟨d', e', h1, h1', rfl⟩ := zipD_get _ _ _ _ hd
    obtain ⟨v, h2, h3⟩ := rp.get h1
    obtain ⟨v2, h4, h5⟩ := rp2.get h1'
    have := y xs (sqW_mono sh (sqW_mono sf q))
    rw [h2] at this; cases this
    have := y2 ys (sqW_mono sh (sqW_mono sf q2))
    rw [h4] at this; cases this
    exact pair_new sh (h3.mono sf) (h5.mono sf) hp
theorem rp_sqW {K : PySem.W.Frag} {F : Hp} {d : PyData} {ds : List PyData} {x : V} (e : seqOf d = some ds) (r : Rp K F d x) : ∃ k a xs, x = .ref a ∧ SqW k K F a xs ∧ RpAll K F ds xs := by
  rcases seqOf_eq e with e | e
  · subst e
    simp only [Rp] at r
    obtain ⟨p', xs, rfl, q1, w⟩ := r
    exact ⟨true, p', xs, rfl, q1, w⟩
  · subst e
    simp only [Rp] at r
    obtain ⟨p', xs, rfl, q1, w⟩ := r
    exact ⟨false, p', xs, rfl, q1, w⟩
section
variable {C : Cn} {X : Cx}
theorem pid_zipM {tg e : Expr} {f g : FE} (hK : C.K = X.K) (h : PI X tg e (iZipM X.K (tCons (tD C f) (tCons (tD C g) tNil)))) : PI X tg e (tI C (iZ f g)) := by
  refine h.impD fun σ H R ⟨η, F, fp, o, q⟩ => ?_
  refine tD_step o.aft (Rs.post_mono (Rs.post_bind q) (fun p hp x F1 H1 f1 fp1 a => ?_) fun _ _ z => z)
  refine tD_step a (Rs.post_mono (Rs.post_bind hp) (fun p2 hp2 y F2 H2 f2 fp2 b => ?_) fun _ _ z => z)
  obtain ⟨F3, a2, rp⟩ := b.freeze
  simp only [List.nil_append, List.cons_append, T.vals, RpAll] at rp
  obtain ⟨x', xs, e1, r1, y', ys, rfl, r2, rfl⟩ := rp
  obtain ⟨rfl, rfl⟩ : x = x' ∧ y = y' := by simpa using e1
  split at hp2
  · rename_i ds es e1 e2
    obtain ⟨k1, p', xs, rfl, q1, w⟩ := rp_sqW e1 r1
    obtain ⟨k2, p2', ys, rfl, q2, w2⟩ := rp_sqW e2 r2
    refine ⟨k1, k2, p', p2', xs, ys, rfl, by rw [← hK]; exact sqW_mono a2.fh q1, by rw [← hK]; exact sqW_mono a2.fh q2, hp2 F3 H2 fp2 _ a2 ?_⟩
    rw [← hK]
    exact itzM_ok q1 w q2 w2
  · exact hp2.elim
end
end Pv
set_option Elab.async false
set_option linter.all false
set_option maxRecDepth 100000
set_option maxHeartbeats 4000000
/-! dicts, shared: displays -/
namespace Pv
open PySem L2 PyProof.Rows
section
variable {X : Cx} {C : Cn}
theorem pd_dct0 {pos : Pos} : PE X (.Dict [] [] pos) (tD C (eC (.dict []))) :=
  pe_dnewK.impD fun σ H Q ⟨η, F, fp, o, q⟩ p hp => q _ _ _ _ _ (o.res (ResOk.dct (ds := []) (ks := []) o.fh (by simp only [RpKv]) hp))
/-- {k: x}, k a constant, x a name -/
def eDct1 (k : Key) (i : Nat) : FE := fun η => (eV i η).bind fun p => .ok (.sh (.dict [(keyD k, p.1.val)]), p.2)
theorem merge1 {k : Key} {v : V} : mergeK [] [(k, v)] = [(k, v)] := by
  simp [mergeK, putK]
theorem pd_dct1 {ke : Expr} {x : Str} {px pos : Pos} {k : Key} {i : Nat} (hk : PE X ke (tC (kV k))) (hv : PE X (.Name x px) (tVar i)) : PE X (.Dict [some ke] [.Name x px] pos) (tD C (eDct1 k i)) := by
  refine (pe_disp (pps_cons hk hv pps_nil) rfl rfl (by simp) (by simp)).impD fun σ H Q ⟨η, F, fp, o, q⟩ p hp => ?_
  have h : tD C (eV i) σ H fun v H' => ∀ p, H' p = none → Q (.ref p) (upd H' p (.dK [(k, v)])) := by
    refine ⟨η, F, fp, o, Rs.post_mono (Rs.post_bind q) (fun r hr v F1 H1 f1 fp1 a p hp => ?_) fun _ _ z => z⟩
    obtain ⟨F2, a2, rp⟩ := a.freeze
    simp only [T.vals, RpAll] at rp
    obtain ⟨v', xs, e1, r1, rfl⟩ := rp
    obtain rfl : v = v' := by simpa using e1
    exact hr _ _ _ _ _ (a2.res (ResOk.dct (ds := [(keyD k, r.1.val)]) (ks := [(k, v)]) a2.fh (by simp only [RpKv]; exact ⟨k, v, [], rfl, rfl, r1, rfl⟩) hp))
  obtain ⟨v, e, h⟩ := eV_var h
  show tVar i σ (upd H p (.dK [])) _
  refine ⟨v, e, ?_⟩
  refine ⟨upd_same, [(k, v)], rfl, by simp, ?_⟩
  rw [merge1, upd_upd]
  exact h p hp
end
end Pv
set_option Elab.async false
set_option linter.all false
set_option maxRecDepth 100000
set_option maxHeartbeats 4000000
/-! the call of a def where it is known that no repr is under way -/
namespace Pv
open PySem L2 PySem.Spec PyProof.Rows
/-- a def's promise, asked for only where nothing is under way -/
structure FnG (P : Program) (w : World) (K : PySem.W.Frag) (mg : Str → Option Value) (base : Heap) (k : Nat) (f : Addr) (fd : FuncData) (ps : List Str) (sp : Sp) : Prop where
  ln : ∀ vs H Q E, sp vs H Q E → vs.length = ps.length
  go : ∀ (A : Around) (outer : List PySem.Env) (s : Shared) (H : Hp) (args : Args) (us : List Value) (vs : List V) (Q : VK) (E : XK), Room k A → A.guards = some [] → Env0 P w K mg base A outer s H →
    BindsTo s fd args (ps.zip us) → Vals vs us → sp vs H Q E → codeAny (model P w) A (.call (.ref f) args) (CR CX0 outer P w H s Q E) s
theorem FnG.mono {P : Program} {w : World} {K : PySem.W.Frag} {mg : Str → Option Value} {base : Heap} {j k : Nat} {f : Addr} {fd : FuncData} {ps : List Str} {sp : Sp} (F : FnG P w K mg base j f fd ps sp) (h : j ≤ k) : FnG P w K mg base k f fd ps sp :=
  ⟨F.ln, fun A outer s H args us vs Q E hr => F.go A outer s H args us vs Q E (hr.mono h)⟩
section
variable {X : Cx} {k : Nat} {f : Addr} {fd : FuncData} {ps : List Str} {sp : Sp} {E : XK} {x : Str} {p pos : Pos} {e : Expr} {es : List Expr} {t : TA}
theorem fnG_at {pins : List (Addr × Obj)} {σ : L2.St} {H : Hp} {s : Shared} {Q : VK} {us : List Value} {vs : List V} (F : FnG X.prog X.w X.K X.mg X.base k f fd ps sp) (hr : Room k X.A) (hu : X.A.guards = some []) (hb : Binds X.K fd ps [])
    (I : Inv X pins σ H s) (r : Vals vs us) (h : sp vs H Q E) : wpAny (model X.prog X.w) X.A (call (.ref f) us) (EP X pins σ Q) X.xe s := by
  have hl : us.length = ps.length := r.length.symm.trans (F.ln _ _ _ _ h)
  have hz := hb s us I.kIn (by rw [List.append_nil]; exact hl)
  rw [List.append_nil] at hz
  refine wpAny_call (codeAny_mono (F.go X.A X.stack s H ⟨us, []⟩ us vs Q E hr hu I.env0 hz r h) fun res s' hq => ?_)
  match res, hq with
  | .error _, hq => exact hq.elim
  | .ok (.ret _), hq => exact I.after hq
def xk0 : XK := fun _ _ _ => False
theorem pe_callG (F : FnG X.prog X.w X.K X.mg X.base k f fd ps sp) (hr : Room k X.A) (hu : X.A.guards = some []) (hg : Gl X x) (hm : X.mg x = some (.ref f)) (hk : PySem.W.keepIn X.K (.ref f) = true) (hb : Binds X.K fd ps [])
    (ha : PA X (e :: es) t) (hdb : (x == ("__debug__" : Str)) = false := by decide) (he : starEach (e :: es) X.env = (false, eval e X.env) :: starEach es X.env := by rfl) (hpl : (backTo pos (starEach es X.env)).any (·.1) = false := by rfl) :
    PE X (.Call (.Name x p) (e :: es) [] pos) (tCall sp [] xk0 t) := ⟨fun pins s σ H Q I h =>
  wpAny_Call_Name_kw (ld_glob I hg hm (PySem.W.callWith_K (h₀ := X.base) I.ok.mod.kin hk (thn (ha.run pos pins s σ H _ I h) fun us s1 ⟨vs, H1, I1, r, q⟩ => ⟨I1.kIn, fnG_at F hr hu hb I1 r (by have q : sp (vs ++ []) H1 Q xk0 := q; rw [List.append_nil] at q; exact q)⟩) he hpl) hdb)⟩
theorem pe_callG0 (F : FnG X.prog X.w X.K X.mg X.base k f fd ps sp) (hr : Room k X.A) (hu : X.A.guards = some []) (hg : Gl X x) (hm : X.mg x = some (.ref f)) (hk : PySem.W.keepIn X.K (.ref f) = true) (hb : Binds X.K fd ps [])
    (hdb : (x == ("__debug__" : Str)) = false := by decide) : PE X (.Call (.Name x p) [] [] pos) (tCall sp [] xk0 tNil) := ⟨fun pins s σ H Q I h =>
  wpAny_Call_Name_kw (ld_glob I hg hm (PySem.W.callWith_K0 I.kIn hk (fnG_at (us := []) F hr hu hb I .nil h)) hdb)⟩
end
/-- THE RULE: the body, one stack deeper -/
theorem fnG_of {P : Program} {w : World} {K : PySem.W.Frag} {mg : Str → Option Value} {base : Heap} {x qual : Str} {params : Arguments} {body : List Stmt} {scope : Scope} {f : Addr} {fd : FuncData} {N ps : List Str} {k : Nat} {sp : Sp}
    (F : FunD K x qual params body scope [] [] f fd) (S : FnScope N ps scope) (ln : ∀ vs H Q E, sp vs H Q E → vs.length = ps.length)
    (hbody : ∀ (cdv : Value) (A : Around) (outer : List PySem.Env) (s : Shared) (H : Hp) (vs : List V) (Q : VK) (E : XK), Room k (A.deeper (envOfC qual scope s.heap.objs.size f cdv)) → (A.deeper (envOfC qual scope s.heap.objs.size f cdv)).guards = some [] → sp vs H Q E →
      ∃ t, PSs (cxOf CX0 P w K mg base N qual scope f cdv A outer s H E) body t ∧ t { nx := fun _ H' => Q .non H', rt := Q } (L2.start N vs) H) : FnG P w K mg base (k + 1) f fd ps sp := by
  obtain ⟨oc, od, dV, kV, doc, pm, an, cdv, ct, osl, rfl, lk, hcd, _, _⟩ := F.ex
  refine ⟨ln, fun A outer s H args us vs Q E hr hu e0 hb r hsp => ?_⟩
  have KX : K.In s.heap := e0.mod.kin.keeps fun b o z => (e0.bs b o z).1
  have lim : s.heap.NoLimit := e0.mod.nolimit.keeps fun b o z => (e0.bs b o z).1
  have hkind : ∀ y ∈ ps.zip us, scope.names.lookup y.1 = some .local ∨ (scope.names.lookup y.1 = some .cell ∧ ((cellsFrom (s.heap.objs.size + 1) scope.names []).lookup y.1).isSome = true) := by
    rintro ⟨n, v⟩ hy
    exact (S.par n (List.of_mem_zip hy).1).imp id fun z => ⟨z, PySem.W.cellsFrom_some _ _ _ (.inl z)⟩
  refine codeAny_call_function hr.depth (KX _ _ lk) rfl S.co S.gen rfl (PySem.W.codeRec_of KX hcd) (hb _ _ _ _ ?_)
  refine wpAny_newFunctionEnv_cells S.kind hkind fun env he s1 y => ?_
  subst he
  refine ⟨lim.keeps y.toInCall.keep, codeAny_func ?_⟩
  obtain ⟨t, ht, hq⟩ := hbody cdv A outer s H vs Q E (hr.deeper _) hu hsp
  have I : Inv (cxOf CX0 P w K mg base N qual scope f cdv A outer s H E) [] (L2.start N vs) H s1 := inv_start S hr.hd e0 (ln _ _ _ _ hsp) r y
  refine wpAny_mono (ht.run [] s1 (L2.start N vs) H _ I hq) (fun fl s' hs => ?_) fun _ _ z => z
  match fl, hs with
  | .ret _, ⟨v, σ', H', J, rv, q⟩ => exact ⟨v, H', J.os, J.bare, J.base, J.hok, rv, q⟩
  | .next, ⟨σ', H', J, q⟩ => exact ⟨.non, H', J.os, J.bare, J.base, J.hok, rfl, q⟩
  | .brk, ⟨_, _, _, q⟩ => exact q.elim
  | .cont, ⟨_, _, _, q⟩ => exact q.elim
/-! the law's call, at the top -/
section
variable {P : Program} {w : World} {K : PySem.W.Frag} {mg mb : Str → Option Value} {k : Nat} {fa a : Addr} {fd : FuncData} {x : Str} {sp : Sp} {s₁ : Shared} {vs : List Value} {ns : List Int}
theorem topG (H : Hp) (KX : K.In s₁.heap) (hns : s₁.heap.Ns mainGlobals mg) (hb : s₁.heap.Ns builtinsNs mb) (hbb : ∀ x : Str, x ≠ "__name__" → mb x = bootBuiltins x) (hlim : s₁.heap.NoLimit) (hg : s₁.gens = #[])
    (ha : s₁.heap.get? a = some { cls := .type "list", data := .seq vs.toArray }) (hr : Room k callerA)
    (F : ∀ base : Heap, K.In base → base.Ns mainGlobals mg → FnG P w K mg base k fa fd [x] sp) (hbind : ∀ (s : Shared) (u : Value), BindsTo s fd ⟨[u], []⟩ [(x, u)])
    (hO : Only H) (hsp : sp [.ref a] H (fun v _ => v = .bl true) fun _ _ _ => False) (hok : HOk P w H s₁.heap) (hA : ∀ b u, H b = some u → b = a) (hK : ∀ u, H a = some u → K.lookup a = none) :
    codeAny (model P w) callerA (.call (.ref fa) ⟨[.ref a], []⟩) (fun r s' => r = .ok (.ret (.bool true)) ∧ OldK s₁.heap s'.heap ∧ s'.os = s₁.os ∧ AllBare s'.gens) s₁ := by
  have nodict : ∀ {b : Addr} {o : Obj} {es : Array DictEntry} {ep : Nat}, s₁.heap.get? b = some o → o.data = .dict es ep → H b = none := by
    intro b o es ep e d
    cases q : H b with
    | none => rfl
    | some u =>
      rw [hA b u q, ha] at e
      rw [← Option.some.inj e] at d
      exact nomatch d
  have ns_of : ∀ {b : Addr} {m : Str → Option Value}, s₁.heap.Ns b m → (hidT s₁.heap H).Ns b m := fun ⟨o, es, ep, e, d, r⟩ => ⟨o, es, ep, hidT_get e (nodict e d), d, r⟩
  have hKb : K.In (hidT s₁.heap H) := by
    intro b o e
    refine hidT_get (KX b o e) ?_
    cases q : H b with
    | none => rfl
    | some u =>
      have hba := hA b u q
      rw [hba] at e q
      rw [hK u q] at e
      exact nomatch e
  have hM : Mod K mg (hidT s₁.heap H) := ⟨hKb, ns_of hns, ⟨mb, ns_of hb, hbb⟩, let ⟨mc, h1, h2⟩ := hlim; ⟨mc, ns_of h1, h2⟩⟩
  have e0 : Env0 P w K mg (hidT s₁.heap H) callerA [] s₁ H := ⟨rfl, hM, fun _ _ e => of_hidT e, Nat.le_of_eq (hidT_size _ _), trivial, fun _ hb => (List.not_mem_nil hb).elim, hok, .of_eq hg⟩
  refine codeAny_mono ((F _ hKb (ns_of hns)).go callerA [] s₁ H ⟨[.ref a], []⟩ [.ref a] [.ref a] _ _ hr rfl e0 (hbind s₁ (.ref a)) (.cons rfl .nil) hsp) fun r s' h => ?_
  match r, h with
  | .error _, h => exact h.elim
  | .ok (.ret u), ⟨v, H', os, bare, un, hok', r', q⟩ =>
    have q : v = .bl true := q
    subst q
    obtain rfl : u = Value.bool true := r'
    refine ⟨rfl, OldK.of_keep fun b o e => ?_, os, bare⟩
    cases q : H b with
    | none => exact un.keep b o e q (fun z => (List.not_mem_nil z).elim) List.not_mem_nil
    | some u =>
      obtain ⟨ob, xs, z⟩ := (hO b).resolve_left (by rw [q]; exact fun z => nomatch z)
      have e1 := (hok b _ z).1
      rw [e] at e1
      rw [Option.some.inj e1]
      exact (hok' b _ (un.frzs b ob _ z)).1
theorem law_callG (KX : K.In s₁.heap) (hns : s₁.heap.Ns mainGlobals mg) (hb : s₁.heap.Ns builtinsNs mb) (hbb : ∀ x : Str, x ≠ "__name__" → mb x = bootBuiltins x) (hlim : s₁.heap.NoLimit) (hg : s₁.gens = #[])
    (ha : s₁.heap.get? a = some { cls := .type "list", data := .seq vs.toArray }) (hi : IntsAre vs ns) (hl : ns.length ≤ sizeLine) (hr : Room k callerA)
    (F : ∀ base : Heap, K.In base → base.Ns mainGlobals mg → FnG P w K mg base k fa fd [x] sp) (hbind : ∀ (s : Shared) (u : Value), BindsTo s fd ⟨[u], []⟩ [(x, u)])
    (hsp : ∀ H : Hp, Only H → SqL K H a (ns.map V.int) → sp [.ref a] H (fun v _ => v = .bl true) fun _ _ _ => False) :
    codeAny (model P w) callerA (.call (.ref fa) ⟨[.ref a], []⟩) (fun r s' => r = .ok (.ret (.bool true)) ∧ OldK s₁.heap s'.heap ∧ s'.os = s₁.os ∧ AllBare s'.gens) s₁ := by
  have rv := vals_ints hi
  have lenV := hi.length
  cases hk : K.lookup a with
  | some o =>
    have e := KX a o hk
    rw [ha] at e
    have e := Option.some.inj e
    subst e
    have hO : Only fun _ => none := fun _ => .inl rfl
    exact topG (fun _ => none) KX hns hb hbb hlim hg ha hr F hbind hO (hsp _ hO (.inr ⟨_, vs.toArray, _, hk, rfl, rfl, rfl, by rw [List.size_toArray, lenV]; exact hl, by simpa using rv⟩)) (fun _ _ z => nomatch z) (fun _ _ z => nomatch z) fun _ z => nomatch z
  | none =>
    let ob : Obj := { cls := .type "list", data := .seq vs.toArray }
    let H0 : Hp := fun b => if b = a then some (.frz ob (.lst (ns.map V.int))) else none
    have at_ : H0 a = some (.frz ob (.lst (ns.map V.int))) := if_pos rfl
    have is : ∀ b u, H0 b = some u → b = a := fun b u z => by
      by_cases c : b = a
      · exact c
      · rw [show H0 b = none from if_neg c] at z
        exact nomatch z
    have hO : Only H0 := fun b => by
      by_cases c : b = a
      · rw [c]; exact .inr ⟨_, _, at_⟩
      · exact .inl (if_neg c)
    refine topG H0 KX hns hb hbb hlim hg ha hr F hbind hO (hsp _ hO (.inl (.inr ⟨_, at_⟩))) (fun b u z => ?_) is fun _ _ => hk
    have c := is b u z
    subst c
    rw [at_] at z
    rw [← Option.some.inj z]
    exact ⟨ha, by rw [List.length_map]; exact hl, vs, _, rv, ha⟩
end
theorem walk_ofG {l : PySem.W.OpenLaw} {n k : Nat} {q : Program} {loose : List Str} {XP : (Str → Option Value) → Heap → Prop} {YP : World → Heap → Prop} {d : DefRec} {x : Str} (hn : l.most = some n) (hn2 : n ≤ sizeLine) (hdf : d.params.defaults = []) (hr : Room k callerA)
    (F : ∀ (w : World) (mg : Str → Option Value) (fa : Addr) (h : Heap), YP w h → h.Ns mainGlobals mg → mg d.name = some (.ref fa) → ∃ (K : PySem.W.Frag) (fd : FuncData) (sp : Sp), K.In h ∧ (∀ (s : Shared) (u : Value), BindsTo s fd ⟨[u], []⟩ [(x, u)]) ∧
      (∀ (H : Hp) (a : Addr) (ns : List Int), ns.length ≤ n → Only H → SqL K H a (ns.map V.int) → sp [.ref a] H (fun v _ => v = .bl true) fun _ _ _ => False) ∧ ∀ base : Heap, K.In base → base.Ns mainGlobals mg → FnG l.prog w K mg base k fa fd [x] sp) :
    PySem.W.WalkO q loose XP YP l.row.toRowW d [] (fun f vs => PySem.call f vs) := by
  refine Att.attach_call hn hdf fun w s₀ s₁ mg mb fa o pm cd doc a vs ns G Y ho hd hcd hmg hobj hints hlen hg => ?_
  obtain ⟨K, fd, sp, KX, hb, hsp, hF⟩ := F w mg fa _ Y G.T.g hmg
  exact law_callG KX G.T.g G.T.b G.T.builtins G.T.nolimit hg hobj hints (Nat.le_trans hlen hn2) hr hF hb fun H hO hS => hsp H a ns hlen hO hS
end Pv
set_option Elab.async false
set_option linter.all false
set_option maxRecDepth 100000
set_option maxHeartbeats 4000000
/-! repr(d), d data without dicts; texts compared -/
namespace Pv
open PySem L2 PyProof.Rows
/-- how many signs repr shows at most -/
def shSz : PyData → Nat
  | .none => 4
  | .bool _ => 5
  | .int _ => 1921
  | .str x => 10 * x.length + 2
  | .list xs => shSzs xs + 3
  | .tuple xs => shSzs xs + 3
  | .dict _ => 0
where shSzs : List PyData → Nat
  | [] => 0
  | x :: xs => shSz x + 2 + shSzs xs
theorem list_text (ts : List Str) : (listText ts).length ≤ piled ts + 2 := by
  cases ts with
  | nil => decide
  | cons t r =>
    have h := textFrom_length_pos r 1 (("[" : Str) ++ (if (0 : Nat) > 0 then ", " else "" : String) ++ t) (Nat.succ_pos 0)
    have e : ((("[" : Str) ++ (if (0 : Nat) > 0 then ", " else "" : String) ++ t)).length = 1 + t.length := by
      rw [strLen_append, strLen_append]; rfl
    have h1 : (listText (t :: r)).length = (textFrom 0 "[" (t :: r)).length + 1 := by
      show (textFrom 0 "[" (t :: r) ++ "]").length = _
      rw [strLen_append]; rfl
    have h2 : (textFrom 0 "[" (t :: r)).length = (textFrom 1 (("[" : Str) ++ (if (0 : Nat) > 0 then ", " else "" : String) ++ t) r).length := rfl
    rw [h1, h2, h, e, piled_cons]
    omega
theorem tuple_text (ts : List Str) : (tupleText ts).length ≤ piled ts + 3 := by
  unfold tupleText
  rw [strLen_append, strLen_append]
  have e1 : ((("(" : String) : Str)).length = 1 := rfl
  have e3 : (((if ts.length == 1 then ",)" else ")" : String) : Str)).length ≤ 2 := by split <;> decide
  have e2 : (Str.join ", " ts).length ≤ piled ts := by
    by_cases h : ts = []
    · subst h; decide
    · have := join_length_add ts h
      omega
  rw [e1]
  omega
mutual
theorem shown_le : ∀ {d : PyData}, d.showable = true → d.canLay0 = true → d.shown.length ≤ shSz d
  | .none, _, _ => by decide
  | .bool b, _, _ => by cases b <;> decide
  | .int i, h, _ => by
    simp only [PyData.showable, decide_eq_true_eq] at h
    exact int_text_len_1921 h
  | .str x, _, h => by
    simp only [PyData.canLay0, PyData.strOk] at h
    simp only [PyData.shown, shSz]
    refine StrLaws.reprText_len x fun c hc => ?_
    rw [Array.all_eq_true] at h
    obtain ⟨i, hi, e⟩ := List.mem_iff_getElem.mp hc
    have := h i (by simpa using hi)
    simp only [Array.getElem_toList] at e
    rw [e] at this
    simp at this
    omega
  | .list xs, h, h2 => by
    simp only [PyData.showable] at h
    simp only [PyData.canLay0] at h2
    have := showns_le h h2
    have h3 := list_text (PyData.shownAll xs)
    simp only [PyData.shown, shSz]
    omega
  | .tuple xs, h, h2 => by
    simp only [PyData.showable] at h
    simp only [PyData.canLay0] at h2
    have := showns_le h h2
    have h3 := tuple_text (PyData.shownAll xs)
    simp only [PyData.shown, shSz]
    omega
  | .dict _, _, h => by simp only [PyData.canLay0] at h; cases h
theorem showns_le : ∀ {ds : List PyData}, PyData.showableAll ds = true → PyData.canLayAll0 ds = true → piled (PyData.shownAll ds) ≤ shSz.shSzs ds
  | [], _, _ => by decide
  | d :: ds, h, h2 => by
    simp only [PyData.showableAll, Bool.and_eq_true] at h
    simp only [PyData.canLayAll0, Bool.and_eq_true] at h2
    have a := shown_le h.1 h2.1
    have b := showns_le h.2 h2.2
    simp only [PyData.shownAll, piled_cons, shSz.shSzs]
    omega
end
def reprOk (d : PyData) : Bool := d.showable && d.canLay0 && decide (d.depth ≤ 60) && decide (shSz d ≤ 16777216)
def bRepr : List PyData → Option T
  | [d] => if reprOk d then some (.sh (.str d.shown)) else none
  | _ => none
variable {X : Cx}
theorem bRepr_ok (g : Good X) : CallD X (.builtin "repr") bRepr := by
  intro pins s σ H xs us Q I r ⟨F, ds, t, fh, rq, eq, k⟩
  have hroom := g.room
  have hgd := g.gd
  unfold bRepr at eq
  split at eq
  · rename_i d
    split at eq
    · rename_i hk
      cases eq
      unfold reprOk at hk
      simp only [Bool.and_eq_true, decide_eq_true_eq] at hk
      obtain ⟨⟨⟨hs, hc⟩, hd⟩, hz⟩ := hk
      have hle := shown_le hs hc
      have hsz : d.shown.length ≤ sizeLine := by rw [sizeLine_eq]; omega
      obtain ⟨v, rfl, r1⟩ := rq.one
      obtain ⟨u, rfl, ru⟩ := vals1 r
      have res : ∀ (h' : Heap) (u : Tok) (tk : Tok), (∀ b o, s.heap.get? b = some o → h'.get? b = some o) → EP X pins σ Q (.str d.shown u) { s with heap := h', toks := tk } := fun h' u tk kp =>
        ⟨.str d.shown, H, I.kept (t' := tk) kp, ⟨u, rfl⟩, k.sh fh rp_c.2.2.1⟩
      cases d with
      | none => rw [rq_none r1] at ru; cases ru; exact PySem.P.repr_of_none (res s.heap _ _ fun _ _ z => z)
      | bool b => rw [rq_bool r1] at ru; cases ru; exact PySem.P.repr_of_bool (by have := res s.heap s.toks (s.toks + 1) fun _ _ z => z; cases b <;> exact this)
      | int i =>
        rw [rq_int r1] at ru
        obtain ⟨t, rfl⟩ := ru
        simp only [PyData.showable, decide_eq_true_eq] at hs
        exact PySem.P.repr_of_int hs (res s.heap _ _ fun _ _ z => z)
      | str x =>
        rw [rq_str r1] at ru
        obtain ⟨t, rfl⟩ := ru
        exact PySem.P.repr_of_str (res s.heap _ _ fun _ _ z => z) hsz
      | list ds =>
        obtain ⟨as, ra⟩ := Dp.reads I (.list ds) v u (r1.dp fh hc) ru
        obtain ⟨a, xs, rfl, _⟩ := rq_list fh r1
        cases ru
        exact repr_of_reads' ra hs (PyData.noDict_hsm (PyData.hasDict_of_canLay _ hc)) hgd (by omega) (fun _ _ z => z) (fun h' u tk kp => res h' u tk kp) hsz
      | tuple ds =>
        obtain ⟨as, ra⟩ := Dp.reads I (.tuple ds) v u (r1.dp fh hc) ru
        obtain ⟨a, xs, rfl, _⟩ := rq_tup r1
        cases ru
        exact repr_of_reads' ra hs (PyData.noDict_hsm (PyData.hasDict_of_canLay _ hc)) hgd (by omega) (fun _ _ z => z) (fun h' u tk kp => res h' u tk kp) hsz
      | dict ds => simp only [PyData.canLay0] at hc; cases hc
    · cases eq
  · cases eq
/-- texts alike -/
def opEqS : PyData → PyData → Option T
  | .str a, .str b => some (.sh (.bool (decide (a = b))))
  | _, _ => none
def opNeS : PyData → PyData → Option T
  | .str a, .str b => some (.sh (.bool (!decide (a = b))))
  | _, _ => none
theorem vstr {a b : Str} : decide (V.str a = V.str b) = decide (a = b) := by
  rw [Bool.eq_iff_iff]
  simp
theorem opEqS_ok : OpD X (compareOp .Eq) opEqS := by
  intro pins s σ H x y v u Q I rx ry ⟨F, d, e, t, fh, r1, r2, eq, k⟩
  unfold opEqS at eq
  split at eq
  · cases eq
    cases rq_str r1
    cases rq_str r2
    exact op_eq pins s σ H _ _ v u Q I rx ry ⟨rfl, by rw [vstr]; exact k.bool fh⟩
  · cases eq
theorem opNeS_ok : OpD X (compareOp .NotEq) opNeS := by
  intro pins s σ H x y v u Q I rx ry ⟨F, d, e, t, fh, r1, r2, eq, k⟩
  unfold opNeS at eq
  split at eq
  · cases eq
    cases rq_str r1
    cases rq_str r2
    exact op_ne pins s σ H _ _ v u Q I rx ry ⟨rfl, by rw [vstr]; exact k.bool fh⟩
  · cases eq
end Pv
set_option Elab.async false
set_option linter.all false
set_option maxRecDepth 100000
set_option maxHeartbeats 4000000
/-! zip of three, lists and tuples in any mix -/
namespace Pv
open PySem L2 RZ PySem.Spec PyProof.Rows
theorem drawsW {prog : Program} {w : World} {A : Around} (k : Bool) (hh : A.handled = none) (it l : Addr) (hne : l ≠ it) (items : Array Value) :
    Draws prog w A it [it, l] items.size (fun i v => items[i]? = some v) (fun i h => WkAt k h it l i ∧ SrcAt k h l items) := by
  cases k with
  | true => exact Draws.list hh it l hne items
  | false => exact Draws.tuple hh it l hne items
theorem beginsW (k : Bool) (l : Addr) (items : Array Value) : Begins (.ref l) (wkObj k l) fun h => SrcAt k h l items := by
  cases k with
  | true => exact begins_list l items
  | false => exact begins_tuple l items
def It3 (K : PySem.W.Frag) (k1 k2 k3 : Bool) (a b c : Addr) : It :=
  ⟨fun i H => ∃ (xs ys zs : List V) (x y z : V), (SqW k1 K H a xs ∧ SqW k2 K H b ys ∧ SqW k3 K H c zs) ∧ xs[i]? = some x ∧ ys[i]? = some y ∧ zs[i]? = some z,
    fun i H v H' => ∃ T x y z, v = .ref T ∧ H T = none ∧ H' = upd H T (.tup [x, y, z]) ∧ (∀ xs, SqW k1 K H a xs → xs[i]? = some x) ∧ (∀ ys, SqW k2 K H b ys → ys[i]? = some y) ∧ ∀ zs, SqW k3 K H c zs → zs[i]? = some z,
    fun i H => ∃ xs ys zs : List V, (SqW k1 K H a xs ∧ SqW k2 K H b ys ∧ SqW k3 K H c zs) ∧ (i ≤ xs.length ∧ i ≤ ys.length ∧ i ≤ zs.length) ∧ (xs.length = i ∨ ys.length = i ∨ zs.length = i)⟩
theorem turn_zip3 {P : Program} {w : World} {K : PySem.W.Frag} {elts : List Expr} {kk : Nat} {tpos : Pos} {k1 k2 k3 : Bool} {a b c z TI TO i1 i2 i3 : Addr} (S : ZipSep3 z TI TO i1 i2 i3 [i1, a] [i2, b] [i3, c]) (ha : a ≠ i1) (hb : b ≠ i2) (hc : c ≠ i3) :
    Turn P w K (.Tuple elts kk tpos) (It3 K k1 k2 k3 a b c) [z, TI, TO, i1, i2, i3] z (fun i h => IsZip h z TI TO .none ∧ IsTupOf3 h TI (.ref i1) (.ref i2) (.ref i3) ∧ (∃ x y u, IsTupOf3 h TO x y u) ∧ WkAt k1 h i1 a i ∧ WkAt k2 h i2 b i ∧ WkAt k3 h i3 c i) where
  mem := by simp
  obj := fun i h st d hd => by
    obtain ⟨hz, hTI, ⟨x, y, u, hTO⟩, w1, w2, w3⟩ := st
    obtain ⟨o1, f1, e1, d1⟩ := w1.fld
    obtain ⟨o2, f2, e2, d2⟩ := w2.fld
    obtain ⟨o3, f3, e3, d3⟩ := w3.fld
    have e' : d = z ∨ d = TI ∨ d = TO ∨ d = i1 ∨ d = i2 ∨ d = i3 := by simpa using hd
    rcases e' with q | q | q | q | q | q
    · rw [q]; exact ⟨_, hz, fun v q => nomatch q⟩
    · rw [q]; exact ⟨_, hTI, fun v q => nomatch q⟩
    · rw [q]; exact ⟨_, hTO, fun v q => nomatch q⟩
    · rw [q]; exact ⟨o1, e1, fun v q => by rw [d1] at q; cases q⟩
    · rw [q]; exact ⟨o2, e2, fun v q => by rw [d2] at q; cases q⟩
    · rw [q]; exact ⟨o3, e3, fun v q => by rw [d3] at q; cases q⟩
  keep := fun i h h' st k => by
    obtain ⟨hz, hTI, ⟨x, y, u, hTO⟩, h1, h2, h3⟩ := st
    exact ⟨k z (by simp) _ hz, k TI (by simp) _ hTI, ⟨x, y, u, k TO (by simp) _ hTO⟩, h1.moved fun o q => k i1 (by simp) o q, h2.moved fun o q => k i2 (by simp) o q, h3.moved fun o q => k i3 (by simp) o q⟩
  item := by
    intro X hP hw hK hcm i pins s σ H E I hf st hg
    subst hP hw hK
    obtain ⟨hz, hTI, ⟨x0, y0, u0, hTO⟩, h1, h2, h3⟩ := st
    obtain ⟨xs, ys, zs, x, y, zz, ⟨hqx, hqy, hqz⟩, hx, hy, hzz⟩ := hg
    obtain ⟨its, rv, p, _⟩ := sqW_src I hqx
    obtain ⟨its2, rv2, p2, _⟩ := sqW_src I hqy
    obtain ⟨its3, rv3, p3, _⟩ := sqW_src I hqz
    obtain ⟨v1, hv1, ru⟩ := rv.get hx
    obtain ⟨v2, hv2, ru2⟩ := rv2.get hy
    obtain ⟨v3, hv3, ru3⟩ := rv3.get hzz
    have hzl : z < s.heap.objs.size := Heap.lt_size hz
    have hh : X.A.in1.handled = none := I.ok.hd hcm
    have l1 := (List.getElem?_eq_some_iff.mp hv1).1
    have l2 := (List.getElem?_eq_some_iff.mp hv2).1
    have l3 := (List.getElem?_eq_some_iff.mp hv3).1
    refine wpAny_pyNext_zipD3_item (i := i) S (drawsW k1 hh i1 a ha its.toArray) (drawsW k2 hh i2 b hb its2.toArray) (drawsW k3 hh i3 c hc its3.toArray) hz hTI hTO ⟨h1, p⟩ ⟨h2, p2⟩ ⟨h3, p3⟩ (by simpa using l1) (by simpa using l2) (by simpa using l3) fun x1 x2 x3 h' tk q1 q2 q3 z' TO' s1 s2 s3 hT hsz hk => ?_
    have e1 : v1 = x1 := by
      have : its.toArray[i]? = some v1 := by simpa using hv1
      rw [this] at q1; exact Option.some.inj q1
    have e2 : v2 = x2 := by
      have : its2.toArray[i]? = some v2 := by simpa using hv2
      rw [this] at q2; exact Option.some.inj q2
    have e3 : v3 = x3 := by
      have : its3.toArray[i]? = some v3 := by simpa using hv3
      rw [this] at q3; exact Option.some.inj q3
    subst e1 e2 e3
    refine ⟨_, rfl, wpAny_letOwnedTupleGo_zip (s := { s with heap := h', toks := tk }) z' fun h'' z'' sb => ?_⟩
    have hT2 : h''.get? s.heap.objs.size = some { cls := .type "tuple", data := .seq #[v1, v2, v3] } := (sb.2 _ (Nat.ne_of_gt hzl)).trans hT
    have new : ObjOk X.prog X.w (upd H s.heap.objs.size (.tup [x, y, zz])) h'' s.heap.objs.size (.tup [x, y, zz]) :=
      ⟨by show 3 ≤ sizeLine; decide, [v1, v2, v3], .cons ru (.cons ru2 (.cons ru3 .nil)), ⟨_, hT2, rfl, _, rfl⟩⟩
    have I1 : Inv X pins σ (upd H s.heap.objs.size (.tup [x, y, zz])) { s with heap := h'', toks := tk } :=
      I.turnedNew (t' := tk) (ch := [z, TI, TO, i1, i2, i3]) (fun d o hd q => (sb.2 d (fun q' => hd (by simp [q']))).trans (hk d o (fun q' => hd (by simp [q'])) (fun q' => hd (by simp [q'])) (fun q' => hd (by simp [q'])) (fun q' => hd (by simp [q'])) (fun q' => hd (by simp [q'])) q)) hf (Nat.le_refl _) new
    refine ⟨.ref s.heap.objs.size, _, I1, rfl, ⟨_, x, y, zz, rfl, I.hok.fresh (Nat.le_refl _), rfl, fun l hl => by rw [sqW_inj I hl hqx]; exact hx, fun l hl => by rw [sqW_inj I hl hqy]; exact hy, fun l hl => by rw [sqW_inj I hl hqz]; exact hzz⟩, ⟨z'', ?_, ⟨v1, v2, v3, ?_⟩, ?_, ?_, ?_⟩, fun d hdm => ?_⟩
    · exact (sb.2 _ S.TIz).trans (hk _ _ S.TIz S.TITO S.TIi1 S.TIi2 S.TIi3 hTI)
    · exact (sb.2 _ S.TOz).trans TO'
    · exact s1.1.moved fun o q => (sb.2 _ S.zi1.symm).trans q
    · exact s2.1.moved fun o q => (sb.2 _ S.zi2.symm).trans q
    · exact s3.1.moved fun o q => (sb.2 _ S.zi3.symm).trans q
    · have hlt : d < s.heap.objs.size := by
        have e' : d = z ∨ d = TI ∨ d = TO ∨ d = i1 ∨ d = i2 ∨ d = i3 := by simpa using hdm
        rcases e' with q | q | q | q | q | q
        · rw [q]; exact hzl
        · rw [q]; exact Heap.lt_size hTI
        · rw [q]; exact Heap.lt_size hTO
        · rw [q]; exact h1.lt
        · rw [q]; exact h2.lt
        · rw [q]; exact h3.lt
      rw [upd_ne (Nat.ne_of_lt hlt)]
      exact (hf d hdm).1
  done := by
    intro X hP hw hK hcm i pins s σ H E I hf st hg
    subst hP hw hK
    obtain ⟨hz, hTI, ⟨x0, y0, u0, hTO⟩, h1, h2, h3⟩ := st
    obtain ⟨xs, ys, zs, ⟨hqx, hqy, hqz⟩, ⟨g1, g2, g3⟩, hend⟩ := hg
    obtain ⟨its, rv, p, _⟩ := sqW_src I hqx
    obtain ⟨its2, rv2, p2, _⟩ := sqW_src I hqy
    obtain ⟨its3, rv3, p3, _⟩ := sqW_src I hqz
    have l1 := rv.length
    have l2 := rv2.length
    have l3 := rv3.length
    have hh : X.A.in1.handled = none := I.ok.hd hcm
    exact wpAny_pyNext_zipD3_end (i := i) S (drawsW k1 hh i1 a ha its.toArray) (drawsW k2 hh i2 b hb its2.toArray) (drawsW k3 hh i3 c hc its3.toArray) hz hTI hTO ⟨h1, p⟩ ⟨h2, p2⟩ ⟨h3, p3⟩ (by rw [List.size_toArray]; omega) (by rw [List.size_toArray]; omega) (by rw [List.size_toArray]; omega) (by simp only [List.size_toArray]; omega) fun h' tk hk => ⟨rfl, I.turnedL (t' := tk) (ch := [z, TI, TO, i1, i2, i3]) (fun d o hd q =>
      hk d o (fun q' => hd (by simp [q'])) (fun q' => hd (by simp [q'])) (fun q' => hd (by simp [q'])) (fun q' => hd (by simp [q'])) (fun q' => hd (by simp [q'])) q) hf⟩
  self := fun A i s Q E st h => wpAny_pyIter_zip st.1 h
def iZip3 (K : PySem.W.Frag) (ta : TA) : L2.TI := fun σ H R => ta σ H fun vs H1 => ∃ k1 k2 k3 a b c xs ys zs, vs = [.ref a, .ref b, .ref c] ∧ SqW k1 K H1 a xs ∧ SqW k2 K H1 b ys ∧ SqW k3 K H1 c zs ∧ R (It3 K k1 k2 k3 a b c) H1
theorem pi_zip3 {X : Cx} {e e2 e3 : Expr} {ta : TA} {p pos tpos : Pos} {elts : List Expr} {kk : Nat} (hg : Gl X "zip") (hm : X.mg "zip" = none) (ha : PA X [e, e2, e3] ta)
    (hs : starEach [e, e2, e3] X.env = (false, eval e X.env) :: starEach [e2, e3] X.env := by rfl) (hpl : (backTo pos (starEach [e2, e3] X.env)).any (·.1) = false := by rfl) :
    PI X (.Tuple elts kk tpos) (.Call (.Name "zip" p) [e, e2, e3] [] pos) (iZip3 X.K ta) := by
  refine ⟨fun pins s σ H R I h => ?_⟩
  refine Call_ (ld_blt I hg hm PyProof.Rows.boot_zip (PyProof.Rows.callWith_type1 (thn (ha.run pos pins s σ H _ I h) fun us s1 ⟨vs, H1, I1, r1, q1⟩ => ?_) hs hpl))
  obtain ⟨k1, k2, k3, a, b, c, xs, ys, zs, ex, hqx, hqy, hqz, q⟩ := q1
  subst ex
  cases r1 with
  | cons r rr =>
    cases rr with
    | cons r' rr =>
      cases rr with
      | cons r'' rr =>
        cases rr
        cases r
        cases r'
        cases r''
        obtain ⟨its, rv, p1, lt1⟩ := sqW_src I1 hqx
        obtain ⟨its2, rv2, p2, lt2⟩ := sqW_src I1 hqy
        obtain ⟨its3, rv3, p3, lt3⟩ := sqW_src I1 hqz
        generalize hN : s1.heap.objs.size = N at lt1 lt2 lt3
        have fresh6 : ∀ d, d ∈ [N + 5, N + 3, N + 4, N, N + 1, N + 2] → FpOk X pins H1 d := fun d hdm => by
          have e' : d = N + 5 ∨ d = N + 3 ∨ d = N + 4 ∨ d = N ∨ d = N + 1 ∨ d = N + 2 := by simpa using hdm
          have hle : N ≤ d := by
            rcases e' with z | z | z | z | z | z
            · rw [z]; exact Nat.le_add_right _ _
            · rw [z]; exact Nat.le_add_right _ _
            · rw [z]; exact Nat.le_add_right _ _
            · rw [z]; exact Nat.le_refl _
            · rw [z]; exact Nat.le_add_right _ _
            · rw [z]; exact Nat.le_add_right _ _
          exact I1.fpOk (by rw [hN]; exact hle) (I1.hok.fresh (by rw [hN]; exact hle))
        refine zip_begins3 (beginsW k1 a its.toArray) (beginsW k2 b its2.toArray) (beginsW k3 c its3.toArray) p1 p2 p3 fun h' hz hTI hTO g1 g2 g3 hsz hk => wpAny_pyIter_zip hz ?_
        have I2 : Inv X pins σ H1 { s1 with heap := h' } := I1.kept (t' := s1.toks) hk
        rw [hN] at hz hTI hTO g1 g2 g3 ⊢
        have S : ZipSep3 (N + 5) (N + 3) (N + 4) N (N + 1) (N + 2) [N, a] [N + 1, b] [N + 2, c] := zip_sep3 (fp1 := [a]) (fp2 := [b]) (fp3 := [c]) (fun d hd => by rw [List.mem_singleton.mp hd]; exact lt1) (fun d hd => by rw [List.mem_singleton.mp hd]; exact lt2) (fun d hd => by rw [List.mem_singleton.mp hd]; exact lt3)
        exact ⟨N + 5, [N + 5, N + 3, N + 4, N, N + 1, N + 2], _, _, H1, rfl, I2, turn_zip3 S (Nat.ne_of_lt lt1) (Nat.ne_of_lt (Nat.lt_succ_of_lt lt2)) (Nat.ne_of_lt (Nat.lt_succ_of_lt (Nat.lt_succ_of_lt lt3))), ⟨hz, hTI, ⟨_, _, _, hTO⟩, wk_new g1, wk_new g2, wk_new g3⟩, fresh6, q⟩
def zip3D : List PyData → List PyData → List PyData → List PyData
  | a :: as, b :: bs, c :: cs => .tuple [a, b, c] :: zip3D as bs cs
  | _, _, _ => []
theorem zip3D_len : ∀ (as bs cs : List PyData), (zip3D as bs cs).length = min (min as.length bs.length) cs.length
  | [], _, _ => by simp [zip3D]
  | _ :: _, [], _ => by simp [zip3D]
  | _ :: _, _ :: _, [] => by simp [zip3D]
  | a :: as, b :: bs, c :: cs => by
    simp only [zip3D, List.length_cons, zip3D_len as bs cs]
    omega
theorem zip3D_get : ∀ (as bs cs : List PyData) (i : Nat) (e : PyData), (zip3D as bs cs)[i]? = some e → ∃ a b c, as[i]? = some a ∧ bs[i]? = some b ∧ cs[i]? = some c ∧ e = .tuple [a, b, c]
  | [], _, _, i, e, h => by simp [zip3D] at h
  | _ :: _, [], _, i, e, h => by simp [zip3D] at h
  | _ :: _, _ :: _, [], i, e, h => by simp [zip3D] at h
  | a :: as, b :: bs, c :: cs, 0, e, h => by
    simp only [zip3D, List.getElem?_cons_zero, Option.some.injEq] at h
    exact ⟨a, b, c, rfl, rfl, rfl, h.symm⟩
  | a :: as, b :: bs, c :: cs, i + 1, e, h => by
    simp only [zip3D, List.getElem?_cons_succ] at h
    obtain ⟨a', b', c', h1, h2, h3, h4⟩ := zip3D_get as bs cs i e h
    exact ⟨a', b', c', by simpa using h1, by simpa using h2, by simpa using h3, h4⟩
theorem it3_ok {K : PySem.W.Frag} {F : Hp} {k1 k2 k3 : Bool} {ds es gs : List PyData} {a b c : Addr} {xs ys zs : List V} (q : SqW k1 K F a xs) (rp : RpAll K F ds xs) (q2 : SqW k2 K F b ys) (rp2 : RpAll K F es ys) (q3 : SqW k3 K F c zs) (rp3 : RpAll K F gs zs) : ItOk K inv0 F (zip3D ds es gs) (It3 K k1 k2 k3 a b c) where
  go := fun i Fk Hk hi sf sh _ => by
    have hl := rp.len
    have hl2 := rp2.len
    have hl3 := rp3.len
    rw [zip3D_len] at hi
    exact ⟨xs, ys, zs, xs[i]'(by omega), ys[i]'(by omega), zs[i]'(by omega), ⟨sqW_mono sh (sqW_mono sf q), sqW_mono sh (sqW_mono sf q2), sqW_mono sh (sqW_mono sf q3)⟩, List.getElem?_eq_getElem _, List.getElem?_eq_getElem _, List.getElem?_eq_getElem _⟩
  stop := fun Fk Hk sf sh _ => by
    have hl := rp.len
    have hl2 := rp2.len
    have hl3 := rp3.len
    rw [zip3D_len]
    exact ⟨xs, ys, zs, ⟨sqW_mono sh (sqW_mono sf q), sqW_mono sh (sqW_mono sf q2), sqW_mono sh (sqW_mono sf q3)⟩, by omega, by omega⟩
  yld := fun i d Fk Hk x H' hd sf sh _ y => by
    obtain ⟨p, u, u2, u3, rfl, hp, rfl, y, y2, y3⟩ := y
    obtain ⟨d', e', g', h1, h1', h1'', rfl⟩ := zip3D_get _ _ _ _ _ hd
    obtain ⟨v, h2, h3⟩ := rp.get h1
    obtain ⟨v2, h4, h5⟩ := rp2.get h1'
    obtain ⟨v3, h6, h7⟩ := rp3.get h1''
    have := y xs (sqW_mono sh (sqW_mono sf q))
    rw [h2] at this; cases this
    have := y2 ys (sqW_mono sh (sqW_mono sf q2))
    rw [h4] at this; cases this
    have := y3 zs (sqW_mono sh (sqW_mono sf q3))
    rw [h6] at this; cases this
    exact ⟨_, .tup sh (.consI (h3.mono sf) (.consI (h5.mono sf) (.one (h7.mono sf)))) hp⟩
/-- zip of three -/
def iZ3 (f g h : FE) : FI := fun η => (f η).bind fun p => (g p.2).bind fun q => (h q.2).bind fun r => match seqOf p.1.val, seqOf q.1.val, seqOf r.1.val with
  | some ds, some es, some gs => .ok (zip3D ds es gs, r.2)
  | _, _, _ => .bad
section
variable {C : Cn} {X : Cx}
theorem pid_zip3 {tg e : Expr} {f g h : FE} (hK : C.K = X.K) (hi : PI X tg e (iZip3 X.K (tCons (tD C f) (tCons (tD C g) (tCons (tD C h) tNil))))) : PI X tg e (tI C (iZ3 f g h)) := by
  refine hi.impD fun σ H R ⟨η, F, fp, o, q⟩ => ?_
  refine tD_step o.aft (Rs.post_mono (Rs.post_bind q) (fun p hp x F1 H1 f1 fp1 a => ?_) fun _ _ z => z)
  refine tD_step a (Rs.post_mono (Rs.post_bind hp) (fun p2 hp2 y F2 H2 f2 fp2 b => ?_) fun _ _ z => z)
  refine tD_step b (Rs.post_mono (Rs.post_bind hp2) (fun p3 hp3 z F3 H3 f3 fp3 c => ?_) fun _ _ z => z)
  obtain ⟨F4, a2, rp⟩ := c.freeze
  simp only [List.nil_append, List.cons_append, T.vals, RpAll] at rp
  obtain ⟨x', xs, e1, r1, y', ys, rfl, r2, z', zs, rfl, r3, rfl⟩ := rp
  obtain ⟨rfl, rfl, rfl⟩ : x = x' ∧ y = y' ∧ z = z' := by simpa using e1
  split at hp3
  · rename_i ds es gs e1 e2 e3
    obtain ⟨k1, p', xs, rfl, q1, w⟩ := rp_sqW e1 r1
    obtain ⟨k2, p2', ys, rfl, q2, w2⟩ := rp_sqW e2 r2
    obtain ⟨k3, p3', zs, rfl, q3, w3⟩ := rp_sqW e3 r3
    refine ⟨k1, k2, k3, p', p2', p3', xs, ys, zs, rfl, by rw [← hK]; exact sqW_mono a2.fh q1, by rw [← hK]; exact sqW_mono a2.fh q2, by rw [← hK]; exact sqW_mono a2.fh q3, hp3 F4 H3 fp3 _ a2 ?_⟩
    rw [← hK]
    exact it3_ok q1 w q2 w2 q3 w3
  · exact hp3.elim
end
end Pv
set_option Elab.async false
set_option linter.all false
set_option maxRecDepth 100000
set_option maxHeartbeats 4000000
/-! xs.index(e), xs[::-1], xs a list -/
namespace Pv
open PySem L2 PyProof.Rows
section
variable {X : Cx} {C : Cn}
/-- a method of a list that changes nothing -/
def eMq (op : List PyData → PyData → Option T) (f g : FE) : FE := fun η => (f η).bind fun p => match p.1.val with
  | .list ds => (g p.2).bind fun q => fin1 (op ds q.1.val) q.2
  | _ => .bad
theorem rt_list {K : PySem.W.Frag} {F H : Hp} {t : T} {x : V} {f : List Addr} {ds : List PyData} (fh : Same F H) (h : RT K F H t x f) (e : t.val = .list ds) : ∃ a xs, x = .ref a ∧ SqL K H a xs := by
  cases t with
  | sh d =>
    simp only [T.val] at e
    subst e
    simp only [RT, Rp] at h
    obtain ⟨_, a, xs, rfl, q, _⟩ := h
    exact ⟨a, xs, rfl, sqL_mono fh q⟩
  | lst ts =>
    simp only [RT] at h
    obtain ⟨a, xs, g, rfl, e1, _, _⟩ := h
    exact ⟨a, xs, rfl, SqL.of e1⟩
  | dct kvs => cases e
theorem pd_mq {e : Expr} {f g : FE} {op : List PyData → PyData → Option T} {r : V → List V → Hp → VK → Prop} (hK : C.K = X.K)
    (ok : ∀ F H a xs ds y d t Q, Same F H → SqL X.K H a xs → RpAll X.K F ds xs → Rp X.K F d y → op ds d = some t → Res X.K F H t Q → r (.ref a) [y] H Q)
    (h : PE X e (tBM X.K "list" r (tD C f) (tCons (tD C g) tNil))) : PE X e (tD C (eMq op f g)) := by
  refine h.impD fun σ H Q ⟨η, F, fp, o, q⟩ => ?_
  refine tD_step o.aft (Rs.post_mono (Rs.post_bind q) (fun p hp x F1 H1 f1 fp1 a => ?_) fun _ _ z => z)
  have a' : Aft C.K fp F H σ [p.1] [x] p.2 F1 H1 f1 fp1 := a
  split at hp
  · rename_i ds e0
    obtain ⟨b, xs0, rfl, hq⟩ := rt_list a'.fh a'.rt1 e0
    refine ⟨.inl ⟨rfl, xs0, hK ▸ hq⟩, ?_⟩
    refine tD_step a (Rs.post_mono (Rs.post_bind hp) (fun p2 hp2 y F2 H2 f2 fp2 c => ?_) fun _ _ z => z)
    obtain ⟨F3, t, s, rp, e2, k⟩ := fin_res c hp2
    simp only [List.nil_append, List.cons_append, T.vals, RpAll] at rp
    obtain ⟨x', xs, e3, r1, y', ys, rfl, r2, rfl⟩ := rp
    obtain ⟨rfl, rfl⟩ : V.ref b = x' ∧ y = y' := by simpa using e3
    rw [e0] at r1
    simp only [Rp] at r1
    obtain ⟨b', xs, eb, q1, w⟩ := r1
    cases eb
    exact ok F3 H2 b xs ds y p2.1.val t Q s.fh (hK ▸ sqL_mono s.fh q1) (hK ▸ w) (hK ▸ r2) e2 (hK ▸ k)
  · exact hp.elim
/-- the place of the first equal one -/
def mIndex (ds : List PyData) (d : PyData) : Option T := if SeqAt.shaped (.list ds) && SeqAt.shaped d then (ds.findIdx? fun z => PyData.eqv z d).map fun j => .sh (.int (j : Nat)) else none
theorem mIndex_ok : ∀ F H a xs ds y d t Q, Same F H → SqL X.K H a xs → RpAll X.K F ds xs → Rp X.K F d y → mIndex ds d = some t → Res X.K F H t Q → rIndexD X.K (.ref a) [y] H Q := by
  intro F H a xs ds y d t Q fh hs rp rd e k
  unfold mIndex at e
  split at e
  · rename_i hsh
    simp only [Bool.and_eq_true] at hsh
    cases hf : ds.findIdx? fun z => PyData.eqv z d with
    | none => rw [hf] at e; cases e
    | some j =>
      rw [hf] at e
      cases e
      rw [List.findIdx?_eq_some_iff_getElem] at hf
      obtain ⟨hj, h1, h2⟩ := hf
      have hl := SeqAt.canLay_of_shaped hsh.1
      simp only [PyData.canLay0] at hl
      exact ⟨a, y, d, ds, j, ds[j], rfl, rfl, .lst hs ((rp.mono fh).dp hl), (rd.mono fh).dp (SeqAt.canLay_of_shaped hsh.2), hsh.1, hsh.2, List.getElem?_eq_getElem hj, h1, fun m z' hm hz => by
        obtain ⟨hm', e⟩ := List.getElem?_eq_some_iff.mp hz
        have := h2 m hm
        rw [e] at this
        simpa using this, k.int fh⟩
  · cases e
/-- how often a number stands there -/
def mCount (ds : List PyData) (d : PyData) : Option T := match d with
  | .int k => (intsOf ds).map fun ns => .sh (.int (ns.count k : Nat))
  | _ => none
theorem mCount_ok : ∀ F H a xs ds y d t Q, Same F H → SqL X.K H a xs → RpAll X.K F ds xs → Rp X.K F d y → mCount ds d = some t → Res X.K F H t Q → rCntI X.K (.ref a) [y] H Q := by
  intro F H a xs ds y d t Q fh hs rp rd e k
  unfold mCount at e
  split at e
  · rename_i n
    cases hi : intsOf ds with
    | none => rw [hi] at e; cases e
    | some ns =>
      rw [hi] at e
      cases e
      rw [intsOf_eq hi] at rp
      obtain rfl := rpAll_ints rp
      simp only [Rp] at rd
      subst rd
      exact ⟨a, ns, n, rfl, rfl, hs, k.int fh⟩
  · cases e
/-- xs[::-1], xs a list -/
def eRevL (f : FE) : FE := fun η => (f η).bind fun p => match p.1.val with
  | .list ds => .ok (.lst (ds.reverse.map T.sh), p.2)
  | _ => .bad
theorem rpAll_rev {K : PySem.W.Frag} {F : Hp} {ds : List PyData} {xs : List V} (h : RpAll K F ds xs) : RpAll K F ds.reverse xs.reverse := by
  have hl := h.len
  refine RpAll.of_get (by simp [hl]) fun i d v h1 h2 => ?_
  obtain ⟨hi, e1⟩ := List.getElem?_eq_some_iff.mp h1
  obtain ⟨hj, e2⟩ := List.getElem?_eq_some_iff.mp h2
  rw [List.getElem_reverse] at e1 e2
  rw [List.length_reverse] at hi
  obtain ⟨v', h3, h4⟩ := h.get (i := ds.length - 1 - i) (d := d) (by rw [List.getElem?_eq_getElem (by omega), e1])
  have h5 : xs[xs.length - 1 - i]? = some v := by rw [List.getElem?_eq_getElem (by rw [List.length_reverse] at hj; omega), e2]
  rw [hl, h3] at h5
  exact Option.some.inj h5 ▸ h4
theorem pd_revL {e : Expr} {f : FE} (hK : C.K = X.K) (h : PE X e (tRevL X.K (tD C f))) : PE X e (tD C (eRevL f)) := by
  refine h.impD fun σ H Q ⟨η, F, fp, o, q⟩ => ?_
  refine tD_step o.aft (Rs.post_mono (Rs.post_bind q) (fun p hp x F1 H1 f1 fp1 a => ?_) fun _ _ z => z)
  have a' : Aft C.K fp F H σ [p.1] [x] p.2 F1 H1 f1 fp1 := a
  split at hp
  · rename_i ds e0
    obtain ⟨F2, a2, rp⟩ := a'.freeze
    simp only [T.vals, RpAll] at rp
    obtain ⟨x', xs, e1, r1, rfl⟩ := rp
    obtain rfl : x = x' := by simpa using e1
    rw [e0] at r1
    simp only [Rp] at r1
    obtain ⟨b, xs, rfl, q1, w⟩ := r1
    refine ⟨b, xs, rfl, hK ▸ sqL_mono a2.fh q1, fun p' hp' => ?_⟩
    exact hp _ _ _ _ _ (a2.res (ResOk.lst a2.fh (rpAll_rev w) hp'))
  · exact hp.elim
end
end Pv
set_option Elab.async false
set_option linter.all false
set_option maxRecDepth 100000
set_option maxHeartbeats 4000000
/-! t[::-1], t a tuple or a list -/
namespace HT
open PySem PySem.Spec PyProof.Rows
theorem pv_adj (n : Nat) : Builtin.Slice.sliceAdjust none none (-1) (n : Int) = ((n : Int) - 1, -1) := by
  unfold Builtin.Slice.sliceAdjust
  simp
theorem pv_pl (n : Nat) : Builtin.Slice.slicePlaces ((n : Int) - 1) (-1) (-1) = n := by
  unfold Builtin.Slice.slicePlaces
  rw [if_neg (by decide)]
  by_cases h : n = 0
  · subst h; rfl
  · rw [if_pos (by omega)]
    have : ((n : Int) - 1 - -1 - 1) / (- -1) + 1 = n := by
      rw [show (- -1 : Int) = 1 from rfl, Int.ediv_one]
      omega
    rw [this]
    omega
theorem fm_congr {α β : Type} {f g : α → Option β} : ∀ {l : List α}, (∀ x ∈ l, f x = g x) → l.filterMap f = l.filterMap g
  | [], _ => rfl
  | a :: l, h => by rw [List.filterMap_cons, List.filterMap_cons, h a List.mem_cons_self, fm_congr fun x hx => h x (List.mem_cons_of_mem _ hx)]
theorem pv_pick (xs : Array Value) : ((List.range xs.size).filterMap fun (k : Nat) => xs[(((xs.size : Int) - 1) + (k : Int) * (-1)).toNat]?).toArray = xs.toList.reverse.toArray := by
  congr 1
  refine List.ext_getElem? fun i => ?_
  have e : ∀ k ∈ List.range xs.size, xs[(((xs.size : Int) - 1) + (k : Int) * (-1)).toNat]? = xs.toList[xs.size - 1 - k]? := fun k hk => by
    have hk := List.mem_range.mp hk
    have : (((xs.size : Int) - 1) + (k : Int) * (-1)).toNat = xs.size - 1 - k := by omega
    rw [this, Array.getElem?_toList]
  have e2 : ((List.range xs.size).filterMap fun (k : Nat) => xs[(((xs.size : Int) - 1) + (k : Int) * (-1)).toNat]?) = (List.range xs.size).filterMap fun k => xs.toList[xs.size - 1 - k]? := fm_congr e
  rw [e2]
  have e3 : (List.range xs.size).filterMap (fun k => xs.toList[xs.size - 1 - k]?) = xs.toList.reverse := by
    have hs : xs.size = xs.toList.length := by simp
    rw [hs]
    generalize xs.toList = l
    clear e e2 hs
    have key : ∀ (m : Nat), m ≤ l.length → (List.range m).filterMap (fun k => l[l.length - 1 - k]?) = l.reverse.take m := by
      intro m
      induction m with
      | zero => intro _; rfl
      | succ m ih =>
        intro hm
        rw [List.range_succ, List.filterMap_append, ih (by omega), List.take_add_one]
        congr 1
        rw [List.getElem?_reverse (by omega), List.getElem?_eq_getElem (by omega)]
        simp [List.filterMap_cons, List.getElem?_eq_getElem (show l.length - 1 - m < l.length by omega)]
    rw [key l.length (Nat.le_refl _), List.take_of_length_le (by simp)]
  rw [e3]
section
variable {prog : Program} {w : World} {A : Around} {E : Value → Shared → Prop} {s : Shared}
theorem pv_sliceRev {sl : Addr} {vl vu vs : Value} {n : Nat} {Q : Int × Int × Nat → Shared → Prop} (hs : s.heap.IsSliceOf sl vl vu vs) (pl : IsPart vl none) (pu : IsPart vu none) (ps : IsPart vs (some (-1)))
    (h : Q ((n : Int) - 1, -1, n) s) : wpAny (model prog w) A (Builtin.Slice.sliceApplied (.ref sl) (pure (n : Int))) Q E s := by
  obtain ⟨os, hos, hcs, hds⟩ := id hs
  unfold Builtin.Slice.sliceApplied Builtin.Slice.sliceFields
  refine wpAny_bind (wpAny_bind (wpAny_field hos hds (x := vl) rfl (wpAny_bind (wpAny_field hos hds (x := vu) rfl (wpAny_bind (wpAny_field hos hds (x := vs) rfl (wpAny_pure ?_)))))))
  refine wpAny_bind (slicePart_ ps ?_)
  show wpAny _ _ (if ((-1 : Int) == 0) = true then _ else _) _ _ s
  rw [if_neg (by decide)]
  refine wpAny_bind (slicePart_ pl (wpAny_bind (slicePart_ pu (wpAny_bind (wpAny_pure ?_)))))
  show wpAny _ _ (match Builtin.Slice.sliceAdjust none none (-1) (n : Int) with | (lo, hi) => pure (lo, (-1 : Int), Builtin.Slice.slicePlaces lo hi (-1))) _ _ s
  rw [pv_adj n]
  show wpAny _ _ (pure ((n : Int) - 1, (-1 : Int), Builtin.Slice.slicePlaces ((n : Int) - 1) (-1) (-1))) _ _ s
  rw [pv_pl]
  exact wpAny_pure h
theorem pv_getItem_rev {t sl : Addr} {items : Array Value} {vl vu vs : Value} {Q : Value → Shared → Prop} (ht : IsTup s.heap t items) (hs : s.heap.IsSliceOf sl vl vu vs) (pl : IsPart vl none) (pu : IsPart vu none) (ps : IsPart vs (some (-1)))
    (h : Q (.ref s.heap.objs.size) { s with heap := s.heap.push { cls := .type "tuple", data := .seq items.toList.reverse.toArray } })
    (hsz : items.size ≤ sizeLine) : wpAny (model prog w) A (getItem (.ref t) (.ref sl)) Q E s := by
  have htake : sizeOk (.seq items.toList.reverse.toArray) := by
    show items.toList.reverse.toArray.size ≤ sizeLine
    rw [List.size_toArray, List.length_reverse, Array.length_toList]
    exact hsz
  obtain ⟨os, hos, hcs, hds⟩ := id hs
  have hTs : s.TypeIs (.ref sl) "slice" := ⟨os, hos, hcs⟩
  unfold getItem
  try with_reducible refine wpAny_holding ?_
  first | refine wpAny_bind (wpAny_pure ?_) | skip
  refine wpAny_bind (wpAny_sequenceKey ht.typeIs (by decide) ?_)
  refine wpAny_bind (wpAny_callSpecial?_slot (name := Str.ofString "__getitem__") ht.typeIs PyProof.Rows.slot_tuple_getitem
    (wpAny_call_entry PyProof.Rows.slot_tuple_getitem ht.typeIs entry_tuple_getitem ?_ (args_tuple_getitem _ _)))
  show wpAny _ _ (Builtin.Tuple.tupleItemsOf (.ref t) >>= _) _ _ s
  refine wpAny_bind (tupleItemsOf_ ht ?_)
  refine wpAny_bind (wpAny_typeOf hTs ?_)
  rw [if_pos (by decide)]
  refine wpAny_bind (pv_sliceRev hs pl pu ps ?_)
  have hno : ¬ ((((items.size : Int) - 1) == 0 && (-1 : Int) == 1 && items.size == items.size) = true) := by simp
  show wpAny _ _ (if (((items.size : Int) - 1) == 0 && (-1 : Int) == 1 && items.size == items.size) = true then _ else _) _ _ s
  rw [if_neg hno, pv_pick]
  first
    | exact wpAny_bind (m := Builtin.Tuple.tupleExact _) (wpAny_newObj_type (wpAny_pure ⟨_, rfl, wpAny_pure h⟩) htake)
    | exact wpAny_bind (m := Builtin.Tuple.tupleExact _) (wpAny_newObj_type (wpAny_bind (wpAny_pure (wpAny_pure ⟨_, rfl, wpAny_pure h⟩))) htake)
    | exact wpAny_bind (wpAny_bind (m := Builtin.Tuple.tupleExact _) (wpAny_newObj_type (wpAny_pure (wpAny_pure ⟨_, rfl, wpAny_pure h⟩)) htake))
    | exact wpAny_bind (wpAny_bind (m := Builtin.Tuple.tupleExact _) (wpAny_newObj_type (wpAny_pure ⟨_, rfl, wpAny_pure h⟩) htake))
end
end HT
namespace Pv
open PySem PySem.Spec PyProof.Rows L2
variable {X : Cx} {C : Cn}
def tRevS (K : PySem.W.Frag) (te : TE) : TE := fun σ H Q => te σ H fun x H1 => ∃ a xs, x = .ref a ∧ ((SqL K H1 a xs ∧ ∀ p, H1 p = none → Q (.ref p) (upd H1 p (.lst xs.reverse))) ∨ (SqT K H1 a xs ∧ ∀ p, H1 p = none → Q (.ref p) (upd H1 p (.tup xs.reverse))))
theorem pe_revS {e : Expr} {te : TE} {k : Nat} {p1 p2 p3 pos : Pos} (he : PE X e te) : PE X (.Subscript e (.Slice none none (some (.UnaryOp .USub (.Constant (.int 1) k p1) p2)) p3) pos) (tRevS X.K te) := by
  refine ⟨fun pins s σ H Q I h => ?_⟩
  refine Subscript_ (thn (he.run pins s σ H _ I h) fun v s1 ⟨x, H1, I1, r1, q1⟩ => ?_)
  obtain ⟨a, xs, ex, q1⟩ := q1
  subst ex
  cases r1
  have hst : PO X (some (.UnaryOp .USub (.Constant (.int 1) k p1) p2)) (tPart (tUn (rU fun i => .int (-i)) (tC (.int 1)))) := po_some (pe_un un_neg pe_int)
  refine wpAny_Slice (thn (po_none.run pins s1 σ H1 (fun o H2 => o = none ∧ H2 = H1) I1 ⟨rfl, rfl⟩) fun vl s2 ⟨l, H2, I2, pl, el, e2⟩ => ?_)
  subst el e2
  refine thn (po_none.run pins s2 σ H2 (fun o H3 => o = none ∧ H3 = H2) I2 ⟨rfl, rfl⟩) fun vu s3 ⟨u, H3, I3, pu, eu, e3⟩ => ?_
  subst eu e3
  refine thn (hst.run pins s3 σ H3 (fun o H4 => o = some (-1) ∧ H4 = H3) I3 ⟨1, rfl, -1, rfl, rfl, rfl⟩) fun vs s4 ⟨o, H4, I4, ps, eo, e4⟩ => ?_
  subst eo e4
  have I5 : Inv X pins σ H4 { s4 with heap := s4.heap.push { cls := .type "slice", data := .fields #[vl, vu, vs] } } := I4.kept (t' := s4.toks) fun b ob q => Heap.get?_push_of_some _ q
  show wpAny (model X.prog X.w) X.A (subscriptTail e (.Slice none none (some (.UnaryOp .USub (.Constant (.int 1) k p1) p2)) p3) (.ref a) (.ref s4.heap.objs.size)) (EP X pins σ Q) X.xe { s4 with heap := s4.heap.push { cls := .type "slice", data := .fields #[vl, vu, vs] } }
  rcases q1 with ⟨hx, q⟩ | ⟨hx, q⟩
  · obtain ⟨its, r, ht, hz⟩ := I5.list hx
    have hlen := r.length
    refine tail_any (ops := [.ref a, .ref s4.heap.objs.size]) ht.isList.typeIs (PySem.slot_list_getitem.lookup) ?_ (by with_unfolding_all rfl)
    refine wpAny_getItem_list_slice ht.isList (Heap.IsSliceOf.new _ vl vu vs) pl pu ps (by decide) ?_ (by rw [List.size_toArray]; omega)
    rw [PySem.W.krv_pick]
    refine ⟨.ref _, _, I5.laid (t' := s4.toks) (o := .lst xs.reverse) (fun b ob q => Heap.get?_push_of_some _ q) (Nat.le_refl _) ?_, rfl, q _ (I5.hok.fresh (Nat.le_refl _))⟩
    exact ⟨by rw [List.length_reverse]; exact hz, _, 0, r.reverse, Heap.get?_push_size _ rfl⟩
  · obtain ⟨its, r, ht, hz⟩ := I5.tuple hx
    have hlen := r.length
    refine tail_any (ops := [.ref a, .ref s4.heap.objs.size]) ht.typeIs (PyProof.Rows.slot_tuple_getitem.lookup) ?_ (by with_unfolding_all rfl)
    refine HT.pv_getItem_rev ht (Heap.IsSliceOf.new _ vl vu vs) pl pu ps ?_ (by rw [List.size_toArray]; omega)
    refine ⟨.ref _, _, I5.laid (t' := s4.toks) (o := .tup xs.reverse) (fun b ob q => Heap.get?_push_of_some _ q) (Nat.le_refl _) ?_, rfl, q _ (I5.hok.fresh (Nat.le_refl _))⟩
    exact ⟨by rw [List.length_reverse]; exact hz, _, r.reverse, IsTup.new _ _⟩
def eRevS (f : FE) : FE := fun η => (f η).bind fun p => match p.1.val with
  | .list ds => .ok (.lst (ds.reverse.map T.sh), p.2)
  | .tuple ds => .ok (.sh (.tuple ds.reverse), p.2)
  | _ => .bad
theorem pd_revS {e : Expr} {f : FE} (hK : C.K = X.K) (h : PE X e (tRevS X.K (tD C f))) : PE X e (tD C (eRevS f)) := by
  refine h.impD fun σ H Q ⟨η, F, fp, o, q⟩ => ?_
  refine tD_step o.aft (Rs.post_mono (Rs.post_bind q) (fun p hp x F1 H1 f1 fp1 a => ?_) fun _ _ z => z)
  have a' : Aft C.K fp F H σ [p.1] [x] p.2 F1 H1 f1 fp1 := a
  split at hp
  · rename_i ds e0
    obtain ⟨F2, a2, rp⟩ := a'.freeze
    simp only [T.vals, RpAll] at rp
    obtain ⟨x', xs, e1, r1, rfl⟩ := rp
    obtain rfl : x = x' := by simpa using e1
    rw [e0] at r1
    simp only [Rp] at r1
    obtain ⟨b, xs, rfl, q1, w⟩ := r1
    refine ⟨b, xs, rfl, .inl ⟨hK ▸ sqL_mono a2.fh q1, fun p' hp' => ?_⟩⟩
    exact hp _ _ _ _ _ (a2.res (ResOk.lst a2.fh (rpAll_rev w) hp'))
  · rename_i ds e0
    obtain ⟨F2, a2, rp⟩ := a'.freeze
    simp only [T.vals, RpAll] at rp
    obtain ⟨x', xs, e1, r1, rfl⟩ := rp
    obtain rfl : x = x' := by simpa using e1
    rw [e0] at r1
    simp only [Rp] at r1
    obtain ⟨b, xs, rfl, q1, w⟩ := r1
    refine ⟨b, xs, rfl, .inr ⟨hK ▸ sqT_mono a2.fh q1, fun p' hp' => ?_⟩⟩
    exact hp _ _ _ _ _ (a2.res (ResOk.tup a2.fh (rpAll_rev w) hp'))
  · exact hp.elim
end Pv
set_option Elab.async false
set_option linter.all false
set_option maxRecDepth 100000
set_option maxHeartbeats 4000000
/-! x op= e, of ints -/
namespace Pv
open PySem L2 PyProof.Rows
variable {X : Cx} {C : Cn}
def augAdd : PyData → PyData → Option T := iop0 fun i j => i + j
theorem augAdd_ok : OpD X (inplaceOp .Add) augAdd := iop0_ok iop_add
def augSub : PyData → PyData → Option T := iop0 fun i j => i - j
theorem augSub_ok : OpD X (inplaceOp .Sub) augSub := iop0_ok iop_sub
def mulFits64 (i j : Int) : Bool := small64 i || small64 j
def augMul : PyData → PyData → Option T := iop mulFits64 fun i j => i * j
theorem augMul_ok : OpD X (inplaceOp .Mult) augMul := iop_ok iop_mul fun i j h => by
  unfold mulFits64 small64 at h
  simp only [Bool.or_eq_true, Bool.and_eq_true, decide_eq_true_eq] at h
  have e64 : (2 : Int) ^ 64 = 18446744073709551616 := by decide
  rcases h with h | h
  · exact .inl (by rw [e64]; exact h)
  · exact .inr (by rw [e64]; exact h)
variable {op : Operator} {o : PyData → PyData → Option T} {f : FE} {i : Nat} {x : Str} {e : Expr} {pos pos' : Pos} {io : List Nat}
theorem psd_aug (hio : i ∉ io) (hK : C.K = X.K) (hN : X.N.Nodup) (hi : X.N[i]? = some x) (hx : Loc X.env.scope x) (ho : OpD X (inplaceOp op) o) (he : PE X e (tD C f)) (hf : X.fn x = true ∨ X.env.scope.names.lookup x = some .local := by first | exact .inl rfl | exact .inr rfl | assumption) :
    PS X (.AugAssign (.Name x pos') op e pos) (tS C io (sAsg (eBinL' o i f) (gN i))) := by
  have h := ps_aug (pos := pos) (pos' := pos') hN hi hx he ho hf
  rw [← hK] at h
  exact psd_set hio (h.impD fun D σ H q => t_binL q)
end Pv
namespace Pv
open PySem L2
variable {X : Cx} {C : Cn}
/-- what is made is given away at once -/
def eFz (f : FE) : FE := fun η => (f η).bind fun p => .ok (.sh p.1.val, p.2)
theorem pd_fz {e : Expr} {f : FE} (h : PE X e (tD C f)) : PE X e (tD C (eFz f)) := h.impD fun σ H Q ⟨η, F, fp, o, q⟩ => by
  refine ⟨η, F, fp, o, Rs.post_mono (Rs.post_bind q) (fun r hr v F1 H1 f1 fp1 a => ?_) fun _ _ z => z⟩
  obtain ⟨F2, a2, rp⟩ := a.freeze
  simp only [T.vals, RpAll] at rp
  obtain ⟨v', xs, e1, r1, rfl⟩ := rp
  obtain rfl : v = v' := by simpa using e1
  exact hr _ _ _ _ _ (a2.res (.here a2.fh r1))
end Pv
set_option Elab.async false
set_option linter.all false
set_option maxRecDepth 100000
set_option maxHeartbeats 4000000
/-! dicts that a slot owns: {}, d[k] = v; keys ints and texts -/
namespace Pv
open PySem L2 PyProof.Rows
section
variable {X : Cx} {C : Cn}
theorem ResOk.dctN {K : PySem.W.Frag} {F H : Hp} {p : Addr} (fh : Same F H) (hp : H p = none) : ResOk K F H (.dct []) (.ref p) F (upd H p (.dK [])) [p] := by
  have fp : F p = none := fh.free hp
  refine ⟨?_, .refl _, fun b o e => ?_, same_upd hp, fun b hb => rfl, by simp, fun a ha => ?_⟩
  · simp only [RT]
    exact ⟨p, [], rfl, upd_same, rfl, by simp only [kvD, List.map_nil, RpKv]⟩
  · rw [upd_ne (ne_of_none e fp)]; exact fh b o e
  · have : a = p := by simpa using ha
    subst this; exact ⟨hp, fp⟩
/-- {}, to be owned -/
def eDctN : FE := fun η => .ok (.dct [], η)
theorem pd_dctN {pos : Pos} : PE X (.Dict [] [] pos) (tD C eDctN) :=
  pe_dnewK.impD fun σ H Q ⟨η, F, fp, o, q⟩ p hp => q _ _ _ _ _ (o.res (ResOk.dctN o.fh hp))
/-! ### a dict is changed -/
def keyOf : PyData → Option Key
  | .int i => some (.inl i)
  | .str s => some (.inr s)
  | _ => none
def putKD (kvs : List (Key × PyData)) (k : Key) (d : PyData) : List (Key × PyData) :=
  if (kvs.any fun kv => decide (kv.1 = k)) = true then kvs.map (fun kv => if kv.1 = k then (kv.1, d) else kv) else kvs ++ [(k, d)]
theorem kvD_cons {p : Key × PyData} {kvs : List (Key × PyData)} : kvD (p :: kvs) = (keyD p.1, p.2) :: kvD kvs := rfl
theorem keyD_inj : ∀ {a b : Key}, keyD a = keyD b → a = b
  | .inl _, .inl _, h => by cases h; rfl
  | .inr _, .inr _, h => by cases h; rfl
  | .inl _, .inr _, h => by cases h
  | .inr _, .inl _, h => by cases h
theorem rpKv_inv {K : PySem.W.Frag} {F : Hp} {p : Key × PyData} {kvs : List (Key × PyData)} {ks : List (Key × V)} (h : RpKv K F (kvD (p :: kvs)) ks) : ∃ x qs, ks = (p.1, x) :: qs ∧ Rp K F p.2 x ∧ RpKv K F (kvD kvs) qs := by
  rw [kvD_cons] at h
  simp only [RpKv] at h
  obtain ⟨q, x, qs, rfl, e, r, t⟩ := h
  cases keyD_inj e
  exact ⟨x, qs, rfl, r, t⟩
theorem rpKv_cons {K : PySem.W.Frag} {F : Hp} {k : Key} {d : PyData} {x : V} {kvs : List (Key × PyData)} {qs : List (Key × V)} (r : Rp K F d x) (t : RpKv K F (kvD kvs) qs) : RpKv K F (kvD ((k, d) :: kvs)) ((k, x) :: qs) := by
  rw [kvD_cons]
  simp only [RpKv]
  exact ⟨k, x, qs, rfl, rfl, r, t⟩
theorem rpKv_any {K : PySem.W.Frag} {F : Hp} {k : Key} : ∀ {kvs : List (Key × PyData)} {ks : List (Key × V)}, RpKv K F (kvD kvs) ks → (ks.any fun kv => decide (kv.1 = k)) = (kvs.any fun kv => decide (kv.1 = k))
  | [], _, h => by simp only [kvD, List.map_nil, RpKv] at h; subst h; rfl
  | p :: kvs, ks, h => by
    obtain ⟨x, qs, rfl, r, t⟩ := rpKv_inv h
    rw [List.any_cons, List.any_cons, rpKv_any t]
theorem rpKv_repl {K : PySem.W.Frag} {F : Hp} {k : Key} {d : PyData} {v : V} (rd : Rp K F d v) : ∀ {kvs : List (Key × PyData)} {ks : List (Key × V)}, RpKv K F (kvD kvs) ks → RpKv K F (kvD (kvs.map fun kv => if kv.1 = k then (kv.1, d) else kv)) (ks.map fun kv => if kv.1 = k then (kv.1, v) else kv)
  | [], _, h => by simp only [kvD, List.map_nil, RpKv] at h ⊢; subst h; rfl
  | p :: kvs, ks, h => by
    obtain ⟨x, qs, rfl, r, t⟩ := rpKv_inv h
    rw [List.map_cons, List.map_cons]
    have := rpKv_repl (k := k) rd t
    by_cases e : p.1 = k
    · simp only [e, if_pos]
      exact rpKv_cons rd this
    · simp only [e, if_false]
      exact rpKv_cons r this
theorem rpKv_snoc {K : PySem.W.Frag} {F : Hp} {k : Key} {d : PyData} {v : V} (rd : Rp K F d v) : ∀ {kvs : List (Key × PyData)} {ks : List (Key × V)}, RpKv K F (kvD kvs) ks → RpKv K F (kvD (kvs ++ [(k, d)])) (ks ++ [(k, v)])
  | [], _, h => by
    simp only [kvD, List.map_nil, RpKv] at h
    subst h
    exact rpKv_cons rd (by simp only [kvD, List.map_nil, RpKv])
  | p :: kvs, ks, h => by
    obtain ⟨x, qs, rfl, r, t⟩ := rpKv_inv h
    exact rpKv_cons r (rpKv_snoc rd t)
theorem rpKv_put {K : PySem.W.Frag} {F : Hp} {k : Key} {d : PyData} {v : V} {kvs : List (Key × PyData)} {ks : List (Key × V)} (rd : Rp K F d v) (h : RpKv K F (kvD kvs) ks) : RpKv K F (kvD (putKD kvs k d)) (putK ks k v) := by
  unfold putKD putK
  rw [rpKv_any h]
  split
  · exact rpKv_repl rd h
  · exact rpKv_snoc rd h
theorem rpKv_len {K : PySem.W.Frag} {F : Hp} : ∀ {kvs : List (Key × PyData)} {ks : List (Key × V)}, RpKv K F (kvD kvs) ks → ks.length = kvs.length
  | [], _, h => by simp only [kvD, List.map_nil, RpKv] at h; subst h; rfl
  | p :: kvs, ks, h => by
    obtain ⟨x, qs, rfl, r, t⟩ := rpKv_inv h
    rw [List.length_cons, List.length_cons, rpKv_len t]
theorem Aft.mutD {K : PySem.W.Frag} {fp : List Addr} {F H : Hp} {σ : L2.St} {η1 : Env} {F1 H1 : Hp} {fp1 : List Addr} {i : Nat} {kvs : List (Key × PyData)} (a : Aft K fp F H σ [] [] η1 F1 H1 [] fp1) (e : η1[i]? = some (some (.dct kvs))) :
    ∃ p ks, σ[i]? = some (some (.ref p)) ∧ H1 p = some (.dK ks) ∧ RpKv K F1 (kvD kvs) ks ∧
      ∀ kvs' ks', RpKv K F1 (kvD kvs') ks' → ∃ fp2, Aft K fp F H σ [] [] (η1.set i (some (.dct kvs'))) F1 (upd H1 p (.dK ks')) [] fp2 := by
  have hi : i < η1.length := (List.getElem?_eq_some_iff.mp e).1
  obtain ⟨s, h, r, h1, h2, h3, h4⟩ := a.rs.focus hi
  obtain ⟨v, rfl, rt⟩ := h3 _ e
  simp only [RT] at rt
  obtain ⟨p, ks, rfl, hp, rfl, rk⟩ := rt
  have nd0 : fp1.Nodup := by have := a.nd; rwa [List.nil_append] at this
  have ndf : ([p] ++ r).Nodup := h2.nodup_iff.mp nd0
  have pr : p ∉ r := fun hx => (List.nodup_append.mp ndf).2.2 p (by simp) p hx rfl
  have mem : ∀ x, x = p ∨ x ∈ r → x ∈ fp1 := fun x hx => h2.mem_iff.mpr (by
    rcases hx with hx | hx
    · simp [hx]
    · simp [hx])
  have Fp : F1 p = none := a.fn p (by simpa using mem p (.inl rfl))
  refine ⟨p, ks, h1, hp, rk, fun kvs' ks' rk' => ?_⟩
  have sF : Same F1 (upd H1 p (.dK ks')) := fun b o e => by rw [upd_ne (ne_of_none e Fp)]; exact a.fh b o e
  obtain ⟨f', rs', pm⟩ := (h4 F1 (upd H1 p (.dK ks')) (.refl _) (fun x hx o e => by rw [upd_ne (ne_mem hx pr)]; exact e)).1 (.dct kvs') (.ref p) [p]
    (by simp only [RT]; exact ⟨p, ks', rfl, upd_same, rfl, rk'⟩)
  rw [set_self h1] at rs'
  have memf : ∀ x ∈ f', x ∈ fp1 := fun x hx => by
    have := pm.mem_iff.mp hx
    exact mem x (by simpa using this)
  refine ⟨f', ⟨.nil, rs', ?_, fun x hx => ?_, sF, ⟨a.ext.ff, fun b o e hb => ?_, a.ext.new⟩, fun x hx => ?_⟩⟩
  · rw [List.nil_append]
    exact pm.nodup_iff.mpr ndf
  · exact a.fn x (by simpa using memf x (by simpa using hx))
  · have := a.ext.keep b o e hb
    have nb : b ≠ p := fun z => by
      subst z
      rcases a.sub b (by simpa using mem b (.inl rfl)) with z | z
      · exact hb z
      · rw [z] at e; cases e
    rw [upd_ne nb]; exact this
  · exact a.sub x (by simpa using memf x (by simpa using hx))
def dctOf (η : Env) (i : Nat) : Option (List (Key × PyData)) := match η[i]? with
  | some (some (.dct kvs)) => some kvs
  | _ => none
theorem dctOf_eq {η : Env} {i : Nat} {kvs : List (Key × PyData)} (h : dctOf η i = some kvs) : η[i]? = some (some (.dct kvs)) := by
  unfold dctOf at h
  split at h
  · rename_i kvs' e
    cases h
    exact e
  · cases h
/-- x[i] = .., x a name that owns a dict -/
def gDct (i : Nat) (g : FE) : FG := fun t η => match dctOf η i with
  | some _ => (g η).bind fun p => match dctOf p.2 i, keyOf p.1.val with
    | some kvs, some k => if kvs.length < 16777216 then .ok (p.2.set i (some (.dct (putKD kvs k t.val)))) else .bad
    | _, _ => .bad
  | none => .bad
theorem keyOf_rp {K : PySem.W.Frag} {F : Hp} {d : PyData} {v : V} {k : Key} (h : keyOf d = some k) (r : Rp K F d v) : v = kV k := by
  cases d with
  | int i => cases h; simp only [Rp] at r; rw [r]; rfl
  | str s => cases h; simp only [Rp] at r; rw [r]; rfl
  | none => cases h
  | bool _ => cases h
  | list _ => cases h
  | tuple _ => cases h
  | dict _ => cases h
theorem pgd_dct {x : Str} {px pos : Pos} {ix : Expr} {i : Nat} {g : FE} (h : PG X (.Subscript (.Name x px) ix pos) (L2.gSub (tVar i) (tD C g) rSetD)) : PG X (.Subscript (.Name x px) ix pos) (tG C [] (gDct i g)) := by
  refine h.impD fun v σ H Q ⟨η, F, fp, t, f, a, q⟩ => ?_
  unfold gDct at q
  split at q
  · rename_i kvs0 e0
    have hv : ∃ p0, σ[i]? = some (some (.ref p0)) := by
      obtain ⟨F2, a2, rp⟩ := a.freeze
      obtain ⟨p0, ks0, h1, _⟩ := a2.mutD (dctOf_eq e0)
      exact ⟨p0, h1⟩
    obtain ⟨p0, h0⟩ := hv
    refine ⟨.ref p0, h0, ?_⟩
    refine tD_step a (Rs.post_mono (Rs.post_bind q) (fun p hp y F1 H1 f1 fp1 b => ?_) fun _ _ z => z.xp)
    have b : Aft C.K (f ++ fp) F H σ [t, p.1] [v, y] p.2 F1 H1 f1 fp1 := b
    split at hp
    · rename_i kvs k e1 e2
      split at hp
      · rename_i hlen
        obtain ⟨F2, b2, rp⟩ := b.freeze
        simp only [T.vals, RpAll] at rp
        obtain ⟨v', xs, e3, r1, y', ys, rfl, r2, rfl⟩ := rp
        obtain ⟨rfl, rfl⟩ : v = v' ∧ y = y' := by simpa using e3
        obtain ⟨p1, ks, h1, hp1, rk, kk⟩ := b2.mutD (dctOf_eq e1)
        obtain rfl : p0 = p1 := by rw [h0] at h1; cases h1; rfl
        obtain ⟨fp2, c⟩ := kk _ _ (rpKv_put (k := k) r1 rk)
        have hy := keyOf_rp e2 r2
        subst hy
        refine ⟨p0, _, rfl, DPut.k hp1 (by rw [rpKv_len rk, sizeLine_eq]; exact hlen), ?_⟩
        exact hp σ F2 _ fp2 c ⟨rfl, fun _ _ => rfl⟩
      · exact hp.elim
    · exact hp.elim
  · exact q.elim
end
end Pv
namespace Pv
theorem good_lt {n c : Nat} (h : n + 66 < c) : n + 1 < c := by omega
end Pv
set_option Elab.async false
set_option linter.all false
set_option maxRecDepth 100000
set_option maxHeartbeats 4000000
/-! x or y, of values -/
namespace Pv
open PySem L2 PyProof.Rows
variable {X : Cx} {C : Cn} {a b : Expr} {rest : List Expr} {pos : Pos} {f g : FE} {ta tb : TE}
theorem pe_orG (ha : PE X a ta) (hb : PE X (.BoolOp .Or (b :: rest) pos) tb) : PE X (.BoolOp .Or (a :: b :: rest) pos) (fun σ H Q => ta σ H fun x H1 => ∃ k, TruV X.K x H1 k ∧ if k = true then Q x H1 else tb σ H1 Q) := by
  refine ⟨fun pins s σ H Q I h => ?_⟩
  refine BoolOp_or (thn (ha.run pins s σ H _ I h) fun v s1 ⟨x, H1, I1, r1, k, tv, q1⟩ => ?_)
  refine thn (tru_ok pins s1 σ H1 x v (fun c H2 => c = k ∧ H2 = H1) I1 r1 ⟨k, tv, rfl, rfl⟩) fun c s2 ⟨H2, I2, ec, eh⟩ => ?_
  subst ec eh
  cases c with
  | true => exact ⟨x, _, I2, r1, q1⟩
  | false => exact hb.run pins s2 σ _ Q I2 q1
def eOrV (f g : FE) : FE := fun η => (f η).bind fun p => match truth p.1.val with
  | some true => .ok (.sh p.1.val, p.2)
  | some false => g p.2
  | none => .bad
theorem pd_orV (hK : C.K = X.K) (ha : PE X a (tD C f)) (hb : PE X (.BoolOp .Or (b :: rest) pos) (tD C g)) : PE X (.BoolOp .Or (a :: b :: rest) pos) (tD C (eOrV f g)) := by
  refine (pe_orG ha hb).impD fun σ H Q ⟨η, F, fp, o, q⟩ => ?_
  refine tD_step o.aft (Rs.post_mono (Rs.post_bind q) (fun p hp x F1 H1 f1 fp1 a => ?_) fun _ _ z => z)
  have a : Aft C.K fp F H σ [p.1] [x] p.2 F1 H1 f1 fp1 := a
  obtain ⟨F2, a2, rp⟩ := a.freeze
  simp only [T.vals, RpAll] at rp
  obtain ⟨x', xs, e1, r1, rfl⟩ := rp
  obtain rfl : x = x' := by simpa using e1
  split at hp
  · rename_i e
    refine ⟨true, hK ▸ truth_ok a2.fh (.inl r1) e, ?_⟩
    rw [if_pos rfl]
    exact hp _ _ _ _ _ (a2.res (.here a2.fh r1))
  · rename_i e
    refine ⟨false, hK ▸ truth_ok a2.fh (.inl r1) e, ?_⟩
    rw [if_neg Bool.false_ne_true]
    exact tD_step a2 (Rs.post_mono hp (fun p2 hp2 v F3 H3 f3 fp3 b => hp2 v F3 H3 f3 fp3 b) fun _ _ z => z)
  · exact hp.elim
end Pv
set_option Elab.async false
set_option linter.all false
set_option maxRecDepth 100000
set_option maxHeartbeats 4000000
/-! dict(zip(xs, ys)): xs, ys lists or tuples; keys that are tuples of ints -/
namespace Pv
open PySem L2 RZ PySem.Spec PyProof.Rows
open PySem.W (KdxIt kdx_alive)
section
variable {prog : Program} {w : World} {A : Around} {E : Value → Shared → Prop} {s : Shared} {k1 k2 : Bool} {z TI TO G i1 i2 l1 l2 : Addr} {f : Bool} {og : Obj} {n1 n2 : Nat} {xs ys : Array Value} {x y : Value}
/-- the tuple that was given out is still there -/
theorem zh_free {Q : Bool → Shared → Prop} (hz : IsZipHeld s.heap z TI TO G f) (hg : s.heap.get? G = some og)
    (q : ∀ g, IsZipHeld g z TI TO G true → Heap.SameBut z s.heap g → Q false { s with heap := g }) : wpAny (model prog w) A (Builtin.SmallTypes.ownedTupleIsFree (.ref z)) Q E s :=
  wpAny_tupleHeld_zip hz hg q
theorem zh_item {Q : Value → Shared → Prop} (D : ZipApart z TI TO i1 i2 l1 l2) (hz : IsZipHeld s.heap z TI TO G f) (hg : s.heap.get? G = some og) (hI : IsPair s.heap TI (.ref i1) (.ref i2))
    (w1 : WkAt k1 s.heap i1 l1 n1) (w2 : WkAt k2 s.heap i2 l2 n2) (c1 : SrcAt k1 s.heap l1 xs) (c2 : SrcAt k2 s.heap l2 ys) (e1 : xs[n1]? = some x) (e2 : ys[n2]? = some y)
    (q : ∀ g, IsZipHeld g z TI TO G true → WkAt k1 g i1 l1 (n1 + 1) → WkAt k2 g i2 l2 (n2 + 1) → IsPair g s.heap.objs.size x y → g.objs.size = s.heap.objs.size + 1 → (∀ c o, c ≠ z → c ≠ i1 → c ≠ i2 → s.heap.get? c = some o → g.get? c = some o) → Q (.ref s.heap.objs.size) { s with heap := g }) :
    wpAny (model prog w) A (Builtin.«zip.__next__» ⟨[.ref z], []⟩) (fun fin s' => ∃ v, fin = .done (.ret v) ∧ Q v s') E s := by
  show wpAny _ _ (field (.ref z) 2 >>= _) _ _ _
  refine wpAny_bind (wpAny_field hz rfl (x := .bool false) rfl (show wpAny _ _ (field (.ref z) 3 >>= _) _ _ _ from ?_))
  refine wpAny_bind (wpAny_field hz rfl (x := .ref TI) rfl (wpAny_bind (wpAny_seqItems hI rfl ?_)))
  show wpAny _ _ (Builtin.SmallTypes.ownedTupleIsFree (.ref z) >>= _) _ _ _
  refine wpAny_bind (zh_free hz hg fun g1 z1 s1 => ?_)
  simp only [Bool.false_eq_true, if_false]
  refine wpAny_bind ?_
  rw [← Array.forIn_toList]
  simp only [List.forIn_cons, List.forIn_nil]
  refine wpAny_bind (wpAny_bind (wpAny_holding (show wpAny _ _ (Builtin.SmallTypes.nextOf (.ref i1) >>= _) _ _ _ from ?_)))
  refine wpAny_bind (nx_item (s := { s with heap := g1 }) (w1.far s1.extBut D.i1z) (c1.far s1.extBut D.l1z) e1 fun g2 m1 s2 => wpAny_pure (wpAny_pure ?_))
  refine wpAny_bind (wpAny_bind (wpAny_holding (show wpAny _ _ (Builtin.SmallTypes.nextOf (.ref i2) >>= _) _ _ _ from ?_)))
  refine wpAny_bind (nx_item (s := { s with heap := g2 }) ((w2.far s1.extBut D.i2z).far s2.extBut D.i12.symm) ((c2.far s1.extBut D.l2z).far s2.extBut D.l2i1) e2 fun g3 m2 s3 => wpAny_pure (wpAny_pure (wpAny_pure ?_)))
  show wpAny _ _ (newTuple [x, y] >>= _) _ _ _
  refine wpAny_bind (wpAny_newTuple (wpAny_pure ⟨_, rfl, ?_⟩))
  have hs : g3.objs.size = s.heap.objs.size := s3.1.trans (s2.1.trans s1.1)
  have z3 : IsZipHeld g3 z TI TO G true := s3.extBut _ _ D.i2z.symm (s2.extBut _ _ D.i1z.symm z1)
  have m1' : WkAt k1 g3 i1 l1 (n1 + 1) := m1.far s3.extBut D.i12
  have up : ∀ c o, g3.get? c = some o → (g3.push { cls := .type "tuple", data := .seq #[x, y] }).get? c = some o := fun c o e => Heap.get?_push_of_some _ e
  have P : IsPair (g3.push { cls := .type "tuple", data := .seq #[x, y] }) g3.objs.size x y := Heap.get?_push_size _ rfl
  have N : (g3.push { cls := .type "tuple", data := .seq #[x, y] }).objs.size = g3.objs.size + 1 := Heap.size_push ..
  show Q (.ref g3.objs.size) _
  rw [hs] at P N ⊢
  exact q _ (up _ _ z3) (m1'.moved fun o e => up _ o e) (m2.moved fun o e => up _ o e) P N fun c o d1 d2 d3 e => up c o (s3.extBut _ _ d3 (s2.extBut _ _ d2 (s1.extBut _ _ d1 e)))
theorem zh_end {Q : Fin → Shared → Prop} (hh : A.handled = none) (D : ZipApart z TI TO i1 i2 l1 l2) (hz : IsZipHeld s.heap z TI TO G f) (hg : s.heap.get? G = some og) (hI : IsPair s.heap TI (.ref i1) (.ref i2))
    (w1 : WkAt k1 s.heap i1 l1 n1) (w2 : WkAt k2 s.heap i2 l2 n2) (c1 : SrcAt k1 s.heap l1 xs) (c2 : SrcAt k2 s.heap l2 ys) (he : xs[n1]? = none ∨ ys[n2]? = none)
    (q : ∀ g e, (∀ c o, c ≠ z → c ≠ i1 → c ≠ i2 → s.heap.get? c = some o → g.get? c = some o) → (∃ o, g.get? e = some o ∧ o.cls = .type "StopIteration") → E (.ref e) { s with heap := g }) :
    wpAny (model prog w) A (Builtin.«zip.__next__» ⟨[.ref z], []⟩) Q E s := by
  show wpAny _ _ (field (.ref z) 2 >>= _) _ _ _
  refine wpAny_bind (wpAny_field hz rfl (x := .bool false) rfl (show wpAny _ _ (field (.ref z) 3 >>= _) _ _ _ from ?_))
  refine wpAny_bind (wpAny_field hz rfl (x := .ref TI) rfl (wpAny_bind (wpAny_seqItems hI rfl ?_)))
  show wpAny _ _ (Builtin.SmallTypes.ownedTupleIsFree (.ref z) >>= _) _ _ _
  refine wpAny_bind (zh_free hz hg fun g1 z1 s1 => ?_)
  simp only [Bool.false_eq_true, if_false]
  refine wpAny_bind ?_
  rw [← Array.forIn_toList]
  simp only [List.forIn_cons, List.forIn_nil]
  refine wpAny_bind (wpAny_bind (wpAny_holding (show wpAny _ _ (Builtin.SmallTypes.nextOf (.ref i1) >>= _) _ _ _ from ?_)))
  cases e1 : xs[n1]? with
  | none =>
    exact wpAny_bind (nx_end (s := { s with heap := g1 }) hh (w1.far s1.extBut D.i1z) (c1.far s1.extBut D.l1z) e1 fun g2 e s2 o => q g2 e (fun c o d1 d2 _ v => s2 _ _ d2 (s1.extBut _ _ d1 v)) o)
  | some x =>
    have e2 : ys[n2]? = none := he.resolve_left fun h => by rw [e1] at h; cases h
    refine wpAny_bind (nx_item (s := { s with heap := g1 }) (w1.far s1.extBut D.i1z) (c1.far s1.extBut D.l1z) e1 fun g2 m1 s2 => wpAny_pure (wpAny_pure ?_))
    refine wpAny_bind (wpAny_bind (wpAny_holding (show wpAny _ _ (Builtin.SmallTypes.nextOf (.ref i2) >>= _) _ _ _ from ?_)))
    exact wpAny_bind (nx_end (s := { s with heap := g2 }) hh ((w2.far s1.extBut D.i2z).far s2.extBut D.i12.symm) ((c2.far s1.extBut D.l2z).far s2.extBut D.l2i1) e2 fun g3 e s3 o => q g3 e (fun c o d1 d2 d3 v => s3 _ _ d3 (s2.extBut _ _ d2 (s1.extBut _ _ d1 v))) o)
theorem ph_item {Q : Option Value → Shared → Prop} (D : ZipApart z TI TO i1 i2 l1 l2) (hz : IsZipHeld s.heap z TI TO G f) (hg : s.heap.get? G = some og) (hI : IsPair s.heap TI (.ref i1) (.ref i2))
    (w1 : WkAt k1 s.heap i1 l1 n1) (w2 : WkAt k2 s.heap i2 l2 n2) (c1 : SrcAt k1 s.heap l1 xs) (c2 : SrcAt k2 s.heap l2 ys) (e1 : xs[n1]? = some x) (e2 : ys[n2]? = some y)
    (q : ∀ g, IsZipHeld g z TI TO G true → WkAt k1 g i1 l1 (n1 + 1) → WkAt k2 g i2 l2 (n2 + 1) → IsPair g s.heap.objs.size x y → g.objs.size = s.heap.objs.size + 1 → (∀ c o, c ≠ z → c ≠ i1 → c ≠ i2 → s.heap.get? c = some o → g.get? c = some o) → Q (some (.ref s.heap.objs.size)) { s with heap := g }) :
    wpAny (model prog w) A (pyNext (.ref z)) Q E s := by
  have ty : s.TypeIs (.ref z) "zip" := ⟨_, hz, rfl⟩
  unfold pyNext
  exact wpAny_bind (wpAny_attempt (wpAny_callSpecial?_slot (name := Str.ofString "__next__") ty F.slot_zip_next (wpAny_call_entry F.slot_zip_next ty F.entry_zip_next
    (zh_item D hz hg hI w1 w2 c1 c2 e1 e2 fun g p1 p2 p3 p4 p5 p6 => wpAny_pure (q g p1 p2 p3 p4 p5 p6)) (F.args_zip_next_1 _))))
theorem ph_end {Q : Option Value → Shared → Prop} (hh : A.handled = none) (D : ZipApart z TI TO i1 i2 l1 l2) (hz : IsZipHeld s.heap z TI TO G f) (hg : s.heap.get? G = some og) (hI : IsPair s.heap TI (.ref i1) (.ref i2))
    (w1 : WkAt k1 s.heap i1 l1 n1) (w2 : WkAt k2 s.heap i2 l2 n2) (c1 : SrcAt k1 s.heap l1 xs) (c2 : SrcAt k2 s.heap l2 ys) (he : xs[n1]? = none ∨ ys[n2]? = none)
    (q : ∀ g, (∀ c o, c ≠ z → c ≠ i1 → c ≠ i2 → s.heap.get? c = some o → g.get? c = some o) → Q none { s with heap := g }) : wpAny (model prog w) A (pyNext (.ref z)) Q E s := by
  have ty : s.TypeIs (.ref z) "zip" := ⟨_, hz, rfl⟩
  unfold pyNext
  refine wpAny_bind (wpAny_attempt (wpAny_callSpecial?_slot (name := Str.ofString "__next__") ty F.slot_zip_next (wpAny_call_entry F.slot_zip_next ty F.entry_zip_next (zh_end hh D hz hg hI w1 w2 c1 c2 he fun g e hk ⟨o, ho, hc⟩ => ?_) (F.args_zip_next_1 _))))
  exact wpAny_bind (wpAny_isInstance (T := "StopIteration") (b := true) ⟨o, ho, hc⟩ isSubtype_stop (wpAny_pure (q _ hk)))
end
section
variable {prog : Program} {w : World}
theorem WkAt.there {k : Bool} {h : Heap} {it l : Addr} {i : Nat} (x : WkAt k h it l i) : ∃ o, h.get? it = some o := let ⟨o, _, e, _⟩ := x.fld; ⟨o, e⟩
theorem SrcAt.there {k : Bool} {h : Heap} {l : Addr} {xs : Array Value} (x : SrcAt k h l xs) : ∃ o, h.get? l = some o := by
  cases k with
  | true => obtain ⟨o, e, _⟩ := (show h.IsList l xs from x); exact ⟨o, e⟩
  | false => obtain ⟨o, e, _⟩ := (show h.IsTuple l xs from x); exact ⟨o, e⟩
theorem SrcAt.moved {k : Bool} {h h' : Heap} {l : Addr} {xs : Array Value} (x : SrcAt k h l xs) (e : ∀ o, h.get? l = some o → h'.get? l = some o) : SrcAt k h' l xs := by
  cases k with
  | true => exact Heap.IsList.at (show h.IsList l xs from x) e
  | false => exact Heap.IsTuple.at (show h.IsTuple l xs from x) e
/-- what stands while the zip is gone through -/
structure ZGo (k1 k2 : Bool) (z TI TO i1 i2 l1 l2 d : Addr) (xs ys : Array Value) (i : Nat) (h : Heap) : Prop where
  ti : IsPair h TI (.ref i1) (.ref i2)
  w1 : WkAt k1 h i1 l1 i
  w2 : WkAt k2 h i2 l2 i
  c1 : SrcAt k1 h l1 xs
  c2 : SrcAt k2 h l2 ys
  zz : (IsZip h z TI TO .none ∧ ∃ a b, IsPair h TO a b) ∨ ∃ G f og, IsZipHeld h z TI TO G f ∧ h.get? G = some og ∧ G ≠ z ∧ G ≠ i1 ∧ G ≠ i2 ∧ G ≠ d
theorem pairZ (k1 k2 : Bool) (z TI TO i1 i2 l1 l2 : Addr) (D : ZipApart z TI TO i1 i2 l1 l2) (xs ys : Array Value) :
    PairArg prog w "zip" z [z, TI, TO, i1, i2, l1, l2] [z, TO, i1, i2] (min xs.size ys.size) (fun i k v => xs[i]? = some k ∧ ys[i]? = some v)
      (fun h => (IsZip h z TI TO .none ∧ ∃ a b, IsPair h TO a b) ∧ IsPair h TI (.ref i1) (.ref i2) ∧ WkAt k1 h i1 l1 0 ∧ WkAt k2 h i2 l2 0 ∧ SrcAt k1 h l1 xs ∧ SrcAt k2 h l2 ys) where
  type := fun s ok => ⟨_, ok.1.1, rfl⟩
  notDict := by decide
  keep := fun h h' ok k => by
    obtain ⟨⟨a, b, c, d⟩, e, f, g, i, j⟩ := ok
    exact ⟨⟨k _ _ a, b, c, k _ _ d⟩, k _ _ e, f.moved fun o => k _ o, g.moved fun o => k _ o, i.moved fun o => k _ o, j.moved fun o => k _ o⟩
  there := fun h ok c hc => by
    obtain ⟨⟨a, b, c', d⟩, e, f, g, i, j⟩ := ok
    simp only [List.mem_cons, List.not_mem_nil, or_false] at hc
    rcases hc with rfl | rfl | rfl | rfl | rfl | rfl | rfl
    · exact ⟨_, a⟩
    · exact ⟨_, e⟩
    · exact ⟨_, d⟩
    · exact f.there
    · exact g.there
    · exact i.there
    · exact j.there
  sub := fun c hc => by
    simp only [List.mem_cons, List.not_mem_nil, or_false] at hc
    rcases hc with rfl | rfl | rfl | rfl <;> simp
  noKeys := fun A s Q E hA ok q => getAttrOr_miss_zip ok.1.1 rfl rfl rfl zip_no_keys (by decide +kernel) hA q
  iter := fun A s d Q E hA ok hd hdf q => by
    obtain ⟨⟨a, b, c', t⟩, e, f, g, i, j⟩ := ok
    have hn : ∀ c ∈ [z, TI, TO, i1, i2, l1, l2], c ≠ d := fun c hc x => hdf (x ▸ hc)
    refine wpAny_pyIter_zip a (q z [z, TO, i1, i2] (ZGo k1 k2 z TI TO i1 i2 l1 l2 d xs ys) s.heap s.toks ?_ ⟨e, f, g, i, j, .inl ⟨a, b, c', t⟩⟩ (fun _ _ x => x) fun c hc => .inl hc)
    refine { off := fun hm => ?_, frame := fun i h h' st k => ?_, item := fun n s1 Q1 E1 hi st hds q1 => ?_, done := fun s1 Q1 E1 st q1 => ?_ }
    · simp only [List.mem_cons, List.not_mem_nil, or_false] at hm
      rcases hm with x | x | x | x
      · exact hn z (by simp) x.symm
      · exact hn TO (by simp) x.symm
      · exact hn i1 (by simp) x.symm
      · exact hn i2 (by simp) x.symm
    · refine ⟨k _ _ (hn TI (by simp)) st.ti, st.w1.moved fun o => k _ o (hn i1 (by simp)), st.w2.moved fun o => k _ o (hn i2 (by simp)), st.c1.moved fun o => k _ o (hn l1 (by simp)), st.c2.moved fun o => k _ o (hn l2 (by simp)), ?_⟩
      rcases st.zz with ⟨x, u, v, y⟩ | ⟨G, f, og, x, y, r⟩
      · exact .inl ⟨k _ _ (hn z (by simp)) x, u, v, k _ _ (hn TO (by simp)) y⟩
      · exact .inr ⟨G, f, og, k _ _ (hn z (by simp)) x, k _ _ r.2.2.2 y, r⟩
    · have hx := Array.getElem?_eq_getElem (Nat.lt_of_lt_of_le hi (Nat.min_le_left xs.size ys.size))
      have hy := Array.getElem?_eq_getElem (Nat.lt_of_lt_of_le hi (Nat.min_le_right xs.size ys.size))
      have lt : ∀ {c}, (∃ o, s1.heap.get? c = some o) → s1.heap.objs.size ≠ c := fun ⟨_, e⟩ => Nat.ne_of_gt (Heap.lt_size e)
      rcases st.zz with ⟨x, u, v, y⟩ | ⟨G, f, og, x, y, r1, r2, r3, r4⟩
      · refine pn_item D x st.ti y st.w1 st.w2 st.c1 st.c2 hx hy fun g a1 a2 a3 a4 a5 a6 hk => ?_
        refine q1 s1.heap.objs.size _ _ g s1.toks ⟨hx, hy⟩ (.inl ⟨_, a5, rfl, _, rfl⟩) ⟨hk _ _ D.TIz D.TITO D.TIi1 D.TIi2 st.ti, a3, a4, st.c1.moved fun o => hk _ o D.l1z D.l1TO D.l1i1 D.l1i2, st.c2.moved fun o => hk _ o D.l2z D.l2TO D.l2i1 D.l2i2, .inr ⟨s1.heap.objs.size, false, _, a1, a5, lt ⟨_, x⟩, lt st.w1.there, lt st.w2.there, Nat.ne_of_gt hds⟩⟩ fun c o hc => ?_
        simp only [List.mem_cons, List.not_mem_nil, or_false, not_or] at hc
        exact hk c o hc.1 hc.2.1 hc.2.2.1 hc.2.2.2
      · refine ph_item D x y st.ti st.w1 st.w2 st.c1 st.c2 hx hy fun g a1 a3 a4 a5 a6 hk => ?_
        refine q1 s1.heap.objs.size _ _ g s1.toks ⟨hx, hy⟩ (.inl ⟨_, a5, rfl, _, rfl⟩) ⟨hk _ _ D.TIz D.TIi1 D.TIi2 st.ti, a3, a4, st.c1.moved fun o => hk _ o D.l1z D.l1i1 D.l1i2, st.c2.moved fun o => hk _ o D.l2z D.l2i1 D.l2i2, .inr ⟨G, true, og, a1, hk _ _ r1 r2 r3 y, r1, r2, r3, r4⟩⟩ fun c o hc => ?_
        simp only [List.mem_cons, List.not_mem_nil, or_false, not_or] at hc
        exact hk c o hc.1 hc.2.2.1 hc.2.2.2
    · have he : xs[min xs.size ys.size]? = none ∨ ys[min xs.size ys.size]? = none := by
        rcases Nat.le_total xs.size ys.size with h | h
        · exact .inl (Array.getElem?_eq_none (by omega))
        · exact .inr (Array.getElem?_eq_none (by omega))
      rcases st.zz with ⟨x, u, v, y⟩ | ⟨G, f, og, x, y, r1, r2, r3, r4⟩
      · refine pn_end hA D x st.ti y st.w1 st.w2 st.c1 st.c2 he fun g hk => q1 g s1.toks fun c o hc => ?_
        simp only [List.mem_cons, List.not_mem_nil, or_false, not_or] at hc
        exact hk c o hc.1 hc.2.1 hc.2.2.1 hc.2.2.2
      · refine ph_end hA D x y st.ti st.w1 st.w2 st.c1 st.c2 he fun g hk => q1 g s1.toks fun c o hc => ?_
        simp only [List.mem_cons, List.not_mem_nil, or_false, not_or] at hc
        exact hk c o hc.1 hc.2.2.1 hc.2.2.2
end
end Pv
set_option Elab.async false
set_option linter.all false
set_option maxRecDepth 100000
set_option maxHeartbeats 4000000
/-! dict(xs) of pairs, dict(zip(xs, ys)): keys tuples of ints, all unlike -/
namespace Pv
open PySem L2 RZ PySem.Spec PyProof.Rows
theorem is_key_at {P : Program} {w : World} {h h' : Heap} {ks : List Int} {a : Addr} (x : (tupleKind (intKind P w)).is h ks a) (k : ∀ o, h.get? a = some o → h'.get? a = some o) : (tupleKind (intKind P w)).is h' ks a :=
  let ⟨o, i, n, h1, r⟩ := x; ⟨o, i, n, k _ h1, r⟩
theorem is_key_lt {P : Program} {w : World} {h : Heap} {ks : List Int} {a : Addr} (x : (tupleKind (intKind P w)).is h ks a) : a < h.objs.size := let ⟨_, _, _, h1, _⟩ := x; Heap.lt_size h1
theorem stored_app : ∀ (ps acc : List (List Int × Addr × Value)), ((acc ++ ps).map (·.1)).Nodup → storedAllH acc ps = acc ++ ps
  | [], acc, _ => by simp [storedAllH]
  | p :: ps, acc, h => by
    have hn : atKey acc p.1 = none := by
      unfold atKey
      rw [Option.map_eq_none_iff, List.find?_eq_none]
      intro x hx e
      rw [List.map_append, List.map_cons] at h
      exact (List.nodup_append.mp h).2.2 x.1 (List.mem_map.mpr ⟨x, hx, rfl⟩) p.1 List.mem_cons_self (of_decide_eq_true e)
    have ih := stored_app ps (acc ++ [p]) (by simpa using h)
    unfold storedAllH at ih ⊢
    rw [List.foldl_cons, storedH_new hn]
    refine Eq.trans ?_ (ih.trans (by simp))
    rfl
section
variable {X : Cx} {pins : List (Addr × Obj)} {σ : L2.St} {H : Hp} {s : Shared}
/-- the call itself -/
theorem call_td {A : Around} {T : String} {a : Addr} {fp wr : List Addr} {n : Nat} {Rel : Nat → Value → Value → Prop} {OK : Heap → Prop} {E : Value → Shared → Prop} {Q : Value → Shared → Prop} (hh : A.handled = none) (hu : A.units + 66 < cLine) (P : PairArg X.prog X.w T a fp wr n Rel OK) (ok : OK s.heap) (es : List TdE)
    (hp : PairsHaveH (tupleKind (intKind X.prog X.w)) n Rel (es.map TdE.t)) (hk : ∀ e ∈ es, (tupleKind (intKind X.prog X.w)).is s.heap e.k e.a) (hw : ∀ e ∈ es, e.a ∉ wr) (nd : (es.map TdE.k).Nodup) (hn : n ≤ sizeLine)
    (q : ∀ h' tk, h'.DictOfH (tupleKind (intKind X.prog X.w)) s.heap.objs.size (es.map TdE.t) → (∀ b o, b ∉ wr → s.heap.get? b = some o → h'.get? b = some o) → Q (.ref s.heap.objs.size) { s with heap := h', toks := tk }) :
    wpAny (model X.prog X.w) A (call (.type "dict") [.ref a]) Q E s := by
  have nd2 : (((es.map TdE.t)).map (·.1)).Nodup := by rw [List.map_map]; exact nd
  refine call_dict_pairsH P hh (tupleKind_room_in1 (show A.in1.units + 1 < cLine by show A.units + 1 + 1 < cLine; omega)) ok hp (fun h' k x hx => ?_) hn fun h' tk m k => ?_
  · obtain ⟨e, he, rfl⟩ := List.mem_map.mp hx
    exact is_key_at (hk e he) fun o ho => k _ o (Nat.ne_of_lt (is_key_lt (hk e he))) (hw e he) ho
  · rw [stored_app _ [] (by simpa using nd2), List.nil_append] at m
    exact q h' tk m k
/-- the new dict is tracked -/
theorem td_laid (I : Inv X pins σ H s) {h' : Heap} {tk : Tok} {p : Addr} {es : List TdE} (k : ∀ b u, s.heap.get? b = some u → h'.get? b = some u) (hp : s.heap.objs.size ≤ p) (m : h'.DictOfH (tupleKind (intKind X.prog X.w)) p (es.map TdE.t)) : Inv X pins σ (upd H p (tdO p es)) { s with heap := h', toks := tk } := by
  obtain ⟨o, ar, ep, h1, h2, h3, h4, _⟩ := m
  refine I.laid k hp ⟨⟨o, ar, ep, h1, h2, h3, ?_⟩, ⟨o, h1⟩, fun g1 g2 ⟨o', ar', ep', e1, e2⟩ hg => ⟨o', ar', ep', hg _ e1, e2⟩⟩
  rw [h4, List.map_map]
  rfl
theorem td_fresh (I : Inv X pins σ H s) {p : Addr} (hp : s.heap.objs.size ≤ p) : (p == sysModules) = false := beq_eq_false_iff_ne.mpr (Nat.ne_of_gt (Nat.lt_of_lt_of_le I.big hp))
end
/-! ### the pairs -/
/-- keys and values -/
abbrev KD := List (List Int × PyData)
def kdD (l : KD) : List (PyData × PyData) := l.map fun p => (.tuple (p.1.map PyData.int), p.2)
def pairsOf : List PyData → Option KD
  | [] => some []
  | .tuple [k, d] :: ds => match keyI k, pairsOf ds with
    | some k, some l => some ((k, d) :: l)
    | _, _ => none
  | _ => none
def okKD (l : KD) : Bool := !l.isEmpty && decide (l.map (·.1)).Nodup && decide (l.length ≤ 16777216)
def tdOf (l : Option KD) : Option T := match l with
  | some l => if okKD l = true then some (.sh (.dict (kdD l))) else none
  | none => none
/-- dict(xs) -/
def bDict : List PyData → Option T
  | [.list ds] => tdOf (pairsOf ds)
  | _ => none
def zipKD : List PyData → List PyData → Option KD
  | k :: ks, d :: ds => match keyI k, zipKD ks ds with
    | some k, some l => some ((k, d) :: l)
    | _, _ => none
  | _, _ => some []
/-- dict(zip(xs, ys)) -/
def bDZ : List PyData → Option T
  | [x, y] => match seqOf x, seqOf y with
    | some ks, some ds => tdOf (zipKD ks ds)
    | _, _ => none
  | _ => none
/-- entries for keys and values -/
structure EsOk (K : PySem.W.Frag) (F : Hp) (l : KD) (es : List TdE) : Prop where
  td : RpTd K F (kdD l) es
  ks : es.map TdE.k = l.map (·.1)
theorem EsOk.nil {K : PySem.W.Frag} {F : Hp} : EsOk K F [] [] := ⟨by unfold kdD; rw [List.map_nil]; simp only [RpTd], rfl⟩
theorem EsOk.cons {K : PySem.W.Frag} {F : Hp} {l : KD} {es : List TdE} {k : List Int} {d : PyData} {a : Addr} {x : V} {v : Value} (h : SqT K F a (k.map V.int)) (r : L2.RelV x v) (q : Rp K F d x) (t : EsOk K F l es) : EsOk K F ((k, d) :: l) (⟨k, a, x, v⟩ :: es) := by
  refine ⟨?_, by rw [List.map_cons, List.map_cons, t.ks]⟩
  show RpTd K F ((.tuple (k.map PyData.int), d) :: kdD l) _
  simp only [RpTd]
  exact ⟨_, _, rfl, rfl, h, r, q, t.td⟩
theorem EsOk.len {K : PySem.W.Frag} {F : Hp} {l : KD} {es : List TdE} (t : EsOk K F l es) : es.length = l.length := by
  have := congrArg List.length t.ks
  rwa [List.length_map, List.length_map] at this
theorem EsOk.keys {K : PySem.W.Frag} {F : Hp} : ∀ {l : KD} {es : List TdE}, EsOk K F l es → ∀ e ∈ es, SqT K F e.a (e.k.map V.int)
  | [], es, t => by
    have e : es = [] := List.eq_nil_of_length_eq_zero t.len
    subst e
    simp
  | p :: l, es, t => by
    have h : RpTd K F ((.tuple (p.1.map PyData.int), p.2) :: kdD l) es := t.td
    simp only [RpTd] at h
    obtain ⟨e, es', rfl, _, hs, _, _, r⟩ := h
    intro x hx
    rcases List.mem_cons.mp hx with rfl | hx
    · exact hs
    · refine EsOk.keys (l := l) ⟨r, ?_⟩ x hx
      have := t.ks
      rw [List.map_cons, List.map_cons, List.cons.injEq] at this
      exact this.2
theorem okKD_iff {l : KD} : okKD l = true ↔ l ≠ [] ∧ (l.map (·.1)).Nodup ∧ l.length ≤ 16777216 := by
  unfold okKD
  rw [Bool.and_eq_true, Bool.and_eq_true, decide_eq_true_eq, decide_eq_true_eq, Bool.not_eq_true', List.isEmpty_eq_false_iff, and_assoc]
/-- a new dict, shared -/
theorem ResOk.td {K : PySem.W.Frag} {F H : Hp} {l : KD} {es : List TdE} {p : Addr} (fh : Same F H) (h : EsOk K F l es) (ok : okKD l = true) (hs : (p == sysModules) = false) (hp : H p = none) : ResOk K F H (.sh (.dict (kdD l))) (.ref p) (upd F p (tdO p es)) (upd H p (tdO p es)) [] := by
  have fp : F p = none := fh.free hp
  obtain ⟨o1, o2, o3⟩ := okKD_iff.mp ok
  refine ⟨?_, same_upd fp, fun b o e => ?_, same_upd hp, fun b hb => ?_, by simp, by simp⟩
  · simp only [RT, Rp]
    refine ⟨trivial, .inr ⟨p, es, rfl, hs, upd_same, by rw [h.ks]; exact o2, fun e => o1 ?_, h.td.mono (same_upd fp)⟩⟩
    unfold kdD at e
    exact List.map_eq_nil_iff.mp e
  · by_cases hb : b = p
    · subst hb; rw [upd_same] at e ⊢; exact e
    · rw [upd_ne hb] at e ⊢; exact fh b o e
  · have : b ≠ p := fun e => by subst e; exact hb hp
    rw [upd_ne this]
section
variable {X : Cx} {pins : List (Addr × Obj)} {σ : L2.St} {H : Hp} {s : Shared}
/-- a list of pairs in the heap -/
theorem pairs_in (I : Inv X pins σ H s) {F : Hp} (fh : Same F H) : ∀ {ds : List PyData} {xs : List V} {its : List Value} {l : KD}, pairsOf ds = some l → RpAll X.K F ds xs → Vals xs its →
    ∃ (es : List TdE) (ts : List Addr), EsOk X.K F l es ∧ its = ts.map Value.ref ∧ ts.length = es.length ∧ ∀ (j : Nat) (t : Addr) (e : TdE), ts[j]? = some t → es[j]? = some e → PairAt s.heap t (.ref e.a) e.v
  | [], xs, its, l, h, r, v => by
    cases h
    simp only [RpAll] at r
    subst r
    cases v
    exact ⟨[], [], .nil, rfl, rfl, by simp⟩
  | d :: ds, xs, its, l, h, r, v => by
    obtain ⟨k, d', rfl⟩ : ∃ k d', d = .tuple [k, d'] := by
      unfold pairsOf at h
      split at h
      · rename_i e; cases e
      · rename_i k d' ds' e; cases e; exact ⟨k, d', rfl⟩
      · cases h
    obtain ⟨x, xs', rfl, r1, r2⟩ := r.uncons
    have h : (match keyI k, pairsOf ds with | some k, some l => some ((k, d') :: l) | _, _ => none) = some l := h
    cases hk : keyI k with
    | none => rw [hk] at h; cases h
    | some ks =>
      cases hl : pairsOf ds with
      | none => rw [hk, hl] at h; cases h
      | some l' =>
        rw [hk, hl] at h
        cases h
        cases v with
        | cons v1 v2 =>
          obtain ⟨es, ts, i1, i2, i3, i4⟩ := pairs_in I fh hl r2 v2
          simp only [Rp] at r1
          obtain ⟨p, ys, rfl, q, w⟩ := r1
          cases v1
          obtain ⟨y1, ys1, rfl, w1, w2⟩ := w.uncons
          obtain ⟨y2, ys2, rfl, w3, w4⟩ := w2.uncons
          simp only [RpAll] at w4
          subst w4
          obtain ⟨kk, rfl, hk2⟩ := keyI_tup hk
          obtain ⟨b, rfl, sq⟩ := rq_keyI (H := H) (.inl w1) hk2
          obtain ⟨its2, vv, tt, _⟩ := I.tuple (sqT_mono fh q)
          cases vv with
          | cons u1 u2 =>
            cases u2 with
            | cons u3 u4 =>
              cases u4
              cases u1
              rename_i z
              refine ⟨⟨ks, b, y2, z⟩ :: es, p :: ts, .cons sq u3 w3 i1, by rw [List.map_cons, i2], by rw [List.length_cons, List.length_cons, i3], fun j t e ht he => ?_⟩
              cases j with
              | zero =>
                simp only [List.getElem?_cons_zero, Option.some.injEq] at ht he
                subst ht he
                exact .inl tt
              | succ j => exact i4 j t e (by simpa using ht) (by simpa using he)
theorem bDict_ok (g : Good X) : CallD X (.type "dict") bDict := by
  intro pins s σ H xs us Q I r ⟨F, ds, t, fh, rq, eq, k⟩
  unfold bDict at eq
  split at eq
  · rename_i ds
    unfold tdOf at eq
    split at eq
    · rename_i l hl
      split at eq
      · rename_i ok
        cases eq
        obtain ⟨v, rfl, r1⟩ := rq.one
        obtain ⟨a, xs, rfl, q, rp⟩ := rq_list fh r1
        obtain ⟨u, eu, rx⟩ := vals1 r
        subst eu
        cases rx
        obtain ⟨F2, rp2, fh2, hF⟩ : ∃ F2, RpAll X.K F2 ds xs ∧ Same F2 H ∧ F2 = F := ⟨F, rp, fh, rfl⟩
        obtain ⟨its, rv, pl, hz⟩ := I.list q
        obtain ⟨es, ts, i1, i2, i3, i4⟩ := pairs_in I fh hl rp rv
        obtain ⟨o1, o2, o3⟩ := okKD_iff.mp ok
        obtain ⟨o, n, ho, hc, hd, hdat⟩ := pl
        have hel := i1.len
        refine call_td (I.ok.hd g.calm) g.room (PairArg.list a its.toArray (fun j => ts.getD j 0) (es.map fun e => (Value.ref e.a, e.v))) ⟨⟨o, n, ho, hc, hd, hdat⟩, ?_, fun j k v hj => ?_⟩ es ⟨by simp, fun i key v hv => ?_⟩ (fun e he => td_key I (sqT_mono fh (i1.keys e he))) (fun e he => by simp) (by rw [i1.ks]; exact o2) (by rw [List.length_map, PySem.sizeLine_eq]; omega) fun h' tk m kk => ?_
        · rw [i2]; simp [i3]
        · rw [List.getElem?_map] at hj
          obtain ⟨e, he, ee⟩ := Option.map_eq_some_iff.mp hj
          cases ee
          have hj2 : j < ts.length := by rw [i3]; exact (List.getElem?_eq_some_iff.mp he).1
          refine ⟨?_, ?_⟩
          · rw [i2]
            simp [hj2]
          · have := i4 j ts[j] e (List.getElem?_eq_getElem hj2) he
            simpa [hj2] using this
        · have hv : (es.map fun e => (Value.ref e.a, e.v))[i]? = some (key, v) := hv
          rw [List.getElem?_map] at hv
          obtain ⟨e, he, ee⟩ := Option.map_eq_some_iff.mp hv
          cases ee
          exact ⟨e.k, e.a, by rw [List.getElem?_map, he]; rfl, rfl⟩
        · refine ⟨.ref s.heap.objs.size, _, td_laid I (fun b u e => kk b u (by simp) e) (Nat.le_refl _) m, rfl, ?_⟩
          exact k _ _ _ [] (ResOk.td fh i1 ok (td_fresh I (Nat.le_refl _)) (I.hok.fresh (Nat.le_refl _)))
      · cases eq
    · cases eq
  · cases eq
theorem not_five {N b : Nat} (h : b < N) : b ∉ [N + 4, N + 3, N, N + 1] := by
  simp only [List.mem_cons, List.not_mem_nil, or_false]
  omega
/-- two walked things side by side: their pairs -/
theorem zip_in {s : Shared} (I : Inv X pins σ H s) {F : Hp} (fh : Same F H) : ∀ {ks ds : List PyData} {xs ys : List V} {ix iy : List Value} {l : KD}, zipKD ks ds = some l → RpAll X.K F ks xs → RpAll X.K F ds ys → Vals xs ix → Vals ys iy →
    ∃ es : List TdE, EsOk X.K F l es ∧ es.length = min ix.length iy.length ∧ ∀ (j : Nat) (k v : Value), ix[j]? = some k → iy[j]? = some v → ∃ e : TdE, es[j]? = some e ∧ k = .ref e.a ∧ v = e.v
  | [], ds, xs, ys, ix, iy, l, h, r1, r2, v1, v2 => by
    cases h
    simp only [RpAll] at r1
    subst r1
    cases v1
    exact ⟨[], .nil, by simp, by simp⟩
  | k :: ks, [], xs, ys, ix, iy, l, h, r1, r2, v1, v2 => by
    cases h
    simp only [RpAll] at r2
    subst r2
    cases v2
    exact ⟨[], .nil, by simp, by simp⟩
  | k :: ks, d :: ds, xs, ys, ix, iy, l, h, r1, r2, v1, v2 => by
    obtain ⟨x, xs', rfl, p1, p2⟩ := r1.uncons
    obtain ⟨y, ys', rfl, p3, p4⟩ := r2.uncons
    have h : (match keyI k, zipKD ks ds with | some k, some l => some ((k, d) :: l) | _, _ => none) = some l := h
    cases hk : keyI k with
    | none => rw [hk] at h; cases h
    | some kk =>
      cases hl : zipKD ks ds with
      | none => rw [hk, hl] at h; cases h
      | some l' =>
        rw [hk, hl] at h
        cases h
        obtain ⟨k0, rfl, hk2⟩ := keyI_tup hk
        obtain ⟨b, rfl, sq⟩ := rq_keyI (H := H) (.inl p1) hk2
        cases v1 with
        | cons u1 t1 =>
          cases v2 with
          | cons u2 t2 =>
            obtain ⟨es, i1, i2, i3⟩ := zip_in I fh hl p2 p4 t1 t2
            cases u1
            rename_i z _
            refine ⟨⟨kk, b, y, z⟩ :: es, .cons sq u2 p3 i1, by simp [i2], fun j k v hj hv => ?_⟩
            cases j with
            | zero =>
              simp only [List.getElem?_cons_zero, Option.some.injEq] at hj hv
              subst hj hv
              exact ⟨_, rfl, rfl, rfl⟩
            | succ j =>
              obtain ⟨e, h1, h2, h3⟩ := i3 j k v (by simpa using hj) (by simpa using hv)
              exact ⟨e, by simpa using h1, h2, h3⟩
def tDZ (K : PySem.W.Frag) (ta : TA) : TE := fun σ H Q => ta σ H fun vs H1 => ∃ F k1 k2 a b ks ds l xs ys, vs = [.ref a, .ref b] ∧ Same F H1 ∧ SqW k1 K F a xs ∧ SqW k2 K F b ys ∧ RpAll K F ks xs ∧ RpAll K F ds ys ∧ zipKD ks ds = some l ∧ okKD l = true ∧
  ∀ p es, EsOk K F l es → (p == sysModules) = false → H1 p = none → Q (.ref p) (upd H1 p (tdO p es))
theorem SrcAt.lt {k : Bool} {h : Heap} {l : Addr} {xs : Array Value} (x : SrcAt k h l xs) : l < h.objs.size := let ⟨_, e⟩ := x.there; Heap.lt_size e
theorem zip_len : ∀ {ks ds : List PyData} {l : KD}, zipKD ks ds = some l → l.length = min ks.length ds.length
  | [], ds, l, h => by cases h; simp
  | k :: ks, [], l, h => by cases h; simp
  | k :: ks, d :: ds, l, h => by
    have h : (match keyI k, zipKD ks ds with | some k, some l => some ((k, d) :: l) | _, _ => none) = some l := h
    cases hk : keyI k with
    | none => rw [hk] at h; cases h
    | some kk =>
      cases hl : zipKD ks ds with
      | none => rw [hk, hl] at h; cases h
      | some l' =>
        rw [hk, hl] at h
        cases h
        have := zip_len hl
        simp only [List.length_cons]
        omega
/-- dict(zip(x, y)) -/
theorem pe_dz {e e2 : Expr} {ta : TA} {p p2 pos pos2 : Pos} (g : Good X) (hd : Gl X "dict") (hmd : X.mg "dict" = none) (hz : Gl X "zip") (hmz : X.mg "zip" = none) (ha : PA X [e, e2] ta)
    (hs : starEach [e, e2] X.env = (false, eval e X.env) :: starEach [e2] X.env := by rfl) (hpl : (backTo pos2 (starEach [e2] X.env)).any (·.1) = false := by rfl)
    (na : starEach [Expr.Call (.Name "zip" p2) [e, e2] [] pos2] X.env = (false, eval (Expr.Call (.Name "zip" p2) [e, e2] [] pos2) X.env) :: starEach [] X.env := by rfl) :
    PE X (.Call (.Name "dict" p) [.Call (.Name "zip" p2) [e, e2] [] pos2] [] pos) (tDZ X.K ta) := by
  refine ⟨fun pins s σ H Q I h => ?_⟩
  refine Call_ (ld_blt I hd hmd PyProof.Rows.boot_dict (PyProof.Rows.callWith_type1 (args_cons ?_ na) na))
  refine Call_ (ld_blt I hz hmz PyProof.Rows.boot_zip (PyProof.Rows.callWith_type1 (thn (ha.run pos2 pins s σ H _ I h) fun us s1 ⟨vs, H1, I1, r1, q1⟩ => ?_) hs hpl))
  obtain ⟨F, k1, k2, a, b, ks, ds, l, xs, ys, ex, fh, hqx, hqy, rx, ry, hl, ok, q⟩ := q1
  subst ex
  cases r1 with
  | cons r rr =>
    cases rr with
    | cons r' rr =>
      cases rr
      cases r
      cases r'
      obtain ⟨its, rv, p1, lt1⟩ := sqW_src I1 (sqW_mono fh hqx)
      obtain ⟨its2, rv2, p2', lt2⟩ := sqW_src I1 (sqW_mono fh hqy)
      obtain ⟨es, i1, i2, i3⟩ := zip_in I1 fh hl rx ry rv rv2
      obtain ⟨o1, o2, o3⟩ := okKD_iff.mp ok
      refine call_mz p1 p2' fun h' hz hTI hTO h1 h2 hk => ?_
      refine args_nil ?_
      have D := PySem.W.ktu_apart s1.heap.objs.size a b lt1 lt2
      have hkey : ∀ e ∈ es, (tupleKind (intKind X.prog X.w)).is s1.heap e.k e.a := fun e he => td_key I1 (sqT_mono fh (i1.keys e he))
      refine call_td (s := { s1 with heap := h' }) (I1.ok.hd g.calm) g.room (pairZ k1 k2 (s1.heap.objs.size + 4) (s1.heap.objs.size + 2) (s1.heap.objs.size + 3) s1.heap.objs.size (s1.heap.objs.size + 1) a b D its.toArray its2.toArray) ⟨⟨hz, _, _, hTO⟩, hTI, h1, h2, p1.moved fun o => hk _ o, p2'.moved fun o => hk _ o⟩ es ⟨?_, fun i key v hv => ?_⟩ (fun e he => is_key_at (hkey e he) fun o => hk _ o) (fun e he hm => ?_) (by rw [i1.ks]; exact o2) ?_ fun h2' tk m kk => ?_
      · rw [List.length_map, i2]; simp
      · obtain ⟨e, e1, e2, e3⟩ := i3 i key v (by simpa using hv.1) (by simpa using hv.2)
        exact ⟨e.k, e.a, by rw [List.getElem?_map, e1, e3]; rfl, e2⟩
      · exact not_five (is_key_lt (hkey e he)) hm
      · have hzl : l.length = min ks.length ds.length := zip_len hl
        have e1 : xs.length = ks.length := rx.len
        have e2 : ys.length = ds.length := ry.len
        have e3 : xs.length = its.length := rv.length
        have e4 : ys.length = its2.length := rv2.length
        rw [PySem.sizeLine_eq]
        show min its.toArray.size its2.toArray.size ≤ 16777216
        rw [List.size_toArray, List.size_toArray, ← e3, ← e4, e1, e2, ← hzl]
        exact o3
      · have hsz : s1.heap.objs.size ≤ h'.objs.size := by
          have : s1.heap.objs.size + 4 < h'.objs.size := Heap.lt_size hz
          exact Nat.le_trans (Nat.le_add_right _ 4) (Nat.le_of_lt this)
        have kk2 : ∀ b u, s1.heap.get? b = some u → h2'.get? b = some u := fun b u e => kk b u (fun hm => by
          exact not_five (Heap.lt_size e) hm) (hk b u e)
        exact ⟨.ref h'.objs.size, _, td_laid I1 kk2 hsz m, rfl, q _ es i1 (td_fresh I1 hsz) (I1.hok.fresh hsz)⟩
theorem pd_dz {C : Cn} {e : Expr} {ga : FA} (hK : C.K = X.K) (h : PE X e (tDZ X.K (tA C ga))) : PE X e (tD C (eCall bDZ ga)) := by
  rw [← hK] at h
  refine h.impD fun σ H Q ⟨η, F, fp, o, q⟩ => ?_
  refine tA_step o.aft (Rs.post_mono (Rs.post_bind q) (fun p hp x F1 H1 f1 fp1 a => ?_) fun _ _ z => z)
  obtain ⟨F3, t, s, r, eq, k⟩ := fin_res a hp
  unfold bDZ at eq
  split at eq
  · rename_i dx dy e0
    rw [List.nil_append, List.nil_append, e0] at r
    split at eq
    · rename_i ks ds e1 e2
      unfold tdOf at eq
      split at eq
      · rename_i l hl
        split at eq
        · rename_i ok
          cases eq
          obtain ⟨x1, xs1, rfl, r1, r2⟩ := r.uncons
          obtain ⟨x2, xs2, rfl, r3, r4⟩ := r2.uncons
          simp only [RpAll] at r4
          subst r4
          obtain ⟨k1, p', xs, rfl, q1, w⟩ := rp_sqW e1 r1
          obtain ⟨k2, p2', ys, rfl, q2, w2⟩ := rp_sqW e2 r3
          exact ⟨F3, k1, k2, p', p2', ks, ds, l, xs, ys, rfl, s.fh, q1, q2, w, w2, hl, ok, fun p es i hb hp => k _ _ _ [] (ResOk.td s.fh i ok hb hp)⟩
        · cases eq
      · cases eq
    · cases eq
  · cases eq
end
end Pv
set_option Elab.async false
set_option linter.all false
set_option maxRecDepth 100000
set_option maxHeartbeats 4000000
/-! a, b, c = x, y, z with plain local names: stored from the right -/
namespace Pv
open PySem L2 PySem.Spec PyProof.Rows
def tPar3 (i j k : Nat) (ta : TA) : TS := fun D σ H => ta σ H fun vs G => ∃ u v w, vs = [u, v, w] ∧ D.nx (((σ.set i (some u)).set j (some v)).set k (some w)) G
section
variable {X : Cx} {C : Cn} {io : List Nat}
theorem ps_parT {i j k : Nat} {x y z : Str} {a b c : Expr} {ta : TA} {px py pz pt pos : Pos} {kt k2 pt2} (hc : X.calm = true) (hN : X.N.Nodup) (hi : X.N[i]? = some x) (hj : X.N[j]? = some y) (hk : X.N[k]? = some z) (dij : i ≠ j) (dik : i ≠ k) (djk : j ≠ k)
    (hx : X.env.scope.names.lookup x = some .local) (hy : X.env.scope.names.lookup y = some .local) (hz : X.env.scope.names.lookup z = some .local) (ha : PA X [a, b, c] ta)
    (hw : swappedStores [.Tuple [.Name x px, .Name y py, .Name z pz] kt pt] (.Tuple [a, b, c] k2 pt2) X.env = pure (some [x, y, z]))
    (hs : swapsWithSole [.Tuple [.Name x px, .Name y py, .Name z pz] kt pt] (.Tuple [a, b, c] k2 pt2) pos.line X.env = pure false := by rfl) :
    PS X (.Assign [.Tuple [.Name x px, .Name y py, .Name z pz] kt pt] (.Tuple [a, b, c] k2 pt2) pos) (tPar3 i j k ta) := by
  constructor
  intro pins s σ H D I h
  rw [exec_Assign_arm]
  refine wpAny_bind (wpAny_standAt (?_ : wpAny _ _ _ _ _ s))
  rw [hs]
  refine wpAny_bind (wpAny_pure (?_ : wpAny _ _ _ _ _ s))
  rw [if_neg (by decide)]
  refine wpAny_bind (Tuple_ (thn (ha.run _ pins s σ H _ I h) fun us s1 ⟨vs, G, I1, r1, u, v, w, e1, q1⟩ => ?_))
  subst e1
  obtain ⟨w1, w2, w3, rfl, ru, rv, rw'⟩ : ∃ w1 w2 w3, us = [w1, w2, w3] ∧ RelV u w1 ∧ RelV v w2 ∧ RelV w w3 := by
    cases r1 with
    | cons p q => cases q with
      | cons p' q' => cases q' with
        | cons p2 q2 => cases q2; exact ⟨_, _, _, rfl, p, p', p2⟩
  refine wpAny_newObj_type (?_ : _) (by show 3 ≤ sizeLine; decide)
  have I2 : Inv X pins σ G { s1 with heap := s1.heap.push { cls := .type "tuple", data := .seq [w1, w2, w3].toArray } } := I1.kept (t' := s1.toks) fun b o e => Heap.get?_push_of_some _ e
  rw [hw]
  refine wpAny_bind (wpAny_pure (?_ : wpAny _ _ _ _ _ _))
  show wpAny (model X.prog X.w) X.A (do rule "assign.swapped-stores"; let items ← unpackItems (.ref s1.heap.objs.size) 3 none; assignInOrder [fun v => bindName X.env z v, fun v => bindName X.env y v, fun v => bindName X.env x v] items.reverse; pure Flow.next) _ _ _
  refine wpAny_bind (wpAny_rule (wpAny_bind (unpackItems_tuple (items := #[w1, w2, w3]) (I.ok.hd hc) (IsTup.new s1.heap _) fun g hg => ?_)))
  have I3 := I2.kept (h' := g) (t' := s1.toks) fun b o e => hg b o (Nat.ne_of_lt (Heap.lt_size e)) e
  show wpAny _ _ (assignInOrder [fun v => bindName X.env z v, fun v => bindName X.env y v, fun v => bindName X.env x v] [w3, w2, w1] >>= fun _ => pure Flow.next) _ _ _
  refine wpAny_bind (assignInOrder_cons (wpAny_bindName (store_ok I3 hN hk (.inl hz) rw' (fun s2 I4 => assignInOrder_cons (wpAny_bindName (store_ok I4 hN hj (.inl hy) rv (fun s3 I5 => assignInOrder_cons (wpAny_bindName (store_ok I5 hN hi (.inl hx) ru (fun s4 I6 => assignInOrder_nil (wpAny_pure ?_)) (.inr hx)))) (.inr hy)))) (.inr hz))))
  refine ⟨_, G, I6, ?_⟩
  have e : ((σ.set k (some w)).set j (some v)).set i (some u) = ((σ.set i (some u)).set j (some v)).set k (some w) := by
    rw [List.set_comm _ _ (Ne.symm djk), List.set_comm _ _ (Ne.symm dik), List.set_comm _ _ (Ne.symm dij)]
  rw [e]
  exact q1
def sPar3 (i j k : Nat) (g : FA) : FS := fun η => (g η).bind fun p => match p.1 with
  | [t, u, v] => .ok (.nx, ((p.2.set i (some t)).set j (some u)).set k (some v))
  | _ => .bad
theorem psd_par3 {st : Stmt} {i j k : Nat} {g : FA} (h1 : i ∉ io) (h2 : j ∉ io) (h3 : k ∉ io) (p : PS X st (tPar3 i j k (tA C g))) : PS X st (tS C io (sPar3 i j k g)) := by
  refine p.impD fun D σ H ⟨η, F, fp, o, q⟩ => ?_
  refine tA_step o.aft (Rs.post_mono (Rs.post_bind q) (fun p hp ws F1 H1 f1 fp1 a => ?_) fun _ _ z => z.xp)
  have a : Aft C.K fp F H σ p.1 ws p.2 F1 H1 f1 fp1 := a
  split at hp
  · rename_i t u v e
    rw [e] at a
    have hl := a.rt.len
    match ws, hl with
    | [x, y, z], _ =>
      refine ⟨x, y, z, rfl, ?_⟩
      obtain ⟨f2, fp2, b⟩ := a.putR i
      obtain ⟨f3, fp3, c⟩ := b.putR j
      obtain ⟨f4, fp4, d⟩ := c.putR k
      have hf : f4 = [] := by have := d.rt; simp only [RTs] at this; exact this.2
      subst hf
      refine hp _ F1 H1 fp4 d fun m hm => ?_
      have n1 : i ≠ m := fun e => h1 (e ▸ hm)
      have n2 : j ≠ m := fun e => h2 (e ▸ hm)
      have n3 : k ≠ m := fun e => h3 (e ▸ hm)
      rw [List.getElem?_set_ne n3, List.getElem?_set_ne n2, List.getElem?_set_ne n1]
  · exact hp.elim
end
end Pv
set_option Elab.async false
set_option linter.all false
set_option maxRecDepth 100000
set_option maxHeartbeats 4000000
namespace Pv
open PySem L2 PyProof.Rows
/-! ### a def's meaning, by its body's -/
def gP (N n : Nat) (fb : FS) (ds : List PyData) : Option T := if ds.length = n then (retOf (fb (startE N (ds.map T.sh)))).map (·.1) else none
theorem gP_len {N n : Nat} {fb : FS} {ds : List PyData} {t : T} (h : gP N n fb ds = some t) : ds.length = n := by
  unfold gP at h
  split at h
  · assumption
  · cases h
def gIO (N n : Nat) (fb : FS) (t0 : T) (ds : List PyData) : Option (T × T) := if ds.length + 1 = n then match retOf (fb (startE N (t0 :: ds.map T.sh))) with
    | some (t, η) => match η[0]? with
      | some (some t1) => some (t, t1)
      | _ => none
    | none => none
  else none
theorem gIO_len {N n : Nat} {fb : FS} {t0 : T} {ds : List PyData} {r : T × T} (h : gIO N n fb t0 ds = some r) : ds.length + 1 = n := by
  unfold gIO at h
  split at h
  · assumption
  · cases h
theorem pe_gty {X : Cx} {x : Str} {n : String} {pos : Pos} (hg : Gl X x) (hm : X.mg x = none) (hv : bootBuiltins x = some (.type n)) (hn : x ≠ "__name__" := by decide) (hd : (x == ("__debug__" : Str)) = false := by decide) : PE X (.Name x pos) (tC (.ty n)) :=
  ⟨fun pins s σ H Q I h => ld_blt I hg hm hv ⟨.ty n, H, I, rfl, h⟩ hn hd⟩
structure Tp (fa : List He.Fa) (fn : List He.DefD) (K : PySem.W.Frag) (mg : Str → Option Value) : Prop where
  h : ∃ h : Heap, K.In h ∧ h.Ns mainGlobals mg
  c : He.SaysD fa fn K
section
variable {fa : List He.Fa} {fn : List He.DefD} {K : PySem.W.Frag} {mg : Str → Option Value}
theorem Tp.glo (T : Tp fa fn K mg) (i : Nat) {x : Str} (h : fa[i]? = some (.glo x) := by rfl) : mg x = some (.ref (He.ga K x)) := by
  obtain ⟨_, X, G⟩ := T.h
  exact He.glo_ok X G (T.c.fact i h)
theorem Tp.free (T : Tp fa fn K mg) (i : Nat) {x : Str} (h : fa[i]? = some (.free x) := by rfl) : mg x = none := by
  obtain ⟨_, X, G⟩ := T.h
  exact He.free_ok X G (T.c.fact i h)
theorem Tp.int (T : Tp fa fn K mg) (i : Nat) {x : Str} {z : Int} (h : fa[i]? = some (.int x z) := by rfl) : ∃ t, mg x = some (.int z t) := by
  obtain ⟨_, X, G⟩ := T.h
  exact He.int_ok X G (T.c.fact i h)
theorem Tp.str (T : Tp fa fn K mg) (i : Nat) {x z : Str} (h : fa[i]? = some (.str x z) := by rfl) : ∃ t, mg x = some (.str z t) := by
  obtain ⟨_, X, G⟩ := T.h
  exact He.str_ok X G (T.c.fact i h)
end
theorem nomore {ps : List Str} {vs : List Str} (h : ps = vs) : ps = vs := h
section
variable {P : Program} {w : World} {K : PySem.W.Frag} {mg : Str → Option Value} {base : Heap}
theorem fd_inj {x x' q q' : Str} {p p' : Arguments} {b b' : List Stmt} {sc sc' : Scope} {dv dv' : List V} {kw kw' : List (Str × V)} {f : Addr} {fd fd' : FuncData} (F : FunD K x q p b sc dv kw f fd) (F' : FunD K x' q' p' b' sc' dv' kw' f fd') : fd = fd' := by
  obtain ⟨_, _, _, _, _, _, _, _, _, _, _, l, _⟩ := F.ex
  obtain ⟨_, _, _, _, _, _, _, _, _, _, _, l', _⟩ := F'.ex
  rw [l] at l'
  cases l'
  rfl
/-- what a def is and keeps -/
structure Has (P : Program) (w : World) (K : PySem.W.Frag) (mg : Str → Option Value) (base : Heap) (d : He.DefD) (ps : List Str) (lvl : Nat) (sp : Sp) (fd : FuncData) : Prop where
  F : FunD K d.name d.qual d.params d.body d.scope [] [] (He.fAd K d.at_) fd
  b : Binds K fd ps []
  ok : FnG P w K mg base lvl (He.fAd K d.at_) fd ps sp
variable {x qual : Str} {params : Arguments} {bd : List Stmt} {scope : Scope} {f : Addr} {fd : FuncData} {N ps : List Str} {k n : Nat} {fb : FS}
/-- THE RULE for a def of plain data -/
theorem def_okG {G : List PyData → Option T} (F : FunD K x qual params bd scope [] [] f fd) (S : FnScope N ps scope) (hp : ps.length = n)
    (body : ∀ (cdv : Value) (A : Around) (outer : List PySem.Env) (s : Shared) (H : Hp) (E : XK), Room k (A.deeper (envOfC qual scope s.heap.objs.size f cdv)) → (A.deeper (envOfC qual scope s.heap.objs.size f cdv)).guards = some [] → PSs (cxOf CX0 P w K mg base N qual scope f cdv A outer s H E).nox bd (tS (cnN K) [] fb))
    (hG : ∀ ds t, ds.length = n → G ds = some t → (retOf (fb (startE N.length (ds.map T.sh)))).map (·.1) = some t) : FnG P w K mg base (k + 1) f fd ps (spP K n G) := by
  refine fnG_of F S (fun vs H Q E h => ?_) fun cdv A outer s H vs Q E hr hgd h => ?_
  · obtain ⟨F, ds, t, _, rp, hl, _⟩ := h
    rw [rp.len, hl, hp]
  · obtain ⟨F0, ds, t, fh, rp, hl, hg, res⟩ := h
    refine ⟨_, PSs.nox (body cdv A outer s H E hr hgd), ?_⟩
    have hrun := hG ds t hl hg
    have o : Ok K F0 H (startE N.length (ds.map T.sh)) (L2.start N vs) [] := ⟨start_ok (RTs.of_sh rp), List.nodup_nil, by simp, fh⟩
    refine tS_def.mpr ⟨_, F0, [], o, ?_⟩
    unfold retOf at hrun
    split at hrun
    · rename_i t' η' e
      rw [e]
      have ht : t' = t := by simpa using hrun
      subst ht
      show ∀ v σ' F' H' f1 fp', Aft K [] F0 H σ' [t'] [v] η' F' H' f1 fp' → IO [] (L2.start N vs) σ' → Q v H'
      intro v σ' F' H' f1 fp' a _
      exact res v F' H' f1 ⟨a.rt1, a.ext.ff, a.fh, fun b o e => a.ext.keep b o e (by simp), fun b hb => a.ext.new b hb (by simp), (List.nodup_append.mp a.nd).1, fun b hb => ⟨(a.sub b (by simp [hb])).resolve_left (by simp), a.fn b (by simp [hb])⟩⟩
    · rename_i η' e
      rw [e]
      have ht : T.sh .none = t := by simpa using hrun
      subst ht
      show ∀ σ' F' H' fp', Aft K [] F0 H σ' [] [] η' F' H' [] fp' → IO [] (L2.start N vs) σ' → Q .non H'
      intro σ' F' H' fp' a _
      exact res .non F' H' [] ⟨by simp only [RT, Rp]; exact ⟨trivial, trivial⟩, a.ext.ff, a.fh, fun b o e => a.ext.keep b o e (by simp), fun b hb => a.ext.new b hb (by simp), by simp, by simp⟩
    · simp at hrun
/-- THE RULE for a def that changes its first argument -/
theorem def_okGIO {G : T → List PyData → Option (T × T)} (F : FunD K x qual params bd scope [] [] f fd) (S : FnScope N ps scope) (hp : ps.length = n)
    (body : ∀ (cdv : Value) (A : Around) (outer : List PySem.Env) (s : Shared) (H : Hp) (E : XK), Room k (A.deeper (envOfC qual scope s.heap.objs.size f cdv)) → (A.deeper (envOfC qual scope s.heap.objs.size f cdv)).guards = some [] → PSs (cxOf CX0 P w K mg base N qual scope f cdv A outer s H E).nox bd (tS (cnN K) [0] fb))
    (hG : ∀ t0 ds t t1, ds.length + 1 = n → G t0 ds = some (t, t1) → ∃ η', retOf (fb (startE N.length (t0 :: ds.map T.sh))) = some (t, η') ∧ η'[0]? = some (some t1)) : FnG P w K mg base (k + 1) f fd ps (spIO K n G) := by
  refine fnG_of F S (fun vs H Q E h => ?_) fun cdv A outer s H vs Q E hr hgd h => ?_
  · obtain ⟨F, ds, t0, v0, ws, f, t, t1, rfl, _, _, _, _, rp, hl, _⟩ := h
    rw [List.length_cons, rp.len, hl, hp]
  · obtain ⟨F0, ds, t0, v0, ws, f0, t, t1, rfl, rt0, nd0, fn0, fh, rp, hl, hg, res⟩ := h
    refine ⟨_, PSs.nox (body cdv A outer s H E hr hgd), ?_⟩
    obtain ⟨η', hrun, h0⟩ := hG t0 ds t t1 hl hg
    have rts : RTs K F0 H (t0 :: ds.map T.sh) (v0 :: ws) f0 := by
      simp only [RTs]
      exact ⟨v0, ws, f0, [], rfl, by simp, rt0, RTs.of_sh rp⟩
    have o : Ok K F0 H (startE N.length (t0 :: ds.map T.sh)) (L2.start N (v0 :: ws)) f0 := ⟨start_ok rts, nd0, fn0, fh⟩
    refine tS_def.mpr ⟨_, F0, f0, o, ?_⟩
    have fin : ∀ v σ' F' H' f1 fp', Aft K f0 F0 H σ' [t] [v] η' F' H' f1 fp' → IO [0] (L2.start N (v0 :: ws)) σ' → Q v H' := by
      intro v σ' F' H' f1 fp' a hio
      have hi : 0 < η'.length := (List.getElem?_eq_some_iff.mp h0).1
      obtain ⟨s0, h, r, h1, h2, h3, h4⟩ := a.rs.focus hi
      obtain ⟨v1, rfl, rt1⟩ := h3 _ h0
      have hv : v1 = v0 := by
        have := hio 0 (by simp)
        rw [h1] at this
        simpa [L2.start] using this
      subst hv
      have mem : ∀ z ∈ h, z ∈ fp' := fun z hz => h2.mem_iff.mpr (List.mem_append.mpr (.inl hz))
      refine res v F' H' f1 h a.rt1 rt1 ?_ (fun z hz => ?_) a.fh a.ext fun z hz => ?_
      · have n1 := List.nodup_append.mp a.nd
        exact List.nodup_append.mpr ⟨n1.1, (List.nodup_append.mp (h2.nodup_iff.mp n1.2.1)).1, fun x hx y hy e => n1.2.2 x hx y (mem y hy) e⟩
      · rcases List.mem_append.mp hz with hz | hz
        · exact a.fn z (by simp [hz])
        · exact a.fn z (by simp [mem z hz])
      · rcases List.mem_append.mp hz with hz | hz
        · exact a.sub z (by simp [hz])
        · exact a.sub z (by simp [mem z hz])
    unfold retOf at hrun
    split at hrun
    · rename_i t' η2 e
      rw [e]
      cases hrun
      exact fin
    · rename_i η2 e
      rw [e]
      cases hrun
      show ∀ σ' F' H' fp', Aft K f0 F0 H σ' [] [] η' F' H' [] fp' → IO [0] (L2.start N (v0 :: ws)) σ' → Q .non H'
      intro σ' F' H' fp' a hio
      exact fin .non σ' F' H' [] fp' (a.res (.here a.fh rp_c.2.2.2)) hio
    · cases hrun

theorem def_ok (F : FunD K x qual params bd scope [] [] f fd) (S : FnScope N ps scope) (hp : ps.length = n)
    (body : ∀ (cdv : Value) (A : Around) (outer : List PySem.Env) (s : Shared) (H : Hp) (E : XK), Room k (A.deeper (envOfC qual scope s.heap.objs.size f cdv)) → (A.deeper (envOfC qual scope s.heap.objs.size f cdv)).guards = some [] → PSs (cxOf CX0 P w K mg base N qual scope f cdv A outer s H E).nox bd (tS (cnN K) [] fb)) : FnG P w K mg base (k + 1) f fd ps (spP K n (gP N.length n fb)) :=
  def_okG F S hp body fun ds t hl h => by
    unfold gP at h
    rw [if_pos hl] at h
    exact h
theorem def_okIO (F : FunD K x qual params bd scope [] [] f fd) (S : FnScope N ps scope) (hp : ps.length = n)
    (body : ∀ (cdv : Value) (A : Around) (outer : List PySem.Env) (s : Shared) (H : Hp) (E : XK), Room k (A.deeper (envOfC qual scope s.heap.objs.size f cdv)) → (A.deeper (envOfC qual scope s.heap.objs.size f cdv)).guards = some [] → PSs (cxOf CX0 P w K mg base N qual scope f cdv A outer s H E).nox bd (tS (cnN K) [0] fb)) : FnG P w K mg base (k + 1) f fd ps (spIO K n (gIO N.length n fb)) :=
  def_okGIO F S hp body fun t0 ds t t1 hl h => by
    unfold gIO at h
    rw [if_pos hl] at h
    split at h
    · rename_i t' η e
      split at h
      · rename_i t1' e2
        cases h
        exact ⟨η, e, e2⟩
      · cases h
    · cases h
/-- nothing can be asked of a def whose meaning is empty -/
theorem none_ok {ps : List Str} {n : Nat} {G : List PyData → Option T} {k : Nat} (h : ∀ ds, G ds = none) : FnG P w K mg base k f fd ps (spP K n G) := by
  have no : ∀ vs H Q E, ¬ spP K n G vs H Q E := fun vs H Q E h2 => by
    obtain ⟨F, ds, t, _, _, _, e, _⟩ := h2
    rw [h] at e
    cases e
  exact ⟨fun vs H Q E h => absurd h (no vs H Q E), fun A outer s H args us vs Q E _ _ _ _ _ h => absurd h (no vs H Q E)⟩
theorem good_u {A : Around} {k : Nat} (hr : Room (k + 1) A) : A.units + 66 < cLine := by
  have := hr.un
  omega
/-! ### the law: a list of at most 63 ints -/
theorem law_sp {K : PySem.W.Frag} {G : List PyData → Option T} (hG : ∀ ns : List Int, ns.length ≤ 63 → G [.list (ns.map PyData.int)] = some (.sh (.bool true))) {H : Hp} {a : Addr} {ns : List Int} (hl : ns.length ≤ 63) (hS : SqL K H a (ns.map V.int)) :
    spP K 1 G [.ref a] H (fun v _ => v = .bl true) fun _ _ _ => False := by
  have rp : ∀ ns : List Int, RpAll K H (ns.map PyData.int) (ns.map V.int) := fun ns => by
    induction ns with
    | nil => exact .nil
    | cons n ns ih => exact .consI rp_c.1 ih
  refine ⟨H, [.list (ns.map PyData.int)], .sh (.bool true), .refl H, .one (by simp only [Rp]; exact ⟨a, _, rfl, hS, rp ns⟩), rfl, hG ns hl, fun v F' H' f r => ?_⟩
  have := r.rt
  simp only [RT, Rp] at this
  exact this.2
end
end Pv
set_option Elab.async false
set_option linter.all false
set_option maxRecDepth 100000
set_option maxHeartbeats 4000000
/-! names of the module that stand for flat tuples -/
namespace Pv
open PySem L2 PyProof.Rows
def flatD : PyData → Option He.Dv
  | .none => some .non
  | .bool b => some (.bl b)
  | .int i => some (.int i)
  | .str x => some (.str x)
  | _ => none
def flatAll : List PyData → Option (List He.Dv)
  | [] => some []
  | d :: ds => (flatD d).bind fun v => (flatAll ds).bind fun vs => some (v :: vs)
theorem rp_flat {K : PySem.W.Frag} {F : Hp} : ∀ {d : PyData} {v : He.Dv}, flatD d = some v → Rp K F d (v.v K)
  | .none, _, h => by cases h; simp only [Rp]; rfl
  | .bool _, _, h => by cases h; simp only [Rp]; rfl
  | .int _, _, h => by cases h; simp only [Rp]; rfl
  | .str _, _, h => by cases h; simp only [Rp]; rfl
  | .list _, _, h => by cases h
  | .tuple _, _, h => by cases h
  | .dict _, _, h => by cases h
theorem rpAll_flat {K : PySem.W.Frag} {F : Hp} : ∀ {ds : List PyData} {vs : List He.Dv}, flatAll ds = some vs → RpAll K F ds (vs.map (He.Dv.v K))
  | [], _, h => by cases h; exact RpAll.nil
  | d :: ds, vs, h => by
    unfold flatAll at h
    cases e1 : flatD d with
    | none => rw [e1] at h; cases h
    | some v =>
      rw [e1] at h
      cases e2 : flatAll ds with
      | none => rw [e2] at h; cases h
      | some ws =>
        rw [e2] at h
        cases h
        exact RpAll.consI (rp_flat e1) (rpAll_flat e2)
abbrev Gt : Type := Str × List PyData
def gtOk (K : PySem.W.Frag) (g : Gt) : Bool := match flatAll g.2 with
  | some vs => He.tupB K g.1 vs
  | none => false
theorem rp_gt {K : PySem.W.Frag} {F : Hp} {g : Gt} (h : gtOk K g = true) : Rp K F (.tuple g.2) (.ref (He.ga K g.1)) := by
  unfold gtOk at h
  split at h
  · rename_i vs e
    simp only [Rp]
    exact ⟨_, _, rfl, He.tupB_ok h F, rpAll_flat e⟩
  · cases h
/-! ### the Hook -/
def obsGt (fa : List He.Fa) (fn : List He.DefD) (gt : List Gt) (K : PySem.W.Frag) : He.AlD := (((fa.all fun f => f.ok K) && fn.all fun d => d.ok K) && gt.all (gtOk K), fn.map fun d => He.fnW K d.at_)
def SaysGt (fa : List He.Fa) (fn : List He.DefD) (gt : List Gt) (K : PySem.W.Frag) : Prop := obsGt fa fn gt K = He.valD fn
theorem SaysGt.d {fa : List He.Fa} {fn : List He.DefD} {gt : List Gt} {K : PySem.W.Frag} (c : SaysGt fa fn gt K) : He.SaysD fa fn K := by
  have c1 : (((fa.all fun f => f.ok K) && fn.all fun d => d.ok K) && gt.all (gtOk K)) = true := congrArg (fun z : He.AlD => z.1) c
  have c2 : fn.map (fun d => He.fnW K d.at_) = fn.map He.DefD.val := congrArg (fun z : He.AlD => z.2) c
  rw [Bool.and_eq_true] at c1
  show (_, _) = (_, _)
  rw [c1.1, c2]
theorem SaysGt.g {fa : List He.Fa} {fn : List He.DefD} {gt : List Gt} {K : PySem.W.Frag} (c : SaysGt fa fn gt K) (i : Nat) {g : Gt} (h : gt[i]? = some g) : gtOk K g = true := by
  have c1 : (((fa.all fun f => f.ok K) && fn.all fun d => d.ok K) && gt.all (gtOk K)) = true := congrArg (fun z : He.AlD => z.1) c
  rw [Bool.and_eq_true] at c1
  exact List.all_eq_true.mp c1.2 g (List.mem_of_getElem? h)
def obsGtG (n : Nat) (fa : List He.Fa) (fn : List He.DefD) (gt : List Gt) (g : Addr → Option Obj) : He.AlD := obsGt fa fn gt (He.frG g (He.asD g n))
def hookGt (n : Nat) (fa : List He.Fa) (fn : List He.DefD) (gt : List Gt) : PySem.W.Hook where
  α := He.AlD
  obs := fun s => obsGtG n fa fn gt s.heap.get?
  val := fun _ => He.valD fn
  says := fun _ h => ∃ K : PySem.W.Frag, K.In h ∧ SaysGt fa fn gt K
  of := fun _ _ e => ⟨_, He.frG_in, e⟩
  keeps := fun _ _ _ ⟨K, hK, c⟩ k => ⟨K, PySem.W.Frag.In.keeps hK k, c⟩
theorem obsGtG_eq {n : Nat} {fa : List He.Fa} {fn : List He.DefD} {gt : List Gt} {g : Addr → Option Obj} {s : Shared} (h : ∀ a, g a = s.heap.get? a) : obsGtG n fa fn gt g = (hookGt n fa fn gt).obs s := by
  have e : g = s.heap.get? := funext h
  rw [e] <;> rfl
structure TpG (fa : List He.Fa) (fn : List He.DefD) (gt : List Gt) (K : PySem.W.Frag) (mg : Str → Option Value) : Prop extends Tp fa fn K mg where
  g : SaysGt fa fn gt K
theorem TpG.tup {fa : List He.Fa} {fn : List He.DefD} {gt : List Gt} {K : PySem.W.Frag} {mg : Str → Option Value} (T : TpG fa fn gt K mg) (i : Nat) {x : Str} {ds : List PyData} (h : gt[i]? = some (x, ds) := by rfl) (j : Nat) (hj : fa[j]? = some (.glo x) := by rfl) : mg x = some (.ref (He.ga K x)) ∧ ∀ F, Rp K F (.tuple ds) (.ref (He.ga K x)) :=
  ⟨T.glo j hj, fun F => rp_gt (T.g.g i h)⟩
variable {X : Cx} {C : Cn}
theorem pd_gt {x : Str} {pos : Pos} {a : Addr} {d : PyData} (hK : C.K = X.K) (hg : Gl X x) (m : X.mg x = some (.ref a) ∧ ∀ F, Rp X.K F d (.ref a)) (hd : (x == ("__debug__" : Str)) = false := by decide) : PE X (.Name x pos) (tD C (eC d)) :=
  pd_c (pe_glob (v := .ref a) hg m.1 rfl hd) fun F => by rw [hK]; exact m.2 F
end Pv
set_option Elab.async false
set_option linter.all false
set_option maxRecDepth 100000
namespace K12
open PySem L2 Pv
/-! what each def gives, over plain data -/
/-- _law_tuples(n, m, found, voter, longer, row, point) -/
def B__law_tuples : FS := (sSeq (sAsg (eLst (aCons (eTup aNil) aNil)) (gN 2)) (sSeq (sFor (iR1 (eV 0)) (gN 3) (sSeq (sAsg (eLst aNil) (gN 4)) (sSeq (sForV 2 (gN 5) (sExpr (eMt1 mExtend 4 (eComp [6] (iR1 (eV 1)) (gN 6) bTrue (eBinL' opAdd 5 (eTup (aCons (eV 6) aNil))))))) (sAsg (eV 4) (gN 2))))) (sRetV 2)))
def G__law_tuples : List PyData → Option T := gP 7 2 B__law_tuples
/-- _law_gain(rule, n, m, points, rows, told, peaks, point, voter, peak, here, there, own) -/
def B__law_gain : FS := (sSeq (sAsg (eV 0) (gTupD 3 (gsCons (gN 1) (gsCons (gN 2) (gsCons (gN 3) gsNil))))) (sSeq (sAsg (eDef G__law_tuples (aCons (eV 1) (aCons (eV 2) aNil))) (gN 4)) (sSeq (sAsg (eCall bDict (aCons (eComp [6, 7] (iZ (eV 4) (eV 3)) (gTupD 2 (gsCons (gN 6) (gsCons (gN 7) gsNil))) bTrue (eTup (aCons (eV 6) (aCons (eV 7) aNil)))) aNil)) (gN 5)) (sSeq (sForV 4 (gN 6) (sFor (iR1 (eV 1)) (gN 8) (sFor (iR1 (eV 2)) (gN 9) (sSeq (sPar3 10 11 12 (aCons (eBinLR opIx 5 6) (aCons (eBinL' opIx 5 (eBin opAdd (eBin opAdd (eSlV 6 oNone (oSome (eV 8))) (eTup (aCons (eV 9) aNil))) (eSlV 6 (oSome (eBinL' opAdd 8 (eC (.int 1)))) oNone))) (aCons (eBinLR opIx 6 8) aNil)))) (sIf (bAnd (bT (eBinLR opNe 10 11)) (bAnd (bT (eBinLR opNe 10 12)) (bNot (bOr (bT (eChain (fun i j => decide (i < j)) (fun i j => decide (i < j)) (eV 12) (eV 10) (eV 11))) (bT (eChain (fun i j => decide (i < j)) (fun i j => decide (i < j)) (eV 11) (eV 10) (eV 12))))))) (sRet (eTup (aCons (eV 6) (aCons (eV 8) (aCons (eV 9) aNil))))) sNil))))) (sRet (eC .none))))))
def G__law_gain : List PyData → Option T := gP 13 1 B__law_gain
/-- _law_is(said, due) -/
def B__law_is : FS := (sRet (eBin opEqS (eCallV bRepr 0) (eCallV bRepr 1)))
def G__law_is : List PyData → Option T := gP 2 2 B__law_is
/-- _law_is_int(thing) -/
def B__law_is_int : FS := (sRet (eAnd (eIsV [.int] 0) (eNotV (eIsV [.bool] 0))))
def G__law_is_int : List PyData → Option T := gP 1 1 B__law_is_int
/-- _law_lots(n, found, voter, lot) -/
def B__law_lots : FS := (sSeq (sAsg (eLst (aCons (eTup aNil) aNil)) (gN 1)) (sSeq (sFor (iR1 (eV 0)) (gN 2) (sAsg (eBinL' opAdd 1 (eCompV [3] 1 (gN 3) bTrue (eBinL' opAdd 3 (eTup (aCons (eV 2) aNil))))) (gN 1))) (sRetV 1)))
def G__law_lots : List PyData → Option T := gP 4 1 B__law_lots
/-- _law_are_levels(n, m, levels, one, lots, at, lot, spot, other, voter) -/
def B__law_are_levels : FS := (sSeq (sIf (bOr (bNot (bTru (eIsV [.tuple] 2))) (bNot (bTru (eCall bAll (aCons (eCompV [3] 2 (gN 3) bTrue (eAnd (eDef G__law_is_int (aCons (eV 3) aNil)) (eChain (fun i j => decide (i ≤ j)) (fun i j => decide (i < j)) (eC (.int 0)) (eV 3) (eV 1)))) aNil))))) (sRet (eC (.bool false))) sNil) (sSeq (sAsg (eDef G__law_lots (aCons (eV 0) aNil)) (gN 4)) (sSeq (sIf (bT (eBin opNe (eCallV bLen 2) (eCallV bLen 4))) (sRet (eC (.bool false))) sNil) (sSeq (sFor (iEn (eV 4)) (gTupD 2 (gsCons (gN 5) (gsCons (gN 6) gsNil))) (sFor (iEn (eV 4)) (gTupD 2 (gsCons (gN 7) (gsCons (gN 8) gsNil))) (sIf (bAnd (bTru (eCall bAll (aCons (eCompV [9] 6 (gN 9) bTrue (eBinLR opIn 9 8)) aNil))) (bT (eBin opGt (eBinLR opIx 2 7) (eBinLR opIx 2 5)))) (sRet (eC (.bool false))) sNil))) (sRet (eC (.bool true)))))))
def G__law_are_levels : List PyData → Option T := gP 10 3 B__law_are_levels
/-- _law_point(levels, lots, peaks, lot, level, voter) -/
def B__law_point : FS := (sRet (eCall bMin (aCons (eComp [3, 4] (iZ (eV 1) (eV 0)) (gTupD 2 (gsCons (gN 3) (gsCons (gN 4) gsNil))) bTrue (eCall bMax (aCons (eBin opAdd (eCompV [5] 3 (gN 5) bTrue (eBinLR opIx 2 5)) (eLst (aCons (eV 4) aNil))) aNil))) aNil)))
def G__law_point : List PyData → Option T := gP 6 3 B__law_point
/-- _law_made(n, m, levels, lots, peaks) -/
def B__law_made : FS := (sSeq (sAsg (eDef G__law_lots (aCons (eV 0) aNil)) (gN 3)) (sRet (eTup (aCons (eV 0) (aCons (eV 1) (aCons (eCall bTuple (aCons (eComp [4] (iE (eDef G__law_tuples (aCons (eV 0) (aCons (eV 1) aNil)))) (gN 4) bTrue (eDef G__law_point (aCons (eV 2) (aCons (eV 3) (aCons (eV 4) aNil))))) aNil)) aNil))))))
def G__law_made : List PyData → Option T := gP 5 3 B__law_made
/-- _law_own_levels(rule, n, m, points, told, found, peaks, point, lot, voter, levels) -/
def B__law_own_levels : FS := (sSeq (sAsg (eV 0) (gTupD 3 (gsCons (gN 1) (gsCons (gN 2) (gsCons (gN 3) gsNil))))) (sSeq (sPar 4 5 (aCons (eCall bDict (aCons (eComp [6, 7] (iZ (eDef G__law_tuples (aCons (eV 1) (aCons (eV 2) aNil))) (eV 3)) (gTupD 2 (gsCons (gN 6) (gsCons (gN 7) gsNil))) bTrue (eTup (aCons (eV 6) (aCons (eV 7) aNil)))) aNil)) (aCons (eLst aNil) aNil))) (sSeq (sFor (iE (eDef G__law_lots (aCons (eV 1) aNil))) (gN 8) (sExpr (eMt1 mAppend 5 (eBinL' opIx 4 (eCall bTuple (aCons (eComp [9] (iR1 (eV 1)) (gN 9) bTrue (eIf (bT (eBinLR opIn 9 8)) (eC (.int 0)) (eBinL' opSub 2 (eC (.int 1))))) aNil)))))) (sSeq (sAsg (eCallV bTuple 5) (gN 10)) (sRet (eIf (bAnd (bTru (eDef G__law_are_levels (aCons (eV 1) (aCons (eV 2) (aCons (eV 10) aNil))))) (bT (eBinR opEq (eDef G__law_made (aCons (eV 1) (aCons (eV 2) (aCons (eV 10) aNil)))) 0))) (eV 10) (eC .none)))))))
def G__law_own_levels : List PyData → Option T := gP 11 1 B__law_own_levels
/-- _law_draw(hand, many, cell, digit, number) -/
def B__law_draw : FS := (sSeq (sIf (bAnd (bT (eBin opEq (eBinL' opIx 0 (eC (.int 2))) (eC (.int 0)))) (bT (eBin opLt (eBinL' opIx 0 (eC (.int 1))) (eCall bLen (aCons (eBinL' opIx 0 (eC (.int 0))) aNil))))) (sSeq (sAsg (eBin opIx (eBinL' opIx 0 (eC (.int 0))) (eBinL' opIx 0 (eC (.int 1)))) (gN 2)) (sSeq (sAsg (eBin opAdd (eBinL' opIx 0 (eC (.int 1))) (eC (.int 1))) (gSub 0 (eC (.int 1)))) (sSeq (sAsg (eBin opMod (eCall bInt (aCons (eBin opAdd (eBin opAdd (eBin opMul (eBinL' opIx 0 (eC (.int 3))) (eC (.int 69621))) (eBinL' opMul 2 (eC (.int 48271)))) (eC (.int 17))) aNil)) (eC (.int 2147483629))) (gSub 0 (eC (.int 3)))) (sIf (bT (eBinL' opGe 2 (eBin opPow (eC (.int 10)) (eC (.int 18))))) (sAsg (eV 2) (gSub 0 (eC (.int 2)))) sNil)))) sNil) (sSeq (sIf (bT (eBin opGt (eBinL' opIx 0 (eC (.int 2))) (eC (.int 0)))) (sSeq (sAsg (eBinR opMod (eCall bInt (aCons (eBinL' opIx 0 (eC (.int 2))) aNil)) 1) (gN 3)) (sSeq (sAsg (eBinR opFdiv (eBinL' opIx 0 (eC (.int 2))) 1) (gSub 0 (eC (.int 2)))) (sRetV 3))) sNil) (sSeq (sAsg (eBin opAdd (eBinL' opIx 0 (eC (.int 4))) (eC (.int 1))) (gSub 0 (eC (.int 4)))) (sSeq (sAsg (eBin opMod (eCall bInt (aCons (eBin opMul (eCall bInt (aCons (eBin opAdd (eBinL' opIx 0 (eC (.int 3))) (eBin opMul (eC (.int 7919)) (eBinL' opIx 0 (eC (.int 4))))) aNil)) (eC (.int 40692))) aNil)) (eC (.int 2147483647))) (gN 4)) (sSeq (sAsg (eBin opMod (eCall bInt (aCons (eBinL' opMul 4 (eBin opAdd (eBinL' opFdiv 4 (eC (.int 1009))) (eC (.int 69621)))) aNil)) (eC (.int 2147483647))) (gN 4)) (sSeq (sAsg (eBin opMod (eCall bInt (aCons (eBinL' opMul 4 (eBin opAdd (eBinL' opFdiv 4 (eC (.int 2003))) (eC (.int 40014)))) aNil)) (eC (.int 2147483563))) (gN 4)) (sRet (eBinR opMod (eCall bInt (aCons (eBinL' opFdiv 4 (eC (.int 16))) aNil)) 1))))))))
def G__law_draw : T → List PyData → Option (T × T) := gIO 5 2 B__law_draw
/-- _law_number(lot, gone, voter) -/
def B__law_number : FS := (sRet (eCall bSum (aCons (eCompV [2] 0 (gN 2) (bT (eBinLR opNe 2 1)) (eBinR opIx (eLst (aCons (eC (.int 1)) (aCons (eC (.int 2)) (aCons (eC (.int 4)) (aCons (eC (.int 8)) aNil))))) 2)) aNil)))
def G__law_number : List PyData → Option T := gP 3 2 B__law_number
/-- _law_levels(hand, n, m, found, lot, tops, voter) -/
def B__law_levels : FS := (sSeq (sAsg (eLst aNil) (gN 3)) (sSeq (sFor (iE (eDef G__law_lots (aCons (eV 1) aNil))) (gN 4) (sSeq (sAsg (eBin opAdd (eCompV [6] 4 (gN 6) bTrue (eBinL' opIx 3 (eDef G__law_number (aCons (eV 4) (aCons (eV 6) aNil))))) (eLst (aCons (eBinL' opSub 2 (eC (.int 1))) aNil))) (gN 5)) (sExpr (eMt1 mAppend 3 (eDefIO G__law_draw 0 (aCons (eBin opAdd (eC (.int 1)) (eCallV bMin 5)) aNil)))))) (sRet (eCallV bTuple 3))))
def G__law_levels : T → List PyData → Option (T × T) := gIO 7 3 B__law_levels
/-- _law_rule(hand, n, m, rule, way, points, point) -/
def B__law_rule : FS := (sSeq (sAsg (eBin opAdd (eC (.int 1)) (eDefIO G__law_draw 0 (aCons (eC (.int 3)) aNil))) (gN 1)) (sSeq (sAsg (eBin opAdd (eC (.int 2)) (eDefIO G__law_draw 0 (aCons (eIf (bT (eBinL' opEq 1 (eC (.int 1)))) (eC (.int 5)) (eIf (bT (eBinL' opEq 1 (eC (.int 2)))) (eC (.int 3)) (eC (.int 2)))) aNil))) (gN 2)) (sSeq (sPar 3 4 (aCons (eDef G__law_made (aCons (eV 1) (aCons (eV 2) (aCons (eDefIO G__law_levels 0 (aCons (eV 1) (aCons (eV 2) aNil))) aNil)))) (aCons (eDefIO G__law_draw 0 (aCons (eC (.int 5)) aNil)) aNil))) (sSeq (sIf (bT (eBinL' opLt 4 (eC (.int 3)))) (sRetV 3) sNil) (sSeq (sAsg (eCall bList (aCons (eBinL' opIx 3 (eC (.int 2))) aNil)) (gN 5)) (sSeq (sIf (bT (eBinL' opEq 4 (eC (.int 3)))) (sSeq (sAsg (eDefIO G__law_draw 0 (aCons (eV 2) aNil)) (gSub 5 (eDefIO G__law_draw 0 (aCons (eCallV bLen 5) aNil)))) (sRet (eTup (aCons (eV 1) (aCons (eV 2) (aCons (eCallV bTuple 5) aNil)))))) sNil) (sRet (eTup (aCons (eV 1) (aCons (eV 2) (aCons (eCall bTuple (aCons (eCompV [6] 5 (gN 6) bTrue (eDefIO G__law_draw 0 (aCons (eV 2) aNil))) aNil)) aNil)))))))))))
def G__law_rule : T → List PyData → Option (T × T) := gIO 7 1 B__law_rule
/-- _law_turned(rule, n, m, points, told, peaks, point, one) -/
def B__law_turned : FS := (sSeq (sAsg (eV 0) (gTupD 3 (gsCons (gN 1) (gsCons (gN 2) (gsCons (gN 3) gsNil))))) (sSeq (sAsg (eCall bDict (aCons (eComp [5, 6] (iZ (eDef G__law_tuples (aCons (eV 1) (aCons (eV 2) aNil))) (eV 3)) (gTupD 2 (gsCons (gN 5) (gsCons (gN 6) gsNil))) bTrue (eTup (aCons (eV 5) (aCons (eV 6) aNil)))) aNil)) (gN 4)) (sRet (eTup (aCons (eV 1) (aCons (eV 2) (aCons (eCall bTuple (aCons (eComp [5] (iE (eDef G__law_tuples (aCons (eV 1) (aCons (eV 2) aNil)))) (gN 5) bTrue (eBin opSub (eBinL' opSub 2 (eC (.int 1))) (eBinL' opIx 4 (eCall bTuple (aCons (eCompV [7] 5 (gN 7) bTrue (eBinR opSub (eBinL' opSub 2 (eC (.int 1))) 7)) aNil))))) aNil)) aNil)))))))
def G__law_turned : List PyData → Option T := gP 8 1 B__law_turned
/-- how_many(voters, points, found, voter) -/
def B_how_many : FS := (sSeq (sAsg (eC (.int 1)) (gN 2)) (sSeq (sFor (iR1 (eV 0)) (gN 3) (sAsg (eBinLR opMul 2 1) (gN 2))) (sRetV 2)))
def G_how_many : List PyData → Option T := gP 4 2 B_how_many
/-- is_table(thing, size) -/
def B_is_table : FS := (sRet (eAnd (eIsV [.tuple] 0) (eBinR opEq (eCallV bLen 0) 1)))
def G_is_table : List PyData → Option T := gP 2 2 B_is_table
/-- is_triple(thing) -/
def B_is_triple : FS := (sRet (eAnd (eIsV [.tuple] 0) (eBin opEq (eCallV bLen 0) (eC (.int 3)))))
def G_is_triple : List PyData → Option T := gP 1 1 B_is_triple
/-- is_integer(thing) -/
def B_is_integer : FS := (sRet (eAnd (eIsV [.int] 0) (eNotV (eIsV [.bool] 0))))
def G_is_integer : List PyData → Option T := gP 1 1 B_is_integer
/-- is_within(thing, least, most) -/
def B_is_within : FS := (sRet (eAnd (eDef G_is_integer (aCons (eV 0) aNil)) (eChain (fun i j => decide (i ≤ j)) (fun i j => decide (i ≤ j)) (eV 1) (eV 0) (eV 2))))
def G_is_within : List PyData → Option T := gP 3 3 B_is_within
/-- is_peak_rule(thing, point) -/
def B_is_peak_rule : FS := (sSeq (sIf (bOr (bNot (bTru (eDef G_is_triple (aCons (eV 0) aNil)))) (bNot (bTru (eDef G_is_within (aCons (eBinL' opIx 0 (eC (.int 0))) (aCons (eC (.int 1)) (aCons (eC (.int 4)) aNil))))))) (sRet (eC (.bool false))) sNil) (sSeq (sIf (bOr (bNot (bTru (eDef G_is_within (aCons (eBinL' opIx 0 (eC (.int 1))) (aCons (eC (.int 2)) (aCons (eC (.int 6)) aNil)))))) (bT (eBin opGt (eDef G_how_many (aCons (eBinL' opIx 0 (eC (.int 0))) (aCons (eBinL' opIx 0 (eC (.int 1))) aNil))) (eC (.int 1300))))) (sRet (eC (.bool false))) sNil) (sSeq (sIf (bNot (bTru (eDef G_is_table (aCons (eBinL' opIx 0 (eC (.int 2))) (aCons (eDef G_how_many (aCons (eBinL' opIx 0 (eC (.int 0))) (aCons (eBinL' opIx 0 (eC (.int 1))) aNil))) aNil))))) (sRet (eC (.bool false))) sNil) (sRet (eCall bAll (aCons (eComp [1] (iE (eBinL' opIx 0 (eC (.int 2)))) (gN 1) bTrue (eDef G_is_within (aCons (eV 1) (aCons (eC (.int 0)) (aCons (eBin opSub (eBinL' opIx 0 (eC (.int 1))) (eC (.int 1))) aNil))))) aNil))))))
def G_is_peak_rule : List PyData → Option T := gP 2 1 B_is_peak_rule
/-- check_rule(thing) -/
def B_check_rule : FS := (sIf (bNot (bTru (eDef G_is_peak_rule (aCons (eV 0) aNil)))) sBad sNil)
def G_check_rule : List PyData → Option T := gP 1 1 B_check_rule
/-- all_peaks(voters, points, found, voter, longer, row, point) -/
def B_all_peaks : FS := (sSeq (sAsg (eLst (aCons (eTup aNil) aNil)) (gN 2)) (sSeq (sFor (iR1 (eV 0)) (gN 3) (sSeq (sAsg (eLst aNil) (gN 4)) (sSeq (sForV 2 (gN 5) (sExpr (eMt1 mExtend 4 (eComp [6] (iR1 (eV 1)) (gN 6) bTrue (eBinL' opAdd 5 (eTup (aCons (eV 6) aNil))))))) (sAsg (eV 4) (gN 2))))) (sRetV 2)))
def G_all_peaks : List PyData → Option T := gP 7 2 B_all_peaks
/-- may_like(peak, here, there) -/
def B_may_like : FS := (sSeq (sIf (bOr (bT (eBinLR opEq 1 2)) (bT (eBinLR opEq 1 0))) (sRet (eC (.bool false))) sNil) (sRet (eNotV (eOr (eChain (fun i j => decide (i < j)) (fun i j => decide (i < j)) (eV 0) (eV 1) (eV 2)) (eChain (fun i j => decide (i < j)) (fun i j => decide (i < j)) (eV 2) (eV 1) (eV 0))))))
def G_may_like : List PyData → Option T := gP 3 3 B_may_like
/-- told_by(rule) -/
def B_told_by : FS := (sRet (eCall bDZ (aCons (eDef G_all_peaks (aCons (eBinL' opIx 0 (eC (.int 0))) (aCons (eBinL' opIx 0 (eC (.int 1))) aNil))) (aCons (eBinL' opIx 0 (eC (.int 2))) aNil))))
def G_told_by : List PyData → Option T := gP 1 1 B_told_by
/-- gain_in(rule, told, peaks, voter, peak, other, there) -/
def B_gain_in : FS := (sSeq (sAsg (eDef G_told_by (aCons (eV 0) aNil)) (gN 1)) (sSeq (sFor (iE (eDef G_all_peaks (aCons (eBinL' opIx 0 (eC (.int 0))) (aCons (eBinL' opIx 0 (eC (.int 1))) aNil)))) (gN 2) (sFor (iEn (eV 2)) (gTupD 2 (gsCons (gN 3) (gsCons (gN 4) gsNil))) (sFor (iR1 (eBinL' opIx 0 (eC (.int 1)))) (gN 5) (sSeq (sAsg (eBinL' opIx 1 (eBin opAdd (eBin opAdd (eSlV 2 oNone (oSome (eV 3))) (eTup (aCons (eV 5) aNil))) (eSlV 2 (oSome (eBinL' opAdd 3 (eC (.int 1)))) oNone))) (gN 6)) (sIf (bTru (eDef G_may_like (aCons (eV 4) (aCons (eBinLR opIx 1 2) (aCons (eV 6) aNil))))) (sRet (eTup (aCons (eV 2) (aCons (eV 3) (aCons (eV 5) aNil))))) sNil))))) (sRet (eC .none))))
def G_gain_in : List PyData → Option T := gP 7 1 B_gain_in
/-- first_peak_gain(rule) -/
def B_first_peak_gain : FS := (sSeq (sExpr (eDef G_check_rule (aCons (eV 0) aNil))) (sRet (eDef G_gain_in (aCons (eV 0) aNil))))
def G_first_peak_gain : List PyData → Option T := gP 1 1 B_first_peak_gain
/-- settles(rule, peaks, peak) -/
def B_settles : FS := (sSeq (sExpr (eDef G_check_rule (aCons (eV 0) aNil))) (sSeq (sIf (bOr (bNot (bTru (eDef G_is_table (aCons (eV 1) (aCons (eBinL' opIx 0 (eC (.int 0))) aNil))))) (bNot (bTru (eCall bAll (aCons (eCompV [2] 1 (gN 2) bTrue (eDef G_is_within (aCons (eV 2) (aCons (eC (.int 0)) (aCons (eBin opSub (eBinL' opIx 0 (eC (.int 1))) (eC (.int 1))) aNil))))) aNil))))) sBad sNil) (sRet (eBinR opIx (eDef G_told_by (aCons (eV 0) aNil)) 1))))
def G_settles : List PyData → Option T := gP 3 2 B_settles
/-- _law_case_right(hand, rule, due, told, peaks, voter, peak) -/
def B__law_case_right : FS := (sSeq (sAsg (eDefIO G__law_rule 0 aNil) (gN 1)) (sSeq (sPar 2 3 (aCons (eDef G__law_gain (aCons (eV 1) aNil)) (aCons (eDef G_first_peak_gain (aCons (eV 1) aNil)) aNil))) (sSeq (sIf (bOr (bNot (bTru (eDef G__law_is (aCons (eV 3) (aCons (eV 2) aNil))))) (bT (eBin opNe (eBinL' opIs 2 (eC .none)) (eBin opIsNot (eDef G__law_own_levels (aCons (eV 1) aNil)) (eC .none))))) (sRet (eC (.bool false))) sNil) (sSeq (sIf (bT (eBinL' opIsNot 2 (eC .none))) (sSeq (sAsg (eV 2) (gTupD 3 (gsCons (gN 4) (gsCons (gN 5) (gsCons (gN 6) gsNil))))) (sIf (bT (eBin opEq (eDef G_settles (aCons (eV 1) (aCons (eV 4) aNil))) (eDef G_settles (aCons (eV 1) (aCons (eBin opAdd (eBin opAdd (eSlV 4 oNone (oSome (eV 5))) (eTup (aCons (eV 6) aNil))) (eSlV 4 (oSome (eBinL' opAdd 5 (eC (.int 1)))) oNone)) aNil))))) (sRet (eC (.bool false))) sNil)) sNil) (sRet (eBin opEq (eBin opIs (eDef G_first_peak_gain (aCons (eDef G__law_turned (aCons (eV 1) aNil)) aNil)) (eC .none)) (eBinL' opIs 2 (eC .none))))))))
def G__law_case_right : T → List PyData → Option (T × T) := gIO 7 1 B__law_case_right
/-- _law_hand(script, cells, cell) -/
def B__law_hand : FS := (sSeq (sAsg (eComp [2] (iE (eSlV 0 oNone (oSome (eC (.int 63))))) (gN 2) bTrue (eCall bAbs (aCons (eCallV bInt 2) aNil))) (gN 1)) (sRet (eLst (aCons (eV 1) (aCons (eC (.int 0)) (aCons (eC (.int 0)) (aCons (eBin opAdd (eC (.int 163)) (eBin opMul (eC (.int 11)) (eCallV bLen 1))) (aCons (eC (.int 0)) aNil))))))))
def G__law_hand : List PyData → Option T := gP 3 1 B__law_hand
/-- in_lot(number, voter) -/
def B_in_lot : FS := (sRet (eBin opEq (eBin opBand (eBinLR opShr 0 1) (eC (.int 1))) (eC (.int 1))))
def G_in_lot : List PyData → Option T := gP 2 2 B_in_lot
/-- are_levels(voters, points, thing, level, number, voter) -/
def B_are_levels : FS := (sSeq (sIf (bOr (bNot (bTru (eDef G_is_table (aCons (eV 2) (aCons (eBinR opShl (eC (.int 1)) 0) aNil))))) (bNot (bTru (eCall bAll (aCons (eCompV [3] 2 (gN 3) bTrue (eDef G_is_within (aCons (eV 3) (aCons (eC (.int 0)) (aCons (eBinL' opSub 1 (eC (.int 1))) aNil))))) aNil))))) (sRet (eC (.bool false))) sNil) (sSeq (sFor (iEn (eV 2)) (gTupD 2 (gsCons (gN 4) (gsCons (gN 3) gsNil))) (sFor (iR1 (eV 0)) (gN 5) (sIf (bAnd (bNot (bTru (eDef G_in_lot (aCons (eV 4) (aCons (eV 5) aNil))))) (bT (eBinR opGt (eBinL' opIx 2 (eBinL' opBor 4 (eBinR opShl (eC (.int 1)) 5))) 3))) (sRet (eC (.bool false))) sNil))) (sRet (eC (.bool true)))))
def G_are_levels : List PyData → Option T := gP 6 3 B_are_levels
/-- point_by(levels, peaks, found, number, level, voter, peak) -/
def B_point_by : FS := (sSeq (sAsg (eLst aNil) (gN 2)) (sSeq (sFor (iEn (eV 0)) (gTupD 2 (gsCons (gN 3) (gsCons (gN 4) gsNil))) (sExpr (eMt1 mAppend 2 (eCall bMax (aCons (eBin opAdd (eLst (aCons (eV 4) aNil)) (eComp [5, 6] (iEn (eV 1)) (gTupD 2 (gsCons (gN 5) (gsCons (gN 6) gsNil))) (bTru (eDef G_in_lot (aCons (eV 3) (aCons (eV 5) aNil)))) (eV 6))) aNil))))) (sRet (eCallV bMin 2))))
def G_point_by : List PyData → Option T := gP 7 2 B_point_by
/-- made_by(voters, points, levels, peaks) -/
def B_made_by : FS := (sSeq (sIf (bNot (bTru (eDef G_is_within (aCons (eV 0) (aCons (eC (.int 1)) (aCons (eC (.int 4)) aNil)))))) sBad sNil) (sSeq (sIf (bNot (bTru (eDef G_is_within (aCons (eV 1) (aCons (eC (.int 2)) (aCons (eC (.int 6)) aNil)))))) sBad sNil) (sSeq (sIf (bT (eBin opGt (eDef G_how_many (aCons (eV 0) (aCons (eV 1) aNil))) (eC (.int 1300)))) sBad sNil) (sSeq (sIf (bNot (bTru (eDef G_are_levels (aCons (eV 0) (aCons (eV 1) (aCons (eV 2) aNil)))))) sBad sNil) (sRet (eTup (aCons (eV 0) (aCons (eV 1) (aCons (eCall bTuple (aCons (eComp [3] (iE (eDef G_all_peaks (aCons (eV 0) (aCons (eV 1) aNil)))) (gN 3) bTrue (eDef G_point_by (aCons (eV 2) (aCons (eV 3) aNil)))) aNil)) aNil)))))))))
def G_made_by : List PyData → Option T := gP 4 3 B_made_by
/-- law(script, hand, again, made, told) -/
def B_law : FS := (sSeq (sAsg (eDef G__law_hand (aCons (eV 0) aNil)) (gN 1)) (sSeq (sFor (iR1 (eC (.int 4))) (gN 2) (sIf (bNot (bTru (eDefIO G__law_case_right 1 aNil))) (sRet (eC (.bool false))) sNil)) (sSeq (sAsg (eDef G_made_by (aCons (eC (.int 2)) (aCons (eC (.int 3)) (aCons (eDefIO G__law_levels 1 (aCons (eC (.int 2)) (aCons (eC (.int 3)) aNil))) aNil)))) (gN 3)) (sSeq (sAsg (eLst (aCons (eDef G_first_peak_gain (aCons (eTup (aCons (eC (.int 1)) (aCons (eC (.int 2)) (aCons (eTup (aCons (eC (.int 1)) (aCons (eC (.int 0)) aNil))) aNil)))) aNil)) (aCons (eDef G_first_peak_gain (aCons (eTup (aCons (eC (.int 1)) (aCons (eC (.int 3)) (aCons (eTup (aCons (eC (.int 0)) (aCons (eC (.int 2)) (aCons (eC (.int 2)) aNil)))) aNil)))) aNil)) (aCons (eDef G_first_peak_gain (aCons (eV 3) aNil)) aNil)))) (gN 4)) (sRet (eDef G__law_is (aCons (eV 4) (aCons (eLst (aCons (eTup (aCons (eTup (aCons (eC (.int 0)) aNil)) (aCons (eC (.int 0)) (aCons (eC (.int 1)) aNil)))) (aCons (eTup (aCons (eTup (aCons (eC (.int 1)) aNil)) (aCons (eC (.int 0)) (aCons (eC (.int 0)) aNil)))) (aCons (eC .none) aNil)))) aNil))))))))
def G_law : List PyData → Option T := gP 5 1 B_law
end K12
set_option Elab.async false
set_option linter.all false
set_option maxRecDepth 100000
set_option maxHeartbeats 4000000
namespace Pv
open PySem L2
/-! ### a computation that ends well -/
def Rs.Is {α : Type} (r : Rs α) (P : α → Prop) : Prop := ∃ a, r = .ok a ∧ P a
theorem Rs.is_ok {α : Type} {a : α} {P : α → Prop} : (Rs.ok a).Is P ↔ P a := ⟨fun ⟨b, e, h⟩ => by cases e; exact h, fun h => ⟨a, rfl, h⟩⟩
theorem Rs.Is.bind {α β : Type} {r : Rs α} {f : α → Rs β} {P : α → Prop} {Q : β → Prop} (h : r.Is P) (k : ∀ a, P a → (f a).Is Q) : (r.bind f).Is Q := by
  obtain ⟨a, rfl, p⟩ := h
  exact k a p
theorem Rs.Is.mono {α : Type} {r : Rs α} {P Q : α → Prop} (h : r.Is P) (k : ∀ a, P a → Q a) : r.Is Q := by
  obtain ⟨a, rfl, p⟩ := h
  exact ⟨a, rfl, k a p⟩
theorem Rs.Is.eq {α : Type} {r : Rs α} {a : α} (h : r.Is (· = a)) : r = .ok a := by
  obtain ⟨b, rfl, rfl⟩ := h
  rfl
theorem Rs.is_eq {α : Type} {r : Rs α} {a : α} {P : α → Prop} (h : r = .ok a) (p : P a) : r.Is P := ⟨a, h, p⟩
/-! ### loops -/
def LoopP (I : Nat → Env → Prop) (R : T → Env → Prop) (n : Nat) (p : Fl × Env) : Prop := match p.1 with
  | .nx => I n p.2
  | .ret t => R t p.2
  | _ => False
def StepP (chk : Env → Bool) (I : Nat → Env → Prop) (R : T → Env → Prop) (i n : Nat) (p : Fl × Env) : Prop := match p.1 with
  | .nx => chk p.2 = true ∧ I (i + 1) p.2
  | .ct => chk p.2 = true ∧ I (i + 1) p.2
  | .bk => I n p.2
  | .ret t => R t p.2
theorem loopF_inv {chk : Env → Bool} {tgt : FG} {body : FS} (I : Nat → Env → Prop) (R : T → Env → Prop) : ∀ {ds : List PyData} {η : Env}, I 0 η →
    (∀ i d η, ds[i]? = some d → I i η → ((tgt (.sh d) η).bind body).Is (StepP chk I R i ds.length)) → (loopF chk tgt body ds η).Is (LoopP I R ds.length)
  | [], η, h, _ => ⟨_, rfl, h⟩
  | d :: ds, η, h, st => by
    obtain ⟨p, e, hp⟩ := st 0 d η rfl h
    unfold loopF
    cases e1 : tgt (.sh d) η with
    | ok η1 =>
      rw [e1] at e
      have e : body η1 = .ok p := e
      show ((body η1).bind _).Is _
      rw [e]
      unfold StepP at hp
      have go : ∀ η2, chk η2 = true ∧ I 1 η2 → (if chk η2 = true then loopF chk tgt body ds η2 else .bad).Is (LoopP I R (ds.length + 1)) := fun η2 ⟨h1, h2⟩ => by
        rw [if_pos h1]
        have := loopF_inv (chk := chk) (tgt := tgt) (body := body) (fun i => I (i + 1)) R (ds := ds) (η := η2) h2 fun i d η hd hI => by
          have := st (i + 1) d η (by simpa using hd) hI
          exact this.mono fun p hp => by
            unfold StepP at hp ⊢
            exact hp
        exact this
      obtain ⟨fl, η2⟩ := p
      cases fl with
      | nx => exact go _ hp
      | ct => exact go _ hp
      | bk => exact ⟨_, rfl, hp⟩
      | ret t => exact ⟨_, rfl, hp⟩
    | exc a b => rw [e1] at e; cases e
    | bad => rw [e1] at e; cases e
theorem loopW_inv {c : FB} {body : FS} (I : Nat → Env → Prop) (J : Env → Prop) (R : T → Env → Prop)
    (step : ∀ n η, I n η → ((c η).bind fun b => if b.1 then (body b.2).bind fun p => .ok (some p.1, p.2) else .ok (none, b.2)).Is fun p => match p.1 with
      | none => J p.2
      | some .bk => J p.2
      | some (.ret t) => R t p.2
      | some _ => ∃ m, m < n ∧ I m p.2) : ∀ {n m : Nat} {η : Env}, I m η → m < n → (loopW c body n η).Is fun p => match p.1 with
      | .nx => J p.2
      | .ret t => R t p.2
      | _ => False
  | 0, m, η, _, h => absurd h (Nat.not_lt_zero _)
  | n + 1, m, η, hI, h => by
    obtain ⟨p, e, hp⟩ := step m η hI
    unfold loopW
    cases e1 : c η with
    | ok b =>
      rw [e1] at e
      show (if b.1 = true then _ else _ : Rs (Fl × Env)).Is _
      have e : (if b.1 then (body b.2).bind fun p => .ok (some p.1, p.2) else .ok (none, b.2) : Rs (Option Fl × Env)) = .ok p := e
      split at e
      · rename_i hb
        rw [if_pos hb]
        cases e2 : body b.2 with
        | ok q =>
          rw [e2] at e
          cases e
          obtain ⟨fl, η2⟩ := q
          cases fl with
          | nx =>
            obtain ⟨m', hm, hI'⟩ := hp
            exact loopW_inv I J R step hI' (by omega)
          | ct =>
            obtain ⟨m', hm, hI'⟩ := hp
            exact loopW_inv I J R step hI' (by omega)
          | bk => exact ⟨_, rfl, hp⟩
          | ret t => exact ⟨_, rfl, hp⟩
        | exc a b => rw [e2] at e; cases e
        | bad => rw [e2] at e; cases e
      · rename_i hb
        rw [if_neg hb]
        cases e
        exact ⟨_, rfl, hp⟩
    | exc a b => rw [e1] at e; cases e
    | bad => rw [e1] at e; cases e
theorem gN_bind {i : Nat} {t : T} {η : Env} {body : FS} : (gN i t η).bind body = body (η.set i (some t)) := rfl
theorem step_nx {chk : Env → Bool} {I : Nat → Env → Prop} {R : T → Env → Prop} {i n : Nat} {r : Rs (Fl × Env)} {η : Env} (h : r = .ok (.nx, η)) (hc : chk η = true) (hI : I (i + 1) η) : r.Is (StepP chk I R i n) := ⟨_, h, hc, hI⟩
theorem step_ct {chk : Env → Bool} {I : Nat → Env → Prop} {R : T → Env → Prop} {i n : Nat} {r : Rs (Fl × Env)} {η : Env} (h : r = .ok (.ct, η)) (hc : chk η = true) (hI : I (i + 1) η) : r.Is (StepP chk I R i n) := ⟨_, h, hc, hI⟩
theorem step_ret {chk : Env → Bool} {I : Nat → Env → Prop} {R : T → Env → Prop} {i n : Nat} {r : Rs (Fl × Env)} {t : T} {η : Env} (h : r = .ok (.ret t, η)) (hR : R t η) : r.Is (StepP chk I R i n) := ⟨_, h, hR⟩
theorem step_bk {chk : Env → Bool} {I : Nat → Env → Prop} {R : T → Env → Prop} {i n : Nat} {r : Rs (Fl × Env)} {η : Env} (h : r = .ok (.bk, η)) (hI : I n η) : r.Is (StepP chk I R i n) := ⟨_, h, hI⟩
theorem sFor_inv {α : Type} (l : List α) (f : α → PyData) {fi : FI} {tgt : FG} {body : FS} {η η1 : Env} (I : Nat → Env → Prop) (R : T → Env → Prop) (hit : fi η = .ok (l.map f, η1)) (h0 : I 0 η1)
    (st : ∀ i x η, l[i]? = some x → I i η → ((tgt (.sh (f x)) η).bind body).Is (StepP (fun _ => true) I R i l.length)) : (sFor fi tgt body η).Is (LoopP I R l.length) := by
  unfold sFor
  rw [hit]
  simp only [Rs.bind_ok]
  have h := loopF_inv (chk := fun _ => true) (tgt := tgt) (body := body) (ds := l.map f) I R h0 fun i d η hd hI => by
    rw [List.getElem?_map] at hd
    cases e : l[i]? with
    | none => rw [e] at hd; cases hd
    | some x =>
      rw [e] at hd
      cases hd
      rw [List.length_map]
      exact st i x η e hI
  rw [List.length_map] at h
  exact h
theorem sForV_inv {α : Type} (l : List α) (f : α → PyData) {j : Nat} {d0 : PyData} {tgt : FG} {body : FS} {η : Env} (I : Nat → Env → Prop) (R : T → Env → Prop) (hp : pk η j = some d0) (hs : seqOf d0 = some (l.map f)) (h0 : I 0 η)
    (st : ∀ i x η, l[i]? = some x → I i η → ((tgt (.sh (f x)) η).bind body).Is (StepP (pkIs j d0) I R i l.length)) : (sForV j tgt body η).Is (LoopP I R l.length) := by
  unfold sForV
  rw [hp]
  simp only [hs]
  have h := loopF_inv (chk := pkIs j d0) (tgt := tgt) (body := body) (ds := l.map f) I R h0 fun i d η hd hI => by
    rw [List.getElem?_map] at hd
    cases e : l[i]? with
    | none => rw [e] at hd; cases hd
    | some x =>
      rw [e] at hd
      cases hd
      rw [List.length_map]
      exact st i x η e hI
  rw [List.length_map] at h
  exact h
theorem sSeq_loop {f g : FS} {η : Env} {I : Nat → Env → Prop} {R : T → Env → Prop} {n : Nat} {P : Fl × Env → Prop} (h : (f η).Is (LoopP I R n)) (k : ∀ η, I n η → (g η).Is P) (kr : ∀ t η, R t η → P (.ret t, η)) : (sSeq f g η).Is P := by
  obtain ⟨⟨fl, η1⟩, e, hp⟩ := h
  unfold sSeq
  rw [e]
  simp only [Rs.bind_ok]
  cases fl with
  | nx => exact k _ hp
  | ret t => exact ⟨_, rfl, kr _ _ hp⟩
  | bk => exact hp.elim
  | ct => exact hp.elim
/-! ### comprehensions -/
/-- what the turns of a comprehension give: R for those that pass, in order -/
inductive Picks (c : PyData → T → Prop) : List PyData → List T → Prop
  | nil : Picks c [] []
  | take {d ds t ts} : c d t → Picks c ds ts → Picks c (d :: ds) (t :: ts)
  | drop {d ds ts} : Picks c ds ts → Picks c (d :: ds) ts
theorem loopC_inv {chk : Env → Bool} {own : List Nat} {tgt : FG} {cond : FB} {elt : FE} (I : Env → Prop) (R : PyData → T → Prop) : ∀ {ds : List PyData} {η : Env}, I η →
    (∀ d η, d ∈ ds → I η → ∃ η1 b η2, tgt (.sh d) η = .ok η1 ∧ cond η1 = .ok (b, η2) ∧
      (b = true → ∃ t η3, elt η2 = .ok (t, η3) ∧ R d t ∧ ownFree η3 own = true ∧ chk (wipeE η3 own) = true ∧ I (wipeE η3 own)) ∧
      (b = false → ownFree η2 own = true ∧ chk (wipeE η2 own) = true ∧ I (wipeE η2 own))) → ∃ ts η', loopC chk own tgt cond elt ds η = .ok (ts, η') ∧ I η' ∧ Picks R ds ts
  | [], η, h, _ => ⟨[], η, rfl, h, .nil⟩
  | d :: ds, η, h, st => by
    obtain ⟨η1, b, η2, e1, e2, ht, hf⟩ := st d η List.mem_cons_self h
    unfold loopC
    rw [e1]
    simp only [Rs.noX_ok, Rs.bind_ok]
    rw [e2]
    simp only [Rs.noX_ok, Rs.bind_ok]
    cases b with
    | true =>
      obtain ⟨t, η3, e3, r, f, k, hI⟩ := ht rfl
      rw [if_pos rfl, e3]
      simp only [Rs.noX_ok, Rs.bind_ok]
      rw [if_pos ⟨f, k⟩]
      obtain ⟨ts, η', e4, h4, pk⟩ := loopC_inv I R hI fun d' η hd => st d' η (List.mem_cons_of_mem _ hd)
      rw [e4]
      exact ⟨t :: ts, η', rfl, h4, .take r pk⟩
    | false =>
      obtain ⟨f, k, hI⟩ := hf rfl
      rw [if_neg Bool.false_ne_true, if_pos ⟨f, k⟩]
      obtain ⟨ts, η', e4, h4, pk⟩ := loopC_inv I R hI fun d' η hd => st d' η (List.mem_cons_of_mem _ hd)
      exact ⟨ts, η', e4, h4, .drop pk⟩
inductive All2 (c : PyData → T → Prop) : List PyData → List T → Prop
  | nil : All2 c [] []
  | cons {d ds t ts} : c d t → All2 c ds ts → All2 c (d :: ds) (t :: ts)
theorem All2.len {c : PyData → T → Prop} {ds : List PyData} {ts : List T} (h : All2 c ds ts) : ts.length = ds.length := by
  induction h with
  | nil => rfl
  | cons _ _ ih => simp [ih]
theorem All2.mem {c : PyData → T → Prop} {ds : List PyData} {ts : List T} (h : All2 c ds ts) : ∀ t ∈ ts, ∃ d ∈ ds, c d t := by
  induction h with
  | nil => simp
  | cons h _ ih =>
    intro t ht
    rcases List.mem_cons.mp ht with rfl | ht
    · exact ⟨_, List.mem_cons_self, h⟩
    · obtain ⟨d, hd, hc⟩ := ih t ht
      exact ⟨d, List.mem_cons_of_mem _ hd, hc⟩
theorem Picks.sub {ds : List PyData} {ts : List T} (h : Picks (fun d t => t = .sh d) ds ts) : ∃ ds' : List PyData, List.Sublist ds' ds ∧ ts = ds'.map T.sh := by
  induction h with
  | nil => exact ⟨[], .slnil, rfl⟩
  | take h _ ih =>
    obtain ⟨ds', h1, h2⟩ := ih
    exact ⟨_ :: ds', h1.cons_cons _, by rw [h, h2]; rfl⟩
  | drop _ ih =>
    obtain ⟨ds', h1, h2⟩ := ih
    exact ⟨ds', h1.cons _, h2⟩
theorem loopC_all {chk : Env → Bool} {own : List Nat} {tgt : FG} {elt : FE} (I : Env → Prop) (R : PyData → T → Prop) : ∀ {ds : List PyData} {η : Env}, I η →
    (∀ d η, d ∈ ds → I η → ∃ η1 t η3, tgt (.sh d) η = .ok η1 ∧ elt η1 = .ok (t, η3) ∧ R d t ∧ ownFree η3 own = true ∧ chk (wipeE η3 own) = true ∧ I (wipeE η3 own)) → ∃ ts η', loopC chk own tgt bTrue elt ds η = .ok (ts, η') ∧ I η' ∧ All2 R ds ts
  | [], η, h, _ => ⟨[], η, rfl, h, .nil⟩
  | d :: ds, η, h, st => by
    obtain ⟨η1, t, η3, e1, e2, r, f, k, hI⟩ := st d η List.mem_cons_self h
    obtain ⟨ts, η', e4, h4, pk⟩ := loopC_all (chk := chk) (own := own) (tgt := tgt) (elt := elt) I R hI fun d' η hd => st d' η (List.mem_cons_of_mem _ hd)
    unfold loopC
    rw [e1]
    simp only [Rs.noX_ok, Rs.bind_ok, bTrue, if_pos]
    rw [e2]
    simp only [Rs.noX_ok, Rs.bind_ok]
    rw [if_pos ⟨f, k⟩]
    rw [e4]
    exact ⟨t :: ts, η', rfl, h4, .cons r pk⟩
/-- .. where nothing changes: over things l that read as data by f -/
theorem loopC_pure {α : Type} {chk : Env → Bool} {own : List Nat} {tgt : FG} {cond : FB} {elt : FE} {η : Env} (f : α → PyData) (c : α → Bool) (t : α → T) : ∀ {l : List α},
    (∀ d, d ∈ l → ∃ η1 η2, tgt (.sh (f d)) η = .ok η1 ∧ cond η1 = .ok (c d, η2) ∧ (c d = false → ownFree η2 own = true ∧ wipeE η2 own = η) ∧ (c d = true → ∃ η3, elt η2 = .ok (t d, η3) ∧ ownFree η3 own = true ∧ wipeE η3 own = η)) →
    chk η = true → loopC chk own tgt cond elt (l.map f) η = .ok ((l.filter c).map t, η)
  | [], _, _ => rfl
  | d :: l, st, hc => by
    obtain ⟨η1, η2, e1, e2, hf, ht⟩ := st d List.mem_cons_self
    have ih := loopC_pure (chk := chk) (own := own) (tgt := tgt) (cond := cond) (elt := elt) (η := η) f c t (l := l) (fun d' hd => st d' (List.mem_cons_of_mem _ hd)) hc
    rw [List.map_cons]
    unfold loopC
    rw [e1]
    simp only [Rs.noX_ok, Rs.bind_ok]
    rw [e2]
    simp only [Rs.noX_ok, Rs.bind_ok]
    cases e : c d with
    | true =>
      obtain ⟨η3, e3, f', w⟩ := ht e
      rw [if_pos rfl, e3]
      simp only [Rs.noX_ok, Rs.bind_ok]
      rw [w, if_pos ⟨f', hc⟩, ih, List.filter_cons_of_pos e]
      rfl
    | false =>
      obtain ⟨f', w⟩ := hf e
      rw [if_neg Bool.false_ne_true, w, if_pos ⟨f', hc⟩, ih, List.filter_cons_of_neg (by rw [e]; exact Bool.false_ne_true)]
section
variable {α : Type} {own : List Nat} {i : Nat} {fi : FI} {tgt : FG} {cond : FB} {elt : FE} {η η1 : Env} {d0 : PyData} {ds : List PyData}
theorem eComp_pure (l : List α) (f : α → PyData) (c : α → Bool) (t : α → T) (hfi : fi η = .ok (l.map f, η1)) (hl : l.length < 16777216) (hf : ownFree η1 own = true) (hb : backE η1 own (wipeE η1 own) = η1)
    (st : ∀ d, d ∈ l → ∃ η2 η3, tgt (.sh (f d)) (wipeE η1 own) = .ok η2 ∧ cond η2 = .ok (c d, η3) ∧ (c d = false → ownFree η3 own = true ∧ wipeE η3 own = wipeE η1 own) ∧ (c d = true → ∃ η4, elt η3 = .ok (t d, η4) ∧ ownFree η4 own = true ∧ wipeE η4 own = wipeE η1 own)) :
    eComp own fi tgt cond elt η = .ok (.lst ((l.filter c).map t), η1) := by
  unfold eComp
  rw [hfi]
  have hl' : (l.map f).length < 16777216 := by rw [List.length_map]; exact hl
  simp only [Rs.bind_ok, hf, line, decide_eq_true hl', Bool.and_true, if_pos]
  rw [loopC_pure f c t st rfl]
  simp only [Rs.bind_ok, hb]
theorem eComp_map (l : List α) (f : α → PyData) (t : α → T) (hfi : fi η = .ok (l.map f, η1)) (hl : l.length < 16777216) (hf : ownFree η1 own = true) (hb : backE η1 own (wipeE η1 own) = η1)
    (st : ∀ d, d ∈ l → ∃ η2 η4, tgt (.sh (f d)) (wipeE η1 own) = .ok η2 ∧ elt η2 = .ok (t d, η4) ∧ ownFree η4 own = true ∧ wipeE η4 own = wipeE η1 own) :
    eComp own fi tgt bTrue elt η = .ok (.lst (l.map t), η1) := by
  have := eComp_pure (cond := bTrue) (elt := elt) (own := own) (tgt := tgt) l f (fun _ => true) t hfi hl hf hb fun d hd => by
    obtain ⟨η2, η4, a, b, c, e⟩ := st d hd
    exact ⟨η2, η2, a, rfl, fun h => (by cases h), fun _ => ⟨η4, b, c, e⟩⟩
  rw [this, List.filter_eq_self.mpr fun _ _ => rfl]
theorem eCompV_pure (l : List α) (f : α → PyData) (c : α → Bool) (t : α → T) (hp : pk η i = some d0) (hs : seqOf d0 = some (l.map f)) (hl : l.length < 16777216) (hf : ownFree η own = true) (hi : own.contains i = false) (hb : backE η own (wipeE η own) = η)
    (hw : pk (wipeE η own) i = some d0)
    (st : ∀ d, d ∈ l → ∃ η2 η3, tgt (.sh (f d)) (wipeE η own) = .ok η2 ∧ cond η2 = .ok (c d, η3) ∧ (c d = false → ownFree η3 own = true ∧ wipeE η3 own = wipeE η own) ∧ (c d = true → ∃ η4, elt η3 = .ok (t d, η4) ∧ ownFree η4 own = true ∧ wipeE η4 own = wipeE η own)) :
    eCompV own i tgt cond elt η = .ok (.lst ((l.filter c).map t), η) := by
  unfold eCompV
  rw [hp]
  have hl' : (l.map f).length < 16777216 := by rw [List.length_map]; exact hl
  simp only [hs, hf, line, decide_eq_true hl', hi, Bool.and_true, Bool.not_false, if_pos]
  rw [loopC_pure f c t st (pkIs_of hw)]
  simp only [Rs.bind_ok, hb]
theorem eCompV_map (l : List α) (f : α → PyData) (t : α → T) (hp : pk η i = some d0) (hs : seqOf d0 = some (l.map f)) (hl : l.length < 16777216) (hf : ownFree η own = true) (hi : own.contains i = false) (hb : backE η own (wipeE η own) = η)
    (hw : pk (wipeE η own) i = some d0)
    (st : ∀ d, d ∈ l → ∃ η2 η4, tgt (.sh (f d)) (wipeE η own) = .ok η2 ∧ elt η2 = .ok (t d, η4) ∧ ownFree η4 own = true ∧ wipeE η4 own = wipeE η own) :
    eCompV own i tgt bTrue elt η = .ok (.lst (l.map t), η) := by
  have := eCompV_pure (cond := bTrue) (elt := elt) (own := own) (tgt := tgt) l f (fun _ => true) t hp hs hl hf hi hb hw fun d hd => by
    obtain ⟨η2, η4, a, b, c, e⟩ := st d hd
    exact ⟨η2, η2, a, rfl, fun h => (by cases h), fun _ => ⟨η4, b, c, e⟩⟩
  rw [this, List.filter_eq_self.mpr fun _ _ => rfl]
end
/-! ### defs -/
theorem gP_of {N n : Nat} {fb : FS} {ds : List PyData} (hl : ds.length = n) {P : T → Prop} (h : (fb (startE N (ds.map T.sh))).Is fun p => match p.1 with
    | .ret t => P t
    | .nx => P (.sh .none)
    | _ => False) : ∃ t, gP N n fb ds = some t ∧ P t := by
  obtain ⟨⟨fl, η⟩, e, hp⟩ := h
  unfold gP
  rw [if_pos hl, e]
  cases fl with
  | nx => exact ⟨_, rfl, hp⟩
  | ret t => exact ⟨_, rfl, hp⟩
  | bk => exact hp.elim
  | ct => exact hp.elim
theorem gP_eq {N n : Nat} {fb : FS} {ds : List PyData} {t : T} {η : Env} (hl : ds.length = n) (h : fb (startE N (ds.map T.sh)) = .ok (.ret t, η)) : gP N n fb ds = some t := by
  unfold gP
  rw [if_pos hl, h]
  rfl
theorem gIO_of {N n : Nat} {fb : FS} {t0 : T} {ds : List PyData} (hl : ds.length + 1 = n) {P : T → T → Prop} (h : (fb (startE N (t0 :: ds.map T.sh))).Is fun p => ∃ t1, p.2[0]? = some (some t1) ∧ match p.1 with
    | .ret t => P t t1
    | .nx => P (.sh .none) t1
    | _ => False) : ∃ t t1, gIO N n fb t0 ds = some (t, t1) ∧ P t t1 := by
  obtain ⟨⟨fl, η⟩, e, t1, h0, hp⟩ := h
  unfold gIO
  rw [if_pos hl, e]
  have h0 : η[0]? = some (some t1) := h0
  cases fl with
  | nx => exact ⟨_, t1, by simp only [retOf, h0], hp⟩
  | ret t => exact ⟨_, t1, by simp only [retOf, h0], hp⟩
  | bk => exact hp.elim
  | ct => exact hp.elim
end Pv
set_option Elab.async false
set_option linter.all false
namespace Pv
open PySem L2
@[simp] theorem s_eC_eq_1 : type_of% @eC.eq_1 := @eC.eq_1
@[simp] theorem s_eV_eq_1 : type_of% @eV.eq_1 := @eV.eq_1
@[simp] theorem s_eBin_eq_1 : type_of% @eBin.eq_1 := @eBin.eq_1
@[simp] theorem s_eBinL'_eq_1 : type_of% @eBinL'.eq_1 := @eBinL'.eq_1
@[simp] theorem s_eBinL_eq_1 : type_of% @eBinL.eq_1 := @eBinL.eq_1
@[simp] theorem s_eBinR_eq_1 : type_of% @eBinR.eq_1 := @eBinR.eq_1
@[simp] theorem s_eBinLR_eq_1 : type_of% @eBinLR.eq_1 := @eBinLR.eq_1
@[simp] theorem s_fin1_eq_1 : type_of% @fin1.eq_1 := @fin1.eq_1
@[simp] theorem s_fin1_eq_2 : type_of% @fin1.eq_2 := @fin1.eq_2
@[simp] theorem s_bT_eq_1 : type_of% @bT.eq_1 := @bT.eq_1
@[simp] theorem s_bTru_eq_1 : type_of% @bTru.eq_1 := @bTru.eq_1
@[simp] theorem s_bAnd_eq_1 : type_of% @bAnd.eq_1 := @bAnd.eq_1
@[simp] theorem s_bOr_eq_1 : type_of% @bOr.eq_1 := @bOr.eq_1
@[simp] theorem s_bNot_eq_1 : type_of% @bNot.eq_1 := @bNot.eq_1
@[simp] theorem s_truth_eq_1 : type_of% @truth.eq_1 := @truth.eq_1
@[simp] theorem s_truth_eq_2 : type_of% @truth.eq_2 := @truth.eq_2
@[simp] theorem s_truth_eq_3 : type_of% @truth.eq_3 := @truth.eq_3
@[simp] theorem s_truth_eq_4 : type_of% @truth.eq_4 := @truth.eq_4
@[simp] theorem s_truth_eq_5 : type_of% @truth.eq_5 := @truth.eq_5
@[simp] theorem s_truth_eq_6 : type_of% @truth.eq_6 := @truth.eq_6
@[simp] theorem s_eAnd_eq_1 : type_of% @eAnd.eq_1 := @eAnd.eq_1
@[simp] theorem s_eOr_eq_1 : type_of% @eOr.eq_1 := @eOr.eq_1
@[simp] theorem s_eIf_eq_1 : type_of% @eIf.eq_1 := @eIf.eq_1
@[simp] theorem s_eUn_eq_1 : type_of% @eUn.eq_1 := @eUn.eq_1
@[simp] theorem s_eNot_eq_1 : type_of% @eNot.eq_1 := @eNot.eq_1
@[simp] theorem s_eNotV_eq_1 : type_of% @eNotV.eq_1 := @eNotV.eq_1
@[simp] theorem s_eChain_eq_1 : type_of% @eChain.eq_1 := @eChain.eq_1
@[simp] theorem s_aNil_eq_1 : type_of% @aNil.eq_1 := @aNil.eq_1
@[simp] theorem s_aCons_eq_1 : type_of% @aCons.eq_1 := @aCons.eq_1
@[simp] theorem s_eTup_eq_1 : type_of% @eTup.eq_1 := @eTup.eq_1
@[simp] theorem s_eLst_eq_1 : type_of% @eLst.eq_1 := @eLst.eq_1
@[simp] theorem s_eCall_eq_1 : type_of% @eCall.eq_1 := @eCall.eq_1
@[simp] theorem s_eCallV_eq_1 : type_of% @eCallV.eq_1 := @eCallV.eq_1
@[simp] theorem s_oNone_eq_1 : type_of% @oNone.eq_1 := @oNone.eq_1
@[simp] theorem s_oSome_eq_1 : type_of% @oSome.eq_1 := @oSome.eq_1
@[simp] theorem s_eSl_eq_1 : type_of% @eSl.eq_1 := @eSl.eq_1
@[simp] theorem s_eSlV_eq_1 : type_of% @eSlV.eq_1 := @eSlV.eq_1
@[simp] theorem s_eIs_eq_1 : type_of% @eIs.eq_1 := @eIs.eq_1
@[simp] theorem s_eIsV_eq_1 : type_of% @eIsV.eq_1 := @eIsV.eq_1
@[simp] theorem s_eDef_eq_1 : type_of% @eDef.eq_1 := @eDef.eq_1
@[simp] theorem s_eDefIO_eq_1 : type_of% @eDefIO.eq_1 := @eDefIO.eq_1
@[simp] theorem s_sNil_eq_1 : type_of% @sNil.eq_1 := @sNil.eq_1
@[simp] theorem s_sSeq_eq_1 : type_of% @sSeq.eq_1 := @sSeq.eq_1
@[simp] theorem s_sBad_eq_1 : type_of% @sBad.eq_1 := @sBad.eq_1
@[simp] theorem s_sExpr_eq_1 : type_of% @sExpr.eq_1 := @sExpr.eq_1
@[simp] theorem s_sRet_eq_1 : type_of% @sRet.eq_1 := @sRet.eq_1
@[simp] theorem s_sRetV_eq_1 : type_of% @sRetV.eq_1 := @sRetV.eq_1
@[simp] theorem s_sRetN_eq_1 : type_of% @sRetN.eq_1 := @sRetN.eq_1
@[simp] theorem s_sIf_eq_1 : type_of% @sIf.eq_1 := @sIf.eq_1
@[simp] theorem s_sBreak_eq_1 : type_of% @sBreak.eq_1 := @sBreak.eq_1
@[simp] theorem s_sCont_eq_1 : type_of% @sCont.eq_1 := @sCont.eq_1
@[simp] theorem s_sAsg_eq_1 : type_of% @sAsg.eq_1 := @sAsg.eq_1
@[simp] theorem s_gN_eq_1 : type_of% @gN.eq_1 := @gN.eq_1
@[simp] theorem s_gsNil_eq_1 : type_of% @gsNil.eq_1 := @gsNil.eq_1
@[simp] theorem s_gsNil_eq_2 : type_of% @gsNil.eq_2 := @gsNil.eq_2
@[simp] theorem s_gsCons_eq_1 : type_of% @gsCons.eq_1 := @gsCons.eq_1
@[simp] theorem s_gsCons_eq_2 : type_of% @gsCons.eq_2 := @gsCons.eq_2
@[simp] theorem s_gTupD_eq_1 : type_of% @gTupD.eq_1 := @gTupD.eq_1
@[simp] theorem s_gSub_eq_1 : type_of% @gSub.eq_1 := @gSub.eq_1
@[simp] theorem s_own_eq_1 : type_of% @own.eq_1 := @own.eq_1
@[simp] theorem s_setL_eq_1 : type_of% @setL.eq_1 := @setL.eq_1
@[simp] theorem s_pk_eq_1 : type_of% @pk.eq_1 := @pk.eq_1
@[simp] theorem s_pkD_eq_1 : type_of% @pkD.eq_1 := @pkD.eq_1
@[simp] theorem s_pkD_eq_2 : type_of% @pkD.eq_2 := @pkD.eq_2
@[simp] theorem s_shDs_eq_1 : type_of% @shDs.eq_1 := @shDs.eq_1
@[simp] theorem s_shDs_eq_2 : type_of% @shDs.eq_2 := @shDs.eq_2
@[simp] theorem s_shD_eq_1 : type_of% @shD.eq_1 := @shD.eq_1
@[simp] theorem s_shD_eq_2 : type_of% @shD.eq_2 := @shD.eq_2
@[simp] theorem s_eMt1_eq_1 : type_of% @eMt1.eq_1 := @eMt1.eq_1
@[simp] theorem s_eMt0_eq_1 : type_of% @eMt0.eq_1 := @eMt0.eq_1
@[simp] theorem s_iE_eq_1 : type_of% @iE.eq_1 := @iE.eq_1
@[simp] theorem s_iR1_eq_1 : type_of% @iR1.eq_1 := @iR1.eq_1
@[simp] theorem s_iR2_eq_1 : type_of% @iR2.eq_1 := @iR2.eq_1
@[simp] theorem s_iEn_eq_1 : type_of% @iEn.eq_1 := @iEn.eq_1
@[simp] theorem s_iZ_eq_1 : type_of% @iZ.eq_1 := @iZ.eq_1
@[simp] theorem s_startE_eq_1 : type_of% @startE.eq_1 := @startE.eq_1
@[simp] theorem s_T_val_eq_1 : type_of% @T.val.eq_1 := @T.val.eq_1
@[simp] theorem s_T_val_eq_2 : type_of% @T.val.eq_2 := @T.val.eq_2
@[simp] theorem s_T_vals_eq_1 : type_of% @T.vals.eq_1 := @T.vals.eq_1
@[simp] theorem s_T_vals_eq_2 : type_of% @T.vals.eq_2 := @T.vals.eq_2
@[simp] theorem s_wipeE_eq_1 : type_of% @wipeE.eq_1 := @wipeE.eq_1
@[simp] theorem s_wipeE_eq_2 : type_of% @wipeE.eq_2 := @wipeE.eq_2
@[simp] theorem s_backE_eq_1 : type_of% @backE.eq_1 := @backE.eq_1
@[simp] theorem s_backE_eq_2 : type_of% @backE.eq_2 := @backE.eq_2
@[simp] theorem s_ownFree_eq_1 : type_of% @ownFree.eq_1 := @ownFree.eq_1
@[simp] theorem s_free1_eq_1 : type_of% @free1.eq_1 := @free1.eq_1
@[simp] theorem s_seqOf_eq_1 : type_of% @seqOf.eq_1 := @seqOf.eq_1
@[simp] theorem s_seqOf_eq_2 : type_of% @seqOf.eq_2 := @seqOf.eq_2
@[simp] theorem s_seqOf_eq_3 : type_of% @seqOf.eq_3 := @seqOf.eq_3
@[simp] theorem s_bTrue_eq_1 : type_of% @bTrue.eq_1 := @bTrue.eq_1
@[simp] theorem s_eLstRg1_eq_1 : type_of% @eLstRg1.eq_1 := @eLstRg1.eq_1
@[simp] theorem s_eTupRg1_eq_1 : type_of% @eTupRg1.eq_1 := @eTupRg1.eq_1
@[simp] theorem s_isI_eq_1 : type_of% @isI.eq_1 := @isI.eq_1
@[simp] theorem s_isI_eq_2 : type_of% @isI.eq_2 := @isI.eq_2
@[simp] theorem s_isI_eq_3 : type_of% @isI.eq_3 := @isI.eq_3
@[simp] theorem s_isI_eq_4 : type_of% @isI.eq_4 := @isI.eq_4
@[simp] theorem s_isI_eq_5 : type_of% @isI.eq_5 := @isI.eq_5
@[simp] theorem s_isI_eq_6 : type_of% @isI.eq_6 := @isI.eq_6
@[simp] theorem s_isI_eq_7 : type_of% @isI.eq_7 := @isI.eq_7
@[simp] theorem s_isI_eq_8 : type_of% @isI.eq_8 := @isI.eq_8
@[simp] theorem s_goNil : type_of% @goNil.eq_1 := @goNil.eq_1
@[simp] theorem s_goCons : type_of% @goCons.eq_1 := @goCons.eq_1
@[simp] theorem s_goCons2 : type_of% @goCons.eq_2 := @goCons.eq_2
@[simp] theorem s_eMq : type_of% @eMq.eq_1 := @eMq.eq_1
@[simp] theorem s_eRevL : type_of% @eRevL.eq_1 := @eRevL.eq_1
@[simp] theorem s_eRevS : type_of% @eRevS.eq_1 := @eRevS.eq_1
@[simp] theorem s_iZ3 : type_of% @iZ3.eq_1 := @iZ3.eq_1
@[simp] theorem s_sPar : type_of% @sPar.eq_1 := @sPar.eq_1
@[simp] theorem s_eDct1 : type_of% @eDct1.eq_1 := @eDct1.eq_1
@[simp] theorem keyD_0 : keyD (.inl 0) = .int 0 := rfl
@[simp] theorem opEqS_str {a b : Str} : opEqS (.str a) (.str b) = some (.sh (.bool (decide (a = b)))) := rfl
@[simp] theorem opNeS_str {a b : Str} : opNeS (.str a) (.str b) = some (.sh (.bool (!decide (a = b)))) := rfl
@[simp] theorem s_sMul : type_of% @sMul.eq_1 := @sMul.eq_1
/-! ### operations on what is known -/
section
variable {i j : Int} {a b : List PyData} {x y : Bool} {s u : Str} {d e : PyData}
theorem mulFits_r (h : -18446744073709551616 < j ∧ j < 18446744073709551616) : mulFits i j = true := by
  unfold mulFits small64
  rw [decide_eq_true h.1, decide_eq_true h.2]
  simp
theorem mulFits_l (h : -18446744073709551616 < i ∧ i < 18446744073709551616) : mulFits i j = true := by
  unfold mulFits small64
  rw [decide_eq_true h.1, decide_eq_true h.2]
  simp
@[simp] theorem opAdd_int : opAdd (.int i) (.int j) = some (.sh (.int (i + j))) := rfl
theorem opAdd_tup (h : a.length + b.length ≤ 16777216) : opAdd (.tuple a) (.tuple b) = some (.sh (.tuple (a ++ b))) := if_pos h
theorem opAdd_list (h : a.length + b.length ≤ 16777216) : opAdd (.list a) (.list b) = some (.lst ((a ++ b).map T.sh)) := if_pos h
@[simp] theorem opSub_int : opSub (.int i) (.int j) = some (.sh (.int (i - j))) := rfl
theorem opMul_int (h : mulFits i j = true) : opMul (.int i) (.int j) = some (.sh (.int (i * j))) := if_pos h
@[simp] theorem opMul_intL (h : -18446744073709551616 < i ∧ i < 18446744073709551616) : opMul (.int i) (.int j) = some (.sh (.int (i * j))) := opMul_int (mulFits_l h)
@[simp] theorem opMul_intR (h : -18446744073709551616 < j ∧ j < 18446744073709551616) : opMul (.int i) (.int j) = some (.sh (.int (i * j))) := opMul_int (mulFits_r h)
theorem log2_small {n : Nat} (h : n < 2 ^ 64) : n.log2 < 9000 := by
  by_cases h0 : n = 0
  · subst h0; decide
  · have := (Nat.log2_lt h0).mpr h
    omega
@[simp] theorem opFdiv_int (h : 0 < j) (h2 : j < 18446744073709551616) : opFdiv (.int i) (.int j) = some (.sh (.int (i / j))) := by
  have c : (decide (0 < j) && decide (j.natAbs.log2 < 9000)) = true := by
    rw [decide_eq_true h, decide_eq_true (log2_small (by omega))]
    rfl
  exact if_pos c
@[simp] theorem opMod_int (h : 0 < j) : opMod (.int i) (.int j) = some (.sh (.int (i % j))) := by
  exact if_pos (decide_eq_true h)
theorem opPow_int (h : 0 ≤ j ∧ j ≤ 1000000 ∧ i.natAbs < 18446744073709551616) : opPow (.int i) (.int j) = some (.sh (.int (i ^ j.toNat))) := if_pos (decide_eq_true h)
@[simp] theorem shp_none : shp .none = true := by decide +kernel
@[simp] theorem shp_int : shp (.int i) = true := rfl
@[simp] theorem shp_bool : shp (.bool x) = true := rfl

theorem opEq_of (h1 : shp d = true) (h2 : shp e = true) : opEq d e = some (.sh (.bool (PyData.eqv d e))) := by
  unfold opEq
  rw [h1, h2]
  rfl
theorem opNe_of (h1 : shp d = true) (h2 : shp e = true) : opNe d e = some (.sh (.bool (!PyData.eqv d e))) := by
  unfold opNe
  rw [h1, h2]
  rfl
@[simp] theorem opEq_int : opEq (.int i) (.int j) = some (.sh (.bool (decide (i = j)))) := by
  rw [opEq_of rfl rfl]
  simp only [PyData.eqv]
  congr 3
@[simp] theorem opEq_bool : opEq (.bool x) (.bool y) = some (.sh (.bool (x == y))) := by
  rw [opEq_of rfl rfl]
  simp [PyData.eqv]
@[simp] theorem opEq_nn : opEq .none .none = some (.sh (.bool true)) := by
  rw [opEq_of rfl rfl]
  simp [PyData.eqv]
@[simp] theorem opEq_ni : opEq .none (.int i) = some (.sh (.bool false)) := by
  rw [opEq_of rfl rfl]
  simp [PyData.eqv]
@[simp] theorem opEq_in : opEq (.int i) .none = some (.sh (.bool false)) := by
  rw [opEq_of rfl rfl]
  simp [PyData.eqv]
@[simp] theorem opNe_int : opNe (.int i) (.int j) = some (.sh (.bool (!decide (i = j)))) := by
  rw [opNe_of rfl rfl]
  simp only [PyData.eqv]
  congr 3
@[simp] theorem opNe_bool : opNe (.bool x) (.bool y) = some (.sh (.bool (x != y))) := by
  rw [opNe_of rfl rfl]
  simp [PyData.eqv, bne]
@[simp] theorem opIs_none : opIs d .none = some (.sh (.bool (isNone d))) := by cases d <;> rfl
@[simp] theorem opIsNot_none : opIsNot d .none = some (.sh (.bool (!isNone d))) := by cases d <;> rfl
@[simp] theorem opIs_bool : opIs (.bool x) (.bool y) = some (.sh (.bool (x == y))) := rfl
@[simp] theorem opIsNot_bool : opIsNot (.bool x) (.bool y) = some (.sh (.bool (!(x == y)))) := rfl
@[simp] theorem isNone_int : isNone (.int i) = false := rfl
@[simp] theorem isNone_none : isNone .none = true := rfl
@[simp] theorem isNone_bool : isNone (.bool x) = false := rfl
@[simp] theorem isNone_tup : isNone (.tuple a) = false := rfl
@[simp] theorem isNone_list : isNone (.list a) = false := rfl
@[simp] theorem isNone_str : isNone (.str s) = false := rfl
@[simp] theorem opLt_int : opLt (.int i) (.int j) = some (.sh (.bool (decide (i < j)))) := rfl
@[simp] theorem opLe_int : opLe (.int i) (.int j) = some (.sh (.bool (decide (i ≤ j)))) := rfl
@[simp] theorem opGt_int : opGt (.int i) (.int j) = some (.sh (.bool (decide (j < i)))) := rfl
@[simp] theorem opGe_int : opGe (.int i) (.int j) = some (.sh (.bool (decide (j ≤ i)))) := rfl
@[simp] theorem opIx_list : opIx (.list a) (.int i) = (atI a i).map T.sh := rfl
@[simp] theorem opIx_tup : opIx (.tuple a) (.int i) = (atI a i).map T.sh := rfl
@[simp] theorem opSl_list {lo hi : Option Int} : opSl (.list a) lo hi = some (.lst ((cutA a lo hi).map T.sh)) := rfl
@[simp] theorem opSl_tup {lo hi : Option Int} : opSl (.tuple a) lo hi = some (.sh (.tuple (cutA a lo hi))) := rfl
@[simp] theorem opNeg_int : opNeg (.int i) = some (.sh (.int (-i))) := rfl
@[simp] theorem bLen_list : bLen [.list a] = some (.sh (.int a.length)) := rfl
@[simp] theorem bLen_tup : bLen [.tuple a] = some (.sh (.int a.length)) := rfl
@[simp] theorem bInt_int : bInt [.int i] = some (.sh (.int i)) := rfl
@[simp] theorem bInt_bool : bInt [.bool x] = some (.sh (.int (if x then 1 else 0))) := rfl
@[simp] theorem bAbs_int : bAbs [.int i] = some (.sh (.int (if i < 0 then -i else i))) := rfl
@[simp] theorem bMin_int : bMin [.int i, .int j] = some (.sh (.int (if j < i then j else i))) := rfl
@[simp] theorem bMax_int : bMax [.int i, .int j] = some (.sh (.int (if j > i then j else i))) := rfl
@[simp] theorem bTuple_list : bTuple [.list a] = some (.sh (.tuple a)) := rfl
@[simp] theorem bTuple_tup : bTuple [.tuple a] = some (.sh (.tuple a)) := rfl
@[simp] theorem bList_list : bList [.list a] = some (.lst (a.map T.sh)) := rfl
@[simp] theorem bList_tup : bList [.tuple a] = some (.lst (a.map T.sh)) := rfl
@[simp] theorem bSum_ints {ns : List Int} : bSum [.list (ns.map PyData.int)] = some (.sh (.int ns.sum)) := by simp [bSum]
@[simp] theorem bAll_bools {bs : List Bool} : bAll [.list (bs.map PyData.bool)] = some (.sh (.bool (bs.all id))) := by simp [bAll]
@[simp] theorem bAny_bools {bs : List Bool} : bAny [.list (bs.map PyData.bool)] = some (.sh (.bool (bs.any id))) := by simp [bAny]
@[simp] theorem vals_map_sh {α : Type} {l : List α} {g : α → PyData} : T.vals (l.map fun x => T.sh (g x)) = l.map g := by
  induction l with
  | nil => rfl
  | cons x l ih => simp [T.vals, ih]
@[simp] theorem vals_map_comp {α : Type} {l : List α} {g : α → PyData} : T.vals (l.map (T.sh ∘ g)) = l.map g := vals_map_sh
@[simp] theorem filter_tt {α : Type} {l : List α} : l.filter (fun _ => true) = l := List.filter_eq_self.mpr fun _ _ => rfl
@[simp] theorem shDs_map_sh {α : Type} {l : List α} {g : α → PyData} : shDs (l.map fun x => T.sh (g x)) = some (l.map g) := by
  induction l with
  | nil => rfl
  | cons x l ih => simp [shDs, shD, ih]
theorem ints_map' {α : Type} {l : List α} {g : α → Int} : intsOf (l.map fun x => PyData.int (g x)) = some (l.map g) := by
  induction l with
  | nil => rfl
  | cons x l ih => simp [intsOf, ih]
theorem bools_map' {α : Type} {l : List α} {g : α → Bool} : boolsOf (l.map fun x => PyData.bool (g x)) = some (l.map g) := by
  induction l with
  | nil => rfl
  | cons x l ih => simp [boolsOf, ih]
@[simp] theorem bSum_map {α : Type} {l : List α} {g : α → Int} : bSum [.list (l.map fun x => PyData.int (g x))] = some (.sh (.int (l.map g).sum)) := by simp [bSum, ints_map']
@[simp] theorem bAll_map {α : Type} {l : List α} {g : α → Bool} : bAll [.list (l.map fun x => PyData.bool (g x))] = some (.sh (.bool (l.all g))) := by simp [bAll, bools_map']
@[simp] theorem bAny_map {α : Type} {l : List α} {g : α → Bool} : bAny [.list (l.map fun x => PyData.bool (g x))] = some (.sh (.bool (l.any g))) := by simp [bAny, bools_map']
theorem bSorted_of {ds : List PyData} (h : sortable ds = true) : bSorted [.list ds] = some (.lst ((sortD ds).map T.sh)) := if_pos h
@[simp] theorem mAppend_of {us : List T} {t : T} (h : us.length < 16777216) : mAppend us t = some (us ++ [t], .sh .none) := by
  unfold mAppend line
  rw [if_pos (decide_eq_true h)]
@[simp] theorem mExtend_of {us ts : List T} (h : us.length + ts.length < 16777216) : mExtend us (.lst ts) = some (us ++ ts, .sh .none) := by
  unfold mExtend line
  simp only [decide_eq_true h, if_pos]
theorem atI_ok {ds : List PyData} {a : Int} (h0 : 0 ≤ a) (h1 : a < ds.length) : atI ds a = ds[a.toNat]? := by
  unfold atI ixN
  rw [if_pos h0, if_pos h1]
  rfl
theorem atI_of {α : Type} {ds : List α} {k : Nat} {v : α} (h : ds[k]? = some v) : atI ds (k : Int) = some v := atI_nat h
@[simp] theorem atI_0 {α : Type} {a : α} {l : List α} : atI (a :: l) 0 = some a := atI_nat (j := 0) rfl
@[simp] theorem atI_1 {α : Type} {a b : α} {l : List α} : atI (a :: b :: l) 1 = some b := atI_nat (j := 1) rfl
@[simp] theorem atI_2 {α : Type} {a b c : α} {l : List α} : atI (a :: b :: c :: l) 2 = some c := atI_nat (j := 2) rfl
@[simp] theorem atI_3 {α : Type} {a b c d : α} {l : List α} : atI (a :: b :: c :: d :: l) 3 = some d := atI_nat (j := 3) rfl
@[simp] theorem atI_4 {α : Type} {a b c d e : α} {l : List α} : atI (a :: b :: c :: d :: e :: l) 4 = some e := atI_nat (j := 4) rfl
@[simp] theorem ixN_0 {n : Nat} : ixN (n + 1) 0 = some 0 := by simp [ixN]
@[simp] theorem ixN_5 : ixN 5 0 = some 0 ∧ ixN 5 1 = some 1 ∧ ixN 5 2 = some 2 ∧ ixN 5 3 = some 3 ∧ ixN 5 4 = some 4 := by decide
@[simp] theorem fits_ok {n : Nat} (h : n ≤ 1000) : fits n = true := decide_eq_true h
theorem rg62_of {i : Int} (h : -1000000000 ≤ i) (h2 : i ≤ 1000000000) : rg62 i = true := by
  unfold rg62
  rw [decide_eq_true h, decide_eq_true h2]
  rfl
@[simp] theorem rg62_nat {n : Nat} (h : n ≤ 1000000) : rg62 (n : Int) = true := rg62_of (by omega) (by omega)
end
end Pv
set_option Elab.async false
set_option linter.all false
set_option maxRecDepth 100000
set_option maxHeartbeats 4000000
namespace Pv
open PySem L2
theorem sSeq_is {f g : FS} {η : Env} {P : Fl × Env → Prop} (h : (f η).Is fun p => match p.1 with
    | .nx => (g p.2).Is P
    | _ => P p) : (sSeq f g η).Is P := by
  obtain ⟨⟨fl, η1⟩, e, hp⟩ := h
  unfold sSeq
  rw [e]
  simp only [Rs.bind_ok]
  cases fl with
  | nx => exact hp
  | ret t => exact ⟨_, rfl, hp⟩
  | bk => exact ⟨_, rfl, hp⟩
  | ct => exact ⟨_, rfl, hp⟩
theorem sSeq_nx {f g : FS} {η η1 : Env} {P : Fl × Env → Prop} (h : f η = .ok (.nx, η1)) (k : (g η1).Is P) : (sSeq f g η).Is P := sSeq_is ⟨_, h, k⟩
/-! ### the hand that 18 laws draw from -/
def handT (cells : List Int) (a b c d : Int) : T := .lst [.sh (.list (cells.map PyData.int)), .sh (.int a), .sh (.int b), .sh (.int c), .sh (.int d)]
def Hand (t : T) : Prop := ∃ cells a b c d, t = handT cells a b c d ∧ (∀ x ∈ cells, 0 ≤ x) ∧ 0 ≤ a ∧ 0 ≤ b
def drawB : FS := (sSeq (sIf (bAnd (bT (eBin opEq (eBinL' opIx 0 (eC (.int 2))) (eC (.int 0)))) (bT (eBin opLt (eBinL' opIx 0 (eC (.int 1))) (eCall bLen (aCons (eBinL' opIx 0 (eC (.int 0))) aNil))))) (sSeq (sAsg (eBin opIx (eBinL' opIx 0 (eC (.int 0))) (eBinL' opIx 0 (eC (.int 1)))) (gN 2)) (sSeq (sAsg (eBin opAdd (eBinL' opIx 0 (eC (.int 1))) (eC (.int 1))) (gSub 0 (eC (.int 1)))) (sSeq (sAsg (eBin opMod (eCall bInt (aCons (eBin opAdd (eBinR opAdd (eBin opMul (eBinL' opIx 0 (eC (.int 3))) (eC (.int 48271))) 2) (eC (.int 31))) aNil)) (eC (.int 2147483647))) (gSub 0 (eC (.int 3)))) (sIf (bT (eBinL' opGe 2 (eBin opPow (eC (.int 10)) (eC (.int 18))))) (sAsg (eV 2) (gSub 0 (eC (.int 2)))) sNil)))) sNil) (sSeq (sIf (bT (eBin opGt (eBinL' opIx 0 (eC (.int 2))) (eC (.int 0)))) (sSeq (sAsg (eBinR opMod (eCall bInt (aCons (eBinL' opIx 0 (eC (.int 2))) aNil)) 1) (gN 3)) (sSeq (sAsg (eBinR opFdiv (eBinL' opIx 0 (eC (.int 2))) 1) (gSub 0 (eC (.int 2)))) (sRetV 3))) sNil) (sSeq (sAsg (eBin opAdd (eBinL' opIx 0 (eC (.int 4))) (eC (.int 1))) (gSub 0 (eC (.int 4)))) (sSeq (sAsg (eBin opMod (eCall bInt (aCons (eBin opMul (eCall bInt (aCons (eBin opAdd (eBinL' opIx 0 (eC (.int 3))) (eBin opMul (eC (.int 6151)) (eBinL' opIx 0 (eC (.int 4))))) aNil)) (eC (.int 40692))) aNil)) (eC (.int 2147483399))) (gN 4)) (sSeq (sAsg (eBin opMod (eCall bInt (aCons (eBinL' opMul 4 (eBin opAdd (eBinL' opFdiv 4 (eC (.int 1223))) (eC (.int 52027)))) aNil)) (eC (.int 2147483629))) (gN 4)) (sSeq (sAsg (eBin opMod (eCall bInt (aCons (eBinL' opMul 4 (eBin opAdd (eBinL' opFdiv 4 (eC (.int 2671))) (eC (.int 69621)))) aNil)) (eC (.int 2147483647))) (gN 4)) (sRet (eBinR opMod (eCall bInt (aCons (eBinL' opFdiv 4 (eC (.int 32))) aNil)) 1))))))))
def drawB1 : FS := (sIf (bAnd (bT (eBin opEq (eBinL' opIx 0 (eC (.int 2))) (eC (.int 0)))) (bT (eBin opLt (eBinL' opIx 0 (eC (.int 1))) (eCall bLen (aCons (eBinL' opIx 0 (eC (.int 0))) aNil))))) (sSeq (sAsg (eBin opIx (eBinL' opIx 0 (eC (.int 0))) (eBinL' opIx 0 (eC (.int 1)))) (gN 2)) (sSeq (sAsg (eBin opAdd (eBinL' opIx 0 (eC (.int 1))) (eC (.int 1))) (gSub 0 (eC (.int 1)))) (sSeq (sAsg (eBin opMod (eCall bInt (aCons (eBin opAdd (eBinR opAdd (eBin opMul (eBinL' opIx 0 (eC (.int 3))) (eC (.int 48271))) 2) (eC (.int 31))) aNil)) (eC (.int 2147483647))) (gSub 0 (eC (.int 3)))) (sIf (bT (eBinL' opGe 2 (eBin opPow (eC (.int 10)) (eC (.int 18))))) (sAsg (eV 2) (gSub 0 (eC (.int 2)))) sNil)))) sNil)
def drawB2 : FS := (sIf (bT (eBin opGt (eBinL' opIx 0 (eC (.int 2))) (eC (.int 0)))) (sSeq (sAsg (eBinR opMod (eCall bInt (aCons (eBinL' opIx 0 (eC (.int 2))) aNil)) 1) (gN 3)) (sSeq (sAsg (eBinR opFdiv (eBinL' opIx 0 (eC (.int 2))) 1) (gSub 0 (eC (.int 2)))) (sRetV 3))) sNil)
def drawB3 : FS := (sSeq (sAsg (eBin opAdd (eBinL' opIx 0 (eC (.int 4))) (eC (.int 1))) (gSub 0 (eC (.int 4)))) (sSeq (sAsg (eBin opMod (eCall bInt (aCons (eBin opMul (eCall bInt (aCons (eBin opAdd (eBinL' opIx 0 (eC (.int 3))) (eBin opMul (eC (.int 6151)) (eBinL' opIx 0 (eC (.int 4))))) aNil)) (eC (.int 40692))) aNil)) (eC (.int 2147483399))) (gN 4)) (sSeq (sAsg (eBin opMod (eCall bInt (aCons (eBinL' opMul 4 (eBin opAdd (eBinL' opFdiv 4 (eC (.int 1223))) (eC (.int 52027)))) aNil)) (eC (.int 2147483629))) (gN 4)) (sSeq (sAsg (eBin opMod (eCall bInt (aCons (eBinL' opMul 4 (eBin opAdd (eBinL' opFdiv 4 (eC (.int 2671))) (eC (.int 69621)))) aNil)) (eC (.int 2147483647))) (gN 4)) (sRet (eBinR opMod (eCall bInt (aCons (eBinL' opFdiv 4 (eC (.int 32))) aNil)) 1))))))
theorem drawB_eq : drawB = sSeq drawB1 (sSeq drawB2 drawB3) := rfl
theorem drawB1_ok {t : T} {many : Int} (h : Hand t) : ∃ t' x, Hand t' ∧ drawB1 [some t, some (.sh (.int many)), none, none, none] = .ok (.nx, [some t', some (.sh (.int many)), x, none, none]) := by
  obtain ⟨cells, a, b, c, d, rfl, hc, ha, hb⟩ := h
  unfold drawB1
  by_cases h1 : b = 0 ∧ a < cells.length
  · have hat : atI (cells.map PyData.int) a = some (.int (cells[a.toNat]'(by omega))) := by
      rw [atI_ok ha (by simpa using h1.2)]
      simp
    have hx : 0 ≤ cells[a.toNat]'(by omega) := hc _ (List.getElem_mem _)
    generalize cells[a.toNat]'(by omega) = x at hat hx
    obtain ⟨rfl, h1⟩ := h1
    by_cases h2 : (1000000000000000000 : Int) ≤ x
    · refine ⟨handT cells (a + 1) x ((c * 48271 + x + 31) % 2147483647) d, some (.sh (.int x)), ⟨_, _, _, _, _, rfl, hc, by omega, hx⟩, ?_⟩
      simp [handT, h1, hat, opPow_int, h2]
    · refine ⟨handT cells (a + 1) 0 ((c * 48271 + x + 31) % 2147483647) d, some (.sh (.int x)), ⟨_, _, _, _, _, rfl, hc, by omega, by omega⟩, ?_⟩
      simp [handT, h1, hat, opPow_int, h2]
  · refine ⟨handT cells a b c d, none, ⟨_, _, _, _, _, rfl, hc, ha, hb⟩, ?_⟩
    by_cases h2 : b = 0
    · have h3 : ¬ a < cells.length := fun z => h1 ⟨h2, z⟩
      simp [handT, h2, h3]
    · simp [handT, h2]
theorem drawB2_ok {t : T} {many : Int} {x : Option T} (hm : 1 ≤ many) (hm2 : many < 18446744073709551616) (h : Hand t) : (drawB2 [some t, some (.sh (.int many)), x, none, none]).Is fun p => (p.1 = .nx ∧ p.2 = [some t, some (.sh (.int many)), x, none, none]) ∨ ∃ t' f y, Hand t' ∧ 0 ≤ f ∧ f < many ∧ p = (.ret (.sh (.int f)), [some t', some (.sh (.int many)), x, y, none]) := by
  obtain ⟨cells, a, b, c, d, rfl, hc, ha, hb⟩ := h
  unfold drawB2
  by_cases h1 : 0 < b
  · refine ⟨(.ret (.sh (.int (b % many))), [some (handT cells a (b / many) c d), some (.sh (.int many)), x, none, none]), ?_, .inr ⟨_, _, none, ⟨_, _, _, _, _, rfl, hc, ha, Int.ediv_nonneg hb (by omega)⟩, Int.emod_nonneg _ (by omega), Int.emod_lt_of_pos _ (by omega), rfl⟩⟩
    simp [handT, h1, opMod_int (show 0 < many by omega), opFdiv_int (show 0 < many by omega) hm2]
  · refine ⟨(.nx, [some (handT cells a b c d), some (.sh (.int many)), x, none, none]), ?_, .inl ⟨rfl, rfl⟩⟩
    simp [handT, h1]
theorem drawB3_ok {t : T} {many : Int} {x : Option T} (hm : 1 ≤ many) (h : Hand t) : (drawB3 [some t, some (.sh (.int many)), x, none, none]).Is fun p => ∃ t' f y, Hand t' ∧ 0 ≤ f ∧ f < many ∧ p = (.ret (.sh (.int f)), [some t', some (.sh (.int many)), x, none, y]) := by
  obtain ⟨cells, a, b, c, d, rfl, hc, ha, hb⟩ := h
  have st : ∀ m : Int, 0 ≤ m → m < 2147483648 → mulFits m (m / 1223 + 52027) = true ∧ mulFits m (m / 2671 + 69621) = true := fun m h1 h2 => ⟨mulFits_l (by omega), mulFits_l (by omega)⟩
  have n1 := Int.emod_nonneg ((c + 6151 * (d + 1)) * 40692) (show (2147483399 : Int) ≠ 0 by decide)
  have n2 := Int.emod_lt_of_pos ((c + 6151 * (d + 1)) * 40692) (show (0 : Int) < 2147483399 by decide)
  have e1 := (st _ n1 (by omega)).1
  have hR : ∀ m1 : Int, m1 = (c + 6151 * (d + 1)) * 40692 % 2147483399 → ∀ m2 : Int, m2 = m1 * (m1 / 1223 + 52027) % 2147483629 → ∀ m3 : Int, m3 = m2 * (m2 / 2671 + 69621) % 2147483647 →
      drawB3 [some (handT cells a b c d), some (.sh (.int many)), x, none, none] = .ok (.ret (.sh (.int (m3 / 32 % many))), [some (handT cells a b c (d + 1)), some (.sh (.int many)), x, none, some (.sh (.int m3))]) := by
    intro m1 h1 m2 h2 m3 h3
    have e1 : mulFits m1 (m1 / 1223 + 52027) = true := (st m1 (by omega) (by omega)).1
    have b2 : 0 ≤ m2 ∧ m2 < 2147483629 := by
      rw [h2]
      exact ⟨Int.emod_nonneg _ (by decide), Int.emod_lt_of_pos _ (by decide)⟩
    have e2 : mulFits m2 (m2 / 2671 + 69621) = true := (st m2 b2.1 (by omega)).2
    unfold drawB3
    simp [handT, opMod_int (show 0 < many by omega), ← h1, opMul_int e1, ← h2, opMul_int e2, ← h3]
  refine ⟨_, hR _ rfl _ rfl _ rfl, _, _, _, ⟨_, _, _, _, _, rfl, hc, ha, hb⟩, Int.emod_nonneg _ (by omega), Int.emod_lt_of_pos _ (by omega), rfl⟩
/-- a draw gives a figure below many -/
theorem drawB_ok {t : T} {many : Int} (hm : 1 ≤ many) (hm2 : many < 18446744073709551616) (h : Hand t) : ∃ f t', gIO 5 2 drawB t [.int many] = some (.sh (.int f), t') ∧ Hand t' ∧ 0 ≤ f ∧ f < many := by
  have : ∃ u t', gIO 5 2 drawB t [.int many] = some (u, t') ∧ ∃ f, u = .sh (.int f) ∧ Hand t' ∧ 0 ≤ f ∧ f < many := by
    refine gIO_of (P := fun u t' => ∃ f, u = .sh (.int f) ∧ Hand t' ∧ 0 ≤ f ∧ f < many) rfl ?_
    rw [drawB_eq]
    obtain ⟨t1, x, h1, e1⟩ := drawB1_ok (many := many) h
    refine sSeq_nx e1 (sSeq_is ((drawB2_ok hm hm2 h1).mono fun p hp => ?_))
    rcases hp with ⟨e, e2⟩ | ⟨t', f, y, h2, f0, f1, rfl⟩
    · rw [e, e2]
      refine (drawB3_ok hm h1).mono fun p hp => ?_
      obtain ⟨t', f, y, h2, f0, f1, rfl⟩ := hp
      exact ⟨t', rfl, f, rfl, h2, f0, f1⟩
    · exact ⟨t', rfl, f, rfl, h2, f0, f1⟩
  obtain ⟨u, t', e, f, rfl, r⟩ := this
  exact ⟨f, t', e, r⟩
/-! ### the hand, one of the things -/
def handB : FS := (sSeq (sAsg (eComp [2] (iE (eSlV 0 oNone (oSome (eC (.int 63))))) (gN 2) bTrue (eCall bAbs (aCons (eCallV bInt 2) aNil))) (gN 1)) (sRet (eLst (aCons (eV 1) (aCons (eC (.int 0)) (aCons (eC (.int 0)) (aCons (eBin opAdd (eC (.int 97)) (eBin opMul (eC (.int 5)) (eCallV bLen 1))) (aCons (eC (.int 0)) aNil))))))))
theorem handB_ok {ns : List Int} (h : ns.length ≤ 63) : ∃ t, (gP 3 1 handB [.list (ns.map PyData.int)] = some t) ∧ Hand t := by
  have hcut : cutA (ns.map PyData.int) none (some 63) = ns.map PyData.int := by
    unfold cutA
    rw [show HT.sIx (ns.map PyData.int).length 0 none = 0 by rw [HT.sIx_none]]
    rw [show HT.sIx (ns.map PyData.int).length (ns.map PyData.int).length (some 63) = min 63 (ns.map PyData.int).length from HT.sIx_nat _ _ 63]
    simp only [List.length_map, List.drop_zero, Nat.sub_zero]
    rw [Nat.min_eq_right h]
    exact List.take_of_length_le (by simp)
  refine ⟨handT (ns.map fun x => if x < 0 then -x else x) 0 0 (97 + 5 * ns.length) 0, gP_eq rfl (η := [some (.sh (.list (ns.map PyData.int))), some (.sh (.list (ns.map fun x => PyData.int (if x < 0 then -x else x)))), none]) ?_, ⟨_, _, _, _, _, rfl, fun x hx => ?_, by omega, by omega⟩⟩
  · unfold handB
    have hc : eComp [2] (iE (eSlV 0 oNone (oSome (eC (.int 63))))) (gN 2) bTrue (eCall bAbs (aCons (eCallV bInt 2) aNil)) [some (.sh (.list (ns.map PyData.int))), none, none] = .ok (.lst (ns.map fun x => .sh (.int (if x < 0 then -x else x))), [some (.sh (.list (ns.map PyData.int))), none, none]) :=
      eComp_map ns PyData.int _ (by simp [hcut]) (by omega) (by simp) (by simp) fun x hx => ⟨_, [some (.sh (.list (ns.map PyData.int))), none, some (.sh (.int x))], rfl, by simp, by simp, by simp⟩
    simp [hc, handT]
  · obtain ⟨y, _, rfl⟩ := List.mem_map.mp hx
    split <;> omega
def someB : FS := (sRet (eBinL' opIx 1 (eDefIO (gIO 5 2 drawB) 0 (aCons (eCallV bLen 1) aNil))))
theorem someB_ok {t : T} {d : PyData} {ds : List PyData} (hd : d = .list ds ∨ d = .tuple ds) (h1 : ds ≠ []) (h2 : ds.length < 18446744073709551616) (h : Hand t) : ∃ x t', gIO 2 2 someB t [d] = some (.sh x, t') ∧ Hand t' ∧ x ∈ ds := by
  have hl : 0 < ds.length := List.length_pos_iff.mpr h1
  obtain ⟨f, t', e, h', f0, f1⟩ := drawB_ok (many := ds.length) (by omega) (by omega) h
  have hx : ∃ x, atI ds f = some x ∧ x ∈ ds := by
    refine ⟨ds[f.toNat]'(by omega), ?_, List.getElem_mem _⟩
    rw [atI_ok f0 f1]
    simp
  obtain ⟨x, hx, hm⟩ := hx
  have : ∃ u t', gIO 2 2 someB t [d] = some (u, t') ∧ ∃ x, u = .sh x ∧ Hand t' ∧ x ∈ ds := by
    refine gIO_of (P := fun u t' => ∃ x, u = .sh x ∧ Hand t' ∧ x ∈ ds) rfl ?_
    refine ⟨(.ret (.sh x), [some t', some (.sh d)]), ?_, t', rfl, x, rfl, h', hm⟩
    unfold someB
    rcases hd with rfl | rfl <;> (obtain ⟨cells, a, b, c, d, rfl, _⟩ := h; simp [handT] at e ⊢; simp [e, hx])
  obtain ⟨u, t', e, x, rfl, r⟩ := this
  exact ⟨x, t', e, r⟩
/-! ### the same data -/
def isB (Gs : List PyData → Option T) : FS := (sSeq (sIf (bTru (eIsV [.tuple, .list] 1)) (sSeq (sIf (bOr (bT (eBin opNe (eIsV [.tuple] 0) (eIsV [.tuple] 1))) (bNot (bTru (eIsV [.tuple, .list] 0)))) (sRet (eC (.bool false))) sNil) (sRet (eAnd (eBin opEq (eCallV bLen 0) (eCallV bLen 1)) (eCall bAll (aCons (eComp [2, 3] (iZ (eV 0) (eV 1)) (gTupD 2 (gsCons (gN 2) (gsCons (gN 3) gsNil))) bTrue (eDef Gs (aCons (eV 2) (aCons (eV 3) aNil)))) aNil))))) sNil) (sSeq (sIf (bOr (bTru (eIsV [.str] 1)) (bT (eBinL' opIs 1 (eC .none)))) (sRet (eAnd (eBin opEq (eIsV [.str] 0) (eIsV [.str] 1)) (eBinLR opEq 0 1))) sNil) (sRet (eAnd (eIsV [.int] 0) (eAnd (eBin opEq (eIsV [.bool] 0) (eIsV [.bool] 1)) (eBinLR opEq 0 1))))))
def isG : Nat → List PyData → Option T
  | 0 => fun _ => none
  | m + 1 => gP 4 2 (isB (isG m))
mutual
/-- data without dicts; d: to which depth -/
def plain : Nat → PyData → Bool
  | _, .none => true
  | _, .bool _ => true
  | _, .int _ => true
  | _, .str s => PyData.canLay0 (.str s)
  | n + 1, .list ds => plains n ds && decide (ds.length < 16777216)
  | n + 1, .tuple ds => plains n ds && decide (ds.length < 16777216)
  | _, _ => false
def plains : Nat → List PyData → Bool
  | _, [] => true
  | n, d :: ds => plain n d && plains n ds
end
theorem plains_mem {n : Nat} : ∀ {ds : List PyData}, plains n ds = true → ∀ d ∈ ds, plain n d = true
  | d :: ds, h, x, hx => by
    simp only [plains, Bool.and_eq_true] at h
    rcases List.mem_cons.mp hx with rfl | hx
    · exact h.1
    · exact plains_mem h.2 x hx
theorem plains_of {n : Nat} : ∀ {ds : List PyData}, (∀ d ∈ ds, plain n d = true) → plains n ds = true
  | [], _ => by simp [plains]
  | d :: ds, h => by
    simp only [plains, Bool.and_eq_true]
    exact ⟨h d List.mem_cons_self, plains_of fun x hx => h x (List.mem_cons_of_mem _ hx)⟩
theorem zipD_self : ∀ ds : List PyData, zipD ds ds = ds.map fun x => .tuple [x, x]
  | [] => rfl
  | d :: ds => by
    simp only [zipD, List.map_cons, zipD_self ds]
theorem isG_self : ∀ {n m : Nat} {d : PyData}, plain n d = true → n < m → isG m [d, d] = some (.sh (.bool true))
  | n, 0, d, _, h => absurd h (Nat.not_lt_zero _)
  | n, m + 1, d, hp, hm => by
    refine gP_eq rfl (η := [some (.sh d), some (.sh d), none, none]) ?_
    unfold isB
    have seq : ∀ (ds : List PyData) (n' : Nat), n = n' + 1 → plains n' ds = true → ds.length < 16777216 → d = .list ds ∨ d = .tuple ds →
        eComp [2, 3] (iZ (eV 0) (eV 1)) (gTupD 2 (gsCons (gN 2) (gsCons (gN 3) gsNil))) bTrue (eDef (isG m) (aCons (eV 2) (aCons (eV 3) aNil))) [some (.sh d), some (.sh d), none, none] = .ok (.lst (ds.map fun _ => .sh (.bool true)), [some (.sh d), some (.sh d), none, none]) := by
      intro ds n' hn h1 h2 hd
      refine eComp_map ds (fun x => .tuple [x, x]) _ (by rcases hd with rfl | rfl <;> simp [zipD_self]) h2 (by simp) (by simp) fun y hy => ?_
      have ih := isG_self (m := m) (plains_mem h1 y hy) (by omega)
      exact ⟨[some (.sh d), some (.sh d), some (.sh y), some (.sh y)], [some (.sh d), some (.sh d), some (.sh y), some (.sh y)], by simp, by simp [ih], by simp, by simp⟩
    cases d with
    | none => simp
    | bool b => simp
    | int i => simp
    | str s =>
      have h1 : shp (.str s) = true := by
        have hp : PyData.canLay0 (.str s) = true := by
          cases n <;> exact hp
        unfold shp SeqAt.shaped
        rw [hp]
        rfl
      simp [opEq_of h1 h1, PyData.eqv]
    | list ds =>
      cases n with
      | zero => simp [plain] at hp
      | succ n =>
        simp only [plain, Bool.and_eq_true, decide_eq_true_eq] at hp
        simp [seq ds n rfl hp.1 hp.2 (.inl rfl)]
    | tuple ds =>
      cases n with
      | zero => simp [plain] at hp
      | succ n =>
        simp only [plain, Bool.and_eq_true, decide_eq_true_eq] at hp
        simp [seq ds n rfl hp.1 hp.2 (.inr rfl)]
    | dict b => cases n <;> simp [plain] at hp
end Pv
set_option Elab.async false
set_option linter.all false
set_option maxRecDepth 100000
set_option maxHeartbeats 4000000
/-! the hand that 28 laws draw from; three numbers differ -/
namespace Pv
open PySem L2
section
variable (c2 c3 c4 : Int)
def drawA1 : FS := (sIf (bAnd (bT (eBin opEq (eBinL' opIx 0 (eC (.int 2))) (eC (.int 0)))) (bT (eBin opLt (eBinL' opIx 0 (eC (.int 1))) (eCall bLen (aCons (eBinL' opIx 0 (eC (.int 0))) aNil))))) (sSeq (sAsg (eBin opIx (eBinL' opIx 0 (eC (.int 0))) (eBinL' opIx 0 (eC (.int 1)))) (gN 2)) (sSeq (sAsg (eBin opAdd (eBinL' opIx 0 (eC (.int 1))) (eC (.int 1))) (gSub 0 (eC (.int 1)))) (sSeq (sAsg (eBin opMod (eCall bInt (aCons (eBin opAdd (eBin opAdd (eBin opMul (eBinL' opIx 0 (eC (.int 3))) (eC (.int 69621))) (eBinL' opMul 2 (eC (.int c2)))) (eC (.int c3))) aNil)) (eC (.int 2147483629))) (gSub 0 (eC (.int 3)))) (sIf (bT (eBinL' opGe 2 (eBin opPow (eC (.int 10)) (eC (.int 18))))) (sAsg (eV 2) (gSub 0 (eC (.int 2)))) sNil)))) sNil)
def drawA2 : FS := (sIf (bT (eBin opGt (eBinL' opIx 0 (eC (.int 2))) (eC (.int 0)))) (sSeq (sAsg (eBinR opMod (eCall bInt (aCons (eBinL' opIx 0 (eC (.int 2))) aNil)) 1) (gN 3)) (sSeq (sAsg (eBinR opFdiv (eBinL' opIx 0 (eC (.int 2))) 1) (gSub 0 (eC (.int 2)))) (sRetV 3))) sNil)
def drawA3 : FS := (sSeq (sAsg (eBin opAdd (eBinL' opIx 0 (eC (.int 4))) (eC (.int 1))) (gSub 0 (eC (.int 4)))) (sSeq (sAsg (eBin opMod (eCall bInt (aCons (eBin opMul (eCall bInt (aCons (eBin opAdd (eBinL' opIx 0 (eC (.int 3))) (eBin opMul (eC (.int 7919)) (eBinL' opIx 0 (eC (.int 4))))) aNil)) (eC (.int c4))) aNil)) (eC (.int 2147483647))) (gN 4)) (sSeq (sAsg (eBin opMod (eCall bInt (aCons (eBinL' opMul 4 (eBin opAdd (eBinL' opFdiv 4 (eC (.int 1009))) (eC (.int 69621)))) aNil)) (eC (.int 2147483647))) (gN 4)) (sSeq (sAsg (eBin opMod (eCall bInt (aCons (eBinL' opMul 4 (eBin opAdd (eBinL' opFdiv 4 (eC (.int 2003))) (eC (.int 40014)))) aNil)) (eC (.int 2147483563))) (gN 4)) (sRet (eBinR opMod (eCall bInt (aCons (eBinL' opFdiv 4 (eC (.int 16))) aNil)) 1))))))
def drawA : FS := sSeq (drawA1 c2 c3) (sSeq drawA2 (drawA3 c4))
end
variable {c2 c3 c4 : Int}
abbrev smallC (c : Int) : Prop := -1000000 < c ∧ c < 1000000
theorem mulC {c : Int} (k : smallC c) (x : Int) : opMul (.int x) (.int c) = some (.sh (.int (x * c))) := opMul_intR (by unfold smallC at k; omega)
theorem mulC' {c : Int} (k : smallC c) (x : Int) : opMul (.int c) (.int x) = some (.sh (.int (c * x))) := opMul_intL (by unfold smallC at k; omega)
theorem drawA1_ok (k2 : smallC c2) {t : T} {many : Int} (h : Hand t) : ∃ t' x, Hand t' ∧ drawA1 c2 c3 [some t, some (.sh (.int many)), none, none, none] = .ok (.nx, [some t', some (.sh (.int many)), x, none, none]) := by
  obtain ⟨cells, a, b, c, d, rfl, hc, ha, hb⟩ := h
  unfold drawA1
  by_cases h1 : b = 0 ∧ a < cells.length
  · have hat : atI (cells.map PyData.int) a = some (.int (cells[a.toNat]'(by omega))) := by
      rw [atI_ok ha (by simpa using h1.2)]
      simp
    have hx : 0 ≤ cells[a.toNat]'(by omega) := hc _ (List.getElem_mem _)
    generalize cells[a.toNat]'(by omega) = x at hat hx
    obtain ⟨rfl, h1⟩ := h1
    by_cases h2 : (1000000000000000000 : Int) ≤ x
    · refine ⟨handT cells (a + 1) x ((c * 69621 + x * c2 + c3) % 2147483629) d, some (.sh (.int x)), ⟨_, _, _, _, _, rfl, hc, by omega, hx⟩, ?_⟩
      simp [handT, h1, hat, opPow_int, h2, mulC k2]
    · refine ⟨handT cells (a + 1) 0 ((c * 69621 + x * c2 + c3) % 2147483629) d, some (.sh (.int x)), ⟨_, _, _, _, _, rfl, hc, by omega, by omega⟩, ?_⟩
      simp [handT, h1, hat, opPow_int, h2, mulC k2]
  · refine ⟨handT cells a b c d, none, ⟨_, _, _, _, _, rfl, hc, ha, hb⟩, ?_⟩
    by_cases h2 : b = 0
    · have h3 : ¬ a < cells.length := fun z => h1 ⟨h2, z⟩
      simp [handT, h2, h3]
    · simp [handT, h2]
theorem drawA2_ok {t : T} {many : Int} {x : Option T} (hm : 1 ≤ many) (hm2 : many < 18446744073709551616) (h : Hand t) : (drawA2 [some t, some (.sh (.int many)), x, none, none]).Is fun p => (p.1 = .nx ∧ p.2 = [some t, some (.sh (.int many)), x, none, none]) ∨ ∃ t' f y, Hand t' ∧ 0 ≤ f ∧ f < many ∧ p = (.ret (.sh (.int f)), [some t', some (.sh (.int many)), x, y, none]) := by
  obtain ⟨cells, a, b, c, d, rfl, hc, ha, hb⟩ := h
  unfold drawA2
  by_cases h1 : 0 < b
  · refine ⟨(.ret (.sh (.int (b % many))), [some (handT cells a (b / many) c d), some (.sh (.int many)), x, none, none]), ?_, .inr ⟨_, _, none, ⟨_, _, _, _, _, rfl, hc, ha, Int.ediv_nonneg hb (by omega)⟩, Int.emod_nonneg _ (by omega), Int.emod_lt_of_pos _ (by omega), rfl⟩⟩
    simp [handT, h1, opMod_int (show 0 < many by omega), opFdiv_int (show 0 < many by omega) hm2]
  · refine ⟨(.nx, [some (handT cells a b c d), some (.sh (.int many)), x, none, none]), ?_, .inl ⟨rfl, rfl⟩⟩
    simp [handT, h1]
theorem drawA3_ok (k4 : smallC c4) {t : T} {many : Int} {x : Option T} (hm : 1 ≤ many) (h : Hand t) : (drawA3 c4 [some t, some (.sh (.int many)), x, none, none]).Is fun p => ∃ t' f y, Hand t' ∧ 0 ≤ f ∧ f < many ∧ p = (.ret (.sh (.int f)), [some t', some (.sh (.int many)), x, none, y]) := by
  obtain ⟨cells, a, b, c, d, rfl, hc, ha, hb⟩ := h
  have st : ∀ m : Int, 0 ≤ m → m < 2147483648 → mulFits m (m / 1009 + 69621) = true ∧ mulFits m (m / 2003 + 40014) = true := fun m h1 h2 => ⟨mulFits_l (by omega), mulFits_l (by omega)⟩
  have n1 := Int.emod_nonneg ((c + 7919 * (d + 1)) * c4) (show (2147483647 : Int) ≠ 0 by decide)
  have n2 := Int.emod_lt_of_pos ((c + 7919 * (d + 1)) * c4) (show (0 : Int) < 2147483647 by decide)
  have e1 := (st _ n1 (by omega)).1
  have hR : ∀ m1 : Int, m1 = (c + 7919 * (d + 1)) * c4 % 2147483647 → ∀ m2 : Int, m2 = m1 * (m1 / 1009 + 69621) % 2147483647 → ∀ m3 : Int, m3 = m2 * (m2 / 2003 + 40014) % 2147483563 →
      drawA3 c4 [some (handT cells a b c d), some (.sh (.int many)), x, none, none] = .ok (.ret (.sh (.int (m3 / 16 % many))), [some (handT cells a b c (d + 1)), some (.sh (.int many)), x, none, some (.sh (.int m3))]) := by
    intro m1 h1 m2 h2 m3 h3
    have e1 : mulFits m1 (m1 / 1009 + 69621) = true := (st m1 (by omega) (by omega)).1
    have b2 : 0 ≤ m2 ∧ m2 < 2147483647 := by
      rw [h2]
      exact ⟨Int.emod_nonneg _ (by decide), Int.emod_lt_of_pos _ (by decide)⟩
    have e2 : mulFits m2 (m2 / 2003 + 40014) = true := (st m2 b2.1 (by omega)).2
    unfold drawA3
    simp [handT, opMod_int (show 0 < many by omega), mulC k4, ← h1, opMul_int e1, ← h2, opMul_int e2, ← h3]
  refine ⟨_, hR _ rfl _ rfl _ rfl, _, _, _, ⟨_, _, _, _, _, rfl, hc, ha, hb⟩, Int.emod_nonneg _ (by omega), Int.emod_lt_of_pos _ (by omega), rfl⟩
/-- a draw gives a figure below many -/
theorem drawA_ok (k2 : smallC c2) (k4 : smallC c4) {t : T} {many : Int} (hm : 1 ≤ many) (hm2 : many < 18446744073709551616) (h : Hand t) : ∃ f t', gIO 5 2 (drawA c2 c3 c4) t [.int many] = some (.sh (.int f), t') ∧ Hand t' ∧ 0 ≤ f ∧ f < many := by
  have : ∃ u t', gIO 5 2 (drawA c2 c3 c4) t [.int many] = some (u, t') ∧ ∃ f, u = .sh (.int f) ∧ Hand t' ∧ 0 ≤ f ∧ f < many := by
    refine gIO_of (P := fun u t' => ∃ f, u = .sh (.int f) ∧ Hand t' ∧ 0 ≤ f ∧ f < many) rfl ?_
    obtain ⟨t1, x, h1, e1⟩ := drawA1_ok k2 (many := many) h
    refine sSeq_nx e1 (sSeq_is ((drawA2_ok hm hm2 h1).mono fun p hp => ?_))
    rcases hp with ⟨e, e2⟩ | ⟨t', f, y, h2, f0, f1, rfl⟩
    · rw [e, e2]
      refine (drawA3_ok k4 hm h1).mono fun p hp => ?_
      obtain ⟨t', f, y, h2, f0, f1, rfl⟩ := hp
      exact ⟨t', rfl, f, rfl, h2, f0, f1⟩
    · exact ⟨t', rfl, f, rfl, h2, f0, f1⟩
  obtain ⟨u, t', e, f, rfl, r⟩ := this
  exact ⟨f, t', e, r⟩
/-! ### the hand, one of the things -/
def handA (c d : Int) : FS := (sSeq (sAsg (eComp [2] (iE (eSlV 0 oNone (oSome (eC (.int 63))))) (gN 2) bTrue (eCall bAbs (aCons (eCallV bInt 2) aNil))) (gN 1)) (sRet (eLst (aCons (eV 1) (aCons (eC (.int 0)) (aCons (eC (.int 0)) (aCons (eBin opAdd (eC (.int c)) (eBin opMul (eC (.int d)) (eCallV bLen 1))) (aCons (eC (.int 0)) aNil))))))))
theorem handA_ok {c d : Int} (hd : smallC d) {ns : List Int} (h : ns.length ≤ 63) : ∃ t, (gP 3 1 (handA c d) [.list (ns.map PyData.int)] = some t) ∧ Hand t := by
  have hcut : cutA (ns.map PyData.int) none (some 63) = ns.map PyData.int := by
    unfold cutA
    rw [show HT.sIx (ns.map PyData.int).length 0 none = 0 by rw [HT.sIx_none]]
    rw [show HT.sIx (ns.map PyData.int).length (ns.map PyData.int).length (some 63) = min 63 (ns.map PyData.int).length from HT.sIx_nat _ _ 63]
    simp only [List.length_map, List.drop_zero, Nat.sub_zero]
    rw [Nat.min_eq_right h]
    exact List.take_of_length_le (by simp)
  refine ⟨handT (ns.map fun x => if x < 0 then -x else x) 0 0 (c + d * ns.length) 0, gP_eq rfl (η := [some (.sh (.list (ns.map PyData.int))), some (.sh (.list (ns.map fun x => PyData.int (if x < 0 then -x else x)))), none]) ?_, ⟨_, _, _, _, _, rfl, fun x hx => ?_, by omega, by omega⟩⟩
  · unfold handA
    have hc : eComp [2] (iE (eSlV 0 oNone (oSome (eC (.int 63))))) (gN 2) bTrue (eCall bAbs (aCons (eCallV bInt 2) aNil)) [some (.sh (.list (ns.map PyData.int))), none, none] = .ok (.lst (ns.map fun x => .sh (.int (if x < 0 then -x else x))), [some (.sh (.list (ns.map PyData.int))), none, none]) :=
      eComp_map ns PyData.int _ (by simp [hcut]) (by omega) (by simp) (by simp) fun x hx => ⟨_, [some (.sh (.list (ns.map PyData.int))), none, some (.sh (.int x))], rfl, by simp, by simp, by simp⟩
    simp [hc, handT, mulC' hd]
  · obtain ⟨y, _, rfl⟩ := List.mem_map.mp hx
    split <;> omega
def someA (c2 c3 c4 : Int) : FS := (sRet (eBinL' opIx 1 (eDefIO (gIO 5 2 (drawA c2 c3 c4)) 0 (aCons (eCallV bLen 1) aNil))))
theorem someA_ok (k2 : smallC c2) (k4 : smallC c4) {t : T} {d : PyData} {ds : List PyData} (hd : d = .list ds ∨ d = .tuple ds) (h1 : ds ≠ []) (h2 : ds.length < 18446744073709551616) (h : Hand t) : ∃ x t', gIO 2 2 (someA c2 c3 c4) t [d] = some (.sh x, t') ∧ Hand t' ∧ x ∈ ds := by
  have hl : 0 < ds.length := List.length_pos_iff.mpr h1
  obtain ⟨f, t', e, h', f0, f1⟩ := drawA_ok (c3 := c3) k2 k4 (many := ds.length) (by omega) (by omega) h
  have hx : ∃ x, atI ds f = some x ∧ x ∈ ds := by
    refine ⟨ds[f.toNat]'(by omega), ?_, List.getElem_mem _⟩
    rw [atI_ok f0 f1]
    simp
  obtain ⟨x, hx, hm⟩ := hx
  have : ∃ u t', gIO 2 2 (someA c2 c3 c4) t [d] = some (u, t') ∧ ∃ x, u = .sh x ∧ Hand t' ∧ x ∈ ds := by
    refine gIO_of (P := fun u t' => ∃ x, u = .sh x ∧ Hand t' ∧ x ∈ ds) rfl ?_
    refine ⟨(.ret (.sh x), [some t', some (.sh d)]), ?_, t', rfl, x, rfl, h', hm⟩
    unfold someA
    rcases hd with rfl | rfl <;> (obtain ⟨cells, a, b, c, d, rfl, _⟩ := h; simp [handT] at e ⊢; simp [e, hx])
  obtain ⟨u, t', e, x, rfl, r⟩ := this
  exact ⟨x, t', e, r⟩
end Pv
set_option Elab.async false
set_option linter.all false
set_option maxRecDepth 100000
set_option maxHeartbeats 4000000
namespace Pv
open PySem L2
mutual
theorem plain_lay : ∀ {d : PyData} {n : Nat}, plain n d = true → d.canLay0 = true
  | .none, _, _ => rfl
  | .bool _, _, _ => rfl
  | .int _, _, _ => rfl
  | .str s, n, h => by cases n <;> exact h
  | .list ds, n, h => by
    cases n with
    | zero => simp [plain] at h
    | succ n =>
      simp only [plain, Bool.and_eq_true] at h
      simp only [PyData.canLay0]
      exact plains_lay h.1
  | .tuple ds, n, h => by
    cases n with
    | zero => simp [plain] at h
    | succ n =>
      simp only [plain, Bool.and_eq_true] at h
      simp only [PyData.canLay0]
      exact plains_lay h.1
  | .dict ds, n, h => by cases n <;> simp [plain] at h
theorem plains_lay : ∀ {ds : List PyData} {n : Nat}, plains n ds = true → PyData.canLayAll0 ds = true
  | [], _, _ => rfl
  | d :: ds, n, h => by
    simp only [plains, Bool.and_eq_true] at h
    simp only [PyData.canLayAll0, Bool.and_eq_true]
    exact ⟨plain_lay h.1, plains_lay h.2⟩
end
mutual
theorem plain_depth : ∀ {d : PyData} {n : Nat}, plain n d = true → d.depth ≤ n
  | .none, _, _ => Nat.zero_le _
  | .bool _, _, _ => Nat.zero_le _
  | .int _, _, _ => Nat.zero_le _
  | .str s, n, h => Nat.zero_le _
  | .list ds, n, h => by
    cases n with
    | zero => simp [plain] at h
    | succ n =>
      simp only [plain, Bool.and_eq_true] at h
      simp only [PyData.depth]
      exact Nat.succ_le_succ (plains_depth h.1)
  | .tuple ds, n, h => by
    cases n with
    | zero => simp [plain] at h
    | succ n =>
      simp only [plain, Bool.and_eq_true] at h
      simp only [PyData.depth]
      exact Nat.succ_le_succ (plains_depth h.1)
  | .dict ds, n, h => by cases n <;> simp [plain] at h
theorem plains_depth : ∀ {ds : List PyData} {n : Nat}, plains n ds = true → PyData.depthAll ds ≤ n
  | [], _, _ => Nat.zero_le _
  | d :: ds, n, h => by
    simp only [plains, Bool.and_eq_true] at h
    simp only [PyData.depthAll]
    exact Nat.max_le.mpr ⟨plain_depth h.1, plains_depth h.2⟩
end
theorem plain_shp {d : PyData} {n : Nat} (h : plain n d = true) (hn : n ≤ 64) : shp d = true := by
  unfold shp SeqAt.shaped
  rw [plain_lay h, decide_eq_true (Nat.le_trans (plain_depth h) hn)]
  rfl
theorem plains_shp {ds : List PyData} {n : Nat} (h : plains n ds = true) (hn : n ≤ 63) : shpAll ds = true := by
  unfold shpAll shp SeqAt.shaped
  have h1 : (PyData.list ds).canLay0 = true := by
    simp only [PyData.canLay0]
    exact plains_lay h
  have h2 : (PyData.list ds).depth ≤ 64 := by
    simp only [PyData.depth]
    have := plains_depth h
    omega
  rw [h1, decide_eq_true h2]
  rfl
theorem opIn_tup {d : PyData} {es : List PyData} (h1 : shp d = true) (h2 : shpAll es = true) : opIn d (.tuple es) = some (.sh (.bool (inD d es))) := by
  unfold opIn
  simp only [h1, h2, Bool.and_true, if_pos]
theorem opIn_list {d : PyData} {es : List PyData} (h1 : shp d = true) (h2 : shpAll es = true) : opIn d (.list es) = some (.sh (.bool (inD d es))) := by
  unfold opIn
  simp only [h1, h2, Bool.and_true, if_pos]
theorem opNotIn_tup {d : PyData} {es : List PyData} (h1 : shp d = true) (h2 : shpAll es = true) : opNotIn d (.tuple es) = some (.sh (.bool (!inD d es))) := by
  unfold opNotIn
  simp only [h1, h2, Bool.and_true, if_pos]
theorem opNotIn_list {d : PyData} {es : List PyData} (h1 : shp d = true) (h2 : shpAll es = true) : opNotIn d (.list es) = some (.sh (.bool (!inD d es))) := by
  unfold opNotIn
  simp only [h1, h2, Bool.and_true, if_pos]
theorem inD_map {α : Type} {l : List α} {f : α → PyData} {d : PyData} : inD d (l.map f) = l.any fun x => PyData.eqv (f x) d := by
  unfold inD
  rw [List.any_map]
  rfl
theorem plains_map {α : Type} {l : List α} {f : α → PyData} {n : Nat} (h : ∀ x ∈ l, plain n (f x) = true) : plains n (l.map f) = true := plains_of fun d hd => by
  obtain ⟨x, hx, rfl⟩ := List.mem_map.mp hd
  exact h x hx
theorem plain_tup {ds : List PyData} {n : Nat} (h : plains n ds = true) (hl : ds.length < 16777216) : plain (n + 1) (.tuple ds) = true := by
  simp only [plain, Bool.and_eq_true, decide_eq_true_eq]
  exact ⟨h, hl⟩
theorem plain_list {ds : List PyData} {n : Nat} (h : plains n ds = true) (hl : ds.length < 16777216) : plain (n + 1) (.list ds) = true := by
  simp only [plain, Bool.and_eq_true, decide_eq_true_eq]
  exact ⟨h, hl⟩
@[simp] theorem plain_int {i : Int} {n : Nat} : plain n (.int i) = true := by cases n <;> rfl
@[simp] theorem plain_none {n : Nat} : plain n .none = true := by cases n <;> rfl
@[simp] theorem plain_bool {b : Bool} {n : Nat} : plain n (.bool b) = true := by cases n <;> rfl
theorem eqv_int {i j : Int} : PyData.eqv (.int i) (.int j) = decide (i = j) := by
  simp only [PyData.eqv]
  rfl
theorem eqvAll_ints : ∀ {a b : List Int}, PyData.eqvAll (a.map PyData.int) (b.map PyData.int) = decide (a = b)
  | [], [] => rfl
  | [], _ :: _ => rfl
  | _ :: _, [] => rfl
  | x :: a, y :: b => by
    simp only [List.map_cons, PyData.eqvAll, eqv_int, eqvAll_ints (a := a) (b := b)]
    by_cases h : x = y <;> by_cases h2 : a = b <;> simp [h, h2]
end Pv
set_option Elab.async false
set_option linter.all false
set_option maxRecDepth 100000
set_option maxHeartbeats 4000000
/-! comprehensions with one name, or two, whose item leaves the names as they are: one equation a body -/
namespace Pv
open PySem L2 PyProof.Rows
theorem set_get {η : Env} {k : Nat} (hk : k < η.length) (x : Option T) : (η.set k x).set k (η[k]?.join) = η := by
  rw [List.set_set, List.getElem?_eq_getElem hk]
  exact List.set_getElem_self hk
theorem free1_own {η : Env} {k : Nat} {d : PyData} (hk : k < η.length) : free1 (η.set k (some (.sh d))) k = true := by
  unfold free1
  rw [List.getElem?_set_self hk]
section
variable {α : Type} {k j i : Nat} {fi : FI} {cond : FB} {elt : FE} {η η1 : Env} {d0 : PyData}
theorem back1 (hk : k < η.length) : backE η [k] (wipeE η [k]) = η := set_get hk none
theorem eCompV1_pure (l : List α) (f : α → PyData) (c : α → Bool) (t : α → T) (hp : pk η i = some d0) (hs : seqOf d0 = some (l.map f)) (hl : l.length < 16777216) (hk : k < η.length) (hf : free1 η k = true) (hik : i ≠ k)
    (st : ∀ d, d ∈ l → cond (η.set k (some (.sh (f d)))) = .ok (c d, η.set k (some (.sh (f d)))) ∧ (c d = true → elt (η.set k (some (.sh (f d)))) = .ok (t d, η.set k (some (.sh (f d)))))) :
    eCompV [k] i (gN k) cond elt η = .ok (.lst ((l.filter c).map t), η) := by
  have hw : pk (wipeE η [k]) i = some d0 := by
    show pk (η.set k none) i = _
    rw [← hp]
    simp only [pk, List.getElem?_set_ne (Ne.symm hik)]
  refine eCompV_pure l f c t hp hs hl (by simp only [ownFree, List.all_cons, hf, List.all_nil, Bool.and_true]) (by simp only [List.contains_cons, List.contains_nil, Bool.or_false, beq_eq_false_iff_ne, ne_eq]; exact hik) (back1 hk) hw fun d hd => ?_
  obtain ⟨h1, h2⟩ := st d hd
  have e : gN k (.sh (f d)) (wipeE η [k]) = .ok (η.set k (some (.sh (f d)))) := by
    show Rs.ok ((η.set k none).set k _) = _
    rw [List.set_set]
  have fr : ownFree (η.set k (some (.sh (f d)))) [k] = true := by simp only [ownFree, List.all_cons, free1_own hk, List.all_nil, Bool.and_true]
  have wp : wipeE (η.set k (some (.sh (f d)))) [k] = wipeE η [k] := List.set_set ..
  exact ⟨_, _, e, h1, fun _ => ⟨fr, wp⟩, fun hc => ⟨_, h2 hc, fr, wp⟩⟩
theorem eCompV1_map (l : List α) (f : α → PyData) (t : α → T) (hp : pk η i = some d0) (hs : seqOf d0 = some (l.map f)) (hl : l.length < 16777216) (hk : k < η.length) (hf : free1 η k = true) (hik : i ≠ k)
    (st : ∀ d, d ∈ l → elt (η.set k (some (.sh (f d)))) = .ok (t d, η.set k (some (.sh (f d))))) :
    eCompV [k] i (gN k) bTrue elt η = .ok (.lst (l.map t), η) := by
  have := eCompV1_pure (cond := bTrue) (elt := elt) l f (fun _ => true) t hp hs hl hk hf hik fun d hd => ⟨rfl, fun _ => st d hd⟩
  rw [this, List.filter_eq_self.mpr fun _ _ => rfl]
theorem eComp1_pure (l : List α) (f : α → PyData) (c : α → Bool) (t : α → T) (hfi : fi η = .ok (l.map f, η1)) (hl : l.length < 16777216) (hk : k < η1.length) (hf : free1 η1 k = true)
    (st : ∀ d, d ∈ l → cond (η1.set k (some (.sh (f d)))) = .ok (c d, η1.set k (some (.sh (f d)))) ∧ (c d = true → elt (η1.set k (some (.sh (f d)))) = .ok (t d, η1.set k (some (.sh (f d)))))) :
    eComp [k] fi (gN k) cond elt η = .ok (.lst ((l.filter c).map t), η1) := by
  refine eComp_pure l f c t hfi hl (by simp only [ownFree, List.all_cons, hf, List.all_nil, Bool.and_true]) (back1 hk) fun d hd => ?_
  obtain ⟨h1, h2⟩ := st d hd
  have e : gN k (.sh (f d)) (wipeE η1 [k]) = .ok (η1.set k (some (.sh (f d)))) := by
    show Rs.ok ((η1.set k none).set k _) = _
    rw [List.set_set]
  have fr : ownFree (η1.set k (some (.sh (f d)))) [k] = true := by simp only [ownFree, List.all_cons, free1_own hk, List.all_nil, Bool.and_true]
  have wp : wipeE (η1.set k (some (.sh (f d)))) [k] = wipeE η1 [k] := List.set_set ..
  exact ⟨_, _, e, h1, fun _ => ⟨fr, wp⟩, fun hc => ⟨_, h2 hc, fr, wp⟩⟩
theorem eComp1_map (l : List α) (f : α → PyData) (t : α → T) (hfi : fi η = .ok (l.map f, η1)) (hl : l.length < 16777216) (hk : k < η1.length) (hf : free1 η1 k = true)
    (st : ∀ d, d ∈ l → elt (η1.set k (some (.sh (f d)))) = .ok (t d, η1.set k (some (.sh (f d))))) :
    eComp [k] fi (gN k) bTrue elt η = .ok (.lst (l.map t), η1) := by
  have := eComp1_pure (cond := bTrue) (elt := elt) l f (fun _ => true) t hfi hl hk hf fun d hd => ⟨rfl, fun _ => st d hd⟩
  rw [this, List.filter_eq_self.mpr fun _ _ => rfl]
theorem back2 (hjk : j ≠ k) (hj : j < η.length) (hk : k < η.length) : backE η [j, k] (wipeE η [j, k]) = η := by
  show (((η.set k none).set j none).set j (η[j]?.join)).set k (η[k]?.join) = η
  have e1 : ((η.set k none).set j none).set j (η[j]?.join) = η.set k none := by
    have := set_get (η := η.set k none) (k := j) (by rw [List.length_set]; exact hj) none
    rw [List.getElem?_set_ne (Ne.symm hjk)] at this
    exact this
  rw [e1]
  exact set_get hk none
theorem free2 (hjk : j ≠ k) (hj : j < η.length) (hk : k < η.length) {a b : PyData} : ownFree ((η.set j (some (.sh a))).set k (some (.sh b))) [j, k] = true := by
  simp only [ownFree, List.all_cons, List.all_nil, Bool.and_true, Bool.and_eq_true]
  refine ⟨?_, free1_own (by rw [List.length_set]; exact hk)⟩
  unfold free1
  rw [List.getElem?_set_ne (Ne.symm hjk), List.getElem?_set_self hj]
theorem eComp2_pure (l : List α) (f g : α → PyData) (c : α → Bool) (t : α → T) (hfi : fi η = .ok (l.map fun x => .tuple [f x, g x], η1)) (hl : l.length < 16777216) (hjk : j ≠ k) (hj : j < η1.length) (hk : k < η1.length) (hf : free1 η1 j = true) (hf2 : free1 η1 k = true)
    (st : ∀ d, d ∈ l → cond ((η1.set j (some (.sh (f d)))).set k (some (.sh (g d)))) = .ok (c d, (η1.set j (some (.sh (f d)))).set k (some (.sh (g d)))) ∧ (c d = true → elt ((η1.set j (some (.sh (f d)))).set k (some (.sh (g d)))) = .ok (t d, (η1.set j (some (.sh (f d)))).set k (some (.sh (g d)))))) :
    eComp [j, k] fi (gTupD 2 (gsCons (gN j) (gsCons (gN k) gsNil))) cond elt η = .ok (.lst ((l.filter c).map t), η1) := by
  refine eComp_pure l (fun x => .tuple [f x, g x]) c t hfi hl (by simp only [ownFree, List.all_cons, hf, hf2, List.all_nil, Bool.and_true]) (back2 hjk hj hk) fun d hd => ?_
  obtain ⟨h1, h2⟩ := st d hd
  have e0 : (((η1.set k none).set j none).set j (some (.sh (f d)))).set k (some (.sh (g d))) = (η1.set j (some (.sh (f d)))).set k (some (.sh (g d))) := by
    rw [List.set_set, List.set_comm _ _ hjk, List.set_set, List.set_comm _ _ (Ne.symm hjk)]
  have e : gTupD 2 (gsCons (gN j) (gsCons (gN k) gsNil)) (.sh (.tuple [f d, g d])) (wipeE η1 [j, k]) = .ok ((η1.set j (some (.sh (f d)))).set k (some (.sh (g d)))) := by
    rw [← e0]
    rfl
  have wp : wipeE ((η1.set j (some (.sh (f d)))).set k (some (.sh (g d)))) [j, k] = wipeE η1 [j, k] := by
    show (((η1.set j (some (.sh (f d)))).set k (some (.sh (g d)))).set k none).set j none = (η1.set k none).set j none
    rw [List.set_set, List.set_comm _ _ (Ne.symm hjk), List.set_set, List.set_comm _ _ hjk]
  exact ⟨_, _, e, h1, fun _ => ⟨free2 hjk hj hk, wp⟩, fun hc => ⟨_, h2 hc, free2 hjk hj hk, wp⟩⟩
theorem eComp2_map (l : List α) (f g : α → PyData) (t : α → T) (hfi : fi η = .ok (l.map fun x => .tuple [f x, g x], η1)) (hl : l.length < 16777216) (hjk : j ≠ k) (hj : j < η1.length) (hk : k < η1.length) (hf : free1 η1 j = true) (hf2 : free1 η1 k = true)
    (st : ∀ d, d ∈ l → elt ((η1.set j (some (.sh (f d)))).set k (some (.sh (g d)))) = .ok (t d, (η1.set j (some (.sh (f d)))).set k (some (.sh (g d))))) :
    eComp [j, k] fi (gTupD 2 (gsCons (gN j) (gsCons (gN k) gsNil))) bTrue elt η = .ok (.lst (l.map t), η1) := by
  have := eComp2_pure (cond := bTrue) (elt := elt) l f g (fun _ => true) t hfi hl hjk hj hk hf hf2 fun d hd => ⟨rfl, fun _ => st d hd⟩
  rw [this, List.filter_eq_self.mpr fun _ _ => rfl]
end
/-! slices at plain numbers -/
theorem cutA_hi {α : Type} (l : List α) (j : Nat) : cutA l none (some (j : Int)) = l.take j := by
  unfold cutA
  rw [HT.sIx_none, HT.sIx_nat, Nat.sub_zero, List.drop_zero]
  by_cases h : j ≤ l.length
  · rw [Nat.min_eq_left h]
  · rw [Nat.min_eq_right (by omega), List.take_length, List.take_of_length_le (by omega)]
theorem cutA_lo {α : Type} (l : List α) (j : Nat) : cutA l (some (j : Int)) none = l.drop j := by
  unfold cutA
  rw [HT.sIx_none, HT.sIx_nat]
  by_cases h : j ≤ l.length
  · rw [Nat.min_eq_left h]
    exact List.take_of_length_le (by rw [List.length_drop]; omega)
  · rw [Nat.min_eq_right (by omega), List.drop_length, List.drop_of_length_le (by omega), List.take_nil]
theorem opMul_list {a : List PyData} {k : Int} (h : a.length * k.toNat ≤ 16777216) (h1 : -1000000000 ≤ k) (h2 : k ≤ 1000000000) : opMul (.list a) (.int k) = some (.lst ((List.replicate k.toNat a).flatten.map T.sh)) := if_pos ⟨h, h1, h2⟩
/-! a comprehension over range whose item draws: the hand is at slot j -/
theorem eComp_io {own_ : Nat} {j n : Nat} {fi : FI} {elt : FE} {η η1 : Env} {t : T} (P : T → Prop) (hfi : fi η = .ok (rgD 0 n, η1)) (hn : n < 1000000) (hj : η1[j]? = some (some t)) (ht : Hand t) (hne : own_ ≠ j) (ho : own_ < η1.length) (hfr : free1 η1 own_ = true)
    (st : ∀ (i : Nat) (t : T), Hand t → ∃ x t', elt ((η1.set j (some t)).set own_ (some (.sh (.int (i : Nat))))) = .ok (x, (η1.set j (some t')).set own_ (some (.sh (.int (i : Nat))))) ∧ Hand t' ∧ P x) :
    ∃ ts t', eComp [own_] fi (gN own_) bTrue elt η = .ok (.lst ts, η1.set j (some t')) ∧ Hand t' ∧ ts.length = n ∧ ∀ x ∈ ts, P x := by
  have hjl : j < η1.length := (List.getElem?_eq_some_iff.mp hj).1
  have hds : rgD 0 (n : Int) = (List.range n).map fun i => PyData.int (i : Nat) := by
    unfold rgD
    simp
  have h0 : wipeE η1 [own_] = (η1.set j (some t)).set own_ none := by
    show η1.set own_ none = _
    rw [set_self hj]
  obtain ⟨ts, η', e2, ⟨t2, h2, rfl⟩, pk⟩ := loopC_all (chk := fun _ => true) (own := [own_]) (tgt := gN own_) (elt := elt) (fun η => ∃ t, Hand t ∧ η = (η1.set j (some t)).set own_ none) (fun _ x => P x) (ds := rgD 0 n) (η := wipeE η1 [own_]) ⟨t, ht, h0⟩ (by
    rintro d η hd ⟨t2, h2, rfl⟩
    rw [hds] at hd
    obtain ⟨i, _, rfl⟩ := List.mem_map.mp hd
    obtain ⟨x, t3, e3, h3, hx⟩ := st i t2 h2
    refine ⟨(η1.set j (some t2)).set own_ (some (.sh (.int (i : Nat)))), x, (η1.set j (some t3)).set own_ (some (.sh (.int (i : Nat)))), ?_, e3, hx, ?_, rfl, t3, h3, ?_⟩
    · show Rs.ok (List.set _ own_ _) = _
      rw [List.set_set]
    · simp only [ownFree, List.all_cons, List.all_nil, Bool.and_true]
      exact free1_own (by rw [List.length_set]; exact ho)
    · show List.set (List.set (List.set η1 j (some t3)) own_ _) own_ none = _
      rw [List.set_set])
  have hlen := pk.len
  refine ⟨ts, t2, ?_, h2, by rw [hlen, hds, List.length_map, List.length_range], fun x hx => by
    obtain ⟨_, _, h⟩ := pk.mem x hx
    exact h⟩
  unfold eComp
  rw [hfi]
  have hll : (rgD 0 (n : Int)).length < 16777216 := by rw [hds, List.length_map, List.length_range]; omega
  have hof : ownFree η1 [own_] = true := by simp only [ownFree, List.all_cons, hfr, List.all_nil, Bool.and_true]
  simp only [Rs.bind_ok, hof, line, decide_eq_true hll, Bool.and_true, if_pos]
  rw [e2]
  simp only [Rs.bind_ok]
  congr 2
  show List.set (List.set _ own_ none) own_ (η1[own_]?.join) = _
  have := set_get (η := η1.set j (some t2)) (k := own_) (by rw [List.length_set]; exact ho) none
  rw [List.getElem?_set_ne (Ne.symm hne)] at this
  exact this
theorem pick_list {α : Type} (f : α → PyData) (S : α → Prop) : ∀ {ts : List T}, (∀ x ∈ ts, ∃ a, S a ∧ x = .sh (f a)) → ∃ l : List α, ts = l.map (fun a => T.sh (f a)) ∧ ∀ a ∈ l, S a
  | [], _ => ⟨[], rfl, fun _ h => (List.not_mem_nil h).elim⟩
  | x :: ts, h => by
    obtain ⟨l, e, hl⟩ := pick_list f S (ts := ts) fun y hy => h y (List.mem_cons_of_mem _ hy)
    obtain ⟨a, ha, rfl⟩ := h x List.mem_cons_self
    exact ⟨a :: l, by rw [e]; rfl, fun b hb => by
      rcases List.mem_cons.mp hb with rfl | hb
      · exact ha
      · exact hl b hb⟩
theorem hand_T {t : T} (h : Hand t) : ∃ a b c d e, t = handT a b c d e := by obtain ⟨a, b, c, d, e, rfl, _⟩ := h; exact ⟨a, b, c, d, e, rfl⟩
end Pv
set_option Elab.async false
set_option linter.all false
set_option maxRecDepth 100000
set_option maxHeartbeats 4000000
/-! more that is evaluated alike in many laws: range over n, three names, slices, numbers that are compared -/
namespace Pv
open PySem L2 PyProof.Rows
theorem rgN_ok {n : Nat} (h : n ≤ 1000000) : rg62 (n : Int) = true := rg62_of (by omega) (by omega)
def natsL (n : Nat) : List PyData := (List.range n).map fun i => PyData.int (i : Nat)
theorem rgN (n : Nat) : rgD 0 n = natsL n := by
  unfold rgD natsL
  simp
/-- range over a number that f gives -/
theorem iR1_of {f : FE} {η η1 : Env} {n : Nat} (h : f η = .ok (.sh (.int (n : Nat)), η1)) (hn : n ≤ 1000000) : iR1 f η = .ok (natsL n, η1) := by
  unfold iR1
  rw [h]
  simp only [Rs.bind_ok, rgN_ok hn, if_pos, rgN]
theorem iR1_c {η : Env} {n : Nat} (h : n ≤ 1000000) : iR1 (eC (.int (n : Nat))) η = .ok (natsL n, η) := iR1_of rfl h
theorem iR1_v {η : Env} {j n : Nat} (hj : η[j]? = some (some (.sh (.int (n : Nat))))) (h : n ≤ 1000000) : iR1 (eV j) η = .ok (natsL n, η) := iR1_of (by unfold eV; rw [hj]) h
theorem range_get {n k x : Nat} (h : (List.range n)[k]? = some x) : x = k ∧ k < n := by
  obtain ⟨h1, h2⟩ := List.getElem?_eq_some_iff.mp h
  rw [List.getElem_range] at h2
  exact ⟨h2.symm, by simpa using h1⟩
theorem take_range {α : Type} {n k : Nat} (h : k < n) (f : Nat → α) : ((List.range n).take (k + 1)).map f = ((List.range n).take k).map f ++ [f k] := by
  rw [List.take_succ_eq_append_getElem (by simpa using h), List.map_append, List.getElem_range]
  rfl
theorem cutA_lo1 {α : Type} (l : List α) (j : Nat) : cutA l (some ((j : Int) + 1)) none = l.drop (j + 1) := cutA_lo l (j + 1)
/-! three names -/
theorem back3 {η : Env} {i j k : Nat} (hij : i ≠ j) (hik : i ≠ k) (hjk : j ≠ k) (hi : i < η.length) (hj : j < η.length) (hk : k < η.length) : backE η [i, j, k] (wipeE η [i, j, k]) = η := by
  show ((((((η.set k none).set j none).set i none).set i (η[i]?.join)).set j (η[j]?.join)).set k (η[k]?.join)) = η
  have e1 : (((η.set k none).set j none).set i none).set i (η[i]?.join) = (η.set k none).set j none := by
    have := set_get (η := (η.set k none).set j none) (k := i) (by rw [List.length_set, List.length_set]; exact hi) none
    rw [List.getElem?_set_ne (Ne.symm hij), List.getElem?_set_ne (Ne.symm hik)] at this
    exact this
  have e2 : ((η.set k none).set j none).set j (η[j]?.join) = η.set k none := by
    have := set_get (η := η.set k none) (k := j) (by rw [List.length_set]; exact hj) none
    rw [List.getElem?_set_ne (Ne.symm hjk)] at this
    exact this
  rw [e1, e2]
  exact set_get hk none
theorem eComp3_map {α : Type} {i j k : Nat} {fi : FI} {elt : FE} {η η1 : Env} (l : List α) (f g h : α → PyData) (t : α → T) (hfi : fi η = .ok (l.map fun x => .tuple [f x, g x, h x], η1)) (hl : l.length < 16777216) (hij : i ≠ j) (hik : i ≠ k) (hjk : j ≠ k) (hi : i < η1.length) (hj : j < η1.length) (hk : k < η1.length) (f1 : free1 η1 i = true) (f2 : free1 η1 j = true) (f3 : free1 η1 k = true)
    (st : ∀ d, d ∈ l → elt (((η1.set i (some (.sh (f d)))).set j (some (.sh (g d)))).set k (some (.sh (h d)))) = .ok (t d, ((η1.set i (some (.sh (f d)))).set j (some (.sh (g d)))).set k (some (.sh (h d))))) :
    eComp [i, j, k] fi (gTupD 3 (gsCons (gN i) (gsCons (gN j) (gsCons (gN k) gsNil)))) bTrue elt η = .ok (.lst (l.map t), η1) := by
  refine eComp_map l (fun x => .tuple [f x, g x, h x]) t hfi hl (by simp only [ownFree, List.all_cons, f1, f2, f3, List.all_nil, Bool.and_true]) (back3 hij hik hjk hi hj hk) fun d hd => ?_
  have e0 : (((((η1.set k none).set j none).set i none).set i (some (.sh (f d)))).set j (some (.sh (g d)))).set k (some (.sh (h d))) = ((η1.set i (some (.sh (f d)))).set j (some (.sh (g d)))).set k (some (.sh (h d))) := by
    rw [List.set_set, List.set_comm _ _ (Ne.symm hij), List.set_set, List.set_comm _ _ (Ne.symm hik), List.set_comm _ _ (Ne.symm hjk), List.set_set]
  have e : gTupD 3 (gsCons (gN i) (gsCons (gN j) (gsCons (gN k) gsNil))) (.sh (.tuple [f d, g d, h d])) (wipeE η1 [i, j, k]) = .ok (((η1.set i (some (.sh (f d)))).set j (some (.sh (g d)))).set k (some (.sh (h d)))) := by
    rw [← e0]
    rfl
  refine ⟨_, _, e, st d hd, ?_, ?_⟩
  · have g1 : (((η1.set i (some (T.sh (f d)))).set j (some (T.sh (g d)))).set k (some (T.sh (h d))))[i]? = some (some (T.sh (f d))) := by
      rw [List.getElem?_set_ne (Ne.symm hik), List.getElem?_set_ne (Ne.symm hij), List.getElem?_set_self hi]
    have g2 : (((η1.set i (some (T.sh (f d)))).set j (some (T.sh (g d)))).set k (some (T.sh (h d))))[j]? = some (some (T.sh (g d))) := by
      rw [List.getElem?_set_ne (Ne.symm hjk), List.getElem?_set_self (by rw [List.length_set]; exact hj)]
    have g3 : (((η1.set i (some (T.sh (f d)))).set j (some (T.sh (g d)))).set k (some (T.sh (h d))))[k]? = some (some (T.sh (h d))) := by
      rw [List.getElem?_set_self (by rw [List.length_set, List.length_set]; exact hk)]
    simp only [ownFree, List.all_cons, List.all_nil, free1, g1, g2, g3, Bool.and_true]
  · show (((((η1.set i (some (T.sh (f d)))).set j (some (T.sh (g d)))).set k (some (T.sh (h d)))).set k none).set j none).set i none = ((η1.set k none).set j none).set i none
    refine List.ext_getElem? fun n => ?_
    simp only [List.getElem?_set, List.length_set]
    by_cases a : i = n <;> by_cases b : j = n <;> by_cases c : k = n <;> simp [a, b, c]
/-! min, max of numbers -/
theorem cmpAll_ints {ns : List Int} : cmpAll (ns.map PyData.int) = true := by
  unfold cmpAll alikeAll2
  have h1 : PyData.canLayAll0 (ns.map PyData.int) = true := plains_lay (n := 0) (plains_map fun x _ => plain_int)
  have h2 : PyData.depthAll (ns.map PyData.int) ≤ 0 := plains_depth (n := 0) (plains_map fun x _ => plain_int)
  have h3 : SeqAt.shaped (.list (ns.map PyData.int)) = true := by
    unfold SeqAt.shaped
    have : (PyData.list (ns.map PyData.int)).canLay0 = true := by simp only [PyData.canLay0]; exact h1
    rw [this]
    have h5 : (PyData.list (ns.map PyData.int)).depth ≤ 64 := by
      simp only [PyData.depth]
      omega
    rw [decide_eq_true h5]
    rfl
  rw [h3, decide_eq_true (Nat.le_trans h2 (by decide))]
  simp only [Bool.and_true, Bool.and_eq_true, List.all_eq_true, List.mem_map]
  constructor
  · rintro _ ⟨x, _, rfl⟩ _ ⟨y, _, rfl⟩
    simp only [W.alike]
  · rintro _ ⟨x, _, rfl⟩
    rfl
theorem bMin_tup {ns : List Int} {n : Int} (h : n ∈ ns) (hle : ∀ y ∈ ns, n ≤ y) : bMin [.tuple (ns.map PyData.int)] = some (.sh (.int n)) := by
  cases ns with
  | nil => cases h
  | cons k ns =>
    have e : bMin [.tuple ((k :: ns).map PyData.int)] = if cmpAll ((k :: ns).map PyData.int) then some (.sh (W.minD (.int k) (ns.map PyData.int))) else none := rfl
    rw [e, cmpAll_ints, if_pos rfl, W.minD_ints]
    have key : ∀ (ns : List Int) (k : Int), (ns.foldl min k) ∈ k :: ns ∧ ∀ y ∈ k :: ns, ns.foldl min k ≤ y := by
      intro ns
      induction ns with
      | nil => intro k; simp
      | cons x ns ih =>
        intro k
        obtain ⟨a, b⟩ := ih (min k x)
        have hb := b (min k x) List.mem_cons_self
        simp only [List.foldl_cons]
        refine ⟨?_, fun y hy => ?_⟩
        · rcases List.mem_cons.mp a with a | a
          · rw [a]
            rcases Int.le_total k x with c | c
            · rw [Int.min_eq_left c]; exact List.mem_cons_self
            · rw [Int.min_eq_right c]; exact List.mem_cons_of_mem _ List.mem_cons_self
          · exact List.mem_cons_of_mem _ (List.mem_cons_of_mem _ a)
        · rcases List.mem_cons.mp hy with rfl | hy
          · omega
          · rcases List.mem_cons.mp hy with rfl | hy
            · omega
            · exact b y (List.mem_cons_of_mem _ hy)
    obtain ⟨a, b⟩ := key ns k
    have h1 := b n h
    have h2 := hle _ a
    rw [show ns.foldl min k = n by omega]
theorem maxI_eq {n k : Int} {ns : List Int} (h : n ∈ k :: ns) (hle : ∀ y ∈ k :: ns, y ≤ n) : maxI k ns = n := by
  obtain ⟨a, b⟩ := maxI_spec ns k
  have := b n h
  have := hle _ a
  omega
theorem bMax_ints {ns : List Int} {n : Int} (h : n ∈ ns) (hle : ∀ y ∈ ns, y ≤ n) : bMax [.list (ns.map PyData.int)] = some (.sh (.int n)) := by
  cases ns with
  | nil => cases h
  | cons k ns =>
    have e : bMax [.list ((k :: ns).map PyData.int)] = match intsOf ((k :: ns).map PyData.int) with
      | some (n :: ns) => some (.sh (.int (maxI n ns)))
      | some [] => none
      | none => match (k :: ns).map PyData.int with
        | d :: ds => if cmpAll (d :: ds) then some (.sh (W.maxD d ds)) else none
        | [] => none := rfl
    rw [e, ints_map]
    show some (T.sh (.int (maxI k ns))) = _
    rw [maxI_eq h hle]
/-- the least of some data, told -/
theorem minD_best {b : PyData} : ∀ {xs : List PyData} {x : PyData}, (∀ y ∈ x :: xs, y = b ∨ (W.dataLt b y = true ∧ W.dataLt y b = false)) → b ∈ x :: xs → W.minD x xs = b
  | [], x, _, hb => by
    rcases List.mem_singleton.mp hb with rfl
    rfl
  | y :: xs, x, h, hb => by
    show W.minD (if W.dataLt y x then y else x) xs = b
    refine minD_best (fun z hz => ?_) ?_
    · rcases List.mem_cons.mp hz with rfl | hz
      · split
        · exact h y (by simp)
        · exact h x (by simp)
      · exact h z (by simp [hz])
    · rcases List.mem_cons.mp hb with rfl | hb
      · rcases h y (by simp) with rfl | ⟨_, e⟩
        · split <;> exact List.mem_cons_self
        · rw [e]; exact List.mem_cons_self
      · rcases List.mem_cons.mp hb with rfl | hb
        · rcases h x (by simp) with rfl | ⟨e, _⟩
          · split <;> exact List.mem_cons_self
          · rw [e]; exact List.mem_cons_self
        · exact List.mem_cons_of_mem _ hb
theorem gP_nx {N n : Nat} {fb : FS} {ds : List PyData} {η : Env} (hl : ds.length = n) (h : fb (startE N (ds.map T.sh)) = .ok (.nx, η)) : gP N n fb ds = some (.sh .none) := by
  unfold gP
  rw [if_pos hl, h]
  rfl
@[simp] theorem all_const {α : Type} {l : List α} : (l.all fun _ => true) = true := List.all_eq_true.mpr fun _ _ => rfl
/-! a comprehension with one name, whose item changes something: the names stand as E tells of a state s -/
inductive All3 {α : Type} (c : α → T → Prop) : List α → List T → Prop
  | nil : All3 c [] []
  | cons {d ds t ts} : c d t → All3 c ds ts → All3 c (d :: ds) (t :: ts)
theorem All3.len {α : Type} {c : α → T → Prop} {ds : List α} {ts : List T} (h : All3 c ds ts) : ts.length = ds.length := by
  induction h with
  | nil => rfl
  | cons _ _ ih => simp [ih]
theorem All3.map {α : Type} {c : α → T → Prop} {g : α → T} {ds : List α} {ts : List T} (h : All3 c ds ts) (k : ∀ a t, c a t → t = g a) : ts = ds.map g := by
  induction h with
  | nil => rfl
  | cons h _ ih => rw [List.map_cons, k _ _ h, ih]
theorem All3.mem {α : Type} {c : α → T → Prop} {ds : List α} {ts : List T} (h : All3 c ds ts) : ∀ t ∈ ts, ∃ d ∈ ds, c d t := by
  induction h with
  | nil => simp
  | cons h _ ih =>
    intro t ht
    rcases List.mem_cons.mp ht with rfl | ht
    · exact ⟨_, List.mem_cons_self, h⟩
    · obtain ⟨d, hd, hc⟩ := ih t ht
      exact ⟨d, List.mem_cons_of_mem _ hd, hc⟩
/-- the things behind the values, one for each -/
theorem All3.pick {α β : Type} {c : α → β → Prop} {f : β → PyData} {ds : List α} {ts : List T} (h : All3 (fun a t => ∃ b, c a b ∧ t = .sh (f b)) ds ts) : ∃ bs : List β, ts = bs.map (fun b => T.sh (f b)) ∧ bs.length = ds.length ∧ ∀ (i : Nat) (a : α) (b : β), ds[i]? = some a → bs[i]? = some b → c a b := by
  induction h with
  | nil => exact ⟨[], rfl, rfl, fun i a b h => by simp at h⟩
  | cons h _ ih =>
    obtain ⟨bs, e, hl, hi⟩ := ih
    obtain ⟨b, hb, rfl⟩ := h
    refine ⟨b :: bs, by rw [e]; rfl, by simp [hl], fun i a b' h1 h2 => ?_⟩
    cases i with
    | zero => cases h1; cases h2; exact hb
    | succ i => exact hi i a b' (by simpa using h1) (by simpa using h2)
theorem loopC1_st {α S : Type} {chk : Env → Bool} {k : Nat} {elt : FE} {f : α → PyData} (E : S → Env) (Good : S → Prop) (P : α → T → Prop) (hk : ∀ s, k < (E s).length) (hc : ∀ s, Good s → chk ((E s).set k none) = true) : ∀ {l : List α} {s : S}, Good s →
    (∀ a, a ∈ l → ∀ s, Good s → ∃ x s', elt ((E s).set k (some (.sh (f a)))) = .ok (x, (E s').set k (some (.sh (f a)))) ∧ Good s' ∧ P a x) →
    ∃ ts s', loopC chk [k] (gN k) bTrue elt (l.map f) ((E s).set k none) = .ok (ts, (E s').set k none) ∧ Good s' ∧ All3 P l ts
  | [], s, h, _ => ⟨[], s, rfl, h, .nil⟩
  | a :: l, s, h, st => by
    obtain ⟨x, s1, e1, h1, p1⟩ := st a List.mem_cons_self s h
    obtain ⟨ts, s2, e2, h2, p2⟩ := loopC1_st E Good P hk hc h1 fun b hb => st b (List.mem_cons_of_mem _ hb)
    refine ⟨x :: ts, s2, ?_, h2, .cons p1 p2⟩
    have e0 : gN k (.sh (f a)) ((E s).set k none) = .ok ((E s).set k (some (.sh (f a)))) := by
      show Rs.ok (((E s).set k none).set k _) = _
      rw [List.set_set]
    rw [List.map_cons]
    unfold loopC
    rw [e0]
    simp only [Rs.noX_ok, Rs.bind_ok, bTrue, if_pos]
    rw [e1]
    simp only [Rs.noX_ok, Rs.bind_ok]
    have w : wipeE ((E s1).set k (some (.sh (f a)))) [k] = (E s1).set k none := List.set_set ..
    have fr : ownFree ((E s1).set k (some (.sh (f a)))) [k] = true := by
      simp only [ownFree, List.all_cons, List.all_nil, Bool.and_true]
      exact free1_own (hk s1)
    rw [w, if_pos ⟨fr, hc s1 h1⟩, e2]
    rfl
theorem eComp1_st {α S : Type} {k : Nat} {fi : FI} {elt : FE} {f : α → PyData} {η : Env} (E : S → Env) (Good : S → Prop) (P : α → T → Prop) {l : List α} {s0 : S} (hfi : fi η = .ok (l.map f, E s0)) (h0 : Good s0) (hl : l.length < 16777216) (hk : ∀ s, k < (E s).length) (hf : free1 (E s0) k = true) (hs : ∀ s, (E s)[k]? = (E s0)[k]?)
    (st : ∀ a, a ∈ l → ∀ s, Good s → ∃ x s', elt ((E s).set k (some (.sh (f a)))) = .ok (x, (E s').set k (some (.sh (f a)))) ∧ Good s' ∧ P a x) :
    ∃ ts s', eComp [k] fi (gN k) bTrue elt η = .ok (.lst ts, E s') ∧ Good s' ∧ All3 P l ts := by
  obtain ⟨ts, s1, e, h1, p⟩ := loopC1_st (chk := fun _ => true) E Good P hk (fun _ _ => rfl) h0 st
  refine ⟨ts, s1, ?_, h1, p⟩
  unfold eComp
  rw [hfi]
  have hof : ownFree (E s0) [k] = true := by simp only [ownFree, List.all_cons, hf, List.all_nil, Bool.and_true]
  have hll : line (l.map f).length = true := by unfold line; rw [List.length_map]; exact decide_eq_true hl
  simp only [Rs.bind_ok, hof, hll, Bool.and_true, if_pos]
  rw [show wipeE (E s0) [k] = (E s0).set k none from rfl, e]
  simp only [Rs.bind_ok]
  congr 2
  show ((E s1).set k none).set k ((E s0)[k]?.join) = _
  rw [← hs s1]
  exact set_get (hk s1) none
/-- a comprehension over range whose item draws: the hand is at slot j; what each item is may hang on its number -/
theorem eComp_ioN {k j n : Nat} {fi : FI} {elt : FE} {η η1 : Env} {t : T} (P : Nat → T → Prop) (hfi : fi η = .ok (natsL n, η1)) (hn : n < 1000000) (hj : η1[j]? = some (some t)) (ht : Hand t) (hne : k ≠ j) (ho : k < η1.length) (hfr : free1 η1 k = true)
    (st : ∀ (i : Nat) (t : T), i < n → Hand t → ∃ x t', elt ((η1.set j (some t)).set k (some (.sh (.int (i : Nat))))) = .ok (x, (η1.set j (some t')).set k (some (.sh (.int (i : Nat))))) ∧ Hand t' ∧ P i x) :
    ∃ ts t', eComp [k] fi (gN k) bTrue elt η = .ok (.lst ts, η1.set j (some t')) ∧ Hand t' ∧ All3 P (List.range n) ts := by
  have hjl : j < η1.length := (List.getElem?_eq_some_iff.mp hj).1
  have e0 : η1.set j (some t) = η1 := set_self hj
  exact eComp1_st (fun t => η1.set j (some t)) Hand P (l := List.range n) (f := fun i => .int (i : Nat)) (s0 := t) (by rw [hfi, e0]; rfl) ht (by rw [List.length_range]; omega) (fun s => by rw [List.length_set]; exact ho) (by rw [e0]; exact hfr) (fun s => by rw [List.getElem?_set_ne (Ne.symm hne), List.getElem?_set_ne (Ne.symm hne)]) fun i hi s hs => st i s (List.mem_range.mp hi) hs
/-! what repr can show -/
structure ROk (w n : Nat) (d : PyData) : Prop where
  sh : d.showable = true
  lay : d.canLay0 = true
  dep : d.depth ≤ n
  sz : shSz d ≤ w
theorem rok_int {i : Int} (h : -1000000000000 < i ∧ i < 1000000000000) : ROk 1921 1 (.int i) := ⟨by
  simp only [PyData.showable, decide_eq_true_eq]
  have := log2_small (n := i.natAbs) (by omega)
  have h2 : i.natAbs.log2 < 64 := by
    by_cases h0 : i.natAbs = 0
    · rw [h0]; decide
    · exact (Nat.log2_lt h0).mpr (by omega)
  omega, rfl, by simp only [PyData.depth]; omega, Nat.le_refl _⟩
theorem rok_bool {b : Bool} : ROk 5 1 (.bool b) := ⟨rfl, rfl, by simp only [PyData.depth]; omega, Nat.le_refl _⟩
theorem rok_none : ROk 4 1 .none := ⟨rfl, rfl, by simp only [PyData.depth]; omega, Nat.le_refl _⟩
theorem ROk.mono {w n w' n' : Nat} {d : PyData} (h : ROk w n d) (h1 : w ≤ w') (h2 : n ≤ n') : ROk w' n' d := ⟨h.sh, h.lay, Nat.le_trans h.dep h2, Nat.le_trans h.sz h1⟩
theorem roks {w n : Nat} : ∀ {ds : List PyData}, (∀ d ∈ ds, ROk w n d) → PyData.showableAll ds = true ∧ PyData.canLayAll0 ds = true ∧ PyData.depthAll ds ≤ n ∧ shSz.shSzs ds ≤ ds.length * (w + 2)
  | [], _ => ⟨rfl, rfl, by simp only [PyData.depthAll]; omega, by simp [shSz.shSzs]⟩
  | d :: ds, h => by
    obtain ⟨a, b, c, e⟩ := roks (w := w) (n := n) (ds := ds) fun x hx => h x (List.mem_cons_of_mem _ hx)
    have h0 := h d List.mem_cons_self
    refine ⟨?_, ?_, ?_, ?_⟩
    · simp only [PyData.showableAll, h0.sh, a, Bool.and_self]
    · simp only [PyData.canLayAll0, h0.lay, b, Bool.and_self]
    · simp only [PyData.depthAll]
      exact Nat.max_le.mpr ⟨h0.dep, c⟩
    · simp only [shSz.shSzs, List.length_cons]
      have := h0.sz
      rw [Nat.add_mul]
      omega
theorem rok_tup {w n N : Nat} {ds : List PyData} (h : ∀ d ∈ ds, ROk w n d) (hl : ds.length ≤ N) : ROk (N * (w + 2) + 3) (n + 1) (.tuple ds) := by
  obtain ⟨a, b, c, e⟩ := roks h
  have := Nat.mul_le_mul_right (w + 2) hl
  refine ⟨?_, ?_, ?_, ?_⟩
  · simp only [PyData.showable]; exact a
  · simp only [PyData.canLay0]; exact b
  · simp only [PyData.depth]; omega
  · simp only [shSz]; omega
theorem rok_list {w n N : Nat} {ds : List PyData} (h : ∀ d ∈ ds, ROk w n d) (hl : ds.length ≤ N) : ROk (N * (w + 2) + 3) (n + 1) (.list ds) := by
  obtain ⟨a, b, c, e⟩ := roks h
  have := Nat.mul_le_mul_right (w + 2) hl
  refine ⟨?_, ?_, ?_, ?_⟩
  · simp only [PyData.showable]; exact a
  · simp only [PyData.canLay0]; exact b
  · simp only [PyData.depth]; omega
  · simp only [shSz]; omega
theorem ROk.repr {w n : Nat} {d : PyData} (h : ROk w n d) (hw : w ≤ 16777216) (hn : n ≤ 60) : bRepr [d] = some (.sh (.str d.shown)) := by
  refine if_pos ?_
  unfold reprOk
  rw [h.sh, h.lay, decide_eq_true (Nat.le_trans h.dep hn), decide_eq_true (Nat.le_trans h.sz hw)]
  rfl
/-! texts alike -/
theorem bRepr_of {d : PyData} (h : reprOk d = true) : bRepr [d] = some (.sh (.str d.shown)) := if_pos h
theorem opNeS_self {s : Str} : opNeS (.str s) (.str s) = some (.sh (.bool false)) := by
  show some (T.sh (.bool (!decide (s = s)))) = _
  rw [decide_eq_true rfl]
  rfl
end Pv
set_option Elab.async false
set_option linter.all false
set_option maxRecDepth 100000
set_option maxHeartbeats 4000000
/-! fractions: pairs of a top and a bottom, in lowest terms -/
namespace Pv
open PySem L2 PyProof.Rows
def frD (q : Rat) : PyData := .tuple [.int q.num, .int (q.den : Nat)]
theorem gcd_step (a b : Int) : Int.gcd b (a % b) = Int.gcd a b := by
  have h : a % b = a + (-(a / b)) * b := by
    rw [Int.emod_def, Int.neg_mul, Int.mul_comm b]
    omega
  rw [h, Int.gcd_add_mul_right_right, Int.gcd_comm]
theorem half_step {b r : Int} (hr : 0 < r) (hb : r < b) : 2 * (b % r) < b := by
  have h1 := Int.emod_def b r
  have h2 := Int.emod_lt_of_pos b hr
  have h3 : 1 ≤ b / r := by
    exact (Int.le_ediv_iff_mul_le hr).mpr (by omega)
  have h4 : r * 1 ≤ r * (b / r) := Int.mul_le_mul_of_nonneg_left h3 (by omega)
  omega
/-- Euclid's loop: at most two turns for each bit of the second number -/
theorem euclid {c : FB} {body : FS} (E : Int → Int → Env) (hc : ∀ a b, c (E a b) = .ok (decide (0 < b), E a b)) (hb : ∀ a b : Int, 0 < b → b < 1000000000000000000 → body (E a b) = .ok (.nx, E b (a % b))) :
    ∀ (k : Nat) (a b : Int) (n : Nat), 0 < b → b < 1000000000000000000 → b < 2 ^ k → 2 * k + 2 ≤ n → loopW c body n (E a b) = .ok (.nx, E (Int.gcd a b : Nat) 0)
  | k, a, b, 0, _, _, _, h => absurd h (by omega)
  | k, a, b, 1, _, _, _, h => absurd h (by omega)
  | k, a, b, n + 2, h0, hB, hk, hn => by
    have r0 := Int.emod_nonneg a (show b ≠ 0 by omega)
    have r1 := Int.emod_lt_of_pos a h0
    have hg := gcd_step a b
    unfold loopW
    rw [hc]
    simp only [Rs.bind_ok, decide_eq_true h0, if_pos]
    rw [hb a b h0 hB]
    simp only [Rs.bind_ok]
    generalize a % b = r at r0 r1 hg ⊢
    by_cases hr : r = 0
    · subst hr
      unfold loopW
      rw [hc]
      have : Int.gcd a b = b.natAbs := by rw [← hg, Int.gcd_zero_right]
      rw [this]
      simp only [Rs.bind_ok, Int.lt_irrefl, decide_false, Bool.false_eq_true, if_false]
      rw [show ((b.natAbs : Nat) : Int) = b by omega]
    · have hr0 : 0 < r := by omega
      unfold loopW
      rw [hc]
      simp only [Rs.bind_ok, decide_eq_true hr0, if_pos]
      rw [hb b r hr0 (by omega)]
      simp only [Rs.bind_ok]
      have s0 := Int.emod_nonneg b (show r ≠ 0 by omega)
      have s1 := half_step hr0 r1
      have hg2 := gcd_step b r
      rw [← hg, ← hg2]
      by_cases hs : b % r = 0
      · have : 1 ≤ n := by
          cases k with
          | zero => have : (2 : Int) ^ 0 = 1 := rfl; omega
          | succ k => omega
        obtain ⟨n', rfl⟩ : ∃ n', n = n' + 1 := ⟨n - 1, by omega⟩
        unfold loopW
        rw [hc, hs]
        simp only [Rs.bind_ok, Int.lt_irrefl, decide_false, Bool.false_eq_true, if_false, Int.gcd_zero_right]
        rw [show ((r.natAbs : Nat) : Int) = r by omega]
      · cases k with
        | zero => have : (2 : Int) ^ 0 = 1 := rfl; omega
        | succ k =>
          have hp : (2 : Int) ^ (k + 1) = 2 * 2 ^ k := by rw [Int.pow_succ, Int.mul_comm]
          exact euclid E hc hb k r (b % r) n (by omega) (by omega) (by omega) (by omega)
theorem pow60 : (1000000000000000000 : Int) < 2 ^ 60 := by decide
/-! ### common, made -/
def commonB : FS := (sSeq (sWhile 1000 (bT (eBinL' opGt 1 (eC (.int 0)))) (sPar 0 1 (aCons (eV 1) (aCons (eBinLR opMod 0 1) aNil)))) (sRet (eCallV bAbs 0)))
theorem common_ok {a b : Int} (hb : 0 < b) (h2 : b < 1000000000000000000) : gP 2 2 commonB [.int a, .int b] = some (.sh (.int (Int.gcd a b : Nat))) := by
  have hw : sWhile 1000 (bT (eBinL' opGt 1 (eC (.int 0)))) (sPar 0 1 (aCons (eV 1) (aCons (eBinLR opMod 0 1) aNil))) [some (.sh (.int a)), some (.sh (.int b))] = .ok (.nx, [some (.sh (.int (Int.gcd a b : Nat))), some (.sh (.int 0))]) := by
    refine euclid (fun a b => [some (.sh (.int a)), some (.sh (.int b))]) (fun a b => by simp) (fun a b hb h2 => ?_) 60 a b 1000 hb h2 (Int.lt_trans h2 pow60) (by decide)
    simp [sPar, opMod_int hb]
  refine gP_eq rfl (η := [some (.sh (.int (Int.gcd a b : Nat))), some (.sh (.int 0))]) ?_
  unfold commonB
  simp only [sSeq, startE, List.map_cons, List.map_nil, List.length_cons, List.length_nil, Nat.sub_self, List.replicate_zero, List.append_nil]
  rw [hw]
  have hn : ¬ ((Int.gcd a b : Nat) : Int) < 0 := by omega
  simp [hn]
theorem mkRat_fr {a b : Int} (hb : 0 < b) : (mkRat a b.toNat).num = a / (Int.gcd a b : Nat) ∧ (((mkRat a b.toNat).den : Nat) : Int) = b / (Int.gcd a b : Nat) := by
  have hn : b.toNat ≠ 0 := by omega
  have hg : b.toNat.gcd a.natAbs = Int.gcd a b := by
    rw [Int.gcd_eq_natAbs_gcd_natAbs, Nat.gcd_comm]
    congr 1
    omega
  rw [Rat.num_mkRat, Rat.den_mkRat, if_neg hn, if_neg hn, hg]
  refine ⟨rfl, ?_⟩
  rw [Int.natCast_ediv, show ((b.toNat : Nat) : Int) = b by omega]
theorem gcd_le {a b : Int} (hb : 0 < b) : 0 < ((Int.gcd a b : Nat) : Int) ∧ ((Int.gcd a b : Nat) : Int) ≤ b := by
  have h1 := Int.gcd_pos_of_ne_zero_right a (show b ≠ 0 by omega)
  have h2 := Int.gcd_le_natAbs_right a (show b ≠ 0 by omega)
  omega
def madeB (Gc : List PyData → Option T) : FS := (sSeq (sAsg (eDef Gc (aCons (eV 0) (aCons (eV 1) aNil))) (gN 2)) (sRet (eTup (aCons (eBinLR opFdiv 0 2) (aCons (eBinLR opFdiv 1 2) aNil)))))
theorem made_ok {a b : Int} (hb : 0 < b) (h2 : b < 1000000000000000000) : gP 3 2 (madeB (gP 2 2 commonB)) [.int a, .int b] = some (.sh (frD (mkRat a b.toNat))) := by
  obtain ⟨g1, g2⟩ := gcd_le (a := a) hb
  have hc := common_ok (a := a) hb h2
  obtain ⟨e1, e2⟩ := mkRat_fr (a := a) hb
  refine gP_eq rfl (η := [some (.sh (.int a)), some (.sh (.int b)), some (.sh (.int (Int.gcd a b : Nat)))]) ?_
  unfold frD
  rw [e1, e2]
  generalize ((Int.gcd a b : Nat) : Int) = g at g1 g2 hc ⊢
  have f1 : ∀ x, opFdiv (.int x) (.int g) = some (.sh (.int (x / g))) := fun x => opFdiv_int g1 (by omega)
  unfold madeB
  simp [startE, hc, f1]
def lowB : FS := (sSeq (sPar 2 3 (aCons (eCallV bAbs 0) (aCons (eV 1) aNil))) (sSeq (sWhile 1000 (bT (eBinL' opGt 3 (eC (.int 0)))) (sPar 2 3 (aCons (eV 3) (aCons (eBinR opMod (eCallV bInt 2) 3) aNil)))) (sRet (eTup (aCons (eBinLR opFdiv 0 2) (aCons (eBinLR opFdiv 1 2) aNil))))))
theorem low_ok {a b : Int} (hb : 0 < b) (h2 : b < 1000000000000000000) : gP 4 2 lowB [.int a, .int b] = some (.sh (frD (mkRat a b.toNat))) := by
  obtain ⟨g1, g2⟩ := gcd_le (a := a) hb
  obtain ⟨e1, e2⟩ := mkRat_fr (a := a) hb
  have hw : sWhile 1000 (bT (eBinL' opGt 3 (eC (.int 0)))) (sPar 2 3 (aCons (eV 3) (aCons (eBinR opMod (eCallV bInt 2) 3) aNil))) [some (.sh (.int a)), some (.sh (.int b)), some (.sh (.int (if a < 0 then -a else a))), some (.sh (.int b))] = .ok (.nx, [some (.sh (.int a)), some (.sh (.int b)), some (.sh (.int (Int.gcd a b : Nat))), some (.sh (.int 0))]) := by
    have hg : Int.gcd (if a < 0 then -a else a) b = Int.gcd a b := by
      split
      · exact Int.neg_gcd
      · rfl
    rw [← hg]
    refine euclid (fun x y => [some (.sh (.int a)), some (.sh (.int b)), some (.sh (.int x)), some (.sh (.int y))]) (fun a b => by simp) (fun x y hb h2 => ?_) 60 _ b 1000 hb h2 (Int.lt_trans h2 pow60) (by decide)
    simp [sPar, opMod_int hb]
  refine gP_eq rfl (η := [some (.sh (.int a)), some (.sh (.int b)), some (.sh (.int (Int.gcd a b : Nat))), some (.sh (.int 0))]) ?_
  unfold frD
  rw [e1, e2]
  generalize ((Int.gcd a b : Nat) : Int) = g at g1 g2 hw ⊢
  have f1 : ∀ x, opFdiv (.int x) (.int g) = some (.sh (.int (x / g))) := fun x => opFdiv_int g1 (by omega)
  have s0 : sPar 2 3 (aCons (eCallV bAbs 0) (aCons (eV 1) aNil)) (startE 4 (List.map T.sh [.int a, .int b])) = .ok (.nx, [some (.sh (.int a)), some (.sh (.int b)), some (.sh (.int (if a < 0 then -a else a))), some (.sh (.int b))]) := by
    simp [sPar, startE]
  unfold lowB
  simp only [sSeq, s0, Rs.bind_ok, hw]
  simp [f1]
/-! ### sums, differences -/
/-- small enough to be multiplied -/
structure Nice (q : Rat) : Prop where
  nu : -100000000 < q.num ∧ q.num < 100000000
  de : q.den < 100000000
theorem Nice.dp {q : Rat} (_ : Nice q) : 0 < q.den := q.den_pos
def plusB (G : List PyData → Option T) : FS := (sRet (eDef G (aCons (eBin opAdd (eBin opMul (eBinL' opIx 0 (eC (.int 0))) (eBinL' opIx 1 (eC (.int 1)))) (eBin opMul (eBinL' opIx 1 (eC (.int 0))) (eBinL' opIx 0 (eC (.int 1))))) (aCons (eBin opMul (eBinL' opIx 0 (eC (.int 1))) (eBinL' opIx 1 (eC (.int 1)))) aNil))))
def lessB (G : List PyData → Option T) : FS := (sRet (eDef G (aCons (eBin opSub (eBin opMul (eBinL' opIx 0 (eC (.int 0))) (eBinL' opIx 1 (eC (.int 1)))) (eBin opMul (eBinL' opIx 1 (eC (.int 0))) (eBinL' opIx 0 (eC (.int 1))))) (aCons (eBin opMul (eBinL' opIx 0 (eC (.int 1))) (eBinL' opIx 1 (eC (.int 1)))) aNil))))
def belowB : FS := (sRet (eBin opLt (eBin opMul (eBinL' opIx 0 (eC (.int 0))) (eBinL' opIx 1 (eC (.int 1)))) (eBin opMul (eBinL' opIx 1 (eC (.int 0))) (eBinL' opIx 0 (eC (.int 1))))))
/-- what makes a fraction of two numbers -/
def Makes (G : List PyData → Option T) : Prop := ∀ a b : Int, 0 < b → b < 1000000000000000000 → G [.int a, .int b] = some (.sh (frD (mkRat a b.toNat)))
theorem makes_made : Makes (gP 3 2 (madeB (gP 2 2 commonB))) := fun _ _ h1 h2 => made_ok h1 h2
theorem makes_low : Makes (gP 4 2 lowB) := fun _ _ h1 h2 => low_ok h1 h2
section
variable {G : List PyData → Option T} {p q : Rat}
@[simp] theorem opIx_fr0 : opIx (frD q) (.int 0) = some (.sh (.int q.num)) := by simp [frD]
@[simp] theorem opIx_fr1 : opIx (frD q) (.int 1) = some (.sh (.int (q.den : Nat))) := by simp [frD]
theorem den_mul (hp : Nice p) (hq : Nice q) : 0 < (p.den : Int) * (q.den : Int) ∧ (p.den : Int) * (q.den : Int) < 1000000000000000000 := by
  have a := p.den_pos
  have b := q.den_pos
  have h1 : p.den * q.den < 100000000 * 100000000 := Nat.mul_lt_mul_of_lt_of_lt hp.de hq.de
  have h2 : 0 < p.den * q.den := Nat.mul_pos a b
  rw [← Int.natCast_mul]
  omega
theorem nmul (hp : Nice p) (x : Int) : opMul (.int p.num) (.int x) = some (.sh (.int (p.num * x))) := opMul_intL (by have := hp.nu; omega)
theorem dmul (hp : Nice p) (x : Int) : opMul (.int (p.den : Nat)) (.int x) = some (.sh (.int ((p.den : Nat) * x))) := opMul_intL (by have := hp.de; omega)
theorem den_nat : ((p.den : Int) * (q.den : Int)).toNat = p.den * q.den := by rw [← Int.natCast_mul, Int.toNat_natCast]
theorem mk_plus : mkRat (p.num * (q.den : Nat) + q.num * (p.den : Nat)) ((p.den : Int) * (q.den : Int)).toNat = p + q := by
  rw [den_nat, ← Rat.mkRat_add_mkRat _ _ p.den_nz q.den_nz, Rat.mkRat_self, Rat.mkRat_self]
theorem mk_less : mkRat (p.num * (q.den : Nat) - q.num * (p.den : Nat)) ((p.den : Int) * (q.den : Int)).toNat = p - q := by
  rw [den_nat, Rat.sub_def, Rat.normalize_eq_mkRat]
theorem G_plus (hG : Makes G) (hp : Nice p) (hq : Nice q) : G [.int (p.num * (q.den : Nat) + q.num * (p.den : Nat)), .int ((p.den : Int) * (q.den : Int))] = some (.sh (frD (p + q))) := by
  obtain ⟨d1, d2⟩ := den_mul hp hq
  have e := hG (p.num * (q.den : Nat) + q.num * (p.den : Nat)) ((p.den : Int) * (q.den : Int)) d1 d2
  rw [mk_plus] at e
  exact e
theorem G_less (hG : Makes G) (hp : Nice p) (hq : Nice q) : G [.int (p.num * (q.den : Nat) - q.num * (p.den : Nat)), .int ((p.den : Int) * (q.den : Int))] = some (.sh (frD (p - q))) := by
  obtain ⟨d1, d2⟩ := den_mul hp hq
  have e := hG (p.num * (q.den : Nat) - q.num * (p.den : Nat)) ((p.den : Int) * (q.den : Int)) d1 d2
  rw [mk_less] at e
  exact e
theorem plus_run {a b c f : Int} {d d1 d2 : PyData} (h1 : opIx d1 (.int 0) = some (.sh (.int a))) (h2 : opIx d2 (.int 1) = some (.sh (.int b))) (h3 : opIx d2 (.int 0) = some (.sh (.int c))) (h4 : opIx d1 (.int 1) = some (.sh (.int f)))
    (m1 : opMul (.int a) (.int b) = some (.sh (.int (a * b)))) (m2 : opMul (.int c) (.int f) = some (.sh (.int (c * f)))) (m3 : opMul (.int f) (.int b) = some (.sh (.int (f * b))))
    (e : G [.int (a * b + c * f), .int (f * b)] = some (.sh d)) : (plusB G) [some (.sh d1), some (.sh d2)] = .ok (.ret (.sh d), [some (.sh d1), some (.sh d2)]) := by
  unfold plusB
  simp [h1, h2, h3, h4, m1, m2, m3, e]
theorem less_run {a b c f : Int} {d d1 d2 : PyData} (h1 : opIx d1 (.int 0) = some (.sh (.int a))) (h2 : opIx d2 (.int 1) = some (.sh (.int b))) (h3 : opIx d2 (.int 0) = some (.sh (.int c))) (h4 : opIx d1 (.int 1) = some (.sh (.int f)))
    (m1 : opMul (.int a) (.int b) = some (.sh (.int (a * b)))) (m2 : opMul (.int c) (.int f) = some (.sh (.int (c * f)))) (m3 : opMul (.int f) (.int b) = some (.sh (.int (f * b))))
    (e : G [.int (a * b - c * f), .int (f * b)] = some (.sh d)) : (lessB G) [some (.sh d1), some (.sh d2)] = .ok (.ret (.sh d), [some (.sh d1), some (.sh d2)]) := by
  unfold lessB
  simp [h1, h2, h3, h4, m1, m2, m3, e]
theorem plus_ok (hG : Makes G) (hp : Nice p) (hq : Nice q) : gP 2 2 (plusB G) [frD p, frD q] = some (.sh (frD (p + q))) :=
  gP_eq rfl (plus_run opIx_fr0 opIx_fr1 opIx_fr0 opIx_fr1 (nmul hp _) (nmul hq _) (dmul hp _) (G_plus hG hp hq))
theorem less_ok (hG : Makes G) (hp : Nice p) (hq : Nice q) : gP 2 2 (lessB G) [frD p, frD q] = some (.sh (frD (p - q))) :=
  gP_eq rfl (less_run opIx_fr0 opIx_fr1 opIx_fr0 opIx_fr1 (nmul hp _) (nmul hq _) (dmul hp _) (G_less hG hp hq))
theorem below_ok (hp : Nice p) (hq : Nice q) : gP 2 2 belowB [frD p, frD q] = some (.sh (.bool (decide (p < q)))) := by
  refine gP_eq rfl (η := [some (.sh (frD p)), some (.sh (frD q))]) ?_
  have m1 := nmul hp (q.den : Nat)
  have m2 := nmul hq (p.den : Nat)
  have h : decide (p.num * ((q.den : Nat) : Int) < q.num * ((p.den : Nat) : Int)) = decide (p < q) := decide_eq_decide.mpr (Rat.lt_iff p q).symm
  unfold belowB
  simp [startE, m1, m2, h]
/-- whole numbers -/
theorem fr_int (n : Int) : PyData.tuple [.int n, .int 1] = frD (n : Rat) := rfl
theorem fr_inj (h : frD p = frD q) : p = q := by
  unfold frD at h
  simp only [PyData.tuple.injEq, List.cons.injEq, PyData.int.injEq, and_true] at h
  exact Rat.ext h.1 (by omega)
theorem fr_plain : plain 1 (frD q) = true := plain_tup (by simp [plains]) (by simp)
theorem fr_eq : opEq (frD p) (frD q) = some (.sh (.bool (decide (p = q)))) := by
  rw [opEq_of (plain_shp fr_plain (by decide)) (plain_shp fr_plain (by decide))]
  have : PyData.eqv (frD p) (frD q) = decide (p = q) := by
    have e := eqvAll_ints (a := [p.num, (p.den : Nat)]) (b := [q.num, (q.den : Nat)])
    have e1 : PyData.eqv (frD p) (frD q) = PyData.eqvAll ([p.num, ((p.den : Nat) : Int)].map PyData.int) ([q.num, ((q.den : Nat) : Int)].map PyData.int) := by
      unfold frD
      simp only [PyData.eqv, List.map_cons, List.map_nil]
    rw [e1, e]
    refine decide_eq_decide.mpr ⟨fun h => ?_, fun h => by rw [h]⟩
    simp only [List.cons.injEq, and_true] at h
    exact Rat.ext h.1 (by omega)
  rw [this]
end
/-! ### twelfths and the like: the fractions of one bottom -/
theorem nice_mk {a : Int} {n : Nat} (hn : 0 < n) (h2 : n < 100000000) (ha : -100000000 < a ∧ a < 100000000) : Nice (mkRat a n) := by
  have hn0 : n ≠ 0 := by omega
  have hg := Nat.gcd_pos_of_pos_left a.natAbs hn
  constructor
  · rw [Rat.num_mkRat, if_neg hn0]
    generalize hG : ((n.gcd a.natAbs : Nat) : Int) = g
    have hg1 : 1 ≤ g := by omega
    have hd : g ∣ a := by
      rw [← hG]
      exact Int.dvd_natAbs.mp (Int.natCast_dvd_natCast.mpr (Nat.gcd_dvd_right ..))
    obtain ⟨c, rfl⟩ := hd
    rw [Int.mul_ediv_cancel_left _ (show g ≠ 0 by omega)]
    rcases Int.le_total 0 c with h | h
    · have : 1 * c ≤ g * c := Int.mul_le_mul_of_nonneg_right hg1 h
      omega
    · have : g * c ≤ 1 * c := Int.mul_le_mul_of_nonpos_right hg1 h
      omega
  · rw [Rat.den_mkRat, if_neg hn0]
    exact Nat.lt_of_le_of_lt (Nat.div_le_self ..) h2
end Pv
set_option Elab.async false
set_option linter.all false
set_option maxRecDepth 100000
set_option maxHeartbeats 4000000
/-! comprehensions over a name's value, whose item changes something -/
namespace Pv
open PySem L2 PyProof.Rows
theorem eCompV1_st {α S : Type} {i k : Nat} {elt : FE} {f : α → PyData} (E : S → Env) (Good : S → Prop) (P : α → T → Prop) {l : List α} {s0 : S} {d0 : PyData} (hp : ∀ s, pk ((E s).set k none) i = some d0) (hp0 : pk (E s0) i = some d0) (hs0 : seqOf d0 = some (l.map f)) (h0 : Good s0) (hl : l.length < 16777216) (hk : ∀ s, k < (E s).length) (hf : free1 (E s0) k = true) (hik : i ≠ k) (hs : ∀ s, (E s)[k]? = (E s0)[k]?)
    (st : ∀ a, a ∈ l → ∀ s, Good s → ∃ x s', elt ((E s).set k (some (.sh (f a)))) = .ok (x, (E s').set k (some (.sh (f a)))) ∧ Good s' ∧ P a x) :
    ∃ ts s', eCompV [k] i (gN k) bTrue elt (E s0) = .ok (.lst ts, E s') ∧ Good s' ∧ All3 P l ts := by
  obtain ⟨ts, s1, e, h1, p⟩ := loopC1_st (chk := pkIs i d0) E Good P hk (fun s _ => pkIs_of (hp s)) h0 st
  refine ⟨ts, s1, ?_, h1, p⟩
  unfold eCompV
  rw [hp0]
  simp only [hs0]
  have hof : ownFree (E s0) [k] = true := by simp only [ownFree, List.all_cons, hf, List.all_nil, Bool.and_true]
  have hll : line (l.map f).length = true := by unfold line; rw [List.length_map]; exact decide_eq_true hl
  have hc : [k].contains i = false := by
    simp only [List.contains_cons, List.contains_nil, Bool.or_false, beq_eq_false_iff_ne, ne_eq]
    exact hik
  simp only [hof, hll, hc, Bool.and_true, Bool.not_false, if_pos]
  rw [show wipeE (E s0) [k] = (E s0).set k none from rfl, e]
  simp only [Rs.bind_ok]
  congr 2
  show ((E s1).set k none).set k ((E s0)[k]?.join) = _
  rw [← hs s1]
  exact set_get (hk s1) none
end Pv
set_option Elab.async false
set_option linter.all false
set_option maxRecDepth 100000
set_option maxHeartbeats 4000000
/-! a typed reading: what is known of the slots, and rules by which each expression and statement gives a typed value -/
namespace Tv
open PySem L2 Pv
inductive Sl where
  | any
  | fr
  | sh (d : PyData)
  | pk (d : PyData)
  | od (ds : List PyData)
  | ow (t : T)
  | vl (d : PyData)
def Sl.Sat : Sl → Option T → Prop
  | .any, _ => True
  | .fr, o => o = none ∨ ∃ d, o = some (.sh d)
  | .sh d, o => o = some (.sh d)
  | .pk d, o => o = some (.sh d) ∨ ∃ ds, d = .list ds ∧ o = some (.lst (ds.map T.sh))
  | .od ds, o => o = some (.lst (ds.map T.sh))
  | .ow t, o => o = some t
  | .vl d, o => ∃ t, o = some t ∧ t.val = d
abbrev Cxt := List Sl
def SatE : Cxt → Pv.Env → Prop
  | [], η => η = []
  | s :: Γ, η => match η with
    | [] => False
    | o :: η' => s.Sat o ∧ SatE Γ η'
theorem SatE.len : ∀ {Γ : Cxt} {η : Pv.Env}, SatE Γ η → η.length = Γ.length
  | [], η, h => by rw [show η = [] from h]; rfl
  | s :: Γ, [], h => h.elim
  | s :: Γ, o :: η, h => by rw [List.length_cons, List.length_cons, SatE.len h.2]
theorem SatE.get : ∀ {Γ : Cxt} {η : Pv.Env} {i : Nat} {s : Sl}, SatE Γ η → Γ[i]? = some s → ∃ o, η[i]? = some o ∧ s.Sat o
  | [], η, i, s, h, e => by simp at e
  | s :: Γ, [], i, s', h, e => h.elim
  | s :: Γ, o :: η, 0, s', h, e => by
    cases e
    exact ⟨o, rfl, h.1⟩
  | s :: Γ, o :: η, i + 1, s', h, e => SatE.get (i := i) h.2 e
theorem SatE.set : ∀ {Γ : Cxt} {η : Pv.Env} {i : Nat} {s : Sl} {o : Option T}, SatE Γ η → s.Sat o → SatE (Γ.set i s) (η.set i o)
  | [], η, i, s, o, h, e => by rw [show η = [] from h]; rfl
  | s :: Γ, [], i, s', o, h, e => h.elim
  | s :: Γ, o :: η, 0, s', o', h, e => ⟨e, h.2⟩
  | s :: Γ, o :: η, i + 1, s', o', h, e => ⟨h.1, SatE.set (i := i) h.2 e⟩
def Sl.le : Sl → Sl → Prop
  | _, .any => True
  | .fr, .fr => True
  | .sh _, .fr => True
  | .sh d, .sh d' => d = d'
  | .sh d, .pk d' => d = d'
  | .pk d, .pk d' => d = d'
  | .od ds, .pk d => d = .list ds
  | .od ds, .od ds' => ds = ds'
  | .ow t, .ow t' => t = t'
  | .sh d, .vl d' => d = d'
  | .od ds, .vl d => d = .list ds
  | .vl d, .vl d' => d = d'
  | _, _ => False
theorem Sl.le.sat {s s' : Sl} {o : Option T} (h : s.le s') (k : s.Sat o) : s'.Sat o := by
  cases s' with
  | any => trivial
  | fr =>
    cases s with
    | fr => exact k
    | sh d => exact .inr ⟨d, k⟩
    | _ => exact h.elim
  | sh d' =>
    cases s with
    | sh d => cases (show d = d' from h); exact k
    | _ => exact h.elim
  | pk d' =>
    cases s with
    | sh d => cases (show d = d' from h); exact .inl k
    | pk d => cases (show d = d' from h); exact k
    | od ds => cases (show d' = .list ds from h); exact .inr ⟨ds, rfl, k⟩
    | _ => exact h.elim
  | od ds' =>
    cases s with
    | od ds => cases (show ds = ds' from h); exact k
    | _ => exact h.elim
  | ow t' =>
    cases s with
    | ow t => cases (show t = t' from h); exact k
    | _ => exact h.elim
  | vl d' =>
    cases s with
    | sh d => cases (show d = d' from h); exact ⟨_, k, rfl⟩
    | od ds => cases (show d' = .list ds from h); exact ⟨_, k, by simp [T.val]⟩
    | vl d => cases (show d = d' from h); exact k
    | _ => exact h.elim
def Le : Cxt → Cxt → Prop
  | [], [] => True
  | a :: Γ, b :: Γ' => a.le b ∧ Le Γ Γ'
  | _, _ => False
theorem Sl.le_refl (s : Sl) : s.le s := by cases s <;> first | trivial | exact rfl
theorem Le.refl : ∀ Γ : Cxt, Le Γ Γ
  | [] => trivial
  | s :: Γ => ⟨s.le_refl, Le.refl Γ⟩
theorem Le.sat : ∀ {Γ Γ' : Cxt} {η : Pv.Env}, Le Γ Γ' → SatE Γ η → SatE Γ' η
  | [], [], η, _, k => k
  | a :: Γ, b :: Γ', [], h, k => k.elim
  | a :: Γ, b :: Γ', o :: η, h, k => ⟨h.1.sat k.1, Le.sat h.2 k.2⟩
  | [], b :: Γ', η, h, k => h.elim
  | a :: Γ, [], η, h, k => h.elim
/-- what a look at a slot gives -/
def Sl.look : Sl → Option PyData
  | .sh d => some d
  | .pk d => some d
  | .od ds => some (.list ds)
  | _ => none
def lk (Γ : Cxt) (i : Nat) : Option PyData := (Γ[i]?).bind Sl.look
def Sl.tree : Sl → Option T
  | .sh d => some (.sh d)
  | .od ds => some (.lst (ds.map T.sh))
  | .ow t => some t
  | _ => none
def tk (Γ : Cxt) (i : Nat) : Option T := (Γ[i]?).bind Sl.tree
theorem lk_pk {Γ : Cxt} {η : Pv.Env} {i : Nat} {d : PyData} (h : SatE Γ η) (e : lk Γ i = some d) : pk η i = some d := by
  unfold lk at e
  cases hs : Γ[i]? with
  | none => rw [hs] at e; cases e
  | some s =>
    rw [hs] at e
    obtain ⟨o, ho, k⟩ := h.get hs
    unfold pk
    rw [ho]
    cases s with
    | sh d' => cases e; cases (show o = _ from k); rfl
    | pk d' =>
      cases e
      rcases k with k | ⟨ds, rfl, k⟩
      · rw [k]; rfl
      · rw [k]; simp [pkD]
    | od ds => cases e; cases (show o = _ from k); simp [pkD]
    | _ => cases e
theorem tk_get {Γ : Cxt} {η : Pv.Env} {i : Nat} {t : T} (h : SatE Γ η) (e : tk Γ i = some t) : η[i]? = some (some t) := by
  unfold tk at e
  cases hs : Γ[i]? with
  | none => rw [hs] at e; cases e
  | some s =>
    rw [hs] at e
    obtain ⟨o, ho, k⟩ := h.get hs
    cases s with
    | sh d' => cases e; rw [ho, show o = _ from k]
    | od ds => cases e; rw [ho, show o = _ from k]
    | ow t' => cases e; rw [ho, show o = _ from k]
    | _ => cases e
/-! ### judgements -/
def EW (f : FE) (Γ : Cxt) (t : T) (Γ' : Cxt) : Prop := ∀ η, SatE Γ η → ∃ η', f η = .ok (t, η') ∧ SatE Γ' η'
def ED (f : FE) (Γ : Cxt) (d : PyData) (Γ' : Cxt) : Prop := ∀ η, SatE Γ η → ∃ t η', f η = .ok (t, η') ∧ t.val = d ∧ SatE Γ' η'
def BV (f : FB) (Γ : Cxt) (b : Bool) (Γ' : Cxt) : Prop := ∀ η, SatE Γ η → ∃ η', f η = .ok (b, η') ∧ SatE Γ' η'
def AV (f : FA) (Γ : Cxt) (ds : List PyData) (Γ' : Cxt) : Prop := ∀ η, SatE Γ η → ∃ ts η', f η = .ok (ts, η') ∧ T.vals ts = ds ∧ SatE Γ' η'
def AW (f : FA) (Γ : Cxt) (ts : List T) (Γ' : Cxt) : Prop := ∀ η, SatE Γ η → ∃ η', f η = .ok (ts, η') ∧ SatE Γ' η'
def IV (f : FI) (Γ : Cxt) (ds : List PyData) (Γ' : Cxt) : Prop := ∀ η, SatE Γ η → ∃ η', f η = .ok (ds, η') ∧ SatE Γ' η'
def OV (f : FO) (Γ : Cxt) (o : Option Int) (Γ' : Cxt) : Prop := ∀ η, SatE Γ η → ∃ η', f η = .ok (o, η') ∧ SatE Γ' η'
def GW (h : FG) (t : T) (Γ Γ' : Cxt) : Prop := ∀ η, SatE Γ η → ∃ η', h t η = .ok η' ∧ SatE Γ' η'
def GWs (h : FGs) (ds : List PyData) (Γ Γ' : Cxt) : Prop := ∀ η, SatE Γ η → ∃ η', h ds η = .ok η' ∧ SatE Γ' η'
def GWo (h : FGo) (ts : List T) (Γ Γ' : Cxt) : Prop := ∀ η, SatE Γ η → ∃ η', h ts η = .ok η' ∧ SatE Γ' η'
def S (f : FS) (Γ : Cxt) (P : Fl → Pv.Env → Prop) : Prop := ∀ η, SatE Γ η → ∃ fl η', f η = .ok (fl, η') ∧ P fl η'
def SV (f : FS) (Γ Γ' : Cxt) : Prop := ∀ η, SatE Γ η → ∃ η', f η = .ok (.nx, η') ∧ SatE Γ' η'
variable {Γ Γ1 Γ2 Γ3 Γ4 : Cxt} {f g h : FE} {d e d0 : PyData} {ds es : List PyData} {t u r : T} {i j : Nat} {op : PyData → PyData → Option T} {a b : Bool}
theorem EW.post (hf : EW f Γ t Γ1) (l : Le Γ1 Γ2) : EW f Γ t Γ2 := fun η k => by
  obtain ⟨η', e, q⟩ := hf η k
  exact ⟨η', e, l.sat q⟩
theorem EW.pre (l : Le Γ Γ1) (hf : EW f Γ1 t Γ2) : EW f Γ t Γ2 := fun η k => hf η (l.sat k)
theorem BV.post {c : FB} (hf : BV c Γ b Γ1) (l : Le Γ1 Γ2) : BV c Γ b Γ2 := fun η k => by
  obtain ⟨η', e, q⟩ := hf η k
  exact ⟨η', e, l.sat q⟩
theorem EW.dt (hf : EW f Γ t Γ1) (hv : t.val = d) : ED f Γ d Γ1 := fun η k => by
  obtain ⟨η', e, q⟩ := hf η k
  exact ⟨t, η', e, hv, q⟩
theorem EW.sh (hf : EW f Γ (.sh d) Γ1) : ED f Γ d Γ1 := hf.dt rfl
theorem EW.od (hf : EW f Γ (.lst (ds.map T.sh)) Γ1) : ED f Γ (.list ds) Γ1 := hf.dt (by simp [T.val])
/-! ### expressions -/
theorem ew_c : EW (eC d) Γ (.sh d) Γ := fun η k => ⟨η, rfl, k⟩
theorem ew_v (e : lk Γ i = some d) : EW (eV i) Γ (.sh d) (Γ.set i (.sh d)) := fun η h => by
  unfold lk at e
  cases hs : Γ[i]? with
  | none => rw [hs] at e; cases e
  | some s =>
    rw [hs] at e
    obtain ⟨o, ho, k⟩ := h.get hs
    have key : (o = some (.sh d) ∨ ∃ ds, d = .list ds ∧ o = some (.lst (ds.map T.sh))) := by
      cases s with
      | sh d' => cases e; exact .inl k
      | pk d' => cases e; exact k
      | od ds => cases e; exact .inr ⟨ds, rfl, k⟩
      | _ => cases e
    rcases key with rfl | ⟨ds, rfl, rfl⟩
    · refine ⟨η, by unfold eV; rw [ho], ?_⟩
      have := h.set (i := i) (s := .sh d) (o := some (.sh d)) rfl
      rw [set_self ho] at this
      exact this
    · refine ⟨η.set i (some (.sh (.list ds))), by unfold eV; rw [ho]; simp, h.set rfl⟩
theorem ew_vl (e : Γ[i]? = some (.vl d)) : EW (eV i) Γ (.sh d) (Γ.set i (.sh d)) := fun η h => by
  obtain ⟨o, ho, t, rfl, hv⟩ := h.get e
  subst hv
  cases t with
  | sh d' =>
    refine ⟨η, by unfold eV; rw [ho]; rfl, ?_⟩
    have := h.set (i := i) (s := .sh d') (o := some (.sh d')) rfl
    rw [set_self ho] at this
    exact this
  | lst ts =>
    exact ⟨η.set i (some (.sh (.list (T.vals ts)))), by unfold eV; rw [ho]; rfl, h.set rfl⟩
  | dct kvs =>
    exact ⟨η.set i (some (.sh (.dict (kvD kvs)))), by unfold eV; rw [ho]; rfl, h.set rfl⟩
theorem ew_bin (hf : ED f Γ d Γ1) (hg : ED g Γ1 e Γ2) (ho : op d e = some r) : EW (eBin op f g) Γ r Γ2 := fun η k => by
  obtain ⟨t1, η1, e1, v1, k1⟩ := hf η k
  obtain ⟨t2, η2, e2, v2, k2⟩ := hg η1 k1
  refine ⟨η2, ?_, k2⟩
  unfold eBin
  rw [e1]
  simp only [Rs.bind_ok]
  rw [e2]
  simp only [Rs.bind_ok, v1, v2, ho, fin1]
theorem ew_binL (hg : ED g Γ e Γ1) (h0 : lk Γ i = some d0) (h1 : lk Γ1 i = some d) (ho : op d e = some r) : EW (eBinL' op i g) Γ r Γ1 := fun η k => by
  obtain ⟨t2, η2, e2, v2, k2⟩ := hg η k
  refine ⟨η2, ?_, k2⟩
  unfold eBinL' eBinL
  rw [lk_pk k h0]
  simp only [e2, Rs.bind_ok, lk_pk k2 h1, v2, ho, fin1]
theorem ew_binR (hf : ED f Γ d Γ1) (h1 : lk Γ1 j = some e) (ho : op d e = some r) : EW (eBinR op f j) Γ r Γ1 := fun η k => by
  obtain ⟨t2, η2, e2, v2, k2⟩ := hf η k
  refine ⟨η2, ?_, k2⟩
  unfold eBinR
  simp only [e2, Rs.bind_ok, lk_pk k2 h1, v2, ho, fin1]
theorem ew_binLR (h0 : lk Γ i = some d) (h1 : lk Γ j = some e) (ho : op d e = some r) : EW (eBinLR op i j) Γ r Γ := fun η k => by
  refine ⟨η, ?_, k⟩
  unfold eBinLR
  simp only [lk_pk k h0, lk_pk k h1, ho, fin1]
theorem bv_t (hf : EW f Γ (.sh (.bool b)) Γ1) : BV (bT f) Γ b Γ1 := fun η k => by
  obtain ⟨η1, e1, k1⟩ := hf η k
  refine ⟨η1, ?_, k1⟩
  unfold bT
  rw [e1]
  rfl
theorem bv_tru (hf : ED f Γ d Γ1) (ht : truth d = some b) : BV (bTru f) Γ b Γ1 := fun η k => by
  obtain ⟨t1, η1, e1, v1, k1⟩ := hf η k
  refine ⟨η1, ?_, k1⟩
  unfold bTru
  rw [e1]
  simp only [Rs.bind_ok, v1, ht]
theorem bv_true : BV bTrue Γ true Γ := fun η k => ⟨η, rfl, k⟩
section
variable {c c2 : FB}
theorem bv_and (hf : BV c Γ a Γ1) (hg : a = true → BV c2 Γ1 b Γ2) (l : Le Γ2 Γ1) : BV (bAnd c c2) Γ (a && b) Γ1 := fun η k => by
  obtain ⟨η1, e1, k1⟩ := hf η k
  unfold bAnd
  simp only [e1, Rs.bind_ok]
  cases a with
  | true =>
    obtain ⟨η2, e2, k2⟩ := hg rfl η1 k1
    exact ⟨η2, by simpa using e2, l.sat k2⟩
  | false => exact ⟨η1, rfl, k1⟩
theorem bv_or (hf : BV c Γ a Γ1) (hg : a = false → BV c2 Γ1 b Γ2) (l : Le Γ2 Γ1) : BV (bOr c c2) Γ (a || b) Γ1 := fun η k => by
  obtain ⟨η1, e1, k1⟩ := hf η k
  unfold bOr
  simp only [e1, Rs.bind_ok]
  cases a with
  | false =>
    obtain ⟨η2, e2, k2⟩ := hg rfl η1 k1
    exact ⟨η2, by simpa using e2, l.sat k2⟩
  | true => exact ⟨η1, rfl, k1⟩
theorem bv_not (hf : BV c Γ a Γ1) : BV (bNot c) Γ (!a) Γ1 := fun η k => by
  obtain ⟨η1, e1, k1⟩ := hf η k
  refine ⟨η1, ?_, k1⟩
  unfold bNot
  rw [e1]
  rfl
theorem ew_if {α : Type} {v1 v2 : α} (R : α → T) (hc : BV c Γ b Γ1) (hf : b = true → EW f Γ1 (R v1) Γ2) (hg : b = false → EW g Γ1 (R v2) Γ3) (l2 : Le Γ2 Γ1) (l3 : Le Γ3 Γ1) : EW (eIf c f g) Γ (R (if b = true then v1 else v2)) Γ1 := fun η k => by
  obtain ⟨η1, e1, k1⟩ := hc η k
  unfold eIf
  simp only [e1, Rs.bind_ok]
  cases b with
  | true =>
    obtain ⟨η2, e2, k2⟩ := hf rfl η1 k1
    exact ⟨η2, by simpa using e2, l2.sat k2⟩
  | false =>
    obtain ⟨η2, e2, k2⟩ := hg rfl η1 k1
    exact ⟨η2, by simpa using e2, l3.sat k2⟩
end
theorem ew_and (hf : EW f Γ (.sh (.bool a)) Γ1) (hg : a = true → EW g Γ1 (.sh (.bool b)) Γ2) (l : Le Γ2 Γ1) : EW (eAnd f g) Γ (.sh (.bool (a && b))) Γ1 := fun η k => by
  obtain ⟨η1, e1, k1⟩ := hf η k
  unfold eAnd
  simp only [e1, Rs.bind_ok]
  cases a with
  | true =>
    obtain ⟨η2, e2, k2⟩ := hg rfl η1 k1
    exact ⟨η2, by simpa using e2, l.sat k2⟩
  | false => exact ⟨η1, rfl, k1⟩
theorem ew_or (hf : EW f Γ (.sh (.bool a)) Γ1) (hg : a = false → EW g Γ1 (.sh (.bool b)) Γ2) (l : Le Γ2 Γ1) : EW (eOr f g) Γ (.sh (.bool (a || b))) Γ1 := fun η k => by
  obtain ⟨η1, e1, k1⟩ := hf η k
  unfold eOr
  simp only [e1, Rs.bind_ok]
  cases a with
  | false =>
    obtain ⟨η2, e2, k2⟩ := hg rfl η1 k1
    exact ⟨η2, by simpa using e2, l.sat k2⟩
  | true => exact ⟨η1, rfl, k1⟩
theorem ew_not (hf : EW f Γ (.sh (.bool a)) Γ1) : EW (eNotV f) Γ (.sh (.bool (!a))) Γ1 := fun η k => by
  obtain ⟨η1, e1, k1⟩ := hf η k
  refine ⟨η1, ?_, k1⟩
  unfold eNotV
  rw [e1]
  rfl
theorem ew_neg {x : Int} (hf : EW f Γ (.sh (.int x)) Γ1) : EW (eUn opNeg f) Γ (.sh (.int (-x))) Γ1 := fun η k => by
  obtain ⟨η1, e1, k1⟩ := hf η k
  refine ⟨η1, ?_, k1⟩
  unfold eUn
  rw [e1]
  rfl
theorem ew_chain {p1 p2 : Int → Int → Bool} {x y z : Int} (hf : EW f Γ (.sh (.int x)) Γ1) (hg : EW g Γ1 (.sh (.int y)) Γ2) (hh : p1 x y = true → EW h Γ2 (.sh (.int z)) Γ3) (l : Le Γ3 Γ2) : EW (eChain p1 p2 f g h) Γ (.sh (.bool (p1 x y && p2 y z))) Γ2 := fun η k => by
  obtain ⟨η1, e1, k1⟩ := hf η k
  obtain ⟨η2, e2, k2⟩ := hg η1 k1
  unfold eChain
  simp only [e1, e2, Rs.bind_ok]
  cases c : p1 x y with
  | true =>
    obtain ⟨η3, e3, k3⟩ := hh c η2 k2
    exact ⟨η3, by simp [e3], l.sat k3⟩
  | false => exact ⟨η2, by simp, k2⟩
/-! arguments -/
section
variable {ga : FA} {ts : List T} {opc : List PyData → Option T}
theorem av_nil : AV aNil Γ [] Γ := fun η k => ⟨[], η, rfl, rfl, k⟩
theorem av_cons (hf : ED f Γ d Γ1) (hg : AV ga Γ1 ds Γ2) : AV (aCons f ga) Γ (d :: ds) Γ2 := fun η k => by
  obtain ⟨t1, η1, e1, v1, k1⟩ := hf η k
  obtain ⟨t2, η2, e2, v2, k2⟩ := hg η1 k1
  refine ⟨t1 :: t2, η2, ?_, by simp [T.vals, v1, v2], k2⟩
  unfold aCons
  simp only [e1, e2, Rs.bind_ok]
theorem aw_nil : AW aNil Γ [] Γ := fun η k => ⟨η, rfl, k⟩
theorem aw_cons (hf : EW f Γ t Γ1) (hg : AW ga Γ1 ts Γ2) : AW (aCons f ga) Γ (t :: ts) Γ2 := fun η k => by
  obtain ⟨η1, e1, k1⟩ := hf η k
  obtain ⟨η2, e2, k2⟩ := hg η1 k1
  refine ⟨η2, ?_, k2⟩
  unfold aCons
  simp only [e1, e2, Rs.bind_ok]
theorem vals_len : ∀ ts : List T, (T.vals ts).length = ts.length
  | [] => rfl
  | t :: ts => by simp [T.vals, vals_len ts]
theorem ew_tup (hg : AV ga Γ ds Γ1) (hl : fits ds.length = true := by rfl) : EW (eTup ga) Γ (.sh (.tuple ds)) Γ1 := fun η k => by
  obtain ⟨t2, η2, e2, v2, k2⟩ := hg η k
  refine ⟨η2, ?_, k2⟩
  unfold eTup
  have : fits t2.length = true := by rw [← vals_len, v2]; exact hl
  simp only [e2, Rs.bind_ok, this, if_pos, v2]
theorem ew_lst (hg : AW ga Γ ts Γ1) (hl : fits ts.length = true := by rfl) : EW (eLst ga) Γ (.lst ts) Γ1 := fun η k => by
  obtain ⟨η2, e2, k2⟩ := hg η k
  refine ⟨η2, ?_, k2⟩
  unfold eLst
  simp only [e2, Rs.bind_ok, hl, if_pos]
theorem ed_lst (hg : AV ga Γ ds Γ1) (hl : fits ds.length = true := by rfl) : ED (eLst ga) Γ (.list ds) Γ1 := fun η k => by
  obtain ⟨t2, η2, e2, v2, k2⟩ := hg η k
  refine ⟨.lst t2, η2, ?_, by rw [← v2]; rfl, k2⟩
  unfold eLst
  have : fits t2.length = true := by rw [← vals_len, v2]; exact hl
  simp only [e2, Rs.bind_ok, this, if_pos]
theorem ew_call (hg : AV ga Γ ds Γ1) (ho : opc ds = some r) : EW (eCall opc ga) Γ r Γ1 := fun η k => by
  obtain ⟨t2, η2, e2, v2, k2⟩ := hg η k
  refine ⟨η2, ?_, k2⟩
  unfold eCall
  simp only [e2, Rs.bind_ok, v2, ho, fin1]
theorem ew_callV (h0 : lk Γ i = some d) (ho : opc [d] = some r) : EW (eCallV opc i) Γ r Γ := fun η k => by
  refine ⟨η, ?_, k⟩
  unfold eCallV
  simp only [lk_pk k h0, ho, fin1]
theorem ew_def {G : List PyData → Option T} (hg : AV ga Γ ds Γ1) (ho : G ds = some r) : EW (eDef G ga) Γ r Γ1 := fun η k => by
  obtain ⟨t2, η2, e2, v2, k2⟩ := hg η k
  refine ⟨η2, ?_, k2⟩
  unfold eDef
  simp only [e2, Rs.bind_ok, v2, ho, fin1]
theorem ew_defIO {G : T → List PyData → Option (T × T)} {t0 t1 t00 : T} (hg : AV ga Γ ds Γ1) (h0 : tk Γ i = some t00) (h1 : tk Γ1 i = some t0) (ho : G t0 ds = some (r, t1)) : EW (eDefIO G i ga) Γ r (Γ1.set i (.ow t1)) := fun η k => by
  obtain ⟨t2, η2, e2, v2, k2⟩ := hg η k
  refine ⟨η2.set i (some t1), ?_, k2.set rfl⟩
  unfold eDefIO
  rw [tk_get k h0]
  simp only [e2, Rs.bind_ok, tk_get k2 h1, v2, ho]
end
section
variable {lo hi : FO} {x y : Option Int}
theorem ov_none : OV oNone Γ none Γ := fun η k => ⟨η, rfl, k⟩
theorem ov_some {z : Int} (hf : EW f Γ (.sh (.int z)) Γ1) : OV (oSome f) Γ (some z) Γ1 := fun η k => by
  obtain ⟨η1, e1, k1⟩ := hf η k
  refine ⟨η1, ?_, k1⟩
  unfold oSome
  rw [e1]
  rfl
theorem ew_sl (hf : ED f Γ d Γ1) (h1 : OV lo Γ1 x Γ2) (h2 : OV hi Γ2 y Γ3) (ho : opSl d x y = some r) : EW (eSl f lo hi) Γ r Γ3 := fun η k => by
  obtain ⟨t1, η1, e1, v1, k1⟩ := hf η k
  obtain ⟨η2, e2, k2⟩ := h1 η1 k1
  obtain ⟨η3, e3, k3⟩ := h2 η2 k2
  refine ⟨η3, ?_, k3⟩
  unfold eSl
  simp only [e1, e2, e3, Rs.bind_ok, v1, ho, fin1]
theorem ew_slV (h0 : lk Γ i = some d0) (h1 : OV lo Γ x Γ1) (h2 : OV hi Γ1 y Γ2) (h3 : lk Γ2 i = some d) (ho : opSl d x y = some r) : EW (eSlV i lo hi) Γ r Γ2 := fun η k => by
  obtain ⟨η2, e2, k2⟩ := h1 η k
  obtain ⟨η3, e3, k3⟩ := h2 η2 k2
  refine ⟨η3, ?_, k3⟩
  unfold eSlV
  simp only [lk_pk k h0, e2, e3, Rs.bind_ok, lk_pk k3 h3, ho, fin1]
end
theorem ew_isV {tys : List Ty} (h0 : lk Γ i = some d) (hb : (tys.any fun t => isI t d) = b) (hn : noTd d = true := by rfl) : EW (eIsV tys i) Γ (.sh (.bool b)) Γ := fun η k => by
  refine ⟨η, ?_, k⟩
  unfold eIsV
  simp only [lk_pk k h0, hb, hn, if_true]
theorem ew_is {tys : List Ty} (hf : ED f Γ d Γ1) (hb : (tys.any fun t => isI t d) = b) (hn : noTd d = true := by rfl) : EW (eIs tys f) Γ (.sh (.bool b)) Γ1 := fun η k => by
  obtain ⟨t1, η1, e1, v1, k1⟩ := hf η k
  refine ⟨η1, ?_, k1⟩
  unfold eIs
  simp only [e1, Rs.bind_ok, v1, hb, hn, if_true]
theorem ew_lstRg1 {x : Int} (hf : EW f Γ (.sh (.int x)) Γ1) (hx : 0 ≤ x ∧ x ≤ 16777216) : EW (eLstRg1 f) Γ (.lst ((rgD 0 x).map T.sh)) Γ1 := fun η k => by
  obtain ⟨η1, e1, k1⟩ := hf η k
  refine ⟨η1, ?_, k1⟩
  unfold eLstRg1 rgOk
  simp [e1, hx.1, hx.2]
theorem ew_tupRg1 {x : Int} (hf : EW f Γ (.sh (.int x)) Γ1) (hx : 0 ≤ x ∧ x ≤ 16777216) : EW (eTupRg1 f) Γ (.sh (.tuple (rgD 0 x))) Γ1 := fun η k => by
  obtain ⟨η1, e1, k1⟩ := hf η k
  refine ⟨η1, ?_, k1⟩
  unfold eTupRg1 rgOk
  simp [e1, hx.1, hx.2]
theorem own_tk {η : Pv.Env} {us : List T} (k : SatE Γ η) (h0 : tk Γ i = some (.lst us)) : own η i = some us := by
  unfold own
  rw [tk_get k h0]
theorem ew_mt1 {opm : List T → T → Option (List T × T)} {us us0 us1 : List T} {s : Sl} (h0 : tk Γ i = some (.lst us0)) (hf : EW f Γ t Γ1) (h1 : tk Γ1 i = some (.lst us)) (ho : opm us t = some (us1, r)) (hs : s.Sat (some (.lst us1))) : EW (eMt1 opm i f) Γ r (Γ1.set i s) := fun η k => by
  obtain ⟨η1, e1, k1⟩ := hf η k
  refine ⟨η1.set i (some (.lst us1)), ?_, k1.set hs⟩
  unfold eMt1 setL
  simp only [own_tk k h0, e1, Rs.bind_ok, own_tk k1 h1, ho]
theorem ew_mt0 {opm : List T → Option (List T × T)} {us us1 : List T} {s : Sl} (h0 : tk Γ i = some (.lst us)) (ho : opm us = some (us1, r)) (hs : s.Sat (some (.lst us1))) : EW (eMt0 opm i) Γ r (Γ.set i s) := fun η k => by
  refine ⟨η.set i (some (.lst us1)), ?_, k.set hs⟩
  unfold eMt0 setL
  simp only [own_tk k h0, ho]
theorem ew_mq {opq : List PyData → PyData → Option T} (hf : ED f Γ (.list ds) Γ1) (hg : ED g Γ1 d Γ2) (ho : opq ds d = some r) : EW (eMq opq f g) Γ r Γ2 := fun η k => by
  obtain ⟨t1, η1, e1, v1, k1⟩ := hf η k
  obtain ⟨t2, η2, e2, v2, k2⟩ := hg η1 k1
  refine ⟨η2, ?_, k2⟩
  unfold eMq
  simp only [e1, e2, Rs.bind_ok, v1, v2, ho, fin1]
theorem ew_revL (hf : ED f Γ (.list ds) Γ1) : EW (eRevL f) Γ (.lst (ds.reverse.map T.sh)) Γ1 := fun η k => by
  obtain ⟨t1, η1, e1, v1, k1⟩ := hf η k
  refine ⟨η1, ?_, k1⟩
  unfold eRevL
  simp only [e1, Rs.bind_ok, v1]
/-! what is gone through -/
theorem iv_e (hf : ED f Γ d Γ1) (hs : seqOf d = some ds) : IV (iE f) Γ ds Γ1 := fun η k => by
  obtain ⟨t1, η1, e1, v1, k1⟩ := hf η k
  refine ⟨η1, ?_, k1⟩
  unfold iE
  simp only [e1, Rs.bind_ok, v1, hs]
theorem iv_r1 {x : Int} (hf : EW f Γ (.sh (.int x)) Γ1) (hx : rg62 x = true) : IV (iR1 f) Γ (rgD 0 x) Γ1 := fun η k => by
  obtain ⟨η1, e1, k1⟩ := hf η k
  refine ⟨η1, ?_, k1⟩
  unfold iR1
  simp only [e1, Rs.bind_ok, hx, if_pos]
theorem iv_r2 {x y : Int} (hf : EW f Γ (.sh (.int x)) Γ1) (hg : EW g Γ1 (.sh (.int y)) Γ2) (hx : rg62 x = true ∧ rg62 y = true) : IV (iR2 f g) Γ (rgD x y) Γ2 := fun η k => by
  obtain ⟨η1, e1, k1⟩ := hf η k
  obtain ⟨η2, e2, k2⟩ := hg η1 k1
  refine ⟨η2, ?_, k2⟩
  unfold iR2
  simp only [e1, e2, Rs.bind_ok, hx.1, hx.2, Bool.and_self, if_pos]
theorem iv_en (hf : ED f Γ d Γ1) (hs : seqOf d = some ds) : IV (iEn f) Γ (enumD 0 ds) Γ1 := fun η k => by
  obtain ⟨t1, η1, e1, v1, k1⟩ := hf η k
  refine ⟨η1, ?_, k1⟩
  unfold iEn
  simp only [e1, Rs.bind_ok, v1, hs]
theorem iv_z (hf : ED f Γ d Γ1) (hg : ED g Γ1 e Γ2) (hs : seqOf d = some ds) (hs2 : seqOf e = some es) : IV (iZ f g) Γ (zipD ds es) Γ2 := fun η k => by
  obtain ⟨t1, η1, e1, v1, k1⟩ := hf η k
  obtain ⟨t2, η2, e2, v2, k2⟩ := hg η1 k1
  refine ⟨η2, ?_, k2⟩
  unfold iZ
  simp only [e1, e2, Rs.bind_ok, v1, v2, hs, hs2]
theorem iv_z3 {d3 : PyData} {fs : List PyData} (hf : ED f Γ d Γ1) (hg : ED g Γ1 e Γ2) (hh : ED h Γ2 d3 Γ3) (hs : seqOf d = some ds) (hs2 : seqOf e = some es) (hs3 : seqOf d3 = some fs) : IV (iZ3 f g h) Γ (zip3D ds es fs) Γ3 := fun η k => by
  obtain ⟨t1, η1, e1, v1, k1⟩ := hf η k
  obtain ⟨t2, η2, e2, v2, k2⟩ := hg η1 k1
  obtain ⟨t3, η3, e3, v3, k3⟩ := hh η2 k2
  refine ⟨η3, ?_, k3⟩
  unfold iZ3
  simp only [e1, e2, e3, Rs.bind_ok, v1, v2, v3, hs, hs2, hs3]
theorem IV.as {fi : FI} (hi : IV fi Γ ds Γ1) (he : ds = es) : IV fi Γ es Γ1 := he ▸ hi
/-! targets -/
theorem gw_n {s : Sl} (hs : s.Sat (some t)) : GW (gN i) t Γ (Γ.set i s) := fun η k => ⟨η.set i (some t), rfl, k.set hs⟩
theorem gws_nil : GWs gsNil [] Γ Γ := fun η k => ⟨η, rfl, k⟩
theorem gws_cons {hh : FG} {hs : FGs} (h1 : GW hh (.sh d) Γ Γ1) (h2 : GWs hs ds Γ1 Γ2) : GWs (gsCons hh hs) (d :: ds) Γ Γ2 := fun η k => by
  obtain ⟨η1, e1, k1⟩ := h1 η k
  obtain ⟨η2, e2, k2⟩ := h2 η1 k1
  refine ⟨η2, ?_, k2⟩
  unfold gsCons
  simp only [e1, Rs.bind_ok, e2]
theorem gw_tup {n : Nat} {hs : FGs} (h2 : GWs hs ds Γ Γ1) (hv : t.val = .tuple ds) (hl : ds.length = n) : GW (gTupD n hs) t Γ Γ1 := fun η k => by
  obtain ⟨η2, e2, k2⟩ := h2 η k
  refine ⟨η2, ?_, k2⟩
  unfold gTupD
  simp only [hv, hl, if_pos, e2]
theorem gwo_nil : GWo goNil [] Γ Γ := fun η k => ⟨η, rfl, k⟩
theorem gwo_cons {hh : FG} {hs : FGo} {ts : List T} (h1 : GW hh t Γ Γ1) (h2 : GWo hs ts Γ1 Γ2) : GWo (goCons hh hs) (t :: ts) Γ Γ2 := fun η k => by
  obtain ⟨η1, e1, k1⟩ := h1 η k
  obtain ⟨η2, e2, k2⟩ := h2 η1 k1
  refine ⟨η2, ?_, k2⟩
  unfold goCons
  simp only [e1, Rs.bind_ok, e2]
theorem gw_sub {us us0 : List T} {z : Int} {n : Nat} {s : Sl} (h0 : tk Γ i = some (.lst us0)) (hf : EW f Γ (.sh (.int z)) Γ1) (h1 : tk Γ1 i = some (.lst us)) (hn : ixN us.length z = some n) (hs : s.Sat (some (.lst (us.set n t)))) : GW (Pv.gSub i f) t Γ (Γ1.set i s) := fun η k => by
  obtain ⟨η1, e1, k1⟩ := hf η k
  refine ⟨η1.set i (some (.lst (us.set n t))), ?_, k1.set hs⟩
  unfold Pv.gSub setL
  simp only [own_tk k h0, e1, Rs.bind_ok, own_tk k1 h1, hn]
/-! ### statements -/
section
variable {p q : FS} {P Q : Fl → Pv.Env → Prop} {c : FB} {hh : FG}
theorem sv_nil : SV sNil Γ Γ := fun η k => ⟨η, rfl, k⟩
theorem SV.post (hp : SV p Γ Γ1) (l : Le Γ1 Γ2) : SV p Γ Γ2 := fun η k => by
  obtain ⟨η', e, z⟩ := hp η k
  exact ⟨η', e, l.sat z⟩
theorem SV.pre (l : Le Γ Γ1) (hp : SV p Γ1 Γ2) : SV p Γ Γ2 := fun η k => hp η (l.sat k)
theorem S.pre (l : Le Γ Γ1) (hp : S p Γ1 P) : S p Γ P := fun η k => hp η (l.sat k)
theorem sv_seq (hp : SV p Γ Γ1) (hq : SV q Γ1 Γ2) : SV (sSeq p q) Γ Γ2 := fun η k => by
  obtain ⟨η1, e1, k1⟩ := hp η k
  obtain ⟨η2, e2, k2⟩ := hq η1 k1
  refine ⟨η2, ?_, k2⟩
  unfold sSeq
  simp only [e1, Rs.bind_ok, e2]
theorem s_seq (hp : SV p Γ Γ1) (hq : S q Γ1 P) : S (sSeq p q) Γ P := fun η k => by
  obtain ⟨η1, e1, k1⟩ := hp η k
  obtain ⟨fl, η2, e2, k2⟩ := hq η1 k1
  refine ⟨fl, η2, ?_, k2⟩
  unfold sSeq
  simp only [e1, Rs.bind_ok, e2]
theorem s_of (hp : SV p Γ Γ1) (h : ∀ η, SatE Γ1 η → P .nx η) : S p Γ P := fun η k => by
  obtain ⟨η1, e1, k1⟩ := hp η k
  exact ⟨_, η1, e1, h _ k1⟩
theorem sv_asg (hf : EW f Γ t Γ1) (hg : GW hh t Γ1 Γ2) : SV (sAsg f hh) Γ Γ2 := fun η k => by
  obtain ⟨η1, e1, k1⟩ := hf η k
  obtain ⟨η2, e2, k2⟩ := hg η1 k1
  refine ⟨η2, ?_, k2⟩
  unfold sAsg
  simp only [e1, Rs.bind_ok, e2]
variable {g0 : FE}
theorem sv_asgD (hf : ED f Γ d Γ1) : SV (sAsg f (gN i)) Γ (Γ1.set i (.vl d)) := fun η k => by
  obtain ⟨t, η1, e1, hv, k1⟩ := hf η k
  refine ⟨η1.set i (some t), ?_, k1.set ⟨t, rfl, hv⟩⟩
  unfold sAsg
  simp only [e1, Rs.bind_ok, gN]
theorem s_retD (hf : ED f Γ d Γ1) (hp : ∀ t η, t.val = d → SatE Γ1 η → P (.ret t) η) : S (sRet f) Γ P := fun η k => by
  obtain ⟨t, η1, e1, hv, k1⟩ := hf η k
  refine ⟨_, η1, ?_, hp _ _ hv k1⟩
  unfold sRet
  simp only [e1, Rs.bind_ok]
theorem ed_defIO {G : T → List PyData → Option (T × T)} {ga : FA} {t0 t1 t00 : T} (hg : AV ga Γ ds Γ1) (h0 : tk Γ i = some t00) (h1 : tk Γ1 i = some t0) (ho : ∃ tr, G t0 ds = some (tr, t1) ∧ tr.val = d) : ED (eDefIO G i ga) Γ d (Γ1.set i (.ow t1)) := fun η k => by
  obtain ⟨tr, ho, hv⟩ := ho
  obtain ⟨t2, η2, e2, v2, k2⟩ := hg η k
  refine ⟨tr, η2.set i (some t1), ?_, hv, k2.set rfl⟩
  unfold eDefIO
  rw [tk_get k h0]
  simp only [e2, Rs.bind_ok, tk_get k2 h1, v2, ho]
theorem ed_def {G : List PyData → Option T} {ga : FA} (hg : AV ga Γ ds Γ1) (ho : ∃ tr, G ds = some tr ∧ tr.val = d) : ED (eDef G ga) Γ d Γ1 := fun η k => by
  obtain ⟨tr, ho, hv⟩ := ho
  obtain ⟨t2, η2, e2, v2, k2⟩ := hg η k
  refine ⟨tr, η2, ?_, hv, k2⟩
  unfold eDef
  simp only [e2, Rs.bind_ok, v2, ho, fin1]
theorem ED.as {d' : PyData} (h : ED f Γ d Γ1) (q : d = d') : ED f Γ d' Γ1 := q ▸ h
theorem ew_ifS {σ : Type} {x y : σ} (G : σ → Cxt) (R : σ → T) (hc : BV c Γ b Γ1) (hf : b = true → EW f Γ1 (R x) Γ2) (hg : b = false → EW g Γ1 (R y) Γ3) (l2 : Le Γ2 (G x)) (l3 : Le Γ3 (G y)) : EW (eIf c f g) Γ (R (if b = true then x else y)) (G (if b = true then x else y)) := fun η k => by
  obtain ⟨η1, e1, k1⟩ := hc η k
  unfold eIf
  simp only [e1, Rs.bind_ok]
  cases b with
  | true =>
    obtain ⟨η2, e2, k2⟩ := hf rfl η1 k1
    exact ⟨η2, by simpa using e2, l2.sat k2⟩
  | false =>
    obtain ⟨η2, e2, k2⟩ := hg rfl η1 k1
    exact ⟨η2, by simpa using e2, l3.sat k2⟩
theorem ew_dct1 {k : Key} (h : lk Γ i = some d) : EW (eDct1 k i) Γ (.sh (.dict [(keyD k, d)])) (Γ.set i (.sh d)) := fun η q => by
  obtain ⟨η1, e1, k1⟩ := ew_v h η q
  refine ⟨η1, ?_, k1⟩
  unfold eDct1
  simp only [e1, Rs.bind_ok]
  rfl
theorem ew_revS {d : PyData} (hf : ED f Γ d Γ1) (ho : (match d with
    | .list ds => some (.lst (ds.reverse.map T.sh))
    | .tuple ds => some (.sh (.tuple ds.reverse))
    | _ => none) = some r) : EW (eRevS f) Γ r Γ1 := fun η k => by
  obtain ⟨t1, η1, e1, v1, k1⟩ := hf η k
  refine ⟨η1, ?_, k1⟩
  unfold eRevS
  simp only [e1, Rs.bind_ok, v1]
  revert ho
  split <;> intro ho <;> cases ho <;> rfl
theorem sv_expr (hf : EW f Γ t Γ1) : SV (sExpr f) Γ Γ1 := fun η k => by
  obtain ⟨η1, e1, k1⟩ := hf η k
  refine ⟨η1, ?_, k1⟩
  unfold sExpr
  simp only [e1, Rs.bind_ok]
theorem sv_par {ga : FA} {s1 s2 : Sl} (hf : AW ga Γ [t, u] Γ1) (h1 : s1.Sat (some t)) (h2 : s2.Sat (some u)) : SV (sPar i j ga) Γ ((Γ1.set i s1).set j s2) := fun η k => by
  obtain ⟨η1, e1, k1⟩ := hf η k
  refine ⟨(η1.set i (some t)).set j (some u), ?_, (k1.set h1).set h2⟩
  unfold sPar
  simp only [e1, Rs.bind_ok]
theorem sv_mul {ga : FA} {n : Nat} {ts : List T} {hs : FGo} (hf : AW ga Γ ts Γ1) (hg : GWo hs ts Γ1 Γ2) (hn : ts.length = n) (hn2 : n ≤ 1000) : SV (sMul n ga hs) Γ Γ2 := fun η k => by
  obtain ⟨η1, e1, k1⟩ := hf η k
  obtain ⟨η2, e2, k2⟩ := hg η1 k1
  refine ⟨η2, ?_, k2⟩
  unfold sMul
  simp only [e1, Rs.bind_ok, hn, hn2, and_self, if_pos, e2]
theorem sv_if {σ : Type} {x y : σ} (G : σ → Cxt) (hc : BV c Γ b Γ1) (hp : b = true → SV p Γ1 Γ2) (hq : b = false → SV q Γ1 Γ3) (l2 : Le Γ2 (G x)) (l3 : Le Γ3 (G y)) : SV (sIf c p q) Γ (G (if b = true then x else y)) := fun η k => by
  obtain ⟨η1, e1, k1⟩ := hc η k
  unfold sIf
  simp only [e1, Rs.bind_ok]
  cases b with
  | true =>
    obtain ⟨η2, e2, k2⟩ := hp rfl η1 k1
    exact ⟨η2, by simpa using e2, l2.sat k2⟩
  | false =>
    obtain ⟨η2, e2, k2⟩ := hq rfl η1 k1
    exact ⟨η2, by simpa using e2, l3.sat k2⟩
theorem s_if {ρ : Type} {x y : ρ} (M : ρ → Fl → Pv.Env → Prop) (hc : BV c Γ b Γ1) (hp : b = true → S p Γ1 (M x)) (hq : b = false → S q Γ1 (M y)) : S (sIf c p q) Γ (M (if b = true then x else y)) := fun η k => by
  obtain ⟨η1, e1, k1⟩ := hc η k
  unfold sIf
  simp only [e1, Rs.bind_ok]
  cases b with
  | true =>
    obtain ⟨fl, η2, e2, k2⟩ := hp rfl η1 k1
    exact ⟨fl, η2, by simpa using e2, k2⟩
  | false =>
    obtain ⟨fl, η2, e2, k2⟩ := hq rfl η1 k1
    exact ⟨fl, η2, by simpa using e2, k2⟩
theorem s_ifseq {ρ : Type} {x y : ρ} {w : FS} (M : ρ → Fl → Pv.Env → Prop) (hc : BV c Γ b Γ1) (hp : b = true → S (sSeq p w) Γ1 (M x)) (hq : b = false → S (sSeq q w) Γ1 (M y)) : S (sSeq (sIf c p q) w) Γ (M (if b = true then x else y)) := fun η k => by
  obtain ⟨η1, e1, k1⟩ := hc η k
  unfold sSeq sIf
  simp only [e1, Rs.bind_ok]
  cases b with
  | true =>
    obtain ⟨fl, η2, e2, k2⟩ := hp rfl η1 k1
    exact ⟨fl, η2, by simpa using e2, k2⟩
  | false =>
    obtain ⟨fl, η2, e2, k2⟩ := hq rfl η1 k1
    exact ⟨fl, η2, by simpa using e2, k2⟩
theorem s_nilseq (hq : S q Γ P) : S (sSeq sNil q) Γ P := fun η k => by
  obtain ⟨fl, η2, e2, k2⟩ := hq η k
  exact ⟨fl, η2, e2, k2⟩
theorem s_assoc {w : FS} (hq : S (sSeq p (sSeq q w)) Γ P) : S (sSeq (sSeq p q) w) Γ P := fun η k => by
  obtain ⟨fl, η2, e2, k2⟩ := hq η k
  refine ⟨fl, η2, ?_, k2⟩
  rw [← e2]
  unfold sSeq
  cases h1 : p η with
  | ok r =>
    obtain ⟨fl1, η1⟩ := r
    cases fl1 <;> rfl
  | exc _ _ => rfl
  | bad => rfl
/-- a statement that does not go on -/
theorem s_stop (hp : S p Γ fun fl η => fl ≠ .nx ∧ P fl η) : S (sSeq p q) Γ P := fun η k => by
  obtain ⟨fl, η1, e1, n, k1⟩ := hp η k
  refine ⟨fl, η1, ?_, k1⟩
  unfold sSeq
  simp only [e1, Rs.bind_ok]
theorem s_ret (hf : EW f Γ t Γ1) (hp : ∀ η, SatE Γ1 η → P (.ret t) η) : S (sRet f) Γ P := fun η k => by
  obtain ⟨η1, e1, k1⟩ := hf η k
  refine ⟨_, η1, ?_, hp _ k1⟩
  unfold sRet
  simp only [e1, Rs.bind_ok]
theorem s_retV (h0 : tk Γ i = some t) (hp : ∀ η, SatE (Γ.set i .fr) η → P (.ret t) η) : S (sRetV i) Γ P := fun η k => by
  refine ⟨.ret t, η.set i none, ?_, hp _ (k.set (.inl rfl))⟩
  unfold sRetV
  rw [tk_get k h0]
theorem s_retN (hp : ∀ η, SatE Γ η → P (.ret (.sh .none)) η) : S sRetN Γ P := fun η k => ⟨_, η, rfl, hp _ k⟩
theorem s_bk (hp : ∀ η, SatE Γ η → P .bk η) : S sBreak Γ P := fun η k => ⟨_, η, rfl, hp _ k⟩
theorem s_ct (hp : ∀ η, SatE Γ η → P .ct η) : S sCont Γ P := fun η k => ⟨_, η, rfl, hp _ k⟩
end
end Tv
set_option Elab.async false
set_option linter.all false
set_option maxRecDepth 100000
set_option maxHeartbeats 4000000
namespace Tv
open PySem L2 Pv
/-! ### loops -/
def WFold {σ α : Type} (step : σ → α → σ) (W : σ → α → Prop) : σ → List α → Prop
  | _, [] => True
  | s, x :: l => W s x ∧ WFold step W (step s x) l
/-- one turn ends -/
inductive Lp (σ ρ : Type) where
  | nx (s : σ)
  | bk (s : σ)
  | ret (r : ρ)
def foldL {σ α ρ : Type} (step : σ → α → Lp σ ρ) : σ → List α → Except ρ σ
  | s, [] => .ok s
  | s, x :: l => match step s x with
    | .nx s' => foldL step s' l
    | .bk s' => .ok s'
    | .ret r => .error r
def WFoldL {σ α ρ : Type} (step : σ → α → Lp σ ρ) (W : σ → α → Prop) : σ → List α → Prop
  | _, [] => True
  | s, x :: l => W s x ∧ match step s x with
    | .nx s' => WFoldL step W s' l
    | _ => True
def LpP {σ ρ : Type} (G : σ → Cxt) (R : ρ → Pv.Env → T → Prop) : Lp σ ρ → Fl → Pv.Env → Prop
  | .nx s, fl, η => (fl = .nx ∨ fl = .ct) ∧ SatE (G s) η
  | .bk s, fl, η => fl = .bk ∧ SatE (G s) η
  | .ret r, fl, η => ∃ t, fl = .ret t ∧ R r η t
def ExP {σ ρ : Type} (G : σ → Cxt) (R : ρ → Pv.Env → T → Prop) : Except ρ σ → Fl → Pv.Env → Prop
  | .ok s, fl, η => fl = .nx ∧ SatE (G s) η
  | .error r, fl, η => ∃ t, fl = .ret t ∧ R r η t
/-- a turn: the target is set, the body is run -/
def Turn (tgt : FG) (body : FS) (Γ : Cxt) (d : PyData) (P : Fl → Pv.Env → Prop) : Prop := ∀ η, SatE Γ η → ∃ η1 fl η2, tgt (.sh d) η = .ok η1 ∧ body η1 = .ok (fl, η2) ∧ P fl η2
section
variable {σ α ρ : Type} {tgt : FG} {body : FS} {Γ Γ0 Γ1 Γ2 Γ3 : Cxt} {d d0 : PyData} {P : Fl → Pv.Env → Prop} {fi : FI} {j : Nat} {e : α → PyData} {l : List α} {G : σ → Cxt} {s0 : σ} {R : ρ → Pv.Env → T → Prop}
theorem turn (hg : GW tgt (.sh d) Γ Γ1) (hb : S body Γ1 P) : Turn tgt body Γ d P := fun η k => by
  obtain ⟨η1, e1, k1⟩ := hg η k
  obtain ⟨fl, η2, e2, k2⟩ := hb η1 k1
  exact ⟨η1, fl, η2, e1, e2, k2⟩
theorem loop_all {step : σ → α → σ} {W : σ → α → Prop} {chk : Pv.Env → Bool} (hc : ∀ s η, SatE (G s) η → chk η = true) (hb : ∀ s x, W s x → Turn tgt body (G s) (e x) fun fl η => (fl = .nx ∨ fl = .ct) ∧ SatE (G (step s x)) η) :
    ∀ {l : List α} {s : σ} {η : Pv.Env}, WFold step W s l → SatE (G s) η → ∃ η', loopF chk tgt body (l.map e) η = .ok (.nx, η') ∧ SatE (G (l.foldl step s)) η'
  | [], s, η, _, k => ⟨η, rfl, k⟩
  | x :: l, s, η, hw, k => by
    obtain ⟨η1, fl, η2, e1, e2, hf, k2⟩ := hb s x hw.1 η k
    obtain ⟨η', e3, k3⟩ := loop_all hc hb (l := l) hw.2 k2
    refine ⟨η', ?_, k3⟩
    rw [List.map_cons]
    unfold loopF
    rw [e1]
    simp only [Rs.bind_ok]
    rw [e2]
    simp only [Rs.bind_ok]
    rcases hf with rfl | rfl <;> simp only [hc _ _ k2, if_pos, e3]
theorem sv_for {step : σ → α → σ} {W : σ → α → Prop} (hi : IV fi Γ (l.map e) Γ1) (h0 : Le Γ1 (G s0)) (hw : WFold step W s0 l)
    (hb : ∀ s x, W s x → Turn tgt body (G s) (e x) fun fl η => (fl = .nx ∨ fl = .ct) ∧ SatE (G (step s x)) η) : SV (sFor fi tgt body) Γ (G (l.foldl step s0)) := fun η k => by
  obtain ⟨η1, e1, k1⟩ := hi η k
  obtain ⟨η', e2, k2⟩ := loop_all (chk := fun _ => true) (fun _ _ _ => rfl) hb hw (h0.sat k1)
  refine ⟨η', ?_, k2⟩
  unfold sFor
  simp only [e1, Rs.bind_ok, e2]
theorem sv_forV {step : σ → α → σ} {W : σ → α → Prop} (h : lk Γ j = some d0) (hs : seqOf d0 = some (l.map e)) (h1 : ∀ s, lk (G s) j = some d0) (h0 : Le Γ (G s0)) (hw : WFold step W s0 l)
    (hb : ∀ s x, W s x → Turn tgt body (G s) (e x) fun fl η => (fl = .nx ∨ fl = .ct) ∧ SatE (G (step s x)) η) : SV (sForV j tgt body) Γ (G (l.foldl step s0)) := fun η k => by
  obtain ⟨η', e2, k2⟩ := loop_all (chk := pkIs j d0) (fun s η k => pkIs_of (lk_pk k (h1 s))) hb hw (h0.sat k)
  refine ⟨η', ?_, k2⟩
  unfold sForV
  simp only [lk_pk k h, hs, e2]
theorem loop_allL {step : σ → α → Lp σ ρ} {W : σ → α → Prop} {chk : Pv.Env → Bool} (hc : ∀ s η, SatE (G s) η → chk η = true) (hb : ∀ s x, W s x → Turn tgt body (G s) (e x) (LpP G R (step s x))) :
    ∀ {l : List α} {s : σ} {η : Pv.Env}, WFoldL step W s l → SatE (G s) η → ∃ fl η', loopF chk tgt body (l.map e) η = .ok (fl, η') ∧ ExP G R (foldL step s l) fl η'
  | [], s, η, _, k => ⟨.nx, η, rfl, rfl, k⟩
  | x :: l, s, η, hw, k => by
    obtain ⟨η1, fl, η2, e1, e2, hf⟩ := hb s x hw.1 η k
    have hw2 := hw.2
    rw [List.map_cons]
    unfold loopF foldL
    rw [e1]
    simp only [Rs.bind_ok]
    rw [e2]
    simp only [Rs.bind_ok]
    cases hs : step s x with
    | nx s' =>
      rw [hs] at hf hw2
      obtain ⟨hf, k2⟩ := hf
      obtain ⟨fl', η', e3, k3⟩ := loop_allL hc hb (l := l) hw2 k2
      refine ⟨fl', η', ?_, k3⟩
      rcases hf with rfl | rfl <;> simp only [hc _ _ k2, if_pos, e3]
    | bk s' =>
      rw [hs] at hf
      obtain ⟨rfl, k2⟩ := hf
      exact ⟨.nx, η2, rfl, rfl, k2⟩
    | ret r =>
      rw [hs] at hf
      obtain ⟨t, rfl, k2⟩ := hf
      exact ⟨.ret t, η2, rfl, t, rfl, k2⟩
theorem s_for {step : σ → α → Lp σ ρ} {W : σ → α → Prop} (hi : IV fi Γ (l.map e) Γ1) (h0 : Le Γ1 (G s0)) (hw : WFoldL step W s0 l)
    (hb : ∀ s x, W s x → Turn tgt body (G s) (e x) (LpP G R (step s x))) : S (sFor fi tgt body) Γ (ExP G R (foldL step s0 l)) := fun η k => by
  obtain ⟨η1, e1, k1⟩ := hi η k
  obtain ⟨fl, η', e2, k2⟩ := loop_allL (chk := fun _ => true) (fun _ _ _ => rfl) hb hw (h0.sat k1)
  refine ⟨fl, η', ?_, k2⟩
  unfold sFor
  simp only [e1, Rs.bind_ok, e2]
theorem s_forV {step : σ → α → Lp σ ρ} {W : σ → α → Prop} (h : lk Γ j = some d0) (hs : seqOf d0 = some (l.map e)) (h1 : ∀ s, lk (G s) j = some d0) (h0 : Le Γ (G s0)) (hw : WFoldL step W s0 l)
    (hb : ∀ s x, W s x → Turn tgt body (G s) (e x) (LpP G R (step s x))) : S (sForV j tgt body) Γ (ExP G R (foldL step s0 l)) := fun η k => by
  obtain ⟨fl, η', e2, k2⟩ := loop_allL (chk := pkIs j d0) (fun s η k => pkIs_of (lk_pk k (h1 s))) hb hw (h0.sat k)
  refine ⟨fl, η', ?_, k2⟩
  unfold sForV
  simp only [lk_pk k h, hs, e2]
def exC {σ ρ τ : Type} (x : Except ρ σ) (on : σ → τ) (up : ρ → τ) : τ := match x with
  | .ok s => on s
  | .error r => up r
/-- behind a loop that may hand back -/
theorem s_seqX {p q : FS} {x : Except ρ σ} {τ : Type} {M : τ → Fl → Pv.Env → Prop} (on : σ → τ) (up : ρ → τ) (hp : S p Γ (ExP G R x)) (hr : ∀ r η t, R r η t → M (up r) (.ret t) η) (hq : ∀ s, x = .ok s → S q (G s) (M (on s))) : S (sSeq p q) Γ (M (exC x on up)) := fun η k => by
  obtain ⟨fl, η1, e1, h1⟩ := hp η k
  unfold sSeq
  simp only [e1, Rs.bind_ok]
  cases x with
  | ok s =>
    obtain ⟨rfl, k1⟩ := h1
    obtain ⟨fl2, η2, e2, k2⟩ := hq s rfl η1 k1
    exact ⟨fl2, η2, e2, k2⟩
  | error r =>
    obtain ⟨t, rfl, k1⟩ := h1
    exact ⟨_, η1, rfl, hr _ _ _ k1⟩
/-- .. as the last statement -/
theorem s_endX {p : FS} {x : Except ρ σ} {τ : Type} {M : τ → Fl → Pv.Env → Prop} (on : σ → τ) (up : ρ → τ) (hp : S p Γ (ExP G R x)) (hr : ∀ r η t, R r η t → M (up r) (.ret t) η) (hq : ∀ s η, SatE (G s) η → M (on s) .nx η) : S p Γ (M (exC x on up)) := fun η k => by
  obtain ⟨fl, η1, e1, h1⟩ := hp η k
  refine ⟨fl, η1, e1, ?_⟩
  cases x with
  | ok s =>
    obtain ⟨rfl, k1⟩ := h1
    exact hq s _ k1
  | error r =>
    obtain ⟨t, rfl, k1⟩ := h1
    exact hr _ _ _ k1
/-! while -/
def whileF (c : σ → Bool) (step : σ → σ) : Nat → σ → σ
  | 0, s => s
  | n + 1, s => if c s = true then whileF c step n (step s) else s
def WWhile (c : σ → Bool) (step : σ → σ) (Wc W : σ → Prop) : Nat → σ → Prop
  | 0, _ => False
  | n + 1, s => Wc s ∧ (c s = true → W s ∧ WWhile c step Wc W n (step s))
theorem sv_while {cf : FB} {c : σ → Bool} {step : σ → σ} {Wc W : σ → Prop} (hc : ∀ s, Wc s → BV cf (G s) (c s) (G s)) (hb : ∀ s, W s → c s = true → S body (G s) fun fl η => (fl = .nx ∨ fl = .ct) ∧ SatE (G (step s)) η) : ∀ {n : Nat} {s0 : σ} {Γ : Cxt}, Le Γ (G s0) → WWhile c step Wc W n s0 → SV (sWhile n cf body) Γ (G (whileF c step n s0))
  | 0, _, _, _, h => h.elim
  | n + 1, s0, Γ, h0, hw => fun η k => by
    obtain ⟨η1, e1, k1⟩ := hc s0 hw.1 η (h0.sat k)
    unfold sWhile loopW whileF
    simp only [e1, Rs.bind_ok]
    by_cases b : c s0 = true
    · obtain ⟨hw1, hw2⟩ := hw.2 b
      obtain ⟨fl, η2, e2, hf, k2⟩ := hb s0 hw1 b η1 k1
      obtain ⟨η3, e3, k3⟩ := sv_while hc hb (n := n) (Le.refl (G (step s0))) hw2 η2 k2
      unfold sWhile at e3
      refine ⟨η3, ?_, by rw [if_pos b]; exact k3⟩
      simp only [b, if_pos, e2, Rs.bind_ok]
      rcases hf with rfl | rfl <;> simp only [e3]
    · refine ⟨η1, ?_, by rw [if_neg b]; exact k1⟩
      simp only [b, if_neg, Bool.false_eq_true, not_false_eq_true]
end
/-! ### comprehensions -/
def frC (Γ : Cxt) : List Nat → Cxt
  | [] => Γ
  | v :: vs => (frC Γ vs).set v .fr
/-- one item: the target is set, tested, the item is made; the own slots hold nothing of their own behind it -/
def Item (tgt : FG) (cond : FB) (elt : FE) (Γw : Cxt) (d : PyData) (b : Bool) (t : T) (Γw' : Cxt) : Prop := ∀ η, SatE Γw η → ∃ η1 η2, tgt (.sh d) η = .ok η1 ∧ cond η1 = .ok (b, η2) ∧ (b = false → SatE Γw' η2) ∧ (b = true → ∃ η3, elt η2 = .ok (t, η3) ∧ SatE Γw' η3)
theorem satE_own {Γ : Cxt} {own : List Nat} {η : Pv.Env} (h : SatE Γ η) (ho : ∀ v ∈ own, Γ[v]? = some .fr) : ownFree η own = true := by
  unfold ownFree
  rw [List.all_eq_true]
  intro v hv
  obtain ⟨o, e, k⟩ := h.get (ho v hv)
  unfold free1
  rw [e]
  rcases k with rfl | ⟨d, rfl⟩ <;> rfl
theorem satE_wipe {Γ : Cxt} {η : Pv.Env} (h : SatE Γ η) : ∀ {own : List Nat}, (∀ v ∈ own, Γ[v]? = some .fr) → SatE Γ (wipeE η own)
  | [], _ => h
  | v :: vs, ho => by
    have := (satE_wipe h (own := vs) fun w hw => ho w (List.mem_cons_of_mem _ hw)).set (i := v) (s := .fr) (o := none) (.inl rfl)
    rw [set_self (ho v List.mem_cons_self)] at this
    exact this
theorem frC_get {Γ : Cxt} : ∀ {own : List Nat} {i : Nat}, i ∉ own → (frC Γ own)[i]? = Γ[i]?
  | [], i, _ => rfl
  | v :: vs, i, h => by
    unfold frC
    rw [List.getElem?_set_ne (fun e => h (by simp [e])), frC_get fun hv => h (List.mem_cons_of_mem _ hv)]
theorem frC_len (Γ : Cxt) : ∀ own : List Nat, (frC Γ own).length = Γ.length
  | [] => rfl
  | v :: vs => by unfold frC; rw [List.length_set, frC_len Γ vs]
theorem frC_own {Γ : Cxt} : ∀ {own : List Nat} {i : Nat}, i ∈ own → i < Γ.length → (frC Γ own)[i]? = some .fr
  | v :: vs, i, h, hi => by
    unfold frC
    by_cases e : v = i
    · subst e
      rw [List.getElem?_set_self (by rw [frC_len]; exact hi)]
    · rw [List.getElem?_set_ne e]
      rcases List.mem_cons.mp h with h | h
      · exact absurd h.symm e
      · exact frC_own h hi
/-- slot by slot -/
theorem satE_of : ∀ {Γ : Cxt} {η : Pv.Env}, η.length = Γ.length → (∀ (i : Nat) (s : Sl), Γ[i]? = some s → ∃ o, η[i]? = some o ∧ s.Sat o) → SatE Γ η
  | [], [], _, _ => rfl
  | [], _ :: _, h, _ => by simp at h
  | _ :: _, [], h, _ => by simp at h
  | s :: Γ, o :: η, h, k => by
    refine ⟨?_, satE_of (by simpa using h) fun i s' e => ?_⟩
    · obtain ⟨o', e, q⟩ := k 0 s rfl
      cases e
      exact q
    · obtain ⟨o', e', q⟩ := k (i + 1) s' (by simpa using e)
      exact ⟨o', by simpa using e', q⟩
theorem backE_get {η1 : Pv.Env} : ∀ {own : List Nat} {η : Pv.Env} {i : Nat}, i ∉ own → (backE η1 own η)[i]? = η[i]?
  | [], η, i, _ => rfl
  | v :: vs, η, i, h => by
    unfold backE
    rw [backE_get fun hv => h (List.mem_cons_of_mem _ hv), List.getElem?_set_ne (fun e => h (by simp [e]))]
theorem backE_len {η1 : Pv.Env} : ∀ {own : List Nat} {η : Pv.Env}, (backE η1 own η).length = η.length
  | [], η => rfl
  | v :: vs, η => by unfold backE; rw [backE_len, List.length_set]
theorem backE_own {η1 : Pv.Env} : ∀ {own : List Nat} {η : Pv.Env} {i : Nat}, i ∈ own → i < η.length → (backE η1 own η)[i]? = some (η1[i]?.join)
  | v :: vs, η, i, h, hi => by
    unfold backE
    by_cases hv : i ∈ vs
    · exact backE_own hv (by rw [List.length_set]; exact hi)
    · rcases List.mem_cons.mp h with h | h
      case inr => exact absurd h hv
      subst h
      rw [backE_get hv, List.getElem?_set_self hi]
/-- the own slots come back -/
theorem satE_back {Γ1 Γw : Cxt} {own : List Nat} {η1 η : Pv.Env} (h1 : SatE Γ1 η1) (h : SatE Γw η) (hl : Γ1.length = Γw.length) (ho : ∀ i, i ∉ own → Γw[i]? = Γ1[i]?) : SatE Γ1 (backE η1 own η) := by
  refine satE_of (by rw [backE_len, h.len, hl]) fun i s e => ?_
  by_cases hi : i ∈ own
  · have hil : i < η.length := by
      have := (List.getElem?_eq_some_iff.mp e).1
      rw [h.len, ← hl]
      exact this
    rw [backE_own hi hil]
    obtain ⟨o, e1, k⟩ := h1.get e
    exact ⟨o, by rw [e1]; rfl, k⟩
  · rw [backE_get hi]
    exact h.get (by rw [ho i hi]; exact e)
section
variable {α β : Type} {own : List Nat} {fi : FI} {tgt : FG} {cond : FB} {elt f : FE} {Γ Γ1 Γ2 Γ3 Γw Γa Γb : Cxt} {d0 : PyData} {i : Nat} {e : α → PyData} {l : List α} {r : α → T} {c : α → Bool} {chk : Pv.Env → Bool} {b : Bool} {t : T} {d : PyData}
theorem item (hg : GW tgt (.sh d) Γw Γ1) (hc : BV cond Γ1 b Γ2) (h0 : b = false → Le Γ2 Γw) (he : b = true → EW elt Γ2 t Γ3) (l3 : Le Γ3 Γw) : Item tgt cond elt Γw d b t Γw := fun η k => by
  obtain ⟨η1, e1, k1⟩ := hg η k
  obtain ⟨η2, e2, k2⟩ := hc η1 k1
  refine ⟨η1, η2, e1, e2, fun hb => (h0 hb).sat k2, fun hb => ?_⟩
  obtain ⟨η3, e3, k3⟩ := he hb η2 k2
  exact ⟨η3, e3, l3.sat k3⟩
theorem item1 (hg : GW tgt (.sh d) Γw Γ1) (he : EW elt Γ1 t Γ3) (l3 : Le Γ3 Γw) : Item tgt bTrue elt Γw d true t Γw := item hg bv_true (fun h => by cases h) (fun _ => he) l3
theorem loopC_of (hc : ∀ η, SatE Γw η → chk η = true) (ho : ∀ v ∈ own, Γw[v]? = some .fr) : ∀ {l : List α} {η : Pv.Env}, (∀ x ∈ l, Item tgt cond elt Γw (e x) (c x) (r x) Γw) → SatE Γw η → ∃ η', loopC chk own tgt cond elt (l.map e) η = .ok ((l.filter c).map r, η') ∧ SatE Γw η'
  | [], η, _, k => ⟨η, rfl, k⟩
  | x :: l, η, hb, k => by
    obtain ⟨η1, η2, e1, e2, hf, ht⟩ := hb x List.mem_cons_self η k
    rw [List.map_cons]
    unfold loopC
    rw [e1]
    simp only [Rs.noX_ok, Rs.bind_ok]
    rw [e2]
    simp only [Rs.noX_ok, Rs.bind_ok]
    cases hx : c x with
    | true =>
      obtain ⟨η3, e3, k3⟩ := ht hx
      have kw := satE_wipe k3 ho
      obtain ⟨η', e4, k4⟩ := loopC_of hc ho (l := l) (fun y hy => hb y (List.mem_cons_of_mem _ hy)) kw
      refine ⟨η', ?_, k4⟩
      simp only [if_pos, e3, Rs.noX_ok, Rs.bind_ok, satE_own k3 ho, hc _ kw, and_self, e4]
      rw [List.filter_cons_of_pos hx]
      rfl
    | false =>
      have k3 := hf hx
      have kw := satE_wipe k3 ho
      obtain ⟨η', e4, k4⟩ := loopC_of hc ho (l := l) (fun y hy => hb y (List.mem_cons_of_mem _ hy)) kw
      refine ⟨η', ?_, k4⟩
      simp only [Bool.false_eq_true, if_false, satE_own k3 ho, hc _ kw, and_self, if_true, e4]
      rw [List.filter_cons_of_neg (by rw [hx]; exact Bool.false_ne_true)]
/-- what a context gives with its own slots free -/
def Free (Γ1 : Cxt) (own : List Nat) : Prop := ∀ v ∈ own, ∃ s, Γ1[v]? = some s ∧ s.le .fr
theorem le_frC {Γ : Cxt} {η : Pv.Env} (h : SatE Γ η) : ∀ {own : List Nat}, Free Γ own → SatE (frC Γ own) η
  | [], _ => h
  | v :: vs, ho => by
    have ih := le_frC h (own := vs) fun w hw => ho w (List.mem_cons_of_mem _ hw)
    obtain ⟨s, e, q⟩ := ho v List.mem_cons_self
    obtain ⟨o, e1, k⟩ := h.get e
    have := ih.set (i := v) (s := .fr) (o := o) (q.sat k)
    rw [set_self e1] at this
    exact this
theorem own_frC (ho : Free Γ1 own) : ∀ v ∈ own, (frC Γ1 own)[v]? = some .fr := fun v hv => by
  obtain ⟨s, e, _⟩ := ho v hv
  exact frC_own hv (List.getElem?_eq_some_iff.mp e).1
theorem ew_comp (hi : IV fi Γ (l.map e) Γ1) (hl : l.length < 16777216) (ho : Free Γ1 own) (hb : ∀ x ∈ l, Item tgt cond elt (frC Γ1 own) (e x) (c x) (r x) (frC Γ1 own)) : EW (eComp own fi tgt cond elt) Γ (.lst ((l.filter c).map r)) Γ1 := fun η k => by
  obtain ⟨η1, e1, k1⟩ := hi η k
  have kf := le_frC k1 ho
  have hof := own_frC ho
  obtain ⟨η', e2, k2⟩ := loopC_of (chk := fun _ => true) (c := c) (r := r) (fun _ _ => rfl) hof hb (satE_wipe kf hof)
  refine ⟨backE η1 own η', ?_, satE_back k1 k2 (by rw [frC_len]) fun i hi => frC_get hi⟩
  unfold eComp
  have hl' : line (l.map e).length = true := by unfold line; rw [List.length_map]; exact decide_eq_true hl
  simp only [e1, Rs.bind_ok, satE_own kf hof, hl', Bool.and_self, if_pos, e2]
theorem ew_compV (h : lk Γ i = some d0) (hs : seqOf d0 = some (l.map e)) (hio : own.contains i = false) (hl : l.length < 16777216) (ho : Free Γ own) (hb : ∀ x ∈ l, Item tgt cond elt (frC Γ own) (e x) (c x) (r x) (frC Γ own)) : EW (eCompV own i tgt cond elt) Γ (.lst ((l.filter c).map r)) Γ := fun η k => by
  have kf := le_frC k ho
  have hof := own_frC ho
  have hni : i ∉ own := fun hm => by
    rw [List.contains_eq_mem, decide_eq_false_iff_not] at hio
    exact hio hm
  have hlk : lk (frC Γ own) i = some d0 := by
    unfold lk
    rw [frC_get hni]
    exact h
  obtain ⟨η', e2, k2⟩ := loopC_of (chk := pkIs i d0) (c := c) (r := r) (fun η k => pkIs_of (lk_pk k hlk)) hof hb (satE_wipe kf hof)
  refine ⟨backE η own η', ?_, satE_back k k2 (by rw [frC_len]) fun i hi => frC_get hi⟩
  unfold eCompV
  have hl' : line (l.map e).length = true := by unfold line; rw [List.length_map]; exact decide_eq_true hl
  simp only [lk_pk k h, hs, satE_own kf hof, hl', hio, Bool.and_self, Bool.not_false, if_pos, e2, Rs.bind_ok]
/-- without a test -/
theorem ew_compM (hi : IV fi Γ (l.map e) Γ1) (hl : l.length < 16777216) (ho : Free Γ1 own) (hb : ∀ x ∈ l, Item tgt bTrue elt (frC Γ1 own) (e x) true (r x) (frC Γ1 own)) : EW (eComp own fi tgt bTrue elt) Γ (.lst (l.map r)) Γ1 := by
  have := ew_comp (c := fun _ => true) (r := r) hi hl ho hb
  rw [List.filter_eq_self.mpr fun _ _ => rfl] at this
  exact this
theorem ew_compVM (h : lk Γ i = some d0) (hs : seqOf d0 = some (l.map e)) (hio : own.contains i = false) (hl : l.length < 16777216) (ho : Free Γ own) (hb : ∀ x ∈ l, Item tgt bTrue elt (frC Γ own) (e x) true (r x) (frC Γ own)) : EW (eCompV own i tgt bTrue elt) Γ (.lst (l.map r)) Γ := by
  have := ew_compV (c := fun _ => true) (r := r) h hs hio hl ho hb
  rw [List.filter_eq_self.mpr fun _ _ => rfl] at this
  exact this
end
/-! with a state: draws -/
def mapS {σ α β : Type} (step : σ → α → β × σ) : σ → List α → List β × σ
  | s, [] => ([], s)
  | s, x :: l => ((step s x).1 :: (mapS step (step s x).2 l).1, (mapS step (step s x).2 l).2)
def WMapS {σ α β : Type} (step : σ → α → β × σ) (W : σ → α → Prop) : σ → List α → Prop
  | _, [] => True
  | s, x :: l => W s x ∧ WMapS step W (step s x).2 l
section
variable {σ α β : Type} {own : List Nat} {fi : FI} {tgt : FG} {elt f : FE} {Γ Γ1 : Cxt} {d0 : PyData} {i : Nat} {e : α → PyData} {l : List α} {r : β → T} {chk : Pv.Env → Bool} {G : σ → Cxt} {step : σ → α → β × σ} {W : σ → α → Prop} {s0 : σ}
theorem loopC_st (hc : ∀ s η, SatE (G s) η → chk η = true) (ho : ∀ s, ∀ v ∈ own, (G s)[v]? = some .fr) (hb : ∀ s x, W s x → Item tgt bTrue elt (G s) (e x) true (r (step s x).1) (G (step s x).2)) : ∀ {l : List α} {s : σ} {η : Pv.Env}, WMapS step W s l → SatE (G s) η → ∃ η', loopC chk own tgt bTrue elt (l.map e) η = .ok ((mapS step s l).1.map r, η') ∧ SatE (G (mapS step s l).2) η'
  | [], s, η, _, k => ⟨η, rfl, k⟩
  | x :: l, s, η, hw, k => by
    obtain ⟨η1, η2, e1, e2, _, ht⟩ := hb s x hw.1 η k
    obtain ⟨η3, e3, k3⟩ := ht rfl
    have kw := satE_wipe k3 (ho _)
    obtain ⟨η', e4, k4⟩ := loopC_st hc ho hb (l := l) hw.2 kw
    refine ⟨η', ?_, k4⟩
    rw [List.map_cons]
    unfold loopC
    rw [e1]
    simp only [Rs.noX_ok, Rs.bind_ok]
    rw [e2]
    simp only [Rs.noX_ok, Rs.bind_ok, if_pos, e3, satE_own k3 (ho _), hc _ _ kw, and_self, e4]
    rfl
theorem itemS {Γw Γw' Γ2 Γ3 : Cxt} {t : T} {d : PyData} (hg : GW tgt (.sh d) Γw Γ2) (he : EW elt Γ2 t Γ3) (l3 : Le Γ3 Γw') : Item tgt bTrue elt Γw d true t Γw' := fun η k => by
  obtain ⟨η1, e1, k1⟩ := hg η k
  obtain ⟨η3, e3, k3⟩ := he η1 k1
  exact ⟨η1, η1, e1, rfl, (fun h => by cases h), fun _ => ⟨η3, e3, l3.sat k3⟩⟩
theorem ew_compS (hi : IV fi Γ (l.map e) Γ1) (hl : l.length < 16777216) (h0 : Le Γ1 (G s0)) (ho : ∀ s, ∀ v ∈ own, (G s)[v]? = some .fr) (hw : WMapS step W s0 l) (hb : ∀ s x, W s x → Item tgt bTrue elt (G s) (e x) true (r (step s x).1) (G (step s x).2)) : EW (eComp own fi tgt bTrue elt) Γ (.lst ((mapS step s0 l).1.map r)) (G (mapS step s0 l).2) := fun η k => by
  obtain ⟨η1, e1, k1⟩ := hi η k
  have kf := h0.sat k1
  obtain ⟨η', e2, k2⟩ := loopC_st (chk := fun _ => true) (r := r) (fun _ _ _ => rfl) ho hb hw (satE_wipe kf (ho s0))
  refine ⟨backE η1 own η', ?_, satE_of (by rw [backE_len]; exact k2.len) fun v s ev => ?_⟩
  · unfold eComp
    have hl' : line (l.map e).length = true := by unfold line; rw [List.length_map]; exact decide_eq_true hl
    simp only [e1, Rs.bind_ok, satE_own kf (ho s0), hl', Bool.and_self, if_pos, e2]
  · by_cases hv : v ∈ own
    · rw [ho _ v hv] at ev
      cases ev
      have hil : v < η'.length := by
        have := (List.getElem?_eq_some_iff.mp (ho (mapS step s0 l).2 v hv)).1
        rw [k2.len]; exact this
      rw [backE_own hv hil]
      obtain ⟨o, e3, k3⟩ := kf.get (ho s0 v hv)
      exact ⟨o, by rw [e3]; rfl, k3⟩
    · rw [backE_get hv]
      exact k2.get ev
theorem ew_compVS (h : lk Γ i = some d0) (hs : seqOf d0 = some (l.map e)) (hio : own.contains i = false) (hk : ∀ s, lk (G s) i = some d0) (hl : l.length < 16777216) (h0 : Le Γ (G s0)) (ho : ∀ s, ∀ v ∈ own, (G s)[v]? = some .fr) (hw : WMapS step W s0 l) (hb : ∀ s x, W s x → Item tgt bTrue elt (G s) (e x) true (r (step s x).1) (G (step s x).2)) : EW (eCompV own i tgt bTrue elt) Γ (.lst ((mapS step s0 l).1.map r)) (G (mapS step s0 l).2) := fun η k => by
  have kf := h0.sat k
  obtain ⟨η', e2, k2⟩ := loopC_st (chk := pkIs i d0) (r := r) (fun s η k => pkIs_of (lk_pk k (hk s))) ho hb hw (satE_wipe kf (ho s0))
  refine ⟨backE η own η', ?_, satE_of (by rw [backE_len]; exact k2.len) fun v s ev => ?_⟩
  · unfold eCompV
    have hl' : line (l.map e).length = true := by unfold line; rw [List.length_map]; exact decide_eq_true hl
    simp only [lk_pk k h, hs, satE_own kf (ho s0), hl', hio, Bool.and_self, Bool.not_false, if_pos, e2, Rs.bind_ok]
  · by_cases hv : v ∈ own
    · rw [ho _ v hv] at ev
      cases ev
      have hil : v < η'.length := by
        have := (List.getElem?_eq_some_iff.mp (ho (mapS step s0 l).2 v hv)).1
        rw [k2.len]; exact this
      rw [backE_own hv hil]
      obtain ⟨o, e3, k3⟩ := kf.get (ho s0 v hv)
      exact ⟨o, by rw [e3]; rfl, k3⟩
    · rw [backE_get hv]
      exact k2.get ev
end
/-! with a state that the test changes: draws in a test -/
def keepS {σ α : Type} (step : σ → α → Bool × σ) : σ → List α → List α × σ
  | s, [] => ([], s)
  | s, x :: l => (if (step s x).1 = true then x :: (keepS step (step s x).2 l).1 else (keepS step (step s x).2 l).1, (keepS step (step s x).2 l).2)
def WKeepS {σ α : Type} (step : σ → α → Bool × σ) (W : σ → α → Prop) : σ → List α → Prop
  | _, [] => True
  | s, x :: l => W s x ∧ WKeepS step W (step s x).2 l
theorem keepS_sub {σ α : Type} {step : σ → α → Bool × σ} : ∀ {l : List α} {s : σ}, (keepS step s l).1.Sublist l
  | [], _ => .slnil
  | x :: l, s => by
    unfold keepS
    by_cases h : (step s x).1 = true
    · rw [if_pos h]; exact keepS_sub.cons_cons x
    · rw [if_neg h]; exact keepS_sub.cons x
theorem keepS_inv {σ α : Type} {step : σ → α → Bool × σ} {W : σ → α → Prop} (I : σ → Prop) : ∀ {l : List α} {s : σ}, I s → (∀ s, ∀ x ∈ l, I s → W s x ∧ I (step s x).2) → WKeepS step W s l ∧ I (keepS step s l).2
  | [], _, h, _ => ⟨trivial, h⟩
  | x :: l, s, h, k => by
    obtain ⟨h1, h2⟩ := k s x List.mem_cons_self h
    obtain ⟨h3, h4⟩ := keepS_inv I h2 fun s y hy => k s y (List.mem_cons_of_mem _ hy)
    exact ⟨⟨h1, h3⟩, h4⟩
section
variable {σ α : Type} {own : List Nat} {fi : FI} {tgt : FG} {cond : FB} {elt f : FE} {Γ Γ1 : Cxt} {d0 : PyData} {i : Nat} {e : α → PyData} {l : List α} {r : α → T} {chk : Pv.Env → Bool} {G : σ → Cxt} {step : σ → α → Bool × σ} {W : σ → α → Prop} {s0 : σ}
theorem loopC_kp (hc : ∀ s η, SatE (G s) η → chk η = true) (ho : ∀ s, ∀ v ∈ own, (G s)[v]? = some .fr) (hb : ∀ s x, W s x → Item tgt cond elt (G s) (e x) (step s x).1 (r x) (G (step s x).2)) : ∀ {l : List α} {s : σ} {η : Pv.Env}, WKeepS step W s l → SatE (G s) η → ∃ η', loopC chk own tgt cond elt (l.map e) η = .ok ((keepS step s l).1.map r, η') ∧ SatE (G (keepS step s l).2) η'
  | [], s, η, _, k => ⟨η, rfl, k⟩
  | x :: l, s, η, hw, k => by
    obtain ⟨η1, η2, e1, e2, hf, ht⟩ := hb s x hw.1 η k
    rw [List.map_cons]
    unfold loopC keepS
    rw [e1]
    simp only [Rs.noX_ok, Rs.bind_ok]
    rw [e2]
    simp only [Rs.noX_ok, Rs.bind_ok]
    cases hx : (step s x).1 with
    | true =>
      obtain ⟨η3, e3, k3⟩ := ht hx
      have kw := satE_wipe k3 (ho _)
      obtain ⟨η', e4, k4⟩ := loopC_kp hc ho hb (l := l) hw.2 kw
      refine ⟨η', ?_, k4⟩
      simp only [if_pos, e3, Rs.noX_ok, Rs.bind_ok, satE_own k3 (ho _), hc _ _ kw, and_self, e4]
      rfl
    | false =>
      have k3 := hf hx
      have kw := satE_wipe k3 (ho _)
      obtain ⟨η', e4, k4⟩ := loopC_kp hc ho hb (l := l) hw.2 kw
      refine ⟨η', ?_, k4⟩
      simp only [Bool.false_eq_true, if_false, satE_own k3 (ho _), hc _ _ kw, and_self, if_pos, e4]
theorem itemK {Γw Γw' Γ1 Γ2 Γ3 : Cxt} {t : T} {d : PyData} {b : Bool} (hg : GW tgt (.sh d) Γw Γ1) (hc : BV cond Γ1 b Γ2) (h0 : Le Γ2 Γw') (he : b = true → EW elt Γ2 t Γ3) (l3 : Le Γ3 Γw') : Item tgt cond elt Γw d b t Γw' := fun η k => by
  obtain ⟨η1, e1, k1⟩ := hg η k
  obtain ⟨η2, e2, k2⟩ := hc η1 k1
  refine ⟨η1, η2, e1, e2, fun _ => h0.sat k2, fun hb => ?_⟩
  obtain ⟨η3, e3, k3⟩ := he hb η2 k2
  exact ⟨η3, e3, l3.sat k3⟩
theorem ew_compK (hi : IV fi Γ (l.map e) Γ1) (hl : l.length < 16777216) (h0 : Le Γ1 (G s0)) (ho : ∀ s, ∀ v ∈ own, (G s)[v]? = some .fr) (hw : WKeepS step W s0 l) (hb : ∀ s x, W s x → Item tgt cond elt (G s) (e x) (step s x).1 (r x) (G (step s x).2)) : EW (eComp own fi tgt cond elt) Γ (.lst ((keepS step s0 l).1.map r)) (G (keepS step s0 l).2) := fun η k => by
  obtain ⟨η1, e1, k1⟩ := hi η k
  have kf := h0.sat k1
  obtain ⟨η', e2, k2⟩ := loopC_kp (chk := fun _ => true) (r := r) (fun _ _ _ => rfl) ho hb hw (satE_wipe kf (ho s0))
  refine ⟨backE η1 own η', ?_, satE_of (by rw [backE_len]; exact k2.len) fun v s ev => ?_⟩
  · unfold eComp
    have hl' : line (l.map e).length = true := by unfold line; rw [List.length_map]; exact decide_eq_true hl
    simp only [e1, Rs.bind_ok, satE_own kf (ho s0), hl', Bool.and_self, if_pos, e2]
  · by_cases hv : v ∈ own
    · rw [ho _ v hv] at ev
      cases ev
      have hil : v < η'.length := by
        have := (List.getElem?_eq_some_iff.mp (ho (keepS step s0 l).2 v hv)).1
        rw [k2.len]; exact this
      rw [backE_own hv hil]
      obtain ⟨o, e3, k3⟩ := kf.get (ho s0 v hv)
      exact ⟨o, by rw [e3]; rfl, k3⟩
    · rw [backE_get hv]
      exact k2.get ev
theorem ew_compVK (h : lk Γ i = some d0) (hs : seqOf d0 = some (l.map e)) (hio : own.contains i = false) (hk : ∀ s, lk (G s) i = some d0) (hl : l.length < 16777216) (h0 : Le Γ (G s0)) (ho : ∀ s, ∀ v ∈ own, (G s)[v]? = some .fr) (hw : WKeepS step W s0 l) (hb : ∀ s x, W s x → Item tgt cond elt (G s) (e x) (step s x).1 (r x) (G (step s x).2)) : EW (eCompV own i tgt cond elt) Γ (.lst ((keepS step s0 l).1.map r)) (G (keepS step s0 l).2) := fun η k => by
  have kf := h0.sat k
  obtain ⟨η', e2, k2⟩ := loopC_kp (chk := pkIs i d0) (r := r) (fun s η k => pkIs_of (lk_pk k (hk s))) ho hb hw (satE_wipe kf (ho s0))
  refine ⟨backE η own η', ?_, satE_of (by rw [backE_len]; exact k2.len) fun v s ev => ?_⟩
  · unfold eCompV
    have hl' : line (l.map e).length = true := by unfold line; rw [List.length_map]; exact decide_eq_true hl
    simp only [lk_pk k h, hs, satE_own kf (ho s0), hl', hio, Bool.and_self, Bool.not_false, if_pos, e2, Rs.bind_ok]
  · by_cases hv : v ∈ own
    · rw [ho _ v hv] at ev
      cases ev
      have hil : v < η'.length := by
        have := (List.getElem?_eq_some_iff.mp (ho (keepS step s0 l).2 v hv)).1
        rw [k2.len]; exact this
      rw [backE_own hv hil]
      obtain ⟨o, e3, k3⟩ := kf.get (ho s0 v hv)
      exact ⟨o, by rw [e3]; rfl, k3⟩
    · rw [backE_get hv]
      exact k2.get ev
end
/-! ### defs -/
def startC (N : Nat) (ds : List PyData) : Cxt := ds.map .sh ++ List.replicate (N - ds.length) .fr
theorem satE_nones : ∀ n : Nat, SatE (List.replicate n .fr) (List.replicate n none)
  | 0 => rfl
  | n + 1 => ⟨.inl rfl, satE_nones n⟩
theorem satE_start {n : Nat} : ∀ {ds : List PyData}, SatE (ds.map .sh ++ List.replicate n .fr) ((ds.map T.sh).map some ++ List.replicate n none)
  | [] => satE_nones n
  | d :: ds => ⟨rfl, satE_start⟩
theorem startC_ok {N : Nat} {ds : List PyData} : SatE (startC N ds) (startE N (ds.map T.sh)) := by
  unfold startC startE
  rw [List.length_map]
  exact satE_start
theorem gp_ok {N n : Nat} {fb : FS} {ds : List PyData} {t : T} (hl : ds.length = n) (h : S fb (startC N ds) fun fl _ => fl = .ret t) : gP N n fb ds = some t := by
  obtain ⟨fl, η', e, rfl⟩ := h _ startC_ok
  exact gP_eq hl e
theorem gp_nx {N n : Nat} {fb : FS} {ds : List PyData} (hl : ds.length = n) (h : S fb (startC N ds) fun fl _ => fl = .nx ∨ fl = .ret (.sh .none)) : gP N n fb ds = some (.sh .none) := by
  obtain ⟨fl, η', e, rfl | rfl⟩ := h _ startC_ok
  · exact gP_nx hl e
  · exact gP_eq hl e
def startI (N : Nat) (t : T) (ds : List PyData) : Cxt := .ow t :: ds.map .sh ++ List.replicate (N - (ds.length + 1)) .fr
theorem startI_ok {N : Nat} {t : T} {ds : List PyData} : SatE (startI N t ds) (startE N (t :: ds.map T.sh)) := by
  unfold startI startE
  rw [List.length_cons, List.length_map, List.map_cons]
  exact ⟨rfl, satE_start⟩
theorem gio_ok {N n : Nat} {fb : FS} {t0 t1 t : T} {ds : List PyData} (hl : ds.length + 1 = n) (h : S fb (startI N t0 ds) fun fl η => fl = .ret t ∧ η[0]? = some (some t1)) : gIO N n fb t0 ds = some (t, t1) := by
  obtain ⟨fl, η', e, rfl, h0⟩ := h _ startI_ok
  unfold gIO
  rw [if_pos hl, e]
  simp only [retOf, h0]
theorem gio_okD {N n : Nat} {fb : FS} {t0 t1 : T} {d : PyData} {ds : List PyData} (hl : ds.length + 1 = n) (h : S fb (startI N t0 ds) fun fl η => ∃ t, fl = .ret t ∧ t.val = d ∧ η[0]? = some (some t1)) : ∃ t, gIO N n fb t0 ds = some (t, t1) ∧ t.val = d := by
  obtain ⟨fl, η', e, t, rfl, hv, h0⟩ := h _ startI_ok
  refine ⟨t, ?_, hv⟩
  unfold gIO
  rw [if_pos hl, e]
  simp only [retOf, h0]
theorem gp_okD {N n : Nat} {fb : FS} {d : PyData} {ds : List PyData} (hl : ds.length = n) (h : S fb (startC N ds) fun fl _ => ∃ t, fl = .ret t ∧ t.val = d) : ∃ t, gP N n fb ds = some t ∧ t.val = d := by
  obtain ⟨fl, η', e, t, rfl, hv⟩ := h _ startC_ok
  exact ⟨t, gP_eq hl e, hv⟩
end Tv
set_option Elab.async false
set_option linter.all false
set_option maxRecDepth 100000
set_option maxHeartbeats 4000000
namespace Tv
open PySem L2 Pv
/-! ### how values are read as data -/
instance : Inhabited PyData := ⟨.none⟩
abbrev eI : Int → PyData := PyData.int
abbrev eB : Bool → PyData := PyData.bool
abbrev eS : Str → PyData := PyData.str
abbrev eN : Unit → PyData := fun _ => .none
abbrev eD : PyData → PyData := fun d => d
section
variable {α β γ δ : Type}
abbrev eT (e : α → PyData) (l : List α) : PyData := .tuple (l.map e)
abbrev eL (e : α → PyData) (l : List α) : PyData := .list (l.map e)
abbrev eP (e : α → PyData) (f : β → PyData) (x : α × β) : PyData := .tuple [e x.1, f x.2]
abbrev eP3 (e : α → PyData) (f : β → PyData) (g : γ → PyData) (x : α × β × γ) : PyData := .tuple [e x.1, f x.2.1, g x.2.2]
abbrev eP4 (e : α → PyData) (f : β → PyData) (g : γ → PyData) (h : δ → PyData) (x : α × β × γ × δ) : PyData := .tuple [e x.1, f x.2.1, g x.2.2.1, h x.2.2.2]
def eO (e : α → PyData) : Option α → PyData
  | none => .none
  | some x => e x
end
/-- == tells equality -/
structure Cm {α : Type} [DecidableEq α] (n : Nat) (e : α → PyData) : Prop where
  eqv : ∀ a b, PyData.eqv (e a) (e b) = decide (a = b)
  lay : ∀ a, (e a).canLay0 = true
  dep : ∀ a, (e a).depth ≤ n
/-- < can be asked -/
structure Al {α : Type} (e : α → PyData) : Prop where
  ali : ∀ a b, W.alike (e a) (e b) = true
  nn : ∀ a, isNone (e a) = false
theorem cm_i : Cm 0 eI := ⟨fun a b => eqv_int, fun _ => rfl, fun _ => by simp [PyData.depth]⟩
theorem cm_b : Cm 0 eB := ⟨fun a b => by cases a <;> cases b <;> rfl, fun _ => rfl, fun _ => by simp [PyData.depth]⟩
section
variable {α β γ δ : Type} [DecidableEq α] [DecidableEq β] [DecidableEq γ] [DecidableEq δ] {n m k q : Nat} {e : α → PyData} {f : β → PyData} {g : γ → PyData} {h : δ → PyData}
theorem Cm.all (c : Cm n e) : ∀ a b : List α, PyData.eqvAll (a.map e) (b.map e) = decide (a = b)
  | [], [] => rfl
  | [], _ :: _ => rfl
  | _ :: _, [] => rfl
  | a :: as, b :: bs => by
    simp only [List.map_cons, PyData.eqvAll, c.eqv, c.all as bs, List.cons.injEq]
    exact (Bool.decide_and _ _).symm
theorem Cm.lays (c : Cm n e) : ∀ a : List α, PyData.canLayAll0 (a.map e) = true
  | [] => rfl
  | a :: as => by simp only [List.map_cons, PyData.canLayAll0, c.lay, c.lays as, Bool.and_self]
theorem Cm.deps (c : Cm n e) : ∀ a : List α, PyData.depthAll (a.map e) ≤ n
  | [] => by simp [PyData.depthAll]
  | a :: as => by
    simp only [List.map_cons, PyData.depthAll]
    exact Nat.max_le.mpr ⟨c.dep a, c.deps as⟩
theorem cm_t (c : Cm n e) : Cm (n + 1) (eT e) := ⟨fun a b => by simp only [PyData.eqv]; exact c.all a b, fun a => by simp only [PyData.canLay0]; exact c.lays a, fun a => by simp only [PyData.depth]; exact Nat.succ_le_succ (c.deps a)⟩
theorem cm_l (c : Cm n e) : Cm (n + 1) (eL e) := ⟨fun a b => by simp only [PyData.eqv]; exact c.all a b, fun a => by simp only [PyData.canLay0]; exact c.lays a, fun a => by simp only [PyData.depth]; exact Nat.succ_le_succ (c.deps a)⟩
theorem cm_p (c : Cm n e) (d : Cm m f) : Cm (max n m + 1) (eP e f) := ⟨fun a b => by
  obtain ⟨a1, a2⟩ := a
  obtain ⟨b1, b2⟩ := b
  simp only [PyData.eqv, PyData.eqvAll, c.eqv, d.eqv, Prod.mk.injEq, Bool.and_true]
  exact (Bool.decide_and _ _).symm, fun a => by simp only [PyData.canLay0, PyData.canLayAll0, c.lay, d.lay, Bool.and_self], fun a => by
  simp only [PyData.depth, PyData.depthAll]
  have := c.dep a.1
  have := d.dep a.2
  omega⟩
theorem cm_p3 (c : Cm n e) (d : Cm m f) (c3 : Cm k g) : Cm (max n (max m k) + 1) (eP3 e f g) := ⟨fun a b => by
  obtain ⟨a1, a2, a3⟩ := a
  obtain ⟨b1, b2, b3⟩ := b
  simp only [PyData.eqv, PyData.eqvAll, c.eqv, d.eqv, c3.eqv, Prod.mk.injEq, Bool.and_true]
  by_cases h1 : a1 = b1 <;> by_cases h2 : a2 = b2 <;> by_cases h3 : a3 = b3 <;> simp [h1, h2, h3], fun a => by simp only [PyData.canLay0, PyData.canLayAll0, c.lay, d.lay, c3.lay, Bool.and_self], fun a => by
  simp only [PyData.depth, PyData.depthAll]
  have := c.dep a.1
  have := d.dep a.2.1
  have := c3.dep a.2.2
  omega⟩
theorem al_i : Al eI := ⟨fun _ _ => rfl, fun _ => rfl⟩
theorem al_b : Al eB := ⟨fun _ _ => rfl, fun _ => rfl⟩
omit [DecidableEq α] [DecidableEq β] [DecidableEq γ] [DecidableEq δ]
theorem Al.all (c : Al e) : ∀ a b : List α, W.alikeAll (a.map e) (b.map e) = true
  | [], [] => rfl
  | [], _ :: _ => rfl
  | _ :: _, [] => rfl
  | a :: as, b :: bs => by simp only [List.map_cons, W.alikeAll, c.ali, c.all as bs, Bool.and_self]
theorem al_t (c : Al e) : Al (eT e) := ⟨fun a b => by simp only [W.alike]; exact c.all a b, fun _ => rfl⟩
theorem al_l (c : Al e) : Al (eL e) := ⟨fun a b => by simp only [W.alike]; exact c.all a b, fun _ => rfl⟩
theorem al_p (c : Al e) (d : Al f) : Al (eP e f) := ⟨fun a b => by simp only [W.alike, W.alikeAll, c.ali, d.ali, Bool.and_self], fun _ => rfl⟩
theorem al_p3 (c : Al e) (d : Al f) (c3 : Al g) : Al (eP3 e f g) := ⟨fun a b => by simp only [W.alike, W.alikeAll, c.ali, d.ali, c3.ali, Bool.and_self], fun _ => rfl⟩
end
/-! ### operations on typed values -/
def memT {α : Type} [DecidableEq α] (u : α) (l : List α) : Bool := decide (u ∈ l)
theorem memT_iff {α : Type} [DecidableEq α] {u : α} {l : List α} : memT u l = true ↔ u ∈ l := decide_eq_true_iff

/-- a place in a list, also from behind -/
def ixOk (n : Nat) (i : Int) : Prop := -(n : Int) ≤ i ∧ i < n
def gx {α : Type} [Inhabited α] (l : List α) (i : Int) : α := if 0 ≤ i then l.getD i.toNat default else l.getD (i + l.length).toNat default
def rgI (a b : Int) : List Int := (List.range (b - a).toNat).map fun i => a + (i : Nat)
def enumI {α : Type} (l : List α) : List (Int × α) := (List.range l.length).zipWith (fun (i : Nat) x => ((i : Int), x)) l
def zip3 {α β γ : Type} : List α → List β → List γ → List (α × β × γ)
  | a :: as, b :: bs, c :: cs => (a, b, c) :: zip3 as bs cs
  | _, _, _ => []
/-- x < y as Python orders -/
def ltT {α : Type} (e : α → PyData) (a b : α) : Bool := W.dataLt (e a) (e b)
def insT {α : Type} (e : α → PyData) (x : α) : List α → List α
  | [] => [x]
  | y :: r => if ltT e y x then y :: insT e x r else x :: y :: r
def sortT {α : Type} (e : α → PyData) : List α → List α
  | [] => []
  | x :: r => insT e x (sortT e r)
def minT {α : Type} [Inhabited α] (e : α → PyData) : List α → α
  | [] => default
  | x :: xs => xs.foldl (fun a y => if ltT e y a then y else a) x
def maxT {α : Type} [Inhabited α] (e : α → PyData) : List α → α
  | [] => default
  | x :: xs => xs.foldl (fun a y => if ltT e a y then y else a) x
def minL : List Int → Int
  | [] => 0
  | x :: xs => minI x xs
def maxL : List Int → Int
  | [] => 0
  | x :: xs => maxI x xs
def gO {α : Type} [Inhabited α] (x : Option α) : α := x.getD default
def repT {α : Type} (l : List α) (k : Int) : List α := (List.replicate k.toNat l).flatten
section
variable {α β γ : Type} {e : α → PyData} {f : β → PyData} {g : γ → PyData} {l l2 : List α} {x y i j : Int} {a b : Bool}
theorem o_ixT [Inhabited α] (h : ixOk l.length i) : opIx (eT e l) (.int i) = some (.sh (e (gx l i))) := by
  show (atI (l.map e) i).map T.sh = _
  unfold atI ixN gx ixOk at *
  rw [List.length_map]
  by_cases h0 : 0 ≤ i
  · rw [if_pos h0, if_pos h.2, if_pos h0]
    have : i.toNat < l.length := by omega
    simp [List.getElem?_map, List.getElem?_eq_getElem this, List.getD_eq_getElem?_getD]
  · rw [if_neg h0, if_pos h.1, if_neg h0]
    have : (i + l.length).toNat < l.length := by omega
    simp [List.getElem?_map, List.getElem?_eq_getElem this, List.getD_eq_getElem?_getD]
theorem o_ixL [Inhabited α] (h : ixOk l.length i) : opIx (eL e l) (.int i) = some (.sh (e (gx l i))) := o_ixT (e := e) h
theorem o_lenT : bLen [eT e l] = some (.sh (.int (l.length : Int))) := by
  show some (T.sh (.int ((l.map e).length : Nat))) = _
  rw [List.length_map]
theorem o_lenL : bLen [eL e l] = some (.sh (.int (l.length : Int))) := o_lenT (e := e)
theorem o_addT (h : l.length + l2.length ≤ 16777216) : opAdd (eT e l) (eT e l2) = some (.sh (eT e (l ++ l2))) := by
  rw [opAdd_tup (by rw [List.length_map, List.length_map]; exact h), ← List.map_append]
theorem o_addL (h : l.length + l2.length ≤ 16777216) : opAdd (eL e l) (eL e l2) = some (.lst (((l ++ l2).map e).map T.sh)) := by
  rw [opAdd_list (by rw [List.length_map, List.length_map]; exact h), ← List.map_append]
theorem o_addI : opAdd (.int x) (.int y) = some (.sh (.int (x + y))) := rfl
theorem o_subI : opSub (.int x) (.int y) = some (.sh (.int (x - y))) := rfl
theorem o_mulI (h : mulFits x y = true) : opMul (.int x) (.int y) = some (.sh (.int (x * y))) := opMul_int h
theorem o_mulL (h : -18446744073709551616 < x ∧ x < 18446744073709551616) : opMul (.int x) (.int y) = some (.sh (.int (x * y))) := opMul_intL h
theorem o_mulR (h : -18446744073709551616 < y ∧ y < 18446744073709551616) : opMul (.int x) (.int y) = some (.sh (.int (x * y))) := opMul_intR h
theorem o_fdiv (h : 0 < y ∧ y < 18446744073709551616) : opFdiv (.int x) (.int y) = some (.sh (.int (x / y))) := opFdiv_int h.1 h.2
theorem o_mod (h : 0 < y) : opMod (.int x) (.int y) = some (.sh (.int (x % y))) := opMod_int h
theorem o_pow (h : 0 ≤ y ∧ y ≤ 1000000 ∧ x.natAbs < 18446744073709551616) : opPow (.int x) (.int y) = some (.sh (.int (x ^ y.toNat))) := opPow_int h
theorem o_shl (h : 0 ≤ y ∧ y ≤ 1000000 ∧ x.natAbs < 18446744073709551616) : opShl (.int x) (.int y) = some (.sh (.int (x * 2 ^ y.toNat))) := if_pos (decide_eq_true h)
theorem o_shr (h : 0 ≤ y) : opShr (.int x) (.int y) = some (.sh (.int (x / 2 ^ y.toNat))) := if_pos (decide_eq_true h)
theorem o_band : opBand (.int x) (.int y) = some (.sh (.int (Builtin.bitAnd x y))) := rfl
theorem o_bor : opBor (.int x) (.int y) = some (.sh (.int (Builtin.bitOr x y))) := rfl
theorem o_repT (h : -1000 ≤ i ∧ i ≤ 1000 ∧ l.length ≤ 1000) : opMul (eT e l) (.int i) = some (.sh (eT e (repT l i))) := by
  have : opMul (eT e l) (.int i) = some (.sh (.tuple (List.replicate i.toNat (l.map e)).flatten)) := if_pos ⟨h.1, h.2.1, by rw [List.length_map]; exact h.2.2⟩
  rw [this, repT, eT, List.map_flatten, List.map_replicate]
theorem o_repL (h : l.length * i.toNat ≤ 16777216 ∧ -1000000000 ≤ i ∧ i ≤ 1000000000) : opMul (eL e l) (.int i) = some (.lst (((repT l i).map e).map T.sh)) := by
  have : opMul (eL e l) (.int i) = some (.lst ((List.replicate i.toNat (l.map e)).flatten.map T.sh)) := if_pos ⟨by rw [List.length_map]; exact h.1, h.2⟩
  rw [this, repT, List.map_flatten (f := e), List.map_replicate]
theorem o_ltI : opLt (.int x) (.int y) = some (.sh (.bool (decide (x < y)))) := rfl
theorem o_leI : opLe (.int x) (.int y) = some (.sh (.bool (decide (x ≤ y)))) := rfl
theorem o_gtI : opGt (.int x) (.int y) = some (.sh (.bool (decide (y < x)))) := rfl
theorem o_geI : opGe (.int x) (.int y) = some (.sh (.bool (decide (y ≤ x)))) := rfl
section
variable [DecidableEq α] {n : Nat} {u v : α}
theorem Cm.shp (c : Cm n e) (hn : n ≤ 64) (u : α) : shp (e u) = true := by
  show ((e u).canLay0 && decide ((e u).depth ≤ 64)) = true
  rw [c.lay, decide_eq_true (Nat.le_trans (c.dep u) hn)]
  rfl
theorem o_eq (c : Cm n e) (hn : n ≤ 60 := by decide) : opEq (e u) (e v) = some (.sh (.bool (decide (u = v)))) := by
  rw [opEq_of (c.shp (by omega) u) (c.shp (by omega) v), c.eqv]
theorem o_ne (c : Cm n e) (hn : n ≤ 60 := by decide) : opNe (e u) (e v) = some (.sh (.bool (!decide (u = v)))) := by
  rw [opNe_of (c.shp (by omega) u) (c.shp (by omega) v), c.eqv]
theorem inD_dec (c : Cm n e) : inD (e u) (l.map e) = memT u l := by
  rw [inD_map]
  simp only [c.eqv]
  unfold memT
  rw [Bool.eq_iff_iff, List.any_eq_true]
  simp
theorem o_inT (c : Cm n e) (hn : n ≤ 60 := by decide) : opIn (e u) (eT e l) = some (.sh (.bool (memT u l))) := by
  rw [opIn_tup (c.shp (by omega) u) ((cm_l c).shp (by omega) l), inD_dec c]
theorem o_inL (c : Cm n e) (hn : n ≤ 60 := by decide) : opIn (e u) (eL e l) = some (.sh (.bool (memT u l))) := by
  rw [opIn_list (c.shp (by omega) u) ((cm_l c).shp (by omega) l), inD_dec c]
theorem o_ninT (c : Cm n e) (hn : n ≤ 60 := by decide) : opNotIn (e u) (eT e l) = some (.sh (.bool (!memT u l))) := by
  rw [opNotIn_tup (c.shp (by omega) u) ((cm_l c).shp (by omega) l), inD_dec c]
theorem o_ninL (c : Cm n e) (hn : n ≤ 60 := by decide) : opNotIn (e u) (eL e l) = some (.sh (.bool (!memT u l))) := by
  rw [opNotIn_list (c.shp (by omega) u) ((cm_l c).shp (by omega) l), inD_dec c]
theorem cmpOk_of (c : Cm n e) (c2 : Al e) (hn : n ≤ 60) : cmpOk (e u) (e v) = true := by
  unfold cmpOk
  rw [c2.ali, c2.nn, c.lay, c.lay, decide_eq_true (Nat.le_trans (c.dep u) hn)]
  rfl
theorem opCmp_of {pi : Int → Int → Bool} {pd : PyData → PyData → Bool} {p q : PyData} (hpi : ∀ i, p ≠ .int i) (h : cmpOk p q = true) : opCmp pi pd p q = some (.sh (.bool (pd p q))) := by
  cases p with
  | int i => exact absurd rfl (hpi i)
  | _ =>
    unfold opCmp
    simp only [h, if_pos]
theorem o_lt (c : Cm n e) (c2 : Al e) (hi : ∀ i, e u ≠ .int i) (hn : n ≤ 60 := by decide) : opLt (e u) (e v) = some (.sh (.bool (ltT e u v))) := opCmp_of hi (cmpOk_of c c2 hn)
theorem o_gt (c : Cm n e) (c2 : Al e) (hi : ∀ i, e u ≠ .int i) (hn : n ≤ 60 := by decide) : opGt (e u) (e v) = some (.sh (.bool (ltT e v u))) := opCmp_of hi (cmpOk_of c c2 hn)
theorem o_le (c : Cm n e) (c2 : Al e) (hi : ∀ i, e u ≠ .int i) (hn : n ≤ 60 := by decide) : opLe (e u) (e v) = some (.sh (.bool (!ltT e v u))) := opCmp_of hi (cmpOk_of c c2 hn)
theorem o_ge (c : Cm n e) (c2 : Al e) (hi : ∀ i, e u ≠ .int i) (hn : n ≤ 60 := by decide) : opGe (e u) (e v) = some (.sh (.bool (!ltT e u v))) := opCmp_of hi (cmpOk_of c c2 hn)
end
theorem insD_map (x : α) : ∀ l : List α, insD (e x) (l.map e) = (insT e x l).map e
  | [] => rfl
  | y :: r => by
    rw [List.map_cons]
    unfold insD insT ltT
    split
    · rw [insD_map x r]; rfl
    · rfl
theorem sortD_map : ∀ l : List α, sortD (l.map e) = (sortT e l).map e
  | [] => rfl
  | x :: r => by
    rw [List.map_cons]
    unfold sortD sortT
    rw [sortD_map r, insD_map]
/-- what sorted takes -/
structure So (e : α → PyData) : Prop where
  al : Al e
  lay : ∀ a, (e a).canLay0 = true
  dep : ∀ a, (e a).depth ≤ 59
theorem lays_of (h : ∀ a, (e a).canLay0 = true) : ∀ l : List α, PyData.canLayAll0 (l.map e) = true
  | [] => rfl
  | a :: as => by simp only [List.map_cons, PyData.canLayAll0, h a, lays_of h as, Bool.and_self]
theorem deps_of {n : Nat} (h : ∀ a, (e a).depth ≤ n) : ∀ l : List α, PyData.depthAll (l.map e) ≤ n
  | [] => by simp [PyData.depthAll]
  | a :: as => by
    simp only [List.map_cons, PyData.depthAll]
    exact Nat.max_le.mpr ⟨h a, deps_of h as⟩
theorem alike2_of (c : Al e) (l : List α) : alikeAll2 (l.map e) = true := by
  unfold alikeAll2
  simp only [List.all_map, List.all_eq_true, Function.comp_def]
  exact fun a _ b _ => c.ali a b
theorem sortable_of (c : So e) (l : List α) : sortable (l.map e) = true := by
  unfold sortable
  rw [alike2_of c.al, lays_of c.lay, decide_eq_true (Nat.le_trans (deps_of c.dep l) (by decide))]
  simp only [Bool.true_and, Bool.and_true, List.all_map, List.all_eq_true, Function.comp_def]
  intro a _
  rw [c.al.nn a]
  rfl
theorem o_sortedL (h : sortable (l.map e) = true) : bSorted [eL e l] = some (.lst (((sortT e l).map e).map T.sh)) := by
  rw [← sortD_map]
  exact if_pos h
theorem o_sortedT (h : sortable (l.map e) = true) : bSorted [eT e l] = some (.lst (((sortT e l).map e).map T.sh)) := by
  rw [← sortD_map]
  exact if_pos h
theorem o_tupL : bTuple [eL e l] = some (.sh (eT e l)) := rfl
theorem o_tupT : bTuple [eT e l] = some (.sh (eT e l)) := rfl
theorem o_lstL : bList [eL e l] = some (.lst ((l.map e).map T.sh)) := rfl
theorem o_lstT : bList [eT e l] = some (.lst ((l.map e).map T.sh)) := rfl
theorem o_slT {lo hi : Option Int} : opSl (eT e l) lo hi = some (.sh (eT e (cutA l lo hi))) := by
  show some (T.sh (.tuple (cutA (l.map e) lo hi))) = _
  unfold cutA
  rw [List.length_map, ← List.map_drop, ← List.map_take]
theorem o_slL {lo hi : Option Int} : opSl (eL e l) lo hi = some (.lst (((cutA l lo hi).map e).map T.sh)) := by
  show some (T.lst ((cutA (l.map e) lo hi).map T.sh)) = _
  unfold cutA
  rw [List.length_map, ← List.map_drop, ← List.map_take]
theorem o_sum {ns : List Int} : bSum [eL eI ns] = some (.sh (.int ns.sum)) := bSum_ints
theorem o_all {bs : List Bool} : bAll [eL eB bs] = some (.sh (.bool (bs.all id))) := bAll_bools
theorem o_any {bs : List Bool} : bAny [eL eB bs] = some (.sh (.bool (bs.any id))) := bAny_bools
theorem intsOf_map (ns : List Int) : intsOf (ns.map PyData.int) = some ns := by
  have := ints_map' (l := ns) (g := id)
  simpa using this
theorem o_minLI {ns : List Int} (h : ns ≠ []) : bMin [eL eI ns] = some (.sh (.int (minL ns))) := by
  cases ns with
  | nil => exact absurd rfl h
  | cons n ns =>
    show (match intsOf ((n :: ns).map PyData.int) with
    | some (n :: ns) => some (T.sh (.int (minI n ns)))
    | some [] => none
    | none => _) = _
    rw [intsOf_map]
    rfl
theorem o_maxLI {ns : List Int} (h : ns ≠ []) : bMax [eL eI ns] = some (.sh (.int (maxL ns))) := by
  cases ns with
  | nil => exact absurd rfl h
  | cons n ns =>
    show (match intsOf ((n :: ns).map PyData.int) with
    | some (n :: ns) => some (T.sh (.int (maxI n ns)))
    | some [] => none
    | none => _) = _
    rw [intsOf_map]
    rfl
theorem minT_int : ∀ ns : List Int, ∀ n, (ns.map PyData.int).foldl (fun a y => if W.dataLt y a then y else a) (.int n) = .int (minI n ns)
  | [], n => rfl
  | m :: ns, n => by
    rw [List.map_cons, List.foldl_cons]
    have h : W.dataLt (.int m) (.int n) = decide (m < n) := W.dataLt_int ..
    have : (if W.dataLt (.int m) (.int n) = true then PyData.int m else .int n) = .int (if m < n then m else n) := by
      rw [h]
      by_cases c : m < n <;> simp [c]
    rw [this, minT_int ns]
    rfl
theorem maxT_int : ∀ ns : List Int, ∀ n, (ns.map PyData.int).foldl (fun a y => if W.dataLt a y then y else a) (.int n) = .int (maxI n ns)
  | [], n => rfl
  | m :: ns, n => by
    rw [List.map_cons, List.foldl_cons]
    have h : W.dataLt (.int n) (.int m) = decide (n < m) := W.dataLt_int ..
    have : (if W.dataLt (.int n) (.int m) = true then PyData.int m else .int n) = .int (if n < m then m else n) := by
      rw [h]
      by_cases c : n < m <;> simp [c]
    rw [this, maxT_int ns]
    rfl
theorem cmpAll_of (c : So e) (l : List α) : cmpAll (l.map e) = true := by
  unfold cmpAll
  have h1 : SeqAt.shaped (.list (l.map e)) = true := by
    show ((PyData.list (l.map e)).canLay0 && decide ((PyData.list (l.map e)).depth ≤ 64)) = true
    simp only [PyData.canLay0, PyData.depth, lays_of c.lay, Bool.true_and, decide_eq_true_eq]
    have := deps_of c.dep l
    exact decide_eq_true (Nat.le_trans (Nat.succ_le_succ this) (show 60 ≤ 64 by decide))
  rw [alike2_of c.al, h1, decide_eq_true (Nat.le_trans (deps_of c.dep l) (by decide))]
  simp only [Bool.true_and, Bool.and_true, List.all_map, List.all_eq_true, Function.comp_def]
  intro a _
  rw [c.al.nn a]
  rfl
theorem o_minTI {ns : List Int} (h : ns ≠ []) : bMin [eT eI ns] = some (.sh (.int (minL ns))) := by
  cases ns with
  | nil => exact absurd rfl h
  | cons n ns =>
    have hc : cmpAll ((n :: ns).map PyData.int) = true := cmpAll_ints
    show (if cmpAll ((n :: ns).map PyData.int) then some (T.sh (W.minD (.int n) (ns.map PyData.int))) else none) = _
    rw [if_pos hc]
    unfold W.minD
    rw [minT_int]
    rfl
theorem o_maxTI {ns : List Int} (h : ns ≠ []) : bMax [eT eI ns] = some (.sh (.int (maxL ns))) := by
  cases ns with
  | nil => exact absurd rfl h
  | cons n ns =>
    have hc : cmpAll ((n :: ns).map PyData.int) = true := cmpAll_ints
    show (if cmpAll ((n :: ns).map PyData.int) then some (T.sh (W.maxD (.int n) (ns.map PyData.int))) else none) = _
    rw [if_pos hc]
    unfold W.maxD
    rw [maxT_int]
    rfl
theorem o_min2 : bMin [.int i, .int j] = some (.sh (.int (if j < i then j else i))) := rfl
theorem o_max2 : bMax [.int i, .int j] = some (.sh (.int (if j > i then j else i))) := rfl
theorem minD_map : ∀ (l : List α) (x : α), (l.map e).foldl (fun a y => if W.dataLt y a then y else a) (e x) = e (l.foldl (fun a y => if ltT e y a then y else a) x)
  | [], x => rfl
  | y :: l, x => by
    rw [List.map_cons, List.foldl_cons, List.foldl_cons, ← minD_map l]
    congr 1
    unfold ltT
    split <;> rfl
theorem maxD_map : ∀ (l : List α) (x : α), (l.map e).foldl (fun a y => if W.dataLt a y then y else a) (e x) = e (l.foldl (fun a y => if ltT e a y then y else a) x)
  | [], x => rfl
  | y :: l, x => by
    rw [List.map_cons, List.foldl_cons, List.foldl_cons, ← maxD_map l]
    congr 1
    unfold ltT
    split <;> rfl
/-- an encoding that is no int -/
def NoInt (e : α → PyData) : Prop := ∀ a i, e a ≠ .int i
theorem intsOf_no (h : NoInt e) (x : α) (l : List α) : intsOf ((x :: l).map e) = none := by
  rw [List.map_cons]
  generalize hx : e x = d
  cases d with
  | int i => exact absurd hx (h x i)
  | _ => rfl
theorem o_minL [Inhabited α] (c : So e) (hi : NoInt e) (h : l ≠ []) : bMin [eL e l] = some (.sh (e (minT e l))) := by
  cases l with
  | nil => exact absurd rfl h
  | cons x l =>
    have h1 := intsOf_no hi x l
    have hc := cmpAll_of c (x :: l)
    unfold bMin eL
    simp only [h1]
    rw [List.map_cons] at hc ⊢
    simp only [hc, if_pos]
    unfold W.minD
    rw [minD_map]
    rfl
theorem o_maxL [Inhabited α] (c : So e) (hi : NoInt e) (h : l ≠ []) : bMax [eL e l] = some (.sh (e (maxT e l))) := by
  cases l with
  | nil => exact absurd rfl h
  | cons x l =>
    have h1 := intsOf_no hi x l
    have hc := cmpAll_of c (x :: l)
    unfold bMax eL
    simp only [h1]
    rw [List.map_cons] at hc ⊢
    simp only [hc, if_pos]
    unfold W.maxD
    rw [maxD_map]
    rfl
/-! what is gone through -/
theorem rgD_map (x y : Int) : rgD x y = (rgI x y).map eI := by
  unfold rgD rgI
  rw [List.map_map]
  rfl
theorem zipD_map : ∀ (l : List α) (m : List β), zipD (l.map e) (m.map f) = (l.zip m).map (eP e f)
  | [], m => by simp [zipD]
  | _ :: _, [] => by simp [zipD]
  | a :: l, b :: m => by simp only [List.map_cons, zipD, List.zip_cons_cons, zipD_map l m]
theorem zip3D_map : ∀ (l : List α) (m : List β) (k : List γ), zip3D (l.map e) (m.map f) (k.map g) = (zip3 l m k).map (eP3 e f g)
  | [], m, k => by simp [zip3D, zip3]
  | _ :: _, [], k => by simp [zip3D, zip3]
  | _ :: _, _ :: _, [] => by simp [zip3D, zip3]
  | a :: l, b :: m, c :: k => by simp only [List.map_cons, zip3D, zip3, zip3D_map l m k]
theorem enumD_from : ∀ (l : List α) (n : Nat), enumD n (l.map e) = ((List.range' n l.length).zipWith (fun (i : Nat) x => ((i : Int), x)) l).map (eP eI e)
  | [], n => rfl
  | a :: l, n => by simp only [List.map_cons, enumD, List.length_cons, List.range'_succ, List.zipWith_cons_cons, enumD_from l (n + 1)]
theorem enumD_map (l : List α) : enumD 0 (l.map e) = (enumI l).map (eP eI e) := by
  rw [enumD_from, enumI, List.range_eq_range']
theorem mAppend_map {v : α} (h : l.length < 16777216) : mAppend ((l.map e).map T.sh) (.sh (e v)) = some (((l ++ [v]).map e).map T.sh, .sh .none) := by
  rw [mAppend_of (by rw [List.length_map, List.length_map]; exact h)]
  simp
theorem mExtend_map (h : l.length + l2.length < 16777216) : mExtend ((l.map e).map T.sh) (.lst ((l2.map e).map T.sh)) = some (((l ++ l2).map e).map T.sh, .sh .none) := by
  rw [mExtend_of (by rw [List.length_map, List.length_map, List.length_map, List.length_map]; exact h)]
  simp
theorem o_repr {d : PyData} (h : reprOk d = true) : bRepr [d] = some (.sh (.str d.shown)) := bRepr_of h
/-- x[k] = v -/
def setI (l : List α) (k : Int) (v : α) : List α := l.set (if 0 ≤ k then k.toNat else (k + l.length).toNat) v
theorem ixN_of {n : Nat} {k : Int} (h : ixOk n k) : ixN n k = some (if 0 ≤ k then k.toNat else (k + n).toNat) := by
  unfold ixN ixOk at *
  by_cases h0 : 0 ≤ k
  · rw [if_pos h0, if_pos h.2, if_pos h0]
  · rw [if_neg h0, if_pos h.1, if_neg h0]
end
end Tv
set_option Elab.async false
set_option linter.all false
set_option maxRecDepth 100000
set_option maxHeartbeats 4000000
namespace Tv
open PySem L2 Pv
section
variable {α β : Type} {Γ Γ1 Γ2 : Cxt} {f : FE} {t t' r : T} {e : α → PyData} {l l2 : List α} {own : List Nat} {ds : List PyData}
theorem EW.as (h : EW f Γ t Γ1) (q : t = t') : EW f Γ t' Γ1 := q ▸ h
theorem EW.rev (h : ED f Γ (eL e l) Γ1) : EW (eRevS f) Γ (.lst ((l.reverse.map e).map T.sh)) Γ1 := by
  have := ew_revS h rfl
  rw [List.map_reverse]
  exact this
theorem EW.revT (h : ED f Γ (eT e l) Γ1) : EW (eRevS f) Γ (.sh (eT e l.reverse)) Γ1 := by
  have := ew_revS h rfl
  rw [eT, List.map_reverse]
  exact this
theorem castT : eT e l = eT eD (l.map e) := by
  unfold eT
  rw [List.map_map]
  rfl
theorem castL : eL e l = eL eD (l.map e) := by
  unfold eL
  rw [List.map_map]
  rfl
theorem EW.mapE {β : Type} {g : β → α} {m : List β} (h : EW f Γ (.lst (m.map fun x => T.sh (e (g x)))) Γ1) : EW f Γ (.lst (((m.map g).map e).map T.sh)) Γ1 := by
  rw [List.map_map, List.map_map]
  exact h
theorem EW.mapI (h : EW f Γ (.lst (l.map fun x => T.sh (e x))) Γ1) : EW f Γ (.lst ((l.map e).map T.sh)) Γ1 := by
  rw [List.map_map]
  exact h
theorem o_ofO [Inhabited α] {op : PyData → PyData → Option T} {d : PyData} {x : Option α} (h : Option.isSome x = true) (ho : op (e (gO x)) d = some r) : op (eO e x) d = some r := by
  cases x with
  | none => cases h
  | some x => exact ho
theorem o_ofO2 [Inhabited α] {op : PyData → PyData → Option T} {d : PyData} {x : Option α} (h : Option.isSome x = true) (ho : op d (e (gO x)) = some r) : op d (eO e x) = some r := by
  cases x with
  | none => cases h
  | some x => exact ho
theorem o_isO {x : Option α} (hn : ∀ a, isNone (e a) = false) : opIs (eO e x) .none = some (.sh (.bool (Option.isNone x))) := by
  rw [opIs_none]
  cases x with
  | none => rfl
  | some x =>
    show some (T.sh (.bool (isNone (e x)))) = _
    rw [hn]
    rfl
theorem o_isnotO {x : Option α} (hn : ∀ a, isNone (e a) = false) : opIsNot (eO e x) .none = some (.sh (.bool (!Option.isNone x))) := by
  rw [opIsNot_none]
  cases x with
  | none => rfl
  | some x =>
    show some (T.sh (.bool (!isNone (e x)))) = _
    rw [hn]
    rfl
theorem o_truL : truth (eL e l) = some (!l.isEmpty) := by
  show some (!(l.map e).isEmpty) = _
  cases l <;> rfl
theorem o_truT : truth (eT e l) = some (!l.isEmpty) := by
  show some (!(l.map e).isEmpty) = _
  cases l <;> rfl
def idxT [DecidableEq α] (l : List α) (x : α) : Int := ((l.findIdx fun y => decide (y = x) : Nat) : Int)
theorem o_index [DecidableEq α] {n : Nat} {x : α} (c : Cm n e) (h : x ∈ l) (hn : n ≤ 60 := by decide) : mIndex (l.map e) (e x) = some (.sh (.int (idxT l x))) := by
  have h1 : SeqAt.shaped (.list (l.map e)) = true := (cm_l c).shp (by omega) l
  have h2 : SeqAt.shaped (e x) = true := c.shp (by omega) x
  have h3 : (l.map e).findIdx? (fun z => PyData.eqv z (e x)) = l.findIdx? fun y => decide (y = x) := by
    rw [List.findIdx?_map]
    congr 1
    funext y
    exact c.eqv y x
  unfold mIndex idxT
  rw [h1, h2, h3]
  have : l.findIdx? (fun y => decide (y = x)) = some (l.findIdx fun y => decide (y = x)) := by
    rw [List.findIdx?_eq_some_iff_findIdx_eq]
    exact ⟨List.findIdx_lt_length_of_exists ⟨x, h, decide_eq_true rfl⟩, rfl⟩
  rw [this]
  rfl
theorem o_count {ns : List Int} {k : Int} : mCount (ns.map PyData.int) (.int k) = some (.sh (.int ((List.count k ns : Nat) : Int))) := by
  unfold mCount
  simp only [intsOf_map]
  rfl
theorem ixN_map {k : Int} (h : ixOk l.length k) : ixN ((l.map e).map T.sh).length k = some (if 0 ≤ k then k.toNat else (k + l.length).toNat) := by
  rw [List.length_map, List.length_map]
  exact ixN_of h
theorem setI_map (l : List α) (k : Int) (v : α) : (Sl.od ((setI l k v).map e)).Sat (some (.lst (((l.map e).map T.sh).set (if 0 ≤ k then k.toNat else (k + l.length).toNat) (.sh (e v))))) := by
  show some _ = some _
  rw [setI, List.map_set, List.map_set]
theorem erase_map {α β : Type} (f : α → β) : ∀ (l : List α) (k : Nat), (l.map f).eraseIdx k = (l.eraseIdx k).map f
  | [], _ => rfl
  | _ :: _, 0 => rfl
  | a :: l, k + 1 => by simp only [List.map_cons, List.eraseIdx_cons_succ, erase_map f l k]
theorem mPopAt_map [Inhabited α] {k : Int} (h : 0 ≤ k ∧ k < l.length ∧ l.length < 16777216) : mPopAt ((l.map e).map T.sh) (.sh (.int k)) = some (((l.eraseIdx k.toNat).map e).map T.sh, .sh (e (gx l k))) := by
  obtain ⟨h0, h1, h2⟩ := h
  have h63 : i63 k = true := by
    unfold i63
    rw [decide_eq_true (by omega), decide_eq_true (by omega)]
    rfl
  have hk : seqIndex? k ((l.map e).map T.sh).length = some k.toNat := by
    rw [List.length_map, List.length_map]
    have := (ixN_seq (ixN_of (n := l.length) (k := k) ⟨by omega, h1⟩)).1
    rw [if_pos h0] at this
    exact this
  have hl : k.toNat < l.length := by omega
  have hg : ((l.map e).map T.sh)[k.toNat]? = some (.sh (e (gx l k))) := by
    rw [List.getElem?_map, List.getElem?_map, List.getElem?_eq_getElem hl]
    unfold gx
    rw [if_pos h0, List.getD_eq_getElem?_getD, List.getElem?_eq_getElem hl]
    rfl
  unfold mPopAt
  simp only [h63, if_pos, hk, hg]
  rw [erase_map, erase_map]
theorem free_own (h : (own.all fun v => match Γ[v]? with
    | some .fr => true
    | some (.sh _) => true
    | _ => false) = true) : Free Γ own := fun v hv => by
  rw [List.all_eq_true] at h
  have := h v hv
  split at this
  · rename_i e; exact ⟨_, e, trivial⟩
  · rename_i e; exact ⟨_, e, trivial⟩
  · cases this
theorem own_fr (h : (own.all fun v => match Γ[v]? with
    | some .fr => true
    | _ => false) = true) : ∀ v ∈ own, Γ[v]? = some .fr := fun v hv => by
  rw [List.all_eq_true] at h
  have := h v hv
  split at this
  · rename_i e; exact e
  · cases this
end
section
variable {p q w : FS} {P : Fl → Pv.Env → Prop} {c : FB} {Γ Γ1 : Cxt} {b : Bool}
/-- a test that is never met -/
theorem s_ifF (hc : BV c Γ b Γ1) (hb : b = false) (hq : S q Γ1 P) : S (sIf c p q) Γ P := fun η k => by
  obtain ⟨η1, e1, k1⟩ := hc η k
  obtain ⟨fl, η2, e2, k2⟩ := hq η1 k1
  refine ⟨fl, η2, ?_, k2⟩
  unfold sIf
  simp only [e1, Rs.bind_ok, hb, Bool.false_eq_true, if_false, e2]
theorem s_ifseqF (hc : BV c Γ b Γ1) (hb : b = false) (hq : S (sSeq q w) Γ1 P) : S (sSeq (sIf c p q) w) Γ P := fun η k => by
  obtain ⟨η1, e1, k1⟩ := hc η k
  obtain ⟨fl, η2, e2, k2⟩ := hq η1 k1
  refine ⟨fl, η2, ?_, k2⟩
  rw [← e2]
  unfold sSeq sIf
  simp only [e1, Rs.bind_ok, hb, Bool.false_eq_true, if_false]
end
theorem SV.cx {p : FS} {Γ Γ1 Γ2 : Cxt} (h : SV p Γ Γ1) (e : Γ1 = Γ2) : SV p Γ Γ2 := e ▸ h
/-! ### the hand -/
def drF (G : T → List PyData → Option (T × T)) (t : T) (many : Int) : Int × T := match G t [.int many] with
  | some (.sh (.int f), t') => (f, t')
  | _ => (0, t)
def DrW (t : T) (many : Int) : Prop := Hand t ∧ 1 ≤ many ∧ many < 18446744073709551616
/-- a def that draws -/
def Draws (G : T → List PyData → Option (T × T)) : Prop := ∀ {t : T} {many : Int}, 1 ≤ many → many < 18446744073709551616 → Hand t → ∃ f t', G t [.int many] = some (.sh (.int f), t') ∧ Hand t' ∧ 0 ≤ f ∧ f < many
theorem drF_eq {G : T → List PyData → Option (T × T)} (h : Draws G) {t : T} {many : Int} (k : DrW t many) : G t [.int many] = some (.sh (.int (drF G t many).1), (drF G t many).2) := by
  obtain ⟨f, t', e, _⟩ := h k.2.1 k.2.2 k.1
  unfold drF
  rw [e]
theorem drF_ok {G : T → List PyData → Option (T × T)} (h : Draws G) {t : T} {many : Int} (k : DrW t many) : Hand (drF G t many).2 ∧ 0 ≤ (drF G t many).1 ∧ (drF G t many).1 < many := by
  obtain ⟨f, t', e, r⟩ := h k.2.1 k.2.2 k.1
  unfold drF
  rw [e]
  exact r
/-! ### texts; None or a value, compared -/
theorem eqv_str {a b : Str} : PyData.eqv (.str a) (.str b) = decide (a = b) := by
  simp only [PyData.eqv]
  first
    | rfl
    | (rw [Bool.eq_iff_iff]; simp)
theorem shp_S {a : Str} (h : (eS a).canLay0 = true) : shp (eS a) = true := by
  unfold shp SeqAt.shaped
  rw [h]
  rfl
theorem o_eqS {a b : Str} (h : (eS a).canLay0 = true ∧ (eS b).canLay0 = true) : opEq (eS a) (eS b) = some (.sh (.bool (decide (a = b)))) := by
  rw [opEq_of (shp_S h.1) (shp_S h.2)]
  exact congrArg (fun z => some (T.sh (.bool z))) eqv_str
theorem o_neS {a b : Str} (h : (eS a).canLay0 = true ∧ (eS b).canLay0 = true) : opNe (eS a) (eS b) = some (.sh (.bool (!decide (a = b)))) := by
  rw [opNe_of (shp_S h.1) (shp_S h.2)]
  exact congrArg (fun z => some (T.sh (.bool (!z)))) eqv_str
theorem canLayAll_S : ∀ {l : List Str}, (∀ x ∈ l, (eS x).canLay0 = true) → PyData.canLayAll0 (l.map eS) = true
  | [], _ => rfl
  | x :: l, h => by
    rw [List.map_cons]
    simp only [PyData.canLayAll0, h x List.mem_cons_self, canLayAll_S fun y hy => h y (List.mem_cons_of_mem _ hy), Bool.and_self]
theorem depthAll_S : ∀ {l : List Str}, PyData.depthAll (l.map eS) = 0
  | [] => rfl
  | x :: l => by
    rw [List.map_cons]
    simp only [PyData.depthAll, depthAll_S, eS, PyData.depth, Nat.max_self]
theorem shpAll_S {l : List Str} (h : ∀ x ∈ l, (eS x).canLay0 = true) : shpAll (l.map eS) = true := by
  show ((PyData.list (l.map eS)).canLay0 && decide ((PyData.list (l.map eS)).depth ≤ 64)) = true
  have h1 : (PyData.list (l.map eS)).canLay0 = true := by
    show PyData.canLayAll0 (l.map eS) = true
    exact canLayAll_S h
  rw [h1, decide_eq_true]
  · rfl
  · simp only [PyData.depth, depthAll_S]; omega
theorem inD_S {u : Str} {l : List Str} : inD (eS u) (l.map eS) = memT u l := by
  rw [inD_map]
  show (l.any fun x => PyData.eqv (.str x) (.str u)) = memT u l
  simp only [eqv_str]
  rw [Bool.eq_iff_iff, List.any_eq_true, memT_iff]
  exact ⟨fun ⟨x, hx, e⟩ => by rw [← of_decide_eq_true e]; exact hx, fun h => ⟨u, h, decide_eq_true rfl⟩⟩
theorem o_inTS {u : Str} {l : List Str} (h : (eS u).canLay0 = true ∧ ∀ x ∈ l, (eS x).canLay0 = true) : opIn (eS u) (eT eS l) = some (.sh (.bool (memT u l))) := by
  rw [opIn_tup (shp_S h.1) (shpAll_S h.2), inD_S]
theorem o_ninTS {u : Str} {l : List Str} (h : (eS u).canLay0 = true ∧ ∀ x ∈ l, (eS x).canLay0 = true) : opNotIn (eS u) (eT eS l) = some (.sh (.bool (!memT u l))) := by
  unfold opNotIn
  show (if shp (eS u) && shpAll (l.map eS) then _ else _) = _
  rw [shp_S h.1, shpAll_S h.2, ← inD_S]
  rfl
theorem o_inLS {u : Str} {l : List Str} (h : (eS u).canLay0 = true ∧ ∀ x ∈ l, (eS x).canLay0 = true) : opIn (eS u) (eL eS l) = some (.sh (.bool (memT u l))) := by
  rw [opIn_list (shp_S h.1) (shpAll_S h.2), inD_S]
section
variable {α : Type} [DecidableEq α] {n : Nat} {e : α → PyData} {o : Option α} {v : α}
theorem eqv_eO (c : Cm n e) (hn : ∀ a, PyData.eqv .none (e a) = false) : PyData.eqv (eO e o) (e v) = decide (o = some v) := by
  cases o with
  | none => rw [show eO e none = .none from rfl, hn, decide_eq_false (by simp)]
  | some x =>
    rw [show eO e (some x) = e x from rfl, c.eqv, Bool.eq_iff_iff]
    simp
theorem shp_eO (c : Cm n e) (hn : n ≤ 60) : shp (eO e o) = true := by
  cases o with
  | none => rfl
  | some x => exact c.shp (by omega) x
theorem o_eqO1 (c : Cm n e) (hz : ∀ a, PyData.eqv .none (e a) = false) (hn : n ≤ 60 := by decide) : opEq (eO e o) (e v) = some (.sh (.bool (decide (o = some v)))) := by
  rw [opEq_of (shp_eO c hn) (c.shp (by omega) v), eqv_eO c hz]
theorem o_neO1 (c : Cm n e) (hz : ∀ a, PyData.eqv .none (e a) = false) (hn : n ≤ 60 := by decide) : opNe (eO e o) (e v) = some (.sh (.bool (!decide (o = some v)))) := by
  rw [opNe_of (shp_eO c hn) (c.shp (by omega) v), eqv_eO c hz]
end
end Tv
set_option Elab.async false
set_option linter.all false
set_option maxRecDepth 100000
set_option maxHeartbeats 4000000
/-! plain lemmas for what tgen prints -/
namespace Tv
open PySem L2 Pv
section
variable {σ α β ρ : Type}
theorem wfold_inv {step : σ → α → σ} {W : σ → α → Prop} (I : σ → Prop) : ∀ {l : List α} {s : σ}, I s → (∀ s x, x ∈ l → I s → W s x ∧ I (step s x)) → WFold step W s l ∧ I (l.foldl step s)
  | [], s, h, _ => ⟨trivial, h⟩
  | x :: l, s, h, st => by
    obtain ⟨a, b⟩ := st s x List.mem_cons_self h
    obtain ⟨c, d⟩ := wfold_inv I b fun s y hy => st s y (List.mem_cons_of_mem _ hy)
    exact ⟨⟨a, c⟩, d⟩
/-- with what is behind: the prefix gone through -/
theorem wfold_pre {step : σ → α → σ} {W : σ → α → Prop} {L : List α} (I : List α → σ → Prop) : ∀ {l p : List α} {s : σ}, L = p ++ l → I p s → (∀ p x q s, L = p ++ x :: q → I p s → W s x ∧ I (p ++ [x]) (step s x)) → WFold step W s l ∧ I L (l.foldl step s)
  | [], p, s, e, h, _ => by
    rw [List.append_nil] at e
    subst e
    exact ⟨trivial, h⟩
  | x :: l, p, s, e, h, st => by
    obtain ⟨a, b⟩ := st p x l s e h
    obtain ⟨c, d⟩ := wfold_pre (L := L) I (l := l) (p := p ++ [x]) (by rw [e]; simp) b st
    exact ⟨⟨a, c⟩, d⟩
theorem wfoldL_inv {step : σ → α → Lp σ ρ} {W : σ → α → Prop} (I : σ → Prop) : ∀ {l : List α} {s : σ}, I s → (∀ s x, x ∈ l → I s → W s x ∧ ∃ s', step s x = .nx s' ∧ I s') → WFoldL step W s l ∧ ∃ s', foldL step s l = .ok s' ∧ I s'
  | [], s, h, _ => ⟨trivial, s, rfl, h⟩
  | x :: l, s, h, st => by
    obtain ⟨a, s', e, b⟩ := st s x List.mem_cons_self h
    obtain ⟨c, s2, e2, d⟩ := wfoldL_inv I b fun s y hy => st s y (List.mem_cons_of_mem _ hy)
    refine ⟨⟨a, ?_⟩, s2, ?_, d⟩
    · rw [e]; exact c
    · unfold foldL; rw [e]; exact e2
/-- what is asked alone -/
theorem wfoldL_of {step : σ → α → Lp σ ρ} {W : σ → α → Prop} (I : σ → Prop) : ∀ {l : List α} {s : σ}, I s → (∀ s x, x ∈ l → I s → W s x ∧ ∀ s', step s x = .nx s' → I s') → WFoldL step W s l
  | [], s, h, _ => trivial
  | x :: l, s, h, st => by
    obtain ⟨a, b⟩ := st s x List.mem_cons_self h
    refine ⟨a, ?_⟩
    cases e : step s x with
    | nx s' => exact wfoldL_of I (b s' e) fun s y hy => st s y (List.mem_cons_of_mem _ hy)
    | _ => trivial
/-- a look at each: the first that is wrong tells -/
theorem foldL_all {step : Unit → α → Lp Unit Bool} (c : α → Bool) : ∀ {l : List α}, (∀ x ∈ l, step () x = if c x = true then .nx () else .ret false) → exC (foldL step () l) (fun _ => true) (fun r => r) = l.all c
  | [], _ => rfl
  | x :: l, h => by
    unfold foldL
    rw [h x List.mem_cons_self, List.all_cons]
    cases c x with
    | true => exact foldL_all c fun y hy => h y (List.mem_cons_of_mem _ hy)
    | false => rfl
theorem mapS_inv {step : σ → α → β × σ} {W : σ → α → Prop} (I : σ → Prop) (P : β → Prop) : ∀ {l : List α} {s : σ}, I s → (∀ s x, x ∈ l → I s → W s x ∧ P (step s x).1 ∧ I (step s x).2) → WMapS step W s l ∧ I (mapS step s l).2 ∧ (mapS step s l).1.length = l.length ∧ ∀ y ∈ (mapS step s l).1, P y
  | [], s, h, _ => ⟨trivial, h, rfl, by simp [mapS]⟩
  | x :: l, s, h, st => by
    obtain ⟨a, p, b⟩ := st s x List.mem_cons_self h
    obtain ⟨c, d, e, f⟩ := mapS_inv I P b fun s y hy => st s y (List.mem_cons_of_mem _ hy)
    refine ⟨⟨a, c⟩, d, by simp only [mapS, List.length_cons, e], fun y hy => ?_⟩
    simp only [mapS, List.mem_cons] at hy
    rcases hy with rfl | hy
    · exact p
    · exact f y hy
end
/-! ### numbers in a row -/
theorem mem_rgI {a b x : Int} : x ∈ rgI a b ↔ a ≤ x ∧ x < b := by
  unfold rgI
  rw [List.mem_map]
  constructor
  · rintro ⟨i, hi, rfl⟩
    have := List.mem_range.mp hi
    omega
  · rintro ⟨h1, h2⟩
    exact ⟨(x - a).toNat, List.mem_range.mpr (by omega), by omega⟩
theorem len_rgI {a b : Int} : (rgI a b).length = (b - a).toNat := by
  unfold rgI
  rw [List.length_map, List.length_range]
theorem gx_nat {α : Type} [Inhabited α] {l : List α} {i : Nat} (h : i < l.length) : gx l (i : Int) = l[i] := by
  unfold gx
  rw [if_pos (by omega), Int.toNat_natCast, List.getD_eq_getElem?_getD, List.getElem?_eq_getElem h]
  rfl
theorem gx_mem {α : Type} [Inhabited α] {l : List α} {i : Int} (h0 : 0 ≤ i) (h : i < l.length) : gx l i ∈ l := by
  obtain ⟨k, rfl⟩ : ∃ k : Nat, i = k := ⟨i.toNat, by omega⟩
  rw [gx_nat (by omega)]
  exact List.getElem_mem _
theorem gx_last {α : Type} [Inhabited α] {l : List α} {x : α} : gx (l ++ [x]) (-(1 : Int)) = x := by
  unfold gx
  rw [if_neg (by decide)]
  have : (-(1 : Int) + ((l ++ [x]).length : Nat)).toNat = l.length := by
    rw [List.length_append, List.length_singleton]
    omega
  rw [this, List.getD_eq_getElem?_getD, List.getElem?_append_right (Nat.le_refl _)]
  simp
/-! ### order -/
section
variable {α : Type} [DecidableEq α] {n : Nat} {e : α → PyData} {a b c : α} {l l2 : List α}
theorem Cm.inj (c : Cm n e) {a b : α} (h : e a = e b) : a = b := by
  have := c.eqv a b
  rw [h] at this
  have h2 := c.eqv b b
  rw [this] at h2
  exact of_decide_eq_true (h2.trans (decide_eq_true rfl))
omit [DecidableEq α] in
theorem lt_irr : ltT e a a = false := PyProof.Rows.lex_irrefl _
omit [DecidableEq α] in
theorem lt_trans (h : ltT e a b = true) (k : ltT e b c = true) : ltT e a c = true := PyProof.Rows.lex_trans _ _ _ h k
omit [DecidableEq α] in
theorem lt_asym (h : ltT e a b = true) : ltT e b a = false := by
  cases k : ltT e b a with
  | false => rfl
  | true =>
    have := lt_trans h k
    rw [lt_irr] at this
    cases this
theorem lt_tot (cm : Cm n e) (ca : Al e) (h : a ≠ b) : ltT e a b = true ∨ ltT e b a = true := by
  cases h1 : ltT e a b with
  | true => exact .inl rfl
  | false =>
    cases h2 : ltT e b a with
    | true => exact .inr rfl
    | false =>
      have h1' : leD (e b) (e a) = true := by rw [leD_def]; unfold ltT at h1; rw [h1]; rfl
      have h2' : leD (e a) (e b) = true := by rw [leD_def]; unfold ltT at h2; rw [h2]; rfl
      exact absurd (cm.inj (leD_anti (ca.ali a b) h2' h1')) h
abbrev Srt (e : α → PyData) (l : List α) : Prop := l.Pairwise fun a b => ltT e a b = true
theorem srt_eq : ∀ {l l2 : List α}, Srt e l → Srt e l2 → (∀ x, x ∈ l ↔ x ∈ l2) → l = l2
  | [], [], _, _, _ => rfl
  | [], b :: l2, _, _, h => absurd ((h b).mpr List.mem_cons_self) (by simp)
  | a :: l, [], _, _, h => absurd ((h a).mp List.mem_cons_self) (by simp)
  | a :: l, b :: l2, h1, h2, h => by
    rw [Srt, List.pairwise_cons] at h1 h2
    have hab : a = b := by
      rcases List.mem_cons.mp ((h a).mp List.mem_cons_self) with rfl | ha
      · rfl
      · rcases List.mem_cons.mp ((h b).mpr List.mem_cons_self) with rfl | hb
        · rfl
        · have k1 := h2.1 a ha
          have k2 := h1.1 b hb
          rw [lt_asym k1] at k2
          cases k2
    subst hab
    rw [srt_eq h1.2 h2.2 fun x => ?_]
    constructor
    · intro hx
      rcases List.mem_cons.mp ((h x).mp (List.mem_cons_of_mem _ hx)) with rfl | hx2
      · have := h1.1 x hx
        rw [lt_irr] at this
        cases this
      · exact hx2
    · intro hx
      rcases List.mem_cons.mp ((h x).mpr (List.mem_cons_of_mem _ hx)) with rfl | hx2
      · have := h2.1 x hx
        rw [lt_irr] at this
        cases this
      · exact hx2
omit [DecidableEq α] in
theorem insT_perm (x : α) : ∀ l : List α, (insT e x l).Perm (x :: l)
  | [] => .refl _
  | y :: r => by
    unfold insT
    split
    · exact ((insT_perm x r).cons y).trans (.swap x y r)
    · exact .refl _
omit [DecidableEq α] in
theorem sortT_perm : ∀ l : List α, (sortT e l).Perm l
  | [] => .refl _
  | x :: r => (insT_perm x _).trans ((sortT_perm r).cons x)
omit [DecidableEq α] in
theorem mem_sortT {x : α} : x ∈ sortT e l ↔ x ∈ l := (sortT_perm l).mem_iff
omit [DecidableEq α] in
theorem len_sortT : (sortT e l).length = l.length := (sortT_perm l).length_eq
omit [DecidableEq α] in
/-- what sortT gives ascends (not strictly) -/
theorem sortT_le : ∀ l : List α, (sortT e l).Pairwise fun a b => ltT e b a = false := fun l => by
  have h := sortD_sorted (l.map e)
  rw [sortD_map, List.pairwise_map] at h
  exact h.imp fun {a b} k => by
    have k : (!W.dataLt (e b) (e a)) = true := k
    unfold ltT
    simpa using k
theorem sortT_srt (cm : Cm n e) (ca : Al e) (h : l.Nodup) : Srt e (sortT e l) := by
  have h1 := sortT_le (e := e) l
  have h2 : (sortT e l).Nodup := (sortT_perm l).nodup_iff.mpr h
  exact (h1.and h2).imp fun {a b} ⟨k, hne⟩ => by
    rcases lt_tot cm ca hne with h | h
    · exact h
    · rw [k] at h; cases h
theorem sortT_same (cm : Cm n e) (ca : Al e) (h : l.Nodup) (h2 : l2.Nodup) (hm : ∀ x, x ∈ l ↔ x ∈ l2) : sortT e l = sortT e l2 :=
  srt_eq (sortT_srt cm ca h) (sortT_srt cm ca h2) fun x => by rw [mem_sortT, mem_sortT]; exact hm x
theorem srt_nodup (h : Srt e l) : l.Nodup := h.imp fun {a b} k e => by
  subst e
  rw [lt_irr] at k
  cases k
end
@[simp] theorem map_idf {α : Type} {l : List α} : l.map (fun x => x) = l := List.map_id _
@[simp] theorem all_mapId {α : Type} {l : List α} {f : α → Bool} : (l.map f).all id = l.all f := by
  rw [List.all_map]; rfl
@[simp] theorem any_mapId {α : Type} {l : List α} {f : α → Bool} : (l.map f).any id = l.any f := by
  rw [List.any_map]; rfl
theorem while_inv {σ : Type} {c : σ → Bool} {step : σ → σ} {Wc W : σ → Prop} (I : σ → Prop) (m : σ → Nat) (st : ∀ s, I s → Wc s ∧ (c s = true → W s ∧ I (step s) ∧ m (step s) < m s)) : ∀ {n : Nat} {s : σ}, I s → m s < n → WWhile c step Wc W n s ∧ I (whileF c step n s) ∧ c (whileF c step n s) = false
  | 0, s, _, h => absurd h (Nat.not_lt_zero _)
  | n + 1, s, hI, h => by
    obtain ⟨a, b⟩ := st s hI
    unfold WWhile whileF
    by_cases hc : c s = true
    · obtain ⟨w, i, l⟩ := b hc
      obtain ⟨r1, r2, r3⟩ := while_inv I m st (n := n) i (by omega)
      rw [if_pos hc]
      exact ⟨⟨a, fun _ => ⟨w, r1⟩⟩, r2, r3⟩
    · rw [if_neg hc]
      exact ⟨⟨a, fun h => absurd h hc⟩, hI, Bool.eq_false_iff.mpr hc⟩
theorem _root_.Pv.ROk.ok {w n : Nat} {d : PyData} (h : ROk w n d) (hw : w ≤ 16777216) (hn : n ≤ 60) : reprOk d = true := by
  unfold reprOk
  rw [h.sh, h.lay, decide_eq_true (Nat.le_trans h.dep hn), decide_eq_true (Nat.le_trans h.sz hw)]
  rfl
end Tv
set_option Elab.async false
set_option linter.all false
set_option maxRecDepth 100000
set_option maxHeartbeats 4000000
/-! dicts that a slot owns, typed; x or () -/
namespace Tv
open PySem L2 Pv PyProof.Rows
section
variable {Γ Γ1 Γ2 : Cxt} {f g : FE} {i : Nat} {kvs kvs0 : List (Key × PyData)} {r t : T} {d : PyData} {k : Key} {s : Sl} {opc : List PyData → Option T}
theorem pk_dct {η : Pv.Env} (h : SatE Γ η) (e : tk Γ i = some (.dct kvs)) : pk η i = some (.dict (kvD kvs)) := by
  unfold pk
  rw [tk_get h e]
  rfl
theorem ew_callVD (h0 : tk Γ i = some (.dct kvs)) (ho : opc [.dict (kvD kvs)] = some r) : EW (eCallV opc i) Γ r Γ := fun η h => by
  refine ⟨η, ?_, h⟩
  unfold eCallV
  simp only [pk_dct h h0, ho, fin1]
theorem ew_dctN : EW eDctN Γ (.dct []) Γ := fun η h => ⟨η, rfl, h⟩
theorem dctOf_tk {η : Pv.Env} (h : SatE Γ η) (e : tk Γ i = some (.dct kvs)) : dctOf η i = some kvs := by
  unfold dctOf
  rw [tk_get h e]
theorem gw_dct (h0 : tk Γ i = some (.dct kvs0)) (hf : EW f Γ (.sh d) Γ1) (h1 : tk Γ1 i = some (.dct kvs)) (hk : keyOf d = some k) (hl : kvs.length < 16777216) (hs : s.Sat (some (.dct (putKD kvs k t.val)))) : GW (gDct i f) t Γ (Γ1.set i s) := fun η h => by
  obtain ⟨η1, e1, k1⟩ := hf η h
  refine ⟨η1.set i (some (.dct (putKD kvs k t.val))), ?_, k1.set hs⟩
  unfold gDct
  have hv : T.val (.sh d) = d := rfl
  simp only [dctOf_tk h h0, e1, Rs.bind_ok, dctOf_tk k1 h1, hv, hk, hl, if_pos]
end
section
variable {α β : Type} {e : α → PyData} {d : List (Int × α)} {x : Int} {v : α}
/-- a dict of whole numbers -/
def dctT (e : α → PyData) (d : List (Int × α)) : T := .dct (d.map fun p => (.inl p.1, e p.2))
def putT (d : List (Int × α)) (x : Int) (v : α) : List (Int × α) := if (d.any fun p => decide (p.1 = x)) = true then d.map (fun p => if p.1 = x then (p.1, v) else p) else d ++ [(x, v)]
theorem putT_map : putKD (d.map fun p => ((.inl p.1 : Key), e p.2)) (.inl x) (e v) = (putT d x v).map fun p => (.inl p.1, e p.2) := by
  unfold putKD putT
  have hc : ∀ a : Int, decide ((Sum.inl a : Key) = Sum.inl x) = decide (a = x) := fun a => decide_eq_decide.mpr ⟨fun h => by cases h; rfl, fun h => by rw [h]⟩
  have h1 : ((d.map fun p => ((.inl p.1 : Key), e p.2)).any fun kv => decide (kv.1 = .inl x)) = d.any fun p => decide (p.1 = x) := by
    rw [List.any_map]
    congr 1
    funext p
    exact hc p.1
  rw [h1]
  split
  · rw [List.map_map, List.map_map]
    refine List.map_congr_left fun p _ => ?_
    show (if (Sum.inl p.1 : Key) = Sum.inl x then _ else _) = _
    by_cases h : p.1 = x
    · rw [if_pos (by rw [h])]
      show _ = ((Sum.inl (if p.1 = x then (p.1, v) else p).1 : Key), e (if p.1 = x then (p.1, v) else p).2)
      rw [if_pos h]
    · rw [if_neg (fun z => by cases z; exact h rfl)]
      show _ = ((Sum.inl (if p.1 = x then (p.1, v) else p).1 : Key), e (if p.1 = x then (p.1, v) else p).2)
      rw [if_neg h]
  · rw [List.map_append]
    rfl
theorem intKs_map : ∀ {d : List (Int × α)}, intKs (kvD (d.map fun p => ((.inl p.1 : Key), e p.2))) = some (d.map fun p => p.1)
  | [] => rfl
  | p :: d => by
    have h : kvD ((p :: d).map fun p => ((.inl p.1 : Key), e p.2)) = (PyData.int p.1, e p.2) :: kvD (d.map fun p => ((.inl p.1 : Key), e p.2)) := rfl
    rw [h]
    show (intKs _).map _ = _
    rw [intKs_map]
    rfl
theorem o_sortedD (h : d.length < 64) : bSorted [.dict (kvD (d.map fun p => ((.inl p.1 : Key), e p.2)))] = some (.lst (((sortT eI (d.map fun p => p.1)).map eI).map T.sh)) := by
  show (intKs _).bind _ = _
  rw [intKs_map]
  show (if (d.map fun p => p.1).length < 64 then _ else _) = _
  rw [if_pos (by rw [List.length_map]; exact h)]
  show some (T.lst ((sortD ((d.map fun p => p.1).map eI)).map T.sh)) = _
  rw [sortD_map]
end
section
variable {α : Type} {e : α → PyData} {o : Option (List α)} {Γ Γ1 Γ2 : Cxt} {f g : FE}
/-- x or (), x None or a tuple -/
theorem ew_orO (hf : EW f Γ (.sh (eO (eT e) o)) Γ1) (hg : EW g Γ1 (.sh (.tuple [])) Γ2) (l : Le Γ2 Γ1) : EW (eOrV f g) Γ (.sh (eT e (o.getD []))) Γ1 := fun η k => by
  obtain ⟨η1, e1, k1⟩ := hf η k
  obtain ⟨η2, e2, k2⟩ := hg η1 k1
  unfold eOrV
  simp only [e1, Rs.bind_ok]
  match o with
  | none => exact ⟨η2, e2, l.sat k2⟩
  | some [] => exact ⟨η2, e2, l.sat k2⟩
  | some (a :: as) => exact ⟨η1, rfl, k1⟩
end
section
variable {α : Type} {e : α → PyData} {d0 d : List (Int × α)} {x : Int} {v : α} {Γ Γ1 : Cxt} {f : FE} {i : Nat}
theorem gw_dctT (h0 : tk Γ i = some (dctT e d0)) (hf : EW f Γ (.sh (.int x)) Γ1) (h1 : tk Γ1 i = some (dctT e d)) (hl : d.length < 16777216) : GW (gDct i f) (.sh (e v)) Γ (Γ1.set i (.ow (dctT e (putT d x v)))) :=
  gw_dct (k := .inl x) h0 hf h1 rfl (by rw [List.length_map]; exact hl) (congrArg (fun z => some (T.dct z)) putT_map)
theorem ew_sortedD (h0 : tk Γ i = some (dctT e d)) (h : d.length < 64) : EW (eCallV bSorted i) Γ (.lst (((sortT eI (d.map fun p => p.1)).map eI).map T.sh)) Γ := ew_callVD h0 (o_sortedD h)
theorem o_augAdd {a b : Int} : augAdd (eI a) (eI b) = some (.sh (eI (a + b))) := rfl
theorem o_augSub {a b : Int} : augSub (eI a) (eI b) = some (.sh (eI (a - b))) := rfl
theorem o_augMul {a b : Int} (h : mulFits64 a b = true) : augMul (eI a) (eI b) = some (.sh (eI (a * b))) := if_pos h
end
theorem o_intB {b : Bool} : bInt [eB b] = some (.sh (eI (if b = true then 1 else 0))) := by cases b <;> rfl
end Tv
set_option Elab.async false
set_option linter.all false
set_option maxRecDepth 100000
set_option maxHeartbeats 4000000
/-! dicts whose keys are tuples of ints, typed: lists of pairs -/
namespace Tv
open PySem L2 Pv
section
variable {α : Type} {e : α → PyData} {l : List (List Int × α)} {k : List Int} {ks : List (List Int)} {vs : List α}
def eM (e : α → PyData) (l : List (List Int × α)) : PyData := .dict (l.map fun p => (eT eI p.1, e p.2))
def gM [Inhabited α] (l : List (List Int × α)) (k : List Int) : α := ((l.find? fun p => decide (p.1 = k)).map (·.2)).getD default
def dOk (l : List (List Int × α)) : Prop := l ≠ [] ∧ (l.map (·.1)).Nodup ∧ l.length ≤ 16777216
theorem tdGet_map [Inhabited α] : ∀ {l : List (List Int × α)}, k ∈ l.map (·.1) → tdGet (l.map fun p => (eT eI p.1, e p.2)) k = some (e (gM l k))
  | [], h => by simp at h
  | p :: l, h => by
    rw [List.map_cons]
    unfold tdGet
    have hk : keyI (eT eI p.1) = some p.1 := intsOf_ints p.1
    rw [hk]
    by_cases c : p.1 = k
    · rw [if_pos (by rw [c])]
      unfold gM
      simp [c]
    · rw [if_neg (fun x => c (Option.some.inj x))]
      have : k ∈ l.map (·.1) := by
        rw [List.map_cons] at h
        rcases List.mem_cons.mp h with h | h
        · exact absurd h.symm c
        · exact h
      rw [tdGet_map this]
      unfold gM
      rw [List.find?_cons, decide_eq_false c]
theorem o_ixM [Inhabited α] (h : k ∈ l.map (·.1)) : opIx (eM e l) (eT eI k) = some (.sh (e (gM l k))) := by
  show opIxD (l.map fun p => (eT eI p.1, e p.2)) (eT eI k) = _
  unfold opIxD
  have hn : noTd (.dict (l.map fun p => (eT eI p.1, e p.2))) = false := by
    cases l with
    | nil => simp at h
    | cons p l => rfl
  have hk : keyI (eT eI k) = some k := intsOf_ints k
  rw [hn, if_neg (by simp), hk]
  show Option.map T.sh (tdGet (l.map fun p => (eT eI p.1, e p.2)) k) = _
  rw [tdGet_map h]
  rfl
theorem pairsOf_map : ∀ l : List (List Int × α), pairsOf (l.map (eP (eT eI) e)) = some (l.map fun p => (p.1, e p.2))
  | [] => rfl
  | p :: l => by
    show (match keyI (eT eI p.1), pairsOf (l.map (eP (eT eI) e)) with | some k, some l => some ((k, e p.2) :: l) | _, _ => none) = _
    have hk : keyI (eT eI p.1) = some p.1 := intsOf_ints p.1
    rw [hk, pairsOf_map l]
    rfl
theorem kdD_map : kdD (l.map fun p => (p.1, e p.2)) = l.map fun p => (eT eI p.1, e p.2) := by
  unfold kdD
  rw [List.map_map]
  rfl
theorem okKD_map (h : dOk l) : okKD (l.map fun p => (p.1, e p.2)) = true := by
  refine okKD_iff.mpr ⟨fun x => h.1 (List.map_eq_nil_iff.mp x), ?_, by rw [List.length_map]; exact h.2.2⟩
  rw [List.map_map]
  exact h.2.1
theorem o_dictL (h : dOk l) : bDict [eL (eP (eT eI) e) l] = some (.sh (eM e l)) := by
  show tdOf (pairsOf (l.map (eP (eT eI) e))) = _
  rw [pairsOf_map]
  unfold tdOf
  dsimp only
  rw [okKD_map h, if_pos rfl, kdD_map]
  rfl
theorem zipKD_map : ∀ (ks : List (List Int)) (vs : List α), zipKD (ks.map (eT eI)) (vs.map e) = some ((ks.zip vs).map fun p => (p.1, e p.2))
  | [], _ => rfl
  | _ :: _, [] => rfl
  | k :: ks, v :: vs => by
    show (match keyI (eT eI k), zipKD (ks.map (eT eI)) (vs.map e) with | some k, some l => some ((k, e v) :: l) | _, _ => none) = _
    have hk : keyI (eT eI k) = some k := intsOf_ints k
    rw [hk, zipKD_map ks vs]
    rfl
theorem dz_map (h : dOk (ks.zip vs)) : tdOf (zipKD (ks.map (eT eI)) (vs.map e)) = some (.sh (eM e (ks.zip vs))) := by
  rw [zipKD_map]
  unfold tdOf
  dsimp only
  rw [okKD_map h, if_pos rfl, kdD_map]
  rfl
theorem o_dzLL (h : dOk (ks.zip vs)) : bDZ [eL (eT eI) ks, eL e vs] = some (.sh (eM e (ks.zip vs))) := dz_map h
theorem o_dzLT (h : dOk (ks.zip vs)) : bDZ [eL (eT eI) ks, eT e vs] = some (.sh (eM e (ks.zip vs))) := dz_map h
theorem o_dzTL (h : dOk (ks.zip vs)) : bDZ [eT (eT eI) ks, eL e vs] = some (.sh (eM e (ks.zip vs))) := dz_map h
theorem o_dzTT (h : dOk (ks.zip vs)) : bDZ [eT (eT eI) ks, eT e vs] = some (.sh (eM e (ks.zip vs))) := dz_map h
end
section
variable {Γ Γ1 : Cxt} {t u v : T} {i j k : Nat}
theorem sv_par3 {ga : FA} {s1 s2 s3 : Sl} (hf : AW ga Γ [t, u, v] Γ1) (h1 : s1.Sat (some t)) (h2 : s2.Sat (some u)) (h3 : s3.Sat (some v)) : SV (sPar3 i j k ga) Γ (((Γ1.set i s1).set j s2).set k s3) := fun η kk => by
  obtain ⟨η1, e1, k1⟩ := hf η kk
  refine ⟨((η1.set i (some t)).set j (some u)).set k (some v), ?_, ((k1.set h1).set h2).set h3⟩
  unfold sPar3
  simp only [e1, Rs.bind_ok]
end
/-! ### what a slot holds is handed back, owned or shared -/
def dat : Sl → Option PyData
  | .sh d => some d
  | .pk d => some d
  | .vl d => some d
  | .od ds => some (.list ds)
  | _ => none
def vk (Γ : Cxt) (i : Nat) : Option PyData := (Γ[i]?).bind dat
theorem sat_val {s : Sl} {o : Option T} {d : PyData} (h : s.Sat o) (hd : dat s = some d) : ∃ t, o = some t ∧ t.val = d := by
  cases s with
  | any => cases hd
  | fr => cases hd
  | ow t => cases hd
  | sh x => cases hd; exact ⟨_, h, rfl⟩
  | vl x => cases hd; exact h
  | od ds => cases hd; exact ⟨_, h, by simp [T.val]⟩
  | pk x =>
    cases hd
    rcases h with h | ⟨ds, rfl, h⟩
    · exact ⟨_, h, rfl⟩
    · exact ⟨_, h, by simp [T.val]⟩
theorem s_retVN {Γ : Cxt} {i : Nat} {d : PyData} {P : Fl → Pv.Env → Prop} (h0 : vk Γ i = some d) (hp : ∀ t η, t.val = d → SatE (Γ.set i .fr) η → P (.ret t) η) : S (sRetV i) Γ P := fun η k => by
  unfold vk at h0
  cases hs : Γ[i]? with
  | none => rw [hs] at h0; cases h0
  | some s =>
    rw [hs] at h0
    obtain ⟨o, ho, kk⟩ := k.get hs
    obtain ⟨t, rfl, hv⟩ := sat_val kk h0
    refine ⟨.ret t, η.set i none, ?_, hp t _ hv (k.set (.inl rfl))⟩
    unfold sRetV
    rw [ho]
theorem EW.weak {f : FE} {Γ Γ1 Γ2 : Cxt} {t : T} (l : Le Γ Γ2) (h : EW f Γ2 t Γ1) : EW f Γ t Γ1 := fun η k => h η (l.sat k)
theorem eO_gO {α : Type} [Inhabited α] {e : α → PyData} {x : Option α} (h : Option.isSome x = true) : T.sh (eO e x) = T.sh (e (gO x)) := by
  cases x with
  | none => cases h
  | some a => rfl
end Tv
set_option Elab.async false
set_option linter.all false
set_option maxRecDepth 100000
set_option maxHeartbeats 4000000
namespace K12
open PySem L2 Pv Tv
theorem draws : Draws G__law_draw := fun hm hm2 h => drawA_ok (c2 := 48271) (c3 := 17) (c4 := 40692) ⟨by decide, by decide⟩ ⟨by decide, by decide⟩ hm hm2 h
def F__law_draw (t : T) (many : Int) : Int × T := drF G__law_draw t many
def W__law_draw (t : T) (many : Int) : Prop := DrW t many
theorem V__law_draw {t : T} {many : Int} (H : W__law_draw t many) : G__law_draw t [eI many] = some (.sh (eI (F__law_draw t many).1), (F__law_draw t many).2) := drF_eq draws H
def F__law_hand (ns : List Int) : T := (G__law_hand [.list (ns.map .int)]).getD (.sh .none)
def W__law_hand (ns : List Int) : Prop := ns.length ≤ 63
theorem hand_ok {ns : List Int} (h : ns.length ≤ 63) : G__law_hand [.list (ns.map .int)] = some (F__law_hand ns) ∧ Hand (F__law_hand ns) := by
  obtain ⟨t, e, k⟩ : ∃ t, G__law_hand [.list (ns.map .int)] = some t ∧ Hand t := handA_ok (c := 163) (d := 11) ⟨by decide, by decide⟩ h
  unfold F__law_hand
  rw [e]
  exact ⟨rfl, k⟩
theorem V__law_hand {ns : List Int} (H : W__law_hand ns) : G__law_hand [eL eI ns] = some (F__law_hand ns) := (hand_ok H).1
end K12
set_option Elab.async false
set_option maxRecDepth 100000
set_option maxHeartbeats 4000000
namespace K12
open PySem L2 Pv Tv
set_option linter.all false
def F__law_tuples_s1 (m : Int) (s_2 : ((List (List Int)))) (x_2 : (List Int)) : ((List (List Int))) := let longer_2 : (List (List Int)) := (s_2 ++ (List.map (fun x_3 => (x_2 ++ [x_3])) (rgI 0 m))); longer_2
def W__law_tuples_s1 (m : Int) (s_2 : ((List (List Int)))) (x_2 : (List Int)) : Prop := let longer_2 : (List (List Int)) := (s_2 ++ (List.map (fun x_3 => (x_2 ++ [x_3])) (rgI 0 m))); (rg62 m = true) ∧ (List.length (rgI 0 m) < 16777216) ∧ (∀ x_3 ∈ (rgI 0 m), (List.length x_2 + List.length [x_3] ≤ 16777216)) ∧ (List.length s_2 + List.length (List.map (fun x_3 => (x_2 ++ [x_3])) (rgI 0 m)) < 16777216)
def F__law_tuples_s2 (m : Int) (s_1 : ((List (List Int)))) (x_1 : Int) : ((List (List Int))) := let longer_1 : (List (List Int)) := ([] : List (List Int)); let m_1 : ((List (List Int))) := List.foldl (F__law_tuples_s1 m) longer_1 s_1; let found_2 : (List (List Int)) := m_1; found_2
def W__law_tuples_s2 (m : Int) (s_1 : ((List (List Int)))) (x_1 : Int) : Prop := let longer_1 : (List (List Int)) := ([] : List (List Int)); let m_1 : ((List (List Int))) := List.foldl (F__law_tuples_s1 m) longer_1 s_1; let found_2 : (List (List Int)) := m_1; (WFold (F__law_tuples_s1 m) (W__law_tuples_s1 m) longer_1 s_1)
def F__law_tuples (n : Int) (m : Int) : (List (List Int)) := let found_1 : (List (List Int)) := [([] : (List Int))]; let m_2 : ((List (List Int))) := List.foldl (F__law_tuples_s2 m) found_1 (rgI 0 n); m_2
def W__law_tuples (n : Int) (m : Int) : Prop := let found_1 : (List (List Int)) := [([] : (List Int))]; let m_2 : ((List (List Int))) := List.foldl (F__law_tuples_s2 m) found_1 (rgI 0 n); (rg62 n = true) ∧ (WFold (F__law_tuples_s2 m) (W__law_tuples_s2 m) found_1 (rgI 0 n))
theorem W__law_tuples_eq {n : Int} {m : Int} : W__law_tuples n m = (let found_1 : (List (List Int)) := [([] : (List Int))]; let m_2 : ((List (List Int))) := List.foldl (F__law_tuples_s2 m) found_1 (rgI 0 n); (rg62 n = true) ∧ (WFold (F__law_tuples_s2 m) (W__law_tuples_s2 m) found_1 (rgI 0 n))) := rfl
theorem V__law_tuples {n : Int} {m : Int} (H : W__law_tuples n m) : ∃ tr, G__law_tuples [eI n, eI m] = some tr ∧ T.val tr = (eL (eT eI)) (F__law_tuples n m) := by
  refine gp_okD rfl ?_
  show S B__law_tuples [.sh (eI n), .sh (eI m), .fr, .fr, .fr, .fr, .fr] _
  unfold B__law_tuples
  let found_1 : (List (List Int)) := [([] : (List Int))]
  let m_2 : ((List (List Int))) := List.foldl (F__law_tuples_s2 m) found_1 (rgI 0 n)
  exact (s_seq (SV.cx (Γ2 := [.sh (eI n), .sh (eI m), .od (List.map (eT eI) found_1), .fr, .fr, .fr, .fr]) (sv_asg (EW.as (t' := .lst (List.map T.sh (List.map (eT eI) [([] : (List Int))]))) (ew_lst (aw_cons (EW.as (t' := .sh ((eT eI) ([] : (List Int)))) (ew_tup av_nil) rfl) aw_nil)) rfl) (gw_n (s := .od (List.map (eT eI) found_1)) rfl)) rfl) (s_seq (SV.cx (Γ2 := [.sh (eI n), .sh (eI m), .pk ((eL (eT eI)) m_2), .fr, .fr, .fr, .fr]) (sv_for (l := (rgI 0 n)) (e := eI) (G := (fun s_1 : ((List (List Int))) => [.sh (eI n), .sh (eI m), .pk ((eL (eT eI)) s_1), .fr, .fr, .fr, .fr])) (s0 := found_1) (step := (F__law_tuples_s2 m)) (W := (W__law_tuples_s2 m)) (IV.as (iv_r1 (ew_v rfl) (H.1)) (rgD_map _ _)) (by first | exact Le.refl _ | (repeat (first | exact trivial | exact rfl | apply And.intro))) (H.2) (fun s_1 x_1 H3 => let longer_1 : (List (List Int)) := ([] : List (List Int)); let m_1 : ((List (List Int))) := List.foldl (F__law_tuples_s1 m) longer_1 s_1; let found_2 : (List (List Int)) := m_1; turn (gw_n (s := .sh _) rfl) (s_of (sv_seq (SV.cx (Γ2 := [.sh (eI n), .sh (eI m), .pk ((eL (eT eI)) s_1), .sh (eI x_1), .od (List.map (eT eI) longer_1), .fr, .fr]) (sv_asg (EW.as (t' := .lst (List.map T.sh (List.map (eT eI) ([] : List (List Int))))) (ew_lst aw_nil) rfl) (gw_n (s := .od (List.map (eT eI) longer_1)) rfl)) rfl) (sv_seq (SV.cx (Γ2 := [.sh (eI n), .sh (eI m), .pk ((eL (eT eI)) s_1), .sh (eI x_1), .od (List.map (eT eI) m_1), .fr, .fr]) (sv_forV (l := s_1) (e := (eT eI)) (G := (fun s_2 : ((List (List Int))) => [.sh (eI n), .sh (eI m), .pk ((eL (eT eI)) s_1), .sh (eI x_1), .od (List.map (eT eI) s_2), .fr, .fr])) (s0 := longer_1) (step := (F__law_tuples_s1 m)) (W := (W__law_tuples_s1 m)) rfl rfl (fun _ => rfl) (by first | exact Le.refl _ | (repeat (first | exact trivial | exact rfl | apply And.intro))) H3 (fun s_2 x_2 H2 => let longer_2 : (List (List Int)) := (s_2 ++ (List.map (fun x_3 => (x_2 ++ [x_3])) (rgI 0 m))); turn (gw_n (s := .sh _) rfl) (s_of (SV.cx (Γ2 := [.sh (eI n), .sh (eI m), .pk ((eL (eT eI)) s_1), .sh (eI x_1), .od (List.map (eT eI) longer_2), .sh ((eT eI) x_2), .fr]) (sv_expr (ew_mt1 (s := .od (List.map (eT eI) (s_2 ++ (List.map (fun x_3 => (x_2 ++ [x_3])) (rgI 0 m))))) rfl (EW.mapE (e := (eT eI)) (ew_compM (l := (rgI 0 m)) (e := eI) (r := fun x_3 => T.sh ((eT eI) (x_2 ++ [x_3]))) (IV.as (iv_r1 (ew_v rfl) (H2.1)) (rgD_map _ _)) (H2.2.1) (free_own (by rfl)) (fun x_3 hx => have H1 := (H2.2.2.1) x_3 hx; item1 (gw_n (s := .sh _) rfl) (ew_binL (EW.sh (EW.as (t' := .sh ((eT eI) [x_3])) (ew_tup (av_cons (EW.sh (ew_v rfl)) av_nil)) rfl)) rfl rfl (o_addT (e := eI) H1)) (by first | exact Le.refl _ | (repeat (first | exact trivial | exact rfl | apply And.intro)))))) rfl (mExtend_map (e := (eT eI)) (l2 := (List.map (fun x_3 => (x_2 ++ [x_3])) (rgI 0 m))) (H2.2.2.2)) rfl)) rfl) (fun η k => ⟨.inl rfl, Le.sat (by first | exact Le.refl _ | (repeat (first | exact trivial | exact rfl | apply And.intro))) k⟩)))) rfl) (SV.cx (Γ2 := [.sh (eI n), .sh (eI m), .sh ((eL (eT eI)) found_2), .sh (eI x_1), .sh ((eL (eT eI)) m_1), .fr, .fr]) (sv_asg (ew_v rfl) (gw_n (s := .sh ((eL (eT eI)) found_2)) rfl)) rfl))) (fun η k => ⟨.inl rfl, Le.sat (by first | exact Le.refl _ | (repeat (first | exact trivial | exact rfl | apply And.intro))) k⟩)))) rfl) (s_retVN rfl (fun tr η hv k => ⟨tr, rfl, hv⟩))))
def F__law_gain_s1 (told_1 : (List (List Int × Int))) (x_2 : (List Int)) (x_3 : Int) (s_3 : Unit) (x_4 : Int) : (Lp Unit (Option ((List Int) × Int × Int))) := let here_1 : Int := (gM told_1 x_2); let there_1 : Int := (gM told_1 (((cutA x_2 none (some x_3)) ++ [x_4]) ++ (cutA x_2 (some (x_3 + (1 : Int))) none))); let own_1 : Int := (gx x_2 x_3); (if ((!decide (here_1 = there_1)) && ((!decide (here_1 = own_1)) && (!(((decide (own_1 < here_1)) && decide (here_1 < there_1)) || ((decide (there_1 < here_1)) && decide (here_1 < own_1)))))) = true then ((.ret (some (x_2, x_3, x_4)))) else ((.nx ())))
def W__law_gain_s1 (told_1 : (List (List Int × Int))) (x_2 : (List Int)) (x_3 : Int) (s_3 : Unit) (x_4 : Int) : Prop := let here_1 : Int := (gM told_1 x_2); let there_1 : Int := (gM told_1 (((cutA x_2 none (some x_3)) ++ [x_4]) ++ (cutA x_2 (some (x_3 + (1 : Int))) none))); let own_1 : Int := (gx x_2 x_3); (x_2 ∈ List.map (fun p => p.1) told_1) ∧ (List.length (cutA x_2 none (some x_3)) + List.length [x_4] ≤ 16777216) ∧ (List.length ((cutA x_2 none (some x_3)) ++ [x_4]) + List.length (cutA x_2 (some (x_3 + (1 : Int))) none) ≤ 16777216) ∧ ((((cutA x_2 none (some x_3)) ++ [x_4]) ++ (cutA x_2 (some (x_3 + (1 : Int))) none)) ∈ List.map (fun p => p.1) told_1) ∧ (ixOk (List.length x_2) x_3)
def F__law_gain_s2 (p_1 : (Int × Int × (List Int))) (told_1 : (List (List Int × Int))) (x_2 : (List Int)) (s_2 : Unit) (x_3 : Int) : (Lp Unit (Option ((List Int) × Int × Int))) := let e_1 : (Except (Option ((List Int) × Int × Int)) Unit) := (foldL (F__law_gain_s1 told_1 x_2 x_3) () (rgI 0 p_1.2.1)); (exC e_1 (fun z_1 : Unit => (.nx ())) (fun r_1 : (Option ((List Int) × Int × Int)) => .ret r_1))
def W__law_gain_s2 (p_1 : (Int × Int × (List Int))) (told_1 : (List (List Int × Int))) (x_2 : (List Int)) (s_2 : Unit) (x_3 : Int) : Prop := let e_1 : (Except (Option ((List Int) × Int × Int)) Unit) := (foldL (F__law_gain_s1 told_1 x_2 x_3) () (rgI 0 p_1.2.1)); (rg62 p_1.2.1 = true) ∧ (WFoldL (F__law_gain_s1 told_1 x_2 x_3) (W__law_gain_s1 told_1 x_2 x_3) () (rgI 0 p_1.2.1))
def F__law_gain_s3 (p_1 : (Int × Int × (List Int))) (told_1 : (List (List Int × Int))) (s_1 : Unit) (x_2 : (List Int)) : (Lp Unit (Option ((List Int) × Int × Int))) := let e_2 : (Except (Option ((List Int) × Int × Int)) Unit) := (foldL (F__law_gain_s2 p_1 told_1 x_2) () (rgI 0 p_1.1)); (exC e_2 (fun z_2 : Unit => (.nx ())) (fun r_2 : (Option ((List Int) × Int × Int)) => .ret r_2))
def W__law_gain_s3 (p_1 : (Int × Int × (List Int))) (told_1 : (List (List Int × Int))) (s_1 : Unit) (x_2 : (List Int)) : Prop := let e_2 : (Except (Option ((List Int) × Int × Int)) Unit) := (foldL (F__law_gain_s2 p_1 told_1 x_2) () (rgI 0 p_1.1)); (rg62 p_1.1 = true) ∧ (WFoldL (F__law_gain_s2 p_1 told_1 x_2) (W__law_gain_s2 p_1 told_1 x_2) () (rgI 0 p_1.1))
def F__law_gain (rule : (Int × Int × (List Int))) : (Option ((List Int) × Int × Int)) := let p_1 : (Int × Int × (List Int)) := rule; let rows_1 : (List (List Int)) := (F__law_tuples p_1.1 p_1.2.1); let told_1 : (List (List Int × Int)) := (List.map (fun x_1 => (x_1.1, x_1.2)) (List.zip rows_1 p_1.2.2)); let e_3 : (Except (Option ((List Int) × Int × Int)) Unit) := (foldL (F__law_gain_s3 p_1 told_1) () rows_1); (exC e_3 (fun z_3 : Unit => (none : (Option ((List Int) × Int × Int)))) (fun r_3 : (Option ((List Int) × Int × Int)) => r_3))
def W__law_gain (rule : (Int × Int × (List Int))) : Prop := let p_1 : (Int × Int × (List Int)) := rule; let rows_1 : (List (List Int)) := (F__law_tuples p_1.1 p_1.2.1); let told_1 : (List (List Int × Int)) := (List.map (fun x_1 => (x_1.1, x_1.2)) (List.zip rows_1 p_1.2.2)); let e_3 : (Except (Option ((List Int) × Int × Int)) Unit) := (foldL (F__law_gain_s3 p_1 told_1) () rows_1); (W__law_tuples p_1.1 p_1.2.1) ∧ (List.length (List.zip rows_1 p_1.2.2) < 16777216) ∧ (dOk (List.map (fun x_1 => (x_1.1, x_1.2)) (List.zip rows_1 p_1.2.2))) ∧ (WFoldL (F__law_gain_s3 p_1 told_1) (W__law_gain_s3 p_1 told_1) () rows_1)
theorem W__law_gain_eq {rule : (Int × Int × (List Int))} : W__law_gain rule = (let p_1 : (Int × Int × (List Int)) := rule; let rows_1 : (List (List Int)) := (F__law_tuples p_1.1 p_1.2.1); let told_1 : (List (List Int × Int)) := (List.map (fun x_1 => (x_1.1, x_1.2)) (List.zip rows_1 p_1.2.2)); let e_3 : (Except (Option ((List Int) × Int × Int)) Unit) := (foldL (F__law_gain_s3 p_1 told_1) () rows_1); (W__law_tuples p_1.1 p_1.2.1) ∧ (List.length (List.zip rows_1 p_1.2.2) < 16777216) ∧ (dOk (List.map (fun x_1 => (x_1.1, x_1.2)) (List.zip rows_1 p_1.2.2))) ∧ (WFoldL (F__law_gain_s3 p_1 told_1) (W__law_gain_s3 p_1 told_1) () rows_1)) := rfl
theorem V__law_gain {rule : (Int × Int × (List Int))} (H : W__law_gain rule) : G__law_gain [(eP3 eI eI (eT eI)) rule] = some (T.sh ((eO (eP3 (eT eI) eI eI)) (F__law_gain rule))) := by
  refine gp_ok rfl ?_
  show S B__law_gain [.sh ((eP3 eI eI (eT eI)) rule), .fr, .fr, .fr, .fr, .fr, .fr, .fr, .fr, .fr, .fr, .fr, .fr] _
  unfold B__law_gain
  let p_1 : (Int × Int × (List Int)) := rule
  let rows_1 : (List (List Int)) := (F__law_tuples p_1.1 p_1.2.1)
  let told_1 : (List (List Int × Int)) := (List.map (fun x_1 => (x_1.1, x_1.2)) (List.zip rows_1 p_1.2.2))
  let e_3 : (Except (Option ((List Int) × Int × Int)) Unit) := (foldL (F__law_gain_s3 p_1 told_1) () rows_1)
  exact (s_seq (SV.cx (Γ2 := [.sh ((eP3 eI eI (eT eI)) rule), .sh (eI p_1.1), .sh (eI p_1.2.1), .sh ((eT eI) p_1.2.2), .fr, .fr, .fr, .fr, .fr, .fr, .fr, .fr, .fr]) (sv_asg (ew_v rfl) (gw_tup (gws_cons (gw_n (s := .sh _) rfl) (gws_cons (gw_n (s := .sh _) rfl) (gws_cons (gw_n (s := .sh _) rfl) gws_nil))) rfl rfl)) rfl) (s_seq (SV.cx (Γ2 := [.sh ((eP3 eI eI (eT eI)) rule), .sh (eI p_1.1), .sh (eI p_1.2.1), .sh ((eT eI) p_1.2.2), .vl ((eL (eT eI)) rows_1), .fr, .fr, .fr, .fr, .fr, .fr, .fr, .fr]) (sv_asgD (d := (eL (eT eI)) rows_1) (ed_def (av_cons (EW.sh (ew_v rfl)) (av_cons (EW.sh (ew_v rfl)) av_nil)) (V__law_tuples  (H.1)))) rfl) (s_seq (SV.cx (Γ2 := [.sh ((eP3 eI eI (eT eI)) rule), .sh (eI p_1.1), .sh (eI p_1.2.1), .sh ((eT eI) p_1.2.2), .sh ((eL (eT eI)) rows_1), .sh ((eM eI) told_1), .fr, .fr, .fr, .fr, .fr, .fr, .fr]) (sv_asg (ew_call (av_cons (EW.od (EW.mapE (e := (eP (eT eI) eI)) (ew_compM (l := (List.zip rows_1 p_1.2.2)) (e := (eP (eT eI) eI)) (r := fun x_1 => T.sh ((eP (eT eI) eI) (x_1.1, x_1.2))) (IV.as (iv_z (EW.sh (ew_vl rfl)) (EW.sh (ew_v rfl)) rfl rfl) (zipD_map (e := (eT eI)) (f := eI) _ _)) (H.2.1) (free_own (by rfl)) (fun x_1 hx => item1 (gw_tup (gws_cons (gw_n (s := .sh _) rfl) (gws_cons (gw_n (s := .sh _) rfl) gws_nil)) rfl rfl) (EW.as (t' := .sh ((eP (eT eI) eI) (x_1.1, x_1.2))) (ew_tup (av_cons (EW.sh (ew_v rfl)) (av_cons (EW.sh (ew_v rfl)) av_nil))) rfl) (by first | exact Le.refl _ | (repeat (first | exact trivial | exact rfl | apply And.intro))))))) av_nil) (o_dictL (e := eI) (H.2.2.1))) (gw_n (s := .sh ((eM eI) told_1)) rfl)) rfl) (s_seqX (M := (fun (v : (Option ((List Int) × Int × Int))) fl _ => fl = .ret (T.sh ((eO (eP3 (eT eI) eI eI)) v)))) (fun z_3 : Unit => (none : (Option ((List Int) × Int × Int)))) (fun r_3 : (Option ((List Int) × Int × Int)) => r_3) (s_forV (l := rows_1) (e := (eT eI)) (G := (fun s_1 : Unit => [.sh ((eP3 eI eI (eT eI)) rule), .sh (eI p_1.1), .sh (eI p_1.2.1), .sh ((eT eI) p_1.2.2), .sh ((eL (eT eI)) rows_1), .sh ((eM eI) told_1), .fr, .fr, .fr, .fr, .fr, .fr, .fr])) (s0 := ()) (step := (F__law_gain_s3 p_1 told_1)) (W := (W__law_gain_s3 p_1 told_1)) (R := (fun (v : (Option ((List Int) × Int × Int))) _ t => t = T.sh ((eO (eP3 (eT eI) eI eI)) v))) rfl rfl (fun _ => rfl) (by first | exact Le.refl _ | (repeat (first | exact trivial | exact rfl | apply And.intro))) (H.2.2.2) (fun s_1 x_2 H11 => let e_2 : (Except (Option ((List Int) × Int × Int)) Unit) := (foldL (F__law_gain_s2 p_1 told_1 x_2) () (rgI 0 p_1.1)); turn (gw_n (s := .sh _) rfl) (s_endX (M := (LpP (fun _ : Unit => [.sh ((eP3 eI eI (eT eI)) rule), .sh (eI p_1.1), .sh (eI p_1.2.1), .sh ((eT eI) p_1.2.2), .sh ((eL (eT eI)) rows_1), .sh ((eM eI) told_1), .fr, .fr, .fr, .fr, .fr, .fr, .fr]) (fun (v : (Option ((List Int) × Int × Int))) _ t => t = T.sh ((eO (eP3 (eT eI) eI eI)) v)))) (fun z_2 : Unit => (.nx ())) (fun r_2 : (Option ((List Int) × Int × Int)) => .ret r_2) (s_for (l := (rgI 0 p_1.1)) (e := eI) (G := (fun s_2 : Unit => [.sh ((eP3 eI eI (eT eI)) rule), .sh (eI p_1.1), .sh (eI p_1.2.1), .sh ((eT eI) p_1.2.2), .sh ((eL (eT eI)) rows_1), .sh ((eM eI) told_1), .sh ((eT eI) x_2), .fr, .fr, .fr, .fr, .fr, .fr])) (s0 := ()) (step := (F__law_gain_s2 p_1 told_1 x_2)) (W := (W__law_gain_s2 p_1 told_1 x_2)) (R := (fun (v : (Option ((List Int) × Int × Int))) _ t => t = T.sh ((eO (eP3 (eT eI) eI eI)) v))) (IV.as (iv_r1 (ew_v rfl) (H11.1)) (rgD_map _ _)) (by first | exact Le.refl _ | (repeat (first | exact trivial | exact rfl | apply And.intro))) (H11.2) (fun s_2 x_3 H10 => let e_1 : (Except (Option ((List Int) × Int × Int)) Unit) := (foldL (F__law_gain_s1 told_1 x_2 x_3) () (rgI 0 p_1.2.1)); turn (gw_n (s := .sh _) rfl) (s_endX (M := (LpP (fun _ : Unit => [.sh ((eP3 eI eI (eT eI)) rule), .sh (eI p_1.1), .sh (eI p_1.2.1), .sh ((eT eI) p_1.2.2), .sh ((eL (eT eI)) rows_1), .sh ((eM eI) told_1), .sh ((eT eI) x_2), .fr, .fr, .fr, .fr, .fr, .fr]) (fun (v : (Option ((List Int) × Int × Int))) _ t => t = T.sh ((eO (eP3 (eT eI) eI eI)) v)))) (fun z_1 : Unit => (.nx ())) (fun r_1 : (Option ((List Int) × Int × Int)) => .ret r_1) (s_for (l := (rgI 0 p_1.2.1)) (e := eI) (G := (fun s_3 : Unit => [.sh ((eP3 eI eI (eT eI)) rule), .sh (eI p_1.1), .sh (eI p_1.2.1), .sh ((eT eI) p_1.2.2), .sh ((eL (eT eI)) rows_1), .sh ((eM eI) told_1), .sh ((eT eI) x_2), .fr, .sh (eI x_3), .fr, .fr, .fr, .fr])) (s0 := ()) (step := (F__law_gain_s1 told_1 x_2 x_3)) (W := (W__law_gain_s1 told_1 x_2 x_3)) (R := (fun (v : (Option ((List Int) × Int × Int))) _ t => t = T.sh ((eO (eP3 (eT eI) eI eI)) v))) (IV.as (iv_r1 (ew_v rfl) (H10.1)) (rgD_map _ _)) (by first | exact Le.refl _ | (repeat (first | exact trivial | exact rfl | apply And.intro))) (H10.2) (fun s_3 x_4 H9 => let here_1 : Int := (gM told_1 x_2); let there_1 : Int := (gM told_1 (((cutA x_2 none (some x_3)) ++ [x_4]) ++ (cutA x_2 (some (x_3 + (1 : Int))) none))); let own_1 : Int := (gx x_2 x_3); turn (gw_n (s := .sh _) rfl) (s_seq (SV.cx (Γ2 := [.sh ((eP3 eI eI (eT eI)) rule), .sh (eI p_1.1), .sh (eI p_1.2.1), .sh ((eT eI) p_1.2.2), .sh ((eL (eT eI)) rows_1), .sh ((eM eI) told_1), .sh ((eT eI) x_2), .fr, .sh (eI x_3), .sh (eI x_4), .sh (eI here_1), .sh (eI there_1), .sh (eI own_1)]) (sv_par3 (s1 := .sh (eI here_1)) (s2 := .sh (eI there_1)) (s3 := .sh (eI own_1)) (aw_cons (ew_binLR rfl rfl (o_ixM (e := eI) (H9.1))) (aw_cons (ew_binL (EW.sh (ew_bin (EW.sh (ew_bin (EW.sh (ew_slV rfl ov_none (ov_some (ew_v rfl)) rfl (o_slT (e := eI)))) (EW.sh (EW.as (t' := .sh ((eT eI) [x_4])) (ew_tup (av_cons (EW.sh (ew_v rfl)) av_nil)) rfl)) (o_addT (e := eI) (H9.2.1)))) (EW.sh (ew_slV rfl (ov_some (ew_binL (EW.sh ew_c) rfl rfl o_addI)) ov_none rfl (o_slT (e := eI)))) (o_addT (e := eI) (H9.2.2.1)))) rfl rfl (o_ixM (e := eI) (H9.2.2.2.1))) (aw_cons (ew_binLR rfl rfl (o_ixT (e := eI) (H9.2.2.2.2))) aw_nil))) rfl rfl rfl) rfl) (s_if (LpP (fun _ : Unit => [.sh ((eP3 eI eI (eT eI)) rule), .sh (eI p_1.1), .sh (eI p_1.2.1), .sh ((eT eI) p_1.2.2), .sh ((eL (eT eI)) rows_1), .sh ((eM eI) told_1), .sh ((eT eI) x_2), .fr, .sh (eI x_3), .fr, .fr, .fr, .fr]) (fun (v : (Option ((List Int) × Int × Int))) _ t => t = T.sh ((eO (eP3 (eT eI) eI eI)) v))) (bv_and (bv_t (ew_binLR rfl rfl (o_ne (e := eI) cm_i))) (fun hb => (bv_and (bv_t (ew_binLR rfl rfl (o_ne (e := eI) cm_i))) (fun hb => (bv_not (bv_or (bv_t (ew_chain (ew_v rfl) (ew_v rfl) (fun hb => (ew_v rfl)) (by first | exact Le.refl _ | (repeat (first | exact trivial | exact rfl | apply And.intro))))) (fun hb => (bv_t (ew_chain (ew_v rfl) (ew_v rfl) (fun hb => (ew_v rfl)) (by first | exact Le.refl _ | (repeat (first | exact trivial | exact rfl | apply And.intro)))))) (by first | exact Le.refl _ | (repeat (first | exact trivial | exact rfl | apply And.intro)))))) (by first | exact Le.refl _ | (repeat (first | exact trivial | exact rfl | apply And.intro))))) (by first | exact Le.refl _ | (repeat (first | exact trivial | exact rfl | apply And.intro)))) (fun hb => (s_ret (EW.as (t' := .sh ((eP3 (eT eI) eI eI) (x_2, x_3, x_4))) (ew_tup (av_cons (EW.sh (ew_v rfl)) (av_cons (EW.sh (ew_v rfl)) (av_cons (EW.sh (ew_v rfl)) av_nil)))) rfl) (fun η k => ⟨_, rfl, rfl⟩))) (fun hb => (s_of sv_nil (fun η k => ⟨.inl rfl, Le.sat (by first | exact Le.refl _ | (repeat (first | exact trivial | exact rfl | apply And.intro))) k⟩))))))) (fun r η t h => ⟨t, rfl, h⟩) (fun z_1 => (fun η k => ⟨.inl rfl, Le.sat (by first | exact Le.refl _ | (repeat (first | exact trivial | exact rfl | apply And.intro))) k⟩))))) (fun r η t h => ⟨t, rfl, h⟩) (fun z_2 => (fun η k => ⟨.inl rfl, Le.sat (by first | exact Le.refl _ | (repeat (first | exact trivial | exact rfl | apply And.intro))) k⟩))))) (fun r η t h => by rw [h]) (fun z_3 hs => (s_ret ew_c (fun η k => rfl)))))))
def F__law_is (said : PyData) (due : PyData) : Bool := (decide ((PyData.shown (eD said)) = (PyData.shown (eD due))))
def W__law_is (said : PyData) (due : PyData) : Prop := (reprOk (eD said) = true) ∧ (reprOk (eD due) = true)
theorem W__law_is_eq {said : PyData} {due : PyData} : W__law_is said due = ((reprOk (eD said) = true) ∧ (reprOk (eD due) = true)) := rfl
theorem V__law_is {said : PyData} {due : PyData} (H : W__law_is said due) : G__law_is [eD said, eD due] = some (T.sh (eB (F__law_is said due))) := by
  refine gp_ok rfl ?_
  show S B__law_is [.sh (eD said), .sh (eD due)] _
  unfold B__law_is
  exact (s_ret (ew_bin (EW.sh (ew_callV rfl (o_repr (H.1)))) (EW.sh (ew_callV rfl (o_repr (H.2)))) opEqS_str) (fun η k => rfl))
def F__law_is_int (thing : Int) : Bool := (true && (!false))
theorem V__law_is_int {thing : Int} (_ : True) : G__law_is_int [eI thing] = some (T.sh (eB (F__law_is_int thing))) := by
  refine gp_ok rfl ?_
  show S B__law_is_int [.sh (eI thing)] _
  unfold B__law_is_int
  exact (s_ret (ew_and (ew_isV (b := true) rfl rfl) (fun hb => (ew_not (ew_isV (b := false) rfl rfl))) (by first | exact Le.refl _ | (repeat (first | exact trivial | exact rfl | apply And.intro)))) (fun η k => rfl))
def F__law_lots_s1  (s_1 : ((List (List Int)))) (x_1 : Int) : ((List (List Int))) := let found_2 : (List (List Int)) := (s_1 ++ (List.map (fun x_2 => (x_2 ++ [x_1])) s_1)); found_2
def W__law_lots_s1  (s_1 : ((List (List Int)))) (x_1 : Int) : Prop := let found_2 : (List (List Int)) := (s_1 ++ (List.map (fun x_2 => (x_2 ++ [x_1])) s_1)); (List.length s_1 < 16777216) ∧ (∀ x_2 ∈ s_1, (List.length x_2 + List.length [x_1] ≤ 16777216)) ∧ (List.length s_1 + List.length (List.map (fun x_2 => (x_2 ++ [x_1])) s_1) ≤ 16777216)
def F__law_lots (n : Int) : (List (List Int)) := let found_1 : (List (List Int)) := [([] : (List Int))]; let m_1 : ((List (List Int))) := List.foldl F__law_lots_s1 found_1 (rgI 0 n); m_1
def W__law_lots (n : Int) : Prop := let found_1 : (List (List Int)) := [([] : (List Int))]; let m_1 : ((List (List Int))) := List.foldl F__law_lots_s1 found_1 (rgI 0 n); (rg62 n = true) ∧ (WFold F__law_lots_s1 W__law_lots_s1 found_1 (rgI 0 n))
theorem W__law_lots_eq {n : Int} : W__law_lots n = (let found_1 : (List (List Int)) := [([] : (List Int))]; let m_1 : ((List (List Int))) := List.foldl F__law_lots_s1 found_1 (rgI 0 n); (rg62 n = true) ∧ (WFold F__law_lots_s1 W__law_lots_s1 found_1 (rgI 0 n))) := rfl
theorem V__law_lots {n : Int} (H : W__law_lots n) : G__law_lots [eI n] = some (T.lst (List.map T.sh (List.map (eT eI) (F__law_lots n)))) := by
  refine gp_ok rfl ?_
  show S B__law_lots [.sh (eI n), .fr, .fr, .fr] _
  unfold B__law_lots
  let found_1 : (List (List Int)) := [([] : (List Int))]
  let m_1 : ((List (List Int))) := List.foldl F__law_lots_s1 found_1 (rgI 0 n)
  exact (s_seq (SV.cx (Γ2 := [.sh (eI n), .od (List.map (eT eI) found_1), .fr, .fr]) (sv_asg (EW.as (t' := .lst (List.map T.sh (List.map (eT eI) [([] : (List Int))]))) (ew_lst (aw_cons (EW.as (t' := .sh ((eT eI) ([] : (List Int)))) (ew_tup av_nil) rfl) aw_nil)) rfl) (gw_n (s := .od (List.map (eT eI) found_1)) rfl)) rfl) (s_seq (SV.cx (Γ2 := [.sh (eI n), .od (List.map (eT eI) m_1), .fr, .fr]) (sv_for (l := (rgI 0 n)) (e := eI) (G := (fun s_1 : ((List (List Int))) => [.sh (eI n), .od (List.map (eT eI) s_1), .fr, .fr])) (s0 := found_1) (step := F__law_lots_s1) (W := W__law_lots_s1) (IV.as (iv_r1 (ew_v rfl) (H.1)) (rgD_map _ _)) (by first | exact Le.refl _ | (repeat (first | exact trivial | exact rfl | apply And.intro))) (H.2) (fun s_1 x_1 H2 => let found_2 : (List (List Int)) := (s_1 ++ (List.map (fun x_2 => (x_2 ++ [x_1])) s_1)); turn (gw_n (s := .sh _) rfl) (s_of (SV.cx (Γ2 := [.sh (eI n), .od (List.map (eT eI) found_2), .sh (eI x_1), .fr]) (sv_asg (ew_binL (EW.od (EW.mapE (e := (eT eI)) (ew_compVM (l := s_1) (e := (eT eI)) (r := fun x_2 => T.sh ((eT eI) (x_2 ++ [x_1]))) rfl rfl rfl (H2.1) (free_own (by rfl)) (fun x_2 hx => have H1 := (H2.2.1) x_2 hx; item1 (gw_n (s := .sh _) rfl) (ew_binL (EW.sh (EW.as (t' := .sh ((eT eI) [x_1])) (ew_tup (av_cons (EW.sh (ew_v rfl)) av_nil)) rfl)) rfl rfl (o_addT (e := eI) H1)) (by first | exact Le.refl _ | (repeat (first | exact trivial | exact rfl | apply And.intro))))))) rfl rfl (o_addL (e := (eT eI)) (H2.2.2))) (gw_n (s := .od (List.map (eT eI) found_2)) rfl)) rfl) (fun η k => ⟨.inl rfl, Le.sat (by first | exact Le.refl _ | (repeat (first | exact trivial | exact rfl | apply And.intro))) k⟩)))) rfl) (s_retV (t := T.lst (List.map T.sh (List.map (eT eI) m_1))) rfl (fun η k => rfl))))
def F__law_are_levels_s1 (levels : (List Int)) (x_2 : (Int × (List Int))) (s_2 : Unit) (x_3 : (Int × (List Int))) : (Lp Unit Bool) := (if ((List.all (List.map (fun x_4 => (memT x_4 x_3.2)) x_2.2) id) && (decide ((gx levels x_2.1) < (gx levels x_3.1)))) = true then ((.ret false)) else ((.nx ())))
def W__law_are_levels_s1 (levels : (List Int)) (x_2 : (Int × (List Int))) (s_2 : Unit) (x_3 : (Int × (List Int))) : Prop := (List.length x_2.2 < 16777216) ∧ ((List.all (List.map (fun x_4 => (memT x_4 x_3.2)) x_2.2) id) = true → (ixOk (List.length levels) x_3.1) ∧ (ixOk (List.length levels) x_2.1))
def F__law_are_levels_s2 (levels : (List Int)) (lots_1 : (List (List Int))) (s_1 : Unit) (x_2 : (Int × (List Int))) : (Lp Unit Bool) := let e_1 : (Except Bool Unit) := (foldL (F__law_are_levels_s1 levels x_2) () (enumI lots_1)); (exC e_1 (fun z_1 : Unit => (.nx ())) (fun r_1 : Bool => .ret r_1))
def W__law_are_levels_s2 (levels : (List Int)) (lots_1 : (List (List Int))) (s_1 : Unit) (x_2 : (Int × (List Int))) : Prop := let e_1 : (Except Bool Unit) := (foldL (F__law_are_levels_s1 levels x_2) () (enumI lots_1)); (WFoldL (F__law_are_levels_s1 levels x_2) (W__law_are_levels_s1 levels x_2) () (enumI lots_1))
def F__law_are_levels (n : Int) (m : Int) (levels : (List Int)) : Bool := (if ((!true) || (!(List.all (List.map (fun x_1 => ((F__law_is_int x_1) && ((decide ((0 : Int) ≤ x_1)) && decide (x_1 < m)))) levels) id))) = true then (false) else (let lots_1 : (List (List Int)) := (F__law_lots n); (if (!decide ((List.length levels : Int) = (List.length lots_1 : Int))) = true then (false) else (let e_2 : (Except Bool Unit) := (foldL (F__law_are_levels_s2 levels lots_1) () (enumI lots_1)); (exC e_2 (fun z_2 : Unit => true) (fun r_2 : Bool => r_2))))))
def W__law_are_levels (n : Int) (m : Int) (levels : (List Int)) : Prop := ((!true) = false → (List.length levels < 16777216)) ∧ (((!true) || (!(List.all (List.map (fun x_1 => ((F__law_is_int x_1) && ((decide ((0 : Int) ≤ x_1)) && decide (x_1 < m)))) levels) id))) = false → let lots_1 : (List (List Int)) := (F__law_lots n); (W__law_lots n) ∧ ((!decide ((List.length levels : Int) = (List.length lots_1 : Int))) = false → let e_2 : (Except Bool Unit) := (foldL (F__law_are_levels_s2 levels lots_1) () (enumI lots_1)); (WFoldL (F__law_are_levels_s2 levels lots_1) (W__law_are_levels_s2 levels lots_1) () (enumI lots_1))))
theorem W__law_are_levels_eq {n : Int} {m : Int} {levels : (List Int)} : W__law_are_levels n m levels = (((!true) = false → (List.length levels < 16777216)) ∧ (((!true) || (!(List.all (List.map (fun x_1 => ((F__law_is_int x_1) && ((decide ((0 : Int) ≤ x_1)) && decide (x_1 < m)))) levels) id))) = false → let lots_1 : (List (List Int)) := (F__law_lots n); (W__law_lots n) ∧ ((!decide ((List.length levels : Int) = (List.length lots_1 : Int))) = false → let e_2 : (Except Bool Unit) := (foldL (F__law_are_levels_s2 levels lots_1) () (enumI lots_1)); (WFoldL (F__law_are_levels_s2 levels lots_1) (W__law_are_levels_s2 levels lots_1) () (enumI lots_1))))) := rfl
theorem V__law_are_levels {n : Int} {m : Int} {levels : (List Int)} (H : W__law_are_levels n m levels) : G__law_are_levels [eI n, eI m, (eT eI) levels] = some (T.sh (eB (F__law_are_levels n m levels))) := by
  refine gp_ok rfl ?_
  show S B__law_are_levels [.sh (eI n), .sh (eI m), .sh ((eT eI) levels), .fr, .fr, .fr, .fr, .fr, .fr, .fr] _
  unfold B__law_are_levels
  exact (s_ifseq (fun (v : Bool) fl _ => fl = .ret (T.sh (eB v))) (bv_or (bv_not (bv_tru (EW.sh (ew_isV (b := true) rfl rfl)) rfl)) (fun hb => (have H4 := (H.1) hb; (bv_not (bv_tru (EW.sh (ew_call (av_cons (EW.od (EW.mapE (e := eB) (ew_compVM (l := levels) (e := eI) (r := fun x_1 => T.sh (eB ((F__law_is_int x_1) && ((decide ((0 : Int) ≤ x_1)) && decide (x_1 < m))))) rfl rfl rfl H4 (free_own (by rfl)) (fun x_1 hx => item1 (gw_n (s := .sh _) rfl) (ew_and (ew_def (av_cons (EW.sh (ew_v rfl)) av_nil) (V__law_is_int  trivial)) (fun hb => (ew_chain ew_c (ew_v rfl) (fun hb => (ew_v rfl)) (by first | exact Le.refl _ | (repeat (first | exact trivial | exact rfl | apply And.intro))))) (by first | exact Le.refl _ | (repeat (first | exact trivial | exact rfl | apply And.intro)))) (by first | exact Le.refl _ | (repeat (first | exact trivial | exact rfl | apply And.intro))))))) av_nil) o_all)) rfl)))) (by first | exact Le.refl _ | (repeat (first | exact trivial | exact rfl | apply And.intro)))) (fun hb => (s_stop (s_ret ew_c (fun η k => ⟨(by rintro ⟨⟩), rfl⟩)))) (fun hb => (have H15 := (H.2) hb; let lots_1 : (List (List Int)) := (F__law_lots n); (s_nilseq (s_seq (SV.cx (Γ2 := [.sh (eI n), .sh (eI m), .sh ((eT eI) levels), .fr, .od (List.map (eT eI) lots_1), .fr, .fr, .fr, .fr, .fr]) (sv_asg (ew_def (av_cons (EW.sh (ew_v rfl)) av_nil) (V__law_lots  (H15.1))) (gw_n (s := .od (List.map (eT eI) lots_1)) rfl)) rfl) (s_ifseq (fun (v : Bool) fl _ => fl = .ret (T.sh (eB v))) (bv_t (ew_bin (EW.sh (ew_callV rfl (o_lenT (e := eI)))) (EW.sh (ew_callV rfl (o_lenL (e := (eT eI))))) (o_ne (e := eI) cm_i))) (fun hb => (s_stop (s_ret ew_c (fun η k => ⟨(by rintro ⟨⟩), rfl⟩)))) (fun hb => (have H13 := (H15.2) hb; let e_2 : (Except Bool Unit) := (foldL (F__law_are_levels_s2 levels lots_1) () (enumI lots_1)); (s_nilseq (s_seqX (M := (fun (v : Bool) fl _ => fl = .ret (T.sh (eB v)))) (fun z_2 : Unit => true) (fun r_2 : Bool => r_2) (s_for (l := (enumI lots_1)) (e := (eP eI (eT eI))) (G := (fun s_1 : Unit => [.sh (eI n), .sh (eI m), .sh ((eT eI) levels), .fr, .sh ((eL (eT eI)) lots_1), .fr, .fr, .fr, .fr, .fr])) (s0 := ()) (step := (F__law_are_levels_s2 levels lots_1)) (W := (W__law_are_levels_s2 levels lots_1)) (R := (fun (v : Bool) _ t => t = T.sh (eB v))) (IV.as (iv_en (EW.sh (ew_v rfl)) rfl) (enumD_map (e := (eT eI)) _)) (by first | exact Le.refl _ | (repeat (first | exact trivial | exact rfl | apply And.intro))) H13 (fun s_1 x_2 H10 => let e_1 : (Except Bool Unit) := (foldL (F__law_are_levels_s1 levels x_2) () (enumI lots_1)); turn (gw_tup (gws_cons (gw_n (s := .sh _) rfl) (gws_cons (gw_n (s := .sh _) rfl) gws_nil)) rfl rfl) (s_endX (M := (LpP (fun _ : Unit => [.sh (eI n), .sh (eI m), .sh ((eT eI) levels), .fr, .sh ((eL (eT eI)) lots_1), .fr, .fr, .fr, .fr, .fr]) (fun (v : Bool) _ t => t = T.sh (eB v)))) (fun z_1 : Unit => (.nx ())) (fun r_1 : Bool => .ret r_1) (s_for (l := (enumI lots_1)) (e := (eP eI (eT eI))) (G := (fun s_2 : Unit => [.sh (eI n), .sh (eI m), .sh ((eT eI) levels), .fr, .sh ((eL (eT eI)) lots_1), .sh (eI x_2.1), .sh ((eT eI) x_2.2), .fr, .fr, .fr])) (s0 := ()) (step := (F__law_are_levels_s1 levels x_2)) (W := (W__law_are_levels_s1 levels x_2)) (R := (fun (v : Bool) _ t => t = T.sh (eB v))) (IV.as (iv_en (EW.sh (ew_v rfl)) rfl) (enumD_map (e := (eT eI)) _)) (by first | exact Le.refl _ | (repeat (first | exact trivial | exact rfl | apply And.intro))) H10 (fun s_2 x_3 H9 => turn (gw_tup (gws_cons (gw_n (s := .sh _) rfl) (gws_cons (gw_n (s := .sh _) rfl) gws_nil)) rfl rfl) (s_if (LpP (fun _ : Unit => [.sh (eI n), .sh (eI m), .sh ((eT eI) levels), .fr, .sh ((eL (eT eI)) lots_1), .sh (eI x_2.1), .sh ((eT eI) x_2.2), .fr, .fr, .fr]) (fun (v : Bool) _ t => t = T.sh (eB v))) (bv_and (bv_tru (EW.sh (ew_call (av_cons (EW.od (EW.mapE (e := eB) (ew_compVM (l := x_2.2) (e := eI) (r := fun x_4 => T.sh (eB (memT x_4 x_3.2))) rfl rfl rfl (H9.1) (free_own (by rfl)) (fun x_4 hx => item1 (gw_n (s := .sh _) rfl) (ew_binLR rfl rfl (o_inT (e := eI) cm_i)) (by first | exact Le.refl _ | (repeat (first | exact trivial | exact rfl | apply And.intro))))))) av_nil) o_all)) rfl) (fun hb => (have H6 := (H9.2) hb; (bv_t (ew_bin (EW.sh (ew_binLR rfl rfl (o_ixT (e := eI) (H6.1)))) (EW.sh (ew_binLR rfl rfl (o_ixT (e := eI) (H6.2)))) o_gtI)))) (by first | exact Le.refl _ | (repeat (first | exact trivial | exact rfl | apply And.intro)))) (fun hb => (s_ret ew_c (fun η k => ⟨_, rfl, rfl⟩))) (fun hb => (s_of sv_nil (fun η k => ⟨.inl rfl, Le.sat (by first | exact Le.refl _ | (repeat (first | exact trivial | exact rfl | apply And.intro))) k⟩)))))) (fun r η t h => ⟨t, rfl, h⟩) (fun z_1 => (fun η k => ⟨.inl rfl, Le.sat (by first | exact Le.refl _ | (repeat (first | exact trivial | exact rfl | apply And.intro))) k⟩))))) (fun r η t h => by rw [h]) (fun z_2 hs => (s_ret ew_c (fun η k => rfl)))))))))))))
def F__law_point (levels : (List Int)) (lots : (List (List Int))) (peaks : (List Int)) : Int := (minL (List.map (fun x_1 => (maxL ((List.map (fun x_2 => (gx peaks x_2)) x_1.1) ++ [x_1.2]))) (List.zip lots levels)))
def W__law_point (levels : (List Int)) (lots : (List (List Int))) (peaks : (List Int)) : Prop := (List.length (List.zip lots levels) < 16777216) ∧ (∀ x_1 ∈ (List.zip lots levels), (List.length x_1.1 < 16777216) ∧ (∀ x_2 ∈ x_1.1, (ixOk (List.length peaks) x_2)) ∧ (List.length (List.map (fun x_2 => (gx peaks x_2)) x_1.1) + List.length [x_1.2] ≤ 16777216) ∧ (((List.map (fun x_2 => (gx peaks x_2)) x_1.1) ++ [x_1.2]) ≠ [])) ∧ ((List.map (fun x_1 => (maxL ((List.map (fun x_2 => (gx peaks x_2)) x_1.1) ++ [x_1.2]))) (List.zip lots levels)) ≠ [])
theorem W__law_point_eq {levels : (List Int)} {lots : (List (List Int))} {peaks : (List Int)} : W__law_point levels lots peaks = ((List.length (List.zip lots levels) < 16777216) ∧ (∀ x_1 ∈ (List.zip lots levels), (List.length x_1.1 < 16777216) ∧ (∀ x_2 ∈ x_1.1, (ixOk (List.length peaks) x_2)) ∧ (List.length (List.map (fun x_2 => (gx peaks x_2)) x_1.1) + List.length [x_1.2] ≤ 16777216) ∧ (((List.map (fun x_2 => (gx peaks x_2)) x_1.1) ++ [x_1.2]) ≠ [])) ∧ ((List.map (fun x_1 => (maxL ((List.map (fun x_2 => (gx peaks x_2)) x_1.1) ++ [x_1.2]))) (List.zip lots levels)) ≠ [])) := rfl
theorem V__law_point {levels : (List Int)} {lots : (List (List Int))} {peaks : (List Int)} (H : W__law_point levels lots peaks) : G__law_point [(eT eI) levels, (eL (eT eI)) lots, (eT eI) peaks] = some (T.sh (eI (F__law_point levels lots peaks))) := by
  refine gp_ok rfl ?_
  show S B__law_point [.sh ((eT eI) levels), .sh ((eL (eT eI)) lots), .sh ((eT eI) peaks), .fr, .fr, .fr] _
  unfold B__law_point
  exact (s_ret (ew_call (av_cons (EW.od (EW.mapE (e := eI) (ew_compM (l := (List.zip lots levels)) (e := (eP (eT eI) eI)) (r := fun x_1 => T.sh (eI (maxL ((List.map (fun x_2 => (gx peaks x_2)) x_1.1) ++ [x_1.2])))) (IV.as (iv_z (EW.sh (ew_v rfl)) (EW.sh (ew_v rfl)) rfl rfl) (zipD_map (e := (eT eI)) (f := eI) _ _)) (H.1) (free_own (by rfl)) (fun x_1 hx => have H2 := (H.2.1) x_1 hx; item1 (gw_tup (gws_cons (gw_n (s := .sh _) rfl) (gws_cons (gw_n (s := .sh _) rfl) gws_nil)) rfl rfl) (ew_call (av_cons (EW.od (ew_bin (EW.od (EW.mapE (e := eI) (ew_compVM (l := x_1.1) (e := eI) (r := fun x_2 => T.sh (eI (gx peaks x_2))) rfl rfl rfl (H2.1) (free_own (by rfl)) (fun x_2 hx => have H1 := (H2.2.1) x_2 hx; item1 (gw_n (s := .sh _) rfl) (ew_binLR rfl rfl (o_ixT (e := eI) H1)) (by first | exact Le.refl _ | (repeat (first | exact trivial | exact rfl | apply And.intro))))))) (EW.od (EW.as (t' := .lst (List.map T.sh (List.map eI [x_1.2]))) (ew_lst (aw_cons (ew_v rfl) aw_nil)) rfl)) (o_addL (e := eI) (H2.2.2.1)))) av_nil) (o_maxLI (H2.2.2.2))) (by first | exact Le.refl _ | (repeat (first | exact trivial | exact rfl | apply And.intro))))))) av_nil) (o_minLI (H.2.2))) (fun η k => rfl))
def F__law_made (n : Int) (m : Int) (levels : (List Int)) : (Int × Int × (List Int)) := let lots_1 : (List (List Int)) := (F__law_lots n); (n, m, (List.map (fun x_1 => (F__law_point levels lots_1 x_1)) (F__law_tuples n m)))
def W__law_made (n : Int) (m : Int) (levels : (List Int)) : Prop := let lots_1 : (List (List Int)) := (F__law_lots n); (W__law_lots n) ∧ (W__law_tuples n m) ∧ (List.length (F__law_tuples n m) < 16777216) ∧ (∀ x_1 ∈ (F__law_tuples n m), (W__law_point levels lots_1 x_1))
theorem W__law_made_eq {n : Int} {m : Int} {levels : (List Int)} : W__law_made n m levels = (let lots_1 : (List (List Int)) := (F__law_lots n); (W__law_lots n) ∧ (W__law_tuples n m) ∧ (List.length (F__law_tuples n m) < 16777216) ∧ (∀ x_1 ∈ (F__law_tuples n m), (W__law_point levels lots_1 x_1))) := rfl
theorem V__law_made {n : Int} {m : Int} {levels : (List Int)} (H : W__law_made n m levels) : G__law_made [eI n, eI m, (eT eI) levels] = some (T.sh ((eP3 eI eI (eT eI)) (F__law_made n m levels))) := by
  refine gp_ok rfl ?_
  show S B__law_made [.sh (eI n), .sh (eI m), .sh ((eT eI) levels), .fr, .fr] _
  unfold B__law_made
  let lots_1 : (List (List Int)) := (F__law_lots n)
  exact (s_seq (SV.cx (Γ2 := [.sh (eI n), .sh (eI m), .sh ((eT eI) levels), .od (List.map (eT eI) lots_1), .fr]) (sv_asg (ew_def (av_cons (EW.sh (ew_v rfl)) av_nil) (V__law_lots  (H.1))) (gw_n (s := .od (List.map (eT eI) lots_1)) rfl)) rfl) (s_ret (EW.as (t' := .sh ((eP3 eI eI (eT eI)) (n, m, (List.map (fun x_1 => (F__law_point levels lots_1 x_1)) (F__law_tuples n m))))) (ew_tup (av_cons (EW.sh (ew_v rfl)) (av_cons (EW.sh (ew_v rfl)) (av_cons (EW.sh (ew_call (av_cons (EW.od (EW.weak (Γ2 := [.sh (eI n), .sh (eI m), .sh ((eT eI) levels), .pk ((eL (eT eI)) lots_1), .fr]) (by first | exact Le.refl _ | (repeat (first | exact trivial | exact rfl | apply And.intro))) (EW.mapE (e := eI) (ew_compM (l := (F__law_tuples n m)) (e := (eT eI)) (r := fun x_1 => T.sh (eI (F__law_point levels lots_1 x_1))) (iv_e (ed_def (av_cons (EW.sh (ew_v rfl)) (av_cons (EW.sh (ew_v rfl)) av_nil)) (V__law_tuples  (H.2.1))) rfl) (H.2.2.1) (free_own (by rfl)) (fun x_1 hx => have H1 := (H.2.2.2) x_1 hx; item1 (gw_n (s := .sh _) rfl) (ew_def (av_cons (EW.sh (ew_v rfl)) (av_cons (EW.sh (ew_v rfl)) (av_cons (EW.sh (ew_v rfl)) av_nil))) (V__law_point  H1)) (by first | exact Le.refl _ | (repeat (first | exact trivial | exact rfl | apply And.intro)))))))) av_nil) (o_tupL (e := eI)))) av_nil)))) rfl) (fun η k => rfl)))
def F__law_own_levels_s1 (p_1 : (Int × Int × (List Int))) (told_1 : (List (List Int × Int))) (s_1 : ((List Int))) (x_2 : (List Int)) : ((List Int)) := let found_2 : (List Int) := (s_1 ++ [(gM told_1 (List.map (fun x_3 => (if (memT x_3 x_2) = true then (0 : Int) else (p_1.2.1 - (1 : Int)))) (rgI 0 p_1.1)))]); found_2
def W__law_own_levels_s1 (p_1 : (Int × Int × (List Int))) (told_1 : (List (List Int × Int))) (s_1 : ((List Int))) (x_2 : (List Int)) : Prop := let found_2 : (List Int) := (s_1 ++ [(gM told_1 (List.map (fun x_3 => (if (memT x_3 x_2) = true then (0 : Int) else (p_1.2.1 - (1 : Int)))) (rgI 0 p_1.1)))]); (rg62 p_1.1 = true) ∧ (List.length (rgI 0 p_1.1) < 16777216) ∧ ((List.map (fun x_3 => (if (memT x_3 x_2) = true then (0 : Int) else (p_1.2.1 - (1 : Int)))) (rgI 0 p_1.1)) ∈ List.map (fun p => p.1) told_1) ∧ (List.length s_1 < 16777216)
def F__law_own_levels (rule : (Int × Int × (List Int))) : (Option (List Int)) := let p_1 : (Int × Int × (List Int)) := rule; let told_1 : (List (List Int × Int)) := (List.map (fun x_1 => (x_1.1, x_1.2)) (List.zip (F__law_tuples p_1.1 p_1.2.1) p_1.2.2)); let found_1 : (List Int) := ([] : List Int); let m_1 : ((List Int)) := List.foldl (F__law_own_levels_s1 p_1 told_1) found_1 (F__law_lots p_1.1); let levels_1 : (List Int) := m_1; (if ((F__law_are_levels p_1.1 p_1.2.1 levels_1) && (decide ((F__law_made p_1.1 p_1.2.1 levels_1) = rule))) = true then (some levels_1) else (none : (Option (List Int))))
def W__law_own_levels (rule : (Int × Int × (List Int))) : Prop := let p_1 : (Int × Int × (List Int)) := rule; let told_1 : (List (List Int × Int)) := (List.map (fun x_1 => (x_1.1, x_1.2)) (List.zip (F__law_tuples p_1.1 p_1.2.1) p_1.2.2)); let found_1 : (List Int) := ([] : List Int); let m_1 : ((List Int)) := List.foldl (F__law_own_levels_s1 p_1 told_1) found_1 (F__law_lots p_1.1); let levels_1 : (List Int) := m_1; (W__law_tuples p_1.1 p_1.2.1) ∧ (List.length (List.zip (F__law_tuples p_1.1 p_1.2.1) p_1.2.2) < 16777216) ∧ (dOk (List.map (fun x_1 => (x_1.1, x_1.2)) (List.zip (F__law_tuples p_1.1 p_1.2.1) p_1.2.2))) ∧ (W__law_lots p_1.1) ∧ (WFold (F__law_own_levels_s1 p_1 told_1) (W__law_own_levels_s1 p_1 told_1) found_1 (F__law_lots p_1.1)) ∧ (W__law_are_levels p_1.1 p_1.2.1 levels_1) ∧ ((F__law_are_levels p_1.1 p_1.2.1 levels_1) = true → (W__law_made p_1.1 p_1.2.1 levels_1))
theorem W__law_own_levels_eq {rule : (Int × Int × (List Int))} : W__law_own_levels rule = (let p_1 : (Int × Int × (List Int)) := rule; let told_1 : (List (List Int × Int)) := (List.map (fun x_1 => (x_1.1, x_1.2)) (List.zip (F__law_tuples p_1.1 p_1.2.1) p_1.2.2)); let found_1 : (List Int) := ([] : List Int); let m_1 : ((List Int)) := List.foldl (F__law_own_levels_s1 p_1 told_1) found_1 (F__law_lots p_1.1); let levels_1 : (List Int) := m_1; (W__law_tuples p_1.1 p_1.2.1) ∧ (List.length (List.zip (F__law_tuples p_1.1 p_1.2.1) p_1.2.2) < 16777216) ∧ (dOk (List.map (fun x_1 => (x_1.1, x_1.2)) (List.zip (F__law_tuples p_1.1 p_1.2.1) p_1.2.2))) ∧ (W__law_lots p_1.1) ∧ (WFold (F__law_own_levels_s1 p_1 told_1) (W__law_own_levels_s1 p_1 told_1) found_1 (F__law_lots p_1.1)) ∧ (W__law_are_levels p_1.1 p_1.2.1 levels_1) ∧ ((F__law_are_levels p_1.1 p_1.2.1 levels_1) = true → (W__law_made p_1.1 p_1.2.1 levels_1))) := rfl
theorem V__law_own_levels {rule : (Int × Int × (List Int))} (H : W__law_own_levels rule) : G__law_own_levels [(eP3 eI eI (eT eI)) rule] = some (T.sh ((eO (eT eI)) (F__law_own_levels rule))) := by
  refine gp_ok rfl ?_
  show S B__law_own_levels [.sh ((eP3 eI eI (eT eI)) rule), .fr, .fr, .fr, .fr, .fr, .fr, .fr, .fr, .fr, .fr] _
  unfold B__law_own_levels
  let p_1 : (Int × Int × (List Int)) := rule
  let told_1 : (List (List Int × Int)) := (List.map (fun x_1 => (x_1.1, x_1.2)) (List.zip (F__law_tuples p_1.1 p_1.2.1) p_1.2.2))
  let found_1 : (List Int) := ([] : List Int)
  let m_1 : ((List Int)) := List.foldl (F__law_own_levels_s1 p_1 told_1) found_1 (F__law_lots p_1.1)
  let levels_1 : (List Int) := m_1
  exact (s_seq (SV.cx (Γ2 := [.sh ((eP3 eI eI (eT eI)) rule), .sh (eI p_1.1), .sh (eI p_1.2.1), .sh ((eT eI) p_1.2.2), .fr, .fr, .fr, .fr, .fr, .fr, .fr]) (sv_asg (ew_v rfl) (gw_tup (gws_cons (gw_n (s := .sh _) rfl) (gws_cons (gw_n (s := .sh _) rfl) (gws_cons (gw_n (s := .sh _) rfl) gws_nil))) rfl rfl)) rfl) (s_seq (SV.cx (Γ2 := [.sh ((eP3 eI eI (eT eI)) rule), .sh (eI p_1.1), .sh (eI p_1.2.1), .sh ((eT eI) p_1.2.2), .sh ((eM eI) told_1), .od (List.map eI found_1), .fr, .fr, .fr, .fr, .fr]) (sv_par (s1 := .sh ((eM eI) told_1)) (s2 := .od (List.map eI found_1)) (aw_cons (ew_call (av_cons (EW.od (EW.mapE (e := (eP (eT eI) eI)) (ew_compM (l := (List.zip (F__law_tuples p_1.1 p_1.2.1) p_1.2.2)) (e := (eP (eT eI) eI)) (r := fun x_1 => T.sh ((eP (eT eI) eI) (x_1.1, x_1.2))) (IV.as (iv_z (ed_def (av_cons (EW.sh (ew_v rfl)) (av_cons (EW.sh (ew_v rfl)) av_nil)) (V__law_tuples  (H.1))) (EW.sh (ew_v rfl)) rfl rfl) (zipD_map (e := (eT eI)) (f := eI) _ _)) (H.2.1) (free_own (by rfl)) (fun x_1 hx => item1 (gw_tup (gws_cons (gw_n (s := .sh _) rfl) (gws_cons (gw_n (s := .sh _) rfl) gws_nil)) rfl rfl) (EW.as (t' := .sh ((eP (eT eI) eI) (x_1.1, x_1.2))) (ew_tup (av_cons (EW.sh (ew_v rfl)) (av_cons (EW.sh (ew_v rfl)) av_nil))) rfl) (by first | exact Le.refl _ | (repeat (first | exact trivial | exact rfl | apply And.intro))))))) av_nil) (o_dictL (e := eI) (H.2.2.1))) (aw_cons (EW.as (t' := .lst (List.map T.sh (List.map eI ([] : List Int)))) (ew_lst aw_nil) rfl) aw_nil)) rfl rfl) rfl) (s_seq (SV.cx (Γ2 := [.sh ((eP3 eI eI (eT eI)) rule), .sh (eI p_1.1), .sh (eI p_1.2.1), .sh ((eT eI) p_1.2.2), .sh ((eM eI) told_1), .od (List.map eI m_1), .fr, .fr, .fr, .fr, .fr]) (sv_for (l := (F__law_lots p_1.1)) (e := (eT eI)) (G := (fun s_1 : ((List Int)) => [.sh ((eP3 eI eI (eT eI)) rule), .sh (eI p_1.1), .sh (eI p_1.2.1), .sh ((eT eI) p_1.2.2), .sh ((eM eI) told_1), .od (List.map eI s_1), .fr, .fr, .fr, .fr, .fr])) (s0 := found_1) (step := (F__law_own_levels_s1 p_1 told_1)) (W := (W__law_own_levels_s1 p_1 told_1)) (iv_e (EW.od (ew_def (av_cons (EW.sh (ew_v rfl)) av_nil) (V__law_lots  (H.2.2.2.1)))) rfl) (by first | exact Le.refl _ | (repeat (first | exact trivial | exact rfl | apply And.intro))) (H.2.2.2.2.1) (fun s_1 x_2 H5 => let found_2 : (List Int) := (s_1 ++ [(gM told_1 (List.map (fun x_3 => (if (memT x_3 x_2) = true then (0 : Int) else (p_1.2.1 - (1 : Int)))) (rgI 0 p_1.1)))]); turn (gw_n (s := .sh _) rfl) (s_of (SV.cx (Γ2 := [.sh ((eP3 eI eI (eT eI)) rule), .sh (eI p_1.1), .sh (eI p_1.2.1), .sh ((eT eI) p_1.2.2), .sh ((eM eI) told_1), .od (List.map eI found_2), .fr, .fr, .sh ((eT eI) x_2), .fr, .fr]) (sv_expr (ew_mt1 (s := .od (List.map eI (s_1 ++ [(gM told_1 (List.map (fun x_3 => (if (memT x_3 x_2) = true then (0 : Int) else (p_1.2.1 - (1 : Int)))) (rgI 0 p_1.1)))]))) rfl (ew_binL (EW.sh (ew_call (av_cons (EW.od (EW.mapE (e := eI) (ew_compM (l := (rgI 0 p_1.1)) (e := eI) (r := fun x_3 => T.sh (eI (if (memT x_3 x_2) = true then (0 : Int) else (p_1.2.1 - (1 : Int))))) (IV.as (iv_r1 (ew_v rfl) (H5.1)) (rgD_map _ _)) (H5.2.1) (free_own (by rfl)) (fun x_3 hx => item1 (gw_n (s := .sh _) rfl) (ew_if (v1 := (0 : Int)) (v2 := (p_1.2.1 - (1 : Int))) (fun v => T.sh (eI v)) (bv_t (ew_binLR rfl rfl (o_inT (e := eI) cm_i))) (fun hb => ew_c) (fun hb => (ew_binL (EW.sh ew_c) rfl rfl o_subI)) (by first | exact Le.refl _ | (repeat (first | exact trivial | exact rfl | apply And.intro))) (by first | exact Le.refl _ | (repeat (first | exact trivial | exact rfl | apply And.intro)))) (by first | exact Le.refl _ | (repeat (first | exact trivial | exact rfl | apply And.intro))))))) av_nil) (o_tupL (e := eI)))) rfl rfl (o_ixM (e := eI) (H5.2.2.1))) rfl (mAppend_map (e := eI) (v := (gM told_1 (List.map (fun x_3 => (if (memT x_3 x_2) = true then (0 : Int) else (p_1.2.1 - (1 : Int)))) (rgI 0 p_1.1)))) (H5.2.2.2)) rfl)) rfl) (fun η k => ⟨.inl rfl, Le.sat (by first | exact Le.refl _ | (repeat (first | exact trivial | exact rfl | apply And.intro))) k⟩)))) rfl) (s_seq (SV.cx (Γ2 := [.sh ((eP3 eI eI (eT eI)) rule), .sh (eI p_1.1), .sh (eI p_1.2.1), .sh ((eT eI) p_1.2.2), .sh ((eM eI) told_1), .od (List.map eI m_1), .fr, .fr, .fr, .fr, .sh ((eT eI) levels_1)]) (sv_asg (ew_callV rfl (o_tupL (e := eI))) (gw_n (s := .sh ((eT eI) levels_1)) rfl)) rfl) (s_ret (ew_if (v1 := (some levels_1)) (v2 := (none : (Option (List Int)))) (fun v => T.sh ((eO (eT eI)) v)) (bv_and (bv_tru (EW.sh (ew_def (av_cons (EW.sh (ew_v rfl)) (av_cons (EW.sh (ew_v rfl)) (av_cons (EW.sh (ew_v rfl)) av_nil))) (V__law_are_levels  (H.2.2.2.2.2.1)))) rfl) (fun hb => (have H6 := (H.2.2.2.2.2.2) hb; (bv_t (ew_binR (EW.sh (ew_def (av_cons (EW.sh (ew_v rfl)) (av_cons (EW.sh (ew_v rfl)) (av_cons (EW.sh (ew_v rfl)) av_nil))) (V__law_made  H6))) rfl (o_eq (e := (eP3 eI eI (eT eI))) (cm_p3 cm_i cm_i (cm_t cm_i))))))) (by first | exact Le.refl _ | (repeat (first | exact trivial | exact rfl | apply And.intro)))) (fun hb => (ew_v rfl)) (fun hb => ew_c) (by first | exact Le.refl _ | (repeat (first | exact trivial | exact rfl | apply And.intro))) (by first | exact Le.refl _ | (repeat (first | exact trivial | exact rfl | apply And.intro)))) (fun η k => rfl))))))
def F__law_number (lot : (List Int)) (gone : Int) : Int := (List.sum (List.map (fun x_1 => (gx [(1 : Int), (2 : Int), (4 : Int), (8 : Int)] x_1)) (List.filter (fun x_1 => (!decide (x_1 = gone))) lot)))
def W__law_number (lot : (List Int)) (gone : Int) : Prop := (List.length lot < 16777216) ∧ (∀ x_1 ∈ lot, ((!decide (x_1 = gone)) = true → (ixOk (List.length [(1 : Int), (2 : Int), (4 : Int), (8 : Int)]) x_1)))
theorem W__law_number_eq {lot : (List Int)} {gone : Int} : W__law_number lot gone = ((List.length lot < 16777216) ∧ (∀ x_1 ∈ lot, ((!decide (x_1 = gone)) = true → (ixOk (List.length [(1 : Int), (2 : Int), (4 : Int), (8 : Int)]) x_1)))) := rfl
theorem V__law_number {lot : (List Int)} {gone : Int} (H : W__law_number lot gone) : G__law_number [(eT eI) lot, eI gone] = some (T.sh (eI (F__law_number lot gone))) := by
  refine gp_ok rfl ?_
  show S B__law_number [.sh ((eT eI) lot), .sh (eI gone), .fr] _
  unfold B__law_number
  exact (s_ret (ew_call (av_cons (EW.od (EW.mapE (e := eI) (ew_compV (l := lot) (e := eI) (c := fun x_1 => (!decide (x_1 = gone))) (r := fun x_1 => T.sh (eI (gx [(1 : Int), (2 : Int), (4 : Int), (8 : Int)] x_1))) rfl rfl rfl (H.1) (free_own (by rfl)) (fun x_1 hx => have H1 := (H.2) x_1 hx; item (gw_n (s := .sh _) rfl) (bv_t (ew_binLR rfl rfl (o_ne (e := eI) cm_i))) (fun _ => (by first | exact Le.refl _ | (repeat (first | exact trivial | exact rfl | apply And.intro)))) (fun hb => (have H2 := H1 hb; (ew_binR (EW.od (EW.as (t' := .lst (List.map T.sh (List.map eI [(1 : Int), (2 : Int), (4 : Int), (8 : Int)]))) (ew_lst (aw_cons ew_c (aw_cons ew_c (aw_cons ew_c (aw_cons ew_c aw_nil))))) rfl)) rfl (o_ixL (e := eI) H2)))) (by first | exact Le.refl _ | (repeat (first | exact trivial | exact rfl | apply And.intro))))))) av_nil) o_sum) (fun η k => rfl))
def F__law_levels_s1 (m : Int) (s_1 : (T × (List Int))) (x_1 : (List Int)) : (T × (List Int)) := let tops_1 : (List Int) := ((List.map (fun x_2 => (gx s_1.2 (F__law_number x_1 x_2))) x_1) ++ [(m - (1 : Int))]); let r_1 : (Int × T) := F__law_draw s_1.1 ((1 : Int) + (minL tops_1)); let found_2 : (List Int) := (s_1.2 ++ [r_1.1]); (r_1.2, found_2)
def W__law_levels_s1 (m : Int) (s_1 : (T × (List Int))) (x_1 : (List Int)) : Prop := let tops_1 : (List Int) := ((List.map (fun x_2 => (gx s_1.2 (F__law_number x_1 x_2))) x_1) ++ [(m - (1 : Int))]); let r_1 : (Int × T) := F__law_draw s_1.1 ((1 : Int) + (minL tops_1)); let found_2 : (List Int) := (s_1.2 ++ [r_1.1]); (List.length x_1 < 16777216) ∧ (∀ x_2 ∈ x_1, (W__law_number x_1 x_2) ∧ (ixOk (List.length s_1.2) (F__law_number x_1 x_2))) ∧ (List.length (List.map (fun x_2 => (gx s_1.2 (F__law_number x_1 x_2))) x_1) + List.length [(m - (1 : Int))] ≤ 16777216) ∧ (tops_1 ≠ []) ∧ (W__law_draw s_1.1 ((1 : Int) + (minL tops_1))) ∧ (List.length s_1.2 < 16777216)
def F__law_levels (hand : T) (n : Int) (m : Int) : (List Int) × T := let found_1 : (List Int) := ([] : List Int); let m_1 : (T × (List Int)) := List.foldl (F__law_levels_s1 m) (hand, found_1) (F__law_lots n); (m_1.2, m_1.1)
def W__law_levels (hand : T) (n : Int) (m : Int) : Prop := let found_1 : (List Int) := ([] : List Int); let m_1 : (T × (List Int)) := List.foldl (F__law_levels_s1 m) (hand, found_1) (F__law_lots n); (W__law_lots n) ∧ (WFold (F__law_levels_s1 m) (W__law_levels_s1 m) (hand, found_1) (F__law_lots n))
theorem W__law_levels_eq {hand : T} {n : Int} {m : Int} : W__law_levels hand n m = (let found_1 : (List Int) := ([] : List Int); let m_1 : (T × (List Int)) := List.foldl (F__law_levels_s1 m) (hand, found_1) (F__law_lots n); (W__law_lots n) ∧ (WFold (F__law_levels_s1 m) (W__law_levels_s1 m) (hand, found_1) (F__law_lots n))) := rfl
theorem V__law_levels {hand : T} {n : Int} {m : Int} (H : W__law_levels hand n m) : G__law_levels hand [eI n, eI m] = some (T.sh ((eT eI) (F__law_levels hand n m).1), (F__law_levels hand n m).2) := by
  refine gio_ok rfl ?_
  show S B__law_levels [.ow hand, .sh (eI n), .sh (eI m), .fr, .fr, .fr, .fr] _
  unfold B__law_levels
  let found_1 : (List Int) := ([] : List Int)
  let m_1 : (T × (List Int)) := List.foldl (F__law_levels_s1 m) (hand, found_1) (F__law_lots n)
  exact (s_seq (SV.cx (Γ2 := [.ow hand, .sh (eI n), .sh (eI m), .od (List.map eI found_1), .fr, .fr, .fr]) (sv_asg (EW.as (t' := .lst (List.map T.sh (List.map eI ([] : List Int)))) (ew_lst aw_nil) rfl) (gw_n (s := .od (List.map eI found_1)) rfl)) rfl) (s_seq (SV.cx (Γ2 := [.ow m_1.1, .sh (eI n), .sh (eI m), .od (List.map eI m_1.2), .fr, .any, .fr]) (sv_for (l := (F__law_lots n)) (e := (eT eI)) (G := (fun s_1 : (T × (List Int)) => [.ow s_1.1, .sh (eI n), .sh (eI m), .od (List.map eI s_1.2), .fr, .any, .fr])) (s0 := (hand, found_1)) (step := (F__law_levels_s1 m)) (W := (W__law_levels_s1 m)) (iv_e (EW.od (ew_def (av_cons (EW.sh (ew_v rfl)) av_nil) (V__law_lots  (H.1)))) rfl) (by first | exact Le.refl _ | (repeat (first | exact trivial | exact rfl | apply And.intro))) (H.2) (fun s_1 x_1 H2 => let tops_1 : (List Int) := ((List.map (fun x_2 => (gx s_1.2 (F__law_number x_1 x_2))) x_1) ++ [(m - (1 : Int))]); let r_1 : (Int × T) := F__law_draw s_1.1 ((1 : Int) + (minL tops_1)); let found_2 : (List Int) := (s_1.2 ++ [r_1.1]); turn (gw_n (s := .sh _) rfl) (s_of (sv_seq (SV.cx (Γ2 := [.ow s_1.1, .sh (eI n), .sh (eI m), .od (List.map eI s_1.2), .sh ((eT eI) x_1), .od (List.map eI tops_1), .fr]) (sv_asg (ew_bin (EW.od (EW.mapE (e := eI) (ew_compVM (l := x_1) (e := eI) (r := fun x_2 => T.sh (eI (gx s_1.2 (F__law_number x_1 x_2)))) rfl rfl rfl (H2.1) (free_own (by rfl)) (fun x_2 hx => have H1 := (H2.2.1) x_2 hx; item1 (gw_n (s := .sh _) rfl) (ew_binL (EW.sh (ew_def (av_cons (EW.sh (ew_v rfl)) (av_cons (EW.sh (ew_v rfl)) av_nil)) (V__law_number  (H1.1)))) rfl rfl (o_ixL (e := eI) (H1.2))) (by first | exact Le.refl _ | (repeat (first | exact trivial | exact rfl | apply And.intro))))))) (EW.od (EW.as (t' := .lst (List.map T.sh (List.map eI [(m - (1 : Int))]))) (ew_lst (aw_cons (ew_binL (EW.sh ew_c) rfl rfl o_subI) aw_nil)) rfl)) (o_addL (e := eI) (H2.2.2.1))) (gw_n (s := .od (List.map eI tops_1)) rfl)) rfl) (SV.cx (Γ2 := [.ow r_1.2, .sh (eI n), .sh (eI m), .od (List.map eI found_2), .sh ((eT eI) x_1), .od (List.map eI tops_1), .fr]) (sv_expr (ew_mt1 (s := .od (List.map eI (s_1.2 ++ [r_1.1]))) rfl (ew_defIO (av_cons (EW.sh (ew_bin (EW.sh ew_c) (EW.sh (ew_callV rfl (o_minLI (H2.2.2.2.1)))) o_addI)) av_nil) rfl rfl (V__law_draw  (H2.2.2.2.2.1))) rfl (mAppend_map (e := eI) (v := r_1.1) (H2.2.2.2.2.2)) rfl)) rfl)) (fun η k => ⟨.inl rfl, Le.sat (by first | exact Le.refl _ | (repeat (first | exact trivial | exact rfl | apply And.intro))) k⟩)))) rfl) (s_ret (ew_callV rfl (o_tupL (e := eI))) (fun η k => ⟨rfl, tk_get k (i := 0) rfl⟩))))
def F__law_rule (hand : T) : (Int × Int × (List Int)) × T := let r_1 : (Int × T) := F__law_draw hand (3 : Int); let n_1 : Int := ((1 : Int) + r_1.1); let r_2 : (Int × T) := F__law_draw r_1.2 (if (decide (n_1 = (1 : Int))) = true then (5 : Int) else (if (decide (n_1 = (2 : Int))) = true then (3 : Int) else (2 : Int))); let m_1 : Int := ((2 : Int) + r_2.1); let r_3 : ((List Int) × T) := F__law_levels r_2.2 n_1 m_1; let r_4 : (Int × T) := F__law_draw r_3.2 (5 : Int); let rule_1 : (Int × Int × (List Int)) := (F__law_made n_1 m_1 r_3.1); let way_1 : Int := r_4.1; (if (decide (way_1 < (3 : Int))) = true then ((rule_1, r_4.2)) else (let points_1 : (List Int) := rule_1.2.2; (if (decide (way_1 = (3 : Int))) = true then (let r_5 : (Int × T) := F__law_draw r_4.2 m_1; let r_6 : (Int × T) := F__law_draw r_5.2 (List.length points_1 : Int); let points_2 : (List Int) := setI points_1 r_6.1 r_5.1; ((n_1, m_1, points_2), r_6.2)) else (let m_2 : (List Int × T) := mapS (fun (s_1 : T) (x_1 : Int) => (let r_7 : (Int × T) := F__law_draw s_1 m_1; (r_7.1, r_7.2) : Int × T)) r_4.2 points_1; ((n_1, m_1, m_2.1), m_2.2)))))
def W__law_rule (hand : T) : Prop := let r_1 : (Int × T) := F__law_draw hand (3 : Int); let n_1 : Int := ((1 : Int) + r_1.1); let r_2 : (Int × T) := F__law_draw r_1.2 (if (decide (n_1 = (1 : Int))) = true then (5 : Int) else (if (decide (n_1 = (2 : Int))) = true then (3 : Int) else (2 : Int))); let m_1 : Int := ((2 : Int) + r_2.1); let r_3 : ((List Int) × T) := F__law_levels r_2.2 n_1 m_1; let r_4 : (Int × T) := F__law_draw r_3.2 (5 : Int); let rule_1 : (Int × Int × (List Int)) := (F__law_made n_1 m_1 r_3.1); let way_1 : Int := r_4.1; (W__law_draw hand (3 : Int)) ∧ (W__law_draw r_1.2 (if (decide (n_1 = (1 : Int))) = true then (5 : Int) else (if (decide (n_1 = (2 : Int))) = true then (3 : Int) else (2 : Int)))) ∧ (W__law_levels r_2.2 n_1 m_1) ∧ (W__law_made n_1 m_1 r_3.1) ∧ (W__law_draw r_3.2 (5 : Int)) ∧ ((decide (way_1 < (3 : Int))) = false → let points_1 : (List Int) := rule_1.2.2; ((decide (way_1 = (3 : Int))) = true → let r_5 : (Int × T) := F__law_draw r_4.2 m_1; let r_6 : (Int × T) := F__law_draw r_5.2 (List.length points_1 : Int); let points_2 : (List Int) := setI points_1 r_6.1 r_5.1; (W__law_draw r_4.2 m_1) ∧ (W__law_draw r_5.2 (List.length points_1 : Int)) ∧ (ixOk (List.length points_1) r_6.1)) ∧ ((decide (way_1 = (3 : Int))) = false → let m_2 : (List Int × T) := mapS (fun (s_1 : T) (x_1 : Int) => (let r_7 : (Int × T) := F__law_draw s_1 m_1; (r_7.1, r_7.2) : Int × T)) r_4.2 points_1; (List.length points_1 < 16777216) ∧ (WMapS (fun (s_1 : T) (x_1 : Int) => (let r_7 : (Int × T) := F__law_draw s_1 m_1; (r_7.1, r_7.2) : Int × T)) (fun (s_1 : T) (x_1 : Int) => let r_7 : (Int × T) := F__law_draw s_1 m_1; (W__law_draw s_1 m_1)) r_4.2 points_1)))
theorem W__law_rule_eq {hand : T} : W__law_rule hand = (let r_1 : (Int × T) := F__law_draw hand (3 : Int); let n_1 : Int := ((1 : Int) + r_1.1); let r_2 : (Int × T) := F__law_draw r_1.2 (if (decide (n_1 = (1 : Int))) = true then (5 : Int) else (if (decide (n_1 = (2 : Int))) = true then (3 : Int) else (2 : Int))); let m_1 : Int := ((2 : Int) + r_2.1); let r_3 : ((List Int) × T) := F__law_levels r_2.2 n_1 m_1; let r_4 : (Int × T) := F__law_draw r_3.2 (5 : Int); let rule_1 : (Int × Int × (List Int)) := (F__law_made n_1 m_1 r_3.1); let way_1 : Int := r_4.1; (W__law_draw hand (3 : Int)) ∧ (W__law_draw r_1.2 (if (decide (n_1 = (1 : Int))) = true then (5 : Int) else (if (decide (n_1 = (2 : Int))) = true then (3 : Int) else (2 : Int)))) ∧ (W__law_levels r_2.2 n_1 m_1) ∧ (W__law_made n_1 m_1 r_3.1) ∧ (W__law_draw r_3.2 (5 : Int)) ∧ ((decide (way_1 < (3 : Int))) = false → let points_1 : (List Int) := rule_1.2.2; ((decide (way_1 = (3 : Int))) = true → let r_5 : (Int × T) := F__law_draw r_4.2 m_1; let r_6 : (Int × T) := F__law_draw r_5.2 (List.length points_1 : Int); let points_2 : (List Int) := setI points_1 r_6.1 r_5.1; (W__law_draw r_4.2 m_1) ∧ (W__law_draw r_5.2 (List.length points_1 : Int)) ∧ (ixOk (List.length points_1) r_6.1)) ∧ ((decide (way_1 = (3 : Int))) = false → let m_2 : (List Int × T) := mapS (fun (s_1 : T) (x_1 : Int) => (let r_7 : (Int × T) := F__law_draw s_1 m_1; (r_7.1, r_7.2) : Int × T)) r_4.2 points_1; (List.length points_1 < 16777216) ∧ (WMapS (fun (s_1 : T) (x_1 : Int) => (let r_7 : (Int × T) := F__law_draw s_1 m_1; (r_7.1, r_7.2) : Int × T)) (fun (s_1 : T) (x_1 : Int) => let r_7 : (Int × T) := F__law_draw s_1 m_1; (W__law_draw s_1 m_1)) r_4.2 points_1)))) := rfl
theorem V__law_rule {hand : T} (H : W__law_rule hand) : G__law_rule hand [] = some (T.sh ((eP3 eI eI (eT eI)) (F__law_rule hand).1), (F__law_rule hand).2) := by
  refine gio_ok rfl ?_
  show S B__law_rule [.ow hand, .fr, .fr, .fr, .fr, .fr, .fr] _
  unfold B__law_rule
  let r_1 : (Int × T) := F__law_draw hand (3 : Int)
  let n_1 : Int := ((1 : Int) + r_1.1)
  let r_2 : (Int × T) := F__law_draw r_1.2 (if (decide (n_1 = (1 : Int))) = true then (5 : Int) else (if (decide (n_1 = (2 : Int))) = true then (3 : Int) else (2 : Int)))
  let m_1 : Int := ((2 : Int) + r_2.1)
  let r_3 : ((List Int) × T) := F__law_levels r_2.2 n_1 m_1
  let r_4 : (Int × T) := F__law_draw r_3.2 (5 : Int)
  let rule_1 : (Int × Int × (List Int)) := (F__law_made n_1 m_1 r_3.1)
  let way_1 : Int := r_4.1
  exact (s_seq (SV.cx (Γ2 := [.ow r_1.2, .sh (eI n_1), .fr, .fr, .fr, .fr, .fr]) (sv_asg (ew_bin (EW.sh ew_c) (EW.sh (ew_defIO (av_cons (EW.sh ew_c) av_nil) rfl rfl (V__law_draw  (H.1)))) o_addI) (gw_n (s := .sh (eI n_1)) rfl)) rfl) (s_seq (SV.cx (Γ2 := [.ow r_2.2, .sh (eI n_1), .sh (eI m_1), .fr, .fr, .fr, .fr]) (sv_asg (ew_bin (EW.sh ew_c) (EW.sh (ew_defIO (av_cons (EW.sh (ew_if (v1 := (5 : Int)) (v2 := (if (decide (n_1 = (2 : Int))) = true then (3 : Int) else (2 : Int))) (fun v => T.sh (eI v)) (bv_t (ew_binL (EW.sh ew_c) rfl rfl (o_eq (e := eI) cm_i))) (fun hb => ew_c) (fun hb => (ew_if (v1 := (3 : Int)) (v2 := (2 : Int)) (fun v => T.sh (eI v)) (bv_t (ew_binL (EW.sh ew_c) rfl rfl (o_eq (e := eI) cm_i))) (fun hb => ew_c) (fun hb => ew_c) (by first | exact Le.refl _ | (repeat (first | exact trivial | exact rfl | apply And.intro))) (by first | exact Le.refl _ | (repeat (first | exact trivial | exact rfl | apply And.intro))))) (by first | exact Le.refl _ | (repeat (first | exact trivial | exact rfl | apply And.intro))) (by first | exact Le.refl _ | (repeat (first | exact trivial | exact rfl | apply And.intro))))) av_nil) rfl rfl (V__law_draw  (H.2.1)))) o_addI) (gw_n (s := .sh (eI m_1)) rfl)) rfl) (s_seq (SV.cx (Γ2 := [.ow r_4.2, .sh (eI n_1), .sh (eI m_1), .sh ((eP3 eI eI (eT eI)) rule_1), .sh (eI way_1), .fr, .fr]) (sv_par (s1 := .sh ((eP3 eI eI (eT eI)) rule_1)) (s2 := .sh (eI way_1)) (aw_cons (ew_def (av_cons (EW.sh (ew_v rfl)) (av_cons (EW.sh (ew_v rfl)) (av_cons (EW.sh (ew_defIO (av_cons (EW.sh (ew_v rfl)) (av_cons (EW.sh (ew_v rfl)) av_nil)) rfl rfl (V__law_levels  (H.2.2.1)))) av_nil))) (V__law_made  (H.2.2.2.1))) (aw_cons (ew_defIO (av_cons (EW.sh ew_c) av_nil) rfl rfl (V__law_draw  (H.2.2.2.2.1))) aw_nil)) rfl rfl) rfl) (s_ifseq (fun (v : (Int × Int × (List Int)) × T) fl η => fl = .ret (T.sh ((eP3 eI eI (eT eI)) v.1)) ∧ η[0]? = some (some v.2)) (bv_t (ew_binL (EW.sh ew_c) rfl rfl o_ltI)) (fun hb => (s_stop (s_retV (t := T.sh ((eP3 eI eI (eT eI)) rule_1)) rfl (fun η k => ⟨(by rintro ⟨⟩), ⟨rfl, tk_get k (i := 0) rfl⟩⟩)))) (fun hb => (have H9 := (H.2.2.2.2.2) hb; let points_1 : (List Int) := rule_1.2.2; (s_nilseq (s_seq (SV.cx (Γ2 := [.ow r_4.2, .sh (eI n_1), .sh (eI m_1), .sh ((eP3 eI eI (eT eI)) rule_1), .sh (eI way_1), .od (List.map eI points_1), .fr]) (sv_asg (ew_call (av_cons (EW.sh (ew_binL (EW.sh ew_c) rfl rfl rfl)) av_nil) (o_lstT (e := eI))) (gw_n (s := .od (List.map eI points_1)) rfl)) rfl) (s_ifseq (fun (v : (Int × Int × (List Int)) × T) fl η => fl = .ret (T.sh ((eP3 eI eI (eT eI)) v.1)) ∧ η[0]? = some (some v.2)) (bv_t (ew_binL (EW.sh ew_c) rfl rfl (o_eq (e := eI) cm_i))) (fun hb => (have H6 := (H9.1) hb; let r_5 : (Int × T) := F__law_draw r_4.2 m_1; let r_6 : (Int × T) := F__law_draw r_5.2 (List.length points_1 : Int); let points_2 : (List Int) := setI points_1 r_6.1 r_5.1; (s_assoc (s_seq (SV.cx (Γ2 := [.ow r_6.2, .sh (eI n_1), .sh (eI m_1), .sh ((eP3 eI eI (eT eI)) rule_1), .sh (eI way_1), .od (List.map eI points_2), .fr]) (sv_asg (ew_defIO (av_cons (EW.sh (ew_v rfl)) av_nil) rfl rfl (V__law_draw  (H6.1))) (gw_sub (s := .od (List.map eI points_2)) rfl (ew_defIO (av_cons (EW.sh (ew_callV rfl (o_lenL (e := eI)))) av_nil) rfl rfl (V__law_draw  (H6.2.1))) rfl (ixN_map (e := eI) (H6.2.2)) (setI_map (e := eI) _ _ _))) rfl) (s_stop (s_ret (EW.as (t' := .sh ((eP3 eI eI (eT eI)) (n_1, m_1, points_2))) (ew_tup (av_cons (EW.sh (ew_v rfl)) (av_cons (EW.sh (ew_v rfl)) (av_cons (EW.sh (ew_callV rfl (o_tupL (e := eI)))) av_nil)))) rfl) (fun η k => ⟨(by rintro ⟨⟩), ⟨rfl, tk_get k (i := 0) rfl⟩⟩))))))) (fun hb => (have H7 := (H9.2) hb; let m_2 : (List Int × T) := mapS (fun (s_1 : T) (x_1 : Int) => (let r_7 : (Int × T) := F__law_draw s_1 m_1; (r_7.1, r_7.2) : Int × T)) r_4.2 points_1; (s_nilseq (s_ret (EW.as (t' := .sh ((eP3 eI eI (eT eI)) (n_1, m_1, m_2.1))) (ew_tup (av_cons (EW.sh (ew_v rfl)) (av_cons (EW.sh (ew_v rfl)) (av_cons (EW.sh (ew_call (av_cons (EW.od (EW.mapI (e := eI) (ew_compVS (e := eI) (G := (fun s_1 : T => [.ow s_1, .sh (eI n_1), .sh (eI m_1), .sh ((eP3 eI eI (eT eI)) rule_1), .sh (eI way_1), .od (List.map eI points_1), .fr])) (step := (fun (s_1 : T) (x_1 : Int) => (let r_7 : (Int × T) := F__law_draw s_1 m_1; (r_7.1, r_7.2) : Int × T))) (W := (fun (s_1 : T) (x_1 : Int) => let r_7 : (Int × T) := F__law_draw s_1 m_1; (W__law_draw s_1 m_1))) (r := fun v => T.sh (eI v)) rfl rfl rfl (fun _ => rfl) (H7.1) (by first | exact Le.refl _ | (repeat (first | exact trivial | exact rfl | apply And.intro))) (fun _ => (own_fr (by rfl))) (H7.2) (fun s_1 x_1 H5 => let r_7 : (Int × T) := F__law_draw s_1 m_1; itemS (gw_n (s := .sh _) rfl) (ew_defIO (av_cons (EW.sh (ew_v rfl)) av_nil) rfl rfl (V__law_draw  H5)) (by first | exact Le.refl _ | (repeat (first | exact trivial | exact rfl | apply And.intro))))))) av_nil) (o_tupL (e := eI)))) av_nil)))) rfl) (fun η k => ⟨rfl, tk_get k (i := 0) rfl⟩))))))))))))))
def F__law_turned (rule : (Int × Int × (List Int))) : (Int × Int × (List Int)) := let p_1 : (Int × Int × (List Int)) := rule; let told_1 : (List (List Int × Int)) := (List.map (fun x_1 => (x_1.1, x_1.2)) (List.zip (F__law_tuples p_1.1 p_1.2.1) p_1.2.2)); (p_1.1, p_1.2.1, (List.map (fun x_2 => ((p_1.2.1 - (1 : Int)) - (gM told_1 (List.map (fun x_3 => ((p_1.2.1 - (1 : Int)) - x_3)) x_2)))) (F__law_tuples p_1.1 p_1.2.1)))
def W__law_turned (rule : (Int × Int × (List Int))) : Prop := let p_1 : (Int × Int × (List Int)) := rule; let told_1 : (List (List Int × Int)) := (List.map (fun x_1 => (x_1.1, x_1.2)) (List.zip (F__law_tuples p_1.1 p_1.2.1) p_1.2.2)); (W__law_tuples p_1.1 p_1.2.1) ∧ (List.length (List.zip (F__law_tuples p_1.1 p_1.2.1) p_1.2.2) < 16777216) ∧ (dOk (List.map (fun x_1 => (x_1.1, x_1.2)) (List.zip (F__law_tuples p_1.1 p_1.2.1) p_1.2.2))) ∧ (W__law_tuples p_1.1 p_1.2.1) ∧ (List.length (F__law_tuples p_1.1 p_1.2.1) < 16777216) ∧ (∀ x_2 ∈ (F__law_tuples p_1.1 p_1.2.1), (List.length x_2 < 16777216) ∧ ((List.map (fun x_3 => ((p_1.2.1 - (1 : Int)) - x_3)) x_2) ∈ List.map (fun p => p.1) told_1))
theorem W__law_turned_eq {rule : (Int × Int × (List Int))} : W__law_turned rule = (let p_1 : (Int × Int × (List Int)) := rule; let told_1 : (List (List Int × Int)) := (List.map (fun x_1 => (x_1.1, x_1.2)) (List.zip (F__law_tuples p_1.1 p_1.2.1) p_1.2.2)); (W__law_tuples p_1.1 p_1.2.1) ∧ (List.length (List.zip (F__law_tuples p_1.1 p_1.2.1) p_1.2.2) < 16777216) ∧ (dOk (List.map (fun x_1 => (x_1.1, x_1.2)) (List.zip (F__law_tuples p_1.1 p_1.2.1) p_1.2.2))) ∧ (W__law_tuples p_1.1 p_1.2.1) ∧ (List.length (F__law_tuples p_1.1 p_1.2.1) < 16777216) ∧ (∀ x_2 ∈ (F__law_tuples p_1.1 p_1.2.1), (List.length x_2 < 16777216) ∧ ((List.map (fun x_3 => ((p_1.2.1 - (1 : Int)) - x_3)) x_2) ∈ List.map (fun p => p.1) told_1))) := rfl
theorem V__law_turned {rule : (Int × Int × (List Int))} (H : W__law_turned rule) : G__law_turned [(eP3 eI eI (eT eI)) rule] = some (T.sh ((eP3 eI eI (eT eI)) (F__law_turned rule))) := by
  refine gp_ok rfl ?_
  show S B__law_turned [.sh ((eP3 eI eI (eT eI)) rule), .fr, .fr, .fr, .fr, .fr, .fr, .fr] _
  unfold B__law_turned
  let p_1 : (Int × Int × (List Int)) := rule
  let told_1 : (List (List Int × Int)) := (List.map (fun x_1 => (x_1.1, x_1.2)) (List.zip (F__law_tuples p_1.1 p_1.2.1) p_1.2.2))
  exact (s_seq (SV.cx (Γ2 := [.sh ((eP3 eI eI (eT eI)) rule), .sh (eI p_1.1), .sh (eI p_1.2.1), .sh ((eT eI) p_1.2.2), .fr, .fr, .fr, .fr]) (sv_asg (ew_v rfl) (gw_tup (gws_cons (gw_n (s := .sh _) rfl) (gws_cons (gw_n (s := .sh _) rfl) (gws_cons (gw_n (s := .sh _) rfl) gws_nil))) rfl rfl)) rfl) (s_seq (SV.cx (Γ2 := [.sh ((eP3 eI eI (eT eI)) rule), .sh (eI p_1.1), .sh (eI p_1.2.1), .sh ((eT eI) p_1.2.2), .sh ((eM eI) told_1), .fr, .fr, .fr]) (sv_asg (ew_call (av_cons (EW.od (EW.mapE (e := (eP (eT eI) eI)) (ew_compM (l := (List.zip (F__law_tuples p_1.1 p_1.2.1) p_1.2.2)) (e := (eP (eT eI) eI)) (r := fun x_1 => T.sh ((eP (eT eI) eI) (x_1.1, x_1.2))) (IV.as (iv_z (ed_def (av_cons (EW.sh (ew_v rfl)) (av_cons (EW.sh (ew_v rfl)) av_nil)) (V__law_tuples  (H.1))) (EW.sh (ew_v rfl)) rfl rfl) (zipD_map (e := (eT eI)) (f := eI) _ _)) (H.2.1) (free_own (by rfl)) (fun x_1 hx => item1 (gw_tup (gws_cons (gw_n (s := .sh _) rfl) (gws_cons (gw_n (s := .sh _) rfl) gws_nil)) rfl rfl) (EW.as (t' := .sh ((eP (eT eI) eI) (x_1.1, x_1.2))) (ew_tup (av_cons (EW.sh (ew_v rfl)) (av_cons (EW.sh (ew_v rfl)) av_nil))) rfl) (by first | exact Le.refl _ | (repeat (first | exact trivial | exact rfl | apply And.intro))))))) av_nil) (o_dictL (e := eI) (H.2.2.1))) (gw_n (s := .sh ((eM eI) told_1)) rfl)) rfl) (s_ret (EW.as (t' := .sh ((eP3 eI eI (eT eI)) (p_1.1, p_1.2.1, (List.map (fun x_2 => ((p_1.2.1 - (1 : Int)) - (gM told_1 (List.map (fun x_3 => ((p_1.2.1 - (1 : Int)) - x_3)) x_2)))) (F__law_tuples p_1.1 p_1.2.1))))) (ew_tup (av_cons (EW.sh (ew_v rfl)) (av_cons (EW.sh (ew_v rfl)) (av_cons (EW.sh (ew_call (av_cons (EW.od (EW.mapE (e := eI) (ew_compM (l := (F__law_tuples p_1.1 p_1.2.1)) (e := (eT eI)) (r := fun x_2 => T.sh (eI ((p_1.2.1 - (1 : Int)) - (gM told_1 (List.map (fun x_3 => ((p_1.2.1 - (1 : Int)) - x_3)) x_2))))) (iv_e (ed_def (av_cons (EW.sh (ew_v rfl)) (av_cons (EW.sh (ew_v rfl)) av_nil)) (V__law_tuples  (H.2.2.2.1))) rfl) (H.2.2.2.2.1) (free_own (by rfl)) (fun x_2 hx => have H3 := (H.2.2.2.2.2) x_2 hx; item1 (gw_n (s := .sh _) rfl) (ew_bin (EW.sh (ew_binL (EW.sh ew_c) rfl rfl o_subI)) (EW.sh (ew_binL (EW.sh (ew_call (av_cons (EW.od (EW.mapE (e := eI) (ew_compVM (l := x_2) (e := eI) (r := fun x_3 => T.sh (eI ((p_1.2.1 - (1 : Int)) - x_3))) rfl rfl rfl (H3.1) (free_own (by rfl)) (fun x_3 hx => item1 (gw_n (s := .sh _) rfl) (ew_binR (EW.sh (ew_binL (EW.sh ew_c) rfl rfl o_subI)) rfl o_subI) (by first | exact Le.refl _ | (repeat (first | exact trivial | exact rfl | apply And.intro))))))) av_nil) (o_tupL (e := eI)))) rfl rfl (o_ixM (e := eI) (H3.2)))) o_subI) (by first | exact Le.refl _ | (repeat (first | exact trivial | exact rfl | apply And.intro))))))) av_nil) (o_tupL (e := eI)))) av_nil)))) rfl) (fun η k => rfl))))
def F_how_many_s1 (points : Int) (s_1 : (Int)) (x_1 : Int) : (Int) := let found_2 : Int := (s_1 * points); found_2
def W_how_many_s1 (points : Int) (s_1 : (Int)) (x_1 : Int) : Prop := let found_2 : Int := (s_1 * points); (mulFits s_1 points = true)
def F_how_many (voters : Int) (points : Int) : Int := let found_1 : Int := (1 : Int); let m_1 : (Int) := List.foldl (F_how_many_s1 points) found_1 (rgI 0 voters); m_1
def W_how_many (voters : Int) (points : Int) : Prop := let found_1 : Int := (1 : Int); let m_1 : (Int) := List.foldl (F_how_many_s1 points) found_1 (rgI 0 voters); (rg62 voters = true) ∧ (WFold (F_how_many_s1 points) (W_how_many_s1 points) found_1 (rgI 0 voters))
theorem W_how_many_eq {voters : Int} {points : Int} : W_how_many voters points = (let found_1 : Int := (1 : Int); let m_1 : (Int) := List.foldl (F_how_many_s1 points) found_1 (rgI 0 voters); (rg62 voters = true) ∧ (WFold (F_how_many_s1 points) (W_how_many_s1 points) found_1 (rgI 0 voters))) := rfl
theorem V_how_many {voters : Int} {points : Int} (H : W_how_many voters points) : G_how_many [eI voters, eI points] = some (T.sh (eI (F_how_many voters points))) := by
  refine gp_ok rfl ?_
  show S B_how_many [.sh (eI voters), .sh (eI points), .fr, .fr] _
  unfold B_how_many
  let found_1 : Int := (1 : Int)
  let m_1 : (Int) := List.foldl (F_how_many_s1 points) found_1 (rgI 0 voters)
  exact (s_seq (SV.cx (Γ2 := [.sh (eI voters), .sh (eI points), .sh (eI found_1), .fr]) (sv_asg ew_c (gw_n (s := .sh (eI found_1)) rfl)) rfl) (s_seq (SV.cx (Γ2 := [.sh (eI voters), .sh (eI points), .sh (eI m_1), .fr]) (sv_for (l := (rgI 0 voters)) (e := eI) (G := (fun s_1 : (Int) => [.sh (eI voters), .sh (eI points), .sh (eI s_1), .fr])) (s0 := found_1) (step := (F_how_many_s1 points)) (W := (W_how_many_s1 points)) (IV.as (iv_r1 (ew_v rfl) (H.1)) (rgD_map _ _)) (by first | exact Le.refl _ | (repeat (first | exact trivial | exact rfl | apply And.intro))) (H.2) (fun s_1 x_1 H1 => let found_2 : Int := (s_1 * points); turn (gw_n (s := .sh _) rfl) (s_of (SV.cx (Γ2 := [.sh (eI voters), .sh (eI points), .sh (eI found_2), .sh (eI x_1)]) (sv_asg (ew_binLR rfl rfl (o_mulI H1)) (gw_n (s := .sh (eI found_2)) rfl)) rfl) (fun η k => ⟨.inl rfl, Le.sat (by first | exact Le.refl _ | (repeat (first | exact trivial | exact rfl | apply And.intro))) k⟩)))) rfl) (s_retV (t := T.sh (eI m_1)) rfl (fun η k => rfl))))
def F_is_table (thing : (List Int)) (size : Int) : Bool := (true && (decide ((List.length thing : Int) = size)))
theorem V_is_table {thing : (List Int)} {size : Int} (_ : True) : G_is_table [(eT eI) thing, eI size] = some (T.sh (eB (F_is_table thing size))) := by
  refine gp_ok rfl ?_
  show S B_is_table [.sh ((eT eI) thing), .sh (eI size)] _
  unfold B_is_table
  exact (s_ret (ew_and (ew_isV (b := true) rfl rfl) (fun hb => (ew_binR (EW.sh (ew_callV rfl (o_lenT (e := eI)))) rfl (o_eq (e := eI) cm_i))) (by first | exact Le.refl _ | (repeat (first | exact trivial | exact rfl | apply And.intro)))) (fun η k => rfl))
def F_is_triple (thing : (Int × Int × (List Int))) : Bool := (true && (decide ((3 : Int) = (3 : Int))))
theorem V_is_triple {thing : (Int × Int × (List Int))} (_ : True) : G_is_triple [(eP3 eI eI (eT eI)) thing] = some (T.sh (eB (F_is_triple thing))) := by
  refine gp_ok rfl ?_
  show S B_is_triple [.sh ((eP3 eI eI (eT eI)) thing)] _
  unfold B_is_triple
  exact (s_ret (ew_and (ew_isV (b := true) rfl rfl) (fun hb => (ew_bin (EW.sh (ew_callV rfl rfl)) (EW.sh ew_c) (o_eq (e := eI) cm_i))) (by first | exact Le.refl _ | (repeat (first | exact trivial | exact rfl | apply And.intro)))) (fun η k => rfl))
def F_is_integer (thing : Int) : Bool := (true && (!false))
theorem V_is_integer {thing : Int} (_ : True) : G_is_integer [eI thing] = some (T.sh (eB (F_is_integer thing))) := by
  refine gp_ok rfl ?_
  show S B_is_integer [.sh (eI thing)] _
  unfold B_is_integer
  exact (s_ret (ew_and (ew_isV (b := true) rfl rfl) (fun hb => (ew_not (ew_isV (b := false) rfl rfl))) (by first | exact Le.refl _ | (repeat (first | exact trivial | exact rfl | apply And.intro)))) (fun η k => rfl))
def F_is_within (thing : Int) (least : Int) (most : Int) : Bool := ((F_is_integer thing) && ((decide (least ≤ thing)) && decide (thing ≤ most)))
theorem V_is_within {thing : Int} {least : Int} {most : Int} (_ : True) : G_is_within [eI thing, eI least, eI most] = some (T.sh (eB (F_is_within thing least most))) := by
  refine gp_ok rfl ?_
  show S B_is_within [.sh (eI thing), .sh (eI least), .sh (eI most)] _
  unfold B_is_within
  exact (s_ret (ew_and (ew_def (av_cons (EW.sh (ew_v rfl)) av_nil) (V_is_integer  trivial)) (fun hb => (ew_chain (ew_v rfl) (ew_v rfl) (fun hb => (ew_v rfl)) (by first | exact Le.refl _ | (repeat (first | exact trivial | exact rfl | apply And.intro))))) (by first | exact Le.refl _ | (repeat (first | exact trivial | exact rfl | apply And.intro)))) (fun η k => rfl))
def F_is_peak_rule (thing : (Int × Int × (List Int))) : Bool := (if ((!(F_is_triple thing)) || (!(F_is_within thing.1 (1 : Int) (4 : Int)))) = true then (false) else ((if ((!(F_is_within thing.2.1 (2 : Int) (6 : Int))) || (decide ((1300 : Int) < (F_how_many thing.1 thing.2.1)))) = true then (false) else ((if (!(F_is_table thing.2.2 (F_how_many thing.1 thing.2.1))) = true then (false) else ((List.all (List.map (fun x_1 => (F_is_within x_1 (0 : Int) (thing.2.1 - (1 : Int)))) thing.2.2) id)))))))
def W_is_peak_rule (thing : (Int × Int × (List Int))) : Prop := (((!(F_is_triple thing)) || (!(F_is_within thing.1 (1 : Int) (4 : Int)))) = false → ((!(F_is_within thing.2.1 (2 : Int) (6 : Int))) = false → (W_how_many thing.1 thing.2.1)) ∧ (((!(F_is_within thing.2.1 (2 : Int) (6 : Int))) || (decide ((1300 : Int) < (F_how_many thing.1 thing.2.1)))) = false → (W_how_many thing.1 thing.2.1) ∧ ((!(F_is_table thing.2.2 (F_how_many thing.1 thing.2.1))) = false → (List.length thing.2.2 < 16777216))))
theorem W_is_peak_rule_eq {thing : (Int × Int × (List Int))} : W_is_peak_rule thing = ((((!(F_is_triple thing)) || (!(F_is_within thing.1 (1 : Int) (4 : Int)))) = false → ((!(F_is_within thing.2.1 (2 : Int) (6 : Int))) = false → (W_how_many thing.1 thing.2.1)) ∧ (((!(F_is_within thing.2.1 (2 : Int) (6 : Int))) || (decide ((1300 : Int) < (F_how_many thing.1 thing.2.1)))) = false → (W_how_many thing.1 thing.2.1) ∧ ((!(F_is_table thing.2.2 (F_how_many thing.1 thing.2.1))) = false → (List.length thing.2.2 < 16777216))))) := rfl
theorem V_is_peak_rule {thing : (Int × Int × (List Int))} (H : W_is_peak_rule thing) : G_is_peak_rule [(eP3 eI eI (eT eI)) thing] = some (T.sh (eB (F_is_peak_rule thing))) := by
  refine gp_ok rfl ?_
  show S B_is_peak_rule [.sh ((eP3 eI eI (eT eI)) thing), .fr] _
  unfold B_is_peak_rule
  exact (s_ifseq (fun (v : Bool) fl _ => fl = .ret (T.sh (eB v))) (bv_or (bv_not (bv_tru (EW.sh (ew_def (av_cons (EW.sh (ew_v rfl)) av_nil) (V_is_triple  trivial))) rfl)) (fun hb => (bv_not (bv_tru (EW.sh (ew_def (av_cons (EW.sh (ew_binL (EW.sh ew_c) rfl rfl rfl)) (av_cons (EW.sh ew_c) (av_cons (EW.sh ew_c) av_nil))) (V_is_within  trivial))) rfl))) (by first | exact Le.refl _ | (repeat (first | exact trivial | exact rfl | apply And.intro)))) (fun hb => (s_stop (s_ret ew_c (fun η k => ⟨(by rintro ⟨⟩), rfl⟩)))) (fun hb => (have H9 := H hb; (s_nilseq (s_ifseq (fun (v : Bool) fl _ => fl = .ret (T.sh (eB v))) (bv_or (bv_not (bv_tru (EW.sh (ew_def (av_cons (EW.sh (ew_binL (EW.sh ew_c) rfl rfl rfl)) (av_cons (EW.sh ew_c) (av_cons (EW.sh ew_c) av_nil))) (V_is_within  trivial))) rfl)) (fun hb => (have H2 := (H9.1) hb; (bv_t (ew_bin (EW.sh (ew_def (av_cons (EW.sh (ew_binL (EW.sh ew_c) rfl rfl rfl)) (av_cons (EW.sh (ew_binL (EW.sh ew_c) rfl rfl rfl)) av_nil)) (V_how_many  H2))) (EW.sh ew_c) o_gtI)))) (by first | exact Le.refl _ | (repeat (first | exact trivial | exact rfl | apply And.intro)))) (fun hb => (s_stop (s_ret ew_c (fun η k => ⟨(by rintro ⟨⟩), rfl⟩)))) (fun hb => (have H7 := (H9.2) hb; (s_nilseq (s_ifseq (fun (v : Bool) fl _ => fl = .ret (T.sh (eB v))) (bv_not (bv_tru (EW.sh (ew_def (av_cons (EW.sh (ew_binL (EW.sh ew_c) rfl rfl rfl)) (av_cons (EW.sh (ew_def (av_cons (EW.sh (ew_binL (EW.sh ew_c) rfl rfl rfl)) (av_cons (EW.sh (ew_binL (EW.sh ew_c) rfl rfl rfl)) av_nil)) (V_how_many  (H7.1)))) av_nil)) (V_is_table  trivial))) rfl)) (fun hb => (s_stop (s_ret ew_c (fun η k => ⟨(by rintro ⟨⟩), rfl⟩)))) (fun hb => (have H5 := (H7.2) hb; (s_nilseq (s_ret (ew_call (av_cons (EW.od (EW.mapE (e := eB) (ew_compM (l := thing.2.2) (e := eI) (r := fun x_1 => T.sh (eB (F_is_within x_1 (0 : Int) (thing.2.1 - (1 : Int))))) (iv_e (EW.sh (ew_binL (EW.sh ew_c) rfl rfl rfl)) rfl) H5 (free_own (by rfl)) (fun x_1 hx => item1 (gw_n (s := .sh _) rfl) (ew_def (av_cons (EW.sh (ew_v rfl)) (av_cons (EW.sh ew_c) (av_cons (EW.sh (ew_bin (EW.sh (ew_binL (EW.sh ew_c) rfl rfl rfl)) (EW.sh ew_c) o_subI)) av_nil))) (V_is_within  trivial)) (by first | exact Le.refl _ | (repeat (first | exact trivial | exact rfl | apply And.intro))))))) av_nil) o_all) (fun η k => rfl))))))))))))))
def F_check_rule (thing : (Int × Int × (List Int))) : Unit := ()
def W_check_rule (thing : (Int × Int × (List Int))) : Prop := (W_is_peak_rule thing) ∧ ((!(F_is_peak_rule thing)) = false)
theorem W_check_rule_eq {thing : (Int × Int × (List Int))} : W_check_rule thing = ((W_is_peak_rule thing) ∧ ((!(F_is_peak_rule thing)) = false)) := rfl
theorem V_check_rule {thing : (Int × Int × (List Int))} (H : W_check_rule thing) : G_check_rule [(eP3 eI eI (eT eI)) thing] = some (.sh .none) := by
  refine gp_nx rfl ?_
  show S B_check_rule [.sh ((eP3 eI eI (eT eI)) thing)] _
  unfold B_check_rule
  exact (s_ifF (bv_not (bv_tru (EW.sh (ew_def (av_cons (EW.sh (ew_v rfl)) av_nil) (V_is_peak_rule  (H.1)))) rfl)) (H.2) (s_of sv_nil (fun η k => .inl rfl)))
def F_all_peaks_s1 (points : Int) (s_2 : ((List (List Int)))) (x_2 : (List Int)) : ((List (List Int))) := let longer_2 : (List (List Int)) := (s_2 ++ (List.map (fun x_3 => (x_2 ++ [x_3])) (rgI 0 points))); longer_2
def W_all_peaks_s1 (points : Int) (s_2 : ((List (List Int)))) (x_2 : (List Int)) : Prop := let longer_2 : (List (List Int)) := (s_2 ++ (List.map (fun x_3 => (x_2 ++ [x_3])) (rgI 0 points))); (rg62 points = true) ∧ (List.length (rgI 0 points) < 16777216) ∧ (∀ x_3 ∈ (rgI 0 points), (List.length x_2 + List.length [x_3] ≤ 16777216)) ∧ (List.length s_2 + List.length (List.map (fun x_3 => (x_2 ++ [x_3])) (rgI 0 points)) < 16777216)
def F_all_peaks_s2 (points : Int) (s_1 : ((List (List Int)))) (x_1 : Int) : ((List (List Int))) := let longer_1 : (List (List Int)) := ([] : List (List Int)); let m_1 : ((List (List Int))) := List.foldl (F_all_peaks_s1 points) longer_1 s_1; let found_2 : (List (List Int)) := m_1; found_2
def W_all_peaks_s2 (points : Int) (s_1 : ((List (List Int)))) (x_1 : Int) : Prop := let longer_1 : (List (List Int)) := ([] : List (List Int)); let m_1 : ((List (List Int))) := List.foldl (F_all_peaks_s1 points) longer_1 s_1; let found_2 : (List (List Int)) := m_1; (WFold (F_all_peaks_s1 points) (W_all_peaks_s1 points) longer_1 s_1)
def F_all_peaks (voters : Int) (points : Int) : (List (List Int)) := let found_1 : (List (List Int)) := [([] : (List Int))]; let m_2 : ((List (List Int))) := List.foldl (F_all_peaks_s2 points) found_1 (rgI 0 voters); m_2
def W_all_peaks (voters : Int) (points : Int) : Prop := let found_1 : (List (List Int)) := [([] : (List Int))]; let m_2 : ((List (List Int))) := List.foldl (F_all_peaks_s2 points) found_1 (rgI 0 voters); (rg62 voters = true) ∧ (WFold (F_all_peaks_s2 points) (W_all_peaks_s2 points) found_1 (rgI 0 voters))
theorem W_all_peaks_eq {voters : Int} {points : Int} : W_all_peaks voters points = (let found_1 : (List (List Int)) := [([] : (List Int))]; let m_2 : ((List (List Int))) := List.foldl (F_all_peaks_s2 points) found_1 (rgI 0 voters); (rg62 voters = true) ∧ (WFold (F_all_peaks_s2 points) (W_all_peaks_s2 points) found_1 (rgI 0 voters))) := rfl
theorem V_all_peaks {voters : Int} {points : Int} (H : W_all_peaks voters points) : ∃ tr, G_all_peaks [eI voters, eI points] = some tr ∧ T.val tr = (eL (eT eI)) (F_all_peaks voters points) := by
  refine gp_okD rfl ?_
  show S B_all_peaks [.sh (eI voters), .sh (eI points), .fr, .fr, .fr, .fr, .fr] _
  unfold B_all_peaks
  let found_1 : (List (List Int)) := [([] : (List Int))]
  let m_2 : ((List (List Int))) := List.foldl (F_all_peaks_s2 points) found_1 (rgI 0 voters)
  exact (s_seq (SV.cx (Γ2 := [.sh (eI voters), .sh (eI points), .od (List.map (eT eI) found_1), .fr, .fr, .fr, .fr]) (sv_asg (EW.as (t' := .lst (List.map T.sh (List.map (eT eI) [([] : (List Int))]))) (ew_lst (aw_cons (EW.as (t' := .sh ((eT eI) ([] : (List Int)))) (ew_tup av_nil) rfl) aw_nil)) rfl) (gw_n (s := .od (List.map (eT eI) found_1)) rfl)) rfl) (s_seq (SV.cx (Γ2 := [.sh (eI voters), .sh (eI points), .pk ((eL (eT eI)) m_2), .fr, .fr, .fr, .fr]) (sv_for (l := (rgI 0 voters)) (e := eI) (G := (fun s_1 : ((List (List Int))) => [.sh (eI voters), .sh (eI points), .pk ((eL (eT eI)) s_1), .fr, .fr, .fr, .fr])) (s0 := found_1) (step := (F_all_peaks_s2 points)) (W := (W_all_peaks_s2 points)) (IV.as (iv_r1 (ew_v rfl) (H.1)) (rgD_map _ _)) (by first | exact Le.refl _ | (repeat (first | exact trivial | exact rfl | apply And.intro))) (H.2) (fun s_1 x_1 H3 => let longer_1 : (List (List Int)) := ([] : List (List Int)); let m_1 : ((List (List Int))) := List.foldl (F_all_peaks_s1 points) longer_1 s_1; let found_2 : (List (List Int)) := m_1; turn (gw_n (s := .sh _) rfl) (s_of (sv_seq (SV.cx (Γ2 := [.sh (eI voters), .sh (eI points), .pk ((eL (eT eI)) s_1), .sh (eI x_1), .od (List.map (eT eI) longer_1), .fr, .fr]) (sv_asg (EW.as (t' := .lst (List.map T.sh (List.map (eT eI) ([] : List (List Int))))) (ew_lst aw_nil) rfl) (gw_n (s := .od (List.map (eT eI) longer_1)) rfl)) rfl) (sv_seq (SV.cx (Γ2 := [.sh (eI voters), .sh (eI points), .pk ((eL (eT eI)) s_1), .sh (eI x_1), .od (List.map (eT eI) m_1), .fr, .fr]) (sv_forV (l := s_1) (e := (eT eI)) (G := (fun s_2 : ((List (List Int))) => [.sh (eI voters), .sh (eI points), .pk ((eL (eT eI)) s_1), .sh (eI x_1), .od (List.map (eT eI) s_2), .fr, .fr])) (s0 := longer_1) (step := (F_all_peaks_s1 points)) (W := (W_all_peaks_s1 points)) rfl rfl (fun _ => rfl) (by first | exact Le.refl _ | (repeat (first | exact trivial | exact rfl | apply And.intro))) H3 (fun s_2 x_2 H2 => let longer_2 : (List (List Int)) := (s_2 ++ (List.map (fun x_3 => (x_2 ++ [x_3])) (rgI 0 points))); turn (gw_n (s := .sh _) rfl) (s_of (SV.cx (Γ2 := [.sh (eI voters), .sh (eI points), .pk ((eL (eT eI)) s_1), .sh (eI x_1), .od (List.map (eT eI) longer_2), .sh ((eT eI) x_2), .fr]) (sv_expr (ew_mt1 (s := .od (List.map (eT eI) (s_2 ++ (List.map (fun x_3 => (x_2 ++ [x_3])) (rgI 0 points))))) rfl (EW.mapE (e := (eT eI)) (ew_compM (l := (rgI 0 points)) (e := eI) (r := fun x_3 => T.sh ((eT eI) (x_2 ++ [x_3]))) (IV.as (iv_r1 (ew_v rfl) (H2.1)) (rgD_map _ _)) (H2.2.1) (free_own (by rfl)) (fun x_3 hx => have H1 := (H2.2.2.1) x_3 hx; item1 (gw_n (s := .sh _) rfl) (ew_binL (EW.sh (EW.as (t' := .sh ((eT eI) [x_3])) (ew_tup (av_cons (EW.sh (ew_v rfl)) av_nil)) rfl)) rfl rfl (o_addT (e := eI) H1)) (by first | exact Le.refl _ | (repeat (first | exact trivial | exact rfl | apply And.intro)))))) rfl (mExtend_map (e := (eT eI)) (l2 := (List.map (fun x_3 => (x_2 ++ [x_3])) (rgI 0 points))) (H2.2.2.2)) rfl)) rfl) (fun η k => ⟨.inl rfl, Le.sat (by first | exact Le.refl _ | (repeat (first | exact trivial | exact rfl | apply And.intro))) k⟩)))) rfl) (SV.cx (Γ2 := [.sh (eI voters), .sh (eI points), .sh ((eL (eT eI)) found_2), .sh (eI x_1), .sh ((eL (eT eI)) m_1), .fr, .fr]) (sv_asg (ew_v rfl) (gw_n (s := .sh ((eL (eT eI)) found_2)) rfl)) rfl))) (fun η k => ⟨.inl rfl, Le.sat (by first | exact Le.refl _ | (repeat (first | exact trivial | exact rfl | apply And.intro))) k⟩)))) rfl) (s_retVN rfl (fun tr η hv k => ⟨tr, rfl, hv⟩))))
def F_may_like (peak : Int) (here : Int) (there : Int) : Bool := (if ((decide (here = there)) || (decide (here = peak))) = true then (false) else ((!(((decide (peak < here)) && decide (here < there)) || ((decide (there < here)) && decide (here < peak))))))
theorem V_may_like {peak : Int} {here : Int} {there : Int} (_ : True) : G_may_like [eI peak, eI here, eI there] = some (T.sh (eB (F_may_like peak here there))) := by
  refine gp_ok rfl ?_
  show S B_may_like [.sh (eI peak), .sh (eI here), .sh (eI there)] _
  unfold B_may_like
  exact (s_ifseq (fun (v : Bool) fl _ => fl = .ret (T.sh (eB v))) (bv_or (bv_t (ew_binLR rfl rfl (o_eq (e := eI) cm_i))) (fun hb => (bv_t (ew_binLR rfl rfl (o_eq (e := eI) cm_i)))) (by first | exact Le.refl _ | (repeat (first | exact trivial | exact rfl | apply And.intro)))) (fun hb => (s_stop (s_ret ew_c (fun η k => ⟨(by rintro ⟨⟩), rfl⟩)))) (fun hb => (s_nilseq (s_ret (ew_not (ew_or (ew_chain (ew_v rfl) (ew_v rfl) (fun hb => (ew_v rfl)) (by first | exact Le.refl _ | (repeat (first | exact trivial | exact rfl | apply And.intro)))) (fun hb => (ew_chain (ew_v rfl) (ew_v rfl) (fun hb => (ew_v rfl)) (by first | exact Le.refl _ | (repeat (first | exact trivial | exact rfl | apply And.intro))))) (by first | exact Le.refl _ | (repeat (first | exact trivial | exact rfl | apply And.intro))))) (fun η k => rfl)))))
def F_told_by (rule : (Int × Int × (List Int))) : (List (List Int × Int)) := (List.zip (F_all_peaks rule.1 rule.2.1) rule.2.2)
def W_told_by (rule : (Int × Int × (List Int))) : Prop := (W_all_peaks rule.1 rule.2.1) ∧ (dOk (List.zip (F_all_peaks rule.1 rule.2.1) rule.2.2))
theorem W_told_by_eq {rule : (Int × Int × (List Int))} : W_told_by rule = ((W_all_peaks rule.1 rule.2.1) ∧ (dOk (List.zip (F_all_peaks rule.1 rule.2.1) rule.2.2))) := rfl
theorem V_told_by {rule : (Int × Int × (List Int))} (H : W_told_by rule) : G_told_by [(eP3 eI eI (eT eI)) rule] = some (T.sh ((eM eI) (F_told_by rule))) := by
  refine gp_ok rfl ?_
  show S B_told_by [.sh ((eP3 eI eI (eT eI)) rule)] _
  unfold B_told_by
  exact (s_ret (ew_call (av_cons (ed_def (av_cons (EW.sh (ew_binL (EW.sh ew_c) rfl rfl rfl)) (av_cons (EW.sh (ew_binL (EW.sh ew_c) rfl rfl rfl)) av_nil)) (V_all_peaks  (H.1))) (av_cons (EW.sh (ew_binL (EW.sh ew_c) rfl rfl rfl)) av_nil)) (o_dzLT (e := eI) (H.2))) (fun η k => rfl))
def F_gain_in_s1 (told_1 : (List (List Int × Int))) (x_1 : (List Int)) (x_2 : (Int × Int)) (s_3 : Unit) (x_3 : Int) : (Lp Unit (Option ((List Int) × Int × Int))) := let there_1 : Int := (gM told_1 (((cutA x_1 none (some x_2.1)) ++ [x_3]) ++ (cutA x_1 (some (x_2.1 + (1 : Int))) none))); (if (F_may_like x_2.2 (gM told_1 x_1) there_1) = true then ((.ret (some (x_1, x_2.1, x_3)))) else ((.nx ())))
def W_gain_in_s1 (told_1 : (List (List Int × Int))) (x_1 : (List Int)) (x_2 : (Int × Int)) (s_3 : Unit) (x_3 : Int) : Prop := let there_1 : Int := (gM told_1 (((cutA x_1 none (some x_2.1)) ++ [x_3]) ++ (cutA x_1 (some (x_2.1 + (1 : Int))) none))); (List.length (cutA x_1 none (some x_2.1)) + List.length [x_3] ≤ 16777216) ∧ (List.length ((cutA x_1 none (some x_2.1)) ++ [x_3]) + List.length (cutA x_1 (some (x_2.1 + (1 : Int))) none) ≤ 16777216) ∧ ((((cutA x_1 none (some x_2.1)) ++ [x_3]) ++ (cutA x_1 (some (x_2.1 + (1 : Int))) none)) ∈ List.map (fun p => p.1) told_1) ∧ (x_1 ∈ List.map (fun p => p.1) told_1)
def F_gain_in_s2 (rule : (Int × Int × (List Int))) (told_1 : (List (List Int × Int))) (x_1 : (List Int)) (s_2 : Unit) (x_2 : (Int × Int)) : (Lp Unit (Option ((List Int) × Int × Int))) := let e_1 : (Except (Option ((List Int) × Int × Int)) Unit) := (foldL (F_gain_in_s1 told_1 x_1 x_2) () (rgI 0 rule.2.1)); (exC e_1 (fun z_1 : Unit => (.nx ())) (fun r_1 : (Option ((List Int) × Int × Int)) => .ret r_1))
def W_gain_in_s2 (rule : (Int × Int × (List Int))) (told_1 : (List (List Int × Int))) (x_1 : (List Int)) (s_2 : Unit) (x_2 : (Int × Int)) : Prop := let e_1 : (Except (Option ((List Int) × Int × Int)) Unit) := (foldL (F_gain_in_s1 told_1 x_1 x_2) () (rgI 0 rule.2.1)); (rg62 rule.2.1 = true) ∧ (WFoldL (F_gain_in_s1 told_1 x_1 x_2) (W_gain_in_s1 told_1 x_1 x_2) () (rgI 0 rule.2.1))
def F_gain_in_s3 (rule : (Int × Int × (List Int))) (told_1 : (List (List Int × Int))) (s_1 : Unit) (x_1 : (List Int)) : (Lp Unit (Option ((List Int) × Int × Int))) := let e_2 : (Except (Option ((List Int) × Int × Int)) Unit) := (foldL (F_gain_in_s2 rule told_1 x_1) () (enumI x_1)); (exC e_2 (fun z_2 : Unit => (.nx ())) (fun r_2 : (Option ((List Int) × Int × Int)) => .ret r_2))
def W_gain_in_s3 (rule : (Int × Int × (List Int))) (told_1 : (List (List Int × Int))) (s_1 : Unit) (x_1 : (List Int)) : Prop := let e_2 : (Except (Option ((List Int) × Int × Int)) Unit) := (foldL (F_gain_in_s2 rule told_1 x_1) () (enumI x_1)); (WFoldL (F_gain_in_s2 rule told_1 x_1) (W_gain_in_s2 rule told_1 x_1) () (enumI x_1))
def F_gain_in (rule : (Int × Int × (List Int))) : (Option ((List Int) × Int × Int)) := let told_1 : (List (List Int × Int)) := (F_told_by rule); let e_3 : (Except (Option ((List Int) × Int × Int)) Unit) := (foldL (F_gain_in_s3 rule told_1) () (F_all_peaks rule.1 rule.2.1)); (exC e_3 (fun z_3 : Unit => (none : (Option ((List Int) × Int × Int)))) (fun r_3 : (Option ((List Int) × Int × Int)) => r_3))
def W_gain_in (rule : (Int × Int × (List Int))) : Prop := let told_1 : (List (List Int × Int)) := (F_told_by rule); let e_3 : (Except (Option ((List Int) × Int × Int)) Unit) := (foldL (F_gain_in_s3 rule told_1) () (F_all_peaks rule.1 rule.2.1)); (W_told_by rule) ∧ (W_all_peaks rule.1 rule.2.1) ∧ (WFoldL (F_gain_in_s3 rule told_1) (W_gain_in_s3 rule told_1) () (F_all_peaks rule.1 rule.2.1))
theorem W_gain_in_eq {rule : (Int × Int × (List Int))} : W_gain_in rule = (let told_1 : (List (List Int × Int)) := (F_told_by rule); let e_3 : (Except (Option ((List Int) × Int × Int)) Unit) := (foldL (F_gain_in_s3 rule told_1) () (F_all_peaks rule.1 rule.2.1)); (W_told_by rule) ∧ (W_all_peaks rule.1 rule.2.1) ∧ (WFoldL (F_gain_in_s3 rule told_1) (W_gain_in_s3 rule told_1) () (F_all_peaks rule.1 rule.2.1))) := rfl
theorem V_gain_in {rule : (Int × Int × (List Int))} (H : W_gain_in rule) : G_gain_in [(eP3 eI eI (eT eI)) rule] = some (T.sh ((eO (eP3 (eT eI) eI eI)) (F_gain_in rule))) := by
  refine gp_ok rfl ?_
  show S B_gain_in [.sh ((eP3 eI eI (eT eI)) rule), .fr, .fr, .fr, .fr, .fr, .fr] _
  unfold B_gain_in
  let told_1 : (List (List Int × Int)) := (F_told_by rule)
  let e_3 : (Except (Option ((List Int) × Int × Int)) Unit) := (foldL (F_gain_in_s3 rule told_1) () (F_all_peaks rule.1 rule.2.1))
  exact (s_seq (SV.cx (Γ2 := [.sh ((eP3 eI eI (eT eI)) rule), .sh ((eM eI) told_1), .fr, .fr, .fr, .fr, .fr]) (sv_asg (ew_def (av_cons (EW.sh (ew_v rfl)) av_nil) (V_told_by  (H.1))) (gw_n (s := .sh ((eM eI) told_1)) rfl)) rfl) (s_seqX (M := (fun (v : (Option ((List Int) × Int × Int))) fl _ => fl = .ret (T.sh ((eO (eP3 (eT eI) eI eI)) v)))) (fun z_3 : Unit => (none : (Option ((List Int) × Int × Int)))) (fun r_3 : (Option ((List Int) × Int × Int)) => r_3) (s_for (l := (F_all_peaks rule.1 rule.2.1)) (e := (eT eI)) (G := (fun s_1 : Unit => [.sh ((eP3 eI eI (eT eI)) rule), .sh ((eM eI) told_1), .fr, .fr, .fr, .fr, .fr])) (s0 := ()) (step := (F_gain_in_s3 rule told_1)) (W := (W_gain_in_s3 rule told_1)) (R := (fun (v : (Option ((List Int) × Int × Int))) _ t => t = T.sh ((eO (eP3 (eT eI) eI eI)) v))) (iv_e (ed_def (av_cons (EW.sh (ew_binL (EW.sh ew_c) rfl rfl rfl)) (av_cons (EW.sh (ew_binL (EW.sh ew_c) rfl rfl rfl)) av_nil)) (V_all_peaks  (H.2.1))) rfl) (by first | exact Le.refl _ | (repeat (first | exact trivial | exact rfl | apply And.intro))) (H.2.2) (fun s_1 x_1 H5 => let e_2 : (Except (Option ((List Int) × Int × Int)) Unit) := (foldL (F_gain_in_s2 rule told_1 x_1) () (enumI x_1)); turn (gw_n (s := .sh _) rfl) (s_endX (M := (LpP (fun _ : Unit => [.sh ((eP3 eI eI (eT eI)) rule), .sh ((eM eI) told_1), .fr, .fr, .fr, .fr, .fr]) (fun (v : (Option ((List Int) × Int × Int))) _ t => t = T.sh ((eO (eP3 (eT eI) eI eI)) v)))) (fun z_2 : Unit => (.nx ())) (fun r_2 : (Option ((List Int) × Int × Int)) => .ret r_2) (s_for (l := (enumI x_1)) (e := (eP eI eI)) (G := (fun s_2 : Unit => [.sh ((eP3 eI eI (eT eI)) rule), .sh ((eM eI) told_1), .sh ((eT eI) x_1), .fr, .fr, .fr, .fr])) (s0 := ()) (step := (F_gain_in_s2 rule told_1 x_1)) (W := (W_gain_in_s2 rule told_1 x_1)) (R := (fun (v : (Option ((List Int) × Int × Int))) _ t => t = T.sh ((eO (eP3 (eT eI) eI eI)) v))) (IV.as (iv_en (EW.sh (ew_v rfl)) rfl) (enumD_map (e := eI) _)) (by first | exact Le.refl _ | (repeat (first | exact trivial | exact rfl | apply And.intro))) H5 (fun s_2 x_2 H4 => let e_1 : (Except (Option ((List Int) × Int × Int)) Unit) := (foldL (F_gain_in_s1 told_1 x_1 x_2) () (rgI 0 rule.2.1)); turn (gw_tup (gws_cons (gw_n (s := .sh _) rfl) (gws_cons (gw_n (s := .sh _) rfl) gws_nil)) rfl rfl) (s_endX (M := (LpP (fun _ : Unit => [.sh ((eP3 eI eI (eT eI)) rule), .sh ((eM eI) told_1), .sh ((eT eI) x_1), .fr, .fr, .fr, .fr]) (fun (v : (Option ((List Int) × Int × Int))) _ t => t = T.sh ((eO (eP3 (eT eI) eI eI)) v)))) (fun z_1 : Unit => (.nx ())) (fun r_1 : (Option ((List Int) × Int × Int)) => .ret r_1) (s_for (l := (rgI 0 rule.2.1)) (e := eI) (G := (fun s_3 : Unit => [.sh ((eP3 eI eI (eT eI)) rule), .sh ((eM eI) told_1), .sh ((eT eI) x_1), .sh (eI x_2.1), .sh (eI x_2.2), .fr, .fr])) (s0 := ()) (step := (F_gain_in_s1 told_1 x_1 x_2)) (W := (W_gain_in_s1 told_1 x_1 x_2)) (R := (fun (v : (Option ((List Int) × Int × Int))) _ t => t = T.sh ((eO (eP3 (eT eI) eI eI)) v))) (IV.as (iv_r1 (ew_binL (EW.sh ew_c) rfl rfl rfl) (H4.1)) (rgD_map _ _)) (by first | exact Le.refl _ | (repeat (first | exact trivial | exact rfl | apply And.intro))) (H4.2) (fun s_3 x_3 H3 => let there_1 : Int := (gM told_1 (((cutA x_1 none (some x_2.1)) ++ [x_3]) ++ (cutA x_1 (some (x_2.1 + (1 : Int))) none))); turn (gw_n (s := .sh _) rfl) (s_seq (SV.cx (Γ2 := [.sh ((eP3 eI eI (eT eI)) rule), .sh ((eM eI) told_1), .sh ((eT eI) x_1), .sh (eI x_2.1), .sh (eI x_2.2), .sh (eI x_3), .sh (eI there_1)]) (sv_asg (ew_binL (EW.sh (ew_bin (EW.sh (ew_bin (EW.sh (ew_slV rfl ov_none (ov_some (ew_v rfl)) rfl (o_slT (e := eI)))) (EW.sh (EW.as (t' := .sh ((eT eI) [x_3])) (ew_tup (av_cons (EW.sh (ew_v rfl)) av_nil)) rfl)) (o_addT (e := eI) (H3.1)))) (EW.sh (ew_slV rfl (ov_some (ew_binL (EW.sh ew_c) rfl rfl o_addI)) ov_none rfl (o_slT (e := eI)))) (o_addT (e := eI) (H3.2.1)))) rfl rfl (o_ixM (e := eI) (H3.2.2.1))) (gw_n (s := .sh (eI there_1)) rfl)) rfl) (s_if (LpP (fun _ : Unit => [.sh ((eP3 eI eI (eT eI)) rule), .sh ((eM eI) told_1), .sh ((eT eI) x_1), .sh (eI x_2.1), .sh (eI x_2.2), .fr, .fr]) (fun (v : (Option ((List Int) × Int × Int))) _ t => t = T.sh ((eO (eP3 (eT eI) eI eI)) v))) (bv_tru (EW.sh (ew_def (av_cons (EW.sh (ew_v rfl)) (av_cons (EW.sh (ew_binLR rfl rfl (o_ixM (e := eI) (H3.2.2.2)))) (av_cons (EW.sh (ew_v rfl)) av_nil))) (V_may_like  trivial))) rfl) (fun hb => (s_ret (EW.as (t' := .sh ((eP3 (eT eI) eI eI) (x_1, x_2.1, x_3))) (ew_tup (av_cons (EW.sh (ew_v rfl)) (av_cons (EW.sh (ew_v rfl)) (av_cons (EW.sh (ew_v rfl)) av_nil)))) rfl) (fun η k => ⟨_, rfl, rfl⟩))) (fun hb => (s_of sv_nil (fun η k => ⟨.inl rfl, Le.sat (by first | exact Le.refl _ | (repeat (first | exact trivial | exact rfl | apply And.intro))) k⟩))))))) (fun r η t h => ⟨t, rfl, h⟩) (fun z_1 => (fun η k => ⟨.inl rfl, Le.sat (by first | exact Le.refl _ | (repeat (first | exact trivial | exact rfl | apply And.intro))) k⟩))))) (fun r η t h => ⟨t, rfl, h⟩) (fun z_2 => (fun η k => ⟨.inl rfl, Le.sat (by first | exact Le.refl _ | (repeat (first | exact trivial | exact rfl | apply And.intro))) k⟩))))) (fun r η t h => by rw [h]) (fun z_3 hs => (s_ret ew_c (fun η k => rfl)))))
def F_first_peak_gain (rule : (Int × Int × (List Int))) : (Option ((List Int) × Int × Int)) := (F_gain_in rule)
def W_first_peak_gain (rule : (Int × Int × (List Int))) : Prop := (W_check_rule rule) ∧ (W_gain_in rule)
theorem W_first_peak_gain_eq {rule : (Int × Int × (List Int))} : W_first_peak_gain rule = ((W_check_rule rule) ∧ (W_gain_in rule)) := rfl
theorem V_first_peak_gain {rule : (Int × Int × (List Int))} (H : W_first_peak_gain rule) : G_first_peak_gain [(eP3 eI eI (eT eI)) rule] = some (T.sh ((eO (eP3 (eT eI) eI eI)) (F_first_peak_gain rule))) := by
  refine gp_ok rfl ?_
  show S B_first_peak_gain [.sh ((eP3 eI eI (eT eI)) rule)] _
  unfold B_first_peak_gain
  exact (s_seq (SV.cx (Γ2 := [.sh ((eP3 eI eI (eT eI)) rule)]) (sv_expr (ew_def (av_cons (EW.sh (ew_v rfl)) av_nil) (V_check_rule  (H.1)))) rfl) (s_ret (ew_def (av_cons (EW.sh (ew_v rfl)) av_nil) (V_gain_in  (H.2))) (fun η k => rfl)))
def F_settles (rule : (Int × Int × (List Int))) (peaks : (List Int)) : Int := (gM (F_told_by rule) peaks)
def W_settles (rule : (Int × Int × (List Int))) (peaks : (List Int)) : Prop := (W_check_rule rule) ∧ ((!(F_is_table peaks rule.1)) = false → (List.length peaks < 16777216)) ∧ (((!(F_is_table peaks rule.1)) || (!(List.all (List.map (fun x_1 => (F_is_within x_1 (0 : Int) (rule.2.1 - (1 : Int)))) peaks) id))) = false) ∧ (W_told_by rule) ∧ (peaks ∈ List.map (fun p => p.1) (F_told_by rule))
theorem W_settles_eq {rule : (Int × Int × (List Int))} {peaks : (List Int)} : W_settles rule peaks = ((W_check_rule rule) ∧ ((!(F_is_table peaks rule.1)) = false → (List.length peaks < 16777216)) ∧ (((!(F_is_table peaks rule.1)) || (!(List.all (List.map (fun x_1 => (F_is_within x_1 (0 : Int) (rule.2.1 - (1 : Int)))) peaks) id))) = false) ∧ (W_told_by rule) ∧ (peaks ∈ List.map (fun p => p.1) (F_told_by rule))) := rfl
theorem V_settles {rule : (Int × Int × (List Int))} {peaks : (List Int)} (H : W_settles rule peaks) : G_settles [(eP3 eI eI (eT eI)) rule, (eT eI) peaks] = some (T.sh (eI (F_settles rule peaks))) := by
  refine gp_ok rfl ?_
  show S B_settles [.sh ((eP3 eI eI (eT eI)) rule), .sh ((eT eI) peaks), .fr] _
  unfold B_settles
  exact (s_seq (SV.cx (Γ2 := [.sh ((eP3 eI eI (eT eI)) rule), .sh ((eT eI) peaks), .fr]) (sv_expr (ew_def (av_cons (EW.sh (ew_v rfl)) av_nil) (V_check_rule  (H.1)))) rfl) (s_ifseqF (bv_or (bv_not (bv_tru (EW.sh (ew_def (av_cons (EW.sh (ew_v rfl)) (av_cons (EW.sh (ew_binL (EW.sh ew_c) rfl rfl rfl)) av_nil)) (V_is_table  trivial))) rfl)) (fun hb => (have H2 := (H.2.1) hb; (bv_not (bv_tru (EW.sh (ew_call (av_cons (EW.od (EW.mapE (e := eB) (ew_compVM (l := peaks) (e := eI) (r := fun x_1 => T.sh (eB (F_is_within x_1 (0 : Int) (rule.2.1 - (1 : Int))))) rfl rfl rfl H2 (free_own (by rfl)) (fun x_1 hx => item1 (gw_n (s := .sh _) rfl) (ew_def (av_cons (EW.sh (ew_v rfl)) (av_cons (EW.sh ew_c) (av_cons (EW.sh (ew_bin (EW.sh (ew_binL (EW.sh ew_c) rfl rfl rfl)) (EW.sh ew_c) o_subI)) av_nil))) (V_is_within  trivial)) (by first | exact Le.refl _ | (repeat (first | exact trivial | exact rfl | apply And.intro))))))) av_nil) o_all)) rfl)))) (by first | exact Le.refl _ | (repeat (first | exact trivial | exact rfl | apply And.intro)))) (H.2.2.1) (s_nilseq (s_ret (ew_binR (EW.sh (ew_def (av_cons (EW.sh (ew_v rfl)) av_nil) (V_told_by  (H.2.2.2.1)))) rfl (o_ixM (e := eI) (H.2.2.2.2))) (fun η k => rfl)))))
def F__law_case_right (hand : T) : Bool × T := let r_1 : ((Int × Int × (List Int)) × T) := F__law_rule hand ; let rule_1 : (Int × Int × (List Int)) := r_1.1; let due_1 : (Option ((List Int) × Int × Int)) := (F__law_gain rule_1); let told_1 : (Option ((List Int) × Int × Int)) := (F_first_peak_gain rule_1); (if ((!(F__law_is ((eO (eP3 (eT eI) eI eI)) told_1) ((eO (eP3 (eT eI) eI eI)) due_1))) || (!decide ((Option.isNone due_1) = (!Option.isNone (F__law_own_levels rule_1))))) = true then ((false, r_1.2)) else ((if (!Option.isNone due_1) = true then (let p_1 : ((List Int) × Int × Int) := (gO due_1); (if (decide ((F_settles rule_1 p_1.1) = (F_settles rule_1 (((cutA p_1.1 none (some p_1.2.1)) ++ [p_1.2.2]) ++ (cutA p_1.1 (some (p_1.2.1 + (1 : Int))) none))))) = true then ((false, r_1.2)) else (((decide ((Option.isNone (F_first_peak_gain (F__law_turned rule_1))) = (Option.isNone due_1))), r_1.2)))) else (((decide ((Option.isNone (F_first_peak_gain (F__law_turned rule_1))) = (Option.isNone due_1))), r_1.2)))))
def W__law_case_right (hand : T) : Prop := let r_1 : ((Int × Int × (List Int)) × T) := F__law_rule hand ; let rule_1 : (Int × Int × (List Int)) := r_1.1; let due_1 : (Option ((List Int) × Int × Int)) := (F__law_gain rule_1); let told_1 : (Option ((List Int) × Int × Int)) := (F_first_peak_gain rule_1); (W__law_rule hand ) ∧ (W__law_gain rule_1) ∧ (W_first_peak_gain rule_1) ∧ (W__law_is ((eO (eP3 (eT eI) eI eI)) told_1) ((eO (eP3 (eT eI) eI eI)) due_1)) ∧ ((!(F__law_is ((eO (eP3 (eT eI) eI eI)) told_1) ((eO (eP3 (eT eI) eI eI)) due_1))) = false → (W__law_own_levels rule_1)) ∧ (((!(F__law_is ((eO (eP3 (eT eI) eI eI)) told_1) ((eO (eP3 (eT eI) eI eI)) due_1))) || (!decide ((Option.isNone due_1) = (!Option.isNone (F__law_own_levels rule_1))))) = false → ((!Option.isNone due_1) = true → let p_1 : ((List Int) × Int × Int) := (gO due_1); (Option.isSome due_1 = true) ∧ (W_settles rule_1 p_1.1) ∧ (List.length (cutA p_1.1 none (some p_1.2.1)) + List.length [p_1.2.2] ≤ 16777216) ∧ (List.length ((cutA p_1.1 none (some p_1.2.1)) ++ [p_1.2.2]) + List.length (cutA p_1.1 (some (p_1.2.1 + (1 : Int))) none) ≤ 16777216) ∧ (W_settles rule_1 (((cutA p_1.1 none (some p_1.2.1)) ++ [p_1.2.2]) ++ (cutA p_1.1 (some (p_1.2.1 + (1 : Int))) none))) ∧ ((decide ((F_settles rule_1 p_1.1) = (F_settles rule_1 (((cutA p_1.1 none (some p_1.2.1)) ++ [p_1.2.2]) ++ (cutA p_1.1 (some (p_1.2.1 + (1 : Int))) none))))) = false → (W__law_turned rule_1) ∧ (W_first_peak_gain (F__law_turned rule_1)))) ∧ ((!Option.isNone due_1) = false → (W__law_turned rule_1) ∧ (W_first_peak_gain (F__law_turned rule_1))))
theorem W__law_case_right_eq {hand : T} : W__law_case_right hand = (let r_1 : ((Int × Int × (List Int)) × T) := F__law_rule hand ; let rule_1 : (Int × Int × (List Int)) := r_1.1; let due_1 : (Option ((List Int) × Int × Int)) := (F__law_gain rule_1); let told_1 : (Option ((List Int) × Int × Int)) := (F_first_peak_gain rule_1); (W__law_rule hand ) ∧ (W__law_gain rule_1) ∧ (W_first_peak_gain rule_1) ∧ (W__law_is ((eO (eP3 (eT eI) eI eI)) told_1) ((eO (eP3 (eT eI) eI eI)) due_1)) ∧ ((!(F__law_is ((eO (eP3 (eT eI) eI eI)) told_1) ((eO (eP3 (eT eI) eI eI)) due_1))) = false → (W__law_own_levels rule_1)) ∧ (((!(F__law_is ((eO (eP3 (eT eI) eI eI)) told_1) ((eO (eP3 (eT eI) eI eI)) due_1))) || (!decide ((Option.isNone due_1) = (!Option.isNone (F__law_own_levels rule_1))))) = false → ((!Option.isNone due_1) = true → let p_1 : ((List Int) × Int × Int) := (gO due_1); (Option.isSome due_1 = true) ∧ (W_settles rule_1 p_1.1) ∧ (List.length (cutA p_1.1 none (some p_1.2.1)) + List.length [p_1.2.2] ≤ 16777216) ∧ (List.length ((cutA p_1.1 none (some p_1.2.1)) ++ [p_1.2.2]) + List.length (cutA p_1.1 (some (p_1.2.1 + (1 : Int))) none) ≤ 16777216) ∧ (W_settles rule_1 (((cutA p_1.1 none (some p_1.2.1)) ++ [p_1.2.2]) ++ (cutA p_1.1 (some (p_1.2.1 + (1 : Int))) none))) ∧ ((decide ((F_settles rule_1 p_1.1) = (F_settles rule_1 (((cutA p_1.1 none (some p_1.2.1)) ++ [p_1.2.2]) ++ (cutA p_1.1 (some (p_1.2.1 + (1 : Int))) none))))) = false → (W__law_turned rule_1) ∧ (W_first_peak_gain (F__law_turned rule_1)))) ∧ ((!Option.isNone due_1) = false → (W__law_turned rule_1) ∧ (W_first_peak_gain (F__law_turned rule_1))))) := rfl
theorem V__law_case_right {hand : T} (H : W__law_case_right hand) : G__law_case_right hand [] = some (T.sh (eB (F__law_case_right hand).1), (F__law_case_right hand).2) := by
  refine gio_ok rfl ?_
  show S B__law_case_right [.ow hand, .fr, .fr, .fr, .fr, .fr, .fr] _
  unfold B__law_case_right
  let r_1 : ((Int × Int × (List Int)) × T) := F__law_rule hand 
  let rule_1 : (Int × Int × (List Int)) := r_1.1
  let due_1 : (Option ((List Int) × Int × Int)) := (F__law_gain rule_1)
  let told_1 : (Option ((List Int) × Int × Int)) := (F_first_peak_gain rule_1)
  exact (s_seq (SV.cx (Γ2 := [.ow r_1.2, .sh ((eP3 eI eI (eT eI)) rule_1), .fr, .fr, .fr, .fr, .fr]) (sv_asg (ew_defIO av_nil rfl rfl (V__law_rule  (H.1))) (gw_n (s := .sh ((eP3 eI eI (eT eI)) rule_1)) rfl)) rfl) (s_seq (SV.cx (Γ2 := [.ow r_1.2, .sh ((eP3 eI eI (eT eI)) rule_1), .sh ((eO (eP3 (eT eI) eI eI)) due_1), .sh ((eO (eP3 (eT eI) eI eI)) told_1), .fr, .fr, .fr]) (sv_par (s1 := .sh ((eO (eP3 (eT eI) eI eI)) due_1)) (s2 := .sh ((eO (eP3 (eT eI) eI eI)) told_1)) (aw_cons (ew_def (av_cons (EW.sh (ew_v rfl)) av_nil) (V__law_gain  (H.2.1))) (aw_cons (ew_def (av_cons (EW.sh (ew_v rfl)) av_nil) (V_first_peak_gain  (H.2.2.1))) aw_nil)) rfl rfl) rfl) (s_ifseq (b := ((!(F__law_is ((eO (eP3 (eT eI) eI eI)) told_1) ((eO (eP3 (eT eI) eI eI)) due_1))) || (!decide ((Option.isNone due_1) = (!Option.isNone (F__law_own_levels rule_1)))))) (x := (false, r_1.2)) (y := (if (!Option.isNone due_1) = true then (let p_1 : ((List Int) × Int × Int) := (gO due_1); (if (decide ((F_settles rule_1 p_1.1) = (F_settles rule_1 (((cutA p_1.1 none (some p_1.2.1)) ++ [p_1.2.2]) ++ (cutA p_1.1 (some (p_1.2.1 + (1 : Int))) none))))) = true then ((false, r_1.2)) else (((decide ((Option.isNone (F_first_peak_gain (F__law_turned rule_1))) = (Option.isNone due_1))), r_1.2)))) else (((decide ((Option.isNone (F_first_peak_gain (F__law_turned rule_1))) = (Option.isNone due_1))), r_1.2)))) (fun (v : Bool × T) fl η => fl = .ret (T.sh (eB v.1)) ∧ η[0]? = some (some v.2)) (bv_or (bv_not (bv_tru (EW.sh (ew_def (av_cons (EW.sh (ew_v rfl)) (av_cons (EW.sh (ew_v rfl)) av_nil)) (V__law_is  (H.2.2.2.1)))) rfl)) (fun hb => (have H1 := (H.2.2.2.2.1) hb; (bv_t (ew_bin (EW.sh (ew_binL (EW.sh ew_c) rfl rfl (o_isO (e := (eP3 (eT eI) eI eI)) (fun _ => rfl)))) (EW.sh (ew_bin (EW.sh (ew_def (av_cons (EW.sh (ew_v rfl)) av_nil) (V__law_own_levels  H1))) (EW.sh ew_c) (o_isnotO (e := (eT eI)) (fun _ => rfl)))) (o_ne (e := eB) cm_b))))) (by first | exact Le.refl _ | (repeat (first | exact trivial | exact rfl | apply And.intro)))) (fun hb => (s_stop (s_ret ew_c (fun η k => ⟨(by rintro ⟨⟩), ⟨rfl, tk_get k (i := 0) rfl⟩⟩)))) (fun hb => (have H7 := (H.2.2.2.2.2) hb; (s_nilseq (s_ifseq (b := (!Option.isNone due_1)) (x := let p_1 : ((List Int) × Int × Int) := (gO due_1); (if (decide ((F_settles rule_1 p_1.1) = (F_settles rule_1 (((cutA p_1.1 none (some p_1.2.1)) ++ [p_1.2.2]) ++ (cutA p_1.1 (some (p_1.2.1 + (1 : Int))) none))))) = true then ((false, r_1.2)) else (((decide ((Option.isNone (F_first_peak_gain (F__law_turned rule_1))) = (Option.isNone due_1))), r_1.2)))) (y := ((decide ((Option.isNone (F_first_peak_gain (F__law_turned rule_1))) = (Option.isNone due_1))), r_1.2)) (fun (v : Bool × T) fl η => fl = .ret (T.sh (eB v.1)) ∧ η[0]? = some (some v.2)) (bv_t (ew_binL (EW.sh ew_c) rfl rfl (o_isnotO (e := (eP3 (eT eI) eI eI)) (fun _ => rfl)))) (fun hb => (have H4 := (H7.1) hb; let p_1 : ((List Int) × Int × Int) := (gO due_1); (s_assoc (s_seq (SV.cx (Γ2 := [.ow r_1.2, .sh ((eP3 eI eI (eT eI)) rule_1), .sh ((eO (eP3 (eT eI) eI eI)) due_1), .sh ((eO (eP3 (eT eI) eI eI)) told_1), .sh ((eT eI) p_1.1), .sh (eI p_1.2.1), .sh (eI p_1.2.2)]) (sv_asg (EW.as (ew_v rfl) (eO_gO (e := (eP3 (eT eI) eI eI)) (H4.1))) (gw_tup (gws_cons (gw_n (s := .sh _) rfl) (gws_cons (gw_n (s := .sh _) rfl) (gws_cons (gw_n (s := .sh _) rfl) gws_nil))) rfl rfl)) rfl) (s_ifseq (b := (decide ((F_settles rule_1 p_1.1) = (F_settles rule_1 (((cutA p_1.1 none (some p_1.2.1)) ++ [p_1.2.2]) ++ (cutA p_1.1 (some (p_1.2.1 + (1 : Int))) none)))))) (x := (false, r_1.2)) (y := ((decide ((Option.isNone (F_first_peak_gain (F__law_turned rule_1))) = (Option.isNone due_1))), r_1.2)) (fun (v : Bool × T) fl η => fl = .ret (T.sh (eB v.1)) ∧ η[0]? = some (some v.2)) (bv_t (ew_bin (EW.sh (ew_def (av_cons (EW.sh (ew_v rfl)) (av_cons (EW.sh (ew_v rfl)) av_nil)) (V_settles  (H4.2.1)))) (EW.sh (ew_def (av_cons (EW.sh (ew_v rfl)) (av_cons (EW.sh (ew_bin (EW.sh (ew_bin (EW.sh (ew_slV rfl ov_none (ov_some (ew_v rfl)) rfl (o_slT (e := eI)))) (EW.sh (EW.as (t' := .sh ((eT eI) [p_1.2.2])) (ew_tup (av_cons (EW.sh (ew_v rfl)) av_nil)) rfl)) (o_addT (e := eI) (H4.2.2.1)))) (EW.sh (ew_slV rfl (ov_some (ew_binL (EW.sh ew_c) rfl rfl o_addI)) ov_none rfl (o_slT (e := eI)))) (o_addT (e := eI) (H4.2.2.2.1)))) av_nil)) (V_settles  (H4.2.2.2.2.1)))) (o_eq (e := eI) cm_i))) (fun hb => (s_stop (s_ret ew_c (fun η k => ⟨(by rintro ⟨⟩), ⟨rfl, tk_get k (i := 0) rfl⟩⟩)))) (fun hb => (have H3 := (H4.2.2.2.2.2) hb; (s_nilseq (s_ret (ew_bin (EW.sh (ew_bin (EW.sh (ew_def (av_cons (EW.sh (ew_def (av_cons (EW.sh (ew_v rfl)) av_nil) (V__law_turned  (H3.1)))) av_nil) (V_first_peak_gain  (H3.2)))) (EW.sh ew_c) (o_isO (e := (eP3 (eT eI) eI eI)) (fun _ => rfl)))) (EW.sh (ew_binL (EW.sh ew_c) rfl rfl (o_isO (e := (eP3 (eT eI) eI eI)) (fun _ => rfl)))) (o_eq (e := eB) cm_b)) (fun η k => ⟨rfl, tk_get k (i := 0) rfl⟩)))))))))) (fun hb => (have H5 := (H7.2) hb; (s_nilseq (s_ret (ew_bin (EW.sh (ew_bin (EW.sh (ew_def (av_cons (EW.sh (ew_def (av_cons (EW.sh (ew_v rfl)) av_nil) (V__law_turned  (H5.1)))) av_nil) (V_first_peak_gain  (H5.2)))) (EW.sh ew_c) (o_isO (e := (eP3 (eT eI) eI eI)) (fun _ => rfl)))) (EW.sh (ew_binL (EW.sh ew_c) rfl rfl (o_isO (e := (eP3 (eT eI) eI eI)) (fun _ => rfl)))) (o_eq (e := eB) cm_b)) (fun η k => ⟨rfl, tk_get k (i := 0) rfl⟩))))))))))))
def F_in_lot (number : Int) (voter : Int) : Bool := (decide ((Builtin.bitAnd (number / 2 ^ Int.toNat voter) (1 : Int)) = (1 : Int)))
def W_in_lot (number : Int) (voter : Int) : Prop := (0 ≤ voter)
theorem W_in_lot_eq {number : Int} {voter : Int} : W_in_lot number voter = ((0 ≤ voter)) := rfl
theorem V_in_lot {number : Int} {voter : Int} (H : W_in_lot number voter) : G_in_lot [eI number, eI voter] = some (T.sh (eB (F_in_lot number voter))) := by
  refine gp_ok rfl ?_
  show S B_in_lot [.sh (eI number), .sh (eI voter)] _
  unfold B_in_lot
  exact (s_ret (ew_bin (EW.sh (ew_bin (EW.sh (ew_binLR rfl rfl (o_shr H))) (EW.sh ew_c) o_band)) (EW.sh ew_c) (o_eq (e := eI) cm_i)) (fun η k => rfl))
def F_are_levels_s1 (thing : (List Int)) (x_2 : (Int × Int)) (s_2 : Unit) (x_3 : Int) : (Lp Unit Bool) := (if ((!(F_in_lot x_2.1 x_3)) && (decide (x_2.2 < (gx thing (Builtin.bitOr x_2.1 ((1 : Int) * 2 ^ Int.toNat x_3)))))) = true then ((.ret false)) else ((.nx ())))
def W_are_levels_s1 (thing : (List Int)) (x_2 : (Int × Int)) (s_2 : Unit) (x_3 : Int) : Prop := (W_in_lot x_2.1 x_3) ∧ ((!(F_in_lot x_2.1 x_3)) = true → (0 ≤ x_3 ∧ x_3 ≤ 1000000 ∧ Int.natAbs (1 : Int) < 18446744073709551616) ∧ (ixOk (List.length thing) (Builtin.bitOr x_2.1 ((1 : Int) * 2 ^ Int.toNat x_3))))
def F_are_levels_s2 (voters : Int) (thing : (List Int)) (s_1 : Unit) (x_2 : (Int × Int)) : (Lp Unit Bool) := let e_1 : (Except Bool Unit) := (foldL (F_are_levels_s1 thing x_2) () (rgI 0 voters)); (exC e_1 (fun z_1 : Unit => (.nx ())) (fun r_1 : Bool => .ret r_1))
def W_are_levels_s2 (voters : Int) (thing : (List Int)) (s_1 : Unit) (x_2 : (Int × Int)) : Prop := let e_1 : (Except Bool Unit) := (foldL (F_are_levels_s1 thing x_2) () (rgI 0 voters)); (rg62 voters = true) ∧ (WFoldL (F_are_levels_s1 thing x_2) (W_are_levels_s1 thing x_2) () (rgI 0 voters))
def F_are_levels (voters : Int) (points : Int) (thing : (List Int)) : Bool := (if ((!(F_is_table thing ((1 : Int) * 2 ^ Int.toNat voters))) || (!(List.all (List.map (fun x_1 => (F_is_within x_1 (0 : Int) (points - (1 : Int)))) thing) id))) = true then (false) else (let e_2 : (Except Bool Unit) := (foldL (F_are_levels_s2 voters thing) () (enumI thing)); (exC e_2 (fun z_2 : Unit => true) (fun r_2 : Bool => r_2))))
def W_are_levels (voters : Int) (points : Int) (thing : (List Int)) : Prop := (0 ≤ voters ∧ voters ≤ 1000000 ∧ Int.natAbs (1 : Int) < 18446744073709551616) ∧ ((!(F_is_table thing ((1 : Int) * 2 ^ Int.toNat voters))) = false → (List.length thing < 16777216)) ∧ (((!(F_is_table thing ((1 : Int) * 2 ^ Int.toNat voters))) || (!(List.all (List.map (fun x_1 => (F_is_within x_1 (0 : Int) (points - (1 : Int)))) thing) id))) = false → let e_2 : (Except Bool Unit) := (foldL (F_are_levels_s2 voters thing) () (enumI thing)); (WFoldL (F_are_levels_s2 voters thing) (W_are_levels_s2 voters thing) () (enumI thing)))
theorem W_are_levels_eq {voters : Int} {points : Int} {thing : (List Int)} : W_are_levels voters points thing = ((0 ≤ voters ∧ voters ≤ 1000000 ∧ Int.natAbs (1 : Int) < 18446744073709551616) ∧ ((!(F_is_table thing ((1 : Int) * 2 ^ Int.toNat voters))) = false → (List.length thing < 16777216)) ∧ (((!(F_is_table thing ((1 : Int) * 2 ^ Int.toNat voters))) || (!(List.all (List.map (fun x_1 => (F_is_within x_1 (0 : Int) (points - (1 : Int)))) thing) id))) = false → let e_2 : (Except Bool Unit) := (foldL (F_are_levels_s2 voters thing) () (enumI thing)); (WFoldL (F_are_levels_s2 voters thing) (W_are_levels_s2 voters thing) () (enumI thing)))) := rfl
theorem V_are_levels {voters : Int} {points : Int} {thing : (List Int)} (H : W_are_levels voters points thing) : G_are_levels [eI voters, eI points, (eT eI) thing] = some (T.sh (eB (F_are_levels voters points thing))) := by
  refine gp_ok rfl ?_
  show S B_are_levels [.sh (eI voters), .sh (eI points), .sh ((eT eI) thing), .fr, .fr, .fr] _
  unfold B_are_levels
  exact (s_ifseq (fun (v : Bool) fl _ => fl = .ret (T.sh (eB v))) (bv_or (bv_not (bv_tru (EW.sh (ew_def (av_cons (EW.sh (ew_v rfl)) (av_cons (EW.sh (ew_binR (EW.sh ew_c) rfl (o_shl (H.1)))) av_nil)) (V_is_table  trivial))) rfl)) (fun hb => (have H2 := (H.2.1) hb; (bv_not (bv_tru (EW.sh (ew_call (av_cons (EW.od (EW.mapE (e := eB) (ew_compVM (l := thing) (e := eI) (r := fun x_1 => T.sh (eB (F_is_within x_1 (0 : Int) (points - (1 : Int))))) rfl rfl rfl H2 (free_own (by rfl)) (fun x_1 hx => item1 (gw_n (s := .sh _) rfl) (ew_def (av_cons (EW.sh (ew_v rfl)) (av_cons (EW.sh ew_c) (av_cons (EW.sh (ew_binL (EW.sh ew_c) rfl rfl o_subI)) av_nil))) (V_is_within  trivial)) (by first | exact Le.refl _ | (repeat (first | exact trivial | exact rfl | apply And.intro))))))) av_nil) o_all)) rfl)))) (by first | exact Le.refl _ | (repeat (first | exact trivial | exact rfl | apply And.intro)))) (fun hb => (s_stop (s_ret ew_c (fun η k => ⟨(by rintro ⟨⟩), rfl⟩)))) (fun hb => (have H10 := (H.2.2) hb; let e_2 : (Except Bool Unit) := (foldL (F_are_levels_s2 voters thing) () (enumI thing)); (s_nilseq (s_seqX (M := (fun (v : Bool) fl _ => fl = .ret (T.sh (eB v)))) (fun z_2 : Unit => true) (fun r_2 : Bool => r_2) (s_for (l := (enumI thing)) (e := (eP eI eI)) (G := (fun s_1 : Unit => [.sh (eI voters), .sh (eI points), .sh ((eT eI) thing), .fr, .fr, .fr])) (s0 := ()) (step := (F_are_levels_s2 voters thing)) (W := (W_are_levels_s2 voters thing)) (R := (fun (v : Bool) _ t => t = T.sh (eB v))) (IV.as (iv_en (EW.sh (ew_v rfl)) rfl) (enumD_map (e := eI) _)) (by first | exact Le.refl _ | (repeat (first | exact trivial | exact rfl | apply And.intro))) H10 (fun s_1 x_2 H7 => let e_1 : (Except Bool Unit) := (foldL (F_are_levels_s1 thing x_2) () (rgI 0 voters)); turn (gw_tup (gws_cons (gw_n (s := .sh _) rfl) (gws_cons (gw_n (s := .sh _) rfl) gws_nil)) rfl rfl) (s_endX (M := (LpP (fun _ : Unit => [.sh (eI voters), .sh (eI points), .sh ((eT eI) thing), .fr, .fr, .fr]) (fun (v : Bool) _ t => t = T.sh (eB v)))) (fun z_1 : Unit => (.nx ())) (fun r_1 : Bool => .ret r_1) (s_for (l := (rgI 0 voters)) (e := eI) (G := (fun s_2 : Unit => [.sh (eI voters), .sh (eI points), .sh ((eT eI) thing), .sh (eI x_2.2), .sh (eI x_2.1), .fr])) (s0 := ()) (step := (F_are_levels_s1 thing x_2)) (W := (W_are_levels_s1 thing x_2)) (R := (fun (v : Bool) _ t => t = T.sh (eB v))) (IV.as (iv_r1 (ew_v rfl) (H7.1)) (rgD_map _ _)) (by first | exact Le.refl _ | (repeat (first | exact trivial | exact rfl | apply And.intro))) (H7.2) (fun s_2 x_3 H6 => turn (gw_n (s := .sh _) rfl) (s_if (LpP (fun _ : Unit => [.sh (eI voters), .sh (eI points), .sh ((eT eI) thing), .sh (eI x_2.2), .sh (eI x_2.1), .fr]) (fun (v : Bool) _ t => t = T.sh (eB v))) (bv_and (bv_not (bv_tru (EW.sh (ew_def (av_cons (EW.sh (ew_v rfl)) (av_cons (EW.sh (ew_v rfl)) av_nil)) (V_in_lot  (H6.1)))) rfl)) (fun hb => (have H3 := (H6.2) hb; (bv_t (ew_binR (EW.sh (ew_binL (EW.sh (ew_binL (EW.sh (ew_binR (EW.sh ew_c) rfl (o_shl (H3.1)))) rfl rfl o_bor)) rfl rfl (o_ixT (e := eI) (H3.2)))) rfl o_gtI)))) (by first | exact Le.refl _ | (repeat (first | exact trivial | exact rfl | apply And.intro)))) (fun hb => (s_ret ew_c (fun η k => ⟨_, rfl, rfl⟩))) (fun hb => (s_of sv_nil (fun η k => ⟨.inl rfl, Le.sat (by first | exact Le.refl _ | (repeat (first | exact trivial | exact rfl | apply And.intro))) k⟩)))))) (fun r η t h => ⟨t, rfl, h⟩) (fun z_1 => (fun η k => ⟨.inl rfl, Le.sat (by first | exact Le.refl _ | (repeat (first | exact trivial | exact rfl | apply And.intro))) k⟩))))) (fun r η t h => by rw [h]) (fun z_2 hs => (s_ret ew_c (fun η k => rfl))))))))
def F_point_by_s1 (peaks : (List Int)) (s_1 : ((List Int))) (x_1 : (Int × Int)) : ((List Int)) := let found_2 : (List Int) := (s_1 ++ [(maxL ([x_1.2] ++ (List.map (fun x_3 => x_3.2) (List.filter (fun x_3 => (F_in_lot x_1.1 x_3.1)) (enumI peaks)))))]); found_2
def W_point_by_s1 (peaks : (List Int)) (s_1 : ((List Int))) (x_1 : (Int × Int)) : Prop := let found_2 : (List Int) := (s_1 ++ [(maxL ([x_1.2] ++ (List.map (fun x_3 => x_3.2) (List.filter (fun x_3 => (F_in_lot x_1.1 x_3.1)) (enumI peaks)))))]); (List.length (enumI peaks) < 16777216) ∧ (∀ x_3 ∈ (enumI peaks), (W_in_lot x_1.1 x_3.1)) ∧ (List.length [x_1.2] + List.length (List.map (fun x_3 => x_3.2) (List.filter (fun x_3 => (F_in_lot x_1.1 x_3.1)) (enumI peaks))) ≤ 16777216) ∧ (([x_1.2] ++ (List.map (fun x_3 => x_3.2) (List.filter (fun x_3 => (F_in_lot x_1.1 x_3.1)) (enumI peaks)))) ≠ []) ∧ (List.length s_1 < 16777216)
def F_point_by (levels : (List Int)) (peaks : (List Int)) : Int := let found_1 : (List Int) := ([] : List Int); let m_1 : ((List Int)) := List.foldl (F_point_by_s1 peaks) found_1 (enumI levels); (minL m_1)
def W_point_by (levels : (List Int)) (peaks : (List Int)) : Prop := let found_1 : (List Int) := ([] : List Int); let m_1 : ((List Int)) := List.foldl (F_point_by_s1 peaks) found_1 (enumI levels); (WFold (F_point_by_s1 peaks) (W_point_by_s1 peaks) found_1 (enumI levels)) ∧ (m_1 ≠ [])
theorem W_point_by_eq {levels : (List Int)} {peaks : (List Int)} : W_point_by levels peaks = (let found_1 : (List Int) := ([] : List Int); let m_1 : ((List Int)) := List.foldl (F_point_by_s1 peaks) found_1 (enumI levels); (WFold (F_point_by_s1 peaks) (W_point_by_s1 peaks) found_1 (enumI levels)) ∧ (m_1 ≠ [])) := rfl
theorem V_point_by {levels : (List Int)} {peaks : (List Int)} (H : W_point_by levels peaks) : G_point_by [(eT eI) levels, (eT eI) peaks] = some (T.sh (eI (F_point_by levels peaks))) := by
  refine gp_ok rfl ?_
  show S B_point_by [.sh ((eT eI) levels), .sh ((eT eI) peaks), .fr, .fr, .fr, .fr, .fr] _
  unfold B_point_by
  let found_1 : (List Int) := ([] : List Int)
  let m_1 : ((List Int)) := List.foldl (F_point_by_s1 peaks) found_1 (enumI levels)
  exact (s_seq (SV.cx (Γ2 := [.sh ((eT eI) levels), .sh ((eT eI) peaks), .od (List.map eI found_1), .fr, .fr, .fr, .fr]) (sv_asg (EW.as (t' := .lst (List.map T.sh (List.map eI ([] : List Int)))) (ew_lst aw_nil) rfl) (gw_n (s := .od (List.map eI found_1)) rfl)) rfl) (s_seq (SV.cx (Γ2 := [.sh ((eT eI) levels), .sh ((eT eI) peaks), .od (List.map eI m_1), .fr, .fr, .fr, .fr]) (sv_for (l := (enumI levels)) (e := (eP eI eI)) (G := (fun s_1 : ((List Int)) => [.sh ((eT eI) levels), .sh ((eT eI) peaks), .od (List.map eI s_1), .fr, .fr, .fr, .fr])) (s0 := found_1) (step := (F_point_by_s1 peaks)) (W := (W_point_by_s1 peaks)) (IV.as (iv_en (EW.sh (ew_v rfl)) rfl) (enumD_map (e := eI) _)) (by first | exact Le.refl _ | (repeat (first | exact trivial | exact rfl | apply And.intro))) (H.1) (fun s_1 x_1 H5 => let found_2 : (List Int) := (s_1 ++ [(maxL ([x_1.2] ++ (List.map (fun x_3 => x_3.2) (List.filter (fun x_3 => (F_in_lot x_1.1 x_3.1)) (enumI peaks)))))]); turn (gw_tup (gws_cons (gw_n (s := .sh _) rfl) (gws_cons (gw_n (s := .sh _) rfl) gws_nil)) rfl rfl) (s_of (SV.cx (Γ2 := [.sh ((eT eI) levels), .sh ((eT eI) peaks), .od (List.map eI found_2), .sh (eI x_1.1), .sh (eI x_1.2), .fr, .fr]) (sv_expr (ew_mt1 (s := .od (List.map eI (s_1 ++ [(maxL ([x_1.2] ++ (List.map (fun x_3 => x_3.2) (List.filter (fun x_3 => (F_in_lot x_1.1 x_3.1)) (enumI peaks)))))]))) rfl (ew_call (av_cons (EW.od (ew_bin (EW.od (EW.as (t' := .lst (List.map T.sh (List.map eI [x_1.2]))) (ew_lst (aw_cons (ew_v rfl) aw_nil)) rfl)) (EW.od (EW.mapE (e := eI) (ew_comp (l := (enumI peaks)) (e := (eP eI eI)) (c := fun x_3 => (F_in_lot x_1.1 x_3.1)) (r := fun x_3 => T.sh (eI x_3.2)) (IV.as (iv_en (EW.sh (ew_v rfl)) rfl) (enumD_map (e := eI) _)) (H5.1) (free_own (by rfl)) (fun x_3 hx => have H3 := (H5.2.1) x_3 hx; item (gw_tup (gws_cons (gw_n (s := .sh _) rfl) (gws_cons (gw_n (s := .sh _) rfl) gws_nil)) rfl rfl) (bv_tru (EW.sh (ew_def (av_cons (EW.sh (ew_v rfl)) (av_cons (EW.sh (ew_v rfl)) av_nil)) (V_in_lot  H3))) rfl) (fun _ => (by first | exact Le.refl _ | (repeat (first | exact trivial | exact rfl | apply And.intro)))) (fun hb => (ew_v rfl)) (by first | exact Le.refl _ | (repeat (first | exact trivial | exact rfl | apply And.intro))))))) (o_addL (e := eI) (H5.2.2.1)))) av_nil) (o_maxLI (H5.2.2.2.1))) rfl (mAppend_map (e := eI) (v := (maxL ([x_1.2] ++ (List.map (fun x_3 => x_3.2) (List.filter (fun x_3 => (F_in_lot x_1.1 x_3.1)) (enumI peaks)))))) (H5.2.2.2.2)) rfl)) rfl) (fun η k => ⟨.inl rfl, Le.sat (by first | exact Le.refl _ | (repeat (first | exact trivial | exact rfl | apply And.intro))) k⟩)))) rfl) (s_ret (ew_callV rfl (o_minLI (H.2))) (fun η k => rfl))))
def F_made_by (voters : Int) (points : Int) (levels : (List Int)) : (Int × Int × (List Int)) := (voters, points, (List.map (fun x_1 => (F_point_by levels x_1)) (F_all_peaks voters points)))
def W_made_by (voters : Int) (points : Int) (levels : (List Int)) : Prop := ((!(F_is_within voters (1 : Int) (4 : Int))) = false) ∧ ((!(F_is_within points (2 : Int) (6 : Int))) = false) ∧ (W_how_many voters points) ∧ ((decide ((1300 : Int) < (F_how_many voters points))) = false) ∧ (W_are_levels voters points levels) ∧ ((!(F_are_levels voters points levels)) = false) ∧ (W_all_peaks voters points) ∧ (List.length (F_all_peaks voters points) < 16777216) ∧ (∀ x_1 ∈ (F_all_peaks voters points), (W_point_by levels x_1))
theorem W_made_by_eq {voters : Int} {points : Int} {levels : (List Int)} : W_made_by voters points levels = (((!(F_is_within voters (1 : Int) (4 : Int))) = false) ∧ ((!(F_is_within points (2 : Int) (6 : Int))) = false) ∧ (W_how_many voters points) ∧ ((decide ((1300 : Int) < (F_how_many voters points))) = false) ∧ (W_are_levels voters points levels) ∧ ((!(F_are_levels voters points levels)) = false) ∧ (W_all_peaks voters points) ∧ (List.length (F_all_peaks voters points) < 16777216) ∧ (∀ x_1 ∈ (F_all_peaks voters points), (W_point_by levels x_1))) := rfl
theorem V_made_by {voters : Int} {points : Int} {levels : (List Int)} (H : W_made_by voters points levels) : G_made_by [eI voters, eI points, (eT eI) levels] = some (T.sh ((eP3 eI eI (eT eI)) (F_made_by voters points levels))) := by
  refine gp_ok rfl ?_
  show S B_made_by [.sh (eI voters), .sh (eI points), .sh ((eT eI) levels), .fr] _
  unfold B_made_by
  exact (s_ifseqF (bv_not (bv_tru (EW.sh (ew_def (av_cons (EW.sh (ew_v rfl)) (av_cons (EW.sh ew_c) (av_cons (EW.sh ew_c) av_nil))) (V_is_within  trivial))) rfl)) (H.1) (s_nilseq (s_ifseqF (bv_not (bv_tru (EW.sh (ew_def (av_cons (EW.sh (ew_v rfl)) (av_cons (EW.sh ew_c) (av_cons (EW.sh ew_c) av_nil))) (V_is_within  trivial))) rfl)) (H.2.1) (s_nilseq (s_ifseqF (bv_t (ew_bin (EW.sh (ew_def (av_cons (EW.sh (ew_v rfl)) (av_cons (EW.sh (ew_v rfl)) av_nil)) (V_how_many  (H.2.2.1)))) (EW.sh ew_c) o_gtI)) (H.2.2.2.1) (s_nilseq (s_ifseqF (bv_not (bv_tru (EW.sh (ew_def (av_cons (EW.sh (ew_v rfl)) (av_cons (EW.sh (ew_v rfl)) (av_cons (EW.sh (ew_v rfl)) av_nil))) (V_are_levels  (H.2.2.2.2.1)))) rfl)) (H.2.2.2.2.2.1) (s_nilseq (s_ret (EW.as (t' := .sh ((eP3 eI eI (eT eI)) (voters, points, (List.map (fun x_1 => (F_point_by levels x_1)) (F_all_peaks voters points))))) (ew_tup (av_cons (EW.sh (ew_v rfl)) (av_cons (EW.sh (ew_v rfl)) (av_cons (EW.sh (ew_call (av_cons (EW.od (EW.mapE (e := eI) (ew_compM (l := (F_all_peaks voters points)) (e := (eT eI)) (r := fun x_1 => T.sh (eI (F_point_by levels x_1))) (iv_e (ed_def (av_cons (EW.sh (ew_v rfl)) (av_cons (EW.sh (ew_v rfl)) av_nil)) (V_all_peaks  (H.2.2.2.2.2.2.1))) rfl) (H.2.2.2.2.2.2.2.1) (free_own (by rfl)) (fun x_1 hx => have H1 := (H.2.2.2.2.2.2.2.2) x_1 hx; item1 (gw_n (s := .sh _) rfl) (ew_def (av_cons (EW.sh (ew_v rfl)) (av_cons (EW.sh (ew_v rfl)) av_nil)) (V_point_by  H1)) (by first | exact Le.refl _ | (repeat (first | exact trivial | exact rfl | apply And.intro))))))) av_nil) (o_tupL (e := eI)))) av_nil)))) rfl) (fun η k => rfl))))))))))
def F_law_s1  (s_1 : (T)) (x_1 : Int) : (Lp (T) Bool) := let r_1 : (Bool × T) := F__law_case_right s_1 ; (if (!r_1.1) = true then ((.ret false)) else ((.nx r_1.2)))
def W_law_s1  (s_1 : (T)) (x_1 : Int) : Prop := let r_1 : (Bool × T) := F__law_case_right s_1 ; (W__law_case_right s_1 )
def F_law (script : (List Int)) : Bool := let hand_1 : T := (F__law_hand script); let e_1 : (Except Bool (T)) := (foldL F_law_s1 hand_1 (rgI 0 (4 : Int))); (exC e_1 (fun z_1 : (T) => let r_2 : ((List Int) × T) := F__law_levels z_1 (2 : Int) (3 : Int); let made_1 : (Int × Int × (List Int)) := (F_made_by (2 : Int) (3 : Int) r_2.1); let told_1 : (List PyData) := [((eO (eP3 (eT eI) eI eI)) (F_first_peak_gain ((1 : Int), (2 : Int), [(1 : Int), (0 : Int)]))), ((eO (eP3 (eT eI) eI eI)) (F_first_peak_gain ((1 : Int), (3 : Int), [(0 : Int), (2 : Int), (2 : Int)]))), ((eO (eP3 (eT eI) eI eI)) (F_first_peak_gain made_1))]; (F__law_is ((eL eD) told_1) ((eL (eO (eP3 (eT eI) eI eI))) [(some ([(0 : Int)], (0 : Int), (1 : Int))), (some ([(1 : Int)], (0 : Int), (0 : Int))), (none : (Option ((List Int) × Int × Int)))]))) (fun r_3 : Bool => r_3))
def W_law (script : (List Int)) : Prop := let hand_1 : T := (F__law_hand script); let e_1 : (Except Bool (T)) := (foldL F_law_s1 hand_1 (rgI 0 (4 : Int))); (W__law_hand script) ∧ (WFoldL F_law_s1 W_law_s1 hand_1 (rgI 0 (4 : Int))) ∧ (∀ z_1, e_1 = .ok z_1 → let r_2 : ((List Int) × T) := F__law_levels z_1 (2 : Int) (3 : Int); let made_1 : (Int × Int × (List Int)) := (F_made_by (2 : Int) (3 : Int) r_2.1); let told_1 : (List PyData) := [((eO (eP3 (eT eI) eI eI)) (F_first_peak_gain ((1 : Int), (2 : Int), [(1 : Int), (0 : Int)]))), ((eO (eP3 (eT eI) eI eI)) (F_first_peak_gain ((1 : Int), (3 : Int), [(0 : Int), (2 : Int), (2 : Int)]))), ((eO (eP3 (eT eI) eI eI)) (F_first_peak_gain made_1))]; (W__law_levels z_1 (2 : Int) (3 : Int)) ∧ (W_made_by (2 : Int) (3 : Int) r_2.1) ∧ (W_first_peak_gain ((1 : Int), (2 : Int), [(1 : Int), (0 : Int)])) ∧ (W_first_peak_gain ((1 : Int), (3 : Int), [(0 : Int), (2 : Int), (2 : Int)])) ∧ (W_first_peak_gain made_1) ∧ (W__law_is ((eL eD) told_1) ((eL (eO (eP3 (eT eI) eI eI))) [(some ([(0 : Int)], (0 : Int), (1 : Int))), (some ([(1 : Int)], (0 : Int), (0 : Int))), (none : (Option ((List Int) × Int × Int)))])))
theorem W_law_eq {script : (List Int)} : W_law script = (let hand_1 : T := (F__law_hand script); let e_1 : (Except Bool (T)) := (foldL F_law_s1 hand_1 (rgI 0 (4 : Int))); (W__law_hand script) ∧ (WFoldL F_law_s1 W_law_s1 hand_1 (rgI 0 (4 : Int))) ∧ (∀ z_1, e_1 = .ok z_1 → let r_2 : ((List Int) × T) := F__law_levels z_1 (2 : Int) (3 : Int); let made_1 : (Int × Int × (List Int)) := (F_made_by (2 : Int) (3 : Int) r_2.1); let told_1 : (List PyData) := [((eO (eP3 (eT eI) eI eI)) (F_first_peak_gain ((1 : Int), (2 : Int), [(1 : Int), (0 : Int)]))), ((eO (eP3 (eT eI) eI eI)) (F_first_peak_gain ((1 : Int), (3 : Int), [(0 : Int), (2 : Int), (2 : Int)]))), ((eO (eP3 (eT eI) eI eI)) (F_first_peak_gain made_1))]; (W__law_levels z_1 (2 : Int) (3 : Int)) ∧ (W_made_by (2 : Int) (3 : Int) r_2.1) ∧ (W_first_peak_gain ((1 : Int), (2 : Int), [(1 : Int), (0 : Int)])) ∧ (W_first_peak_gain ((1 : Int), (3 : Int), [(0 : Int), (2 : Int), (2 : Int)])) ∧ (W_first_peak_gain made_1) ∧ (W__law_is ((eL eD) told_1) ((eL (eO (eP3 (eT eI) eI eI))) [(some ([(0 : Int)], (0 : Int), (1 : Int))), (some ([(1 : Int)], (0 : Int), (0 : Int))), (none : (Option ((List Int) × Int × Int)))])))) := rfl
theorem V_law {script : (List Int)} (H : W_law script) : G_law [(eL eI) script] = some (T.sh (eB (F_law script))) := by
  refine gp_ok rfl ?_
  show S B_law [.sh ((eL eI) script), .fr, .fr, .fr, .fr] _
  unfold B_law
  let hand_1 : T := (F__law_hand script)
  let e_1 : (Except Bool (T)) := (foldL F_law_s1 hand_1 (rgI 0 (4 : Int)))
  have hF : (F_law script) = (exC e_1 (fun z_1 : (T) => let r_2 : ((List Int) × T) := F__law_levels z_1 (2 : Int) (3 : Int); let made_1 : (Int × Int × (List Int)) := (F_made_by (2 : Int) (3 : Int) r_2.1); let told_1 : (List PyData) := [((eO (eP3 (eT eI) eI eI)) (F_first_peak_gain ((1 : Int), (2 : Int), [(1 : Int), (0 : Int)]))), ((eO (eP3 (eT eI) eI eI)) (F_first_peak_gain ((1 : Int), (3 : Int), [(0 : Int), (2 : Int), (2 : Int)]))), ((eO (eP3 (eT eI) eI eI)) (F_first_peak_gain made_1))]; (F__law_is ((eL eD) told_1) ((eL (eO (eP3 (eT eI) eI eI))) [(some ([(0 : Int)], (0 : Int), (1 : Int))), (some ([(1 : Int)], (0 : Int), (0 : Int))), (none : (Option ((List Int) × Int × Int)))]))) (fun r_3 : Bool => r_3)) := rfl
  rw [hF]
  exact (s_seq (SV.cx (Γ2 := [.sh ((eL eI) script), .ow hand_1, .fr, .fr, .fr]) (sv_asg (ew_def (av_cons (EW.sh (ew_v rfl)) av_nil) (V__law_hand  (H.1))) (gw_n (s := .ow hand_1) rfl)) rfl) (s_seqX (M := (fun (v : Bool) fl _ => fl = .ret (T.sh (eB v)))) (fun z_1 : (T) => let r_2 : ((List Int) × T) := F__law_levels z_1 (2 : Int) (3 : Int); let made_1 : (Int × Int × (List Int)) := (F_made_by (2 : Int) (3 : Int) r_2.1); let told_1 : (List PyData) := [((eO (eP3 (eT eI) eI eI)) (F_first_peak_gain ((1 : Int), (2 : Int), [(1 : Int), (0 : Int)]))), ((eO (eP3 (eT eI) eI eI)) (F_first_peak_gain ((1 : Int), (3 : Int), [(0 : Int), (2 : Int), (2 : Int)]))), ((eO (eP3 (eT eI) eI eI)) (F_first_peak_gain made_1))]; (F__law_is ((eL eD) told_1) ((eL (eO (eP3 (eT eI) eI eI))) [(some ([(0 : Int)], (0 : Int), (1 : Int))), (some ([(1 : Int)], (0 : Int), (0 : Int))), (none : (Option ((List Int) × Int × Int)))]))) (fun r_3 : Bool => r_3) (s_for (l := (rgI 0 (4 : Int))) (e := eI) (G := (fun s_1 : (T) => [.sh ((eL eI) script), .ow s_1, .fr, .fr, .fr])) (s0 := hand_1) (step := F_law_s1) (W := W_law_s1) (R := (fun (v : Bool) _ t => t = T.sh (eB v))) (IV.as (iv_r1 ew_c rfl) (rgD_map _ _)) (by first | exact Le.refl _ | (repeat (first | exact trivial | exact rfl | apply And.intro))) (H.2.1) (fun s_1 x_1 H3 => let r_1 : (Bool × T) := F__law_case_right s_1 ; turn (gw_n (s := .sh _) rfl) (s_if (b := (!r_1.1)) (x := ((.ret false) : Lp (T) Bool)) (y := ((.nx r_1.2) : Lp (T) Bool)) (LpP (fun s_1 : (T) => [.sh ((eL eI) script), .ow s_1, .fr, .fr, .fr]) (fun (v : Bool) _ t => t = T.sh (eB v))) (bv_not (bv_tru (EW.sh (ew_defIO av_nil rfl rfl (V__law_case_right  H3))) rfl)) (fun hb => (s_ret ew_c (fun η k => ⟨_, rfl, rfl⟩))) (fun hb => (s_of sv_nil (fun η k => ⟨.inl rfl, Le.sat (by first | exact Le.refl _ | (repeat (first | exact trivial | exact rfl | apply And.intro))) k⟩)))))) (fun r η t h => by rw [h]) (fun z_1 hs => have H4 := (H.2.2) z_1 hs; let r_2 : ((List Int) × T) := F__law_levels z_1 (2 : Int) (3 : Int); let made_1 : (Int × Int × (List Int)) := (F_made_by (2 : Int) (3 : Int) r_2.1); let told_1 : (List PyData) := [((eO (eP3 (eT eI) eI eI)) (F_first_peak_gain ((1 : Int), (2 : Int), [(1 : Int), (0 : Int)]))), ((eO (eP3 (eT eI) eI eI)) (F_first_peak_gain ((1 : Int), (3 : Int), [(0 : Int), (2 : Int), (2 : Int)]))), ((eO (eP3 (eT eI) eI eI)) (F_first_peak_gain made_1))]; (s_seq (SV.cx (Γ2 := [.sh ((eL eI) script), .ow r_2.2, .fr, .sh ((eP3 eI eI (eT eI)) made_1), .fr]) (sv_asg (ew_def (av_cons (EW.sh ew_c) (av_cons (EW.sh ew_c) (av_cons (EW.sh (ew_defIO (av_cons (EW.sh ew_c) (av_cons (EW.sh ew_c) av_nil)) rfl rfl (V__law_levels  (H4.1)))) av_nil))) (V_made_by  (H4.2.1))) (gw_n (s := .sh ((eP3 eI eI (eT eI)) made_1)) rfl)) rfl) (s_seq (SV.cx (Γ2 := [.sh ((eL eI) script), .ow r_2.2, .fr, .sh ((eP3 eI eI (eT eI)) made_1), .od (List.map eD told_1)]) (sv_asg (EW.as (t' := .lst (List.map T.sh (List.map eD [((eO (eP3 (eT eI) eI eI)) (F_first_peak_gain ((1 : Int), (2 : Int), [(1 : Int), (0 : Int)]))), ((eO (eP3 (eT eI) eI eI)) (F_first_peak_gain ((1 : Int), (3 : Int), [(0 : Int), (2 : Int), (2 : Int)]))), ((eO (eP3 (eT eI) eI eI)) (F_first_peak_gain made_1))]))) (ew_lst (aw_cons (ew_def (av_cons (EW.sh (EW.as (t' := .sh ((eP3 eI eI (eT eI)) ((1 : Int), (2 : Int), [(1 : Int), (0 : Int)]))) (ew_tup (av_cons (EW.sh ew_c) (av_cons (EW.sh ew_c) (av_cons (EW.sh (EW.as (t' := .sh ((eT eI) [(1 : Int), (0 : Int)])) (ew_tup (av_cons (EW.sh ew_c) (av_cons (EW.sh ew_c) av_nil))) rfl)) av_nil)))) rfl)) av_nil) (V_first_peak_gain  (H4.2.2.1))) (aw_cons (ew_def (av_cons (EW.sh (EW.as (t' := .sh ((eP3 eI eI (eT eI)) ((1 : Int), (3 : Int), [(0 : Int), (2 : Int), (2 : Int)]))) (ew_tup (av_cons (EW.sh ew_c) (av_cons (EW.sh ew_c) (av_cons (EW.sh (EW.as (t' := .sh ((eT eI) [(0 : Int), (2 : Int), (2 : Int)])) (ew_tup (av_cons (EW.sh ew_c) (av_cons (EW.sh ew_c) (av_cons (EW.sh ew_c) av_nil)))) rfl)) av_nil)))) rfl)) av_nil) (V_first_peak_gain  (H4.2.2.2.1))) (aw_cons (ew_def (av_cons (EW.sh (ew_v rfl)) av_nil) (V_first_peak_gain  (H4.2.2.2.2.1))) aw_nil)))) rfl) (gw_n (s := .od (List.map eD told_1)) rfl)) rfl) (s_ret (ew_def (av_cons (EW.sh (ew_v rfl)) (av_cons (EW.od (EW.as (t' := .lst (List.map T.sh (List.map (eO (eP3 (eT eI) eI eI)) [(some ([(0 : Int)], (0 : Int), (1 : Int))), (some ([(1 : Int)], (0 : Int), (0 : Int))), (none : (Option ((List Int) × Int × Int)))]))) (ew_lst (aw_cons (EW.as (t' := .sh ((eP3 (eT eI) eI eI) ([(0 : Int)], (0 : Int), (1 : Int)))) (ew_tup (av_cons (EW.sh (EW.as (t' := .sh ((eT eI) [(0 : Int)])) (ew_tup (av_cons (EW.sh ew_c) av_nil)) rfl)) (av_cons (EW.sh ew_c) (av_cons (EW.sh ew_c) av_nil)))) rfl) (aw_cons (EW.as (t' := .sh ((eP3 (eT eI) eI eI) ([(1 : Int)], (0 : Int), (0 : Int)))) (ew_tup (av_cons (EW.sh (EW.as (t' := .sh ((eT eI) [(1 : Int)])) (ew_tup (av_cons (EW.sh ew_c) av_nil)) rfl)) (av_cons (EW.sh ew_c) (av_cons (EW.sh ew_c) av_nil)))) rfl) (aw_cons ew_c aw_nil)))) rfl)) av_nil)) (V__law_is  (H4.2.2.2.2.2))) (fun η k => rfl)))))))
end K12
set_option Elab.async false
set_option linter.all false
set_option maxRecDepth 100000
set_option maxHeartbeats 4000000
/-! what loops ask, decided; least and greatest; loops that hand back -/
namespace Tv
open PySem L2 Pv
section
variable {σ α ρ β : Type}
instance decWFold {step : σ → α → σ} {W : σ → α → Prop} [d : ∀ s x, Decidable (W s x)] : ∀ (s : σ) (l : List α), Decidable (WFold step W s l)
  | _, [] => .isTrue trivial
  | s, x :: l => match d s x, decWFold (step s x) l with
    | .isTrue a, .isTrue b => .isTrue ⟨a, b⟩
    | .isFalse a, _ => .isFalse fun h => a h.1
    | _, .isFalse b => .isFalse fun h => b h.2
instance decWFoldL {step : σ → α → Lp σ ρ} {W : σ → α → Prop} [d : ∀ s x, Decidable (W s x)] : ∀ (s : σ) (l : List α), Decidable (WFoldL step W s l)
  | _, [] => .isTrue trivial
  | s, x :: l => match d s x with
    | .isFalse a => .isFalse fun h => a h.1
    | .isTrue a => match e : step s x with
      | .nx s' => match decWFoldL (step := step) (W := W) s' l with
        | .isTrue b => .isTrue ⟨a, by rw [e]; exact b⟩
        | .isFalse b => .isFalse fun h => b (by have := h.2; rw [e] at this; exact this)
      | .bk s' => .isTrue ⟨a, by rw [e]; trivial⟩
      | .ret r => .isTrue ⟨a, by rw [e]; trivial⟩
theorem foldL_cases {step : Unit → α → Lp Unit ρ} : ∀ {l : List α}, (∀ x ∈ l, step () x ≠ .bk ()) → (foldL step () l = .ok () ∧ ∀ x ∈ l, step () x = .nx ()) ∨ ∃ x ∈ l, ∃ r, step () x = .ret r ∧ foldL step () l = .error r
  | [], _ => .inl ⟨rfl, by simp⟩
  | x :: l, h => by
    cases e : step () x with
    | nx s =>
      rcases foldL_cases (l := l) fun y hy => h y (List.mem_cons_of_mem _ hy) with ⟨h1, h2⟩ | ⟨y, hy, r, h1, h2⟩
      · refine .inl ⟨?_, fun y hy => ?_⟩
        · unfold foldL
          rw [e]
          exact h1
        · rcases List.mem_cons.mp hy with rfl | hy
          · exact e
          · exact h2 y hy
      · refine .inr ⟨y, List.mem_cons_of_mem _ hy, r, h1, ?_⟩
        unfold foldL
        rw [e]
        exact h2
    | bk s => exact absurd e (h x List.mem_cons_self)
    | ret r =>
      refine .inr ⟨x, List.mem_cons_self, r, e, ?_⟩
      unfold foldL
      rw [e]
theorem foldL_allE {step : Unit → α → Lp Unit Bool} (c : α → Bool) : ∀ {l : List α}, (∀ x ∈ l, step () x = if c x = true then .nx () else .ret false) → foldL step () l = if l.all c = true then .ok () else .error false
  | [], _ => rfl
  | x :: l, h => by
    unfold foldL
    rw [h x List.mem_cons_self, List.all_cons]
    cases hc : c x with
    | true =>
      rw [Bool.true_and]
      exact foldL_allE c fun y hy => h y (List.mem_cons_of_mem _ hy)
    | false => rfl
theorem zip_mapR {f : α → β} : ∀ {l : List α}, l.zip (l.map f) = l.map fun x => (x, f x)
  | [] => rfl
  | x :: l => by rw [List.map_cons, List.zip_cons_cons, zip_mapR (l := l), List.map_cons]
theorem foldL_map {step : σ → β → Lp σ ρ} {g : α → β} : ∀ {l : List α} {s : σ}, foldL step s (l.map g) = foldL (fun s x => step s (g x)) s l
  | [], _ => rfl
  | x :: l, s => by
    rw [List.map_cons]
    unfold foldL
    cases step s (g x) with
    | nx s' => exact foldL_map
    | bk s' => rfl
    | ret r => rfl
theorem foldL_congr {step step2 : σ → α → Lp σ ρ} : ∀ {l : List α} {s : σ}, (∀ s x, x ∈ l → step s x = step2 s x) → foldL step s l = foldL step2 s l
  | [], _, _ => rfl
  | x :: l, s, h => by
    unfold foldL
    rw [h s x List.mem_cons_self]
    cases step2 s x with
    | nx s' => exact foldL_congr fun s y hy => h s y (List.mem_cons_of_mem _ hy)
    | bk s' => rfl
    | ret r => rfl
theorem foldl_mapI {f : α → β} : ∀ {l : List α} {s : List β}, l.foldl (fun s x => s ++ [f x]) s = s ++ l.map f
  | [], s => by simp
  | x :: l, s => by
    rw [List.foldl_cons, foldl_mapI (l := l)]
    simp
theorem gx_rg [Inhabited α] {f : Int → α} {n x : Int} (h : x ∈ rgI 0 n) : gx ((rgI 0 n).map f) x = f x ∧ ixOk ((rgI 0 n).map f).length x := by
  obtain ⟨h1, h2⟩ := mem_rgI.mp h
  have hl : ((rgI 0 n).map f).length = n.toNat := by rw [List.length_map, len_rgI]; omega
  obtain ⟨k, rfl⟩ : ∃ k : Nat, x = k := ⟨x.toNat, by omega⟩
  refine ⟨?_, ?_⟩
  · rw [gx_nat (by omega)]
    simp [rgI]
  · rw [hl]
    unfold ixOk
    omega
theorem enumI_rg [Inhabited α] {l : List α} : enumI l = (rgI 0 (l.length : Int)).map fun i => (i, gx l i) := by
  unfold enumI rgI
  rw [List.map_map]
  refine List.ext_getElem? fun i => ?_
  rw [List.getElem?_zipWith, List.getElem?_map]
  by_cases hi : i < l.length
  · have e1 : (List.range ((l.length : Int) - 0).toNat)[i]? = some i := by
      rw [List.getElem?_range (by omega)]
    rw [List.getElem?_range hi, e1, List.getElem?_eq_getElem hi]
    simp only [Option.map_some, Function.comp]
    rw [Int.zero_add, gx_nat hi]
  · have e1 : (List.range ((l.length : Int) - 0).toNat)[i]? = none := List.getElem?_eq_none (by simp; omega)
    have e2 : (List.range l.length)[i]? = none := List.getElem?_eq_none (by simp; omega)
    rw [e1, e2]
    rfl
end
/-! ### least, greatest -/
theorem minL_spec {l : List Int} (h : l ≠ []) : minL l ∈ l ∧ ∀ y ∈ l, minL l ≤ y := by
  cases l with
  | nil => exact absurd rfl h
  | cons x l => exact minI_spec l x
theorem maxL_spec {l : List Int} (h : l ≠ []) : maxL l ∈ l ∧ ∀ y ∈ l, y ≤ maxL l := by
  cases l with
  | nil => exact absurd rfl h
  | cons x l => exact maxI_spec l x
theorem minL_eq {l : List Int} {c : Int} (h : c ∈ l) (hm : ∀ y ∈ l, c ≤ y) : minL l = c := by
  obtain ⟨h1, h2⟩ := minL_spec (List.ne_nil_of_mem h)
  have := h2 c h
  have := hm _ h1
  omega
theorem maxL_le {l : List Int} {c : Int} (h : l ≠ []) (hm : ∀ y ∈ l, y ≤ c) : maxL l ≤ c := hm _ (maxL_spec h).1
theorem le_maxL {l : List Int} {c : Int} (h : c ∈ l) : c ≤ maxL l := (maxL_spec (List.ne_nil_of_mem h)).2 c h
/-! ### the table of keys and values -/
section
variable {α : Type} [Inhabited α]
theorem gM_cons {k x : List Int} {v : α} {l : List (List Int × α)} : gM ((k, v) :: l) x = if k = x then v else gM l x := by
  unfold gM
  rw [List.find?_cons]
  by_cases h : k = x
  · rw [if_pos h, decide_eq_true h]
    rfl
  · rw [if_neg h, decide_eq_false h]
theorem gM_zip : ∀ {ks : List (List Int)} {vs : List α}, ks.Nodup → ks.length = vs.length → ks.map (gM (ks.zip vs)) = vs
  | [], [], _, _ => rfl
  | [], _ :: _, _, h => by cases h
  | _ :: _, [], _, h => by cases h
  | k :: ks, v :: vs, hn, hl => by
    rw [List.nodup_cons] at hn
    have ih := gM_zip (ks := ks) (vs := vs) hn.2 (by simpa using hl)
    rw [List.zip_cons_cons, List.map_cons]
    refine List.cons_eq_cons.mpr ⟨by rw [gM_cons, if_pos rfl], Eq.trans ?_ ih⟩
    refine List.map_congr_left fun x hx => ?_
    have hne : ¬ k = x := fun e => hn.1 (by rw [e]; exact hx)
    rw [gM_cons, if_neg hne]
theorem zip_keys : ∀ {ks : List (List Int)} {vs : List α}, ks.length = vs.length → (ks.zip vs).map (fun p => p.1) = ks
  | [], [], _ => rfl
  | [], _ :: _, h => by cases h
  | _ :: _, [], h => by cases h
  | k :: ks, v :: vs, h => by
    rw [List.zip_cons_cons, List.map_cons, zip_keys (ks := ks) (vs := vs) (by simpa using h)]
theorem gM_mem {ks : List (List Int)} {vs : List α} {x : List Int} (hn : ks.Nodup) (hl : ks.length = vs.length) (hx : x ∈ ks) : gM (ks.zip vs) x ∈ vs := by
  have h2 : gM (ks.zip vs) x ∈ ks.map (gM (ks.zip vs)) := List.mem_map_of_mem hx
  rwa [gM_zip hn hl] at h2
theorem dOk_zip {ks : List (List Int)} {vs : List α} (hn : ks.Nodup) (hl : ks.length = vs.length) (h0 : ks ≠ []) (hs : ks.length ≤ 16777216) : dOk (ks.zip vs) := by
  refine ⟨fun e => ?_, ?_, ?_⟩
  · have := congrArg List.length e
    rw [List.length_zip, ← hl, Nat.min_self] at this
    exact h0 (List.eq_nil_of_length_eq_zero this)
  · have := zip_keys (ks := ks) (vs := vs) hl
    rw [this]
    exact hn
  · rw [List.length_zip]
    omega
end
end Tv
set_option Elab.async false
set_option linter.all false
set_option maxRecDepth 100000
set_option maxHeartbeats 4000000
namespace K12
open PySem L2 Pv Tv PyProof.Rows
abbrev Row := List Int
abbrev TP (n m : Int) : List Row := F__law_tuples n m
abbrev LS (n : Int) : List Row := F__law_lots n
/-- another peak of one voter -/
abbrev rep (x : Row) (i q : Int) : Row := (cutA x none (some i) ++ [q]) ++ cutA x (some (i + (1 : Int))) none
/-- a lot's tuple: the first point of its voters, the last of others -/
abbrev ES (n m : Int) (S : Row) : Row := (rgI 0 n).map fun i => if memT i S = true then (0 : Int) else (m - (1 : Int))
abbrev tu (m : Int) (x : Row) : Row := x.map fun y => (m - (1 : Int)) - y
def mv (n m : Int) (S x : Row) : Row := (rgI 0 n).foldl (fun y i => rep y i (if memT i S = true then (0 : Int) else (m - (1 : Int)))) x
def PR : List (Int × Int) := [(1, 2), (1, 3), (1, 4), (1, 5), (1, 6), (2, 2), (2, 3), (2, 4), (3, 2), (3, 3)]
def chk1 (n m : Int) : Bool := decide (F_how_many n m = ((TP n m).length : Int)) && decide (TP n m).Nodup && decide (1 ≤ (TP n m).length ∧ (TP n m).length ≤ 27) && decide ((LS n).length ≤ 8 ∧ 1 ≤ (LS n).length) && ((LS n).all fun S => decide (S.length ≤ 3) && (S.all fun i => memT i (rgI 0 n)) && memT (ES n m S) (TP n m))
def chk2 (n m : Int) : Bool := (TP n m).all fun x => decide ((x.length : Int) = n) && (x.all fun y => decide (0 ≤ y ∧ y < m)) && memT (tu m x) (TP n m) && decide (tu m (tu m x) = x) && ((LS n).all fun S => decide (mv n m S x = ES n m S)) &&
  (rgI 0 n).all fun i => decide (gx (tu m x) i = (m - 1) - gx x i) && (rgI 0 m).all fun q => memT (rep x i q) (TP n m) && decide (gx (rep x i q) i = q) && decide (rep (rep x i q) i (gx x i) = x) && decide (tu m (rep x i q) = rep (tu m x) i ((m - 1) - q)) && decide ((cutA x none (some i)).length ≤ 3 ∧ (cutA x (some (i + 1)) none).length ≤ 3) &&
    (rgI 0 n).all fun j => decide (j = i) || decide (gx (rep x i q) j = gx x j)
def chk3 (n m : Int) : Bool := (LS n).all fun S => (rgI 0 n).all fun i => decide (gx (ES n m S) i = if memT i S = true then (0 : Int) else (m - (1 : Int)))
def chkA (p : Int × Int) : Bool := chk1 p.1 p.2 && chk2 p.1 p.2 && chk3 p.1 p.2
theorem chk_ok : ∀ p ∈ PR, chkA p = true := by decide +kernel
structure Sz (n m : Int) : Prop where
  mem : (n, m) ∈ PR
section
variable {n m i q j : Int} {x S : Row}
theorem Sz.bd (z : Sz n m) : 1 ≤ n ∧ n ≤ 3 ∧ 2 ≤ m ∧ m ≤ 6 := by
  have := z.mem
  unfold PR at this
  simp only [List.mem_cons, Prod.mk.injEq, List.not_mem_nil, or_false] at this
  omega
theorem Sz.all (z : Sz n m) : chk1 n m = true ∧ chk2 n m = true ∧ chk3 n m = true := by
  have := chk_ok _ z.mem
  unfold chkA at this
  rw [Bool.and_eq_true, Bool.and_eq_true] at this
  exact ⟨this.1.1, this.1.2, this.2⟩
theorem Sz.one (z : Sz n m) : F_how_many n m = ((TP n m).length : Int) ∧ (TP n m).Nodup ∧ (1 ≤ (TP n m).length ∧ (TP n m).length ≤ 27) ∧ ((LS n).length ≤ 8 ∧ 1 ≤ (LS n).length) ∧ ∀ S ∈ LS n, S.length ≤ 3 ∧ (∀ i ∈ S, i ∈ rgI 0 n) ∧ ES n m S ∈ TP n m := by
  have := z.all.1
  unfold chk1 at this
  simp only [Bool.and_eq_true, decide_eq_true_eq, List.all_eq_true, memT_iff] at this
  exact ⟨this.1.1.1.1, this.1.1.1.2, this.1.1.2, this.1.2, fun S hS => ⟨(this.2 S hS).1.1, (this.2 S hS).1.2, (this.2 S hS).2⟩⟩
theorem Sz.two (z : Sz n m) (hx : x ∈ TP n m) : (x.length : Int) = n ∧ (∀ y ∈ x, 0 ≤ y ∧ y < m) ∧ tu m x ∈ TP n m ∧ tu m (tu m x) = x ∧ ∀ S ∈ LS n, mv n m S x = ES n m S := by
  have := z.all.2.1
  unfold chk2 at this
  have := List.all_eq_true.mp this x hx
  simp only [Bool.and_eq_true, decide_eq_true_eq, List.all_eq_true, memT_iff] at this
  exact ⟨this.1.1.1.1.1, this.1.1.1.1.2, this.1.1.1.2, this.1.1.2, this.1.2⟩
theorem Sz.three (z : Sz n m) (hx : x ∈ TP n m) (hi : i ∈ rgI 0 n) : gx (tu m x) i = (m - 1) - gx x i ∧ ∀ q ∈ rgI 0 m, rep x i q ∈ TP n m ∧ gx (rep x i q) i = q ∧ rep (rep x i q) i (gx x i) = x ∧ tu m (rep x i q) = rep (tu m x) i ((m - 1) - q) ∧ ((cutA x none (some i)).length ≤ 3 ∧ (cutA x (some (i + 1)) none).length ≤ 3) ∧ ∀ j ∈ rgI 0 n, j = i ∨ gx (rep x i q) j = gx x j := by
  have := z.all.2.1
  unfold chk2 at this
  have := List.all_eq_true.mp this x hx
  rw [Bool.and_eq_true] at this
  have := List.all_eq_true.mp this.2 i hi
  simp only [Bool.and_eq_true, decide_eq_true_eq, List.all_eq_true, memT_iff, Bool.or_eq_true] at this
  exact ⟨this.1, fun q hq => ⟨(this.2 q hq).1.1.1.1.1, (this.2 q hq).1.1.1.1.2, (this.2 q hq).1.1.1.2, (this.2 q hq).1.1.2, (this.2 q hq).1.2, (this.2 q hq).2⟩⟩
theorem Sz.es (z : Sz n m) (hS : S ∈ LS n) (hi : i ∈ rgI 0 n) : gx (ES n m S) i = if memT i S = true then (0 : Int) else (m - (1 : Int)) := by
  have := z.all.2.2
  unfold chk3 at this
  simp only [List.all_eq_true, decide_eq_true_eq] at this
  exact this S hS i hi
theorem Sz.gx_mem (z : Sz n m) (hx : x ∈ TP n m) (hi : i ∈ rgI 0 n) : gx x i ∈ x ∧ gx x i ∈ rgI 0 m ∧ ixOk x.length i := by
  obtain ⟨h1, h2, _⟩ := z.two hx
  obtain ⟨a, b⟩ := mem_rgI.mp hi
  have := Tv.gx_mem (l := x) (i := i) a (by omega)
  refine ⟨this, mem_rgI.mpr (h2 _ this), by unfold ixOk; omega⟩
end
/-! ### a rule -/
structure Ru (n m : Int) (ps : List Int) : Prop where
  sz : Sz n m
  len : ps.length = (TP n m).length
  rng : ∀ p ∈ ps, 0 ≤ p ∧ p < m
/-- the point of some peaks -/
def fp (n m : Int) (ps : List Int) : Row → Int := gM ((TP n m).zip ps)
section
variable {n m i q j : Int} {x S : Row} {ps : List Int}
theorem Ru.rg (r : Ru n m ps) (hx : x ∈ TP n m) : fp n m ps x ∈ rgI 0 m := mem_rgI.mpr (r.rng _ (gM_mem r.sz.one.2.1 r.len.symm hx))
theorem Ru.map (r : Ru n m ps) : (TP n m).map (fp n m ps) = ps := gM_zip r.sz.one.2.1 r.len.symm
end
/-! ### nobody gains -/
/-- may there be liked better than here -/
def bad (own here there : Int) : Prop := here ≠ there ∧ here ≠ own ∧ ¬ ((own < here ∧ here < there) ∨ (there < here ∧ here < own))
def NG (n m : Int) (f : Row → Int) : Prop := ∀ x ∈ TP n m, ∀ i ∈ rgI 0 n, ∀ q ∈ rgI 0 m, ¬ bad (gx x i) (f x) (f (rep x i q))
section
variable {n m i q c : Int} {x S : Row} {f : Row → Int}
theorem two_ways (z : Sz n m) (h : NG n m f) (hx : x ∈ TP n m) (hi : i ∈ rgI 0 n) (hq : q ∈ rgI 0 m) : ¬ bad (gx x i) (f x) (f (rep x i q)) ∧ ¬ bad q (f (rep x i q)) (f x) := by
  obtain ⟨h1, h2, h3, _⟩ := (z.three hx hi).2 q hq
  refine ⟨h x hx i hi q hq, ?_⟩
  have := h _ h1 i hi (gx x i) (z.gx_mem hx hi).2.1
  rw [h2, h3] at this
  exact this
theorem up (z : Sz n m) (h : NG n m f) (hx : x ∈ TP n m) (hi : i ∈ rgI 0 n) (hq : q ∈ rgI 0 m) (hle : gx x i ≤ q) : f x ≤ f (rep x i q) := by
  obtain ⟨h1, h2⟩ := two_ways z h hx hi hq
  unfold bad at h1 h2
  omega
theorem down (z : Sz n m) (h : NG n m f) (hx : x ∈ TP n m) (hi : i ∈ rgI 0 n) (hq : q ∈ rgI 0 m) (hle : q ≤ gx x i) : f (rep x i q) ≤ f x := by
  obtain ⟨h1, h2⟩ := two_ways z h hx hi hq
  unfold bad at h1 h2
  omega
theorem below (z : Sz n m) (h : NG n m f) (hx : x ∈ TP n m) (hi : i ∈ rgI 0 n) (hq : q ∈ rgI 0 m) (h0 : gx x i < f x) (hle : q ≤ f x) : f (rep x i q) = f x := by
  obtain ⟨h1, h2⟩ := two_ways z h hx hi hq
  unfold bad at h1 h2
  omega
theorem above (z : Sz n m) (h : NG n m f) (hx : x ∈ TP n m) (hi : i ∈ rgI 0 n) (hq : q ∈ rgI 0 m) (h0 : f x < gx x i) (hle : f x ≤ q) : f (rep x i q) = f x := by
  obtain ⟨h1, h2⟩ := two_ways z h hx hi hq
  unfold bad at h1 h2
  omega
/-- one voter after another told to its end -/
theorem mv_inv (z : Sz n m) (hS : S ∈ LS n) (I : Row → Prop) (hx : x ∈ TP n m) (h0 : I x) (st : ∀ y ∈ TP n m, ∀ i ∈ rgI 0 n, I y → gx y i = gx x i → I (rep y i (if memT i S = true then (0 : Int) else (m - (1 : Int))))) : I (ES n m S) := by
  have hb := z.bd
  have hq : ∀ i, (if memT i S = true then (0 : Int) else (m - (1 : Int))) ∈ rgI 0 m := fun i => by
    split <;> exact mem_rgI.mpr (by omega)
  have key : ∀ (l p : List Int) (y : Row), p ++ l = rgI 0 n → (p ++ l).Nodup → y ∈ TP n m → I y → (∀ j ∈ l, gx y j = gx x j) → I (l.foldl (fun y i => rep y i (if memT i S = true then (0 : Int) else (m - (1 : Int)))) y) := by
    intro l
    induction l with
    | nil => intro p y _ _ _ h _; exact h
    | cons i l ih =>
      intro p y e nd hy hI hj
      have hi : i ∈ rgI 0 n := by rw [← e]; simp
      rw [List.foldl_cons]
      obtain ⟨r1, r2, r3, r4, r5, r6⟩ := (z.three hy hi).2 _ (hq i)
      refine ih (p ++ [i]) _ (by rw [← e]; simp) (by simpa using nd) r1 (st y hy i hi hI (hj i List.mem_cons_self)) fun j hjl => ?_
      have hjn : j ∈ rgI 0 n := by rw [← e]; simp [hjl]
      rcases r6 j hjn with e2 | e2
      · subst e2
        have := (List.nodup_append.mp nd).2.1
        rw [List.nodup_cons] at this
        exact absurd hjl this.1
      · rw [e2]
        exact hj j (List.mem_cons_of_mem _ hjl)
  have nd : (rgI 0 n).Nodup := by
    have h1 := hb.1
    have h2 := hb.2.1
    have : n = 1 ∨ n = 2 ∨ n = 3 := by omega
    rcases this with rfl | rfl | rfl <;> decide
  rw [← (z.two hx).2.2.2.2 S hS]
  exact key (rgI 0 n) [] x rfl (by simpa using nd) hx h0 fun _ _ => rfl
theorem level_le (z : Sz n m) (h : NG n m f) (hr : ∀ x ∈ TP n m, f x ∈ rgI 0 m) (hS : S ∈ LS n) (hx : x ∈ TP n m) (hT : ∀ i ∈ rgI 0 n, i ∈ S ∨ c < gx x i) (hc : f x ≤ c) : f (ES n m S) ≤ c := by
  have hb := z.bd
  refine mv_inv z hS (fun y => f y ≤ c) hx hc fun y hy i hi hI e => ?_
  cases hm : memT i S with
  | true =>
    rw [if_pos rfl]
    have := down z h hy hi (q := 0) (mem_rgI.mpr (by omega)) (mem_rgI.mp (z.gx_mem hy hi).2.1).1
    show f (rep y i 0) ≤ c
    omega
  | false =>
    have hlt : c < gx x i := (hT i hi).resolve_left fun k => by rw [memT_iff.mpr k] at hm; cases hm
    have hfm := mem_rgI.mp (hr y hy)
    have := above z h hy hi (q := m - 1) (mem_rgI.mpr (by omega)) (by omega) (by omega)
    show f (rep y i (m - 1)) ≤ c
    omega
theorem level_ge (z : Sz n m) (h : NG n m f) (hr : ∀ x ∈ TP n m, f x ∈ rgI 0 m) (hS : S ∈ LS n) (hx : x ∈ TP n m) (hT : ∀ i ∈ S, gx x i < c) (hc : c ≤ f x) : c ≤ f (ES n m S) := by
  have hb := z.bd
  refine mv_inv z hS (fun y => c ≤ f y) hx hc fun y hy i hi hI e => ?_
  cases hm : memT i S with
  | true =>
    have hlt := hT i (memT_iff.mp hm)
    have hfm := mem_rgI.mp (hr y hy)
    have := below z h hy hi (q := 0) (mem_rgI.mpr (by omega)) (by omega) (by omega)
    show c ≤ f (rep y i 0)
    omega
  | false =>
    have := mem_rgI.mp (z.gx_mem hy hi).2.1
    have := up z h hy hi (q := m - 1) (mem_rgI.mpr (by omega)) (by omega)
    show c ≤ f (rep y i (m - 1))
    omega
theorem level_mono (z : Sz n m) (h : NG n m f) {S2 : Row} (hS : S ∈ LS n) (hS2 : S2 ∈ LS n) (hsub : ∀ i ∈ S, i ∈ S2) : f (ES n m S2) ≤ f (ES n m S) := by
  have hb := z.bd
  have hx := (z.one.2.2.2.2 S hS).2.2
  refine mv_inv z hS2 (fun y => f y ≤ f (ES n m S)) hx (Int.le_refl _) fun y hy i hi hI e => ?_
  cases hm : memT i S2 with
  | true =>
    have := down z h hy hi (q := 0) (mem_rgI.mpr (by omega)) (mem_rgI.mp (z.gx_mem hy hi).2.1).1
    show f (rep y i 0) ≤ _
    omega
  | false =>
    have hn : memT i S = false := by
      cases hs : memT i S with
      | false => rfl
      | true => rw [memT_iff.mpr (hsub i (memT_iff.mp hs))] at hm; cases hm
    rw [z.es hS hi, hn] at e
    have e : gx y i = m - 1 := e
    have := down z h hy hi (q := m - 1) (mem_rgI.mpr (by omega)) (by omega)
    show f (rep y i (m - 1)) ≤ _
    omega
/-! ### what levels make -/
def gS (lv : Row → Int) (x S : Row) : List Int := (S.map fun i => gx x i) ++ [lv S]
theorem gS_ne {lv : Row → Int} : gS lv x S ≠ [] := by simp [gS]
def pt (n : Int) (lv : Row → Int) (x : Row) : Int := minL ((LS n).map fun S => maxL (gS lv x S))
theorem LS_ne (z : Sz n m) : LS n ≠ [] := fun e => by
  have := z.one.2.2.2.1.2
  rw [e] at this
  exact absurd this (by decide)
/-- THE MAIN FACT: where nobody gains, the levels make the rule -/
theorem makes (z : Sz n m) (h : NG n m f) (hr : ∀ x ∈ TP n m, f x ∈ rgI 0 m) (hex : ∀ x ∈ TP n m, ∃ S ∈ LS n, ∀ i ∈ rgI 0 n, i ∈ S ↔ gx x i ≤ f x) (hx : x ∈ TP n m) : pt n (fun S => f (ES n m S)) x = f x := by
  unfold pt
  refine minL_eq ?_ ?_
  · obtain ⟨S, hS, hT⟩ := hex x hx
    refine List.mem_map.mpr ⟨S, hS, ?_⟩
    have hle : maxL (gS (fun S => f (ES n m S)) x S) ≤ f x := maxL_le gS_ne fun y hy => by
      rcases List.mem_append.mp hy with hy | hy
      · obtain ⟨i, hi, rfl⟩ := List.mem_map.mp hy
        exact (hT i ((z.one.2.2.2.2 S hS).2.1 i hi)).mp hi
      · rw [List.mem_singleton.mp hy]
        refine level_le z h hr hS hx (c := f x) (fun i hi => ?_) (Int.le_refl _)
        by_cases hm : i ∈ S
        · exact .inl hm
        · exact .inr (Int.not_le.mp fun k => hm ((hT i hi).mpr k))
    have hge : f x ≤ maxL (gS (fun S => f (ES n m S)) x S) := by
      by_cases hc : ∃ i ∈ S, f x ≤ gx x i
      · obtain ⟨i, hi, hle⟩ := hc
        have := le_maxL (l := gS (fun S => f (ES n m S)) x S) (c := gx x i) (List.mem_append.mpr (.inl (List.mem_map.mpr ⟨i, hi, rfl⟩)))
        omega
      · have := level_ge z h hr hS hx (c := f x) (fun i hi => Int.not_le.mp fun k => hc ⟨i, hi, k⟩) (Int.le_refl _)
        have := le_maxL (l := gS (fun S => f (ES n m S)) x S) (c := f (ES n m S)) (List.mem_append.mpr (.inr (by simp)))
        omega
    omega
  · intro y hy
    obtain ⟨S, hS, rfl⟩ := List.mem_map.mp hy
    by_cases hc : ∃ i ∈ S, f x ≤ gx x i
    · obtain ⟨i, hi, hle⟩ := hc
      have := le_maxL (l := gS (fun S => f (ES n m S)) x S) (c := gx x i) (List.mem_append.mpr (.inl (List.mem_map.mpr ⟨i, hi, rfl⟩)))
      omega
    · have := level_ge z h hr hS hx (c := f x) (fun i hi => Int.not_le.mp fun k => hc ⟨i, hi, k⟩) (Int.le_refl _)
      have := le_maxL (l := gS (fun S => f (ES n m S)) x S) (c := f (ES n m S)) (List.mem_append.mpr (.inr (by simp)))
      omega
/-- what levels make gives nobody a gain -/
theorem made_ng (z : Sz n m) {lv : Row → Int} (hf : ∀ x ∈ TP n m, f x = pt n lv x) : NG n m f := by
  intro x hx i hi q hq hb
  obtain ⟨r1, r2, r3, r4, r5, r6⟩ := (z.three hx hi).2 q hq
  have e1 := hf x hx
  have e2 := hf _ r1
  have ne : ∀ y : Row, ((LS n).map fun S => maxL (gS lv y S)) ≠ [] := fun y e => LS_ne z (List.map_eq_nil_iff.mp e)
  unfold pt at e1 e2
  obtain ⟨m1, m2⟩ := minL_spec (ne x)
  obtain ⟨m3, m4⟩ := minL_spec (ne (rep x i q))
  rw [← e1] at m1 m2
  rw [← e2] at m3 m4
  -- a lot without the voter: the same on both sides
  have same : ∀ S ∈ LS n, i ∉ S → gS lv (rep x i q) S = gS lv x S := fun S hS hn => by
    unfold gS
    congr 1
    refine List.map_congr_left fun j hj => ?_
    rcases r6 j ((z.one.2.2.2.2 S hS).2.1 j hj) with e | e
    · subst e; exact absurd hj hn
    · exact e
  unfold bad at hb
  rcases Int.lt_or_gt_of_ne hb.2.1 with hl | hl
  · -- here below the own peak
    obtain ⟨S, hS, eS⟩ := List.mem_map.mp m1
    have hn : i ∉ S := fun hm => by
      have := le_maxL (l := gS lv x S) (c := gx x i) (List.mem_append.mpr (.inl (List.mem_map.mpr ⟨i, hm, rfl⟩)))
      omega
    have := m4 _ (List.mem_map.mpr ⟨S, hS, rfl⟩)
    rw [same S hS hn] at this
    omega
  · obtain ⟨S, hS, eS⟩ := List.mem_map.mp m3
    have h2 := m2 _ (List.mem_map.mpr ⟨S, hS, rfl⟩)
    by_cases hm : i ∈ S
    · obtain ⟨k1, k2⟩ := maxL_spec (l := gS lv x S) gS_ne
      have hge : f x ≤ maxL (gS lv (rep x i q) S) := by
        rcases List.mem_append.mp k1 with k | k
        · obtain ⟨j, hj, ej⟩ := List.mem_map.mp k
          have hji : j ≠ i := fun e => by subst e; omega
          have e3 := (r6 j ((z.one.2.2.2.2 S hS).2.1 j hj)).resolve_left hji
          have := le_maxL (l := gS lv (rep x i q) S) (c := gx (rep x i q) j) (List.mem_append.mpr (.inl (List.mem_map.mpr ⟨j, hj, rfl⟩)))
          omega
        · have := le_maxL (l := gS lv (rep x i q) S) (c := lv S) (List.mem_append.mpr (.inr (by simp)))
          have := List.mem_singleton.mp k
          omega
      omega
    · rw [same S hS hm] at eS
      omega
end
end K12
set_option Elab.async false
set_option linter.all false
set_option maxRecDepth 100000
set_option maxHeartbeats 4000000
namespace K12
open PySem L2 Pv Tv PyProof.Rows
instance (m : Int) (s : List Row) (x : Row) : Decidable (W__law_tuples_s1 m s x) := by unfold W__law_tuples_s1; exact inferInstance
instance (m : Int) (s : List Row) (x : Int) : Decidable (W__law_tuples_s2 m s x) := by unfold W__law_tuples_s2; exact inferInstance
instance (n m : Int) : Decidable (W__law_tuples n m) := by unfold W__law_tuples; exact inferInstance
instance (s : List Row) (x : Int) : Decidable (W__law_lots_s1 s x) := by unfold W__law_lots_s1; exact inferInstance
instance (n : Int) : Decidable (W__law_lots n) := by unfold W__law_lots; exact inferInstance
instance (m : Int) (s : Int) (x : Int) : Decidable (W_how_many_s1 m s x) := by unfold W_how_many_s1; exact inferInstance
instance (n m : Int) : Decidable (W_how_many n m) := by unfold W_how_many; exact inferInstance
theorem w_all : ∀ p ∈ PR, W__law_tuples p.1 p.2 ∧ W__law_lots p.1 ∧ W_how_many p.1 p.2 := by decide +kernel
section
variable {n m i q c : Int} {x S : Row} {ps : List Int} {f : Row → Int}
theorem Sz.w (z : Sz n m) : W__law_tuples n m ∧ W__law_lots n ∧ W_how_many n m := w_all _ z.mem
theorem Sz.w2 (z : Sz n m) : W_all_peaks n m := z.w.1
theorem ap_eq : F_all_peaks n m = TP n m := rfl
theorem Sz.rgm (z : Sz n m) : rg62 m = true := by
  have := z.bd
  have : m = 2 ∨ m = 3 ∨ m = 4 ∨ m = 5 ∨ m = 6 := by omega
  rcases this with rfl | rfl | rfl | rfl | rfl <;> rfl
theorem Sz.rgn (z : Sz n m) : rg62 n = true := by
  have := z.bd
  have : n = 1 ∨ n = 2 ∨ n = 3 := by omega
  rcases this with rfl | rfl | rfl <;> rfl
theorem map_eta {α β : Type} {l : List (α × β)} : List.map (fun x => (x.1, x.2)) l = l := List.map_id _
/-- the table -/
abbrev tb (n m : Int) (ps : List Int) : List (Row × Int) := (TP n m).zip ps
theorem Ru.keys (r : Ru n m ps) : List.map (fun p => p.1) (tb n m ps) = TP n m := zip_keys r.len.symm
theorem Ru.dok (r : Ru n m ps) : dOk (tb n m ps) := dOk_zip r.sz.one.2.1 r.len.symm (fun e => by have := r.sz.one.2.2.1.1; rw [e] at this; exact absurd this (by decide)) (by have := r.sz.one.2.2.1.2; omega)
theorem Ru.tlen (r : Ru n m ps) : (List.zip (TP n m) ps).length < 16777216 := by
  rw [List.length_zip, r.len, Nat.min_self]
  have := r.sz.one.2.2.1.2
  omega
/-! ### the two readings of a gain -/
def badB (own here there : Int) : Bool := (!decide (here = there)) && ((!decide (here = own)) && (!(((decide (own < here)) && decide (here < there)) || ((decide (there < here)) && decide (here < own)))))
theorem badB_iff {own here there : Int} : badB own here there = true ↔ bad own here there := by
  unfold badB bad
  simp only [Bool.and_eq_true, Bool.not_eq_true', decide_eq_false_iff_not, Bool.or_eq_false_iff, Bool.and_eq_false_iff, ne_eq, not_or, not_and]
  constructor
  · rintro ⟨h1, h2, h3, h4⟩
    exact ⟨h1, h2, by omega, by omega⟩
  · rintro ⟨h1, h2, h3, h4⟩
    exact ⟨h1, h2, by omega, by omega⟩
theorem like_eq {own here there : Int} : F_may_like own here there = badB own here there := by
  unfold F_may_like badB
  cases decide (here = there) <;> cases decide (here = own) <;> rfl
abbrev Gn : Type := Option (Row × Int × Int)
def st1 (f : Row → Int) (x : Row) (i : Int) (q : Int) : Lp Unit Gn := if badB (gx x i) (f x) (f (rep x i q)) = true then .ret (some (x, i, q)) else .nx ()
theorem ls1 : F__law_gain_s1 (tb n m ps) x i () q = st1 (fp n m ps) x i q := rfl
theorem ps1 : F_gain_in_s1 (tb n m ps) x (i, gx x i) () q = st1 (fp n m ps) x i q := by
  unfold F_gain_in_s1
  dsimp only
  rw [like_eq]
  rfl
def g1 (f : Row → Int) (m : Int) (x : Row) (i : Int) : Except Gn Unit := foldL (fun _ q => st1 f x i q) () (rgI 0 m)
def st2 (f : Row → Int) (m : Int) (x : Row) (i : Int) : Lp Unit Gn := exC (g1 f m x i) (fun _ => .nx ()) (fun r => .ret r)
def g2 (f : Row → Int) (n m : Int) (x : Row) : Except Gn Unit := foldL (fun _ i => st2 f m x i) () (rgI 0 n)
def st3 (f : Row → Int) (n m : Int) (x : Row) : Lp Unit Gn := exC (g2 f n m x) (fun _ => .nx ()) (fun r => .ret r)
def g3 (f : Row → Int) (n m : Int) : Except Gn Unit := foldL (fun _ x => st3 f n m x) () (TP n m)
def gn (f : Row → Int) (n m : Int) : Gn := exC (g3 f n m) (fun _ => none) (fun r => r)
theorem lgain_eq : F__law_gain (n, m, ps) = gn (fp n m ps) n m := by
  unfold F__law_gain
  dsimp only
  rw [map_eta]
  rfl
theorem ps2 : F_gain_in_s2 (n, m, ps) (tb n m ps) x () (i, gx x i) = st2 (fp n m ps) m x i := by
  unfold F_gain_in_s2 st2 g1
  dsimp only
  rw [foldL_congr (step2 := fun _ q => st1 (fp n m ps) x i q) fun s q _ => ps1]
theorem ps3 (z : Sz n m) (hx : x ∈ TP n m) : F_gain_in_s3 (n, m, ps) (tb n m ps) () x = st3 (fp n m ps) n m x := by
  unfold F_gain_in_s3 st3 g2
  dsimp only
  rw [enumI_rg, (z.two hx).1, foldL_map, foldL_congr (step2 := fun _ i => st2 (fp n m ps) m x i) fun s i _ => ps2]
theorem pgain_eq (z : Sz n m) : F_gain_in (n, m, ps) = gn (fp n m ps) n m := by
  unfold F_gain_in gn g3
  show exC (foldL (F_gain_in_s3 (n, m, ps) (tb n m ps)) () (TP n m)) (fun _ => none) (fun r => r) = _
  rw [foldL_congr (step2 := fun _ x => st3 (fp n m ps) n m x) fun s x hx => ps3 z hx]
theorem g1_cases (f : Row → Int) (m : Int) (x : Row) (i : Int) : (g1 f m x i = .ok () ∧ ∀ q ∈ rgI 0 m, ¬ bad (gx x i) (f x) (f (rep x i q))) ∨ ∃ q ∈ rgI 0 m, bad (gx x i) (f x) (f (rep x i q)) ∧ g1 f m x i = .error (some (x, i, q)) := by
  have := foldL_cases (step := fun _ q => st1 f x i q) (l := rgI 0 m) fun q _ e => by
    unfold st1 at e
    split at e <;> cases e
  rcases this with ⟨h1, h2⟩ | ⟨q, hq, r, h1, h2⟩
  · refine .inl ⟨h1, fun q hq hb => ?_⟩
    have := h2 q hq
    unfold st1 at this
    rw [badB_iff.mpr hb] at this
    cases this
  · unfold st1 at h1
    split at h1
    · rename_i hb
      cases h1
      exact .inr ⟨q, hq, badB_iff.mp hb, h2⟩
    · cases h1
theorem g2_cases (f : Row → Int) (n m : Int) (x : Row) : (g2 f n m x = .ok () ∧ ∀ i ∈ rgI 0 n, ∀ q ∈ rgI 0 m, ¬ bad (gx x i) (f x) (f (rep x i q))) ∨ ∃ i ∈ rgI 0 n, ∃ q ∈ rgI 0 m, bad (gx x i) (f x) (f (rep x i q)) ∧ g2 f n m x = .error (some (x, i, q)) := by
  have := foldL_cases (step := fun _ i => st2 f m x i) (l := rgI 0 n) fun i _ e => by
    unfold st2 at e
    rcases g1_cases f m x i with ⟨h, _⟩ | ⟨q, _, _, h⟩ <;> rw [h] at e <;> cases e
  rcases this with ⟨h1, h2⟩ | ⟨i, hi, r, h1, h2⟩
  · refine .inl ⟨h1, fun i hi => ?_⟩
    have := h2 i hi
    unfold st2 at this
    rcases g1_cases f m x i with ⟨_, h⟩ | ⟨q, _, _, h⟩
    · exact h
    · rw [h] at this; cases this
  · unfold st2 at h1
    rcases g1_cases f m x i with ⟨h, _⟩ | ⟨q, hq, hb, h⟩
    · rw [h] at h1; cases h1
    · rw [h] at h1
      have h1 : Lp.ret (some (x, i, q)) = Lp.ret r := h1
      cases h1
      exact .inr ⟨i, hi, q, hq, hb, h2⟩
theorem gn_cases (f : Row → Int) (n m : Int) : (gn f n m = none ∧ NG n m f) ∨ ∃ x ∈ TP n m, ∃ i ∈ rgI 0 n, ∃ q ∈ rgI 0 m, bad (gx x i) (f x) (f (rep x i q)) ∧ gn f n m = some (x, i, q) := by
  have := foldL_cases (step := fun _ x => st3 f n m x) (l := TP n m) fun x _ e => by
    unfold st3 at e
    rcases g2_cases f n m x with ⟨h, _⟩ | ⟨i, _, q, _, _, h⟩ <;> rw [h] at e <;> cases e
  rcases this with ⟨h1, h2⟩ | ⟨x, hx, r, h1, h2⟩
  · refine .inl ⟨by unfold gn g3; rw [h1]; rfl, fun x hx => ?_⟩
    have := h2 x hx
    unfold st3 at this
    rcases g2_cases f n m x with ⟨_, h⟩ | ⟨i, _, q, _, _, h⟩
    · exact h
    · rw [h] at this; cases this
  · unfold st3 at h1
    rcases g2_cases f n m x with ⟨h, _⟩ | ⟨i, hi, q, hq, hb, h⟩
    · rw [h] at h1; cases h1
    · rw [h] at h1
      have h1 : Lp.ret (some (x, i, q)) = Lp.ret r := h1
      cases h1
      exact .inr ⟨x, hx, i, hi, q, hq, hb, by unfold gn g3; rw [h2]; rfl⟩
theorem gn_none : gn f n m = none ↔ NG n m f := by
  rcases gn_cases f n m with ⟨h1, h2⟩ | ⟨x, hx, i, hi, q, hq, hb, h⟩
  · exact ⟨fun _ => h2, fun _ => h1⟩
  · refine ⟨fun e => ?_, fun k => absurd hb (k x hx i hi q hq)⟩
    rw [h] at e; cases e
/-! ### what they ask -/
theorem cut_w (z : Sz n m) (hx : x ∈ TP n m) (hi : i ∈ rgI 0 n) (hq : q ∈ rgI 0 m) : List.length (cutA x none (some i)) + List.length [q] ≤ 16777216 ∧ List.length ((cutA x none (some i)) ++ [q]) + List.length (cutA x (some (i + (1 : Int))) none) ≤ 16777216 := by
  obtain ⟨h1, h2, h3, h4, h5, h6⟩ := (z.three hx hi).2 q hq
  have := h5.1
  have := h5.2
  refine ⟨by rw [List.length_singleton]; omega, ?_⟩
  rw [List.length_append, List.length_singleton]
  omega
theorem lgainW (r : Ru n m ps) : W__law_gain (n, m, ps) := by
  have z := r.sz
  unfold W__law_gain
  dsimp only
  rw [map_eta]
  refine ⟨z.w.1, r.tlen, r.dok, wfoldL_of (fun _ => True) trivial fun s x hx _ => ⟨⟨z.rgn, wfoldL_of (fun _ => True) trivial fun s i hi _ => ⟨⟨z.rgm, wfoldL_of (fun _ => True) trivial fun s q hq _ => ⟨?_, fun _ _ => trivial⟩⟩, fun _ _ => trivial⟩⟩, fun _ _ => trivial⟩⟩
  unfold W__law_gain_s1
  dsimp only
  rw [r.keys]
  exact ⟨hx, (cut_w z hx hi hq).1, (cut_w z hx hi hq).2, ((z.three hx hi).2 q hq).1, (z.gx_mem hx hi).2.2⟩
theorem toldW (r : Ru n m ps) : W_told_by (n, m, ps) := ⟨r.sz.w2, r.dok⟩
theorem pgainW (r : Ru n m ps) : W_gain_in (n, m, ps) := by
  have z := r.sz
  refine ⟨toldW r, z.w2, wfoldL_of (fun _ => True) trivial fun s x hx _ => ⟨wfoldL_of (fun _ => True) trivial fun s p hp _ => ⟨⟨z.rgm, wfoldL_of (fun _ => True) trivial fun s q hq _ => ⟨?_, fun _ _ => trivial⟩⟩, fun _ _ => trivial⟩, fun _ _ => trivial⟩⟩
  have hx : x ∈ TP n m := hx
  rw [enumI_rg, (z.two hx).1] at hp
  obtain ⟨i, hi, rfl⟩ := List.mem_map.mp hp
  unfold W_gain_in_s1
  dsimp only
  show _ ∧ _ ∧ _ ∈ List.map (fun p => p.1) (tb n m ps) ∧ _ ∈ List.map (fun p => p.1) (tb n m ps)
  rw [r.keys]
  exact ⟨(cut_w z hx hi hq).1, (cut_w z hx hi hq).2, ((z.three hx hi).2 q hq).1, hx⟩
theorem within_ok {a lo hi : Int} (h1 : lo ≤ a) (h2 : a ≤ hi) : F_is_within a lo hi = true := by
  unfold F_is_within F_is_integer
  rw [decide_eq_true h1, decide_eq_true h2]
  rfl
theorem Ru.rule (r : Ru n m ps) : W_check_rule (n, m, ps) := by
  have hb := r.sz.bd
  obtain ⟨h1, _, h3, _⟩ := r.sz.one
  have hlen := r.len
  refine ⟨fun _ => ⟨fun _ => r.sz.w.2.2, fun _ => ⟨r.sz.w.2.2, fun _ => by show ps.length < _; omega⟩⟩, ?_⟩
  unfold F_is_peak_rule
  dsimp only
  rw [within_ok hb.1 (by omega), within_ok hb.2.2.1 hb.2.2.2, h1, decide_eq_false (by omega : ¬ (1300 : Int) < ((TP n m).length : Int))]
  have e1 : F_is_table ps ((TP n m).length : Int) = true := by
    unfold F_is_table
    rw [hlen, decide_eq_true rfl]
    rfl
  have e2 : (ps.all fun x => F_is_within x 0 (m - 1)) = true := List.all_eq_true.mpr fun p hp => within_ok (r.rng p hp).1 (by have := (r.rng p hp).2; omega)
  simp only [e1, all_mapId, e2]
  rfl
theorem firstW (r : Ru n m ps) : W_first_peak_gain (n, m, ps) := ⟨r.rule, pgainW r⟩
theorem settleW (r : Ru n m ps) (hx : x ∈ TP n m) : W_settles (n, m, ps) x := by
  obtain ⟨h1, h2, _⟩ := r.sz.two hx
  have hb := r.sz.bd
  refine ⟨r.rule, fun _ => by omega, ?_, toldW r, by show x ∈ List.map (fun p => p.1) (tb n m ps); rw [r.keys]; exact hx⟩
  have e1 : F_is_table x n = true := by
    unfold F_is_table
    rw [h1, decide_eq_true rfl]
    rfl
  have e2 : (x.all fun y => F_is_within y 0 (m - 1)) = true := List.all_eq_true.mpr fun p hp => within_ok (h2 p hp).1 (by have := (h2 p hp).2; omega)
  dsimp only
  rw [e1, all_mapId, e2]
  rfl
theorem settle_eq : F_settles (n, m, ps) x = fp n m ps x := rfl
end
end K12
set_option Elab.async false
set_option linter.all false
set_option maxRecDepth 100000
set_option maxHeartbeats 4000000
namespace K12
open PySem L2 Pv Tv PyProof.Rows
section
variable {n m i q c : Int} {x S : Row} {ps : List Int} {f : Row → Int}
/-! ### points by levels, read -/
theorem point_eq (z : Sz n m) {lv : Row → Int} : F__law_point ((LS n).map lv) (LS n) x = pt n lv x := by
  unfold F__law_point pt
  rw [zip_mapR, List.map_map]
  rfl
theorem pointW (z : Sz n m) {levels : List Int} (hl : levels.length = (LS n).length) (hx : x ∈ TP n m) : W__law_point levels (LS n) x := by
  have h8 := z.one.2.2.2.1
  refine ⟨by rw [List.length_zip]; omega, fun p hp => ?_, fun e => ?_⟩
  · obtain ⟨k1, k2, _⟩ := z.one.2.2.2.2 p.1 (List.of_mem_zip (a := p.1) (b := p.2) hp).1
    refine ⟨by omega, fun j hj => (z.gx_mem hx (k2 j hj)).2.2, ?_, by simp⟩
    rw [List.length_map, List.length_singleton]
    omega
  · have := congrArg List.length e
    rw [List.length_map, List.length_zip, List.length_nil] at this
    omega
theorem madeW (z : Sz n m) {levels : List Int} (hl : levels.length = (LS n).length) : W__law_made n m levels := by
  have := z.one.2.2.1.2
  exact ⟨z.w.2.1, z.w.1, by show (TP n m).length < _; omega, fun x hx => pointW z hl hx⟩
theorem made_eq (z : Sz n m) {lv : Row → Int} : F__law_made n m ((LS n).map lv) = (n, m, (TP n m).map (pt n lv)) := by
  unfold F__law_made
  dsimp only
  rw [List.map_congr_left fun x _ => point_eq z (x := x)]
/-! ### the own levels -/
abbrev lvf (n m : Int) (f : Row → Int) (S : Row) : Int := f (ES n m S)
theorem own_fold : List.foldl (F__law_own_levels_s1 (n, m, ps) (tb n m ps)) [] (LS n) = (LS n).map (lvf n m (fp n m ps)) := by
  have : F__law_own_levels_s1 (n, m, ps) (tb n m ps) = fun s x => s ++ [lvf n m (fp n m ps) x] := rfl
  rw [this, foldl_mapI, List.nil_append]
theorem own_eq (r : Ru n m ps) : F__law_own_levels (n, m, ps) = if (F__law_are_levels n m ((LS n).map (lvf n m (fp n m ps))) && decide ((n, m, (TP n m).map (pt n (lvf n m (fp n m ps)))) = (n, m, ps))) = true then some ((LS n).map (lvf n m (fp n m ps))) else none := by
  unfold F__law_own_levels
  dsimp only
  rw [map_eta]
  show (if (F__law_are_levels n m (List.foldl (F__law_own_levels_s1 (n, m, ps) (tb n m ps)) [] (LS n)) && decide (F__law_made n m (List.foldl (F__law_own_levels_s1 (n, m, ps) (tb n m ps)) [] (LS n)) = (n, m, ps))) = true then _ else _) = _
  rw [own_fold, made_eq r.sz]
theorem are_ok (r : Ru n m ps) (h : NG n m (fp n m ps)) : F__law_are_levels n m ((LS n).map (lvf n m (fp n m ps))) = true := by
  have z := r.sz
  have e1 : (((LS n).map (lvf n m (fp n m ps))).all fun x => F__law_is_int x && (decide ((0 : Int) ≤ x) && decide (x < m))) = true := List.all_eq_true.mpr fun v hv => by
    obtain ⟨S, hS, rfl⟩ := List.mem_map.mp hv
    have := mem_rgI.mp (r.rg (z.one.2.2.2.2 S hS).2.2)
    show (true && (decide _ && decide _)) = true
    rw [decide_eq_true this.1, decide_eq_true this.2]
    rfl
  unfold F__law_are_levels
  simp only [all_mapId, e1]
  show (if (!decide ((((LS n).map (lvf n m (fp n m ps))).length : Int) = ((LS n).length : Int))) = true then false else _) = true
  rw [List.length_map, decide_eq_true rfl]
  show exC (foldL (F__law_are_levels_s2 ((LS n).map (lvf n m (fp n m ps))) (LS n)) () (enumI (LS n))) (fun _ => true) (fun r => r) = true
  have key : ∀ p ∈ enumI (LS n), F__law_are_levels_s2 ((LS n).map (lvf n m (fp n m ps))) (LS n) () p = if true = true then .nx () else .ret false := fun p hp => by
    unfold F__law_are_levels_s2
    dsimp only
    rw [foldL_allE (fun _ => true) fun p2 hp2 => ?_]
    · simp [exC]
    · unfold F__law_are_levels_s1
      rw [all_mapId]
      have hget : ∀ p ∈ enumI (LS n), p.2 ∈ LS n ∧ gx ((LS n).map (lvf n m (fp n m ps))) p.1 = lvf n m (fp n m ps) p.2 := fun p hp => by
        rw [enumI_rg] at hp
        obtain ⟨k, hk, rfl⟩ := List.mem_map.mp hp
        obtain ⟨k0, k1⟩ := mem_rgI.mp hk
        obtain ⟨j, rfl⟩ : ∃ j : Nat, k = j := ⟨k.toNat, by omega⟩
        have hj : j < (LS n).length := by omega
        dsimp only
        rw [gx_nat hj, gx_nat (by rw [List.length_map]; exact hj), List.getElem_map]
        exact ⟨List.getElem_mem hj, rfl⟩
      obtain ⟨a1, a2⟩ := hget p hp
      obtain ⟨b1, b2⟩ := hget p2 hp2
      cases hc : p.2.all fun x => memT x p2.2 with
      | false => rfl
      | true =>
        have hsub : ∀ i ∈ p.2, i ∈ p2.2 := fun i hi => memT_iff.mp (List.all_eq_true.mp hc i hi)
        have := level_mono z h a1 b1 hsub
        rw [a2, b2, decide_eq_false (by unfold lvf; omega)]
        rfl
  rw [foldL_allE (fun _ => true) key]
  simp [exC]
theorem own_some (r : Ru n m ps) (hex : ∀ x ∈ TP n m, ∃ S ∈ LS n, ∀ i ∈ rgI 0 n, i ∈ S ↔ gx x i ≤ fp n m ps x) : Option.isNone (F__law_own_levels (n, m, ps)) = false ↔ NG n m (fp n m ps) := by
  rw [own_eq r]
  constructor
  · intro e
    split at e
    · rename_i hc
      rw [Bool.and_eq_true, decide_eq_true_eq] at hc
      have h2 : (TP n m).map (pt n (lvf n m (fp n m ps))) = ps := by
        have := hc.2
        simp only [Prod.mk.injEq, true_and] at this
        exact this
      have h3 : (TP n m).map (pt n (lvf n m (fp n m ps))) = (TP n m).map (fp n m ps) := h2.trans r.map.symm
      exact made_ng r.sz fun x hx => (List.map_inj_left.mp h3 x hx).symm
    · cases e
  · intro h
    have h2 : (TP n m).map (pt n (lvf n m (fp n m ps))) = ps := by
      rw [← r.map]
      refine List.map_congr_left fun x hx => ?_
      rw [r.map]
      exact makes r.sz h (fun x hx => r.rg hx) hex hx
    rw [are_ok r h, h2, decide_eq_true rfl]
    rfl
theorem lots_all (z : Sz n m) (p : Int → Bool) : (rgI 0 n).filter p ∈ LS n := by
  have hb := z.bd
  have : n = 1 ∨ n = 2 ∨ n = 3 := by omega
  rcases this with rfl | rfl | rfl
  · show [(0 : Int)].filter p ∈ LS 1
    have e : LS 1 = [[], [0]] := by decide +kernel
    rw [e]
    cases h0 : p 0 <;> simp [h0]
  · show [(0 : Int), 1].filter p ∈ LS 2
    have e : LS 2 = [[], [0], [1], [0, 1]] := by decide +kernel
    rw [e]
    cases h0 : p 0 <;> cases h1 : p 1 <;> simp [h0, h1]
  · show [(0 : Int), 1, 2].filter p ∈ LS 3
    have e : LS 3 = [[], [0], [1], [0, 1], [2], [0, 2], [1, 2], [0, 1, 2]] := by decide +kernel
    rw [e]
    cases h0 : p 0 <;> cases h1 : p 1 <;> cases h2 : p 2 <;> simp [h0, h1, h2]
theorem lots_ex (z : Sz n m) : ∀ x ∈ TP n m, ∃ S ∈ LS n, ∀ i ∈ rgI 0 n, i ∈ S ↔ gx x i ≤ f x := fun x hx =>
  ⟨_, lots_all z fun i => decide (gx x i ≤ f x), fun i hi => by rw [List.mem_filter, decide_eq_true_eq]; exact ⟨fun h => h.2, fun h => ⟨hi, h⟩⟩⟩
theorem ownW (r : Ru n m ps) : W__law_own_levels (n, m, ps) := by
  have z := r.sz
  have h8 := z.one.2.2.2.1
  have hl : ((LS n).map (lvf n m (fp n m ps))).length = (LS n).length := List.length_map _
  unfold W__law_own_levels
  dsimp only
  rw [map_eta]
  show _ ∧ _ ∧ _ ∧ _ ∧ WFold (F__law_own_levels_s1 (n, m, ps) (tb n m ps)) (W__law_own_levels_s1 (n, m, ps) (tb n m ps)) [] (LS n) ∧ W__law_are_levels n m (List.foldl (F__law_own_levels_s1 (n, m, ps) (tb n m ps)) [] (LS n)) ∧ (_ → W__law_made n m (List.foldl (F__law_own_levels_s1 (n, m, ps) (tb n m ps)) [] (LS n)))
  rw [own_fold]
  refine ⟨z.w.1, r.tlen, r.dok, z.w.2.1, ?_, ⟨fun _ => by omega, fun _ => ⟨z.w.2.1, fun _ => ?_⟩⟩, fun _ => madeW z hl⟩
  · refine (wfold_pre (L := LS n) (fun p s => s.length = p.length) (p := []) (s := []) rfl rfl ?_).1
    intro p S q s e hs
    have hS : S ∈ LS n := by rw [e]; simp
    have hpl : p.length ≤ 8 := by
      have := congrArg List.length e
      rw [List.length_append] at this
      omega
    refine ⟨⟨z.rgn, by rw [len_rgI]; have := z.bd; omega, ?_, by omega⟩, ?_⟩
    · show ES n m S ∈ List.map (fun p => p.1) (tb n m ps)
      rw [r.keys]
      exact (z.one.2.2.2.2 S hS).2.2
    · show (s ++ [_]).length = _
      rw [List.length_append, List.length_append, hs]
      rfl
  · have hget : ∀ p ∈ enumI (LS n), p.2 ∈ LS n ∧ ixOk ((LS n).map (lvf n m (fp n m ps))).length p.1 := fun p hp => by
      rw [enumI_rg] at hp
      obtain ⟨k, hk, rfl⟩ := List.mem_map.mp hp
      obtain ⟨k0, k1⟩ := mem_rgI.mp hk
      obtain ⟨j, rfl⟩ : ∃ j : Nat, k = j := ⟨k.toNat, by omega⟩
      have hj : j < (LS n).length := by omega
      dsimp only
      rw [gx_nat hj, hl]
      exact ⟨List.getElem_mem hj, by unfold ixOk; omega⟩
    exact wfoldL_of (fun _ => True) trivial fun s p hp _ => ⟨wfoldL_of (fun _ => True) trivial fun s p2 hp2 _ => ⟨⟨by have := (z.one.2.2.2.2 p.2 (hget p hp).1).1; omega, fun _ => ⟨(hget p2 hp2).2, (hget p hp).2⟩⟩, fun _ _ => trivial⟩, fun _ _ => trivial⟩
/-! ### turned about -/
def tps (n m : Int) (ps : List Int) : List Int := (TP n m).map fun x => (m - 1) - fp n m ps (tu m x)
theorem turn_eq : F__law_turned (n, m, ps) = (n, m, tps n m ps) := by
  unfold F__law_turned
  dsimp only
  rw [map_eta]
  rfl
theorem Ru.turn (r : Ru n m ps) : Ru n m (tps n m ps) := by
  refine ⟨r.sz, List.length_map _, fun p hp => ?_⟩
  obtain ⟨x, hx, rfl⟩ := List.mem_map.mp hp
  have := mem_rgI.mp (r.rg (r.sz.two hx).2.2.1)
  omega
theorem fp_turn (r : Ru n m ps) (hx : x ∈ TP n m) : fp n m (tps n m ps) x = (m - 1) - fp n m ps (tu m x) := by
  have := r.turn.map
  exact List.map_inj_left.mp this x hx
theorem ng_turn (r : Ru n m ps) (h : NG n m (fp n m ps)) : NG n m (fp n m (tps n m ps)) := by
  intro x hx i hi q hq hb
  have z := r.sz
  obtain ⟨t1, t2⟩ := z.three hx hi
  obtain ⟨h1, h2, h3, h4, _⟩ := t2 q hq
  have ht := (z.two hx).2.2.1
  have hm := mem_rgI.mp hq
  have hq2 : (m - 1) - q ∈ rgI 0 m := mem_rgI.mpr (by omega)
  have := h _ ht i hi _ hq2
  rw [← h4] at this
  rw [fp_turn r hx, fp_turn r h1] at hb
  refine this ?_
  rw [t1]
  unfold bad at hb ⊢
  omega
theorem ng_back (r : Ru n m ps) (h : NG n m (fp n m (tps n m ps))) : NG n m (fp n m ps) := by
  intro x hx i hi q hq hb
  have z := r.sz
  have ht := (z.two hx).2.2.1
  have hback := (z.two hx).2.2.2.1
  obtain ⟨t1, _⟩ := z.three hx hi
  have hm := mem_rgI.mp hq
  have hq2 : (m - 1) - q ∈ rgI 0 m := mem_rgI.mpr (by omega)
  obtain ⟨h1, h2, h3, h4, _⟩ := (z.three ht hi).2 _ hq2
  have := h _ ht i hi _ hq2
  rw [fp_turn r ht, fp_turn r h1, hback, h4, hback] at this
  have e : (m - 1) - ((m - 1) - q) = q := by omega
  rw [e, t1] at this
  refine this ?_
  unfold bad at hb ⊢
  omega
theorem turnW (r : Ru n m ps) : W__law_turned (n, m, ps) := by
  have z := r.sz
  have := z.one.2.2.1.2
  have hb := z.bd
  unfold W__law_turned
  dsimp only
  rw [map_eta]
  refine ⟨z.w.1, r.tlen, r.dok, z.w.1, by show (TP n m).length < _; omega, fun x hx => ⟨by have := (z.two hx).1; omega, ?_⟩⟩
  show tu m x ∈ List.map (fun p => p.1) (tb n m ps)
  rw [r.keys]
  exact (z.two hx).2.2.1
end
end K12
set_option Elab.async false
set_option linter.all false
set_option maxRecDepth 100000
set_option maxHeartbeats 4000000
namespace K12
open PySem L2 Pv Tv PyProof.Rows
theorem gx_app {l r : List Int} {j : Int} (h0 : 0 ≤ j) (h1 : j < l.length) : gx (l ++ r) j = gx l j := by
  obtain ⟨k, rfl⟩ : ∃ k : Nat, j = k := ⟨j.toNat, by omega⟩
  rw [gx_nat (by rw [List.length_append]; omega), gx_nat (by omega), List.getElem_append_left (by omega)]
theorem gx_new {l : List Int} {v : Int} : gx (l ++ [v]) (l.length : Int) = v := by
  rw [gx_nat (by simp)]
  simp
def chkNum (n : Int) : Bool := (enumI (LS n)).all fun p => p.2.all fun x => decide (0 ≤ F__law_number p.2 x ∧ F__law_number p.2 x < p.1) && p.2.all fun y => decide (0 ≤ y ∧ y < 3)
theorem chkNum_ok : ∀ n ∈ [1, 2, 3], chkNum n = true := by decide +kernel
section
variable {n m i q c : Int} {x S : Row} {ps : List Int} {f : Row → Int} {t : T}
theorem num_ok (z : Sz n m) {k : Nat} (h : (LS n)[k]? = some S) (hx : x ∈ [S]) : ∀ y ∈ S, (0 ≤ F__law_number S y ∧ F__law_number S y < k) ∧ W__law_number S y := by
  have hb := z.bd
  have hn : n ∈ [1, 2, 3] := by simp only [List.mem_cons, List.not_mem_nil, or_false]; omega
  have hc := chkNum_ok n hn
  unfold chkNum at hc
  have hk := (List.getElem?_eq_some_iff.mp h).1
  have hmem : ((k : Int), S) ∈ enumI (LS n) := by
    rw [enumI_rg]
    refine List.mem_map.mpr ⟨(k : Int), mem_rgI.mpr (by omega), ?_⟩
    rw [gx_nat hk]
    have := (List.getElem?_eq_some_iff.mp h).2
    rw [this]
  have := List.all_eq_true.mp hc _ hmem
  intro y hy
  have := List.all_eq_true.mp this y hy
  simp only [Bool.and_eq_true, decide_eq_true_eq, List.all_eq_true] at this
  refine ⟨this.1, ?_, fun w hw _ => ?_⟩
  · have := (z.one.2.2.2.2 S (List.mem_of_getElem? h)).1
    omega
  · have := this.2 w hw
    show ixOk 4 w
    unfold ixOk
    omega
theorem dr {many : Int} (h : Hand t) (h1 : 1 ≤ many) (h2 : many < 18446744073709551616) : W__law_draw t many ∧ Hand (F__law_draw t many).2 ∧ 0 ≤ (F__law_draw t many).1 ∧ (F__law_draw t many).1 < many := ⟨⟨h, h1, h2⟩, drF_ok draws ⟨h, h1, h2⟩⟩
theorem levels_ok (z : Sz n m) (ht : Hand t) : W__law_levels t n m ∧ Hand (F__law_levels t n m).2 ∧ (F__law_levels t n m).1.length = (LS n).length ∧ (∀ v ∈ (F__law_levels t n m).1, 0 ≤ v ∧ v < m) ∧
    ∀ (k : Nat) S, (LS n)[k]? = some S → ∀ y ∈ S, gx (F__law_levels t n m).1 (k : Int) ≤ gx (F__law_levels t n m).1 (F__law_number S y) := by
  have hb := z.bd
  have h8 := z.one.2.2.2.1
  have key := wfold_pre (L := LS n) (step := F__law_levels_s1 m) (W := W__law_levels_s1 m) (fun p s => Hand s.1 ∧ s.2.length = p.length ∧ (∀ v ∈ s.2, 0 ≤ v ∧ v < m) ∧ ∀ (k : Nat) S, p[k]? = some S → ∀ y ∈ S, gx s.2 (k : Int) ≤ gx s.2 (F__law_number S y)) (p := []) (s := (t, [])) rfl ⟨ht, rfl, by simp, by simp⟩ ?_
  · exact ⟨⟨z.w.2.1, key.1⟩, key.2⟩
  · rintro p S q s e ⟨h1, h2, h3, h4⟩
    have hk : (LS n)[p.length]? = some S := by rw [e]; simp
    have hnum := num_ok (x := S) z hk (by simp)
    have hS := List.mem_of_getElem? hk
    have hS3 := (z.one.2.2.2.2 S hS).1
    have hpl : p.length < 8 := by
      have := congrArg List.length e
      rw [List.length_append, List.length_cons] at this
      omega
    have hix : ∀ y ∈ S, gx s.2 (F__law_number S y) ∈ s.2 := fun y hy => by
      have := (hnum y hy).1
      exact gx_mem this.1 (by omega)
    generalize htops : ((List.map (fun y => (gx s.2 (F__law_number S y))) S) ++ [(m - (1 : Int))]) = tops
    have hne : tops ≠ [] := by rw [← htops]; simp
    obtain ⟨k1, k2⟩ := minL_spec hne
    have hrt : ∀ v ∈ tops, 0 ≤ v ∧ v < m := fun v hv => by
      rw [← htops] at hv
      rcases List.mem_append.mp hv with hv | hv
      · obtain ⟨y, hy, rfl⟩ := List.mem_map.mp hv
        exact h3 _ (hix y hy)
      · rw [List.mem_singleton.mp hv]; omega
    have hmin := hrt _ k1
    obtain ⟨d1, d2, d3, d4⟩ := dr (t := s.1) (many := 1 + minL tops) h1 (by omega) (by omega)
    have hF : F__law_levels_s1 m s S = ((F__law_draw s.1 (1 + minL tops)).2, s.2 ++ [(F__law_draw s.1 (1 + minL tops)).1]) := by
      unfold F__law_levels_s1
      dsimp only
      rw [htops]
    refine ⟨?_, ?_⟩
    · unfold W__law_levels_s1
      dsimp only
      rw [htops]
      refine ⟨by omega, fun y hy => ⟨(hnum y hy).2, ?_⟩, ?_, hne, d1, by omega⟩
      · have := (hnum y hy).1
        unfold ixOk
        omega
      · rw [List.length_map, List.length_singleton]
        omega
    · rw [hF]
      refine ⟨d2, by rw [List.length_append, List.length_append, h2]; rfl, fun v hv => ?_, fun k S2 hk2 y hy => ?_⟩
      · rcases List.mem_append.mp hv with hv | hv
        · exact h3 v hv
        · rw [List.mem_singleton.mp hv]; omega
      · dsimp only
        by_cases hlt : k < p.length
        · rw [List.getElem?_append_left hlt] at hk2
          have hk3 : (LS n)[k]? = some S2 := by rw [e, List.getElem?_append_left hlt]; exact hk2
          have hn2 := (num_ok (x := S2) z hk3 (by simp) y hy).1
          rw [gx_app (by omega) (by omega), gx_app (by omega) (by omega)]
          exact h4 k S2 hk2 y hy
        · have hkl := (List.getElem?_eq_some_iff.mp hk2).1
          rw [List.length_append, List.length_singleton] at hkl
          have hkp : k = p.length := by omega
          subst hkp
          rw [List.getElem?_append_right (Nat.le_refl _)] at hk2
          have hS2 : S = S2 := by simpa using hk2
          subst hS2
          have hn2 := (hnum y hy).1
          rw [gx_app (j := F__law_number S y) (by omega) (by omega)]
          have e2 : gx (s.2 ++ [(F__law_draw s.1 (1 + minL tops)).1]) (p.length : Int) = (F__law_draw s.1 (1 + minL tops)).1 := by rw [← h2]; exact gx_new
          rw [e2]
          have := k2 (gx s.2 (F__law_number S y)) (by rw [← htops]; exact List.mem_append.mpr (.inl (List.mem_map.mpr ⟨y, hy, rfl⟩)))
          omega
theorem point_rng (z : Sz n m) {levels : List Int} (hl : levels.length = (LS n).length) (hr : ∀ v ∈ levels, 0 ≤ v ∧ v < m) (hx : x ∈ TP n m) : 0 ≤ F__law_point levels (LS n) x ∧ F__law_point levels (LS n) x < m := by
  obtain ⟨k1, _⟩ := minL_spec (pointW z hl hx).2.2
  obtain ⟨p, hp, e⟩ := List.mem_map.mp k1
  have hm := List.of_mem_zip (a := p.1) (b := p.2) hp
  obtain ⟨k3, _⟩ := maxL_spec (l := List.map (fun x_2 => gx x x_2) p.1 ++ [p.2]) (by simp)
  unfold F__law_point
  rw [← e]
  rcases List.mem_append.mp k3 with h | h
  · obtain ⟨j, hj, e2⟩ := List.mem_map.mp h
    rw [← e2]
    exact mem_rgI.mp (z.gx_mem hx ((z.one.2.2.2.2 p.1 hm.1).2.1 j hj)).2.1
  · rw [List.mem_singleton.mp h]
    exact hr _ hm.2
theorem made_ru (z : Sz n m) {levels : List Int} (hl : levels.length = (LS n).length) (hr : ∀ v ∈ levels, 0 ≤ v ∧ v < m) : F__law_made n m levels = (n, m, (TP n m).map fun x => F__law_point levels (LS n) x) ∧ Ru n m ((TP n m).map fun x => F__law_point levels (LS n) x) := by
  refine ⟨rfl, z, List.length_map _, fun p hp => ?_⟩
  obtain ⟨x, hx, rfl⟩ := List.mem_map.mp hp
  exact point_rng z hl hr hx
theorem rule_ok (ht : Hand t) : W__law_rule t ∧ Hand (F__law_rule t).2 ∧ ∃ n m ps, (F__law_rule t).1 = (n, m, ps) ∧ Ru n m ps := by
  obtain ⟨a1, a2, a3, a4⟩ := dr (t := t) (many := 3) ht (by omega) (by omega)
  generalize hr1 : F__law_draw t 3 = r1 at *
  obtain ⟨n, hn⟩ : ∃ n, n = 1 + r1.1 := ⟨_, rfl⟩
  have hmany : ∃ M : Int, M = (if (decide (n = (1 : Int))) = true then (5 : Int) else (if (decide (n = (2 : Int))) = true then (3 : Int) else (2 : Int))) := ⟨_, rfl⟩
  obtain ⟨M, hM⟩ := hmany
  have hMb : 2 ≤ M ∧ M ≤ 5 ∧ (n = 1 → M = 5) ∧ (n = 2 → M = 3) ∧ (n = 3 → M = 2) := by
    have : n = 1 ∨ n = 2 ∨ n = 3 := by omega
    rcases this with e | e | e <;> (rw [e] at hM; simp at hM; omega)
  obtain ⟨b1, b2, b3, b4⟩ := dr (t := r1.2) (many := M) a2 (by omega) (by omega)
  generalize hr2 : F__law_draw r1.2 M = r2 at *
  obtain ⟨m, hm⟩ : ∃ m, m = 2 + r2.1 := ⟨_, rfl⟩
  have z : Sz n m := ⟨by
    unfold PR
    simp only [List.mem_cons, Prod.mk.injEq, List.not_mem_nil, or_false]
    omega⟩
  obtain ⟨l1, l2, l3, l4, _⟩ := levels_ok z b2
  generalize hr3 : F__law_levels r2.2 n m = r3 at *
  obtain ⟨c1, c2, c3, c4⟩ := dr (t := r3.2) (many := 5) l2 (by omega) (by omega)
  generalize hr4 : F__law_draw r3.2 5 = r4 at *
  obtain ⟨e1, ru⟩ := made_ru z l3 l4
  have hb := z.bd
  have htl := z.one.2.2.1
  unfold W__law_rule F__law_rule
  simp only [hr1, ← hn, ← hM, hr2, ← hm, hr3, hr4, e1]
  generalize hps : ((TP n m).map fun x => F__law_point r3.1 (LS n) x) = ps at *
  have hpl := ru.len
  by_cases w1 : r4.1 < 3
  · simp only [decide_eq_true w1, if_true]
    exact ⟨⟨a1, b1, l1, madeW z l3, c1, (fun h => by cases h)⟩, c2, n, m, ps, rfl, ru⟩
  · simp only [decide_eq_false w1, Bool.false_eq_true, if_false]
    by_cases w2 : r4.1 = 3
    · simp only [decide_eq_true w2, if_true]
      obtain ⟨f1, f2, f3, f4⟩ := dr (t := r4.2) (many := m) c2 (by omega) (by omega)
      generalize hr5 : F__law_draw r4.2 m = r5 at *
      obtain ⟨g1, g2, g3, g4⟩ := dr (t := r5.2) (many := (ps.length : Int)) f2 (by omega) (by omega)
      generalize hr6 : F__law_draw r5.2 (ps.length : Int) = r6 at *
      refine ⟨⟨a1, b1, l1, madeW z l3, c1, fun _ => ⟨fun _ => ⟨f1, g1, by unfold ixOk; omega⟩, (fun h => by cases h)⟩⟩, g2, n, m, _, rfl, z, ?_, fun p hp => ?_⟩
      · unfold setI
        rw [List.length_set]
        exact hpl
      · unfold setI at hp
        rcases List.mem_or_eq_of_mem_set hp with h | h
        · exact ru.rng p h
        · rw [h]; omega
    · simp only [decide_eq_false w2, Bool.false_eq_true, if_false]
      obtain ⟨m1, m2, m3, m4⟩ := mapS_inv (step := fun (s : T) (x : Int) => ((F__law_draw s m).1, (F__law_draw s m).2)) (W := fun (s : T) (x : Int) => W__law_draw s m) Hand (fun y => 0 ≤ y ∧ y < m) (l := ps) (s := r4.2) c2 fun s x _ hs => by
        obtain ⟨f1, f2, f3, f4⟩ := dr (t := s) (many := m) hs (by omega) (by omega)
        exact ⟨f1, ⟨f3, f4⟩, f2⟩
      refine ⟨⟨a1, b1, l1, madeW z l3, c1, fun _ => ⟨(fun h => by cases h), fun _ => ⟨by omega, m1⟩⟩⟩, m2, n, m, _, rfl, z, by rw [m3]; exact hpl, m4⟩
theorem isW {d x : PyData} (h1 : reprOk d = true) (h2 : reprOk x = true) : W__law_is d x := ⟨h1, h2⟩
theorem is_same {d : PyData} : F__law_is d d = true := decide_eq_true rfl
theorem rok_gain (z : Sz n m) (hx : x ∈ TP n m) (hi : i ∈ rgI 0 n) (hq : q ∈ rgI 0 m) : ROk 30000 3 (eO (eP3 (eT eI) eI eI) (some (x, i, q))) := by
  have hb := z.bd
  obtain ⟨h1, h2, _⟩ := z.two hx
  have := mem_rgI.mp hi
  have := mem_rgI.mp hq
  refine (rok_tup (w := 8000) (n := 2) (N := 3) (fun d hd => ?_) (by simp)).mono (by decide) (by decide)
  simp only [List.mem_cons, List.not_mem_nil, or_false] at hd
  rcases hd with rfl | rfl | rfl
  · refine (rok_tup (w := 1921) (n := 1) (N := 3) (fun d hd => ?_) (by rw [List.length_map]; omega)).mono (by decide) (by decide)
    obtain ⟨y, hy, rfl⟩ := List.mem_map.mp hd
    have := h2 y hy
    exact rok_int (by omega)
  · exact (rok_int (by omega)).mono (by decide) (by decide)
  · exact (rok_int (by omega)).mono (by decide) (by decide)
theorem case_ok (ht : Hand t) : W__law_case_right t ∧ (F__law_case_right t).1 = true ∧ Hand (F__law_case_right t).2 := by
  obtain ⟨g1, g2, n, m, ps, g3, r⟩ := rule_ok ht
  have z := r.sz
  have hown := own_some r (lots_ex z)
  have hturn : Option.isNone (F_first_peak_gain (n, m, tps n m ps)) = Option.isNone (gn (fp n m ps) n m) := by
    show Option.isNone (F_gain_in (n, m, tps n m ps)) = _
    rw [pgain_eq z, Bool.eq_iff_iff, Option.isNone_iff_eq_none, Option.isNone_iff_eq_none, gn_none, gn_none]
    exact ⟨ng_back r, ng_turn r⟩
  have hfirst : F_first_peak_gain (n, m, ps) = gn (fp n m ps) n m := pgain_eq z
  have hpair : decide (Option.isNone (gn (fp n m ps) n m) = !Option.isNone (F__law_own_levels (n, m, ps))) = true := by
    rw [decide_eq_true_eq]
    cases ho : Option.isNone (F__law_own_levels (n, m, ps)) with
    | false => rw [Option.isNone_iff_eq_none.mpr (gn_none.mpr (hown.mp ho))]; rfl
    | true =>
      cases hg : gn (fp n m ps) n m with
      | some v => rfl
      | none => rw [hown.mpr (gn_none.mp hg)] at ho; cases ho
  unfold W__law_case_right F__law_case_right
  simp only [g3, lgain_eq, hfirst, turn_eq, is_same, hpair, hturn]
  rcases gn_cases (fp n m ps) n m with ⟨h, _⟩ | ⟨x, hx, i, hi, q, hq, hb, h⟩
  · rw [h]
    refine ⟨⟨g1, lgainW r, firstW r, isW (rok_none.ok (by decide) (by decide)) (rok_none.ok (by decide) (by decide)), fun _ => ownW r, fun _ => ⟨(fun e => by cases e), fun _ => ⟨turnW r, firstW r.turn⟩⟩⟩, ?_, ?_⟩
    · rfl
    · exact g2
  · rw [h]
    have hr := (rok_gain z hx hi hq).ok (by decide) (by decide)
    have h1 := ((z.three hx hi).2 q hq).1
    have hne : decide (F_settles (n, m, ps) x = F_settles (n, m, ps) (rep x i q)) = false := decide_eq_false hb.1
    refine ⟨⟨g1, lgainW r, firstW r, isW hr hr, fun _ => ownW r, fun _ => ⟨fun _ => ⟨rfl, settleW r hx, (cut_w z hx hi hq).1, (cut_w z hx hi hq).2, settleW r h1, fun _ => ⟨turnW r, firstW r.turn⟩⟩, (fun e => by cases e)⟩⟩, ?_, ?_⟩
    · have hne2 : F_settles (n, m, ps) x ≠ F_settles (n, m, ps) (rep x i q) := hb.1
      simp [rep] at hne2
      simp [gO, hne2]
    · have hne2 : F_settles (n, m, ps) x ≠ F_settles (n, m, ps) (rep x i q) := hb.1
      simp [rep] at hne2
      simp [gO, hne2]
      exact g2
end
/-! ### the rules that are told at the end -/
instance (a b : Int) : Decidable (W_in_lot a b) := by unfold W_in_lot; exact inferInstance
instance (l : List Int) (p : Int × Int) (u : Unit) (x : Int) : Decidable (W_are_levels_s1 l p u x) := by unfold W_are_levels_s1 ixOk; exact inferInstance
instance (v : Int) (l : List Int) (u : Unit) (p : Int × Int) : Decidable (W_are_levels_s2 v l u p) := by unfold W_are_levels_s2; exact inferInstance
instance (v p : Int) (l : List Int) : Decidable (W_are_levels v p l) := by unfold W_are_levels; exact inferInstance
instance (l : List Int) (s : List Int) (p : Int × Int) : Decidable (W_point_by_s1 l s p) := by unfold W_point_by_s1; exact inferInstance
instance (l p : List Int) : Decidable (W_point_by l p) := by unfold W_point_by; exact inferInstance
instance (n m : Int) : Decidable (W_all_peaks n m) := inferInstanceAs (Decidable (W__law_tuples n m))
instance (v p : Int) (l : List Int) : Decidable (W_made_by v p l) := by unfold W_made_by; exact inferInstance
def chkM (lv : List Int) : Bool := !(decide (gx lv 1 ≤ gx lv 0) && decide (gx lv 2 ≤ gx lv 0) && decide (gx lv 3 ≤ gx lv 2) && decide (gx lv 3 ≤ gx lv 1)) || (decide (W_made_by 2 3 lv) && decide ((F_made_by 2 3 lv).1 = 2 ∧ (F_made_by 2 3 lv).2.1 = 3) && decide ((F_made_by 2 3 lv).2.2.length = 9) && ((F_made_by 2 3 lv).2.2.all fun p => decide (0 ≤ p ∧ p < 3)) && decide (F_first_peak_gain (F_made_by 2 3 lv) = none))
theorem chkM_ok : ∀ a ∈ rgI 0 3, ∀ b ∈ rgI 0 3, ∀ c ∈ rgI 0 3, ∀ d ∈ rgI 0 3, chkM [a, b, c, d] = true := by decide +kernel
theorem sz23 : Sz 2 3 := ⟨by decide⟩
theorem made_end {t : T} (ht : Hand t) : W__law_levels t 2 3 ∧ W_made_by 2 3 (F__law_levels t 2 3).1 ∧ (∃ ps, F_made_by 2 3 (F__law_levels t 2 3).1 = (2, 3, ps) ∧ Ru 2 3 ps) ∧ F_first_peak_gain (F_made_by 2 3 (F__law_levels t 2 3).1) = none := by
  obtain ⟨l1, l2, l3, l4, l5⟩ := levels_ok sz23 ht
  have e : LS 2 = [[], [0], [1], [0, 1]] := by decide +kernel
  rw [e] at l3 l5
  generalize (F__law_levels t 2 3).1 = lv at *
  match lv, l3 with
  | [a, b, c, d], _ =>
    have r : ∀ v ∈ [a, b, c, d], v ∈ rgI 0 3 := fun v hv => mem_rgI.mpr (l4 v hv)
    have hc := chkM_ok a (r a (by simp)) b (r b (by simp)) c (r c (by simp)) d (r d (by simp))
    have n1 : F__law_number [0] 0 = 0 := by decide +kernel
    have n2 : F__law_number [1] 1 = 0 := by decide +kernel
    have n3 : F__law_number [0, 1] 0 = 2 := by decide +kernel
    have n4 : F__law_number [0, 1] 1 = 1 := by decide +kernel
    have h1 := l5 1 [0] rfl 0 (by simp)
    have h2 := l5 2 [1] rfl 1 (by simp)
    have h3 := l5 3 [0, 1] rfl 0 (by simp)
    have h4 := l5 3 [0, 1] rfl 1 (by simp)
    rw [n1] at h1
    rw [n2] at h2
    rw [n3] at h3
    rw [n4] at h4
    unfold chkM at hc
    rw [decide_eq_true (show gx [a, b, c, d] 1 ≤ gx [a, b, c, d] 0 from h1), decide_eq_true (show gx [a, b, c, d] 2 ≤ gx [a, b, c, d] 0 from h2), decide_eq_true (show gx [a, b, c, d] 3 ≤ gx [a, b, c, d] 2 from h3), decide_eq_true (show gx [a, b, c, d] 3 ≤ gx [a, b, c, d] 1 from h4)] at hc
    simp only [Bool.and_self, Bool.not_true, Bool.false_or, Bool.and_eq_true, decide_eq_true_eq, List.all_eq_true] at hc
    obtain ⟨⟨⟨⟨k1, k2, k3⟩, k4⟩, k5⟩, k6⟩ := hc
    refine ⟨l1, k1, ⟨(F_made_by 2 3 [a, b, c, d]).2.2, ?_, sz23, ?_, k5⟩, k6⟩
    · exact Prod.ext k2 (Prod.ext k3 rfl)
    · rw [k4]; decide +kernel
theorem ru1 : Ru 1 2 [1, 0] := ⟨⟨by decide⟩, by decide +kernel, by decide⟩
theorem ru2 : Ru 1 3 [0, 2, 2] := ⟨⟨by decide⟩, by decide +kernel, by decide⟩
theorem f1 : F_first_peak_gain (1, 2, [1, 0]) = some ([0], 0, 1) := by decide +kernel
theorem f2 : F_first_peak_gain (1, 3, [0, 2, 2]) = some ([1], 0, 0) := by decide +kernel
theorem law_plain (ns : List Int) (h : ns.length ≤ 63) : G_law [.list (ns.map PyData.int)] = some (.sh (.bool true)) := by
  have hh := (hand_ok h).2
  obtain ⟨u1, z1, e1, hz1⟩ := wfoldL_inv (step := F_law_s1) (W := W_law_s1) Hand (l := rgI 0 4) (s := F__law_hand ns) hh fun s x _ hs => by
    obtain ⟨c1, c2, c3⟩ := case_ok hs
    refine ⟨c1, (F__law_case_right s).2, ?_, c3⟩
    unfold F_law_s1
    dsimp only
    rw [c2]
    rfl
  obtain ⟨m1, m2, ⟨ps, m3, m4⟩, m5⟩ := made_end hz1
  have hW : W_law ns := by
    unfold W_law
    dsimp only
    refine ⟨h, u1, fun z hz => ?_⟩
    rw [e1] at hz
    cases hz
    refine ⟨m1, m2, firstW ru1, firstW ru2, by rw [m3]; exact firstW m4, isW ?_ ?_⟩
    · rw [f1, f2, m5]
      decide +kernel
    · decide +kernel
  have hF : F_law ns = true := by
    unfold F_law
    dsimp only
    rw [e1]
    dsimp only [exC]
    rw [f1, f2, m5]
    exact decide_eq_true rfl
  have := V_law hW
  rw [hF] at this
  exact this
end K12
set_option Elab.async false
set_option linter.all false
set_option maxRecDepth 100000
set_option maxHeartbeats 0
namespace K12
open PySem PySem.Spec PyProof.Rows L2 Pv
def top (i : Nat) : Stmt := PySem.Challenge.pw_slipfree_k12_whole_gains_of_voters_with.main.body.getD i (.Pass ⟨0, 0, 0, 0⟩)
abbrev s__law_tuples : Stmt := top 36
def d__law_tuples : He.DefD := ⟨("_law_tuples", none), "_law_tuples", "_law_tuples", defArgs s__law_tuples, defBody s__law_tuples, defScope s__law_tuples, [], []⟩
abbrev s__law_gain : Stmt := top 43
def d__law_gain : He.DefD := ⟨("_law_gain", none), "_law_gain", "_law_gain", defArgs s__law_gain, defBody s__law_gain, defScope s__law_gain, [], []⟩
abbrev s__law_is : Stmt := top 34
def d__law_is : He.DefD := ⟨("_law_is", none), "_law_is", "_law_is", defArgs s__law_is, defBody s__law_is, defScope s__law_is, [], []⟩
abbrev s__law_is_int : Stmt := top 35
def d__law_is_int : He.DefD := ⟨("_law_is_int", none), "_law_is_int", "_law_is_int", defArgs s__law_is_int, defBody s__law_is_int, defScope s__law_is_int, [], []⟩
abbrev s__law_lots : Stmt := top 37
def d__law_lots : He.DefD := ⟨("_law_lots", none), "_law_lots", "_law_lots", defArgs s__law_lots, defBody s__law_lots, defScope s__law_lots, [], []⟩
abbrev s__law_are_levels : Stmt := top 38
def d__law_are_levels : He.DefD := ⟨("_law_are_levels", none), "_law_are_levels", "_law_are_levels", defArgs s__law_are_levels, defBody s__law_are_levels, defScope s__law_are_levels, [], []⟩
abbrev s__law_point : Stmt := top 41
def d__law_point : He.DefD := ⟨("_law_point", none), "_law_point", "_law_point", defArgs s__law_point, defBody s__law_point, defScope s__law_point, [], []⟩
abbrev s__law_made : Stmt := top 42
def d__law_made : He.DefD := ⟨("_law_made", none), "_law_made", "_law_made", defArgs s__law_made, defBody s__law_made, defScope s__law_made, [], []⟩
abbrev s__law_own_levels : Stmt := top 44
def d__law_own_levels : He.DefD := ⟨("_law_own_levels", none), "_law_own_levels", "_law_own_levels", defArgs s__law_own_levels, defBody s__law_own_levels, defScope s__law_own_levels, [], []⟩
abbrev s__law_draw : Stmt := top 33
def d__law_draw : He.DefD := ⟨("_law_draw", none), "_law_draw", "_law_draw", defArgs s__law_draw, defBody s__law_draw, defScope s__law_draw, [], []⟩
abbrev s__law_number : Stmt := top 40
def d__law_number : He.DefD := ⟨("_law_number", none), "_law_number", "_law_number", defArgs s__law_number, defBody s__law_number, defScope s__law_number, [], []⟩
abbrev s__law_levels : Stmt := top 39
def d__law_levels : He.DefD := ⟨("_law_levels", none), "_law_levels", "_law_levels", defArgs s__law_levels, defBody s__law_levels, defScope s__law_levels, [], []⟩
abbrev s__law_rule : Stmt := top 45
def d__law_rule : He.DefD := ⟨("_law_rule", none), "_law_rule", "_law_rule", defArgs s__law_rule, defBody s__law_rule, defScope s__law_rule, [], []⟩
abbrev s__law_turned : Stmt := top 46
def d__law_turned : He.DefD := ⟨("_law_turned", none), "_law_turned", "_law_turned", defArgs s__law_turned, defBody s__law_turned, defScope s__law_turned, [], []⟩
abbrev s_how_many : Stmt := top 19
def d_how_many : He.DefD := ⟨("how_many", none), "how_many", "how_many", defArgs s_how_many, defBody s_how_many, defScope s_how_many, [], []⟩
abbrev s_is_table : Stmt := top 12
def d_is_table : He.DefD := ⟨("is_table", none), "is_table", "is_table", defArgs s_is_table, defBody s_is_table, defScope s_is_table, [], []⟩
abbrev s_is_triple : Stmt := top 11
def d_is_triple : He.DefD := ⟨("is_triple", none), "is_triple", "is_triple", defArgs s_is_triple, defBody s_is_triple, defScope s_is_triple, [], []⟩
abbrev s_is_integer : Stmt := top 9
def d_is_integer : He.DefD := ⟨("is_integer", none), "is_integer", "is_integer", defArgs s_is_integer, defBody s_is_integer, defScope s_is_integer, [], []⟩
abbrev s_is_within : Stmt := top 10
def d_is_within : He.DefD := ⟨("is_within", none), "is_within", "is_within", defArgs s_is_within, defBody s_is_within, defScope s_is_within, [], []⟩
abbrev s_is_peak_rule : Stmt := top 20
def d_is_peak_rule : He.DefD := ⟨("is_peak_rule", none), "is_peak_rule", "is_peak_rule", defArgs s_is_peak_rule, defBody s_is_peak_rule, defScope s_is_peak_rule, [], []⟩
abbrev s_check_rule : Stmt := top 21
def d_check_rule : He.DefD := ⟨("check_rule", none), "check_rule", "check_rule", defArgs s_check_rule, defBody s_check_rule, defScope s_check_rule, [], []⟩
abbrev s_all_peaks : Stmt := top 18
def d_all_peaks : He.DefD := ⟨("all_peaks", none), "all_peaks", "all_peaks", defArgs s_all_peaks, defBody s_all_peaks, defScope s_all_peaks, [], []⟩
abbrev s_may_like : Stmt := top 24
def d_may_like : He.DefD := ⟨("may_like", none), "may_like", "may_like", defArgs s_may_like, defBody s_may_like, defScope s_may_like, [], []⟩
abbrev s_told_by : Stmt := top 22
def d_told_by : He.DefD := ⟨("told_by", none), "told_by", "told_by", defArgs s_told_by, defBody s_told_by, defScope s_told_by, [], []⟩
abbrev s_gain_in : Stmt := top 25
def d_gain_in : He.DefD := ⟨("gain_in", none), "gain_in", "gain_in", defArgs s_gain_in, defBody s_gain_in, defScope s_gain_in, [], []⟩
abbrev s_first_peak_gain : Stmt := top 26
def d_first_peak_gain : He.DefD := ⟨("first_peak_gain", none), "first_peak_gain", "first_peak_gain", defArgs s_first_peak_gain, defBody s_first_peak_gain, defScope s_first_peak_gain, [], []⟩
abbrev s_settles : Stmt := top 23
def d_settles : He.DefD := ⟨("settles", none), "settles", "settles", defArgs s_settles, defBody s_settles, defScope s_settles, [], []⟩
abbrev s__law_case_right : Stmt := top 47
def d__law_case_right : He.DefD := ⟨("_law_case_right", none), "_law_case_right", "_law_case_right", defArgs s__law_case_right, defBody s__law_case_right, defScope s__law_case_right, [], []⟩
abbrev s__law_hand : Stmt := top 32
def d__law_hand : He.DefD := ⟨("_law_hand", none), "_law_hand", "_law_hand", defArgs s__law_hand, defBody s__law_hand, defScope s__law_hand, [], []⟩
abbrev s_in_lot : Stmt := top 27
def d_in_lot : He.DefD := ⟨("in_lot", none), "in_lot", "in_lot", defArgs s_in_lot, defBody s_in_lot, defScope s_in_lot, [], []⟩
abbrev s_are_levels : Stmt := top 29
def d_are_levels : He.DefD := ⟨("are_levels", none), "are_levels", "are_levels", defArgs s_are_levels, defBody s_are_levels, defScope s_are_levels, [], []⟩
abbrev s_point_by : Stmt := top 28
def d_point_by : He.DefD := ⟨("point_by", none), "point_by", "point_by", defArgs s_point_by, defBody s_point_by, defScope s_point_by, [], []⟩
abbrev s_made_by : Stmt := top 30
def d_made_by : He.DefD := ⟨("made_by", none), "made_by", "made_by", defArgs s_made_by, defBody s_made_by, defScope s_made_by, [], []⟩
abbrev s_law : Stmt := top 48
def d_law : He.DefD := ⟨("law", none), "law", "law", defArgs s_law, defBody s_law, defScope s_law, [], []⟩
def fn : List He.DefD := [d__law_tuples, d__law_gain, d__law_is, d__law_is_int, d__law_lots, d__law_are_levels, d__law_point, d__law_made, d__law_own_levels, d__law_draw, d__law_number, d__law_levels, d__law_rule, d__law_turned, d_how_many, d_is_table, d_is_triple, d_is_integer, d_is_within, d_is_peak_rule, d_check_rule, d_all_peaks, d_may_like, d_told_by, d_gain_in, d_first_peak_gain, d_settles, d__law_case_right, d__law_hand, d_in_lot, d_are_levels, d_point_by, d_made_by, d_law]
def fa : List He.Fa := [.glo "_law_tuples", .glo "_law_gain", .glo "_law_is", .glo "_law_is_int", .glo "_law_lots", .glo "_law_are_levels", .glo "_law_point", .glo "_law_made", .glo "_law_own_levels", .glo "_law_draw", .glo "_law_number", .glo "_law_levels", .glo "_law_rule", .glo "_law_turned", .glo "how_many", .glo "is_table", .glo "is_triple", .glo "is_integer", .glo "is_within", .glo "is_peak_rule", .glo "check_rule", .glo "all_peaks", .glo "may_like", .glo "told_by", .glo "gain_in", .glo "first_peak_gain", .glo "settles", .glo "_law_case_right", .glo "_law_hand", .glo "in_lot", .glo "are_levels", .glo "point_by", .glo "made_by", .glo "law", .free "range", .free "dict", .free "zip", .free "repr", .free "isinstance", .free "int", .free "bool", .free "tuple", .free "all", .free "len", .free "enumerate", .free "min", .free "max", .free "sum", .free "list", .free "abs", .int "MOST_VOTERS" 4, .int "MOST_POINTS" 6, .int "LEAST_POINTS" 2, .int "MOST_TUPLES" 1300]
section
variable {P : Program} {w : World} {K : PySem.W.Frag} {mg : Str → Option Value} {base : Heap}
theorem sc__law_tuples : FnScope ["n", "m", "found", "voter", "longer", "row", "point"] ["n", "m"] (defScope s__law_tuples) := ⟨rfl, rfl, rfl, by decide +kernel, rfl, by decide +kernel, by decide +kernel⟩
theorem ok__law_tuples (T : Tp fa fn K mg) : ∃ fd, Has P w K mg base d__law_tuples ["n", "m"] 2 (spP K 2 G__law_tuples) fd := by
  have m_range := T.free 34 (x := "range")
  obtain ⟨fd, F0⟩ := T.c.def_ 0 (d := d__law_tuples) rfl
  have F : FunD K d__law_tuples.name d__law_tuples.qual d__law_tuples.params d__law_tuples.body d__law_tuples.scope [] [] (He.fAd K d__law_tuples.at_) fd := F0
  have bd : Binds K fd ["n", "m"] [] := F.bindsN fun _ _ _ _ _ _ us hl => match us, hl with | [_, _], _ => rfl
  have sc := sc__law_tuples
  refine ⟨fd, F, bd, def_ok (n := 2) (N := ["n", "m", "found", "voter", "longer", "row", "point"]) (fb := B__law_tuples) F sc rfl fun cdv A outer s H E hr hgd => ?_⟩
  have hu := good_u (k := 0) hr
  exact (psd_cons (psd_set (by decide) (ps_set sc.nd rfl (by first | exact Or.inl rfl | exact Or.inr rfl) (pd_lst (pad_cons (pd_tup pad_nil) pad_nil))))
    (psd_cons (psd_for (by decide) (ps_for PassesOwn.never rfl (pid_r1 (pi_range1 rfl m_range (pa_cons (pd_v (pv 0)) pa_nil))) (pgd_name (pg_name sc.nd rfl (by first | exact Or.inl rfl | exact Or.inr rfl))) (psd_cons (psd_set (by decide) (ps_set sc.nd rfl (by first | exact Or.inl rfl | exact Or.inr rfl) (pd_lst pad_nil)))
    (psd_cons (psd_forV (by decide) (ps_for PassesOwn.never rfl (pid_seqV rfl (pv 2)) (pgd_name (pg_name sc.nd rfl (by first | exact Or.inl rfl | exact Or.inr rfl))) (psd_one (psd_expr (pd_mt1 rfl mExtend_ok (pe_bm PySem.F.plainAttrs_list PySem.F.slot_list_extend PySem.F.type_list_extend mt_extend (pv 4) (pa_cons (pd_comp (C' := cnN K) (ws := [6]) (own := [6]) rfl (by decide) (by decide) (pe_lc rfl sc.nd (pid_r1 (pi_range1 rfl m_range (pa_cons (pd_v (pv 1)) pa_nil))) (own := [("point", 6)]) (blkOk_by (by kernel_rfl)) (fun _ _ _ _ _ => (pgd_name (pg_name sc.nd rfl (by first | exact Or.inl rfl | exact Or.inr rfl)))) (fun _ _ _ _ _ => ptsd_nil) (fun _ _ _ _ _ => (pd_binL rfl (pe_op opAdd_ok (pv 5) (pd_tup (pad_cons (pd_v (pv 6)) pad_nil))))))) pa_nil)))))))
    (psd_one (psd_set (by decide) (ps_set sc.nd rfl (by first | exact Or.inl rfl | exact Or.inr rfl) (pd_v (pv 4)))))))))
    (psd_one (psd_retV (pv 2)))))
theorem sc__law_gain : FnScope ["rule", "n", "m", "points", "rows", "told", "peaks", "point", "voter", "peak", "here", "there", "own"] ["rule"] (defScope s__law_gain) := ⟨rfl, rfl, rfl, by decide +kernel, rfl, by decide +kernel, by decide +kernel⟩
theorem ok__law_gain (T : Tp fa fn K mg) : ∃ fd, Has P w K mg base d__law_gain ["rule"] 3 (spP K 1 G__law_gain) fd := by
  have m_dict := T.free 35 (x := "dict")
  have m_range := T.free 34 (x := "range")
  have m_zip := T.free 36 (x := "zip")
  have g__law_tuples := T.glo 0 (x := "_law_tuples")
  obtain ⟨fd__law_tuples, H__law_tuples⟩ := ok__law_tuples (P := P) (w := w) (base := base) T
  obtain ⟨fd, F0⟩ := T.c.def_ 1 (d := d__law_gain) rfl
  have F : FunD K d__law_gain.name d__law_gain.qual d__law_gain.params d__law_gain.body d__law_gain.scope [] [] (He.fAd K d__law_gain.at_) fd := F0
  have bd : Binds K fd ["rule"] [] := F.bindsN fun _ _ _ _ _ _ us hl => match us, hl with | [_], _ => rfl
  have sc := sc__law_gain
  refine ⟨fd, F, bd, def_ok (n := 1) (N := ["rule", "n", "m", "points", "rows", "told", "peaks", "point", "voter", "peak", "here", "there", "own"]) (fb := B__law_gain) F sc rfl fun cdv A outer s H E hr hgd => ?_⟩
  have hu := good_u (k := 1) hr
  exact (psd_cons (psd_asg (by decide) (ps_asg (pd_v (pv 0)) (pgd_tup rfl rfl (pgsd_cons (pgd_name (pg_name sc.nd rfl (by first | exact Or.inl rfl | exact Or.inr rfl))) (pgsd_cons (pgd_name (pg_name sc.nd rfl (by first | exact Or.inl rfl | exact Or.inr rfl))) (pgsd_cons (pgd_name (pg_name sc.nd rfl (by first | exact Or.inl rfl | exact Or.inr rfl))) pgsd_nil))))))
    (psd_cons (psd_set (by decide) (ps_set sc.nd rfl (by first | exact Or.inl rfl | exact Or.inr rfl) (pd_def rfl (fun _ _ => gP_len) (pe_callG H__law_tuples.ok (hr.mono (by decide)) hgd rfl g__law_tuples H__law_tuples.F.kp H__law_tuples.b (pad_cons (pd_v (pv 1)) (pad_cons (pd_v (pv 2)) pad_nil))))))
    (psd_cons (psd_set (by decide) (ps_set sc.nd rfl (by first | exact Or.inl rfl | exact Or.inr rfl) (pd_call rfl (pe_callTy (bDict_ok ⟨rfl, hu, hgd⟩) rfl m_dict PyProof.Rows.boot_dict (pad_cons (pd_comp (C' := cnN K) (ws := [6, 7]) (own := [6, 7]) rfl (by decide) (by decide) (pe_lc rfl sc.nd (pid_zipM rfl (pi_zipM rfl m_zip (pa_cons (pd_v (pv 4)) (pa_cons (pd_v (pv 3)) pa_nil)))) (own := [("peaks", 6), ("point", 7)]) (blkOk_by (by kernel_rfl)) (fun _ _ _ _ _ => (pgd_tup rfl rfl (pgsd_cons (pgd_name (pg_name sc.nd rfl (by first | exact Or.inl rfl | exact Or.inr rfl))) (pgsd_cons (pgd_name (pg_name sc.nd rfl (by first | exact Or.inl rfl | exact Or.inr rfl))) pgsd_nil)))) (fun _ _ _ _ _ => ptsd_nil) (fun _ _ _ _ _ => (pd_tup (pad_cons (pd_v (pv 6)) (pad_cons (pd_v (pv 7)) pad_nil)))))) pad_nil)))))
    (psd_cons (psd_forV (by decide) (ps_for PassesOwn.never rfl (pid_seqV rfl (pv 4)) (pgd_name (pg_name sc.nd rfl (by first | exact Or.inl rfl | exact Or.inr rfl))) (psd_one (psd_for (by decide) (ps_for PassesOwn.never rfl (pid_r1 (pi_range1 rfl m_range (pa_cons (pd_v (pv 1)) pa_nil))) (pgd_name (pg_name sc.nd rfl (by first | exact Or.inl rfl | exact Or.inr rfl))) (psd_one (psd_for (by decide) (ps_for PassesOwn.never rfl (pid_r1 (pi_range1 rfl m_range (pa_cons (pd_v (pv 2)) pa_nil))) (pgd_name (pg_name sc.nd rfl (by first | exact Or.inl rfl | exact Or.inr rfl))) (psd_cons (psd_par3 (by decide) (by decide) (by decide) (ps_parT rfl sc.nd rfl rfl rfl (by decide) (by decide) (by decide) rfl rfl rfl (pad_cons (pd_binLR rfl (pe_ix (opIx_ok ⟨rfl, hu, hgd⟩) (pv 5) (pv 6) (fun _ _ => rfl))) (pad_cons (pd_binL rfl (pe_ix (opIx_ok ⟨rfl, hu, hgd⟩) (pv 5) (pd_bin rfl (pe_op opAdd_ok (pd_bin rfl (pe_op opAdd_ok (pd_slV rfl (pv 6) pod_none (pod_some (pd_v (pv 8)))) (pd_tup (pad_cons (pd_v (pv 9)) pad_nil)))) (pd_slV rfl (pv 6) (pod_some (pd_binL rfl (pe_op opAdd_ok (pv 8) pd_int))) pod_none))) (fun _ _ => rfl))) (pad_cons (pd_binLR rfl (pe_ix (opIx_ok ⟨rfl, hu, hgd⟩) (pv 6) (pv 8) (fun _ _ => rfl))) pad_nil))) (by rfl)))
    (psd_one (psd_if (PW.pt (pwd_and (ptb_binLR rfl (pt_cmpR (opNe_ok ⟨rfl, hu, hgd⟩) (pv 10) (pv 11) (by rfl))) (pwd_and (ptb_binLR rfl (pt_cmpR (opNe_ok ⟨rfl, hu, hgd⟩) (pv 10) (pv 12) (by rfl))) (pwd_and1 (ptd_not (PW.pt (pwd_or (ptd_chain op_lt op_lt (pd_v (pv 12)) (pd_v (pv 10)) (pd_v (pv 11))) (pwd_or1 (ptd_chain op_lt op_lt (pd_v (pv 11)) (pd_v (pv 10)) (pd_v (pv 12))))))))))) (psd_one (psd_ret (pd_tup (pad_cons (pd_v (pv 6)) (pad_cons (pd_v (pv 8)) (pad_cons (pd_v (pv 9)) pad_nil)))))) psd_nil)))))))))))
    (psd_one (psd_ret pd_none))))))
theorem sc__law_is : FnScope ["said", "due"] ["said", "due"] (defScope s__law_is) := ⟨rfl, rfl, rfl, by decide +kernel, rfl, by decide +kernel, by decide +kernel⟩
theorem ok__law_is (T : Tp fa fn K mg) : ∃ fd, Has P w K mg base d__law_is ["said", "due"] 2 (spP K 2 G__law_is) fd := by
  have m_repr := T.free 37 (x := "repr")
  obtain ⟨fd, F0⟩ := T.c.def_ 2 (d := d__law_is) rfl
  have F : FunD K d__law_is.name d__law_is.qual d__law_is.params d__law_is.body d__law_is.scope [] [] (He.fAd K d__law_is.at_) fd := F0
  have bd : Binds K fd ["said", "due"] [] := F.bindsN fun _ _ _ _ _ _ us hl => match us, hl with | [_, _], _ => rfl
  have sc := sc__law_is
  refine ⟨fd, F, bd, def_ok (n := 2) (N := ["said", "due"]) (fb := B__law_is) F sc rfl fun cdv A outer s H E hr hgd => ?_⟩
  have hu := good_u (k := 0) hr
  exact (psd_one (psd_ret (pd_bin rfl (pe_cmpR opEqS_ok (pd_callV rfl (pe_callB (bRepr_ok ⟨rfl, hu, hgd⟩) rfl m_repr PyProof.Rows.bootS_repr (pa_cons (pv 0) pa_nil))) (pd_callV rfl (pe_callB (bRepr_ok ⟨rfl, hu, hgd⟩) rfl m_repr PyProof.Rows.bootS_repr (pa_cons (pv 1) pa_nil))) (by rfl)))))
theorem sc__law_is_int : FnScope ["thing"] ["thing"] (defScope s__law_is_int) := ⟨rfl, rfl, rfl, by decide +kernel, rfl, by decide +kernel, by decide +kernel⟩
theorem ok__law_is_int (T : Tp fa fn K mg) : ∃ fd, Has P w K mg base d__law_is_int ["thing"] 2 (spP K 1 G__law_is_int) fd := by
  have m_bool := T.free 40 (x := "bool")
  have m_int := T.free 39 (x := "int")
  have m_isinstance := T.free 38 (x := "isinstance")
  obtain ⟨fd, F0⟩ := T.c.def_ 3 (d := d__law_is_int) rfl
  have F : FunD K d__law_is_int.name d__law_is_int.qual d__law_is_int.params d__law_is_int.body d__law_is_int.scope [] [] (He.fAd K d__law_is_int.at_) fd := F0
  have bd : Binds K fd ["thing"] [] := F.bindsN fun _ _ _ _ _ _ us hl => match us, hl with | [_], _ => rfl
  have sc := sc__law_is_int
  refine ⟨fd, F, bd, def_ok (n := 1) (N := ["thing"]) (fb := B__law_is_int) F sc rfl fun cdv A outer s H E hr hgd => ?_⟩
  have hu := good_u (k := 0) hr
  exact (psd_one (psd_ret (pd_and (pd_isiV .int rfl (pe_callB call_isi rfl m_isinstance PyProof.Rows.boot_isinstance (pa_cons (pv 0) (pa_cons (pe_gty rfl m_int PyProof.Rows.boot_int) pa_nil)))) (pd_one (pd_not (pd_isiV .bool rfl (pe_callB call_isi rfl m_isinstance PyProof.Rows.boot_isinstance (pa_cons (pv 0) (pa_cons (pe_gty rfl m_bool PyProof.Rows.boot_bool) pa_nil)))))))))
theorem sc__law_lots : FnScope ["n", "found", "voter", "lot"] ["n"] (defScope s__law_lots) := ⟨rfl, rfl, rfl, by decide +kernel, rfl, by decide +kernel, by decide +kernel⟩
theorem ok__law_lots (T : Tp fa fn K mg) : ∃ fd, Has P w K mg base d__law_lots ["n"] 2 (spP K 1 G__law_lots) fd := by
  have m_range := T.free 34 (x := "range")
  obtain ⟨fd, F0⟩ := T.c.def_ 4 (d := d__law_lots) rfl
  have F : FunD K d__law_lots.name d__law_lots.qual d__law_lots.params d__law_lots.body d__law_lots.scope [] [] (He.fAd K d__law_lots.at_) fd := F0
  have bd : Binds K fd ["n"] [] := F.bindsN fun _ _ _ _ _ _ us hl => match us, hl with | [_], _ => rfl
  have sc := sc__law_lots
  refine ⟨fd, F, bd, def_ok (n := 1) (N := ["n", "found", "voter", "lot"]) (fb := B__law_lots) F sc rfl fun cdv A outer s H E hr hgd => ?_⟩
  have hu := good_u (k := 0) hr
  exact (psd_cons (psd_set (by decide) (ps_set sc.nd rfl (by first | exact Or.inl rfl | exact Or.inr rfl) (pd_lst (pad_cons (pd_tup pad_nil) pad_nil))))
    (psd_cons (psd_for (by decide) (ps_for PassesOwn.never rfl (pid_r1 (pi_range1 rfl m_range (pa_cons (pd_v (pv 0)) pa_nil))) (pgd_name (pg_name sc.nd rfl (by first | exact Or.inl rfl | exact Or.inr rfl))) (psd_one (psd_set (by decide) (ps_set sc.nd rfl (by first | exact Or.inl rfl | exact Or.inr rfl) (pd_binL rfl (pe_op opAdd_ok (pv 1) (pd_compV (C' := cnN K) (ws := [3]) (own := [3]) rfl (by decide) (by decide) (pe_lc rfl sc.nd (pid_seqV rfl (pv 1)) (own := [("lot", 3)]) (blkOk_by (by kernel_rfl)) (fun _ _ _ _ _ => (pgd_name (pg_name sc.nd rfl (by first | exact Or.inl rfl | exact Or.inr rfl)))) (fun _ _ _ _ _ => ptsd_nil) (fun _ _ _ _ _ => (pd_binL rfl (pe_op opAdd_ok (pv 3) (pd_tup (pad_cons (pd_v (pv 2)) pad_nil))))))))))))))
    (psd_one (psd_retV (pv 1)))))
theorem sc__law_are_levels : FnScope ["n", "m", "levels", "one", "lots", "at", "lot", "spot", "other", "voter"] ["n", "m", "levels"] (defScope s__law_are_levels) := ⟨rfl, rfl, rfl, by decide +kernel, rfl, by decide +kernel, by decide +kernel⟩
theorem ok__law_are_levels (T : Tp fa fn K mg) : ∃ fd, Has P w K mg base d__law_are_levels ["n", "m", "levels"] 3 (spP K 3 G__law_are_levels) fd := by
  have m_all := T.free 42 (x := "all")
  have m_enumerate := T.free 44 (x := "enumerate")
  have m_isinstance := T.free 38 (x := "isinstance")
  have m_len := T.free 43 (x := "len")
  have m_tuple := T.free 41 (x := "tuple")
  have g__law_is_int := T.glo 3 (x := "_law_is_int")
  obtain ⟨fd__law_is_int, H__law_is_int⟩ := ok__law_is_int (P := P) (w := w) (base := base) T
  have g__law_lots := T.glo 4 (x := "_law_lots")
  obtain ⟨fd__law_lots, H__law_lots⟩ := ok__law_lots (P := P) (w := w) (base := base) T
  obtain ⟨fd, F0⟩ := T.c.def_ 5 (d := d__law_are_levels) rfl
  have F : FunD K d__law_are_levels.name d__law_are_levels.qual d__law_are_levels.params d__law_are_levels.body d__law_are_levels.scope [] [] (He.fAd K d__law_are_levels.at_) fd := F0
  have bd : Binds K fd ["n", "m", "levels"] [] := F.bindsN fun _ _ _ _ _ _ us hl => match us, hl with | [_, _, _], _ => rfl
  have sc := sc__law_are_levels
  refine ⟨fd, F, bd, def_ok (n := 3) (N := ["n", "m", "levels", "one", "lots", "at", "lot", "spot", "other", "voter"]) (fb := B__law_are_levels) F sc rfl fun cdv A outer s H E hr hgd => ?_⟩
  have hu := good_u (k := 1) hr
  exact (psd_cons (psd_if (PW.pt (pwd_or (ptd_not (ptd_tru rfl (pd_isiV .tuple rfl (pe_callB call_isi rfl m_isinstance PyProof.Rows.boot_isinstance (pa_cons (pv 2) (pa_cons (pe_gty rfl m_tuple PyProof.Rows.boot_tuple) pa_nil)))))) (pwd_or1 (ptd_not (ptd_tru rfl (pd_call rfl (pe_callB (bAll_ok ⟨rfl, hu, hgd⟩) rfl m_all PyProof.Rows.boot_all (pad_cons (pd_compV (C' := cnN K) (ws := [3]) (own := [3]) rfl (by decide) (by decide) (pe_lc rfl sc.nd (pid_seqV rfl (pv 2)) (own := [("one", 3)]) (blkOk_by (by kernel_rfl)) (fun _ _ _ _ _ => (pgd_name (pg_name sc.nd rfl (by first | exact Or.inl rfl | exact Or.inr rfl)))) (fun _ _ _ _ _ => ptsd_nil) (fun _ _ _ _ _ => (pd_and (pd_def rfl (fun _ _ => gP_len) (pe_callG H__law_is_int.ok (hr.mono (by decide)) hgd rfl g__law_is_int H__law_is_int.F.kp H__law_is_int.b (pad_cons (pd_v (pv 3)) pad_nil))) (pd_one (pd_chain op_le op_lt pd_int (pd_v (pv 3)) (pd_v (pv 1)))))))) pad_nil)))))))) (psd_one (psd_ret pd_bool)) psd_nil)
    (psd_cons (psd_set (by decide) (ps_set sc.nd rfl (by first | exact Or.inl rfl | exact Or.inr rfl) (pd_def rfl (fun _ _ => gP_len) (pe_callG H__law_lots.ok (hr.mono (by decide)) hgd rfl g__law_lots H__law_lots.F.kp H__law_lots.b (pad_cons (pd_v (pv 0)) pad_nil)))))
    (psd_cons (psd_if (ptb_bin rfl (pt_cmpR (opNe_ok ⟨rfl, hu, hgd⟩) (pd_callV rfl (pe_callB bLen_ok rfl m_len PySem.boot_len (pa_cons (pv 2) pa_nil))) (pd_callV rfl (pe_callB bLen_ok rfl m_len PySem.boot_len (pa_cons (pv 4) pa_nil))) (by rfl))) (psd_one (psd_ret pd_bool)) psd_nil)
    (psd_cons (psd_for (by decide) (ps_for PassesOwn.never rfl (pid_enum rfl (pi_enumA rfl m_enumerate (pa_cons (pd_v (pv 4)) pa_nil))) (pgd_tup rfl rfl (pgsd_cons (pgd_name (pg_name sc.nd rfl (by first | exact Or.inl rfl | exact Or.inr rfl))) (pgsd_cons (pgd_name (pg_name sc.nd rfl (by first | exact Or.inl rfl | exact Or.inr rfl))) pgsd_nil))) (psd_one (psd_for (by decide) (ps_for PassesOwn.never rfl (pid_enum rfl (pi_enumA rfl m_enumerate (pa_cons (pd_v (pv 4)) pa_nil))) (pgd_tup rfl rfl (pgsd_cons (pgd_name (pg_name sc.nd rfl (by first | exact Or.inl rfl | exact Or.inr rfl))) (pgsd_cons (pgd_name (pg_name sc.nd rfl (by first | exact Or.inl rfl | exact Or.inr rfl))) pgsd_nil))) (psd_one (psd_if (PW.pt (pwd_and (ptd_tru rfl (pd_call rfl (pe_callB (bAll_ok ⟨rfl, hu, hgd⟩) rfl m_all PyProof.Rows.boot_all (pad_cons (pd_compV (C' := cnN K) (ws := [9]) (own := [9]) rfl (by decide) (by decide) (pe_lc rfl sc.nd (pid_seqV rfl (pv 6)) (own := [("voter", 9)]) (blkOk_by (by kernel_rfl)) (fun _ _ _ _ _ => (pgd_name (pg_name sc.nd rfl (by first | exact Or.inl rfl | exact Or.inr rfl)))) (fun _ _ _ _ _ => ptsd_nil) (fun _ _ _ _ _ => (pd_binLR rfl (pe_cmpR (opIn_ok ⟨rfl, hu, hgd⟩) (pv 9) (pv 8) (by rfl)))))) pad_nil)))) (pwd_and1 (ptb_bin rfl (pt_cmpR (opGt_ok ⟨rfl, hu, hgd⟩) (pd_binLR rfl (pe_ix (opIx_ok ⟨rfl, hu, hgd⟩) (pv 2) (pv 7) (fun _ _ => rfl))) (pd_binLR rfl (pe_ix (opIx_ok ⟨rfl, hu, hgd⟩) (pv 2) (pv 5) (fun _ _ => rfl))) (by rfl)))))) (psd_one (psd_ret pd_bool)) psd_nil)))))))
    (psd_one (psd_ret pd_bool))))))
theorem sc__law_point : FnScope ["levels", "lots", "peaks", "lot", "level", "voter"] ["levels", "lots", "peaks"] (defScope s__law_point) := ⟨rfl, rfl, rfl, by decide +kernel, rfl, by decide +kernel, by decide +kernel⟩
theorem ok__law_point (T : Tp fa fn K mg) : ∃ fd, Has P w K mg base d__law_point ["levels", "lots", "peaks"] 2 (spP K 3 G__law_point) fd := by
  have m_max := T.free 46 (x := "max")
  have m_min := T.free 45 (x := "min")
  have m_zip := T.free 36 (x := "zip")
  obtain ⟨fd, F0⟩ := T.c.def_ 6 (d := d__law_point) rfl
  have F : FunD K d__law_point.name d__law_point.qual d__law_point.params d__law_point.body d__law_point.scope [] [] (He.fAd K d__law_point.at_) fd := F0
  have bd : Binds K fd ["levels", "lots", "peaks"] [] := F.bindsN fun _ _ _ _ _ _ us hl => match us, hl with | [_, _, _], _ => rfl
  have sc := sc__law_point
  refine ⟨fd, F, bd, def_ok (n := 3) (N := ["levels", "lots", "peaks", "lot", "level", "voter"]) (fb := B__law_point) F sc rfl fun cdv A outer s H E hr hgd => ?_⟩
  have hu := good_u (k := 0) hr
  exact (psd_one (psd_ret (pd_call rfl (pe_callB (bMin_ok ⟨rfl, hu, hgd⟩) rfl m_min PyProof.Rows.boot_min (pad_cons (pd_comp (C' := cnN K) (ws := [3, 4]) (own := [3, 4]) rfl (by decide) (by decide) (pe_lc rfl sc.nd (pid_zipM rfl (pi_zipM rfl m_zip (pa_cons (pd_v (pv 1)) (pa_cons (pd_v (pv 0)) pa_nil)))) (own := [("lot", 3), ("level", 4)]) (blkOk_by (by kernel_rfl)) (fun _ _ _ _ _ => (pgd_tup rfl rfl (pgsd_cons (pgd_name (pg_name sc.nd rfl (by first | exact Or.inl rfl | exact Or.inr rfl))) (pgsd_cons (pgd_name (pg_name sc.nd rfl (by first | exact Or.inl rfl | exact Or.inr rfl))) pgsd_nil)))) (fun _ _ _ _ _ => ptsd_nil) (fun _ _ _ _ _ => (pd_call rfl (pe_callB (bMax_ok ⟨rfl, hu, hgd⟩) rfl m_max PyProof.Rows.boot_max (pad_cons (pd_bin rfl (pe_op opAdd_ok (pd_compV (C' := cnN K) (ws := [5]) (own := [5]) rfl (by decide) (by decide) (pe_lc rfl sc.nd (pid_seqV rfl (pv 3)) (own := [("voter", 5)]) (blkOk_by (by kernel_rfl)) (fun _ _ _ _ _ => (pgd_name (pg_name sc.nd rfl (by first | exact Or.inl rfl | exact Or.inr rfl)))) (fun _ _ _ _ _ => ptsd_nil) (fun _ _ _ _ _ => (pd_binLR rfl (pe_ix (opIx_ok ⟨rfl, hu, hgd⟩) (pv 2) (pv 5) (fun _ _ => rfl)))))) (pd_lst (pad_cons (pd_v (pv 4)) pad_nil)))) pad_nil)))))) pad_nil)))))
theorem sc__law_made : FnScope ["n", "m", "levels", "lots", "peaks"] ["n", "m", "levels"] (defScope s__law_made) := ⟨rfl, rfl, rfl, by decide +kernel, rfl, by decide +kernel, by decide +kernel⟩
theorem ok__law_made (T : Tp fa fn K mg) : ∃ fd, Has P w K mg base d__law_made ["n", "m", "levels"] 3 (spP K 3 G__law_made) fd := by
  have m_tuple := T.free 41 (x := "tuple")
  have g__law_lots := T.glo 4 (x := "_law_lots")
  obtain ⟨fd__law_lots, H__law_lots⟩ := ok__law_lots (P := P) (w := w) (base := base) T
  have g__law_point := T.glo 6 (x := "_law_point")
  obtain ⟨fd__law_point, H__law_point⟩ := ok__law_point (P := P) (w := w) (base := base) T
  have g__law_tuples := T.glo 0 (x := "_law_tuples")
  obtain ⟨fd__law_tuples, H__law_tuples⟩ := ok__law_tuples (P := P) (w := w) (base := base) T
  obtain ⟨fd, F0⟩ := T.c.def_ 7 (d := d__law_made) rfl
  have F : FunD K d__law_made.name d__law_made.qual d__law_made.params d__law_made.body d__law_made.scope [] [] (He.fAd K d__law_made.at_) fd := F0
  have bd : Binds K fd ["n", "m", "levels"] [] := F.bindsN fun _ _ _ _ _ _ us hl => match us, hl with | [_, _, _], _ => rfl
  have sc := sc__law_made
  refine ⟨fd, F, bd, def_ok (n := 3) (N := ["n", "m", "levels", "lots", "peaks"]) (fb := B__law_made) F sc rfl fun cdv A outer s H E hr hgd => ?_⟩
  have hu := good_u (k := 1) hr
  exact (psd_cons (psd_set (by decide) (ps_set sc.nd rfl (by first | exact Or.inl rfl | exact Or.inr rfl) (pd_def rfl (fun _ _ => gP_len) (pe_callG H__law_lots.ok (hr.mono (by decide)) hgd rfl g__law_lots H__law_lots.F.kp H__law_lots.b (pad_cons (pd_v (pv 0)) pad_nil)))))
    (psd_one (psd_ret (pd_tup (pad_cons (pd_v (pv 0)) (pad_cons (pd_v (pv 1)) (pad_cons (pd_call rfl (pe_callTy bTuple_ok rfl m_tuple PyProof.Rows.boot_tuple (pad_cons (pd_comp (C' := cnN K) (ws := [4]) (own := [4]) rfl (by decide) (by decide) (pe_lc rfl sc.nd (pid_seq rfl (pd_def rfl (fun _ _ => gP_len) (pe_callG H__law_tuples.ok (hr.mono (by decide)) hgd rfl g__law_tuples H__law_tuples.F.kp H__law_tuples.b (pad_cons (pd_v (pv 0)) (pad_cons (pd_v (pv 1)) pad_nil))))) (own := [("peaks", 4)]) (blkOk_by (by kernel_rfl)) (fun _ _ _ _ _ => (pgd_name (pg_name sc.nd rfl (by first | exact Or.inl rfl | exact Or.inr rfl)))) (fun _ _ _ _ _ => ptsd_nil) (fun _ _ _ _ _ => (pd_def rfl (fun _ _ => gP_len) (pe_callG H__law_point.ok (hr.mono (by decide)) hgd rfl g__law_point H__law_point.F.kp H__law_point.b (pad_cons (pd_v (pv 2)) (pad_cons (pd_v (pv 3)) (pad_cons (pd_v (pv 4)) pad_nil)))))))) pad_nil))) pad_nil)))))))
theorem sc__law_own_levels : FnScope ["rule", "n", "m", "points", "told", "found", "peaks", "point", "lot", "voter", "levels"] ["rule"] (defScope s__law_own_levels) := ⟨rfl, rfl, rfl, by decide +kernel, rfl, by decide +kernel, by decide +kernel⟩
theorem ok__law_own_levels (T : Tp fa fn K mg) : ∃ fd, Has P w K mg base d__law_own_levels ["rule"] 4 (spP K 1 G__law_own_levels) fd := by
  have m_dict := T.free 35 (x := "dict")
  have m_range := T.free 34 (x := "range")
  have m_tuple := T.free 41 (x := "tuple")
  have m_zip := T.free 36 (x := "zip")
  have g__law_are_levels := T.glo 5 (x := "_law_are_levels")
  obtain ⟨fd__law_are_levels, H__law_are_levels⟩ := ok__law_are_levels (P := P) (w := w) (base := base) T
  have g__law_lots := T.glo 4 (x := "_law_lots")
  obtain ⟨fd__law_lots, H__law_lots⟩ := ok__law_lots (P := P) (w := w) (base := base) T
  have g__law_made := T.glo 7 (x := "_law_made")
  obtain ⟨fd__law_made, H__law_made⟩ := ok__law_made (P := P) (w := w) (base := base) T
  have g__law_tuples := T.glo 0 (x := "_law_tuples")
  obtain ⟨fd__law_tuples, H__law_tuples⟩ := ok__law_tuples (P := P) (w := w) (base := base) T
  obtain ⟨fd, F0⟩ := T.c.def_ 8 (d := d__law_own_levels) rfl
  have F : FunD K d__law_own_levels.name d__law_own_levels.qual d__law_own_levels.params d__law_own_levels.body d__law_own_levels.scope [] [] (He.fAd K d__law_own_levels.at_) fd := F0
  have bd : Binds K fd ["rule"] [] := F.bindsN fun _ _ _ _ _ _ us hl => match us, hl with | [_], _ => rfl
  have sc := sc__law_own_levels
  refine ⟨fd, F, bd, def_ok (n := 1) (N := ["rule", "n", "m", "points", "told", "found", "peaks", "point", "lot", "voter", "levels"]) (fb := B__law_own_levels) F sc rfl fun cdv A outer s H E hr hgd => ?_⟩
  have hu := good_u (k := 2) hr
  exact (psd_cons (psd_asg (by decide) (ps_asg (pd_v (pv 0)) (pgd_tup rfl rfl (pgsd_cons (pgd_name (pg_name sc.nd rfl (by first | exact Or.inl rfl | exact Or.inr rfl))) (pgsd_cons (pgd_name (pg_name sc.nd rfl (by first | exact Or.inl rfl | exact Or.inr rfl))) (pgsd_cons (pgd_name (pg_name sc.nd rfl (by first | exact Or.inl rfl | exact Or.inr rfl))) pgsd_nil))))))
    (psd_cons (psd_par (by decide) (by decide) (ps_par rfl sc.nd rfl rfl (by decide) rfl rfl (pad_cons (pd_call rfl (pe_callTy (bDict_ok ⟨rfl, hu, hgd⟩) rfl m_dict PyProof.Rows.boot_dict (pad_cons (pd_comp (C' := cnN K) (ws := [6, 7]) (own := [6, 7]) rfl (by decide) (by decide) (pe_lc rfl sc.nd (pid_zipM rfl (pi_zipM rfl m_zip (pa_cons (pd_def rfl (fun _ _ => gP_len) (pe_callG H__law_tuples.ok (hr.mono (by decide)) hgd rfl g__law_tuples H__law_tuples.F.kp H__law_tuples.b (pad_cons (pd_v (pv 1)) (pad_cons (pd_v (pv 2)) pad_nil)))) (pa_cons (pd_v (pv 3)) pa_nil)))) (own := [("peaks", 6), ("point", 7)]) (blkOk_by (by kernel_rfl)) (fun _ _ _ _ _ => (pgd_tup rfl rfl (pgsd_cons (pgd_name (pg_name sc.nd rfl (by first | exact Or.inl rfl | exact Or.inr rfl))) (pgsd_cons (pgd_name (pg_name sc.nd rfl (by first | exact Or.inl rfl | exact Or.inr rfl))) pgsd_nil)))) (fun _ _ _ _ _ => ptsd_nil) (fun _ _ _ _ _ => (pd_tup (pad_cons (pd_v (pv 6)) (pad_cons (pd_v (pv 7)) pad_nil)))))) pad_nil))) (pad_cons (pd_lst pad_nil) pad_nil)) (by rfl)))
    (psd_cons (psd_for (by decide) (ps_for PassesOwn.never rfl (pid_seq rfl (pd_def rfl (fun _ _ => gP_len) (pe_callG H__law_lots.ok (hr.mono (by decide)) hgd rfl g__law_lots H__law_lots.F.kp H__law_lots.b (pad_cons (pd_v (pv 1)) pad_nil)))) (pgd_name (pg_name sc.nd rfl (by first | exact Or.inl rfl | exact Or.inr rfl))) (psd_one (psd_expr (pd_mt1 rfl mAppend_ok (pe_bm PySem.F.plainAttrs_list PySem.F.slot_list_append PySem.F.type_list_append mt_append (pv 5) (pa_cons (pd_binL rfl (pe_ix (opIx_ok ⟨rfl, hu, hgd⟩) (pv 4) (pd_call rfl (pe_callTy bTuple_ok rfl m_tuple PyProof.Rows.boot_tuple (pad_cons (pd_comp (C' := cnN K) (ws := [9]) (own := [9]) rfl (by decide) (by decide) (pe_lc rfl sc.nd (pid_r1 (pi_range1 rfl m_range (pa_cons (pd_v (pv 1)) pa_nil))) (own := [("voter", 9)]) (blkOk_by (by kernel_rfl)) (fun _ _ _ _ _ => (pgd_name (pg_name sc.nd rfl (by first | exact Or.inl rfl | exact Or.inr rfl)))) (fun _ _ _ _ _ => ptsd_nil) (fun _ _ _ _ _ => (pd_if (ptb_binLR rfl (pt_cmpR (opIn_ok ⟨rfl, hu, hgd⟩) (pv 9) (pv 8) (by rfl))) pd_int (pd_binL rfl (pe_op opSub_ok (pv 2) pd_int)))))) pad_nil))) (fun _ _ => rfl))) pa_nil)))))))
    (psd_cons (psd_set (by decide) (ps_set sc.nd rfl (by first | exact Or.inl rfl | exact Or.inr rfl) (pd_callV rfl (pe_callTy bTuple_ok rfl m_tuple PyProof.Rows.boot_tuple (pa_cons (pv 5) pa_nil)))))
    (psd_one (psd_ret (pd_if (PW.pt (pwd_and (ptd_tru rfl (pd_def rfl (fun _ _ => gP_len) (pe_callG H__law_are_levels.ok (hr.mono (by decide)) hgd rfl g__law_are_levels H__law_are_levels.F.kp H__law_are_levels.b (pad_cons (pd_v (pv 1)) (pad_cons (pd_v (pv 2)) (pad_cons (pd_v (pv 10)) pad_nil)))))) (pwd_and1 (ptb_binR rfl (pt_cmpR (opEq_ok ⟨rfl, hu, hgd⟩) (pd_def rfl (fun _ _ => gP_len) (pe_callG H__law_made.ok (hr.mono (by decide)) hgd rfl g__law_made H__law_made.F.kp H__law_made.b (pad_cons (pd_v (pv 1)) (pad_cons (pd_v (pv 2)) (pad_cons (pd_v (pv 10)) pad_nil))))) (pv 0) (by rfl)))))) (pd_v (pv 10)) pd_none)))))))
theorem sc__law_draw : FnScope ["hand", "many", "cell", "digit", "number"] ["hand", "many"] (defScope s__law_draw) := ⟨rfl, rfl, rfl, by decide +kernel, rfl, by decide +kernel, by decide +kernel⟩
theorem ok__law_draw (T : Tp fa fn K mg) : ∃ fd, Has P w K mg base d__law_draw ["hand", "many"] 2 (spIO K 2 G__law_draw) fd := by
  have m_int := T.free 39 (x := "int")
  have m_len := T.free 43 (x := "len")
  obtain ⟨fd, F0⟩ := T.c.def_ 9 (d := d__law_draw) rfl
  have F : FunD K d__law_draw.name d__law_draw.qual d__law_draw.params d__law_draw.body d__law_draw.scope [] [] (He.fAd K d__law_draw.at_) fd := F0
  have bd : Binds K fd ["hand", "many"] [] := F.bindsN fun _ _ _ _ _ _ us hl => match us, hl with | [_, _], _ => rfl
  have sc := sc__law_draw
  refine ⟨fd, F, bd, def_okIO (n := 2) (N := ["hand", "many", "cell", "digit", "number"]) (fb := B__law_draw) F sc rfl fun cdv A outer s H E hr hgd => ?_⟩
  have hu := good_u (k := 0) hr
  exact (psd_cons (psd_if (PW.pt (pwd_and (ptb_bin rfl (pt_cmpR (opEq_ok ⟨rfl, hu, hgd⟩) (pd_binL rfl (pe_ix (opIx_ok ⟨rfl, hu, hgd⟩) (pv 0) pd_int (fun _ _ => rfl))) pd_int (by rfl))) (pwd_and1 (ptb_bin rfl (pt_cmpR (opLt_ok ⟨rfl, hu, hgd⟩) (pd_binL rfl (pe_ix (opIx_ok ⟨rfl, hu, hgd⟩) (pv 0) pd_int (fun _ _ => rfl))) (pd_call rfl (pe_callB bLen_ok rfl m_len PySem.boot_len (pad_cons (pd_binL rfl (pe_ix (opIx_ok ⟨rfl, hu, hgd⟩) (pv 0) pd_int (fun _ _ => rfl))) pad_nil))) (by rfl)))))) (psd_cons (psd_set (by decide) (ps_set sc.nd rfl (by first | exact Or.inl rfl | exact Or.inr rfl) (pd_bin rfl (pe_ix (opIx_ok ⟨rfl, hu, hgd⟩) (pd_binL rfl (pe_ix (opIx_ok ⟨rfl, hu, hgd⟩) (pv 0) pd_int (fun _ _ => rfl))) (pd_binL rfl (pe_ix (opIx_ok ⟨rfl, hu, hgd⟩) (pv 0) pd_int (fun _ _ => rfl))) (fun _ _ => rfl)))))
    (psd_cons (psd_asg (by decide) (ps_asg (pd_bin rfl (pe_op opAdd_ok (pd_binL rfl (pe_ix (opIx_ok ⟨rfl, hu, hgd⟩) (pv 0) pd_int (fun _ _ => rfl))) pd_int)) (pgd_sub (pg_sub (pv 0) pd_int set_list))))
    (psd_cons (psd_asg (by decide) (ps_asg (pd_bin rfl (pe_op opMod_ok (pd_call rfl (pe_callTy bInt_ok rfl m_int PyProof.Rows.boot_int (pad_cons (pd_bin rfl (pe_op opAdd_ok (pd_bin rfl (pe_op opAdd_ok (pd_bin rfl (pe_op opMul_ok (pd_binL rfl (pe_ix (opIx_ok ⟨rfl, hu, hgd⟩) (pv 0) pd_int (fun _ _ => rfl))) pd_int)) (pd_binL rfl (pe_op opMul_ok (pv 2) pd_int)))) pd_int)) pad_nil))) pd_int)) (pgd_sub (pg_sub (pv 0) pd_int set_list))))
    (psd_one (psd_if (ptb_binL rfl (pt_cmpR (opGe_ok ⟨rfl, hu, hgd⟩) (pv 2) (pd_bin rfl (pe_op opPow_ok pd_int pd_int)) (by rfl))) (psd_one (psd_asg (by decide) (ps_asg (pd_v (pv 2)) (pgd_sub (pg_sub (pv 0) pd_int set_list))))) psd_nil))))) psd_nil)
    (psd_cons (psd_if (ptb_bin rfl (pt_cmpR (opGt_ok ⟨rfl, hu, hgd⟩) (pd_binL rfl (pe_ix (opIx_ok ⟨rfl, hu, hgd⟩) (pv 0) pd_int (fun _ _ => rfl))) pd_int (by rfl))) (psd_cons (psd_set (by decide) (ps_set sc.nd rfl (by first | exact Or.inl rfl | exact Or.inr rfl) (pd_binR rfl (pe_op opMod_ok (pd_call rfl (pe_callTy bInt_ok rfl m_int PyProof.Rows.boot_int (pad_cons (pd_binL rfl (pe_ix (opIx_ok ⟨rfl, hu, hgd⟩) (pv 0) pd_int (fun _ _ => rfl))) pad_nil))) (pv 1)))))
    (psd_cons (psd_asg (by decide) (ps_asg (pd_binR rfl (pe_op opFdiv_ok (pd_binL rfl (pe_ix (opIx_ok ⟨rfl, hu, hgd⟩) (pv 0) pd_int (fun _ _ => rfl))) (pv 1))) (pgd_sub (pg_sub (pv 0) pd_int set_list))))
    (psd_one (psd_retV (pv 3))))) psd_nil)
    (psd_cons (psd_asg (by decide) (ps_asg (pd_bin rfl (pe_op opAdd_ok (pd_binL rfl (pe_ix (opIx_ok ⟨rfl, hu, hgd⟩) (pv 0) pd_int (fun _ _ => rfl))) pd_int)) (pgd_sub (pg_sub (pv 0) pd_int set_list))))
    (psd_cons (psd_set (by decide) (ps_set sc.nd rfl (by first | exact Or.inl rfl | exact Or.inr rfl) (pd_bin rfl (pe_op opMod_ok (pd_call rfl (pe_callTy bInt_ok rfl m_int PyProof.Rows.boot_int (pad_cons (pd_bin rfl (pe_op opMul_ok (pd_call rfl (pe_callTy bInt_ok rfl m_int PyProof.Rows.boot_int (pad_cons (pd_bin rfl (pe_op opAdd_ok (pd_binL rfl (pe_ix (opIx_ok ⟨rfl, hu, hgd⟩) (pv 0) pd_int (fun _ _ => rfl))) (pd_bin rfl (pe_op opMul_ok pd_int (pd_binL rfl (pe_ix (opIx_ok ⟨rfl, hu, hgd⟩) (pv 0) pd_int (fun _ _ => rfl))))))) pad_nil))) pd_int)) pad_nil))) pd_int))))
    (psd_cons (psd_set (by decide) (ps_set sc.nd rfl (by first | exact Or.inl rfl | exact Or.inr rfl) (pd_bin rfl (pe_op opMod_ok (pd_call rfl (pe_callTy bInt_ok rfl m_int PyProof.Rows.boot_int (pad_cons (pd_binL rfl (pe_op opMul_ok (pv 4) (pd_bin rfl (pe_op opAdd_ok (pd_binL rfl (pe_op opFdiv_ok (pv 4) pd_int)) pd_int)))) pad_nil))) pd_int))))
    (psd_cons (psd_set (by decide) (ps_set sc.nd rfl (by first | exact Or.inl rfl | exact Or.inr rfl) (pd_bin rfl (pe_op opMod_ok (pd_call rfl (pe_callTy bInt_ok rfl m_int PyProof.Rows.boot_int (pad_cons (pd_binL rfl (pe_op opMul_ok (pv 4) (pd_bin rfl (pe_op opAdd_ok (pd_binL rfl (pe_op opFdiv_ok (pv 4) pd_int)) pd_int)))) pad_nil))) pd_int))))
    (psd_one (psd_ret (pd_binR rfl (pe_op opMod_ok (pd_call rfl (pe_callTy bInt_ok rfl m_int PyProof.Rows.boot_int (pad_cons (pd_binL rfl (pe_op opFdiv_ok (pv 4) pd_int)) pad_nil))) (pv 1)))))))))))
theorem sc__law_number : FnScope ["lot", "gone", "voter"] ["lot", "gone"] (defScope s__law_number) := ⟨rfl, rfl, rfl, by decide +kernel, rfl, by decide +kernel, by decide +kernel⟩
theorem ok__law_number (T : Tp fa fn K mg) : ∃ fd, Has P w K mg base d__law_number ["lot", "gone"] 2 (spP K 2 G__law_number) fd := by
  have m_sum := T.free 47 (x := "sum")
  obtain ⟨fd, F0⟩ := T.c.def_ 10 (d := d__law_number) rfl
  have F : FunD K d__law_number.name d__law_number.qual d__law_number.params d__law_number.body d__law_number.scope [] [] (He.fAd K d__law_number.at_) fd := F0
  have bd : Binds K fd ["lot", "gone"] [] := F.bindsN fun _ _ _ _ _ _ us hl => match us, hl with | [_, _], _ => rfl
  have sc := sc__law_number
  refine ⟨fd, F, bd, def_ok (n := 2) (N := ["lot", "gone", "voter"]) (fb := B__law_number) F sc rfl fun cdv A outer s H E hr hgd => ?_⟩
  have hu := good_u (k := 0) hr
  exact (psd_one (psd_ret (pd_call rfl (pe_callB (bSum_ok ⟨rfl, hu, hgd⟩) rfl m_sum PyProof.Rows.boot_sum (pad_cons (pd_compV (C' := cnN K) (ws := [2]) (own := [2]) rfl (by decide) (by decide) (pe_lc rfl sc.nd (pid_seqV rfl (pv 0)) (own := [("voter", 2)]) (blkOk_by (by kernel_rfl)) (fun _ _ _ _ _ => (pgd_name (pg_name sc.nd rfl (by first | exact Or.inl rfl | exact Or.inr rfl)))) (fun _ _ _ _ _ => (ptsd_one (ptb_binLR rfl (pt_cmpR (opNe_ok ⟨rfl, hu, hgd⟩) (pv 2) (pv 1) (by rfl))))) (fun _ _ _ _ _ => (pd_binR rfl (pe_ix (opIx_ok ⟨rfl, hu, hgd⟩) (pd_lst (pad_cons pd_int (pad_cons pd_int (pad_cons pd_int (pad_cons pd_int pad_nil))))) (pv 2) (fun _ _ => rfl)))))) pad_nil)))))
theorem sc__law_levels : FnScope ["hand", "n", "m", "found", "lot", "tops", "voter"] ["hand", "n", "m"] (defScope s__law_levels) := ⟨rfl, rfl, rfl, by decide +kernel, rfl, by decide +kernel, by decide +kernel⟩
theorem ok__law_levels (T : Tp fa fn K mg) : ∃ fd, Has P w K mg base d__law_levels ["hand", "n", "m"] 3 (spIO K 3 G__law_levels) fd := by
  have m_min := T.free 45 (x := "min")
  have m_tuple := T.free 41 (x := "tuple")
  have g__law_draw := T.glo 9 (x := "_law_draw")
  obtain ⟨fd__law_draw, H__law_draw⟩ := ok__law_draw (P := P) (w := w) (base := base) T
  have g__law_lots := T.glo 4 (x := "_law_lots")
  obtain ⟨fd__law_lots, H__law_lots⟩ := ok__law_lots (P := P) (w := w) (base := base) T
  have g__law_number := T.glo 10 (x := "_law_number")
  obtain ⟨fd__law_number, H__law_number⟩ := ok__law_number (P := P) (w := w) (base := base) T
  obtain ⟨fd, F0⟩ := T.c.def_ 11 (d := d__law_levels) rfl
  have F : FunD K d__law_levels.name d__law_levels.qual d__law_levels.params d__law_levels.body d__law_levels.scope [] [] (He.fAd K d__law_levels.at_) fd := F0
  have bd : Binds K fd ["hand", "n", "m"] [] := F.bindsN fun _ _ _ _ _ _ us hl => match us, hl with | [_, _, _], _ => rfl
  have sc := sc__law_levels
  refine ⟨fd, F, bd, def_okIO (n := 3) (N := ["hand", "n", "m", "found", "lot", "tops", "voter"]) (fb := B__law_levels) F sc rfl fun cdv A outer s H E hr hgd => ?_⟩
  have hu := good_u (k := 1) hr
  exact (psd_cons (psd_set (by decide) (ps_set sc.nd rfl (by first | exact Or.inl rfl | exact Or.inr rfl) (pd_lst pad_nil)))
    (psd_cons (psd_for (by decide) (ps_for PassesOwn.never rfl (pid_seq rfl (pd_def rfl (fun _ _ => gP_len) (pe_callG H__law_lots.ok (hr.mono (by decide)) hgd rfl g__law_lots H__law_lots.F.kp H__law_lots.b (pad_cons (pd_v (pv 1)) pad_nil)))) (pgd_name (pg_name sc.nd rfl (by first | exact Or.inl rfl | exact Or.inr rfl))) (psd_cons (psd_set (by decide) (ps_set sc.nd rfl (by first | exact Or.inl rfl | exact Or.inr rfl) (pd_bin rfl (pe_op opAdd_ok (pd_compV (C' := cnN K) (ws := [6]) (own := [6]) rfl (by decide) (by decide) (pe_lc rfl sc.nd (pid_seqV rfl (pv 4)) (own := [("voter", 6)]) (blkOk_by (by kernel_rfl)) (fun _ _ _ _ _ => (pgd_name (pg_name sc.nd rfl (by first | exact Or.inl rfl | exact Or.inr rfl)))) (fun _ _ _ _ _ => ptsd_nil) (fun _ _ _ _ _ => (pd_binL rfl (pe_ix (opIx_ok ⟨rfl, hu, hgd⟩) (pv 3) (pd_def rfl (fun _ _ => gP_len) (pe_callG H__law_number.ok (hr.mono (by decide)) hgd rfl g__law_number H__law_number.F.kp H__law_number.b (pad_cons (pd_v (pv 4)) (pad_cons (pd_v (pv 6)) pad_nil)))) (fun _ _ => rfl)))))) (pd_lst (pad_cons (pd_binL rfl (pe_op opSub_ok (pv 2) pd_int)) pad_nil))))))
    (psd_one (psd_expr (pd_mt1 rfl mAppend_ok (pe_bm PySem.F.plainAttrs_list PySem.F.slot_list_append PySem.F.type_list_append mt_append (pv 3) (pa_cons (pd_defIO rfl (fun _ _ _ => gIO_len) (pe_callG H__law_draw.ok (hr.mono (by decide)) hgd rfl g__law_draw H__law_draw.F.kp H__law_draw.b (pa_cons (pv 0) (pad_cons (pd_bin rfl (pe_op opAdd_ok pd_int (pd_callV rfl (pe_callB (bMin_ok ⟨rfl, hu, hgd⟩) rfl m_min PyProof.Rows.boot_min (pa_cons (pv 5) pa_nil))))) pad_nil)))) pa_nil))))))))
    (psd_one (psd_ret (pd_callV rfl (pe_callTy bTuple_ok rfl m_tuple PyProof.Rows.boot_tuple (pa_cons (pv 3) pa_nil)))))))
theorem sc__law_rule : FnScope ["hand", "n", "m", "rule", "way", "points", "point"] ["hand"] (defScope s__law_rule) := ⟨rfl, rfl, rfl, by decide +kernel, rfl, by decide +kernel, by decide +kernel⟩
theorem ok__law_rule (T : Tp fa fn K mg) : ∃ fd, Has P w K mg base d__law_rule ["hand"] 4 (spIO K 1 G__law_rule) fd := by
  have m_len := T.free 43 (x := "len")
  have m_list := T.free 48 (x := "list")
  have m_tuple := T.free 41 (x := "tuple")
  have g__law_draw := T.glo 9 (x := "_law_draw")
  obtain ⟨fd__law_draw, H__law_draw⟩ := ok__law_draw (P := P) (w := w) (base := base) T
  have g__law_levels := T.glo 11 (x := "_law_levels")
  obtain ⟨fd__law_levels, H__law_levels⟩ := ok__law_levels (P := P) (w := w) (base := base) T
  have g__law_made := T.glo 7 (x := "_law_made")
  obtain ⟨fd__law_made, H__law_made⟩ := ok__law_made (P := P) (w := w) (base := base) T
  obtain ⟨fd, F0⟩ := T.c.def_ 12 (d := d__law_rule) rfl
  have F : FunD K d__law_rule.name d__law_rule.qual d__law_rule.params d__law_rule.body d__law_rule.scope [] [] (He.fAd K d__law_rule.at_) fd := F0
  have bd : Binds K fd ["hand"] [] := F.bindsN fun _ _ _ _ _ _ us hl => match us, hl with | [_], _ => rfl
  have sc := sc__law_rule
  refine ⟨fd, F, bd, def_okIO (n := 1) (N := ["hand", "n", "m", "rule", "way", "points", "point"]) (fb := B__law_rule) F sc rfl fun cdv A outer s H E hr hgd => ?_⟩
  have hu := good_u (k := 2) hr
  exact (psd_cons (psd_set (by decide) (ps_set sc.nd rfl (by first | exact Or.inl rfl | exact Or.inr rfl) (pd_bin rfl (pe_op opAdd_ok pd_int (pd_defIO rfl (fun _ _ _ => gIO_len) (pe_callG H__law_draw.ok (hr.mono (by decide)) hgd rfl g__law_draw H__law_draw.F.kp H__law_draw.b (pa_cons (pv 0) (pad_cons pd_int pad_nil))))))))
    (psd_cons (psd_set (by decide) (ps_set sc.nd rfl (by first | exact Or.inl rfl | exact Or.inr rfl) (pd_bin rfl (pe_op opAdd_ok pd_int (pd_defIO rfl (fun _ _ _ => gIO_len) (pe_callG H__law_draw.ok (hr.mono (by decide)) hgd rfl g__law_draw H__law_draw.F.kp H__law_draw.b (pa_cons (pv 0) (pad_cons (pd_if (ptb_binL rfl (pt_cmpR (opEq_ok ⟨rfl, hu, hgd⟩) (pv 1) pd_int (by rfl))) pd_int (pd_if (ptb_binL rfl (pt_cmpR (opEq_ok ⟨rfl, hu, hgd⟩) (pv 1) pd_int (by rfl))) pd_int pd_int)) pad_nil))))))))
    (psd_cons (psd_par (by decide) (by decide) (ps_par rfl sc.nd rfl rfl (by decide) rfl rfl (pad_cons (pd_def rfl (fun _ _ => gP_len) (pe_callG H__law_made.ok (hr.mono (by decide)) hgd rfl g__law_made H__law_made.F.kp H__law_made.b (pad_cons (pd_v (pv 1)) (pad_cons (pd_v (pv 2)) (pad_cons (pd_defIO rfl (fun _ _ _ => gIO_len) (pe_callG H__law_levels.ok (hr.mono (by decide)) hgd rfl g__law_levels H__law_levels.F.kp H__law_levels.b (pa_cons (pv 0) (pad_cons (pd_v (pv 1)) (pad_cons (pd_v (pv 2)) pad_nil))))) pad_nil))))) (pad_cons (pd_defIO rfl (fun _ _ _ => gIO_len) (pe_callG H__law_draw.ok (hr.mono (by decide)) hgd rfl g__law_draw H__law_draw.F.kp H__law_draw.b (pa_cons (pv 0) (pad_cons pd_int pad_nil)))) pad_nil)) (by rfl)))
    (psd_cons (psd_if (ptb_binL rfl (pt_cmpR (opLt_ok ⟨rfl, hu, hgd⟩) (pv 4) pd_int (by rfl))) (psd_one (psd_retV (pv 3))) psd_nil)
    (psd_cons (psd_set (by decide) (ps_set sc.nd rfl (by first | exact Or.inl rfl | exact Or.inr rfl) (pd_call rfl (pe_callTy bList_ok rfl m_list PyProof.Rows.boot_list (pad_cons (pd_binL rfl (pe_ix (opIx_ok ⟨rfl, hu, hgd⟩) (pv 3) pd_int (fun _ _ => rfl))) pad_nil)))))
    (psd_cons (psd_if (ptb_binL rfl (pt_cmpR (opEq_ok ⟨rfl, hu, hgd⟩) (pv 4) pd_int (by rfl))) (psd_cons (psd_asg (by decide) (ps_asg (pd_defIO rfl (fun _ _ _ => gIO_len) (pe_callG H__law_draw.ok (hr.mono (by decide)) hgd rfl g__law_draw H__law_draw.F.kp H__law_draw.b (pa_cons (pv 0) (pad_cons (pd_v (pv 2)) pad_nil)))) (pgd_sub (pg_sub (pv 5) (pd_defIO rfl (fun _ _ _ => gIO_len) (pe_callG H__law_draw.ok (hr.mono (by decide)) hgd rfl g__law_draw H__law_draw.F.kp H__law_draw.b (pa_cons (pv 0) (pad_cons (pd_callV rfl (pe_callB bLen_ok rfl m_len PySem.boot_len (pa_cons (pv 5) pa_nil))) pad_nil)))) set_list))))
    (psd_one (psd_ret (pd_tup (pad_cons (pd_v (pv 1)) (pad_cons (pd_v (pv 2)) (pad_cons (pd_callV rfl (pe_callTy bTuple_ok rfl m_tuple PyProof.Rows.boot_tuple (pa_cons (pv 5) pa_nil))) pad_nil))))))) psd_nil)
    (psd_one (psd_ret (pd_tup (pad_cons (pd_v (pv 1)) (pad_cons (pd_v (pv 2)) (pad_cons (pd_call rfl (pe_callTy bTuple_ok rfl m_tuple PyProof.Rows.boot_tuple (pad_cons (pd_compV (C' := cnN K) (ws := [6]) (own := [6]) rfl (by decide) (by decide) (pe_lc rfl sc.nd (pid_seqV rfl (pv 5)) (own := [("point", 6)]) (blkOk_by (by kernel_rfl)) (fun _ _ _ _ _ => (pgd_name (pg_name sc.nd rfl (by first | exact Or.inl rfl | exact Or.inr rfl)))) (fun _ _ _ _ _ => ptsd_nil) (fun _ _ _ _ _ => (pd_defIO rfl (fun _ _ _ => gIO_len) (pe_callG H__law_draw.ok (hr.mono (by decide)) hgd rfl g__law_draw H__law_draw.F.kp H__law_draw.b (pa_cons (pv 0) (pad_cons (pd_v (pv 2)) pad_nil))))))) pad_nil))) pad_nil))))))))))))
theorem sc__law_turned : FnScope ["rule", "n", "m", "points", "told", "peaks", "point", "one"] ["rule"] (defScope s__law_turned) := ⟨rfl, rfl, rfl, by decide +kernel, rfl, by decide +kernel, by decide +kernel⟩
theorem ok__law_turned (T : Tp fa fn K mg) : ∃ fd, Has P w K mg base d__law_turned ["rule"] 3 (spP K 1 G__law_turned) fd := by
  have m_dict := T.free 35 (x := "dict")
  have m_tuple := T.free 41 (x := "tuple")
  have m_zip := T.free 36 (x := "zip")
  have g__law_tuples := T.glo 0 (x := "_law_tuples")
  obtain ⟨fd__law_tuples, H__law_tuples⟩ := ok__law_tuples (P := P) (w := w) (base := base) T
  obtain ⟨fd, F0⟩ := T.c.def_ 13 (d := d__law_turned) rfl
  have F : FunD K d__law_turned.name d__law_turned.qual d__law_turned.params d__law_turned.body d__law_turned.scope [] [] (He.fAd K d__law_turned.at_) fd := F0
  have bd : Binds K fd ["rule"] [] := F.bindsN fun _ _ _ _ _ _ us hl => match us, hl with | [_], _ => rfl
  have sc := sc__law_turned
  refine ⟨fd, F, bd, def_ok (n := 1) (N := ["rule", "n", "m", "points", "told", "peaks", "point", "one"]) (fb := B__law_turned) F sc rfl fun cdv A outer s H E hr hgd => ?_⟩
  have hu := good_u (k := 1) hr
  exact (psd_cons (psd_asg (by decide) (ps_asg (pd_v (pv 0)) (pgd_tup rfl rfl (pgsd_cons (pgd_name (pg_name sc.nd rfl (by first | exact Or.inl rfl | exact Or.inr rfl))) (pgsd_cons (pgd_name (pg_name sc.nd rfl (by first | exact Or.inl rfl | exact Or.inr rfl))) (pgsd_cons (pgd_name (pg_name sc.nd rfl (by first | exact Or.inl rfl | exact Or.inr rfl))) pgsd_nil))))))
    (psd_cons (psd_set (by decide) (ps_set sc.nd rfl (by first | exact Or.inl rfl | exact Or.inr rfl) (pd_call rfl (pe_callTy (bDict_ok ⟨rfl, hu, hgd⟩) rfl m_dict PyProof.Rows.boot_dict (pad_cons (pd_comp (C' := cnN K) (ws := [5, 6]) (own := [5, 6]) rfl (by decide) (by decide) (pe_lc rfl sc.nd (pid_zipM rfl (pi_zipM rfl m_zip (pa_cons (pd_def rfl (fun _ _ => gP_len) (pe_callG H__law_tuples.ok (hr.mono (by decide)) hgd rfl g__law_tuples H__law_tuples.F.kp H__law_tuples.b (pad_cons (pd_v (pv 1)) (pad_cons (pd_v (pv 2)) pad_nil)))) (pa_cons (pd_v (pv 3)) pa_nil)))) (own := [("peaks", 5), ("point", 6)]) (blkOk_by (by kernel_rfl)) (fun _ _ _ _ _ => (pgd_tup rfl rfl (pgsd_cons (pgd_name (pg_name sc.nd rfl (by first | exact Or.inl rfl | exact Or.inr rfl))) (pgsd_cons (pgd_name (pg_name sc.nd rfl (by first | exact Or.inl rfl | exact Or.inr rfl))) pgsd_nil)))) (fun _ _ _ _ _ => ptsd_nil) (fun _ _ _ _ _ => (pd_tup (pad_cons (pd_v (pv 5)) (pad_cons (pd_v (pv 6)) pad_nil)))))) pad_nil)))))
    (psd_one (psd_ret (pd_tup (pad_cons (pd_v (pv 1)) (pad_cons (pd_v (pv 2)) (pad_cons (pd_call rfl (pe_callTy bTuple_ok rfl m_tuple PyProof.Rows.boot_tuple (pad_cons (pd_comp (C' := cnN K) (ws := [5]) (own := [5]) rfl (by decide) (by decide) (pe_lc rfl sc.nd (pid_seq rfl (pd_def rfl (fun _ _ => gP_len) (pe_callG H__law_tuples.ok (hr.mono (by decide)) hgd rfl g__law_tuples H__law_tuples.F.kp H__law_tuples.b (pad_cons (pd_v (pv 1)) (pad_cons (pd_v (pv 2)) pad_nil))))) (own := [("peaks", 5)]) (blkOk_by (by kernel_rfl)) (fun _ _ _ _ _ => (pgd_name (pg_name sc.nd rfl (by first | exact Or.inl rfl | exact Or.inr rfl)))) (fun _ _ _ _ _ => ptsd_nil) (fun _ _ _ _ _ => (pd_bin rfl (pe_op opSub_ok (pd_binL rfl (pe_op opSub_ok (pv 2) pd_int)) (pd_binL rfl (pe_ix (opIx_ok ⟨rfl, hu, hgd⟩) (pv 4) (pd_call rfl (pe_callTy bTuple_ok rfl m_tuple PyProof.Rows.boot_tuple (pad_cons (pd_compV (C' := cnN K) (ws := [7]) (own := [7]) rfl (by decide) (by decide) (pe_lc rfl sc.nd (pid_seqV rfl (pv 5)) (own := [("one", 7)]) (blkOk_by (by kernel_rfl)) (fun _ _ _ _ _ => (pgd_name (pg_name sc.nd rfl (by first | exact Or.inl rfl | exact Or.inr rfl)))) (fun _ _ _ _ _ => ptsd_nil) (fun _ _ _ _ _ => (pd_binR rfl (pe_op opSub_ok (pd_binL rfl (pe_op opSub_ok (pv 2) pd_int)) (pv 7)))))) pad_nil))) (fun _ _ => rfl)))))))) pad_nil))) pad_nil))))))))
theorem sc_how_many : FnScope ["voters", "points", "found", "voter"] ["voters", "points"] (defScope s_how_many) := ⟨rfl, rfl, rfl, by decide +kernel, rfl, by decide +kernel, by decide +kernel⟩
theorem ok_how_many (T : Tp fa fn K mg) : ∃ fd, Has P w K mg base d_how_many ["voters", "points"] 2 (spP K 2 G_how_many) fd := by
  have m_range := T.free 34 (x := "range")
  obtain ⟨fd, F0⟩ := T.c.def_ 14 (d := d_how_many) rfl
  have F : FunD K d_how_many.name d_how_many.qual d_how_many.params d_how_many.body d_how_many.scope [] [] (He.fAd K d_how_many.at_) fd := F0
  have bd : Binds K fd ["voters", "points"] [] := F.bindsN fun _ _ _ _ _ _ us hl => match us, hl with | [_, _], _ => rfl
  have sc := sc_how_many
  refine ⟨fd, F, bd, def_ok (n := 2) (N := ["voters", "points", "found", "voter"]) (fb := B_how_many) F sc rfl fun cdv A outer s H E hr hgd => ?_⟩
  have hu := good_u (k := 0) hr
  exact (psd_cons (psd_set (by decide) (ps_set sc.nd rfl (by first | exact Or.inl rfl | exact Or.inr rfl) pd_int))
    (psd_cons (psd_for (by decide) (ps_for PassesOwn.never rfl (pid_r1 (pi_range1 rfl m_range (pa_cons (pd_v (pv 0)) pa_nil))) (pgd_name (pg_name sc.nd rfl (by first | exact Or.inl rfl | exact Or.inr rfl))) (psd_one (psd_set (by decide) (ps_set sc.nd rfl (by first | exact Or.inl rfl | exact Or.inr rfl) (pd_binLR rfl (pe_op opMul_ok (pv 2) (pv 1))))))))
    (psd_one (psd_retV (pv 2)))))
theorem sc_is_table : FnScope ["thing", "size"] ["thing", "size"] (defScope s_is_table) := ⟨rfl, rfl, rfl, by decide +kernel, rfl, by decide +kernel, by decide +kernel⟩
theorem ok_is_table (T : Tp fa fn K mg) : ∃ fd, Has P w K mg base d_is_table ["thing", "size"] 2 (spP K 2 G_is_table) fd := by
  have m_isinstance := T.free 38 (x := "isinstance")
  have m_len := T.free 43 (x := "len")
  have m_tuple := T.free 41 (x := "tuple")
  obtain ⟨fd, F0⟩ := T.c.def_ 15 (d := d_is_table) rfl
  have F : FunD K d_is_table.name d_is_table.qual d_is_table.params d_is_table.body d_is_table.scope [] [] (He.fAd K d_is_table.at_) fd := F0
  have bd : Binds K fd ["thing", "size"] [] := F.bindsN fun _ _ _ _ _ _ us hl => match us, hl with | [_, _], _ => rfl
  have sc := sc_is_table
  refine ⟨fd, F, bd, def_ok (n := 2) (N := ["thing", "size"]) (fb := B_is_table) F sc rfl fun cdv A outer s H E hr hgd => ?_⟩
  have hu := good_u (k := 0) hr
  exact (psd_one (psd_ret (pd_and (pd_isiV .tuple rfl (pe_callB call_isi rfl m_isinstance PyProof.Rows.boot_isinstance (pa_cons (pv 0) (pa_cons (pe_gty rfl m_tuple PyProof.Rows.boot_tuple) pa_nil)))) (pd_one (pd_binR rfl (pe_cmpR (opEq_ok ⟨rfl, hu, hgd⟩) (pd_callV rfl (pe_callB bLen_ok rfl m_len PySem.boot_len (pa_cons (pv 0) pa_nil))) (pv 1) (by rfl)))))))
theorem sc_is_triple : FnScope ["thing"] ["thing"] (defScope s_is_triple) := ⟨rfl, rfl, rfl, by decide +kernel, rfl, by decide +kernel, by decide +kernel⟩
theorem ok_is_triple (T : Tp fa fn K mg) : ∃ fd, Has P w K mg base d_is_triple ["thing"] 2 (spP K 1 G_is_triple) fd := by
  have m_isinstance := T.free 38 (x := "isinstance")
  have m_len := T.free 43 (x := "len")
  have m_tuple := T.free 41 (x := "tuple")
  obtain ⟨fd, F0⟩ := T.c.def_ 16 (d := d_is_triple) rfl
  have F : FunD K d_is_triple.name d_is_triple.qual d_is_triple.params d_is_triple.body d_is_triple.scope [] [] (He.fAd K d_is_triple.at_) fd := F0
  have bd : Binds K fd ["thing"] [] := F.bindsN fun _ _ _ _ _ _ us hl => match us, hl with | [_], _ => rfl
  have sc := sc_is_triple
  refine ⟨fd, F, bd, def_ok (n := 1) (N := ["thing"]) (fb := B_is_triple) F sc rfl fun cdv A outer s H E hr hgd => ?_⟩
  have hu := good_u (k := 0) hr
  exact (psd_one (psd_ret (pd_and (pd_isiV .tuple rfl (pe_callB call_isi rfl m_isinstance PyProof.Rows.boot_isinstance (pa_cons (pv 0) (pa_cons (pe_gty rfl m_tuple PyProof.Rows.boot_tuple) pa_nil)))) (pd_one (pd_bin rfl (pe_cmpR (opEq_ok ⟨rfl, hu, hgd⟩) (pd_callV rfl (pe_callB bLen_ok rfl m_len PySem.boot_len (pa_cons (pv 0) pa_nil))) pd_int (by rfl)))))))
theorem sc_is_integer : FnScope ["thing"] ["thing"] (defScope s_is_integer) := ⟨rfl, rfl, rfl, by decide +kernel, rfl, by decide +kernel, by decide +kernel⟩
theorem ok_is_integer (T : Tp fa fn K mg) : ∃ fd, Has P w K mg base d_is_integer ["thing"] 2 (spP K 1 G_is_integer) fd := by
  have m_bool := T.free 40 (x := "bool")
  have m_int := T.free 39 (x := "int")
  have m_isinstance := T.free 38 (x := "isinstance")
  obtain ⟨fd, F0⟩ := T.c.def_ 17 (d := d_is_integer) rfl
  have F : FunD K d_is_integer.name d_is_integer.qual d_is_integer.params d_is_integer.body d_is_integer.scope [] [] (He.fAd K d_is_integer.at_) fd := F0
  have bd : Binds K fd ["thing"] [] := F.bindsN fun _ _ _ _ _ _ us hl => match us, hl with | [_], _ => rfl
  have sc := sc_is_integer
  refine ⟨fd, F, bd, def_ok (n := 1) (N := ["thing"]) (fb := B_is_integer) F sc rfl fun cdv A outer s H E hr hgd => ?_⟩
  have hu := good_u (k := 0) hr
  exact (psd_one (psd_ret (pd_and (pd_isiV .int rfl (pe_callB call_isi rfl m_isinstance PyProof.Rows.boot_isinstance (pa_cons (pv 0) (pa_cons (pe_gty rfl m_int PyProof.Rows.boot_int) pa_nil)))) (pd_one (pd_not (pd_isiV .bool rfl (pe_callB call_isi rfl m_isinstance PyProof.Rows.boot_isinstance (pa_cons (pv 0) (pa_cons (pe_gty rfl m_bool PyProof.Rows.boot_bool) pa_nil)))))))))
theorem sc_is_within : FnScope ["thing", "least", "most"] ["thing", "least", "most"] (defScope s_is_within) := ⟨rfl, rfl, rfl, by decide +kernel, rfl, by decide +kernel, by decide +kernel⟩
theorem ok_is_within (T : Tp fa fn K mg) : ∃ fd, Has P w K mg base d_is_within ["thing", "least", "most"] 3 (spP K 3 G_is_within) fd := by
  have g_is_integer := T.glo 17 (x := "is_integer")
  obtain ⟨fd_is_integer, H_is_integer⟩ := ok_is_integer (P := P) (w := w) (base := base) T
  obtain ⟨fd, F0⟩ := T.c.def_ 18 (d := d_is_within) rfl
  have F : FunD K d_is_within.name d_is_within.qual d_is_within.params d_is_within.body d_is_within.scope [] [] (He.fAd K d_is_within.at_) fd := F0
  have bd : Binds K fd ["thing", "least", "most"] [] := F.bindsN fun _ _ _ _ _ _ us hl => match us, hl with | [_, _, _], _ => rfl
  have sc := sc_is_within
  refine ⟨fd, F, bd, def_ok (n := 3) (N := ["thing", "least", "most"]) (fb := B_is_within) F sc rfl fun cdv A outer s H E hr hgd => ?_⟩
  have hu := good_u (k := 1) hr
  exact (psd_one (psd_ret (pd_and (pd_def rfl (fun _ _ => gP_len) (pe_callG H_is_integer.ok (hr.mono (by decide)) hgd rfl g_is_integer H_is_integer.F.kp H_is_integer.b (pad_cons (pd_v (pv 0)) pad_nil))) (pd_one (pd_chain op_le op_le (pd_v (pv 1)) (pd_v (pv 0)) (pd_v (pv 2)))))))
theorem sc_is_peak_rule : FnScope ["thing", "point"] ["thing"] (defScope s_is_peak_rule) := ⟨rfl, rfl, rfl, by decide +kernel, rfl, by decide +kernel, by decide +kernel⟩
theorem ok_is_peak_rule (T : Tp fa fn K mg) : ∃ fd, Has P w K mg base d_is_peak_rule ["thing"] 4 (spP K 1 G_is_peak_rule) fd := by
  have m_all := T.free 42 (x := "all")
  obtain ⟨_, m_LEAST_POINTS⟩ := T.int 52 (x := "LEAST_POINTS")
  obtain ⟨_, m_MOST_POINTS⟩ := T.int 51 (x := "MOST_POINTS")
  obtain ⟨_, m_MOST_TUPLES⟩ := T.int 53 (x := "MOST_TUPLES")
  obtain ⟨_, m_MOST_VOTERS⟩ := T.int 50 (x := "MOST_VOTERS")
  have g_how_many := T.glo 14 (x := "how_many")
  obtain ⟨fd_how_many, H_how_many⟩ := ok_how_many (P := P) (w := w) (base := base) T
  have g_is_table := T.glo 15 (x := "is_table")
  obtain ⟨fd_is_table, H_is_table⟩ := ok_is_table (P := P) (w := w) (base := base) T
  have g_is_triple := T.glo 16 (x := "is_triple")
  obtain ⟨fd_is_triple, H_is_triple⟩ := ok_is_triple (P := P) (w := w) (base := base) T
  have g_is_within := T.glo 18 (x := "is_within")
  obtain ⟨fd_is_within, H_is_within⟩ := ok_is_within (P := P) (w := w) (base := base) T
  obtain ⟨fd, F0⟩ := T.c.def_ 19 (d := d_is_peak_rule) rfl
  have F : FunD K d_is_peak_rule.name d_is_peak_rule.qual d_is_peak_rule.params d_is_peak_rule.body d_is_peak_rule.scope [] [] (He.fAd K d_is_peak_rule.at_) fd := F0
  have bd : Binds K fd ["thing"] [] := F.bindsN fun _ _ _ _ _ _ us hl => match us, hl with | [_], _ => rfl
  have sc := sc_is_peak_rule
  refine ⟨fd, F, bd, def_ok (n := 1) (N := ["thing", "point"]) (fb := B_is_peak_rule) F sc rfl fun cdv A outer s H E hr hgd => ?_⟩
  have hu := good_u (k := 2) hr
  exact (psd_cons (psd_if (PW.pt (pwd_or (ptd_not (ptd_tru rfl (pd_def rfl (fun _ _ => gP_len) (pe_callG H_is_triple.ok (hr.mono (by decide)) hgd rfl g_is_triple H_is_triple.F.kp H_is_triple.b (pad_cons (pd_v (pv 0)) pad_nil))))) (pwd_or1 (ptd_not (ptd_tru rfl (pd_def rfl (fun _ _ => gP_len) (pe_callG H_is_within.ok (hr.mono (by decide)) hgd rfl g_is_within H_is_within.F.kp H_is_within.b (pad_cons (pd_binL rfl (pe_ix (opIx_ok ⟨rfl, hu, hgd⟩) (pv 0) pd_int (fun _ _ => rfl))) (pad_cons pd_int (pad_cons (pd_c (pe_glob (v := .int 4) rfl m_MOST_VOTERS ⟨_, rfl⟩) fun _ => rp_c.1) pad_nil)))))))))) (psd_one (psd_ret pd_bool)) psd_nil)
    (psd_cons (psd_if (PW.pt (pwd_or (ptd_not (ptd_tru rfl (pd_def rfl (fun _ _ => gP_len) (pe_callG H_is_within.ok (hr.mono (by decide)) hgd rfl g_is_within H_is_within.F.kp H_is_within.b (pad_cons (pd_binL rfl (pe_ix (opIx_ok ⟨rfl, hu, hgd⟩) (pv 0) pd_int (fun _ _ => rfl))) (pad_cons (pd_c (pe_glob (v := .int 2) rfl m_LEAST_POINTS ⟨_, rfl⟩) fun _ => rp_c.1) (pad_cons (pd_c (pe_glob (v := .int 6) rfl m_MOST_POINTS ⟨_, rfl⟩) fun _ => rp_c.1) pad_nil))))))) (pwd_or1 (ptb_bin rfl (pt_cmpR (opGt_ok ⟨rfl, hu, hgd⟩) (pd_def rfl (fun _ _ => gP_len) (pe_callG H_how_many.ok (hr.mono (by decide)) hgd rfl g_how_many H_how_many.F.kp H_how_many.b (pad_cons (pd_binL rfl (pe_ix (opIx_ok ⟨rfl, hu, hgd⟩) (pv 0) pd_int (fun _ _ => rfl))) (pad_cons (pd_binL rfl (pe_ix (opIx_ok ⟨rfl, hu, hgd⟩) (pv 0) pd_int (fun _ _ => rfl))) pad_nil)))) (pd_c (pe_glob (v := .int 1300) rfl m_MOST_TUPLES ⟨_, rfl⟩) fun _ => rp_c.1) (by rfl)))))) (psd_one (psd_ret pd_bool)) psd_nil)
    (psd_cons (psd_if (ptd_not (ptd_tru rfl (pd_def rfl (fun _ _ => gP_len) (pe_callG H_is_table.ok (hr.mono (by decide)) hgd rfl g_is_table H_is_table.F.kp H_is_table.b (pad_cons (pd_binL rfl (pe_ix (opIx_ok ⟨rfl, hu, hgd⟩) (pv 0) pd_int (fun _ _ => rfl))) (pad_cons (pd_def rfl (fun _ _ => gP_len) (pe_callG H_how_many.ok (hr.mono (by decide)) hgd rfl g_how_many H_how_many.F.kp H_how_many.b (pad_cons (pd_binL rfl (pe_ix (opIx_ok ⟨rfl, hu, hgd⟩) (pv 0) pd_int (fun _ _ => rfl))) (pad_cons (pd_binL rfl (pe_ix (opIx_ok ⟨rfl, hu, hgd⟩) (pv 0) pd_int (fun _ _ => rfl))) pad_nil)))) pad_nil)))))) (psd_one (psd_ret pd_bool)) psd_nil)
    (psd_one (psd_ret (pd_call rfl (pe_callB (bAll_ok ⟨rfl, hu, hgd⟩) rfl m_all PyProof.Rows.boot_all (pad_cons (pd_comp (C' := cnN K) (ws := [1]) (own := [1]) rfl (by decide) (by decide) (pe_lc rfl sc.nd (pid_seq rfl (pd_binL rfl (pe_ix (opIx_ok ⟨rfl, hu, hgd⟩) (pv 0) pd_int (fun _ _ => rfl)))) (own := [("point", 1)]) (blkOk_by (by kernel_rfl)) (fun _ _ _ _ _ => (pgd_name (pg_name sc.nd rfl (by first | exact Or.inl rfl | exact Or.inr rfl)))) (fun _ _ _ _ _ => ptsd_nil) (fun _ _ _ _ _ => (pd_def rfl (fun _ _ => gP_len) (pe_callG H_is_within.ok (hr.mono (by decide)) hgd rfl g_is_within H_is_within.F.kp H_is_within.b (pad_cons (pd_v (pv 1)) (pad_cons pd_int (pad_cons (pd_bin rfl (pe_op opSub_ok (pd_binL rfl (pe_ix (opIx_ok ⟨rfl, hu, hgd⟩) (pv 0) pd_int (fun _ _ => rfl))) pd_int)) pad_nil)))))))) pad_nil))))))))
theorem sc_check_rule : FnScope ["thing"] ["thing"] (defScope s_check_rule) := ⟨rfl, rfl, rfl, by decide +kernel, rfl, by decide +kernel, by decide +kernel⟩
theorem ok_check_rule (T : Tp fa fn K mg) : ∃ fd, Has P w K mg base d_check_rule ["thing"] 5 (spP K 1 G_check_rule) fd := by
  have g_is_peak_rule := T.glo 19 (x := "is_peak_rule")
  obtain ⟨fd_is_peak_rule, H_is_peak_rule⟩ := ok_is_peak_rule (P := P) (w := w) (base := base) T
  obtain ⟨fd, F0⟩ := T.c.def_ 20 (d := d_check_rule) rfl
  have F : FunD K d_check_rule.name d_check_rule.qual d_check_rule.params d_check_rule.body d_check_rule.scope [] [] (He.fAd K d_check_rule.at_) fd := F0
  have bd : Binds K fd ["thing"] [] := F.bindsN fun _ _ _ _ _ _ us hl => match us, hl with | [_], _ => rfl
  have sc := sc_check_rule
  refine ⟨fd, F, bd, def_ok (n := 1) (N := ["thing"]) (fb := B_check_rule) F sc rfl fun cdv A outer s H E hr hgd => ?_⟩
  have hu := good_u (k := 3) hr
  exact (psd_one (psd_if (ptd_not (ptd_tru rfl (pd_def rfl (fun _ _ => gP_len) (pe_callG H_is_peak_rule.ok (hr.mono (by decide)) hgd rfl g_is_peak_rule H_is_peak_rule.F.kp H_is_peak_rule.b (pad_cons (pd_v (pv 0)) pad_nil))))) (psd_one psd_never) psd_nil))
theorem sc_all_peaks : FnScope ["voters", "points", "found", "voter", "longer", "row", "point"] ["voters", "points"] (defScope s_all_peaks) := ⟨rfl, rfl, rfl, by decide +kernel, rfl, by decide +kernel, by decide +kernel⟩
theorem ok_all_peaks (T : Tp fa fn K mg) : ∃ fd, Has P w K mg base d_all_peaks ["voters", "points"] 2 (spP K 2 G_all_peaks) fd := by
  have m_range := T.free 34 (x := "range")
  obtain ⟨fd, F0⟩ := T.c.def_ 21 (d := d_all_peaks) rfl
  have F : FunD K d_all_peaks.name d_all_peaks.qual d_all_peaks.params d_all_peaks.body d_all_peaks.scope [] [] (He.fAd K d_all_peaks.at_) fd := F0
  have bd : Binds K fd ["voters", "points"] [] := F.bindsN fun _ _ _ _ _ _ us hl => match us, hl with | [_, _], _ => rfl
  have sc := sc_all_peaks
  refine ⟨fd, F, bd, def_ok (n := 2) (N := ["voters", "points", "found", "voter", "longer", "row", "point"]) (fb := B_all_peaks) F sc rfl fun cdv A outer s H E hr hgd => ?_⟩
  have hu := good_u (k := 0) hr
  exact (psd_cons (psd_set (by decide) (ps_set sc.nd rfl (by first | exact Or.inl rfl | exact Or.inr rfl) (pd_lst (pad_cons (pd_tup pad_nil) pad_nil))))
    (psd_cons (psd_for (by decide) (ps_for PassesOwn.never rfl (pid_r1 (pi_range1 rfl m_range (pa_cons (pd_v (pv 0)) pa_nil))) (pgd_name (pg_name sc.nd rfl (by first | exact Or.inl rfl | exact Or.inr rfl))) (psd_cons (psd_set (by decide) (ps_set sc.nd rfl (by first | exact Or.inl rfl | exact Or.inr rfl) (pd_lst pad_nil)))
    (psd_cons (psd_forV (by decide) (ps_for PassesOwn.never rfl (pid_seqV rfl (pv 2)) (pgd_name (pg_name sc.nd rfl (by first | exact Or.inl rfl | exact Or.inr rfl))) (psd_one (psd_expr (pd_mt1 rfl mExtend_ok (pe_bm PySem.F.plainAttrs_list PySem.F.slot_list_extend PySem.F.type_list_extend mt_extend (pv 4) (pa_cons (pd_comp (C' := cnN K) (ws := [6]) (own := [6]) rfl (by decide) (by decide) (pe_lc rfl sc.nd (pid_r1 (pi_range1 rfl m_range (pa_cons (pd_v (pv 1)) pa_nil))) (own := [("point", 6)]) (blkOk_by (by kernel_rfl)) (fun _ _ _ _ _ => (pgd_name (pg_name sc.nd rfl (by first | exact Or.inl rfl | exact Or.inr rfl)))) (fun _ _ _ _ _ => ptsd_nil) (fun _ _ _ _ _ => (pd_binL rfl (pe_op opAdd_ok (pv 5) (pd_tup (pad_cons (pd_v (pv 6)) pad_nil))))))) pa_nil)))))))
    (psd_one (psd_set (by decide) (ps_set sc.nd rfl (by first | exact Or.inl rfl | exact Or.inr rfl) (pd_v (pv 4)))))))))
    (psd_one (psd_retV (pv 2)))))
theorem sc_may_like : FnScope ["peak", "here", "there"] ["peak", "here", "there"] (defScope s_may_like) := ⟨rfl, rfl, rfl, by decide +kernel, rfl, by decide +kernel, by decide +kernel⟩
theorem ok_may_like (T : Tp fa fn K mg) : ∃ fd, Has P w K mg base d_may_like ["peak", "here", "there"] 2 (spP K 3 G_may_like) fd := by
  obtain ⟨fd, F0⟩ := T.c.def_ 22 (d := d_may_like) rfl
  have F : FunD K d_may_like.name d_may_like.qual d_may_like.params d_may_like.body d_may_like.scope [] [] (He.fAd K d_may_like.at_) fd := F0
  have bd : Binds K fd ["peak", "here", "there"] [] := F.bindsN fun _ _ _ _ _ _ us hl => match us, hl with | [_, _, _], _ => rfl
  have sc := sc_may_like
  refine ⟨fd, F, bd, def_ok (n := 3) (N := ["peak", "here", "there"]) (fb := B_may_like) F sc rfl fun cdv A outer s H E hr hgd => ?_⟩
  have hu := good_u (k := 0) hr
  exact (psd_cons (psd_if (PW.pt (pwd_or (ptb_binLR rfl (pt_cmpR (opEq_ok ⟨rfl, hu, hgd⟩) (pv 1) (pv 2) (by rfl))) (pwd_or1 (ptb_binLR rfl (pt_cmpR (opEq_ok ⟨rfl, hu, hgd⟩) (pv 1) (pv 0) (by rfl)))))) (psd_one (psd_ret pd_bool)) psd_nil)
    (psd_one (psd_ret (pd_not (pd_or (pd_chain op_lt op_lt (pd_v (pv 0)) (pd_v (pv 1)) (pd_v (pv 2))) (pd_one (pd_chain op_lt op_lt (pd_v (pv 2)) (pd_v (pv 1)) (pd_v (pv 0)))))))))
theorem sc_told_by : FnScope ["rule"] ["rule"] (defScope s_told_by) := ⟨rfl, rfl, rfl, by decide +kernel, rfl, by decide +kernel, by decide +kernel⟩
theorem ok_told_by (T : Tp fa fn K mg) : ∃ fd, Has P w K mg base d_told_by ["rule"] 3 (spP K 1 G_told_by) fd := by
  have m_dict := T.free 35 (x := "dict")
  have m_zip := T.free 36 (x := "zip")
  have g_all_peaks := T.glo 21 (x := "all_peaks")
  obtain ⟨fd_all_peaks, H_all_peaks⟩ := ok_all_peaks (P := P) (w := w) (base := base) T
  obtain ⟨fd, F0⟩ := T.c.def_ 23 (d := d_told_by) rfl
  have F : FunD K d_told_by.name d_told_by.qual d_told_by.params d_told_by.body d_told_by.scope [] [] (He.fAd K d_told_by.at_) fd := F0
  have bd : Binds K fd ["rule"] [] := F.bindsN fun _ _ _ _ _ _ us hl => match us, hl with | [_], _ => rfl
  have sc := sc_told_by
  refine ⟨fd, F, bd, def_ok (n := 1) (N := ["rule"]) (fb := B_told_by) F sc rfl fun cdv A outer s H E hr hgd => ?_⟩
  have hu := good_u (k := 1) hr
  exact (psd_one (psd_ret (pd_dz rfl (pe_dz ⟨rfl, hu, hgd⟩ rfl m_dict rfl m_zip (pad_cons (pd_def rfl (fun _ _ => gP_len) (pe_callG H_all_peaks.ok (hr.mono (by decide)) hgd rfl g_all_peaks H_all_peaks.F.kp H_all_peaks.b (pad_cons (pd_binL rfl (pe_ix (opIx_ok ⟨rfl, hu, hgd⟩) (pv 0) pd_int (fun _ _ => rfl))) (pad_cons (pd_binL rfl (pe_ix (opIx_ok ⟨rfl, hu, hgd⟩) (pv 0) pd_int (fun _ _ => rfl))) pad_nil)))) (pad_cons (pd_binL rfl (pe_ix (opIx_ok ⟨rfl, hu, hgd⟩) (pv 0) pd_int (fun _ _ => rfl))) pad_nil))))))
theorem sc_gain_in : FnScope ["rule", "told", "peaks", "voter", "peak", "other", "there"] ["rule"] (defScope s_gain_in) := ⟨rfl, rfl, rfl, by decide +kernel, rfl, by decide +kernel, by decide +kernel⟩
theorem ok_gain_in (T : Tp fa fn K mg) : ∃ fd, Has P w K mg base d_gain_in ["rule"] 4 (spP K 1 G_gain_in) fd := by
  have m_enumerate := T.free 44 (x := "enumerate")
  have m_range := T.free 34 (x := "range")
  have g_all_peaks := T.glo 21 (x := "all_peaks")
  obtain ⟨fd_all_peaks, H_all_peaks⟩ := ok_all_peaks (P := P) (w := w) (base := base) T
  have g_may_like := T.glo 22 (x := "may_like")
  obtain ⟨fd_may_like, H_may_like⟩ := ok_may_like (P := P) (w := w) (base := base) T
  have g_told_by := T.glo 23 (x := "told_by")
  obtain ⟨fd_told_by, H_told_by⟩ := ok_told_by (P := P) (w := w) (base := base) T
  obtain ⟨fd, F0⟩ := T.c.def_ 24 (d := d_gain_in) rfl
  have F : FunD K d_gain_in.name d_gain_in.qual d_gain_in.params d_gain_in.body d_gain_in.scope [] [] (He.fAd K d_gain_in.at_) fd := F0
  have bd : Binds K fd ["rule"] [] := F.bindsN fun _ _ _ _ _ _ us hl => match us, hl with | [_], _ => rfl
  have sc := sc_gain_in
  refine ⟨fd, F, bd, def_ok (n := 1) (N := ["rule", "told", "peaks", "voter", "peak", "other", "there"]) (fb := B_gain_in) F sc rfl fun cdv A outer s H E hr hgd => ?_⟩
  have hu := good_u (k := 2) hr
  exact (psd_cons (psd_set (by decide) (ps_set sc.nd rfl (by first | exact Or.inl rfl | exact Or.inr rfl) (pd_def rfl (fun _ _ => gP_len) (pe_callG H_told_by.ok (hr.mono (by decide)) hgd rfl g_told_by H_told_by.F.kp H_told_by.b (pad_cons (pd_v (pv 0)) pad_nil)))))
    (psd_cons (psd_for (by decide) (ps_for PassesOwn.never rfl (pid_seq rfl (pd_def rfl (fun _ _ => gP_len) (pe_callG H_all_peaks.ok (hr.mono (by decide)) hgd rfl g_all_peaks H_all_peaks.F.kp H_all_peaks.b (pad_cons (pd_binL rfl (pe_ix (opIx_ok ⟨rfl, hu, hgd⟩) (pv 0) pd_int (fun _ _ => rfl))) (pad_cons (pd_binL rfl (pe_ix (opIx_ok ⟨rfl, hu, hgd⟩) (pv 0) pd_int (fun _ _ => rfl))) pad_nil))))) (pgd_name (pg_name sc.nd rfl (by first | exact Or.inl rfl | exact Or.inr rfl))) (psd_one (psd_for (by decide) (ps_for PassesOwn.never rfl (pid_enum rfl (pi_enumA rfl m_enumerate (pa_cons (pd_v (pv 2)) pa_nil))) (pgd_tup rfl rfl (pgsd_cons (pgd_name (pg_name sc.nd rfl (by first | exact Or.inl rfl | exact Or.inr rfl))) (pgsd_cons (pgd_name (pg_name sc.nd rfl (by first | exact Or.inl rfl | exact Or.inr rfl))) pgsd_nil))) (psd_one (psd_for (by decide) (ps_for PassesOwn.never rfl (pid_r1 (pi_range1 rfl m_range (pa_cons (pd_binL rfl (pe_ix (opIx_ok ⟨rfl, hu, hgd⟩) (pv 0) pd_int (fun _ _ => rfl))) pa_nil))) (pgd_name (pg_name sc.nd rfl (by first | exact Or.inl rfl | exact Or.inr rfl))) (psd_cons (psd_set (by decide) (ps_set sc.nd rfl (by first | exact Or.inl rfl | exact Or.inr rfl) (pd_binL rfl (pe_ix (opIx_ok ⟨rfl, hu, hgd⟩) (pv 1) (pd_bin rfl (pe_op opAdd_ok (pd_bin rfl (pe_op opAdd_ok (pd_slV rfl (pv 2) pod_none (pod_some (pd_v (pv 3)))) (pd_tup (pad_cons (pd_v (pv 5)) pad_nil)))) (pd_slV rfl (pv 2) (pod_some (pd_binL rfl (pe_op opAdd_ok (pv 3) pd_int))) pod_none))) (fun _ _ => rfl)))))
    (psd_one (psd_if (ptd_tru rfl (pd_def rfl (fun _ _ => gP_len) (pe_callG H_may_like.ok (hr.mono (by decide)) hgd rfl g_may_like H_may_like.F.kp H_may_like.b (pad_cons (pd_v (pv 4)) (pad_cons (pd_binLR rfl (pe_ix (opIx_ok ⟨rfl, hu, hgd⟩) (pv 1) (pv 2) (fun _ _ => rfl))) (pad_cons (pd_v (pv 6)) pad_nil)))))) (psd_one (psd_ret (pd_tup (pad_cons (pd_v (pv 2)) (pad_cons (pd_v (pv 3)) (pad_cons (pd_v (pv 5)) pad_nil)))))) psd_nil)))))))))))
    (psd_one (psd_ret pd_none))))
theorem sc_first_peak_gain : FnScope ["rule"] ["rule"] (defScope s_first_peak_gain) := ⟨rfl, rfl, rfl, by decide +kernel, rfl, by decide +kernel, by decide +kernel⟩
theorem ok_first_peak_gain (T : Tp fa fn K mg) : ∃ fd, Has P w K mg base d_first_peak_gain ["rule"] 6 (spP K 1 G_first_peak_gain) fd := by
  have g_check_rule := T.glo 20 (x := "check_rule")
  obtain ⟨fd_check_rule, H_check_rule⟩ := ok_check_rule (P := P) (w := w) (base := base) T
  have g_gain_in := T.glo 24 (x := "gain_in")
  obtain ⟨fd_gain_in, H_gain_in⟩ := ok_gain_in (P := P) (w := w) (base := base) T
  obtain ⟨fd, F0⟩ := T.c.def_ 25 (d := d_first_peak_gain) rfl
  have F : FunD K d_first_peak_gain.name d_first_peak_gain.qual d_first_peak_gain.params d_first_peak_gain.body d_first_peak_gain.scope [] [] (He.fAd K d_first_peak_gain.at_) fd := F0
  have bd : Binds K fd ["rule"] [] := F.bindsN fun _ _ _ _ _ _ us hl => match us, hl with | [_], _ => rfl
  have sc := sc_first_peak_gain
  refine ⟨fd, F, bd, def_ok (n := 1) (N := ["rule"]) (fb := B_first_peak_gain) F sc rfl fun cdv A outer s H E hr hgd => ?_⟩
  have hu := good_u (k := 4) hr
  exact (psd_cons (psd_expr (pd_def rfl (fun _ _ => gP_len) (pe_callG H_check_rule.ok (hr.mono (by decide)) hgd rfl g_check_rule H_check_rule.F.kp H_check_rule.b (pad_cons (pd_v (pv 0)) pad_nil))))
    (psd_one (psd_ret (pd_def rfl (fun _ _ => gP_len) (pe_callG H_gain_in.ok (hr.mono (by decide)) hgd rfl g_gain_in H_gain_in.F.kp H_gain_in.b (pad_cons (pd_v (pv 0)) pad_nil))))))
theorem sc_settles : FnScope ["rule", "peaks", "peak"] ["rule", "peaks"] (defScope s_settles) := ⟨rfl, rfl, rfl, by decide +kernel, rfl, by decide +kernel, by decide +kernel⟩
theorem ok_settles (T : Tp fa fn K mg) : ∃ fd, Has P w K mg base d_settles ["rule", "peaks"] 6 (spP K 2 G_settles) fd := by
  have m_all := T.free 42 (x := "all")
  have g_check_rule := T.glo 20 (x := "check_rule")
  obtain ⟨fd_check_rule, H_check_rule⟩ := ok_check_rule (P := P) (w := w) (base := base) T
  have g_is_table := T.glo 15 (x := "is_table")
  obtain ⟨fd_is_table, H_is_table⟩ := ok_is_table (P := P) (w := w) (base := base) T
  have g_is_within := T.glo 18 (x := "is_within")
  obtain ⟨fd_is_within, H_is_within⟩ := ok_is_within (P := P) (w := w) (base := base) T
  have g_told_by := T.glo 23 (x := "told_by")
  obtain ⟨fd_told_by, H_told_by⟩ := ok_told_by (P := P) (w := w) (base := base) T
  obtain ⟨fd, F0⟩ := T.c.def_ 26 (d := d_settles) rfl
  have F : FunD K d_settles.name d_settles.qual d_settles.params d_settles.body d_settles.scope [] [] (He.fAd K d_settles.at_) fd := F0
  have bd : Binds K fd ["rule", "peaks"] [] := F.bindsN fun _ _ _ _ _ _ us hl => match us, hl with | [_, _], _ => rfl
  have sc := sc_settles
  refine ⟨fd, F, bd, def_ok (n := 2) (N := ["rule", "peaks", "peak"]) (fb := B_settles) F sc rfl fun cdv A outer s H E hr hgd => ?_⟩
  have hu := good_u (k := 4) hr
  exact (psd_cons (psd_expr (pd_def rfl (fun _ _ => gP_len) (pe_callG H_check_rule.ok (hr.mono (by decide)) hgd rfl g_check_rule H_check_rule.F.kp H_check_rule.b (pad_cons (pd_v (pv 0)) pad_nil))))
    (psd_cons (psd_if (PW.pt (pwd_or (ptd_not (ptd_tru rfl (pd_def rfl (fun _ _ => gP_len) (pe_callG H_is_table.ok (hr.mono (by decide)) hgd rfl g_is_table H_is_table.F.kp H_is_table.b (pad_cons (pd_v (pv 1)) (pad_cons (pd_binL rfl (pe_ix (opIx_ok ⟨rfl, hu, hgd⟩) (pv 0) pd_int (fun _ _ => rfl))) pad_nil)))))) (pwd_or1 (ptd_not (ptd_tru rfl (pd_call rfl (pe_callB (bAll_ok ⟨rfl, hu, hgd⟩) rfl m_all PyProof.Rows.boot_all (pad_cons (pd_compV (C' := cnN K) (ws := [2]) (own := [2]) rfl (by decide) (by decide) (pe_lc rfl sc.nd (pid_seqV rfl (pv 1)) (own := [("peak", 2)]) (blkOk_by (by kernel_rfl)) (fun _ _ _ _ _ => (pgd_name (pg_name sc.nd rfl (by first | exact Or.inl rfl | exact Or.inr rfl)))) (fun _ _ _ _ _ => ptsd_nil) (fun _ _ _ _ _ => (pd_def rfl (fun _ _ => gP_len) (pe_callG H_is_within.ok (hr.mono (by decide)) hgd rfl g_is_within H_is_within.F.kp H_is_within.b (pad_cons (pd_v (pv 2)) (pad_cons pd_int (pad_cons (pd_bin rfl (pe_op opSub_ok (pd_binL rfl (pe_ix (opIx_ok ⟨rfl, hu, hgd⟩) (pv 0) pd_int (fun _ _ => rfl))) pd_int)) pad_nil)))))))) pad_nil)))))))) (psd_one psd_never) psd_nil)
    (psd_one (psd_ret (pd_binR rfl (pe_ix (opIx_ok ⟨rfl, hu, hgd⟩) (pd_def rfl (fun _ _ => gP_len) (pe_callG H_told_by.ok (hr.mono (by decide)) hgd rfl g_told_by H_told_by.F.kp H_told_by.b (pad_cons (pd_v (pv 0)) pad_nil))) (pv 1) (fun _ _ => rfl)))))))
theorem sc__law_case_right : FnScope ["hand", "rule", "due", "told", "peaks", "voter", "peak"] ["hand"] (defScope s__law_case_right) := ⟨rfl, rfl, rfl, by decide +kernel, rfl, by decide +kernel, by decide +kernel⟩
theorem ok__law_case_right (T : Tp fa fn K mg) : ∃ fd, Has P w K mg base d__law_case_right ["hand"] 7 (spIO K 1 G__law_case_right) fd := by
  have g__law_gain := T.glo 1 (x := "_law_gain")
  obtain ⟨fd__law_gain, H__law_gain⟩ := ok__law_gain (P := P) (w := w) (base := base) T
  have g__law_is := T.glo 2 (x := "_law_is")
  obtain ⟨fd__law_is, H__law_is⟩ := ok__law_is (P := P) (w := w) (base := base) T
  have g__law_own_levels := T.glo 8 (x := "_law_own_levels")
  obtain ⟨fd__law_own_levels, H__law_own_levels⟩ := ok__law_own_levels (P := P) (w := w) (base := base) T
  have g__law_rule := T.glo 12 (x := "_law_rule")
  obtain ⟨fd__law_rule, H__law_rule⟩ := ok__law_rule (P := P) (w := w) (base := base) T
  have g__law_turned := T.glo 13 (x := "_law_turned")
  obtain ⟨fd__law_turned, H__law_turned⟩ := ok__law_turned (P := P) (w := w) (base := base) T
  have g_first_peak_gain := T.glo 25 (x := "first_peak_gain")
  obtain ⟨fd_first_peak_gain, H_first_peak_gain⟩ := ok_first_peak_gain (P := P) (w := w) (base := base) T
  have g_settles := T.glo 26 (x := "settles")
  obtain ⟨fd_settles, H_settles⟩ := ok_settles (P := P) (w := w) (base := base) T
  obtain ⟨fd, F0⟩ := T.c.def_ 27 (d := d__law_case_right) rfl
  have F : FunD K d__law_case_right.name d__law_case_right.qual d__law_case_right.params d__law_case_right.body d__law_case_right.scope [] [] (He.fAd K d__law_case_right.at_) fd := F0
  have bd : Binds K fd ["hand"] [] := F.bindsN fun _ _ _ _ _ _ us hl => match us, hl with | [_], _ => rfl
  have sc := sc__law_case_right
  refine ⟨fd, F, bd, def_okIO (n := 1) (N := ["hand", "rule", "due", "told", "peaks", "voter", "peak"]) (fb := B__law_case_right) F sc rfl fun cdv A outer s H E hr hgd => ?_⟩
  have hu := good_u (k := 5) hr
  exact (psd_cons (psd_set (by decide) (ps_set sc.nd rfl (by first | exact Or.inl rfl | exact Or.inr rfl) (pd_defIO rfl (fun _ _ _ => gIO_len) (pe_callG H__law_rule.ok (hr.mono (by decide)) hgd rfl g__law_rule H__law_rule.F.kp H__law_rule.b (pa_cons (pv 0) pad_nil)))))
    (psd_cons (psd_par (by decide) (by decide) (ps_par rfl sc.nd rfl rfl (by decide) rfl rfl (pad_cons (pd_def rfl (fun _ _ => gP_len) (pe_callG H__law_gain.ok (hr.mono (by decide)) hgd rfl g__law_gain H__law_gain.F.kp H__law_gain.b (pad_cons (pd_v (pv 1)) pad_nil))) (pad_cons (pd_def rfl (fun _ _ => gP_len) (pe_callG H_first_peak_gain.ok (hr.mono (by decide)) hgd rfl g_first_peak_gain H_first_peak_gain.F.kp H_first_peak_gain.b (pad_cons (pd_v (pv 1)) pad_nil))) pad_nil)) (by rfl)))
    (psd_cons (psd_if (PW.pt (pwd_or (ptd_not (ptd_tru rfl (pd_def rfl (fun _ _ => gP_len) (pe_callG H__law_is.ok (hr.mono (by decide)) hgd rfl g__law_is H__law_is.F.kp H__law_is.b (pad_cons (pd_v (pv 3)) (pad_cons (pd_v (pv 2)) pad_nil)))))) (pwd_or1 (ptb_bin rfl (pt_cmpR (opNe_ok ⟨rfl, hu, hgd⟩) (pd_binL rfl (pe_cmpR opIs_ok (pv 2) pd_none (by rfl))) (pd_bin rfl (pe_cmpR opIsNot_ok (pd_def rfl (fun _ _ => gP_len) (pe_callG H__law_own_levels.ok (hr.mono (by decide)) hgd rfl g__law_own_levels H__law_own_levels.F.kp H__law_own_levels.b (pad_cons (pd_v (pv 1)) pad_nil))) pd_none (by rfl))) (by rfl)))))) (psd_one (psd_ret pd_bool)) psd_nil)
    (psd_cons (psd_if (ptb_binL rfl (pt_cmpR opIsNot_ok (pv 2) pd_none (by rfl))) (psd_cons (psd_asg (by decide) (ps_asg (pd_v (pv 2)) (pgd_tup rfl rfl (pgsd_cons (pgd_name (pg_name sc.nd rfl (by first | exact Or.inl rfl | exact Or.inr rfl))) (pgsd_cons (pgd_name (pg_name sc.nd rfl (by first | exact Or.inl rfl | exact Or.inr rfl))) (pgsd_cons (pgd_name (pg_name sc.nd rfl (by first | exact Or.inl rfl | exact Or.inr rfl))) pgsd_nil))))))
    (psd_one (psd_if (ptb_bin rfl (pt_cmpR (opEq_ok ⟨rfl, hu, hgd⟩) (pd_def rfl (fun _ _ => gP_len) (pe_callG H_settles.ok (hr.mono (by decide)) hgd rfl g_settles H_settles.F.kp H_settles.b (pad_cons (pd_v (pv 1)) (pad_cons (pd_v (pv 4)) pad_nil)))) (pd_def rfl (fun _ _ => gP_len) (pe_callG H_settles.ok (hr.mono (by decide)) hgd rfl g_settles H_settles.F.kp H_settles.b (pad_cons (pd_v (pv 1)) (pad_cons (pd_bin rfl (pe_op opAdd_ok (pd_bin rfl (pe_op opAdd_ok (pd_slV rfl (pv 4) pod_none (pod_some (pd_v (pv 5)))) (pd_tup (pad_cons (pd_v (pv 6)) pad_nil)))) (pd_slV rfl (pv 4) (pod_some (pd_binL rfl (pe_op opAdd_ok (pv 5) pd_int))) pod_none))) pad_nil)))) (by rfl))) (psd_one (psd_ret pd_bool)) psd_nil))) psd_nil)
    (psd_one (psd_ret (pd_bin rfl (pe_cmpR (opEq_ok ⟨rfl, hu, hgd⟩) (pd_bin rfl (pe_cmpR opIs_ok (pd_def rfl (fun _ _ => gP_len) (pe_callG H_first_peak_gain.ok (hr.mono (by decide)) hgd rfl g_first_peak_gain H_first_peak_gain.F.kp H_first_peak_gain.b (pad_cons (pd_def rfl (fun _ _ => gP_len) (pe_callG H__law_turned.ok (hr.mono (by decide)) hgd rfl g__law_turned H__law_turned.F.kp H__law_turned.b (pad_cons (pd_v (pv 1)) pad_nil))) pad_nil))) pd_none (by rfl))) (pd_binL rfl (pe_cmpR opIs_ok (pv 2) pd_none (by rfl))) (by rfl)))))))))
theorem sc__law_hand : FnScope ["script", "cells", "cell"] ["script"] (defScope s__law_hand) := ⟨rfl, rfl, rfl, by decide +kernel, rfl, by decide +kernel, by decide +kernel⟩
theorem ok__law_hand (T : Tp fa fn K mg) : ∃ fd, Has P w K mg base d__law_hand ["script"] 2 (spP K 1 G__law_hand) fd := by
  have m_abs := T.free 49 (x := "abs")
  have m_int := T.free 39 (x := "int")
  have m_len := T.free 43 (x := "len")
  obtain ⟨fd, F0⟩ := T.c.def_ 28 (d := d__law_hand) rfl
  have F : FunD K d__law_hand.name d__law_hand.qual d__law_hand.params d__law_hand.body d__law_hand.scope [] [] (He.fAd K d__law_hand.at_) fd := F0
  have bd : Binds K fd ["script"] [] := F.bindsN fun _ _ _ _ _ _ us hl => match us, hl with | [_], _ => rfl
  have sc := sc__law_hand
  refine ⟨fd, F, bd, def_ok (n := 1) (N := ["script", "cells", "cell"]) (fb := B__law_hand) F sc rfl fun cdv A outer s H E hr hgd => ?_⟩
  have hu := good_u (k := 0) hr
  exact (psd_cons (psd_setLc (C' := cnN K) (ws := [2]) (own := [2]) (by decide) rfl (by decide) (by decide) (ps_setLc rfl sc.nd rfl rfl (sw_true rfl rfl rfl rfl) (pid_seq rfl (pd_slV rfl (pv 0) pod_none (pod_some pd_int))) (own := [("cell", 2)]) (blkOk_by (by kernel_rfl)) (fun _ _ _ _ _ => (pgd_name (pg_name sc.nd rfl (by first | exact Or.inl rfl | exact Or.inr rfl)))) (fun _ _ _ _ _ => ptsd_nil) (fun _ _ _ _ _ => (pd_call rfl (pe_callB bAbs_ok rfl m_abs PyProof.Rows.boot_abs (pad_cons (pd_callV rfl (pe_callTy bInt_ok rfl m_int PyProof.Rows.boot_int (pa_cons (pv 2) pa_nil))) pad_nil))))))
    (psd_one (psd_ret (pd_lst (pad_cons (pd_v (pv 1)) (pad_cons pd_int (pad_cons pd_int (pad_cons (pd_bin rfl (pe_op opAdd_ok pd_int (pd_bin rfl (pe_op opMul_ok pd_int (pd_callV rfl (pe_callB bLen_ok rfl m_len PySem.boot_len (pa_cons (pv 1) pa_nil))))))) (pad_cons pd_int pad_nil)))))))))
theorem sc_in_lot : FnScope ["number", "voter"] ["number", "voter"] (defScope s_in_lot) := ⟨rfl, rfl, rfl, by decide +kernel, rfl, by decide +kernel, by decide +kernel⟩
theorem ok_in_lot (T : Tp fa fn K mg) : ∃ fd, Has P w K mg base d_in_lot ["number", "voter"] 2 (spP K 2 G_in_lot) fd := by
  obtain ⟨fd, F0⟩ := T.c.def_ 29 (d := d_in_lot) rfl
  have F : FunD K d_in_lot.name d_in_lot.qual d_in_lot.params d_in_lot.body d_in_lot.scope [] [] (He.fAd K d_in_lot.at_) fd := F0
  have bd : Binds K fd ["number", "voter"] [] := F.bindsN fun _ _ _ _ _ _ us hl => match us, hl with | [_, _], _ => rfl
  have sc := sc_in_lot
  refine ⟨fd, F, bd, def_ok (n := 2) (N := ["number", "voter"]) (fb := B_in_lot) F sc rfl fun cdv A outer s H E hr hgd => ?_⟩
  have hu := good_u (k := 0) hr
  exact (psd_one (psd_ret (pd_bin rfl (pe_cmpR (opEq_ok ⟨rfl, hu, hgd⟩) (pd_bin rfl (pe_op opBand_ok (pd_binLR rfl (pe_op opShr_ok (pv 0) (pv 1))) pd_int)) pd_int (by rfl)))))
theorem sc_are_levels : FnScope ["voters", "points", "thing", "level", "number", "voter"] ["voters", "points", "thing"] (defScope s_are_levels) := ⟨rfl, rfl, rfl, by decide +kernel, rfl, by decide +kernel, by decide +kernel⟩
theorem ok_are_levels (T : Tp fa fn K mg) : ∃ fd, Has P w K mg base d_are_levels ["voters", "points", "thing"] 4 (spP K 3 G_are_levels) fd := by
  have m_all := T.free 42 (x := "all")
  have m_enumerate := T.free 44 (x := "enumerate")
  have m_range := T.free 34 (x := "range")
  have g_in_lot := T.glo 29 (x := "in_lot")
  obtain ⟨fd_in_lot, H_in_lot⟩ := ok_in_lot (P := P) (w := w) (base := base) T
  have g_is_table := T.glo 15 (x := "is_table")
  obtain ⟨fd_is_table, H_is_table⟩ := ok_is_table (P := P) (w := w) (base := base) T
  have g_is_within := T.glo 18 (x := "is_within")
  obtain ⟨fd_is_within, H_is_within⟩ := ok_is_within (P := P) (w := w) (base := base) T
  obtain ⟨fd, F0⟩ := T.c.def_ 30 (d := d_are_levels) rfl
  have F : FunD K d_are_levels.name d_are_levels.qual d_are_levels.params d_are_levels.body d_are_levels.scope [] [] (He.fAd K d_are_levels.at_) fd := F0
  have bd : Binds K fd ["voters", "points", "thing"] [] := F.bindsN fun _ _ _ _ _ _ us hl => match us, hl with | [_, _, _], _ => rfl
  have sc := sc_are_levels
  refine ⟨fd, F, bd, def_ok (n := 3) (N := ["voters", "points", "thing", "level", "number", "voter"]) (fb := B_are_levels) F sc rfl fun cdv A outer s H E hr hgd => ?_⟩
  have hu := good_u (k := 2) hr
  exact (psd_cons (psd_if (PW.pt (pwd_or (ptd_not (ptd_tru rfl (pd_def rfl (fun _ _ => gP_len) (pe_callG H_is_table.ok (hr.mono (by decide)) hgd rfl g_is_table H_is_table.F.kp H_is_table.b (pad_cons (pd_v (pv 2)) (pad_cons (pd_binR rfl (pe_op opShl_ok pd_int (pv 0))) pad_nil)))))) (pwd_or1 (ptd_not (ptd_tru rfl (pd_call rfl (pe_callB (bAll_ok ⟨rfl, hu, hgd⟩) rfl m_all PyProof.Rows.boot_all (pad_cons (pd_compV (C' := cnN K) (ws := [3]) (own := [3]) rfl (by decide) (by decide) (pe_lc rfl sc.nd (pid_seqV rfl (pv 2)) (own := [("level", 3)]) (blkOk_by (by kernel_rfl)) (fun _ _ _ _ _ => (pgd_name (pg_name sc.nd rfl (by first | exact Or.inl rfl | exact Or.inr rfl)))) (fun _ _ _ _ _ => ptsd_nil) (fun _ _ _ _ _ => (pd_def rfl (fun _ _ => gP_len) (pe_callG H_is_within.ok (hr.mono (by decide)) hgd rfl g_is_within H_is_within.F.kp H_is_within.b (pad_cons (pd_v (pv 3)) (pad_cons pd_int (pad_cons (pd_binL rfl (pe_op opSub_ok (pv 1) pd_int)) pad_nil)))))))) pad_nil)))))))) (psd_one (psd_ret pd_bool)) psd_nil)
    (psd_cons (psd_for (by decide) (ps_for PassesOwn.never rfl (pid_enum rfl (pi_enumA rfl m_enumerate (pa_cons (pd_v (pv 2)) pa_nil))) (pgd_tup rfl rfl (pgsd_cons (pgd_name (pg_name sc.nd rfl (by first | exact Or.inl rfl | exact Or.inr rfl))) (pgsd_cons (pgd_name (pg_name sc.nd rfl (by first | exact Or.inl rfl | exact Or.inr rfl))) pgsd_nil))) (psd_one (psd_for (by decide) (ps_for PassesOwn.never rfl (pid_r1 (pi_range1 rfl m_range (pa_cons (pd_v (pv 0)) pa_nil))) (pgd_name (pg_name sc.nd rfl (by first | exact Or.inl rfl | exact Or.inr rfl))) (psd_one (psd_if (PW.pt (pwd_and (ptd_not (ptd_tru rfl (pd_def rfl (fun _ _ => gP_len) (pe_callG H_in_lot.ok (hr.mono (by decide)) hgd rfl g_in_lot H_in_lot.F.kp H_in_lot.b (pad_cons (pd_v (pv 4)) (pad_cons (pd_v (pv 5)) pad_nil)))))) (pwd_and1 (ptb_binR rfl (pt_cmpR (opGt_ok ⟨rfl, hu, hgd⟩) (pd_binL rfl (pe_ix (opIx_ok ⟨rfl, hu, hgd⟩) (pv 2) (pd_binL rfl (pe_op opBor_ok (pv 4) (pd_binR rfl (pe_op opShl_ok pd_int (pv 5))))) (fun _ _ => rfl))) (pv 3) (by rfl)))))) (psd_one (psd_ret pd_bool)) psd_nil)))))))
    (psd_one (psd_ret pd_bool))))
theorem sc_point_by : FnScope ["levels", "peaks", "found", "number", "level", "voter", "peak"] ["levels", "peaks"] (defScope s_point_by) := ⟨rfl, rfl, rfl, by decide +kernel, rfl, by decide +kernel, by decide +kernel⟩
theorem ok_point_by (T : Tp fa fn K mg) : ∃ fd, Has P w K mg base d_point_by ["levels", "peaks"] 3 (spP K 2 G_point_by) fd := by
  have m_enumerate := T.free 44 (x := "enumerate")
  have m_max := T.free 46 (x := "max")
  have m_min := T.free 45 (x := "min")
  have g_in_lot := T.glo 29 (x := "in_lot")
  obtain ⟨fd_in_lot, H_in_lot⟩ := ok_in_lot (P := P) (w := w) (base := base) T
  obtain ⟨fd, F0⟩ := T.c.def_ 31 (d := d_point_by) rfl
  have F : FunD K d_point_by.name d_point_by.qual d_point_by.params d_point_by.body d_point_by.scope [] [] (He.fAd K d_point_by.at_) fd := F0
  have bd : Binds K fd ["levels", "peaks"] [] := F.bindsN fun _ _ _ _ _ _ us hl => match us, hl with | [_, _], _ => rfl
  have sc := sc_point_by
  refine ⟨fd, F, bd, def_ok (n := 2) (N := ["levels", "peaks", "found", "number", "level", "voter", "peak"]) (fb := B_point_by) F sc rfl fun cdv A outer s H E hr hgd => ?_⟩
  have hu := good_u (k := 1) hr
  exact (psd_cons (psd_set (by decide) (ps_set sc.nd rfl (by first | exact Or.inl rfl | exact Or.inr rfl) (pd_lst pad_nil)))
    (psd_cons (psd_for (by decide) (ps_for PassesOwn.never rfl (pid_enum rfl (pi_enumA rfl m_enumerate (pa_cons (pd_v (pv 0)) pa_nil))) (pgd_tup rfl rfl (pgsd_cons (pgd_name (pg_name sc.nd rfl (by first | exact Or.inl rfl | exact Or.inr rfl))) (pgsd_cons (pgd_name (pg_name sc.nd rfl (by first | exact Or.inl rfl | exact Or.inr rfl))) pgsd_nil))) (psd_one (psd_expr (pd_mt1 rfl mAppend_ok (pe_bm PySem.F.plainAttrs_list PySem.F.slot_list_append PySem.F.type_list_append mt_append (pv 2) (pa_cons (pd_call rfl (pe_callB (bMax_ok ⟨rfl, hu, hgd⟩) rfl m_max PyProof.Rows.boot_max (pad_cons (pd_bin rfl (pe_op opAdd_ok (pd_lst (pad_cons (pd_v (pv 4)) pad_nil)) (pd_comp (C' := cnN K) (ws := [5, 6]) (own := [5, 6]) rfl (by decide) (by decide) (pe_lc rfl sc.nd (pid_enum rfl (pi_enumA rfl m_enumerate (pa_cons (pd_v (pv 1)) pa_nil))) (own := [("voter", 5), ("peak", 6)]) (blkOk_by (by kernel_rfl)) (fun _ _ _ _ _ => (pgd_tup rfl rfl (pgsd_cons (pgd_name (pg_name sc.nd rfl (by first | exact Or.inl rfl | exact Or.inr rfl))) (pgsd_cons (pgd_name (pg_name sc.nd rfl (by first | exact Or.inl rfl | exact Or.inr rfl))) pgsd_nil)))) (fun _ _ _ _ _ => (ptsd_one (ptd_tru rfl (pd_def rfl (fun _ _ => gP_len) (pe_callG H_in_lot.ok (hr.mono (by decide)) hgd rfl g_in_lot H_in_lot.F.kp H_in_lot.b (pad_cons (pd_v (pv 3)) (pad_cons (pd_v (pv 5)) pad_nil))))))) (fun _ _ _ _ _ => (pd_v (pv 6))))))) pad_nil))) pa_nil)))))))
    (psd_one (psd_ret (pd_callV rfl (pe_callB (bMin_ok ⟨rfl, hu, hgd⟩) rfl m_min PyProof.Rows.boot_min (pa_cons (pv 2) pa_nil)))))))
theorem sc_made_by : FnScope ["voters", "points", "levels", "peaks"] ["voters", "points", "levels"] (defScope s_made_by) := ⟨rfl, rfl, rfl, by decide +kernel, rfl, by decide +kernel, by decide +kernel⟩
theorem ok_made_by (T : Tp fa fn K mg) : ∃ fd, Has P w K mg base d_made_by ["voters", "points", "levels"] 5 (spP K 3 G_made_by) fd := by
  have m_tuple := T.free 41 (x := "tuple")
  obtain ⟨_, m_LEAST_POINTS⟩ := T.int 52 (x := "LEAST_POINTS")
  obtain ⟨_, m_MOST_POINTS⟩ := T.int 51 (x := "MOST_POINTS")
  obtain ⟨_, m_MOST_TUPLES⟩ := T.int 53 (x := "MOST_TUPLES")
  obtain ⟨_, m_MOST_VOTERS⟩ := T.int 50 (x := "MOST_VOTERS")
  have g_all_peaks := T.glo 21 (x := "all_peaks")
  obtain ⟨fd_all_peaks, H_all_peaks⟩ := ok_all_peaks (P := P) (w := w) (base := base) T
  have g_are_levels := T.glo 30 (x := "are_levels")
  obtain ⟨fd_are_levels, H_are_levels⟩ := ok_are_levels (P := P) (w := w) (base := base) T
  have g_how_many := T.glo 14 (x := "how_many")
  obtain ⟨fd_how_many, H_how_many⟩ := ok_how_many (P := P) (w := w) (base := base) T
  have g_is_within := T.glo 18 (x := "is_within")
  obtain ⟨fd_is_within, H_is_within⟩ := ok_is_within (P := P) (w := w) (base := base) T
  have g_point_by := T.glo 31 (x := "point_by")
  obtain ⟨fd_point_by, H_point_by⟩ := ok_point_by (P := P) (w := w) (base := base) T
  obtain ⟨fd, F0⟩ := T.c.def_ 32 (d := d_made_by) rfl
  have F : FunD K d_made_by.name d_made_by.qual d_made_by.params d_made_by.body d_made_by.scope [] [] (He.fAd K d_made_by.at_) fd := F0
  have bd : Binds K fd ["voters", "points", "levels"] [] := F.bindsN fun _ _ _ _ _ _ us hl => match us, hl with | [_, _, _], _ => rfl
  have sc := sc_made_by
  refine ⟨fd, F, bd, def_ok (n := 3) (N := ["voters", "points", "levels", "peaks"]) (fb := B_made_by) F sc rfl fun cdv A outer s H E hr hgd => ?_⟩
  have hu := good_u (k := 3) hr
  exact (psd_cons (psd_if (ptd_not (ptd_tru rfl (pd_def rfl (fun _ _ => gP_len) (pe_callG H_is_within.ok (hr.mono (by decide)) hgd rfl g_is_within H_is_within.F.kp H_is_within.b (pad_cons (pd_v (pv 0)) (pad_cons pd_int (pad_cons (pd_c (pe_glob (v := .int 4) rfl m_MOST_VOTERS ⟨_, rfl⟩) fun _ => rp_c.1) pad_nil))))))) (psd_one psd_never) psd_nil)
    (psd_cons (psd_if (ptd_not (ptd_tru rfl (pd_def rfl (fun _ _ => gP_len) (pe_callG H_is_within.ok (hr.mono (by decide)) hgd rfl g_is_within H_is_within.F.kp H_is_within.b (pad_cons (pd_v (pv 1)) (pad_cons (pd_c (pe_glob (v := .int 2) rfl m_LEAST_POINTS ⟨_, rfl⟩) fun _ => rp_c.1) (pad_cons (pd_c (pe_glob (v := .int 6) rfl m_MOST_POINTS ⟨_, rfl⟩) fun _ => rp_c.1) pad_nil))))))) (psd_one psd_never) psd_nil)
    (psd_cons (psd_if (ptb_bin rfl (pt_cmpR (opGt_ok ⟨rfl, hu, hgd⟩) (pd_def rfl (fun _ _ => gP_len) (pe_callG H_how_many.ok (hr.mono (by decide)) hgd rfl g_how_many H_how_many.F.kp H_how_many.b (pad_cons (pd_v (pv 0)) (pad_cons (pd_v (pv 1)) pad_nil)))) (pd_c (pe_glob (v := .int 1300) rfl m_MOST_TUPLES ⟨_, rfl⟩) fun _ => rp_c.1) (by rfl))) (psd_one psd_never) psd_nil)
    (psd_cons (psd_if (ptd_not (ptd_tru rfl (pd_def rfl (fun _ _ => gP_len) (pe_callG H_are_levels.ok (hr.mono (by decide)) hgd rfl g_are_levels H_are_levels.F.kp H_are_levels.b (pad_cons (pd_v (pv 0)) (pad_cons (pd_v (pv 1)) (pad_cons (pd_v (pv 2)) pad_nil))))))) (psd_one psd_never) psd_nil)
    (psd_one (psd_ret (pd_tup (pad_cons (pd_v (pv 0)) (pad_cons (pd_v (pv 1)) (pad_cons (pd_call rfl (pe_callTy bTuple_ok rfl m_tuple PyProof.Rows.boot_tuple (pad_cons (pd_comp (C' := cnN K) (ws := [3]) (own := [3]) rfl (by decide) (by decide) (pe_lc rfl sc.nd (pid_seq rfl (pd_def rfl (fun _ _ => gP_len) (pe_callG H_all_peaks.ok (hr.mono (by decide)) hgd rfl g_all_peaks H_all_peaks.F.kp H_all_peaks.b (pad_cons (pd_v (pv 0)) (pad_cons (pd_v (pv 1)) pad_nil))))) (own := [("peaks", 3)]) (blkOk_by (by kernel_rfl)) (fun _ _ _ _ _ => (pgd_name (pg_name sc.nd rfl (by first | exact Or.inl rfl | exact Or.inr rfl)))) (fun _ _ _ _ _ => ptsd_nil) (fun _ _ _ _ _ => (pd_def rfl (fun _ _ => gP_len) (pe_callG H_point_by.ok (hr.mono (by decide)) hgd rfl g_point_by H_point_by.F.kp H_point_by.b (pad_cons (pd_v (pv 2)) (pad_cons (pd_v (pv 3)) pad_nil))))))) pad_nil))) pad_nil))))))))))
theorem sc_law : FnScope ["script", "hand", "again", "made", "told"] ["script"] (defScope s_law) := ⟨rfl, rfl, rfl, by decide +kernel, rfl, by decide +kernel, by decide +kernel⟩
theorem ok_law (T : Tp fa fn K mg) : ∃ fd, Has P w K mg base d_law ["script"] 8 (spP K 1 G_law) fd := by
  have m_range := T.free 34 (x := "range")
  have g__law_case_right := T.glo 27 (x := "_law_case_right")
  obtain ⟨fd__law_case_right, H__law_case_right⟩ := ok__law_case_right (P := P) (w := w) (base := base) T
  have g__law_hand := T.glo 28 (x := "_law_hand")
  obtain ⟨fd__law_hand, H__law_hand⟩ := ok__law_hand (P := P) (w := w) (base := base) T
  have g__law_is := T.glo 2 (x := "_law_is")
  obtain ⟨fd__law_is, H__law_is⟩ := ok__law_is (P := P) (w := w) (base := base) T
  have g__law_levels := T.glo 11 (x := "_law_levels")
  obtain ⟨fd__law_levels, H__law_levels⟩ := ok__law_levels (P := P) (w := w) (base := base) T
  have g_first_peak_gain := T.glo 25 (x := "first_peak_gain")
  obtain ⟨fd_first_peak_gain, H_first_peak_gain⟩ := ok_first_peak_gain (P := P) (w := w) (base := base) T
  have g_made_by := T.glo 32 (x := "made_by")
  obtain ⟨fd_made_by, H_made_by⟩ := ok_made_by (P := P) (w := w) (base := base) T
  obtain ⟨fd, F0⟩ := T.c.def_ 33 (d := d_law) rfl
  have F : FunD K d_law.name d_law.qual d_law.params d_law.body d_law.scope [] [] (He.fAd K d_law.at_) fd := F0
  have bd : Binds K fd ["script"] [] := F.bindsN fun _ _ _ _ _ _ us hl => match us, hl with | [_], _ => rfl
  have sc := sc_law
  refine ⟨fd, F, bd, def_ok (n := 1) (N := ["script", "hand", "again", "made", "told"]) (fb := B_law) F sc rfl fun cdv A outer s H E hr hgd => ?_⟩
  have hu := good_u (k := 6) hr
  exact (psd_cons (psd_set (by decide) (ps_set sc.nd rfl (by first | exact Or.inl rfl | exact Or.inr rfl) (pd_def rfl (fun _ _ => gP_len) (pe_callG H__law_hand.ok (hr.mono (by decide)) hgd rfl g__law_hand H__law_hand.F.kp H__law_hand.b (pad_cons (pd_v (pv 0)) pad_nil)))))
    (psd_cons (psd_for (by decide) (ps_for PassesOwn.never rfl (pid_r1 (pi_range1 rfl m_range (pa_cons pd_int pa_nil))) (pgd_name (pg_name sc.nd rfl (by first | exact Or.inl rfl | exact Or.inr rfl))) (psd_one (psd_if (ptd_not (ptd_tru rfl (pd_defIO rfl (fun _ _ _ => gIO_len) (pe_callG H__law_case_right.ok (hr.mono (by decide)) hgd rfl g__law_case_right H__law_case_right.F.kp H__law_case_right.b (pa_cons (pv 1) pad_nil))))) (psd_one (psd_ret pd_bool)) psd_nil))))
    (psd_cons (psd_set (by decide) (ps_set sc.nd rfl (by first | exact Or.inl rfl | exact Or.inr rfl) (pd_def rfl (fun _ _ => gP_len) (pe_callG H_made_by.ok (hr.mono (by decide)) hgd rfl g_made_by H_made_by.F.kp H_made_by.b (pad_cons pd_int (pad_cons pd_int (pad_cons (pd_defIO rfl (fun _ _ _ => gIO_len) (pe_callG H__law_levels.ok (hr.mono (by decide)) hgd rfl g__law_levels H__law_levels.F.kp H__law_levels.b (pa_cons (pv 1) (pad_cons pd_int (pad_cons pd_int pad_nil))))) pad_nil)))))))
    (psd_cons (psd_set (by decide) (ps_set sc.nd rfl (by first | exact Or.inl rfl | exact Or.inr rfl) (pd_lst (pad_cons (pd_def rfl (fun _ _ => gP_len) (pe_callG H_first_peak_gain.ok (hr.mono (by decide)) hgd rfl g_first_peak_gain H_first_peak_gain.F.kp H_first_peak_gain.b (pad_cons (pd_tup (pad_cons pd_int (pad_cons pd_int (pad_cons (pd_tup (pad_cons pd_int (pad_cons pd_int pad_nil))) pad_nil)))) pad_nil))) (pad_cons (pd_def rfl (fun _ _ => gP_len) (pe_callG H_first_peak_gain.ok (hr.mono (by decide)) hgd rfl g_first_peak_gain H_first_peak_gain.F.kp H_first_peak_gain.b (pad_cons (pd_tup (pad_cons pd_int (pad_cons pd_int (pad_cons (pd_tup (pad_cons pd_int (pad_cons pd_int (pad_cons pd_int pad_nil)))) pad_nil)))) pad_nil))) (pad_cons (pd_def rfl (fun _ _ => gP_len) (pe_callG H_first_peak_gain.ok (hr.mono (by decide)) hgd rfl g_first_peak_gain H_first_peak_gain.F.kp H_first_peak_gain.b (pad_cons (pd_v (pv 3)) pad_nil))) pad_nil))))))
    (psd_one (psd_ret (pd_def rfl (fun _ _ => gP_len) (pe_callG H__law_is.ok (hr.mono (by decide)) hgd rfl g__law_is H__law_is.F.kp H__law_is.b (pad_cons (pd_v (pv 4)) (pad_cons (pd_lst (pad_cons (pd_tup (pad_cons (pd_tup (pad_cons pd_int pad_nil)) (pad_cons pd_int (pad_cons pd_int pad_nil)))) (pad_cons (pd_tup (pad_cons (pd_tup (pad_cons pd_int pad_nil)) (pad_cons pd_int (pad_cons pd_int pad_nil)))) (pad_cons pd_none pad_nil)))) pad_nil))))))))))
end
end K12
set_option Elab.async false
set_option linter.all false
set_option maxRecDepth 100000
set_option maxHeartbeats 0
namespace K12
open PySem PySem.W PySem.Calls PyProof.Rows L2 Pv
abbrev R : PySem.W.OpenRow := PySem.W.OpenLaw.row PySem.Challenge.rw_slipfree_k12_whole_gains_of_voters_with
def names0 : List PySem.Str := ["CauseError", "NoMany", "NoNumber", "TooMany", "NoLevels", "NoPeakRule", "NoPeaks", "is_integer", "is_within", "is_triple", "is_table", "MOST_VOTERS", "LEAST_POINTS", "MOST_POINTS", "MOST_TUPLES", "all_peaks", "how_many", "is_peak_rule", "check_rule", "told_by", "settles", "may_like", "gain_in", "first_peak_gain"]
def names1 : List PySem.Str := ["in_lot", "point_by", "are_levels", "made_by", "_law_hand", "_law_draw", "_law_is", "_law_is_int", "_law_tuples", "_law_lots", "_law_are_levels", "_law_levels", "_law_number", "_law_point", "_law_made", "_law_gain", "_law_own_levels", "_law_rule", "_law_turned", "_law_case_right"]
def names : List PySem.Str := names0 ++ names1
abbrev hk : PySem.W.Hook := He.hookD 4 fa fn
def ob (s : PySem.W.SharedT) : He.AlD := He.obsDG 4 fa fn (HandSHeadRun.getT s)
theorem ob_eq (s : PySem.W.SharedT) : ob s = hk.obs s.abs := He.obsDG_eq (HandSHeadRun.getT_eq s)
theorem run (w : World) : HandSHeadRun.RunEq R (PySem.W.view R.prog [48]) hk ob 4000 names w := by
  intro os
  kernel_rfl
end K12
open PySem PySem.W PySem.Calls PyProof.Rows
set_option maxRecDepth 100000 in
set_option maxHeartbeats 0 in
theorem PySem.Challenge.cw_slipfree_k12_whole_gains_of_voters_with_holds : PySem.Challenge.rw_slipfree_k12_whole_gains_of_voters_with.Holds := by
  w_on; o_law
  refine HandSHeadRun.head_any (r := OpenLaw.row PySem.Challenge.rw_slipfree_k12_whole_gains_of_voters_with) (q := view (OpenLaw.row PySem.Challenge.rw_slipfree_k12_whole_gains_of_voters_with).prog [48]) (H := K12.hk) (ob := K12.ob) (M := 4000) (loose := K12.names) (d := HandSHeadRun.topDef (OpenLaw.row PySem.Challenge.rw_slipfree_k12_whole_gains_of_voters_with).prog 48) (kwd := []) K12.ob_eq
    (by kernel_rfl) (fun s => by kernel_rfl) K12.run (by kernel_rfl) (by kernel_rfl) (by kernel_rfl) (by rfl) (by first | assumption | decide +kernel) (by decide +kernel) ⟨rfl, rfl, rfl, rfl, rfl, by decide +kernel⟩ ?hw ?hc
  case hw => w_witness2
  case hc =>
    refine Pv.walk_ofG (l := PySem.Challenge.rw_slipfree_k12_whole_gains_of_voters_with) (n := 63) (k := 8) (x := "script") rfl (by decide) (by kernel_rfl) ⟨rfl, by decide, by decide⟩ ?F
    intro w mg fa h Y G hmg0
    obtain ⟨K, KX, c⟩ := Y
    have T : Pv.Tp K12.fa K12.fn K mg := ⟨⟨h, KX, G⟩, c⟩
    have hmg : mg ("law" : PySem.Str) = some (.ref fa) := by
      have e : (HandSHeadRun.topDef (OpenLaw.row PySem.Challenge.rw_slipfree_k12_whole_gains_of_voters_with).prog 48).name = ("law" : PySem.Str) := by kernel_rfl
      rw [← e]
      exact hmg0
    have e := hmg.symm.trans (T.glo 33 (x := "law"))
    cases e
    obtain ⟨fd, F0⟩ := c.def_ 33 (d := K12.d_law) rfl
    refine ⟨K, fd, Pv.spP K 1 K12.G_law, KX, fun s v => L2.FunD.bindsA (ps := ["script"]) (x := K12.d_law.name) (qual := K12.d_law.qual) (params := K12.d_law.params) (body := K12.d_law.body) (scope := K12.d_law.scope) (kws := []) F0 (fun _ _ _ _ _ _ us hl => match us, hl with | [_], _ => rfl) s [v] rfl, fun H a ns hl _ hS => Pv.law_sp K12.law_plain hl hS, fun base KX' G' => ?_⟩
    have T' : Pv.Tp K12.fa K12.fn K mg := ⟨⟨base, KX', G'⟩, c⟩
    obtain ⟨fd', hh⟩ := K12.ok_law (P := (PySem.Challenge.rw_slipfree_k12_whole_gains_of_voters_with).prog) (w := w) (base := base) T'
    rw [Pv.fd_inj F0 hh.F]
    exact hh.ok
