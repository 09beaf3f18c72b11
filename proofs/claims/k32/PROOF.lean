import PyProof.Rows.All
import Wide.All
import OpenK.AllK
import Wide.FinOn
import HandS.ForMost
import HandS.Walk
import HandS.Conv
import HandS.More
import HandS.Deep
import HandS.TupAny
import HandS.IsInst
import HandS.Zip
import HandS.Rev
import HandS.Flow
import HandS.Style
import HandS.TupMul
import HandS.WideBits
import HandS.TryOnly
import HandS.ExcOwn
import HandS.WordsExc
import KE.KeyNested
import KE.GoesMore
import KE.GoesEnum
import HandS.Ends
import PyProof.ReprRoads
import HandS.RaiseMore
import PyProof.ReprBulk
import PyProof.FitsInt
import KE.GoesZip
import KE.GoesNew
import HandS.Star
import HandS.TupLen
import HandS.DictComp
import HandS.Sort
import HandS.SortInts
import PyProof.MinMaxWalk
import PyProof.Rows.SumAny
import PyProof.EqKinds
import PyProof.FactsAll.dict_1
import PyProof.Rows.IntBool
import PyProof.CallFns
import OpenK.KTop
import KE.LcSums
import KE.KDictDisplayH
import HandS.SetFor
import HandS.TupSets
import HandS.TryMany
import HandS.ExcIs
import HandS.ExcField
import KE.KExcIs
import KE.KExcSuper
import HandS.ExcInit
import PySem.Challenge.RW_carryladder_k32_whole_tables_of_programs
set_option Elab.async false
set_option linter.all false
set_option maxRecDepth 100000
set_option maxHeartbeats 4000000
namespace DL
open PySem PySem.Spec PyProof.Rows L2
/-- how a value is held: shared (nobody here changes it), owned (ours to change), fixed (owned, lent by the caller), alias (of something owned; good for this moment) -/
inductive Kd where | shr | own | fix | als
  deriving DecidableEq
structure R where
  k : Kd
  d : PyData
abbrev DEnv := List (Option R)
mutual
def pur : PyData → Bool
  | .none => true
  | .bool _ => true
  | .int _ => true
  | .str _ => true
  | .list _ => false
  | .dict _ => false
  | .tuple xs => purs xs
def purs : List PyData → Bool
  | [] => true
  | x :: xs => pur x && purs xs
end
mutual
def nodct : PyData → Bool
  | .none => true
  | .bool _ => true
  | .int _ => true
  | .str _ => true
  | .list xs => nodcts xs
  | .dict _ => false
  | .tuple xs => nodcts xs
def nodcts : List PyData → Bool
  | [] => true
  | x :: xs => nodct x && nodcts xs
end
def keyD : Key → PyData
  | .inl i => .int i
  | .inr x => .str x
def keyT (k : List Key) : PyData := .tuple (k.map keyD)
mutual
def nk : PyData → Option NestedKey
  | .none => some .none
  | .int i => some (.num i)
  | .tuple ds => match nks ds with
    | some ks => some (.tup ks)
    | none => none
  | _ => none
def nks : List PyData → Option (List NestedKey)
  | [] => some []
  | d :: ds => match nk d, nks ds with
    | some k, some ks => some (k :: ks)
    | _, _ => none
end
mutual
/-- hash of a key without texts: the same in every world -/
def hN : NestedKey → Int
  | .none => reduceHash 0xFCA86420
  | .num i => hashInt i
  | .text _ => 0
  | .tup ks => reduceHash (Builtin.Tuple.tupleHashOf (hNs ks))
def hNs : List NestedKey → List Int
  | [] => []
  | k :: ks => hN k :: hNs ks
end
mutual
def textless : NestedKey → Bool
  | .text _ => false
  | .tup ks => textlesses ks
  | _ => true
def textlesses : List NestedKey → Bool
  | [] => true
  | k :: ks => textless k && textlesses ks
end
mutual
theorem hN_eq (w : World) : ∀ k : NestedKey, textless k = true → k.hash w = hN k
  | .none, _ => rfl
  | .num _, _ => rfl
  | .text _, h => by simp [textless] at h
  | .tup ks, h => by
    rw [NestedKey.hash, hN, hNs_eq w ks (by simpa [textless] using h)]
theorem hNs_eq (w : World) : ∀ ks : List NestedKey, textlesses ks = true → NestedKey.hashes w ks = hNs ks
  | [], _ => rfl
  | k :: ks, h => by
    simp only [textlesses, Bool.and_eq_true] at h
    rw [NestedKey.hashes, hNs, hN_eq w k h.1, hNs_eq w ks h.2]
end
mutual
theorem nk_textless : ∀ (d : PyData) (k : NestedKey), nk d = some k → textless k = true
  | .none, _, h => by simp only [nk, Option.some.injEq] at h; subst h; rfl
  | .int _, _, h => by simp only [nk, Option.some.injEq] at h; subst h; rfl
  | .tuple ds, k, h => by
    unfold nk at h
    split at h
    · rename_i ks e
      simp only [Option.some.injEq] at h
      subst h
      simpa [textless] using nks_textless ds ks e
    · cases h
  | .bool _, _, h => by simp [nk] at h
  | .str _, _, h => by simp [nk] at h
  | .list _, _, h => by simp [nk] at h
  | .dict _, _, h => by simp [nk] at h
theorem nks_textless : ∀ (ds : List PyData) (ks : List NestedKey), nks ds = some ks → textlesses ks = true
  | [], _, h => by simp only [nks, Option.some.injEq] at h; subst h; rfl
  | d :: ds, ks, h => by
    unfold nks at h
    split at h
    · rename_i k ks' e1 e2
      simp only [Option.some.injEq] at h
      subst h
      simp only [textlesses, Bool.and_eq_true]
      exact ⟨nk_textless d k e1, nks_textless ds ks' e2⟩
    · cases h
end
mutual
/-- the value stands for the key -/
inductive KeyV (K : PySem.W.Frag) (H : Hp) : V → NestedKey → Prop
  | non : KeyV K H .non .none
  | num (i : Int) : KeyV K H (.int i) (.num i)
  | tup {a : Addr} {xs : List V} {ks : List NestedKey} : SqT K H a xs → KeyAll K H xs ks → KeyV K H (.ref a) (.tup ks)
inductive KeyAll (K : PySem.W.Frag) (H : Hp) : List V → List NestedKey → Prop
  | nil : KeyAll K H [] []
  | cons {v : V} {vs : List V} {k : NestedKey} {ks : List NestedKey} : KeyV K H v k → KeyAll K H vs ks → KeyAll K H (v :: vs) (k :: ks)
end
/-- the dict's object: its entries by keys, addresses of the keys, values -/
def DictN (a : Addr) (es : List (NestedKey × Addr × V)) : Heap → Prop := fun h => es.length ≤ sizeLine ∧ (a == sysModules) = false ∧ ∃ xs : List (NestedKey × Addr × Value), Paired (fun (p : NestedKey × Addr × V) (q : NestedKey × Addr × Value) => p.1 = q.1 ∧ p.2.1 = q.2.1 ∧ RelV p.2.2 q.2.2) es xs ∧
  ∃ o arr ep, h.get? a = some o ∧ o.ExactDict ∧ o.data = .dict arr ep ∧ arr.toList = xs.map (fun x => (⟨hN x.1, .ref x.2.1, x.2.2⟩ : DictEntry)) ∧ (xs.map (·.1)).Nodup
def KeysN (K : PySem.W.Frag) (H : Hp) (es : List (NestedKey × Addr × V)) (kvs : List (PyData × PyData)) : Prop :=
  nks (kvs.map (·.1)) = some (es.map (·.1)) ∧ (∀ e ∈ es, KeyV K H (.ref e.2.1) e.1 ∧ e.1.depth ≤ 8) ∧ kvs ≠ []
/-- a list of the written part -/
def SqLK (K : PySem.W.Frag) (a : Addr) (xs : List V) : Prop :=
  ∃ (o : Obj) (its : Array Value) (n : Nat), K.lookup a = some o ∧ o.cls = .type "list" ∧ o.dict = none ∧ o.data = .seq its n ∧ its.size ≤ sizeLine ∧ Vals xs its.toList
mutual
/-- v stands for the data d in H; G: the addresses of its lists and dicts; m: they may be changed -/
inductive Rp (K : PySem.W.Frag) (m : Bool) (H : Hp) : V → PyData → List Addr → Prop
  | non : Rp K m H .non .none []
  | bl (b : Bool) : Rp K m H (.bl b) (.bool b) []
  | int (i : Int) : Rp K m H (.int i) (.int i) []
  | str (x : Str) : Rp K m H (.str x) (.str x) []
  | lst {a : Addr} {xs : List V} {ds : List PyData} {G : List Addr} : (m = true → H a = some (.lst xs)) → Rd H a (.lst xs) → RpAll K m H xs ds G → Rp K m H (.ref a) (.list ds) (a :: G)
  | lstK {a : Addr} {xs : List V} {ds : List PyData} {G : List Addr} : m = false → SqLK K a xs → RpAll K m H xs ds G → Rp K m H (.ref a) (.list ds) G
  | tup {a : Addr} {xs : List V} {ds : List PyData} {G : List Addr} : SqT K H a xs → RpAll K m H xs ds G → Rp K m H (.ref a) (.tuple ds) G
  | dK {a : Addr} {ks : List (Key × V)} {kvs : List (PyData × PyData)} {G : List Addr} : H a = some (.dK ks) → kvs.map (·.1) = ks.map (fun p => keyD p.1) → RpAll K m H (ks.map (·.2)) (kvs.map (·.2)) G → Rp K m H (.ref a) (.dict kvs) (a :: G)
  | dN {a : Addr} {es : List (NestedKey × Addr × V)} {kvs : List (PyData × PyData)} {G : List Addr} : H a = some (.ext (DictN a es)) → KeysN K H es kvs → RpAll K m H (es.map (·.2.2)) (kvs.map (·.2)) G → Rp K m H (.ref a) (.dict kvs) (a :: G)
inductive RpAll (K : PySem.W.Frag) (m : Bool) (H : Hp) : List V → List PyData → List Addr → Prop
  | nil : RpAll K m H [] [] []
  | cons {v : V} {vs : List V} {d : PyData} {ds : List PyData} {G1 G2 : List Addr} : Rp K m H v d G1 → RpAll K m H vs ds G2 → RpAll K m H (v :: vs) (d :: ds) (G1 ++ G2)
end
def Kpt (H H' : Hp) (G : List Addr) : Prop := ∀ a ∈ G, ∀ o, H a = some o → H' a = some o
def Tu (H H' : Hp) : Prop := ∀ a xs, Rd H a (.tup xs) → Rd H' a (.tup xs)
def Ext (H H' : Hp) : Prop := ∀ a o, H a = some o → H' a = some o
theorem Ext.rd {H H' : Hp} (e : Ext H H') {a : Addr} {u : HO} (r : Rd H a u) : Rd H' a u := by
  rcases r with r | ⟨o, r⟩
  · exact .inl (e _ _ r)
  · exact .inr ⟨o, e _ _ r⟩
theorem Ext.tu {H H' : Hp} (e : Ext H H') : Tu H H' := fun _ _ r => e.rd r
theorem Ext.kp {H H' : Hp} (e : Ext H H') (G : List Addr) : Kpt H H' G := fun a _ o h => e a o h
theorem Ext.refl {H : Hp} : Ext H H := fun _ _ h => h
theorem Ext.trans {H H1 H2 : Hp} (a : Ext H H1) (b : Ext H1 H2) : Ext H H2 := fun c o h => b c o (a c o h)
theorem Ext.upd {H : Hp} {a : Addr} {o : HO} (n : H a = none) : Ext H (upd H a o) := fun b u h => by
  rw [upd_ne (ne_of_none h n)]
  exact h
theorem rd_keep {H H' : Hp} {a : Addr} {u : HO} (h : Rd H a u) (k : ∀ o, H a = some o → H' a = some o) : Rd H' a u := by
  rcases h with h | ⟨o, h⟩
  · exact .inl (k _ h)
  · exact .inr ⟨o, k _ h⟩
theorem rd_ne {H : Hp} {a : Addr} {u : HO} (h : Rd H a u) : H a ≠ none := by
  rcases h with h | ⟨o, h⟩ <;> rw [h] <;> simp
theorem sqt_keep {K : PySem.W.Frag} {H H' : Hp} {a : Addr} {xs : List V} (h : SqT K H a xs) (k : Tu H H') : SqT K H' a xs := by
  rcases h with h | h
  · exact .inl (k _ _ h)
  · exact .inr h
mutual
theorem KeyV.keep {K : PySem.W.Frag} {H H' : Hp} (tu : Tu H H') : ∀ (k : NestedKey) (v : V), KeyV K H v k → KeyV K H' v k
  | .none, _, h => by cases h; exact .non
  | .num _, _, h => by cases h; exact .num _
  | .text _, _, h => by cases h
  | .tup ks, _, h => by
    cases h with
    | tup h1 h2 => exact .tup (sqt_keep h1 tu) (KeyAll.keep tu ks _ h2)
theorem KeyAll.keep {K : PySem.W.Frag} {H H' : Hp} (tu : Tu H H') : ∀ (ks : List NestedKey) (vs : List V), KeyAll K H vs ks → KeyAll K H' vs ks
  | [], _, h => by cases h; exact .nil
  | k :: ks, _, h => by
    cases h with
    | cons h1 h2 => exact .cons (KeyV.keep tu k _ h1) (KeyAll.keep tu ks _ h2)
end
theorem KeysN.keep {K : PySem.W.Frag} {H H' : Hp} (tu : Tu H H') {es : List (NestedKey × Addr × V)} {kvs : List (PyData × PyData)} (h : KeysN K H es kvs) : KeysN K H' es kvs :=
  ⟨h.1, fun e he => ⟨KeyV.keep tu _ _ (h.2.1 e he).1, (h.2.1 e he).2⟩, h.2.2⟩
section
variable {K : PySem.W.Frag} {m : Bool} {H H' : Hp}
mutual
theorem Rp.keep (tu : Tu H H') : ∀ (d : PyData) (v : V) (G : List Addr), Rp K m H v d G → Kpt H H' G → Rp K m H' v d G
  | .none, _, _, h, _ => by
    cases h
    exact .non
  | .bool _, _, _, h, _ => by
    cases h
    exact .bl _
  | .int _, _, _, h, _ => by
    cases h
    exact .int _
  | .str _, _, _, h, _ => by
    cases h
    exact .str _
  | .list ds, _, _, h, k => by
    cases h with
    | lst hm hs ha => exact .lst (fun e => k _ (.head _) _ (hm e)) (rd_keep hs fun o e => k _ (.head _) o e) (RpAll.keep tu ds _ _ ha fun a i => k a (.tail _ i))
    | lstK hm hs ha => exact .lstK hm hs (RpAll.keep tu ds _ _ ha k)
  | .tuple ds, _, _, h, k => by
    cases h with
    | tup hs ha => exact .tup (sqt_keep hs tu) (RpAll.keep tu ds _ _ ha k)
  | .dict kvs, _, _, h, k => by
    cases h with
    | dK h1 h2 h3 => exact .dK (k _ (.head _) _ h1) h2 (RpAll.keepV tu kvs _ _ h3 fun a i => k a (.tail _ i))
    | dN h1 h2 h3 => exact .dN (k _ (.head _) _ h1) (h2.keep tu) (RpAll.keepV tu kvs _ _ h3 fun a i => k a (.tail _ i))
theorem RpAll.keep (tu : Tu H H') : ∀ (ds : List PyData) (vs : List V) (G : List Addr), RpAll K m H vs ds G → Kpt H H' G → RpAll K m H' vs ds G
  | [], _, _, h, _ => by
    cases h
    exact .nil
  | d :: ds, _, _, h, k => by
    cases h with
    | cons h1 h2 => exact .cons (Rp.keep tu d _ _ h1 fun a i => k a (List.mem_append_left _ i)) (RpAll.keep tu ds _ _ h2 fun a i => k a (List.mem_append_right _ i))
theorem RpAll.keepV (tu : Tu H H') : ∀ (kvs : List (PyData × PyData)) (vs : List V) (G : List Addr), RpAll K m H vs (kvs.map (·.2)) G → Kpt H H' G → RpAll K m H' vs (kvs.map (·.2)) G
  | [], _, _, h, _ => by
    cases h
    exact .nil
  | (_, d) :: ds, _, _, h, k => by
    cases h with
    | cons h1 h2 => exact .cons (Rp.keep tu d _ _ h1 fun a i => k a (List.mem_append_left _ i)) (RpAll.keepV tu ds _ _ h2 fun a i => k a (List.mem_append_right _ i))
end
mutual
theorem Rp.weak : ∀ (d : PyData) (v : V) (G : List Addr), Rp K m H v d G → Rp K false H v d G
  | .none, _, _, h => by
    cases h
    exact .non
  | .bool _, _, _, h => by
    cases h
    exact .bl _
  | .int _, _, _, h => by
    cases h
    exact .int _
  | .str _, _, _, h => by
    cases h
    exact .str _
  | .list ds, _, _, h => by
    cases h with
    | lst hm hs ha => exact .lst (fun e => nomatch e) hs (RpAll.weak ds _ _ ha)
    | lstK hm hs ha => exact .lstK rfl hs (RpAll.weak ds _ _ ha)
  | .tuple ds, _, _, h => by
    cases h with
    | tup hs ha => exact .tup hs (RpAll.weak ds _ _ ha)
  | .dict kvs, _, _, h => by
    cases h with
    | dK h1 h2 h3 => exact .dK h1 h2 (RpAll.weakV kvs _ _ h3)
    | dN h1 h2 h3 => exact .dN h1 h2 (RpAll.weakV kvs _ _ h3)
theorem RpAll.weak : ∀ (ds : List PyData) (vs : List V) (G : List Addr), RpAll K m H vs ds G → RpAll K false H vs ds G
  | [], _, _, h => by
    cases h
    exact .nil
  | d :: ds, _, _, h => by
    cases h with
    | cons h1 h2 => exact .cons (Rp.weak d _ _ h1) (RpAll.weak ds _ _ h2)
theorem RpAll.weakV : ∀ (kvs : List (PyData × PyData)) (vs : List V) (G : List Addr), RpAll K m H vs (kvs.map (·.2)) G → RpAll K false H vs (kvs.map (·.2)) G
  | [], _, _, h => by
    cases h
    exact .nil
  | (_, d) :: ds, _, _, h => by
    cases h with
    | cons h1 h2 => exact .cons (Rp.weak d _ _ h1) (RpAll.weakV ds _ _ h2)
end
mutual
/-- data without lists and dicts: no footprint, and it may be read as anything -/
theorem Rp.pure' {m' : Bool} : ∀ (d : PyData) (v : V) (G : List Addr), Rp K m H v d G → pur d = true → G = [] ∧ Rp K m' H v d []
  | .none, _, _, h, _ => by
    cases h
    exact ⟨rfl, .non⟩
  | .bool _, _, _, h, _ => by
    cases h
    exact ⟨rfl, .bl _⟩
  | .int _, _, _, h, _ => by
    cases h
    exact ⟨rfl, .int _⟩
  | .str _, _, _, h, _ => by
    cases h
    exact ⟨rfl, .str _⟩
  | .list ds, _, _, _, e => by simp [pur] at e
  | .tuple ds, _, _, h, e => by
    cases h with
    | tup hs ha =>
      obtain ⟨e1, q⟩ := RpAll.pure' (m' := m') ds _ _ ha (by simpa [pur] using e)
      exact ⟨e1, .tup hs q⟩
  | .dict _, _, _, _, e => by simp [pur] at e
theorem RpAll.pure' {m' : Bool} : ∀ (ds : List PyData) (vs : List V) (G : List Addr), RpAll K m H vs ds G → purs ds = true → G = [] ∧ RpAll K m' H vs ds []
  | [], _, _, h, _ => by
    cases h
    exact ⟨rfl, .nil⟩
  | d :: ds, _, _, h, e => by
    cases h with
    | cons h1 h2 =>
      simp only [purs, Bool.and_eq_true] at e
      obtain ⟨e1, q1⟩ := Rp.pure' (m' := m') d _ _ h1 e.1
      obtain ⟨e2, q2⟩ := RpAll.pure' (m' := m') ds _ _ h2 e.2
      exact ⟨by rw [e1, e2]; rfl, .cons q1 q2⟩
end
mutual
/-- the footprint's cells stand -/
theorem Rp.live : ∀ (d : PyData) (v : V) (G : List Addr), Rp K m H v d G → ∀ a ∈ G, H a ≠ none
  | .none, _, _, h => by
    cases h
    intro a z
    cases z
  | .bool _, _, _, h => by
    cases h
    intro a z
    cases z
  | .int _, _, _, h => by
    cases h
    intro a z
    cases z
  | .str _, _, _, h => by
    cases h
    intro a z
    cases z
  | .list ds, _, _, h => by
    cases h with
    | lst hm hs ha =>
      intro a z
      rcases List.mem_cons.mp z with rfl | z
      · exact rd_ne hs
      · exact RpAll.live ds _ _ ha a z
    | lstK hm hs ha => exact RpAll.live ds _ _ ha
  | .tuple ds, _, _, h => by
    cases h with
    | tup hs ha => exact RpAll.live ds _ _ ha
  | .dict kvs, _, _, h => by
    cases h with
    | dK h1 h2 h3 =>
      intro a z
      rcases List.mem_cons.mp z with rfl | z
      · rw [h1]; simp
      · exact RpAll.liveV kvs _ _ h3 a z
    | dN h1 h2 h3 =>
      intro a z
      rcases List.mem_cons.mp z with rfl | z
      · rw [h1]; simp
      · exact RpAll.liveV kvs _ _ h3 a z
theorem RpAll.live : ∀ (ds : List PyData) (vs : List V) (G : List Addr), RpAll K m H vs ds G → ∀ a ∈ G, H a ≠ none
  | [], _, _, h => by
    cases h
    intro a z
    cases z
  | d :: ds, _, _, h => by
    cases h with
    | cons h1 h2 =>
      intro a z
      rcases List.mem_append.mp z with z | z
      · exact Rp.live d _ _ h1 a z
      · exact RpAll.live ds _ _ h2 a z
theorem RpAll.liveV : ∀ (kvs : List (PyData × PyData)) (vs : List V) (G : List Addr), RpAll K m H vs (kvs.map (·.2)) G → ∀ a ∈ G, H a ≠ none
  | [], _, _, h => by
    cases h
    intro a z
    cases z
  | (_, d) :: ds, _, _, h => by
    cases h with
    | cons h1 h2 =>
      intro a z
      rcases List.mem_append.mp z with z | z
      · exact Rp.live d _ _ h1 a z
      · exact RpAll.liveV ds _ _ h2 a z
end
mutual
theorem Rp.dp : ∀ (d : PyData) (v : V) (G : List Addr), Rp K m H v d G → nodct d = true → Dp K H v d
  | .none, _, _, h, _ => by
    cases h
    exact .non
  | .bool _, _, _, h, _ => by
    cases h
    exact .bl _
  | .int _, _, _, h, _ => by
    cases h
    exact .int _
  | .str _, _, _, h, _ => by
    cases h
    exact .str _
  | .list ds, _, _, h, e => by
    cases h with
    | lst hm hs ha => exact .lst (.inl hs) (RpAll.dp ds _ _ ha (by simpa [nodct] using e))
    | lstK hm hs ha => exact .lst (.inr hs) (RpAll.dp ds _ _ ha (by simpa [nodct] using e))
  | .tuple ds, _, _, h, e => by
    cases h with
    | tup hs ha => exact .tup hs (RpAll.dp ds _ _ ha (by simpa [nodct] using e))
  | .dict _, _, _, _, e => by simp [nodct] at e
theorem RpAll.dp : ∀ (ds : List PyData) (vs : List V) (G : List Addr), RpAll K m H vs ds G → nodcts ds = true → DpAll K H vs ds
  | [], _, _, h, _ => by
    cases h
    exact .nil
  | d :: ds, _, _, h, e => by
    cases h with
    | cons h1 h2 =>
      simp only [nodcts, Bool.and_eq_true] at e
      exact .cons (Rp.dp d _ _ h1 e.1) (RpAll.dp ds _ _ h2 e.2)
end
theorem Rp.sql {v : V} {ds : List PyData} {G : List Addr} (h : Rp K m H v (.list ds) G) : ∃ a xs G', v = .ref a ∧ SqL K H a xs ∧ RpAll K m H xs ds G' ∧ ∀ b ∈ G', b ∈ G := by
  cases h with
  | lst hm hs ha => exact ⟨_, _, _, rfl, .inl hs, ha, fun b i => .tail _ i⟩
  | lstK hm hs ha => exact ⟨_, _, _, rfl, .inr hs, ha, fun b i => i⟩
theorem Rp.sqt {v : V} {ds : List PyData} {G : List Addr} (h : Rp K m H v (.tuple ds) G) : ∃ a xs, v = .ref a ∧ SqT K H a xs ∧ RpAll K m H xs ds G := by
  cases h with
  | tup hs ha => exact ⟨_, _, rfl, hs, ha⟩
theorem Rp.own' {v : V} {ds : List PyData} {G : List Addr} (h : Rp K true H v (.list ds) G) : ∃ a xs G', v = .ref a ∧ H a = some (.lst xs) ∧ RpAll K true H xs ds G' ∧ G = a :: G' := by
  cases h with
  | lst hm hs ha => exact ⟨_, _, _, rfl, hm rfl, ha, rfl⟩
  | lstK hm hs ha => cases hm
theorem RpAll.length : ∀ {vs : List V} {ds : List PyData} {G : List Addr}, RpAll K m H vs ds G → vs.length = ds.length
  | _, _, _, .nil => rfl
  | _, _, _, .cons _ t => by simp [RpAll.length t]
theorem RpAll.get : ∀ {vs : List V} {ds : List PyData} {G : List Addr} {i : Nat} {d : PyData}, RpAll K m H vs ds G → ds[i]? = some d → ∃ v G1, vs[i]? = some v ∧ Rp K m H v d G1 ∧ ∀ a ∈ G1, a ∈ G
  | _, _, _, _, _, .nil, e => by simp at e
  | _, _, _, 0, _, .cons r _, e => by
    simp at e; subst e
    exact ⟨_, _, rfl, r, fun a h => List.mem_append_left _ h⟩
  | _, _, _, i + 1, d, .cons _ t, e => by
    obtain ⟨v, G1, h1, h2, h3⟩ := RpAll.get (i := i) (d := d) t (by simpa using e)
    exact ⟨v, G1, by simpa using h1, h2, fun a h => List.mem_append_right _ (h3 a h)⟩
theorem RpAll.append : ∀ {xs ys : List V} {ds es : List PyData} {F G : List Addr}, RpAll K m H xs ds F → RpAll K m H ys es G → RpAll K m H (xs ++ ys) (ds ++ es) (F ++ G)
  | _, _, _, _, _, _, .nil, s => s
  | _, _, _, _, _, _, .cons r t, s => by
    rw [List.append_assoc]
    exact .cons r (RpAll.append t s)
theorem RpAll.take : ∀ (n : Nat) {vs : List V} {ds : List PyData} {G : List Addr}, RpAll K m H vs ds G → ∃ G1, RpAll K m H (vs.take n) (ds.take n) G1 ∧ G1.Sublist G
  | 0, _, _, _, _ => ⟨[], .nil, List.nil_sublist _⟩
  | _ + 1, _, _, _, .nil => ⟨[], .nil, List.nil_sublist _⟩
  | n + 1, _, _, _, .cons r t => by
    obtain ⟨G1, h, s⟩ := RpAll.take n t
    exact ⟨_, .cons r h, (List.Sublist.refl _).append s⟩
theorem RpAll.drop : ∀ (n : Nat) {vs : List V} {ds : List PyData} {G : List Addr}, RpAll K m H vs ds G → ∃ G1, RpAll K m H (vs.drop n) (ds.drop n) G1 ∧ G1.Sublist G
  | 0, _, _, _, h => ⟨_, h, List.Sublist.refl _⟩
  | _ + 1, _, _, _, .nil => ⟨[], .nil, List.nil_sublist _⟩
  | n + 1, _, _, _, .cons r t => by
    obtain ⟨G1, h, s⟩ := RpAll.drop n t
    exact ⟨G1, h, s.trans (List.sublist_append_right _ _)⟩
theorem RpAll.ints : ∀ (ns : List Int) {vs : List V} {G : List Addr}, RpAll K m H vs (ns.map PyData.int) G → vs = ns.map V.int
  | [], _, _, h => by
    cases h
    rfl
  | n :: ns, _, _, h => by
    cases h with
    | cons h1 h2 =>
      cases h1
      rw [RpAll.ints ns h2]
      rfl
theorem RpAll.ints' : ∀ (ns : List Int), RpAll K m H (ns.map V.int) (ns.map PyData.int) []
  | [] => .nil
  | n :: ns => .cons (.int n) (RpAll.ints' ns)
theorem RpAll.strs : ∀ (ns : List Str) {vs : List V} {G : List Addr}, RpAll K m H vs (ns.map PyData.str) G → vs = ns.map V.str
  | [], _, _, h => by
    cases h
    rfl
  | n :: ns, _, _, h => by
    cases h with
    | cons h1 h2 =>
      cases h1
      rw [RpAll.strs ns h2]
      rfl
theorem RpAll.strs' : ∀ (ns : List Str), RpAll K m H (ns.map V.str) (ns.map PyData.str) []
  | [] => .nil
  | n :: ns => .cons (.str n) (RpAll.strs' ns)
theorem purs_get : ∀ {ds : List PyData} {i : Nat} {d : PyData}, purs ds = true → ds[i]? = some d → pur d = true
  | [], _, _, _, e => by simp at e
  | x :: xs, 0, d, h, e => by
    simp only [purs, Bool.and_eq_true] at h
    simp at e; subst e; exact h.1
  | x :: xs, i + 1, d, h, e => by
    simp only [purs, Bool.and_eq_true] at h
    exact purs_get h.2 (by simpa using e)
theorem purs_iff {ds : List PyData} : purs ds = true ↔ ∀ d ∈ ds, pur d = true := by
  induction ds with
  | nil => simp [purs]
  | cons x xs ih => simp [purs, ih]
end
end DL
namespace DL
open PySem PySem.Spec PyProof.Rows L2
def Own (F : Nat → List Addr) (a : Addr) : Prop := ∃ i, a ∈ F i
/-- slots are below; what stands beyond belongs to callers and stays -/
def big : Nat := 1000000
/-- only what is owned has changed; what is owned now was owned or is new -/
structure Step (F : Nat → List Addr) (H : Hp) (F' : Nat → List Addr) (H' : Hp) : Prop where
  keep : ∀ a o, H a = some o → ¬ Own F a → H' a = some o
  own : ∀ a, Own F' a → Own F a ∨ H a = none
  tups : Tu H H'
  per : ∀ i, big ≤ i → F' i = F i
  pk : ∀ i, big ≤ i → ∀ a ∈ F i, ∀ o, H a = some o → H' a = some o
/-- what a walk stands on: the slots at the beginning, the caught exceptions by their slots, what is owned and the heap at the beginning (of the def, of a try) -/
structure Cv where
  v : L2.St
  ex : Nat → Option V
  F0 : Nat → List Addr
  H0 : Hp
abbrev cv0 (s : L2.St) (F : Nat → List Addr) (H : Hp) : Cv := ⟨s, fun _ => none, F, H⟩
def SlotOk (K : PySem.W.Frag) (v0 : Cv) (H : Hp) (F : Nat → List Addr) (i : Nat) (r : R) (v : V) : Prop :=
  match r.k with
  | .shr => ∃ G, Rp K false H v r.d G ∧ ∀ a ∈ G, ¬ Own F a
  | .own => Rp K true H v r.d (F i)
  | .fix => Rp K true H v r.d (F i) ∧ v0.v[i]? = some (some v)
  | .als => v0.ex i = some v ∧ pur r.d = false
/-- the slots and the heap stand for the data ρ; F: what each slot owns -/
structure StOk (K : PySem.W.Frag) (v0 : Cv) (σ : L2.St) (H : Hp) (ρ : DEnv) (F : Nat → List Addr) : Prop where
  slot : ∀ i r, ρ[i]? = some (some r) → ∃ v, σ[i]? = some (some v) ∧ SlotOk K v0 H F i r v
  nd : ∀ i, (F i).Nodup
  dj : ∀ i j a, a ∈ F i → a ∈ F j → i = j
  live : ∀ a, Own F a → H a ≠ none
  len : ρ.length = σ.length
  sm : σ.length ≤ big
  st : Step v0.F0 v0.H0 F H
section
variable {K : PySem.W.Frag} {v0 : Cv} {σ : L2.St} {H H' H1 H2 : Hp} {ρ ρ1 : DEnv} {F F' F1 F2 : Nat → List Addr}
theorem Step.refl : Step F H F H := ⟨fun _ _ h _ => h, fun _ h => .inl h, fun _ _ h => h, fun _ _ => rfl, fun _ _ _ _ _ h => h⟩
theorem Step.trans (a : Step F H F1 H1) (b : Step F1 H1 F2 H2) : Step F H F2 H2 where
  keep := fun c o h n => b.keep c o (a.keep c o h n) fun z => by
    rcases a.own c z with q | q
    · exact n q
    · rw [q] at h; cases h
  own := fun c z => by
    rcases b.own c z with q | q
    · exact a.own c q
    · by_cases z : Own F c
      · exact .inl z
      · refine .inr ?_
        cases e : H c with
        | none => rfl
        | some o =>
          have := a.keep c o e z
          rw [q] at this; cases this
  tups := fun c xs h => b.tups c xs (a.tups c xs h)
  per := fun i h => (b.per i h).trans (a.per i h)
  pk := fun i h c hc o z => b.pk i h c (by rw [a.per i h]; exact hc) o (a.pk i h c hc o z)
theorem Step.ext (e : Ext H H') : Step F H F H' := ⟨fun a o h _ => e a o h, fun _ h => .inl h, e.tu, fun _ _ => rfl, fun _ _ a _ o h => e a o h⟩
theorem Step.none_of (s : Step F H F' H') {a : Addr} (h : H' a = none) : Own F a ∨ H a = none := by
  by_cases z : Own F a
  · exact .inl z
  · refine .inr ?_
    cases e : H a with
    | none => rfl
    | some o =>
      have := s.keep a o e z
      rw [h] at this; cases this
theorem Ext.ne (e : Ext H H') {a : Addr} (n : H a ≠ none) : H' a ≠ none := fun q => by
  cases c : H a with
  | none => exact n c
  | some o =>
    rw [e a o c] at q
    cases q
theorem SlotOk.ext {i : Nat} {r : R} {v : V} (h : SlotOk K v0 H F i r v) (e : Ext H H') : SlotOk K v0 H' F i r v := by
  obtain ⟨k, d⟩ := r
  cases k with
  | shr =>
    obtain ⟨G, h1, h2⟩ := h
    exact ⟨G, h1.keep e.tu _ _ _ (e.kp G), h2⟩
  | own => exact Rp.keep e.tu _ _ _ (show Rp K true H v d (F i) from h) (e.kp _)
  | fix => exact ⟨Rp.keep e.tu _ _ _ h.1 (e.kp _), h.2⟩
  | als => exact h
theorem StOk.ext (h : StOk K v0 σ H ρ F) (e : Ext H H') : StOk K v0 σ H' ρ F :=
  ⟨fun i r hi => let ⟨v, h1, h2⟩ := h.slot i r hi; ⟨v, h1, h2.ext e⟩, h.nd, h.dj, fun a z => (e.ne (h.live a z)), h.len, h.sm, h.st.trans (Step.ext e)⟩
/-- what is wanted of a result: at the end (H', F'), from the start (H, F) -/
def ResOk (K : PySem.W.Frag) (F : Nat → List Addr) (H : Hp) (F' : Nat → List Addr) (H' : Hp) (r : R) (v : V) (G : List Addr) : Prop :=
  match r.k with
  | .shr => Rp K false H' v r.d G ∧ ∀ a ∈ G, ¬ Own F' a
  | .own => Rp K true H' v r.d G ∧ G.Nodup ∧ (∀ a ∈ G, ¬ Own F' a) ∧ ∀ a ∈ G, Own F a ∨ H a = none
  | .als => Rp K false H' v r.d G
  | .fix => False
def stb (r : R) : Bool := r.k != .als || pur r.d
def owp (r : R) : Bool := r.k == .own || pur r.d
theorem ResOk.read {r : R} {v : V} {G : List Addr} (h : ResOk K F H F' H' r v G) : Rp K false H' v r.d G := by
  obtain ⟨k, d⟩ := r
  cases k with
  | shr => exact h.1
  | own => exact Rp.weak d v G h.1
  | fix => exact h.elim
  | als => exact h
/-- a result stays one while the rest is done -/
theorem ResOk.step {r : R} {v : V} {G : List Addr} (h : ResOk K F H F1 H1 r v G) (s : Step F1 H1 F2 H2) (st : stb r = true) : ∃ G', ResOk K F H F2 H2 r v G' := by
  obtain ⟨k, d⟩ := r
  have key : ∀ {m : Bool}, Rp K m H1 v d G → (∀ a ∈ G, ¬ Own F1 a) → Rp K m H2 v d G ∧ ∀ a ∈ G, ¬ Own F2 a := fun {m} q n => by
    refine ⟨q.keep s.tups _ _ _ fun a i o e => s.keep a o e (n a i), fun a i z => ?_⟩
    rcases s.own a z with z | z
    · exact n a i z
    · exact q.live _ _ _ a i z
  cases k with
  | shr => exact ⟨G, key h.1 h.2⟩
  | own =>
    obtain ⟨q, nd, n, o⟩ := h
    obtain ⟨q1, q2⟩ := key q n
    exact ⟨G, q1, nd, q2, o⟩
  | fix => exact h.elim
  | als =>
    have p : pur d = true := by simpa [stb] using st
    obtain ⟨_, q⟩ := Rp.pure' (m' := false) d v G (show Rp K false H1 v d G from h) p
    exact ⟨[], Rp.keep s.tups d v [] q fun a i => nomatch i⟩
theorem ResOk.ext {r : R} {v : V} {G : List Addr} (h : ResOk K F H F1 H1 r v G) (e : Ext H1 H2) : ResOk K F H F1 H2 r v G := by
  obtain ⟨k, d⟩ := r
  cases k with
  | shr => exact ⟨h.1.keep e.tu _ _ _ (e.kp G), h.2⟩
  | own => exact ⟨h.1.keep e.tu _ _ _ (e.kp G), h.2⟩
  | fix => exact h.elim
  | als => exact Rp.keep e.tu _ _ _ (show Rp K false H1 v d G from h) (e.kp G)
theorem ResOk.back {r : R} {v : V} {G : List Addr} (s : Step F H F1 H1) (h : ResOk K F1 H1 F' H' r v G) : ResOk K F H F' H' r v G := by
  obtain ⟨k, d⟩ := r
  cases k with
  | shr => exact h
  | own =>
    obtain ⟨q, nd, n, o⟩ := h
    refine ⟨q, nd, n, fun a i => ?_⟩
    rcases o a i with z | z
    · exact s.own a z
    · exact s.none_of z
  | fix => exact h.elim
  | als => exact h
end
/-- what an expression leaves of the environment: what was not shared is not shared now; where it changes nothing (b = false), all is as it was -/
structure Eff (b : Bool) (ρ : DEnv) (F : Nat → List Addr) (H : Hp) (ρ' : DEnv) (F' : Nat → List Addr) (H' : Hp) : Prop where
  shr : ∀ (j : Nat) (d : PyData), ρ'[j]? = some (some (R.mk .shr d)) → ρ[j]? = some (some (R.mk .shr d))
  non : b = false → ρ' = ρ ∧ F' = F ∧ Ext H H'
section
variable {a b : Bool} {ρ ρ1 ρ2 : DEnv} {F F1 F2 : Nat → List Addr} {H H1 H2 : Hp}
theorem Eff.refl : Eff b ρ F H ρ F H := ⟨fun _ _ h => h, fun _ => ⟨rfl, rfl, Ext.refl⟩⟩
theorem Eff.trans (x : Eff a ρ F H ρ1 F1 H1) (y : Eff b ρ1 F1 H1 ρ2 F2 H2) : Eff (a || b) ρ F H ρ2 F2 H2 :=
  ⟨fun j d h => x.shr j d (y.shr j d h), fun z => by
    simp only [Bool.or_eq_false_iff] at z
    obtain ⟨a1, a2, a3⟩ := x.non z.1
    obtain ⟨b1, b2, b3⟩ := y.non z.2
    exact ⟨b1.trans a1, b2.trans a2, a3.trans b3⟩⟩
theorem Eff.ext (x : Eff a ρ F H ρ1 F1 H1) (e : Ext H1 H2) : Eff a ρ F H ρ1 F1 H2 :=
  ⟨x.shr, fun z => let ⟨a1, a2, a3⟩ := x.non z; ⟨a1, a2, a3.trans e⟩⟩
theorem Eff.left (x : Eff a ρ F H ρ1 F1 H1) : Eff (a || b) ρ F H ρ1 F1 H1 := ⟨x.shr, fun z => x.non (by simp only [Bool.or_eq_false_iff] at z; exact z.1)⟩
theorem Eff.mono (x : Eff a ρ F H ρ1 F1 H1) (h : b = false → a = false) : Eff b ρ F H ρ1 F1 H1 := ⟨x.shr, fun z => x.non (h z)⟩
end
abbrev WE := DEnv → (DEnv → R → Prop) → Prop
abbrev WT := DEnv → (DEnv → Bool → Prop) → Prop
abbrev WA := DEnv → (DEnv → List R → Prop) → Prop
def RE (K : PySem.W.Frag) (v0 : Cv) (b : Bool) (t : TE) (w : WE) : Prop :=
  ∀ σ H ρ F, StOk K v0 σ H ρ F → ∀ (Qd : DEnv → R → Prop) (Q : VK), w ρ Qd →
    (∀ v H' ρ' F' r G, StOk K v0 σ H' ρ' F' → Step F H F' H' → Eff b ρ F H ρ' F' H' → ResOk K F H F' H' r v G → Qd ρ' r → Q v H') → t σ H Q
def RT (K : PySem.W.Frag) (v0 : Cv) (b : Bool) (t : TT) (w : WT) : Prop :=
  ∀ σ H ρ F, StOk K v0 σ H ρ F → ∀ (Qd : DEnv → Bool → Prop) (Q : Bool → Hp → Prop), w ρ Qd →
    (∀ c H' ρ' F', StOk K v0 σ H' ρ' F' → Step F H F' H' → Eff b ρ F H ρ' F' H' → Qd ρ' c → Q c H') → t σ H Q
/-- several results at once: to be read; where all are owned or without lists: as one footprint; where none is an alias: not owned by a slot -/
structure ArgsOk (K : PySem.W.Frag) (F : Nat → List Addr) (H : Hp) (F' : Nat → List Addr) (H' : Hp) (rs : List R) (vs : List V) : Prop where
  read : ∃ G, RpAll K false H' vs (rs.map (·.d)) G
  own : (rs.all owp = true) → ∃ G, RpAll K true H' vs (rs.map (·.d)) G ∧ G.Nodup ∧ (∀ a ∈ G, ¬ Own F' a) ∧ ∀ a ∈ G, Own F a ∨ H a = none
  shr : (rs.all stb = true) → ∃ G, RpAll K false H' vs (rs.map (·.d)) G ∧ ∀ a ∈ G, ¬ Own F' a
def RA (K : PySem.W.Frag) (v0 : Cv) (b : Bool) (t : TA) (w : WA) : Prop :=
  ∀ σ H ρ F, StOk K v0 σ H ρ F → ∀ (Qd : DEnv → List R → Prop) (Q : List V → Hp → Prop), w ρ Qd →
    (∀ vs H' ρ' F' rs, StOk K v0 σ H' ρ' F' → Step F H F' H' → Eff b ρ F H ρ' F' H' → ArgsOk K F H F' H' rs vs → Qd ρ' rs → Q vs H') → t σ H Q
structure DE (X : Cx) (v0 : Cv) (b : Bool) (e : Expr) (w : WE) : Prop where
  ex : ∃ t, PE X e t ∧ RE X.K v0 b t w
structure DT (X : Cx) (v0 : Cv) (b : Bool) (e : Expr) (w : WT) : Prop where
  ex : ∃ t, PT X e t ∧ RT X.K v0 b t w
structure DA (X : Cx) (v0 : Cv) (b : Bool) (es : List Expr) (w : WA) : Prop where
  ex : ∃ t, PA X es t ∧ RA X.K v0 b t w
/-- a new result by values; N: addresses that no slot owns -/
def NewOk (K : PySem.W.Frag) (N : Addr → Prop) (H H' : Hp) (r : R) (v : V) (G : List Addr) : Prop :=
  match r.k with
  | .shr => Rp K false H' v r.d G ∧ ∀ a ∈ G, N a
  | .own => Rp K true H' v r.d G ∧ G.Nodup ∧ ∀ a ∈ G, H a = none
  | .als => Rp K false H' v r.d G
  | .fix => False
/-- what is read: its data, and that no slot owns it where it is no alias -/
def Arg (K : PySem.W.Frag) (N : Addr → Prop) (H : Hp) (r : R) (x : V) : Prop :=
  ∃ G, Rp K false H x r.d G ∧ (r.k ≠ .als → ∀ a ∈ G, N a)
def OD (K : PySem.W.Frag) (r : R2) (wr : R → R → (R → Prop) → Prop) : Prop :=
  ∀ (N : Addr → Prop) (H : Hp) (x y : V) (rx ry : R), Arg K N H rx x → Arg K N H ry y → ∀ (Qd : R → Prop) (Q : VK), wr rx ry Qd →
    (∀ v H' r G, Ext H H' → NewOk K N H H' r v G → Qd r → Q v H') → r x y H Q
def UD (K : PySem.W.Frag) (r : V → Hp → VK → Prop) (wr : R → (R → Prop) → Prop) : Prop :=
  ∀ (N : Addr → Prop) (H : Hp) (x : V) (rx : R), Arg K N H rx x → ∀ (Qd : R → Prop) (Q : VK), wr rx Qd →
    (∀ v H' r G, Ext H H' → NewOk K N H H' r v G → Qd r → Q v H') → r x H Q
section
variable {K : PySem.W.Frag} {v0 : Cv} {σ : L2.St} {H H' H1 H2 : Hp} {ρ ρ1 : DEnv} {F F' F1 F2 : Nat → List Addr}
theorem ResOk.arg {r : R} {v : V} {G : List Addr} (h : ResOk K F H F' H' r v G) : Arg K (fun a => ¬ Own F' a) H' r v := by
  refine ⟨G, h.read, fun n => ?_⟩
  obtain ⟨k, d⟩ := r
  cases k with
  | shr => exact h.2
  | own => exact h.2.2.1
  | fix => exact h.elim
  | als => exact absurd rfl n
theorem Arg.ext {N : Addr → Prop} {r : R} {x : V} (h : Arg K N H r x) (e : Ext H H') : Arg K N H' r x := by
  obtain ⟨G, h1, h2⟩ := h
  exact ⟨G, h1.keep e.tu _ _ _ (e.kp G), h2⟩
theorem NewOk.res {r : R} {v : V} {G : List Addr} (S : StOk K v0 σ H1 ρ1 F1) (s : Step F H F1 H1) (h : NewOk K (fun a => ¬ Own F1 a) H1 H2 r v G) : ResOk K F H F1 H2 r v G := by
  obtain ⟨k, d⟩ := r
  cases k with
  | shr => exact h
  | own =>
    obtain ⟨q, nd, n⟩ := h
    exact ⟨q, nd, fun a i z => S.live a z (n a i), fun a i => s.none_of (n a i)⟩
  | fix => exact h.elim
  | als => exact h
theorem NewOk.pure {N : Addr → Prop} {d : PyData} {v : V} (h : Rp K false H' v d []) : NewOk K N H H' ⟨.shr, d⟩ v [] := ⟨h, fun _ i => nomatch i⟩
end
/-- a result of plain data -/
abbrev P (d : PyData) : R := ⟨.shr, d⟩
section
variable {X : Cx} {v0 : Cv} {a b c : Expr} {pos : Pos} {ea eb ec : Bool} {wa wb wc : WE}
def wVar (i : Nat) : WE := fun ρ Q => match ρ[i]? with
  | some (some ⟨.als, _⟩) => False
  | some (some r) => Q ρ ⟨if r.k = .shr then .shr else .als, r.d⟩
  | _ => False
theorem de_var (i : Nat) {x : Str} (hN : X.N[i]? = some x := by rfl) (hv : Vis X.env.scope x := by first | exact Or.inl rfl | exact Or.inr (Or.inl rfl) | exact Or.inr (Or.inr rfl)) (hd : (x == ("__debug__" : Str)) = false := by decide)
    (hcd : (x == ("__classdict__" : Str)) = false := by decide) : DE X v0 false (.Name x pos) (wVar i) := by
  refine ⟨_, pe_var hN hv hd hcd, fun σ H ρ F S Qd Q h k => ?_⟩
  unfold wVar at h
  split at h
  · exact h.elim
  · rename_i r hn e
    obtain ⟨v, e1, so⟩ := S.slot i r e
    refine ⟨v, e1, ?_⟩
    obtain ⟨kd, d⟩ := r
    cases kd with
    | shr =>
      obtain ⟨G, h1, h2⟩ := so
      exact k v H ρ F ⟨.shr, d⟩ G S Step.refl Eff.refl ⟨h1, h2⟩ h
    | own => exact k v H ρ F ⟨.als, d⟩ (F i) S Step.refl Eff.refl (Rp.weak d v _ so) h
    | fix => exact k v H ρ F ⟨.als, d⟩ (F i) S Step.refl Eff.refl (Rp.weak d v _ so.1) h
    | als => exact (hn d rfl).elim
  · exact h.elim
def wC (d : PyData) : WE := fun ρ Q => Q ρ (P d)
theorem de_c {v : V} {d : PyData} {e : Expr} (h : PE X e (tC v)) (r : ∀ H, Rp X.K false H v d []) : DE X v0 false e (wC d) :=
  ⟨_, h, fun σ H ρ F S Qd Q h k => k v H ρ F (P d) [] S Step.refl Eff.refl ⟨r H, fun _ i => nomatch i⟩ h⟩
theorem de_int {i j} : DE X v0 false (.Constant (.int i) j pos) (wC (.int i)) := de_c pe_int fun _ => .int i
theorem de_bl {i j} : DE X v0 false (.Constant (.bool i) j pos) (wC (.bool i)) := de_c pe_bl fun _ => .bl i
theorem de_non {j} : DE X v0 false (.Constant .none j pos) (wC .none) := de_c pe_non fun _ => .non
theorem de_str {x j} : DE X v0 false (.Constant (.str x) j pos) (wC (.str x)) := de_c pe_str fun _ => .str x
/-- two operands; eb: whether the second one may change what is owned -/
def wOp (eb : Bool) (wr : R → R → (R → Prop) → Prop) (wa wb : WE) : WE := fun ρ Q => wa ρ fun ρ1 ra => wb ρ1 fun ρ2 rb => (eb = true → stb ra = true) ∧ wr ra rb (Q ρ2)
theorem re_op {r : R2} {wr : R → R → (R → Prop) → Prop} {ta tb : TE} (od : OD X.K r wr) (ha : RE X.K v0 ea ta wa) (hb : RE X.K v0 eb tb wb) : RE X.K v0 (ea || eb) (tOp r ta tb) (wOp eb wr wa wb) := by
  intro σ H ρ F S Qd Q h k
  refine ha σ H ρ F S _ _ h fun x H1 ρ1 F1 ra G1 S1 s1 p1 r1 h1 => ?_
  refine hb σ H1 ρ1 F1 S1 _ _ h1 fun y H2 ρ2 F2 rb G2 S2 s2 p2 r2 h2 => ?_
  obtain ⟨hst, h2⟩ := h2
  have rx : Arg X.K (fun a => ¬ Own F2 a) H2 ra x := by
    cases eb with
    | true =>
      obtain ⟨G', q⟩ := r1.step s2 (hst rfl)
      exact q.arg
    | false =>
      obtain ⟨_, e2, e3⟩ := p2.non rfl
      subst e2
      exact (r1.ext e3).arg
  refine od (fun a => ¬ Own F2 a) H2 x y ra rb rx r2.arg (Qd ρ2) Q h2 fun v H' r G e n q => ?_
  exact k v H' ρ2 F2 r G (S2.ext e) ((s1.trans s2).trans (Step.ext e)) ((p1.trans p2).ext e) (n.res S2 (s1.trans s2)) q
theorem de_op {op : Operator} {r : R2} {wr : R → R → (R → Prop) → Prop} (ho : OpR X (binaryOp op) r) (od : OD X.K r wr) (ha : DE X v0 ea a wa) (hb : DE X v0 eb b wb) : DE X v0 (ea || eb) (.BinOp a op b pos) (wOp eb wr wa wb) := by
  obtain ⟨ta, pa, ra⟩ := ha
  obtain ⟨tb, pb, rb⟩ := hb
  exact ⟨_, pe_op ho pa pb, re_op od ra rb⟩
theorem de_cmp {op : CmpOp} {r : R2} {wr : R → R → (R → Prop) → Prop} (ho : OpR X (compareOp op) r) (od : OD X.K r wr) (ha : DE X v0 ea a wa) (hb : DE X v0 eb b wb) (hm : behindInMarks op b = false) :
    DE X v0 (ea || eb) (.Compare a [op] [b] pos) (wOp eb wr wa wb) := by
  obtain ⟨ta, pa, ra⟩ := ha
  obtain ⟨tb, pb, rb⟩ := hb
  exact ⟨_, pe_cmpR ho pa pb hm, re_op od ra rb⟩
theorem de_ix {r : R2} {wr : R → R → (R → Prop) → Prop} (ho : IxR X r) (od : OD X.K r wr) (ha : DE X v0 ea a wa) (hb : DE X v0 eb b wb) (hs : PlainIx b) : DE X v0 (ea || eb) (.Subscript a b pos) (wOp eb wr wa wb) := by
  obtain ⟨ta, pa, ra⟩ := ha
  obtain ⟨tb, pb, rb⟩ := hb
  exact ⟨_, pe_ix ho pa pb hs, re_op od ra rb⟩
/-- an expression that gives True or False, as a test -/
def wB (w : WE) : WT := fun ρ Q => w ρ fun ρ1 r => match r.d with
  | .bool c => Q ρ1 c
  | _ => False
theorem rt_b {t : TE} (h : RE X.K v0 ea t wa) : RT X.K v0 ea (fun σ H Q => t σ H fun x H' => ∃ k, x = .bl k ∧ Q k H') (wB wa) := by
  intro σ H ρ F S Qd Q h' k
  refine h σ H ρ F S _ _ h' fun x H1 ρ1 F1 r G S1 s1 p1 r1 h1 => ?_
  obtain ⟨kd, d⟩ := r
  have rd := r1.read
  cases d with
  | bool c =>
    have rd' : Rp X.K false H1 x (.bool c) G := rd
    cases rd'
    exact ⟨c, rfl, k c H1 ρ1 F1 S1 s1 p1 h1⟩
  | _ => exact False.elim h1
theorem dt_cmp {op : CmpOp} {r : R2} {wr : R → R → (R → Prop) → Prop} (ho : OpR X (compareOp op) r) (od : OD X.K r wr) (ha : DE X v0 ea a wa) (hb : DE X v0 eb b wb) (hm : behindInMarks op b = false) :
    DT X v0 (ea || eb) (.Compare a [op] [b] pos) (wB (wOp eb wr wa wb)) := by
  obtain ⟨ta, pa, ra⟩ := ha
  obtain ⟨tb, pb, rb⟩ := hb
  exact ⟨_, pt_cmpR ho pa pb hm, rt_b (re_op od ra rb)⟩
def wUn (wr : R → (R → Prop) → Prop) (wa : WE) : WE := fun ρ Q => wa ρ fun ρ1 ra => wr ra (Q ρ1)
theorem re_un {r : V → Hp → VK → Prop} {wr : R → (R → Prop) → Prop} {ta : TE} (ud : UD X.K r wr) (ha : RE X.K v0 ea ta wa) : RE X.K v0 ea (tUn r ta) (wUn wr wa) := by
  intro σ H ρ F S Qd Q h k
  refine ha σ H ρ F S _ _ h fun x H1 ρ1 F1 ra G1 S1 s1 p1 r1 h1 => ?_
  refine ud (fun a => ¬ Own F1 a) H1 x ra r1.arg (Qd ρ1) Q h1 fun v H' r G e n q => ?_
  exact k v H' ρ1 F1 r G (S1.ext e) (s1.trans (Step.ext e)) (p1.ext e) (n.res S1 s1) q
theorem de_un {op : UnaryOp} {r : V → Hp → VK → Prop} {wr : R → (R → Prop) → Prop} (ho : UnR X (unaryOp op) r) (ud : UD X.K r wr) (ha : DE X v0 ea a wa) : DE X v0 ea (.UnaryOp op a pos) (wUn wr wa) := by
  obtain ⟨ta, pa, ra⟩ := ha
  exact ⟨_, pe_un ho pa, re_un ud ra⟩
end
end DL
namespace DL
open PySem PySem.Spec PyProof.Rows L2
section
variable {K : PySem.W.Frag} {v0 : Cv} {σ : L2.St} {H H' H1 H2 : Hp} {ρ ρ1 : DEnv} {F F' F1 F2 : Nat → List Addr}
theorem ResOk.fwd {r : R} {v : V} {G : List Addr} (h : ResOk K F H F1 H1 r v G) (s : Step F1 H1 F2 H2) (n : r.k ≠ .als) : ResOk K F H F2 H2 r v G := by
  obtain ⟨k, d⟩ := r
  have key : ∀ {m : Bool}, Rp K m H1 v d G → (∀ a ∈ G, ¬ Own F1 a) → Rp K m H2 v d G ∧ ∀ a ∈ G, ¬ Own F2 a := fun {m} q n => by
    refine ⟨q.keep s.tups _ _ _ fun a i o e => s.keep a o e (n a i), fun a i z => ?_⟩
    rcases s.own a z with z | z
    · exact n a i z
    · exact q.live _ _ _ a i z
  cases k with
  | shr => exact key h.1 h.2
  | own =>
    obtain ⟨q, nd, n, o⟩ := h
    obtain ⟨q1, q2⟩ := key q n
    exact ⟨q1, nd, q2, o⟩
  | fix => exact h.elim
  | als => exact absurd rfl n
inductive ArgsV (K : PySem.W.Frag) (N : Addr → Prop) (H : Hp) : List R → List V → Prop
  | nil : ArgsV K N H [] []
  | cons {r : R} {x : V} {rs : List R} {xs : List V} : Arg K N H r x → ArgsV K N H rs xs → ArgsV K N H (r :: rs) (x :: xs)
theorem ArgsV.ext {N : Addr → Prop} : ∀ {rs : List R} {xs : List V}, ArgsV K N H rs xs → Ext H H' → ArgsV K N H' rs xs
  | _, _, .nil, _ => .nil
  | _, _, .cons h t, e => .cons (h.ext e) (ArgsV.ext t e)
end
/-- argument lists: each one, and all at once -/
structure ArgsAll (K : PySem.W.Frag) (F : Nat → List Addr) (H : Hp) (F' : Nat → List Addr) (H' : Hp) (rs : List R) (vs : List V) : Prop where
  all : ArgsOk K F H F' H' rs vs
  each : ArgsV K (fun a => ¬ Own F' a) H' rs vs
def RG (K : PySem.W.Frag) (v0 : Cv) (b : Bool) (t : TA) (w : WA) : Prop :=
  ∀ σ H ρ F, StOk K v0 σ H ρ F → ∀ (Qd : DEnv → List R → Prop) (Q : List V → Hp → Prop), w ρ Qd →
    (∀ vs H' ρ' F' rs, StOk K v0 σ H' ρ' F' → Step F H F' H' → Eff b ρ F H ρ' F' H' → ArgsAll K F H F' H' rs vs → Qd ρ' rs → Q vs H') → t σ H Q
structure DG (X : Cx) (v0 : Cv) (b : Bool) (es : List Expr) (w : WA) : Prop where
  ex : ∃ t, PA X es t ∧ RG X.K v0 b t w
section
variable {X : Cx} {v0 : Cv} {a b c e : Expr} {es : List Expr} {pos : Pos} {ea eb ec : Bool} {wa wb wc : WE} {wr ws : WA} {ta tb tc : TE} {tr : TA} {wt wu : WT}
def wNil : WA := fun ρ Q => Q ρ []
theorem dg_nil : DG X v0 false [] wNil := ⟨_, pa_nil, fun σ H ρ F S Qd Q h k => k [] H ρ F [] S Step.refl Eff.refl ⟨⟨⟨[], .nil⟩, fun _ => ⟨[], .nil, List.nodup_nil, (fun _ i => nomatch i), fun _ i => nomatch i⟩, fun _ => ⟨[], .nil, fun _ i => nomatch i⟩⟩, .nil⟩ h⟩
def wCons (eb : Bool) (wa : WE) (wr : WA) : WA := fun ρ Q => wa ρ fun ρ1 r => wr ρ1 fun ρ2 rs => (eb = true → stb r = true) ∧ Q ρ2 (r :: rs)
theorem rg_cons (ha : RE X.K v0 ea ta wa) (hr : RG X.K v0 eb tr wr) : RG X.K v0 (ea || eb) (tCons ta tr) (wCons eb wa wr) := by
  intro σ H ρ F S Qd Q h k
  refine ha σ H ρ F S _ _ h fun x H1 ρ1 F1 r G1 S1 s1 p1 r1 h1 => ?_
  refine hr σ H1 ρ1 F1 S1 _ _ h1 fun xs H2 ρ2 F2 rs S2 s2 p2 A2 h2 => ?_
  obtain ⟨hst, h2⟩ := h2
  have hd : ∃ G', ResOk X.K F H F2 H2 r x G' := by
    cases eb with
    | true => exact r1.step s2 (hst rfl)
    | false =>
      obtain ⟨_, e2, e3⟩ := p2.non rfl
      subst e2
      exact ⟨_, r1.ext e3⟩
  refine k (x :: xs) H2 ρ2 F2 (r :: rs) S2 (s1.trans s2) (p1.trans p2) ⟨⟨?_, fun o => ?_, fun o => ?_⟩, ?_⟩ h2
  · obtain ⟨G', q⟩ := hd
    obtain ⟨G2, q2⟩ := A2.all.read
    exact ⟨_, .cons q.read q2⟩
  · rw [List.all_cons, Bool.and_eq_true] at o
    obtain ⟨G2, t1, t2, t3, t4⟩ := A2.all.own o.2
    have back : ∀ a ∈ G2, Own F a ∨ H a = none := fun a i => by
      rcases t4 a i with z | z
      · exact s1.own a z
      · exact s1.none_of z
    by_cases hp : pur r.d = true
    · obtain ⟨G', q⟩ := hd
      obtain ⟨_, q'⟩ := Rp.pure' (m' := true) _ _ _ q.read hp
      exact ⟨G2, .cons q' t1, t2, t3, back⟩
    · have ho : r.k = .own := by
        have := o.1
        unfold owp at this
        rw [Bool.or_eq_true] at this
        rcases this with z | z
        · exact beq_iff_eq.mp z
        · exact absurd z hp
      obtain ⟨kd, d⟩ := r
      cases ho
      have q := r1.fwd s2 (by intro z; cases z)
      obtain ⟨q1, q2, q3, q4⟩ := q
      obtain ⟨g1, _, g3, _⟩ := r1
      refine ⟨G1 ++ G2, .cons q1 t1, ?_, fun a i => ?_, fun a i => ?_⟩
      · refine List.nodup_append.mpr ⟨q2, t2, fun a i b j e => ?_⟩
        subst e
        rcases t4 a j with z | z
        · exact g3 a i z
        · exact g1.live _ _ _ a i z
      · rcases List.mem_append.mp i with i | i
        · exact q3 a i
        · exact t3 a i
      · rcases List.mem_append.mp i with i | i
        · exact q4 a i
        · exact back a i
  · rw [List.all_cons, Bool.and_eq_true] at o
    obtain ⟨G2, t1, t2⟩ := A2.all.shr o.2
    obtain ⟨G', q⟩ := hd
    by_cases hp : pur r.d = true
    · obtain ⟨_, q'⟩ := Rp.pure' (m' := false) _ _ _ q.read hp
      exact ⟨G2, .cons q' t1, t2⟩
    · have hn : r.k ≠ .als := by
        have := o.1
        unfold stb at this
        rw [Bool.or_eq_true] at this
        rcases this with z | z
        · exact bne_iff_ne.mp z
        · exact absurd z hp
      obtain ⟨G3, q1, q2⟩ := q.arg
      refine ⟨G3 ++ G2, .cons q1 t1, fun a i => ?_⟩
      rcases List.mem_append.mp i with i | i
      · exact q2 hn a i
      · exact t2 a i
  · obtain ⟨G', q⟩ := hd
    exact .cons q.arg A2.each
theorem dg_cons (ha : DE X v0 ea a wa) (hr : DG X v0 eb es wr) (hs : starEach (a :: es) X.env = (false, eval a X.env) :: starEach es X.env := by rfl) : DG X v0 (ea || eb) (a :: es) (wCons eb wa wr) := by
  obtain ⟨ta, pa, ra⟩ := ha
  obtain ⟨tr, pr, rr⟩ := hr
  exact ⟨_, pa_cons pa pr hs, rg_cons ra rr⟩
def kTup (rs : List R) : Kd := if rs.all (fun r => pur r.d) = true then .shr else if rs.all owp = true then .own else if rs.all stb = true then .shr else .als
def kLst (rs : List R) : Kd := if rs.all owp = true then .own else if rs.all stb = true then .shr else .als
def wTup (wa : WA) : WE := fun ρ Q => wa ρ fun ρ1 rs => rs.length ≤ sizeLine ∧ Q ρ1 ⟨kTup rs, .tuple (rs.map (·.d))⟩
def wLst (wa : WA) : WE := fun ρ Q => wa ρ fun ρ1 rs => rs.length ≤ sizeLine ∧ Q ρ1 ⟨kLst rs, .list (rs.map (·.d))⟩
theorem purs_map {rs : List R} (h : rs.all (fun r => pur r.d) = true) : purs (rs.map (·.d)) = true := by
  rw [purs_iff]
  intro d hd
  obtain ⟨r, h1, rfl⟩ := List.mem_map.mp hd
  exact List.all_eq_true.mp h r h1
theorem re_tup (ha : RG X.K v0 ea tr wr) : RE X.K v0 ea (tTup tr) (wTup wr) := by
  intro σ H ρ F S Qd Q h k
  refine ha σ H ρ F S _ _ h fun xs H1 ρ1 F1 rs S1 s1 p1 A h1 => ?_
  obtain ⟨hz, h1⟩ := h1
  have hl : xs.length = rs.length := by
    obtain ⟨G, q⟩ := A.all.read
    have := q.length
    simpa using this
  refine ⟨by rw [hl]; exact hz, fun p np => ?_⟩
  have ex : Ext H1 (upd H1 p (.tup xs)) := Ext.upd np
  have hT : SqT X.K (upd H1 p (.tup xs)) p xs := .inl (.inl upd_same)
  have step := s1.trans (Step.ext (F := F1) ex)
  have hb := p1.ext ex
  have car : ∀ {m G}, RpAll X.K m H1 xs (rs.map (·.d)) G → RpAll X.K m (upd H1 p (.tup xs)) xs (rs.map (·.d)) G := fun {m G} q => q.keep ex.tu _ _ _ (ex.kp G)
  have go : ∀ G, ResOk X.K F H F1 (upd H1 p (.tup xs)) ⟨kTup rs, .tuple (rs.map (·.d))⟩ (.ref p) G → Q (.ref p) (upd H1 p (.tup xs)) := fun G q =>
    k _ _ ρ1 F1 _ G (S1.ext ex) step hb q h1
  unfold kTup at go
  by_cases c1 : rs.all (fun r => pur r.d) = true
  · rw [if_pos c1] at go
    obtain ⟨G, q⟩ := A.all.read
    obtain ⟨_, q'⟩ := RpAll.pure' (m' := false) _ _ _ q (purs_map c1)
    exact go [] ⟨.tup hT (car q'), fun _ i => nomatch i⟩
  · rw [if_neg c1] at go
    by_cases c2 : rs.all owp = true
    · rw [if_pos c2] at go
      obtain ⟨G, q, q2, q3, q4⟩ := A.all.own c2
      exact go G ⟨.tup hT (car q), q2, q3, q4⟩
    · rw [if_neg c2] at go
      by_cases c3 : rs.all stb = true
      · rw [if_pos c3] at go
        obtain ⟨G, q, q2⟩ := A.all.shr c3
        exact go G ⟨.tup hT (car q), q2⟩
      · rw [if_neg c3] at go
        obtain ⟨G, q⟩ := A.all.read
        exact go G (show Rp X.K false _ _ _ _ from .tup hT (car q))
theorem re_lst (ha : RG X.K v0 ea tr wr) : RE X.K v0 ea (tLst tr) (wLst wr) := by
  intro σ H ρ F S Qd Q h k
  refine ha σ H ρ F S _ _ h fun xs H1 ρ1 F1 rs S1 s1 p1 A h1 => ?_
  obtain ⟨hz, h1⟩ := h1
  have hl : xs.length = rs.length := by
    obtain ⟨G, q⟩ := A.all.read
    have := q.length
    simpa using this
  refine ⟨by rw [hl]; exact hz, fun p np => ?_⟩
  have ex : Ext H1 (upd H1 p (.lst xs)) := Ext.upd np
  have hT : Rd (upd H1 p (.lst xs)) p (.lst xs) := .inl upd_same
  have step := s1.trans (Step.ext (F := F1) ex)
  have np1 : ¬ Own F1 p := fun z => S1.live p z np
  have hb := p1.ext ex
  have car : ∀ {m G}, RpAll X.K m H1 xs (rs.map (·.d)) G → RpAll X.K m (upd H1 p (.lst xs)) xs (rs.map (·.d)) G := fun {m G} q => q.keep ex.tu _ _ _ (ex.kp G)
  have go : ∀ G, ResOk X.K F H F1 (upd H1 p (.lst xs)) ⟨kLst rs, .list (rs.map (·.d))⟩ (.ref p) G → Q (.ref p) (upd H1 p (.lst xs)) := fun G q =>
    k _ _ ρ1 F1 _ G (S1.ext ex) step hb q h1
  unfold kLst at go
  by_cases c2 : rs.all owp = true
  · rw [if_pos c2] at go
    obtain ⟨G, q, q2, q3, q4⟩ := A.all.own c2
    refine go (p :: G) ⟨.lst (fun _ => upd_same) hT (car q), List.nodup_cons.mpr ⟨fun i => q.live _ _ _ p i np, q2⟩, fun a i => ?_, fun a i => ?_⟩
    · rcases List.mem_cons.mp i with rfl | i
      · exact np1
      · exact q3 a i
    · rcases List.mem_cons.mp i with rfl | i
      · exact s1.none_of np
      · exact q4 a i
  · rw [if_neg c2] at go
    by_cases c3 : rs.all stb = true
    · rw [if_pos c3] at go
      obtain ⟨G, q, q2⟩ := A.all.shr c3
      refine go (p :: G) ⟨.lst (fun z => nomatch z) hT (car q), fun a i => ?_⟩
      rcases List.mem_cons.mp i with rfl | i
      · exact np1
      · exact q2 a i
    · rw [if_neg c3] at go
      obtain ⟨G, q⟩ := A.all.read
      exact go (p :: G) (show Rp X.K false _ _ _ _ from .lst (fun z => nomatch z) hT (car q))
theorem de_tup {x1} (h : DG X v0 ea es wr) : DE X v0 ea (.Tuple es x1 pos) (wTup wr) := by
  obtain ⟨t, p, r⟩ := h
  exact ⟨_, pe_tup p, re_tup r⟩
theorem de_lst (h : DG X v0 ea es wr) : DE X v0 ea (.List es pos) (wLst wr) := by
  obtain ⟨t, p, r⟩ := h
  exact ⟨_, pe_lst p, re_lst r⟩
def CD (K : PySem.W.Frag) (r : List V → Hp → VK → Prop) (wr : List R → (R → Prop) → Prop) : Prop :=
  ∀ (N : Addr → Prop) (H : Hp) (xs : List V) (rs : List R), ArgsV K N H rs xs → ∀ (Qd : R → Prop) (Q : VK), wr rs Qd →
    (∀ v H' r G, Ext H H' → NewOk K N H H' r v G → Qd r → Q v H') → r xs H Q
def wCall (wr : List R → (R → Prop) → Prop) (wa : WA) : WE := fun ρ Q => wa ρ fun ρ1 rs => wr rs (Q ρ1)
theorem re_call {r : List V → Hp → VK → Prop} {w : List R → (R → Prop) → Prop} (cd : CD X.K r w) (ha : RG X.K v0 ea tr wr) : RE X.K v0 ea (tCB r tr) (wCall w wr) := by
  intro σ H ρ F S Qd Q h k
  refine ha σ H ρ F S _ _ h fun xs H1 ρ1 F1 rs S1 s1 p1 A h1 => ?_
  refine cd (fun a => ¬ Own F1 a) H1 xs rs A.each (Qd ρ1) Q h1 fun v H' r G e n q => ?_
  exact k v H' ρ1 F1 r G (S1.ext e) (s1.trans (Step.ext e)) (p1.ext e) (n.res S1 s1) q
theorem de_callB {x : Str} {p : Pos} {id : String} {r : List V → Hp → VK → Prop} {w : List R → (R → Prop) → Prop} (hc : CallR X (.builtin id) r) (cd : CD X.K r w) (hg : Gl X x) (hm : X.mg x = none) (hv : bootBuiltins x = some (.builtin id)) (ha : DG X v0 ea (e :: es) wr)
    (hn : x ≠ "__name__" := by decide) (hdb : (x == ("__debug__" : Str)) = false := by decide)
    (he : starEach (e :: es) X.env = (false, eval e X.env) :: starEach es X.env := by rfl) (hpl : (backTo pos (starEach es X.env)).any (·.1) = false := by rfl) : DE X v0 ea (.Call (.Name x p) (e :: es) [] pos) (wCall w wr) := by
  obtain ⟨t, pa, ra⟩ := ha
  exact ⟨_, pe_callB hc hg hm hv pa hn hdb he hpl, re_call cd ra⟩
theorem de_callT {x : Str} {p : Pos} {T : String} {r : List V → Hp → VK → Prop} {w : List R → (R → Prop) → Prop} (hc : CallR X (.type T) r) (cd : CD X.K r w) (hg : Gl X x) (hm : X.mg x = none) (hv : bootBuiltins x = some (.type T)) (ha : DG X v0 ea (e :: es) wr)
    (hn : x ≠ "__name__" := by decide) (hdb : (x == ("__debug__" : Str)) = false := by decide)
    (he : starEach (e :: es) X.env = (false, eval e X.env) :: starEach es X.env := by rfl) (hpl : (backTo pos (starEach es X.env)).any (·.1) = false := by rfl) : DE X v0 ea (.Call (.Name x p) (e :: es) [] pos) (wCall w wr) := by
  obtain ⟨t, pa, ra⟩ := ha
  exact ⟨_, pe_callTy hc hg hm hv pa hn hdb he hpl, re_call cd ra⟩
def wTru (w : WE) : WT := fun ρ Q => w ρ fun ρ1 r => match r.d with
  | .none => Q ρ1 false
  | .bool b => Q ρ1 b
  | .int i => Q ρ1 (i != 0)
  | .str y => y.length ≤ sizeLine ∧ Q ρ1 ((y.length : Int) != 0)
  | .list xs => Q ρ1 (!xs.isEmpty)
  | .tuple xs => Q ρ1 (!xs.isEmpty)
  | .dict _ => False
theorem dt_truth (ha : DE X v0 ea a wa) (he : ∀ whole, isTrue a X.env whole = (do let v ← whole; standAt a.pos; holding [v] (truthy v)) := by intro _; rfl) : DT X v0 ea a (wTru wa) := by
  obtain ⟨t, p, q⟩ := ha
  refine ⟨_, pt_truth p he, fun σ H ρ F S Qd Q h k => ?_⟩
  refine q σ H ρ F S _ _ h fun x H1 ρ1 F1 r G S1 s1 p1 r1 h1 => ?_
  have rd := r1.read
  obtain ⟨kd, d⟩ := r
  have emp : ∀ {xs : List V} {ds : List PyData} {G}, RpAll X.K false H1 xs ds G → xs.isEmpty = ds.isEmpty := fun q => by cases q <;> rfl
  cases d with
  | none =>
    have rd' : Rp X.K false H1 x .none G := rd
    cases rd'
    exact ⟨_, rfl, k _ H1 ρ1 F1 S1 s1 p1 h1⟩
  | bool b =>
    have rd' : Rp X.K false H1 x (.bool b) G := rd
    cases rd'
    exact ⟨_, rfl, k _ H1 ρ1 F1 S1 s1 p1 h1⟩
  | int b =>
    have rd' : Rp X.K false H1 x (.int b) G := rd
    cases rd'
    exact ⟨_, rfl, k _ H1 ρ1 F1 S1 s1 p1 h1⟩
  | str b =>
    have rd' : Rp X.K false H1 x (.str b) G := rd
    cases rd'
    exact ⟨_, ⟨h1.1, rfl⟩, k _ H1 ρ1 F1 S1 s1 p1 h1.2⟩
  | list ds =>
    obtain ⟨a, xs, G', rfl, hs, ra, _⟩ := Rp.sql (show Rp X.K false H1 x (.list ds) G from rd)
    exact ⟨_, .inl ⟨xs, hs, rfl⟩, k _ H1 ρ1 F1 S1 s1 p1 (by rw [emp ra]; exact h1)⟩
  | tuple ds =>
    obtain ⟨a, xs, rfl, hs, ra⟩ := Rp.sqt (show Rp X.K false H1 x (.tuple ds) G from rd)
    exact ⟨_, .inr (.inl ⟨xs, hs, rfl⟩), k _ H1 ρ1 F1 S1 s1 p1 (by rw [emp ra]; exact h1)⟩
  | dict _ => exact h1.elim
def wNot (w : WT) : WT := fun ρ Q => w ρ fun ρ1 c => Q ρ1 (!c)
theorem dt_not (h : DT X v0 ea a wt) : DT X v0 ea (.UnaryOp .Not a pos) (wNot wt) := by
  obtain ⟨t, p, q⟩ := h
  refine ⟨_, pt_not p, fun σ H ρ F S Qd Q h k => ?_⟩
  exact q σ H ρ F S _ _ h fun c H1 ρ1 F1 S1 s1 p1 h1 => k (!c) H1 ρ1 F1 S1 s1 p1 h1
structure DW (X : Cx) (v0 : Cv) (b : Bool) (e : Expr) (w : WT) : Prop where
  ex : ∃ t, PW X e t ∧ RT X.K v0 b t w
theorem DW.dt (h : DW X v0 ea a wt) : DT X v0 ea a wt := by
  obtain ⟨t, p, q⟩ := h
  exact ⟨t, p.pt, q⟩
def wAnd (t u : WT) : WT := fun ρ Q => t ρ fun ρ1 c => if c = true then u ρ1 Q else Q ρ1 false
def wOr (t u : WT) : WT := fun ρ Q => t ρ fun ρ1 c => if c = true then Q ρ1 true else u ρ1 Q
theorem rt_and {t u : TT} (h1 : RT X.K v0 ea t wt) (h2 : RT X.K v0 eb u wu) : RT X.K v0 (ea || eb) (tAnd t u) (wAnd wt wu) := by
  intro σ H ρ F S Qd Q h k
  refine h1 σ H ρ F S _ _ h fun c H1 ρ1 F1 S1 s1 p1 h1 => ?_
  have pp := p1.left (b := eb)
  cases c with
  | true =>
    rw [if_pos rfl] at h1 ⊢
    exact h2 σ H1 ρ1 F1 S1 _ _ h1 fun c H2 ρ2 F2 S2 s2 p2 h2 => k c H2 ρ2 F2 S2 (s1.trans s2) (p1.trans p2) h2
  | false =>
    rw [if_neg Bool.false_ne_true] at h1 ⊢
    exact k false H1 ρ1 F1 S1 s1 pp h1
theorem rt_or {t u : TT} (h1 : RT X.K v0 ea t wt) (h2 : RT X.K v0 eb u wu) : RT X.K v0 (ea || eb) (tOr t u) (wOr wt wu) := by
  intro σ H ρ F S Qd Q h k
  refine h1 σ H ρ F S _ _ h fun c H1 ρ1 F1 S1 s1 p1 h1 => ?_
  have pp := p1.left (b := eb)
  cases c with
  | false =>
    rw [if_neg Bool.false_ne_true] at h1 ⊢
    exact h2 σ H1 ρ1 F1 S1 _ _ h1 fun c H2 ρ2 F2 S2 s2 p2 h2 => k c H2 ρ2 F2 S2 (s1.trans s2) (p1.trans p2) h2
  | true =>
    rw [if_pos rfl] at h1 ⊢
    exact k true H1 ρ1 F1 S1 s1 pp h1
theorem dw_and1 (ha : DT X v0 ea a wt) : DW X v0 ea (.BoolOp .And [a] pos) wt := by
  obtain ⟨t, p, q⟩ := ha
  exact ⟨_, pw_and1 p, q⟩
theorem dw_or1 (ha : DT X v0 ea a wt) : DW X v0 ea (.BoolOp .Or [a] pos) wt := by
  obtain ⟨t, p, q⟩ := ha
  exact ⟨_, pw_or1 p, q⟩
theorem dw_and (ha : DT X v0 ea a wt) (hb : DW X v0 eb (.BoolOp .And (b :: es) pos) wu) : DW X v0 (ea || eb) (.BoolOp .And (a :: b :: es) pos) (wAnd wt wu) := by
  obtain ⟨t, p, q⟩ := ha
  obtain ⟨t', p', q'⟩ := hb
  exact ⟨_, pw_and p p', rt_and q q'⟩
theorem dw_or (ha : DT X v0 ea a wt) (hb : DW X v0 eb (.BoolOp .Or (b :: es) pos) wu) : DW X v0 (ea || eb) (.BoolOp .Or (a :: b :: es) pos) (wOr wt wu) := by
  obtain ⟨t, p, q⟩ := ha
  obtain ⟨t', p', q'⟩ := hb
  exact ⟨_, pw_or p p', rt_or q q'⟩
def wIfE (t : WT) (wa wb : WE) : WE := fun ρ Q => t ρ fun ρ1 c => if c = true then wa ρ1 Q else wb ρ1 Q
theorem de_ifExp (hc : DT X v0 ec c wt) (ha : DE X v0 ea a wa) (hb : DE X v0 eb b wb) : DE X v0 (ec || (ea || eb)) (.IfExp c a b pos) (wIfE wt wa wb) := by
  obtain ⟨t, p, q⟩ := hc
  obtain ⟨ta, pa, ra⟩ := ha
  obtain ⟨tb, pb, rb⟩ := hb
  refine ⟨_, pe_ifExp p pa pb, fun σ H ρ F S Qd Q h k => ?_⟩
  refine q σ H ρ F S _ _ h fun c H1 ρ1 F1 S1 s1 p1 h1 => ?_
  cases c with
  | true =>
    rw [if_pos rfl] at h1 ⊢
    exact ra σ H1 ρ1 F1 S1 _ _ h1 fun v H2 ρ2 F2 r G S2 s2 p2 r2 h2 => k v H2 ρ2 F2 r G S2 (s1.trans s2) ((p1.trans p2).mono fun z => by
      simp only [Bool.or_eq_false_iff] at z ⊢
      exact ⟨z.1, z.2.1⟩) (r2.back s1) h2
  | false =>
    rw [if_neg Bool.false_ne_true] at h1 ⊢
    exact rb σ H1 ρ1 F1 S1 _ _ h1 fun v H2 ρ2 F2 r G S2 s2 p2 r2 h2 => k v H2 ρ2 F2 r G S2 (s1.trans s2) ((p1.trans p2).mono fun z => by
      simp only [Bool.or_eq_false_iff] at z ⊢
      exact ⟨z.1, z.2.2⟩) (r2.back s1) h2
/-- and, or, not as values: all True or False -/
def wAndV (wa wb : WE) : WE := fun ρ Q => wa ρ fun ρ1 r => match r.d with
  | .bool c => if c = true then wb ρ1 Q else Q ρ1 (P (.bool false))
  | _ => False
def wOrV (wa wb : WE) : WE := fun ρ Q => wa ρ fun ρ1 r => match r.d with
  | .bool c => if c = true then Q ρ1 (P (.bool true)) else wb ρ1 Q
  | _ => False
def wNotV (wa : WE) : WE := fun ρ Q => wa ρ fun ρ1 r => match r.d with
  | .bool c => Q ρ1 (P (.bool (!c)))
  | _ => False
theorem rp_bool {m : Bool} {H : Hp} {x : V} {b : Bool} {G : List Addr} {K : PySem.W.Frag} (h : Rp K m H x (.bool b) G) : x = .bl b := by
  cases h
  rfl
theorem rp_int {m : Bool} {H : Hp} {x : V} {b : Int} {G : List Addr} {K : PySem.W.Frag} (h : Rp K m H x (.int b) G) : x = .int b := by
  cases h
  rfl
theorem rp_str {m : Bool} {H : Hp} {x : V} {b : Str} {G : List Addr} {K : PySem.W.Frag} (h : Rp K m H x (.str b) G) : x = .str b := by
  cases h
  rfl
theorem rp_non {m : Bool} {H : Hp} {x : V} {G : List Addr} {K : PySem.W.Frag} (h : Rp K m H x .none G) : x = .non := by
  cases h
  rfl
theorem de_one {op} (h : DE X v0 ea a wa) : DE X v0 ea (.BoolOp op [a] pos) wa := by
  obtain ⟨t, p, q⟩ := h
  exact ⟨_, pe_one p, q⟩
theorem de_and (ha : DE X v0 ea a wa) (hb : DE X v0 eb (.BoolOp .And (b :: es) pos) wb) : DE X v0 (ea || eb) (.BoolOp .And (a :: b :: es) pos) (wAndV wa wb) := by
  obtain ⟨ta, pa, ra⟩ := ha
  obtain ⟨tb, pb, rb⟩ := hb
  refine ⟨_, pe_and pa pb, fun σ H ρ F S Qd Q h k => ?_⟩
  refine ra σ H ρ F S _ _ h fun x H1 ρ1 F1 r G S1 s1 p1 r1 h1 => ?_
  obtain ⟨kd, d⟩ := r
  cases d with
  | bool c =>
    refine ⟨c, rp_bool r1.read, ?_⟩
    have pp := p1.left (b := eb)
    cases c with
    | true =>
      rw [if_pos rfl]
      exact rb σ H1 ρ1 F1 S1 _ _ (by simpa using h1) fun v H2 ρ2 F2 r G S2 s2 p2 r2 h2 => k v H2 ρ2 F2 r G S2 (s1.trans s2) (p1.trans p2) (r2.back s1) h2
    | false =>
      rw [if_neg Bool.false_ne_true]
      exact k _ H1 ρ1 F1 (P (.bool false)) [] S1 s1 pp ⟨.bl false, fun _ i => nomatch i⟩ (by simpa using h1)
  | _ => exact h1.elim
theorem de_or (ha : DE X v0 ea a wa) (hb : DE X v0 eb (.BoolOp .Or (b :: es) pos) wb) : DE X v0 (ea || eb) (.BoolOp .Or (a :: b :: es) pos) (wOrV wa wb) := by
  obtain ⟨ta, pa, ra⟩ := ha
  obtain ⟨tb, pb, rb⟩ := hb
  refine ⟨_, pe_or pa pb, fun σ H ρ F S Qd Q h k => ?_⟩
  refine ra σ H ρ F S _ _ h fun x H1 ρ1 F1 r G S1 s1 p1 r1 h1 => ?_
  obtain ⟨kd, d⟩ := r
  cases d with
  | bool c =>
    refine ⟨c, rp_bool r1.read, ?_⟩
    have pp := p1.left (b := eb)
    cases c with
    | false =>
      rw [if_neg Bool.false_ne_true]
      exact rb σ H1 ρ1 F1 S1 _ _ (by simpa using h1) fun v H2 ρ2 F2 r G S2 s2 p2 r2 h2 => k v H2 ρ2 F2 r G S2 (s1.trans s2) (p1.trans p2) (r2.back s1) h2
    | true =>
      rw [if_pos rfl]
      exact k _ H1 ρ1 F1 (P (.bool true)) [] S1 s1 pp ⟨.bl true, fun _ i => nomatch i⟩ (by simpa using h1)
  | _ => exact h1.elim
theorem de_not (ha : DE X v0 ea a wa) : DE X v0 ea (.UnaryOp .Not a pos) (wNotV wa) := by
  obtain ⟨ta, pa, ra⟩ := ha
  refine ⟨_, pe_not pa, fun σ H ρ F S Qd Q h k => ?_⟩
  refine ra σ H ρ F S _ _ h fun x H1 ρ1 F1 r G S1 s1 p1 r1 h1 => ?_
  obtain ⟨kd, d⟩ := r
  cases d with
  | bool c => exact ⟨c, rp_bool r1.read, k _ H1 ρ1 F1 (P (.bool (!c))) [] S1 s1 p1 ⟨.bl _, fun _ i => nomatch i⟩ h1⟩
  | _ => exact h1.elim
/-- a op b op' c; the second and third operand change nothing that is owned -/
def wChain (wr wr' : R → R → (R → Prop) → Prop) (wa wb wc : WE) : WE := fun ρ Q => wa ρ fun ρ1 ra => wb ρ1 fun ρ2 rb => wr ra rb fun r => match r.d with
  | .bool c => if c = true then wc ρ2 fun ρ3 rc => wr' rb rc (Q ρ3) else Q ρ2 (P (.bool false))
  | _ => False
theorem re_chain {r r' : R2} {w w' : R → R → (R → Prop) → Prop} (od : OD X.K r w) (od' : OD X.K r' w') (ra : RE X.K v0 ea ta wa) (rb : RE X.K v0 false tb wb) (rc : RE X.K v0 false tc wc) : RE X.K v0 ea (tChain r r' ta tb tc) (wChain w w' wa wb wc) := by
  intro σ H ρ F S Qd Q h k
  refine ra σ H ρ F S _ _ h fun x H1 ρ1 F1 xa G1 S1 s1 p1 r1 h1 => ?_
  refine rb σ H1 ρ1 F1 S1 _ _ h1 fun y H2 ρ2 F2 xb G2 S2 s2 p2 r2 h2 => ?_
  obtain ⟨e1, e2, e3⟩ := p2.non rfl
  subst e1; subst e2
  refine od (fun a => ¬ Own F2 a) H2 x y xa xb (r1.ext e3).arg r2.arg _ _ h2 fun v H3 rz G3 e n q => ?_
  obtain ⟨kd, d⟩ := rz
  cases d with
  | bool c =>
    have rv : v = .bl c := by
      cases kd with
      | shr => exact rp_bool n.1
      | own => exact rp_bool n.1
      | als => exact rp_bool (show Rp X.K false H3 v (.bool c) G3 from n)
      | fix => exact n.elim
    refine ⟨c, rv, ?_⟩
    cases c with
    | false =>
      rw [if_neg Bool.false_ne_true]
      exact k _ H3 ρ2 F2 (P (.bool false)) [] (S2.ext e) ((s1.trans s2).trans (Step.ext e)) ((p1.ext e3).ext e) ⟨.bl false, fun _ i => nomatch i⟩ (by simpa using q)
    | true =>
      rw [if_pos rfl]
      refine rc σ H3 ρ2 F2 (S2.ext e) _ _ (by simpa using q) fun z H4 ρ4 F4 xc G4 S4 s4 p4 r4 h4 => ?_
      obtain ⟨f1, f2, f3⟩ := p4.non rfl
      subst f1; subst f2
      refine od' (fun a => ¬ Own F4 a) H4 y z xb xc ((r2.ext e).ext f3).arg r4.arg _ _ h4 fun v' H5 rz' G5 e5 n5 q5 => ?_
      have st : Step F H F4 H4 := ((s1.trans s2).trans (Step.ext e)).trans s4
      exact k _ H5 ρ4 F4 rz' G5 (S4.ext e5) (st.trans (Step.ext e5)) ((((p1.ext e3).ext e).ext f3).ext e5) (n5.res S4 st) q5
  | _ => exact q.elim
theorem de_chain {op op' : CmpOp} {r r' : R2} {w w' : R → R → (R → Prop) → Prop} (ho : OpR X (compareOp op) r) (od : OD X.K r w) (ho' : OpR X (compareOp op') r') (od' : OD X.K r' w') (ha : DE X v0 ea a wa) (hb : DE X v0 false b wb) (hc : DE X v0 false c wc)
    (hm : lastMarks [op, op'] [b, c] = false := by with_unfolding_all rfl) : DE X v0 ea (.Compare a [op, op'] [b, c] pos) (wChain w w' wa wb wc) := by
  obtain ⟨ta, pa, ra⟩ := ha
  obtain ⟨tb, pb, rb⟩ := hb
  obtain ⟨tc, pc, rc⟩ := hc
  exact ⟨_, pe_chain ho ho' pa pb pc hm, re_chain od od' ra rb rc⟩
theorem dt_chain {op op' : CmpOp} {r r' : R2} {w w' : R → R → (R → Prop) → Prop} (ho : OpR X (compareOp op) r) (od : OD X.K r w) (ho' : OpR X (compareOp op') r') (od' : OD X.K r' w') (ha : DE X v0 ea a wa) (hb : DE X v0 false b wb) (hc : DE X v0 false c wc)
    (hm : lastMarks [op, op'] [b, c] = false := by with_unfolding_all rfl) : DT X v0 ea (.Compare a [op, op'] [b, c] pos) (wB (wChain w w' wa wb wc)) := by
  obtain ⟨ta, pa, ra⟩ := ha
  obtain ⟨tb, pb, rb⟩ := hb
  obtain ⟨tc, pc, rc⟩ := hc
  exact ⟨_, pt_chain ho ho' pa pb pc hm, rt_b (re_chain od od' ra rb rc)⟩
end
end DL
namespace DL
open PySem PySem.Spec PyProof.Rows L2
structure DEnds where
  nx : DEnv → Prop
  rt : DEnv → R → Prop
  bk : DEnv → Prop := fun _ => False
  ct : DEnv → Prop := fun _ => False
abbrev WS := DEnds → DEnv → Prop
/-- what is wanted of a bound value -/
abbrev WG := R → DEnv → (DEnv → Prop) → Prop
abbrev WGs := Kd → List PyData → DEnv → (DEnv → Prop) → Prop
structure EndsOk (K : PySem.W.Frag) (v0 : Cv) (F : Nat → List Addr) (H : Hp) (Dd : DEnds) (D : Ends) : Prop where
  nx : ∀ σ' H' ρ' F', StOk K v0 σ' H' ρ' F' → Step F H F' H' → Dd.nx ρ' → D.nx σ' H'
  rt : ∀ σ' v H' ρ' F' r G, StOk K v0 σ' H' ρ' F' → Step F H F' H' → ResOk K F H F' H' r v G → Dd.rt ρ' r → D.rt v H'
  bk : ∀ σ' H' ρ' F', StOk K v0 σ' H' ρ' F' → Step F H F' H' → Dd.bk ρ' → D.bk σ' H'
  ct : ∀ σ' H' ρ' F', StOk K v0 σ' H' ρ' F' → Step F H F' H' → Dd.ct ρ' → D.ct σ' H'
def RS (K : PySem.W.Frag) (v0 : Cv) (t : TS) (w : WS) : Prop :=
  ∀ σ H ρ F, StOk K v0 σ H ρ F → ∀ Dd D, EndsOk K v0 F H Dd D → w Dd ρ → t D σ H
structure DS (X : Cx) (v0 : Cv) (st : Stmt) (w : WS) : Prop where
  ex : ∃ t, PS X st t ∧ RS X.K v0 t w
structure DSs (X : Cx) (v0 : Cv) (st : List Stmt) (w : WS) : Prop where
  ex : ∃ t, PSs X st t ∧ RS X.K v0 t w
/-- what the slots share is apart from what is owned, and from Z -/
def Sep (K : PySem.W.Frag) (σ : L2.St) (H : Hp) (ρ : DEnv) (F : Nat → List Addr) (Z : Addr → Prop) : Prop :=
  ∀ (j : Nat) (d : PyData) (w : V), ρ[j]? = some (some (R.mk .shr d)) → σ[j]? = some (some w) → ∃ G0, Rp K false H w d G0 ∧ (∀ a ∈ G0, ¬ Own F a) ∧ ∀ a ∈ G0, ¬ Z a
/-- only these slots are bound -/
def Only (ts : List Nat) (σ σ' : L2.St) (ρ ρ' : DEnv) : Prop := σ'.length = σ.length ∧ (∀ j : Nat, j ∉ ts → σ'[j]? = σ[j]?) ∧ ∀ j : Nat, j ∉ ts → ρ'[j]? = ρ[j]?
/-- a target: what is bound stands for r; the heap stays; what is owned then was owned or is r's own -/
def RB (K : PySem.W.Frag) (v0 : Cv) (ts : List Nat) (g : TG) (w : WG) : Prop :=
  ∀ F0 H0 σ H ρ F r v G Z, Step v0.F0 v0.H0 F0 H0 → StOk K v0 σ H ρ F → Step F0 H0 F H → Sep K σ H ρ F Z → ResOk K F0 H0 F H r v G → (r.k = .own → ∀ a ∈ G, Z a) → (r.k = .shr → ∀ a ∈ G, ¬ Z a) → ∀ (Qd : DEnv → Prop) (Q : L2.St → Hp → Prop), w r ρ Qd →
    (∀ σ' ρ' F', StOk K v0 σ' H ρ' F' → Step F0 H0 F' H → Sep K σ' H ρ' F' Z → (∀ a, Own F' a → Own F a ∨ (r.k = .own ∧ a ∈ G)) → Only ts σ σ' ρ ρ' → Qd ρ' → Q σ' H) → g v σ H Q
def RBs (K : PySem.W.Frag) (v0 : Cv) (ts : List Nat) (g : TGs) (w : WGs) : Prop :=
  ∀ F0 H0 σ H ρ F k ds vs G Z, Step v0.F0 v0.H0 F0 H0 → StOk K v0 σ H ρ F → Step F0 H0 F H → Sep K σ H ρ F Z →
    ((k = .own ∧ RpAll K true H vs ds G ∧ G.Nodup ∧ (∀ a ∈ G, ¬ Own F a) ∧ ∀ a ∈ G, Own F0 a ∨ H0 a = none) ∨ (k = .shr ∧ RpAll K false H vs ds G ∧ ∀ a ∈ G, ¬ Own F a)) →
    (k = .own → ∀ a ∈ G, Z a) → (k = .shr → ∀ a ∈ G, ¬ Z a) →
    ∀ (Qd : DEnv → Prop) (Q : L2.St → Hp → Prop), w k ds ρ Qd →
    (∀ σ' ρ' F', StOk K v0 σ' H ρ' F' → Step F0 H0 F' H → Sep K σ' H ρ' F' Z → (∀ a, Own F' a → Own F a ∨ (k = .own ∧ a ∈ G)) → Only ts σ σ' ρ ρ' → Qd ρ' → Q σ' H) → g vs σ H Q
structure DB (X : Cx) (v0 : Cv) (ts : List Nat) (tg : Expr) (w : WG) : Prop where
  ex : ∃ g, PG X tg g ∧ RB X.K v0 ts g w
structure DBs (X : Cx) (v0 : Cv) (ts : List Nat) (tgs : List Expr) (w : WGs) : Prop where
  ex : ∃ g, PGs X tgs g ∧ RBs X.K v0 ts g w
/-- what may be bound to a slot, and how it is held there -/
def sld (r : R) (Q : R → Prop) : Prop := if pur r.d = true then Q ⟨.shr, r.d⟩ else match r.k with
  | .own => Q r
  | .shr => Q r
  | _ => False
/-- the slot may be bound: it is there, and holds nothing that is lent -/
def free (ρ : DEnv) (i : Nat) : Prop := match ρ[i]? with
  | some (some ⟨.fix, _⟩) => False
  | some (some ⟨.als, _⟩) => False
  | some _ => True
  | none => False
def sF (F : Nat → List Addr) (i : Nat) (G : List Addr) : Nat → List Addr := fun j => if j = i then G else F j
section
variable {K : PySem.W.Frag} {v0 : Cv} {σ : L2.St} {H H' H1 H2 : Hp} {ρ ρ1 : DEnv} {F F' F1 F2 : Nat → List Addr} {Dd : DEnds} {D : Ends}
theorem EndsOk.step (e : EndsOk K v0 F H Dd D) (s : Step F H F1 H1) : EndsOk K v0 F1 H1 Dd D :=
  ⟨fun σ' H' ρ' F' S s' q => e.nx σ' H' ρ' F' S (s.trans s') q, fun σ' v H' ρ' F' r G S s' ro q => e.rt σ' v H' ρ' F' r G S (s.trans s') (ro.back s) q,
    fun σ' H' ρ' F' S s' q => e.bk σ' H' ρ' F' S (s.trans s') q, fun σ' H' ρ' F' S s' q => e.ct σ' H' ρ' F' S (s.trans s') q⟩
theorem EndsOk.wnx (e : EndsOk K v0 F H Dd D) {p : DEnv → Prop} {q : L2.St → Hp → Prop} (h : ∀ σ' H' ρ' F', StOk K v0 σ' H' ρ' F' → Step F H F' H' → p ρ' → q σ' H') : EndsOk K v0 F H { Dd with nx := p } { D with nx := q } :=
  ⟨h, e.rt, e.bk, e.ct⟩
theorem sF_big {F : Nat → List Addr} {i : Nat} {G : List Addr} (hi : i < big) (j : Nat) (h : big ≤ j) : sF F i G j = F j := by
  unfold sF
  exact if_neg (fun e : j = i => Nat.lt_irrefl i (Nat.lt_of_lt_of_le hi (e ▸ h)))
theorem sF_own {i : Nat} {G : List Addr} {a : Addr} (h : Own (sF F i G) a) : Own F a ∨ a ∈ G := by
  obtain ⟨j, h⟩ := h
  unfold sF at h
  split at h
  · exact .inr h
  · exact .inl ⟨j, h⟩
theorem sF_nil {i : Nat} {a : Addr} (h : Own (sF F i []) a) : Own F a := by
  rcases sF_own h with z | z
  · exact z
  · cases z
theorem Sep.of0 (S : StOk K v0 σ H ρ F) : Sep K σ H ρ F fun _ => False := fun j d w e1 e2 => by
  obtain ⟨v, q1, G0, q2, q3⟩ := S.slot j _ e1
  rw [e2] at q1
  cases q1
  exact ⟨G0, q2, q3, fun _ _ z => z⟩
theorem Sep.of {b : Bool} {Z : Addr → Prop} (S : StOk K v0 σ H ρ F) (e : Eff b ρ F H ρ1 F1 H1) (s : Step F H F1 H1) (hz : ∀ a, Z a → Own F a ∨ H a = none) : Sep K σ H1 ρ1 F1 Z := fun j d w e1 e2 => by
  obtain ⟨v, q1, G0, q2, q3⟩ := S.slot j _ (e.shr j d e1)
  rw [e2] at q1
  cases q1
  refine ⟨G0, q2.keep s.tups _ _ _ fun a i o h => s.keep a o h (q3 a i), fun a i z => ?_, fun a i z => ?_⟩
  · rcases s.own a z with z | z
    · exact q3 a i z
    · exact q2.live _ _ _ a i z
  · rcases hz a z with z | z
    · exact q3 a i z
    · exact q2.live _ _ _ a i z
theorem free_lt {i : Nat} (hf : free ρ i) : i < ρ.length := by
  by_cases h : i < ρ.length
  · exact h
  · unfold free at hf
    rw [List.getElem?_eq_none (by omega)] at hf
    exact hf.elim
/-- a slot is bound -/
theorem StOk.bind {F0 : Nat → List Addr} {H0 : Hp} {Z : Addr → Prop} (s0 : Step v0.F0 v0.H0 F0 H0) (S : StOk K v0 σ H ρ F) (s : Step F0 H0 F H) (sp : Sep K σ H ρ F Z) {i : Nat} (hf : free ρ i) {r : R} {v : V} {G : List Addr} (ro : ResOk K F0 H0 F H r v G)
    (z1 : r.k = .own → ∀ a ∈ G, Z a) (z2 : r.k = .shr → ∀ a ∈ G, ¬ Z a) {Qd : R → Prop} (h : sld r Qd) :
    ∃ r' F', Qd r' ∧ StOk K v0 (σ.set i (some v)) H (ρ.set i (some r')) F' ∧ Step F0 H0 F' H ∧ Sep K (σ.set i (some v)) H (ρ.set i (some r')) F' Z ∧ ∀ a, Own F' a → Own F a ∨ (r.k = .own ∧ a ∈ G) := by
  have hi : i < ρ.length := free_lt hf
  have hiσ : i < σ.length := by rw [← S.len]; exact hi
  -- the new state, from what the new slot owns (G') or shares (G1)
  have mk : ∀ (G' G1 : List Addr) (r' : R), (∀ a ∈ G', ¬ Own F a) → (∀ a ∈ G', H a ≠ none) → G'.Nodup → (∀ a ∈ G', Z a) → (∀ a ∈ G', Own F0 a ∨ H0 a = none) → SlotOk K v0 H (sF F i G') i r' v → r'.k ≠ .fix →
      (r'.k = .shr → Rp K false H v r'.d G1 ∧ (∀ a ∈ G1, ¬ Own (sF F i G') a) ∧ ∀ a ∈ G1, ¬ Z a) →
      StOk K v0 (σ.set i (some v)) H (ρ.set i (some r')) (sF F i G') ∧ Step F0 H0 (sF F i G') H ∧ Sep K (σ.set i (some v)) H (ρ.set i (some r')) (sF F i G') Z := by
    intro G' G1 r' hn hl nd hz ho so nf hs
    have apart : ∀ (j : Nat) (d : PyData) (w : V), ρ[j]? = some (some (R.mk .shr d)) → σ[j]? = some (some w) → ∃ G0, Rp K false H w d G0 ∧ (∀ a ∈ G0, ¬ Own (sF F i G') a) ∧ ∀ a ∈ G0, ¬ Z a := fun j d w e1 e2 => by
      obtain ⟨G0, q1, q2, q3⟩ := sp j d w e1 e2
      refine ⟨G0, q1, fun a ha z => ?_, q3⟩
      rcases sF_own z with z | z
      · exact q2 a ha z
      · exact q3 a ha (hz a z)
    refine ⟨⟨fun j r0 e => ?_, fun j => ?_, fun j l a h1 h2 => ?_, fun a h => ?_, by simp [S.len], by simpa using S.sm, ?st⟩, ⟨s.keep, fun a h => ?_, s.tups, fun j h => (sF_big (Nat.lt_of_lt_of_le hiσ S.sm) j h).trans (s.per j h), s.pk⟩, fun j d w e1 e2 => ?_⟩
    case st =>
      refine ⟨S.st.keep, fun a h => ?_, S.st.tups, fun j h => (sF_big (Nat.lt_of_lt_of_le hiσ S.sm) j h).trans (S.st.per j h), S.st.pk⟩
      rcases sF_own h with z | z
      · exact S.st.own a z
      · rcases ho a z with y | y
        · exact s0.own a y
        · exact s0.none_of y
    · by_cases hj : j = i
      · subst hj
        rw [List.getElem?_set_self hi] at e
        cases e
        exact ⟨v, List.getElem?_set_self hiσ, so⟩
      · rw [List.getElem?_set_ne (Ne.symm hj)] at e
        obtain ⟨w, e1, so0⟩ := S.slot j r0 e
        refine ⟨w, by rw [List.getElem?_set_ne (Ne.symm hj)]; exact e1, ?_⟩
        obtain ⟨k, d⟩ := r0
        have hF : sF F i G' j = F j := by unfold sF; rw [if_neg hj]
        cases k with
        | shr =>
          obtain ⟨G0, q1, q2, _⟩ := apart j d w e e1
          exact ⟨G0, q1, q2⟩
        | own =>
          show Rp K true H w d (sF F i G' j)
          rw [hF]
          exact so0
        | fix =>
          refine ⟨?_, so0.2⟩
          show Rp K true H w d (sF F i G' j)
          rw [hF]
          exact so0.1
        | als => exact so0
    · unfold sF
      split
      · exact nd
      · exact S.nd j
    · unfold sF at h1 h2
      split at h1 <;> split at h2
      · rename_i e1 e2
        rw [e1, e2]
      · exact absurd ⟨l, h2⟩ (hn a h1)
      · exact absurd ⟨j, h1⟩ (hn a h2)
      · exact S.dj j l a h1 h2
    · rcases sF_own h with z | z
      · exact S.live a z
      · exact hl a z
    · rcases sF_own h with z | z
      · exact s.own a z
      · exact ho a z
    · by_cases hj : j = i
      · subst hj
        rw [List.getElem?_set_self hi] at e1
        rw [List.getElem?_set_self hiσ] at e2
        cases e1
        cases e2
        exact ⟨G1, hs rfl⟩
      · rw [List.getElem?_set_ne (Ne.symm hj)] at e1 e2
        exact apart j d w e1 e2
  unfold sld at h
  by_cases hp : pur r.d = true
  · rw [if_pos hp] at h
    obtain ⟨_, q⟩ := Rp.pure' (m' := false) _ _ _ ro.read hp
    obtain ⟨a1, a2, a3⟩ := mk [] [] ⟨.shr, r.d⟩ (fun _ z => nomatch z) (fun _ z => nomatch z) List.nodup_nil (fun _ z => nomatch z) (fun _ z => nomatch z) ⟨[], q, fun _ z => nomatch z⟩ (by intro z; cases z) fun _ => ⟨q, (fun _ z => nomatch z), fun _ z => nomatch z⟩
    exact ⟨_, _, h, a1, a2, a3, fun a h => .inl (sF_nil h)⟩
  · rw [if_neg hp] at h
    obtain ⟨k, d⟩ := r
    cases k with
    | own =>
      obtain ⟨q, nd, n, o⟩ := ro
      obtain ⟨a1, a2, a3⟩ := mk G [] ⟨.own, d⟩ n (q.live _ _ _) nd (z1 rfl) o (by
        show Rp K true H v d (sF F i G i)
        unfold sF
        rw [if_pos rfl]
        exact q) (by intro z; cases z) fun z => by cases z
      exact ⟨_, _, h, a1, a2, a3, fun a h => (sF_own h).imp id fun z => ⟨rfl, z⟩⟩
    | shr =>
      obtain ⟨q, n⟩ := ro
      obtain ⟨a1, a2, a3⟩ := mk [] G ⟨.shr, d⟩ (fun _ z => nomatch z) (fun _ z => nomatch z) List.nodup_nil (fun _ z => nomatch z) (fun _ z => nomatch z) ⟨G, q, fun a ha z => n a ha (sF_nil z)⟩ (by intro z; cases z) fun _ => ⟨q, fun a ha z => n a ha (sF_nil z), z2 rfl⟩
      exact ⟨_, _, h, a1, a2, a3, fun a h => .inl (sF_nil h)⟩
    | fix => exact h.elim
    | als => exact h.elim
end
section
variable {X : Cx} {v0 : Cv} {a b c e : Expr} {es : List Expr} {pos : Pos} {ea eb ec : Bool} {wa wb wc we : WE} {wr : WA} {ta tb tc te : TE} {tr : TA} {wt wu : WT} {st : Stmt} {sts : List Stmt} {w u : WS}
def wNext : WS := fun D ρ => D.nx ρ
def wSeq (t u : WS) : WS := fun D ρ => t { D with nx := u D } ρ
theorem ds_nil : DSs X v0 [] wNext := ⟨_, pss_nil, fun σ H ρ F S Dd D e h => e.nx σ H ρ F S Step.refl h⟩
theorem ds_cons (h1 : DS X v0 st w) (h2 : DSs X v0 sts u) : DSs X v0 (st :: sts) (wSeq w u) := by
  obtain ⟨t, p, q⟩ := h1
  obtain ⟨t', p', q'⟩ := h2
  exact ⟨_, pss_cons p p', fun σ H ρ F S Dd D e h => q σ H ρ F S _ _ (e.wnx fun σ' H' ρ' F' S' s' h' => q' σ' H' ρ' F' S' _ _ (e.step s') h') h⟩
theorem ds_sole (h1 : DS X v0 st w) : DSs X v0 [st] w := by
  obtain ⟨t, p, q⟩ := h1
  exact ⟨_, pss_one p, q⟩
/-- a cut: what is known behind the first part -/
def wCut (t u : WS) : WS := fun D ρ => ∃ M : DEnv → Prop, t { D with nx := M } ρ ∧ ∀ ρ', M ρ' → u D ρ'
theorem ds_cut (h1 : DS X v0 st w) (h2 : DSs X v0 sts u) : DSs X v0 (st :: sts) (wCut w u) := by
  obtain ⟨t, p, q⟩ := h1
  obtain ⟨t', p', q'⟩ := h2
  refine ⟨_, pss_cons p p', fun σ H ρ F S Dd D e h => ?_⟩
  obtain ⟨M, h, hm⟩ := h
  exact q σ H ρ F S _ _ (e.wnx fun σ' H' ρ' F' S' s' h' => q' σ' H' ρ' F' S' _ _ (e.step s') (hm ρ' h')) h
def wBreak : WS := fun D ρ => D.bk ρ
def wCont : WS := fun D ρ => D.ct ρ
theorem ds_pass : DS X v0 (.Pass pos) wNext := ⟨_, ps_pass, fun σ H ρ F S Dd D e h => e.nx σ H ρ F S Step.refl h⟩
theorem ds_break : DS X v0 (.Break pos) wBreak := ⟨_, ps_break, fun σ H ρ F S Dd D e h => e.bk σ H ρ F S Step.refl h⟩
theorem ds_continue : DS X v0 (.Continue pos) wCont := ⟨_, ps_continue, fun σ H ρ F S Dd D e h => e.ct σ H ρ F S Step.refl h⟩
def wNever : WS := fun _ _ => False
theorem ds_never : DS X v0 st wNever := ⟨_, ps_never, fun _ _ _ _ _ _ _ _ h => h.elim⟩
theorem dss_never : DSs X v0 sts wNever := ⟨_, pss_never, fun _ _ _ _ _ _ _ _ h => h.elim⟩
def wDrop (we : WE) : WS := fun D ρ => we ρ fun ρ1 _ => D.nx ρ1
theorem ds_expr (he : DE X v0 ea e we) (hs : swapsWith e none pos.line X.env = pure false := by rfl) : DS X v0 (.Expr e pos) (wDrop we) := by
  obtain ⟨t, p, q⟩ := he
  exact ⟨_, ps_expr p hs, fun σ H ρ F S Dd D e h => q σ H ρ F S _ _ h fun v H1 ρ1 F1 r G S1 s1 p1 r1 h1 => e.nx σ H1 ρ1 F1 S1 s1 h1⟩
def wRet (we : WE) : WS := fun D ρ => we ρ D.rt
theorem ds_ret (he : DE X v0 ea e we) : DS X v0 (.Return (some e) pos) (wRet we) := by
  obtain ⟨t, p, q⟩ := he
  exact ⟨_, ps_ret p, fun σ H ρ F S Dd D e h => q σ H ρ F S _ _ h fun v H1 ρ1 F1 r G S1 s1 p1 r1 h1 => e.rt σ v H1 ρ1 F1 r G S1 s1 r1 h1⟩
def wRetN : WS := fun D ρ => D.rt ρ (P .none)
theorem ds_retN : DS X v0 (.Return none pos) wRetN := ⟨_, ps_retN, fun σ H ρ F S Dd D e h => e.rt σ _ H ρ F (P .none) [] S Step.refl ⟨.non, fun _ i => nomatch i⟩ h⟩
/-- return x, x owned: it is handed out -/
def wRetX (i : Nat) : WS := fun D ρ => match ρ[i]? with
  | some (some ⟨.own, d⟩) => D.rt (ρ.set i none) ⟨.own, d⟩
  | _ => False
theorem StOk.ilt {K : PySem.W.Frag} {v0 : Cv} {σ : L2.St} {H : Hp} {ρ : DEnv} {F : Nat → List Addr} (S : StOk K v0 σ H ρ F) {i : Nat} {r : Option R} (h : ρ[i]? = some r) : i < big :=
  Nat.lt_of_lt_of_le (S.len ▸ (List.getElem?_eq_some_iff.mp h).1) S.sm
theorem Step.drop {F : Nat → List Addr} {H : Hp} (i : Nat) (hi : i < big) : Step F H (sF F i []) H := ⟨fun _ _ h _ => h, fun _ z => .inl (sF_nil z), fun _ _ h => h, fun j h => sF_big hi j h, fun _ _ _ _ _ h => h⟩
theorem StOk.drop {K : PySem.W.Frag} {σ : L2.St} {H : Hp} {ρ : DEnv} {F : Nat → List Addr} (S : StOk K v0 σ H ρ F) (i : Nat) (hb : i < big) : StOk K v0 σ H (ρ.set i none) (sF F i []) where
  slot := fun j r e => by
    by_cases hj : j = i
    · subst hj
      by_cases hl : j < ρ.length
      · rw [List.getElem?_set_self hl] at e
        cases e
      · rw [List.getElem?_eq_none (by simpa using hl)] at e
        cases e
    · rw [List.getElem?_set_ne (Ne.symm hj)] at e
      obtain ⟨w, e1, so⟩ := S.slot j r e
      refine ⟨w, e1, ?_⟩
      obtain ⟨k, d⟩ := r
      have hF : sF F i [] j = F j := by unfold sF; rw [if_neg hj]
      cases k with
      | shr =>
        obtain ⟨G0, q1, q2⟩ := so
        exact ⟨G0, q1, fun a ha z => q2 a ha (sF_nil z)⟩
      | own =>
        show Rp K true H w d (sF F i [] j)
        rw [hF]
        exact so
      | fix =>
        refine ⟨?_, so.2⟩
        show Rp K true H w d (sF F i [] j)
        rw [hF]
        exact so.1
      | als => exact so
  nd := fun j => by
    unfold sF
    split
    · exact List.nodup_nil
    · exact S.nd j
  dj := fun j l a h1 h2 => by
    unfold sF at h1 h2
    split at h1 <;> split at h2
    · cases h1
    · cases h1
    · cases h2
    · exact S.dj j l a h1 h2
  live := fun a z => S.live a (sF_nil z)
  len := by simp [S.len]
  sm := S.sm
  st := S.st.trans (Step.drop i hb)
theorem ds_retX (i : Nat) {x : Str} {p' : Pos} (hN : X.N[i]? = some x := by rfl) (hv : Vis X.env.scope x := by first | exact Or.inl rfl | exact Or.inr (Or.inl rfl) | exact Or.inr (Or.inr rfl)) (hd : (x == ("__debug__" : Str)) = false := by decide)
    (hcd : (x == ("__classdict__" : Str)) = false := by decide) : DS X v0 (.Return (some (.Name x p')) pos) (wRetX i) := by
  refine ⟨_, ps_ret (pe_var hN hv hd hcd), fun σ H ρ F S Dd D e h => ?_⟩
  unfold wRetX at h
  split at h
  · rename_i d e1
    obtain ⟨v, e2, so⟩ := S.slot i _ e1
    refine ⟨v, e2, ?_⟩
    refine e.rt σ v H (ρ.set i none) (sF F i []) ⟨.own, d⟩ (F i) (S.drop i (S.ilt e1)) (Step.drop i (S.ilt e1)) ⟨so, S.nd i, fun a ha z => ?_, fun a ha => .inl ⟨i, ha⟩⟩ h
    obtain ⟨j, hj⟩ := z
    unfold sF at hj
    split at hj
    · cases hj
    · rename_i n
      exact n (S.dj j i a hj ha)
  · exact h.elim
def wIf (c : WT) (t u : WS) : WS := fun D ρ => c ρ fun ρ1 b => if b = true then t D ρ1 else u D ρ1
theorem ds_if {p q : List Stmt} (hc : DT X v0 ec c wt) (ha : DSs X v0 p w) (hb : DSs X v0 q u) : DS X v0 (.If c p q pos) (wIf wt w u) := by
  obtain ⟨t, p, q⟩ := hc
  obtain ⟨t1, p1, q1⟩ := ha
  obtain ⟨t2, p2, q2⟩ := hb
  refine ⟨_, ps_if p p1 p2, fun σ H ρ F S Dd D e h => ?_⟩
  refine q σ H ρ F S _ _ h fun b H1 ρ1 F1 S1 s1 p1 h1 => ?_
  cases b with
  | true =>
    rw [if_pos rfl] at h1 ⊢
    exact q1 σ H1 ρ1 F1 S1 _ _ (e.step s1) h1
  | false =>
    rw [if_neg Bool.false_ne_true] at h1 ⊢
    exact q2 σ H1 ρ1 F1 S1 _ _ (e.step s1) h1
/-- what a slot owns is shared from here on -/
def frz (ρ : DEnv) (i : Nat) : DEnv := match ρ[i]? with
  | some (some ⟨.own, d⟩) => ρ.set i (some ⟨.shr, d⟩)
  | _ => ρ
theorem StOk.frz {K : PySem.W.Frag} {σ : L2.St} {H : Hp} {ρ : DEnv} {F : Nat → List Addr} (S : StOk K v0 σ H ρ F) (i : Nat) : ∃ F', StOk K v0 σ H (frz ρ i) F' ∧ Step F H F' H := by
  unfold DL.frz
  split
  · rename_i d e
    refine ⟨sF F i [], ?_, Step.drop i (S.ilt e)⟩
    have T := S.drop i (S.ilt e)
    have hi : i < ρ.length := (List.getElem?_eq_some_iff.mp e).1
    obtain ⟨v, e1, so⟩ := S.slot i _ e
    refine ⟨fun j r h => ?_, T.nd, T.dj, T.live, by simp [S.len], S.sm, T.st⟩
    by_cases hj : j = i
    · subst hj
      rw [List.getElem?_set_self hi] at h
      cases h
      refine ⟨v, e1, F j, Rp.weak _ _ _ so, fun a ha z => ?_⟩
      obtain ⟨l, hl⟩ := z
      unfold sF at hl
      split at hl
      · cases hl
      · rename_i n
        exact n (S.dj l j a hl ha)
    · rw [List.getElem?_set_ne (Ne.symm hj)] at h
      exact T.slot j r (by rw [List.getElem?_set_ne (Ne.symm hj)]; exact h)
  · exact ⟨F, S, Step.refl⟩
theorem ds_frz (i : Nat) (h : DS X v0 st w) : DS X v0 st (fun D ρ => w D (frz ρ i)) := by
  obtain ⟨t, p, q⟩ := h
  refine ⟨_, p, fun σ H ρ F S Dd D e h => ?_⟩
  obtain ⟨F', S', s'⟩ := S.frz i
  exact q σ H _ F' S' _ _ (e.step s') h
def wName (i : Nat) : WG := fun r ρ Q => free ρ i ∧ sld r fun r' => Q (ρ.set i (some r'))
theorem Only.set {σ : L2.St} {ρ : DEnv} {i : Nat} {v : Option V} {r : Option R} : Only [i] σ (σ.set i v) ρ (ρ.set i r) := ⟨by simp, fun j h => List.getElem?_set_ne (fun e => h (by simp [e])), fun j h => List.getElem?_set_ne (fun e => h (by simp [e]))⟩
theorem Only.trans {ts us : List Nat} {σ σ1 σ2 : L2.St} {ρ ρ1 ρ2 : DEnv} (a : Only ts σ σ1 ρ ρ1) (b : Only us σ1 σ2 ρ1 ρ2) : Only (ts ++ us) σ σ2 ρ ρ2 :=
  ⟨b.1.trans a.1, fun j h => (b.2.1 j fun z => h (List.mem_append_right _ z)).trans (a.2.1 j fun z => h (List.mem_append_left _ z)), fun j h => (b.2.2 j fun z => h (List.mem_append_right _ z)).trans (a.2.2 j fun z => h (List.mem_append_left _ z))⟩
theorem rb_name {K : PySem.W.Frag} (i : Nat) : RB K v0 [i] (gName i) (wName i) := fun F0 H0 σ H ρ F r v G Z s0 S s sp ro z1 z2 Qd Q h k => by
  obtain ⟨r', F', q, S', s', sp', ho⟩ := S.bind s0 s sp h.1 ro z1 z2 h.2
  exact k _ _ F' S' s' sp' ho Only.set q
theorem db_name (i : Nat) {x : Str} (hN : X.N.Nodup) (hi : X.N[i]? = some x := by rfl) (hx : Loc X.env.scope x := by first | exact Or.inl rfl | exact Or.inr rfl) (hf : X.fn x = true ∨ X.env.scope.names.lookup x = some .local := by first | exact .inl rfl | exact .inr rfl) :
    DB X v0 [i] (.Name x pos) (wName i) := ⟨_, pg_name hN hi hx hf, rb_name i⟩
def wgNil : WGs := fun _ ds ρ Q => ds = [] ∧ Q ρ
def wgCons (t : WG) (u : WGs) : WGs := fun k ds ρ Q => ∃ d r, ds = d :: r ∧ t ⟨k, d⟩ ρ fun ρ1 => u k r ρ1 Q
theorem rbs_nil {K : PySem.W.Frag} : RBs K v0 [] gNil wgNil := by
  intro F0 H0 σ H ρ F k ds vs G Z s0 S s sp hr z1 z2 Qd Q h kk
  obtain ⟨rfl, h⟩ := h
  have : vs = [] := by
    rcases hr with ⟨_, q, _⟩ | ⟨_, q, _⟩ <;> cases q <;> rfl
  exact ⟨this, kk σ ρ F S s sp (fun a z => .inl z) ⟨rfl, (fun _ _ => rfl), fun _ _ => rfl⟩ h⟩
theorem rbs_cons {K : PySem.W.Frag} {g : TG} {g' : TGs} {wg : WG} {ws : WGs} {ts us : List Nat} (q : RB K v0 ts g wg) (q' : RBs K v0 us g' ws) : RBs K v0 (ts ++ us) (gCons g g') (wgCons wg ws) := by
  intro F0 H0 σ H ρ F k ds vs G Z s0 S s sp hr z1 z2 Qd Q h kk
  obtain ⟨d, ds', rfl, h⟩ := h
  rcases hr with ⟨rfl, hr, nd, n, o⟩ | ⟨rfl, hr, n⟩
  · cases hr with
    | @cons v vs' _ _ G1 G2 r1 r2 =>
      rw [List.nodup_append] at nd
      obtain ⟨nd1, nd2, nd3⟩ := nd
      refine ⟨v, vs', rfl, q F0 H0 σ H ρ F ⟨.own, d⟩ v G1 Z s0 S s sp ⟨r1, nd1, fun a i => n a (List.mem_append_left _ i), fun a i => o a (List.mem_append_left _ i)⟩ (fun _ a i => z1 rfl a (List.mem_append_left _ i)) (fun z => by cases z) _ _ h fun σ' ρ' F' S' s' sp' ho on hq => ?_⟩
      refine q' F0 H0 σ' H ρ' F' .own ds' vs' G2 Z s0 S' s' sp' (.inl ⟨rfl, r2, nd2, fun a i z => ?_, fun a i => o a (List.mem_append_right _ i)⟩) (fun _ a i => z1 rfl a (List.mem_append_right _ i)) (fun z => by cases z) _ _ hq fun σ2 ρ2 F2 S2 s2 sp2 ho2 on2 h2 => ?_
      · rcases ho a z with z | ⟨_, z⟩
        · exact n a (List.mem_append_right _ i) z
        · exact nd3 a z a i rfl
      · refine kk σ2 ρ2 F2 S2 s2 sp2 (fun a z => ?_) (on.trans on2) h2
        rcases ho2 a z with z | ⟨_, z⟩
        · rcases ho a z with z | ⟨_, z⟩
          · exact .inl z
          · exact .inr ⟨rfl, List.mem_append_left _ z⟩
        · exact .inr ⟨rfl, List.mem_append_right _ z⟩
  · cases hr with
    | @cons v vs' _ _ G1 G2 r1 r2 =>
      refine ⟨v, vs', rfl, q F0 H0 σ H ρ F ⟨.shr, d⟩ v G1 Z s0 S s sp ⟨r1, fun a i => n a (List.mem_append_left _ i)⟩ (fun z => by cases z) (fun _ a i => z2 rfl a (List.mem_append_left _ i)) _ _ h fun σ' ρ' F' S' s' sp' ho on hq => ?_⟩
      refine q' F0 H0 σ' H ρ' F' .shr ds' vs' G2 Z s0 S' s' sp' (.inr ⟨rfl, r2, fun a i z => ?_⟩) (fun z => by cases z) (fun _ a i => z2 rfl a (List.mem_append_right _ i)) _ _ hq fun σ2 ρ2 F2 S2 s2 sp2 ho2 on2 h2 => ?_
      · rcases ho a z with z | ⟨z, _⟩
        · exact n a (List.mem_append_right _ i) z
        · cases z
      · refine kk σ2 ρ2 F2 S2 s2 sp2 (fun a z => ?_) (on.trans on2) h2
        rcases ho2 a z with z | ⟨z, _⟩
        · rcases ho a z with z | ⟨z, _⟩
          · exact .inl z
          · cases z
        · cases z
theorem dbs_nil : DBs X v0 [] [] wgNil := ⟨_, pgs_nil, rbs_nil⟩
theorem dbs_cons {wg : WG} {ws : WGs} {ts us : List Nat} (h1 : DB X v0 ts e wg) (h2 : DBs X v0 us es ws) (hs : (assignEach (e :: es) X.env).map (·.2) = assign e X.env :: (assignEach es X.env).map (·.2) := by rfl) : DBs X v0 (ts ++ us) (e :: es) (wgCons wg ws) := by
  obtain ⟨g, p, q⟩ := h1
  obtain ⟨g', p', q'⟩ := h2
  exact ⟨_, pgs_cons p p' hs, rbs_cons q q'⟩
def wTupT (n : Nat) (u : WGs) : WG := fun r ρ Q => match r.d with
  | .tuple ds => ds.length = n ∧ (if purs ds = true then u .shr ds ρ Q else match r.k with
    | .own => u .own ds ρ Q
    | .shr => u .shr ds ρ Q
    | _ => False)
  | _ => False
theorem db_tup {k0 : Nat} {n : Nat} {ws : WGs} {ts : List Nat} (hc : X.calm = true) (h : DBs X v0 ts es ws) (hn : (assignEach es X.env).length = n := by rfl) (hst : (assignEach es X.env).findIdx? (·.1) = none := by rfl) : DB X v0 ts (.Tuple es k0 pos) (wTupT n ws) := by
  obtain ⟨g, p, q⟩ := h
  refine ⟨_, pg_tup hc p hn hst, fun F0 H0 σ H ρ F r v G Z s0 S s sp ro z1 z2 Qd Q h k => ?_⟩
  obtain ⟨kd, d⟩ := r
  unfold wTupT at h
  cases d with
  | tuple ds =>
    obtain ⟨hl, h⟩ := h
    have rd : Rp X.K false H v (.tuple ds) G := ro.read
    by_cases hp : purs ds = true
    · have h : g = g ∧ ws .shr ds ρ Qd := ⟨rfl, by simpa [hp] using h⟩
      obtain ⟨_, q0⟩ := Rp.pure' (m' := false) _ _ _ rd (by simpa [pur] using hp)
      obtain ⟨a, xs, rfl, hs, ra⟩ := q0.sqt
      exact ⟨a, xs, rfl, hs, by rw [ra.length]; exact hl, q F0 H0 σ H ρ F .shr ds xs [] Z s0 S s sp (.inr ⟨rfl, ra, fun _ i => nomatch i⟩) (fun z => by cases z) (fun _ _ i => nomatch i) Qd Q h.2
        fun σ' ρ' F' S' s' sp' ho on hq => k σ' ρ' F' S' s' sp' (fun a z => (ho a z).elim .inl fun ⟨z, _⟩ => by cases z) on hq⟩
    · simp only [if_neg hp] at h
      cases kd with
      | own =>
        obtain ⟨r1, nd, n1, o⟩ := ro
        obtain ⟨a, xs, rfl, hs, ra⟩ := Rp.sqt (show Rp X.K true H v (.tuple ds) G from r1)
        exact ⟨a, xs, rfl, hs, by rw [ra.length]; exact hl, q F0 H0 σ H ρ F .own ds xs G Z s0 S s sp (.inl ⟨rfl, ra, nd, n1, o⟩) (fun _ => z1 rfl) (fun z => by cases z) Qd Q h k⟩
      | shr =>
        obtain ⟨r1, n1⟩ := ro
        obtain ⟨a, xs, rfl, hs, ra⟩ := Rp.sqt (show Rp X.K false H v (.tuple ds) G from r1)
        exact ⟨a, xs, rfl, hs, by rw [ra.length]; exact hl, q F0 H0 σ H ρ F .shr ds xs G Z s0 S s sp (.inr ⟨rfl, ra, n1⟩) (fun z => by cases z) (fun _ => z2 rfl) Qd Q h k⟩
      | als => exact h.elim
      | fix => exact h.elim
  | _ => exact h.elim
theorem own_orig {K : PySem.W.Frag} {F : Nat → List Addr} {H : Hp} {F' : Nat → List Addr} {H' : Hp} {r : R} {v : V} {G : List Addr} (ro : ResOk K F H F' H' r v G) : ∀ a, (r.k = .own ∧ a ∈ G) → Own F a ∨ H a = none := fun a ⟨e, i⟩ => by
  obtain ⟨k, d⟩ := r
  cases e
  exact ro.2.2.2 a i
def wAsg (we : WE) (g : WG) : WS := fun D ρ => we ρ fun ρ1 r => g r ρ1 D.nx
theorem rs_asg {g : TG} {wg : WG} {ts : List Nat} (h1 : RE X.K v0 ea te we) (h2 : RB X.K v0 ts g wg) : RS X.K v0 (tAsg te g) (wAsg we wg) := by
  intro σ H ρ F S Dd D e h
  refine h1 σ H ρ F S _ _ h fun v H1 ρ1 F1 r G S1 s1 p1 r1 h1 => ?_
  refine h2 F H σ H1 ρ1 F1 r v G (fun a => r.k = .own ∧ a ∈ G) S.st S1 s1 (Sep.of S p1 s1 (own_orig r1)) r1 (fun z a i => ⟨z, i⟩) (fun z a i w => ?_) _ _ h1 fun σ' ρ' F' S' s' sp' ho on hq => e.nx σ' H1 ρ' F' S' s' hq
  rw [w.1] at z
  cases z
theorem ds_asg {tg : Expr} {wg : WG} {ts : List Nat} (he : DE X v0 ea e we) (hg : DB X v0 ts tg wg) (hs : swapsWithSole [tg] e pos.line X.env = pure false := by rfl) (hw : swappedStores [tg] e X.env = pure none := by rfl)
    (h1 : (assignEach [tg] X.env).map (·.2) = [assign tg X.env] := by rfl) : DS X v0 (.Assign [tg] e pos) (wAsg we wg) := by
  obtain ⟨t, p, q⟩ := he
  obtain ⟨g, p', q'⟩ := hg
  exact ⟨_, ps_asg p p' hs hw h1, rs_asg q q'⟩
def wSet (i : Nat) (we : WE) : WS := wAsg we (wName i)
theorem ds_set (i : Nat) {x : Str} {p' : Pos} (hN : X.N.Nodup) (he : DE X v0 ea e we) (hi : X.N[i]? = some x := by rfl) (hx : Loc X.env.scope x := by first | exact Or.inl rfl | exact Or.inr rfl) (hs : swapsWith e (some (.Name x p')) pos.line X.env = pure false := by rfl)
    (hf : X.fn x = true ∨ X.env.scope.names.lookup x = some .local := by first | exact .inl rfl | exact .inr rfl) : DS X v0 (.Assign [.Name x p'] e pos) (wSet i we) := by
  obtain ⟨t, p, q⟩ := he
  refine ⟨_, ps_set hN hi hx p hs hf, ?_⟩
  intro σ H ρ F S Dd D e h
  refine q σ H ρ F S _ _ h fun v H1 ρ1 F1 r G S1 s1 p1 r1 h1 => ?_
  obtain ⟨r', F', hq, S', s', sp', ho⟩ := S1.bind S.st s1 (Sep.of S p1 s1 (own_orig r1)) h1.1 r1 (fun z a i => ⟨z, i⟩) (fun z a i w => by rw [w.1] at z; cases z) h1.2
  exact e.nx _ _ _ _ S' s' hq
/-- x = y, y owned: what it owns goes over to x -/
def wMove (i j : Nat) : WS := fun D ρ => match ρ[j]? with
  | some (some ⟨.own, d⟩) => free (ρ.set j none) i ∧ D.nx ((ρ.set j none).set i (some ⟨.own, d⟩))
  | _ => False
theorem ds_move (i j : Nat) {x y : Str} {p' p2 : Pos} (hN : X.N.Nodup) (hi : X.N[i]? = some x := by rfl) (hx : Loc X.env.scope x := by first | exact Or.inl rfl | exact Or.inr rfl) (hj : X.N[j]? = some y := by rfl)
    (hv : Vis X.env.scope y := by first | exact Or.inl rfl | exact Or.inr (Or.inl rfl) | exact Or.inr (Or.inr rfl)) (hd : (y == ("__debug__" : Str)) = false := by decide)
    (hcd : (y == ("__classdict__" : Str)) = false := by decide) (hs : swapsWith (.Name y p2) (some (.Name x p')) pos.line X.env = pure false := by rfl)
    (hf : X.fn x = true ∨ X.env.scope.names.lookup x = some .local := by first | exact .inl rfl | exact .inr rfl) : DS X v0 (.Assign [.Name x p'] (.Name y p2) pos) (wMove i j) := by
  refine ⟨_, ps_set hN hi hx (pe_var hj hv hd hcd) hs hf, fun σ H ρ F S Dd D e h => ?_⟩
  unfold wMove at h
  split at h
  · rename_i d e1
    obtain ⟨v, e2, so⟩ := S.slot j _ e1
    refine ⟨v, e2, ?_⟩
    have ro : ResOk X.K F H (sF F j []) H ⟨.own, d⟩ v (F j) := ⟨so, S.nd j, fun a ha z => by
      obtain ⟨l, hl⟩ := z
      unfold sF at hl
      split at hl
      · cases hl
      · rename_i n
        exact n (S.dj l j a hl ha), fun a ha => .inl ⟨j, ha⟩⟩
    have sp : Sep X.K σ H (ρ.set j none) (sF F j []) (fun a => a ∈ F j) := Sep.of (b := true) S ⟨fun l d h => by
      by_cases hl : l = j
      · subst hl
        have hi : l < ρ.length := (List.getElem?_eq_some_iff.mp e1).1
        rw [List.getElem?_set_self hi] at h
        cases h
      · rw [List.getElem?_set_ne (Ne.symm hl)] at h
        exact h, fun z => by cases z⟩ (Step.drop j (S.ilt e1)) fun a z => .inl ⟨j, z⟩
    have hsl : sld ⟨.own, d⟩ fun r' => r' = ⟨.own, d⟩ ∨ (pur d = true ∧ r' = ⟨.shr, d⟩) := by
      unfold sld
      split
      · rename_i hp
        exact .inr ⟨hp, rfl⟩
      · exact .inl rfl
    obtain ⟨r', F', hq, S', s', sp', ho⟩ := (S.drop j (S.ilt e1)).bind S.st (Step.drop j (S.ilt e1)) sp h.1 ro (fun _ a i => i) (fun z => by cases z) hsl
    rcases hq with rfl | ⟨hp, rfl⟩
    · exact e.nx _ _ _ _ S' s' h.2
    · -- data without lists is owned as well as shared
      have hib : i < big := Nat.lt_of_lt_of_le (by have := S'.len; have := free_lt h.1; simp at *; omega) S'.sm
      refine e.nx _ _ _ (sF F' i []) ⟨fun l r0 e0 => ?_, (S'.drop i hib).nd, (S'.drop i hib).dj, (S'.drop i hib).live, by simp [S.len], S'.sm, (S'.drop i hib).st⟩ (s'.trans (Step.drop i (Nat.lt_of_lt_of_le (by have := S'.len; have := free_lt h.1; simp at *; omega) S'.sm))) h.2
      have hil := free_lt h.1
      by_cases hl : l = i
      · subst hl
        rw [List.getElem?_set_self hil] at e0
        cases e0
        obtain ⟨w, w1, G, w2, w3⟩ := S'.slot l ⟨.shr, d⟩ (by rw [List.getElem?_set_self hil])
        refine ⟨w, w1, ?_⟩
        show Rp X.K true H w d (sF F' l [] l)
        unfold sF
        rw [if_pos rfl]
        exact (Rp.pure' (m' := true) _ _ _ w2 hp).2
      · rw [List.getElem?_set_ne (Ne.symm hl)] at e0
        exact (S'.drop i hib).slot l r0 (by rw [List.getElem?_set_ne (Ne.symm hl), List.getElem?_set_ne (Ne.symm hl)]; exact e0)
  · exact h.elim
/-- a, b = e1, e2 and a, b, c = e1, e2, e3, by slots -/
def kPar (rs : List R) : Kd := if rs.all owp = true then .own else .shr
def wPar (wr : WA) (gs : WGs) : WS := fun D ρ => wr ρ fun ρ1 rs => (rs.all owp = true ∨ rs.all stb = true) ∧ gs (kPar rs) (rs.map (·.d)) ρ1 D.nx
theorem rs_par {g : TGs} {gs : WGs} {tq : TGs} {ts : List Nat} (h1 : RG X.K v0 ea tr wr) (h2 : RBs X.K v0 ts g gs) (ht : ∀ vs σ H Q, g vs σ H Q → tq vs σ H Q) : RS X.K v0 (fun D σ H => tr σ H fun vs H1 => tq vs σ H1 D.nx) (wPar wr gs) := by
  intro σ H ρ F S Dd D e h
  refine h1 σ H ρ F S _ _ h fun vs H1 ρ1 F1 rs S1 s1 p1 A h1 => ?_
  obtain ⟨hk, h1⟩ := h1
  unfold kPar at h1
  refine ht _ _ _ _ ?_
  by_cases c : rs.all owp = true
  · rw [if_pos c] at h1
    obtain ⟨G, q1, q2, q3, q4⟩ := A.all.own c
    exact h2 F H σ H1 ρ1 F1 .own _ vs G (fun a => a ∈ G) S.st S1 s1 (Sep.of S p1 s1 q4) (.inl ⟨rfl, q1, q2, q3, q4⟩) (fun _ _ i => i) (fun z => by cases z) _ _ h1 fun σ' ρ' F' S' s' sp' ho on hq => e.nx σ' H1 ρ' F' S' s' hq
  · rw [if_neg c] at h1
    obtain ⟨G, q1, q2⟩ := A.all.shr (hk.resolve_left c)
    exact h2 F H σ H1 ρ1 F1 .shr _ vs G (fun _ => False) S.st S1 s1 (Sep.of S p1 s1 fun _ z => z.elim) (.inr ⟨rfl, q1, q2⟩) (fun z => by cases z) (fun _ _ _ z => z) _ _ h1 fun σ' ρ' F' S' s' sp' ho on hq => e.nx σ' H1 ρ' F' S' s' hq
theorem ds_par (i j : Nat) {x y : Str} {px py pt : Pos} {kt k2 pt2} (hc : X.calm = true) (hN : X.N.Nodup) (ha : DG X v0 ea [a, b] wr) (hi : X.N[i]? = some x := by rfl) (hj : X.N[j]? = some y := by rfl) (hij : i ≠ j := by decide)
    (hx : X.env.scope.names.lookup x = some .local := by rfl) (hy : X.env.scope.names.lookup y = some .local := by rfl)
    (hw : swappedStores [.Tuple [.Name x px, .Name y py] kt pt] (.Tuple [a, b] k2 pt2) X.env = pure (some [x, y]) := by rfl)
    (hs : swapsWithSole [.Tuple [.Name x px, .Name y py] kt pt] (.Tuple [a, b] k2 pt2) pos.line X.env = pure false := by rfl) :
    DS X v0 (.Assign [.Tuple [.Name x px, .Name y py] kt pt] (.Tuple [a, b] k2 pt2) pos) (wPar wr (wgCons (wName i) (wgCons (wName j) wgNil))) := by
  obtain ⟨t, p, q⟩ := ha
  refine ⟨_, ps_par hc hN hi hj hij hx hy p hw hs, rs_par (g := gCons (gName i) (gCons (gName j) gNil)) (tq := fun vs σ H Q => ∃ v w, vs = [v, w] ∧ Q ((σ.set i (some v)).set j (some w)) H) q (rbs_cons (rb_name i) (rbs_cons (rb_name j) rbs_nil)) fun vs σ H Q h => ?_⟩
  obtain ⟨v, r, rfl, w, r', rfl, h⟩ := h
  obtain ⟨rfl, h⟩ := h
  exact ⟨v, w, rfl, h⟩
theorem ds_par3 (i j l : Nat) {x y z : Str} {px py pz pt : Pos} {kt k2 pt2} (hc : X.calm = true) (hN : X.N.Nodup) (ha : DG X v0 ea [a, b, c] wr) (hi : X.N[i]? = some x := by rfl) (hj : X.N[j]? = some y := by rfl) (hl : X.N[l]? = some z := by rfl) (hij : i ≠ j := by decide) (hil : i ≠ l := by decide) (hjl : j ≠ l := by decide)
    (hx : X.env.scope.names.lookup x = some .local := by rfl) (hy : X.env.scope.names.lookup y = some .local := by rfl) (hz : X.env.scope.names.lookup z = some .local := by rfl)
    (hw : swappedStores [.Tuple [.Name x px, .Name y py, .Name z pz] kt pt] (.Tuple [a, b, c] k2 pt2) X.env = pure (some [x, y, z]) := by rfl)
    (hs : swapsWithSole [.Tuple [.Name x px, .Name y py, .Name z pz] kt pt] (.Tuple [a, b, c] k2 pt2) pos.line X.env = pure false := by rfl) :
    DS X v0 (.Assign [.Tuple [.Name x px, .Name y py, .Name z pz] kt pt] (.Tuple [a, b, c] k2 pt2) pos) (wPar wr (wgCons (wName i) (wgCons (wName j) (wgCons (wName l) wgNil)))) := by
  obtain ⟨t, p, q⟩ := ha
  refine ⟨_, ps_par3 hc hN hi hj hl hij hil hjl hx hy hz p hw hs, rs_par (g := gCons (gName i) (gCons (gName j) (gCons (gName l) gNil))) (tq := fun vs σ H Q => ∃ u v w, vs = [u, v, w] ∧ Q (((σ.set i (some u)).set j (some v)).set l (some w)) H) q (rbs_cons (rb_name i) (rbs_cons (rb_name j) (rbs_cons (rb_name l) rbs_nil))) fun vs σ H Q h => ?_⟩
  obtain ⟨u, r, rfl, v, r', rfl, w, r2, rfl, h⟩ := h
  obtain ⟨rfl, h⟩ := h
  exact ⟨u, v, w, rfl, h⟩
/-- x op= e by values -/
def PD (K : PySem.W.Frag) (t : TIp) (wr : R → R → (R → Prop) → Prop) : Prop := OD K t wr
def wAug (i : Nat) (we : WE) (wr : R → R → (R → Prop) → Prop) : WS := fun D ρ => match ρ[i]? with
  | some (some r0) => pur r0.d = true ∧ we ρ fun ρ1 r1 => wr (P r0.d) r1 fun r => pur r.d = true ∧ wName i r ρ1 D.nx
  | _ => False
theorem ds_aug (i : Nat) {x : Str} {op : Operator} {ti : TIp} {wo : R → R → (R → Prop) → Prop} {p' : Pos} (hN : X.N.Nodup) (he : DE X v0 ea e we) (ho : PIp X op ti) (od : OD X.K ti wo) (hi : X.N[i]? = some x := by rfl) (hx : Loc X.env.scope x := by first | exact Or.inl rfl | exact Or.inr rfl)
    (hf : X.fn x = true ∨ X.env.scope.names.lookup x = some .local := by first | exact .inl rfl | exact .inr rfl) : DS X v0 (.AugAssign (.Name x p') op e pos) (wAug i we wo) := by
  obtain ⟨t, p, q⟩ := he
  refine ⟨_, ps_aug hN hi hx p ho hf, fun σ H ρ F S Dd D e h => ?_⟩
  unfold wAug at h
  split at h
  · rename_i r0 e0
    obtain ⟨hp, h⟩ := h
    obtain ⟨v0', e1, so⟩ := S.slot i r0 e0
    have rd : ∃ G, Rp X.K false H v0' r0.d G := by
      obtain ⟨k, d⟩ := r0
      cases k with
      | shr => exact ⟨_, so.choose_spec.1⟩
      | own => exact ⟨_, Rp.weak _ _ _ so⟩
      | fix => exact ⟨_, Rp.weak _ _ _ so.1⟩
      | als =>
        have z := so.2
        rw [hp] at z
        cases z
    obtain ⟨G0, rd⟩ := rd
    obtain ⟨_, rd⟩ := Rp.pure' (m' := false) _ _ _ rd hp
    refine ⟨v0', e1, q σ H ρ F S _ _ h fun v H1 ρ1 F1 r G S1 s1 p1 r1 h1 => ?_⟩
    have a0 : Arg X.K (fun a => ¬ Own F1 a) H1 (P r0.d) v0' := ⟨[], rd.keep s1.tups _ _ _ (fun a i => nomatch i), fun _ a i => nomatch i⟩
    refine od _ H1 v0' v (P r0.d) r a0 r1.arg _ _ h1 fun z H2 r2 G2 ex n hq => ?_
    have ro := n.res S1 s1
    have pr : pur r2.d = true := hq.1
    obtain ⟨_, rz⟩ := Rp.pure' (m' := false) _ _ _ ro.read pr
    have s2 : Step F H F1 H2 := s1.trans (Step.ext ex)
    have S2 := S1.ext ex
    obtain ⟨hf1, hq2⟩ := hq.2
    have hq3 : sld (P r2.d) fun r' => Dd.nx (ρ1.set i (some r')) := by
      unfold sld at hq2 ⊢
      rw [if_pos pr] at hq2 ⊢
      exact hq2
    obtain ⟨r', F', hn, S', s', sp', ho'⟩ := S2.bind S.st s2 (Sep.of S (p1.ext ex) s2 (Z := fun _ => False) fun _ z => z.elim) hf1 (r := P r2.d) (v := z) (G := []) ⟨rz, fun _ i => nomatch i⟩ (fun z => by cases z) (fun _ _ i => nomatch i) hq3
    exact e.nx _ _ _ _ S' s' hn
  · exact h.elim
end
end DL
namespace DL
open PySem PySem.Spec PyProof.Rows L2
abbrev WI := DEnv → (DEnv → List PyData → Prop) → Prop
/-- J gives the data ds, one by one, whatever is done beside it -/
def Rch (m : Bool) (F1 : Nat → List Addr) (H1 : Hp) (F' : Nat → List Addr) (H' : Hp) : Prop := Step F1 H1 F' H' ∧ (m = true → F' = F1 ∧ Ext H1 H')
/-- .. m: where the heap only grows beside it -/
def WkOk (K : PySem.W.Frag) (m : Bool) (F1 : Nat → List Addr) (H1 : Hp) (J : It) (ds : List PyData) : Prop :=
  ∃ (G : Hp → Prop) (Y : Nat → Hp → V → Hp → Prop), Walk J ds.length G Y ∧ (∀ F' H', Rch m F1 H1 F' H' → G H') ∧
    ∀ i H x H' F', i < ds.length → Rch m F1 H1 F' H → (∀ a, Own F' a → H a ≠ none) → Y i H x H' → ∃ d, ds[i]? = some d ∧ Ext H H' ∧ ∃ Gx, Rp K false H' x d Gx ∧ ∀ a ∈ Gx, ¬ Own F' a
def RI (K : PySem.W.Frag) (v0 : Cv) (m b : Bool) (ti : TI) (wi : WI) : Prop :=
  ∀ σ H ρ F, StOk K v0 σ H ρ F → ∀ (Qd : DEnv → List PyData → Prop) (Q : It → Hp → Prop), wi ρ Qd →
    (∀ J H1 ρ1 F1 ds, StOk K v0 σ H1 ρ1 F1 → Step F H F1 H1 → Eff b ρ F H ρ1 F1 H1 → WkOk K m F1 H1 J ds → Qd ρ1 ds → Q J H1) → ti σ H Q
/-- m: for a comprehension that changes nothing owned -/
structure DI (X : Cx) (v0 : Cv) (m b : Bool) (tg iter : Expr) (wi : WI) : Prop where
  ex : ∃ ti, PI X tg iter ti ∧ RI X.K v0 m b ti wi
section
variable {X : Cx} {v0 : Cv} {pos : Pos} {ei ea eb et : Bool} {wi : WI} {wg : WG} {w : WS} {wt : WT} {we : WE} {tg iter e c : Expr} {body : List Stmt} {ts : List Nat}
def wFor (wi : WI) (g : WG) (body : WS) : WS := fun D ρ => wi ρ fun ρ1 ds => ∃ I : Nat → DEnv → Prop, I 0 ρ1 ∧
  (∀ k d ρ, ds[k]? = some d → I k ρ → g ⟨.shr, d⟩ ρ fun ρ2 => body { D with nx := I (k + 1), ct := I (k + 1), bk := D.nx } ρ2) ∧ ∀ ρ, I ds.length ρ → D.nx ρ
theorem ds_for (hp : PassesOwn (model X.prog X.w) X.A X.env X.xe) (hc : X.calm = true) (hi : DI X v0 false ei tg iter wi) (hg : DB X v0 ts tg wg) (hb : DSs X v0 body w) (hs : ∀ x, foldedSetIterable iter X.env x = pure x := by intro _; rfl) :
    DS X v0 (.For tg iter body [] pos) (wFor wi wg w) := by
  obtain ⟨ti, p1, q1⟩ := hi
  obtain ⟨g, p2, q2⟩ := hg
  obtain ⟨tb, p3, q3⟩ := hb
  refine ⟨_, ps_for hp hc p1 p2 p3 hs, fun σ H ρ F S Dd D e h => ?_⟩
  refine q1 σ H ρ F S _ _ h fun J H1 ρ1 F1 ds S1 s1 e1 wk h1 => ?_
  obtain ⟨I, i0, istep, iend⟩ := h1
  obtain ⟨G, Y, walk, hG, hY⟩ := wk
  refine for_it walk (fun i σ' H' => ∃ ρ' F', StOk X.K v0 σ' H' ρ' F' ∧ Step F1 H1 F' H' ∧ I i ρ') ⟨ρ1, F1, S1, Step.refl, i0⟩ (fun i σ' H' _ ⟨ρ', F', _, s', _⟩ => hG F' H' ⟨s', fun z => nomatch z⟩) ?_ ?_
  · rintro i x σ' H' H'' hi ⟨ρ', F', S', s', hI⟩ y
    obtain ⟨d, hd, ex, Gx, rp, n⟩ := hY i H' x H'' F' hi ⟨s', fun z => nomatch z⟩ S'.live y
    have S2 := S'.ext ex
    have s2 := s'.trans (Step.ext (F := F') ex)
    refine q2 F1 H1 σ' H'' ρ' F' ⟨.shr, d⟩ x Gx (fun _ => False) S1.st S2 s2 (Sep.of0 S2) ⟨rp, n⟩ (fun z => by cases z) (fun _ _ _ z => z) _ _ (istep i d ρ' hd hI) fun σ3 ρ3 F3 S3 s3 _ _ _ h3 => ?_
    refine q3 σ3 H'' ρ3 F3 S3 _ _ ?_ h3
    have e3 := (e.step s1).step s3
    exact ⟨fun σ4 H4 ρ4 F4 S4 s4 h4 => ⟨ρ4, F4, S4, s3.trans s4, h4⟩, e3.rt, fun σ4 H4 ρ4 F4 S4 s4 h4 => e3.nx σ4 H4 ρ4 F4 S4 s4 h4, fun σ4 H4 ρ4 F4 S4 s4 h4 => ⟨ρ4, F4, S4, s3.trans s4, h4⟩⟩
  · rintro σ' H' ⟨ρ', F', S', s', hI⟩
    exact (e.step s1).nx σ' H' ρ' F' S' s' (iend ρ' hI)
def wWhile (c : WT) (b : WS) : WS := fun D ρ => ∃ I : Nat → DEnv → Prop, (∃ m, I m ρ) ∧ ∀ m ρ, I m ρ → c ρ fun ρ1 t => if t = true then ∃ N : DEnv → Prop, (∀ ρ', N ρ' → ∃ m', m' < m ∧ I m' ρ') ∧ b { D with nx := N, ct := N, bk := D.nx } ρ1 else D.nx ρ1
theorem ds_while (hp : PassesOwn (model X.prog X.w) X.A X.env X.xe) (hc : DT X v0 et c wt) (hb : DSs X v0 body w) : DS X v0 (.While c body [] pos) (wWhile wt w) := by
  obtain ⟨t, p1, q1⟩ := hc
  obtain ⟨tb, p2, q2⟩ := hb
  refine ⟨_, ps_while hp p1 p2, fun σ H ρ F S Dd D e h => ?_⟩
  obtain ⟨I, ⟨m0, i0⟩, istep⟩ := h
  refine ⟨fun m σ' H' => ∃ ρ' F', StOk X.K v0 σ' H' ρ' F' ∧ Step F H F' H' ∧ I m ρ', ⟨m0, ρ, F, S, Step.refl, i0⟩, ?_⟩
  rintro m σ' H' ⟨ρ', F', S', s', hI⟩
  refine q1 σ' H' ρ' F' S' _ _ (istep m ρ' hI) fun c H1 ρ1 F1 S1 s1 _ h1 => ?_
  have s2 := s'.trans s1
  cases c with
  | true =>
    rw [if_pos rfl] at h1 ⊢
    obtain ⟨N, hN, hb⟩ := h1
    refine ⟨fun σ3 H3 => ∃ ρ3 F3, StOk X.K v0 σ3 H3 ρ3 F3 ∧ Step F H F3 H3 ∧ N ρ3, ?_, q2 σ' H1 ρ1 F1 S1 _ _ ?_ hb⟩
    · rintro σ3 H3 ⟨ρ3, F3, S3, s3, n3⟩
      obtain ⟨m', hm, i'⟩ := hN ρ3 n3
      exact ⟨m', hm, ρ3, F3, S3, s3, i'⟩
    · have e3 := e.step s2
      exact ⟨fun σ4 H4 ρ4 F4 S4 s4 h4 => ⟨ρ4, F4, S4, s2.trans s4, h4⟩, e3.rt, fun σ4 H4 ρ4 F4 S4 s4 h4 => e3.nx σ4 H4 ρ4 F4 S4 s4 h4, fun σ4 H4 ρ4 F4 S4 s4 h4 => ⟨ρ4, F4, S4, s2.trans s4, h4⟩⟩
  | false =>
    rw [if_neg Bool.false_ne_true] at h1 ⊢
    exact e.nx σ' H1 ρ1 F1 S1 s2 h1
def wipeD (ρ : DEnv) : List Nat → DEnv
  | [] => ρ
  | v :: vs => (wipeD ρ vs).set v none
theorem wipeD_length (ρ : DEnv) : ∀ vs : List Nat, (wipeD ρ vs).length = ρ.length
  | [] => rfl
  | v :: vs => by unfold wipeD; rw [List.length_set, wipeD_length ρ vs]
theorem wipeD_some {ρ : DEnv} {i : Nat} {x : R} : ∀ {vs : List Nat}, (wipeD ρ vs)[i]? = some (some x) → ρ[i]? = some (some x) ∧ i ∉ vs
  | [], h => ⟨h, by simp⟩
  | v :: vs, h => by
    unfold wipeD at h
    by_cases hi : v = i
    · subst hi
      by_cases hv : v < (wipeD ρ vs).length
      · rw [List.getElem?_set_self hv] at h; cases h
      · rw [List.getElem?_eq_none (by simpa using hv)] at h; cases h
    · rw [List.getElem?_set_ne hi] at h
      obtain ⟨h1, h2⟩ := wipeD_some h
      exact ⟨h1, by simp only [List.mem_cons, not_or]; exact ⟨fun e => hi e.symm, h2⟩⟩
theorem wipe_get {σ : L2.St} {i : Nat} : ∀ {vs : List Nat}, i ∉ vs → (wipe σ vs)[i]? = σ[i]?
  | [], _ => rfl
  | v :: vs, h => by
    simp only [List.mem_cons, not_or] at h
    unfold wipe
    rw [List.getElem?_set_ne (Ne.symm h.1), wipe_get h.2]
theorem wipe_only {σ σ' : L2.St} {ρ ρ' : DEnv} {ts vs : List Nat} (o : Only ts (wipe σ vs) σ' ρ ρ') (h : ∀ t ∈ ts, t ∈ vs) : wipe σ' vs = wipe σ vs := by
  have key : ∀ (us : List Nat) (α β : L2.St), β.length = α.length → (∀ j : Nat, j ∉ us → β[j]? = α[j]?) → wipe β us = wipe α us := by
    intro us
    induction us with
    | nil =>
      intro α β hl hh
      exact List.ext_getElem? fun j => hh j (by simp)
    | cons u us ih =>
      intro α β hl hh
      unfold wipe
      apply List.ext_getElem?
      intro j
      by_cases hj : u = j
      · subst hj
        by_cases hb : u < α.length
        · rw [List.getElem?_set_self (by rw [wipe_length]; omega), List.getElem?_set_self (by rw [wipe_length]; omega)]
        · rw [List.getElem?_eq_none (by rw [List.length_set, wipe_length]; omega), List.getElem?_eq_none (by rw [List.length_set, wipe_length]; omega)]
      · rw [List.getElem?_set_ne hj, List.getElem?_set_ne hj]
        by_cases hu : j ∈ us
        · -- both forgotten
          have both : ∀ (γ : L2.St) (ws : List Nat), j ∈ ws → j < γ.length → (wipe γ ws)[j]? = some none := by
            intro γ ws
            induction ws with
            | nil => intro z; cases z
            | cons x xs ihx =>
              intro z hz
              unfold wipe
              by_cases hx : x = j
              · subst hx
                rw [List.getElem?_set_self (by rw [wipe_length]; exact hz)]
              · rw [List.getElem?_set_ne hx]
                rcases List.mem_cons.mp z with z | z
                · exact absurd z.symm hx
                · exact ihx z hz
          by_cases hb : j < α.length
          · rw [both α us hu hb, both β us hu (by omega)]
          · rw [List.getElem?_eq_none (by rw [wipe_length]; omega), List.getElem?_eq_none (by rw [wipe_length]; omega)]
        · rw [wipe_get hu, wipe_get hu]
          exact hh j (by simp only [List.mem_cons, not_or]; exact ⟨fun z => hj z.symm, hu⟩)
  have e1 := key vs (wipe σ vs) σ' o.1 fun j hj => o.2.1 j fun z => hj (h j z)
  rw [e1]
  exact key vs σ (wipe σ vs) (wipe_length σ vs) fun j hj => wipe_get hj
theorem StOk.wipe {K : PySem.W.Frag} {σ : L2.St} {H : Hp} {ρ : DEnv} {F : Nat → List Addr} (S : StOk K v0 σ H ρ F) (vs : List Nat) : StOk K v0 (wipe σ vs) H (wipeD ρ vs) F :=
  ⟨fun i r h => by
    obtain ⟨h1, h2⟩ := wipeD_some h
    obtain ⟨v, q1, q2⟩ := S.slot i r h1
    exact ⟨v, by rw [wipe_get h2]; exact q1, q2⟩, S.nd, S.dj, S.live, by rw [wipeD_length, wipe_length]; exact S.len, by rw [wipe_length]; exact S.sm, S.st⟩
theorem StOk.unwipe {K : PySem.W.Frag} {σ : L2.St} {H : Hp} {ρ : DEnv} {F : Nat → List Addr} {vs : List Nat} (S : StOk K v0 (L2.wipe σ vs) H ρ F) : StOk K v0 σ H ρ F :=
  ⟨fun i r h => let ⟨v, q1, q2⟩ := S.slot i r h; ⟨v, (wipe_some q1).1, q2⟩, S.nd, S.dj, S.live, S.len.trans (wipe_length σ vs), by have := S.sm; rwa [wipe_length] at this, S.st⟩
structure DTs (X : Cx) (v0 : Cv) (b : Bool) (ifs : List Expr) (w : WT) : Prop where
  ex : ∃ t, PTs X ifs t ∧ RT X.K v0 b t w
def wYes : WT := fun ρ Q => Q ρ true
theorem dts_nil : DTs X v0 false [] wYes := ⟨_, pts_nil, fun σ H ρ F S Qd Q h k => k true H ρ F S Step.refl Eff.refl h⟩
theorem dts_one (h : DT X v0 et c wt) : DTs X v0 et [c] wt := by
  obtain ⟨t, p, q⟩ := h
  exact ⟨_, pts_one p, q⟩
/-- [e for x in xs if c]: I by the turn, the environment and what is made so far -/
def wLc (wi : WI) (g : WG) (tt : WT) (we : WE) (vs : List Nat) : WE := fun ρ Q => wi ρ fun ρ1 ds => ∃ I : Nat → DEnv → List PyData → Prop, I 0 (wipeD ρ1 vs) [] ∧
  (∀ k d ρ' acc, ds[k]? = some d → I k ρ' acc → g ⟨.shr, d⟩ ρ' fun ρ2 => tt ρ2 fun ρ3 c => if c = true then we ρ3 fun ρ4 r => owp r = true ∧ acc.length < sizeLine ∧ I (k + 1) (wipeD ρ4 vs) (acc ++ [r.d]) else I (k + 1) (wipeD ρ3 vs) acc) ∧
  ∀ ρ' acc, I ds.length ρ' acc → Q ρ' ⟨.own, .list acc⟩
/-- .. where nothing that is owned changes: the environment is as it was -/
def wLc0 (wi : WI) (g : WG) (tt : WT) (we : WE) (vs : List Nat) : WE := fun ρ Q => wi ρ fun ρ1 ds => ∃ I : Nat → List PyData → Prop, I 0 [] ∧
  (∀ k d acc, ds[k]? = some d → I k acc → g ⟨.shr, d⟩ (wipeD ρ1 vs) fun ρ2 => tt ρ2 fun ρ3 c => if c = true then we ρ3 fun ρ4 r => owp r = true ∧ acc.length < sizeLine ∧ I (k + 1) (acc ++ [r.d]) else I (k + 1) acc) ∧
  ∀ acc, I ds.length acc → Q ρ1 ⟨.own, .list acc⟩
/-- the new list at D within a comprehension: what it holds is new, and no slot's -/
structure Acc (K : PySem.W.Frag) (F1 : Nat → List Addr) (H1 : Hp) (F' : Nat → List Addr) (H' : Hp) (D : Addr) (acc : List PyData) (xs : List V) (G : List Addr) : Prop where
  hD : H' D = some (.lst xs)
  rp : RpAll K true H' xs acc G
  nd : (D :: G).Nodup
  out : ∀ a ∈ D :: G, ¬ Own F' a
  new : ∀ a ∈ D :: G, Own F1 a ∨ H1 a = none
theorem Acc.live {K : PySem.W.Frag} {F1 F2 : Nat → List Addr} {H1 H2 : Hp} {D : Addr} {acc : List PyData} {xs : List V} {G : List Addr} (A : Acc K F1 H1 F2 H2 D acc xs G) : ∀ a ∈ D :: G, H2 a ≠ none := fun a i => by
  rcases List.mem_cons.mp i with rfl | i
  · rw [A.hD]; simp
  · exact A.rp.live _ _ _ a i
theorem Acc.step {K : PySem.W.Frag} {F1 F2 F3 : Nat → List Addr} {H1 H2 H3 : Hp} {D : Addr} {acc : List PyData} {xs : List V} {G : List Addr} (A : Acc K F1 H1 F2 H2 D acc xs G) (s : Step F2 H2 F3 H3) : Acc K F1 H1 F3 H3 D acc xs G :=
  ⟨s.keep D _ A.hD (A.out D (.head _)), A.rp.keep s.tups _ _ _ fun a i o h => s.keep a o h (A.out a (.tail _ i)), A.nd, fun a i z => by
    rcases s.own a z with z | z
    · exact A.out a i z
    · exact A.live a i z, A.new⟩
theorem tu_upd {H : Hp} {D : Addr} {xs ys : List V} (h : H D = some (.lst xs)) : Tu H (upd H D (.lst ys)) := fun a zs r => by
  have n : a ≠ D := fun e => by
    subst e
    rcases r with r | ⟨o, r⟩ <;> rw [h] at r <;> cases r
  exact rd_keep r fun o q => by rw [upd_ne n]; exact q
theorem Acc.push {K : PySem.W.Frag} {F1 F2 F3 : Nat → List Addr} {H1 H2 H3 : Hp} {D : Addr} {acc : List PyData} {xs : List V} {G0 : List Addr} {r : R} {v : V} {G : List Addr} (A : Acc K F1 H1 F2 H2 D acc xs G0) (s0 : Step F1 H1 F2 H2) (s : Step F2 H2 F3 H3) (ro : ResOk K F2 H2 F3 H3 r v G) (ho : owp r = true) :
    ∃ G', Acc K F1 H1 F3 (upd H3 D (.lst (xs ++ [v]))) D (acc ++ [r.d]) (xs ++ [v]) G' ∧ ∀ a ∈ G', a ∈ G0 ∨ (¬ Own F3 a ∧ (Own F2 a ∨ H2 a = none)) := by
  have A3 := A.step s
  have new : ∃ Gv, Rp K true H3 v r.d Gv ∧ Gv.Nodup ∧ (∀ a ∈ Gv, ¬ Own F3 a) ∧ ∀ a ∈ Gv, Own F2 a ∨ H2 a = none := by
    by_cases hp : pur r.d = true
    · obtain ⟨_, q⟩ := Rp.pure' (m' := true) _ _ _ ro.read hp
      exact ⟨[], q, List.nodup_nil, (fun a i => nomatch i), fun a i => nomatch i⟩
    · obtain ⟨k, d⟩ := r
      have hk : k = .own := by
        unfold owp at ho
        rw [Bool.or_eq_true] at ho
        rcases ho with z | z
        · exact beq_iff_eq.mp z
        · exact absurd z hp
      subst hk
      exact ⟨G, ro⟩
  obtain ⟨Gv, q1, q2, q3, q4⟩ := new
  have apart : ∀ a ∈ D :: G0, a ∉ Gv := fun a i j => by
    rcases q4 a j with z | z
    · exact A.out a i z
    · exact A.live a i z
  have nd := A.nd
  rw [List.nodup_cons] at nd
  have car : ∀ a : Addr, a ≠ D → ∀ o, H3 a = some o → (upd H3 D (.lst (xs ++ [v]))) a = some o := fun a n o h => by rw [upd_ne n]; exact h
  have tu := tu_upd (ys := xs ++ [v]) A3.hD
  refine ⟨G0 ++ Gv, ⟨upd_same, ?_, ?_, fun a i => ?_, fun a i => ?_⟩, fun a i => (List.mem_append.mp i).imp id fun j => ⟨q3 a j, q4 a j⟩⟩
  · have x1 := A3.rp.keep (H' := upd H3 D (.lst (xs ++ [v]))) tu _ _ _ fun a i o h => car a (fun e => nd.1 (e ▸ i)) o h
    have x2 := q1.keep (H' := upd H3 D (.lst (xs ++ [v]))) tu _ _ _ fun a i o h => car a (fun e => apart D (.head _) (e ▸ i)) o h
    have := x1.append (.cons x2 .nil)
    simpa using this
  · rw [List.nodup_cons, List.nodup_append]
    refine ⟨fun i => ?_, nd.2, q2, fun a i b j e => ?_⟩
    · rcases List.mem_append.mp i with i | i
      · exact nd.1 i
      · exact apart D (.head _) i
    · subst e
      exact apart a (.tail _ i) j
  · rcases List.mem_cons.mp i with rfl | i
    · exact A3.out a (.head _)
    · rcases List.mem_append.mp i with i | i
      · exact A3.out a (.tail _ i)
      · exact q3 a i
  · rcases List.mem_cons.mp i with rfl | i
    · exact A.new a (.head _)
    · rcases List.mem_append.mp i with i | i
      · exact A.new a (.tail _ i)
      · rcases q4 a i with z | z
        · exact s0.own a z
        · exact s0.none_of z
theorem Step.out {H H1 : Hp} {F F1 : Nat → List Addr} {D : Addr} {xs ys : List V} (s : Step F1 H1 F H) (h1 : H1 D = none) (hD : H D = some (.lst xs)) : Step F1 H1 F (upd H D (.lst ys)) :=
  ⟨fun a o h n => by rw [upd_ne (ne_of_none h h1)]; exact s.keep a o h n, s.own, fun a zs r => tu_upd hD a zs (s.tups a zs r), s.per, fun i hi a ha o h => by rw [upd_ne (ne_of_none h h1)]; exact s.pk i hi a ha o h⟩
/-- a state, while a list that is no slot's is written -/
theorem StOk.out {K : PySem.W.Frag} {σ1 σ : L2.St} {H1 H : Hp} {ρ1 ρ : DEnv} {F1 F : Nat → List Addr} {D : Addr} {xs ys : List V} (S1 : StOk K v0 σ1 H1 ρ1 F1) (S : StOk K v0 σ H ρ F) (s : Step F1 H1 F H)
    (hσ : ∀ (j : Nat) (w : V), σ[j]? = some (some w) → σ1[j]? = some (some w)) (hs : ∀ (j : Nat) (d : PyData), ρ[j]? = some (some (R.mk .shr d)) → ρ1[j]? = some (some (R.mk .shr d))) (h1 : H1 D = none) (hD : H D = some (.lst xs)) (ho : ¬ Own F D) :
    StOk K v0 σ (upd H D (.lst ys)) ρ F := by
  have tu := tu_upd (ys := ys) hD
  have car : ∀ a : Addr, a ≠ D → ∀ o, H a = some o → (upd H D (.lst ys)) a = some o := fun a n o h => by rw [upd_ne n]; exact h
  have carO : ∀ {i : Nat} {v : V} {d : PyData}, Rp K true H v d (F i) → Rp K true (upd H D (.lst ys)) v d (F i) := fun {i v d} q => q.keep tu _ _ _ fun a ha o h => car a (fun e => ho ⟨i, e ▸ ha⟩) o h
  refine ⟨fun i r e => ?_, S.nd, S.dj, fun a z => ?_, S.len, S.sm, S1.st.trans (s.out h1 hD)⟩
  · obtain ⟨v, e1, so⟩ := S.slot i r e
    refine ⟨v, e1, ?_⟩
    obtain ⟨k, d⟩ := r
    cases k with
    | shr =>
      obtain ⟨v', f1, G0, f2, f3⟩ := S1.slot i _ (hs i d e)
      have hv : v' = v := by
        have := hσ i v e1
        rw [f1] at this
        cases this
        rfl
      subst hv
      have g1 := f2.keep s.tups _ _ _ fun a ha o h => s.keep a o h (f3 a ha)
      refine ⟨G0, g1.keep tu _ _ _ fun a ha o h => car a (fun e => ?_) o h, fun a ha z => ?_⟩
      · subst e
        exact f2.live _ _ _ a ha h1
      · rcases s.own a z with z | z
        · exact f3 a ha z
        · exact f2.live _ _ _ a ha z
    | own => exact carO so
    | fix => exact ⟨carO so.1, so.2⟩
    | als => exact so
  · by_cases e : a = D
    · subst e
      rw [upd_same]; simp
    · rw [upd_ne e]
      exact S.live a z
section
variable {g : TG} {tt : TT} {te : TE} {ti : TI}
theorem re_lc {vs : List Nat} (q1 : RI X.K v0 false ei ti wi) (q2 : RB X.K v0 ts g wg) (q3 : RT X.K v0 et tt wt) (q4 : RE X.K v0 ea te we) (hts : ∀ t ∈ ts, t ∈ vs) : RE X.K v0 true (tLc ti g tt te vs) (wLc wi wg wt we vs) := by
  intro σ H ρ F S Qd Q h k
  refine q1 σ H ρ F S _ _ h fun J H1 ρ1 F1 ds S1 s1 e1 wk h1 => ?_
  obtain ⟨I, i0, istep, iend⟩ := h1
  obtain ⟨G, Y, walk, hG, hY⟩ := wk
  intro D nD
  have ex0 : Ext H1 (upd H1 D (.lst [])) := Ext.upd nD
  refine lc_it walk (fun i H' => ∃ ρ' F' acc xs Gd, StOk X.K v0 (L2.wipe σ vs) H' ρ' F' ∧ Step F1 H1 F' H' ∧ Acc X.K F1 H1 F' H' D acc xs Gd ∧ (∀ (j : Nat) (d : PyData), ρ'[j]? = some (some (R.mk .shr d)) → ρ1[j]? = some (some (R.mk .shr d))) ∧ I i ρ' acc)
    ⟨wipeD ρ1 vs, F1, [], [], [], (S1.wipe vs).ext ex0, Step.ext ex0, ⟨upd_same, .nil, by simp, fun a i z => ?_, fun a i => ?_⟩, fun j d h => (wipeD_some h).1, i0⟩ (fun i H' _ ⟨ρ', F', _, _, _, _, s', _⟩ => hG F' H' ⟨s', fun z => nomatch z⟩) ?_ ?_
  · have e : a = D := by simpa using i
    subst e
    exact S1.live a z nD
  · have e : a = D := by simpa using i
    subst e
    exact .inr nD
  · rintro i x H' H'' hi ⟨ρ', F', acc, xs, Gd, S', s', A, sh, hI⟩ y
    obtain ⟨d, hd, ex, Gx, rp, n⟩ := hY i H' x H'' F' hi ⟨s', fun z => nomatch z⟩ S'.live y
    have S2 := S'.ext ex
    have sE : Step F' H' F' H'' := Step.ext ex
    have s2 := s'.trans sE
    have A2 := A.step sE
    refine q2 F1 H1 (L2.wipe σ vs) H'' ρ' F' ⟨.shr, d⟩ x Gx (fun _ => False) S1.st S2 s2 (Sep.of0 S2) ⟨rp, n⟩ (fun z => by cases z) (fun _ _ _ z => z) _ _ (istep i d ρ' acc hd hI) fun σ3 ρ3 F3 S3 s3 _ ho on h3 => ?_
    have hw := wipe_only on hts
    refine ⟨hw, ?_⟩
    -- the target has bound shared things alone
    have sT : Step F' H'' F3 H'' := ⟨fun _ _ h _ => h, fun a z => .inl ((ho a z).resolve_right fun w => by cases w.1), fun _ _ h => h, fun j hj => (s3.per j hj).trans (s2.per j hj).symm, fun _ _ _ _ _ h => h⟩
    have A3 := A2.step sT
    refine q3 σ3 H'' ρ3 F3 S3 _ _ h3 fun c H4 ρ4 F4 S4 s4 e4 h4 => ?_
    have A4 := A3.step s4
    have shr4 : ∀ {ρ5 : DEnv} {F5 : Nat → List Addr} {H5 : Hp} {b : Bool}, Eff b ρ3 F3 H'' ρ5 F5 H5 → ∀ (j : Nat) (d : PyData), (wipeD ρ5 vs)[j]? = some (some (R.mk .shr d)) → ρ1[j]? = some (some (R.mk .shr d)) := fun {ρ5 F5 H5 b} e j d h => by
      obtain ⟨h1, h2⟩ := wipeD_some h
      have h3 := e.shr j d h1
      rw [on.2.2 j fun z => h2 (hts j z)] at h3
      exact sh j d h3
    cases c with
    | true =>
      rw [if_pos rfl] at h4 ⊢
      refine q4 σ3 H4 ρ4 F4 S4 _ _ h4 fun yv H5 ρ5 F5 r G5 S5 s5 e5 r5 h5 => ?_
      obtain ⟨hown, hlen, hI'⟩ := h5
      have A5 := A4.step s5
      refine ⟨xs, A5.hD, by rw [A.rp.length]; exact hlen, ?_⟩
      obtain ⟨G6, A6, _⟩ := A4.push (s3.trans s4) s5 r5 hown
      have s15 := (s3.trans s4).trans s5
      have S6 : StOk X.K v0 (L2.wipe σ vs) H5 (wipeD ρ5 vs) F5 := by rw [← hw]; exact S5.wipe vs
      exact ⟨wipeD ρ5 vs, F5, acc ++ [r.d], _, G6, StOk.out S1 S6 s15 (fun j w h => (wipe_some h).1) (shr4 (e4.trans e5)) nD A5.hD (A5.out D (.head _)), s15.out nD A5.hD, A6, shr4 (e4.trans e5), hI'⟩
    | false =>
      rw [if_neg Bool.false_ne_true] at h4 ⊢
      have S6 : StOk X.K v0 (L2.wipe σ vs) H4 (wipeD ρ4 vs) F4 := by rw [← hw]; exact S4.wipe vs
      exact ⟨wipeD ρ4 vs, F4, acc, xs, Gd, S6, s3.trans s4, A4, shr4 e4, h4⟩
  · rintro H' ⟨ρ', F', acc, xs, Gd, S', s', A, sh, hI⟩
    refine k (.ref D) H' ρ' F' ⟨.own, .list acc⟩ (D :: Gd) S'.unwipe (s1.trans s') ⟨fun j d h => e1.shr j d (sh j d h), fun z => by cases z⟩ ⟨.lst (fun _ => A.hD) (.inl A.hD) A.rp, A.nd, A.out, fun a i => ?_⟩ (iend ρ' acc hI)
    rcases A.new a i with z | z
    · exact s1.own a z
    · exact s1.none_of z
theorem re_lc0 {vs : List Nat} (q1 : RI X.K v0 true false ti wi) (q2 : RB X.K v0 ts g wg) (q3 : RT X.K v0 false tt wt) (q4 : RE X.K v0 false te we) (hts : ∀ t ∈ ts, t ∈ vs) : RE X.K v0 false (tLc ti g tt te vs) (wLc0 wi wg wt we vs) := by
  intro σ H ρ F S Qd Q h k
  refine q1 σ H ρ F S _ _ h fun J H1 ρ1 F1 ds S1 s1 e1 wk h1 => ?_
  obtain ⟨I, i0, istep, iend⟩ := h1
  obtain ⟨G, Y, walk, hG, hY⟩ := wk
  intro D nD
  have ex0 : Ext H1 (upd H1 D (.lst [])) := Ext.upd nD
  refine lc_it walk (fun i H' => ∃ acc xs Gd, Ext H1 H' ∧ Acc X.K F1 H1 F1 H' D acc xs Gd ∧ (∀ a ∈ D :: Gd, H1 a = none) ∧ I i acc)
    ⟨[], [], [], ex0, ⟨upd_same, .nil, by simp, fun a i z => ?_, fun a i => ?_⟩, fun a i => ?_, i0⟩ (fun i H' _ ⟨_, _, _, x, _⟩ => hG F1 H' ⟨Step.ext x, fun _ => ⟨rfl, x⟩⟩) ?_ ?_
  · have e : a = D := by simpa using i
    subst e
    exact S1.live a z nD
  · have e : a = D := by simpa using i
    subst e
    exact .inr nD
  · have e : a = D := by simpa using i
    subst e
    exact nD
  · rintro i x H' H'' hi ⟨acc, xs, Gd, x1, A, fr, hI⟩ y
    have S' := (S1.wipe vs).ext x1
    obtain ⟨d, hd, ex, Gx, rp, n⟩ := hY i H' x H'' F1 hi ⟨Step.ext x1, fun _ => ⟨rfl, x1⟩⟩ S'.live y
    have S2 := S'.ext ex
    have sE : Step F1 H' F1 H'' := Step.ext ex
    have A2 := A.step sE
    refine q2 F1 H1 (L2.wipe σ vs) H'' (wipeD ρ1 vs) F1 ⟨.shr, d⟩ x Gx (fun _ => False) S1.st S2 (Step.ext (x1.trans ex)) (Sep.of0 S2) ⟨rp, n⟩ (fun z => by cases z) (fun _ _ _ z => z) _ _ (istep i d acc hd hI) fun σ3 ρ3 F3 S3 s3 _ ho on h3 => ?_
    have hw := wipe_only on hts
    refine ⟨hw, ?_⟩
    have sT : Step F1 H'' F3 H'' := ⟨fun _ _ h _ => h, fun a z => .inl ((ho a z).resolve_right fun w => by cases w.1), fun _ _ h => h, s3.per, fun _ _ _ _ _ h => h⟩
    have A3 := A2.step sT
    refine q3 σ3 H'' ρ3 F3 S3 _ _ h3 fun c H4 ρ4 F4 S4 s4 e4 h4 => ?_
    obtain ⟨f1, f2, f3⟩ := e4.non rfl
    subst f1; subst f2
    have A4 := A3.step s4
    -- back to what the slots own around the comprehension
    have back : ∀ {H5 : Hp} {acc : List PyData} {xs : List V} {Gd : List Addr}, Acc X.K F1 H1 F4 H5 D acc xs Gd → (∀ a ∈ D :: Gd, H1 a = none) → Acc X.K F1 H1 F1 H5 D acc xs Gd := fun {H5 acc xs Gd} A fr => ⟨A.hD, A.rp, A.nd, fun a i z => S1.live a z (fr a i), A.new⟩
    cases c with
    | true =>
      rw [if_pos rfl] at h4 ⊢
      refine q4 σ3 H4 ρ4 F4 S4 _ _ h4 fun yv H5 ρ5 F5 r G5 S5 s5 e5 r5 h5 => ?_
      obtain ⟨g1, g2, g3⟩ := e5.non rfl
      subst g1; subst g2
      obtain ⟨hown, hlen, hI'⟩ := h5
      have A5 := A4.step s5
      refine ⟨xs, A5.hD, by rw [A.rp.length]; exact hlen, ?_⟩
      obtain ⟨G6, A6, hG6⟩ := A4.push (s3.trans s4) s5 r5 hown
      have fr6 : ∀ a ∈ D :: G6, H1 a = none := fun a i => by
        rcases List.mem_cons.mp i with rfl | i
        · exact nD
        · rcases hG6 a i with z | ⟨z1, z2⟩
          · exact fr a (.tail _ z)
          · rcases z2 with z2 | z2
            · exact absurd z2 z1
            · cases q : H1 a with
              | none => rfl
              | some o =>
                rw [((x1.trans ex).trans f3) a o q] at z2
                cases z2
      exact ⟨acc ++ [r.d], _, G6, fun a o h => by rw [upd_ne (ne_of_none h nD)]; exact ((x1.trans ex).trans (f3.trans g3)) a o h, back A6 fr6, fr6, hI'⟩
    | false =>
      rw [if_neg Bool.false_ne_true] at h4 ⊢
      exact ⟨acc, xs, Gd, (x1.trans ex).trans f3, back A4 fr, fr, h4⟩
  · rintro H' ⟨acc, xs, Gd, x1, A, fr, hI⟩
    refine k (.ref D) H' ρ1 F1 ⟨.own, .list acc⟩ (D :: Gd) (S1.ext x1) (s1.trans (Step.ext x1)) (e1.ext x1) ⟨.lst (fun _ => A.hD) (.inl A.hD) A.rp, A.nd, A.out, fun a i => ?_⟩ (iend acc hI)
    rcases A.new a i with z | z
    · exact s1.own a z
    · exact s1.none_of z
end
def tW (K : PySem.W.Frag) (v0 : Cv) (b : Bool) (w : WE) : TE := fun σ H Q => ∃ ρ F Qd, StOk K v0 σ H ρ F ∧ w ρ Qd ∧
  ∀ v H' ρ' F' r G, StOk K v0 σ H' ρ' F' → Step F H F' H' → Eff b ρ F H ρ' F' H' → ResOk K F H F' H' r v G → Qd ρ' r → Q v H'
theorem re_can {K : PySem.W.Frag} {b : Bool} {w : WE} : RE K v0 b (tW K v0 b w) w := fun σ H ρ F S Qd Q h k => ⟨ρ, F, Qd, S, h, k⟩
theorem DE.can {b : Bool} {e : Expr} {w : WE} (h : DE X v0 b e w) : PE X e (tW X.K v0 b w) := by
  obtain ⟨t, p, q⟩ := h
  exact ⟨fun pins s σ H Q I ⟨ρ, F, Qd, S, h, k⟩ => p.run pins s σ H Q I (q σ H ρ F S Qd Q h k)⟩
def tWT (K : PySem.W.Frag) (v0 : Cv) (b : Bool) (w : WT) : TT := fun σ H Q => ∃ ρ F Qd, StOk K v0 σ H ρ F ∧ w ρ Qd ∧
  ∀ c H' ρ' F', StOk K v0 σ H' ρ' F' → Step F H F' H' → Eff b ρ F H ρ' F' H' → Qd ρ' c → Q c H'
theorem rt_can {K : PySem.W.Frag} {b : Bool} {w : WT} : RT K v0 b (tWT K v0 b w) w := fun σ H ρ F S Qd Q h k => ⟨ρ, F, Qd, S, h, k⟩
theorem DTs.can {b : Bool} {es : List Expr} {w : WT} (h : DTs X v0 b es w) : PTs X es (tWT X.K v0 b w) := by
  obtain ⟨t, p, q⟩ := h
  exact ⟨fun pins s σ H Q I ⟨ρ, F, Qd, S, h, k⟩ => p.run pins s σ H Q I (q σ H ρ F S Qd Q h k)⟩
def tWG (K : PySem.W.Frag) (v0 : Cv) (ts : List Nat) (w : WG) : TG := fun v σ H Q => ∃ F0 H0 ρ F r G Z Qd, Step v0.F0 v0.H0 F0 H0 ∧ StOk K v0 σ H ρ F ∧ Step F0 H0 F H ∧ Sep K σ H ρ F Z ∧ ResOk K F0 H0 F H r v G ∧ (r.k = .own → ∀ a ∈ G, Z a) ∧ (r.k = .shr → ∀ a ∈ G, ¬ Z a) ∧ w r ρ Qd ∧
  ∀ σ' ρ' F', StOk K v0 σ' H ρ' F' → Step F0 H0 F' H → Sep K σ' H ρ' F' Z → (∀ a, Own F' a → Own F a ∨ (r.k = .own ∧ a ∈ G)) → Only ts σ σ' ρ ρ' → Qd ρ' → Q σ' H
theorem rb_can {K : PySem.W.Frag} {ts : List Nat} {w : WG} : RB K v0 ts (tWG K v0 ts w) w := fun F0 H0 σ H ρ F r v G Z s0 S s sp ro z1 z2 Qd Q h k => ⟨F0, H0, ρ, F, r, G, Z, Qd, s0, S, s, sp, ro, z1, z2, h, k⟩
theorem DB.can {ts : List Nat} {e : Expr} {w : WG} (h : DB X v0 ts e w) : PG X e (tWG X.K v0 ts w) := by
  obtain ⟨t, p, q⟩ := h
  exact ⟨fun pins s σ H v u Q I r ⟨F0, H0, ρ, F, r0, G, Z, Qd, sb, S, s0, sp, ro, z1, z2, h, k⟩ => p.run pins s σ H v u Q I r (q F0 H0 σ H ρ F r0 v G Z sb S s0 sp ro z1 z2 Qd Q h k)⟩
/-- [e for x in xs if c], whatever its parts do -/
theorem de_lc {elt : Expr} {ifs : List Expr} {scope : Scope} (own : List (Str × Nat)) (hc : X.calm = true) (hN : X.N.Nodup) (hi : DI X v0 false ei tg iter wi) (ok : BlkOk X.N X.env.scope scope own)
    (hg : ∀ (s : Shared) (H : Hp) (C : Addr) (cl : List (Str × Addr)) (fp : List Addr), DB (X.blk s H scope (compEnvC scope cl C X.env) fp) v0 ts tg wg)
    (ht : ∀ (s : Shared) (H : Hp) (C : Addr) (cl : List (Str × Addr)) (fp : List Addr), DTs (X.blk s H scope (compEnvC scope cl C X.env) fp) v0 et ifs wt)
    (he : ∀ (s : Shared) (H : Hp) (C : Addr) (cl : List (Str × Addr)) (fp : List Addr), DE (X.blk s H scope (compEnvC scope cl C X.env) fp) v0 ea elt we)
    (hts : ∀ t ∈ ts, t ∈ own.map (·.2) := by decide) (hs : ∀ x, foldedSetIterable iter X.env x = pure x := by intro _; rfl) : DE X v0 true (.ListComp elt [⟨tg, iter, ifs, 0⟩] scope pos) (wLc wi wg wt we (own.map (·.2))) := by
  obtain ⟨ti, p1, q1⟩ := hi
  exact ⟨_, pe_lc hc hN p1 ok (fun s H C cl fp => (hg s H C cl fp).can) (fun s H C cl fp => (ht s H C cl fp).can) (fun s H C cl fp => (he s H C cl fp).can) hs, re_lc q1 rb_can rt_can re_can hts⟩
/-- .. where its parts change nothing that is owned -/
theorem de_lc0 {elt : Expr} {ifs : List Expr} {scope : Scope} (own : List (Str × Nat)) (hc : X.calm = true) (hN : X.N.Nodup) (hi : DI X v0 true false tg iter wi) (ok : BlkOk X.N X.env.scope scope own)
    (hg : ∀ (s : Shared) (H : Hp) (C : Addr) (cl : List (Str × Addr)) (fp : List Addr), DB (X.blk s H scope (compEnvC scope cl C X.env) fp) v0 ts tg wg)
    (ht : ∀ (s : Shared) (H : Hp) (C : Addr) (cl : List (Str × Addr)) (fp : List Addr), DTs (X.blk s H scope (compEnvC scope cl C X.env) fp) v0 false ifs wt)
    (he : ∀ (s : Shared) (H : Hp) (C : Addr) (cl : List (Str × Addr)) (fp : List Addr), DE (X.blk s H scope (compEnvC scope cl C X.env) fp) v0 false elt we)
    (hts : ∀ t ∈ ts, t ∈ own.map (·.2) := by decide) (hs : ∀ x, foldedSetIterable iter X.env x = pure x := by intro _; rfl) : DE X v0 false (.ListComp elt [⟨tg, iter, ifs, 0⟩] scope pos) (wLc0 wi wg wt we (own.map (·.2))) := by
  obtain ⟨ti, p1, q1⟩ := hi
  exact ⟨_, pe_lc hc hN p1 ok (fun s H C cl fp => (hg s H C cl fp).can) (fun s H C cl fp => (ht s H C cl fp).can) (fun s H C cl fp => (he s H C cl fp).can) hs, re_lc0 q1 rb_can rt_can re_can hts⟩
/-- y = [e for x in xs if c] on one line -/
theorem ds_setLc {elt : Expr} {ifs : List Expr} {scope : Scope} (i : Nat) {y : Str} {py spos : Pos} (own : List (Str × Nat)) (hc : X.calm = true) (hN : X.N.Nodup) (hi : DI X v0 false ei tg iter wi) (ok : BlkOk X.N X.env.scope scope own)
    (hsw : swapsWith (.ListComp elt [⟨tg, iter, ifs, 0⟩] scope pos) (some (.Name y py)) spos.line X.env = pure true)
    (hg : ∀ (s : Shared) (H : Hp) (C : Addr) (cl : List (Str × Addr)) (fp : List Addr), DB (X.blk s H scope (compEnvC scope cl C X.env) fp) v0 ts tg wg)
    (ht : ∀ (s : Shared) (H : Hp) (C : Addr) (cl : List (Str × Addr)) (fp : List Addr), DTs (X.blk s H scope (compEnvC scope cl C X.env) fp) v0 et ifs wt)
    (he : ∀ (s : Shared) (H : Hp) (C : Addr) (cl : List (Str × Addr)) (fp : List Addr), DE (X.blk s H scope (compEnvC scope cl C X.env) fp) v0 ea elt we)
    (hy : X.N[i]? = some y := by rfl) (hyl : X.env.scope.names.lookup y = some .local := by rfl)
    (hts : ∀ t ∈ ts, t ∈ own.map (·.2) := by decide) (hs : ∀ x, foldedSetIterable iter X.env x = pure x := by intro _; rfl) :
    DS X v0 (.Assign [.Name y py] (.ListComp elt [⟨tg, iter, ifs, 0⟩] scope pos) spos) (wAsg (wLc wi wg wt we (own.map (·.2))) (wName i)) := by
  obtain ⟨ti, p1, q1⟩ := hi
  exact ⟨_, ps_setLc hc hN hy hyl hsw p1 ok (fun s H C cl fp => (hg s H C cl fp).can) (fun s H C cl fp => (ht s H C cl fp).can) (fun s H C cl fp => (he s H C cl fp).can) hs, rs_asg (re_lc q1 rb_can rt_can re_can hts) (rb_name i)⟩
theorem ds_setLc0 {elt : Expr} {ifs : List Expr} {scope : Scope} (i : Nat) {y : Str} {py spos : Pos} (own : List (Str × Nat)) (hc : X.calm = true) (hN : X.N.Nodup) (hi : DI X v0 true false tg iter wi) (ok : BlkOk X.N X.env.scope scope own)
    (hsw : swapsWith (.ListComp elt [⟨tg, iter, ifs, 0⟩] scope pos) (some (.Name y py)) spos.line X.env = pure true)
    (hg : ∀ (s : Shared) (H : Hp) (C : Addr) (cl : List (Str × Addr)) (fp : List Addr), DB (X.blk s H scope (compEnvC scope cl C X.env) fp) v0 ts tg wg)
    (ht : ∀ (s : Shared) (H : Hp) (C : Addr) (cl : List (Str × Addr)) (fp : List Addr), DTs (X.blk s H scope (compEnvC scope cl C X.env) fp) v0 false ifs wt)
    (he : ∀ (s : Shared) (H : Hp) (C : Addr) (cl : List (Str × Addr)) (fp : List Addr), DE (X.blk s H scope (compEnvC scope cl C X.env) fp) v0 false elt we)
    (hy : X.N[i]? = some y := by rfl) (hyl : X.env.scope.names.lookup y = some .local := by rfl)
    (hts : ∀ t ∈ ts, t ∈ own.map (·.2) := by decide) (hs : ∀ x, foldedSetIterable iter X.env x = pure x := by intro _; rfl) :
    DS X v0 (.Assign [.Name y py] (.ListComp elt [⟨tg, iter, ifs, 0⟩] scope pos) spos) (wAsg (wLc0 wi wg wt we (own.map (·.2))) (wName i)) := by
  obtain ⟨ti, p1, q1⟩ := hi
  exact ⟨_, ps_setLc hc hN hy hyl hsw p1 ok (fun s H C cl fp => (hg s H C cl fp).can) (fun s H C cl fp => (ht s H C cl fp).can) (fun s H C cl fp => (he s H C cl fp).can) hs, rs_asg (re_lc0 q1 rb_can rt_can re_can hts) (rb_name i)⟩
end
end DL
namespace DL
open PySem PySem.Spec PyProof.Rows L2
/-- a list or a tuple, whichever the value is -/
def iSq (K : PySem.W.Frag) (tl : TE) : TI := fun σ H R => tl σ H fun x H1 => ∃ a, x = .ref a ∧ ((∃ xs, SqL K H1 a xs ∧ R (Itl K a) H1) ∨ ∃ xs, SqT K H1 a xs ∧ R (Itt K a) H1)
theorem pi_sq {X : Cx} {tg l : Expr} {tl : TE} (hl : PE X l tl) : PI X tg l (iSq X.K tl) := by
  constructor
  intro pins s σ H R I h
  refine thn (hl.run pins s σ H _ I h) ?_
  rintro v s1 ⟨x, H1, I1, r1, a, rfl, q⟩
  have rv : v = Value.ref a := r1
  subst rv
  have own1 : ∀ b ∈ [s1.heap.objs.size], FpOk X pins H1 b := by
    intro b hb
    rw [List.mem_singleton] at hb
    subst hb
    exact I1.fpOk (Nat.le_refl _) (I1.hok.fresh (Nat.le_refl _))
  rcases q with ⟨xs, hq, q⟩ | ⟨xs, hq, q⟩
  · obtain ⟨its, rv, p, hz⟩ := I1.list hq
    exact wpAny_pyIter_list p.isList ⟨s1.heap.objs.size, [s1.heap.objs.size], _, _, H1, rfl, I1.kept (t' := s1.toks) (fun b o e => Heap.get?_push_of_some _ e), turn_list a _, ⟨_, Heap.get?_push_size _ rfl, rfl, rfl⟩, own1, q⟩
  · obtain ⟨its, rv, p, hz⟩ := I1.tuple hq
    exact wpAny_pyIter_tuple (show s1.heap.IsTuple a its.toArray from p) ⟨s1.heap.objs.size, [s1.heap.objs.size], _, _, H1, rfl, I1.kept (t' := s1.toks) (fun b o e => Heap.get?_push_of_some _ e), turn_tuple a _, ⟨_, Heap.get?_push_size _ rfl, rfl, rfl⟩, own1, q⟩
section
variable {K : PySem.W.Frag} {m : Bool} {F1 : Nat → List Addr} {H1 : Hp} {a : Addr} {xs : List V} {ds : List PyData} {G : List Addr}
/-- a list or tuple whose items are read, for as long as it is walked -/
theorem items_stay (rp : RpAll K false H1 xs ds G) (ok : (∀ a ∈ G, ¬ Own F1 a) ∨ (m = true ∧ purs ds = true)) {i : Nat} {H : Hp} {x : V} {F' : Nat → List Addr} (hi : i < ds.length) (r : Rch m F1 H1 F' H) (lv : ∀ a, Own F' a → H a ≠ none) (hx : xs[i]? = some x) :
    ∃ d, ds[i]? = some d ∧ ∃ Gx, Rp K false H x d Gx ∧ ∀ a ∈ Gx, ¬ Own F' a := by
  obtain ⟨d, hd⟩ : ∃ d, ds[i]? = some d := ⟨ds[i], by simp [hi]⟩
  obtain ⟨v, G1, e1, rv, sub⟩ := rp.get hd
  rw [hx] at e1
  cases e1
  refine ⟨d, hd, ?_⟩
  rcases ok with n | ⟨hm, hp⟩
  · have n1 : ∀ a ∈ G1, ¬ Own F1 a := fun a i => n a (sub a i)
    refine ⟨G1, rv.keep r.1.tups _ _ _ fun a i o h => r.1.keep a o h (n1 a i), fun a i z => ?_⟩
    rcases r.1.own a z with z | z
    · exact n1 a i z
    · exact rv.live _ _ _ a i z
  · obtain ⟨_, q⟩ := Rp.pure' (m' := false) _ _ _ rv (purs_get hp hd)
    exact ⟨[], q.keep r.1.tups _ _ _ (fun a i => nomatch i), fun a i => nomatch i⟩
theorem wk_list (hs : SqL K H1 a xs) (rp : RpAll K false H1 xs ds G) (ok : (∀ a ∈ G, ¬ Own F1 a) ∨ (m = true ∧ purs ds = true)) (st : ∀ F' H', Rch m F1 H1 F' H' → SqL K H' a xs) : WkOk K m F1 H1 (Itl K a) ds := by
  refine ⟨fun H => SqL K H a xs, YAt xs, by rw [← rp.length]; exact walk_list, fun F' H' r => st F' H' r, fun i H x H' F' hi r lv y => ?_⟩
  obtain ⟨rfl, hx⟩ := y
  obtain ⟨d, hd, q⟩ := items_stay rp ok hi r lv hx
  exact ⟨d, hd, Ext.refl, q⟩
theorem wk_tup (hs : SqT K H1 a xs) (rp : RpAll K false H1 xs ds G) (ok : (∀ a ∈ G, ¬ Own F1 a) ∨ (m = true ∧ purs ds = true)) : WkOk K m F1 H1 (Itt K a) ds := by
  refine ⟨fun H => SqT K H a xs, YAt xs, by rw [← rp.length]; exact walk_tup, fun F' H' r => sqt_keep hs r.1.tups, fun i H x H' F' hi r lv y => ?_⟩
  obtain ⟨rfl, hx⟩ := y
  obtain ⟨d, hd, q⟩ := items_stay rp ok hi r lv hx
  exact ⟨d, hd, Ext.refl, q⟩
/-- the items with their numbers, each in a new pair -/
def numd (lo : Int) (ds : List PyData) : List PyData := ds.zipIdx.map fun p => .tuple [.int (lo + (p.2 : Nat)), p.1]
theorem numd_len {lo : Int} : (numd lo ds).length = ds.length := by simp [numd]
theorem numd_get {lo : Int} {i : Nat} {d : PyData} (h : ds[i]? = some d) : (numd lo ds)[i]? = some (.tuple [.int (lo + (i : Nat)), d]) := by simp [numd, h]
theorem pair_rp {H : Hp} {T : Addr} {x y : V} {dx dy : PyData} {Gx Gy : List Addr} (hT : H T = none) (rx : Rp K false H x dx Gx) (ry : Rp K false H y dy Gy) : Rp K false (upd H T (.tup [x, y])) (.ref T) (.tuple [dx, dy]) (Gx ++ (Gy ++ [])) := by
  have ex : Ext H (upd H T (.tup [x, y])) := Ext.upd hT
  exact .tup (.inl (.inl upd_same)) (.cons (rx.keep ex.tu _ _ _ (ex.kp _)) (.cons (ry.keep ex.tu _ _ _ (ex.kp _)) .nil))
theorem wk_enum {J : It} {S : Hp → Prop} (w : Walk J xs.length S (YPair (fun i => some (.int (i : Nat))) (fun i => xs[i]?))) (rp : RpAll K false H1 xs ds G) (ok : (∀ a ∈ G, ¬ Own F1 a) ∨ (m = true ∧ purs ds = true)) (st : ∀ F' H', Rch m F1 H1 F' H' → S H') :
    WkOk K m F1 H1 J (numd 0 ds) := by
  refine ⟨S, _, by rw [numd_len, ← rp.length]; exact w, st, fun i H x H' F' hi r lv y => ?_⟩
  obtain ⟨T, u, v, rfl, hT, rfl, hu, hv⟩ := y
  cases hu
  obtain ⟨d, hd, Gx, q1, q2⟩ := items_stay rp ok (by rw [numd_len] at hi; exact hi) r lv hv
  refine ⟨_, numd_get hd, Ext.upd hT, _, pair_rp hT (by have := Rp.int (K := K) (m := false) (H := H) (i : Nat); simpa using this) q1, fun a i => ?_⟩
  have : a ∈ Gx := by simpa using i
  exact q2 a this
end
section
variable {X : Cx} {v0 : Cv} {m ea : Bool} {we : WE} {te : TE} {e : Expr} {es : List Expr} {pos : Pos} {tg : Expr}
/-- what is walked of a value: its items -/
def wSq (m : Bool) (we : WE) : WI := fun ρ Q => we ρ fun ρ1 r => match r.d with
  | .list ds => (r.k ≠ .als ∨ (m = true ∧ purs ds = true)) ∧ Q ρ1 ds
  | .tuple ds => stb r = true ∧ Q ρ1 ds
  | _ => False
/-- from a result to what its walk asks -/
theorem sq_list {F H F1 H1} {kd : Kd} {ds : List PyData} {v : V} {G : List Addr} (ro : ResOk X.K F H F1 H1 ⟨kd, .list ds⟩ v G) (ok : kd ≠ .als ∨ (m = true ∧ purs ds = true)) :
    ∃ a xs G', v = .ref a ∧ SqL X.K H1 a xs ∧ RpAll X.K false H1 xs ds G' ∧ ((∀ a ∈ G', ¬ Own F1 a) ∨ (m = true ∧ purs ds = true)) ∧ ∀ F' H', Rch m F1 H1 F' H' → SqL X.K H' a xs := by
  obtain ⟨G2, q1, q2⟩ := ro.arg
  have q1 : Rp X.K false H1 v (.list ds) G2 := q1
  have q2 : kd ≠ .als → ∀ a ∈ G2, ¬ Own F1 a := q2
  cases q1 with
  | @lst a xs _ G' hm hs ha =>
    refine ⟨a, xs, G', rfl, .inl hs, ha, ?_, fun F' H' r => ?_⟩
    · rcases ok with n | z
      · exact .inl fun a i => q2 n a (.tail _ i)
      · exact .inr z
    · rcases ok with n | z
      · exact .inl (rd_keep hs fun o h => r.1.keep a o h (q2 n a (.head _)))
      · exact .inl (rd_keep hs fun o h => (r.2 z.1).2 a o h)
  | @lstK a xs _ _ hm hs ha =>
    refine ⟨a, xs, G2, rfl, .inr hs, ha, ?_, fun F' H' r => .inr hs⟩
    rcases ok with n | z
    · exact .inl (q2 n)
    · exact .inr z
theorem sq_tup {F H F1 H1} {kd : Kd} {ds : List PyData} {v : V} {G : List Addr} (ro : ResOk X.K F H F1 H1 ⟨kd, .tuple ds⟩ v G) (ok : stb ⟨kd, .tuple ds⟩ = true) :
    ∃ a xs G', v = .ref a ∧ SqT X.K H1 a xs ∧ RpAll X.K false H1 xs ds G' ∧ ∀ a ∈ G', ¬ Own F1 a := by
  obtain ⟨G2, q1, q2⟩ := ro.arg
  have q1 : Rp X.K false H1 v (.tuple ds) G2 := q1
  by_cases hp : pur (.tuple ds) = true
  · obtain ⟨_, q⟩ := Rp.pure' (m' := false) _ _ _ q1 hp
    obtain ⟨a, xs, rfl, hs, ra⟩ := q.sqt
    exact ⟨a, xs, [], rfl, hs, ra, fun _ i => nomatch i⟩
  · have hk : kd ≠ .als := by
      unfold stb at ok
      rw [Bool.or_eq_true] at ok
      rcases ok with z | z
      · exact bne_iff_ne.mp z
      · exact absurd z hp
    obtain ⟨a, xs, rfl, hs, ra⟩ := q1.sqt
    exact ⟨a, xs, G2, rfl, hs, ra, q2 hk⟩
theorem di_sq (m : Bool) (he : DE X v0 ea e we) : DI X v0 m ea tg e (wSq m we) := by
  obtain ⟨t, p, q⟩ := he
  refine ⟨_, pi_sq p, fun σ H ρ F S Qd Q h k => ?_⟩
  refine q σ H ρ F S _ _ h fun v H1 ρ1 F1 r G S1 s1 e1 r1 h1 => ?_
  obtain ⟨kd, d⟩ := r
  cases d with
  | list ds =>
    obtain ⟨a, xs, G', rfl, hs, ra, ok, st⟩ := sq_list r1 h1.1
    exact ⟨a, rfl, .inl ⟨xs, hs, k _ H1 ρ1 F1 ds S1 s1 e1 (wk_list hs ra ok st) h1.2⟩⟩
  | tuple ds =>
    obtain ⟨a, xs, G', rfl, hs, ra, n⟩ := sq_tup r1 h1.1
    exact ⟨a, rfl, .inr ⟨xs, hs, k _ H1 ρ1 F1 ds S1 s1 e1 (wk_tup hs ra (.inl n)) h1.2⟩⟩
  | _ => exact h1.elim
def rngD (lo : Int) (n : Nat) : List PyData := (List.range n).map fun (i : Nat) => PyData.int (lo + (i : Int))
theorem rngD_len {lo : Int} {n : Nat} : (rngD lo n).length = n := by simp [rngD]
theorem rngD_get {lo : Int} {n i : Nat} (h : i < n) : (rngD lo n)[i]? = some (.int (lo + (i : Nat))) := by simp [rngD, h]
theorem wk_range {K : PySem.W.Frag} {F1 : Nat → List Addr} {H1 : Hp} {lo : Int} {n : Nat} : WkOk K m F1 H1 (Itr lo n) (rngD lo n) := by
  refine ⟨fun _ => True, YFn fun i => .int (lo + i), by rw [rngD_len]; exact walk_range, fun _ _ _ => trivial, fun i H x H' F' hi r lv y => ?_⟩
  obtain ⟨rfl, rfl⟩ := y
  exact ⟨_, rngD_get (by rw [rngD_len] at hi; exact hi), Ext.refl, [], .int _, fun a i => nomatch i⟩
def wRng1 (wr : WA) : WI := fun ρ Q => wr ρ fun ρ1 rs => match rs with
  | [⟨_, .int j⟩] => -(2 ^ 62) ≤ j ∧ j < 2 ^ 62 ∧ Q ρ1 (rngD 0 j.toNat)
  | _ => False
def wRng2 (wr : WA) : WI := fun ρ Q => wr ρ fun ρ1 rs => match rs with
  | [⟨_, .int i⟩, ⟨_, .int j⟩] => (-(2 ^ 62) ≤ i ∧ i < 2 ^ 62 ∧ -(2 ^ 62) ≤ j ∧ j < 2 ^ 62) ∧ Q ρ1 (rngD i (j - i).toNat)
  | _ => False
theorem argsV1 {K : PySem.W.Frag} {N : Addr → Prop} {H : Hp} {r : R} {vs : List V} (A : ArgsV K N H [r] vs) : ∃ x, vs = [x] ∧ Arg K N H r x := by
  cases A with
  | cons a t =>
    cases t
    exact ⟨_, rfl, a⟩
theorem argsV2 {K : PySem.W.Frag} {N : Addr → Prop} {H : Hp} {r r' : R} {vs : List V} (A : ArgsV K N H [r, r'] vs) : ∃ x y, vs = [x, y] ∧ Arg K N H r x ∧ Arg K N H r' y := by
  cases A with
  | cons a t =>
    obtain ⟨y, rfl, b⟩ := argsV1 t
    exact ⟨_, y, rfl, a, b⟩
theorem arg_int {K : PySem.W.Frag} {N : Addr → Prop} {H : Hp} {k : Kd} {i : Int} {x : V} (A : Arg K N H ⟨k, .int i⟩ x) : x = .int i := rp_int A.choose_spec.1
theorem arg_str {K : PySem.W.Frag} {N : Addr → Prop} {H : Hp} {k : Kd} {i : Str} {x : V} (A : Arg K N H ⟨k, .str i⟩ x) : x = .str i := rp_str A.choose_spec.1
theorem arg_bool {K : PySem.W.Frag} {N : Addr → Prop} {H : Hp} {k : Kd} {i : Bool} {x : V} (A : Arg K N H ⟨k, .bool i⟩ x) : x = .bl i := rp_bool A.choose_spec.1
theorem arg_non {K : PySem.W.Frag} {N : Addr → Prop} {H : Hp} {k : Kd} {x : V} (A : Arg K N H ⟨k, .none⟩ x) : x = .non := rp_non A.choose_spec.1
theorem di_range1 {a : Expr} {wr : WA} {p : Pos} (m : Bool) (hg : Gl X "range") (hm : X.mg "range" = none) (ha : DG X v0 ea [a] wr) (hs : starEach [a] X.env = [(false, eval a X.env)] := by rfl) : DI X v0 m ea tg (.Call (.Name "range" p) [a] [] pos) (wRng1 wr) := by
  obtain ⟨t, p, q⟩ := ha
  refine ⟨_, pi_range1 hg hm p hs, fun σ H ρ F S Qd Q h k => ?_⟩
  refine q σ H ρ F S _ _ h fun vs H1 ρ1 F1 rs S1 s1 e1 A h1 => ?_
  split at h1
  · rename_i k0 j
    obtain ⟨x, rfl, ax⟩ := argsV1 A.each
    rw [arg_int ax]
    exact ⟨j, rfl, h1.1, h1.2.1, k _ H1 ρ1 F1 _ S1 s1 e1 wk_range h1.2.2⟩
  · exact h1.elim
theorem di_range2 {a b : Expr} {wr : WA} {p : Pos} (m : Bool) (hg : Gl X "range") (hm : X.mg "range" = none) (ha : DG X v0 ea [a, b] wr) (hs : starEach [a, b] X.env = [(false, eval a X.env), (false, eval b X.env)] := by rfl)
    (hs2 : starEach [b] X.env = [(false, eval b X.env)] := by rfl) : DI X v0 m ea tg (.Call (.Name "range" p) [a, b] [] pos) (wRng2 wr) := by
  obtain ⟨t, p, q⟩ := ha
  refine ⟨_, pi_range2 hg hm p hs hs2, fun σ H ρ F S Qd Q h k => ?_⟩
  refine q σ H ρ F S _ _ h fun vs H1 ρ1 F1 rs S1 s1 e1 A h1 => ?_
  split at h1
  · rename_i k0 i k1 j
    obtain ⟨x, y, rfl, ax, ay⟩ := argsV2 A.each
    rw [arg_int ax, arg_int ay]
    exact ⟨i, j, rfl, h1.1, k _ H1 ρ1 F1 _ S1 s1 e1 wk_range h1.2⟩
  · exact h1.elim
end
set_option maxHeartbeats 1000000 in
theorem enum_one {v : Value} {ob : Obj} {Hh : Heap → Prop} (B : Begins v ob Hh) :
    Meets (Builtin.«enumerate.__new__» ⟨[.type "enumerate", v], []⟩) (fun _ R s => Hh s.heap ∧
      R (.ok (.ret (.ref (s.heap.push ob).objs.size))) { s with heap := (s.heap.push ob).push { cls := .type "enumerate", data := .fields #[.none, .bool false, .ref s.heap.objs.size, rawInt 0, .none, .none] } }) := by
  refine .of_wp fun prog w A R s h => ?_
  obtain ⟨hp, gg, dd, tk, os⟩ := s
  obtain ⟨h1, h⟩ := h
  have hsub := sub_enumerate
  have q1 : ∀ {A' : Around} {E Q : Value → Shared → Prop}, Q (.ref hp.objs.size) ⟨hp.push ob, gg, dd, tk, os⟩ → wpAny (model prog w) A' (pyIter v) Q E ⟨hp, gg, dd, tk, os⟩ := fun q => B.iter prog w _ _ ⟨hp, gg, dd, tk, os⟩ _ h1 q
  wp_walk using q1
  refine wpAny_stack_any fun st => wpAny_pure ?_
  split
  · rename_i c _ _ _ _ _
    cases (c == Value.type "enumerate") <;> (wp_walk using q1; exact ⟨_, rfl, h⟩)
  · wp_walk using q1
    exact ⟨_, rfl, h⟩
theorem call_enum1 {prog : Program} {w : World} {A : Around} {E : Value → Shared → Prop} {s : Shared} {v : Value} {ob : Obj} {Hh : Heap → Prop} {Q : Value → Shared → Prop} (B : Begins v ob Hh) (h1 : Hh s.heap)
    (h : ∀ h', IsEnum h' (s.heap.objs.size + 1) s.heap.objs.size 0 .none → h'.get? s.heap.objs.size = some ob → h'.objs.size = s.heap.objs.size + 2 → (∀ b o, s.heap.get? b = some o → h'.get? b = some o) → Q (.ref (s.heap.objs.size + 1)) { s with heap := h' }) :
    wpAny (model prog w) A (call (.type "enumerate") [v]) Q E s := by
  refine callType_new F.called_enumerate (by decide) (F.typeCall_enumerate_1 _) (F.newCall_enumerate_1 _) (fun obj => F.args_object_init_2 obj _) F.entry_enumerate_new (enum_one B) ⟨h1, ?_⟩
  have hz : (s.heap.push ob).objs.size = s.heap.objs.size + 1 := Heap.size_push ..
  show _ ∧ _
  rw [hz]
  have he : IsEnum ((s.heap.push ob).push { cls := .type "enumerate", data := .fields #[.none, .bool false, .ref s.heap.objs.size, rawInt 0, .none, .none] }) (s.heap.objs.size + 1) s.heap.objs.size 0 .none := by
    have q := Heap.get?_push_size (s.heap.push ob) (o := { cls := .type "enumerate", data := .fields #[.none, .bool false, .ref s.heap.objs.size, rawInt 0, .none, .none] }) rfl
    rwa [hz] at q
  exact ⟨⟨_, he, rfl⟩, h _ he (Heap.get?_push_of_some _ (Heap.get?_push_size _ B.free)) (by rw [Heap.size_push, hz]) fun b o x => Heap.get?_push_of_some _ (Heap.get?_push_of_some _ x)⟩
/-- the tuple at a, each item in a new pair with its number -/
def Itet (K : PySem.W.Frag) (a : Addr) : It where
  go := fun i H => ∃ (xs : List V) (x : V), SqT K H a xs ∧ xs[i]? = some x
  yld := fun i H v H' => ∃ T x, v = .ref T ∧ H T = none ∧ H' = upd H T (.tup [.int (i : Nat), x]) ∧ ∀ xs, SqT K H a xs → xs[i]? = some x
  stop := fun i H => ∃ xs : List V, SqT K H a xs ∧ xs.length = i
theorem turn_enumT {P : Program} {w : World} {K : PySem.W.Frag} {elts : List Expr} {kk : Nat} {tpos : Pos} (a e it : Addr) :
    Turn P w K (.Tuple elts kk tpos) (Itet K a) [e, it] e (fun i h => (∃ old, IsEnum h e it ((i : Nat) : Int) old) ∧ h.IsTupleIter it a i ∧ e ≠ it) where
  mem := by simp
  obj := by
    rintro i h ⟨⟨old, he⟩, ⟨o, ho, hc, hd⟩, _⟩ b hb
    rcases (by simpa using hb : b = e ∨ b = it) with rfl | rfl
    · exact ⟨_, he, fun v q => nomatch q⟩
    · exact ⟨o, ho, fun v q => by rw [hd] at q; cases q⟩
  keep := by
    rintro i h h' ⟨⟨old, he⟩, hi, hne⟩ k
    exact ⟨⟨old, k e (by simp) _ he⟩, hi.at fun o q => k it (by simp) o q, hne⟩
  item := by
    intro X hP hw hK hc i pins s σ H E I hf st hg
    subst hP hw hK
    obtain ⟨⟨old, he⟩, hit, hne⟩ := st
    obtain ⟨xs, x, hq, hx⟩ := hg
    obtain ⟨its, rv, p, hz⟩ := I.tuple hq
    obtain ⟨u, hu, ru⟩ := rv.get hx
    have pt : s.heap.IsTuple a its.toArray := p
    have hel : e < s.heap.objs.size := Heap.lt_size he
    have hil : it < s.heap.objs.size := let ⟨_, q, _⟩ := hit; Heap.lt_size q
    have hae : e ≠ a := fun z => by
      obtain ⟨o, ho, hco, _⟩ := pt
      have he' : s.heap.get? e = some _ := he
      rw [z, ho] at he'
      cases he'
      exact absurd (Value.type.inj hco) (by decide)
    have hai : a ≠ it := fun z => by
      obtain ⟨o, ho, hco, _⟩ := pt
      obtain ⟨o', ho', hco', _⟩ := hit
      rw [z, ho'] at ho
      cases ho
      rw [hco] at hco'
      exact absurd (Value.type.inj hco') (by decide)
    have hd1 : X.A.in1.handled = none := I.ok.hd hc
    have hlt : i < its.toArray.size := by
      have := (List.getElem?_eq_some_iff.mp hu).1
      simpa using this
    refine wpAny_pyNext_enum_itemD (Draws.tuple hd1 it a hai its.toArray) he ⟨hit, pt⟩ hlt hne (by simp [hne, hae]) fun y h' tk hy ho st' hT hsz hk => ?_
    have hyu : y = u := by
      rw [List.getElem?_toArray, hu] at hy
      exact (Option.some.inj hy).symm
    subst hyu
    refine ⟨_, rfl, wpAny_letOwnedTupleGo_enum (s := { s with heap := h', toks := tk + 1 }) ho fun h'' he' sb => ?_⟩
    have hT2 := (sb.2 _ (Nat.ne_of_gt hel)).trans hT
    have new : ObjOk X.prog X.w (upd H s.heap.objs.size (.tup [.int (i : Nat), x])) h'' s.heap.objs.size (.tup [.int (i : Nat), x]) :=
      ⟨by show 2 ≤ sizeLine; decide, [.int i tk, y], .cons ⟨_, rfl⟩ (.cons ru .nil), ⟨_, hT2, rfl, _, rfl⟩⟩
    have I1 : Inv X pins σ (upd H s.heap.objs.size (.tup [.int (i : Nat), x])) { s with heap := h'', toks := tk + 1 } :=
      I.turnedNew (ch := [e, it]) (fun b ob hb q => (sb.2 b (fun z => hb (by simp [z]))).trans (hk b ob (fun z => hb (by simp [z])) (fun z => hb (by simp [z])) q)) hf (Nat.le_refl _) new
    have hn : (((i + 1 : Nat)) : Int) = (i : Int) + 1 := by omega
    refine ⟨.ref s.heap.objs.size, _, I1, rfl, ⟨_, x, rfl, I.hok.fresh (Nat.le_refl _), rfl, fun ys hy => by rw [I.tuple_inj hy hq]; exact hx⟩, ⟨⟨y, by rw [hn]; exact he'⟩, st'.1.at fun o q => (sb.2 it (Ne.symm hne)).trans q, hne⟩, fun b hb => ?_⟩
    have hb' : b ≠ s.heap.objs.size := by
      rcases (by simpa using hb : b = e ∨ b = it) with rfl | rfl
      · exact Nat.ne_of_lt hel
      · exact Nat.ne_of_lt hil
    rw [upd_ne hb']
    exact (hf b hb).1
  done := by
    intro X hP hw hK hc i pins s σ H E I hf st hg
    subst hP hw hK
    obtain ⟨⟨old, he⟩, hit, hne⟩ := st
    obtain ⟨xs, hq, hx⟩ := hg
    obtain ⟨its, rv, p, hz⟩ := I.tuple hq
    have pt : s.heap.IsTuple a its.toArray := p
    have hd1 : X.A.in1.handled = none := I.ok.hd hc
    obtain ⟨f0, f1, f2, f3, f4, f5⟩ := hf it (by simp)
    have hl := rv.length
    have hai : a ≠ it := fun z => by
      obtain ⟨o, ho, hco, _⟩ := pt
      obtain ⟨o', ho', hco', _⟩ := hit
      rw [z, ho'] at ho
      cases ho
      rw [hco] at hco'
      exact absurd (Value.type.inj hco') (by decide)
    have hn : its.toArray.size = i := by simp; omega
    refine wpAny_pyNext_enum_endD (Draws.tuple hd1 it a hai its.toArray) he (by rw [hn]; exact ⟨hit, pt⟩) fun h' eb => ⟨rfl, I.turned (t' := s.toks) (fun b o hb q => eb b o hb q) f0 f1 f3 f4 f5⟩
  self := fun A i s Q E st h => let ⟨⟨_, he⟩, _⟩ := st; wpAny_pyIter_enum he h
def iEnA (K : PySem.W.Frag) (ta : TA) : TI := fun σ H R => ta σ H fun vs H1 => ∃ a xs, vs = [.ref a] ∧ ((SqL K H1 a xs ∧ R (Ite K a) H1) ∨ (SqT K H1 a xs ∧ R (Itet K a) H1))
theorem pi_enA {X : Cx} {e : Expr} {ta : TA} {p pos tpos : Pos} {elts : List Expr} {kk : Nat} (hg : Gl X "enumerate") (hm : X.mg "enumerate" = none) (ha : PA X [e] ta) (hs : starEach [e] X.env = [(false, eval e X.env)] := by rfl) :
    PI X (.Tuple elts kk tpos) (.Call (.Name "enumerate" p) [e] [] pos) (iEnA X.K ta) := by
  constructor
  intro pins s σ H R I h
  refine Call_ (ld_blt I hg hm boot_enumerate (PyProof.Rows.callWith_type1 (thn (ha.run pos pins s σ H _ I h) ?_) hs rfl))
  rintro us s1 ⟨vs, H1, I1, r1, a, xs, rfl, q1⟩
  obtain ⟨u, rfl, r⟩ : ∃ u, us = [u] ∧ RelV (.ref a) u := by
    cases r1 with
    | cons r rr =>
      cases rr
      exact ⟨_, rfl, r⟩
  have ru : u = Value.ref a := r
  subst ru
  have own2 : ∀ b ∈ [s1.heap.objs.size + 1, s1.heap.objs.size], FpOk X pins H1 b := fun b hb => by
    have hle : s1.heap.objs.size ≤ b := by
      rcases (by simpa using hb : b = s1.heap.objs.size + 1 ∨ b = s1.heap.objs.size) with z | z <;> rw [z]
      · exact Nat.le_add_right _ _
      · exact Nat.le_refl _
    exact I1.fpOk hle (I1.hok.fresh hle)
  rcases q1 with ⟨hq, q⟩ | ⟨hq, q⟩
  · obtain ⟨its, rv, p', hz⟩ := I1.list hq
    refine call_enumerate_list p'.isList fun h' he hit hsz hk => wpAny_pyIter_enum he ?_
    exact ⟨s1.heap.objs.size + 1, [s1.heap.objs.size + 1, s1.heap.objs.size], _, _, H1, rfl, I1.kept (t' := s1.toks) hk, turn_enum a (s1.heap.objs.size + 1) s1.heap.objs.size, ⟨⟨.none, he⟩, hit, Nat.succ_ne_self _⟩, own2, q⟩
  · obtain ⟨its, rv, p', hz⟩ := I1.tuple hq
    refine call_enum1 (begins_tuple a its.toArray) (show s1.heap.IsTuple a its.toArray from p') fun h' he ho hsz hk => wpAny_pyIter_enum he ?_
    exact ⟨s1.heap.objs.size + 1, [s1.heap.objs.size + 1, s1.heap.objs.size], _, _, H1, rfl, I1.kept (t' := s1.toks) hk, turn_enumT a (s1.heap.objs.size + 1) s1.heap.objs.size, ⟨⟨.none, he⟩, ⟨_, ho, rfl, rfl⟩, Nat.succ_ne_self _⟩, own2, q⟩
theorem walk_enumT {K : PySem.W.Frag} {a : Addr} {xs : List V} : Walk (Itet K a) xs.length (fun H => SqT K H a xs) (YPair (fun i => some (.int (i : Nat))) (fun i => xs[i]?)) := by
  refine ⟨fun i _ hi q => ⟨xs, xs[i], q, by simp [hi]⟩, fun _ q => ⟨xs, q, rfl⟩, fun i H v H' _ q y => ?_⟩
  obtain ⟨T, x, h1, h2, h3, h4⟩ := y
  exact ⟨T, .int (i : Nat), x, h1, h2, h3, rfl, h4 xs q⟩
section
variable {X : Cx} {v0 : Cv} {ea : Bool} {e : Expr} {pos : Pos}
def wEn (m : Bool) (wr : WA) : WI := fun ρ Q => wr ρ fun ρ1 rs => match rs with
  | [⟨k, .list ds⟩] => (k ≠ .als ∨ (m = true ∧ purs ds = true)) ∧ Q ρ1 (numd 0 ds)
  | [⟨k, .tuple ds⟩] => stb ⟨k, .tuple ds⟩ = true ∧ Q ρ1 (numd 0 ds)
  | _ => False
/-- one argument, from a list of arguments -/
theorem sq_listA {K : PySem.W.Frag} {m : Bool} {F1 H1} {kd : Kd} {ds : List PyData} {v : V} (A : Arg K (fun a => ¬ Own F1 a) H1 ⟨kd, .list ds⟩ v) (ok : kd ≠ .als ∨ (m = true ∧ purs ds = true)) :
    ∃ a xs G', v = .ref a ∧ SqL K H1 a xs ∧ RpAll K false H1 xs ds G' ∧ ((∀ a ∈ G', ¬ Own F1 a) ∨ (m = true ∧ purs ds = true)) ∧ ∀ F' H', Rch m F1 H1 F' H' → SqL K H' a xs := by
  obtain ⟨G2, q1, q2⟩ := A
  have q1 : Rp K false H1 v (.list ds) G2 := q1
  have q2 : kd ≠ .als → ∀ a ∈ G2, ¬ Own F1 a := q2
  cases q1 with
  | @lst a xs _ G' hm hs ha =>
    refine ⟨a, xs, G', rfl, .inl hs, ha, ?_, fun F' H' r => ?_⟩
    · rcases ok with n | z
      · exact .inl fun a i => q2 n a (.tail _ i)
      · exact .inr z
    · rcases ok with n | z
      · exact .inl (rd_keep hs fun o h => r.1.keep a o h (q2 n a (.head _)))
      · exact .inl (rd_keep hs fun o h => (r.2 z.1).2 a o h)
  | @lstK a xs _ _ hm hs ha =>
    refine ⟨a, xs, G2, rfl, .inr hs, ha, ?_, fun F' H' r => .inr hs⟩
    rcases ok with n | z
    · exact .inl (q2 n)
    · exact .inr z
theorem sq_tupA {K : PySem.W.Frag} {F1 H1} {kd : Kd} {ds : List PyData} {v : V} (A : Arg K (fun a => ¬ Own F1 a) H1 ⟨kd, .tuple ds⟩ v) (ok : stb ⟨kd, .tuple ds⟩ = true) :
    ∃ a xs G', v = .ref a ∧ SqT K H1 a xs ∧ RpAll K false H1 xs ds G' ∧ ∀ a ∈ G', ¬ Own F1 a := by
  obtain ⟨G2, q1, q2⟩ := A
  have q1 : Rp K false H1 v (.tuple ds) G2 := q1
  by_cases hp : pur (.tuple ds) = true
  · obtain ⟨_, q⟩ := Rp.pure' (m' := false) _ _ _ q1 hp
    obtain ⟨a, xs, rfl, hs, ra⟩ := q.sqt
    exact ⟨a, xs, [], rfl, hs, ra, fun _ i => nomatch i⟩
  · have hk : kd ≠ .als := by
      unfold stb at ok
      rw [Bool.or_eq_true] at ok
      rcases ok with z | z
      · exact bne_iff_ne.mp z
      · exact absurd z hp
    obtain ⟨a, xs, rfl, hs, ra⟩ := q1.sqt
    exact ⟨a, xs, G2, rfl, hs, ra, q2 hk⟩
theorem di_en {elts : List Expr} {kk : Nat} {tpos p : Pos} {wr : WA} (m : Bool) (hg : Gl X "enumerate") (hm : X.mg "enumerate" = none) (ha : DG X v0 ea [e] wr) (hs : starEach [e] X.env = [(false, eval e X.env)] := by rfl) :
    DI X v0 m ea (.Tuple elts kk tpos) (.Call (.Name "enumerate" p) [e] [] pos) (wEn m wr) := by
  obtain ⟨t, pa, q⟩ := ha
  refine ⟨_, pi_enA hg hm pa hs, fun σ H ρ F S Qd Q h k => ?_⟩
  refine q σ H ρ F S _ _ h fun vs H1 ρ1 F1 rs S1 s1 e1 A h1 => ?_
  split at h1
  · rename_i kd ds
    obtain ⟨x, rfl, ax⟩ := argsV1 A.each
    obtain ⟨a, xs, G', rfl, hq, ra, ok, st⟩ := sq_listA ax h1.1
    exact ⟨a, xs, rfl, .inl ⟨hq, k _ H1 ρ1 F1 _ S1 s1 e1 (wk_enum walk_enum ra ok st) h1.2⟩⟩
  · rename_i kd ds
    obtain ⟨x, rfl, ax⟩ := argsV1 A.each
    obtain ⟨a, xs, G', rfl, hq, ra, n⟩ := sq_tupA ax h1.1
    exact ⟨a, xs, rfl, .inr ⟨hq, k _ H1 ρ1 F1 _ S1 s1 e1 (wk_enum walk_enumT ra (.inl n) fun F' H' r => sqt_keep hq r.1.tups) h1.2⟩⟩
  · exact h1.elim
end
end DL
namespace DL
open PySem PySem.Spec PyProof.Rows L2
/-- a def keeps its promise wherever no repr is under way -/
structure FnG (P : Program) (w : World) (K : PySem.W.Frag) (mg : Str → Option Value) (base : Heap) (CX : CXT) (k : Nat) (f : Addr) (fd : FuncData) (ps : List Str) (sp : Sp) : Prop where
  len : ∀ vs H Q E, sp vs H Q E → vs.length = ps.length
  run : ∀ (A : Around) (outer : List Env) (s : Shared) (H : Hp) (args : Args) (us : List Value) (vs : List V) (Q : VK) (E : XK), A.guards = some [] → Room k A → Env0 P w K mg base A outer s H →
    BindsTo s fd args (ps.zip us) → Vals vs us → sp vs H Q E → codeAny (model P w) A (.call (.ref f) args) (CR CX outer P w H s Q E) s
section
variable {P : Program} {w : World} {K : PySem.W.Frag} {mg : Str → Option Value} {base : Heap} {CX : CXT} {k : Nat} {f : Addr} {fd : FuncData} {ps : List Str} {sp : Sp}
theorem FnG.mono {j : Nat} (F : FnG P w K mg base CX j f fd ps sp) (h : j ≤ k) : FnG P w K mg base CX k f fd ps sp := ⟨F.len, fun A outer s H args us vs Q E g hr => F.run A outer s H args us vs Q E g (hr.mono h)⟩
/-- a def of the text, by its body -/
theorem fnG_of {name qual : Str} {params : Arguments} {body : List Stmt} {scope : Scope} {dV kV doc pm cdv ct oc : Value} {an od : Option Addr} {osl : Array (Option Value)} {N : List Str}
    (lk : K.lookup f = some ⟨oc, od, .func (PySem.W.fnOf name qual params body scope dV kV doc pm an cdv ct), osl⟩) (hcd : PySem.W.codeIn K cdv qual = true) (S : FnScope N ps scope) (len : ∀ vs H Q E, sp vs H Q E → vs.length = ps.length)
    (hbody : ∀ (A : Around) (outer : List Env) (s : Shared) (H : Hp) (vs : List V) (Q : VK) (E : XK), A.guards = some [] → Room k (A.deeper (envOfC qual scope s.heap.objs.size f cdv)) → sp vs H Q E →
      ∃ t, PSs (cxOf CX P w K mg base N qual scope f cdv A outer s H E) body t ∧ t { nx := fun _ H' => Q .non H', rt := Q } (start N vs) H) :
    FnG P w K mg base CX (k + 1) f (PySem.W.fnOf name qual params body scope dV kV doc pm an cdv ct) ps sp := by
  constructor
  · exact len
  intro A outer s H args us vs Q E hgd hr e0 hb r hsp
  have KX : K.In s.heap := e0.mod.kin.keeps fun b o e => (e0.bs b o e).1
  have lim : s.heap.NoLimit := e0.mod.nolimit.keeps fun b o e => (e0.bs b o e).1
  have hkind : ∀ y ∈ ps.zip us, scope.names.lookup y.1 = some .local ∨ (scope.names.lookup y.1 = some .cell ∧ ((cellsFrom (s.heap.objs.size + 1) scope.names []).lookup y.1).isSome = true) := by
    rintro ⟨n, v⟩ hy
    exact (S.par n (List.of_mem_zip hy).1).imp id fun q => ⟨q, PySem.W.cellsFrom_some _ _ _ (.inl q)⟩
  refine codeAny_call_function hr.depth (KX _ _ lk) rfl S.co S.gen rfl (PySem.W.codeRec_of KX hcd) (hb _ _ _ _ (wpAny_newFunctionEnv_cells S.kind hkind ?_))
  rintro env rfl s1 x
  refine ⟨lim.keeps x.toInCall.keep, codeAny_func ?_⟩
  obtain ⟨t, ht, hq⟩ := hbody A outer s H vs Q E hgd (hr.deeper _) hsp
  have I := inv_start (CX := CX) (E := E) (cd := cdv) (qual := qual) S hr.hd e0 (len _ _ _ _ hsp) r x
  refine wpAny_mono (ht.run [] s1 (start N vs) H _ I hq) ?_ fun e s' hs => hs
  intro fl s' hs
  cases fl with
  | ret u =>
    obtain ⟨v, σ', H', J, rv, q⟩ := hs
    exact ⟨v, H', J.os, J.bare, J.base, J.hok, rv, q⟩
  | next =>
    obtain ⟨σ', H', J, q⟩ := hs
    exact ⟨.non, H', J.os, J.bare, J.base, J.hok, rfl, q⟩
  | brk =>
    obtain ⟨_, _, _, q⟩ := hs
    exact (show False from q).elim
  | cont =>
    obtain ⟨_, _, _, q⟩ := hs
    exact (show False from q).elim
end
section
variable {X : Cx} {CX : CXT} {k : Nat} {f : Addr} {fd : FuncData} {ps ks : List Str} {sp : Sp} {E : XK} {x : Str} {p pos kpos : Pos} {e : Expr} {es : List Expr} {kws : List Keyword} {t tk : TA} {nm : Option Str}
theorem run_G {pins : List (Addr × Obj)} {σ : L2.St} {H : Hp} {s : Shared} {Q : VK} {args : Args} {us : List Value} {vs : List V} (F : FnG X.prog X.w X.K X.mg X.base CX k f fd ps sp) (hgd : X.A.guards = some []) (hr : Room k X.A) (hx : Passes CX X E)
    (I : Inv X pins σ H s) (hb : BindsTo s fd args (ps.zip us)) (r : Vals vs us) (h : sp vs H Q E) : wpAny (model X.prog X.w) X.A (call (.ref f) args.pos args.kw) (EP X pins σ Q) X.xe s := by
  refine wpAny_call (codeAny_mono (F.run X.A X.stack s H args us vs Q E hgd hr I.env0 hb r h) ?_)
  intro r s' hq
  cases r with
  | error e => exact hx pins σ H s e s' I hq
  | ok fl =>
    cases fl with
    | ret u => exact I.after hq
    | next => exact hq.elim
    | brk => exact hq.elim
    | cont => exact hq.elim
theorem pe_callG (F : FnG X.prog X.w X.K X.mg X.base CX k f fd ps sp) (hgd : X.A.guards = some []) (hr : Room k X.A) (hg : Gl X x) (hm : X.mg x = some (.ref f)) (hk : PySem.W.keepIn X.K (.ref f) = true) (hb : Binds X.K fd ps []) (hx : Passes CX X E)
    (ha : PA X (e :: es) t) (hdb : (x == ("__debug__" : Str)) = false := by decide) (he : starEach (e :: es) X.env = (false, eval e X.env) :: starEach es X.env := by rfl) (hpl : (backTo pos (starEach es X.env)).any (·.1) = false := by rfl) :
    PE X (.Call (.Name x p) (e :: es) [] pos) (tCall sp [] E t) := by
  constructor
  intro pins s σ H Q I h
  refine wpAny_Call_Name_kw (ld_glob I hg hm ?_ hdb)
  refine PySem.W.callWith_K (h₀ := X.base) I.ok.mod.kin hk (thn (ha.run pos pins s σ H _ I h) ?_) he hpl
  rintro us s1 ⟨vs, H1, I1, r, q⟩
  rw [List.append_nil] at q
  have hl : us.length = ps.length := by rw [← r.length]; exact F.len _ _ _ _ q
  have hb' := hb s1 us I1.kIn (by rw [List.append_nil]; exact hl)
  rw [List.append_nil] at hb'
  exact ⟨I1.kIn, run_G (args := ⟨us, []⟩) F hgd hr hx I1 hb' r q⟩
theorem pe_callG0 (F : FnG X.prog X.w X.K X.mg X.base CX k f fd ps sp) (hgd : X.A.guards = some []) (hr : Room k X.A) (hg : Gl X x) (hm : X.mg x = some (.ref f)) (hk : PySem.W.keepIn X.K (.ref f) = true) (hb : Binds X.K fd ps []) (hx : Passes CX X E)
    (hdb : (x == ("__debug__" : Str)) = false := by decide) : PE X (.Call (.Name x p) [] [] pos) (tCall sp [] E tNil) := by
  constructor
  intro pins s σ H Q I h
  have h : sp [] H Q E := h
  have hl : ([] : List Value).length = ps.length := F.len _ _ _ _ h
  have hb' := hb s [] I.kIn (by rw [List.append_nil]; exact hl)
  rw [List.append_nil] at hb'
  exact wpAny_Call_Name_kw (ld_glob I hg hm (PySem.W.callWith_K0 I.kIn hk (run_G (args := ⟨[], []⟩) F hgd hr hx I hb' .nil h)) hdb)
/-- f(k = v, ..): all by names -/
theorem pe_callGK {g : List Value → List Value} {gV : List V → List V} (F : FnG X.prog X.w X.K X.mg X.base CX k f fd ps sp) (hgd : X.A.guards = some []) (hr : Room k X.A) (hg : Gl X x) (hm : X.mg x = some (.ref f)) (hk : PySem.W.keepIn X.K (.ref f) = true)
    (hb : ∀ (s : Shared) (ws : List Value), X.K.In s.heap → (g ws).length = ps.length → BindsTo s fd ⟨[], ks.zip ws⟩ (ps.zip (g ws))) (hrel : ∀ (zs : List V) (ws : List Value), Vals zs ws → Vals (gV zs) (g ws)) (hx : Passes CX X E) (hkw : PK X kws tk) (hall : (backToKw pos (keywordEach kws X.env)).all (·.1.isSome) = true := by rfl) (hks : (backToKw pos (keywordEach kws X.env)).filterMap (·.1) = ks := by rfl)
    (hdb : (x == ("__debug__" : Str)) = false := by decide) (hpl : ((backTo pos (starEach [] X.env)).any (·.1) || (backToKw pos (keywordEach kws X.env)).any (·.1.isNone)) = false := by rfl) :
    PE X (.Call (.Name x p) [] kws pos) (fun σ H Q => tk σ H fun zs H1 => sp (gV zs) H1 Q E) := by
  constructor
  intro pins s σ H Q I h
  refine wpAny_Call_Name_kw (ld_glob I hg hm ?_ hdb)
  refine PySem.W.callWith_KW0 (h₀ := X.base) I.ok.mod.kin hk hall (thn (hkw.run pos pins s σ H _ I h) ?_) hpl
  rintro ws s1 ⟨zs, H1, I1, rz, q⟩
  refine ⟨I1.kIn, ?_⟩
  rw [hks]
  have r2 := hrel zs ws rz
  have hl : (g ws).length = ps.length := by rw [← r2.length]; exact F.len _ _ _ _ q
  exact run_G (args := ⟨[], ks.zip ws⟩) F hgd hr hx I1 (hb s1 ws I1.kIn hl) r2 q
end
/-- a promise: for each a the arguments (lent: fix; shared: shr), what is asked ahead, what is told of the environment at the end (for what was lent) and of the result -/
structure Ct where
  α : Type
  args : α → List R
  pre : α → Prop
  post : α → DEnv → R → Prop
def Ct.sd (c : Ct) (rs : List R) (Q : DEnv → R → Prop) : Prop := ∃ a, rs = c.args a ∧ c.pre a ∧ ∀ ρ' r, c.post a ρ' r → Q ρ' r
/-- what stands behind: the environment at the end, for the arguments that were lent -/
def spD (K : PySem.W.Frag) (n : Nat) (c : Ct) : Sp := fun vs H Q _ => vs.length = n ∧ ∃ rs F0, StOk K (cv0 (vs.map some) F0 H) (vs.map some) H (rs.map some) F0 ∧ (∀ r ∈ rs, r.k = .shr ∨ r.k = .fix) ∧
  c.sd rs fun ρ' r => ∀ v σ' H' F' G, StOk K (cv0 (vs.map some) F0 H) σ' H' ρ' F' → Step F0 H F' H' → ResOk K F0 H F' H' r v G → Q v H'
/-- a def by its data -/
structure FnD (P : Program) (w : World) (K : PySem.W.Frag) (mg : Str → Option Value) (base : Heap) (k : Nat) (f : Addr) (fd : FuncData) (ps : List Str) (c : Ct) : Prop where
  fn : FnG P w K mg base CX0 k f fd ps (spD K ps.length c)
  len : ∀ a, (c.args a).length = ps.length
  sm : ps.length ≤ big
section
variable {P : Program} {w : World} {K : PySem.W.Frag} {mg : Str → Option Value} {base : Heap}
theorem FnD.mono {j k : Nat} {f : Addr} {fd : FuncData} {ps : List Str} {c : Ct} (F : FnD P w K mg base j f fd ps c) (h : j ≤ k) : FnD P w K mg base k f fd ps c := ⟨F.fn.mono h, F.len, F.sm⟩
def startD (n : Nat) (rs : List R) : DEnv := rs.map some ++ List.replicate (n - rs.length) none
/-- THE RULE for a def: its body's reading by data -/
theorem fnD {x qual : Str} {st : Stmt} {f : Addr} {fd : FuncData} {N ps : List Str} {k : Nat} {c : Ct} (F : Fun K x qual st f fd) (S : FnScope N ps (defScope st)) (len : ∀ a, (c.args a).length = ps.length)
    (hbody : ∀ (cdv : Value) (A : Around) (outer : List Env) (s : Shared) (H : Hp) (E : XK) (v0 : Cv), A.guards = some [] → Room k (A.deeper (envOfC qual (defScope st) s.heap.objs.size f cdv)) →
      ∃ wb, DSs (cxOf CX0 P w K mg base N qual (defScope st) f cdv A outer s H E).nox v0 (defBody st) wb ∧ ∀ a, c.pre a → wb { nx := fun ρ => c.post a ρ (DL.P .none), rt := c.post a } (startD N.length (c.args a))) (hN : N.length ≤ big := by decide +kernel) :
    FnD P w K mg base (k + 1) f fd ps c := by
  have hpN : ps.length ≤ N.length := by
    have := congrArg List.length S.pre
    rw [List.length_take] at this
    omega
  obtain ⟨oc, od, kV, doc, pm, an, cdv, ct, osl, rfl, lk, hcd⟩ := F.ex
  refine ⟨fnG_of lk hcd S (fun vs H Q E h => h.1) fun A outer s H vs Q E hgd hr hsp => ?_, len, Nat.le_trans hpN hN⟩
  obtain ⟨hl, rs, F0, S0, hk, a, rfl, hpre, hq⟩ := hsp
  obtain ⟨wb, ⟨t, p, q⟩, hw⟩ := hbody cdv A outer s H E (cv0 (vs.map some) F0 H) hgd hr
  have hrl : (c.args a).length = vs.length := by simpa using S0.len
  have hpl : ps.length ≤ N.length := by
    have := congrArg List.length S.pre
    rw [List.length_take] at this
    omega
  have S1 : StOk K (cv0 (vs.map some) F0 H) (L2.start N vs) H (startD N.length (c.args a)) F0 := by
    refine ⟨fun i r e => ?_, S0.nd, S0.dj, S0.live, by unfold startD L2.start; simp; omega, by have e0 : (L2.start N vs).length = N.length := by { unfold L2.start; simp; omega }; rw [e0]; exact hN, Step.refl⟩
    unfold startD at e
    by_cases hi : i < (c.args a).length
    · rw [List.getElem?_append_left (by simpa using hi)] at e
      obtain ⟨v, e1, so⟩ := S0.slot i r e
      refine ⟨v, ?_, so⟩
      unfold L2.start
      rw [List.getElem?_append_left (by simp; omega)]
      exact e1
    · rw [List.getElem?_append_right (by simpa using hi), List.getElem?_replicate] at e
      split at e <;> cases e
  refine ⟨t, p.nox, q _ H _ F0 S1 _ _ ?_ (hw a hpre)⟩
  exact ⟨fun σ' H' ρ' F' S' s' h => hq _ _ h .non σ' H' F' [] S' s' ⟨.non, fun _ i => nomatch i⟩, fun σ' v H' ρ' F' r G S' s' ro h => hq _ _ h v σ' H' F' G S' s' ro, fun _ _ _ _ _ _ h => h.elim, fun _ _ _ _ _ _ h => h.elim⟩
end
/-- a result of a call, as it is held by the caller -/
def cv (r : R) : R := if pur r.d = true then P r.d else match r.k with
  | .own => r
  | _ => ⟨.als, r.d⟩
section
variable {K : PySem.W.Frag} {H : Hp} {vs : List V} {rs : List R} {G : List Addr}
theorem read_list (h : RpAll K false H vs (rs.map (·.d)) G) (i : Nat) (r : R) (e : (rs.map fun r => P r.d)[i]? = some r) : ∃ v G', vs[i]? = some v ∧ r.k = .shr ∧ Rp K false H v r.d G' ∧ ∀ a ∈ G', a ∈ G := by
  rw [List.getElem?_map] at e
  cases e1 : rs[i]? with
  | none => rw [e1] at e; cases e
  | some r0 =>
    rw [e1] at e
    cases e
    obtain ⟨v, G', h1, h2, h3⟩ := h.get (i := i) (d := r0.d) (by simp [e1])
    exact ⟨v, G', h1, rfl, h2, h3⟩
theorem args_st (h : RpAll K false H vs (rs.map (·.d)) G) (hsm : vs.length ≤ big) : StOk K (cv0 (vs.map some) (fun _ => []) H) (vs.map some) H ((rs.map fun r => P r.d).map some) (fun _ => []) where
  slot := fun i r e => by
    rw [List.getElem?_map] at e
    cases e1 : (rs.map fun r => P r.d)[i]? with
    | none => rw [e1] at e; cases e
    | some r1 =>
      rw [e1] at e
      cases e
      obtain ⟨v, G', h1, h2, h3, _⟩ := read_list h i r e1
      refine ⟨v, by simp [h1], ?_⟩
      obtain ⟨kd, d⟩ := r
      cases h2
      exact ⟨G', h3, fun a _ ⟨_, z⟩ => nomatch z⟩
  nd := fun _ => List.nodup_nil
  dj := fun _ _ _ z => nomatch z
  live := fun a ⟨_, z⟩ => nomatch z
  len := by
    have := h.length
    simp at this ⊢
    omega
  sm := by simpa using hsm
  st := Step.refl
/-- a callee's result, by what it means to the caller -/
theorem cv_ok {F0 F' F F1 : Nat → List Addr} {H0 H1 H' : Hp} {r : R} {v : V} (ro : ResOk K F0 H1 F' H' r v G) (hown : r.k = .own → (∀ a ∈ G, ¬ Own F1 a) ∧ ∀ a ∈ G, Own F a ∨ H0 a = none) : ∃ G', ResOk K F H0 F1 H' (cv r) v G' := by
  unfold cv
  by_cases hp : pur r.d = true
  · rw [if_pos hp]
    exact ⟨[], (Rp.pure' _ _ _ ro.read hp).2, fun _ i => nomatch i⟩
  · rw [if_neg hp]
    have rd := ro.read
    obtain ⟨kd, d⟩ := r
    cases kd with
    | own =>
      obtain ⟨q, nd, n, o⟩ := ro
      exact ⟨G, q, nd, hown rfl⟩
    | shr => exact ⟨G, rd⟩
    | als => exact ⟨G, rd⟩
    | fix => exact ro.elim
end
section
variable {X : Cx} {v0 : Cv} {k : Nat} {f : Addr} {fd : FuncData} {ps ks : List Str} {c : Ct} {x y : Str} {p p1 pos : Pos} {e : Expr} {es : List Expr} {kws : List Keyword} {ea : Bool} {wr : WA} {tr : TA}
/-- a call that changes nothing of ours: its arguments are shared -/
def wFn (c : Ct) (wr : WA) : WE := fun ρ Q => wr ρ fun ρ1 rs => c.sd (rs.map fun r => P r.d) fun _ r => Q ρ1 (cv r)
theorem re_fn {n : Nat} (hn : ∀ a, (c.args a).length = n) (hsm : n ≤ big) (ha : RG X.K v0 ea tr wr) : RE X.K v0 ea (tCall (spD X.K n c) [] E0 tr) (wFn c wr) := by
  intro σ H ρ F S Qd Q h k
  refine ha σ H ρ F S _ _ h fun vs H1 ρ1 F1 rs S1 s1 e1 A h1 => ?_
  rw [List.append_nil]
  obtain ⟨G0, rp⟩ := A.all.read
  obtain ⟨a, ea, hpre, hpost⟩ := h1
  have hvl := rp.length
  have hal := congrArg List.length ea
  rw [hn, List.length_map] at hal
  have hvs : vs.length ≤ big := by rw [hvl, List.length_map, hal]; exact hsm
  refine ⟨by rw [hvl, List.length_map]; exact hal, _, _, args_st rp hvs, fun r hr => ?_, a, ea, hpre, fun ρ' r hp v σ' H' F' G S' s' ro => ?_⟩
  · obtain ⟨r0, _, rfl⟩ := List.mem_map.mp hr
    exact .inl rfl
  · have ex : Ext H1 H' := fun b o hb => s'.keep b o hb fun ⟨_, z⟩ => nomatch z
    obtain ⟨G', ro'⟩ := cv_ok (F := F) (F1 := F1) (H0 := H) ro fun hk => by
      obtain ⟨kd, d⟩ := r
      cases hk
      obtain ⟨q, nd, n, o⟩ := ro
      have nn : ∀ b ∈ G, H1 b = none := fun b hb => (o b hb).resolve_left fun ⟨_, z⟩ => nomatch z
      exact ⟨fun b hb z => S1.live b z (nn b hb), fun b hb => s1.none_of (nn b hb)⟩
    exact k v H' ρ1 F1 (cv r) G' (S1.ext ex) (s1.trans (Step.ext ex)) (e1.ext ex) ro' (hpost ρ' r hp)
theorem de_fn (F : FnD X.prog X.w X.K X.mg X.base k f fd ps c) (hgd : X.A.guards = some []) (hr : Room k X.A) (hm : X.mg x = some (.ref f)) (hk : PySem.W.keepIn X.K (.ref f) = true) (hb : Binds X.K fd ps []) (ha : DG X v0 ea (e :: es) wr) (hg : Gl X x := by rfl)
    (hdb : (x == ("__debug__" : Str)) = false := by decide) (he : starEach (e :: es) X.env = (false, eval e X.env) :: starEach es X.env := by rfl) (hpl : (backTo pos (starEach es X.env)).any (·.1) = false := by rfl) : DE X v0 ea (.Call (.Name x p) (e :: es) [] pos) (wFn c wr) := by
  obtain ⟨t, pa, q⟩ := ha
  exact ⟨_, pe_callG F.fn hgd hr hg hm hk hb pass0 pa hdb he hpl, re_fn F.len F.sm q⟩
theorem de_fn0 (F : FnD X.prog X.w X.K X.mg X.base k f fd ps c) (hgd : X.A.guards = some []) (hr : Room k X.A) (hm : X.mg x = some (.ref f)) (hk : PySem.W.keepIn X.K (.ref f) = true) (hb : Binds X.K fd ps []) (hg : Gl X x := by rfl)
    (hdb : (x == ("__debug__" : Str)) = false := by decide) : DE X v0 false (.Call (.Name x p) [] [] pos) (wFn c wNil) := by
  obtain ⟨t, pa, q⟩ := dg_nil (X := X) (v0 := v0)
  refine ⟨_, pe_callG0 F.fn hgd hr hg hm hk hb pass0 hdb, ?_⟩
  exact re_fn F.len F.sm (tr := tNil) (wr := wNil) fun σ H ρ F S Qd Q h k => k [] H ρ F [] S Step.refl Eff.refl ⟨⟨⟨[], .nil⟩, fun _ => ⟨[], .nil, List.nodup_nil, (fun _ i => nomatch i), fun _ i => nomatch i⟩, fun _ => ⟨[], .nil, fun _ i => nomatch i⟩⟩, .nil⟩ h
/-- a call whose first argument, what stands in the slot j, is lent: it may be changed -/
def wFnM (c : Ct) (j : Nat) (wr : WA) : WE := fun ρ Q => (∃ r, ρ[j]? = some (some r)) ∧ wr ρ fun ρ1 rs => rs.all stb = true ∧ match ρ1[j]? with
  | some (some ⟨.own, d⟩) => c.sd (⟨.fix, d⟩ :: rs.map fun r => P r.d) fun ρ' r => ∃ d', ρ'[0]? = some (some (R.mk .fix d')) ∧ Q (ρ1.set j (some ⟨.own, d'⟩)) (cv r)
  | some (some ⟨.fix, d⟩) => c.sd (⟨.fix, d⟩ :: rs.map fun r => P r.d) fun ρ' r => ∃ d', ρ'[0]? = some (some (R.mk .fix d')) ∧ Q (ρ1.set j (some ⟨.fix, d'⟩)) (cv r)
  | _ => False
theorem re_fnM {n : Nat} (j : Nat) (hn : ∀ a, (c.args a).length = n) (hsm : n ≤ big) (ha : RG X.K v0 ea tr wr) : RE X.K v0 true (tCall (spD X.K n c) [] E0 (tCons (tVar j) tr)) (wFnM c j wr) := by
  intro σ H ρ F S Qd Q h k
  obtain ⟨⟨r0, e0⟩, h⟩ := h
  obtain ⟨v, ev, _⟩ := S.slot j r0 e0
  refine ⟨v, ev, ha σ H ρ F S _ _ h fun vs H1 ρ1 F1 rs S1 s1 e1 A h1 => ?_⟩
  show spD X.K n c ((v :: vs) ++ []) H1 Q E0
  rw [List.append_nil]
  obtain ⟨hst, h1⟩ := h1
  obtain ⟨G0, rp, g0⟩ := A.all.shr hst
  have hvl := rp.length
  rw [List.length_map] at hvl
  -- what is lent, whichever way we hold it
  have core : ∀ (kj : Kd) (d : PyData), kj = .own ∨ kj = .fix → ρ1[j]? = some (some ⟨kj, d⟩) → Rp X.K true H1 v d (F1 j) →
      (c.sd (⟨.fix, d⟩ :: rs.map fun r => P r.d) fun ρ' r => ∃ d', ρ'[0]? = some (some (R.mk .fix d')) ∧ Qd (ρ1.set j (some ⟨kj, d'⟩)) (cv r)) →
      spD X.K n c (v :: vs) H1 Q E0 := by
    intro kj d hkj ej rpj hsd
    obtain ⟨a, ea', hpre, hpost⟩ := hsd
    have hal := congrArg List.length ea'
    rw [hn, List.length_cons, List.length_map] at hal
    have hjl : j < ρ1.length := (List.getElem?_eq_some_iff.mp ej).1
    have own0 : ∀ b, Own (fun i => if i = 0 then F1 j else []) b → b ∈ F1 j := fun b ⟨i, z⟩ => by
      by_cases hi : i = 0
      · simpa [hi] using z
      · simp [hi] at z
    have st : StOk X.K (cv0 ((v :: vs).map some) (fun i => if i = 0 then F1 j else []) H1) ((v :: vs).map some) H1 ((R.mk .fix d :: rs.map fun r => P r.d).map some) (fun i => if i = 0 then F1 j else []) := by
      refine ⟨fun i r e => ?_, fun i => ?_, fun i l b z1 z2 => ?_, fun b z => S1.live b ⟨j, own0 b z⟩, by simp [hvl], by simp only [List.length_map, List.length_cons, hvl]; omega, Step.refl⟩
      · cases i with
        | zero =>
          simp at e
          subst e
          exact ⟨v, rfl, by simpa using rpj, rfl⟩
        | succ i =>
          have e' : (rs.map fun r => P r.d)[i]? = some r := by
            rw [List.map_cons, List.getElem?_cons_succ, List.getElem?_map] at e
            cases q : (rs.map fun r => P r.d)[i]? with
            | none => rw [q] at e; cases e
            | some r1 => rw [q] at e; cases e; rfl
          obtain ⟨w, G', w1, w2, w3, w4⟩ := read_list rp i r e'
          refine ⟨w, by simp [w1], ?_⟩
          obtain ⟨kd, d1⟩ := r
          cases w2
          exact ⟨G', w3, fun b hb z => g0 b (w4 b hb) ⟨j, own0 b z⟩⟩
      · by_cases hi : i = 0
        · simp [hi]; exact S1.nd j
        · simp [hi]
      · by_cases hi : i = 0
        · by_cases hl : l = 0
          · rw [hi, hl]
          · simp [hl] at z2
        · simp [hi] at z1
    refine ⟨by rw [List.length_cons, hvl]; exact hal, _, _, st, fun r hr => ?_, a, ea', hpre, fun ρ' r hp w σ' H' F' G S' s' ro => ?_⟩
    · rcases List.mem_cons.mp hr with rfl | hr
      · exact .inr rfl
      · obtain ⟨r1, _, rfl⟩ := List.mem_map.mp hr
        exact .inl rfl
    · obtain ⟨d', f0, hq⟩ := hpost ρ' r hp
      obtain ⟨w0, g1, g2⟩ := S'.slot 0 _ f0
      have hw0 : w0 = v := by
        have z := g2.2
        simp at z
        exact z.symm
      subst hw0
      have gq : Rp X.K true H' w0 d' (F' 0) := g2.1
      -- the caller's state behind the call
      have nF : ∀ b, b ∈ F' 0 → b ∈ F1 j ∨ H1 b = none := fun b hb => (s'.own b ⟨0, hb⟩).imp (own0 b) id
      have keepO : ∀ b o, H1 b = some o → ¬ (b ∈ F1 j) → H' b = some o := fun b o hb nb => s'.keep b o hb fun z => nb (own0 b z)
      have own2 : ∀ b, Own (sF F1 j (F' 0)) b → Own F1 b ∨ H1 b = none := fun b z => by
        rcases sF_own z with z | z
        · exact .inl z
        · exact (nF b z).imp (fun z => ⟨j, z⟩) id
      have s2 : Step F1 H1 (sF F1 j (F' 0)) H' := ⟨fun b o hb nb => keepO b o hb fun z => nb ⟨j, z⟩, own2, s'.tups, fun l hl => sF_big (S1.ilt ej) l hl, fun l hl b hb o ho => keepO b o ho fun z => Nat.lt_irrefl _ (Nat.lt_of_lt_of_le (S1.dj l j b hb z ▸ S1.ilt ej) hl)⟩
      have S2 : StOk X.K v0 σ H' (ρ1.set j (some ⟨kj, d'⟩)) (sF F1 j (F' 0)) := by
        refine ⟨fun i r e => ?_, fun i => ?_, fun i l b z1 z2 => ?_, fun b z => ?_, by simp [S1.len], S1.sm, S1.st.trans s2⟩
        · by_cases hi : i = j
          · subst hi
            rw [List.getElem?_set_self hjl] at e
            cases e
            refine ⟨w0, ev, ?_⟩
            have gg : Rp X.K true H' w0 d' (sF F1 i (F' 0) i) := by
              unfold sF
              rw [if_pos rfl]
              exact gq
            rcases hkj with rfl | rfl
            · exact gg
            · refine ⟨gg, ?_⟩
              obtain ⟨w1, x1, x2⟩ := S1.slot i _ ej
              rw [ev] at x1
              cases x1
              exact x2.2
          · rw [List.getElem?_set_ne (Ne.symm hi)] at e
            obtain ⟨w1, x1, so⟩ := S1.slot i r e
            refine ⟨w1, x1, ?_⟩
            have hF : sF F1 j (F' 0) i = F1 i := by unfold sF; rw [if_neg hi]
            have tuO : Tu H1 H' := s'.tups
            have carO : ∀ {dd : PyData}, Rp X.K true H1 w1 dd (F1 i) → Rp X.K true H' w1 dd (sF F1 j (F' 0) i) := fun {dd} q => by
              rw [hF]
              exact q.keep tuO _ _ _ fun b hb o ho => keepO b o ho fun z => hi (S1.dj i j b hb z)
            obtain ⟨k1, d1⟩ := r
            cases k1 with
            | shr =>
              obtain ⟨G1, y1, y2⟩ := so
              refine ⟨G1, y1.keep tuO _ _ _ fun b hb o ho => keepO b o ho fun z => y2 b hb ⟨j, z⟩, fun b hb z => ?_⟩
              rcases own2 b z with z | z
              · exact y2 b hb z
              · exact y1.live _ _ _ b hb z
            | own => exact carO so
            | fix => exact ⟨carO so.1, so.2⟩
            | als => exact so
        · unfold sF
          split
          · exact S'.nd 0
          · exact S1.nd i
        · unfold sF at z1 z2
          split at z1 <;> split at z2
          · rename_i a1 a2
            rw [a1, a2]
          · rename_i a1 a2
            rcases nF b z1 with z | z
            · exact absurd (S1.dj j l b z z2).symm a2
            · exact absurd z (S1.live b ⟨l, z2⟩)
          · rename_i a1 a2
            rcases nF b z2 with z | z
            · exact absurd (S1.dj j i b z z1).symm a1
            · exact absurd z (S1.live b ⟨i, z1⟩)
          · exact S1.dj i l b z1 z2
        · obtain ⟨i, z⟩ := z
          unfold sF at z
          split at z
          · exact gq.live _ _ _ b z
          · rename_i a1
            have lv := S1.live b ⟨i, z⟩
            cases q : H1 b with
            | none => exact absurd q lv
            | some o =>
              rw [keepO b o q fun z2 => a1 (S1.dj i j b z z2)]
              simp
      obtain ⟨G', ro'⟩ := cv_ok (F := F) (F1 := sF F1 j (F' 0)) (H0 := H) ro fun hk => by
        obtain ⟨kd, dd⟩ := r
        cases hk
        obtain ⟨q, nd, nn, o⟩ := ro
        refine ⟨fun b hb z => ?_, fun b hb => ?_⟩
        · obtain ⟨i, z⟩ := z
          unfold sF at z
          split at z
          · exact nn b hb ⟨0, z⟩
          · rename_i a1
            rcases o b hb with y | y
            · exact a1 (S1.dj i j b z (own0 b y))
            · exact S1.live b ⟨i, z⟩ y
        · rcases o b hb with y | y
          · exact s1.own b ⟨j, own0 b y⟩
          · exact s1.none_of y
      refine k w H' _ _ (cv r) G' S2 (s1.trans s2) ⟨fun l dd e => ?_, fun z => by cases z⟩ ro' hq
      by_cases hl : l = j
      · subst hl
        rw [List.getElem?_set_self hjl] at e
        rcases hkj with rfl | rfl <;> cases e
      · rw [List.getElem?_set_ne (Ne.symm hl)] at e
        exact e1.shr l dd e
  split at h1
  · rename_i d ej
    obtain ⟨w, x1, so⟩ := S1.slot j _ ej
    rw [ev] at x1
    cases x1
    exact core .own d (.inl rfl) ej so h1
  · rename_i d ej
    obtain ⟨w, x1, so⟩ := S1.slot j _ ej
    rw [ev] at x1
    cases x1
    exact core .fix d (.inr rfl) ej so.1 h1
  · exact h1.elim
theorem de_fnM (j : Nat) (F : FnD X.prog X.w X.K X.mg X.base k f fd ps c) (hgd : X.A.guards = some []) (hr : Room k X.A) (hm : X.mg x = some (.ref f)) (hk : PySem.W.keepIn X.K (.ref f) = true) (hb : Binds X.K fd ps []) (ha : DG X v0 ea es wr) (hg : Gl X x := by rfl)
    (hN : X.N[j]? = some y := by rfl) (hv : Vis X.env.scope y := by first | exact Or.inl rfl | exact Or.inr (Or.inl rfl) | exact Or.inr (Or.inr rfl)) (hd : (y == ("__debug__" : Str)) = false := by decide) (hcd : (y == ("__classdict__" : Str)) = false := by decide)
    (hdb : (x == ("__debug__" : Str)) = false := by decide) (he : starEach (.Name y p1 :: es) X.env = (false, eval (.Name y p1) X.env) :: starEach es X.env := by rfl) (hpl : (backTo pos (starEach es X.env)).any (·.1) = false := by rfl) :
    DE X v0 true (.Call (.Name x p) (.Name y p1 :: es) [] pos) (wFnM c j wr) := by
  obtain ⟨t, pa, q⟩ := ha
  exact ⟨_, pe_callG F.fn hgd hr hg hm hk hb pass0 (pa_cons (pe_var hN hv hd hcd) pa he) hdb he hpl, re_fnM j F.len F.sm q⟩
end
end DL
namespace DL
open PySem PySem.Spec PyProof.Rows L2
def rCatL (K : PySem.W.Frag) : R2 := fun x y H Q => ∃ l b xs zs, x = .ref l ∧ y = .ref b ∧ SqL K H l xs ∧ SqL K H b zs ∧ xs.length + zs.length ≤ sizeLine ∧ ∀ p, H p = none → Q (.ref p) (upd H p (.lst (xs ++ zs)))
theorem op_catL {X : Cx} : OpR X (binaryOp .Add) (rCatL X.K) := by
  rintro pins s σ H x y v u Q I rx ry ⟨l, b, xs, zs, rfl, rfl, hl, hb, hz, q⟩
  obtain rfl : v = Value.ref l := rx
  obtain rfl : u = Value.ref b := ry
  obtain ⟨its, r1, p1, z1⟩ := I.list hl
  obtain ⟨jts, r2, p2, z2⟩ := I.list hb
  obtain ⟨⟨cls, dd, data, sl⟩, ho, hc, n, hd⟩ := id p1.isList
  obtain ⟨⟨cls2, dd2, data2, sl2⟩, ho2, hc2, n2, hd2⟩ := id p2.isList
  simp only at hc hd hc2 hd2
  subst hc hd hc2 hd2
  have e1 := r1.length
  have e2 := r2.length
  refine concat_meets ⟨_, ho, rfl⟩ ⟨_, ho2, rfl⟩ noFill_list_add seq_list_add PySem.F.slot_list_add PySem.F.entry_list_add (PySem.F.args_list_add_2 _ _) (list_addW l b its.toArray jts.toArray n n2 dd dd2 sl sl2 (by simp; omega)) ⟨ho, ho2, ?_⟩
  have e : its.toArray ++ jts.toArray = (its ++ jts).toArray := by simp
  rw [e]
  exact ⟨.ref _, _, I.lnew (t' := s.toks) (r1.append r2) (by rw [List.length_append]; exact hz), rfl, q _ I.fresh⟩
theorem foldl_flat (its : List Value) : ∀ (m : Nat) (acc : List Value), List.foldl (fun x1 x2 : Array Value => x1 ++ x2) acc.toArray (List.replicate m its.toArray) = (acc ++ (List.replicate m its).flatten).toArray
  | 0, acc => by simp
  | m + 1, acc => by
    rw [List.replicate_succ, List.foldl_cons]
    have e : acc.toArray ++ its.toArray = (acc ++ its).toArray := by simp
    rw [e, foldl_flat its m (acc ++ its), List.replicate_succ, List.flatten_cons, List.append_assoc]
def rRepL (K : PySem.W.Frag) : R2 := fun x y H Q => ∃ l k xs, x = .ref l ∧ y = .int k ∧ SqL K H l xs ∧ -(2 ^ 63) ≤ k ∧ k < 2 ^ 63 ∧ xs.length * k.toNat ≤ sizeLine ∧ ∀ p, H p = none → Q (.ref p) (upd H p (.lst (List.replicate k.toNat xs).flatten))
theorem vals_rep {xs : List V} {its : List Value} (r : Vals xs its) : ∀ k : Nat, Vals (List.replicate k xs).flatten (List.replicate k its).flatten
  | 0 => .nil
  | k + 1 => by
    rw [List.replicate_succ, List.replicate_succ, List.flatten_cons, List.flatten_cons]
    exact r.append (vals_rep r k)
theorem op_repL {X : Cx} : OpR X (binaryOp .Mult) (rRepL X.K) := by
  rintro pins s σ H x y v u Q I rx ry ⟨l, k, xs, rfl, rfl, hl, h1, h2, hz, q⟩
  obtain rfl : v = Value.ref l := rx
  obtain ⟨t, rfl⟩ := ry
  obtain ⟨its, r1, p1, z1⟩ := I.list hl
  obtain ⟨⟨cls, dd, data, sl⟩, ho, hc, n, hd⟩ := id p1.isList
  simp only at hc hd
  subst hc hd
  have e1 := r1.length
  have hz' : its.toArray.size * k.toNat ≤ sizeLine := by rw [List.size_toArray, ← e1]; exact hz
  have e24 : sizeLine = 2 ^ 24 := by decide
  refine wpAny_binaryOp_repeat_ref (T := "list") (U := "int") (by decide) ⟨_, ho, rfl⟩ (fun s' => typeIs_int s' k t) noFill_list_mul PySem.F.fills_int_mul PySem.F.slot_int_rmul repeat_list PySem.F.slot_int_index.lookup
    (call_meets PySem.F.slot_int_rmul (typeIs_int s k t) PySem.F.entry_int_rmul (PySem.F.args_int_rmul_2 _ _) (lm_int_rmul_list_any k t l its.toArray n dd sl)
      ⟨ho, rfl, ⟨_, ho, rfl⟩, call_meets PySem.F.slot_list_mul ⟨_, ho, rfl⟩ PySem.F.entry_list_mul (PySem.F.args_list_mul_2 _ _)
        (lm_list_mul_any l its.toArray n dd sl k t (by simp [Builtin.List.listFitsIndex]; omega) (by omega) (by simp [Builtin.List.listTooLong]; omega)) ⟨ho, ?_⟩⟩)
  have hnew : List.foldl (fun x1 x2 => x1 ++ x2) #[] (List.replicate (if its.toArray.isEmpty = true then 0 else k.toNat) its.toArray) = (List.replicate k.toNat its).flatten.toArray := by
    have f0 := foldl_flat its k.toNat []
    rw [List.nil_append] at f0
    cases its with
    | nil => simp
    | cons a r' => rw [if_neg (by simp)]; exact f0
  rw [hnew]
  have hr := vals_rep r1 k.toNat
  refine ⟨.ref _, _, I.lnew (t' := s.toks) hr ?_, rfl, q _ I.fresh⟩
  have : ((List.replicate k.toNat xs).flatten).length = k.toNat * xs.length := by simp
  rw [this, Nat.mul_comm]
  exact hz
section
variable {K : PySem.W.Frag}
theorem OD.or {r r' : R2} {w w' : R → R → (R → Prop) → Prop} (h : OD K r w) (h' : OD K r' w') : OD K (fun x y H Q => r x y H Q ∨ r' x y H Q) (fun a b Q => w a b Q ∨ w' a b Q) := by
  intro N H x y rx ry ax ay Qd Q hw k
  rcases hw with hw | hw
  · exact .inl (h N H x y rx ry ax ay Qd Q hw k)
  · exact .inr (h' N H x y rx ry ax ay Qd Q hw k)
/-- the reading may hang on the data -/
theorem OD.weak {r : R2} {w w' : R → R → (R → Prop) → Prop} (h : OD K r w) (hw : ∀ a b Q, w' a b Q → w a b Q) : OD K r w' :=
  fun N H x y rx ry ax ay Qd Q q k => h N H x y rx ry ax ay Qd Q (hw _ _ _ q) k
def cond2 (C : Int → Int → Prop) (g : Int → Int → PyData) : R → R → (R → Prop) → Prop := fun a b Q => match a.d, b.d with
  | .int i, .int j => C i j ∧ Q (P (g i j))
  | _, _ => False
theorem od_int {C : Int → Int → Prop} {g : Int → Int → Int} : OD K (rI C fun i j => .int (g i j)) (cond2 C fun i j => .int (g i j)) := by
  intro N H x y ⟨kx, dx⟩ ⟨ky, dy⟩ ax ay Qd Q hw k
  unfold cond2 at hw
  cases dx <;> cases dy <;> first | exact hw.elim | skip
  rename_i i j
  rw [arg_int ax, arg_int ay]
  exact ⟨i, j, rfl, rfl, hw.1, k _ H _ [] Ext.refl (NewOk.pure (.int _)) hw.2⟩
theorem od_int0 {g : Int → Int → Int} : OD K (rI0 fun i j => .int (g i j)) (cond2 (fun _ _ => True) fun i j => .int (g i j)) := by
  intro N H x y ⟨kx, dx⟩ ⟨ky, dy⟩ ax ay Qd Q hw k
  unfold cond2 at hw
  cases dx <;> cases dy <;> first | exact hw.elim | skip
  rename_i i j
  rw [arg_int ax, arg_int ay]
  exact ⟨i, j, rfl, rfl, k _ H _ [] Ext.refl (NewOk.pure (.int _)) hw.2⟩
theorem od_cmpI {g : Int → Int → Bool} : OD K (rI0 fun i j => .bl (g i j)) (cond2 (fun _ _ => True) fun i j => .bool (g i j)) := by
  intro N H x y ⟨kx, dx⟩ ⟨ky, dy⟩ ax ay Qd Q hw k
  unfold cond2 at hw
  cases dx <;> cases dy <;> first | exact hw.elim | skip
  rename_i i j
  rw [arg_int ax, arg_int ay]
  exact ⟨i, j, rfl, rfl, k _ H _ [] Ext.refl (NewOk.pure (.bl _)) hw.2⟩
/-- how a list is held that is made of what two lists hold -/
def kOf (ds : List PyData) : Kd := if purs ds = true then .own else .als
theorem new_list {N : Addr → Prop} {H : Hp} {xs : List V} {ds : List PyData} {G : List Addr} {p : Addr} (hp : H p = none) (rp : RpAll K false H xs ds G) : ∃ G', NewOk K N H (upd H p (.lst xs)) ⟨kOf ds, .list ds⟩ (.ref p) G' := by
  have ex : Ext H (upd H p (.lst xs)) := Ext.upd hp
  unfold kOf
  by_cases h : purs ds = true
  · rw [if_pos h]
    obtain ⟨_, q⟩ := RpAll.pure' (m' := true) _ _ _ rp h
    exact ⟨[p], .lst (fun _ => upd_same) (.inl upd_same) (q.keep ex.tu _ _ _ (ex.kp [])), (by simp), fun a i => by rw [List.mem_singleton.mp i]; exact hp⟩
  · rw [if_neg h]
    exact ⟨p :: G, show Rp K false _ _ _ _ from .lst (fun z => nomatch z) (.inl upd_same) (rp.keep ex.tu _ _ _ (ex.kp _))⟩
def kOfT (ds : List PyData) : Kd := if purs ds = true then .shr else .als
theorem new_tup {N : Addr → Prop} {H : Hp} {xs : List V} {ds : List PyData} {G : List Addr} {p : Addr} (hp : H p = none) (rp : RpAll K false H xs ds G) : ∃ G', NewOk K N H (upd H p (.tup xs)) ⟨kOfT ds, .tuple ds⟩ (.ref p) G' := by
  have ex : Ext H (upd H p (.tup xs)) := Ext.upd hp
  unfold kOfT
  by_cases h : purs ds = true
  · rw [if_pos h]
    obtain ⟨_, q⟩ := RpAll.pure' (m' := false) _ _ _ rp h
    exact ⟨[], .tup (.inl (.inl upd_same)) (q.keep ex.tu _ _ _ (ex.kp [])), fun _ i => nomatch i⟩
  · rw [if_neg h]
    exact ⟨G, show Rp K false _ _ _ _ from .tup (.inl (.inl upd_same)) (rp.keep ex.tu _ _ _ (ex.kp _))⟩
/-- a tuple that stands already -/
theorem old_tup {N : Addr → Prop} {H : Hp} {v : V} {ds : List PyData} {G : List Addr} (rp : Rp K false H v (.tuple ds) G) : ∃ G', NewOk K N H H ⟨kOfT ds, .tuple ds⟩ v G' := by
  unfold kOfT
  by_cases h : purs ds = true
  · rw [if_pos h]
    obtain ⟨_, q⟩ := Rp.pure' (m' := false) _ _ _ rp (show pur (.tuple ds) = true by simpa [pur] using h)
    exact ⟨[], q, fun _ i => nomatch i⟩
  · rw [if_neg h]
    exact ⟨G, rp⟩
def wAdd : R → R → (R → Prop) → Prop := fun a b Q => match a.d, b.d with
  | .int i, .int j => Q (P (.int (i + j)))
  | .str i, .str j => i.length + j.length ≤ sizeLine ∧ Q (P (.str (i ++ j)))
  | .list xs, .list ys => xs.length + ys.length ≤ sizeLine ∧ Q ⟨kOf (xs ++ ys), .list (xs ++ ys)⟩
  | .tuple xs, .tuple ys => xs.length + ys.length ≤ sizeLine ∧ Q ⟨kOfT (xs ++ ys), .tuple (xs ++ ys)⟩
  | _, _ => False
def rAddA (K : PySem.W.Frag) : R2 := fun x y H Q => (((rI0 fun i j => .int (i + j)) x y H Q ∨ (∃ i j, x = .str i ∧ y = .str j ∧ i.length + j.length ≤ sizeLine ∧ Q (.str (i ++ j)) H)) ∨ rCatL K x y H Q) ∨ rCatA K x y H Q
theorem op_addA {X : Cx} : OpR X (binaryOp .Add) (rAddA X.K) := ((op_add.or op_add_str).or op_catL).or op_catA
theorem od_add : OD K (rAddA K) wAdd := by
  intro N H x y ⟨kx, dx⟩ ⟨ky, dy⟩ ax ay Qd Q hw k
  unfold wAdd at hw
  cases dx <;> cases dy <;> first | exact hw.elim | skip
  · rename_i i j
    rw [arg_int ax, arg_int ay]
    exact .inl (.inl (.inl ⟨i, j, rfl, rfl, k _ H _ [] Ext.refl (NewOk.pure (.int _)) hw⟩))
  · rename_i i j
    rw [arg_str ax, arg_str ay]
    exact .inl (.inl (.inr ⟨i, j, rfl, rfl, hw.1, k _ H _ [] Ext.refl (NewOk.pure (.str _)) hw.2⟩))
  · rename_i ds es
    obtain ⟨G1, q1, _⟩ := ax
    obtain ⟨G2, q2, _⟩ := ay
    obtain ⟨a, xs, _, rfl, hs, ra, _⟩ := q1.sql
    obtain ⟨b, ys, _, rfl, hs2, rb, _⟩ := q2.sql
    refine .inl (.inr ⟨a, b, xs, ys, rfl, rfl, hs, hs2, by rw [ra.length, rb.length]; exact hw.1, fun p np => ?_⟩)
    obtain ⟨G', n⟩ := new_list (N := N) np (ra.append rb)
    exact k _ _ _ G' (Ext.upd np) n hw.2
  · rename_i ds es
    obtain ⟨G1, q1, _⟩ := ax
    obtain ⟨G2, q2, _⟩ := ay
    have q1' := q1
    have q2' := q2
    obtain ⟨a, xs, rfl, hs, ra⟩ := q1.sqt
    obtain ⟨b, ys, rfl, hs2, rb⟩ := q2.sqt
    have l1 := ra.length
    have l2 := rb.length
    refine .inr ⟨a, b, xs, ys, rfl, rfl, hs, hs2, by rw [ra.length, rb.length]; exact hw.1, fun e => ?_, fun _ e => ?_, fun _ _ p np => ?_⟩
    · subst e
      have e1 : ds = [] := List.length_eq_zero_iff.mp (by simpa using l1.symm)
      subst e1
      obtain ⟨G', n⟩ := old_tup (N := N) q2'
      exact k _ _ _ G' Ext.refl n hw.2
    · subst e
      have e1 : es = [] := List.length_eq_zero_iff.mp (by simpa using l2.symm)
      subst e1
      obtain ⟨G', n⟩ := old_tup (N := N) q1'
      refine k _ _ ⟨kOfT ds, .tuple ds⟩ G' Ext.refl n ?_
      have h2 := hw.2
      rw [List.append_nil] at h2
      exact h2
    · obtain ⟨G', n⟩ := new_tup (N := N) np (ra.append rb)
      exact k _ _ _ G' (Ext.upd np) n hw.2
def wMul : R → R → (R → Prop) → Prop := fun a b Q => match a.d, b.d with
  | .int i, .int j => CMul i j ∧ Q (P (.int (i * j)))
  | .list xs, .int k => -(2 ^ 63) ≤ k ∧ k < 2 ^ 63 ∧ xs.length * k.toNat ≤ sizeLine ∧ Q ⟨kOf (List.replicate k.toNat xs).flatten, .list (List.replicate k.toNat xs).flatten⟩
  | _, _ => False
theorem RpAll.rep {m : Bool} {H : Hp} {xs : List V} {ds : List PyData} {G : List Addr} (h : RpAll K m H xs ds G) : ∀ k : Nat, ∃ G', RpAll K m H (List.replicate k xs).flatten (List.replicate k ds).flatten G'
  | 0 => ⟨[], .nil⟩
  | k + 1 => by
    obtain ⟨G', q⟩ := RpAll.rep h k
    rw [List.replicate_succ, List.replicate_succ, List.flatten_cons, List.flatten_cons]
    exact ⟨_, h.append q⟩
theorem op_mulA {X : Cx} : OpR X (binaryOp .Mult) (fun x y H Q => (rI CMul fun i j => .int (i * j)) x y H Q ∨ rRepL X.K x y H Q) := op_mul.or op_repL
theorem od_mul : OD K (fun x y H Q => (rI CMul fun i j => .int (i * j)) x y H Q ∨ rRepL K x y H Q) wMul := by
  intro N H x y ⟨kx, dx⟩ ⟨ky, dy⟩ ax ay Qd Q hw k
  unfold wMul at hw
  cases dx <;> cases dy <;> first | exact hw.elim | skip
  · rename_i i j
    rw [arg_int ax, arg_int ay]
    exact .inl ⟨i, j, rfl, rfl, hw.1, k _ H _ [] Ext.refl (NewOk.pure (.int _)) hw.2⟩
  · rename_i ds j
    rw [arg_int ay]
    obtain ⟨G1, q1, _⟩ := ax
    obtain ⟨a, xs, _, rfl, hs, ra, _⟩ := q1.sql
    refine .inr ⟨a, j, xs, rfl, rfl, hs, hw.1, hw.2.1, by rw [ra.length]; exact hw.2.2.1, fun p np => ?_⟩
    obtain ⟨G2, q2⟩ := ra.rep j.toNat
    obtain ⟨G', n⟩ := new_list (N := N) np q2
    exact k _ _ _ G' (Ext.upd np) n hw.2.2.2
def wEq (g : Bool → Bool) : R → R → (R → Prop) → Prop := fun a b Q => match a.d, b.d with
  | .str x, .str y => Q (P (.bool (g (x == y))))
  | .int i, .int j => Q (P (.bool (g (i == j))))
  | c, d => nodct c = true ∧ nodct d = true ∧ SeqAt.shaped c = true ∧ SeqAt.shaped d = true ∧ Q (P (.bool (g (PyData.eqv c d))))
def rEqA (K : PySem.W.Frag) : R2 := fun x y H Q => rEq x y H Q ∨ rEqD K x y H Q
def rNeA (K : PySem.W.Frag) : R2 := fun x y H Q => rNe x y H Q ∨ rNeD K x y H Q
theorem op_eqA {X : Cx} (hu : X.A.units + 64 < cLine) : OpR X (compareOp .Eq) (rEqA X.K) := op_eq.or (op_eqD hu)
theorem op_neA {X : Cx} (hu : X.A.units + 64 < cLine) : OpR X (compareOp .NotEq) (rNeA X.K) := op_ne.or (op_neD hu)
theorem od_eq : OD K (rEqA K) (wEq id) := by
  intro N H x y rx ry ax ay Qd Q hw k
  obtain ⟨kx, dx⟩ := rx
  obtain ⟨ky, dy⟩ := ry
  unfold wEq at hw
  split at hw
  · rename_i c d e1 e2
    cases e1
    cases e2
    rw [arg_str ax, arg_str ay]
    refine .inl ⟨rfl, ?_⟩
    rw [dec_str]
    exact k _ H _ [] Ext.refl (NewOk.pure (.bl _)) hw
  · rename_i c d e1 e2
    cases e1
    cases e2
    rw [arg_int ax, arg_int ay]
    refine .inl ⟨rfl, ?_⟩
    rw [dec_int]
    exact k _ H _ [] Ext.refl (NewOk.pure (.bl _)) hw
  · obtain ⟨G1, q1, _⟩ := ax
    obtain ⟨G2, q2, _⟩ := ay
    exact .inr ⟨dx, dy, q1.dp _ _ _ hw.1, q2.dp _ _ _ hw.2.1, hw.2.2.1, hw.2.2.2.1, k _ H _ [] Ext.refl (NewOk.pure (.bl _)) hw.2.2.2.2⟩
theorem od_ne : OD K (rNeA K) (wEq not) := by
  intro N H x y rx ry ax ay Qd Q hw k
  obtain ⟨kx, dx⟩ := rx
  obtain ⟨ky, dy⟩ := ry
  unfold wEq at hw
  split at hw
  · rename_i c d e1 e2
    cases e1
    cases e2
    rw [arg_str ax, arg_str ay]
    refine .inl ⟨rfl, ?_⟩
    rw [dec_str]
    exact k _ H _ [] Ext.refl (NewOk.pure (.bl _)) hw
  · rename_i c d e1 e2
    cases e1
    cases e2
    rw [arg_int ax, arg_int ay]
    refine .inl ⟨rfl, ?_⟩
    rw [dec_int]
    exact k _ H _ [] Ext.refl (NewOk.pure (.bl _)) hw
  · obtain ⟨G1, q1, _⟩ := ax
    obtain ⟨G2, q2, _⟩ := ay
    exact .inr ⟨dx, dy, q1.dp _ _ _ hw.1, q2.dp _ _ _ hw.2.1, hw.2.2.1, hw.2.2.2.1, k _ H _ [] Ext.refl (NewOk.pure (.bl _)) hw.2.2.2.2⟩
def isNo : PyData → Bool
  | .none => true
  | _ => false
def wIs (g : Bool → Bool) : R → R → (R → Prop) → Prop := fun a b Q => match b.d with
  | .none => Q (P (.bool (g (isNo a.d))))
  | _ => False
theorem od_isN : OD K (fun x y H Q => y = .non ∧ Q (.bl (decide (x = .non))) H) (wIs id) := by
  intro N H x y ⟨kx, dx⟩ ⟨ky, dy⟩ ax ay Qd Q hw k
  unfold wIs at hw
  cases dy <;> first | exact hw.elim | skip
  refine ⟨arg_non ay, ?_⟩
  have e : decide (x = V.non) = isNo dx := by
    obtain ⟨G, q, _⟩ := ax
    have q : Rp K false H x dx G := q
    cases q <;> simp [isNo]
  rw [e]
  exact k _ H _ [] Ext.refl (NewOk.pure (.bl _)) hw
theorem od_notN : OD K (fun x y H Q => y = .non ∧ Q (.bl (!decide (x = .non))) H) (wIs not) := by
  intro N H x y ⟨kx, dx⟩ ⟨ky, dy⟩ ax ay Qd Q hw k
  unfold wIs at hw
  cases dy <;> first | exact hw.elim | skip
  refine ⟨arg_non ay, ?_⟩
  have e : decide (x = V.non) = isNo dx := by
    obtain ⟨G, q, _⟩ := ax
    have q : Rp K false H x dx G := q
    cases q <;> simp [isNo]
  rw [e]
  exact k _ H _ [] Ext.refl (NewOk.pure (.bl _)) hw
def wIn (g : Bool → Bool) : R → R → (R → Prop) → Prop := fun a b Q => match b.d with
  | .list ds => nodct a.d = true ∧ nodcts ds = true ∧ SeqAt.shaped a.d = true ∧ SeqAt.shaped (.list ds) = true ∧ Q (P (.bool (g (ds.any fun z => PyData.eqv z a.d))))
  | _ => False
theorem od_in : OD K (rInD K) (wIn id) := by
  intro N H x y ⟨kx, dx⟩ ⟨ky, dy⟩ ⟨G1, q1, _⟩ ⟨G2, q2, _⟩ Qd Q hw k
  unfold wIn at hw
  cases dy with
  | list ds => exact ⟨dx, ds, q1.dp _ _ _ hw.1, Rp.dp _ _ _ q2 (by simpa [nodct] using hw.2.1), hw.2.2.1, hw.2.2.2.1, k _ H _ [] Ext.refl (NewOk.pure (.bl _)) hw.2.2.2.2⟩
  | _ => exact hw.elim
theorem od_notIn : OD K (rNotInD K) (wIn not) := by
  intro N H x y ⟨kx, dx⟩ ⟨ky, dy⟩ ⟨G1, q1, _⟩ ⟨G2, q2, _⟩ Qd Q hw k
  unfold wIn at hw
  cases dy with
  | list ds => exact ⟨dx, ds, q1.dp _ _ _ hw.1, Rp.dp _ _ _ q2 (by simpa [nodct] using hw.2.1), hw.2.2.1, hw.2.2.2.1, k _ H _ [] Ext.refl (NewOk.pure (.bl _)) hw.2.2.2.2⟩
  | _ => exact hw.elim
/-- the item d of what is held as k -/
def itemK (k : Kd) (d : PyData) : R := if pur d = true then P d else if k = .als then ⟨.als, d⟩ else ⟨.shr, d⟩
def wIx : R → R → (R → Prop) → Prop := fun a b Q => match a.d, b.d with
  | .list ds, .int i => ∃ d, atI ds i = some d ∧ Q (itemK a.k d)
  | .tuple ds, .int i => ∃ d, atI ds i = some d ∧ Q (itemK a.k d)
  | .str z, .int i => ∃ c, z.length ≤ sizeLine ∧ atI z.cps.toList i = some c ∧ Q (P (.str ⟨#[c]⟩))
  | _, _ => False
theorem item_new {N : Addr → Prop} {H : Hp} {kx : Kd} {d : PyData} {v : V} {G1 : List Addr} (q : Rp K false H v d G1) (n : kx ≠ .als → ∀ a ∈ G1, N a) : ∃ G', NewOk K N H H (itemK kx d) v G' := by
  unfold itemK
  by_cases hp : pur d = true
  · rw [if_pos hp]
    exact ⟨[], NewOk.pure (Rp.pure' (m' := false) _ _ _ q hp).2⟩
  · rw [if_neg hp]
    by_cases hk : kx = .als
    · rw [if_pos hk]
      exact ⟨G1, q⟩
    · rw [if_neg hk]
      exact ⟨G1, q, n hk⟩
theorem atI_get {α β : Type} {xs : List α} {ys : List β} (hl : xs.length = ys.length) {i : Int} {y : β} (h : atI ys i = some y) : ∃ j : Nat, ys[j]? = some y ∧ ∀ x, xs[j]? = some x → atI xs i = some x := by
  unfold atI at h ⊢
  rw [hl]
  cases e : ixN ys.length i with
  | none => rw [e] at h; cases h
  | some j =>
    rw [e] at h
    exact ⟨j, h, fun x hx => hx⟩
theorem od_ix : OD K (rIx K) wIx := by
  intro N H x y ⟨kx, dx⟩ ⟨ky, dy⟩ ax ay Qd Q hw k
  unfold wIx at hw
  cases dx <;> cases dy <;> first | exact hw.elim | skip
  · rename_i z i
    rw [arg_str ax, arg_int ay]
    obtain ⟨c, h1, h2, h3⟩ := hw
    exact .inr (.inr ⟨z, i, c, rfl, rfl, h1, h2, k _ H _ [] Ext.refl (NewOk.pure (.str _)) h3⟩)
  · rename_i ds i
    rw [arg_int ay]
    obtain ⟨d, h1, h2⟩ := hw
    obtain ⟨G1, q1, n1⟩ := ax
    obtain ⟨a, xs, G', rfl, hs, ra, sub⟩ := q1.sql
    obtain ⟨j, hj, hx⟩ := atI_get ra.length h1
    obtain ⟨v, G2, e1, rv, s2⟩ := ra.get hj
    obtain ⟨G3, n⟩ := item_new (N := N) (kx := kx) rv fun z a i => n1 z a (sub a (s2 a i))
    exact .inl ⟨a, xs, i, v, rfl, rfl, hs, hx v e1, k _ H _ G3 Ext.refl n h2⟩
  · rename_i ds i
    rw [arg_int ay]
    obtain ⟨d, h1, h2⟩ := hw
    obtain ⟨G1, q1, n1⟩ := ax
    obtain ⟨a, xs, rfl, hs, ra⟩ := q1.sqt
    obtain ⟨j, hj, hx⟩ := atI_get ra.length h1
    obtain ⟨v, G2, e1, rv, s2⟩ := ra.get hj
    obtain ⟨G3, n⟩ := item_new (N := N) (kx := kx) rv fun z a i => n1 z a (s2 a i)
    exact .inr (.inl ⟨a, xs, i, v, rfl, rfl, hs, hx v e1, k _ H _ G3 Ext.refl n h2⟩)
end
end DL
namespace DL
open PySem PySem.Spec PyProof.Rows L2
mutual
theorem noDict : ∀ d : PyData, nodct d = true → d.hasDict = false
  | .none, _ => by simp [PyData.hasDict]
  | .bool _, _ => by simp [PyData.hasDict]
  | .int _, _ => by simp [PyData.hasDict]
  | .str _, _ => by simp [PyData.hasDict]
  | .list ds, h => by
    have := noDicts ds (by simpa [nodct] using h)
    simpa [PyData.hasDict] using this
  | .tuple ds, h => by
    have := noDicts ds (by simpa [nodct] using h)
    simpa [PyData.hasDict] using this
  | .dict _, h => by simp [nodct] at h
theorem noDicts : ∀ ds : List PyData, nodcts ds = true → PyData.hasDictAll ds = false
  | [], _ => by simp [PyData.hasDictAll]
  | d :: ds, h => by
    simp only [nodcts, Bool.and_eq_true] at h
    have h1 := noDict d h.1
    have h2 := noDicts ds h.2
    simp [PyData.hasDictAll, h1, h2]
end
def rRepr (K : PySem.W.Frag) : List V → Hp → VK → Prop := fun xs H Q => (∃ i, xs = [.int i] ∧ i.natAbs.log2 < 1920 ∧ Q (.str (toString i)) H) ∨ ∃ a d, xs = [.ref a] ∧ Dp K H (.ref a) d ∧ d.hasDict = false ∧ d.showable = true ∧ d.depth < 50 ∧ d.shown.length ≤ sizeLine ∧ Q (.str d.shown) H
theorem call_reprD {X : Cx} (hg : X.A.guards = some []) (hu : X.A.units + 64 < cLine) : CallR X (.builtin "repr") (rRepr X.K) := by
  intro pins s σ H xs us Q I r h
  rcases h with h | ⟨a, d, rfl, hd, hn, hs, hz, hl, q⟩
  · exact SkE.call_repr_int pins s σ H xs us Q I r h
  · obtain ⟨u, rfl, ru⟩ := r.one
    obtain rfl : u = Value.ref a := ru
    obtain ⟨as, rd⟩ := Dp.reads I d (.ref a) (.ref a) hd rfl
    refine repr_of_reads' rd hs (fun z => by rw [hn] at z; cases z) hg (by omega) (fun _ _ e => e) (fun h' u' tk hk => ?_) hl
    exact ⟨.str d.shown, H, I.kept hk, ⟨_, rfl⟩, q⟩
section
variable {K : PySem.W.Frag}
def wRepr : List R → (R → Prop) → Prop
  | [r], Q => (match r.d with
    | .int i => i.natAbs.log2 < 1920 ∧ Q (P (.str (toString i)))
    | .list ds => nodcts ds = true ∧ (PyData.list ds).showable = true ∧ (PyData.list ds).depth < 50 ∧ (PyData.list ds).shown.length ≤ sizeLine ∧ Q (P (.str (PyData.list ds).shown))
    | .tuple ds => nodcts ds = true ∧ (PyData.tuple ds).showable = true ∧ (PyData.tuple ds).depth < 50 ∧ (PyData.tuple ds).shown.length ≤ sizeLine ∧ Q (P (.str (PyData.tuple ds).shown))
    | _ => False)
  | _, _ => False
theorem ArgsV.one {N : Addr → Prop} {H : Hp} {r : R} {xs : List V} (h : ArgsV K N H [r] xs) : ∃ x, xs = [x] ∧ Arg K N H r x := by
  cases h with
  | cons h t => cases t; exact ⟨_, rfl, h⟩
theorem ArgsV.two {N : Addr → Prop} {H : Hp} {r r' : R} {xs : List V} (h : ArgsV K N H [r, r'] xs) : ∃ x y, xs = [x, y] ∧ Arg K N H r x ∧ Arg K N H r' y := by
  cases h with
  | cons h t => cases t with | cons h' t => cases t; exact ⟨_, _, rfl, h, h'⟩
theorem cd_repr : CD K (rRepr K) wRepr := by
  intro N H xs rs A Qd Q hw k
  match rs, A, hw with
  | [⟨kd, d⟩], A, hw =>
    obtain ⟨x, rfl, ax⟩ := A.one
    unfold wRepr at hw
    cases d <;> first | exact hw.elim | skip
    · rename_i i
      rw [arg_int ax]
      exact .inl ⟨i, rfl, hw.1, k _ H _ [] Ext.refl (NewOk.pure (.str _)) hw.2⟩
    · rename_i ds
      obtain ⟨G, q, _⟩ := ax
      have hn : nodct (.list ds) = true := by simpa [nodct] using hw.1
      obtain ⟨a, xs, _, rfl, _⟩ := Rp.sql (show Rp K false H x (.list ds) G from q)
      exact .inr ⟨a, .list ds, rfl, Rp.dp _ _ _ q hn, noDict _ hn, hw.2.1, hw.2.2.1, hw.2.2.2.1, k _ H _ [] Ext.refl (NewOk.pure (.str _)) hw.2.2.2.2⟩
    · rename_i ds
      obtain ⟨G, q, _⟩ := ax
      have hn : nodct (.tuple ds) = true := by simpa [nodct] using hw.1
      obtain ⟨a, xs, rfl, _⟩ := Rp.sqt (show Rp K false H x (.tuple ds) G from q)
      exact .inr ⟨a, .tuple ds, rfl, Rp.dp _ _ _ q hn, noDict _ hn, hw.2.1, hw.2.2.1, hw.2.2.2.1, k _ H _ [] Ext.refl (NewOk.pure (.str _)) hw.2.2.2.2⟩
def rLenA (K : PySem.W.Frag) : List V → Hp → VK → Prop := fun xs H Q => (∃ x n, xs = [x] ∧ LenV K x H n ∧ Q (.int n) H) ∨ ∃ a kvs, xs = [V.ref a] ∧ H a = some (.dK kvs) ∧ Q (.int kvs.length) H
theorem CallR.or {X : Cx} {f : Value} {r r' : List V → Hp → VK → Prop} (h : CallR X f r) (h' : CallR X f r') : CallR X f (fun xs H Q => r xs H Q ∨ r' xs H Q) := by
  intro pins s σ H xs us Q I r hq
  rcases hq with q | q
  · exact h pins s σ H xs us Q I r q
  · exact h' pins s σ H xs us Q I r q
theorem call_lenA {X : Cx} : CallR X (.builtin "len") (rLenA X.K) := CallR.or call_len call_lenD
def wLen : List R → (R → Prop) → Prop
  | [r], Q => (match r.d with
    | .str z => z.length ≤ sizeLine ∧ Q (P (.int (z.length : Int)))
    | .list ds => Q (P (.int (ds.length : Int)))
    | .tuple ds => Q (P (.int (ds.length : Int)))
    | _ => False)
  | _, _ => False
theorem cd_len : CD K (rLenA K) wLen := by
  intro N H xs rs A Qd Q hw k
  match rs, A, hw with
  | [⟨kd, d⟩], A, hw =>
    obtain ⟨x, rfl, ax⟩ := A.one
    unfold wLen at hw
    cases d <;> first | exact hw.elim | skip
    · rename_i z
      rw [arg_str ax]
      exact .inl ⟨_, z.length, rfl, ⟨hw.1, rfl⟩, k _ H _ [] Ext.refl (NewOk.pure (.int _)) hw.2⟩
    · rename_i ds
      obtain ⟨G, q, _⟩ := ax
      obtain ⟨a, xs, _, rfl, hs, ra, _⟩ := Rp.sql (show Rp K false H x (.list ds) G from q)
      refine .inl ⟨_, ds.length, rfl, .inl ⟨xs, hs, ra.length.symm⟩, k _ H _ [] Ext.refl (NewOk.pure (.int _)) hw⟩
    · rename_i ds
      obtain ⟨G, q, _⟩ := ax
      obtain ⟨a, xs, rfl, hs, ra⟩ := Rp.sqt (show Rp K false H x (.tuple ds) G from q)
      refine .inl ⟨_, ds.length, rfl, .inr ⟨xs, hs, ra.length.symm⟩, k _ H _ [] Ext.refl (NewOk.pure (.int _)) hw⟩
def rInt1 : List V → Hp → VK → Prop := fun xs H Q => (∃ i, xs = [.int i] ∧ Q (.int i) H) ∨ ∃ k, xs = [.bl k] ∧ Q (.int (if k then 1 else 0)) H
def rIntA : List V → Hp → VK → Prop := fun xs H Q => rInt1 xs H Q ∨ ∃ a n, xs = [.str a] ∧ PySem.intText? a = some n ∧ a.length ≤ 640 ∧ Q (.int n) H
theorem call_intA {X : Cx} : CallR X (.type "int") rIntA := CallR.or call_int1 call_int_str
def wInt : List R → (R → Prop) → Prop
  | [r], Q => (match r.d with
    | .int i => Q (P (.int i))
    | .bool b => Q (P (.int (if b then 1 else 0)))
    | .str a => ∃ n, PySem.intText? a = some n ∧ a.length ≤ 640 ∧ Q (P (.int n))
    | _ => False)
  | _, _ => False
theorem cd_int : CD K rIntA wInt := by
  intro N H xs rs A Qd Q hw k
  match rs, A, hw with
  | [⟨kd, d⟩], A, hw =>
    obtain ⟨x, rfl, ax⟩ := A.one
    unfold wInt at hw
    cases d <;> first | exact hw.elim | skip
    · rename_i b
      rw [arg_bool ax]
      exact .inl (.inr ⟨b, rfl, k _ H _ [] Ext.refl (NewOk.pure (.int _)) hw⟩)
    · rename_i i
      rw [arg_int ax]
      exact .inl (.inl ⟨i, rfl, k _ H _ [] Ext.refl (NewOk.pure (.int _)) hw⟩)
    · rename_i z
      rw [arg_str ax]
      obtain ⟨n, h1, h2, h3⟩ := hw
      exact .inr ⟨z, n, rfl, h1, h2, k _ H _ [] Ext.refl (NewOk.pure (.int _)) h3⟩
def rStrA : List V → Hp → VK → Prop := fun xs H Q => (∃ i, xs = [.int i] ∧ i.natAbs.log2 < 1920 ∧ Q (.str (toString i)) H) ∨ ∃ a, xs = [.str a] ∧ Q (.str a) H
theorem call_strA {X : Cx} : CallR X (.type "str") rStrA := CallR.or call_str_int SkE.call_str_str
def wStr : List R → (R → Prop) → Prop
  | [r], Q => (match r.d with
    | .int i => i.natAbs.log2 < 1920 ∧ Q (P (.str (toString i)))
    | .str a => Q (P (.str a))
    | _ => False)
  | _, _ => False
theorem cd_str : CD K rStrA wStr := by
  intro N H xs rs A Qd Q hw k
  match rs, A, hw with
  | [⟨kd, d⟩], A, hw =>
    obtain ⟨x, rfl, ax⟩ := A.one
    unfold wStr at hw
    cases d <;> first | exact hw.elim | skip
    · rename_i i
      rw [arg_int ax]
      exact .inl ⟨i, rfl, hw.1, k _ H _ [] Ext.refl (NewOk.pure (.str _)) hw.2⟩
    · rename_i z
      rw [arg_str ax]
      exact .inr ⟨z, rfl, k _ H _ [] Ext.refl (NewOk.pure (.str _)) hw⟩
def wAbs : List R → (R → Prop) → Prop
  | [r], Q => (match r.d with
    | .int i => Q (P (.int (if i < 0 then -i else i)))
    | _ => False)
  | _, _ => False
theorem cd_abs : CD K (fun xs H Q => ∃ i, xs = [.int i] ∧ Q (.int (if i < 0 then -i else i)) H) wAbs := by
  intro N H xs rs A Qd Q hw k
  match rs, A, hw with
  | [⟨kd, d⟩], A, hw =>
    obtain ⟨x, rfl, ax⟩ := A.one
    unfold wAbs at hw
    cases d <;> first | exact hw.elim | skip
    rename_i i
    rw [arg_int ax]
    exact ⟨i, rfl, k _ H _ [] Ext.refl (NewOk.pure (.int _)) hw⟩
theorem rpall_ints {m : Bool} {H : Hp} : ∀ {ns : List Int} {xs : List V} {G : List Addr}, RpAll K m H xs (ns.map PyData.int) G → xs = ns.map V.int
  | [], xs, G, h => by cases h; rfl
  | n :: ns, xs, G, h => by
    cases h with
    | cons h1 h2 =>
      have e := rpall_ints h2
      cases h1
      rw [e]
      rfl
def wSum : List R → (R → Prop) → Prop
  | [r], Q => (match r.d with
    | .list ds => ∃ ns : List Int, ds = ns.map PyData.int ∧ Q (P (.int ns.sum))
    | _ => False)
  | _, _ => False
theorem cd_sum : CD K (rSum K) wSum := by
  intro N H xs rs A Qd Q hw k
  match rs, A, hw with
  | [⟨kd, d⟩], A, hw =>
    obtain ⟨x, rfl, ax⟩ := A.one
    unfold wSum at hw
    cases d <;> first | exact hw.elim | skip
    rename_i ds
    obtain ⟨ns, rfl, q⟩ := hw
    obtain ⟨G, qx, _⟩ := ax
    obtain ⟨a, xs, _, rfl, hs, ra, _⟩ := Rp.sql (show Rp K false H x (.list (ns.map PyData.int)) G from qx)
    rw [rpall_ints ra] at hs
    exact ⟨a, ns, rfl, hs, k _ H _ [] Ext.refl (NewOk.pure (.int _)) q⟩
def rTupOf (K : PySem.W.Frag) : List V → Hp → VK → Prop := fun xs H Q => ∃ p ys, xs = [.ref p] ∧ ((SqL K H p ys ∧ ∀ l, H l = none → Q (.ref l) (upd H l (.tup ys))) ∨ (SqT K H p ys ∧ Q (.ref p) H))
theorem call_tupA {X : Cx} : CallR X (.type "tuple") (rTupOf X.K) := call_tuple_of
def wTupC : List R → (R → Prop) → Prop
  | [r], Q => (match r.d with
    | .list ds => Q ⟨kOfT ds, .tuple ds⟩
    | .tuple ds => Q ⟨kOfT ds, .tuple ds⟩
    | _ => False)
  | _, _ => False
theorem cd_tup : CD K (rTupOf K) wTupC := by
  intro N H xs rs A Qd Q hw k
  match rs, A, hw with
  | [⟨kd, d⟩], A, hw =>
    obtain ⟨x, rfl, ax⟩ := A.one
    unfold wTupC at hw
    cases d <;> first | exact hw.elim | skip
    · rename_i ds
      obtain ⟨G, qx, _⟩ := ax
      obtain ⟨a, xs, _, rfl, hs, ra, _⟩ := Rp.sql (show Rp K false H x (.list ds) G from qx)
      refine ⟨a, xs, rfl, .inl ⟨hs, fun p np => ?_⟩⟩
      obtain ⟨G', n⟩ := new_tup (N := N) np ra
      exact k _ _ _ G' (Ext.upd np) n hw
    · rename_i ds
      obtain ⟨G, qx, _⟩ := ax
      have qx : Rp K false H x (.tuple ds) G := qx
      have qx' := qx
      obtain ⟨a, xs, rfl, hs, ra⟩ := Rp.sqt qx
      obtain ⟨G', n⟩ := old_tup (N := N) qx'
      exact ⟨a, xs, rfl, .inr ⟨hs, k _ H _ G' Ext.refl n hw⟩⟩
def rLstOf (K : PySem.W.Frag) : List V → Hp → VK → Prop := fun xs H Q => ∃ p ys, xs = [.ref p] ∧ (SqL K H p ys ∨ SqT K H p ys) ∧ ∀ l, H l = none → Q (.ref l) (upd H l (.lst ys))
theorem call_lstA {X : Cx} : CallR X (.type "list") (rLstOf X.K) := call_list_of
def wLstC : List R → (R → Prop) → Prop
  | [r], Q => (match r.d with
    | .list ds => Q ⟨kOf ds, .list ds⟩
    | .tuple ds => Q ⟨kOf ds, .list ds⟩
    | _ => False)
  | _, _ => False
theorem cd_lst : CD K (rLstOf K) wLstC := by
  intro N H xs rs A Qd Q hw k
  match rs, A, hw with
  | [⟨kd, d⟩], A, hw =>
    obtain ⟨x, rfl, ax⟩ := A.one
    unfold wLstC at hw
    cases d <;> first | exact hw.elim | skip
    · rename_i ds
      obtain ⟨G, qx, _⟩ := ax
      obtain ⟨a, xs, _, rfl, hs, ra, _⟩ := Rp.sql (show Rp K false H x (.list ds) G from qx)
      refine ⟨a, xs, rfl, .inl hs, fun p np => ?_⟩
      obtain ⟨G', n⟩ := new_list (N := N) np ra
      exact k _ _ _ G' (Ext.upd np) n hw
    · rename_i ds
      obtain ⟨G, qx, _⟩ := ax
      obtain ⟨a, xs, rfl, hs, ra⟩ := Rp.sqt (show Rp K false H x (.tuple ds) G from qx)
      refine ⟨a, xs, rfl, .inr hs, fun p np => ?_⟩
      obtain ⟨G', n⟩ := new_list (N := N) np ra
      exact k _ _ _ G' (Ext.upd np) n hw
def rMaxA (K : PySem.W.Frag) : List V → Hp → VK → Prop := fun xs H Q => (∃ i j, xs = [.int i, .int j] ∧ Q (.int (if j > i then j else i)) H) ∨ rMax K xs H Q
def rMinA (K : PySem.W.Frag) : List V → Hp → VK → Prop := fun xs H Q => (∃ i j, xs = [.int i, .int j] ∧ Q (.int (if j < i then j else i)) H) ∨ rMin K xs H Q
theorem call_maxA {X : Cx} (hc : X.calm = true) : CallR X (.builtin "max") (rMaxA X.K) := CallR.or (call_max2 hc) (cr_max hc)
theorem call_minA {X : Cx} (hc : X.calm = true) : CallR X (.builtin "min") (rMinA X.K) := CallR.or (call_min2 hc) (cr_min hc)
def wMax : List R → (R → Prop) → Prop
  | [r], Q => (match r.d with
    | .list ds => ∃ ns : List Int, ds = ns.map PyData.int ∧ 0 < ns.length ∧ ∀ m, m ∈ ns → (∀ y, y ∈ ns → y ≤ m) → Q (P (.int m))
    | _ => False)
  | [r, r'], Q => (match r.d, r'.d with
    | .int i, .int j => Q (P (.int (max i j)))
    | _, _ => False)
  | _, _ => False
theorem cd_max : CD K (rMaxA K) wMax := by
  intro N H xs rs A Qd Q hw k
  match rs, A, hw with
  | [⟨kd, d⟩], A, hw =>
    obtain ⟨x, rfl, ax⟩ := A.one
    unfold wMax at hw
    cases d <;> first | exact hw.elim | skip
    rename_i ds
    obtain ⟨ns, rfl, h0, q⟩ := hw
    obtain ⟨G, qx, _⟩ := ax
    obtain ⟨a, xs, _, rfl, hs, ra, _⟩ := Rp.sql (show Rp K false H x (.list (ns.map PyData.int)) G from qx)
    rw [rpall_ints ra] at hs
    exact .inr ⟨a, ns, rfl, hs, h0, fun m h1 h2 => k _ H _ [] Ext.refl (NewOk.pure (.int _)) (q m h1 h2)⟩
  | [⟨kd, d⟩, ⟨ke, e⟩], A, hw =>
    obtain ⟨x, y, rfl, ax, ay⟩ := A.two
    unfold wMax at hw
    cases d <;> cases e <;> first | exact hw.elim | skip
    rename_i i j
    rw [arg_int ax, arg_int ay]
    refine .inl ⟨i, j, rfl, k _ H _ [] Ext.refl (NewOk.pure (.int _)) ?_⟩
    have e : (if j > i then j else i) = max i j := by split <;> omega
    rw [e]
    exact hw
def wMin : List R → (R → Prop) → Prop
  | [r], Q => (match r.d with
    | .list ds => ∃ ns : List Int, ds = ns.map PyData.int ∧ 0 < ns.length ∧ ∀ m, m ∈ ns → (∀ y, y ∈ ns → m ≤ y) → Q (P (.int m))
    | _ => False)
  | [r, r'], Q => (match r.d, r'.d with
    | .int i, .int j => Q (P (.int (min i j)))
    | _, _ => False)
  | _, _ => False
theorem cd_min : CD K (rMinA K) wMin := by
  intro N H xs rs A Qd Q hw k
  match rs, A, hw with
  | [⟨kd, d⟩], A, hw =>
    obtain ⟨x, rfl, ax⟩ := A.one
    unfold wMin at hw
    cases d <;> first | exact hw.elim | skip
    rename_i ds
    obtain ⟨ns, rfl, h0, q⟩ := hw
    obtain ⟨G, qx, _⟩ := ax
    obtain ⟨a, xs, _, rfl, hs, ra, _⟩ := Rp.sql (show Rp K false H x (.list (ns.map PyData.int)) G from qx)
    rw [rpall_ints ra] at hs
    exact .inr ⟨a, ns, rfl, hs, h0, fun m h1 h2 => k _ H _ [] Ext.refl (NewOk.pure (.int _)) (q m h1 h2)⟩
  | [⟨kd, d⟩, ⟨ke, e⟩], A, hw =>
    obtain ⟨x, y, rfl, ax, ay⟩ := A.two
    unfold wMin at hw
    cases d <;> cases e <;> first | exact hw.elim | skip
    rename_i i j
    rw [arg_int ax, arg_int ay]
    refine .inl ⟨i, j, rfl, k _ H _ [] Ext.refl (NewOk.pure (.int _)) ?_⟩
    have e : (if j < i then j else i) = min i j := by split <;> omega
    rw [e]
    exact hw
def wNeg : R → (R → Prop) → Prop := fun r Q => match r.d with
  | .int i => Q (P (.int (-i)))
  | _ => False
theorem ud_neg : UD K (rU fun i => .int (-i)) wNeg := by
  intro N H x ⟨kx, dx⟩ ax Qd Q hw k
  unfold wNeg at hw
  cases dx <;> first | exact hw.elim | skip
  rename_i i
  rw [arg_int ax]
  exact ⟨i, rfl, k _ H _ [] Ext.refl (NewOk.pure (.int _)) hw⟩
end
abbrev WPt := DEnv → (Option Int → Prop) → Prop
structure DO (X : Cx) (v0 : Cv) (o : Option Expr) (w : WPt) : Prop where
  ex : ∃ t, PO X o t ∧ ∀ σ H ρ F, StOk X.K v0 σ H ρ F → ∀ (Qd : Option Int → Prop) (Q : Option Int → Hp → Prop), w ρ Qd → (∀ o H', Ext H H' → Qd o → Q o H') → t σ H Q
section
variable {X : Cx} {v0 : Cv} {e : Expr} {lo hi : Option Expr} {we : WE} {wl wh : WPt} {ea : Bool} {pos p2 : Pos}
def wNoPart : WPt := fun _ Q => Q none
theorem do_none : DO X v0 none wNoPart := ⟨_, po_none, fun σ H ρ F S Qd Q h k => k none H Ext.refl h⟩
def wPart (we : WE) : WPt := fun ρ Q => we ρ fun _ r => match r.d with
  | .int i => Q (some i)
  | _ => False
theorem do_some (h : DE X v0 false e we) : DO X v0 (some e) (wPart we) := by
  obtain ⟨t, p, q⟩ := h
  refine ⟨_, po_some p, fun σ H ρ F S Qd Q h k => ?_⟩
  refine q σ H ρ F S _ _ h fun x H1 ρ1 F1 r G S1 s1 e1 r1 h1 => ?_
  obtain ⟨_, _, ex⟩ := e1.non rfl
  obtain ⟨kd, d⟩ := r
  cases d <;> first | exact h1.elim | skip
  rename_i i
  have rd : Rp X.K false H1 x (.int i) G := r1.read
  cases rd
  exact ⟨i, rfl, k (some i) H1 ex h1⟩
def cutD (ds : List PyData) (lo hi : Option Int) : List PyData := (ds.drop (HT.sIx ds.length 0 lo)).take (HT.sIx ds.length ds.length hi - HT.sIx ds.length 0 lo)
theorem RpAll.cut {K : PySem.W.Frag} {m : Bool} {H : Hp} {xs : List V} {ds : List PyData} {G : List Addr} (h : RpAll K m H xs ds G) (lo hi : Option Int) : ∃ G', RpAll K m H (cutV xs lo hi) (cutD ds lo hi) G' ∧ G'.Sublist G := by
  unfold cutV cutD
  rw [h.length]
  obtain ⟨G1, h1, s1⟩ := h.drop (HT.sIx ds.length 0 lo)
  obtain ⟨G2, h2, s2⟩ := h1.take (HT.sIx ds.length ds.length hi - HT.sIx ds.length 0 lo)
  exact ⟨G2, h2, s2.trans s1⟩
def rSlAny (K : PySem.W.Frag) : V → Option Int → Option Int → Hp → VK → Prop := fun x lo hi H Q => (rSlL K x lo hi H Q ∨ rSlA K x lo hi H Q) ∨ rSlS x lo hi H Q
theorem sl_any : SlR X (rSlAny X.K) := (sl_list.or sl_tupA).or sl_str
def wSlc (we : WE) (wl wh : WPt) : WE := fun ρ Q => we ρ fun ρ1 r => wl ρ1 fun lo => wh ρ1 fun hi => match r.d with
  | .list ds => Q ρ1 ⟨kOf (cutD ds lo hi), .list (cutD ds lo hi)⟩
  | .tuple ds => Q ρ1 ⟨kOfT (cutD ds lo hi), .tuple (cutD ds lo hi)⟩
  | .str z => z.length ≤ sizeLine ∧ Q ρ1 (P (.str (cutS z lo hi)))
  | _ => False
theorem sIx_whole {α : Type} (ds : List α) (lo hi : Option Int) (h : HT.sIx ds.length 0 lo = 0 ∧ HT.sIx ds.length ds.length hi = ds.length) : (ds.drop (HT.sIx ds.length 0 lo)).take (HT.sIx ds.length ds.length hi - HT.sIx ds.length 0 lo) = ds := by
  rw [h.1, h.2, List.drop_zero, Nat.sub_zero, List.take_length]
theorem de_slice (he : DE X v0 ea e we) (hl : DO X v0 lo wl) (hh : DO X v0 hi wh) : DE X v0 ea (.Subscript e (.Slice lo hi none p2) pos) (wSlc we wl wh) := by
  obtain ⟨t, p, q⟩ := he
  obtain ⟨tl, pl, ql⟩ := hl
  obtain ⟨th, ph, qh⟩ := hh
  refine ⟨_, pe_slice sl_any p pl ph, fun σ H ρ F S Qd Q h k => ?_⟩
  refine q σ H ρ F S _ _ h fun x H1 ρ1 F1 r G S1 s1 e1 r1 h1 => ?_
  refine ql σ H1 ρ1 F1 S1 _ _ h1 fun lo H2 x2 h2 => ?_
  have S2 := S1.ext x2
  have s2 := s1.trans (Step.ext (F := F1) x2)
  have r2 := r1.ext x2
  have e2 := e1.ext x2
  refine qh σ H2 ρ1 F1 S2 _ _ h2 fun hi H3 x3 h3 => ?_
  have S3 := S2.ext x3
  have s3 := s2.trans (Step.ext (F := F1) x3)
  have r3 := r2.ext x3
  have e3 := e2.ext x3
  have fin : ∀ v H' r' G', Ext H3 H' → NewOk X.K (fun a => ¬ Own F1 a) H3 H' r' v G' → Qd ρ1 r' → Q v H' := fun v H' r' G' ex n hq =>
    k v H' ρ1 F1 r' G' (S3.ext ex) (s3.trans (Step.ext ex)) (e3.ext ex) (n.res S3 s3) hq
  obtain ⟨kd, d⟩ := r
  have rd : Rp X.K false H3 x d G := r3.read
  cases d <;> first | exact h3.elim | skip
  · rename_i z
    have rd : Rp X.K false H3 x (.str z) G := rd
    cases rd
    exact .inr ⟨z, rfl, h3.1, fin _ H3 _ [] Ext.refl (NewOk.pure (.str _)) h3.2⟩
  · rename_i ds
    obtain ⟨a, xs, _, rfl, hs, ra, _⟩ := Rp.sql rd
    refine .inl (.inl ⟨a, xs, rfl, hs, fun p np => ?_⟩)
    obtain ⟨G1, c1, _⟩ := ra.cut lo hi
    obtain ⟨G', n⟩ := new_list (N := fun a => ¬ Own F1 a) np c1
    exact fin _ _ _ G' (Ext.upd np) n h3
  · rename_i ds
    have rd' := rd
    obtain ⟨a, xs, rfl, hs, ra⟩ := Rp.sqt rd
    refine .inl (.inr ⟨a, xs, rfl, hs, fun w => ?_, fun _ p np => ?_⟩)
    · have w' : HT.sIx ds.length 0 lo = 0 ∧ HT.sIx ds.length ds.length hi = ds.length := by rw [← ra.length]; exact w
      obtain ⟨G', n⟩ := old_tup (N := fun a => ¬ Own F1 a) rd'
      refine fin _ H3 ⟨kOfT ds, .tuple ds⟩ G' Ext.refl n ?_
      have : cutD ds lo hi = ds := sIx_whole ds lo hi w'
      have h3 : Qd ρ1 ⟨kOfT (cutD ds lo hi), .tuple (cutD ds lo hi)⟩ := h3
      rw [this] at h3
      exact h3
    · obtain ⟨G1, c1, _⟩ := ra.cut lo hi
      obtain ⟨G', n⟩ := new_tup (N := fun a => ¬ Own F1 a) np c1
      exact fin _ _ _ G' (Ext.upd np) n h3
end
end DL
namespace DL
open PySem PySem.Spec PyProof.Rows L2
def keyOf : PyData → Option Key
  | .int i => some (.inl i)
  | .str x => some (.inr x)
  | _ => none
theorem keyOf_D (k : Key) : keyOf (keyD k) = some k := by cases k <;> rfl
def lookD (kvs : List (PyData × PyData)) (k : Key) : Option PyData := (kvs.find? fun kv => decide (keyOf kv.1 = some k)).map (·.2)
section
variable {K : PySem.W.Frag} {m : Bool} {H : Hp}
theorem look_dK : ∀ {kvs : List (PyData × PyData)} {ks : List (Key × V)} {G : List Addr} {k : Key} {d : PyData}, kvs.map (·.1) = ks.map (fun p => keyD p.1) → RpAll K m H (ks.map (·.2)) (kvs.map (·.2)) G → lookD kvs k = some d → ∃ v G1, valV ks k = some v ∧ Rp K m H v d G1 ∧ ∀ a ∈ G1, a ∈ G
  | [], _, _, _, _, _, _, h => by cases h
  | (kd, d0) :: kvs, ks, G, k, d, e, r, h => by
    cases ks with
    | nil => cases e
    | cons p ks =>
      obtain ⟨k0, v0⟩ := p
      simp only [List.map_cons, List.cons.injEq] at e
      obtain ⟨e1, e2⟩ := e
      simp only [List.map_cons] at r
      cases r with
      | cons r1 r2 =>
        unfold lookD at h
        rw [List.find?_cons] at h
        simp only [e1, keyOf_D] at h
        by_cases hk : k0 = k
        · subst hk
          simp at h
          subst h
          exact ⟨v0, _, valV_pos rfl, r1, fun a i => List.mem_append_left _ i⟩
        · have hb : decide (some k0 = some k) = false := decide_eq_false fun e => hk (Option.some.inj e)
          rw [hb] at h
          obtain ⟨v, G1, h1, h2, h3⟩ := look_dK (k := k) (d := d) e2 r2 h
          exact ⟨v, G1, by rw [valV_neg hk]; exact h1, h2, fun a i => List.mem_append_right _ (h3 a i)⟩
theorem nks_mem : ∀ {ds : List PyData} {ks : List NestedKey}, nks ds = some ks → ∀ d ∈ ds, ∃ k ∈ ks, nk d = some k
  | [], _, _, _, hd => nomatch hd
  | x :: ds, ks, h, d, hd => by
    unfold nks at h
    split at h
    · rename_i k ks' e1 e2
      simp only [Option.some.injEq] at h
      subst h
      rcases List.mem_cons.mp hd with rfl | hd
      · exact ⟨k, .head _, e1⟩
      · obtain ⟨k', h1, h2⟩ := nks_mem e2 d hd
        exact ⟨k', .tail _ h1, h2⟩
    · cases h
theorem keysN_no {K : PySem.W.Frag} {H : Hp} {es : List (NestedKey × Addr × V)} {kvs : List (PyData × PyData)} (h : KeysN K H es kvs) : ∀ kv ∈ kvs, keyOf kv.1 = none := fun kv hkv => by
  obtain ⟨k, hk, e⟩ := nks_mem h.1 kv.1 (List.mem_map_of_mem hkv)
  obtain ⟨en, hen, rfl⟩ := List.mem_map.mp hk
  have q := (h.2.1 en hen).1
  generalize hkk : en.1 = k0 at q e
  cases q with
  | tup _ _ =>
    cases hd : kv.1 <;> rw [hd] at e <;> simp [nk] at e <;> rfl
theorem look_dN {K : PySem.W.Frag} {H : Hp} {es : List (NestedKey × Addr × V)} {kvs : List (PyData × PyData)} {k : Key} {d : PyData} (h : KeysN K H es kvs) (hl : lookD kvs k = some d) : False := by
  unfold lookD at hl
  cases e : kvs.find? (fun kv => decide (keyOf kv.1 = some k)) with
  | none => rw [e] at hl; cases hl
  | some kv =>
    have h1 := keysN_no h kv (List.mem_of_find?_eq_some e)
    have h2 := List.find?_some e
    rw [h1] at h2
    simp at h2
end
section
variable {X : Cx} {v0 : Cv} {a b : Expr} {ea eb : Bool} {wa wb : WE} {pos : Pos}
/-- d[k], k there -/
def wDGet (eb : Bool) (wa wb : WE) : WE := fun ρ Q => wa ρ fun ρ1 ra => wb ρ1 fun ρ2 rb => (eb = true → stb ra = true) ∧ match ra.d, keyOf rb.d with
  | .dict kvs, some k => ∃ d, lookD kvs k = some d ∧ Q ρ2 (itemK ra.k d)
  | _, _ => False
theorem key_V {K : PySem.W.Frag} {H : Hp} {m : Bool} {v : V} {d : PyData} {G : List Addr} {k : Key} (r : Rp K m H v d G) (h : keyOf d = some k) : v = kV k := by
  cases r <;> simp [keyOf] at h <;> subst h <;> rfl
theorem de_dget (hu : X.A.units + 1 < cLine) (ha : DE X v0 ea a wa) (hb : DE X v0 eb b wb) (hs : NoSl b) : DE X v0 (ea || eb) (.Subscript a b pos) (wDGet eb wa wb) := by
  obtain ⟨ta, pa, qa⟩ := ha
  obtain ⟨tb, pb, qb⟩ := hb
  refine ⟨_, pe_dget hu pa pb hs, fun σ H ρ F S Qd Q h k => ?_⟩
  refine qa σ H ρ F S _ _ h fun x H1 ρ1 F1 ra G1 S1 s1 p1 r1 h1 => ?_
  refine qb σ H1 ρ1 F1 S1 _ _ h1 fun y H2 ρ2 F2 rb G2 S2 s2 p2 r2 h2 => ?_
  obtain ⟨hst, h2⟩ := h2
  have rx : Arg X.K (fun a => ¬ Own F2 a) H2 ra x := by
    cases eb with
    | true =>
      obtain ⟨G', q⟩ := r1.step s2 (hst rfl)
      exact q.arg
    | false =>
      obtain ⟨_, e2, e3⟩ := p2.non rfl
      subst e2
      exact (r1.ext e3).arg
  obtain ⟨ka, da⟩ := ra
  obtain ⟨kb, db⟩ := rb
  obtain ⟨G, q, n⟩ := rx
  have q : Rp X.K false H2 x da G := q
  cases da <;> first | exact h2.elim | skip
  rename_i kvs
  cases hk : keyOf db with
  | none => simp only [hk] at h2
  | some key =>
    simp only [hk] at h2
    obtain ⟨d, hl, hq⟩ := h2
    have ey := key_V r2.read hk
    cases q with
    | dK e1 e2 e3 =>
      obtain ⟨v, G3, l1, l2, l3⟩ := look_dK e2 e3 hl
      obtain ⟨G4, nn⟩ := item_new (N := fun a => ¬ Own F2 a) (kx := ka) l2 fun z b i => n z b (.tail _ (l3 b i))
      refine ⟨_, v, rfl, ?_, k v H2 ρ2 F2 (itemK ka d) G4 S2 (s1.trans s2) (p1.trans p2) (nn.res S2 (s1.trans s2)) hq⟩
      rw [ey, ← l1]
      exact DGet.k e1
    | dN e1 e2 e3 => exact (look_dN e2 hl).elim
def tP (ks : List Str) (tps : List (TE × TE)) : TA := fun σ H Q => tPairs tps σ H fun ps H' => ∃ vs, ps = (ks.map V.str).zip vs ∧ vs.length = ks.length ∧ Q vs H'
theorem tP_cons (k : Str) (ks : List Str) (t : TE) (tps : List (TE × TE)) : tP (k :: ks) ((tC (.str k), t) :: tps) = tCons t (tP ks tps) := by
  funext σ H Q
  show t σ H _ = t σ H _
  congr 1
  funext y H2
  show tPairs tps σ H2 _ = tPairs tps σ H2 _
  congr 1
  funext ps H3
  refine propext ⟨?_, ?_⟩
  · rintro ⟨vs, e, hl, q⟩
    cases vs with
    | nil => cases hl
    | cons v vs =>
      simp only [List.map_cons, List.zip_cons_cons, List.cons.injEq, Prod.mk.injEq, true_and] at e
      obtain ⟨rfl, e⟩ := e
      exact ⟨vs, e, by simpa using hl, q⟩
  · rintro ⟨vs, e, hl, q⟩
    exact ⟨y :: vs, by simp [e], by simp [hl], q⟩
/-- an expression's meaning, made monotone -/
def tMo (t : TE) : TE := fun σ H Q => ∃ Q0 : VK, t σ H Q0 ∧ ∀ v H', Q0 v H' → Q v H'
theorem pe_mo {e : Expr} {t : TE} (p : PE X e t) : PE X e (tMo t) := ⟨fun pins s σ H Q I ⟨Q0, h, m⟩ => thn (p.run pins s σ H Q0 I h) fun _ _ ⟨v, H', I', r, q⟩ => ⟨v, H', I', r, m v H' q⟩⟩
theorem re_mo {K : PySem.W.Frag} {t : TE} {w : WE} (q : RE K v0 ea t w) : RE K v0 ea (tMo t) w := fun σ H ρ F S Qd Q h k => ⟨Q, q σ H ρ F S Qd Q h k, fun _ _ z => z⟩
structure DPr (X : Cx) (v0 : Cv) (pos : Pos) (keys : List (Option Expr)) (values : List Expr) (ks : List Str) (w : WA) : Prop where
  ex : ∃ tps, PPs X pos keys values tps ∧ RG X.K v0 false (tP ks tps) w ∧ ∀ σ H (Q Q' : List (V × V) → Hp → Prop), (∀ ps H', Q ps H' → Q' ps H') → tPairs tps σ H Q → tPairs tps σ H Q'
theorem dp_nil : DPr X v0 pos [] [] [] wNil := ⟨_, pps_nil, fun σ H ρ F S Qd Q h k => ⟨[], rfl, rfl, k [] H ρ F [] S Step.refl Eff.refl ⟨⟨⟨[], .nil⟩, fun _ => ⟨[], .nil, List.nodup_nil, (fun _ i => nomatch i), fun _ i => nomatch i⟩, fun _ => ⟨[], .nil, fun _ i => nomatch i⟩⟩, .nil⟩ h⟩, fun _ _ _ _ m h => m _ _ h⟩
theorem dp_cons {k : Str} {j} {p1 : Pos} {keys : List (Option Expr)} {values : List Expr} {ks : List Str} {w : WA} (ha : DE X v0 false a wa) (hr : DPr X v0 pos keys values ks w) :
    DPr X v0 pos (some (.Constant (.str k) j p1) :: keys) (a :: values) (k :: ks) (wCons false wa w) := by
  obtain ⟨t, p, q⟩ := ha
  obtain ⟨tps, p2, q2, mo⟩ := hr
  refine ⟨_, pps_cons pe_str (pe_mo p) p2, ?_, fun σ H Q Q' m ⟨Q0, h, h2⟩ => ⟨Q0, h, fun v H' z => mo σ H' _ _ (fun ps H2 z => m _ _ z) (h2 v H' z)⟩⟩
  rw [tP_cons]
  exact rg_cons (re_mo q) q2
theorem mergeK_app : ∀ (more acc : List (Key × V)), ((acc ++ more).map (·.1)).Nodup → mergeK acc more = acc ++ more
  | [], acc, _ => by show acc = acc ++ []; rw [List.append_nil]
  | p :: more, acc, h => by
    show mergeK (putK acc p.1 p.2) more = _
    have e : putK acc p.1 p.2 = acc ++ [p] := by
      refine putK_new p.2 ?_
      cases z : valV acc p.1 with
      | none => rfl
      | some v =>
        have i := valV_in z
        rw [List.map_append, List.nodup_append] at h
        exact absurd rfl (h.2.2 _ i _ (by simp))
    rw [e, mergeK_app more (acc ++ [p]) (by simpa using h)]
    simp
def dzip (ks : List Str) (rs : List R) : List (PyData × PyData) := (ks.map PyData.str).zip (rs.map (·.d))
def wDisp (ks : List Str) (w : WA) : WE := fun ρ Q => w ρ fun ρ1 rs => rs.all owp = true ∧ Q ρ1 ⟨.own, .dict (dzip ks rs)⟩
theorem de_disp {keys : List (Option Expr)} {values : List Expr} {ks : List Str} {w : WA} (h : DPr X v0 pos keys values ks w) (hnd : ks.Nodup := by decide) (h15 : ks.length ≤ 15 := by decide) (hall : keys.all (·.isSome) = true := by rfl) (hl : keys.length = values.length := by rfl) (h0 : keys ≠ [] := by intro z; cases z)
    (hk15 : keys.length ≤ 15 := by decide) : DE X v0 false (.Dict keys values pos) (wDisp ks w) := by
  obtain ⟨tps, p, q, mo⟩ := h
  refine ⟨_, pe_disp p hall hl h0 hk15, fun σ H ρ F S Qd Q h k => ?_⟩
  intro P hP
  have ex0 : Ext H (upd H P (.dK [])) := Ext.upd hP
  refine mo σ _ _ _ (fun ps H' z => ?_) (q σ (upd H P (.dK [])) ρ F (S.ext ex0) _ (fun vs H' => vs.length = ks.length → H' P = some (.dK []) ∧ ∃ kvs : List (Key × V), (ks.map V.str).zip vs = kvs.map (fun kv => (kV kv.1, kv.2)) ∧ kvs.length ≤ 15 ∧ Q (.ref P) (upd H' P (.dK (mergeK [] kvs)))) h fun vs H1 ρ1 F1 rs S1 s1 e1 A h1 hvl => ?_)
  · obtain ⟨vs, rfl, hl, z⟩ := z
    exact z hl
  · obtain ⟨r1, r2, ex1⟩ := e1.non rfl
    subst r1
    subst r2
    obtain ⟨hall, hq⟩ := h1
    have hP1 : H1 P = some (.dK []) := ex1 _ _ upd_same
    have nP : ¬ Own F1 P := fun z => S.live P z hP
    obtain ⟨G, ra, nd, n1, o1⟩ := A.all.own hall
    have hrl := ra.length
    rw [List.length_map] at hrl
    have PG : P ∉ G := fun i => by
      rcases o1 P i with z | z
      · exact nP z
      · rw [upd_same] at z
        cases z
    refine ⟨hP1, (ks.map Sum.inr).zip vs, ?_, by rw [List.length_zip, List.length_map]; omega, ?_⟩
    · have : ∀ (ks : List Str) (vs : List V), (ks.map V.str).zip vs = ((ks.map (Sum.inr : Str → Key)).zip vs).map (fun kv => (kV kv.1, kv.2)) := by
        intro ks
        induction ks with
        | nil => intro vs; rfl
        | cons k ks ih =>
          intro vs
          cases vs with
          | nil => rfl
          | cons v vs =>
            simp only [List.map_cons, List.zip_cons_cons, ih vs]
            rfl
      exact this ks vs
    · have hkn : (((ks.map (Sum.inr : Str → Key)).zip vs).map (·.1)) = ks.map Sum.inr := by
        rw [List.map_fst_zip]
        simp [hvl]
      have hvn : (((ks.map (Sum.inr : Str → Key)).zip vs).map (·.2)) = vs := by
        rw [List.map_snd_zip]
        simp [hvl]
      rw [mergeK_app _ [] (by
        rw [List.nil_append, hkn]
        exact List.Pairwise.map _ (fun a b h e => h (by cases e; rfl)) hnd), List.nil_append]
      generalize hH2 : upd H1 P (.dK ((ks.map (Sum.inr : Str → Key)).zip vs)) = H2
      have ne : ∀ b, b ≠ P → H2 b = H1 b := fun b hb => by rw [← hH2, upd_ne hb]
      have ex2 : Ext H H2 := fun b o hb => by
        have hb' : b ≠ P := fun e => by subst e; rw [hP] at hb; cases hb
        rw [ne b hb']
        exact ex1 b o (ex0 b o hb)
      have tu2 : Tu H1 H2 := fun b xs r => by
        have hb : b ≠ P := fun e => by
          subst e
          rcases r with r | ⟨o, r⟩ <;> rw [hP1] at r <;> cases r
        exact rd_keep r fun o q => by rw [ne b hb]; exact q
      have ra2 : RpAll X.K true H2 vs (rs.map (·.d)) G := ra.keep tu2 _ _ _ fun b i o hb => by rw [ne b (fun e => PG (e ▸ i))]; exact hb
      have hkd : (dzip ks rs).map (·.1) = ((ks.map (Sum.inr : Str → Key)).zip vs).map (fun p => keyD p.1) := by
        have z1 : (dzip ks rs).map (·.1) = ks.map PyData.str := by
          unfold dzip
          rw [List.map_fst_zip]
          simp; omega
        have z2 : ((ks.map (Sum.inr : Str → Key)).zip vs).map (fun p => keyD p.1) = (((ks.map (Sum.inr : Str → Key)).zip vs).map (·.1)).map keyD := by rw [List.map_map]; rfl
        rw [z1, z2, hkn, List.map_map]
        rfl
      have hvd : (dzip ks rs).map (·.2) = rs.map (·.d) := by
        unfold dzip
        rw [List.map_snd_zip]
        simp; omega
      refine k (.ref P) H2 ρ1 F1 ⟨.own, .dict (dzip ks rs)⟩ (P :: G) (S.ext ex2) (Step.ext ex2) ⟨fun _ _ z => z, fun _ => ⟨rfl, rfl, ex2⟩⟩ ⟨?_, ?_, fun b i => ?_, fun b i => ?_⟩ hq
      · exact .dK (by rw [← hH2]; exact upd_same) hkd (by rw [hvn, hvd]; exact ra2)
      · exact List.nodup_cons.mpr ⟨PG, nd⟩
      · rcases List.mem_cons.mp i with rfl | i
        · exact nP
        · exact n1 b i
      · rcases List.mem_cons.mp i with rfl | i
        · exact .inr hP
        · rcases o1 b i with z | z
          · exact .inl z
          · have hb' : b ≠ P := fun e => PG (e ▸ i)
            rw [upd_ne hb'] at z
            exact .inr z
end
end DL
namespace DL
open PySem PySem.Spec PyProof.Rows L2
/-- from v, that stands for d, by positions -/
inductive VAt (H : Hp) : V → PyData → List Nat → V → Prop
  | nil (v : V) (d : PyData) : VAt H v d [] v
  | lst {a : Addr} {xs : List V} {ds : List PyData} {j : Nat} {w u : V} {d : PyData} {p : List Nat} : H a = some (.lst xs) → xs[j]? = some w → ds[j]? = some d → VAt H w d p u → VAt H (.ref a) (.list ds) (j :: p) u
  | dK {a : Addr} {ks : List (Key × V)} {kvs : List (PyData × PyData)} {j : Nat} {kw : Key × V} {u : V} {kd : PyData × PyData} {p : List Nat} : H a = some (.dK ks) → ks[j]? = some kw → kvs[j]? = some kd → VAt H kw.2 kd.2 p u → VAt H (.ref a) (.dict kvs) (j :: p) u
def getP : PyData → List Nat → Option PyData
  | d, [] => some d
  | .list ds, j :: p => match ds[j]? with
    | some d => getP d p
    | none => none
  | .tuple ds, j :: p => match ds[j]? with
    | some d => getP d p
    | none => none
  | .dict kvs, j :: p => match kvs[j]? with
    | some kv => getP kv.2 p
    | none => none
  | _, _ :: _ => none
def setP : PyData → List Nat → PyData → PyData
  | _, [], e => e
  | .list ds, j :: p, e => match ds[j]? with
    | some d => .list (ds.set j (setP d p e))
    | none => .list ds
  | .tuple ds, j :: p, e => match ds[j]? with
    | some d => .tuple (ds.set j (setP d p e))
    | none => .tuple ds
  | .dict kvs, j :: p, e => match kvs[j]? with
    | some kv => .dict (kvs.set j (kv.1, setP kv.2 p e))
    | none => .dict kvs
  | d, _ :: _, _ => d
section
variable {K : PySem.W.Frag} {m : Bool} {H H' : Hp}
theorem VAt.snoc {v w x : V} {d e : PyData} {p : List Nat} {j : Nat} (h : VAt H v d p w) : getP d p = some e → VAt H w e [j] x → VAt H v d (p ++ [j]) x := by
  induction h with
  | nil v d =>
    intro g s
    have : some d = some e := by cases d <;> exact g
    cases this
    exact s
  | lst h1 h2 h3 _ ih =>
    intro g s
    simp only [getP, h3] at g
    exact .lst h1 h2 h3 (ih g s)
  | dK h1 h2 h3 _ ih =>
    intro g s
    simp only [getP, h3] at g
    exact .dK h1 h2 h3 (ih g s)
theorem VAt.ext {v w : V} {d : PyData} {p : List Nat} (e : Ext H H') (h : VAt H v d p w) : VAt H' v d p w := by
  induction h with
  | nil v d => exact .nil v d
  | lst h1 h2 h3 _ ih => exact .lst (e _ _ h1) h2 h3 ih
  | dK h1 h2 h3 _ ih => exact .dK (e _ _ h1) h2 h3 ih
theorem RpAll.split : ∀ {vs : List V} {ds : List PyData} {G : List Addr} {j : Nat} {w : V}, RpAll K m H vs ds G → vs[j]? = some w → ∃ e Ga G0 Gb, ds[j]? = some e ∧ G = Ga ++ G0 ++ Gb ∧ Rp K m H w e G0 ∧
    ∀ H' e' G1, Tu H H' → Kpt H H' (Ga ++ Gb) → Rp K m H' w e' G1 → RpAll K m H' vs (ds.set j e') (Ga ++ G1 ++ Gb)
  | _, _, _, _, _, .nil, h => by simp at h
  | _, _, _, 0, _, .cons (v := v) (vs := vs) (d := d) (ds := ds) (G1 := G1) (G2 := G2) r t, h => by
    simp at h
    subst h
    refine ⟨d, [], G1, G2, rfl, rfl, r, fun H' e' G' tu kp q => ?_⟩
    exact .cons q (t.keep tu _ _ _ fun a i => kp a (by simpa using i))
  | _, _, _, j + 1, w, .cons (v := v) (vs := vs) (d := d) (ds := ds) (G1 := G1) (G2 := G2) r t, h => by
    obtain ⟨e, Ga, G0, Gb, h1, h2, h3, h4⟩ := RpAll.split (j := j) (w := w) t (by simpa using h)
    refine ⟨e, G1 ++ Ga, G0, Gb, by simpa using h1, by rw [h2]; simp [List.append_assoc], h3, fun H' e' G' tu kp q => ?_⟩
    have q2 := h4 H' e' G' tu (fun a i => kp a (by
      rcases List.mem_append.mp i with i | i
      · simp [i]
      · simp [i])) q
    have q1 := r.keep tu _ _ _ fun a i => kp a (by simp [i])
    have := RpAll.cons q1 q2
    simpa [List.append_assoc] using this
theorem map_set_snd (kvs : List (PyData × PyData)) (j : Nat) (kv : PyData × PyData) (e : PyData) (h : kvs[j]? = some kv) : (kvs.set j (kv.1, e)).map (·.1) = kvs.map (·.1) ∧ (kvs.set j (kv.1, e)).map (·.2) = (kvs.map (·.2)).set j e := by
  constructor
  · rw [List.map_set]
    apply List.ext_getElem?
    intro i
    by_cases hi : j = i
    · subst hi
      rw [List.getElem?_set_self (by simp; exact (List.getElem?_eq_some_iff.mp h).1)]
      simp [h]
    · rw [List.getElem?_set_ne hi]
  · rw [List.map_set]
/-- what stands at a place, and what stands for the whole when that changes -/
theorem place {v u : V} {d : PyData} {p : List Nat} (va : VAt H v d p u) : ∀ (G : List Addr), Rp K true H v d G → ∃ e Ga G0 Gb, getP d p = some e ∧ G = Ga ++ G0 ++ Gb ∧ Rp K true H u e G0 ∧
    ∀ H' e' G1, Tu H H' → Kpt H H' (Ga ++ Gb) → Rp K true H' u e' G1 → Rp K true H' v (setP d p e') (Ga ++ G1 ++ Gb) := by
  induction va with
  | nil v d =>
    intro G r
    refine ⟨d, [], G, [], by cases d <;> rfl, by simp, r, fun H' e' G1 _ _ q => ?_⟩
    have : setP d [] e' = e' := by cases d <;> rfl
    rw [this]
    simpa using q
  | @lst a xs ds j w u d p h1 h2 h3 _ ih =>
    intro G r
    cases r with
    | @lst _ xs' _ G' hm hs ra =>
      have e1 := hm rfl
      rw [h1] at e1
      cases e1
      obtain ⟨e, Ga, G0, Gb, s1, s2, s3, s4⟩ := ra.split h2
      rw [h3] at s1
      cases s1
      obtain ⟨e2, Gc, G1, Gd, t1, t2, t3, t4⟩ := ih G0 s3
      refine ⟨e2, a :: (Ga ++ Gc), G1, Gd ++ Gb, by simp only [getP, h3]; exact t1, by rw [s2, t2]; simp [List.append_assoc], t3, fun H' e' G2 tu kp q => ?_⟩
      have q1 := t4 H' e' G2 tu (fun b i => kp b (by
        rcases List.mem_append.mp i with i | i <;> simp [i])) q
      have q2 := s4 H' _ _ tu (fun b i => kp b (by
        rcases List.mem_append.mp i with i | i <;> simp [i])) q1
      have ha : H' a = some (.lst xs) := kp a (by simp) _ h1
      have q3 : Rp K true H' (.ref a) (.list (ds.set j (setP d p e'))) (a :: (Ga ++ (Gc ++ G2 ++ Gd) ++ Gb)) := .lst (fun _ => ha) (.inl ha) q2
      simp only [setP, h3]
      simpa [List.append_assoc] using q3
    | lstK hm => cases hm
  | @dK a ks kvs j kw u kd p h1 h2 h3 _ ih =>
    intro G r
    cases r with
    | @dK _ ks' _ G' g1 g2 g3 =>
      rw [h1] at g1
      cases g1
      have h2' : (ks.map (·.2))[j]? = some kw.2 := by simp [h2]
      obtain ⟨e, Ga, G0, Gb, s1, s2, s3, s4⟩ := g3.split h2'
      have k2 : kd.2 = e := by
        rw [List.getElem?_map, h3] at s1
        simpa using s1
      subst k2
      obtain ⟨e2, Gc, G1, Gd, t1, t2, t3, t4⟩ := ih G0 s3
      refine ⟨e2, a :: (Ga ++ Gc), G1, Gd ++ Gb, by simp only [getP, h3]; exact t1, by rw [s2, t2]; simp [List.append_assoc], t3, fun H' e' G2 tu kp q => ?_⟩
      have q1 := t4 H' e' G2 tu (fun b i => kp b (by
        rcases List.mem_append.mp i with i | i <;> simp [i])) q
      have q2 := s4 H' _ _ tu (fun b i => kp b (by
        rcases List.mem_append.mp i with i | i <;> simp [i])) q1
      have ha : H' a = some (.dK ks) := kp a (by simp) _ h1
      obtain ⟨m1, m2⟩ := map_set_snd kvs j kd (setP kd.2 p e') h3
      have q3 : Rp K true H' (.ref a) (.dict (kvs.set j (kd.1, setP kd.2 p e'))) (a :: (Ga ++ (Gc ++ G2 ++ Gd) ++ Gb)) := .dK ha (by rw [m1]; exact g2) (by rw [m2]; exact q2)
      simp only [setP, h3]
      simpa [List.append_assoc] using q3
    | dN g1 => rw [h1] at g1; cases g1
/-- the heap at an owned address changes -/
theorem StOk.mut {v0 : Cv} {σ : L2.St} {ρ : DEnv} {F F0 : Nat → List Addr} {H0 : Hp} {Z : Addr → Prop} (s0 : Step v0.F0 v0.H0 F0 H0) (S : StOk K v0 σ H ρ F) (s : Step F0 H0 F H) (sp : Sep K σ H ρ F Z) {i : Nat} {r : R} {v : V} {p : List Nat} {a : Addr} {o' : HO} {e e' : PyData}
    (hv : σ[i]? = some (some v)) (hr : ρ[i]? = some (some r)) (hk : r.k = .own ∨ r.k = .fix) (va : VAt H v r.d p (.ref a)) (tu : Tu H (upd H a o')) (he : getP r.d p = some e)
    (new : ∀ G0, Rp K true H (.ref a) e G0 → (∀ b ∈ G0, b ∈ F i) → G0.Nodup → a ∈ G0 ∧ ∃ G1, Rp K true (upd H a o') (.ref a) e' G1 ∧ G1.Nodup ∧ ∀ b ∈ G1, b ∈ G0 ∨ (¬ Own F b ∧ Z b ∧ (Own F0 b ∨ H0 b = none))) :
    ∃ F', StOk K v0 σ (upd H a o') (ρ.set i (some ⟨r.k, setP r.d p e'⟩)) F' ∧ Step F0 H0 F' (upd H a o') := by
  have hi : i < ρ.length := (List.getElem?_eq_some_iff.mp hr).1
  obtain ⟨v', hv', so⟩ := S.slot i r hr
  rw [hv] at hv'
  cases hv'
  have rp : Rp K true H v r.d (F i) := by
    obtain ⟨k, d⟩ := r
    rcases hk with hk | hk <;> cases hk
    · exact so
    · exact so.1
  obtain ⟨e1, Ga, G0, Gb, g1, g2, g3, g4⟩ := place va (F i) rp
  rw [he] at g1
  cases g1
  have nd := S.nd i
  rw [g2, List.append_assoc, List.nodup_append, List.nodup_append] at nd
  obtain ⟨ndA, ⟨nd0, ndB, d0B⟩, dA⟩ := nd
  have sub0 : ∀ b ∈ G0, b ∈ F i := fun b h => by rw [g2]; simp [h]
  have subA : ∀ b ∈ Ga, b ∈ F i := fun b h => by rw [g2]; simp [h]
  have subB : ∀ b ∈ Gb, b ∈ F i := fun b h => by rw [g2]; simp [h]
  obtain ⟨ain, G1, n1, n2, n3⟩ := new G0 g3 sub0 nd0
  have ne : ∀ b, b ≠ a → (upd H a o') b = H b := fun b hb => upd_ne hb
  have aOwn : a ∈ F i := sub0 a ain
  have kpAB : Kpt H (upd H a o') (Ga ++ Gb) := fun b hb o ho => by
    have : b ≠ a := fun z => by
      subst z
      rcases List.mem_append.mp hb with hb | hb
      · exact dA b hb b (by simp [ain]) rfl
      · exact d0B b ain b hb rfl
    rw [ne b this]
    exact ho
  have q := g4 _ e' G1 tu kpAB n1
  have mem' : ∀ b, b ∈ Ga ++ G1 ++ Gb → b ∈ F i ∨ (¬ Own F b ∧ Z b ∧ (Own F0 b ∨ H0 b = none)) := fun b hb => by
    rcases List.mem_append.mp hb with hb | hb
    · rcases List.mem_append.mp hb with hb | hb
      · exact .inl (subA b hb)
      · exact (n3 b hb).imp (sub0 b) id
    · exact .inl (subB b hb)
  have own' : ∀ b, Own (sF F i (Ga ++ G1 ++ Gb)) b → Own F b ∨ (¬ Own F b ∧ Z b ∧ (Own F0 b ∨ H0 b = none)) := fun b z => by
    obtain ⟨j, z⟩ := z
    unfold sF at z
    split at z
    · exact (mem' b z).imp (fun z => ⟨i, z⟩) id
    · exact .inl ⟨j, z⟩
  have stp : Step F0 H0 (sF F i (Ga ++ G1 ++ Gb)) (upd H a o') := by
    refine ⟨fun b o hb nb => ?_, fun b z => ?_, fun b xs h => tu b xs (s.tups b xs h), fun l hl => (sF_big (S.ilt hr) l hl).trans (s.per l hl), fun l hl b hb o ho => by
      have hb' : b ∈ F l := by rw [s.per l hl]; exact hb
      have nb : b ≠ a := fun z => by
        have e1 : l = i := S.dj l i b hb' (by rw [z]; exact aOwn)
        have e2 := S.ilt hr
        rw [e1] at hl
        exact Nat.lt_irrefl _ (Nat.lt_of_lt_of_le e2 hl)
      rw [upd_ne nb]
      exact s.pk l hl b hb o ho⟩
    · have h1 := s.keep b o hb nb
      have : b ≠ a := fun z => by
        subst z
        rcases s.own b ⟨i, aOwn⟩ with z | z
        · exact nb z
        · rw [z] at hb; cases hb
      rw [ne b this]
      exact h1
    · rcases own' b z with z | z
      · exact s.own b z
      · exact z.2.2
  refine ⟨sF F i (Ga ++ G1 ++ Gb), ⟨fun j r0 hj => ?_, fun j => ?_, fun j l b h1 h2 => ?_, fun b z => ?_, by simp [S.len], S.sm, s0.trans stp⟩, stp⟩
  · by_cases hji : j = i
    · subst hji
      rw [List.getElem?_set_self hi] at hj
      cases hj
      refine ⟨v, hv, ?_⟩
      have hF : sF F j (Ga ++ G1 ++ Gb) j = Ga ++ G1 ++ Gb := by unfold sF; rw [if_pos rfl]
      obtain ⟨k, d⟩ := r
      rcases hk with hk | hk <;> cases hk
      · show Rp K true _ v _ (sF F j (Ga ++ G1 ++ Gb) j)
        rw [hF]
        exact q
      · refine ⟨?_, so.2⟩
        show Rp K true _ v _ (sF F j (Ga ++ G1 ++ Gb) j)
        rw [hF]
        exact q
    · rw [List.getElem?_set_ne (Ne.symm hji)] at hj
      obtain ⟨w, hw, so0⟩ := S.slot j r0 hj
      refine ⟨w, hw, ?_⟩
      have hF : sF F i (Ga ++ G1 ++ Gb) j = F j := by unfold sF; rw [if_neg hji]
      have kpj : Kpt H (upd H a o') (F j) := fun b hb o ho => by
        have : b ≠ a := fun z => by subst z; exact hji (S.dj j i b hb aOwn)
        rw [ne b this]
        exact ho
      obtain ⟨k0, d0⟩ := r0
      cases k0 with
      | shr =>
        obtain ⟨Gs, x1, x2, x3⟩ := sp j d0 w hj hw
        refine ⟨Gs, x1.keep tu _ _ _ fun b hb o ho => ?_, fun b hb z => ?_⟩
        · have : b ≠ a := fun z => by subst z; exact x2 b hb ⟨i, aOwn⟩
          rw [ne b this]
          exact ho
        · rcases own' b z with z | z
          · exact x2 b hb z
          · exact x3 b hb z.2.1
      | own =>
        show Rp K true _ w d0 (sF F i (Ga ++ G1 ++ Gb) j)
        rw [hF]
        exact Rp.keep tu _ _ _ (show Rp K true H w d0 (F j) from so0) kpj
      | fix =>
        refine ⟨?_, so0.2⟩
        show Rp K true _ w d0 (sF F i (Ga ++ G1 ++ Gb) j)
        rw [hF]
        exact Rp.keep tu _ _ _ so0.1 kpj
      | als => exact so0
  · unfold sF
    split
    · rw [List.append_assoc, List.nodup_append, List.nodup_append]
      refine ⟨ndA, ⟨n2, ndB, fun b h1 c h2 z => ?_⟩, fun b h1 c h2 z => ?_⟩
      · subst z
        rcases n3 b h1 with x | x
        · exact d0B b x b h2 rfl
        · exact x.1 ⟨i, subB b h2⟩
      · subst z
        rcases List.mem_append.mp h2 with h2 | h2
        · rcases n3 b h2 with x | x
          · exact dA b h1 b (by simp [x]) rfl
          · exact x.1 ⟨i, subA b h1⟩
        · exact dA b h1 b (by simp [h2]) rfl
    · exact S.nd j
  · unfold sF at h1 h2
    split at h1 <;> split at h2
    · rename_i z1 z2
      rw [z1, z2]
    · rename_i z1 z2
      rcases mem' b h1 with x | x
      · exact absurd (S.dj i l b x h2).symm z2
      · exact absurd ⟨l, h2⟩ x.1
    · rename_i z1 z2
      rcases mem' b h2 with x | x
      · exact absurd (S.dj i j b x h1).symm z1
      · exact absurd ⟨j, h1⟩ x.1
    · exact S.dj j l b h1 h2
  · obtain ⟨j, z⟩ := z
    unfold sF at z
    split at z
    · exact q.live _ _ _ b z
    · by_cases hb : b = a
      · subst hb
        rw [upd_same]
        simp
      · rw [ne b hb]
        exact S.live b ⟨j, z⟩
end
end DL
namespace DL
open PySem PySem.Spec PyProof.Rows L2
/-- the data at a place of what the slot i owns -/
def dAt (ρ : DEnv) (i : Nat) (p : List Nat) : Option PyData := match ρ[i]? with
  | some (some ⟨.own, d⟩) => getP d p
  | some (some ⟨.fix, d⟩) => getP d p
  | _ => none
def upP (ρ : DEnv) (i : Nat) (p : List Nat) (e : PyData) : DEnv := match ρ[i]? with
  | some (some r) => ρ.set i (some ⟨r.k, setP r.d p e⟩)
  | _ => ρ
theorem dAt_of {ρ : DEnv} {i : Nat} {p : List Nat} {e : PyData} (h : dAt ρ i p = some e) : ∃ r, ρ[i]? = some (some r) ∧ (r.k = .own ∨ r.k = .fix) ∧ getP r.d p = some e := by
  unfold dAt at h
  split at h
  · rename_i d e1
    exact ⟨_, e1, .inl rfl, h⟩
  · rename_i d e1
    exact ⟨_, e1, .inr rfl, h⟩
  · cases h
theorem upP_of {ρ : DEnv} {i : Nat} {p : List Nat} {e : PyData} {r : R} (h : ρ[i]? = some (some r)) : upP ρ i p e = ρ.set i (some ⟨r.k, setP r.d p e⟩) := by
  unfold upP
  rw [h]
abbrev WPl := DEnv → (List Nat → Prop) → Prop
structure DPl (X : Cx) (v0 : Cv) (i : Nat) (e : Expr) (w : WPl) : Prop where
  ex : ∃ t, PE X e t ∧ ∀ σ H ρ F, StOk X.K v0 σ H ρ F → ∀ (Qd : List Nat → Prop) (Q : VK), w ρ Qd →
    (∀ p u v r H', Ext H H' → σ[i]? = some (some v) → ρ[i]? = some (some r) → (r.k = .own ∨ r.k = .fix) → VAt H' v r.d p u → Qd p → Q u H') → t σ H Q
section
variable {K : PySem.W.Frag} {m : Bool} {H : Hp} {v0 : Cv} {σ : L2.St} {ρ : DEnv} {F : Nat → List Addr}
theorem StOk.rp {i : Nat} {r : R} {v : V} (S : StOk K v0 σ H ρ F) (hv : σ[i]? = some (some v)) (hr : ρ[i]? = some (some r)) (hk : r.k = .own ∨ r.k = .fix) : Rp K true H v r.d (F i) := by
  obtain ⟨v', hv', so⟩ := S.slot i r hr
  rw [hv] at hv'
  cases hv'
  obtain ⟨k, d⟩ := r
  rcases hk with hk | hk <;> cases hk
  · exact so
  · exact so.1
def posK (kvs : List (PyData × PyData)) (k : Key) : Option Nat := kvs.findIdx? fun kv => decide (keyOf kv.1 = some k)
theorem pos_dK : ∀ {kvs : List (PyData × PyData)} {ks : List (Key × V)} {k : Key} {j : Nat}, kvs.map (·.1) = ks.map (fun p => keyD p.1) → posK kvs k = some j → ∃ w kd, ks[j]? = some (k, w) ∧ kvs[j]? = some kd ∧ valV ks k = some w
  | [], _, _, _, _, h => by cases h
  | (kd, d0) :: kvs, ks, k, j, e, h => by
    cases ks with
    | nil => cases e
    | cons p ks =>
      obtain ⟨k0, v0⟩ := p
      simp only [List.map_cons, List.cons.injEq] at e
      obtain ⟨e1, e2⟩ := e
      unfold posK at h
      rw [List.findIdx?_cons] at h
      simp only [e1, keyOf_D] at h
      by_cases hk : k0 = k
      · subst hk
        simp at h
        subst h
        exact ⟨v0, _, rfl, rfl, valV_pos rfl⟩
      · have hb : decide (some k0 = some k) = false := decide_eq_false fun e => hk (Option.some.inj e)
        rw [hb] at h
        simp only [Bool.false_eq_true, if_false, Option.map_eq_some_iff] at h
        obtain ⟨j', h, rfl⟩ := h
        obtain ⟨w, kd', h1, h2, h3⟩ := pos_dK (k := k) (j := j') e2 h
        exact ⟨w, kd', by simpa using h1, by simpa using h2, by rw [valV_neg hk]; exact h3⟩
theorem pos_dN {es : List (NestedKey × Addr × V)} {kvs : List (PyData × PyData)} {k : Key} {j : Nat} (h : KeysN K H es kvs) (hp : posK kvs k = some j) : False := by
  unfold posK at hp
  rw [List.findIdx?_eq_some_iff_getElem] at hp
  obtain ⟨hl, h1, _⟩ := hp
  have := keysN_no h kvs[j] (List.getElem_mem hl)
  rw [this] at h1
  simp at h1
end
section
variable {X : Cx} {v0 : Cv} {a b e o : Expr} {ea eb : Bool} {wa wb we : WE} {wp : WPl} {pos apos cpos p2 : Pos} {i : Nat}
def wPlV (i : Nat) : WPl := fun ρ Q => (∃ d, dAt ρ i [] = some d) ∧ Q []
theorem dpl_var (i : Nat) {x : Str} (hN : X.N[i]? = some x := by rfl) (hv : Vis X.env.scope x := by first | exact Or.inl rfl | exact Or.inr (Or.inl rfl) | exact Or.inr (Or.inr rfl)) (hd : (x == ("__debug__" : Str)) = false := by decide)
    (hcd : (x == ("__classdict__" : Str)) = false := by decide) : DPl X v0 i (.Name x pos) (wPlV i) := by
  refine ⟨_, pe_var hN hv hd hcd, fun σ H ρ F S Qd Q h k => ?_⟩
  obtain ⟨⟨d, hd⟩, h⟩ := h
  obtain ⟨r, hr, hk, _⟩ := dAt_of hd
  obtain ⟨v, hv, _⟩ := S.slot i r hr
  exact ⟨v, hv, k [] v v r H Ext.refl hv hr hk (.nil v r.d) h⟩
def wPlIx (i : Nat) (wp : WPl) (wi : WE) : WPl := fun ρ Q => wp ρ fun p => wi ρ fun _ ri => match ri.d with
  | .int k => ∃ ds j, dAt ρ i p = some (.list ds) ∧ ixN ds.length k = some j ∧ Q (p ++ [j])
  | _ => False
theorem getP_uniq {ρ : DEnv} {i : Nat} {p : List Nat} {e : PyData} {r : R} (h : dAt ρ i p = some e) (hr : ρ[i]? = some (some r)) : getP r.d p = some e := by
  obtain ⟨r', h1, _, h2⟩ := dAt_of h
  rw [hr] at h1
  cases h1
  exact h2
theorem dpl_ix (ho : DPl X v0 i o wp) (hi : DE X v0 false e we) (hs : PlainIx e := by exact fun _ _ => rfl) : DPl X v0 i (.Subscript o e pos) (wPlIx i wp we) := by
  obtain ⟨t, p, q⟩ := ho
  obtain ⟨ti, pi, qi⟩ := hi
  refine ⟨_, pe_ix ix_seq p pi hs, fun σ H ρ F S Qd Q h k => ?_⟩
  refine q σ H ρ F S _ _ h fun pa u v r H1 x1 hv hr hk va h1 => ?_
  refine qi σ H1 ρ F (S.ext x1) _ _ h1 fun y H2 ρ2 F2 ry G2 S2 s2 e2 r2 h2 => ?_
  obtain ⟨q1, q2, x2⟩ := e2.non rfl
  subst q1
  subst q2
  obtain ⟨ky, dy⟩ := ry
  cases dy <;> first | exact h2.elim | skip
  rename_i kk
  have ry : Rp X.K false H2 y (.int kk) G2 := r2.read
  cases ry
  obtain ⟨ds, j, g1, g2, h2⟩ := h2
  have va2 := va.ext x2
  have gp := getP_uniq g1 hr
  obtain ⟨e1, Ga, G0, Gb, t1, t2, t3, _⟩ := place va2 _ (S2.rp hv hr hk)
  rw [gp] at t1
  cases t1
  obtain ⟨a, xs, G', rfl, ha, ra, _⟩ := Rp.own' t3
  obtain ⟨d, hd⟩ : ∃ d, ds[j]? = some d := ⟨_, List.getElem?_eq_getElem (ixN_seq g2).2.1⟩
  obtain ⟨w, G1, hw, rw', _⟩ := ra.get hd
  refine .inl ⟨a, xs, kk, w, rfl, rfl, .inl (.inl ha), ?_, k _ w v r H2 (x1.trans x2) hv hr hk (va2.snoc gp (.lst ha hw hd (.nil _ _))) h2⟩
  unfold atI
  rw [ra.length, g2]
  exact hw
def wPlKey (i : Nat) (wp : WPl) (wi : WE) : WPl := fun ρ Q => wp ρ fun p => wi ρ fun _ ri => match keyOf ri.d with
  | some k => ∃ kvs j, dAt ρ i p = some (.dict kvs) ∧ posK kvs k = some j ∧ Q (p ++ [j])
  | _ => False
theorem dpl_key (hu : X.A.units + 1 < cLine) (ho : DPl X v0 i o wp) (hi : DE X v0 false e we) (hs : NoSl e := by exact fun _ _ => rfl) : DPl X v0 i (.Subscript o e pos) (wPlKey i wp we) := by
  obtain ⟨t, p, q⟩ := ho
  obtain ⟨ti, pi, qi⟩ := hi
  refine ⟨_, pe_dget hu p pi hs, fun σ H ρ F S Qd Q h k => ?_⟩
  refine q σ H ρ F S _ _ h fun pa u v r H1 x1 hv hr hk va h1 => ?_
  refine qi σ H1 ρ F (S.ext x1) _ _ h1 fun y H2 ρ2 F2 ry G2 S2 s2 e2 r2 h2 => ?_
  obtain ⟨q1, q2, x2⟩ := e2.non rfl
  subst q1
  subst q2
  cases hky : keyOf ry.d with
  | none => simp only [hky] at h2
  | some key =>
    simp only [hky] at h2
    have ey := key_V r2.read hky
    obtain ⟨kvs, j, g1, g2, h2⟩ := h2
    have va2 := va.ext x2
    have gp := getP_uniq g1 hr
    obtain ⟨e1, Ga, G0, Gb, t1, t2, t3, _⟩ := place va2 _ (S2.rp hv hr hk)
    rw [gp] at t1
    cases t1
    cases t3 with
    | dK f1 f2 f3 =>
      obtain ⟨w, kd, l1, l2, l3⟩ := pos_dK f2 g2
      refine ⟨_, w, rfl, ?_, k _ w v r H2 (x1.trans x2) hv hr hk (va2.snoc gp (.dK f1 l1 l2 (.nil _ _))) h2⟩
      rw [ey, ← l3]
      exact DGet.k f1
    | dN f1 f2 f3 => exact (pos_dN f2 g2).elim
end
section
variable {K : PySem.W.Frag} {m : Bool} {H H0 : Hp} {v0 : Cv} {σ : L2.St} {ρ : DEnv} {F F0 : Nat → List Addr}
/-- a list at a place changes -/
theorem StOk.mutL (s0 : Step v0.F0 v0.H0 F0 H0) (S : StOk K v0 σ H ρ F) (s : Step F0 H0 F H) {Gv : List Addr} (sp : Sep K σ H ρ F fun b => b ∈ Gv) {i : Nat} {r : R} {v : V} {p : List Nat} {a : Addr} {ds es : List PyData} {xs ys : List V}
    (hv : σ[i]? = some (some v)) (hr : ρ[i]? = some (some r)) (hk : r.k = .own ∨ r.k = .fix) (va : VAt H v r.d p (.ref a)) (he : getP r.d p = some (.list ds)) (ha : H a = some (.lst xs))
    (hg : ∀ b ∈ Gv, ¬ Own F b ∧ (Own F0 b ∨ H0 b = none))
    (new : ∀ G', RpAll K true H xs ds G' → G'.Nodup → (∀ b ∈ G', b ∈ F i) → ∃ G'', RpAll K true H ys es G'' ∧ G''.Nodup ∧ ∀ b ∈ G'', b ∈ G' ∨ b ∈ Gv) :
    ∃ F', StOk K v0 σ (upd H a (.lst ys)) (ρ.set i (some ⟨r.k, setP r.d p (.list es)⟩)) F' ∧ Step F0 H0 F' (upd H a (.lst ys)) := by
  refine S.mut s0 s sp hv hr hk va (tu_upd ha) he fun G0 rg sub nd => ?_
  obtain ⟨a', xs', G', e1, e2, ra, e3⟩ := Rp.own' rg
  cases e1
  rw [ha] at e2
  cases e2
  subst e3
  rw [List.nodup_cons] at nd
  refine ⟨.head _, ?_⟩
  obtain ⟨G'', n1, n2, n3⟩ := new G' ra nd.2 fun b hb => sub b (.tail _ hb)
  have na : a ∉ G'' := fun hb => by
    rcases n3 a hb with z | z
    · exact nd.1 z
    · exact (hg a z).1 ⟨i, sub a (.head _)⟩
  have q := n1.keep (tu_upd (ys := ys) ha) _ _ _ fun b hb o ho => by
    have : b ≠ a := fun z => na (z ▸ hb)
    rw [upd_ne this]
    exact ho
  refine ⟨a :: G'', .lst (fun _ => upd_same) (.inl upd_same) q, List.nodup_cons.mpr ⟨na, n2⟩, fun b hb => ?_⟩
  rcases List.mem_cons.mp hb with rfl | hb
  · exact .inl (.head _)
  · rcases n3 b hb with z | z
    · exact .inl (.tail _ z)
    · exact .inr ⟨(hg b z).1, z, (hg b z).2⟩
theorem ResOk.ownG {H1 : Hp} {F1 : Nat → List Addr} {r : R} {v : V} {G : List Addr} (ro : ResOk K F H F1 H1 r v G) (ho : owp r = true) : ∃ Gv, Rp K true H1 v r.d Gv ∧ Gv.Nodup ∧ (∀ a ∈ Gv, ¬ Own F1 a) ∧ ∀ a ∈ Gv, Own F a ∨ H a = none := by
  by_cases hp : pur r.d = true
  · obtain ⟨_, q⟩ := Rp.pure' (m' := true) _ _ _ ro.read hp
    exact ⟨[], q, List.nodup_nil, (fun a i => nomatch i), fun a i => nomatch i⟩
  · obtain ⟨k, d⟩ := r
    have hk : k = .own := by
      unfold owp at ho
      rw [Bool.or_eq_true] at ho
      rcases ho with z | z
      · exact beq_iff_eq.mp z
      · exact absurd z hp
    subst hk
    exact ⟨G, ro⟩
theorem Eff.up {b : Bool} {ρ ρ1 : DEnv} {F F1 F2 : Nat → List Addr} {H H1 H2 : Hp} (e : Eff b ρ F H ρ1 F1 H1) {i : Nat} {r : R} {d : PyData} (hr : ρ1[i]? = some (some r)) (hk : r.k = .own ∨ r.k = .fix) : Eff true ρ F H (ρ1.set i (some ⟨r.k, d⟩)) F2 H2 :=
  ⟨fun j d' h => by
    by_cases hj : i = j
    · subst hj
      rw [List.getElem?_set_self (List.getElem?_eq_some_iff.mp hr).1] at h
      obtain ⟨k, d0⟩ := r
      rcases hk with hk | hk <;> cases hk <;> cases h
    · rw [List.getElem?_set_ne hj] at h
      exact e.shr j d' h, fun z => by cases z⟩
theorem RpAll.set1 {u : V} {e : PyData} {Gv : List Addr} : ∀ {vs : List V} {ds : List PyData} {G : List Addr} {j : Nat}, RpAll K true H vs ds G → G.Nodup → (∀ b ∈ G, b ∉ Gv) → Gv.Nodup → Rp K true H u e Gv → ∃ G'', RpAll K true H (vs.set j u) (ds.set j e) G'' ∧ G''.Nodup ∧ ∀ b ∈ G'', b ∈ G ∨ b ∈ Gv
  | _, _, _, _, .nil, _, _, _, _ => ⟨[], .nil, List.nodup_nil, fun _ i => nomatch i⟩
  | _, _, _, 0, .cons (G1 := G1) (G2 := G2) r t, nd, dj, nv, q => by
    rw [List.nodup_append] at nd
    refine ⟨Gv ++ G2, .cons q t, List.nodup_append.mpr ⟨nv, nd.2.1, fun a h1 b h2 z => ?_⟩, fun b hb => ?_⟩
    · subst z
      exact dj a (List.mem_append_right _ h2) h1
    · rcases List.mem_append.mp hb with hb | hb
      · exact .inr hb
      · exact .inl (List.mem_append_right _ hb)
  | _, _, _, j + 1, .cons (G1 := G1) (G2 := G2) r t, nd, dj, nv, q => by
    rw [List.nodup_append] at nd
    obtain ⟨G'', h1, h2, h3⟩ := RpAll.set1 (j := j) t nd.2.1 (fun b hb => dj b (List.mem_append_right _ hb)) nv q
    refine ⟨G1 ++ G'', .cons r h1, List.nodup_append.mpr ⟨nd.1, h2, fun a g1 b g2 z => ?_⟩, fun b hb => ?_⟩
    · subst z
      rcases h3 a g2 with z | z
      · exact nd.2.2 a g1 a z rfl
      · exact dj a (List.mem_append_left _ g1) z
    · rcases List.mem_append.mp hb with hb | hb
      · exact .inl (List.mem_append_left _ hb)
      · exact (h3 b hb).imp (List.mem_append_right _) id
theorem RpAll.erase : ∀ {vs : List V} {ds : List PyData} {G : List Addr} (j : Nat), RpAll K m H vs ds G → ∃ G', RpAll K m H (vs.eraseIdx j) (ds.eraseIdx j) G' ∧ G'.Sublist G
  | _, _, _, _, .nil => ⟨[], .nil, List.nil_sublist _⟩
  | _, _, _, 0, .cons (G1 := G1) (G2 := G2) r t => ⟨G2, t, List.sublist_append_right _ _⟩
  | _, _, _, j + 1, .cons (G1 := G1) (G2 := G2) r t => by
    obtain ⟨G', h1, h2⟩ := RpAll.erase j t
    exact ⟨G1 ++ G', .cons r h1, (List.Sublist.refl _).append h2⟩
theorem RpAll.cut2 : ∀ (n : Nat) {vs : List V} {ds : List PyData} {G : List Addr}, RpAll K m H vs ds G → ∃ Ga Gb, RpAll K m H (vs.take n) (ds.take n) Ga ∧ RpAll K m H (vs.drop n) (ds.drop n) Gb ∧ G = Ga ++ Gb
  | 0, _, _, _, h => ⟨[], _, .nil, h, rfl⟩
  | _ + 1, _, _, _, .nil => ⟨[], [], .nil, .nil, rfl⟩
  | n + 1, _, _, _, .cons (G1 := G1) r t => by
    obtain ⟨Ga, Gb, h1, h2, e⟩ := RpAll.cut2 n t
    exact ⟨G1 ++ Ga, Gb, .cons r h1, h2, by rw [e, List.append_assoc]⟩
theorem dropLast_erase {α : Type} (xs : List α) : xs.dropLast = xs.eraseIdx (xs.length - 1) := by
  induction xs with
  | nil => rfl
  | cons x xs ih =>
    cases xs with
    | nil => rfl
    | cons y ys =>
      simp only [List.dropLast_cons₂, List.length_cons, Nat.add_sub_cancel, List.eraseIdx_cons_succ] at ih ⊢
      rw [ih]
end
section
variable {X : Cx} {v0 : Cv} {a b e o : Expr} {ea eb : Bool} {wa wb we : WE} {wp : WPl} {pos apos cpos p2 : Pos} {i : Nat}
theorem VAt.eq {H : Hp} : ∀ {v u : V} {d : PyData}, VAt H v d [] u → u = v
  | _, _, _, .nil _ _ => rfl
def wApp (i : Nat) (eb : Bool) (wp : WPl) (wa : WE) : WE := fun ρ Q => wp ρ fun p => (∃ ds0, dAt ρ i p = some (.list ds0)) ∧ wa ρ fun ρ1 r => (eb = true → p = []) ∧ owp r = true ∧ ∃ ds, dAt ρ1 i p = some (.list ds) ∧ ds.length < sizeLine ∧ Q (upP ρ1 i p (.list (ds ++ [r.d]))) (P .none)
theorem de_app (ho : DPl X v0 i o wp) (ha : DE X v0 eb a wa) (hbase : attributeBase o "append" X.env (eval o X.env) = eval o X.env := by rfl)
    (hfew : ((backTo cpos (starEach [a] X.env)).all (fun x => !x.1) && (backToKw cpos (keywordEach [] X.env)).all (fun x => x.1.isSome)
      && decide ([a].length + ([] : List Keyword).length + (if ([] : List Keyword).isEmpty then 0 else 1) < 30)) = true := by rfl)
    (hline : (apos.endLine == cpos.line) = true := by rfl) (hs : starEach [a] X.env = (false, eval a X.env) :: starEach [] X.env := by rfl) : DE X v0 true (.Call (.Attribute o "append" apos) [a] [] cpos) (wApp i eb wp wa) := by
  obtain ⟨t, p, q⟩ := ho
  obtain ⟨ta, pa, qa⟩ := ha
  refine ⟨_, pe_bm PySem.F.plainAttrs_list PySem.F.slot_list_append PySem.F.type_list_append mt_append p (pa_cons pa pa_nil hs) hbase hfew hline hs rfl, fun σ H ρ F S Qd Q h k => ?_⟩
  refine q σ H ρ F S _ _ h fun pp u v r H1 x1 hv hr hk va h1 => ?_
  obtain ⟨⟨ds0, g0⟩, h1⟩ := h1
  have S1 := S.ext x1
  obtain ⟨_, _, _, _, t1, _, t3, _⟩ := place va _ (S1.rp hv hr hk)
  rw [getP_uniq g0 hr] at t1
  cases t1
  obtain ⟨a0, xs0, G0', rfl, ha0, _⟩ := Rp.own' t3
  refine ⟨.inl ⟨rfl, _, .inl (.inl ha0)⟩, ?_⟩
  refine qa σ H1 ρ F S1 _ _ h1 fun y H2 ρ2 F2 ra G2 S2 s2 e2 r2 h2 => ?_
  obtain ⟨hp, hown, ds, g1, hz, hq⟩ := h2
  have sAll : Step F H F2 H2 := (Step.ext x1).trans s2
  have eAll : Eff eb ρ F H ρ2 F2 H2 := (Eff.trans (a := false) ⟨fun _ _ z => z, fun _ => ⟨rfl, rfl, x1⟩⟩ e2).mono fun z => by simpa using z
  obtain ⟨r', hr', hk', gp⟩ := dAt_of g1
  have va2 : VAt H2 v r'.d pp (.ref a0) := by
    cases eb with
    | true =>
      have := hp rfl
      subst this
      have z := va.eq
      subst z
      exact .nil _ _
    | false =>
      obtain ⟨q1, q2, x2⟩ := e2.non rfl
      subst q1
      rw [hr] at hr'
      cases hr'
      exact va.ext x2
  obtain ⟨_, _, _, _, t1, _, t3, _⟩ := place va2 _ (S2.rp hv hr' hk')
  rw [gp] at t1
  cases t1
  obtain ⟨a1, xs, G', e1, ha, ral, _⟩ := Rp.own' t3
  cases e1
  obtain ⟨Gv, v1, v2, v3, v4⟩ := (r2.back (Step.ext (F := F) x1)).ownG hown
  have sp : Sep X.K σ H2 ρ2 F2 fun b => b ∈ Gv := Sep.of S eAll sAll v4
  obtain ⟨F', S', s'⟩ := S2.mutL S.st sAll sp hv hr' hk' va2 gp ha (ys := xs ++ [y]) (es := ds ++ [ra.d]) (fun b hb => ⟨v3 b hb, v4 b hb⟩) fun G' g nd sub => by
    refine ⟨G' ++ (Gv ++ []), g.append (.cons v1 .nil), ?_, fun b hb => by simpa using hb⟩
    rw [List.append_nil, List.nodup_append]
    refine ⟨nd, v2, fun b h1 c h2 z => ?_⟩
    subst z
    exact v3 b h2 ⟨i, sub b h1⟩
  refine ⟨a0, xs, y, rfl, rfl, ha, by rw [ral.length]; exact hz, k .non _ _ F' (P .none) [] S' s' (eAll.up hr' hk') ⟨.non, fun _ z => nomatch z⟩ ?_⟩
  rw [upP_of hr'] at hq
  exact hq
def wPopAt (i : Nat) (wp : WPl) (wa : WE) : WE := fun ρ Q => wp ρ fun p => ∃ ds, dAt ρ i p = some (.list ds) ∧ wa ρ fun _ r => match r.d with
  | .int k => ∃ j d, -(2 ^ 63) ≤ k ∧ k < 2 ^ 63 ∧ ixN ds.length k = some j ∧ ds[j]? = some d ∧ pur d = true ∧ Q (upP ρ i p (.list (ds.eraseIdx j))) (P d)
  | _ => False
theorem de_popAt (ho : DPl X v0 i o wp) (ha : DE X v0 false a wa) (hbase : attributeBase o "pop" X.env (eval o X.env) = eval o X.env := by rfl)
    (hfew : ((backTo cpos (starEach [a] X.env)).all (fun x => !x.1) && (backToKw cpos (keywordEach [] X.env)).all (fun x => x.1.isSome)
      && decide ([a].length + ([] : List Keyword).length + (if ([] : List Keyword).isEmpty then 0 else 1) < 30)) = true := by rfl)
    (hline : (apos.endLine == cpos.line) = true := by rfl) (hs : starEach [a] X.env = (false, eval a X.env) :: starEach [] X.env := by rfl) : DE X v0 true (.Call (.Attribute o "pop" apos) [a] [] cpos) (wPopAt i wp wa) := by
  obtain ⟨t, p, q⟩ := ho
  obtain ⟨ta, pa, qa⟩ := ha
  refine ⟨_, pe_bm PySem.F.plainAttrs_list PySem.F.slot_list_pop PySem.F.type_list_pop mt_popAt p (pa_cons pa pa_nil hs) hbase hfew hline hs rfl, fun σ H ρ F S Qd Q h k => ?_⟩
  refine q σ H ρ F S _ _ h fun pp u v r H1 x1 hv hr hk va h1 => ?_
  obtain ⟨ds, g0, h1⟩ := h1
  have gp := getP_uniq g0 hr
  have S1 := S.ext x1
  obtain ⟨_, _, _, _, t1, _, t3, _⟩ := place va _ (S1.rp hv hr hk)
  rw [gp] at t1
  cases t1
  obtain ⟨a0, xs, G', rfl, ha0, ral, _⟩ := Rp.own' t3
  refine ⟨.inl ⟨rfl, _, .inl (.inl ha0)⟩, ?_⟩
  refine qa σ H1 ρ F S1 _ _ h1 fun y H2 ρ2 F2 ra G2 S2 s2 e2 r2 h2 => ?_
  obtain ⟨q1, q2, x2⟩ := e2.non rfl
  subst q1
  subst q2
  obtain ⟨ky, dy⟩ := ra
  cases dy <;> first | exact h2.elim | skip
  rename_i kk
  have ry : Rp X.K false H2 y (.int kk) G2 := r2.read
  cases ry
  obtain ⟨j, d, b1, b2, g2, g3, hp, hq⟩ := h2
  have ex : Ext H H2 := x1.trans x2
  have ha2 := x2 _ _ ha0
  have ral2 := ral.keep x2.tu _ _ _ (x2.kp _)
  obtain ⟨w, Gw, hw, rw', _⟩ := ral2.get g3
  obtain ⟨_, rw2⟩ := Rp.pure' (m' := false) _ _ _ rw' hp
  have sAll : Step F2 H F2 H2 := Step.ext ex
  have eAll : Eff false ρ2 F2 H ρ2 F2 H2 := ⟨fun _ _ z => z, fun _ => ⟨rfl, rfl, ex⟩⟩
  have sp : Sep X.K σ H2 ρ2 F2 fun b => b ∈ ([] : List Addr) := Sep.of S eAll sAll fun _ z => nomatch z
  obtain ⟨F', S', s'⟩ := S2.mutL S.st sAll sp hv hr hk (va.ext x2) gp ha2 (ys := xs.eraseIdx j) (es := ds.eraseIdx j) (fun b hb => nomatch hb) fun G' g nd sub => by
    obtain ⟨G1, g1, g2⟩ := g.erase j
    exact ⟨G1, g1, nd.sublist g2, fun b hb => .inl (g2.subset hb)⟩
  refine ⟨a0, xs, kk, j, w, rfl, rfl, ha2, b1, b2, by rw [ral.length]; exact (ixN_seq g2).1, hw, k w _ _ F' (P d) [] S' s' (eAll.up hr hk) ⟨Rp.keep (tu_upd ha2) _ _ _ rw2 (fun _ i => nomatch i), fun _ z => nomatch z⟩ ?_⟩
  rw [upP_of hr] at hq
  exact hq
def wPop0 (i : Nat) (wp : WPl) : WE := fun ρ Q => wp ρ fun p => ∃ ds d, dAt ρ i p = some (.list ds) ∧ ds[ds.length - 1]? = some d ∧ pur d = true ∧ Q (upP ρ i p (.list ds.dropLast)) (P d)
theorem de_pop0 (ho : DPl X v0 i o wp) (hbase : attributeBase o "pop" X.env (eval o X.env) = eval o X.env := by rfl) (hline : (apos.endLine == cpos.line) = true := by rfl) : DE X v0 true (.Call (.Attribute o "pop" apos) [] [] cpos) (wPop0 i wp) := by
  obtain ⟨t, p, q⟩ := ho
  refine ⟨_, pe_bm0 PySem.F.plainAttrs_list PySem.F.slot_list_pop PySem.F.type_list_pop mt_pop p hbase hline, fun σ H ρ F S Qd Q h k => ?_⟩
  refine q σ H ρ F S _ _ h fun pp u v r H1 x1 hv hr hk va h1 => ?_
  obtain ⟨ds, d, g0, g3, hp, hq⟩ := h1
  have gp := getP_uniq g0 hr
  have S1 := S.ext x1
  obtain ⟨_, _, _, _, t1, _, t3, _⟩ := place va _ (S1.rp hv hr hk)
  rw [gp] at t1
  cases t1
  obtain ⟨a0, xs, G', rfl, ha0, ral, _⟩ := Rp.own' t3
  refine ⟨.inl ⟨rfl, _, .inl (.inl ha0)⟩, ?_⟩
  obtain ⟨w, Gw, hw, rw', _⟩ := ral.get g3
  obtain ⟨_, rw2⟩ := Rp.pure' (m' := false) _ _ _ rw' hp
  have sAll : Step F H F H1 := Step.ext x1
  have eAll : Eff false ρ F H ρ F H1 := ⟨fun _ _ z => z, fun _ => ⟨rfl, rfl, x1⟩⟩
  have sp : Sep X.K σ H1 ρ F fun b => b ∈ ([] : List Addr) := Sep.of S eAll sAll fun _ z => nomatch z
  obtain ⟨F', S', s'⟩ := S1.mutL S.st sAll sp hv hr hk va gp ha0 (ys := xs.dropLast) (es := ds.dropLast) (fun b hb => nomatch hb) fun G' g nd sub => by
    rw [dropLast_erase, dropLast_erase, ral.length]
    obtain ⟨G1, g1, g2⟩ := g.erase (ds.length - 1)
    exact ⟨G1, g1, nd.sublist g2, fun b hb => .inl (g2.subset hb)⟩
  refine ⟨a0, xs, w, rfl, rfl, ha0, by rw [ral.length]; exact hw, k w _ _ F' (P d) [] S' s' (eAll.up hr hk) ⟨Rp.keep (tu_upd ha0) _ _ _ rw2 (fun _ i => nomatch i), fun _ z => nomatch z⟩ ?_⟩
  rw [upP_of hr] at hq
  exact hq
def wIns (i : Nat) (wp : WPl) (wr : WA) : WE := fun ρ Q => wp ρ fun p => ∃ ds, dAt ρ i p = some (.list ds) ∧ wr ρ fun _ rs => match rs with
  | [r, r2] => (match r.d with
    | .int k => 0 ≤ k ∧ k < 2 ^ 63 ∧ ds.length < sizeLine ∧ pur r2.d = true ∧ Q (upP ρ i p (.list (ds.take k.toNat ++ [r2.d] ++ ds.drop k.toNat))) (P .none)
    | _ => False)
  | _ => False
theorem de_ins {wr : WA} (ho : DPl X v0 i o wp) (ha : DG X v0 false [a, b] wr) (hbase : attributeBase o "insert" X.env (eval o X.env) = eval o X.env := by rfl)
    (hfew : ((backTo cpos (starEach [a, b] X.env)).all (fun x => !x.1) && (backToKw cpos (keywordEach [] X.env)).all (fun x => x.1.isSome)
      && decide ([a, b].length + ([] : List Keyword).length + (if ([] : List Keyword).isEmpty then 0 else 1) < 30)) = true := by rfl)
    (hline : (apos.endLine == cpos.line) = true := by rfl) (hs : starEach [a, b] X.env = (false, eval a X.env) :: starEach [b] X.env := by rfl) (hpl : (backTo cpos (starEach [b] X.env)).any (·.1) = false := by rfl) : DE X v0 true (.Call (.Attribute o "insert" apos) [a, b] [] cpos) (wIns i wp wr) := by
  obtain ⟨t, p, q⟩ := ho
  obtain ⟨ta, pa, qa⟩ := ha
  refine ⟨_, pe_bm PySem.F.plainAttrs_list PySem.F.slot_list_insert PySem.F.type_list_insert mt_insert p pa hbase hfew hline hs hpl, fun σ H ρ F S Qd Q h k => ?_⟩
  refine q σ H ρ F S _ _ h fun pp u v r H1 x1 hv hr hk va h1 => ?_
  obtain ⟨ds, g0, h1⟩ := h1
  have gp := getP_uniq g0 hr
  have S1 := S.ext x1
  obtain ⟨_, _, _, _, t1, _, t3, _⟩ := place va _ (S1.rp hv hr hk)
  rw [gp] at t1
  cases t1
  obtain ⟨a0, xs, G', rfl, ha0, ral, _⟩ := Rp.own' t3
  refine ⟨.inl ⟨rfl, _, .inl (.inl ha0)⟩, ?_⟩
  refine qa σ H1 ρ F S1 _ _ h1 fun vs H2 ρ2 F2 rs S2 s2 e2 A2 h2 => ?_
  obtain ⟨q1, q2, x2⟩ := e2.non rfl
  subst q1
  subst q2
  match rs, h2, A2 with
  | [⟨k1, d1⟩, ⟨k2, d2⟩], h2, A2 =>
    obtain ⟨x, y, rfl, ax, ay⟩ := A2.each.two
    cases d1 <;> first | exact h2.elim | skip
    rename_i kk
    have ex' := arg_int ax
    subst ex'
    obtain ⟨b1, b2, hz, hp, hq⟩ := h2
    obtain ⟨Gy, qy, _⟩ := ay
    obtain ⟨_, ry⟩ := Rp.pure' (m' := true) _ _ _ qy hp
    have ex : Ext H H2 := x1.trans x2
    have ha2 := x2 _ _ ha0
    have sAll : Step F2 H F2 H2 := Step.ext ex
    have eAll : Eff false ρ2 F2 H ρ2 F2 H2 := ⟨fun _ _ z => z, fun _ => ⟨rfl, rfl, ex⟩⟩
    have sp : Sep X.K σ H2 ρ2 F2 fun b => b ∈ ([] : List Addr) := Sep.of S eAll sAll fun _ z => nomatch z
    obtain ⟨F', S', s'⟩ := S2.mutL S.st sAll sp hv hr hk (va.ext x2) gp ha2 (ys := xs.take kk.toNat ++ [y] ++ xs.drop kk.toNat) (es := ds.take kk.toNat ++ [d2] ++ ds.drop kk.toNat) (fun b hb => nomatch hb) fun G' g nd sub => by
      obtain ⟨Ga, Gb, ga, gb, e⟩ := g.cut2 kk.toNat
      subst e
      exact ⟨(Ga ++ ([] ++ [])) ++ Gb, (ga.append (.cons ry .nil)).append gb, by simpa using nd, fun b hb => .inl (by simpa using hb)⟩
    refine ⟨a0, xs, kk, y, rfl, rfl, ha2, by rw [ral.length]; exact hz, b1, b2, k .non _ _ F' (P .none) [] S' s' (eAll.up hr hk) ⟨.non, fun _ z => nomatch z⟩ ?_⟩
    rw [upP_of hr] at hq
    exact hq
end
end DL
namespace DL
open PySem PySem.Spec PyProof.Rows L2
/-- xs[i] by values, for a store that adds -/
def rGetLst (K : PySem.W.Frag) : V → V → Hp → VK → Prop := fun o i H Q => ∃ p xs k z, o = .ref p ∧ i = .int k ∧ SqL K H p xs ∧ atI xs k = some z ∧ Q z H
theorem get_lst {X : Cx} : PGet X (rGetLst X.K) := by
  intro pins s σ H o i ov iv Q I ro ri h
  obtain ⟨p, xs, k, z, rfl, rfl, hq, he, q⟩ := h
  cases ro
  obtain ⟨t, rfl⟩ := ri
  obtain ⟨its, r, pl, hz⟩ := I.list hq
  obtain ⟨j, h1, h2, h3, h4, h5⟩ := L2.atI_get he
  obtain ⟨w, ew, rw'⟩ := r.get h2
  have hl := r.length
  have hn := line63
  have fin : EP X pins σ Q w s := ⟨z, H, I, rw', q⟩
  by_cases h0 : 0 ≤ k
  · have hj : k.toNat = j := by
      rw [seqIndex_of h0 h5] at h1
      exact Option.some.inj h1
    exact wpAny_getItem_list pl.isList h0 (by omega) (by rw [hj]; simpa using ew) fin
  · have hj : (k + (its.toArray.size : Int)).toNat = j := by
      rw [seqIndex_neg (by omega) h4] at h1
      rw [List.size_toArray, ← hl]
      exact Option.some.inj h1
    exact wpAny_getItem_list_neg pl.isList (by omega) (by rw [List.size_toArray] <;> omega) (by omega) (by rw [hj]; simpa using ew) fin
section
variable {X : Cx} {v0 : Cv} {a b e o ie : Expr} {ea eb : Bool} {wa wb we wi : WE} {wp : WPl} {pos apos cpos p2 : Pos} {i : Nat}
/-- xs[k] = e -/
def wPut (i : Nat) (we : WE) (wp : WPl) (wi : WE) : WS := fun D ρ => we ρ fun ρ1 r => owp r = true ∧ wp ρ1 fun p => wi ρ1 fun _ ri => match ri.d with
  | .int k => ∃ ds j, dAt ρ1 i p = some (.list ds) ∧ ixN ds.length k = some j ∧ D.nx (upP ρ1 i p (.list (ds.set j r.d)))
  | _ => False
theorem ds_put {ea : Bool} (he : DE X v0 ea e we) (ho : DPl X v0 i o wp) (hi : DE X v0 false ie wi) (hs : swapsWithSole [.Subscript o ie p2] e pos.line X.env = pure false := by rfl) (hw : swappedStores [.Subscript o ie p2] e X.env = pure none := by rfl)
    (h1 : (assignEach [.Subscript o ie p2] X.env).map (·.2) = [assign (.Subscript o ie p2) X.env] := by rfl)
    (ha : ∀ v, assign (.Subscript o ie p2) X.env v = (do
      let ov ← holding [v] (eval o X.env)
      let iv ← holding [v, ov] (eval ie X.env)
      standAt p2
      holding [v, ov, iv] (setItem ov iv v)
      release [v, ov, iv] []) := by intro _; rfl) : DS X v0 (.Assign [.Subscript o ie p2] e pos) (wPut i we wp wi) := by
  obtain ⟨te, pe, qe⟩ := he
  obtain ⟨t, p, q⟩ := ho
  obtain ⟨ti, pi, qi⟩ := hi
  refine ⟨_, ps_asg pe (pg_sub p pi set_list ha) hs hw h1, fun σ H ρ F S Dd D ends h => ?_⟩
  refine qe σ H ρ F S _ _ h fun x H1 ρ1 F1 rx G1 S1 s1 e1 r1 h1 => ?_
  obtain ⟨hown, h1⟩ := h1
  refine q σ H1 ρ1 F1 S1 _ _ h1 fun pp u v r H2 x2 hv hr hk va h2 => ?_
  refine qi σ H2 ρ1 F1 (S1.ext x2) _ _ h2 fun y H3 ρ3 F3 ry G3 S3 s3 e3 r3 h3 => ?_
  obtain ⟨q1, q2, x3⟩ := e3.non rfl
  subst q1
  subst q2
  obtain ⟨ky, dy⟩ := ry
  cases dy <;> first | exact h3.elim | skip
  rename_i kk
  have ry : Rp X.K false H3 y (.int kk) G3 := r3.read
  cases ry
  obtain ⟨ds, j, g1, g2, hq⟩ := h3
  have gp := getP_uniq g1 hr
  have va3 := va.ext x3
  obtain ⟨_, _, _, _, t1, _, t3, _⟩ := place va3 _ (S3.rp hv hr hk)
  rw [gp] at t1
  cases t1
  obtain ⟨a0, xs, G', rfl, ha0, ral, _⟩ := Rp.own' t3
  have ex : Ext H1 H3 := x2.trans x3
  have sAll : Step F H F3 H3 := s1.trans (Step.ext ex)
  obtain ⟨Gv, v1, v2, v3, v4⟩ := (r1.ext ex).ownG hown
  have sp : Sep X.K σ H3 ρ3 F3 fun b => b ∈ Gv := Sep.of S (e1.ext ex) sAll v4
  obtain ⟨F', S', s'⟩ := S3.mutL S.st sAll sp hv hr hk va3 gp ha0 (ys := xs.set j x) (es := ds.set j rx.d) (fun b hb => ⟨v3 b hb, v4 b hb⟩) fun G' g nd sub =>
    g.set1 nd (fun b hb z => v3 b z ⟨i, sub b hb⟩) v2 v1
  refine ⟨a0, xs, kk, j, rfl, rfl, ha0, by rw [ral.length]; exact g2, ends.nx _ _ _ F' S' s' ?_⟩
  rw [upP_of hr] at hq
  exact hq
/-- xs[k] += e, ints -/
def wAugP (i : Nat) (wp : WPl) (wi we : WE) : WS := fun D ρ => wp ρ fun p => wi ρ fun _ ri => match ri.d with
  | .int k => ∃ ds j m, dAt ρ i p = some (.list ds) ∧ ixN ds.length k = some j ∧ ds[j]? = some (.int m) ∧ we ρ fun _ r => match r.d with
    | .int n => D.nx (upP ρ i p (.list (ds.set j (.int (m + n)))))
    | _ => False
  | _ => False
theorem ds_augP (ho : DPl X v0 i o wp) (hi : DE X v0 false ie wi) (he : DE X v0 false e we)
    (ha : ∀ ov iv new, augStore ie ov iv new = (do holding [new, ov, iv] (setItem ov iv new); release [new, ov, iv] []; pure .next) := by intros; rfl) : DS X v0 (.AugAssign (.Subscript o ie p2) .Add e pos) (wAugP i wp wi we) := by
  obtain ⟨te, pe, qe⟩ := he
  obtain ⟨t, p, q⟩ := ho
  obtain ⟨ti, pi, qi⟩ := hi
  refine ⟨_, ps_augS p pi get_lst pe ip_add set_list ha, fun σ H ρ F S Dd D ends h => ?_⟩
  refine q σ H ρ F S _ _ h fun pp u v r H1 x1 hv hr hk va h1 => ?_
  refine qi σ H1 ρ F (S.ext x1) _ _ h1 fun y H2 ρ2 F2 ry G2 S2 s2 e2 r2 h2 => ?_
  obtain ⟨q1, q2, x2⟩ := e2.non rfl
  subst q1
  subst q2
  obtain ⟨ky, dy⟩ := ry
  cases dy <;> first | exact h2.elim | skip
  rename_i kk
  have ry : Rp X.K false H2 y (.int kk) G2 := r2.read
  cases ry
  obtain ⟨ds, j, m, g1, g2, g3, h2⟩ := h2
  have gp := getP_uniq g1 hr
  have va2 := va.ext x2
  obtain ⟨_, _, _, _, t1, _, t3, _⟩ := place va2 _ (S2.rp hv hr hk)
  rw [gp] at t1
  cases t1
  obtain ⟨a0, xs, G', rfl, ha0, ral, _⟩ := Rp.own' t3
  obtain ⟨w, Gw, hw, rw', _⟩ := ral.get g3
  cases rw'
  refine ⟨a0, xs, kk, .int m, rfl, rfl, .inl (.inl ha0), by unfold atI; rw [ral.length, g2]; exact hw, ?_⟩
  refine qe σ H2 ρ2 F2 S2 _ _ h2 fun x H3 ρ3 F3 rx G3 S3 s3 e3 r3 h3 => ?_
  obtain ⟨q1, q2, x3⟩ := e3.non rfl
  subst q1
  subst q2
  obtain ⟨kx, dx⟩ := rx
  cases dx <;> first | exact h3.elim | skip
  rename_i n
  have rx : Rp X.K false H3 x (.int n) G3 := r3.read
  cases rx
  have ex : Ext H H3 := (x1.trans x2).trans x3
  have ha3 := x3 _ _ ha0
  have sAll : Step F3 H F3 H3 := Step.ext ex
  have eAll : Eff false ρ3 F3 H ρ3 F3 H3 := ⟨fun _ _ z => z, fun _ => ⟨rfl, rfl, ex⟩⟩
  have sp : Sep X.K σ H3 ρ3 F3 fun b => b ∈ ([] : List Addr) := Sep.of S eAll sAll fun _ z => nomatch z
  obtain ⟨F', S', s'⟩ := S3.mutL S.st sAll sp hv hr hk (va2.ext x3) gp ha3 (ys := xs.set j (.int (m + n))) (es := ds.set j (.int (m + n))) (fun b hb => nomatch hb) fun G' g nd sub =>
    g.set1 nd (fun b hb z => nomatch z) List.nodup_nil (.int _)
  refine ⟨m, n, rfl, rfl, a0, xs, kk, j, rfl, rfl, ha3, by rw [ral.length]; exact g2, ends.nx _ _ _ F' S' s' ?_⟩
  have h4 : Dd.nx (upP ρ3 i pp (.list (ds.set j (.int (m + n))))) := h3
  rw [upP_of hr] at h4
  exact h4
/-- d[k] = e -/
def putD (kvs : List (PyData × PyData)) (k : Key) (d : PyData) : List (PyData × PyData) :=
  if (kvs.any fun kv => decide (keyOf kv.1 = some k)) = true then kvs.map (fun kv => if keyOf kv.1 = some k then (kv.1, d) else kv) else kvs ++ [(keyD k, d)]
def wDPut (i : Nat) (we : WE) (wp : WPl) (wi : WE) : WS := fun D ρ => we ρ fun ρ1 r => pur r.d = true ∧ wp ρ1 fun p => wi ρ1 fun _ ri => match keyOf ri.d with
  | some k => ∃ kvs, dAt ρ1 i p = some (.dict kvs) ∧ kvs.length < sizeLine ∧ (kvs.all fun kv => (keyOf kv.1).isSome) = true ∧ D.nx (upP ρ1 i p (.dict (putD kvs k r.d)))
  | _ => False
theorem put_any {K : PySem.W.Frag} {k : Key} : ∀ {kvs : List (PyData × PyData)} {ks : List (Key × V)}, kvs.map (·.1) = ks.map (fun p => keyD p.1) → (kvs.any fun kv => decide (keyOf kv.1 = some k)) = ks.any fun kv => decide (kv.1 = k)
  | [], ks, e => by
    cases ks with
    | nil => rfl
    | cons _ _ => cases e
  | kd :: kvs, ks, e => by
    cases ks with
    | nil => cases e
    | cons p ks =>
      simp only [List.map_cons, List.cons.injEq] at e
      rw [List.any_cons, List.any_cons, put_any (K := K) e.2, e.1, keyOf_D]
      congr 1
      by_cases h : p.1 = k <;> simp [h]
theorem put_map {K : PySem.W.Frag} {H : Hp} {k : Key} {v : V} {d : PyData} (rv : Rp K true H v d []) : ∀ {kvs : List (PyData × PyData)} {ks : List (Key × V)} {G : List Addr}, kvs.map (·.1) = ks.map (fun p => keyD p.1) → RpAll K true H (ks.map (·.2)) (kvs.map (·.2)) G →
    (kvs.map fun kv => if keyOf kv.1 = some k then (kv.1, d) else kv).map (·.1) = (ks.map fun kv => if kv.1 = k then (kv.1, v) else kv).map (fun p => keyD p.1) ∧
    ∃ G', RpAll K true H ((ks.map fun kv => if kv.1 = k then (kv.1, v) else kv).map (·.2)) ((kvs.map fun kv => if keyOf kv.1 = some k then (kv.1, d) else kv).map (·.2)) G' ∧ G'.Sublist G
  | [], ks, G, e, r => by
    cases ks with
    | nil => exact ⟨rfl, [], .nil, List.nil_sublist _⟩
    | cons _ _ => cases e
  | kd :: kvs, ks, G, e, r => by
    cases ks with
    | nil => cases e
    | cons p ks =>
      simp only [List.map_cons, List.cons.injEq] at e
      simp only [List.map_cons] at r
      cases r with
      | @cons _ _ _ _ G1 G2 r1 r2 =>
        obtain ⟨h1, G', h2, h3⟩ := put_map rv e.2 r2
        have ek : (keyOf kd.1 = some k) = (p.1 = k) := by rw [e.1, keyOf_D]; simp
        simp only [List.map_cons, ek]
        by_cases h : p.1 = k
        · simp only [h, if_true]
          exact ⟨by rw [h1, e.1, h], [] ++ G', .cons rv h2, (h3.trans (List.sublist_append_right _ _))⟩
        · simp only [h, if_false]
          exact ⟨by rw [h1, e.1], G1 ++ G', .cons r1 h2, (List.Sublist.refl _).append h3⟩
theorem ds_dput {ea : Bool} (hu : X.A.units + 1 < cLine) (he : DE X v0 ea e we) (ho : DPl X v0 i o wp) (hi : DE X v0 false ie wi) (hs : swapsWith e (some (.Subscript o ie p2)) pos.line X.env = pure false := by rfl) :
    DS X v0 (.Assign [.Subscript o ie p2] e pos) (wDPut i we wp wi) := by
  obtain ⟨te, pe, qe⟩ := he
  obtain ⟨t, p, q⟩ := ho
  obtain ⟨ti, pi, qi⟩ := hi
  refine ⟨_, ps_dput hu p pi pe hs, fun σ H ρ F S Dd D ends h => ?_⟩
  refine qe σ H ρ F S _ _ h fun x H1 ρ1 F1 rx G1 S1 s1 e1 r1 h1 => ?_
  obtain ⟨hpur, h1⟩ := h1
  refine q σ H1 ρ1 F1 S1 _ _ h1 fun pp u v r H2 x2 hv hr hk va h2 => ?_
  refine qi σ H2 ρ1 F1 (S1.ext x2) _ _ h2 fun y H3 ρ3 F3 ry G3 S3 s3 e3 r3 h3 => ?_
  obtain ⟨q1, q2, x3⟩ := e3.non rfl
  subst q1
  subst q2
  cases hky : keyOf ry.d with
  | none => simp only [hky] at h3
  | some key =>
    simp only [hky] at h3
    have ey := key_V r3.read hky
    obtain ⟨kvs, g1, gz, g3, hq⟩ := h3
    have gp := getP_uniq g1 hr
    have va3 := va.ext x3
    obtain ⟨_, _, _, _, t1, _, t3, _⟩ := place va3 _ (S3.rp hv hr hk)
    rw [gp] at t1
    cases t1
    have ex : Ext H1 H3 := x2.trans x3
    have sAll : Step F H F3 H3 := s1.trans (Step.ext ex)
    obtain ⟨_, rv⟩ := Rp.pure' (m' := true) _ _ _ (r1.ext ex).read hpur
    have sp : Sep X.K σ H3 ρ3 F3 fun _ => False := Sep.of S (e1.ext ex) sAll fun _ z => z.elim
    cases t3 with
    | @dK a0 ks _ G' f1 f2 f3 =>
      have hlen : kvs.length = ks.length := by
        have := congrArg List.length f2
        simpa using this
      have tu : Tu H3 (upd H3 a0 (.dK (putK ks key x))) := fun b xs r => by
        have hb : b ≠ a0 := fun e => by
          subst e
          rcases r with r | ⟨o, r⟩ <;> rw [f1] at r <;> cases r
        exact rd_keep r fun o q => by rw [upd_ne hb]; exact q
      obtain ⟨F', S', s'⟩ := S3.mut S.st sAll sp hv hr hk va3 (o' := .dK (putK ks key x)) (e' := .dict (putD kvs key rx.d)) tu gp fun G0 rg sub nd => by
        cases rg with
        | @dK _ ks' _ G'' f1' f2' f3' =>
          rw [f1] at f1'
          cases f1'
          rw [List.nodup_cons] at nd
          refine ⟨.head _, ?_⟩
          have fin : ∀ Gn kvs' ks', kvs'.map (·.1) = ks'.map (fun p : Key × V => keyD p.1) → RpAll X.K true H3 (ks'.map (·.2)) (kvs'.map (·.2)) Gn → Gn.Sublist G'' → putK ks key x = ks' → putD kvs key rx.d = kvs' →
              ∃ G1, Rp X.K true (upd H3 a0 (.dK (putK ks key x))) (.ref a0) (.dict (putD kvs key rx.d)) G1 ∧ G1.Nodup ∧ ∀ b ∈ G1, b ∈ a0 :: G'' ∨ (¬ Own F3 b ∧ False ∧ (Own F b ∨ H b = none)) := by
            intro Gn kvs' ks' k1 k2 k3 k4 k5
            rw [k4, k5]
            rw [k4] at tu
            have na : a0 ∉ Gn := fun z => nd.1 (k3.subset z)
            exact ⟨a0 :: Gn, .dK upd_same k1 (k2.keep tu _ _ _ fun b hb o ho => by
              have : b ≠ a0 := fun z => na (z ▸ hb)
              rw [upd_ne this]
              exact ho), List.nodup_cons.mpr ⟨na, nd.2.sublist k3⟩, fun b hb => .inl ((List.mem_cons.mp hb).elim (fun z => z ▸ .head _) fun z => .tail _ (k3.subset z))⟩
          by_cases hany : (ks.any fun kv => decide (kv.1 = key)) = true
          · obtain ⟨m1, Gn, m2, m3⟩ := put_map (k := key) rv f2 f3'
            refine fin Gn _ _ m1 m2 m3 ?_ ?_
            · unfold putK
              rw [if_pos hany]
            · unfold putD
              rw [put_any (K := X.K) f2, if_pos hany]
          · refine fin (G'' ++ ([] ++ [])) (kvs ++ [(keyD key, rx.d)]) (ks ++ [(key, x)]) ?_ ?_ (by simp) ?_ ?_
            · simp [f2]
            · rw [List.map_append, List.map_append]
              exact f3'.append (.cons rv .nil)
            · unfold putK
              rw [if_neg hany]
            · unfold putD
              rw [put_any (K := X.K) f2, if_neg hany]
        | dN f1' => rw [f1] at f1'; cases f1'
      refine ⟨a0, _, rfl, ?_, ends.nx _ _ _ F' S' s' ?_⟩
      · rw [ey]
        exact DPut.k f1 (by omega)
      · rw [upP_of hr] at hq
        exact hq
    | dN f1 f2 f3 =>
      exfalso
      cases kvs with
      | nil => exact f2.2.2 rfl
      | cons kv kvs =>
        have := keysN_no f2 kv (.head _)
        rw [List.all_cons, this] at g3
        simp at g3
end
end DL
namespace DL
open PySem PySem.Spec PyProof.Rows L2
/-- the contract of a law: a list of at most n ints, shared; the result is True -/
def ctLaw (n : Nat) : Ct := ⟨List Int, fun ns => [DL.P (.list (ns.map PyData.int))], fun ns => ns.length ≤ n, fun _ _ r => r.d = .bool true⟩
/-- the abstract heap of the first call: the script alone, read only; or nothing -/
structure Lead (P : Program) (w : World) (K : PySem.W.Frag) (H : Hp) (a : Addr) (h : Heap) : Prop where
  ok : HOk P w H h
  me : ∀ b u, H b = some u → b = a ∧ K.lookup a = none ∧ ∃ o xs, u = .frz o (.lst xs)
theorem vInts : ∀ (ns : List Int) {K : PySem.W.Frag} {m : Bool} {H : Hp}, RpAll K m H (ns.map V.int) (ns.map PyData.int) []
  | [], _, _, _ => .nil
  | n :: ns, _, _, _ => .cons (G1 := []) (G2 := []) (.int n) (vInts ns)
section
variable {P : Program} {w : World} {K : PySem.W.Frag} {mg mb : Str → Option Value} {k n : Nat} {fa a : Addr} {fd : FuncData} {x : Str} {s : Shared} {us : List Value} {ns : List Int}
theorem lead_run {H : Hp} (L : Lead P w K H a s.heap) (kin : K.In s.heap) (nsM : s.heap.Ns mainGlobals mg) (nsB : s.heap.Ns builtinsNs mb) (boot : ∀ x : Str, x ≠ "__name__" → mb x = bootBuiltins x) (lim : s.heap.NoLimit) (g0 : s.gens = #[])
    (obj : s.heap.get? a = some { cls := .type "list", data := .seq us.toArray }) (rm : Room k callerA) (sq : SqL K H a (ns.map V.int)) (hn : ns.length ≤ n)
    (F : ∀ base : Heap, K.In base → base.Ns mainGlobals mg → FnD P w K mg base k fa fd [x] (ctLaw n)) (bind : ∀ (s : Shared) (u : Value), BindsTo s fd ⟨[u], []⟩ [(x, u)]) :
    codeAny (model P w) callerA (.call (.ref fa) ⟨[.ref a], []⟩) (fun r s' => r = .ok (.ret (.bool true)) ∧ OldK s.heap s'.heap ∧ s'.os = s.os ∧ AllBare s'.gens) s := by
  let base := hidT s.heap H
  have up : ∀ {b : Addr} {o : Obj}, s.heap.get? b = some o → b ≠ a ∨ K.lookup a ≠ none → base.get? b = some o := fun {b o} e h => hidT_get e (by
    cases q : H b with
    | none => rfl
    | some u =>
      obtain ⟨h1, h2, _⟩ := L.me b u q
      rcases h with h | h
      · exact absurd h1 h
      · exact absurd h2 h)
  have kin' : K.In base := fun b o e => up (kin b o e) (by
    by_cases z : b = a
    · subst z
      exact .inr (by rw [e]; simp)
    · exact .inl z)
  have nsUp : ∀ {b : Addr} {m : Str → Option Value}, s.heap.Ns b m → base.Ns b m := fun {b m} t => by
    obtain ⟨o, es, ep, e, d, r⟩ := t
    refine ⟨o, es, ep, up e (.inl fun z => ?_), d, r⟩
    subst z
    rw [obj] at e
    cases e
    exact nomatch d
  obtain ⟨mc, lim1, lim2⟩ := lim
  have md : Mod K mg base := { kin := kin', glob := nsUp nsM, blt := ⟨mb, nsUp nsB, boot⟩, nolimit := ⟨mc, nsUp lim1, lim2⟩ }
  have env : Env0 P w K mg base callerA [] s H := { frames := rfl, mod := md, bs := fun _ _ e => of_hidT e, bsz := Nat.le_of_eq (hidT_size s.heap H), funs := trivial, frf := fun _ i => (nomatch (show _ ∈ ([] : List Addr) from i)), hok := L.ok, bare := AllBare.of_eq g0 }
  have D := F base kin' (nsUp nsM)
  have st : StOk K (cv0 ([V.ref a].map some) (fun _ => []) H) ([V.ref a].map some) H (((ctLaw n).args ns).map some) (fun _ => []) := by
    have rp : ∃ G, Rp K false H (.ref a) (.list (ns.map PyData.int)) G := by
      rcases sq with sq | sq
      · exact ⟨_, .lst (fun z => nomatch z) sq (vInts ns)⟩
      · exact ⟨_, .lstK rfl sq (vInts ns)⟩
    obtain ⟨G, rp⟩ := rp
    refine ⟨fun i r e => ?_, fun _ => List.nodup_nil, (fun _ _ _ z => nomatch z), fun _ z => ?_, rfl, (by decide +kernel : (1 : Nat) ≤ big), Step.refl⟩
    · cases i with
      | zero =>
        cases e
        exact ⟨.ref a, rfl, G, rp, fun _ _ ⟨_, z⟩ => nomatch z⟩
      | succ i => cases e
    · obtain ⟨_, z⟩ := z
      cases z
  have sp : spD K [x].length (ctLaw n) [.ref a] H (fun v _ => v = .bl true) E0 :=
    ⟨rfl, (ctLaw n).args ns, fun _ => [], st, fun r i => .inl (by cases i with
      | head => rfl
      | tail _ z => cases z), ns, rfl, hn, fun ρ' r hr v σ' H' F' G _ _ ro => by
        have rd := ro.read
        have hr : r.d = .bool true := hr
        rw [hr] at rd
        cases rd
        rfl⟩
  refine codeAny_mono (D.fn.run callerA [] s H ⟨[.ref a], []⟩ [.ref a] [.ref a] _ E0 rfl rm env (bind s _) (.cons rfl .nil) sp) ?_
  intro r s' h
  match r, h with
  | .ok (.ret u), h =>
    obtain ⟨v, H', hos, hbare, un, ok', rel, e⟩ := h
    cases (show v = .bl true from e)
    cases (show u = Value.bool true from rel)
    refine ⟨rfl, OldK.of_keep fun b o hb => ?_, hos, hbare⟩
    cases q : H b with
    | none => exact un.keep b o hb q (fun z => nomatch (show b ∈ ([] : List Addr) from z)) (by simp)
    | some t =>
      obtain ⟨_, _, ob, xs, rfl⟩ := L.me b t q
      have new := (ok' b _ (un.frzs b ob _ q)).1
      have old := (L.ok b _ q).1
      rw [hb] at old
      cases old
      exact new
theorem law_lead (kin : K.In s.heap) (nsM : s.heap.Ns mainGlobals mg) (nsB : s.heap.Ns builtinsNs mb) (boot : ∀ x : Str, x ≠ "__name__" → mb x = bootBuiltins x) (lim : s.heap.NoLimit) (g0 : s.gens = #[])
    (obj : s.heap.get? a = some { cls := .type "list", data := .seq us.toArray }) (ints' : IntsAre us ns) (rm : Room k callerA) (hn : ns.length ≤ n) (hs : n ≤ sizeLine)
    (F : ∀ base : Heap, K.In base → base.Ns mainGlobals mg → FnD P w K mg base k fa fd [x] (ctLaw n)) (bind : ∀ (s : Shared) (u : Value), BindsTo s fd ⟨[u], []⟩ [(x, u)]) :
    codeAny (model P w) callerA (.call (.ref fa) ⟨[.ref a], []⟩) (fun r s' => r = .ok (.ret (.bool true)) ∧ OldK s.heap s'.heap ∧ s'.os = s.os ∧ AllBare s'.gens) s := by
  have vals := vals_ints ints'
  have size := ints'.length
  cases look : K.lookup a with
  | none =>
    let H : Hp := upd (fun _ => none) a (.frz { cls := .type "list", data := .seq us.toArray } (.lst (ns.map V.int)))
    have only : ∀ b u, H b = some u → b = a ∧ u = .frz { cls := .type "list", data := .seq us.toArray } (.lst (ns.map V.int)) := fun b u e => by
      by_cases z : b = a
      · subst z
        rw [show H b = _ from upd_same] at e
        exact ⟨rfl, (Option.some.inj e).symm⟩
      · rw [show H b = _ from upd_ne z] at e
        cases e
    refine lead_run (H := H) ⟨fun b u e => ?_, fun b u e => ?_⟩ kin nsM nsB boot lim g0 obj rm (.inl (.inr ⟨_, upd_same⟩)) hn F bind
    · obtain ⟨rfl, rfl⟩ := only b u e
      exact ⟨obj, by rw [List.length_map]; omega, us, _, vals, obj⟩
    · obtain ⟨rfl, rfl⟩ := only b u e
      exact ⟨rfl, look, _, _, rfl⟩
  | some o =>
    have same := kin a o look
    rw [obj] at same
    cases same
    refine lead_run (H := fun _ => none) ⟨fun b u e => ?_, fun b u e => ?_⟩ kin nsM nsB boot lim g0 obj rm (.inr ⟨_, us.toArray, _, look, rfl, rfl, rfl, by rw [List.size_toArray]; omega, by simpa using vals⟩) hn F bind
    · exact nomatch (show (none : Option HO) = some u from e)
    · exact nomatch (show (none : Option HO) = some u from e)
end
/-- what k_head leaves of a row: from the law's def by data -/
theorem walkD {l : PySem.W.OpenLaw} {n k : Nat} {q : Program} {loose : List Str} {XP : (Str → Option Value) → Heap → Prop} {YP : World → Heap → Prop} {d : DefRec} {K : Params → PySem.W.Frag} {x : Str}
    (hn : l.most = some n) (small : n ≤ sizeLine) (nodf : d.params.defaults = []) (rm : Room k callerA) (hY : ∀ (w : World) (h : Heap), YP w h → (K w.params).In h)
    (F : ∀ (w : World) (mg : Str → Option Value) (fa : Addr) (h : Heap), (K w.params).In h → h.Ns mainGlobals mg → mg d.name = some (.ref fa) →
      ∃ fd : FuncData, (∀ (s : Shared) (u : Value), BindsTo s fd ⟨[u], []⟩ [(x, u)]) ∧ ∀ base : Heap, (K w.params).In base → base.Ns mainGlobals mg → FnD l.prog w (K w.params) mg base k fa fd [x] (ctLaw n)) :
    PySem.W.WalkO q loose XP YP l.row.toRowW d [] (fun f vs => PySem.call f vs) :=
  Att.attach_call hn nodf fun w _ s₁ mg mb fa _ _ _ _ a vs ns G Y _ _ _ named obj its len gens =>
    have kin := hY w _ Y
    have ⟨_, bind, D⟩ := F w mg fa _ kin G.T.g named
    law_lead kin G.T.g G.T.b G.T.builtins G.T.nolimit gens obj its rm len small D bind
end DL
namespace DL
open PySem PySem.Spec PyProof.Rows L2
/-- a def that may be called: its promise, and how it is found -/
structure Fx (P : Program) (w : World) (K : PySem.W.Frag) (mg : Str → Option Value) (base : Heap) (x : Str) (f : Addr) (fd : FuncData) (ps : List Str) (k : Nat) (c : Ct) : Prop where
  F : FnD P w K mg base k f fd ps c
  m : mg x = some (.ref f)
  kp : PySem.W.keepIn K (.ref f) = true
  bd : Binds K fd ps []
/-- those of a list, by places -/
def pick {α : Type} (π : List Nat) (zs : List α) : List α := π.filterMap fun i => zs[i]?
theorem Vals.pick {vs : List V} {us : List Value} (h : Vals vs us) : ∀ π : List Nat, Vals (pick π vs) (pick π us)
  | [] => .nil
  | i :: π => by
    have ih := Vals.pick h π
    unfold DL.pick at ih ⊢
    rw [List.filterMap_cons, List.filterMap_cons]
    cases e : vs[i]? with
    | none =>
      have : us[i]? = none := by
        rw [List.getElem?_eq_none_iff] at e ⊢
        rw [← h.length]
        exact e
      rw [this]
      exact ih
    | some v =>
      obtain ⟨u, hu, r⟩ := h.get e
      rw [hu]
      exact .cons r ih
theorem pick_map {α β : Type} (g : α → β) (zs : List α) : ∀ π : List Nat, pick π (zs.map g) = (pick π zs).map g
  | [] => rfl
  | i :: π => by
    have ih := pick_map g zs π
    unfold pick at ih ⊢
    rw [List.filterMap_cons, List.filterMap_cons, List.getElem?_map]
    cases zs[i]? with
    | none => exact ih
    | some z => simp only [Option.map_some, ih, List.map_cons]
theorem RpAll.pick {K : PySem.W.Frag} {m : Bool} {H : Hp} {vs : List V} {ds : List PyData} {G : List Addr} (h : RpAll K m H vs ds G) : ∀ π : List Nat, ∃ G', RpAll K m H (DL.pick π vs) (DL.pick π ds) G'
  | [] => ⟨[], .nil⟩
  | i :: π => by
    obtain ⟨G', ih⟩ := RpAll.pick h π
    unfold DL.pick at ih ⊢
    rw [List.filterMap_cons, List.filterMap_cons]
    cases e : ds[i]? with
    | none =>
      have : vs[i]? = none := by
        rw [List.getElem?_eq_none_iff] at e ⊢
        rw [h.length]
        exact e
      rw [this]
      exact ⟨G', ih⟩
    | some d =>
      obtain ⟨v, G1, hv, r, _⟩ := h.get e
      rw [hv]
      exact ⟨_, .cons r ih⟩
/-- how the keywords ks go to the parameters ps -/
def KwTo (K : PySem.W.Frag) (fd : FuncData) (ps ks : List Str) (π : List Nat) : Prop := ∀ (s : Shared) (ws : List Value), K.In s.heap → (pick π ws).length = ps.length → BindsTo s fd ⟨[], ks.zip ws⟩ (ps.zip (pick π ws))
theorem pick_all {α : Type} {ws : List α} : ∀ {π : List Nat}, (pick π ws).length = π.length → ∀ i ∈ π, i < ws.length
  | [], _, _, h => nomatch h
  | j :: π, hl, i, h => by
    have le : ∀ π : List Nat, (pick π ws).length ≤ π.length := fun π => List.length_filterMap_le _ _
    unfold pick at hl
    rw [List.filterMap_cons] at hl
    cases e : ws[j]? with
    | none =>
      rw [e] at hl
      have := le π
      unfold pick at this
      simp only [List.length_cons] at hl
      omega
    | some w =>
      rw [e] at hl
      simp only [List.length_cons, Nat.add_right_cancel_iff] at hl
      rcases List.mem_cons.mp h with rfl | h
      · exact (List.getElem?_eq_some_iff.mp e).1
      · exact pick_all (π := π) hl i h
theorem kw_mk {K : PySem.W.Frag} {fd : FuncData} {ps ks : List Str} {π : List Nat} (n : Nat) (hp : ps.length = π.length) (hn : n ∈ π) (h : ∀ (s : Shared) (ws : List Value), n < ws.length → BindsTo s fd ⟨[], ks.zip ws⟩ (ps.zip (pick π ws))) : KwTo K fd ps ks π :=
  fun s ws _ hl => h s ws (pick_all (hl.trans hp) n hn)
structure DKw (X : Cx) (v0 : Cv) (b : Bool) (kws : List Keyword) (w : WA) : Prop where
  ex : ∃ t, PK X kws t ∧ RG X.K v0 b t w
section
variable {X : Cx} {v0 : Cv} {k : Nat} {f : Addr} {fd : FuncData} {ps ks : List Str} {c : Ct} {x y : Str} {p p1 pos kpos : Pos} {e : Expr} {es : List Expr} {kws : List Keyword} {ea eb : Bool} {wa : WE} {wr : WA} {nm : Option Str}
theorem dk_nil : DKw X v0 false [] wNil := ⟨_, pk_nil, fun σ H ρ F S Qd Q h k => k [] H ρ F [] S Step.refl Eff.refl ⟨⟨⟨[], .nil⟩, fun _ => ⟨[], .nil, List.nodup_nil, (fun _ i => nomatch i), fun _ i => nomatch i⟩, fun _ => ⟨[], .nil, fun _ i => nomatch i⟩⟩, .nil⟩ h⟩
theorem dk_cons (ha : DE X v0 ea e wa) (hr : DKw X v0 eb kws wr) : DKw X v0 (ea || eb) (⟨nm, e, kpos⟩ :: kws) (wCons eb wa wr) := by
  obtain ⟨ta, pa, ra⟩ := ha
  obtain ⟨tr, pr, rr⟩ := hr
  exact ⟨_, pk_cons pa pr, rg_cons ra rr⟩
theorem de_call (C : Fx X.prog X.w X.K X.mg X.base x f fd ps k c) (hgd : X.A.guards = some []) (hr : Room k X.A) (ha : DG X v0 ea (e :: es) wr) (hg : Gl X x := by rfl)
    (hdb : (x == ("__debug__" : Str)) = false := by decide) (he : starEach (e :: es) X.env = (false, eval e X.env) :: starEach es X.env := by rfl) (hpl : (backTo pos (starEach es X.env)).any (·.1) = false := by rfl) : DE X v0 ea (.Call (.Name x p) (e :: es) [] pos) (wFn c wr) :=
  de_fn C.F hgd hr C.m C.kp C.bd ha hg hdb he hpl
theorem de_call0 (C : Fx X.prog X.w X.K X.mg X.base x f fd ps k c) (hgd : X.A.guards = some []) (hr : Room k X.A) (hg : Gl X x := by rfl) (hdb : (x == ("__debug__" : Str)) = false := by decide) : DE X v0 false (.Call (.Name x p) [] [] pos) (wFn c wNil) :=
  de_fn0 C.F hgd hr C.m C.kp C.bd hg hdb
theorem de_callM (j : Nat) (C : Fx X.prog X.w X.K X.mg X.base x f fd ps k c) (hgd : X.A.guards = some []) (hr : Room k X.A) (ha : DG X v0 ea es wr) (hg : Gl X x := by rfl)
    (hN : X.N[j]? = some y := by rfl) (hv : Vis X.env.scope y := by first | exact Or.inl rfl | exact Or.inr (Or.inl rfl) | exact Or.inr (Or.inr rfl)) (hd : (y == ("__debug__" : Str)) = false := by decide) (hcd : (y == ("__classdict__" : Str)) = false := by decide)
    (hdb : (x == ("__debug__" : Str)) = false := by decide) (he : starEach (.Name y p1 :: es) X.env = (false, eval (.Name y p1) X.env) :: starEach es X.env := by rfl) (hpl : (backTo pos (starEach es X.env)).any (·.1) = false := by rfl) :
    DE X v0 true (.Call (.Name x p) (.Name y p1 :: es) [] pos) (wFnM c j wr) :=
  de_fnM j C.F hgd hr C.m C.kp C.bd ha hg hN hv hd hcd hdb he hpl
/-- a call by names; π: where each parameter's value stands among the keywords -/
def wFnK (c : Ct) (π : List Nat) (wr : WA) : WE := fun ρ Q => wr ρ fun ρ1 rs => c.sd ((pick π rs).map fun r => P r.d) fun _ r => Q ρ1 (cv r)
theorem de_callK (π : List Nat) (C : Fx X.prog X.w X.K X.mg X.base x f fd ps k c) (hgd : X.A.guards = some []) (hr : Room k X.A) (kb : KwTo X.K fd ps ks π) (ha : DKw X v0 ea kws wr) (hg : Gl X x := by rfl)
    (hall : (backToKw pos (keywordEach kws X.env)).all (·.1.isSome) = true := by rfl) (hks : (backToKw pos (keywordEach kws X.env)).filterMap (·.1) = ks := by rfl)
    (hdb : (x == ("__debug__" : Str)) = false := by decide) (hpl : ((backTo pos (starEach [] X.env)).any (·.1) || (backToKw pos (keywordEach kws X.env)).any (·.1.isNone)) = false := by rfl) : DE X v0 ea (.Call (.Name x p) [] kws pos) (wFnK c π wr) := by
  obtain ⟨t, pa, q⟩ := ha
  refine ⟨_, pe_callGK (g := pick π) (gV := pick π) C.F.fn hgd hr hg C.m C.kp (fun s ws hk hl => kb s ws hk hl) (fun zs ws r => DL.Vals.pick r π) pass0 pa hall hks hdb hpl, fun σ H ρ F S Qd Q h k => ?_⟩
  refine q σ H ρ F S _ _ h fun vs H1 ρ1 F1 rs S1 s1 e1 A h1 => ?_
  obtain ⟨G0, rp0⟩ := A.all.read
  obtain ⟨G1, rp⟩ := rp0.pick π
  rw [pick_map] at rp
  obtain ⟨a, ea, hpre, hpost⟩ := h1
  have hvl := rp.length
  have hal := congrArg List.length ea
  rw [C.F.len, List.length_map] at hal
  rw [List.length_map] at hvl
  refine ⟨by rw [hvl]; exact hal, _, _, args_st rp (by rw [hvl, hal]; exact C.F.sm), fun r hr => ?_, a, ea, hpre, fun ρ' r hp v σ' H' F' G S' s' ro => ?_⟩
  · obtain ⟨r0, _, rfl⟩ := List.mem_map.mp hr
    exact .inl rfl
  · have ex : Ext H1 H' := fun b o hb => s'.keep b o hb fun ⟨_, z⟩ => nomatch z
    obtain ⟨G', ro'⟩ := cv_ok (F := F) (F1 := F1) (H0 := H) ro fun hk => by
      obtain ⟨kd, d⟩ := r
      cases hk
      obtain ⟨q, nd, n, o⟩ := ro
      have nn : ∀ b ∈ G, H1 b = none := fun b hb => (o b hb).resolve_left fun ⟨_, z⟩ => nomatch z
      exact ⟨fun b hb z => S1.live b z (nn b hb), fun b hb => s1.none_of (nn b hb)⟩
    exact k v H' ρ1 F1 (cv r) G' (S1.ext ex) (s1.trans (Step.ext ex)) (e1.ext ex) ro' (hpost ρ' r hp)
end
end DL
namespace DL
open PySem PySem.Spec PyProof.Rows L2
abbrev wSub := cond2 (fun _ _ => True) fun i j => .int (i - j)
abbrev wFdiv := cond2 CDiv fun i j => .int (i / j)
abbrev wMod := cond2 (fun _ j => 0 < j) fun i j => .int (i % j)
abbrev wPow := cond2 CPow fun i j => .int (i ^ j.toNat)
abbrev wShl := cond2 CPow fun i j => .int (i * 2 ^ j.toNat)
abbrev wShr := cond2 (fun _ j => 0 ≤ j) fun i j => .int (i / 2 ^ j.toNat)
abbrev wBAnd := cond2 (fun _ _ => True) fun i j => .int (Builtin.bitAnd i j)
abbrev wBOr := cond2 (fun _ _ => True) fun i j => .int (Builtin.bitOr i j)
abbrev wBXor := cond2 (fun _ _ => True) fun i j => .int (Builtin.bitXor i j)
abbrev wLt := cond2 (fun _ _ => True) fun i j => .bool (decide (i < j))
abbrev wLe := cond2 (fun _ _ => True) fun i j => .bool (decide (i ≤ j))
abbrev wGt := cond2 (fun _ _ => True) fun i j => .bool (decide (j < i))
abbrev wGe := cond2 (fun _ _ => True) fun i j => .bool (decide (j ≤ i))
theorem kOf_pur {ds : List PyData} (h : purs ds = true) : kOf ds = .own := by unfold kOf; rw [if_pos h]
theorem kOfT_pur {ds : List PyData} (h : purs ds = true) : kOfT ds = .shr := by unfold kOfT; rw [if_pos h]
theorem purs_of {ds : List PyData} (h : ∀ d ∈ ds, pur d = true) : purs ds = true := by
  rw [purs_iff]
  exact h
theorem purs_ints (ns : List Int) : purs (ns.map PyData.int) = true := purs_of fun d h => by
  obtain ⟨n, _, rfl⟩ := List.mem_map.mp h
  rfl
theorem cv_pur {r : R} (h : pur r.d = true) : cv r = P r.d := by unfold cv; rw [if_pos h]
theorem ex1 {α : Type} {ws : List α} (h : 0 < ws.length) : ∃ a r, ws = a :: r := match ws, h with | a :: r, _ => ⟨a, r, rfl⟩
theorem ex2 {α : Type} {ws : List α} (h : 1 < ws.length) : ∃ a b r, ws = a :: b :: r := match ws, h with | a :: b :: r, _ => ⟨a, b, r, rfl⟩
theorem ex3 {α : Type} {ws : List α} (h : 2 < ws.length) : ∃ a b c r, ws = a :: b :: c :: r := match ws, h with | a :: b :: c :: r, _ => ⟨a, b, c, r, rfl⟩
theorem ex4 {α : Type} {ws : List α} (h : 3 < ws.length) : ∃ a b c d r, ws = a :: b :: c :: d :: r := match ws, h with | a :: b :: c :: d :: r, _ => ⟨a, b, c, d, r, rfl⟩
theorem nodcts_of {ds : List PyData} (h : ∀ d ∈ ds, nodct d = true) : nodcts ds = true := by
  induction ds with
  | nil => rfl
  | cons d ds ih =>
    simp only [nodcts, Bool.and_eq_true]
    exact ⟨h d (.head _), ih fun e i => h e (.tail _ i)⟩
theorem nodcts_ints (ns : List Int) : nodcts (ns.map PyData.int) = true := nodcts_of fun d h => by
  obtain ⟨n, _, rfl⟩ := List.mem_map.mp h
  rfl
theorem canLay_all {ds : List PyData} (h : ∀ d ∈ ds, d.canLay0 = true) : PyData.canLayAll0 ds = true := by
  induction ds with
  | nil => rfl
  | cons d ds ih =>
    simp only [PyData.canLayAll0, Bool.and_eq_true]
    exact ⟨h d (.head _), ih fun e i => h e (.tail _ i)⟩
theorem depth_all {ds : List PyData} {n : Nat} (h : ∀ d ∈ ds, d.depth ≤ n) : PyData.depthAll ds ≤ n := by
  induction ds with
  | nil => exact Nat.zero_le _
  | cons d ds ih =>
    simp only [PyData.depthAll]
    have := h d (.head _)
    have := ih fun e i => h e (.tail _ i)
    omega
theorem shaped_ints (ns : List Int) : SeqAt.shaped (.list (ns.map PyData.int)) = true := by
  have h1 : PyData.canLayAll0 (ns.map PyData.int) = true := canLay_all fun d h => by
    obtain ⟨n, _, rfl⟩ := List.mem_map.mp h
    rfl
  have h2 : PyData.depthAll (ns.map PyData.int) ≤ 0 := depth_all fun d h => by
    obtain ⟨n, _, rfl⟩ := List.mem_map.mp h
    exact Nat.le_refl _
  have e1 : (PyData.list (ns.map PyData.int)).canLay0 = true := by simpa [PyData.canLay0] using h1
  have e2 : (PyData.list (ns.map PyData.int)).depth ≤ 64 := by
    have : (PyData.list (ns.map PyData.int)).depth = PyData.depthAll (ns.map PyData.int) + 1 := by simp [PyData.depth]
    omega
  unfold SeqAt.shaped
  rw [e1, Bool.true_and]
  exact decide_eq_true e2
def td (a b c : PyData) : List (PyData × PyData) := [(.str "great", a), (.str "stirred", b), (.str "turn", c)]
theorem td_len (a b c : PyData) : (td a b c).length = 3 := rfl
theorem td_get {a b c : PyData} : lookD (td a b c) (.inr "great") = some a ∧ lookD (td a b c) (.inr "stirred") = some b ∧ lookD (td a b c) (.inr "turn") = some c := by
  refine ⟨?_, ?_, ?_⟩ <;> rfl
theorem td_pos {a b c : PyData} : posK (td a b c) (.inr "great") = some 0 := by rfl
theorem td_put {a b c d : PyData} : putD (td a b c) (.inr "turn") d = td a b d := by rfl
theorem td_keys {a b c : PyData} : ((td a b c).all fun kv => (keyOf kv.1).isSome) = true := by rfl
theorem td_all {a b c : PyData} : (∀ (x y : PyData), (x, y) ∈ td a b c → (keyOf x).isSome = true) := by
  intro x y h
  simp only [td, List.mem_cons, Prod.mk.injEq, List.not_mem_nil, or_false] at h
  rcases h with ⟨rfl, _⟩ | ⟨rfl, _⟩ | ⟨rfl, _⟩ <;> rfl
theorem td_g0 {a b c : PyData} : getP (.dict (td a b c)) [0] = some a := by simp [td, getP]
theorem td_s0 {a b c e : PyData} : setP (.dict (td a b c)) [0] e = .dict (td e b c) := by simp [td, setP]
theorem getP_nil (d : PyData) : getP d [] = some d := by cases d <;> rfl
theorem setP_nil (d e : PyData) : setP d [] e = e := by cases d <;> rfl
theorem shaped_nil : SeqAt.shaped (.list []) = true := shaped_ints []
theorem eqv_nil (ns : List Int) : PyData.eqv (.list (ns.map PyData.int)) (.list []) = ns.isEmpty := by cases ns <;> simp [PyData.eqv, PyData.eqvAll]
theorem keyOf_str (x : Str) : keyOf (.str x) = some (.inr x) := rfl
theorem keyOf_int (x : Int) : keyOf (.int x) = some (.inl x) := rfl
theorem md (a : Int) {k : Int} (h : 0 < k) : 0 ≤ a % k ∧ a % k < k := ⟨Int.emod_nonneg a (by omega), Int.emod_lt_of_pos a h⟩
theorem md64 (a : Int) {k : Int} (h : 0 < k) (h2 : k < 18446744073709551616) : -18446744073709551616 < a % k ∧ a % k < 18446744073709551616 := by
  have := md a h
  omega
theorem Ct.sd_mk {c : Ct} {rs : List R} {Q : DEnv → R → Prop} (a : c.α) (e : rs = c.args a) (p : c.pre a) (q : ∀ ρ' r, c.post a ρ' r → Q ρ' r) : c.sd rs Q := ⟨a, e, p, q⟩
theorem purs_nats {α : Type} (f : α → Int) (ns : List α) : purs (ns.map fun n => PyData.int (f n)) = true := purs_of fun d h => by
  obtain ⟨n, _, rfl⟩ := List.mem_map.mp h
  rfl
theorem cv_own (ds : List PyData) : cv ⟨.own, .list ds⟩ = ⟨.own, .list ds⟩ := by simp [cv, pur]
theorem numd_inv {α : Type} {f : α → PyData} {xs : List α} {k : Nat} {d : PyData} (h : (numd 0 (xs.map f))[k]? = some d) : ∃ x, xs[k]? = some x ∧ d = .tuple [.int (k : Nat), f x] := by
  cases e : xs[k]? with
  | none =>
    have : (numd 0 (xs.map f))[k]? = none := by
      rw [List.getElem?_eq_none_iff] at e ⊢
      rw [numd_len]
      simpa using e
    rw [this] at h
    cases h
  | some x =>
    rw [numd_get (d := f x) (by simp [e])] at h
    cases h
    exact ⟨x, rfl, by simp⟩
theorem map_inv {α β : Type} {f : α → β} {xs : List α} {k : Nat} {d : β} (h : (xs.map f)[k]? = some d) : ∃ x, xs[k]? = some x ∧ d = f x := by
  rw [List.getElem?_map] at h
  cases e : xs[k]? with
  | none => rw [e] at h; cases h
  | some x => rw [e] at h; cases h; exact ⟨x, rfl, rfl⟩
theorem rng_inv {lo : Int} {n k : Nat} {d : PyData} (h : (rngD lo n)[k]? = some d) : k < n ∧ d = .int (lo + (k : Int)) := by
  have hk : k < n := by
    have := (List.getElem?_eq_some_iff.mp h).1
    rwa [rngD_len] at this
  rw [rngD_get hk] at h
  cases h
  exact ⟨hk, rfl⟩
theorem foldl_take {α β : Type} (f : β → α → β) (a : β) {xs : List α} {k : Nat} {x : α} (h : xs[k]? = some x) : (xs.take (k + 1)).foldl f a = f ((xs.take k).foldl f a) x := by
  rw [List.take_add_one, h, List.foldl_append]
  rfl
theorem map_take {α β : Type} (f : α → β) {xs : List α} {k : Nat} {x : α} (h : xs[k]? = some x) : (xs.take (k + 1)).map f = (xs.take k).map f ++ [f x] := by
  rw [List.take_add_one, h, List.map_append]
  rfl
theorem free_iff {ρ : DEnv} {i : Nat} : free ρ i ↔ i < ρ.length ∧ (∀ d, ρ[i]? ≠ some (some ⟨.fix, d⟩)) ∧ ∀ d, ρ[i]? ≠ some (some ⟨.als, d⟩) := by
  unfold free
  cases e : ρ[i]? with
  | none =>
    have := List.getElem?_eq_none_iff.mp e
    simp
    omega
  | some o =>
    have hl := (List.getElem?_eq_some_iff.mp e).1
    cases o with
    | none => simp [hl]
    | some r =>
      obtain ⟨k, d⟩ := r
      cases k <;> simp [hl, e]
theorem wgCons_cons {t : WG} {u : WGs} {k : Kd} {d : PyData} {r : List PyData} {ρ : DEnv} {Q : DEnv → Prop} : wgCons t u k (d :: r) ρ Q = t ⟨k, d⟩ ρ fun ρ1 => u k r ρ1 Q :=
  propext ⟨fun ⟨_, _, e, h⟩ => by cases e; exact h, fun h => ⟨_, _, rfl, h⟩⟩
theorem wgNil_nil {k : Kd} {ρ : DEnv} {Q : DEnv → Prop} : wgNil k [] ρ Q = Q ρ := propext ⟨fun h => h.2, fun h => ⟨rfl, h⟩⟩
theorem ix_nat {α : Type} (xs : List α) (n : Nat) : atI xs (n : Int) = xs[n]? := by
  unfold atI ixN
  by_cases h : n < xs.length
  · simp [h]
  · simp [h]
theorem wIx_t {k k' : Kd} {ds : List PyData} {i : Int} {Q : R → Prop} {d : PyData} (h : atI ds i = some d) : wIx ⟨k, .tuple ds⟩ ⟨k', .int i⟩ Q = Q (itemK k d) := by
  simp [wIx, h]
theorem wIx_l {k k' : Kd} {ds : List PyData} {i : Int} {Q : R → Prop} {d : PyData} (h : atI ds i = some d) : wIx ⟨k, .list ds⟩ ⟨k', .int i⟩ Q = Q (itemK k d) := by
  simp [wIx, h]
theorem wIx_t0 {k k' : Kd} {a : PyData} {r : List PyData} {Q : R → Prop} : wIx ⟨k, .tuple (a :: r)⟩ ⟨k', .int 0⟩ Q = Q (itemK k a) := wIx_t (ix_nat _ 0)
theorem wIx_t1 {k k' : Kd} {a b : PyData} {r : List PyData} {Q : R → Prop} : wIx ⟨k, .tuple (a :: b :: r)⟩ ⟨k', .int 1⟩ Q = Q (itemK k b) := wIx_t (ix_nat _ 1)
theorem wIx_l0 {k k' : Kd} {a : PyData} {r : List PyData} {Q : R → Prop} : wIx ⟨k, .list (a :: r)⟩ ⟨k', .int 0⟩ Q = Q (itemK k a) := wIx_l (ix_nat _ 0)
theorem wIx_l1 {k k' : Kd} {a b : PyData} {r : List PyData} {Q : R → Prop} : wIx ⟨k, .list (a :: b :: r)⟩ ⟨k', .int 1⟩ Q = Q (itemK k b) := wIx_l (ix_nat _ 1)
theorem wIx_l2 {k k' : Kd} {a b c : PyData} {r : List PyData} {Q : R → Prop} : wIx ⟨k, .list (a :: b :: c :: r)⟩ ⟨k', .int 2⟩ Q = Q (itemK k c) := wIx_l (ix_nat _ 2)
theorem ixN_nat {n k : Nat} (h : k < n) : ixN n (k : Int) = some k := by simp [ixN, h]
theorem ovx (d : PyData) : (∃ x : Option PyData, some (R.mk .shr d) = Option.map P x) = True := eq_true ⟨some d, rfl⟩
theorem ovs (x : Option PyData) : (∃ y : Option PyData, Option.map P x = Option.map P y) = True := eq_true ⟨x, rfl⟩
theorem cut60 (ds : List PyData) : cutD ds none (some 60) = ds.take 60 := by
  unfold cutD HT.sIx
  simp
end DL
namespace DL
open PySem PySem.Spec PyProof.Rows L2
structure Sm (d : PyData) (k n : Nat) : Prop where
  nd : nodct d = true
  sh : d.showable = true
  lv : d.leavesShort 13 = true
  dp : d.depth ≤ k
  bk : d.bulk ≤ n
theorem showAll_of {ds : List PyData} (h : ∀ d ∈ ds, d.showable = true) : PyData.showableAll ds = true := by
  induction ds with
  | nil => rfl
  | cons d ds ih =>
    simp only [PyData.showableAll, Bool.and_eq_true]
    exact ⟨h d (.head _), ih fun e i => h e (.tail _ i)⟩
theorem leavesAll_of {ds : List PyData} (h : ∀ d ∈ ds, d.leavesShort 13 = true) : PyData.leavesShortAll 13 ds = true := by
  induction ds with
  | nil => rfl
  | cons d ds ih =>
    simp only [PyData.leavesShortAll, Bool.and_eq_true]
    exact ⟨h d (.head _), ih fun e i => h e (.tail _ i)⟩
theorem bulkAll_of {ds : List PyData} {n : Nat} (h : ∀ d ∈ ds, d.bulk ≤ n) : PyData.bulkAll ds ≤ ds.length * (n + 1) := by
  induction ds with
  | nil => exact Nat.zero_le _
  | cons d ds ih =>
    simp only [PyData.bulkAll, List.length_cons, Nat.succ_mul]
    have := h d (.head _)
    have := ih fun e i => h e (.tail _ i)
    omega
theorem sm_int {i : Int} (h : i.natAbs < 10 ^ 12) : Sm (.int i) 0 0 := by
  refine ⟨rfl, ?_, ?_, Nat.le_refl _, Nat.le_refl _⟩
  · simp only [PyData.showable, decide_eq_true_eq]
    by_cases z : i.natAbs = 0
    · rw [z]; decide
    · rw [Nat.log2_lt z]
      have e : (10 : Nat) ^ 12 < 2 ^ 40 := by decide
      have e2 : (2 : Nat) ^ 40 ≤ 2 ^ 1920 := Nat.pow_le_pow_right (by decide) (by decide)
      exact Nat.lt_of_lt_of_le (Nat.lt_trans h e) e2
  · have e := int_text_length_le10 (k := 12) (by decide) h
    have e2 : (PyData.shown (.int i)).length ≤ 13 := by
      have e3 : (PyData.shown (.int i)).length = (Str.ofString (toString i)).length := by simp [PyData.shown]
      rw [e3, PySem.ofString_length]
      omega
    simpa only [PyData.leavesShort, decide_eq_true_eq] using e2
theorem sm_tup {ds : List PyData} {k n : Nat} (h : ∀ d ∈ ds, Sm d k n) : Sm (.tuple ds) (k + 1) (ds.length * (n + 1)) :=
  ⟨by simpa [nodct] using nodcts_of fun d i => (h d i).nd, by simpa [PyData.showable] using showAll_of fun d i => (h d i).sh, by simpa [PyData.leavesShort] using leavesAll_of fun d i => (h d i).lv,
    by simpa [PyData.depth] using depth_all fun d i => (h d i).dp, by simpa [PyData.bulk] using bulkAll_of fun d i => (h d i).bk⟩
theorem sm_lst {ds : List PyData} {k n : Nat} (h : ∀ d ∈ ds, Sm d k n) : Sm (.list ds) (k + 1) (ds.length * (n + 1)) :=
  ⟨by simpa [nodct] using nodcts_of fun d i => (h d i).nd, by simpa [PyData.showable] using showAll_of fun d i => (h d i).sh, by simpa [PyData.leavesShort] using leavesAll_of fun d i => (h d i).lv,
    by simpa [PyData.depth] using depth_all fun d i => (h d i).dp, by simpa [PyData.bulk] using bulkAll_of fun d i => (h d i).bk⟩
theorem Sm.mono {d : PyData} {k n k' n' : Nat} (h : Sm d k n) (hk : k ≤ k') (hn : n ≤ n') : Sm d k' n' := ⟨h.nd, h.sh, h.lv, Nat.le_trans h.dp hk, Nat.le_trans h.bk hn⟩
theorem wRepr_lst {kd : Kd} {ds : List PyData} {k n : Nat} {Q : R → Prop} (h : Sm (.list ds) k n) (hk : k < 50) (hn : n ≤ 2 ^ 20) (q : Q (P (.str (PyData.list ds).shown))) : wRepr [⟨kd, .list ds⟩] Q :=
  ⟨by simpa [nodct] using h.nd, h.sh, Nat.lt_of_le_of_lt h.dp hk, PyData.shown_fits_bulk (by decide) (by decide) h.lv (Nat.le_trans h.bk hn), q⟩
theorem wRepr_tup {kd : Kd} {ds : List PyData} {k n : Nat} {Q : R → Prop} (h : Sm (.tuple ds) k n) (hk : k < 50) (hn : n ≤ 2 ^ 20) (q : Q (P (.str (PyData.tuple ds).shown))) : wRepr [⟨kd, .tuple ds⟩] Q :=
  ⟨by simpa [nodct] using h.nd, h.sh, Nat.lt_of_le_of_lt h.dp hk, PyData.shown_fits_bulk (by decide) (by decide) h.lv (Nat.le_trans h.bk hn), q⟩
end DL
namespace DL
open PySem PySem.Spec PyProof.Rows L2
def nth {α : Type} [Inhabited α] (xs : List α) (n : Nat) : α := xs.getD n default
section
variable {α : Type} [Inhabited α]
theorem nth_lt {xs : List α} {n : Nat} (h : n < xs.length) : nth xs n = xs[n] := by simp [nth, h]
theorem nth_mem {xs : List α} {n : Nat} (h : n < xs.length) : nth xs n ∈ xs := by rw [nth_lt h]; exact List.getElem_mem h
theorem nth_some {xs : List α} {n : Nat} {x : α} (h : xs[n]? = some x) : nth xs n = x := by simp [nth, h]
theorem some_nth {xs : List α} {n : Nat} (h : n < xs.length) : xs[n]? = some (nth xs n) := by simp [nth, h]
theorem nth_zero {x : α} {xs : List α} : nth (x :: xs) 0 = x := rfl
theorem nth_succ {x : α} {xs : List α} {n : Nat} : nth (x :: xs) (n + 1) = nth xs n := by simp [nth]
theorem nth_map {β : Type} [Inhabited β] {xs : List β} (f : β → α) {n : Nat} (h : n < xs.length) : nth (xs.map f) n = f (nth xs n) := by simp [nth, h]
theorem nth_set {xs : List α} {n m : Nat} {x : α} (h : n < xs.length) : nth (xs.set n x) m = if n = m then x else nth xs m := by
  unfold nth
  by_cases e : n = m
  · subst e; simp [h]
  · rw [if_neg e, List.getD_eq_getElem?_getD, List.getElem?_set_ne e, List.getD_eq_getElem?_getD]
theorem nth_append_left {xs ys : List α} {n : Nat} (h : n < xs.length) : nth (xs ++ ys) n = nth xs n := by simp [nth, List.getElem?_append_left h]
theorem nth_append_len {xs ys : List α} {x : α} : nth (xs ++ x :: ys) xs.length = x := by simp [nth]
theorem ext_nth {xs ys : List α} (hl : xs.length = ys.length) (h : ∀ n, n < xs.length → nth xs n = nth ys n) : xs = ys := by
  apply List.ext_getElem hl
  intro n h1 h2
  rw [← nth_lt h1, ← nth_lt h2]; exact h n h1
end
theorem wIx_tm {α : Type} [Inhabited α] {k k' : Kd} {xs : List α} {f : α → PyData} {n : Nat} {Q : R → Prop} (h : n < xs.length) : wIx ⟨k, .tuple (xs.map f)⟩ ⟨k', .int (n : Int)⟩ Q = Q (itemK k (f (nth xs n))) :=
  wIx_t (by rw [ix_nat, List.getElem?_map, some_nth h]; rfl)
theorem wIx_lm {α : Type} [Inhabited α] {k k' : Kd} {xs : List α} {f : α → PyData} {n : Nat} {Q : R → Prop} (h : n < xs.length) : wIx ⟨k, .list (xs.map f)⟩ ⟨k', .int (n : Int)⟩ Q = Q (itemK k (f (nth xs n))) :=
  wIx_l (by rw [ix_nat, List.getElem?_map, some_nth h]; rfl)
theorem itemK_pur {k : Kd} {d : PyData} (h : pur d = true) : itemK k d = P d := by unfold itemK; rw [if_pos h]
theorem itemK_int {k : Kd} {i : Int} : itemK k (.int i) = P (.int i) := rfl
theorem itemK_str {k : Kd} {i : Str} : itemK k (.str i) = P (.str i) := rfl
theorem itemK_shr {d : PyData} : itemK .shr d = P d := by unfold itemK; split <;> rfl
theorem purs_map' {α : Type} {xs : List α} {f : α → PyData} (h : ∀ x ∈ xs, pur (f x) = true) : purs (xs.map f) = true := purs_of fun d hd => by
  obtain ⟨x, hx, rfl⟩ := List.mem_map.mp hd
  exact h x hx
theorem purs_app {xs ys : List PyData} : purs (xs ++ ys) = (purs xs && purs ys) := by
  induction xs with
  | nil => rfl
  | cons x xs ih => simp [purs, ih, Bool.and_assoc]
theorem purs_rep {n : Nat} {d : PyData} (h : pur d = true) : purs (List.replicate n d) = true := purs_of fun e he => by rw [(List.mem_replicate.mp he).2]; exact h
def nf (a : Option R) : Prop := (∀ d, a ≠ some ⟨.fix, d⟩) ∧ ∀ d, a ≠ some ⟨.als, d⟩
theorem nf_none : nf none = True := eq_true ⟨fun _ h => by (cases h), fun _ h => by (cases h)⟩
theorem nf_shr {d : PyData} : nf (some ⟨.shr, d⟩) = True := eq_true ⟨fun _ h => by (cases h), fun _ h => by (cases h)⟩
theorem nf_own {d : PyData} : nf (some ⟨.own, d⟩) = True := eq_true ⟨fun _ h => by (cases h), fun _ h => by (cases h)⟩
theorem free_nf {ρ : DEnv} {i : Nat} : free ρ i ↔ ∃ a, ρ[i]? = some a ∧ nf a := by
  unfold free nf
  cases h : ρ[i]? with
  | none => simp
  | some a =>
    rcases a with _ | ⟨k, d⟩
    · simp
    · cases k <;> simp
def isS (a : Option R) : Option R → Prop := fun b => b = a
def Env : List (Option R → Prop) → DEnv → Prop
  | [], [] => True
  | p :: ps, a :: ρ => p a ∧ Env ps ρ
  | _, _ => False
theorem env_cons {p : Option R → Prop} {ps : List (Option R → Prop)} {ρ : DEnv} (h : Env (p :: ps) ρ) : ∃ a r, ρ = a :: r ∧ p a ∧ Env ps r := by
  cases ρ with
  | nil => exact h.elim
  | cons a r => exact ⟨a, r, rfl, h.1, h.2⟩
theorem env_nil {ρ : DEnv} (h : Env [] ρ) : ρ = [] := by
  cases ρ with
  | nil => rfl
  | cons a r => exact h.elim
theorem env_c {p : Option R → Prop} {ps : List (Option R → Prop)} {a : Option R} {ρ : DEnv} : Env (p :: ps) (a :: ρ) = (p a ∧ Env ps ρ) := rfl
theorem env_n : Env [] [] = True := rfl
theorem itemK_own {d : PyData} : itemK .own d = P d := by unfold itemK; split <;> rfl
theorem itemK_fix {d : PyData} : itemK .fix d = P d := by unfold itemK; split <;> rfl
theorem itemK_lst {ds : List PyData} : itemK .als (.list ds) = ⟨.als, .list ds⟩ := rfl
theorem itemK_dct {ds : List (PyData × PyData)} : itemK .als (.dict ds) = ⟨.als, .dict ds⟩ := rfl
theorem itemK_tup {ds : List PyData} (h : purs ds = true) : itemK .als (.tuple ds) = P (.tuple ds) := itemK_pur h
theorem rngD_nat (n : Nat) : rngD 0 n = (List.range n).map fun i => PyData.int (i : Nat) := by
  simp [rngD]
theorem rngD_lo (lo n : Nat) : rngD (lo : Int) n = (List.range n).map fun i => PyData.int ((lo + i : Nat) : Int) := by
  simp [rngD]
theorem numd_map {α : Type} (f : α → PyData) (xs : List α) : numd 0 (xs.map f) = xs.zipIdx.map fun p => PyData.tuple [.int (p.2 : Nat), f p.1] := by
  apply List.ext_getElem
  · simp [numd]
  · intro i h1 h2
    simp [numd]
/-- a loop over typed items, by the number of turns -/
theorem wFor_ix {α : Type} {wi : WI} {g : WG} {body : WS} {D : DEnds} {ρ : DEnv} (xs : List α) (enc : α → PyData) (I : Nat → DEnv → Prop)
    (hi : ∀ Q : DEnv → List PyData → Prop, (∀ ρ1, I 0 ρ1 → Q ρ1 (xs.map enc)) → wi ρ Q)
    (hs : ∀ (k : Nat) (x : α) (ρ : DEnv) (N : DEnv → Prop), xs[k]? = some x → I k ρ → (∀ ρ', I (k + 1) ρ' → N ρ') → g ⟨.shr, enc x⟩ ρ fun ρ2 => body { D with nx := N, ct := N, bk := D.nx } ρ2)
    (hN : ∀ ρ, I xs.length ρ → D.nx ρ) : wFor wi g body D ρ := by
  refine hi _ fun ρ1 h0 => ⟨I, h0, fun k d ρ hd hI => ?_, fun ρ hI => hN ρ ?_⟩
  · obtain ⟨x, hx, rfl⟩ := map_inv hd
    exact hs k x ρ _ hx hI fun _ h => h
  · simpa using hI
/-- .. as a fold -/
theorem wFor_fold {α σ : Type} {wi : WI} {g : WG} {body : WS} {D : DEnds} {ρ : DEnv} (xs : List α) (enc : α → PyData) (step : σ → α → σ) (s0 : σ) (E : σ → DEnv → Prop)
    (hi : ∀ Q : DEnv → List PyData → Prop, (∀ ρ1, E s0 ρ1 → Q ρ1 (xs.map enc)) → wi ρ Q)
    (hs : ∀ (k : Nat) (x : α) (s : σ) (ρ : DEnv) (N : DEnv → Prop), xs[k]? = some x → s = (xs.take k).foldl step s0 → E s ρ → (∀ ρ', E (step s x) ρ' → N ρ') → g ⟨.shr, enc x⟩ ρ fun ρ2 => body { D with nx := N, ct := N, bk := D.nx } ρ2)
    (hN : ∀ ρ, E (xs.foldl step s0) ρ → D.nx ρ) : wFor wi g body D ρ := by
  refine wFor_ix xs enc (fun k => E ((xs.take k).foldl step s0)) hi (fun k x ρ N hx h hn => ?_) fun ρ h => hN ρ ?_
  · exact hs k x _ ρ N hx rfl h fun ρ' h' => hn ρ' (by rw [foldl_take step s0 hx]; exact h')
  · rwa [List.take_length] at h
/-- .. that looks for something: f tells where it is left -/
theorem wFor_find {α β : Type} {wi : WI} {g : WG} {body : WS} {D : DEnds} {ρ : DEnv} (xs : List α) (enc : α → PyData) (f : α → Option β) (E : DEnv → Prop)
    (hi : ∀ Q : DEnv → List PyData → Prop, (∀ ρ1, E ρ1 → Q ρ1 (xs.map enc)) → wi ρ Q)
    (hs : ∀ (k : Nat) (x : α) (ρ : DEnv) (N : DEnv → Prop), xs[k]? = some x → (xs.take k).findSome? f = none → E ρ → (∀ ρ', f x = none → E ρ' → N ρ') → g ⟨.shr, enc x⟩ ρ fun ρ2 => body { D with nx := N, ct := N, bk := D.nx } ρ2)
    (hN : ∀ ρ, xs.findSome? f = none → E ρ → D.nx ρ) : wFor wi g body D ρ := by
  refine wFor_ix xs enc (fun k ρ => (xs.take k).findSome? f = none ∧ E ρ) (fun Q h => hi Q fun ρ1 e => h ρ1 ⟨by simp, e⟩) (fun k x ρ N hx h hn => ?_) fun ρ h => hN ρ (by simpa using h.1) h.2
  refine hs k x ρ N hx h.1 h.2 fun ρ' e h' => hn ρ' ⟨?_, h'⟩
  rw [List.take_add_one, hx, List.findSome?_append, h.1]
  simpa using e
theorem findSome_take {α β : Type} {xs : List α} {f : α → Option β} {k : Nat} {x : α} {b : β} (hx : xs[k]? = some x) (h0 : (xs.take k).findSome? f = none) (h : f x = some b) : xs.findSome? f = some b := by
  have e : xs = xs.take k ++ x :: xs.drop (k + 1) := by
    have hk := (List.getElem?_eq_some_iff.mp hx)
    obtain ⟨hk, rfl⟩ := hk
    rw [List.getElem_cons_drop, List.take_append_drop]
  rw [e, List.findSome?_append, h0]
  simp [h]
theorem wLc0_map {α : Type} {wi : WI} {g : WG} {we : WE} {vs : List Nat} {ρ ρ1 : DEnv} {Q : DEnv → R → Prop} (xs : List α) (enc h : α → PyData) (hl : xs.length ≤ sizeLine)
    (hi : ∀ Q : DEnv → List PyData → Prop, Q ρ1 (xs.map enc) → wi ρ Q)
    (hs : ∀ (k : Nat) (x : α) (Q : DEnv → R → Prop), xs[k]? = some x → (∀ ρ4 r, r.d = h x → owp r = true → Q ρ4 r) → g ⟨.shr, enc x⟩ (wipeD ρ1 vs) fun ρ2 => we ρ2 Q)
    (q : Q ρ1 ⟨.own, .list (xs.map h)⟩) : wLc0 wi g wYes we vs ρ Q := by
  refine hi _ ⟨fun k acc => acc = (xs.take k).map h, rfl, fun k d acc hd ha => ?_, fun acc ha => ?_⟩
  · obtain ⟨x, hx, rfl⟩ := map_inv hd
    subst ha
    unfold wYes
    simp only [if_true]
    refine hs k x _ hx fun ρ4 r hr ho => ⟨ho, ?_, ?_⟩
    · have := (List.getElem?_eq_some_iff.mp hx).1
      simp; omega
    · rw [map_take h hx, hr]
  · have : acc = xs.map h := by simpa using ha
    subst this
    exact q
theorem wLc0_fmap {α : Type} {wi : WI} {g : WG} {tt : WT} {we : WE} {vs : List Nat} {ρ ρ1 : DEnv} {Q : DEnv → R → Prop} (xs : List α) (enc h : α → PyData) (p : α → Bool) (hl : xs.length ≤ sizeLine)
    (hi : ∀ Q : DEnv → List PyData → Prop, Q ρ1 (xs.map enc) → wi ρ Q)
    (hs : ∀ (k : Nat) (x : α) (Q : DEnv → R → Prop) (N : Prop), xs[k]? = some x → (p x = true → ∀ ρ4 r, r.d = h x → owp r = true → Q ρ4 r) → (p x = false → N) → g ⟨.shr, enc x⟩ (wipeD ρ1 vs) fun ρ2 => tt ρ2 fun ρ3 c => if c = true then we ρ3 Q else N)
    (q : Q ρ1 ⟨.own, .list ((xs.filter p).map h)⟩) : wLc0 wi g tt we vs ρ Q := by
  refine hi _ ⟨fun k acc => acc = ((xs.take k).filter p).map h, rfl, fun k d acc hd ha => ?_, fun acc ha => ?_⟩
  · obtain ⟨x, hx, rfl⟩ := map_inv hd
    subst ha
    have hk := (List.getElem?_eq_some_iff.mp hx).1
    have e : xs.take (k + 1) = xs.take k ++ [x] := by rw [List.take_add_one, hx]; rfl
    have hl2 : (((xs.take k).filter p).map h).length < sizeLine := by
      have := List.length_filter_le p (xs.take k)
      rw [List.length_take] at this
      rw [List.length_map]; omega
    refine hs k x _ _ hx (fun hp ρ4 r hr ho => ⟨ho, hl2, ?_⟩) fun hp => ?_
    · simp only [e, List.filter_append, List.map_append, hr]
      simp [hp]
    · simp only [e, List.filter_append, List.map_append]
      simp [hp]
  · have : acc = (xs.filter p).map h := by simpa using ha
    subst this
    exact q
structure Sh (d : PyData) (k L : Nat) : Prop where
  nd : nodct d = true
  sh : d.showable = true
  dp : d.depth ≤ k
  ln : d.shown.length ≤ L
theorem Sm.sh' {d : PyData} {k n : Nat} (h : Sm d k n) : Sh d k (15 * n + 13) := ⟨h.nd, h.sh, h.dp, by
  have := PyData.shown_le_bulk 13 (by decide) d h.lv
  have := Nat.mul_le_mul_left 15 h.bk
  omega⟩
theorem sh_int {i : Int} (K : Nat) (hK : 0 < K) (h : i.natAbs < 10 ^ K) (h2 : K ≤ 577) : Sh (.int i) 0 (K + 1) := by
  refine ⟨rfl, ?_, Nat.le_refl _, ?_⟩
  · simp only [PyData.showable, decide_eq_true_eq]
    by_cases z : i.natAbs = 0
    · rw [z]; decide
    · rw [Nat.log2_lt z]
      have e : (10 : Nat) ^ 577 < 2 ^ 1920 := by decide +kernel
      have e2 : (10 : Nat) ^ K ≤ 10 ^ 577 := Nat.pow_le_pow_right (by decide) h2
      omega
  · have e := int_text_length_le10 (k := K) hK h
    have e3 : (PyData.shown (.int i)).length = (Str.ofString (toString i)).length := by simp [PyData.shown]
    rw [e3, PySem.ofString_length]
    omega
theorem sh_bool {b : Bool} : Sh (.bool b) 0 5 := by cases b <;> exact ⟨rfl, rfl, Nat.le_refl _, by decide⟩
theorem sh_none : Sh .none 0 4 := ⟨rfl, rfl, Nat.le_refl _, by decide⟩
theorem Sh.mono {d : PyData} {k n k' n' : Nat} (h : Sh d k n) (hk : k ≤ k') (hn : n ≤ n') : Sh d k' n' := ⟨h.nd, h.sh, Nat.le_trans h.dp hk, Nat.le_trans h.ln hn⟩
theorem sum_all {ds : List PyData} {L : Nat} (h : ∀ d ∈ ds, d.shown.length ≤ L) : ((PyData.shownAll ds).map (·.length)).sum ≤ ds.length * L := by
  induction ds with
  | nil => simp [PyData.shownAll]
  | cons d ds ih =>
    simp only [PyData.shownAll, List.map_cons, List.sum_cons, List.length_cons, Nat.succ_mul]
    have := h d (.head _)
    have := ih fun e i => h e (.tail _ i)
    omega
theorem sh_lst {ds : List PyData} {k L : Nat} (h : ∀ d ∈ ds, Sh d k L) : Sh (.list ds) (k + 1) (ds.length * (L + 2) + 3) :=
  ⟨by simpa [nodct] using nodcts_of fun d i => (h d i).nd, by simpa [PyData.showable] using showAll_of fun d i => (h d i).sh, by simpa [PyData.depth] using depth_all fun d i => (h d i).dp, by
    have h1 := sum_all fun d i => (h d i).ln
    have h2 := listText_len_le (PyData.shownAll ds)
    have h3 := PyData.shownAll_length ds
    rw [Nat.mul_add]
    simp only [PyData.shown]
    omega⟩
theorem sh_tup {ds : List PyData} {k L : Nat} (h : ∀ d ∈ ds, Sh d k L) : Sh (.tuple ds) (k + 1) (ds.length * (L + 2) + 3) :=
  ⟨by simpa [nodct] using nodcts_of fun d i => (h d i).nd, by simpa [PyData.showable] using showAll_of fun d i => (h d i).sh, by simpa [PyData.depth] using depth_all fun d i => (h d i).dp, by
    have h1 := sum_all fun d i => (h d i).ln
    have h2 := tupleText_len_le (PyData.shownAll ds)
    have h3 := PyData.shownAll_length ds
    rw [Nat.mul_add]
    simp only [PyData.shown]
    omega⟩
theorem wRepr_sl {kd : Kd} {ds : List PyData} {k L : Nat} {Q : R → Prop} (h : Sh (.list ds) k L) (hk : k < 50) (hn : L ≤ 2 ^ 24) (q : Q (P (.str (PyData.list ds).shown))) : wRepr [⟨kd, .list ds⟩] Q :=
  ⟨by simpa [nodct] using h.nd, h.sh, Nat.lt_of_le_of_lt h.dp hk, Nat.le_trans h.ln hn, q⟩
theorem wRepr_st {kd : Kd} {ds : List PyData} {k L : Nat} {Q : R → Prop} (h : Sh (.tuple ds) k L) (hk : k < 50) (hn : L ≤ 2 ^ 24) (q : Q (P (.str (PyData.tuple ds).shown))) : wRepr [⟨kd, .tuple ds⟩] Q :=
  ⟨by simpa [nodct] using h.nd, h.sh, Nat.lt_of_le_of_lt h.dp hk, Nat.le_trans h.ln hn, q⟩
abbrev wShlW := cond2 CShl fun i j => .int (i * 2 ^ j.toNat)
theorem intBits_nat (n : Nat) : Builtin.Int.intBits (n : Int) ≤ n.log2 + 1 := by
  unfold Builtin.Int.intBits
  split <;> simp
theorem cshl_nat {a b : Nat} (h : a < 2 ^ 1000000) (hb : b ≤ 1000000) : CShl (a : Int) (b : Int) := by
  refine ⟨by omega, ?_⟩
  have h1 := intBits_nat a
  have h2 : a.log2 ≤ 1000000 := by
    by_cases z : a = 0
    · subst z; simp
    · have := (Nat.log2_lt z).mpr h
      omega
  omega
theorem band_nat (a b : Nat) : Builtin.bitAnd (a : Int) (b : Int) = ((a &&& b : Nat) : Int) := by simp [Builtin.bitAnd]
theorem bor_nat (a b : Nat) : Builtin.bitOr (a : Int) (b : Int) = ((a ||| b : Nat) : Int) := by
  have h1 := bitOr_and (a : Int) b
  rw [band_nat] at h1
  have h2 := nat_or_add_and a b
  omega
theorem nat_or_xor_and (m : Nat) : ∀ n : Nat, (m ||| n) = (m ^^^ n) + (m &&& n) := by
  induction m using Nat.strongRecOn with
  | ind m ih =>
    intro n
    by_cases h0 : m = 0
    · subst h0; simp
    · have ih' := ih (m / 2) (by omega) (n / 2)
      rw [← Nat.or_div_two, ← Nat.and_div_two, ← Nat.xor_div_two] at ih'
      have o1 := @Nat.or_mod_two_eq_one m n
      have a1 := @Nat.and_mod_two_eq_one m n
      have x1 := @Nat.xor_mod_two_eq_one m n
      omega
theorem bxor_nat (a b : Nat) : Builtin.bitXor (a : Int) (b : Int) = ((a ^^^ b : Nat) : Int) := by
  unfold Builtin.bitXor
  rw [bor_nat, band_nat]
  have h2 := nat_or_xor_and a b
  omega
abbrev wIAdd := cond2 (fun _ _ => True) fun i j => .int (i + j)
theorem od_ipadd {K : PySem.W.Frag} : OD K (ipI fun i j => i + j) wIAdd := by
  intro N H x y ⟨kx, dx⟩ ⟨ky, dy⟩ ax ay Qd Q hw k
  unfold wIAdd cond2 at hw
  cases dx <;> cases dy <;> first | exact hw.elim | skip
  rename_i i j
  rw [arg_int ax, arg_int ay]
  exact ⟨i, j, rfl, rfl, k _ H _ [] Ext.refl (NewOk.pure (.int _)) hw.2⟩
theorem cv_int {i : Int} : cv (P (.int i)) = P (.int i) := rfl
theorem cv_str {i : Str} : cv (P (.str i)) = P (.str i) := rfl
theorem cv_bool {i : Bool} : cv (P (.bool i)) = P (.bool i) := rfl
theorem range_inv {n k x : Nat} (h : (List.range n)[k]? = some x) : k < n ∧ k = x := by
  obtain ⟨h1, h2⟩ := List.getElem?_eq_some_iff.mp h
  simp at h1 h2
  exact ⟨h1, h2⟩
theorem zip_inv {α : Type} {xs : List α} {k : Nat} {p : α × Nat} (h : xs.zipIdx[k]? = some p) : k < xs.length ∧ p.2 = k ∧ xs[k]? = some p.1 := by
  obtain ⟨h1, h2⟩ := List.getElem?_eq_some_iff.mp h
  simp at h1 h2
  subst h2
  exact ⟨h1, rfl, by simp [h1]⟩
theorem lt_of_some {α : Type} {xs : List α} {k : Nat} {x : α} (h : xs[k]? = some x) : k < xs.length := (List.getElem?_eq_some_iff.mp h).1
theorem take_succ_of {α : Type} {xs : List α} {k : Nat} {x : α} (h : xs[k]? = some x) : xs.take (k + 1) = xs.take k ++ [x] := by rw [List.take_add_one, h]; rfl
/-- return x: what is owned is handed out, what is shared is told -/
def wRetV (i : Nat) : WS := fun D ρ => match ρ[i]? with
  | some (some ⟨.own, d⟩) => D.rt (ρ.set i none) ⟨.own, d⟩
  | some (some ⟨.shr, d⟩) => D.rt ρ (P d)
  | _ => False
theorem ds_retV {X : Cx} {v0 : Cv} {pos : Pos} (i : Nat) {x : Str} {p' : Pos} (hN : X.N[i]? = some x := by rfl) (hv : Vis X.env.scope x := by first | exact Or.inl rfl | exact Or.inr (Or.inl rfl) | exact Or.inr (Or.inr rfl)) (hd : (x == ("__debug__" : Str)) = false := by decide)
    (hcd : (x == ("__classdict__" : Str)) = false := by decide) : DS X v0 (.Return (some (.Name x p')) pos) (wRetV i) := by
  refine ⟨_, ps_ret (pe_var hN hv hd hcd), fun σ H ρ F S Dd D e h => ?_⟩
  unfold wRetV at h
  split at h
  · rename_i d e1
    obtain ⟨v, e2, so⟩ := S.slot i _ e1
    refine ⟨v, e2, ?_⟩
    refine e.rt σ v H (ρ.set i none) (sF F i []) ⟨.own, d⟩ (F i) (S.drop i (S.ilt e1)) (Step.drop i (S.ilt e1)) ⟨so, S.nd i, fun a ha z => ?_, fun a ha => .inl ⟨i, ha⟩⟩ h
    obtain ⟨j, hj⟩ := z
    unfold sF at hj
    split at hj
    · cases hj
    · rename_i n
      exact n (S.dj j i a hj ha)
  · rename_i d e1
    obtain ⟨v, e2, so⟩ := S.slot i _ e1
    obtain ⟨G, h1, h2⟩ := so
    exact ⟨v, e2, e.rt σ v H ρ F ⟨.shr, d⟩ G S Step.refl ⟨h1, h2⟩ h⟩
  · exact h.elim
theorem wT_lit {n : Nat} {u : WGs} {k : Kd} {ds : List PyData} {ρ : DEnv} {Q : DEnv → Prop} : wTupT n u ⟨k, .tuple ds⟩ ρ Q = (ds.length = n ∧ (if purs ds = true then u .shr ds ρ Q else match k with
    | .own => u .own ds ρ Q
    | .shr => u .shr ds ρ Q
    | _ => False)) := rfl
theorem wLen_lst {k : Kd} {ds : List PyData} {Q : R → Prop} : wLen [⟨k, .list ds⟩] Q = Q (P (.int (ds.length : Int))) := rfl
theorem wLen_tup {k : Kd} {ds : List PyData} {Q : R → Prop} : wLen [⟨k, .tuple ds⟩] Q = Q (P (.int (ds.length : Int))) := rfl
theorem wLen_str {k : Kd} {z : Str} {Q : R → Prop} : wLen [⟨k, .str z⟩] Q = (z.length ≤ sizeLine ∧ Q (P (.int (z.length : Int)))) := rfl
end DL
namespace L2
open PySem PySem.Spec PyProof.Rows
theorem tuple_mul1 (l : Addr) (items : Array Value) (n : Nat) (dd : Option Addr) (sl : Array (Option Value)) (x : Int) (u : Tok) (c0 : (decide (x < -(2 ^ 63)) || decide (x ≥ 2 ^ 63)) = false) (c1 : (items.isEmpty || x == 1) = true) :
    Meets (Builtin.«tuple.__mul__» ⟨[.ref l, .int x u], []⟩) (fun _ R s => s.heap.get? l = some { cls := .type "tuple", dict := dd, data := .seq items n, slots := sl } ∧
      R (.ok (.ret (Value.ref l))) s) :=
  .of_wp fun prog w A R s h => by
    obtain ⟨hp, g, d, tk, os⟩ := s
    obtain ⟨hl, h⟩ := h
    have f1 := AutoSeq1.idx_int
    wp_walk using wpAny_loadPart' hl
    repeat (first
      | (refine wpAny_ite_false (decide_eq_false (by rw [c0]; exact Bool.false_ne_true)) ?_; wp_walk using wpAny_loadPart' hl)
      | (refine wpAny_ite_true (decide_eq_true c1) ?_; wp_walk using wpAny_loadPart' hl))
    exact ⟨_, rfl, h⟩
def rRepT1 (K : PySem.W.Frag) : R2 := fun x y H Q => ∃ l k xs, x = .ref l ∧ y = .int k ∧ SqT K H l xs ∧ (xs = [] ∨ k = 1) ∧ -(2 ^ 63) ≤ k ∧ k < 2 ^ 63 ∧ Q (.ref l) H
theorem op_repT1 {X : Cx} : OpR X (binaryOp .Mult) (rRepT1 X.K) := by
  intro pins s σ H x y v u Q I rx ry h
  obtain ⟨l, k, xs, rfl, rfl, hT, hne, h1, h2, q⟩ := h
  cases rx
  obtain ⟨t, rfl⟩ := ry
  obtain ⟨its, r, ⟨⟨cls, dd, data, sl⟩, ho, hc, n, hd⟩, hs⟩ := I.tuple hT
  simp only at hc hd
  subst hc hd
  have hle : its.length = xs.length := r.length.symm
  have c0 : (decide (k < -(2 ^ 63)) || decide (k ≥ 2 ^ 63)) = false := by
    rw [decide_eq_false (by omega), decide_eq_false (by omega)] <;> rfl
  have c1 : (its.toArray.isEmpty || k == 1) = true := by
    rcases hne with rfl | rfl
    · have := List.eq_nil_of_length_eq_zero hle
      subst this; rfl
    · simp
  refine wpAny_binaryOp_repeat_ref (T := "tuple") (U := "int") (by decide) ⟨_, ho, rfl⟩ (fun s' => typeIs_int s' k t) noFill_tuple_mul F.fills_int_mul F.slot_int_rmul repeat_tuple F.slot_int_index.lookup
    (call_meets F.slot_int_rmul (typeIs_int s k t) F.entry_int_rmul (F.args_int_rmul_2 _ _) (int_rmul_tuple k t l its.toArray n dd sl)
      ⟨ho, rfl, ⟨_, ho, rfl⟩, call_meets F.slot_tuple_mul ⟨_, ho, rfl⟩ F.entry_tuple_mul (F.args_tuple_mul_2 _ _) (tuple_mul1 l its.toArray n dd sl k t c0 c1) ⟨ho, ?_⟩⟩)
  exact ⟨.ref l, H, I, rfl, q⟩
def rRepT2 (K : PySem.W.Frag) : R2 := fun x y H Q => ∃ l k xs, x = .ref l ∧ y = .int k ∧ SqT K H l xs ∧ xs ≠ [] ∧ 2 ≤ k ∧ k < 2 ^ 63 ∧ xs.length * k.toNat ≤ sizeLine ∧ ∀ p, H p = none → Q (.ref p) (upd H p (.tup (List.replicate k.toNat xs).flatten))
theorem op_repT2 {X : Cx} : OpR X (binaryOp .Mult) (rRepT2 X.K) := by
  rintro pins s σ H x y v u Q I rx ry ⟨l, k, xs, rfl, rfl, hT, hne, h1, h2, hz, q⟩
  cases rx
  obtain ⟨t, rfl⟩ := ry
  obtain ⟨its, r, ⟨⟨cls, dd, data, sl⟩, ho, hc, n, hd⟩, hs⟩ := I.tuple hT
  simp only at hc hd
  subst hc hd
  have el : its.length = xs.length := r.length.symm
  have sz : its.toArray.size = xs.length := by rw [List.size_toArray, el]
  have ne : its.toArray.isEmpty = false := by
    cases its with
    | nil => exact absurd (List.eq_nil_of_length_eq_zero (by rw [← el]; rfl)) hne
    | cons a b => rfl
  have fl : (List.replicate k.toNat its).flatten.length ≤ sizeLine := by
    rw [PyProof.Rows.lm_len_rep_flat, el, Nat.mul_comm]; exact hz
  have kn : ((its.toArray.size : Nat) : Int) * k ≤ 16777216 := by
    rw [sz]
    have : ((xs.length * k.toNat : Nat) : Int) = (xs.length : Int) * k := by
      rw [Int.natCast_mul, Int.toNat_of_nonneg (by omega)]
    rw [← this]
    rw [sizeLine_eq] at hz
    omega
  refine wpAny_binaryOp_repeat_ref (T := "tuple") (U := "int") (by decide) ⟨_, ho, rfl⟩ (fun s' => typeIs_int s' k t) noFill_tuple_mul F.fills_int_mul F.slot_int_rmul repeat_tuple F.slot_int_index.lookup
    (call_meets F.slot_int_rmul (typeIs_int s k t) F.entry_int_rmul (F.args_int_rmul_2 _ _) (int_rmul_tuple k t l its.toArray n dd sl)
      ⟨ho, rfl, ⟨_, ho, rfl⟩, call_meets F.slot_tuple_mul ⟨_, ho, rfl⟩ F.entry_tuple_mul (F.args_tuple_mul_2 _ _) (tuple_mulW l its.toArray n dd sl k t
        (by rw [decide_eq_false (show ¬ k < -(2 ^ 63) by omega), decide_eq_false (show ¬ k ≥ 2 ^ 63 by omega)]; rfl)
        (by rw [ne, Bool.false_or]; exact beq_eq_false_iff_ne.mpr (by omega)) (by rw [ne, Bool.or_false]; exact decide_eq_false (by omega)) (by omega)
        (by unfold Builtin.Tuple.tupleTooMany; rw [sizeLine_eq]; exact decide_eq_false (by omega)) (by rw [size_rep, List.size_toArray]; exact fl)) ⟨ho, ?_⟩⟩)
  rw [size_rep]
  exact ⟨.ref s.heap.objs.size, _, I.laid (t' := s.toks) (o := .tup (List.replicate k.toNat xs).flatten) (fun b ob q => Heap.get?_push_of_some _ q) (Nat.le_refl _)
    ⟨by rw [PyProof.Rows.lm_len_rep_flat, Nat.mul_comm]; exact hz, _, r.rep k.toNat, IsTup.new _ _⟩, rfl, q _ (I.hok.fresh (Nat.le_refl _))⟩
end L2
namespace DL
open PySem PySem.Spec PyProof.Rows L2
def wMulT : R → R → (R → Prop) → Prop := fun a b Q => match a.d, b.d with
  | .int i, .int j => CMul i j ∧ Q (P (.int (i * j)))
  | .list xs, .int k => -(2 ^ 63) ≤ k ∧ k < 2 ^ 63 ∧ xs.length * k.toNat ≤ sizeLine ∧ Q ⟨kOf (List.replicate k.toNat xs).flatten, .list (List.replicate k.toNat xs).flatten⟩
  | .tuple xs, .int k => 0 ≤ k ∧ k < 2 ^ 63 ∧ xs.length * k.toNat ≤ sizeLine ∧ (xs = [] ∨ 1 ≤ k) ∧ Q ⟨kOfT (List.replicate k.toNat xs).flatten, .tuple (List.replicate k.toNat xs).flatten⟩
  | _, _ => False
def rMulT (K : PySem.W.Frag) : R2 := fun x y H Q => (((rI CMul fun i j => .int (i * j)) x y H Q ∨ rRepL K x y H Q) ∨ rRepT2 K x y H Q) ∨ rRepT1 K x y H Q
theorem op_mulT {X : Cx} : OpR X (binaryOp .Mult) (rMulT X.K) := (op_mulA.or op_repT2).or op_repT1
theorem od_mulT {K : PySem.W.Frag} : OD K (rMulT K) wMulT := by
  intro N H x y rx ry ax ay Qd Q hw k
  obtain ⟨kx, dx⟩ := rx
  obtain ⟨ky, dy⟩ := ry
  unfold wMulT at hw
  cases dx <;> cases dy <;> first | exact hw.elim | skip
  · exact .inl (.inl (od_mul N H x y ⟨kx, .int _⟩ ⟨ky, .int _⟩ ax ay Qd Q hw k))
  · exact .inl (.inl (od_mul N H x y ⟨kx, .list _⟩ ⟨ky, .int _⟩ ax ay Qd Q hw k))
  · rename_i ds j
    rw [arg_int ay]
    obtain ⟨G1, q1, q3⟩ := ax
    obtain ⟨a, xs, rfl, hs, ra⟩ := Rp.sqt q1
    obtain ⟨h1, h2, h3, h4, hq⟩ := hw
    have hl := ra.length
    by_cases z : xs = [] ∨ j = 1
    · refine .inr ⟨a, j, xs, rfl, rfl, hs, z, by omega, by omega, ?_⟩
      have e : (List.replicate j.toNat ds).flatten = ds := by
        rcases z with rfl | rfl
        · have : ds = [] := List.eq_nil_of_length_eq_zero hl.symm
          subst this
          induction j.toNat with
          | zero => rfl
          | succ n ih => rw [List.replicate_succ, List.flatten_cons, ih]; rfl
        · simp
      rw [e] at hq
      unfold kOfT at hq
      by_cases p : purs ds = true
      · rw [if_pos p] at hq
        obtain ⟨_, q4⟩ := Rp.pure' (m' := false) _ _ _ q1 (by simpa [pur] using p)
        exact k _ H _ [] Ext.refl (NewOk.pure q4) hq
      · rw [if_neg p] at hq
        exact k _ H ⟨.als, _⟩ G1 Ext.refl q1 hq
    · have z1 : xs ≠ [] := fun e => z (.inl e)
      have z2 : j ≠ 1 := fun e => z (.inr e)
      have z3 : ds ≠ [] := fun e => z1 (List.eq_nil_of_length_eq_zero (by rw [hl, e]; rfl))
      have h5 : 1 ≤ j := h4.resolve_left z3
      refine .inl (.inr ⟨a, j, xs, rfl, rfl, hs, z1, by omega, h2, by rw [hl]; exact h3, fun p np => ?_⟩)
      obtain ⟨G2, q2⟩ := ra.rep j.toNat
      obtain ⟨G', n⟩ := new_tup (N := N) np q2
      exact k _ _ _ G' (Ext.upd np) n hq
theorem cutD_to {ds : List PyData} {n : Nat} : cutD ds none (some (n : Int)) = ds.take n := by
  unfold cutD
  rw [HT.sIx_none, HT.sIx_nat, List.drop_zero, Nat.sub_zero, List.take_eq_take_iff]
  omega
theorem cutD_from {ds : List PyData} {n : Nat} : cutD ds (some (n : Int)) none = ds.drop n := by
  unfold cutD
  rw [HT.sIx_none, HT.sIx_nat]
  by_cases h : n ≤ ds.length
  · rw [Nat.min_eq_left h, ← List.length_drop, List.take_length]
  · rw [Nat.min_eq_right (by omega), List.drop_eq_nil_of_le (by omega), List.drop_eq_nil_of_le (by omega)]; simp
theorem kOfT_map {α : Type} {xs : List α} {f : α → PyData} (h : ∀ x ∈ xs, pur (f x) = true) : kOfT (xs.map f) = .shr := kOfT_pur (purs_map' h)
theorem top_nat (w : Nat) : (2 : Int) ^ w - 1 = ((2 ^ w - 1 : Nat) : Int) := by
  have h := Nat.two_pow_pos w
  have e : ((2 ^ w : Nat) : Int) = (2 : Int) ^ w := by simp
  omega
/-- a comprehension whose element changes what is owned -/
theorem wLc_ix {α : Type} {wi : WI} {g : WG} {we : WE} {vs : List Nat} {ρ : DEnv} {Q : DEnv → R → Prop} (xs : List α) (enc : α → PyData) (I : Nat → DEnv → List PyData → Prop) (hl : xs.length ≤ sizeLine) (ha : ∀ k ρ acc, I k ρ acc → acc.length ≤ k)
    (hi : ∀ Q : DEnv → List PyData → Prop, (∀ ρ1, I 0 (wipeD ρ1 vs) [] → Q ρ1 (xs.map enc)) → wi ρ Q)
    (hs : ∀ (k : Nat) (x : α) (ρ' : DEnv) (acc : List PyData) (N : DEnv → R → Prop), xs[k]? = some x → I k ρ' acc → (∀ ρ4 r, owp r = true → I (k + 1) (wipeD ρ4 vs) (acc ++ [r.d]) → N ρ4 r) → g ⟨.shr, enc x⟩ ρ' fun ρ2 => we ρ2 N)
    (q : ∀ ρ' acc, I xs.length ρ' acc → Q ρ' ⟨.own, .list acc⟩) : wLc wi g wYes we vs ρ Q := by
  refine hi _ fun ρ1 h0 => ⟨I, h0, fun k d ρ' acc hd hI => ?_, fun ρ' acc hI => q ρ' acc (by simpa using hI)⟩
  obtain ⟨x, hx, rfl⟩ := map_inv hd
  unfold wYes
  simp only [if_true]
  refine hs k x ρ' acc _ hx hI fun ρ4 r ho h => ⟨ho, ?_, h⟩
  have := lt_of_some hx
  have := ha k ρ' acc hI
  omega
theorem flat_rep_map {α β : Type} (f : α → β) (p : List α) (k : Nat) : (List.replicate k (p.map f)).flatten = ((List.replicate k p).flatten).map f := by
  rw [List.map_flatten, List.map_replicate]
theorem sld_shr {d : PyData} {Q : R → Prop} : sld ⟨.shr, d⟩ Q = Q ⟨.shr, d⟩ := by unfold sld; simp
theorem sld_ol {ds : List PyData} {Q : R → Prop} : sld ⟨.own, .list ds⟩ Q = Q ⟨.own, .list ds⟩ := by simp [sld, pur]
theorem sld_od {ds : List (PyData × PyData)} {Q : R → Prop} : sld ⟨.own, .dict ds⟩ Q = Q ⟨.own, .dict ds⟩ := by simp [sld, pur]
theorem sld_pur {r : R} {Q : R → Prop} (h : pur r.d = true) : sld r Q = Q (P r.d) := by simp [sld, h]
end DL
namespace DL
open PySem PySem.Spec PyProof.Rows L2
section
variable {k k' : Kd} {Q : R → Prop} {g : Bool → Bool}
theorem wEq_ss {x y : Str} : wEq g ⟨k, .str x⟩ ⟨k', .str y⟩ Q = Q (P (.bool (g (x == y)))) := rfl
theorem wEq_ii {x y : Int} : wEq g ⟨k, .int x⟩ ⟨k', .int y⟩ Q = Q (P (.bool (g (x == y)))) := rfl
theorem wEq_ll {x y : List PyData} : wEq g ⟨k, .list x⟩ ⟨k', .list y⟩ Q = (nodct (.list x) = true ∧ nodct (.list y) = true ∧ SeqAt.shaped (.list x) = true ∧ SeqAt.shaped (.list y) = true ∧ Q (P (.bool (g (PyData.eqv (.list x) (.list y)))))) := rfl
theorem wEq_tt {x y : List PyData} : wEq g ⟨k, .tuple x⟩ ⟨k', .tuple y⟩ Q = (nodct (.tuple x) = true ∧ nodct (.tuple y) = true ∧ SeqAt.shaped (.tuple x) = true ∧ SeqAt.shaped (.tuple y) = true ∧ Q (P (.bool (g (PyData.eqv (.tuple x) (.tuple y)))))) := rfl
theorem wAdd_ii {x y : Int} : wAdd ⟨k, .int x⟩ ⟨k', .int y⟩ Q = Q (P (.int (x + y))) := rfl
theorem wAdd_ss {x y : Str} : wAdd ⟨k, .str x⟩ ⟨k', .str y⟩ Q = (x.length + y.length ≤ sizeLine ∧ Q (P (.str (x ++ y)))) := rfl
theorem wAdd_ll {x y : List PyData} : wAdd ⟨k, .list x⟩ ⟨k', .list y⟩ Q = (x.length + y.length ≤ sizeLine ∧ Q ⟨kOf (x ++ y), .list (x ++ y)⟩) := rfl
theorem wAdd_tt {x y : List PyData} : wAdd ⟨k, .tuple x⟩ ⟨k', .tuple y⟩ Q = (x.length + y.length ≤ sizeLine ∧ Q ⟨kOfT (x ++ y), .tuple (x ++ y)⟩) := rfl
theorem wMul_ii {x y : Int} : wMulT ⟨k, .int x⟩ ⟨k', .int y⟩ Q = (CMul x y ∧ Q (P (.int (x * y)))) := rfl
theorem wMul_li {xs : List PyData} {y : Int} : wMulT ⟨k, .list xs⟩ ⟨k', .int y⟩ Q = (-(2 ^ 63) ≤ y ∧ y < 2 ^ 63 ∧ xs.length * y.toNat ≤ sizeLine ∧ Q ⟨kOf (List.replicate y.toNat xs).flatten, .list (List.replicate y.toNat xs).flatten⟩) := rfl
theorem wMul_ti {xs : List PyData} {y : Int} : wMulT ⟨k, .tuple xs⟩ ⟨k', .int y⟩ Q = (0 ≤ y ∧ y < 2 ^ 63 ∧ xs.length * y.toNat ≤ sizeLine ∧ (xs = [] ∨ 1 ≤ y) ∧ Q ⟨kOfT (List.replicate y.toNat xs).flatten, .tuple (List.replicate y.toNat xs).flatten⟩) := rfl
theorem wInt_i {x : Int} : wInt [⟨k, .int x⟩] Q = Q (P (.int x)) := rfl
theorem wInt_b {x : Bool} : wInt [⟨k, .bool x⟩] Q = Q (P (.int (if x then 1 else 0))) := rfl
theorem wInt_s {x : Str} : wInt [⟨k, .str x⟩] Q = ∃ n, PySem.intText? x = some n ∧ x.length ≤ 640 ∧ Q (P (.int n)) := rfl
theorem wStr_i {x : Int} : wStr [⟨k, .int x⟩] Q = (x.natAbs.log2 < 1920 ∧ Q (P (.str (toString x)))) := rfl
theorem wStr_s {x : Str} : wStr [⟨k, .str x⟩] Q = Q (P (.str x)) := rfl
theorem wAbs_i {x : Int} : wAbs [⟨k, .int x⟩] Q = Q (P (.int (if x < 0 then -x else x))) := rfl
theorem wSum_l {ds : List PyData} : wSum [⟨k, .list ds⟩] Q = ∃ ns : List Int, ds = ns.map PyData.int ∧ Q (P (.int ns.sum)) := rfl
theorem wTupC_l {ds : List PyData} : wTupC [⟨k, .list ds⟩] Q = Q ⟨kOfT ds, .tuple ds⟩ := rfl
theorem wTupC_t {ds : List PyData} : wTupC [⟨k, .tuple ds⟩] Q = Q ⟨kOfT ds, .tuple ds⟩ := rfl
theorem wLstC_l {ds : List PyData} : wLstC [⟨k, .list ds⟩] Q = Q ⟨kOf ds, .list ds⟩ := rfl
theorem wLstC_t {ds : List PyData} : wLstC [⟨k, .tuple ds⟩] Q = Q ⟨kOf ds, .list ds⟩ := rfl
theorem wMax_ii {i j : Int} : wMax [⟨k, .int i⟩, ⟨k', .int j⟩] Q = Q (P (.int (max i j))) := rfl
theorem wMin_ii {i j : Int} : wMin [⟨k, .int i⟩, ⟨k', .int j⟩] Q = Q (P (.int (min i j))) := rfl
theorem wMax_l {ds : List PyData} : wMax [⟨k, .list ds⟩] Q = ∃ ns : List Int, ds = ns.map PyData.int ∧ 0 < ns.length ∧ ∀ m, m ∈ ns → (∀ y, y ∈ ns → y ≤ m) → Q (P (.int m)) := rfl
theorem wMin_l {ds : List PyData} : wMin [⟨k, .list ds⟩] Q = ∃ ns : List Int, ds = ns.map PyData.int ∧ 0 < ns.length ∧ ∀ m, m ∈ ns → (∀ y, y ∈ ns → m ≤ y) → Q (P (.int m)) := rfl
theorem wNeg_i {x : Int} : wNeg ⟨k, .int x⟩ Q = Q (P (.int (-x))) := rfl
def cutR (r : R) (lo hi : Option Int) (Q : R → Prop) : Prop := match r.d with
  | .list ds => Q ⟨kOf (cutD ds lo hi), .list (cutD ds lo hi)⟩
  | .tuple ds => Q ⟨kOfT (cutD ds lo hi), .tuple (cutD ds lo hi)⟩
  | .str z => z.length ≤ sizeLine ∧ Q (P (.str (cutS z lo hi)))
  | _ => False
theorem wSlc_eq {we : WE} {wl wh : WPt} {ρ : DEnv} {Q : DEnv → R → Prop} : wSlc we wl wh ρ Q = we ρ fun ρ1 r => wl ρ1 fun lo => wh ρ1 fun hi => cutR r lo hi (Q ρ1) := rfl
theorem cutR_l {ds : List PyData} {lo hi : Option Int} : cutR ⟨k, .list ds⟩ lo hi Q = Q ⟨kOf (cutD ds lo hi), .list (cutD ds lo hi)⟩ := rfl
theorem cutR_t {ds : List PyData} {lo hi : Option Int} : cutR ⟨k, .tuple ds⟩ lo hi Q = Q ⟨kOfT (cutD ds lo hi), .tuple (cutD ds lo hi)⟩ := rfl
theorem cutR_s {z : Str} {lo hi : Option Int} : cutR ⟨k, .str z⟩ lo hi Q = (z.length ≤ sizeLine ∧ Q (P (.str (cutS z lo hi)))) := rfl
end
def truR (d : PyData) (Q : Bool → Prop) : Prop := match d with
  | .none => Q false
  | .bool b => Q b
  | .int i => Q (i != 0)
  | .str y => y.length ≤ sizeLine ∧ Q ((y.length : Int) != 0)
  | .list xs => Q (!xs.isEmpty)
  | .tuple xs => Q (!xs.isEmpty)
  | .dict _ => False
theorem wTru_eq {w : WE} {ρ : DEnv} {Q : DEnv → Bool → Prop} : wTru w ρ Q = w ρ fun ρ1 r => truR r.d (Q ρ1) := by
  unfold wTru truR
  rfl
theorem truR_n {Q : Bool → Prop} : truR .none Q = Q false := rfl
theorem truR_b {Q : Bool → Prop} {b : Bool} : truR (.bool b) Q = Q b := rfl
theorem truR_i {Q : Bool → Prop} {i : Int} : truR (.int i) Q = Q (i != 0) := rfl
theorem truR_s {Q : Bool → Prop} {y : Str} : truR (.str y) Q = (y.length ≤ sizeLine ∧ Q ((y.length : Int) != 0)) := rfl
theorem truR_l {Q : Bool → Prop} {xs : List PyData} : truR (.list xs) Q = Q (!xs.isEmpty) := rfl
theorem truR_t {Q : Bool → Prop} {xs : List PyData} : truR (.tuple xs) Q = Q (!xs.isEmpty) := rfl
def booR (d : PyData) (Q : Bool → Prop) : Prop := match d with
  | .bool b => Q b
  | _ => False
theorem wB_eq {w : WE} {ρ : DEnv} {Q : DEnv → Bool → Prop} : wB w ρ Q = w ρ fun ρ1 r => booR r.d (Q ρ1) := by
  unfold wB booR
  rfl
theorem booR_b {Q : Bool → Prop} {b : Bool} : booR (.bool b) Q = Q b := rfl
def isR (g : Bool → Bool) (d : PyData) (Q : R → Prop) : Prop := Q (P (.bool (g (isNo d))))
theorem wIs_n {k : Kd} {g : Bool → Bool} {r : R} {Q : R → Prop} : wIs g r ⟨k, .none⟩ Q = Q (P (.bool (g (isNo r.d)))) := rfl
theorem isNo_n : isNo .none = true := rfl
theorem isNo_i {i : Int} : isNo (.int i) = false := rfl
theorem isNo_t {xs : List PyData} : isNo (.tuple xs) = false := rfl
theorem isNo_l {xs : List PyData} : isNo (.list xs) = false := rfl
theorem isNo_s {x : Str} : isNo (.str x) = false := rfl
theorem isNo_b {x : Bool} : isNo (.bool x) = false := rfl
theorem wIn_l {k : Kd} {g : Bool → Bool} {r : R} {ds : List PyData} {Q : R → Prop} : wIn g r ⟨k, .list ds⟩ Q = (nodct r.d = true ∧ nodcts ds = true ∧ SeqAt.shaped r.d = true ∧ SeqAt.shaped (.list ds) = true ∧ Q (P (.bool (g (ds.any fun z => PyData.eqv z r.d))))) := rfl
theorem purs_take {xs : List PyData} {n : Nat} (h : purs xs = true) : purs (xs.take n) = true := purs_of fun d hd => purs_iff.mp h d (List.mem_of_mem_take hd)
theorem purs_drop {xs : List PyData} {n : Nat} (h : purs xs = true) : purs (xs.drop n) = true := purs_of fun d hd => purs_iff.mp h d (List.mem_of_mem_drop hd)
theorem wLc0_mapE {α : Type} {wi : WI} {g : WG} {we : WE} {vs : List Nat} {ρ : DEnv} {Q : DEnv → R → Prop} (xs : List α) (enc h : α → PyData) (hl : xs.length ≤ sizeLine)
    (hi : ∀ Q : DEnv → List PyData → Prop, Q ρ (xs.map enc) → wi ρ Q)
    (hs : ∀ (k : Nat) (x : α) (Q : DEnv → R → Prop), xs[k]? = some x → (∀ ρ4 r, r.d = h x → owp r = true → Q ρ4 r) → g ⟨.shr, enc x⟩ (wipeD ρ vs) fun ρ2 => we ρ2 Q)
    (q : Q ρ ⟨.own, .list (xs.map h)⟩) : wLc0 wi g wYes we vs ρ Q := wLc0_map xs enc h hl hi hs q
theorem wLc0_fmapE {α : Type} {wi : WI} {g : WG} {tt : WT} {we : WE} {vs : List Nat} {ρ : DEnv} {Q : DEnv → R → Prop} (xs : List α) (enc h : α → PyData) (p : α → Bool) (hl : xs.length ≤ sizeLine)
    (hi : ∀ Q : DEnv → List PyData → Prop, Q ρ (xs.map enc) → wi ρ Q)
    (hs : ∀ (k : Nat) (x : α) (Q : DEnv → R → Prop) (N : Prop), xs[k]? = some x → (p x = true → ∀ ρ4 r, r.d = h x → owp r = true → Q ρ4 r) → (p x = false → N) → g ⟨.shr, enc x⟩ (wipeD ρ vs) fun ρ2 => tt ρ2 fun ρ3 c => if c = true then we ρ3 Q else N)
    (q : Q ρ ⟨.own, .list ((xs.filter p).map h)⟩) : wLc0 wi g tt we vs ρ Q := wLc0_fmap xs enc h p hl hi hs q
theorem wRepr_i {kd : Kd} {i : Int} {k L : Nat} {Q : R → Prop} (h : Sh (.int i) k L) (q : Q (P (.str (toString i)))) : wRepr [⟨kd, .int i⟩] Q := ⟨by simpa [PyData.showable] using h.sh, q⟩
theorem sld_int {k : Kd} {i : Int} {Q : R → Prop} : sld ⟨k, .int i⟩ Q = Q (P (.int i)) := sld_pur rfl
theorem sld_str {k : Kd} {i : Str} {Q : R → Prop} : sld ⟨k, .str i⟩ Q = Q (P (.str i)) := sld_pur rfl
theorem sld_bool {k : Kd} {i : Bool} {Q : R → Prop} : sld ⟨k, .bool i⟩ Q = Q (P (.bool i)) := sld_pur rfl
theorem sld_none {k : Kd} {Q : R → Prop} : sld ⟨k, .none⟩ Q = Q (P .none) := sld_pur rfl
theorem sld_tup {k : Kd} {ds : List PyData} {Q : R → Prop} (h : purs ds = true) : sld ⟨k, .tuple ds⟩ Q = Q (P (.tuple ds)) := sld_pur (by simpa [pur] using h)
end DL
namespace DL
open PySem PySem.Spec PyProof.Rows L2
/-- a list (false) or a tuple (true) -/
def seqH : Bool → Heap → Addr → Array Value → Prop
  | false, h, l, xs => h.IsList l xs
  | true, h, l, xs => h.IsTuple l xs
def itrH : Bool → Heap → Addr → Addr → Nat → Prop
  | false, h, it, l, i => h.IsListIter it l i
  | true, h, it, l, i => h.IsTupleIter it l i
def SqX (K : PySem.W.Frag) : Bool → Hp → Addr → List V → Prop
  | false, H, a, xs => SqL K H a xs
  | true, H, a, xs => SqT K H a xs
theorem drawsX {prog : Program} {w : World} {A : Around} (hh : A.handled = none) (t : Bool) (it l : Addr) (ne : l ≠ it) (xs : Array Value) :
    Draws prog w A it [it, l] xs.size (fun i v => xs[i]? = some v) (fun i h => itrH t h it l i ∧ seqH t h l xs) := by
  cases t
  · exact Draws.list hh it l ne xs
  · exact Draws.tuple hh it l ne xs
def objX (t : Bool) (l : Addr) : Obj := { cls := .type (if t then "tuple_iterator" else "list_iterator"), data := .fields #[.ref l, .int 0 0] }
theorem beginsX (t : Bool) (l : Addr) (xs : Array Value) : Begins (.ref l) (objX t l) fun h => seqH t h l xs := by
  cases t
  · exact begins_list l xs
  · exact begins_tuple l xs
section
variable {X : Cx} {pins : List (Addr × Obj)} {σ : L2.St} {H : Hp} {s : Shared} {a : Addr} {xs ys : List V}
theorem sqX_at (t : Bool) (I : Inv X pins σ H s) (h : SqX X.K t H a xs) : ∃ its : List Value, Vals xs its ∧ seqH t s.heap a its.toArray ∧ xs.length ≤ sizeLine := by
  cases t
  · obtain ⟨its, r, p, z⟩ := I.list h
    exact ⟨its, r, p.isList, z⟩
  · obtain ⟨its, r, p, z⟩ := I.tuple h
    exact ⟨its, r, p, z⟩
theorem sqX_inj (t : Bool) (I : Inv X pins σ H s) (h : SqX X.K t H a xs) (h' : SqX X.K t H a ys) : xs = ys := by
  cases t
  · exact I.list_inj h h'
  · exact I.tuple_inj h h'
end
def ItzX (K : PySem.W.Frag) (t u : Bool) (a b : Addr) : It where
  go i H := ∃ (xs ys : List V) (x y : V), SqX K t H a xs ∧ SqX K u H b ys ∧ xs[i]? = some x ∧ ys[i]? = some y
  yld i H v H' := ∃ T x y, v = .ref T ∧ H T = none ∧ H' = upd H T (.tup [x, y]) ∧ (∀ xs, SqX K t H a xs → xs[i]? = some x) ∧ ∀ ys, SqX K u H b ys → ys[i]? = some y
  stop i H := ∃ xs ys : List V, SqX K t H a xs ∧ SqX K u H b ys ∧ i = min xs.length ys.length
theorem itrX_obj {t : Bool} {h : Heap} {it l : Addr} {i : Nat} (x : itrH t h it l i) : ∃ o, h.get? it = some o ∧ ∀ v, o.data ≠ .cell v := by
  cases t
  · obtain ⟨o, e, _, d⟩ := x
    exact ⟨o, e, fun v q => by rw [d] at q; cases q⟩
  · obtain ⟨o, e, _, d⟩ := x
    exact ⟨o, e, fun v q => by rw [d] at q; cases q⟩
theorem itrX_at {t : Bool} {h h' : Heap} {it l : Addr} {i : Nat} (x : itrH t h it l i) (k : ∀ o, h.get? it = some o → h'.get? it = some o) : itrH t h' it l i := by
  cases t
  · exact Heap.IsListIter.at x k
  · exact Heap.IsTupleIter.at x k
theorem turn_zipX {P : Program} {w : World} {K : PySem.W.Frag} {elts : List Expr} {kk : Nat} {tpos : Pos} (t u : Bool) {a b z TI TO i1 i2 : Addr} (S : ZipSep2 z TI TO i1 i2 [i1, a] [i2, b]) (na : a ≠ i1) (nb : b ≠ i2) :
    Turn P w K (.Tuple elts kk tpos) (ItzX K t u a b) [z, TI, TO, i1, i2] z (fun i h => IsZip h z TI TO .none ∧ IsTupOf2 h TI (.ref i1) (.ref i2) ∧ (∃ x y, IsTupOf2 h TO x y) ∧ itrH t h i1 a i ∧ itrH u h i2 b i) where
  mem := List.mem_cons_self
  obj := by
    rintro i h ⟨hz, hI, ⟨x, y, hO⟩, j1, j2⟩ c hc
    simp only [List.mem_cons, List.not_mem_nil, or_false] at hc
    rcases hc with rfl | rfl | rfl | rfl | rfl
    · exact ⟨_, hz, fun v e => by cases e⟩
    · exact ⟨_, hI, fun v e => by cases e⟩
    · exact ⟨_, hO, fun v e => by cases e⟩
    · exact itrX_obj j1
    · exact itrX_obj j2
  keep := by
    rintro i h h' ⟨hz, hI, ⟨x, y, hO⟩, j1, j2⟩ k
    exact ⟨k _ (by simp) _ hz, k _ (by simp) _ hI, ⟨x, y, k _ (by simp) _ hO⟩, itrX_at j1 (k _ (by simp)), itrX_at j2 (k _ (by simp))⟩
  item := by
    rintro X rfl rfl rfl hc i pins s σ H E I hf ⟨hz, hI, hO, j1, j2⟩ ⟨xs, ys, x, y, qx, qy, ex, ey⟩
    have hh : X.A.in1.handled = none := I.ok.hd hc
    obtain ⟨its, r1, s1, _⟩ := sqX_at t I qx
    obtain ⟨jts, r2, s2, _⟩ := sqX_at u I qy
    have G := GoesN.zip2 (elts := elts) (x1 := kk) (pos := tpos) S (drawsX (prog := X.prog) (w := X.w) (A := X.A.in1) hh t i1 a na its.toArray) (drawsX (prog := X.prog) (w := X.w) (A := X.A.in1) hh u i2 b nb jts.toArray)
    have l1 := r1.length
    have l2 := r2.length
    have hi1 := (List.getElem?_eq_some_iff.mp ex).1
    have hi2 := (List.getElem?_eq_some_iff.mp ey).1
    have szs : s.heap.objs.size ≥ 1 := Nat.lt_of_le_of_lt (Nat.zero_le _) (Heap.lt_size hz)
    refine G.goes i s _ E (by simp; omega) ⟨hz, hI, hO, ⟨j1, s1⟩, ⟨j2, s2⟩⟩ ?_
    rintro v h' tk ⟨T, p, q, rfl, hT, hp, hq, hP⟩ ⟨hz', hI', hO', ⟨j1', _⟩, ⟨j2', _⟩⟩ hk htk
    obtain ⟨u1, e1, ru1⟩ := r1.get ex
    obtain ⟨u2, e2, ru2⟩ := r2.get ey
    have e3 : p = u1 := by simpa [e1] using hp.symm
    have e4 : q = u2 := by simpa [e2] using hq.symm
    subst e3 e4
    have nw : ObjOk X.prog X.w (upd H T (.tup [x, y])) h' T (.tup [x, y]) := ⟨by rw [sizeLine_eq]; show 2 ≤ 16777216; decide, [p, q], .cons ru1 (.cons ru2 .nil), hP⟩
    have sub : ∀ c, c ∈ [z, TO, i1, i2] → c ∈ [z, TI, TO, i1, i2] := fun c h => by
      simp only [List.mem_cons, List.not_mem_nil, or_false] at h ⊢
      rcases h with h | h | h | h <;> simp [h]
    have I1 : Inv X pins σ (upd H T (.tup [x, y])) { s with heap := h', toks := tk } := I.turnedNew (ch := [z, TO, i1, i2]) hk (fun c h => hf c (sub c h)) hT nw
    refine ⟨.ref T, _, I1, rfl, ⟨T, x, y, rfl, I.hok.fresh hT, rfl, fun zs h => by rw [sqX_inj t I h qx]; exact ex, fun zs h => by rw [sqX_inj u I h qy]; exact ey⟩, ⟨hz', hI', hO', j1', j2'⟩, fun c h => ?_⟩
    have lt : c < s.heap.objs.size := by
      simp only [List.mem_cons, List.not_mem_nil, or_false] at h
      rcases h with rfl | rfl | rfl | rfl | rfl
      · exact Heap.lt_size hz
      · exact Heap.lt_size hI
      · obtain ⟨_, _, e⟩ := hO; exact Heap.lt_size e
      · obtain ⟨_, e, _⟩ := itrX_obj j1; exact Heap.lt_size e
      · obtain ⟨_, e, _⟩ := itrX_obj j2; exact Heap.lt_size e
    rw [upd_ne (Nat.ne_of_lt (Nat.lt_of_lt_of_le lt hT))]
    exact (hf c h).1
  done := by
    rintro X rfl rfl rfl hc i pins s σ H E I hf ⟨hz, hI, hO, j1, j2⟩ ⟨xs, ys, qx, qy, hi⟩
    have hh : X.A.in1.handled = none := I.ok.hd hc
    obtain ⟨its, r1, s1, _⟩ := sqX_at t I qx
    obtain ⟨jts, r2, s2, _⟩ := sqX_at u I qy
    have G := GoesN.zip2 (elts := elts) (x1 := kk) (pos := tpos) S (drawsX (prog := X.prog) (w := X.w) (A := X.A.in1) hh t i1 a na its.toArray) (drawsX (prog := X.prog) (w := X.w) (A := X.A.in1) hh u i2 b nb jts.toArray)
    have l1 := r1.length
    have l2 := r2.length
    have hn : min its.toArray.size jts.toArray.size = i := by simp; omega
    rw [hn] at G
    have sub : ∀ c, c ∈ [z, TO, i1, i2] → c ∈ [z, TI, TO, i1, i2] := fun c h => by
      simp only [List.mem_cons, List.not_mem_nil, or_false] at h ⊢
      rcases h with h | h | h | h <;> simp [h]
    exact G.stops s _ E ⟨hz, hI, hO, ⟨j1, s1⟩, ⟨j2, s2⟩⟩ fun h' tk hk htk => I.turnedL (ch := [z, TO, i1, i2]) hk fun c h => hf c (sub c h)
  self := fun A i s Q E st h => wpAny_pyIter_zip st.1 h
def iZipX (K : PySem.W.Frag) (ta : TA) : TI := fun σ H R => ta σ H fun vs H1 => ∃ t u a b xs ys, vs = [.ref a, .ref b] ∧ SqX K t H1 a xs ∧ SqX K u H1 b ys ∧ R (ItzX K t u a b) H1
theorem seqX_lt {t : Bool} {h : Heap} {l : Addr} {xs : Array Value} (x : seqH t h l xs) : l < h.objs.size := by
  cases t
  · obtain ⟨o, e, _⟩ := x; exact Heap.lt_size e
  · obtain ⟨o, e, _⟩ := x; exact Heap.lt_size e
theorem itrX_new {t : Bool} {h : Heap} {it l : Addr} (e : h.get? it = some (objX t l)) : itrH t h it l 0 := by
  cases t
  · exact ⟨_, e, rfl, rfl⟩
  · exact ⟨_, e, rfl, rfl⟩
theorem pi_zipX {X : Cx} {e e2 : Expr} {ta : TA} {p pos tpos : Pos} {elts : List Expr} {kk : Nat} (hg : Gl X "zip") (hm : X.mg "zip" = none) (ha : PA X [e, e2] ta)
    (hs : starEach [e, e2] X.env = (false, eval e X.env) :: starEach [e2] X.env := by rfl) (hpl : (backTo pos (starEach [e2] X.env)).any (·.1) = false := by rfl) :
    PI X (.Tuple elts kk tpos) (.Call (.Name "zip" p) [e, e2] [] pos) (iZipX X.K ta) := by
  constructor
  intro pins s σ H R I h
  refine Call_ (ld_blt I hg hm boot_zip (callWith_type1 (thn (ha.run pos pins s σ H _ I h) ?_) hs hpl))
  rintro us s1 ⟨vs, H1, I1, r1, t, u, a, b, xs, ys, rfl, qx, qy, q⟩
  cases r1 with
  | cons r rr =>
  cases rr with
  | cons r' rr =>
  cases rr; cases r; cases r'
  obtain ⟨its, _, s1', _⟩ := sqX_at t I1 qx
  obtain ⟨jts, _, s2', _⟩ := sqX_at u I1 qy
  refine zip_begins2 (beginsX t a its.toArray) (beginsX u b jts.toArray) s1' s2' fun h' hz hI hO g1 g2 hsz hk => wpAny_pyIter_zip hz ?_
  have I2 : Inv X pins σ H1 { s1 with heap := h' } := I1.kept (t' := s1.toks) hk
  have la := seqX_lt s1'
  have lb := seqX_lt s2'
  refine ⟨s1.heap.objs.size + 4, [s1.heap.objs.size + 4, s1.heap.objs.size + 2, s1.heap.objs.size + 3, s1.heap.objs.size, s1.heap.objs.size + 1], _, _, H1, rfl, I2,
    turn_zipX t u (zip_sep2 (fp1 := [a]) (fp2 := [b]) (fun c h => by rw [List.mem_singleton.mp h]; exact la) (fun c h => by rw [List.mem_singleton.mp h]; exact lb)) (Nat.ne_of_lt la) (Nat.ne_of_lt (Nat.lt_succ_of_lt lb)),
    ⟨hz, hI, ⟨_, _, hO⟩, itrX_new g1, itrX_new g2⟩, fun c hc => ?_, q⟩
  have le : s1.heap.objs.size ≤ c := by
    simp only [List.mem_cons, List.not_mem_nil, or_false] at hc
    rcases hc with rfl | rfl | rfl | rfl | rfl
    all_goals first | exact Nat.le_refl _ | exact Nat.le_add_right _ _
  exact I1.fpOk le (I1.hok.fresh le)
theorem walk_zipX {K : PySem.W.Frag} {t u : Bool} {a b : Addr} {xs ys : List V} : Walk (ItzX K t u a b) (min xs.length ys.length) (fun H => SqX K t H a xs ∧ SqX K u H b ys) (YPair (fun i => xs[i]?) (fun i => ys[i]?)) := by
  refine ⟨fun i _ hi q => ?_, fun _ q => ⟨xs, ys, q.1, q.2, rfl⟩, fun i H v H' _ q y => ?_⟩
  · have h1 : i < xs.length := by omega
    have h2 : i < ys.length := by omega
    exact ⟨xs, ys, xs[i], ys[i], q.1, q.2, by simp [h1], by simp [h2]⟩
  · obtain ⟨T, x, z, h1, h2, h3, h4, h5⟩ := y
    exact ⟨T, x, z, h1, h2, h3, h4 xs q.1, h5 ys q.2⟩
/-- the items of both, in pairs -/
def zipd (ds es : List PyData) : List PyData := (ds.zip es).map fun p => .tuple [p.1, p.2]
section
variable {K : PySem.W.Frag} {m : Bool} {F1 : Nat → List Addr} {H1 : Hp} {xs ys : List V} {ds es : List PyData} {G1 G2 : List Addr}
theorem wk_zip {J : It} {S : Hp → Prop} (w : Walk J (min xs.length ys.length) S (YPair (fun i => xs[i]?) (fun i => ys[i]?))) (r1 : RpAll K false H1 xs ds G1) (o1 : (∀ a ∈ G1, ¬ Own F1 a) ∨ (m = true ∧ purs ds = true))
    (r2 : RpAll K false H1 ys es G2) (o2 : (∀ a ∈ G2, ¬ Own F1 a) ∨ (m = true ∧ purs es = true)) (st : ∀ F' H', Rch m F1 H1 F' H' → S H') : WkOk K m F1 H1 J (zipd ds es) := by
  refine ⟨S, _, by simp only [zipd, List.length_map, List.length_zip, ← r1.length, ← r2.length]; exact w, st, fun i H x H' F' hi r lv y => ?_⟩
  obtain ⟨T, u, v, rfl, hT, rfl, hu, hv⟩ := y
  simp only [zipd, List.length_map, List.length_zip] at hi
  obtain ⟨d, hd, Gx, q1, q2⟩ := items_stay r1 o1 (by omega) r lv hu
  obtain ⟨e, he, Gy, q3, q4⟩ := items_stay r2 o2 (by omega) r lv hv
  refine ⟨.tuple [d, e], ?_, Ext.upd hT, _, pair_rp hT q1 q3, fun a i => ?_⟩
  · have := (List.getElem?_eq_some_iff.mp hd)
    have h2 := (List.getElem?_eq_some_iff.mp he)
    obtain ⟨k1, rfl⟩ := this
    obtain ⟨k2, rfl⟩ := h2
    simp [zipd, List.getElem?_zip_eq_some, k1, k2]
  · simp only [List.append_nil, List.mem_append] at i
    rcases i with i | i
    · exact q2 a i
    · exact q4 a i
end
def sqs (m : Bool) (r : R) (ds : List PyData) : Prop := match r.d with
  | .list es => ds = es ∧ (r.k ≠ .als ∨ (m = true ∧ purs es = true))
  | .tuple es => ds = es ∧ stb r = true
  | _ => False
def wZip (m : Bool) (wr : WA) : WI := fun ρ Q => wr ρ fun ρ1 rs => match rs with
  | [r, s] => ∃ ds es, sqs m r ds ∧ sqs m s es ∧ Q ρ1 (zipd ds es)
  | _ => False
theorem sqs_arg {K : PySem.W.Frag} {m : Bool} {F1 : Nat → List Addr} {H1 : Hp} {r : R} {ds : List PyData} {v : V} (A : Arg K (fun a => ¬ Own F1 a) H1 r v) (h : sqs m r ds) :
    ∃ t a xs G', v = .ref a ∧ SqX K t H1 a xs ∧ RpAll K false H1 xs ds G' ∧ ((∀ a ∈ G', ¬ Own F1 a) ∨ (m = true ∧ purs ds = true)) ∧ ∀ F' H', Rch m F1 H1 F' H' → SqX K t H' a xs := by
  obtain ⟨k, d⟩ := r
  unfold sqs at h
  split at h
  · rename_i es e
    obtain ⟨rfl, ok⟩ := h
    have e : d = .list ds := e
    subst e
    obtain ⟨a, xs, G', h1, h2, h3, h4, h5⟩ := sq_listA A ok
    exact ⟨false, a, xs, G', h1, h2, h3, h4, h5⟩
  · rename_i es e
    obtain ⟨rfl, ok⟩ := h
    have e : d = .tuple ds := e
    subst e
    obtain ⟨a, xs, G', h1, h2, h3, h4⟩ := sq_tupA A ok
    exact ⟨true, a, xs, G', h1, h2, h3, .inl h4, fun F' H' r => sqt_keep h2 r.1.tups⟩
  · exact h.elim
theorem di_zip {X : Cx} {v0 : Cv} {ea : Bool} {e e2 : Expr} {pos : Pos} {elts : List Expr} {kk : Nat} {tpos p : Pos} {wr : WA} (m : Bool) (hg : Gl X "zip") (hm : X.mg "zip" = none) (ha : DG X v0 ea [e, e2] wr)
    (hs : starEach [e, e2] X.env = (false, eval e X.env) :: starEach [e2] X.env := by rfl) (hpl : (backTo pos (starEach [e2] X.env)).any (·.1) = false := by rfl) :
    DI X v0 m ea (.Tuple elts kk tpos) (.Call (.Name "zip" p) [e, e2] [] pos) (wZip m wr) := by
  obtain ⟨t, pa, q⟩ := ha
  refine ⟨_, pi_zipX hg hm pa hs hpl, fun σ H ρ F S Qd Q h k => ?_⟩
  refine q σ H ρ F S _ _ h fun vs H1 ρ1 F1 rs S1 s1 e1 A h1 => ?_
  match rs, A, h1 with
  | [r, r2], A, h1 =>
    obtain ⟨ds, es, k1, k2, hq⟩ := h1
    obtain ⟨x, y, rfl, ax, ay⟩ := argsV2 A.each
    obtain ⟨t1, a, xs, Ga, rfl, qx, rx, ox, stx⟩ := sqs_arg ax k1
    obtain ⟨t2, b, ys, Gb, rfl, qy, ry, oy, sty⟩ := sqs_arg ay k2
    exact ⟨t1, t2, a, b, xs, ys, rfl, qx, qy, k _ H1 ρ1 F1 _ S1 s1 e1 (wk_zip walk_zipX rx ox ry oy fun F' H' r => ⟨stx F' H' r, sty F' H' r⟩) hq⟩
theorem sqs_l {m : Bool} {es ds : List PyData} {k : Kd} : sqs m ⟨k, .list es⟩ ds = (ds = es ∧ (k ≠ .als ∨ (m = true ∧ purs es = true))) := rfl
theorem sqs_t {m : Bool} {es ds : List PyData} {k : Kd} : sqs m ⟨k, .tuple es⟩ ds = (ds = es ∧ stb ⟨k, .tuple es⟩ = true) := rfl
theorem zipd_map {α β : Type} (f : α → PyData) (g : β → PyData) (xs : List α) (ys : List β) : zipd (xs.map f) (ys.map g) = (xs.zip ys).map fun p => PyData.tuple [f p.1, g p.2] := by
  simp [zipd, List.zip_map]
end DL
namespace DL
open PySem PySem.Spec PyProof.Rows L2
section
variable {X : Cx} {v0 : Cv} {a b c e o : Expr} {es : List Expr} {pos p apos cpos : Pos} {ea eb ec : Bool} {wa wb we : WE} {wr : WA} {i : Nat} {wp : WPl}
def tyD : PyData → String
  | .none => "NoneType"
  | .bool _ => "bool"
  | .int _ => "int"
  | .str _ => "str"
  | .list _ => "list"
  | .tuple _ => "tuple"
  | .dict _ => "dict"
def isD (T : String) (d : PyData) : Bool := tyD d == T || (T == "int" && tyD d == "bool")
/-- what stands in the heap as that type -/
def TyY (K : PySem.W.Frag) (H : Hp) (x : V) (t : Value) : Prop := TyX K H x t ∨ ∃ a es, x = .ref a ∧ H a = some (.ext (DictN a es)) ∧ t = .type "dict"
theorem kit_ofY {X : Cx} {pins : List (Addr × Obj)} {σ : L2.St} {H : Hp} {s : Shared} {x : V} {u t : Value} (I : Inv X pins σ H s) (rx : L2.RelV x u) (ty : TyY X.K H x t) : ∃ P : Heap → Prop, PySem.W.KitX X.K u t P ∧ P s.heap ∧ u ≠ .builtin "__main__.__loader__#opaque" := by
  rcases ty with ty | ⟨a, es, rfl, e, rfl⟩
  · exact kit_of I rx ty
  · cases (show u = Value.ref a from rx)
    obtain ⟨⟨_, _, xs, _, o, arr, ep, h1, h2, _⟩, _⟩ := (show ObjOk X.prog X.w H s.heap a (.ext (DictN a es)) from I.hok a _ e)
    exact ⟨_, PySem.W.kitx_dict, ⟨o, h1, h2.1⟩, fun z => nomatch z⟩
def rIsiY (K : PySem.W.Frag) : List V → Hp → VK → Prop := fun xs H Q => ∃ (x c : V) (t u : Value) (b : Bool), xs = [x, c] ∧ ClsV c u ∧ TyY K H x t ∧ PySem.W.kitOne K t u = some b ∧ Q (.bl b) H
theorem call_isiY {X : Cx} : CallR X (.builtin "isinstance") (rIsiY X.K) := by
  intro pins s σ H xs us Q I r h
  obtain ⟨x, c, t, u, b, rfl, k, ty, e, q⟩ := h
  obtain ⟨u1, u2, rfl, r1, r2⟩ := vals2 r
  have e2 := k.eq r2
  subst e2
  obtain ⟨P, Z, p, hx⟩ := kit_ofY I r1 ty
  exact PySem.W.kia_one Z I.kIn p e hx fun tk => ⟨.bl b, H, I.tok tk, rfl, q⟩
theorem tyx_of {K : PySem.W.Frag} {m : Bool} {H : Hp} {v : V} {d : PyData} {G : List Addr} (r : Rp K m H v d G) : TyY K H v (.type (tyD d)) := by
  cases r with
  | dN h _ _ => exact .inr ⟨_, _, rfl, h, rfl⟩
  | non => exact .inl (.base .non)
  | bl b => exact .inl (.base (.bl b))
  | int i => exact .inl (.base (.int i))
  | str x => exact .inl (.base (.str x))
  | lst _ h _ =>
    rcases h with h | ⟨o, h⟩
    · exact .inl (.base (.lst h))
    · exact .inl (.base (.frz h))
  | lstK _ h _ =>
    obtain ⟨o, its, n, h1, h2, _⟩ := h
    exact .inl (.kList h1 h2)
  | tup h _ =>
    rcases h with (h | ⟨o, h⟩) | ⟨o, its, n, h1, h2, _⟩
    · exact .inl (.base (.tup h))
    · exact .inl (.fTuple h)
    · exact .inl (.kTuple h1 h2)
  | dK h _ _ => exact .inl (.base (.dK h))
theorem kit_all {K : PySem.W.Frag} (T : String) (hT : T ∈ ["int", "bool", "str", "list", "tuple", "dict"]) (d : PyData) : PySem.W.kitOne K (.type (tyD d)) (.type T) = some (isD T d) := by
  have h : ∀ U ∈ ["NoneType", "bool", "int", "str", "list", "tuple", "dict"], ∀ T ∈ ["int", "bool", "str", "list", "tuple", "dict"], kitB U T = some (U == T || (T == "int" && U == "bool")) := by decide +kernel
  refine kit_ty (h (tyD d) ?_ T hT)
  cases d <;> simp [tyD]
def wIsi (T : String) (we : WE) : WE := fun ρ Q => we ρ fun ρ1 r => Q ρ1 (P (.bool (isD T r.d)))
theorem de_isi {p1 p2 : Pos} {x : Str} (T : String) (hT : T ∈ ["int", "bool", "str", "list", "tuple", "dict"]) (hg : Gl X "isinstance") (hm : X.mg "isinstance" = none) (hg2 : Gl X x) (hm2 : X.mg x = none) (hb2 : bootBuiltins x = some (.type T)) (he : DE X v0 ea e we)
    (hn : x ≠ "__name__" := by decide) (hd : (x == ("__debug__" : Str)) = false := by decide)
    (hs : starEach [e, .Name x p2] X.env = (false, eval e X.env) :: starEach [.Name x p2] X.env := by rfl) (hs2 : starEach [.Name x p2] X.env = (false, eval (.Name x p2) X.env) :: starEach [] X.env := by rfl)
    (hpl : (backTo pos (starEach [.Name x p2] X.env)).any (·.1) = false := by rfl) :
    DE X v0 ea (.Call (.Name "isinstance" p1) [e, .Name x p2] [] pos) (wIsi T we) := by
  obtain ⟨t, pe, q⟩ := he
  refine ⟨_, pe_callB call_isiY hg hm (by rfl) (pa_cons pe (pa_cons (pe_bltn hg2 hm2 hb2 (v := .ty T) rfl hn hd) pa_nil hs2) hs) (by decide) (by decide) hs hpl, fun σ H ρ F S Qd Q h k => ?_⟩
  refine q σ H ρ F S _ _ h fun v H1 ρ1 F1 r G S1 s1 e1 r1 h1 => ?_
  exact ⟨v, .ty T, _, _, isD T r.d, rfl, .ty T, tyx_of r1.read, kit_all T hT r.d, k _ H1 ρ1 F1 (P (.bool _)) [] S1 s1 e1 ⟨.bl _, fun _ z => nomatch z⟩ h1⟩
theorem rgV_rp {K : PySem.W.Frag} {m : Bool} {H : Hp} {a b : Int} : RpAll K m H (rgV a b) (rngD a (b - a).toNat) [] := by
  have := RpAll.ints' (K := K) (m := m) (H := H) ((List.range (b - a).toNat).map fun i => a + ((i : Nat) : Int))
  rw [List.map_map, List.map_map] at this
  exact this
theorem rng_pur {a : Int} {n : Nat} : purs (rngD a n) = true := purs_map' fun _ _ => rfl
def rgR (f : List PyData → R) (i j : PyData) (Q : R → Prop) : Prop := match i, j with
  | .int i, .int j => RgOk i j ∧ Q (f (rngD i (j - i).toNat))
  | _, _ => False
def wRgL1 (f : List PyData → R) (wa : WE) : WE := fun ρ Q => wa ρ fun ρ1 r => rgR f (.int 0) r.d (Q ρ1)
def wRgL2 (f : List PyData → R) (wa wb : WE) : WE := fun ρ Q => wa ρ fun ρ1 r => wb ρ1 fun ρ2 r2 => rgR f r.d r2.d (Q ρ2)
theorem rgR_i {f : List PyData → R} {i j : Int} {Q : R → Prop} : rgR f (.int i) (.int j) Q = (RgOk i j ∧ Q (f (rngD i (j - i).toNat))) := rfl
abbrev lstR (ds : List PyData) : R := ⟨.own, .list ds⟩
abbrev tupR (ds : List PyData) : R := P (.tuple ds)
section
variable {F F1 : Nat → List Addr} {H H1 : Hp} {ρ1 : DEnv} {σ : L2.St}
theorem rl_end {Qd : DEnv → R → Prop} {Q : VK} {F : Nat → List Addr} {H : Hp} {ρ : DEnv} {b : Bool} {i j : Int} (S1 : StOk X.K v0 σ H1 ρ1 F1) (s1 : Step F H F1 H1) (e1 : Eff b ρ F H ρ1 F1 H1)
    (k : ∀ v H' ρ' F' r G, StOk X.K v0 σ H' ρ' F' → Step F H F' H' → Eff b ρ F H ρ' F' H' → ResOk X.K F H F' H' r v G → Qd ρ' r → Q v H') (h : Qd ρ1 (lstR (rngD i (j - i).toNat))) : ∀ q, H1 q = none → Q (.ref q) (upd H1 q (.lst (rgV i j))) := by
  intro q hq
  have ex : Ext H1 (upd H1 q (.lst (rgV i j))) := Ext.upd hq
  refine k _ _ ρ1 F1 (lstR _) [q] (S1.ext ex) (s1.trans (Step.ext ex)) (e1.ext ex) ?_ h
  refine ⟨.lst (fun _ => upd_same) (.inl upd_same) rgV_rp, by simp, fun a ha z => ?_, fun a ha => ?_⟩
  · rw [List.mem_singleton.mp ha] at z; exact S1.live _ z hq
  · rw [List.mem_singleton.mp ha]; exact s1.none_of hq
theorem rt_end {Qd : DEnv → R → Prop} {Q : VK} {F : Nat → List Addr} {H : Hp} {ρ : DEnv} {b : Bool} {i j : Int} (S1 : StOk X.K v0 σ H1 ρ1 F1) (s1 : Step F H F1 H1) (e1 : Eff b ρ F H ρ1 F1 H1)
    (k : ∀ v H' ρ' F' r G, StOk X.K v0 σ H' ρ' F' → Step F H F' H' → Eff b ρ F H ρ' F' H' → ResOk X.K F H F' H' r v G → Qd ρ' r → Q v H') (h : Qd ρ1 (tupR (rngD i (j - i).toNat))) : ∀ q, H1 q = none → Q (.ref q) (upd H1 q (.tup (rgV i j))) := by
  intro q hq
  have ex : Ext H1 (upd H1 q (.tup (rgV i j))) := Ext.upd hq
  exact k _ _ ρ1 F1 (tupR _) [] (S1.ext ex) (s1.trans (Step.ext ex)) (e1.ext ex) ⟨.tup (.inl (.inl upd_same)) rgV_rp, fun _ z => nomatch z⟩ h
end
theorem de_rgL1 {p1 p2 pos2 : Pos} (hc : X.calm = true) (hg : Gl X "list") (hm : X.mg "list" = none) (hg2 : Gl X "range") (hm2 : X.mg "range" = none) (ha : DE X v0 ea a wa)
    (n1 : starEach [a] X.env = (false, eval a X.env) :: starEach [] X.env := by rfl) (n2 : starEach [.Call (.Name "range" p2) [a] [] pos2] X.env = (false, eval (.Call (.Name "range" p2) [a] [] pos2) X.env) :: starEach [] X.env := by rfl) :
    DE X v0 ea (.Call (.Name "list" p1) [.Call (.Name "range" p2) [a] [] pos2] [] pos) (wRgL1 lstR wa) := by
  obtain ⟨t, pa, q⟩ := ha
  refine ⟨_, pe_listRg hc hg hm (prg_1 hg2 hm2 pa n1) n2, fun σ H ρ F S Qd Q h k => ?_⟩
  refine q σ H ρ F S _ _ h fun v H1 ρ1 F1 r G S1 s1 e1 r1 h1 => ?_
  obtain ⟨kd, d⟩ := r
  cases d <;> first | exact h1.elim | skip
  rename_i j
  rw [arg_int r1.arg]
  exact ⟨j, rfl, h1.1, rl_end S1 s1 e1 k h1.2⟩
theorem de_rgT1 {p1 p2 pos2 : Pos} (hc : X.calm = true) (hg : Gl X "tuple") (hm : X.mg "tuple" = none) (hg2 : Gl X "range") (hm2 : X.mg "range" = none) (ha : DE X v0 ea a wa)
    (n1 : starEach [a] X.env = (false, eval a X.env) :: starEach [] X.env := by rfl) (n2 : starEach [.Call (.Name "range" p2) [a] [] pos2] X.env = (false, eval (.Call (.Name "range" p2) [a] [] pos2) X.env) :: starEach [] X.env := by rfl) :
    DE X v0 ea (.Call (.Name "tuple" p1) [.Call (.Name "range" p2) [a] [] pos2] [] pos) (wRgL1 tupR wa) := by
  obtain ⟨t, pa, q⟩ := ha
  refine ⟨_, pe_tupRg hc hg hm (prg_1 hg2 hm2 pa n1) n2, fun σ H ρ F S Qd Q h k => ?_⟩
  refine q σ H ρ F S _ _ h fun v H1 ρ1 F1 r G S1 s1 e1 r1 h1 => ?_
  obtain ⟨kd, d⟩ := r
  cases d <;> first | exact h1.elim | skip
  rename_i j
  rw [arg_int r1.arg]
  exact ⟨j, rfl, h1.1, rt_end S1 s1 e1 k h1.2⟩
theorem de_rgL2 {p1 p2 pos2 : Pos} (hc : X.calm = true) (hg : Gl X "list") (hm : X.mg "list" = none) (hg2 : Gl X "range") (hm2 : X.mg "range" = none) (ha : DE X v0 false a wa) (hb : DE X v0 false b wb)
    (n1 : starEach [a, b] X.env = (false, eval a X.env) :: starEach [b] X.env := by rfl) (n3 : starEach [b] X.env = (false, eval b X.env) :: starEach [] X.env := by rfl) (hp : (backTo pos2 (starEach [b] X.env)).any (·.1) = false := by rfl)
    (n2 : starEach [.Call (.Name "range" p2) [a, b] [] pos2] X.env = (false, eval (.Call (.Name "range" p2) [a, b] [] pos2) X.env) :: starEach [] X.env := by rfl) :
    DE X v0 false (.Call (.Name "list" p1) [.Call (.Name "range" p2) [a, b] [] pos2] [] pos) (wRgL2 lstR wa wb) := by
  obtain ⟨t, pa, q⟩ := ha
  obtain ⟨tb, pb, qb⟩ := hb
  refine ⟨_, pe_listRg hc hg hm (prg_2 hg2 hm2 pa pb n1 n3 hp) n2, fun σ H ρ F S Qd Q h k => ?_⟩
  refine q σ H ρ F S _ _ h fun v H1 ρ1 F1 r G S1 s1 e1 r1 h1 => ?_
  refine qb σ H1 ρ1 F1 S1 _ _ h1 fun v2 H2 ρ2 F2 r2 G2 S2 s2 e2 rr h2 => ?_
  obtain ⟨kd, d⟩ := r
  obtain ⟨kd2, d2⟩ := r2
  cases d <;> cases d2 <;> first | exact h2.elim | skip
  rename_i i j
  rw [arg_int r1.arg, arg_int rr.arg]
  exact ⟨i, j, rfl, rfl, h2.1, rl_end S2 (s1.trans s2) (e1.trans e2) k h2.2⟩
def sqd : PyData → Option (List PyData)
  | .list ds => some ds
  | .tuple ds => some ds
  | _ => none
theorem argsAll_pre {K : PySem.W.Frag} {F F' : Nat → List Addr} {H H' : Hp} {rs : List R} {vs : List V} (A : ArgsAll K F H F' H' rs vs) : ∀ {ds : List PyData} {xs : List V}, RpAll K false H' xs ds [] → purs ds = true → ArgsAll K F H F' H' (ds.map P ++ rs) (xs ++ vs)
  | [], [], _, _ => A
  | d :: ds, x :: xs, h, hp => by
    simp only [purs, Bool.and_eq_true] at hp
    generalize hG : ([] : List Addr) = G at h
    cases h with
    | cons r t =>
    rename_i G1 G2
    have e := List.append_eq_nil_iff.mp hG.symm
    obtain ⟨e1, e2⟩ := e
    subst e1 e2
    have B := argsAll_pre A t hp.2
    obtain ⟨_, rt⟩ := Rp.pure' (m' := true) _ _ _ r hp.1
    refine ⟨⟨?_, fun o => ?_, fun o => ?_⟩, .cons ⟨[], r, fun _ _ z => nomatch z⟩ B.each⟩
    · obtain ⟨G, q⟩ := B.all.read
      exact ⟨_, .cons r q⟩
    · simp only [List.map_cons, List.cons_append, List.all_cons, Bool.and_eq_true] at o
      obtain ⟨G, q1, q2, q3, q4⟩ := B.all.own o.2
      exact ⟨[] ++ G, .cons rt q1, by simpa using q2, by simpa using q3, by simpa using q4⟩
    · simp only [List.map_cons, List.cons_append, List.all_cons, Bool.and_eq_true] at o
      obtain ⟨G, q1, q2⟩ := B.all.shr o.2
      exact ⟨[] ++ G, .cons r q1, by simpa using q2⟩
  | [], _ :: _, h, _ => by cases h
  | _ :: _, [], h, _ => by cases h
theorem ArgsAll.back {K : PySem.W.Frag} {F F1 F' : Nat → List Addr} {H H1 H' : Hp} {rs : List R} {vs : List V} (A : ArgsAll K F1 H1 F' H' rs vs) (s : Step F H F1 H1) : ArgsAll K F H F' H' rs vs := by
  refine ⟨⟨A.all.read, fun o => ?_, A.all.shr⟩, A.each⟩
  obtain ⟨G, q1, q2, q3, q4⟩ := A.all.own o
  refine ⟨G, q1, q2, q3, fun a i => ?_⟩
  rcases q4 a i with z | z
  · exact s.own a z
  · exact s.none_of z
def wStar (we : WE) (wr : WA) : WA := fun ρ Q => we ρ fun ρ1 r => ∃ ds, sqd r.d = some ds ∧ purs ds = true ∧ wr ρ1 fun ρ2 rs => Q ρ2 (ds.map P ++ rs)
theorem dg_star (he : DE X v0 ea e we) (hr : DG X v0 eb es wr) (hs : starEach (.Starred e p :: es) X.env = (true, eval e X.env) :: starEach es X.env := by rfl) : DG X v0 (ea || eb) (.Starred e p :: es) (wStar we wr) := by
  obtain ⟨t, pe, q⟩ := he
  obtain ⟨tr, pr, qr⟩ := hr
  refine ⟨_, StX.pa_star pe pr hs, fun σ H ρ F S Qd Q h k => ?_⟩
  refine q σ H ρ F S _ _ h fun v H1 ρ1 F1 r G S1 s1 e1 r1 h1 => ?_
  have rd := r1.read
  obtain ⟨kd, d⟩ := r
  obtain ⟨ds, hd, hp, h1⟩ := h1
  have hd : sqd d = some ds := hd
  have step : ∀ (xs : List V), RpAll X.K false H1 xs ds [] → tr σ H1 fun ys H2 => Q (xs ++ ys) H2 := by
    intro xs hx
    refine qr σ H1 ρ1 F1 S1 _ _ h1 fun ys H2 ρ2 F2 rs S2 s2 e2 A h2 => ?_
    have rx := hx.keep s2.tups _ _ _ (fun a i => nomatch i)
    exact k _ H2 ρ2 F2 _ S2 (s1.trans s2) (e1.trans e2) ((argsAll_pre A rx hp).back s1) h2
  cases d <;> first | cases hd | skip
  · obtain ⟨a, xs, G', rfl, hs, ra, _⟩ := Rp.sql rd
    exact ⟨a, xs, rfl, .inr hs, step xs (ra.pure' _ _ _ hp).2⟩
  · obtain ⟨a, xs, rfl, hs, ra⟩ := Rp.sqt rd
    exact ⟨a, xs, rfl, .inl hs, step xs (ra.pure' _ _ _ hp).2⟩
end
end DL
namespace DL
open PySem PySem.Spec PyProof.Rows L2
section
variable {X : Cx} {v0 : Cv} {a b c e o : Expr} {es : List Expr} {pos p apos cpos : Pos} {ea eb ec : Bool} {wa wb we : WE} {wr : WA} {i : Nat} {wp : WPl}
def idxR (d e : PyData) (Q : R → Prop) : Prop := match d with
  | .list ds => nodcts ds = true ∧ nodct e = true ∧ SeqAt.shaped (.list ds) = true ∧ SeqAt.shaped e = true ∧ ∃ j : Nat, (∃ z, ds[j]? = some z ∧ PyData.eqv z e = true) ∧ (∀ (m : Nat) (z : PyData), m < j → ds[m]? = some z → PyData.eqv z e = false) ∧ Q (P (.int (j : Nat)))
  | _ => False
def wIdx (we wa : WE) : WE := fun ρ Q => we ρ fun ρ1 r => (∃ ds, r.d = .list ds) ∧ wa ρ1 fun ρ2 ra => idxR r.d ra.d (Q ρ2)
theorem de_index (hu : X.A.units + 65 < cLine) (ho : DE X v0 ea o we) (ha : DE X v0 false a wa) (hbase : attributeBase o "index" X.env (eval o X.env) = eval o X.env := by rfl)
    (hfew : ((backTo cpos (starEach [a] X.env)).all (fun x => !x.1) && (backToKw cpos (keywordEach [] X.env)).all (fun x => x.1.isSome)
      && decide ([a].length + ([] : List Keyword).length + (if ([] : List Keyword).isEmpty then 0 else 1) < 30)) = true := by rfl)
    (hline : (apos.endLine == cpos.line) = true := by rfl) (hs : starEach [a] X.env = (false, eval a X.env) :: starEach [] X.env := by rfl) : DE X v0 ea (.Call (.Attribute o "index" apos) [a] [] cpos) (wIdx we wa) := by
  obtain ⟨t, p, q⟩ := ho
  obtain ⟨ta, pa, qa⟩ := ha
  refine ⟨_, pe_bm PySem.F.plainAttrs_list PySem.F.slot_list_index PySem.F.type_list_index (mt_indexD hu) p (pa_cons pa pa_nil hs) hbase hfew hline hs rfl, fun σ H ρ F S Qd Q h k => ?_⟩
  refine q σ H ρ F S _ _ h fun v H1 ρ1 F1 r G S1 s1 e1 r1 h1 => ?_
  obtain ⟨⟨ds, hds⟩, h1⟩ := h1
  obtain ⟨kd, d⟩ := r
  have hds : d = .list ds := hds
  subst hds
  obtain ⟨l, xs, G', rfl, hsq, ra, _⟩ := Rp.sql r1.read
  refine ⟨.inl ⟨rfl, _, hsq⟩, ?_⟩
  refine qa σ H1 ρ1 F1 S1 _ _ h1 fun y H2 ρ2 F2 r2 G2 S2 s2 e2 rr h2 => ?_
  obtain ⟨q1, q2, x2⟩ := e2.non rfl
  subst q1 q2
  obtain ⟨n1, n2, c1, c2, j, ⟨z, hz, hzj⟩, hno, hq⟩ := h2
  have rl := (r1.ext x2).read
  exact ⟨l, y, r2.d, ds, j, z, rfl, rfl, Rp.dp _ _ _ rl (by simpa [nodct] using n1), Rp.dp _ _ _ rr.read n2, c1, c2, hz, hzj, hno, k _ H2 ρ2 F2 (P (.int (j : Nat))) [] S2 (s1.trans s2) (e1.ext x2) ⟨.int _, fun _ z => nomatch z⟩ hq⟩
def wExt (i : Nat) (eb : Bool) (wp : WPl) (wa : WE) : WE := fun ρ Q => wp ρ fun p => (∃ ds0, dAt ρ i p = some (.list ds0)) ∧ wa ρ fun ρ1 r => (eb = true → p = []) ∧ r.k = .own ∧ ∃ es, r.d = .list es ∧ purs es = true ∧ ∃ ds, dAt ρ1 i p = some (.list ds) ∧ ds.length + es.length ≤ sizeLine ∧ Q (upP ρ1 i p (.list (ds ++ es))) (P .none)
theorem de_ext (ho : DPl X v0 i o wp) (ha : DE X v0 eb a wa) (hbase : attributeBase o "extend" X.env (eval o X.env) = eval o X.env := by rfl)
    (hfew : ((backTo cpos (starEach [a] X.env)).all (fun x => !x.1) && (backToKw cpos (keywordEach [] X.env)).all (fun x => x.1.isSome)
      && decide ([a].length + ([] : List Keyword).length + (if ([] : List Keyword).isEmpty then 0 else 1) < 30)) = true := by rfl)
    (hline : (apos.endLine == cpos.line) = true := by rfl) (hs : starEach [a] X.env = (false, eval a X.env) :: starEach [] X.env := by rfl) : DE X v0 true (.Call (.Attribute o "extend" apos) [a] [] cpos) (wExt i eb wp wa) := by
  obtain ⟨t, p, q⟩ := ho
  obtain ⟨ta, pa, qa⟩ := ha
  refine ⟨_, pe_bm PySem.F.plainAttrs_list PySem.F.slot_list_extend PySem.F.type_list_extend mt_extend p (pa_cons pa pa_nil hs) hbase hfew hline hs rfl, fun σ H ρ F S Qd Q h k => ?_⟩
  refine q σ H ρ F S _ _ h fun pp u v r H1 x1 hv hr hk va h1 => ?_
  obtain ⟨⟨ds0, g0⟩, h1⟩ := h1
  have S1 := S.ext x1
  obtain ⟨_, _, _, _, t1, _, t3, _⟩ := place va _ (S1.rp hv hr hk)
  rw [getP_uniq g0 hr] at t1
  cases t1
  obtain ⟨a0, xs0, G0', rfl, ha0, _⟩ := Rp.own' t3
  refine ⟨.inl ⟨rfl, _, .inl (.inl ha0)⟩, ?_⟩
  refine qa σ H1 ρ F S1 _ _ h1 fun y H2 ρ2 F2 ra G2 S2 s2 e2 r2 h2 => ?_
  obtain ⟨hp, hown, es, hes, hpu, ds, g1, hz, hq⟩ := h2
  have sAll : Step F H F2 H2 := (Step.ext x1).trans s2
  have eAll : Eff eb ρ F H ρ2 F2 H2 := (Eff.trans (a := false) ⟨fun _ _ z => z, fun _ => ⟨rfl, rfl, x1⟩⟩ e2).mono fun z => by simpa using z
  obtain ⟨r', hr', hk', gp⟩ := dAt_of g1
  have va2 : VAt H2 v r'.d pp (.ref a0) := by
    cases eb with
    | true =>
      have := hp rfl
      subst this
      have z := va.eq
      subst z
      exact .nil _ _
    | false =>
      obtain ⟨q1, q2, x2⟩ := e2.non rfl
      subst q1
      rw [hr] at hr'
      cases hr'
      exact va.ext x2
  obtain ⟨_, _, _, _, t1, _, t3, _⟩ := place va2 _ (S2.rp hv hr' hk')
  rw [gp] at t1
  cases t1
  obtain ⟨a1, xs, G', e1, ha, ral, _⟩ := Rp.own' t3
  cases e1
  obtain ⟨kk, dd⟩ := ra
  have hown : kk = .own := hown
  have hes : dd = .list es := hes
  subst hown hes
  have ro : Rp X.K true H2 y (.list es) G2 := r2.1
  obtain ⟨b, zs, Gz, rfl, hb, rz, _⟩ := Rp.own' ro
  obtain ⟨_, rz0⟩ := rz.pure' (m' := true) _ _ _ hpu
  have sp : Sep X.K σ H2 ρ2 F2 fun b => b ∈ ([] : List Addr) := Sep.of S eAll sAll fun _ z => nomatch z
  obtain ⟨F', S', s'⟩ := S2.mutL S.st sAll sp hv hr' hk' va2 gp ha (ys := xs ++ zs) (es := ds ++ es) (fun b hb => nomatch hb) fun G' g nd sub => by
    refine ⟨G' ++ [], g.append rz0, by simpa using nd, fun b hb => .inl (by simpa using hb)⟩
  refine ⟨a0, b, xs, zs, rfl, rfl, ha, hb, by rw [ral.length, rz.length]; exact hz, k .non _ _ F' (P .none) [] S' s' (eAll.up hr' hk') ⟨.non, fun _ z => nomatch z⟩ ?_⟩
  rw [upP_of hr'] at hq
  exact hq
theorem de_glI {x : Str} {n : Int} {t : Tok} (hg : Gl X x) (hm : X.mg x = some (.int n t)) (hd : (x == ("__debug__" : Str)) = false := by decide) : DE X v0 false (.Name x pos) (wC (.int n)) := de_c (pe_glob hg hm (v := .int n) ⟨t, rfl⟩ hd) fun _ => .int n
theorem de_glS {x y : Str} {t : Tok} (hg : Gl X x) (hm : X.mg x = some (.str y t)) (hd : (x == ("__debug__" : Str)) = false := by decide) : DE X v0 false (.Name x pos) (wC (.str y)) := de_c (pe_glob hg hm (v := .str y) ⟨t, rfl⟩ hd) fun _ => .str y
end
end DL
namespace DL
open PySem PySem.Spec PyProof.Rows L2
section
variable {X : Cx} {v0 : Cv} {a o : Expr} {apos cpos : Pos} {eb : Bool} {wa : WE} {i : Nat} {wp : WPl}
def wPopE (i : Nat) (eb : Bool) (wp : WPl) (wa : WE) : WE := fun ρ Q => wp ρ fun p => (∃ ds0, dAt ρ i p = some (.list ds0)) ∧ wa ρ fun ρ1 r => (eb = true → p = []) ∧ ∃ (k : Int) (ds : List PyData) (j : Nat) (d : PyData), r.d = .int k ∧ dAt ρ1 i p = some (.list ds) ∧ -(2 ^ 63) ≤ k ∧ k < 2 ^ 63 ∧ ixN ds.length k = some j ∧ ds[j]? = some d ∧ pur d = true ∧ Q (upP ρ1 i p (.list (ds.eraseIdx j))) (P d)
theorem de_popE (ho : DPl X v0 i o wp) (ha : DE X v0 eb a wa) (hbase : attributeBase o "pop" X.env (eval o X.env) = eval o X.env := by rfl)
    (hfew : ((backTo cpos (starEach [a] X.env)).all (fun x => !x.1) && (backToKw cpos (keywordEach [] X.env)).all (fun x => x.1.isSome)
      && decide ([a].length + ([] : List Keyword).length + (if ([] : List Keyword).isEmpty then 0 else 1) < 30)) = true := by rfl)
    (hline : (apos.endLine == cpos.line) = true := by rfl) (hs : starEach [a] X.env = (false, eval a X.env) :: starEach [] X.env := by rfl) : DE X v0 true (.Call (.Attribute o "pop" apos) [a] [] cpos) (wPopE i eb wp wa) := by
  obtain ⟨t, p, q⟩ := ho
  obtain ⟨ta, pa, qa⟩ := ha
  refine ⟨_, pe_bm PySem.F.plainAttrs_list PySem.F.slot_list_pop PySem.F.type_list_pop mt_popAt p (pa_cons pa pa_nil hs) hbase hfew hline hs rfl, fun σ H ρ F S Qd Q h k => ?_⟩
  refine q σ H ρ F S _ _ h fun pp u v r H1 x1 hv hr hk va h1 => ?_
  obtain ⟨⟨ds0, g0⟩, h1⟩ := h1
  have S1 := S.ext x1
  obtain ⟨_, _, _, _, t1, _, t3, _⟩ := place va _ (S1.rp hv hr hk)
  rw [getP_uniq g0 hr] at t1
  cases t1
  obtain ⟨a0, xs0, G0', rfl, ha0, _⟩ := Rp.own' t3
  refine ⟨.inl ⟨rfl, _, .inl (.inl ha0)⟩, ?_⟩
  refine qa σ H1 ρ F S1 _ _ h1 fun y H2 ρ2 F2 ra G2 S2 s2 e2 r2 h2 => ?_
  obtain ⟨hp, kk, ds, j, d, hrd, g1, b1, b2, g2, g3, hpu, hq⟩ := h2
  have sAll : Step F H F2 H2 := (Step.ext x1).trans s2
  have eAll : Eff eb ρ F H ρ2 F2 H2 := (Eff.trans (a := false) ⟨fun _ _ z => z, fun _ => ⟨rfl, rfl, x1⟩⟩ e2).mono fun z => by simpa using z
  obtain ⟨r', hr', hk', gp⟩ := dAt_of g1
  have va2 : VAt H2 v r'.d pp (.ref a0) := by
    cases eb with
    | true =>
      have := hp rfl
      subst this
      have z := va.eq
      subst z
      exact .nil _ _
    | false =>
      obtain ⟨q1, q2, x2⟩ := e2.non rfl
      subst q1
      rw [hr] at hr'
      cases hr'
      exact va.ext x2
  obtain ⟨_, _, _, _, t1, _, t3, _⟩ := place va2 _ (S2.rp hv hr' hk')
  rw [gp] at t1
  cases t1
  obtain ⟨a1, xs, G', e1, ha, ral, _⟩ := Rp.own' t3
  cases e1
  obtain ⟨kd, dd⟩ := ra
  have hrd : dd = .int kk := hrd
  subst hrd
  have hy : y = .int kk := arg_int r2.arg
  subst hy
  obtain ⟨w, Gw, hw, rw', _⟩ := ral.get g3
  obtain ⟨_, rw2⟩ := Rp.pure' (m' := false) _ _ _ rw' hpu
  have sp : Sep X.K σ H2 ρ2 F2 fun b => b ∈ ([] : List Addr) := Sep.of S eAll sAll fun _ z => nomatch z
  obtain ⟨F', S', s'⟩ := S2.mutL S.st sAll sp hv hr' hk' va2 gp ha (ys := xs.eraseIdx j) (es := ds.eraseIdx j) (fun b hb => nomatch hb) fun G' g nd sub => by
    obtain ⟨G1, g1, g2⟩ := g.erase j
    exact ⟨G1, g1, nd.sublist g2, fun b hb => .inl (g2.subset hb)⟩
  refine ⟨a0, xs, kk, j, w, rfl, rfl, ha, b1, b2, by rw [ral.length]; exact (ixN_seq g2).1, hw, k w _ _ F' (P d) [] S' s' (eAll.up hr' hk') ⟨Rp.keep (tu_upd ha) _ _ _ rw2 (fun _ i => nomatch i), fun _ z => nomatch z⟩ ?_⟩
  rw [upP_of hr'] at hq
  exact hq
end
theorem cshl_one {b : Nat} (hb : b ≤ 1000000 := by omega) : CShl 1 (b : Int) := cshl_nat (a := 1) (by decide +kernel) hb
theorem flat_rep1 {α : Type} (x : α) : ∀ k : Nat, (List.replicate k [x]).flatten = List.replicate k x
  | 0 => rfl
  | k + 1 => by rw [List.replicate_succ, List.flatten_cons, flat_rep1 x k, List.replicate_succ]; rfl
theorem cond2_ii {C : Int → Int → Prop} {g : Int → Int → PyData} {k k' : Kd} {i j : Int} {Q : R → Prop} : cond2 C g ⟨k, .int i⟩ ⟨k', .int j⟩ Q = (C i j ∧ Q (P (g i j))) := rfl
theorem eqv_lnil (ds : List PyData) : PyData.eqv (.list ds) (.list []) = ds.isEmpty := by cases ds <;> simp [PyData.eqv, PyData.eqvAll]
theorem eqv_tnil (ds : List PyData) : PyData.eqv (.tuple ds) (.tuple []) = ds.isEmpty := by cases ds <;> simp [PyData.eqv, PyData.eqvAll]
/-- a while loop: I by what falls; M: what is wanted behind a turn -/
theorem wWhile_by {c : WT} {b : WS} {D : DEnds} {ρ : DEnv} (I : Nat → DEnv → Prop) (m0 : Nat) (h0 : I m0 ρ)
    (hs : ∀ (m : Nat) (ρ : DEnv) (M : DEnv → Prop), I m ρ → (∀ m' ρ', m' < m → I m' ρ' → M ρ') → c ρ fun ρ1 t => if t = true then ∃ N : DEnv → Prop, (∀ ρ', N ρ' → M ρ') ∧ b { D with nx := N, ct := N, bk := D.nx } ρ1 else D.nx ρ1) : wWhile c b D ρ :=
  ⟨I, ⟨m0, h0⟩, fun m ρ hI => hs m ρ _ hI fun m' ρ' h1 h2 => ⟨m', h1, h2⟩⟩
structure Fl (d : PyData) (k : Nat) : Prop where
  nd : nodct d = true
  cl : d.canLay0 = true
  dp : d.depth ≤ k
theorem Fl.mono {d : PyData} {k k' : Nat} (h : Fl d k) (hk : k ≤ k') : Fl d k' := ⟨h.nd, h.cl, Nat.le_trans h.dp hk⟩
theorem Fl.shaped {d : PyData} {k : Nat} (h : Fl d k) (hk : k ≤ 64) : SeqAt.shaped d = true := by
  unfold SeqAt.shaped
  rw [h.cl, Bool.true_and]
  exact decide_eq_true (Nat.le_trans h.dp hk)
theorem fl_int {i : Int} : Fl (.int i) 0 := ⟨rfl, rfl, Nat.le_refl _⟩
theorem fl_bool {i : Bool} : Fl (.bool i) 0 := ⟨rfl, rfl, Nat.le_refl _⟩
theorem fl_none : Fl .none 0 := ⟨rfl, rfl, Nat.le_refl _⟩
theorem fl_lst {ds : List PyData} {k : Nat} (h : ∀ d ∈ ds, Fl d k) : Fl (.list ds) (k + 1) :=
  ⟨by simpa [nodct] using nodcts_of fun d i => (h d i).nd, by simpa [PyData.canLay0] using canLay_all fun d i => (h d i).cl, by simpa [PyData.depth] using depth_all fun d i => (h d i).dp⟩
theorem fl_tup {ds : List PyData} {k : Nat} (h : ∀ d ∈ ds, Fl d k) : Fl (.tuple ds) (k + 1) :=
  ⟨by simpa [nodct] using nodcts_of fun d i => (h d i).nd, by simpa [PyData.canLay0] using canLay_all fun d i => (h d i).cl, by simpa [PyData.depth] using depth_all fun d i => (h d i).dp⟩
theorem nodcts_iff {ds : List PyData} : nodcts ds = true ↔ ∀ d ∈ ds, nodct d = true := by
  constructor
  · intro h d hd
    induction ds with
    | nil => cases hd
    | cons e ds ih =>
      simp only [nodcts, Bool.and_eq_true] at h
      rcases List.mem_cons.mp hd with rfl | hd
      · exact h.1
      · exact ih h.2 hd
  · exact nodcts_of
theorem Fl.nds {ds : List PyData} {k : Nat} (h : ∀ d ∈ ds, Fl d k) : nodcts ds = true := nodcts_of fun d i => (h d i).nd
theorem perm_erase {α : Type} {xs : List α} {j : Nat} (h : j < xs.length) : (xs[j] :: xs.eraseIdx j).Perm xs := by
  induction xs generalizing j with
  | nil => cases h
  | cons x xs ih =>
    cases j with
    | zero => simp
    | succ j =>
      simp only [List.getElem_cons_succ, List.eraseIdx_cons_succ]
      exact (List.Perm.swap _ _ _).trans (List.Perm.cons x (ih (by simpa using h)))
theorem perm_map {α β : Type} {f : α → β} {xs : List α} {es : List β} (h : es.Perm (xs.map f)) : ∃ w : List α, w.Perm xs ∧ es = w.map f := by
  generalize hl : xs.map f = l at h
  induction h generalizing xs with
  | nil =>
    exact ⟨[], by rw [List.map_eq_nil_iff.mp hl], rfl⟩
  | cons x _ ih =>
    rename_i l1 l2 _
    cases xs with
    | nil => cases hl
    | cons y ys =>
      simp only [List.map_cons, List.cons.injEq] at hl
      obtain ⟨rfl, hl⟩ := hl
      obtain ⟨w, h1, rfl⟩ := ih hl
      exact ⟨y :: w, .cons y h1, rfl⟩
  | swap x y l =>
    cases xs with
    | nil => cases hl
    | cons a xs =>
      cases xs with
      | nil => cases hl
      | cons b xs =>
        simp only [List.map_cons, List.cons.injEq] at hl
        obtain ⟨rfl, rfl, rfl⟩ := hl
        exact ⟨b :: a :: xs, .swap _ _ _, rfl⟩
  | trans _ _ ih1 ih2 =>
    obtain ⟨w, h1, rfl⟩ := ih2 hl
    obtain ⟨w2, h2, rfl⟩ := ih1 rfl
    exact ⟨w2, h2.trans h1, rfl⟩
def wLcD (g : WG) (tt : WT) (we : WE) (vs : List Nat) (ds : List PyData) (ρ1 : DEnv) (Q : DEnv → R → Prop) : Prop := ∃ I : Nat → DEnv → List PyData → Prop, I 0 (wipeD ρ1 vs) [] ∧
  (∀ k d ρ' acc, ds[k]? = some d → I k ρ' acc → g ⟨.shr, d⟩ ρ' fun ρ2 => tt ρ2 fun ρ3 c => if c = true then we ρ3 fun ρ4 r => owp r = true ∧ acc.length < sizeLine ∧ I (k + 1) (wipeD ρ4 vs) (acc ++ [r.d]) else I (k + 1) (wipeD ρ3 vs) acc) ∧
  ∀ ρ' acc, I ds.length ρ' acc → Q ρ' ⟨.own, .list acc⟩
theorem wLc_eq {wi : WI} {g : WG} {tt : WT} {we : WE} {vs : List Nat} {ρ : DEnv} {Q : DEnv → R → Prop} : wLc wi g tt we vs ρ Q = wi ρ fun ρ1 ds => wLcD g tt we vs ds ρ1 Q := rfl
theorem wLcD_ix {α : Type} {g : WG} {we : WE} {vs : List Nat} {ds : List PyData} {ρ1 : DEnv} {Q : DEnv → R → Prop} (xs : List α) (enc : α → PyData) (hds : ds = xs.map enc) (I : Nat → DEnv → List PyData → Prop) (hl : xs.length ≤ sizeLine) (ha : ∀ k ρ acc, I k ρ acc → acc.length ≤ k)
    (h0 : I 0 (wipeD ρ1 vs) [])
    (hs : ∀ (k : Nat) (x : α) (ρ' : DEnv) (acc : List PyData) (N : DEnv → R → Prop), xs[k]? = some x → I k ρ' acc → (∀ ρ4 r, owp r = true → I (k + 1) (wipeD ρ4 vs) (acc ++ [r.d]) → N ρ4 r) → g ⟨.shr, enc x⟩ ρ' fun ρ2 => we ρ2 N)
    (q : ∀ ρ' acc, I xs.length ρ' acc → Q ρ' ⟨.own, .list acc⟩) : wLcD g wYes we vs ds ρ1 Q := by
  subst hds
  exact wLc_ix (wi := fun ρ Q => Q ρ1 (xs.map enc)) (ρ := ρ1) xs enc I hl ha (fun Q h => h ρ1 h0) hs q
def wForD (g : WG) (body : WS) (D : DEnds) (ds : List PyData) (ρ1 : DEnv) : Prop := ∃ I : Nat → DEnv → Prop, I 0 ρ1 ∧
  (∀ k d ρ, ds[k]? = some d → I k ρ → g ⟨.shr, d⟩ ρ fun ρ2 => body { D with nx := I (k + 1), ct := I (k + 1), bk := D.nx } ρ2) ∧ ∀ ρ, I ds.length ρ → D.nx ρ
theorem wFor_eq {wi : WI} {g : WG} {body : WS} {D : DEnds} {ρ : DEnv} : wFor wi g body D ρ = wi ρ fun ρ1 ds => wForD g body D ds ρ1 := rfl
theorem wForD_ix {α : Type} {g : WG} {body : WS} {D : DEnds} {ds : List PyData} {ρ1 : DEnv} (xs : List α) (enc : α → PyData) (hds : ds = xs.map enc) (I : Nat → DEnv → Prop) (h0 : I 0 ρ1)
    (hs : ∀ (k : Nat) (x : α) (ρ : DEnv) (N : DEnv → Prop), xs[k]? = some x → I k ρ → (∀ ρ', I (k + 1) ρ' → N ρ') → g ⟨.shr, enc x⟩ ρ fun ρ2 => body { D with nx := N, ct := N, bk := D.nx } ρ2)
    (hN : ∀ ρ, I xs.length ρ → D.nx ρ) : wForD g body D ds ρ1 := by
  subst hds
  exact wFor_ix (wi := fun ρ Q => Q ρ1 (xs.map enc)) (ρ := ρ1) xs enc I (fun Q h => h ρ1 h0) hs hN
theorem purs_n : purs [] = true := by simp only [purs]
theorem purs_c {x : PyData} {xs : List PyData} : purs (x :: xs) = (pur x && purs xs) := by simp only [purs]
theorem pur_n : pur .none = true := by simp only [pur]
theorem pur_b {b : Bool} : pur (.bool b) = true := by simp only [pur]
theorem pur_i {b : Int} : pur (.int b) = true := by simp only [pur]
theorem pur_s {b : Str} : pur (.str b) = true := by simp only [pur]
theorem pur_l {b : List PyData} : pur (.list b) = false := by simp only [pur]
theorem pur_d {b : List (PyData × PyData)} : pur (.dict b) = false := by simp only [pur]
theorem pur_t {b : List PyData} : pur (.tuple b) = purs b := by simp only [pur]
theorem ndcs_n : nodcts [] = true := by simp only [nodcts]
theorem ndcs_c {x : PyData} {xs : List PyData} : nodcts (x :: xs) = (nodct x && nodcts xs) := by simp only [nodcts]
theorem ndc_n : nodct .none = true := by simp only [nodct]
theorem ndc_b {b : Bool} : nodct (.bool b) = true := by simp only [nodct]
theorem ndc_i {b : Int} : nodct (.int b) = true := by simp only [nodct]
theorem ndc_s {b : Str} : nodct (.str b) = true := by simp only [nodct]
theorem ndc_l {b : List PyData} : nodct (.list b) = nodcts b := by simp only [nodct]
theorem ndc_t {b : List PyData} : nodct (.tuple b) = nodcts b := by simp only [nodct]
theorem kTup_pur {rs : List R} (h : purs (rs.map (·.d)) = true) : kTup rs = .shr := by
  unfold kTup
  rw [if_pos]
  induction rs with
  | nil => rfl
  | cons r rs ih =>
    simp only [List.map_cons, purs, Bool.and_eq_true] at h
    simp only [List.all_cons, Bool.and_eq_true]
    exact ⟨h.1, ih h.2⟩
theorem wAndV_eq {wa wb : WE} {ρ : DEnv} {Q : DEnv → R → Prop} : wAndV wa wb ρ Q = wa ρ fun ρ1 r => booR r.d fun c => if c = true then wb ρ1 Q else Q ρ1 (P (.bool false)) := rfl
theorem wOrV_eq {wa wb : WE} {ρ : DEnv} {Q : DEnv → R → Prop} : wOrV wa wb ρ Q = wa ρ fun ρ1 r => booR r.d fun c => if c = true then Q ρ1 (P (.bool true)) else wb ρ1 Q := rfl
theorem wNotV_eq {wa : WE} {ρ : DEnv} {Q : DEnv → R → Prop} : wNotV wa ρ Q = wa ρ fun ρ1 r => booR r.d fun c => Q ρ1 (P (.bool (!c))) := rfl
end DL
namespace DL
open PySem PySem.Spec PyProof.Rows L2
theorem ofStr_inj {a b : String} : (Str.ofString a = Str.ofString b) = (a = b) := by
  refine propext ⟨fun h => ?_, fun h => by rw [h]⟩
  rw [Str.ofString_eq_toList, Str.ofString_eq_toList] at h
  have h1 : (a.toList.map Char.toNat).toArray = (b.toList.map Char.toNat).toArray := by injection h
  have h2 : a.toList.map Char.toNat = b.toList.map Char.toNat := by simpa using h1
  have inj : ∀ (xs ys : List Char), xs.map Char.toNat = ys.map Char.toNat → xs = ys := by
    intro xs
    induction xs with
    | nil =>
      intro ys h
      cases ys with
      | nil => rfl
      | cons _ _ => cases h
    | cons x xs ih =>
      intro ys h
      cases ys with
      | nil => cases h
      | cons y ys =>
        simp only [List.map_cons, List.cons.injEq] at h
        rw [ih ys h.2, show x = y from Char.ext (UInt32.toNat_inj.mp h.1)]
  exact String.toList_injective (inj _ _ h2)
theorem wIx_t2 {k k' : Kd} {a b c : PyData} {r : List PyData} {Q : R → Prop} : wIx ⟨k, .tuple (a :: b :: c :: r)⟩ ⟨k', .int 2⟩ Q = Q (itemK k c) := wIx_t (ix_nat _ 2)
theorem wIx_l3 {k k' : Kd} {a b c d : PyData} {r : List PyData} {Q : R → Prop} : wIx ⟨k, .list (a :: b :: c :: d :: r)⟩ ⟨k', .int 3⟩ Q = Q (itemK k d) := wIx_l (ix_nat _ 3)
theorem at_last {α : Type} (xs : List α) (h : 1 ≤ xs.length) : atI xs (-1) = xs[xs.length - 1]? := by
  have e : ixN xs.length (-1) = some (xs.length - 1) := by
    unfold ixN
    rw [if_neg (by omega), if_pos (by omega)]
    congr 1
    omega
  unfold atI
  rw [e]
  rfl
theorem wIx_tL {α : Type} [Inhabited α] {k k' : Kd} {xs : List α} {f : α → PyData} {Q : R → Prop} (h : 1 ≤ xs.length) : wIx ⟨k, .tuple (xs.map f)⟩ ⟨k', .int (-1)⟩ Q = Q (itemK k (f (nth xs (xs.length - 1)))) := by
  refine wIx_t ?_
  rw [at_last _ (by simpa using h), List.length_map, List.getElem?_map, some_nth (by omega)]
  rfl
theorem wIx_lL {α : Type} [Inhabited α] {k k' : Kd} {xs : List α} {f : α → PyData} {Q : R → Prop} (h : 1 ≤ xs.length) : wIx ⟨k, .list (xs.map f)⟩ ⟨k', .int (-1)⟩ Q = Q (itemK k (f (nth xs (xs.length - 1)))) := by
  refine wIx_l ?_
  rw [at_last _ (by simpa using h), List.length_map, List.getElem?_map, some_nth (by omega)]
  rfl
/-- what stays told of a slot: plain data that is shared -/
def loP : Option R → Option R
  | some ⟨.shr, d⟩ => if pur d = true then some ⟨.shr, d⟩ else none
  | _ => none
def lowF (F : Nat → List Addr) : Nat → List Addr := fun l => if l < big then [] else F l
theorem loP_some {x : Option R} {r : R} (h : loP x = some r) : x = some r ∧ r.k = .shr ∧ pur r.d = true := by
  unfold loP at h
  split at h
  · split at h
    · rename_i hp
      cases h
      exact ⟨rfl, rfl, hp⟩
    · cases h
  · cases h
section
variable {K : PySem.W.Frag} {v0 : Cv} {σ : L2.St} {H H1 H' : Hp} {ρ : DEnv} {F : Nat → List Addr}
theorem StOk.lend {i j : Nat} {v u : V} {r : R} {p : List Nat} {d : PyData} (S : StOk K v0 σ H ρ F) (hij : i ≠ j) (hf : free ρ j) (hv : σ[i]? = some (some v)) (hr : ρ[i]? = some (some r)) (hk : r.k = .own ∨ r.k = .fix) (va : VAt H v r.d p u) (hd : getP r.d p = some d) :
    ∃ (v1 : Cv) (F2 : Nat → List Addr) (Ga G0 Gb : List Addr), StOk K v1 (σ.set j (some u)) H ((ρ.set i none).set j (some ⟨.fix, d⟩)) F2 ∧ F i = Ga ++ G0 ++ Gb ∧ v1.v[j]? = some (some u) ∧ (∀ a, Own F2 a → Own F a) ∧ (∀ a, a ∈ Ga ++ Gb → ¬ Own F2 a) ∧ (∀ k, k ≠ j → k ≠ i → F2 k = F k) ∧
      ∀ H' e' G1, Tu H H' → Kpt H H' (Ga ++ Gb) → Rp K true H' u e' G1 → Rp K true H' v (setP r.d p e') (Ga ++ G1 ++ Gb) := by
  obtain ⟨e, Ga, G0, Gb, g1, g2, g3, g4⟩ := place va (F i) (S.rp hv hr hk)
  rw [hd] at g1
  cases g1
  have hj : j < ρ.length := free_lt hf
  have hjσ : j < σ.length := by rw [← S.len]; exact hj
  have nd := S.nd i
  rw [g2, List.append_assoc, List.nodup_append, List.nodup_append] at nd
  obtain ⟨ndA, ⟨nd0, ndB, d0B⟩, dA⟩ := nd
  have sub0 : ∀ a ∈ G0, a ∈ F i := fun a h => by rw [g2]; simp [h]
  let v1 : L2.St := (v0.v ++ List.replicate (j + 1) none).set j (some u)
  have v1j : v1[j]? = some (some u) := List.getElem?_set_self (by simp; omega)
  have v1k : ∀ k x, k ≠ j → v0.v[k]? = some (some x) → v1[k]? = some (some x) := fun k x n h => by
    show (List.set _ _ _)[k]? = _
    rw [List.getElem?_set_ne (Ne.symm n), List.getElem?_append_left (List.getElem?_eq_some_iff.mp h).1]
    exact h
  let F2 : Nat → List Addr := fun k => if k = j then G0 else if k = i then [] else F k
  have F2j : F2 j = G0 := by simp [F2]
  have F2i : F2 i = [] := by simp [F2, hij]
  have F2k : ∀ k, k ≠ j → k ≠ i → F2 k = F k := fun k a b => by simp [F2, a, b]
  have own2 : ∀ a, Own F2 a → Own F a := fun a ⟨k, z⟩ => by
    by_cases h1 : k = j
    · subst h1
      rw [F2j] at z
      exact ⟨i, sub0 a z⟩
    · by_cases h2 : k = i
      · subst h2
        rw [F2i] at z
        cases z
      · rw [F2k k h1 h2] at z
        exact ⟨k, z⟩
  have mem2 : ∀ k a, a ∈ F2 k → a ∈ F (if k = j then i else k) := fun k a z => by
    by_cases h1 : k = j
    · subst h1
      rw [F2j] at z
      rw [if_pos rfl]
      exact sub0 a z
    · rw [if_neg h1]
      by_cases h2 : k = i
      · subst h2
        rw [F2i] at z
        cases z
      · rw [F2k k h1 h2] at z
        exact z
  refine ⟨⟨v1, v0.ex, F2, H⟩, F2, Ga, G0, Gb, ⟨fun k r0 e => ?_, fun k => ?_, fun k l a h1 h2 => ?_, fun a h => S.live a (own2 a h), by simp [S.len], by simpa using S.sm, Step.refl⟩, g2, v1j, own2, fun a ha z => ?_, F2k, g4⟩
  · by_cases h1 : k = j
    · subst h1
      rw [List.getElem?_set_self (by simpa using hj)] at e
      cases e
      refine ⟨u, List.getElem?_set_self hjσ, ?_, v1j⟩
      rw [F2j]
      exact g3
    · rw [List.getElem?_set_ne (Ne.symm h1)] at e
      by_cases h2 : k = i
      · subst h2
        rw [List.getElem?_set_self (List.getElem?_eq_some_iff.mp hr).1] at e
        cases e
      · rw [List.getElem?_set_ne (Ne.symm h2)] at e
        obtain ⟨w, e1, so⟩ := S.slot k r0 e
        refine ⟨w, by rw [List.getElem?_set_ne (Ne.symm h1)]; exact e1, ?_⟩
        obtain ⟨kd, d0⟩ := r0
        cases kd with
        | shr =>
          obtain ⟨Gs, q1, q2⟩ := so
          exact ⟨Gs, q1, fun a ha z => q2 a ha (own2 a z)⟩
        | own =>
          show Rp K true H w d0 (F2 k)
          rw [F2k k h1 h2]
          exact so
        | fix =>
          refine ⟨?_, v1k k w h1 so.2⟩
          show Rp K true H w d0 (F2 k)
          rw [F2k k h1 h2]
          exact so.1
        | als => exact so
  · by_cases h1 : k = j
    · subst h1
      rw [F2j]
      exact nd0
    · by_cases h2 : k = i
      · subst h2
        rw [F2i]
        exact List.nodup_nil
      · rw [F2k k h1 h2]
        exact S.nd k
  · have e := S.dj _ _ a (mem2 k a h1) (mem2 l a h2)
    by_cases x1 : k = j <;> by_cases x2 : l = j
    · rw [x1, x2]
    · rw [if_pos x1, if_neg x2] at e
      subst e
      rw [F2i] at h2
      cases h2
    · rw [if_neg x1, if_pos x2] at e
      subst e
      rw [F2i] at h1
      cases h1
    · rw [if_neg x1, if_neg x2] at e
      exact e
  · obtain ⟨k, z⟩ := z
    have hai : a ∈ F i := by
      rw [g2]
      rcases List.mem_append.mp ha with h | h <;> simp [h]
    by_cases h1 : k = j
    · subst h1
      rw [F2j] at z
      rcases List.mem_append.mp ha with h | h
      · exact dA a h a (by simp [z]) rfl
      · exact d0B a z a h rfl
    · by_cases h2 : k = i
      · subst h2
        rw [F2i] at z
        cases z
      · rw [F2k k h1 h2] at z
        exact h2 (S.dj k i a z hai)
end
/-- x = place; if test: body that ends with return; rest (x is not used there) -/
def wFar (i j : Nat) (wp : WPl) (wt : WT) (w wr : WS) : WS := fun D ρ => i ≠ j ∧ free ρ j ∧ wp ρ fun p => ∃ r d, ρ[i]? = some (some r) ∧ dAt ρ i p = some d ∧ wt ((ρ.set i none).set j (some ⟨.fix, d⟩)) fun ρ3 c =>
  if c = true then w { nx := fun _ => False, rt := fun ρ4 r4 => pur r4.d = true ∧ ∃ d', ρ4[j]? = some (some ⟨.fix, d'⟩) ∧ D.rt ((ρ.map loP).set i (some ⟨r.k, setP r.d p d'⟩)) (P r4.d) } ρ3
  else wr D (ρ.set j none)
section
variable {X : Cx} {v0 : Cv} {o ec : Expr} {wp : WPl} {wt : WT} {w wr : WS} {body rest : List Stmt} {pos pos2 : Pos}
theorem ds_far (i j : Nat) {x : Str} {p' : Pos} (hN : X.N.Nodup) (ho : DPl X v0 i o wp) (hc : ∀ v, DT X v false ec wt) (hb : ∀ v, DSs X v body w) (hr : DSs X v0 rest wr) (hi : X.N[j]? = some x := by rfl) (hx : Loc X.env.scope x := by first | exact Or.inl rfl | exact Or.inr rfl)
    (hs : swapsWith o (some (.Name x p')) pos.line X.env = pure false := by rfl) (hf : X.fn x = true ∨ X.env.scope.names.lookup x = some .local := by first | exact .inl rfl | exact .inr rfl) :
    DSs X v0 (.Assign [.Name x p'] o pos :: .If ec body [] pos2 :: rest) (wFar i j wp wt w wr) := by
  obtain ⟨t, p, q⟩ := ho
  obtain ⟨tr, pr, qr⟩ := hr
  have hc' := fun v => (hc v).ex
  have hb' := fun v => (hb v).ex
  obtain ⟨tc, htc⟩ := Classical.axiomOfChoice hc'
  obtain ⟨tb, htb⟩ := Classical.axiomOfChoice hb'
  have pc := fun v => (htc v).1
  have qc := fun v => (htc v).2
  have pb := fun v => (htb v).1
  have qb := fun v => (htb v).2
  have pC : PT X ec (fun σ H Q => ∃ v, tc v σ H Q) := ⟨fun pins s σ H Q I ⟨v, h⟩ => (pc v).run pins s σ H Q I h⟩
  have pB : PSs X body (fun D σ H => ∃ v, tb v D σ H) := ⟨fun pins s σ H D I ⟨v, h⟩ => (pb v).run pins s σ H D I h⟩
  refine ⟨_, pss_cons (ps_set hN hi hx p hs hf) (pss_cons (ps_if pC pB pss_nil) pr), fun σ H ρ F S Dd D ends h => ?_⟩
  obtain ⟨hij, hfr, h⟩ := h
  refine q σ H ρ F S _ _ h fun pp u v r H1 x1 hv hr hk va h1 => ?_
  obtain ⟨r', d, hr', hd, h1⟩ := h1
  rw [hr] at hr'
  cases hr'
  have gp := getP_uniq hd hr
  have S1 := S.ext x1
  obtain ⟨v1, F2, Ga, G0, Gb, S2, g2, v1j, own2, nown, F2k, g4⟩ := S1.lend hij hfr hv hr hk va gp
  refine ⟨v1, qc v1 _ H1 _ F2 S2 _ _ h1 fun c H2 ρ3 F3 S3 s3 e3 h3 => ?_⟩
  obtain ⟨q1, q2, x2⟩ := e3.non rfl
  subst q1
  subst q2
  have x12 : Ext H H2 := x1.trans x2
  cases c with
  | true =>
    rw [if_pos rfl] at h3 ⊢
    refine ⟨v1, qb v1 _ H2 _ F3 S3 _ _ ?_ h3⟩
    refine ⟨fun _ _ _ _ _ _ z => z.elim, fun σ4 v4 H4 ρ4 F4 r4 G4 S4 s4 ro4 hh => ?_, fun _ _ _ _ _ _ z => z.elim, fun _ _ _ _ _ _ z => z.elim⟩
    obtain ⟨hp, d', hd', hq⟩ := hh
    obtain ⟨v', e1, so⟩ := S4.slot j _ hd'
    have so1 : Rp X.K true H4 v' d' (F4 j) := so.1
    have so2 : v1.v[j]? = some (some v') := so.2
    rw [v1j] at so2
    cases so2
    have hi' : i < ρ.length := (List.getElem?_eq_some_iff.mp hr).1
    have tu : Tu H H4 := fun a xs z => s4.tups a xs (x12.tu a xs z)
    have kp : Kpt H1 H4 (Ga ++ Gb) := fun b hb o ho => s4.keep b o (x2 b o ho) (nown b hb)
    have rp := g4 H4 d' (F4 j) (fun a xs z => s4.tups a xs (x2.tu a xs z)) kp so1
    have memi : ∀ a, a ∈ Ga ++ Gb → a ∈ F i := fun a ha => by
      rw [g2]
      rcases List.mem_append.mp ha with z | z <;> simp [z]
    have sepj : ∀ a, a ∈ F4 j → a ∉ Ga ++ Gb := fun a ha z => by
      rcases s4.own a ⟨j, ha⟩ with y | y
      · exact nown a z y
      · exact (x12.ne (S.live a ⟨i, memi a z⟩)) y
    have memX : ∀ a, a ∈ Ga ++ F4 j ++ Gb → a ∈ Ga ++ Gb ∨ a ∈ F4 j := fun a ha => by
      simp only [List.mem_append] at ha ⊢
      rcases ha with (ha | ha) | ha
      · exact .inl (.inl ha)
      · exact .inr ha
      · exact .inl (.inr ha)
    have nd := S.nd i
    rw [g2, List.append_assoc, List.nodup_append, List.nodup_append] at nd
    obtain ⟨ndA, ⟨nd0, ndB, d0B⟩, dA⟩ := nd
    have hib : i < big := S.ilt hr
    have hjb : j < big := Nat.lt_of_lt_of_le (S.len ▸ free_lt hfr) S.sm
    have per4 : ∀ l, big ≤ l → F4 l = F l := fun l hl => (s4.per l hl).trans (F2k l (fun e => Nat.lt_irrefl _ (Nat.lt_of_lt_of_le (e ▸ hjb) hl)) (fun e => Nat.lt_irrefl _ (Nat.lt_of_lt_of_le (e ▸ hib) hl)))
    have ownX : ∀ a, Own (sF (lowF F4) i (Ga ++ F4 j ++ Gb)) a → a ∈ Ga ++ F4 j ++ Gb ∨ ∃ l, big ≤ l ∧ a ∈ F4 l := fun a ⟨k, z⟩ => by
      unfold sF at z
      split at z
      · exact .inl z
      · unfold lowF at z
        split at z
        · cases z
        · rename_i h
          exact .inr ⟨k, Nat.le_of_not_lt h, z⟩
    have apX : ∀ a l, big ≤ l → a ∈ F4 l → a ∈ Ga ++ F4 j ++ Gb → False := fun a l hl z y => by
      rcases memX a y with y | y
      · have y' := memi a y
        rw [per4 l hl] at z
        have := S.dj i l a y' z
        exact Nat.lt_irrefl _ (Nat.lt_of_lt_of_le (this ▸ hib) hl)
      · have := S4.dj j l a y z
        exact Nat.lt_irrefl _ (Nat.lt_of_lt_of_le (this ▸ hjb) hl)
    have stp : Step F H (sF (lowF F4) i (Ga ++ F4 j ++ Gb)) H4 := by
      refine ⟨fun a o ha na => ?_, fun a z => ?_, tu, fun l hl => ?_, fun l hl b hb o ho => s4.pk l hl b (by rw [F2k l (fun e => Nat.lt_irrefl _ (Nat.lt_of_lt_of_le (e ▸ hjb) hl)) (fun e => Nat.lt_irrefl _ (Nat.lt_of_lt_of_le (e ▸ hib) hl))]; exact hb) o (x12 b o ho)⟩
      · refine s4.keep a o (x12 a o ha) fun z => na (own2 a z)
      · rcases ownX a z with z | ⟨l, hl, z⟩
        · rcases memX a z with y | y
          · exact .inl ⟨i, memi a y⟩
          · rcases s4.own a ⟨j, y⟩ with y | y
            · exact .inl (own2 a y)
            · refine .inr ?_
              cases e : H a with
              | none => rfl
              | some o =>
                have := x12 a o e
                rw [y] at this
                cases this
        · exact .inl ⟨l, (per4 l hl) ▸ z⟩
      · rw [sF_big hib l hl]
        unfold lowF
        rw [if_neg (Nat.not_lt.mpr hl)]
        exact per4 l hl
    refine ends.rt σ v4 H4 ((ρ.map loP).set i (some ⟨r.k, setP r.d pp d'⟩)) (sF (lowF F4) i (Ga ++ F4 j ++ Gb)) (P r4.d) [] ⟨fun k r0 e => ?_, fun k => ?_, fun k l a h1 h2 => ?_, fun a z => ?_, by simp [S.len], S.sm, S.st.trans stp⟩ stp ?_ hq
    · by_cases hki : k = i
      · subst hki
        rw [List.getElem?_set_self (by simpa using hi')] at e
        cases e
        refine ⟨v, hv, ?_⟩
        obtain ⟨v2, hv2, so0⟩ := S.slot k r hr
        rw [hv] at hv2
        cases hv2
        have hF : sF (lowF F4) k (Ga ++ F4 j ++ Gb) k = Ga ++ F4 j ++ Gb := by unfold sF; rw [if_pos rfl]
        obtain ⟨kd, d0⟩ := r
        rcases hk with hk | hk <;> cases hk
        · show Rp X.K true H4 v _ (sF (lowF F4) k (Ga ++ F4 j ++ Gb) k)
          rw [hF]
          exact rp
        · refine ⟨?_, so0.2⟩
          show Rp X.K true H4 v _ (sF (lowF F4) k (Ga ++ F4 j ++ Gb) k)
          rw [hF]
          exact rp
      · rw [List.getElem?_set_ne (Ne.symm hki), List.getElem?_map] at e
        cases hρ : ρ[k]? with
        | none => rw [hρ] at e; cases e
        | some x0 =>
          rw [hρ] at e
          simp only [Option.map_some, Option.some.injEq] at e
          obtain ⟨rfl, z1, z2⟩ := loP_some e
          obtain ⟨w0, e2, so0⟩ := S.slot k _ hρ
          refine ⟨w0, e2, ?_⟩
          obtain ⟨kd, d0⟩ := r0
          cases z1
          obtain ⟨Gs, y1, y2⟩ := so0
          obtain ⟨_, y3⟩ := Rp.pure' (m' := false) _ _ _ y1 z2
          exact ⟨[], y3.keep tu _ _ _ (fun _ z => nomatch z), fun _ z => nomatch z⟩
    · unfold sF
      split
      · rw [List.append_assoc, List.nodup_append, List.nodup_append]
        refine ⟨ndA, ⟨S4.nd j, ndB, fun b h1 c h2 z => ?_⟩, fun b h1 c h2 z => ?_⟩
        · subst z
          exact sepj b h1 (by simp [h2])
        · subst z
          rcases List.mem_append.mp h2 with h2 | h2
          · exact sepj b h2 (by simp [h1])
          · exact dA b h1 b (by simp [h2]) rfl
      · unfold lowF
        split
        · exact List.nodup_nil
        · exact S4.nd k
    · unfold sF at h1 h2
      split at h1
      · split at h2
        · rename_i z1 z2
          rw [z1, z2]
        · unfold lowF at h2
          split at h2
          · cases h2
          · rename_i z
            exact (apX a l (Nat.le_of_not_lt z) h2 h1).elim
      · unfold lowF at h1
        split at h1
        · cases h1
        · rename_i z
          split at h2
          · exact (apX a k (Nat.le_of_not_lt z) h1 h2).elim
          · unfold lowF at h2
            split at h2
            · cases h2
            · exact S4.dj k l a h1 h2
    · rcases ownX a z with z | ⟨l, _, z⟩
      · exact rp.live _ _ _ a z
      · exact S4.live a ⟨l, z⟩
    · obtain ⟨_, y⟩ := Rp.pure' (m' := false) _ _ _ ro4.read hp
      exact ⟨y, fun _ z => nomatch z⟩
  | false =>
    rw [if_neg Bool.false_ne_true] at h3 ⊢
    have T := (S.ext x12).drop j (Nat.lt_of_lt_of_le (S.len ▸ free_lt hfr) S.sm)
    refine qr _ H2 (ρ.set j none) (sF F j []) ⟨fun k r0 e => ?_, T.nd, T.dj, T.live, by simp [S.len], by simpa using T.sm, T.st⟩ _ _ (ends.step ((Step.ext x12).trans (Step.drop j (Nat.lt_of_lt_of_le (S.len ▸ free_lt hfr) S.sm)))) h3
    obtain ⟨w0, e1, so⟩ := T.slot k r0 e
    by_cases hkj : k = j
    · subst hkj
      rw [List.getElem?_set_self (free_lt hfr)] at e
      cases e
    · exact ⟨w0, by rw [List.getElem?_set_ne (Ne.symm hkj)]; exact e1, so⟩
end
end DL
namespace DL
open PySem PySem.Spec PyProof.Rows L2
def flatD : PyData → Bool
  | .none => true
  | .bool _ => true
  | .int _ => true
  | .str _ => true
  | _ => false
def eqD : PyData → PyData → Bool
  | .none, .none => true
  | .bool a, .bool b => a == b
  | .bool a, .int b => (if a then 1 else 0) == b
  | .int a, .bool b => a == (if b then 1 else 0)
  | .int a, .int b => a == b
  | .str a, .str b => a == b
  | _, _ => false
section
variable {K : PySem.W.Frag} {m : Bool} {H : Hp} {X : Cx}
theorem flat_v {v : V} {d : PyData} {G : List Addr} (r : Rp K m H v d G) (f : flatD d = true) : flatV v = true := by
  cases r <;> first | rfl | cases f
theorem eq_v {v w : V} {d e : PyData} {G G' : List Addr} (r : Rp K m H v d G) (s : Rp K m H w e G') (f : flatD d = true) (g : flatD e = true) : eqV v w = eqD d e := by
  cases r <;> first | (cases f; done) | (cases s <;> first | rfl | cases g)
theorem flat_all : ∀ {ds : List PyData} {vs : List V} {G : List Addr}, RpAll K m H vs ds G → ds.all flatD = true → vs.all flatV = true
  | _, _, _, .nil, _ => rfl
  | _, _, _, .cons r t, f => by
    rw [List.all_cons, Bool.and_eq_true] at f ⊢
    exact ⟨flat_v r f.1, flat_all t f.2⟩
theorem in_all {v : V} {d : PyData} {G0 : List Addr} (r0 : Rp K m H v d G0) (f0 : flatD d = true) : ∀ {ds : List PyData} {vs : List V} {G : List Addr}, RpAll K m H vs ds G → ds.all flatD = true → inV v vs = ds.any fun y => eqD y d
  | _, _, _, .nil, _ => rfl
  | _, _, _, .cons r t, f => by
    rw [List.all_cons, Bool.and_eq_true] at f
    have := in_all r0 f0 t f.2
    unfold inV at this ⊢
    rw [List.any_cons, List.any_cons, this, eq_v r r0 f.1 f0]
theorem look_some {k : Key} : ∀ {kvs : List (PyData × PyData)} {ks : List (Key × V)}, kvs.map (·.1) = ks.map (fun p => keyD p.1) → (lookD kvs k).isSome = (valV ks k).isSome
  | [], ks, e => by
    cases ks with
    | nil => rfl
    | cons _ _ => cases e
  | (kd, d0) :: kvs, ks, e => by
    cases ks with
    | nil => cases e
    | cons p ks =>
      obtain ⟨k0, v0⟩ := p
      simp only [List.map_cons, List.cons.injEq] at e
      obtain ⟨e1, e2⟩ := e
      unfold lookD
      rw [List.find?_cons]
      simp only [e1, keyOf_D]
      by_cases hk : k0 = k
      · subst hk
        rw [valV_pos rfl]
        simp
      · rw [valV_neg hk]
        have hb : decide (some k0 = some k) = false := decide_eq_false fun e => hk (Option.some.inj e)
        rw [hb]
        exact look_some (k := k) e2
def rDIn (g : Bool → Bool) : R2 := fun x y H Q => ∃ a o, y = .ref a ∧ DGet H a x o ∧ Q (.bl (g o.isSome)) H
theorem op_dIn (hu : X.A.units + 1 < cLine) : OpR X (compareOp .In) (rDIn id) := by
  intro pins s σ H x y v u Q I rx ry h
  obtain ⟨a, o, rfl, g, q⟩ := h
  obtain rfl : u = Value.ref a := ry
  exact d_in hu I g rx fun s3 I3 => ⟨.bl o.isSome, H, I3, rfl, q⟩
theorem op_dNotIn (hu : X.A.units + 1 < cLine) : OpR X (compareOp .NotIn) (rDIn not) := by
  intro pins s σ H x y v u Q I rx ry h
  obtain ⟨a, o, rfl, g, q⟩ := h
  obtain rfl : u = Value.ref a := ry
  exact d_notIn hu I g rx fun s3 I3 => ⟨.bl (!o.isSome), H, I3, rfl, q⟩
def rInS (g : Bool → Bool) : R2 := fun x y H Q => ∃ i j, x = .str i ∧ y = .str j ∧ Q (.bl (g (!(Builtin.Str.occurrences j i 0 j.length 1).isEmpty))) H
theorem op_sIn : OpR X (compareOp .In) (rInS id) := op_in_str
theorem op_sNotIn : OpR X (compareOp .NotIn) (rInS not) := op_notIn_str
def rInA (K : PySem.W.Frag) : R2 := fun x y H Q => ((rInD K x y H Q ∨ rIn K false x y H Q) ∨ rDIn id x y H Q) ∨ rInS id x y H Q
def rNotInA (K : PySem.W.Frag) : R2 := fun x y H Q => ((rNotInD K x y H Q ∨ rIn K true x y H Q) ∨ rDIn not x y H Q) ∨ rInS not x y H Q
theorem op_inA (hu : X.A.units + 65 < cLine) : OpR X (compareOp .In) (rInA X.K) := (((op_inD hu).or op_in_seq).or (op_dIn (by omega))).or op_sIn
theorem op_notInA (hu : X.A.units + 65 < cLine) : OpR X (compareOp .NotIn) (rNotInA X.K) := (((op_notInD hu).or op_notIn_seq).or (op_dNotIn (by omega))).or op_sNotIn
def wInA (g : Bool → Bool) : R → R → (R → Prop) → Prop := fun a b Q => match b.d with
  | .list ds => nodct a.d = true ∧ nodcts ds = true ∧ SeqAt.shaped a.d = true ∧ SeqAt.shaped (.list ds) = true ∧ Q (P (.bool (g (ds.any fun z => PyData.eqv z a.d))))
  | .tuple ds => flatD a.d = true ∧ ds.all flatD = true ∧ Q (P (.bool (g (ds.any fun y => eqD y a.d))))
  | .dict kvs => ∃ k, keyOf a.d = some k ∧ (kvs.all fun kv => (keyOf kv.1).isSome) = true ∧ Q (P (.bool (g (lookD kvs k).isSome)))
  | .str y => ∃ x, a.d = .str x ∧ Q (P (.bool (g (!(Builtin.Str.occurrences y x 0 y.length 1).isEmpty))))
  | _ => False
theorem od_inG {g : Bool → Bool} {r1 r2 r3 r4 : R2} (h1 : OD K r1 (wIn g)) (h2 : r2 = fun x y H Q => ∃ p xs, y = .ref p ∧ (SqL K H p xs ∨ SqT K H p xs) ∧ flatV x = true ∧ xs.all flatV = true ∧ Q (.bl (g (inV x xs))) H) (h3 : r3 = rDIn g) (h4 : r4 = rInS g) :
    OD K (fun x y H Q => ((r1 x y H Q ∨ r2 x y H Q) ∨ r3 x y H Q) ∨ r4 x y H Q) (wInA g) := by
  subst h2 h3 h4
  intro N H x y rx ry ax ay Qd Q hw k
  obtain ⟨kx, dx⟩ := rx
  obtain ⟨ky, dy⟩ := ry
  unfold wInA at hw
  cases dy with
  | list ds => exact .inl (.inl (.inl (h1 N H x y ⟨kx, dx⟩ ⟨ky, .list ds⟩ ax ay Qd Q hw k)))
  | tuple ds =>
    obtain ⟨f1, f2, hq⟩ := hw
    obtain ⟨G1, q1, _⟩ := ax
    obtain ⟨G2, q2, _⟩ := ay
    obtain ⟨a, xs, rfl, st, ra⟩ := Rp.sqt (ds := ds) q2
    refine .inl (.inl (.inr ⟨a, xs, rfl, .inr st, flat_v q1 f1, flat_all ra f2, ?_⟩))
    rw [in_all q1 f1 ra f2]
    exact k _ H _ [] Ext.refl (NewOk.pure (.bl _)) hq
  | dict kvs =>
    obtain ⟨key, hk, ha, hq⟩ := hw
    obtain ⟨G1, q1, _⟩ := ax
    obtain ⟨G2, q2, _⟩ := ay
    have q2 : Rp K false H y (.dict kvs) G2 := q2
    have ex := key_V q1 hk
    cases q2 with
    | dK e1 e2 e3 =>
      refine .inl (.inr ⟨_, _, rfl, by rw [ex]; exact DGet.k e1, ?_⟩)
      rw [← look_some e2]
      exact k _ H _ [] Ext.refl (NewOk.pure (.bl _)) hq
    | dN e1 e2 e3 =>
      exfalso
      cases kvs with
      | nil => exact e2.2.2 rfl
      | cons kv kvs =>
        have := keysN_no e2 kv (.head _)
        rw [List.all_cons, this] at ha
        simp at ha
  | str z =>
    obtain ⟨x', hx, hq⟩ := hw
    obtain ⟨G1, q1, _⟩ := ax
    obtain ⟨G2, q2, _⟩ := ay
    have q1 : Rp K false H x dx G1 := q1
    have q2 : Rp K false H y (.str z) G2 := q2
    have hx : dx = .str x' := hx
    subst hx
    cases q1
    cases q2
    exact .inr ⟨_, _, rfl, rfl, k _ H _ [] Ext.refl (NewOk.pure (.bl _)) hq⟩
  | _ => exact hw.elim
theorem od_inA : OD K (rInA K) (wInA id) := od_inG (g := id) od_in rfl rfl rfl
theorem od_notInA : OD K (rNotInA K) (wInA not) := od_inG (g := not) od_notIn rfl rfl rfl
theorem wInA_l {k : Kd} {g : Bool → Bool} {r : R} {ds : List PyData} {Q : R → Prop} : wInA g r ⟨k, .list ds⟩ Q = (nodct r.d = true ∧ nodcts ds = true ∧ SeqAt.shaped r.d = true ∧ SeqAt.shaped (.list ds) = true ∧ Q (P (.bool (g (ds.any fun z => PyData.eqv z r.d))))) := rfl
theorem wInA_t {k : Kd} {g : Bool → Bool} {r : R} {ds : List PyData} {Q : R → Prop} : wInA g r ⟨k, .tuple ds⟩ Q = (flatD r.d = true ∧ ds.all flatD = true ∧ Q (P (.bool (g (ds.any fun y => eqD y r.d))))) := rfl
theorem wInA_d {k : Kd} {g : Bool → Bool} {r : R} {kvs : List (PyData × PyData)} {Q : R → Prop} : wInA g r ⟨k, .dict kvs⟩ Q = ∃ key, keyOf r.d = some key ∧ (kvs.all fun kv => (keyOf kv.1).isSome) = true ∧ Q (P (.bool (g (lookD kvs key).isSome))) := rfl
theorem eqD_ss {a b : Str} : eqD (.str a) (.str b) = decide (a = b) := by
  unfold eqD
  by_cases h : a = b
  · subst h; simp
  · rw [decide_eq_false h]; exact beq_false_of_ne h
theorem eqD_ii {a b : Int} : eqD (.int a) (.int b) = decide (a = b) := by
  unfold eqD
  by_cases h : a = b
  · subst h; simp
  · rw [decide_eq_false h]; exact beq_false_of_ne h
end
/-- a comprehension whose element draws: what is lent (d, with B) goes on, each result is some b with p -/
theorem wLc_gen {α β : Type} {wi : WI} {g : WG} {we : WE} {vs : List Nat} {ρ : DEnv} {Q : DEnv → R → Prop} (xs : List α) (enc : α → PyData) (enc2 : β → PyData) (B : PyData → Prop) (p : β → Prop) (E : PyData → DEnv → Prop) (d0 : PyData) (hl : xs.length ≤ sizeLine) (h0 : B d0)
    (hi : ∀ Q : DEnv → List PyData → Prop, (∀ ρ1, E d0 (wipeD ρ1 vs) → Q ρ1 (xs.map enc)) → wi ρ Q)
    (hs : ∀ (k : Nat) (x : α) (ρ' : DEnv) (d : PyData) (N : DEnv → R → Prop), xs[k]? = some x → B d → E d ρ' → (∀ ρ4 r b d', B d' → p b → owp r = true → r.d = enc2 b → E d' (wipeD ρ4 vs) → N ρ4 r) → g ⟨.shr, enc x⟩ ρ' fun ρ2 => we ρ2 N)
    (q : ∀ ρ' d (bs : List β), B d → bs.length = xs.length → (∀ b ∈ bs, p b) → E d ρ' → Q ρ' ⟨.own, .list (bs.map enc2)⟩) : wLc wi g wYes we vs ρ Q := by
  refine wLc_ix xs enc (fun k ρ' acc => ∃ (d : PyData) (bs : List β), B d ∧ bs.length = k ∧ (∀ b ∈ bs, p b) ∧ acc = bs.map enc2 ∧ E d ρ') hl (fun k ρ acc hI => by obtain ⟨d, bs, _, hl, _, rfl, _⟩ := hI; simp [hl]) (fun Q h => hi Q fun ρ1 hE => h ρ1 ⟨d0, [], h0, rfl, (fun _ z => nomatch z), rfl, hE⟩) ?_ ?_
  · rintro k x ρ' acc N hx ⟨d, bs, hB, hl, hp, rfl, hE⟩ hN
    refine hs k x ρ' d N hx hB hE fun ρ4 r b d' hB' hb ho hr hE' => hN ρ4 r ho ⟨d', bs ++ [b], hB', by simp [hl], fun y hy => ?_, by simp [hr], hE'⟩
    rcases List.mem_append.mp hy with hy | hy
    · exact hp y hy
    · rw [List.mem_singleton.mp hy]; exact hb
  · rintro ρ' acc ⟨d, bs, hB, hl, hp, rfl, hE⟩
    exact q ρ' d bs hB hl hp hE
theorem wIx_lm0 {α : Type} [Inhabited α] {k k' : Kd} {xs : List α} {f : α → PyData} {Q : R → Prop} (h : 1 ≤ xs.length) : wIx ⟨k, .list (xs.map f)⟩ ⟨k', .int 0⟩ Q = Q (itemK k (f (nth xs 0))) := wIx_lm (n := 0) h
theorem wIx_tm0 {α : Type} [Inhabited α] {k k' : Kd} {xs : List α} {f : α → PyData} {Q : R → Prop} (h : 1 ≤ xs.length) : wIx ⟨k, .tuple (xs.map f)⟩ ⟨k', .int 0⟩ Q = Q (itemK k (f (nth xs 0))) := wIx_tm (n := 0) h
theorem lookD_c {k k' : Str} {d : PyData} {kvs : List (PyData × PyData)} : lookD ((.str k, d) :: kvs) (.inr k') = if k = k' then some d else lookD kvs (.inr k') := by
  unfold lookD
  rw [List.find?_cons]
  by_cases h : k = k'
  · subst h; simp [keyOf]
  · have : decide (keyOf (PyData.str k) = some (Sum.inr k')) = false := decide_eq_false fun e => h (by simpa [keyOf] using e)
    simp [this, h]
theorem keyOf_s {x : Str} : keyOf (.str x) = some (.inr x) := rfl
theorem keyOf_i {x : Int} : keyOf (.int x) = some (.inl x) := rfl
theorem wLcD_gen {α β : Type} {g : WG} {we : WE} {vs : List Nat} {ds : List PyData} {ρ1 : DEnv} {Q : DEnv → R → Prop} (xs : List α) (enc : α → PyData) (hds : ds = xs.map enc) (enc2 : β → PyData) (B : PyData → Prop) (p : β → Prop) (E : PyData → DEnv → Prop) (d0 : PyData) (hl : xs.length ≤ sizeLine) (h0 : B d0)
    (hE0 : E d0 (wipeD ρ1 vs))
    (hs : ∀ (k : Nat) (x : α) (ρ' : DEnv) (d : PyData) (N : DEnv → R → Prop), xs[k]? = some x → B d → E d ρ' → (∀ ρ4 r b d', B d' → p b → owp r = true → r.d = enc2 b → E d' (wipeD ρ4 vs) → N ρ4 r) → g ⟨.shr, enc x⟩ ρ' fun ρ2 => we ρ2 N)
    (q : ∀ ρ' d (bs : List β), B d → bs.length = xs.length → (∀ b ∈ bs, p b) → E d ρ' → Q ρ' ⟨.own, .list (bs.map enc2)⟩) : wLcD g wYes we vs ds ρ1 Q := by
  subst hds
  exact wLc_gen (wi := fun ρ Q => Q ρ1 (xs.map enc)) (ρ := ρ1) xs enc enc2 B p E d0 hl h0 (fun Q h => h ρ1 hE0) hs q
theorem cv_shl {ds : List PyData} : cv ⟨.shr, .list ds⟩ = ⟨.als, .list ds⟩ := by simp [cv, pur]
end DL
namespace DL
open PySem PySem.Spec PyProof.Rows L2
section
variable {K : PySem.W.Frag} {m : Bool} {H : Hp}
theorem RpAll.rev : ∀ {vs : List V} {ds : List PyData} {G : List Addr}, RpAll K m H vs ds G → ∃ G', RpAll K m H vs.reverse ds.reverse G'
  | _, _, _, .nil => ⟨[], .nil⟩
  | _, _, _, .cons r t => by
    obtain ⟨G', h⟩ := RpAll.rev t
    rw [List.reverse_cons, List.reverse_cons]
    exact ⟨_, h.append (.cons r .nil)⟩
end
def wRevL (we : WE) : WE := fun ρ Q => we ρ fun ρ1 r => match r.d with
  | .list ds => Q ρ1 ⟨kOf ds.reverse, .list ds.reverse⟩
  | _ => False
theorem de_revL {X : Cx} {v0 : Cv} {ea : Bool} {e : Expr} {we : WE} {k : Nat} {p1 p2 p3 pos : Pos} (he : DE X v0 ea e we) : DE X v0 ea (.Subscript e (.Slice none none (some (.UnaryOp .USub (.Constant (.int 1) k p1) p2)) p3) pos) (wRevL we) := by
  obtain ⟨t, p, q⟩ := he
  refine ⟨_, pe_revL p, fun σ H ρ F S Qd Q h k => ?_⟩
  refine q σ H ρ F S _ _ h fun x H1 ρ1 F1 r G S1 s1 e1 r1 h1 => ?_
  obtain ⟨kd, d⟩ := r
  have rd : Rp X.K false H1 x d G := r1.read
  cases d <;> first | exact h1.elim | skip
  rename_i ds
  obtain ⟨a, xs, _, rfl, hs, ra, _⟩ := Rp.sql rd
  refine ⟨a, xs, rfl, hs, fun p np => ?_⟩
  obtain ⟨G1, c1⟩ := ra.rev
  obtain ⟨G', n⟩ := new_list (N := fun a => ¬ Own F1 a) np c1
  have ex : Ext H1 (upd H1 p (.lst xs.reverse)) := Ext.upd np
  exact k _ _ ρ1 F1 _ G' (S1.ext ex) (s1.trans (Step.ext ex)) (e1.ext ex) (n.res S1 s1) h1
theorem wRevL_l {we : WE} {ρ ρ1 : DEnv} {Q : DEnv → R → Prop} {ds : List PyData} {k : Kd} (h : ∀ Q : DEnv → R → Prop, Q ρ1 ⟨k, .list ds⟩ → we ρ Q) (q : Q ρ1 ⟨kOf ds.reverse, .list ds.reverse⟩) : wRevL we ρ Q := h _ q
def revR (r : R) (Q : R → Prop) : Prop := match r.d with
  | .list ds => Q ⟨kOf ds.reverse, .list ds.reverse⟩
  | _ => False
theorem wRevL_eq {we : WE} {ρ : DEnv} {Q : DEnv → R → Prop} : wRevL we ρ Q = we ρ fun ρ1 r => revR r (Q ρ1) := by
  unfold wRevL revR
  congr 1
theorem revR_l {k : Kd} {ds : List PyData} {Q : R → Prop} : revR ⟨k, .list ds⟩ Q = Q ⟨kOf ds.reverse, .list ds.reverse⟩ := rfl
/-- a slice whose items stay shared where they were -/
def kSl (k : Kd) (ds : List PyData) : Kd := if purs ds = true then .own else if k = .shr then .shr else .als
def cutR2 (r : R) (lo hi : Option Int) (Q : R → Prop) : Prop := match r.d with
  | .list ds => Q ⟨kSl r.k (cutD ds lo hi), .list (cutD ds lo hi)⟩
  | _ => False
def wSlcL (we : WE) (wl wh : WPt) : WE := fun ρ Q => we ρ fun ρ1 r => wl ρ1 fun lo => wh ρ1 fun hi => cutR2 r lo hi (Q ρ1)
theorem cutR2_l {k : Kd} {ds : List PyData} {lo hi : Option Int} {Q : R → Prop} : cutR2 ⟨k, .list ds⟩ lo hi Q = Q ⟨kSl k (cutD ds lo hi), .list (cutD ds lo hi)⟩ := rfl
theorem kSl_shr {ds : List PyData} (h : purs ds = false) : kSl .shr ds = .shr := by simp [kSl, h]
theorem kSl_pur {k : Kd} {ds : List PyData} (h : purs ds = true) : kSl k ds = .own := by simp [kSl, h]
theorem kSl_ne (ds : List PyData) : kSl .shr ds ≠ .als := by
  unfold kSl
  split
  · decide
  · decide
theorem de_sliceL {X : Cx} {v0 : Cv} {ea : Bool} {e : Expr} {we : WE} {wl wh : WPt} {lo hi : Option Expr} {p2 pos : Pos} (he : DE X v0 ea e we) (hl : DO X v0 lo wl) (hh : DO X v0 hi wh) : DE X v0 ea (.Subscript e (.Slice lo hi none p2) pos) (wSlcL we wl wh) := by
  obtain ⟨t, p, q⟩ := he
  obtain ⟨tl, pl, ql⟩ := hl
  obtain ⟨th, ph, qh⟩ := hh
  refine ⟨_, pe_slice sl_any p pl ph, fun σ H ρ F S Qd Q h k => ?_⟩
  refine q σ H ρ F S _ _ h fun x H1 ρ1 F1 r G S1 s1 e1 r1 h1 => ?_
  refine ql σ H1 ρ1 F1 S1 _ _ h1 fun lo H2 x2 h2 => ?_
  have S2 := S1.ext x2
  have s2 := s1.trans (Step.ext (F := F1) x2)
  have r2 := r1.ext x2
  have e2 := e1.ext x2
  refine qh σ H2 ρ1 F1 S2 _ _ h2 fun hi H3 x3 h3 => ?_
  have S3 := S2.ext x3
  have s3 := s2.trans (Step.ext (F := F1) x3)
  have r3 := r2.ext x3
  have e3 := e2.ext x3
  have fin : ∀ v H' r' G', Ext H3 H' → NewOk X.K (fun a => ¬ Own F1 a) H3 H' r' v G' → Qd ρ1 r' → Q v H' := fun v H' r' G' ex n hq =>
    k v H' ρ1 F1 r' G' (S3.ext ex) (s3.trans (Step.ext ex)) (e3.ext ex) (n.res S3 s3) hq
  obtain ⟨kd, d⟩ := r
  have rd : Rp X.K false H3 x d G := r3.read
  cases d <;> first | exact h3.elim | skip
  rename_i ds
  obtain ⟨a, xs, Gx, rfl, hs, ra, sub⟩ := Rp.sql rd
  refine .inl (.inl ⟨a, xs, rfl, hs, fun p np => ?_⟩)
  obtain ⟨G1, c1, su⟩ := ra.cut lo hi
  have h3 : Qd ρ1 ⟨kSl kd (cutD ds lo hi), .list (cutD ds lo hi)⟩ := h3
  have ex := Ext.upd (o := .lst (cutV xs lo hi)) np
  by_cases hp : purs (cutD ds lo hi) = true
  · obtain ⟨G', n⟩ := new_list (N := fun a => ¬ Own F1 a) np c1
    rw [kSl_pur hp] at h3
    unfold kOf at n
    rw [if_pos hp] at n
    exact fin _ _ _ G' ex n h3
  · by_cases hk : kd = .shr
    · subst hk
      have hn : ∀ b ∈ G, ¬ Own F1 b := r3.2
      rw [kSl_shr (by simpa using hp)] at h3
      refine fin _ _ ⟨.shr, .list (cutD ds lo hi)⟩ (p :: G1) ex ⟨.lst (fun z => nomatch z) (.inl upd_same) (c1.keep ex.tu _ _ _ (ex.kp G1)), fun b hb => ?_⟩ h3
      rcases List.mem_cons.mp hb with rfl | hb
      · exact fun z => S3.live _ z np
      · exact hn b (sub b (su.subset hb))
    · obtain ⟨G', n⟩ := new_list (N := fun a => ¬ Own F1 a) np c1
      unfold kOf at n
      rw [if_neg hp] at n
      have e : kSl kd (cutD ds lo hi) = .als := by
        unfold kSl
        rw [if_neg hp, if_neg hk]
      rw [e] at h3
      exact fin _ _ _ G' ex n h3
theorem wSlcL_eq {we : WE} {wl wh : WPt} {ρ : DEnv} {Q : DEnv → R → Prop} : wSlcL we wl wh ρ Q = we ρ fun ρ1 r => wl ρ1 fun lo => wh ρ1 fun hi => cutR2 r lo hi (Q ρ1) := rfl
end DL
namespace DL
open PySem PySem.Spec PyProof.Rows L2
mutual
/-- the lists and dicts within -/
def subs : PyData → List PyData
  | .list ds => .list ds :: subss ds
  | .tuple ds => subss ds
  | .dict kvs => .dict kvs :: subsv kvs
  | _ => []
def subss : List PyData → List PyData
  | [] => []
  | d :: ds => subs d ++ subss ds
def subsv : List (PyData × PyData) → List PyData
  | [] => []
  | kv :: ds => subs kv.2 ++ subsv ds
end
section
variable {K : PySem.W.Frag} {m : Bool} {H : Hp}
theorem flat_uniq {v : V} {d e : PyData} {G G' : List Addr} {m' : Bool} (r : Rp K m H v d G) (f : flatD d = true) (s : Rp K m' H v e G') : e = d := by
  cases r <;> first | (cases f; done) | (cases s <;> rfl)
theorem flats_uniq : ∀ {vs : List V} {ds es : List PyData} {G G' : List Addr} {m' : Bool}, RpAll K m H vs ds G → ds.all flatD = true → RpAll K m' H vs es G' → es = ds
  | _, _, _, _, _, _, .nil, _, s => by cases s; rfl
  | _, _, _, _, _, _, .cons r t, f, s => by
    rw [List.all_cons, Bool.and_eq_true] at f
    cases s with
    | cons s1 s2 => rw [flat_uniq r f.1 s1, flats_uniq t f.2 s2]
theorem flat_purs : ∀ {ds : List PyData}, ds.all flatD = true → purs ds = true
  | [], _ => rfl
  | d :: ds, f => by
    rw [List.all_cons, Bool.and_eq_true] at f
    simp only [purs, Bool.and_eq_true]
    refine ⟨?_, flat_purs f.2⟩
    cases d <;> first | rfl | cases f.1
mutual
/-- each address of a footprint that may be changed is that of a list or dict within -/
theorem Rp.subOf : ∀ (d : PyData) (v : V) (G : List Addr), Rp K true H v d G → ∀ a ∈ G, (∃ xs, H a = some (.lst xs) ∧ ∃ ds G', RpAll K true H xs ds G' ∧ PyData.list ds ∈ subs d) ∨ (∃ ks, H a = some (.dK ks)) ∨ ∃ φ, H a = some (.ext φ)
  | .none, _, _, h => by cases h; intro a z; cases z
  | .bool _, _, _, h => by cases h; intro a z; cases z
  | .int _, _, _, h => by cases h; intro a z; cases z
  | .str _, _, _, h => by cases h; intro a z; cases z
  | .list ds, _, _, h => by
    cases h with
    | lst hm hs ha =>
      intro a z
      rcases List.mem_cons.mp z with rfl | z
      · exact .inl ⟨_, hm rfl, ds, _, ha, .head _⟩
      · rcases RpAll.subOf ds _ _ ha a z with ⟨xs, h1, es, G', h2, h3⟩ | h
        · exact .inl ⟨xs, h1, es, G', h2, .tail _ h3⟩
        · exact .inr h
    | lstK hm => cases hm
  | .tuple ds, _, _, h => by
    cases h with
    | tup hs ha => exact RpAll.subOf ds _ _ ha
  | .dict kvs, _, _, h => by
    cases h with
    | dK h1 h2 h3 =>
      intro a z
      rcases List.mem_cons.mp z with rfl | z
      · exact .inr (.inl ⟨_, h1⟩)
      · rcases RpAll.subOfV kvs _ _ h3 a z with ⟨xs, h1, es, G', h2, h3⟩ | h
        · exact .inl ⟨xs, h1, es, G', h2, .tail _ h3⟩
        · exact .inr h
    | dN h1 h2 h3 =>
      intro a z
      rcases List.mem_cons.mp z with rfl | z
      · exact .inr (.inr ⟨_, h1⟩)
      · rcases RpAll.subOfV kvs _ _ h3 a z with ⟨xs, h1, es, G', h2, h3⟩ | h
        · exact .inl ⟨xs, h1, es, G', h2, .tail _ h3⟩
        · exact .inr h
theorem RpAll.subOf : ∀ (ds : List PyData) (vs : List V) (G : List Addr), RpAll K true H vs ds G → ∀ a ∈ G, (∃ xs, H a = some (.lst xs) ∧ ∃ es G', RpAll K true H xs es G' ∧ PyData.list es ∈ subss ds) ∨ (∃ ks, H a = some (.dK ks)) ∨ ∃ φ, H a = some (.ext φ)
  | [], _, _, h => by cases h; intro a z; cases z
  | d :: ds, _, _, h => by
    cases h with
    | cons h1 h2 =>
      intro a z
      rcases List.mem_append.mp z with z | z
      · rcases Rp.subOf d _ _ h1 a z with ⟨xs, h1, es, G', h2, h3⟩ | h
        · exact .inl ⟨xs, h1, es, G', h2, List.mem_append_left _ h3⟩
        · exact .inr h
      · rcases RpAll.subOf ds _ _ h2 a z with ⟨xs, h1, es, G', h2, h3⟩ | h
        · exact .inl ⟨xs, h1, es, G', h2, List.mem_append_right _ h3⟩
        · exact .inr h
theorem RpAll.subOfV : ∀ (kvs : List (PyData × PyData)) (vs : List V) (G : List Addr), RpAll K true H vs (kvs.map (·.2)) G → ∀ a ∈ G, (∃ xs, H a = some (.lst xs) ∧ ∃ es G', RpAll K true H xs es G' ∧ PyData.list es ∈ subsv kvs) ∨ (∃ ks, H a = some (.dK ks)) ∨ ∃ φ, H a = some (.ext φ)
  | [], _, _, h => by cases h; intro a z; cases z
  | (_, d) :: ds, _, _, h => by
    cases h with
    | cons h1 h2 =>
      intro a z
      rcases List.mem_append.mp z with z | z
      · rcases Rp.subOf d _ _ h1 a z with ⟨xs, h1, es, G', h2, h3⟩ | h
        · exact .inl ⟨xs, h1, es, G', h2, List.mem_append_left _ h3⟩
        · exact .inr h
      · rcases RpAll.subOfV ds _ _ h2 a z with ⟨xs, h1, es, G', h2, h3⟩ | h
        · exact .inl ⟨xs, h1, es, G', h2, List.mem_append_right _ h3⟩
        · exact .inr h
end
/-- an argument that is no part of dj: plain data, or a flat list that does not stand within -/
def apA (dj d : PyData) : Prop := pur d = true ∨ ∃ ds, d = .list ds ∧ ds.all flatD = true ∧ .list ds ∉ subs dj
theorem apart1 {w v : V} {dj d : PyData} {Gj G : List Addr} (rj : Rp K true H w dj Gj) (r : Rp K false H v d G) (h : apA dj d) : ∀ b ∈ G, b ∉ Gj := by
  rcases h with h | ⟨ds, rfl, hf, hn⟩
  · obtain ⟨rfl, _⟩ := Rp.pure' (m' := false) _ _ _ r h
    exact fun _ z => nomatch z
  · cases r with
    | lst hm hs ha =>
      obtain ⟨rfl, _⟩ := RpAll.pure' (m' := false) _ _ _ ha (flat_purs hf)
      intro b hb hj
      rw [List.mem_singleton] at hb
      subst hb
      rcases Rp.subOf dj _ _ rj b hj with ⟨xs, h1, es, G', h2, h3⟩ | ⟨ks, h1⟩ | ⟨ks, h1⟩
      · rcases hs with hs | ⟨o', hs⟩
        · rw [h1] at hs
          cases hs
          exact hn (flats_uniq ha hf h2 ▸ h3)
        · rw [h1] at hs
          cases hs
      · rcases hs with hs | ⟨o', hs⟩ <;> rw [h1] at hs <;> cases hs
      · rcases hs with hs | ⟨o', hs⟩ <;> rw [h1] at hs <;> cases hs
    | lstK hm hs ha =>
      obtain ⟨rfl, _⟩ := RpAll.pure' (m' := false) _ _ _ ha (flat_purs hf)
      exact fun _ z => nomatch z
theorem apartAll {w : V} {dj : PyData} {Gj : List Addr} (rj : Rp K true H w dj Gj) : ∀ {vs : List V} {ds : List PyData} {G : List Addr}, RpAll K false H vs ds G → (∀ d ∈ ds, apA dj d) → ∀ b ∈ G, b ∉ Gj
  | _, _, _, .nil, _ => fun _ z => nomatch z
  | _, _, _, .cons r t, h => fun b hb => by
    rcases List.mem_append.mp hb with hb | hb
    · exact apart1 rj r (h _ (.head _)) b hb
    · exact apartAll rj t (fun d hd => h d (.tail _ hd)) b hb
theorem apart {v0 : Cv} {σ : L2.St} {ρ : DEnv} {F : Nat → List Addr} {j : Nat} {dj : PyData} {rs : List R} {vs : List V} {G : List Addr} (S : StOk K v0 σ H ρ F) (hd : dAt ρ j [] = some dj) (rp : RpAll K false H vs (rs.map (·.d)) G) (h : ∀ r ∈ rs, apA dj r.d) : ∀ b ∈ G, b ∉ F j := by
  obtain ⟨r, hr, hk, hg⟩ := dAt_of hd
  obtain ⟨v, hv, _⟩ := S.slot j r hr
  have e : r.d = dj := by
    rw [getP_nil] at hg
    exact Option.some.inj hg
  have := S.rp hv hr hk
  rw [e] at this
  exact apartAll this rp fun d hd => by
    obtain ⟨r, hr, rfl⟩ := List.mem_map.mp hd
    exact h r hr
end
section
variable {X : Cx} {v0 : Cv} {k : Nat} {f : Addr} {fd : FuncData} {ps ks : List Str} {c : Ct} {x y : Str} {p p1 pos : Pos} {e : Expr} {es : List Expr} {kws : List Keyword} {ea : Bool} {wr : WA} {tr : TA}
def wFnA (c : Ct) (j : Nat) (wr : WA) : WE := fun ρ Q => (∃ r, ρ[j]? = some (some r)) ∧ wr ρ fun ρ1 rs => ∃ dj, dAt ρ1 j [] = some dj ∧ (∀ r ∈ rs, apA dj r.d) ∧ match ρ1[j]? with
  | some (some ⟨.own, d⟩) => c.sd (⟨.fix, d⟩ :: rs.map fun r => P r.d) fun ρ' r => ∃ d', ρ'[0]? = some (some (R.mk .fix d')) ∧ Q (ρ1.set j (some ⟨.own, d'⟩)) (cv r)
  | some (some ⟨.fix, d⟩) => c.sd (⟨.fix, d⟩ :: rs.map fun r => P r.d) fun ρ' r => ∃ d', ρ'[0]? = some (some (R.mk .fix d')) ∧ Q (ρ1.set j (some ⟨.fix, d'⟩)) (cv r)
  | _ => False
theorem re_fnA {n : Nat} (j : Nat) (hn : ∀ a, (c.args a).length = n) (hsm : n ≤ big) (ha : RG X.K v0 ea tr wr) : RE X.K v0 true (tCall (spD X.K n c) [] E0 (tCons (tVar j) tr)) (wFnA c j wr) := by
  intro σ H ρ F S Qd Q h k
  obtain ⟨⟨r0, e0⟩, h⟩ := h
  obtain ⟨v, ev, _⟩ := S.slot j r0 e0
  refine ⟨v, ev, ha σ H ρ F S _ _ h fun vs H1 ρ1 F1 rs S1 s1 e1 A h1 => ?_⟩
  show spD X.K n c ((v :: vs) ++ []) H1 Q E0
  rw [List.append_nil]
  obtain ⟨dj, hdj, hst, h1⟩ := h1
  obtain ⟨G0, rp⟩ := A.all.read
  have g0 : ∀ b ∈ G0, b ∉ F1 j := apart S1 hdj rp hst
  have hvl := rp.length
  rw [List.length_map] at hvl
  -- what is lent, whichever way we hold it
  have core : ∀ (kj : Kd) (d : PyData), kj = .own ∨ kj = .fix → ρ1[j]? = some (some ⟨kj, d⟩) → Rp X.K true H1 v d (F1 j) →
      (c.sd (⟨.fix, d⟩ :: rs.map fun r => P r.d) fun ρ' r => ∃ d', ρ'[0]? = some (some (R.mk .fix d')) ∧ Qd (ρ1.set j (some ⟨kj, d'⟩)) (cv r)) →
      spD X.K n c (v :: vs) H1 Q E0 := by
    intro kj d hkj ej rpj hsd
    obtain ⟨a, ea', hpre, hpost⟩ := hsd
    have hal := congrArg List.length ea'
    rw [hn, List.length_cons, List.length_map] at hal
    have hjl : j < ρ1.length := (List.getElem?_eq_some_iff.mp ej).1
    have own0 : ∀ b, Own (fun i => if i = 0 then F1 j else []) b → b ∈ F1 j := fun b ⟨i, z⟩ => by
      by_cases hi : i = 0
      · simpa [hi] using z
      · simp [hi] at z
    have st : StOk X.K (cv0 ((v :: vs).map some) (fun i => if i = 0 then F1 j else []) H1) ((v :: vs).map some) H1 ((R.mk .fix d :: rs.map fun r => P r.d).map some) (fun i => if i = 0 then F1 j else []) := by
      refine ⟨fun i r e => ?_, fun i => ?_, fun i l b z1 z2 => ?_, fun b z => S1.live b ⟨j, own0 b z⟩, by simp [hvl], by simp only [List.length_map, List.length_cons, hvl]; omega, Step.refl⟩
      · cases i with
        | zero =>
          simp at e
          subst e
          exact ⟨v, rfl, by simpa using rpj, rfl⟩
        | succ i =>
          have e' : (rs.map fun r => P r.d)[i]? = some r := by
            rw [List.map_cons, List.getElem?_cons_succ, List.getElem?_map] at e
            cases q : (rs.map fun r => P r.d)[i]? with
            | none => rw [q] at e; cases e
            | some r1 => rw [q] at e; cases e; rfl
          obtain ⟨w, G', w1, w2, w3, w4⟩ := read_list rp i r e'
          refine ⟨w, by simp [w1], ?_⟩
          obtain ⟨kd, d1⟩ := r
          cases w2
          exact ⟨G', w3, fun b hb z => g0 b (w4 b hb) (own0 b z)⟩
      · by_cases hi : i = 0
        · simp [hi]; exact S1.nd j
        · simp [hi]
      · by_cases hi : i = 0
        · by_cases hl : l = 0
          · rw [hi, hl]
          · simp [hl] at z2
        · simp [hi] at z1
    refine ⟨by rw [List.length_cons, hvl]; exact hal, _, _, st, fun r hr => ?_, a, ea', hpre, fun ρ' r hp w σ' H' F' G S' s' ro => ?_⟩
    · rcases List.mem_cons.mp hr with rfl | hr
      · exact .inr rfl
      · obtain ⟨r1, _, rfl⟩ := List.mem_map.mp hr
        exact .inl rfl
    · obtain ⟨d', f0, hq⟩ := hpost ρ' r hp
      obtain ⟨w0, g1, g2⟩ := S'.slot 0 _ f0
      have hw0 : w0 = v := by
        have z := g2.2
        simp at z
        exact z.symm
      subst hw0
      have gq : Rp X.K true H' w0 d' (F' 0) := g2.1
      -- the caller's state behind the call
      have nF : ∀ b, b ∈ F' 0 → b ∈ F1 j ∨ H1 b = none := fun b hb => (s'.own b ⟨0, hb⟩).imp (own0 b) id
      have keepO : ∀ b o, H1 b = some o → ¬ (b ∈ F1 j) → H' b = some o := fun b o hb nb => s'.keep b o hb fun z => nb (own0 b z)
      have own2 : ∀ b, Own (sF F1 j (F' 0)) b → Own F1 b ∨ H1 b = none := fun b z => by
        rcases sF_own z with z | z
        · exact .inl z
        · exact (nF b z).imp (fun z => ⟨j, z⟩) id
      have s2 : Step F1 H1 (sF F1 j (F' 0)) H' := ⟨fun b o hb nb => keepO b o hb fun z => nb ⟨j, z⟩, own2, s'.tups, fun l hl => sF_big (S1.ilt ej) l hl, fun l hl b hb o ho => keepO b o ho fun z => Nat.lt_irrefl _ (Nat.lt_of_lt_of_le (S1.dj l j b hb z ▸ S1.ilt ej) hl)⟩
      have S2 : StOk X.K v0 σ H' (ρ1.set j (some ⟨kj, d'⟩)) (sF F1 j (F' 0)) := by
        refine ⟨fun i r e => ?_, fun i => ?_, fun i l b z1 z2 => ?_, fun b z => ?_, by simp [S1.len], S1.sm, S1.st.trans s2⟩
        · by_cases hi : i = j
          · subst hi
            rw [List.getElem?_set_self hjl] at e
            cases e
            refine ⟨w0, ev, ?_⟩
            have gg : Rp X.K true H' w0 d' (sF F1 i (F' 0) i) := by
              unfold sF
              rw [if_pos rfl]
              exact gq
            rcases hkj with rfl | rfl
            · exact gg
            · refine ⟨gg, ?_⟩
              obtain ⟨w1, x1, x2⟩ := S1.slot i _ ej
              rw [ev] at x1
              cases x1
              exact x2.2
          · rw [List.getElem?_set_ne (Ne.symm hi)] at e
            obtain ⟨w1, x1, so⟩ := S1.slot i r e
            refine ⟨w1, x1, ?_⟩
            have hF : sF F1 j (F' 0) i = F1 i := by unfold sF; rw [if_neg hi]
            have tuO : Tu H1 H' := s'.tups
            have carO : ∀ {dd : PyData}, Rp X.K true H1 w1 dd (F1 i) → Rp X.K true H' w1 dd (sF F1 j (F' 0) i) := fun {dd} q => by
              rw [hF]
              exact q.keep tuO _ _ _ fun b hb o ho => keepO b o ho fun z => hi (S1.dj i j b hb z)
            obtain ⟨k1, d1⟩ := r
            cases k1 with
            | shr =>
              obtain ⟨G1, y1, y2⟩ := so
              refine ⟨G1, y1.keep tuO _ _ _ fun b hb o ho => keepO b o ho fun z => y2 b hb ⟨j, z⟩, fun b hb z => ?_⟩
              rcases own2 b z with z | z
              · exact y2 b hb z
              · exact y1.live _ _ _ b hb z
            | own => exact carO so
            | fix => exact ⟨carO so.1, so.2⟩
            | als => exact so
        · unfold sF
          split
          · exact S'.nd 0
          · exact S1.nd i
        · unfold sF at z1 z2
          split at z1 <;> split at z2
          · rename_i a1 a2
            rw [a1, a2]
          · rename_i a1 a2
            rcases nF b z1 with z | z
            · exact absurd (S1.dj j l b z z2).symm a2
            · exact absurd z (S1.live b ⟨l, z2⟩)
          · rename_i a1 a2
            rcases nF b z2 with z | z
            · exact absurd (S1.dj j i b z z1).symm a1
            · exact absurd z (S1.live b ⟨i, z1⟩)
          · exact S1.dj i l b z1 z2
        · obtain ⟨i, z⟩ := z
          unfold sF at z
          split at z
          · exact gq.live _ _ _ b z
          · rename_i a1
            have lv := S1.live b ⟨i, z⟩
            cases q : H1 b with
            | none => exact absurd q lv
            | some o =>
              rw [keepO b o q fun z2 => a1 (S1.dj i j b z z2)]
              simp
      obtain ⟨G', ro'⟩ := cv_ok (F := F) (F1 := sF F1 j (F' 0)) (H0 := H) ro fun hk => by
        obtain ⟨kd, dd⟩ := r
        cases hk
        obtain ⟨q, nd, nn, o⟩ := ro
        refine ⟨fun b hb z => ?_, fun b hb => ?_⟩
        · obtain ⟨i, z⟩ := z
          unfold sF at z
          split at z
          · exact nn b hb ⟨0, z⟩
          · rename_i a1
            rcases o b hb with y | y
            · exact a1 (S1.dj i j b z (own0 b y))
            · exact S1.live b ⟨i, z⟩ y
        · rcases o b hb with y | y
          · exact s1.own b ⟨j, own0 b y⟩
          · exact s1.none_of y
      refine k w H' _ _ (cv r) G' S2 (s1.trans s2) ⟨fun l dd e => ?_, fun z => by cases z⟩ ro' hq
      by_cases hl : l = j
      · subst hl
        rw [List.getElem?_set_self hjl] at e
        rcases hkj with rfl | rfl <;> cases e
      · rw [List.getElem?_set_ne (Ne.symm hl)] at e
        exact e1.shr l dd e
  split at h1
  · rename_i d ej
    obtain ⟨w, x1, so⟩ := S1.slot j _ ej
    rw [ev] at x1
    cases x1
    exact core .own d (.inl rfl) ej so h1
  · rename_i d ej
    obtain ⟨w, x1, so⟩ := S1.slot j _ ej
    rw [ev] at x1
    cases x1
    exact core .fix d (.inr rfl) ej so.1 h1
  · exact h1.elim
theorem de_callA (j : Nat) (C : Fx X.prog X.w X.K X.mg X.base x f fd ps k c) (hgd : X.A.guards = some []) (hr : Room k X.A) (ha : DG X v0 ea es wr) (hg : Gl X x := by rfl)
    (hN : X.N[j]? = some y := by rfl) (hv : Vis X.env.scope y := by first | exact Or.inl rfl | exact Or.inr (Or.inl rfl) | exact Or.inr (Or.inr rfl)) (hd : (y == ("__debug__" : Str)) = false := by decide) (hcd : (y == ("__classdict__" : Str)) = false := by decide)
    (hdb : (x == ("__debug__" : Str)) = false := by decide) (he : starEach (.Name y p1 :: es) X.env = (false, eval (.Name y p1) X.env) :: starEach es X.env := by rfl) (hpl : (backTo pos (starEach es X.env)).any (·.1) = false := by rfl) :
    DE X v0 true (.Call (.Name x p) (.Name y p1 :: es) [] pos) (wFnA c j wr) := by
  obtain ⟨t, pa, q⟩ := ha
  exact ⟨_, pe_callG C.F.fn hgd hr hg C.m C.kp C.bd pass0 (pa_cons (pe_var hN hv hd hcd) pa he) hdb he hpl, re_fnA j C.F.len C.F.sm q⟩
end
end DL
namespace DL
open PySem PySem.Spec PyProof.Rows L2
mutual
/-- what a written value is, by data -/
def rpK (K : PySem.W.Frag) : Nat → Value → Option PyData
  | _, .none => some .none
  | _, .bool b => some (.bool b)
  | _, .int i _ => some (.int i)
  | _, .str x _ => some (.str x)
  | n + 1, .ref a => match K.lookup a with
    | some ⟨.type c, _, .seq its _, _⟩ => if c = "tuple" ∧ its.size ≤ sizeLine then (rpKs K n its.toList).map .tuple else none
    | _ => none
  | _, _ => none
def rpKs (K : PySem.W.Frag) : Nat → List Value → Option (List PyData)
  | _, [] => some []
  | n, v :: vs => match rpK K n v, rpKs K n vs with
    | some d, some ds => some (d :: ds)
    | _, _ => none
end
mutual
theorem rpK_ok {K : PySem.W.Frag} {m : Bool} {H : Hp} : ∀ (n : Nat) (v : Value) (d : PyData), rpK K n v = some d → ∃ x, RelV x v ∧ Rp K m H x d []
  | _, .none, _, h => by
    simp only [rpK, Option.some.injEq] at h
    subst h
    exact ⟨.non, rfl, .non⟩
  | _, .bool b, _, h => by
    simp only [rpK, Option.some.injEq] at h
    subst h
    exact ⟨.bl b, rfl, .bl b⟩
  | _, .int i t, _, h => by
    simp only [rpK, Option.some.injEq] at h
    subst h
    exact ⟨.int i, ⟨t, rfl⟩, .int i⟩
  | _, .str x t, _, h => by
    simp only [rpK, Option.some.injEq] at h
    subst h
    exact ⟨.str x, ⟨t, rfl⟩, .str x⟩
  | n + 1, .ref a, d, h => by
    unfold rpK at h
    split at h
    · rename_i c od its k sl hk
      split at h
      · rename_i hc
        obtain ⟨rfl, hz⟩ := hc
        cases e : rpKs K n its.toList with
        | none => rw [e] at h; cases h
        | some ds =>
          rw [e] at h
          simp only [Option.map_some, Option.some.injEq] at h
          subst h
          obtain ⟨xs, hx, hr⟩ := rpKs_ok (m := m) (H := H) n its.toList ds e
          exact ⟨.ref a, rfl, .tup (.inr ⟨_, its, k, hk, rfl, rfl, hz, hx⟩) hr⟩
      · cases h
    · cases h
  | 0, .ref a, d, h => by simp [rpK] at h
  | _, .bytes _ _, _, h => by simp [rpK] at h
  | _, .float _ _, _, h => by simp [rpK] at h
  | _, .type _, _, h => by simp [rpK] at h
  | _, .builtin _, _, h => by simp [rpK] at h
  | _, .ellipsis, _, h => by simp [rpK] at h
  | _, .notImplemented, _, h => by simp [rpK] at h
theorem rpKs_ok {K : PySem.W.Frag} {m : Bool} {H : Hp} : ∀ (n : Nat) (vs : List Value) (ds : List PyData), rpKs K n vs = some ds → ∃ xs, Vals xs vs ∧ RpAll K m H xs ds []
  | _, [], _, h => by
    simp only [rpKs, Option.some.injEq] at h
    subst h
    exact ⟨[], .nil, .nil⟩
  | n, v :: vs, ds, h => by
    unfold rpKs at h
    split at h
    · rename_i d es h1 h2
      simp only [Option.some.injEq] at h
      subst h
      obtain ⟨x, r1, r2⟩ := rpK_ok (m := m) (H := H) n v d h1
      obtain ⟨xs, s1, s2⟩ := rpKs_ok (m := m) (H := H) n vs es h2
      exact ⟨x :: xs, .cons r1 s1, .cons r2 s2⟩
    · cases h
end
section
variable {X : Cx} {v0 : Cv} {pos : Pos}
theorem de_glT {x : Str} {v : Value} {d : PyData} (hg : Gl X x) (hm : X.mg x = some v) (h : rpK X.K 8 v = some d) (hd : (x == ("__debug__" : Str)) = false := by decide) : DE X v0 false (.Name x pos) (wC d) := by
  have one : ∃ y, RelV y v ∧ ∀ H, Rp X.K false H y d [] := by
    obtain ⟨y, h1, _⟩ := rpK_ok (K := X.K) (m := false) (H := fun _ => none) 8 v d h
    refine ⟨y, h1, fun H => ?_⟩
    obtain ⟨z, h2, h3⟩ := rpK_ok (K := X.K) (m := false) (H := H) 8 v d h
    have e : z = y := by
      cases v <;> cases y <;> cases z <;> simp_all [L2.RelV]
    exact e ▸ h3
  obtain ⟨y, h1, h2⟩ := one
  exact de_c (pe_glob hg hm h1 hd) h2
/-- a variable's last use: what it owns goes over to the value -/
def wVarM (i : Nat) : WE := fun ρ Q => match ρ[i]? with
  | some (some ⟨.own, d⟩) => Q (ρ.set i none) ⟨.own, d⟩
  | _ => False
theorem de_varM (i : Nat) {x : Str} (hN : X.N[i]? = some x := by rfl) (hv : Vis X.env.scope x := by first | exact Or.inl rfl | exact Or.inr (Or.inl rfl) | exact Or.inr (Or.inr rfl)) (hd : (x == ("__debug__" : Str)) = false := by decide)
    (hcd : (x == ("__classdict__" : Str)) = false := by decide) : DE X v0 true (.Name x pos) (wVarM i) := by
  refine ⟨_, pe_var hN hv hd hcd, fun σ H ρ F S Qd Q h k => ?_⟩
  unfold wVarM at h
  split at h
  · rename_i d e
    obtain ⟨v, e1, so⟩ := S.slot i _ e
    refine ⟨v, e1, k v H (ρ.set i none) (sF F i []) ⟨.own, d⟩ (F i) (S.drop i (S.ilt e)) (Step.drop i (S.ilt e)) ⟨fun j d' e' => ?_, fun z => nomatch z⟩ ⟨so, S.nd i, fun a ha z => ?_, fun a ha => .inl ⟨i, ha⟩⟩ h⟩
    · by_cases hj : j = i
      · subst hj
        rw [List.getElem?_set_self (List.getElem?_eq_some_iff.mp e).1] at e'
        cases e'
      · rw [List.getElem?_set_ne (Ne.symm hj)] at e'
        exact e'
    · obtain ⟨j, hj⟩ := z
      unfold sF at hj
      split at hj
      · cases hj
      · rename_i n
        exact n (S.dj j i a hj ha)
  · exact h.elim
end
end DL
namespace DL
open PySem PySem.Spec PyProof.Rows L2
/-- entries beside what the object holds -/
abbrev KN (es : List (NestedKey × Addr × V)) (xs : List (NestedKey × Addr × Value)) : Prop := Paired (fun (p : NestedKey × Addr × V) (q : NestedKey × Addr × Value) => p.1 = q.1 ∧ p.2.1 = q.2.1 ∧ L2.RelV p.2.2 q.2.2) es xs
def valN (es : List (NestedKey × Addr × V)) (k : NestedKey) : Option V := (es.find? fun e => decide (e.1 = k)).map (·.2.2)
def putE (es : List (NestedKey × Addr × V)) (k : NestedKey) (b : Addr) (v : V) : List (NestedKey × Addr × V) :=
  if (valN es k).isSome = true then es.map (fun e => if e.1 = k then (e.1, e.2.1, v) else e) else es ++ [(k, b, v)]
/-- all the keys are keys -/
def KOk (K : PySem.W.Frag) (H : Hp) (b : Addr) (k : NestedKey) : Prop := KeyV K H (.ref b) k ∧ k.depth ≤ 8 ∧ textless k = true
theorem KN.val {es : List (NestedKey × Addr × V)} {xs : List (NestedKey × Addr × Value)} (r : KN es xs) (k : NestedKey) : RelO (valN es k) ((atKey xs k).map (·.2)) := by
  unfold valN atKey
  induction r with
  | nil => exact True.intro
  | @cons p q ps qs h t ih =>
    rw [List.find?_cons, List.find?_cons, ← h.1]
    by_cases e : p.1 = k
    · simp only [e, decide_true, Option.map_some]
      exact h.2.2
    · simp only [e, decide_false]
      exact ih
theorem KN.repl {es : List (NestedKey × Addr × V)} {xs : List (NestedKey × Addr × Value)} (r : KN es xs) (k : NestedKey) {v : V} {u : Value} (rv : L2.RelV v u) : KN (es.map fun e => if e.1 = k then (e.1, e.2.1, v) else e) (xs.map (putAt k u)) := by
  induction r with
  | nil => exact .nil
  | @cons p q ps qs h t ih =>
    rw [List.map_cons, List.map_cons]
    refine .cons ?_ ih
    unfold putAt
    rw [← h.1]
    by_cases e : p.1 = k
    · rw [if_pos e, if_pos e]
      exact ⟨h.1 ▸ rfl, h.2.1, rv⟩
    · rw [if_neg e, if_neg e]
      exact h
theorem KN.put {es : List (NestedKey × Addr × V)} {xs : List (NestedKey × Addr × Value)} (r : KN es xs) (k : NestedKey) {b : Addr} {v : V} {u : Value} (rv : L2.RelV v u) : KN (putE es k b v) (storedH xs k b u) := by
  have e : (valN es k).isSome = (atKey xs k).isSome := by
    have := (r.val k).isSome_eq
    rwa [Option.isSome_map] at this
  unfold putE storedH
  rw [e]
  by_cases q : (atKey xs k).isSome = true
  · rw [if_pos q, if_pos q]
    exact r.repl k rv
  · rw [if_neg q, if_neg q]
    exact Paired.snoc r ⟨rfl, rfl, rv⟩
theorem KN.len {es : List (NestedKey × Addr × V)} {xs : List (NestedKey × Addr × Value)} (r : KN es xs) : es.length = xs.length := Paired.length r
section
variable {X : Cx} {pins : List (Addr × Obj)} {σ : L2.St} {H : Hp} {s : Shared} {a : Addr} {A : Around} {E : Value → Shared → Prop}
mutual
theorem keyIs (I : Inv X pins σ H s) : ∀ (k : NestedKey) (v : V) (u : Value), KeyV X.K H v k → L2.RelV v u → NestedIs s.heap k u
  | .none, _, u, h, r => by
    cases h
    cases (show u = Value.none from r)
    exact .none
  | .num i, _, u, h, r => by
    cases h
    obtain ⟨t, rfl⟩ := (show ∃ t, u = Value.int i t from r)
    exact .int i t
  | .text _, _, _, h, _ => by cases h
  | .tup ks, _, u, h, r => by
    cases h with
    | @tup a xs _ h1 h2 =>
      cases (show u = Value.ref a from r)
      obtain ⟨its, rv, ⟨⟨cls, dd, data, sl⟩, ho, hc, n, hd⟩, hs⟩ := I.tuple h1
      exact .tup ho hc hd (keysAre I ks xs _ h2 (by simpa using rv))
theorem keysAre (I : Inv X pins σ H s) : ∀ (ks : List NestedKey) (vs : List V) (us : List Value), KeyAll X.K H vs ks → Vals vs us → NestedAll s.heap ks us
  | [], _, _, h, r => by
    cases h
    cases r
    exact .nil
  | k :: ks, _, _, h, r => by
    cases h with
    | cons h1 h2 =>
      cases r with
      | cons r1 r2 => exact .cons (keyIs I k _ _ h1 r1) (keysAre I ks _ _ h2 r2)
end
theorem KOk.is {b : Addr} {k : NestedKey} (I : Inv X pins σ H s) (h : KOk X.K H b k) : (nestedKind X.prog X.w).is s.heap k b := ⟨keyIs I k _ _ h.1 rfl, h.2.1⟩
theorem ent_eq {es : List (NestedKey × Addr × V)} {xs : List (NestedKey × Addr × Value)} (r : KN es xs) (ht : ∀ e ∈ es, textless e.1 = true) (w : World) (P : Program) : xs.map (fun x => (⟨hN x.1, .ref x.2.1, x.2.2⟩ : DictEntry)) = xs.map (entryOfKey (nestedKind P w)) := by
  induction r with
  | nil => rfl
  | @cons p q ps qs h t ih =>
    rw [List.map_cons, List.map_cons, ih fun e he => ht e (.tail _ he)]
    congr 1
    have := ht p (.head _)
    rw [h.1] at this
    show (⟨hN q.1, _, _⟩ : DictEntry) = ⟨q.1.hash w, _, _⟩
    rw [hN_eq w q.1 this]
/-- a dict of such keys; the empty one is of every kind -/
def IsN (H : Hp) (a : Addr) (es : List (NestedKey × Addr × V)) : Prop := H a = some (.ext (DictN a es)) ∨ (es = [] ∧ H a = some (.dK []))
theorem IsN.mut {es : List (NestedKey × Addr × V)} (h : IsN H a es) : Mut (H a) := by
  rcases h with h | ⟨_, h⟩ <;> rw [h] <;> exact True.intro
theorem dn_rd {es : List (NestedKey × Addr × V)} (I : Inv X pins σ H s) (e : IsN H a es) (hk : ∀ e ∈ es, KOk X.K H e.2.1 e.1) : es.length ≤ sizeLine ∧ (a == sysModules) = false ∧ ∃ xs, KN es xs ∧ s.heap.DictOfH (nestedKind X.prog X.w) a xs := by
  rcases e with e | ⟨rfl, e⟩
  case inr =>
    obtain ⟨z, hd, vs, rel, dd⟩ := dk_rd I.hok (.inl e)
    have hv : vs = [] := by cases rel; rfl
    subst hv
    obtain ⟨o, arr, ep, h3, h4, h5, h6, h7, _⟩ := dd
    have he : arr.toList = [] := by
      generalize arr.toList = l at h7
      cases h7
      rfl
    exact ⟨by simp, hd, [], .nil, o, arr, ep, h3, h4, h5, he, (fun _ hx => nomatch hx), List.nodup_nil⟩
  obtain ⟨⟨h1, h2, xs, r, o, arr, ep, h3, h4, h5, h6, h7⟩, _⟩ := (show ObjOk X.prog X.w H s.heap a (.ext (DictN a es)) from I.hok a _ e)
  refine ⟨h1, h2, xs, r, o, arr, ep, h3, h4, h5, ?_, ?_, h7⟩
  · rw [h6]
    exact ent_eq r (fun e he => (hk e he).2.2) X.w X.prog
  · have all : ∀ {es : List (NestedKey × Addr × V)} {xs : List (NestedKey × Addr × Value)}, KN es xs → (∀ e ∈ es, KOk X.K H e.2.1 e.1) → ∀ x ∈ xs, (nestedKind X.prog X.w).is s.heap x.1 x.2.1 := by
      intro es xs q
      induction q with
      | nil => intro _ x hx; exact nomatch hx
      | @cons p q ps qs hq t ih =>
        intro hk x hx
        rcases List.mem_cons.mp hx with rfl | hx
        · have := (hk p (.head _)).is I
          rw [hq.1, hq.2.1] at this
          exact this
        · exact ih (fun e he => hk e (.tail _ he)) x hx
    exact all r hk
theorem room_nk (hu : A.units + 10 < cLine) (P : Program) (w : World) : (nestedKind P w).room A.in1 := by
  show A.in1.units + 8 < cLine
  rw [Around.in1_units]
  omega
theorem dn_getItem {es : List (NestedKey × Addr × V)} {b : Addr} {k : NestedKey} {v : V} {Q : Value → Shared → Prop} (hu : A.units + 10 < cLine) (I : Inv X pins σ H s) (e : IsN H a es) (hk : ∀ e ∈ es, KOk X.K H e.2.1 e.1) (kb : KOk X.K H b k) (hv : valN es k = some v)
    (h : ∀ w' s', Inv X pins σ H s' → L2.RelV v w' → Q w' s') : wpAny (model X.prog X.w) A (getItem (.ref a) (.ref b)) Q E s := by
  obtain ⟨_, _, xs, r, dd⟩ := dn_rd I e hk
  obtain ⟨w', hw, rw'⟩ := RelO.some_of (v := v) (o := (atKey xs k).map (·.2)) (by rw [← hv]; exact r.val k)
  obtain ⟨p, hp, hp2⟩ := Option.map_eq_some_iff.mp hw
  refine wpAny_getItem_heap (room_nk hu _ _) (kb.is I) dd hp ?_
  rw [hp2]
  exact h w' _ (I.tok _) rw'
theorem dn_in {es : List (NestedKey × Addr × V)} {b : Addr} {k : NestedKey} {Q : Value → Shared → Prop} (hu : A.units + 10 < cLine) (I : Inv X pins σ H s) (e : IsN H a es) (hk : ∀ e ∈ es, KOk X.K H e.2.1 e.1) (kb : KOk X.K H b k)
    (h : ∀ s', Inv X pins σ H s' → Q (.bool (valN es k).isSome) s') : wpAny (model X.prog X.w) A (compareOp .In (.ref b) (.ref a)) Q E s := by
  obtain ⟨_, hd, xs, r, dd⟩ := dn_rd I e hk
  refine wpAny_in_heap (room_nk hu _ _) (kb.is I) hd dd ?_
  have q := (r.val k).isSome_eq
  rw [Option.isSome_map] at q
  rw [← q]
  exact h _ (I.tok _)
theorem dn_notIn {es : List (NestedKey × Addr × V)} {b : Addr} {k : NestedKey} {Q : Value → Shared → Prop} (hu : A.units + 10 < cLine) (I : Inv X pins σ H s) (e : IsN H a es) (hk : ∀ e ∈ es, KOk X.K H e.2.1 e.1) (kb : KOk X.K H b k)
    (h : ∀ s', Inv X pins σ H s' → Q (.bool (!(valN es k).isSome)) s') : wpAny (model X.prog X.w) A (compareOp .NotIn (.ref b) (.ref a)) Q E s := by
  obtain ⟨_, hd, xs, r, dd⟩ := dn_rd I e hk
  refine wpAny_notIn_heap (room_nk hu _ _) (kb.is I) hd dd ?_
  have q := (r.val k).isSome_eq
  rw [Option.isSome_map] at q
  rw [← q]
  exact h _ (I.tok _)
theorem putE_len {es : List (NestedKey × Addr × V)} {k : NestedKey} {b : Addr} {v : V} : (putE es k b v).length ≤ es.length + 1 := by
  unfold putE
  split
  · simp
  · simp
theorem dictN_ext {es : List (NestedKey × Addr × V)} {h1 h2 : Heap} (h : DictN a es h1) (e : ∀ o, h1.get? a = some o → h2.get? a = some o) : DictN a es h2 := by
  obtain ⟨q1, q2, xs, r, o, arr, ep, h3, h4⟩ := h
  exact ⟨q1, q2, xs, r, o, arr, ep, e o h3, h4⟩
theorem dn_setItem {es : List (NestedKey × Addr × V)} {b : Addr} {k : NestedKey} {v : V} {u : Value} {Q : Unit → Shared → Prop} (hu : A.units + 10 < cLine) (I : Inv X pins σ H s) (e : IsN H a es) (hk : ∀ e ∈ es, KOk X.K H e.2.1 e.1) (kb : KOk X.K H b k) (hl : es.length < sizeLine) (rv : L2.RelV v u)
    (h : ∀ s', Inv X pins σ (upd H a (.ext (DictN a (putE es k b v)))) s' → Q () s') : wpAny (model X.prog X.w) A (setItem (.ref a) (.ref b) u) Q E s := by
  obtain ⟨z, hd, xs, r, dd⟩ := dn_rd I e hk
  have hz : xs.length ≤ sizeLine := by rw [← r.len]; exact z
  refine wpAny_setItem_heap (hsz := hz) (room_nk hu _ _) (kb.is I) dd fun h' dd' hs => h _ ?_
  obtain ⟨q, arr, ep, hq, h2, h3, h4, _, h5⟩ := dd'
  have rp := r.put k (b := b) rv
  have ht : ∀ e ∈ putE es k b v, textless e.1 = true := fun e' he => by
    unfold putE at he
    split at he
    · obtain ⟨e0, h0, rfl⟩ := List.mem_map.mp he
      split
      · exact (hk e0 h0).2.2
      · exact (hk e0 h0).2.2
    · rcases List.mem_append.mp he with he | he
      · exact (hk e' he).2.2
      · rw [List.mem_singleton.mp he]; exact kb.2.2
  refine d_write I e.mut hs ⟨q, hq⟩ ⟨⟨?_, hd, _, rp, q, arr, ep, hq, h2, h3, ?_, h5⟩, ⟨q, hq⟩, fun _ _ x y => dictN_ext x y⟩
  · have := putE_len (es := es) (k := k) (b := b) (v := v)
    omega
  · rw [h4]
    exact (ent_eq rp ht X.w X.prog).symm
end
end DL
namespace DL
open PySem PySem.Spec PyProof.Rows L2
def isTu : PyData → Bool
  | .tuple _ => true
  | _ => false
section
variable {K : PySem.W.Frag} {m : Bool} {H H' : Hp}
/-- the heap at an owned address changes -/
theorem StOk.mutAt {v0 : Cv} {σ : L2.St} {ρ : DEnv} {F F0 : Nat → List Addr} {H0 : Hp} {Z : Addr → Prop} (s0 : Step v0.F0 v0.H0 F0 H0) (S : StOk K v0 σ H ρ F) (s : Step F0 H0 F H) (sp : Sep K σ H ρ F Z) {i : Nat} {r : R} {v : V} {p : List Nat} {a : Addr} {o' : HO} {e' : PyData}
    (hv : σ[i]? = some (some v)) (hr : ρ[i]? = some (some r)) (hk : r.k = .own ∨ r.k = .fix) {Ga G0 Gb : List Addr} (g2 : F i = Ga ++ G0 ++ Gb) (g4 : ∀ H' e' G1, Tu H H' → Kpt H H' (Ga ++ Gb) → Rp K true H' (.ref a) e' G1 → Rp K true H' v (setP r.d p e') (Ga ++ G1 ++ Gb)) (tu : Tu H (upd H a o'))
    (new : a ∈ G0 ∧ ∃ G1, Rp K true (upd H a o') (.ref a) e' G1 ∧ G1.Nodup ∧ ∀ b ∈ G1, b ∈ G0 ∨ (¬ Own F b ∧ Z b ∧ (Own F0 b ∨ H0 b = none))) :
    ∃ F', StOk K v0 σ (upd H a o') (ρ.set i (some ⟨r.k, setP r.d p e'⟩)) F' ∧ Step F0 H0 F' (upd H a o') := by
  have hi : i < ρ.length := (List.getElem?_eq_some_iff.mp hr).1
  obtain ⟨v', hv', so⟩ := S.slot i r hr
  rw [hv] at hv'
  cases hv'
  have rp : Rp K true H v r.d (F i) := by
    obtain ⟨k, d⟩ := r
    rcases hk with hk | hk <;> cases hk
    · exact so
    · exact so.1
  have nd := S.nd i
  rw [g2, List.append_assoc, List.nodup_append, List.nodup_append] at nd
  obtain ⟨ndA, ⟨nd0, ndB, d0B⟩, dA⟩ := nd
  have sub0 : ∀ b ∈ G0, b ∈ F i := fun b h => by rw [g2]; simp [h]
  have subA : ∀ b ∈ Ga, b ∈ F i := fun b h => by rw [g2]; simp [h]
  have subB : ∀ b ∈ Gb, b ∈ F i := fun b h => by rw [g2]; simp [h]
  obtain ⟨ain, G1, n1, n2, n3⟩ := new
  have ne : ∀ b, b ≠ a → (upd H a o') b = H b := fun b hb => upd_ne hb
  have aOwn : a ∈ F i := sub0 a ain
  have kpAB : Kpt H (upd H a o') (Ga ++ Gb) := fun b hb o ho => by
    have : b ≠ a := fun z => by
      subst z
      rcases List.mem_append.mp hb with hb | hb
      · exact dA b hb b (by simp [ain]) rfl
      · exact d0B b ain b hb rfl
    rw [ne b this]
    exact ho
  have q := g4 _ e' G1 tu kpAB n1
  have mem' : ∀ b, b ∈ Ga ++ G1 ++ Gb → b ∈ F i ∨ (¬ Own F b ∧ Z b ∧ (Own F0 b ∨ H0 b = none)) := fun b hb => by
    rcases List.mem_append.mp hb with hb | hb
    · rcases List.mem_append.mp hb with hb | hb
      · exact .inl (subA b hb)
      · exact (n3 b hb).imp (sub0 b) id
    · exact .inl (subB b hb)
  have own' : ∀ b, Own (sF F i (Ga ++ G1 ++ Gb)) b → Own F b ∨ (¬ Own F b ∧ Z b ∧ (Own F0 b ∨ H0 b = none)) := fun b z => by
    obtain ⟨j, z⟩ := z
    unfold sF at z
    split at z
    · exact (mem' b z).imp (fun z => ⟨i, z⟩) id
    · exact .inl ⟨j, z⟩
  have stp : Step F0 H0 (sF F i (Ga ++ G1 ++ Gb)) (upd H a o') := by
    refine ⟨fun b o hb nb => ?_, fun b z => ?_, fun b xs h => tu b xs (s.tups b xs h), fun l hl => (sF_big (S.ilt hr) l hl).trans (s.per l hl), fun l hl b hb o ho => by
      have hb' : b ∈ F l := by rw [s.per l hl]; exact hb
      have nb : b ≠ a := fun z => by
        have e1 : l = i := S.dj l i b hb' (by rw [z]; exact aOwn)
        have e2 := S.ilt hr
        rw [e1] at hl
        exact Nat.lt_irrefl _ (Nat.lt_of_lt_of_le e2 hl)
      rw [upd_ne nb]
      exact s.pk l hl b hb o ho⟩
    · have h1 := s.keep b o hb nb
      have : b ≠ a := fun z => by
        subst z
        rcases s.own b ⟨i, aOwn⟩ with z | z
        · exact nb z
        · rw [z] at hb; cases hb
      rw [ne b this]
      exact h1
    · rcases own' b z with z | z
      · exact s.own b z
      · exact z.2.2
  refine ⟨sF F i (Ga ++ G1 ++ Gb), ⟨fun j r0 hj => ?_, fun j => ?_, fun j l b h1 h2 => ?_, fun b z => ?_, by simp [S.len], S.sm, s0.trans stp⟩, stp⟩
  · by_cases hji : j = i
    · subst hji
      rw [List.getElem?_set_self hi] at hj
      cases hj
      refine ⟨v, hv, ?_⟩
      have hF : sF F j (Ga ++ G1 ++ Gb) j = Ga ++ G1 ++ Gb := by unfold sF; rw [if_pos rfl]
      obtain ⟨k, d⟩ := r
      rcases hk with hk | hk <;> cases hk
      · show Rp K true _ v _ (sF F j (Ga ++ G1 ++ Gb) j)
        rw [hF]
        exact q
      · refine ⟨?_, so.2⟩
        show Rp K true _ v _ (sF F j (Ga ++ G1 ++ Gb) j)
        rw [hF]
        exact q
    · rw [List.getElem?_set_ne (Ne.symm hji)] at hj
      obtain ⟨w, hw, so0⟩ := S.slot j r0 hj
      refine ⟨w, hw, ?_⟩
      have hF : sF F i (Ga ++ G1 ++ Gb) j = F j := by unfold sF; rw [if_neg hji]
      have kpj : Kpt H (upd H a o') (F j) := fun b hb o ho => by
        have : b ≠ a := fun z => by subst z; exact hji (S.dj j i b hb aOwn)
        rw [ne b this]
        exact ho
      obtain ⟨k0, d0⟩ := r0
      cases k0 with
      | shr =>
        obtain ⟨Gs, x1, x2, x3⟩ := sp j d0 w hj hw
        refine ⟨Gs, x1.keep tu _ _ _ fun b hb o ho => ?_, fun b hb z => ?_⟩
        · have : b ≠ a := fun z => by subst z; exact x2 b hb ⟨i, aOwn⟩
          rw [ne b this]
          exact ho
        · rcases own' b z with z | z
          · exact x2 b hb z
          · exact x3 b hb z.2.1
      | own =>
        show Rp K true _ w d0 (sF F i (Ga ++ G1 ++ Gb) j)
        rw [hF]
        exact Rp.keep tu _ _ _ (show Rp K true H w d0 (F j) from so0) kpj
      | fix =>
        refine ⟨?_, so0.2⟩
        show Rp K true _ w d0 (sF F i (Ga ++ G1 ++ Gb) j)
        rw [hF]
        exact Rp.keep tu _ _ _ so0.1 kpj
      | als => exact so0
  · unfold sF
    split
    · rw [List.append_assoc, List.nodup_append, List.nodup_append]
      refine ⟨ndA, ⟨n2, ndB, fun b h1 c h2 z => ?_⟩, fun b h1 c h2 z => ?_⟩
      · subst z
        rcases n3 b h1 with x | x
        · exact d0B b x b h2 rfl
        · exact x.1 ⟨i, subB b h2⟩
      · subst z
        rcases List.mem_append.mp h2 with h2 | h2
        · rcases n3 b h2 with x | x
          · exact dA b h1 b (by simp [x]) rfl
          · exact x.1 ⟨i, subA b h1⟩
        · exact dA b h1 b (by simp [h2]) rfl
    · exact S.nd j
  · unfold sF at h1 h2
    split at h1 <;> split at h2
    · rename_i z1 z2
      rw [z1, z2]
    · rename_i z1 z2
      rcases mem' b h1 with x | x
      · exact absurd (S.dj i l b x h2).symm z2
      · exact absurd ⟨l, h2⟩ x.1
    · rename_i z1 z2
      rcases mem' b h2 with x | x
      · exact absurd (S.dj i j b x h1).symm z1
      · exact absurd ⟨j, h1⟩ x.1
    · exact S.dj j l b h1 h2
  · obtain ⟨j, z⟩ := z
    unfold sF at z
    split at z
    · exact q.live _ _ _ b z
    · by_cases hb : b = a
      · subst hb
        rw [upd_same]
        simp
      · rw [ne b hb]
        exact S.live b ⟨j, z⟩
end
/-- every key is a tuple that can be a key -/
def tupKeys (kvs : List (PyData × PyData)) : Bool := kvs.all fun kv => isTu kv.1 && (nk kv.1).isSome
def lookN (kvs : List (PyData × PyData)) (k : NestedKey) : Option PyData := (kvs.find? fun kv => decide (nk kv.1 = some k)).map (·.2)
def putN (kvs : List (PyData × PyData)) (kd : PyData) (k : NestedKey) (d : PyData) : List (PyData × PyData) :=
  if (lookN kvs k).isSome = true then kvs.map (fun kv => if nk kv.1 = some k then (kv.1, d) else kv) else kvs ++ [(kd, d)]
section
variable {K : PySem.W.Frag} {m : Bool} {H : Hp}
mutual
theorem keyV_of : ∀ (d : PyData) (v : V) (G : List Addr) (k : NestedKey), Rp K m H v d G → nk d = some k → KeyV K H v k
  | .none, _, _, _, r, h => by
    simp only [nk, Option.some.injEq] at h
    subst h
    cases r
    exact .non
  | .int i, _, _, _, r, h => by
    simp only [nk, Option.some.injEq] at h
    subst h
    cases r
    exact .num i
  | .tuple ds, _, _, k, r, h => by
    unfold nk at h
    split at h
    · rename_i ks e
      simp only [Option.some.injEq] at h
      subst h
      cases r with
      | tup h1 h2 => exact .tup h1 (keyAll_of ds _ _ ks h2 e)
    · cases h
  | .bool _, _, _, _, _, h => by simp [nk] at h
  | .str _, _, _, _, _, h => by simp [nk] at h
  | .list _, _, _, _, _, h => by simp [nk] at h
  | .dict _, _, _, _, _, h => by simp [nk] at h
theorem keyAll_of : ∀ (ds : List PyData) (vs : List V) (G : List Addr) (ks : List NestedKey), RpAll K m H vs ds G → nks ds = some ks → KeyAll K H vs ks
  | [], _, _, _, r, h => by
    simp only [nks, Option.some.injEq] at h
    subst h
    cases r
    exact .nil
  | d :: ds, _, _, ks, r, h => by
    unfold nks at h
    split at h
    · rename_i k ks' e1 e2
      simp only [Option.some.injEq] at h
      subst h
      cases r with
      | cons r1 r2 => exact .cons (keyV_of d _ _ k r1 e1) (keyAll_of ds _ _ ks' r2 e2)
    · cases h
end
theorem kok_of {v : V} {d : PyData} {G : List Addr} {k : NestedKey} (r : Rp K m H v d G) (ht : isTu d = true) (h : nk d = some k) (hd : k.depth ≤ 8) : ∃ b, v = .ref b ∧ KOk K H b k := by
  cases d <;> first | (cases ht; done) | skip
  cases r with
  | tup h1 h2 => exact ⟨_, rfl, keyV_of _ _ _ k (.tup h1 h2) h, hd, nk_textless _ _ h⟩
theorem rp_dn {v : V} {kvs : List (PyData × PyData)} {G : List Addr} (r : Rp K m H v (.dict kvs) G) (h : tupKeys kvs = true) : ∃ a es G', v = .ref a ∧ IsN H a es ∧ (nks (kvs.map (·.1)) = some (es.map (·.1)) ∧ ∀ e ∈ es, KeyV K H (.ref e.2.1) e.1 ∧ e.1.depth ≤ 8) ∧ RpAll K m H (es.map (·.2.2)) (kvs.map (·.2)) G' ∧ G = a :: G' := by
  cases r with
  | dN h1 h2 h3 => exact ⟨_, _, _, rfl, .inl h1, ⟨h2.1, h2.2.1⟩, h3, rfl⟩
  | @dK a ks _ G' h1 h2 h3 =>
    have e : kvs = [] := by
      cases kvs with
      | nil => rfl
      | cons kv kvs =>
        cases ks with
        | nil => cases h2
        | cons p ks =>
          simp only [List.map_cons, List.cons.injEq] at h2
          unfold tupKeys at h
          rw [List.all_cons, h2.1] at h
          obtain ⟨k, _⟩ := p
          cases k <;> simp [keyD, isTu] at h
    subst e
    have e2 : ks = [] := by
      cases ks with
      | nil => rfl
      | cons _ _ => cases h2
    subst e2
    exact ⟨a, [], G', rfl, .inr ⟨rfl, h1⟩, ⟨rfl, fun _ z => nomatch z⟩, h3, rfl⟩
theorem keysN_kok {es : List (NestedKey × Addr × V)} {kvs : List (PyData × PyData)} (h : nks (kvs.map (·.1)) = some (es.map (·.1)) ∧ ∀ e ∈ es, KeyV K H (.ref e.2.1) e.1 ∧ e.1.depth ≤ 8) : ∀ e ∈ es, KOk K H e.2.1 e.1 := fun e he => by
  have ht := nks_textless _ _ h.1
  have all : ∀ {ks : List NestedKey}, textlesses ks = true → ∀ k ∈ ks, textless k = true := by
    intro ks
    induction ks with
    | nil => intro _ k hk; exact nomatch hk
    | cons x ks ih =>
      intro h k hk
      simp only [textlesses, Bool.and_eq_true] at h
      rcases List.mem_cons.mp hk with rfl | hk
      · exact h.1
      · exact ih h.2 k hk
  exact ⟨(h.2 e he).1, (h.2 e he).2, all ht _ (List.mem_map_of_mem he)⟩
theorem keys_cons {e : NestedKey × Addr × V} {es : List (NestedKey × Addr × V)} {kv : PyData × PyData} {kvs : List (PyData × PyData)} (h : nks ((kv :: kvs).map (·.1)) = some ((e :: es).map (·.1))) : nk kv.1 = some e.1 ∧ nks (kvs.map (·.1)) = some (es.map (·.1)) := by
  simp only [List.map_cons] at h
  unfold nks at h
  split at h
  · rename_i k ks e1 e2
    simp only [Option.some.injEq, List.cons.injEq] at h
    rw [e1, e2, h.1, h.2]
    exact ⟨rfl, rfl⟩
  · cases h
theorem look_nk {k : NestedKey} : ∀ {kvs : List (PyData × PyData)} {es : List (NestedKey × Addr × V)} {G : List Addr}, nks (kvs.map (·.1)) = some (es.map (·.1)) → RpAll K m H (es.map (·.2.2)) (kvs.map (·.2)) G →
    (lookN kvs k).isSome = (valN es k).isSome ∧ ∀ d, lookN kvs k = some d → ∃ v G1, valN es k = some v ∧ Rp K m H v d G1 ∧ ∀ a ∈ G1, a ∈ G
  | [], es, _, e, r => by
    cases es with
    | nil => exact ⟨rfl, fun d h => by cases h⟩
    | cons _ _ => simp [nks] at e
  | kv :: kvs, es, G, e, r => by
    cases es with
    | nil =>
      simp only [List.map_cons, List.map_nil] at e
      unfold nks at e
      split at e
      · simp at e
      · cases e
    | cons en es =>
      obtain ⟨e1, e2⟩ := keys_cons e
      simp only [List.map_cons] at r
      cases r with
      | cons r1 r2 =>
        obtain ⟨i1, i2⟩ := look_nk (k := k) e2 r2
        unfold lookN valN at i1 i2 ⊢
        rw [List.find?_cons, List.find?_cons, e1]
        by_cases hk : en.1 = k
        · subst hk
          simp only [decide_true, Option.map_some, Option.isSome_some, true_and]
          intro d hd
          cases hd
          exact ⟨_, _, rfl, r1, fun a i => List.mem_append_left _ i⟩
        · have hb : decide (some en.1 = some k) = false := decide_eq_false fun z => hk (Option.some.inj z)
          rw [hb, decide_eq_false hk]
          refine ⟨i1, fun d hd => ?_⟩
          obtain ⟨v, G1, h1, h2, h3⟩ := i2 d hd
          exact ⟨v, G1, h1, h2, fun a i => List.mem_append_right _ (h3 a i)⟩
end
section
variable {X : Cx} {v0 : Cv} {a b : Expr} {ea eb : Bool} {wa wb : WE} {pos : Pos}
/-- d[k], k a tuple -/
def tNGet (K : PySem.W.Frag) (td ty : TE) : TE := fun σ H Q => td σ H fun x H1 => ty σ H1 fun y H2 => ∃ a es b k v, x = .ref a ∧ y = .ref b ∧ IsN H2 a es ∧ (∀ e ∈ es, KOk K H2 e.2.1 e.1) ∧ KOk K H2 b k ∧ valN es k = some v ∧ Q v H2
theorem IsN.typeIs {pins : List (Addr × Obj)} {σ : L2.St} {H : Hp} {s : Shared} {d : Addr} {es : List (NestedKey × Addr × V)} (I : Inv X pins σ H s) (e : IsN H d es) (hk : ∀ e ∈ es, KOk X.K H e.2.1 e.1) : s.TypeIs (.ref d) "dict" := by
  obtain ⟨_, _, xs, _, dd⟩ := dn_rd I e hk
  exact dd.typeIs
theorem pe_nget {td ty : TE} (hu : X.A.units + 10 < cLine) (ho : PE X a td) (hi : PE X b ty) (hs : NoSl b) : PE X (.Subscript a b pos) (tNGet X.K td ty) := by
  refine ⟨fun pins s σ H Q I h => ?_⟩
  refine subD_of PySem.F.slot_dict_getitem.lookup hs (thn (ho.run pins s σ H _ I h) fun u s1 ⟨x, H1, I1, rx, q1⟩ => thn (hi.run pins s1 σ H1 _ I1 q1) fun iv s2 ⟨y, H2, I2, ry, d, es, c, k, v, ex, ey, hn, hk, kb, hv, q2⟩ => ?_)
  subst ex ey
  obtain rfl : u = Value.ref d := rx
  obtain rfl : iv = Value.ref c := ry
  exact ⟨hn.typeIs I2 hk, dn_getItem hu I2 hn hk kb hv fun w' s3 I3 rw' => ⟨v, H2, I3, rw', q2⟩⟩
def wNGet (eb : Bool) (wa wb : WE) : WE := fun ρ Q => wa ρ fun ρ1 ra => wb ρ1 fun ρ2 rb => (eb = true → stb ra = true) ∧ ∃ kvs k d, ra.d = .dict kvs ∧ tupKeys kvs = true ∧ isTu rb.d = true ∧ nk rb.d = some k ∧ k.depth ≤ 8 ∧ lookN kvs k = some d ∧ Q ρ2 (itemK ra.k d)
theorem de_nget (hu : X.A.units + 64 < cLine) (ha : DE X v0 ea a wa) (hb : DE X v0 eb b wb) (hs : NoSl b) : DE X v0 (ea || eb) (.Subscript a b pos) (wNGet eb wa wb) := by
  obtain ⟨ta, pa, qa⟩ := ha
  obtain ⟨tb, pb, qb⟩ := hb
  refine ⟨_, pe_nget (by omega) pa pb hs, fun σ H ρ F S Qd Q h k => ?_⟩
  refine qa σ H ρ F S _ _ h fun x H1 ρ1 F1 ra G1 S1 s1 p1 r1 h1 => ?_
  refine qb σ H1 ρ1 F1 S1 _ _ h1 fun y H2 ρ2 F2 rb G2 S2 s2 p2 r2 h2 => ?_
  obtain ⟨hst, kvs, key, d, hd, htk, htu, hnk, hdp, hl, hq⟩ := h2
  have rx : Arg X.K (fun a => ¬ Own F2 a) H2 ra x := by
    cases eb with
    | true =>
      obtain ⟨G', q⟩ := r1.step s2 (hst rfl)
      exact q.arg
    | false =>
      obtain ⟨_, e2, e3⟩ := p2.non rfl
      subst e2
      exact (r1.ext e3).arg
  obtain ⟨ka, da⟩ := ra
  have hd : da = .dict kvs := hd
  subst hd
  obtain ⟨G, q, n⟩ := rx
  have q : Rp X.K false H2 x (.dict kvs) G := q
  obtain ⟨ad, es, G', rfl, hn, kn, rv, rfl⟩ := rp_dn q htk
  obtain ⟨b', rfl, kb⟩ := kok_of r2.read htu hnk hdp
  obtain ⟨v, G3, l1, l2, l3⟩ := (look_nk kn.1 rv).2 d hl
  obtain ⟨G4, nn⟩ := item_new (N := fun a => ¬ Own F2 a) (kx := ka) l2 fun z b i => n z b (.tail _ (l3 b i))
  exact ⟨ad, es, b', key, v, rfl, rfl, hn, (keysN_kok kn), kb, l1, k v H2 ρ2 F2 (itemK ka d) G4 S2 (s1.trans s2) (p1.trans p2) (nn.res S2 (s1.trans s2)) hq⟩
/-- k in d -/
def rNIn (K : PySem.W.Frag) (g : Bool → Bool) : R2 := fun x y H Q => ∃ a es b k, x = .ref b ∧ y = .ref a ∧ IsN H a es ∧ (∀ e ∈ es, KOk K H e.2.1 e.1) ∧ KOk K H b k ∧ Q (.bl (g (valN es k).isSome)) H
theorem op_nIn (hu : X.A.units + 64 < cLine) : OpR X (compareOp .In) (rNIn X.K id) := by
  intro pins s σ H x y v u Q I rx ry h
  obtain ⟨a, es, b, k, rfl, rfl, hn, hk, kb, q⟩ := h
  obtain rfl : v = Value.ref b := rx
  obtain rfl : u = Value.ref a := ry
  exact dn_in (by omega) I hn hk kb fun s3 I3 => ⟨.bl _, H, I3, rfl, q⟩
theorem op_nNotIn (hu : X.A.units + 64 < cLine) : OpR X (compareOp .NotIn) (rNIn X.K not) := by
  intro pins s σ H x y v u Q I rx ry h
  obtain ⟨a, es, b, k, rfl, rfl, hn, hk, kb, q⟩ := h
  obtain rfl : v = Value.ref b := rx
  obtain rfl : u = Value.ref a := ry
  exact dn_notIn (by omega) I hn hk kb fun s3 I3 => ⟨.bl _, H, I3, rfl, q⟩
def wInN (g : Bool → Bool) : R → R → (R → Prop) → Prop := fun a b Q => ∃ kvs k, b.d = .dict kvs ∧ tupKeys kvs = true ∧ isTu a.d = true ∧ nk a.d = some k ∧ k.depth ≤ 8 ∧ Q (P (.bool (g (lookN kvs k).isSome)))
theorem od_nIn {K : PySem.W.Frag} {g : Bool → Bool} : OD K (rNIn K g) (wInN g) := by
  intro N H x y ⟨kx, dx⟩ ⟨ky, dy⟩ ⟨G1, q1, _⟩ ⟨G2, q2, _⟩ Qd Q hw k
  obtain ⟨kvs, key, hd, htk, htu, hnk, hdp, hq⟩ := hw
  have hd : dy = .dict kvs := hd
  subst hd
  obtain ⟨ad, es, G', rfl, hn, kn, rv, rfl⟩ := rp_dn (kvs := kvs) q2 htk
  obtain ⟨b', rfl, kb⟩ := kok_of q1 htu hnk hdp
  refine ⟨ad, es, b', key, rfl, rfl, hn, (keysN_kok kn), kb, ?_⟩
  rw [← (look_nk kn.1 rv).1]
  exact k _ H _ [] Ext.refl (NewOk.pure (.bl _)) hq
/-- {} -/
def wDE : WE := fun ρ Q => Q ρ ⟨.own, .dict []⟩
theorem de_dempty : DE X v0 false (.Dict [] [] pos) wDE := by
  refine ⟨_, pe_dnewK, fun σ H ρ F S Qd Q h k => ?_⟩
  intro p np
  have ex : Ext H (upd H p (.dK [])) := Ext.upd np
  refine k (.ref p) _ ρ F ⟨.own, .dict []⟩ [p] (S.ext ex) (Step.ext ex) (Eff.refl.ext ex) ⟨.dK (ks := []) upd_same rfl .nil, List.nodup_cons.mpr ⟨(fun z => nomatch z), List.nodup_nil⟩, (fun a ha z => ?_), fun a ha => ?_⟩ h
  · rw [List.mem_singleton] at ha
    subst ha
    exact S.live _ z np
  · rw [List.mem_singleton] at ha
    subst ha
    exact .inr np
end
section
variable {X : Cx} {v0 : Cv} {e o ie : Expr} {ea : Bool} {we wi : WE} {wp : WPl} {pos p2 : Pos} {i : Nat}
theorem put_nk {K : PySem.W.Frag} {H : Hp} {k : NestedKey} {v : V} {d : PyData} (rv : Rp K true H v d []) : ∀ {kvs : List (PyData × PyData)} {es : List (NestedKey × Addr × V)} {G : List Addr}, nks (kvs.map (·.1)) = some (es.map (·.1)) → RpAll K true H (es.map (·.2.2)) (kvs.map (·.2)) G →
    (kvs.map fun kv => if nk kv.1 = some k then (kv.1, d) else kv).map (·.1) = kvs.map (·.1) ∧ (es.map fun e => if e.1 = k then (e.1, e.2.1, v) else e).map (·.1) = es.map (·.1) ∧
    ∃ G', RpAll K true H ((es.map fun e => if e.1 = k then (e.1, e.2.1, v) else e).map (·.2.2)) ((kvs.map fun kv => if nk kv.1 = some k then (kv.1, d) else kv).map (·.2)) G' ∧ G'.Sublist G
  | [], es, _, e, r => by
    cases es with
    | nil => exact ⟨rfl, rfl, [], .nil, List.nil_sublist _⟩
    | cons _ _ => simp [nks] at e
  | kv :: kvs, es, G, e, r => by
    cases es with
    | nil =>
      simp only [List.map_cons, List.map_nil] at e
      unfold nks at e
      split at e
      · simp at e
      · cases e
    | cons en es =>
      obtain ⟨e1, e2⟩ := keys_cons e
      simp only [List.map_cons] at r
      cases r with
      | @cons _ _ _ _ G1 G2 r1 r2 =>
        obtain ⟨h1, h2, G', h3, h4⟩ := put_nk rv e2 r2
        have ek : (nk kv.1 = some k) = (en.1 = k) := by rw [e1]; simp
        simp only [List.map_cons, ek]
        by_cases h : en.1 = k
        · simp only [h, if_true]
          exact ⟨by rw [h1], by rw [h2], [] ++ G', .cons rv h3, h4.trans (List.sublist_append_right _ _)⟩
        · simp only [h, if_false]
          exact ⟨by rw [h1], by rw [h2], G1 ++ G', .cons r1 h3, (List.Sublist.refl _).append h4⟩
def sNPut (K : PySem.W.Frag) (td ty tv : TE) : TS := fun D σ H => tv σ H fun v H1 => td σ H1 fun x H2 => ty σ H2 fun y H3 => ∃ a es b k, x = .ref a ∧ y = .ref b ∧ IsN H3 a es ∧ (∀ e ∈ es, KOk K H3 e.2.1 e.1) ∧ KOk K H3 b k ∧ es.length < sizeLine ∧ D.nx σ (upd H3 a (.ext (DictN a (putE es k b v))))
theorem ps_nput {td ty tv : TE} (hu : X.A.units + 10 < cLine) (ho : PE X o td) (hi : PE X ie ty) (hv : PE X e tv) (hs : swapsWith e (some (.Subscript o ie p2)) pos.line X.env = pure false) : PS X (.Assign [.Subscript o ie p2] e pos) (sNPut X.K td ty tv) := by
  refine ⟨fun pins s σ H D I h => ?_⟩
  refine wpAny_Assign_Subscript (thn (hv.run pins s σ H _ I h) fun r s1 ⟨v, H1, I1, rv, q1⟩ => thn (ho.run pins s1 σ H1 _ I1 q1) fun u s2 ⟨x, H2, I2, rx, q2⟩ => thn (hi.run pins s2 σ H2 _ I2 q2) fun iv s3 ⟨y, H3, I3, ry, a, es, b, k, ex, ey, hn, hk, kb, hl, q3⟩ => ?_) hs
  subst ex ey
  obtain rfl : u = Value.ref a := rx
  obtain rfl : iv = Value.ref b := ry
  exact dn_setItem hu I3 hn hk kb hl rv fun s4 I4 => ⟨σ, _, I4, q3⟩
/-- d[k] = e, k a tuple, e plain data -/
def wNPut (i : Nat) (we : WE) (wp : WPl) (wi : WE) : WS := fun D ρ => we ρ fun ρ1 r => pur r.d = true ∧ wp ρ1 fun p => wi ρ1 fun _ ri => ∃ kvs k, dAt ρ1 i p = some (.dict kvs) ∧ tupKeys kvs = true ∧ kvs.length < sizeLine ∧ isTu ri.d = true ∧ nk ri.d = some k ∧ k.depth ≤ 8 ∧ D.nx (upP ρ1 i p (.dict (putN kvs ri.d k r.d)))
theorem ds_nput (hu : X.A.units + 64 < cLine) (he : DE X v0 ea e we) (ho : DPl X v0 i o wp) (hi : DE X v0 false ie wi) (hs : swapsWith e (some (.Subscript o ie p2)) pos.line X.env = pure false := by rfl) :
    DS X v0 (.Assign [.Subscript o ie p2] e pos) (wNPut i we wp wi) := by
  obtain ⟨te, pe, qe⟩ := he
  obtain ⟨t, p, q⟩ := ho
  obtain ⟨ti, pi, qi⟩ := hi
  refine ⟨_, ps_nput (by omega) p pi pe hs, fun σ H ρ F S Dd D ends h => ?_⟩
  refine qe σ H ρ F S _ _ h fun x H1 ρ1 F1 rx G1 S1 s1 e1 r1 h1 => ?_
  obtain ⟨hpur, h1⟩ := h1
  refine q σ H1 ρ1 F1 S1 _ _ h1 fun pp u v r H2 x2 hv hr hk va h2 => ?_
  refine qi σ H2 ρ1 F1 (S1.ext x2) _ _ h2 fun y H3 ρ3 F3 ry G3 S3 s3 e3 r3 h3 => ?_
  obtain ⟨q1, q2, x3⟩ := e3.non rfl
  subst q1
  subst q2
  obtain ⟨kvs, key, g1, htk, hlen, htu, hnk, hdp, hq⟩ := h3
  have gp := getP_uniq g1 hr
  have va3 := va.ext x3
  obtain ⟨_, Ga, G0, Gb, t1, t2, t3, t4⟩ := place va3 _ (S3.rp hv hr hk)
  rw [gp] at t1
  cases t1
  have ex : Ext H1 H3 := x2.trans x3
  have sAll : Step F H F3 H3 := s1.trans (Step.ext ex)
  obtain ⟨_, rv⟩ := Rp.pure' (m' := true) _ _ _ (r1.ext ex).read hpur
  have sp : Sep X.K σ H3 ρ3 F3 fun _ => False := Sep.of S (e1.ext ex) sAll fun _ z => z.elim
  obtain ⟨a0, es, G', rfl, hn, kn, rvs, rfl⟩ := rp_dn t3 htk
  obtain ⟨b, rfl, kb⟩ := kok_of r3.read htu hnk hdp
  have hel : es.length < sizeLine := by
    have := RpAll.length rvs
    simp at this
    omega
  have notup : ∀ xs, ¬ Rd H3 a0 (.tup xs) := fun xs r => by
    rcases hn with hn | ⟨_, hn⟩ <;> rcases r with r | ⟨o, r⟩ <;> rw [hn] at r <;> cases r
  have tu : Tu H3 (upd H3 a0 (.ext (DictN a0 (putE es key b x)))) := fun c xs r => by
    have hb : c ≠ a0 := fun z => notup xs (z ▸ r)
    exact rd_keep r fun o q => by rw [upd_ne hb]; exact q
  have nd := S3.nd i
  rw [t2, List.append_assoc, List.nodup_append, List.nodup_append] at nd
  obtain ⟨_, ⟨nd0, _, _⟩, _⟩ := nd
  rw [List.nodup_cons] at nd0
  have lk := (look_nk (k := key) kn.1 rvs).1
  obtain ⟨F', S', s'⟩ := S3.mutAt S.st sAll sp hv hr hk t2 t4 (o' := .ext (DictN a0 (putE es key b x))) (e' := .dict (putN kvs ry.d key rx.d)) tu ⟨.head _, by
    have fin : ∀ Gn kvs' es', KeysN X.K H3 es' kvs' → RpAll X.K true H3 (es'.map (·.2.2)) (kvs'.map (·.2)) Gn → Gn.Sublist G' → putE es key b x = es' → putN kvs ry.d key rx.d = kvs' →
        ∃ G1, Rp X.K true (upd H3 a0 (.ext (DictN a0 (putE es key b x)))) (.ref a0) (.dict (putN kvs ry.d key rx.d)) G1 ∧ G1.Nodup ∧ ∀ c ∈ G1, c ∈ a0 :: G' ∨ (¬ Own F3 c ∧ False ∧ (Own F c ∨ H c = none)) := by
      intro Gn kvs' es' k1 k2 k3 k4 k5
      rw [k4, k5]
      rw [k4] at tu
      have na : a0 ∉ Gn := fun z => nd0.1 (k3.subset z)
      exact ⟨a0 :: Gn, .dN upd_same (k1.keep tu) (k2.keep tu _ _ _ fun c hc o ho => by
        have : c ≠ a0 := fun z => na (z ▸ hc)
        rw [upd_ne this]
        exact ho), List.nodup_cons.mpr ⟨na, nd0.2.sublist k3⟩, fun c hc => .inl ((List.mem_cons.mp hc).elim (fun z => z ▸ .head _) fun z => .tail _ (k3.subset z))⟩
    by_cases hany : (valN es key).isSome = true
    · obtain ⟨m1, m2, Gn, m3, m4⟩ := put_nk (k := key) rv kn.1 rvs
      refine fin Gn _ _ ⟨by rw [m1, m2]; exact kn.1, fun e' he' => ?_, ?_⟩ m3 m4 ?_ ?_
      · obtain ⟨e0, h0, rfl⟩ := List.mem_map.mp he'
        split
        · exact kn.2 e0 h0
        · exact kn.2 e0 h0
      · intro z
        have h0 : kvs = [] := List.map_eq_nil_iff.mp z
        subst h0
        rw [← lk] at hany
        simp [lookN] at hany
      · unfold putE
        rw [if_pos hany]
      · unfold putN
        rw [lk, if_pos hany]
    · refine fin (G' ++ ([] ++ [])) (kvs ++ [(ry.d, rx.d)]) (es ++ [(key, b, x)]) ⟨?_, fun e' he' => ?_, by simp⟩ ?_ (by simp) ?_ ?_
      · have app : ∀ (ds : List PyData) (ks : List NestedKey), nks ds = some ks → nks (ds ++ [ry.d]) = some (ks ++ [key]) := by
          intro ds
          induction ds with
          | nil =>
            intro ks h
            simp only [nks, Option.some.injEq] at h
            subst h
            simp [nks, hnk]
          | cons d ds ih =>
            intro ks h
            unfold nks at h
            split at h
            · rename_i k0 ks0 e1 e2
              simp only [Option.some.injEq] at h
              subst h
              simp [nks, e1, ih ks0 e2]
            · cases h
        rw [List.map_append, List.map_append]
        exact app _ _ kn.1
      · rcases List.mem_append.mp he' with he' | he'
        · exact kn.2 e' he'
        · rw [List.mem_singleton.mp he']
          exact ⟨kb.1, kb.2.1⟩
      · rw [List.map_append, List.map_append]
        exact rvs.append (.cons rv .nil)
      · unfold putE
        rw [if_neg hany]
      · unfold putN
        rw [lk, if_neg hany]⟩
  refine ⟨a0, es, b, key, rfl, rfl, hn, (keysN_kok kn), kb, hel, ends.nx _ _ _ F' S' s' ?_⟩
  rw [upP_of hr] at hq
  exact hq
end
end DL
namespace DL
open PySem PySem.Spec PyProof.Rows L2
/-- len(d): keys ints and texts, or nested tuples -/
def rLenN (K : PySem.W.Frag) : List V → Hp → VK → Prop := fun xs H Q => ∃ a es, xs = [.ref a] ∧ IsN H a es ∧ (∀ e ∈ es, KOk K H e.2.1 e.1) ∧ Q (.int ((es.length : Nat) : Int)) H
theorem call_lenN {X : Cx} : CallR X (.builtin "len") (rLenN X.K) := by
  intro pins s σ H xs us Q I r h
  obtain ⟨a, es, rfl, hn, hk, q⟩ := h
  obtain ⟨u, rfl, rx⟩ := vals1 r
  obtain rfl : u = .ref a := rx
  obtain ⟨z, hd, ys, rel, dd⟩ := dn_rd I hn hk
  have hl : es.length = ys.length := rel.len
  refine call_len_dictH hd dd (by rw [← hl]; rw [sizeLine_eq] at z; omega) ?_
  rw [← hl]
  exact ⟨.int ((es.length : Nat) : Int), H, I.tok _, ⟨_, rfl⟩, q⟩
def rLenD (K : PySem.W.Frag) : List V → Hp → VK → Prop := fun xs H Q => rLenA K xs H Q ∨ rLenN K xs H Q
theorem call_lenDc {X : Cx} : CallR X (.builtin "len") (rLenD X.K) := CallR.or call_lenA call_lenN
def wLenD : List R → (R → Prop) → Prop
  | [r], Q => (match r.d with
    | .dict kvs => Q (P (.int (kvs.length : Int)))
    | _ => False)
  | _, _ => False
theorem cd_lenD {K : PySem.W.Frag} : CD K (rLenD K) wLenD := by
  intro N H xs rs A Qd Q hw k
  match rs, A, hw with
  | [⟨kd, d⟩], A, hw =>
    obtain ⟨x, rfl, ax⟩ := A.one
    unfold wLenD at hw
    cases d <;> first | exact hw.elim | skip
    rename_i kvs
    obtain ⟨G, q, _⟩ := ax
    have q : Rp K false H x (.dict kvs) G := q
    cases q with
    | @dK a ks _ G' h1 h2 h3 =>
      refine .inl (.inr ⟨a, ks, rfl, h1, ?_⟩)
      have e : ks.length = kvs.length := by
        have := congrArg List.length h2
        simpa using this.symm
      rw [e]
      exact k _ H _ [] Ext.refl (NewOk.pure (.int _)) hw
    | @dN a es _ G' h1 h2 h3 =>
      refine .inr ⟨a, es, rfl, .inl h1, keysN_kok ⟨h2.1, h2.2.1⟩, ?_⟩
      have e : es.length = kvs.length := by
        have := RpAll.length h3
        simpa using this
      rw [e]
      exact k _ H _ [] Ext.refl (NewOk.pure (.int _)) hw
theorem wLenD_d {k : Kd} {kvs : List (PyData × PyData)} {Q : R → Prop} : wLenD [⟨k, .dict kvs⟩] Q = Q (P (.int (kvs.length : Int))) := rfl
theorem dc_it {J : It} {n : Nat} {G : Hp → Prop} {Y : Nat → Hp → V → Hp → Prop} (w : Walk J n G Y) {g : TG} {tt : TT} {tk tv : TE} {vs : List Nat} {σ : L2.St} {H1 : Hp} {D : Addr} {Qd : Hp → Prop} (Pv : Nat → Hp → Prop) (h0 : Pv 0 (upd H1 D (.dK [])))
    (hG : ∀ i H, i ≤ n → Pv i H → G H)
    (hs : ∀ i x H H', i < n → Pv i H → Y i H x H' → g x (wipe σ vs) H' fun σ2 H2 => wipe σ2 vs = wipe σ vs ∧ tt σ2 H2 fun b H3 =>
      if b = true then tk σ2 H3 fun y H4 => tv σ2 H4 fun z H5 => ∃ kvs k, y = kV k ∧ H5 D = some (.dK kvs) ∧ kvs.length < sizeLine ∧ Pv (i + 1) (upd H5 D (.dK (putK kvs k z))) else Pv (i + 1) H3) (hd : ∀ H, Pv n H → Qd H) :
    ∃ W : Nat → Nat → Hp → Prop, (∃ m, W 0 m (upd H1 D (.dK []))) ∧ ∀ i m H, W i m H →
      (J.stop i H ∧ Qd H) ∨ (J.go i H ∧ ∃ Nx : Hp → Prop, (∀ H', Nx H' → ∃ m', m' < m ∧ W (i + 1) m' H') ∧ ∀ x H', J.yld i H x H' → g x (wipe σ vs) H' fun σ2 H2 => wipe σ2 vs = wipe σ vs ∧ tt σ2 H2 fun b H3 =>
        if b = true then tk σ2 H3 fun y H4 => tv σ2 H4 fun z H5 => ∃ kvs k, y = kV k ∧ H5 D = some (.dK kvs) ∧ kvs.length < sizeLine ∧ Nx (upd H5 D (.dK (putK kvs k z))) else Nx H3) := by
  refine ⟨fun i m H => m = n - i ∧ i ≤ n ∧ Pv i H, ⟨n, by simp, Nat.zero_le _, h0⟩, ?_⟩
  rintro i m H ⟨rfl, hi, p⟩
  have q := hG i H hi p
  by_cases hlt : i < n
  · refine .inr ⟨w.goes i H hlt q, Pv (i + 1), fun H' p' => ⟨n - (i + 1), by omega, rfl, hlt, p'⟩, fun x H' y => hs i x H H' hlt p (w.yields i H x H' hlt q y)⟩
  · have e : i = n := by omega
    subst e
    exact .inl ⟨w.stops H q, hd H p⟩
section
variable {X : Cx} {v0 : Cv} {pos : Pos} {wi : WI} {wg : WG} {wt : WT} {wk wv : WE} {tg iter kx vx : Expr} {ts : List Nat} {ti : TI} {g : TG} {tt : TT} {tk tv : TE}
/-- reading: I the law's own invariant of what stands in the new dict -/
def wDc0 (wi : WI) (g : WG) (tt : WT) (wk wv : WE) (vs : List Nat) : WE := fun ρ Q => wi ρ fun ρ1 ds => ∃ I : Nat → List (PyData × PyData) → Prop, I 0 [] ∧
  (∀ i d acc, ds[i]? = some d → I i acc → g ⟨.shr, d⟩ (wipeD ρ1 vs) fun ρ3 => tt ρ3 fun ρ4 c => if c = true then wk ρ4 fun ρ5 rk => wv ρ5 fun _ r => pur r.d = true ∧ acc.length < sizeLine ∧ ∃ k, keyOf rk.d = some k ∧ I (i + 1) (putD acc k r.d) else I (i + 1) acc) ∧
  ∀ acc, I ds.length acc → Q ρ1 ⟨.own, .dict acc⟩
/-- what stands in the new dict -/
structure AccD (K : PySem.W.Frag) (H : Hp) (D : Addr) (acc : List (PyData × PyData)) (ks : List (Key × V)) : Prop where
  hD : H D = some (.dK ks)
  keys : acc.map (·.1) = ks.map (fun p => keyD p.1)
  vals : RpAll K true H (ks.map (·.2)) (acc.map (·.2)) []
theorem AccD.ext {K : PySem.W.Frag} {H H' : Hp} {D : Addr} {acc : List (PyData × PyData)} {ks : List (Key × V)} (A : AccD K H D acc ks) (e : Ext H H') : AccD K H' D acc ks :=
  ⟨e _ _ A.hD, A.keys, A.vals.keep e.tu _ _ _ (e.kp _)⟩
theorem AccD.len {K : PySem.W.Frag} {H : Hp} {D : Addr} {acc : List (PyData × PyData)} {ks : List (Key × V)} (A : AccD K H D acc ks) : ks.length = acc.length := by
  have := congrArg List.length A.keys
  simpa using this.symm
theorem AccD.put {K : PySem.W.Frag} {H : Hp} {D : Addr} {acc : List (PyData × PyData)} {ks : List (Key × V)} (A : AccD K H D acc ks) {k : Key} {v : V} {d : PyData} (rv : Rp K true H v d []) : AccD K (upd H D (.dK (putK ks k v))) D (putD acc k d) (putK ks k v) := by
  have tu : Tu H (upd H D (.dK (putK ks k v))) := fun b xs r => by
    have hb : b ≠ D := fun e => by
      subst e
      rcases r with r | ⟨o, r⟩ <;> rw [A.hD] at r <;> cases r
    exact rd_keep r fun o q => by rw [upd_ne hb]; exact q
  have fin : ∀ acc' ks', acc'.map (·.1) = ks'.map (fun p : Key × V => keyD p.1) → RpAll K true H (ks'.map (·.2)) (acc'.map (·.2)) [] → putK ks k v = ks' → putD acc k d = acc' → AccD K (upd H D (.dK (putK ks k v))) D (putD acc k d) (putK ks k v) := by
    intro acc' ks' h1 h2 h3 h4
    rw [h3, h4]
    rw [h3] at tu
    exact ⟨upd_same, h1, h2.keep tu _ _ _ fun b hb => nomatch hb⟩
  by_cases hany : (ks.any fun kv => decide (kv.1 = k)) = true
  · obtain ⟨m1, Gn, m2, m3⟩ := put_map (k := k) rv A.keys A.vals
    have e : Gn = [] := List.sublist_nil.mp m3
    subst e
    refine fin _ _ m1 m2 ?_ ?_
    · unfold putK
      rw [if_pos hany]
    · unfold putD
      rw [put_any (K := K) A.keys, if_pos hany]
  · refine fin (acc ++ [(keyD k, d)]) (ks ++ [(k, v)]) (by simp [A.keys]) ?_ ?_ ?_
    · rw [List.map_append, List.map_append]
      exact A.vals.append (.cons rv .nil)
    · unfold putK
      rw [if_neg hany]
    · unfold putD
      rw [put_any (K := K) A.keys, if_neg hany]
theorem re_dc0 {vs : List Nat} (q1 : RI X.K v0 true false ti wi) (q2 : RB X.K v0 ts g wg) (q3 : RT X.K v0 false tt wt) (q4 : RE X.K v0 false tk wk) (q5 : RE X.K v0 false tv wv) (hts : ∀ t ∈ ts, t ∈ vs) : RE X.K v0 false (tDc ti g tt tk tv vs) (wDc0 wi wg wt wk wv vs) := by
  intro σ H ρ F S Qd Q h k
  refine q1 σ H ρ F S _ _ h fun J H1 ρ1 F1 ds S1 s1 e1 wk1 h1 => ?_
  obtain ⟨I, i0, istep, iend⟩ := h1
  obtain ⟨G, Y, walk, hG, hY⟩ := wk1
  intro D nD
  have ex0 : Ext H1 (upd H1 D (.dK [])) := Ext.upd nD
  have thru : ∀ {H5 : Hp} {ks : List (Key × V)}, Ext H1 H5 → Ext H1 (upd H5 D (.dK ks)) := fun {H5 ks} x a o h => by
    rw [upd_ne (ne_of_none h nD)]
    exact x a o h
  refine dc_it walk (fun i H' => ∃ acc ks, Ext H1 H' ∧ AccD X.K H' D acc ks ∧ I i acc) ⟨[], [], ex0, ⟨upd_same, rfl, .nil⟩, i0⟩ (fun i H' _ ⟨_, _, x, _⟩ => hG F1 H' ⟨Step.ext x, fun _ => ⟨rfl, x⟩⟩) ?_ ?_
  · rintro i x H' H'' hi ⟨acc, ks, x1, A, hI⟩ y
    have S' := (S1.wipe vs).ext x1
    obtain ⟨d, hd, ex, Gx, rp, n⟩ := hY i H' x H'' F1 hi ⟨Step.ext x1, fun _ => ⟨rfl, x1⟩⟩ S'.live y
    have S2 := S'.ext ex
    refine q2 F1 H1 (L2.wipe σ vs) H'' (wipeD ρ1 vs) F1 ⟨.shr, d⟩ x Gx (fun _ => False) S1.st S2 (Step.ext (x1.trans ex)) (Sep.of0 S2) ⟨rp, n⟩ (fun z => by cases z) (fun _ _ _ z => z) _ _ (istep i d acc hd hI) fun σ3 ρ3 F3 S3 s3 _ ho on h3 => ?_
    refine ⟨wipe_only on hts, ?_⟩
    refine q3 σ3 H'' ρ3 F3 S3 _ _ h3 fun c H4 ρ4 F4 S4 s4 e4 h4 => ?_
    obtain ⟨f1, f2, f3⟩ := e4.non rfl
    subst f1; subst f2
    have A4 := A.ext (ex.trans f3)
    cases c with
    | true =>
      rw [if_pos rfl] at h4 ⊢
      refine q4 σ3 H4 ρ4 F4 S4 _ _ h4 fun yk H5 ρ5 F5 rk G5 S5 s5 e5 r5 h5 => ?_
      obtain ⟨g1, g2, g3⟩ := e5.non rfl
      subst g1; subst g2
      refine q5 σ3 H5 ρ5 F5 S5 _ _ h5 fun yv H6 ρ6 F6 r G6 S6 s6 e6 r6 h6 => ?_
      obtain ⟨g4, g5, g6⟩ := e6.non rfl
      subst g4; subst g5
      obtain ⟨hpur, hlen, key, hkey, hI'⟩ := h6
      obtain ⟨_, rv⟩ := Rp.pure' (m' := true) _ _ _ r6.read hpur
      have A6 := A4.ext (g3.trans g6)
      exact ⟨ks, key, key_V r5.read hkey, A6.hD, by rw [A.len]; exact hlen, _, _, thru (((x1.trans ex).trans f3).trans (g3.trans g6)), A6.put rv, hI'⟩
    | false =>
      rw [if_neg Bool.false_ne_true] at h4 ⊢
      exact ⟨acc, ks, (x1.trans ex).trans f3, A4, h4⟩
  · rintro H' ⟨acc, ks, x1, A, hI⟩
    refine k (.ref D) H' ρ1 F1 ⟨.own, .dict acc⟩ [D] (S1.ext x1) (s1.trans (Step.ext x1)) (e1.ext x1) ⟨.dK A.hD A.keys A.vals, List.nodup_cons.mpr ⟨(fun z => nomatch z), List.nodup_nil⟩, (fun a ha z => ?_), fun a ha => ?_⟩ (iend acc hI)
    · rw [List.mem_singleton] at ha
      subst ha
      exact S1.live _ z nD
    · rw [List.mem_singleton] at ha
      subst ha
      exact s1.none_of nD
theorem de_dc0 {ifs : List Expr} {scope : Scope} (own : List (Str × Nat)) (hc : X.calm = true) (hN : X.N.Nodup) (hi : DI X v0 true false tg iter wi) (ok : BlkOk X.N X.env.scope scope own)
    (hg : ∀ (s : Shared) (H : Hp) (C : Addr) (cl : List (Str × Addr)) (fp : List Addr), DB (X.blk s H scope (compEnvC scope cl C X.env) fp) v0 ts tg wg)
    (ht : ∀ (s : Shared) (H : Hp) (C : Addr) (cl : List (Str × Addr)) (fp : List Addr), DTs (X.blk s H scope (compEnvC scope cl C X.env) fp) v0 false ifs wt)
    (hk : ∀ (s : Shared) (H : Hp) (C : Addr) (cl : List (Str × Addr)) (fp : List Addr), DE (X.blk s H scope (compEnvC scope cl C X.env) fp) v0 false kx wk)
    (he : ∀ (s : Shared) (H : Hp) (C : Addr) (cl : List (Str × Addr)) (fp : List Addr), DE (X.blk s H scope (compEnvC scope cl C X.env) fp) v0 false vx wv)
    (hts : ∀ t ∈ ts, t ∈ own.map (·.2) := by decide) (hs : ∀ x, foldedSetIterable iter X.env x = pure x := by intro _; rfl) : DE X v0 false (.DictComp kx vx [⟨tg, iter, ifs, 0⟩] scope pos) (wDc0 wi wg wt wk wv (own.map (·.2))) := by
  obtain ⟨ti, p1, q1⟩ := hi
  exact ⟨_, pe_dc hc hN p1 ok (fun s H C cl fp => (hg s H C cl fp).can) (fun s H C cl fp => (ht s H C cl fp).can) (fun s H C cl fp => (hk s H C cl fp).can) (fun s H C cl fp => (he s H C cl fp).can) hs, re_dc0 q1 rb_can rt_can re_can re_can hts⟩
end
section
variable {X : Cx} {v0 : Cv} {pos : Pos} {wk wv : WE} {kx vx : Expr}
def wDisp1 (wk wv : WE) : WE := fun ρ Q => wk ρ fun ρ1 rk => wv ρ1 fun ρ2 r => pur r.d = true ∧ ∃ k, keyOf rk.d = some k ∧ Q ρ2 ⟨.own, .dict [(keyD k, r.d)]⟩
theorem de_disp1 (hk : DE X v0 false kx wk) (hv : DE X v0 false vx wv) : DE X v0 false (.Dict [some kx] [vx] pos) (wDisp1 wk wv) := by
  obtain ⟨tk, p1, q1⟩ := hk
  obtain ⟨tv, p2, q2⟩ := hv
  refine ⟨_, pe_disp (pps_cons p1 p2 pps_nil) rfl rfl (by simp) (by simp), fun σ H ρ F S Qd Q h k => ?_⟩
  intro p np
  have ex : Ext H (upd H p (.dK [])) := Ext.upd np
  refine q1 σ _ ρ F (S.ext ex) _ _ h fun x H1 ρ1 F1 rk G1 S1 s1 e1 r1 h1 => ?_
  obtain ⟨f1, f2, x1⟩ := e1.non rfl
  subst f1; subst f2
  refine q2 σ H1 ρ1 F1 S1 _ _ h1 fun y H2 ρ2 F2 r G2 S2 s2 e2 r2 h2 => ?_
  obtain ⟨f1, f2, x2⟩ := e2.non rfl
  subst f1; subst f2
  obtain ⟨hpur, key, hkey, hQ⟩ := h2
  obtain ⟨_, rv⟩ := Rp.pure' (m' := true) _ _ _ r2.read hpur
  have hp : H2 p = some (.dK []) := x2 _ _ (x1 _ _ upd_same)
  have A : AccD X.K H2 p [] [] := ⟨hp, rfl, .nil⟩
  have A' : AccD X.K (upd H2 p (.dK [(key, y)])) p [(keyD key, r.d)] [(key, y)] := A.put (k := key) rv
  refine ⟨hp, [(key, y)], ?_, by simp, ?_⟩
  · rw [key_V r1.read hkey]
    rfl
  have xx : Ext H (upd H2 p (.dK [(key, y)])) := fun a o h => by
    rw [upd_ne (ne_of_none h np)]
    exact x2 _ _ (x1 _ _ (ex _ _ h))
  refine k (.ref p) _ ρ2 F2 ⟨.own, .dict [(keyD key, r.d)]⟩ [p] (S.ext xx) (Step.ext xx) (Eff.refl.ext xx) ⟨.dK A'.hD A'.keys A'.vals, List.nodup_cons.mpr ⟨(fun z => nomatch z), List.nodup_nil⟩, (fun a ha z => ?_), fun a ha => ?_⟩ hQ
  · rw [List.mem_singleton] at ha
    subst ha
    exact S.live _ z np
  · rw [List.mem_singleton] at ha
    subst ha
    exact .inr np
end
section
variable {X : Cx} {v0 : Cv} {o : Expr} {p pos apos mpos : Pos} {td : TE} {eo : Bool} {wo : WE}
theorem kv_val {ks : List (Key × V)} {vs : List (Key × Value)} {ns : List Int} (r : KV ks vs) (e : ks.map (·.2) = ns.map V.int) {i : Nat} {v : Value} (h : ∃ k, vs[i]? = some (k, v)) : ∃ t, v = Value.int (ns.getD i 0) t := by
  obtain ⟨k, hk⟩ := h
  obtain ⟨x, h1, h2⟩ := KV.at' r hk
  have e1 : (ks.map (·.2))[i]? = some x := by rw [List.getElem?_map, h1]; rfl
  rw [e, List.getElem?_map] at e1
  obtain ⟨j, hj, rfl⟩ := Option.map_eq_some_iff.mp e1
  obtain ⟨t, rfl⟩ := h2
  exact ⟨t, by rw [List.getD_eq_getElem?_getD, hj]; rfl⟩
def tMaxV (td : TE) : TE := fun σ H Q => td σ H fun x H1 => ∃ a ks ns, x = V.ref a ∧ H1 a = some (.dK ks) ∧ ks.map (·.2) = ns.map V.int ∧ ns ≠ [] ∧ ∀ m, m ∈ ns → (∀ j ∈ ns, j ≤ m) → Q (.int m) H1
theorem pe_maxV (hc : X.calm = true) (hg : Gl X "max") (hm : X.mg "max" = none) (hd : PE X o td) (hbase : attributeBase o "values" X.env (eval o X.env) = eval o X.env := by rfl) (hline : (apos.endLine == mpos.line) = true := by rfl)
    (hse : starEach [Expr.Call (.Attribute o "values" apos) [] [] mpos] X.env = [(false, eval (Expr.Call (.Attribute o "values" apos) [] [] mpos) X.env)] := by rfl) :
    PE X (.Call (.Name "max" p) [.Call (.Attribute o "values" apos) [] [] mpos] [] pos) (tMaxV td) := by
  refine ⟨fun pins s σ H Q I h => ?_⟩
  refine wpAny_Call_Name_kw (ld_blt I hg hm (u := .builtin "max") (by first | rfl | decide +kernel) ?_ (by first | decide +kernel | decide) (by first | decide +kernel | decide))
  rw [hse]
  refine PySem.callWith_builtin1 (wpAny_Call_method0_late hbase hline (thn (hd.run pins s σ H _ I h) fun v s1 ⟨x, H1, I1, r1, a, ks, ns, ex, ha, hv, hne, q⟩ => ?_))
  subst ex
  obtain rfl : v = Value.ref a := r1
  obtain ⟨_, hsys, vs, rel, dof⟩ := dk_of I1.hok ha
  obtain ⟨ep, dat⟩ := dof.dictAt
  obtain ⟨ob, es, ho, hx, _⟩ := id dat
  have hlt : a < s1.heap.objs.size := Heap.lt_size ho
  refine ⟨"dict", "dict.values", F.plainAttrs_dict, F.slot_dict_values, F.type_dict_values, ⟨ob, ho, hx.1⟩, fun b e => by cases e; exact ⟨ob, ho, hx.2.1⟩, Calls.callWith_builtin rfl (PySem.evalArgs_none ?_)⟩
  refine call_meetsIn F.slot_dict_values ⟨ob, ho, hx.1⟩ F.entry_dict_values (F.args_dict_values_1 _) (meets_dict_values (mixKind X.prog X.w) a hsys) ⟨⟨vs, dof⟩, ?_⟩
  generalize hh : s1.heap.push { cls := .type "dict_values", data := .fields #[.ref a] } = h2
  have k1 : ∀ b u, s1.heap.get? b = some u → h2.get? b = some u := fun b u e => by rw [← hh]; exact Heap.get?_push_of_some _ e
  have dat2 : h2.DictAt (mixKind X.prog X.w) a vs ep := dat.keep k1
  have hsz : h2.objs.size = s1.heap.objs.size + 1 := by rw [← hh]; exact Heap.size_push _ _
  have hview : ∃ u, h2.get? s1.heap.objs.size = some u ∧ u.cls = .type "dict_values" ∧ u.data = .fields #[.ref a] := by rw [← hh]; exact ⟨_, Heap.get?_push_size _ rfl, rfl, rfl⟩
  have hl : vs.length = ns.length := by
    have e1 := congrArg List.length hv
    rw [List.length_map, List.length_map] at e1
    rw [← e1]
    exact (KV.length rel).symm
  have hpos : 0 < vs.length := by rw [hl]; exact List.length_pos_iff.mpr hne
  refine call_max_walk (wpAny_pyIter_values (v := s1.heap.objs.size) (d := a) hview dat2 ?_)
  refine ⟨_, _, _, _, _, _, _, rfl, Walks.dictValues (knd := mixKind X.prog X.w) (A := X.A.in1) (I.ok.hd hc) h2.objs.size a (by rw [hsz]; exact Nat.ne_of_lt (Nat.lt_succ_of_lt hlt)) vs ep,
    ⟨⟨_, Heap.get?_push_size _ rfl, rfl, rfl⟩, dat2.keep fun b u e => Heap.get?_push_of_some _ e⟩, fun b hb => ?_, hpos, CmpOf.ints_gt (fun i => ns.getD i 0) (fun i v h => kv_val rel hv h), fun v h' tk hP hk => ?_⟩
  · show b < (Heap.push _ _).objs.size
    rw [Heap.size_push]
    rcases List.mem_cons.mp hb with e | hb
    · rw [e]
      exact Nat.lt_succ_self _
    · have e : b = a := List.mem_singleton.mp hb
      rw [e, hsz]
      exact Nat.lt_succ_of_lt (Nat.lt_succ_of_lt hlt)
  · obtain ⟨t, rfl⟩ := kv_val rel hv hP
    obtain ⟨b1, b2⟩ := argBest_gt (fun i => ns.getD i 0) (vs.length - 1)
    refine ⟨.int _, H1, I1.kept (t' := tk) fun b u e => hk b u (fun hmem => ?_) (Heap.get?_push_of_some _ (k1 b u e)), ⟨t, rfl⟩, q _ ?_ fun j hj => ?_⟩
    · have e1 : b = h2.objs.size := List.mem_singleton.mp hmem
      have e2 := Heap.lt_size e
      rw [e1, hsz] at e2
      exact absurd e2 (Nat.not_lt.mpr (Nat.le_succ _))
    · have hb : argBest (fun i j => decide (ns.getD i 0 > ns.getD j 0)) (vs.length - 1) < ns.length := by omega
      rw [List.getD_eq_getElem?_getD, List.getElem?_eq_getElem hb]
      exact List.getElem_mem hb
    · obtain ⟨i, hi, rfl⟩ := List.mem_iff_getElem.mp hj
      have e2 : ns.getD i 0 = ns[i] := by rw [List.getD_eq_getElem?_getD, List.getElem?_eq_getElem hi]; rfl
      rw [← e2]
      exact b2 i (by omega)
/-- max(d.values()) by data: the keys ints or texts -/
def wMaxV (wo : WE) : WE := fun ρ Q => wo ρ fun ρ1 r => ∃ kvs ns, r.d = .dict kvs ∧ (kvs.all fun kv => (keyOf kv.1).isSome) = true ∧ kvs.map (·.2) = ns.map PyData.int ∧ ns ≠ [] ∧ ∀ m, m ∈ ns → (∀ j ∈ ns, j ≤ m) → Q ρ1 (P (.int m))
theorem vals_ints {K : PySem.W.Frag} {m : Bool} {H : Hp} : ∀ {xs : List V} {ns : List Int} {G : List Addr}, RpAll K m H xs (ns.map PyData.int) G → xs = ns.map V.int
  | [], [], _, _ => rfl
  | _, [], _, r => by cases r; rfl
  | xs, n :: ns, _, r => by
    rw [List.map_cons] at r
    cases r with
    | cons r1 r2 =>
      cases r1
      rw [vals_ints r2]
      rfl
theorem de_maxV (hc : X.calm = true) (hg : Gl X "max") (hm : X.mg "max" = none) (hd : DE X v0 eo o wo) (hbase : attributeBase o "values" X.env (eval o X.env) = eval o X.env := by rfl) (hline : (apos.endLine == mpos.line) = true := by rfl)
    (hse : starEach [Expr.Call (.Attribute o "values" apos) [] [] mpos] X.env = [(false, eval (Expr.Call (.Attribute o "values" apos) [] [] mpos) X.env)] := by rfl) :
    DE X v0 eo (.Call (.Name "max" p) [.Call (.Attribute o "values" apos) [] [] mpos] [] pos) (wMaxV wo) := by
  obtain ⟨td, p1, q1⟩ := hd
  refine ⟨_, pe_maxV hc hg hm p1 hbase hline hse, fun σ H ρ F S Qd Q h k => ?_⟩
  refine q1 σ H ρ F S _ _ h fun x H1 ρ1 F1 r G1 S1 s1 e1 r1 h1 => ?_
  obtain ⟨kvs, ns, hd, hk, hv, hne, hq⟩ := h1
  obtain ⟨kr, dr⟩ := r
  have hd : dr = .dict kvs := hd
  subst hd
  have rr : ∃ G, Rp X.K false H1 x (.dict kvs) G := ⟨_, r1.read⟩
  obtain ⟨G, rr⟩ := rr
  cases rr with
  | @dK a ks _ G' h1 h2 h3 =>
    rw [hv] at h3
    exact ⟨a, ks, ns, rfl, h1, vals_ints h3, hne, fun m hm hj => k (.int m) H1 ρ1 F1 _ [] S1 s1 e1 ((NewOk.pure (.int m)).res S1 s1) (hq m hm hj)⟩
  | dN h1 h2 h3 =>
    exfalso
    cases kvs with
    | nil => exact h2.2.2 rfl
    | cons kv kvs =>
      have := keysN_no h2 kv (.head _)
      rw [List.all_cons, this] at hk
      simp at hk
end
def rSortD (K : PySem.W.Frag) : List V → Hp → VK → Prop := fun xs H Q =>
  (∃ (a : Addr) (kvs : List (Key × V)) (ks : List Int), xs = [.ref a] ∧ Rd H a (.dK kvs) ∧ kvs.map (·.1) = ks.map Sum.inl ∧ ks.length < 64 ∧ ∀ (ys : List Int) (p : Addr), ys.Perm ks → ys.Pairwise (· ≤ ·) → H p = none → Q (.ref p) (upd H p (.lst (ys.map V.int)))) ∨ rSortedI K xs H Q
theorem call_sortD {X : Cx} (hc : X.calm = true) : CallR X (.builtin "sorted") (rSortD X.K) := CallR.or (call_sortedDI hc) cr_sortedI
theorem ints_rp {K : PySem.W.Frag} {m : Bool} {H : Hp} : ∀ ys : List Int, RpAll K m H (ys.map V.int) (ys.map PyData.int) []
  | [] => .nil
  | y :: ys => .cons (G1 := []) (G2 := []) (.int y) (ints_rp ys)
def wSort : List R → (R → Prop) → Prop
  | [r], Q => (match r.d with
    | .dict kvs => ∃ ks : List Int, kvs.map (·.1) = ks.map PyData.int ∧ kvs ≠ [] ∧ ks.length < 64 ∧ ∀ ys : List Int, ys.Perm ks → ys.Pairwise (· ≤ ·) → Q ⟨.own, .list (ys.map PyData.int)⟩
    | .list ds => ∃ ks : List Int, ds = ks.map PyData.int ∧ ∀ ys : List Int, ys.Perm ks → ys.Pairwise (· ≤ ·) → Q ⟨.own, .list (ys.map PyData.int)⟩
    | _ => False)
  | _, _ => False
theorem keys_int : ∀ {ks : List (Key × V)} {ns : List Int}, ns.map PyData.int = ks.map (fun p => keyD p.1) → ks.map (·.1) = ns.map Sum.inl
  | [], [], _ => rfl
  | [], _ :: _, e => by cases e
  | _ :: _, [], e => by cases e
  | (k, v) :: ks, n :: ns, e => by
    simp only [List.map_cons, List.cons.injEq] at e ⊢
    refine ⟨?_, keys_int e.2⟩
    cases k with
    | inl i =>
      have := e.1
      simp only [keyD, PyData.int.injEq] at this
      rw [this]
    | inr x =>
      have := e.1
      simp [keyD] at this
theorem cd_sort {K : PySem.W.Frag} : CD K (rSortD K) wSort := by
  intro N H xs rs A Qd Q hw k
  match rs, A, hw with
  | [⟨kd, d⟩], A, hw =>
    obtain ⟨x, rfl, ax⟩ := A.one
    unfold wSort at hw
    cases d <;> first | exact hw.elim | skip
    · rename_i ds
      obtain ⟨ks, hds, hq⟩ := hw
      obtain ⟨G, q, _⟩ := ax
      subst hds
      obtain ⟨a, xs, _, rfl, hs, ra, _⟩ := Rp.sql (show Rp K false H x (.list (ks.map PyData.int)) G from q)
      rw [vals_ints ra] at hs
      refine .inr ⟨a, ks, rfl, hs, fun ys p h1 h2 np => ?_⟩
      obtain ⟨G', n⟩ := new_list (N := N) np (ints_rp (K := K) (m := false) (H := H) ys)
      exact k _ _ _ G' (Ext.upd np) n (by rw [kOf_pur (purs_ints ys)]; exact hq ys h1 h2)
    · rename_i kvs
      obtain ⟨ks, hks, hne, hl, hq⟩ := hw
      obtain ⟨G, q, _⟩ := ax
      have q : Rp K false H x (.dict kvs) G := q
      cases q with
      | @dK a es _ G' h1 h2 h3 =>
        refine .inl ⟨a, es, ks, rfl, .inl h1, keys_int (by rw [← hks, h2]), hl, fun ys p e1 e2 np => ?_⟩
        obtain ⟨G', n⟩ := new_list (N := N) np (ints_rp (K := K) (m := false) (H := H) ys)
        exact k _ _ _ G' (Ext.upd np) n (by rw [kOf_pur (purs_ints ys)]; exact hq ys e1 e2)
      | dN h1 h2 h3 =>
        exfalso
        cases kvs with
        | nil => exact hne rfl
        | cons kv kvs =>
          cases ks with
          | nil => cases hks
          | cons j ks =>
            simp only [List.map_cons, List.cons.injEq] at hks
            have := keysN_no h2 kv (.head _)
            rw [hks.1] at this
            simp [keyOf] at this
end DL
namespace DL
open PySem PySem.Spec PyProof.Rows L2
abbrev WM := PyData → DEnv → (DEnv → Prop) → Prop
abbrev WMs := List PyData → DEnv → (DEnv → Prop) → Prop
def RM (K : PySem.W.Frag) (v0 : Cv) (g : TG) (w : WM) : Prop :=
  ∀ σ H ρ F d v, StOk K v0 σ H ρ F → pur d = true → Rp K true H v d [] → ∀ (Qd : DEnv → Prop) (Q : L2.St → Hp → Prop), w d ρ Qd →
    (∀ σ' H' ρ' F', StOk K v0 σ' H' ρ' F' → Step F H F' H' → Qd ρ' → Q σ' H') → g v σ H Q
def RMs (K : PySem.W.Frag) (v0 : Cv) (g : TGs) (w : WMs) : Prop :=
  ∀ σ H ρ F ds vs, StOk K v0 σ H ρ F → purs ds = true → RpAll K true H vs ds [] → ∀ (Qd : DEnv → Prop) (Q : L2.St → Hp → Prop), w ds ρ Qd →
    (∀ σ' H' ρ' F', StOk K v0 σ' H' ρ' F' → Step F H F' H' → Qd ρ' → Q σ' H') → g vs σ H Q
structure DM (X : Cx) (v0 : Cv) (tg : Expr) (w : WM) : Prop where
  ex : ∃ g, PG X tg g ∧ RM X.K v0 g w
structure DMs (X : Cx) (v0 : Cv) (tgs : List Expr) (w : WMs) : Prop where
  ex : ∃ g, PGs X tgs g ∧ RMs X.K v0 g w
section
variable {X : Cx} {v0 : Cv} {e o ie : Expr} {es : List Expr} {ea : Bool} {we wi : WE} {wp : WPl} {pos p2 : Pos} {i : Nat}
def wMName (i : Nat) : WM := fun d ρ Q => free ρ i ∧ Q (ρ.set i (some (P d)))
theorem dm_name (i : Nat) {x : Str} (hN : X.N.Nodup) (hi : X.N[i]? = some x := by rfl) (hx : Loc X.env.scope x := by first | exact Or.inl rfl | exact Or.inr rfl) (hf : X.fn x = true ∨ X.env.scope.names.lookup x = some .local := by first | exact .inl rfl | exact .inr rfl) :
    DM X v0 (.Name x pos) (wMName i) := by
  refine ⟨_, pg_name hN hi hx hf, fun σ H ρ F d v S hp rp Qd Q h k => ?_⟩
  have rp' : Rp X.K false H v d [] := Rp.weak _ _ _ rp
  have ro : ResOk X.K F H F H (P d) v [] := ⟨rp', fun _ z => nomatch z⟩
  have sp : Sep X.K σ H ρ F (fun _ => False) := fun j d w e1 e2 => by
    obtain ⟨v', h1, h2⟩ := S.slot j _ e1
    rw [e2] at h1
    cases h1
    obtain ⟨G, g1, g2⟩ := h2
    exact ⟨G, g1, g2, fun _ _ z => z⟩
  obtain ⟨r', F', hq, S', s', _, _⟩ := S.bind S.st Step.refl sp h.1 ro (fun z => by cases z) (fun _ _ z => nomatch z) (Qd := fun r' => r' = P d) (by unfold sld; rw [if_pos hp])
  subst hq
  exact k _ _ _ F' S' s' h.2
def wMSub (i : Nat) (wp : WPl) (wi : WE) : WM := fun d ρ Q => wp ρ fun p => wi ρ fun _ ri => match ri.d with
  | .int k => ∃ ds j, dAt ρ i p = some (.list ds) ∧ ixN ds.length k = some j ∧ Q (upP ρ i p (.list (ds.set j d)))
  | _ => False
theorem dm_sub (ho : DPl X v0 i o wp) (hi : DE X v0 false ie wi)
    (ha : ∀ v, assign (.Subscript o ie p2) X.env v = (do
      let ov ← holding [v] (eval o X.env)
      let iv ← holding [v, ov] (eval ie X.env)
      standAt p2
      holding [v, ov, iv] (setItem ov iv v)
      release [v, ov, iv] []) := by intro _; rfl) : DM X v0 (.Subscript o ie p2) (wMSub i wp wi) := by
  obtain ⟨t, p, q⟩ := ho
  obtain ⟨ti, pi, qi⟩ := hi
  refine ⟨_, pg_sub p pi set_list ha, fun σ H1 ρ F d x S1 hp rp Qd Q h1 kk => ?_⟩
  refine q σ H1 ρ F S1 _ _ h1 fun pp u v r H2 x2 hv hr hk va h2 => ?_
  refine qi σ H2 ρ F (S1.ext x2) _ _ h2 fun y H3 ρ3 F3 ry G3 S3 s3 e3 r3 h3 => ?_
  obtain ⟨q1, q2, x3⟩ := e3.non rfl
  subst q1
  subst q2
  obtain ⟨ky, dy⟩ := ry
  cases dy <;> first | exact h3.elim | skip
  rename_i k0
  have ry : Rp X.K false H3 y (.int k0) G3 := r3.read
  cases ry
  obtain ⟨ds, j, g1, g2, hq⟩ := h3
  have gp := getP_uniq g1 hr
  have va3 := va.ext x3
  obtain ⟨_, _, _, _, t1, _, t3, _⟩ := place va3 _ (S3.rp hv hr hk)
  rw [gp] at t1
  cases t1
  obtain ⟨a0, xs, G', rfl, ha0, ral, _⟩ := Rp.own' t3
  have ex : Ext H1 H3 := x2.trans x3
  have rp3 : Rp X.K true H3 x d [] := rp.keep ex.tu _ _ _ (ex.kp _)
  have sp : Sep X.K σ H3 ρ3 F3 fun b => b ∈ ([] : List Addr) := fun j d w e1 e2 => by
    obtain ⟨v', h1, h2⟩ := S3.slot j _ e1
    rw [e2] at h1
    cases h1
    obtain ⟨G, g1, g2⟩ := h2
    exact ⟨G, g1, g2, fun _ _ z => nomatch z⟩
  obtain ⟨F', S', s'⟩ := S3.mutL S1.st (Step.ext ex) sp hv hr hk va3 gp ha0 (ys := xs.set j x) (es := ds.set j d) (fun b hb => nomatch hb) fun G' g nd sub =>
    g.set1 nd (fun b hb z => nomatch z) List.nodup_nil rp3
  refine ⟨a0, xs, k0, j, rfl, rfl, ha0, by rw [ral.length]; exact g2, kk _ _ _ F' S' s' ?_⟩
  rw [upP_of hr] at hq
  exact hq
def wMNil : WMs := fun ds ρ Q => ds = [] ∧ Q ρ
def wMCons (t : WM) (u : WMs) : WMs := fun ds ρ Q => ∃ d r, ds = d :: r ∧ t d ρ fun ρ1 => u r ρ1 Q
theorem dms_nil : DMs X v0 [] wMNil := by
  refine ⟨_, pgs_nil, fun σ H ρ F ds vs S hp rp Qd Q h k => ?_⟩
  obtain ⟨rfl, h⟩ := h
  cases rp
  exact ⟨rfl, k _ _ _ _ S Step.refl h⟩
theorem dms_cons {wg : WM} {ws : WMs} (h1 : DM X v0 e wg) (h2 : DMs X v0 es ws) (hs : (assignEach (e :: es) X.env).map (·.2) = assign e X.env :: (assignEach es X.env).map (·.2) := by rfl) : DMs X v0 (e :: es) (wMCons wg ws) := by
  obtain ⟨g, p, q⟩ := h1
  obtain ⟨g', p', q'⟩ := h2
  refine ⟨_, pgs_cons p p' hs, fun σ H ρ F ds vs S hp rp Qd Q h k => ?_⟩
  obtain ⟨d, r, rfl, h⟩ := h
  simp only [purs, Bool.and_eq_true] at hp
  obtain ⟨v, vs', G1, G2, rfl, r1, r2, e0⟩ : ∃ v vs' G1 G2, vs = v :: vs' ∧ Rp X.K true H v d G1 ∧ RpAll X.K true H vs' r G2 ∧ [] = G1 ++ G2 := by
    obtain ⟨G, rp', hG⟩ : ∃ G, RpAll X.K true H vs (d :: r) G ∧ G = [] := ⟨[], rp, rfl⟩
    cases rp' with
    | cons r1 r2 => exact ⟨_, _, _, _, rfl, r1, r2, hG.symm⟩
  obtain ⟨rfl, rfl⟩ := List.append_eq_nil_iff.mp e0.symm
  refine ⟨v, vs', rfl, q σ H ρ F d v S hp.1 r1 _ _ h fun σ1 H1 ρ1 F1 S1 s1 h1 => ?_⟩
  exact q' σ1 H1 ρ1 F1 r vs' S1 hp.2 (r2.keep s1.tups _ _ _ fun a z => nomatch z) _ _ h1 fun σ2 H2 ρ2 F2 S2 s2 h2 => k _ _ _ _ S2 (s1.trans s2) h2
def wMTup (n : Nat) (u : WMs) : WM := fun d ρ Q => match d with
  | .tuple ds => ds.length = n ∧ u ds ρ Q
  | _ => False
theorem dm_tup {k0 : Nat} {n : Nat} {ws : WMs} (hc : X.calm = true) (h : DMs X v0 es ws) (hn : (assignEach es X.env).length = n := by rfl) (hst : (assignEach es X.env).findIdx? (·.1) = none := by rfl) : DM X v0 (.Tuple es k0 pos) (wMTup n ws) := by
  obtain ⟨g, p, q⟩ := h
  refine ⟨_, pg_tup hc p hn hst, fun σ H ρ F d v S hp rp Qd Q h k => ?_⟩
  unfold wMTup at h
  cases d with
  | tuple ds =>
    obtain ⟨hl, h⟩ := h
    obtain ⟨a, xs, rfl, hs, ra⟩ := rp.sqt
    exact ⟨a, xs, rfl, hs, by rw [ra.length]; exact hl, q σ H ρ F ds xs S (by simpa [pur] using hp) ra _ _ h k⟩
  | _ => exact h.elim
/-- target = value, the value plain data -/
def wAsgM (we : WE) (w : WM) : WS := fun D ρ => we ρ fun ρ1 r => pur r.d = true ∧ w r.d ρ1 D.nx
theorem ds_asgM {tg : Expr} {wg : WM} (he : DE X v0 ea e we) (hg : DM X v0 tg wg) (hs : swapsWithSole [tg] e pos.line X.env = pure false := by rfl) (hw : swappedStores [tg] e X.env = pure none := by rfl)
    (h1 : (assignEach [tg] X.env).map (·.2) = [assign tg X.env] := by rfl) : DS X v0 (.Assign [tg] e pos) (wAsgM we wg) := by
  obtain ⟨t, p, q⟩ := he
  obtain ⟨g, p', q'⟩ := hg
  refine ⟨_, ps_asg p p' hs hw h1, fun σ H ρ F S Dd D ends h => ?_⟩
  refine q σ H ρ F S _ _ h fun x H1 ρ1 F1 r G S1 s1 e1 r1 h1 => ?_
  obtain ⟨hp, h1⟩ := h1
  obtain ⟨_, rp⟩ := Rp.pure' (m' := true) _ _ _ r1.read hp
  exact q' σ H1 ρ1 F1 r.d x S1 hp rp _ _ h1 fun σ' H' ρ' F' S' s' h' => ends.nx _ _ _ _ S' (s1.trans s') h'
end
theorem wMCons_cons {t : WM} {u : WMs} {d : PyData} {r : List PyData} {ρ : DEnv} {Q : DEnv → Prop} : wMCons t u (d :: r) ρ Q = t d ρ fun ρ1 => u r ρ1 Q :=
  propext ⟨fun ⟨_, _, e, h⟩ => by cases e; exact h, fun h => ⟨_, _, rfl, h⟩⟩
theorem wMNil_nil {ρ : DEnv} {Q : DEnv → Prop} : wMNil [] ρ Q = Q ρ := propext ⟨fun h => h.2, fun h => ⟨rfl, h⟩⟩
end DL
namespace DL
open PySem PySem.Spec PyProof.Rows L2
section
variable {prog : Program} {w : World} {A : Around} {E : Value → Shared → Prop} {s : Shared} {l : Addr} {its : List Value} {ns : List Int} {Q : Value → Shared → Prop}
theorem sumT_raw (hh : A.handled = none) (hl : s.heap.IsTuple l its.toArray) (hi : IntsAre its ns)
    (h : ∀ h' tk t', (∀ b o, s.heap.get? b = some o → h'.get? b = some o) → Q (.int ns.sum t') { s with heap := h', toks := tk }) : wpAny (model prog w) A (call (.builtin "sum") [.ref l]) Q E s := by
  obtain ⟨xs, e⟩ := hi.allInts.items
  have hn : numsOf (intItems xs).toList = ns := by rw [← e]; exact hi.numsOf
  rw [nums_intItems] at hn
  rw [e] at hl
  have hlt : l < s.heap.objs.size := by obtain ⟨_, e, _⟩ := id hl; exact Heap.lt_size e
  refine PySem.call_sum_walkG (wpAny_pyIter_tuple hl ?_)
  refine ⟨s.heap.objs.size, [s.heap.objs.size, l], [s.heap.objs.size], _, _, _, numAt xs, rfl, Walks.tuple (A := A.in1) hh _ l (Nat.ne_of_lt hlt) (intItems xs), ⟨⟨_, Heap.get?_push_size _ rfl, rfl, rfl⟩, hl.at fun o e => Heap.get?_push_of_some _ e⟩, fun b hb => ?_, (fun _ _ => intItems_at), fun h' tk t' hk => ?_⟩
  · show b < (s.heap.push _).objs.size
    rw [Heap.size_push]
    rcases List.mem_cons.mp hb with rfl | hb
    · exact Nat.lt_succ_self _
    · rw [List.mem_singleton.mp hb]; exact Nat.lt_succ_of_lt hlt
  · have := h h' tk t' fun b o e => hk b o (fun z => Nat.ne_of_lt (Heap.lt_size e) (List.mem_singleton.mp z)) (Heap.get?_push_of_some _ e)
    rw [preSum_eq, List.take_of_length_le (by simp [intItems]), hn]
    exact this
end
def rSumT (K : PySem.W.Frag) : List V → Hp → VK → Prop := fun vs H Q => ∃ (a : Addr) (ns : List Int), vs = [V.ref a] ∧ SqT K H a (ns.map V.int) ∧ Q (.int ns.sum) H
theorem call_sumT {X : Cx} (hc : X.calm = true) : CallR X (.builtin "sum") (rSumT X.K) := by
  intro pins s σ H vs us Q I r h
  obtain ⟨a, ns, rfl, hs, q⟩ := h
  obtain ⟨its, rv, hl, _⟩ := I.tuple hs
  rw [Vals.ref1 r]
  exact sumT_raw (I.ok.hd hc) hl rv.ints fun h' tk t' hk => ⟨.int _, H, I.kept hk, ⟨_, rfl⟩, q⟩
def rSumA (K : PySem.W.Frag) : List V → Hp → VK → Prop := fun xs H Q => rSum K xs H Q ∨ rSumT K xs H Q
theorem call_sumA {X : Cx} (hc : X.calm = true) : CallR X (.builtin "sum") (rSumA X.K) := CallR.or (cr_sum hc) (call_sumT hc)
def wSumA : List R → (R → Prop) → Prop
  | [r], Q => (match r.d with
    | .list ds => ∃ ns : List Int, ds = ns.map PyData.int ∧ Q (P (.int ns.sum))
    | .tuple ds => ∃ ns : List Int, ds = ns.map PyData.int ∧ Q (P (.int ns.sum))
    | _ => False)
  | _, _ => False
theorem cd_sumA {K : PySem.W.Frag} : CD K (rSumA K) wSumA := by
  intro N H xs rs A Qd Q hw k
  match rs, A, hw with
  | [⟨kd, d⟩], A, hw =>
    obtain ⟨x, rfl, ax⟩ := A.one
    unfold wSumA at hw
    cases d <;> first | exact hw.elim | skip
    · rename_i ds
      obtain ⟨ns, rfl, q⟩ := hw
      obtain ⟨G, qx, _⟩ := ax
      obtain ⟨a, xs, _, rfl, hs, ra, _⟩ := Rp.sql (show Rp K false H x (.list (ns.map PyData.int)) G from qx)
      rw [rpall_ints ra] at hs
      exact .inl ⟨a, ns, rfl, hs, k _ H _ [] Ext.refl (NewOk.pure (.int _)) q⟩
    · rename_i ds
      obtain ⟨ns, rfl, q⟩ := hw
      obtain ⟨G, qx, _⟩ := ax
      obtain ⟨a, xs, rfl, hs, ra⟩ := Rp.sqt (show Rp K false H x (.tuple (ns.map PyData.int)) G from qx)
      rw [rpall_ints ra] at hs
      exact .inr ⟨a, ns, rfl, hs, k _ H _ [] Ext.refl (NewOk.pure (.int _)) q⟩
theorem wSumA_l {k : Kd} {ds : List PyData} {Q : R → Prop} : wSumA [⟨k, .list ds⟩] Q = ∃ ns : List Int, ds = ns.map PyData.int ∧ Q (P (.int ns.sum)) := rfl
theorem wSumA_t {k : Kd} {ds : List PyData} {Q : R → Prop} : wSumA [⟨k, .tuple ds⟩] Q = ∃ ns : List Int, ds = ns.map PyData.int ∧ Q (P (.int ns.sum)) := rfl
end DL
namespace DL
open PySem PySem.Spec PyProof.Rows L2
def phF (G : List Addr) (X : Nat → Bool) (F : Nat → List Addr) : Nat → List Addr := fun i => if i = 0 then G else if i < big then [] else if X (i - big) = true then [] else F (i - big)
theorem big_pos : 0 < big := by decide +kernel
section
variable {G : List Addr} {X : Nat → Bool} {F : Nat → List Addr}
theorem phF_big {k : Nat} (h : X k = false) : phF G X F (big + k) = F k := by
  unfold phF
  rw [if_neg (by have := big_pos; omega), if_neg (by omega), Nat.add_sub_cancel_left, if_neg (by rw [h]; exact Bool.false_ne_true)]
theorem phF_own {b : Addr} (h : Own (phF G X F) b) : b ∈ G ∨ ∃ k, X k = false ∧ b ∈ F k := by
  obtain ⟨i, z⟩ := h
  unfold phF at z
  split at z
  · exact .inl z
  · split at z
    · cases z
    · split at z
      · cases z
      · rename_i h
        exact .inr ⟨_, by simpa using h, z⟩
theorem phF_nd (hG : G.Nodup) (hF : ∀ i, (F i).Nodup) (i : Nat) : (phF G X F i).Nodup := by
  unfold phF
  split
  · exact hG
  · split
    · exact List.nodup_nil
    · split
      · exact List.nodup_nil
      · exact hF _
theorem phF_dj (hd : ∀ b k, X k = false → b ∈ G → b ∉ F k) (hF : ∀ i j a, a ∈ F i → a ∈ F j → i = j) (i j : Nat) (a : Addr) (h1 : a ∈ phF G X F i) (h2 : a ∈ phF G X F j) : i = j := by
  unfold phF at h1 h2
  split at h1
  · split at h2
    · rename_i a b
      rw [a, b]
    · split at h2
      · cases h2
      · split at h2
        · cases h2
        · rename_i z
          exact absurd h2 (hd a _ (by simpa using z) h1)
  · split at h1
    · cases h1
    · rename_i hi
      split at h1
      · cases h1
      · rename_i z
        split at h2
        · exact absurd h1 (hd a _ (by simpa using z) h2)
        · split at h2
          · cases h2
          · rename_i hj
            split at h2
            · cases h2
            · have := hF _ _ a h1 h2
              omega
end
def cvS (r : R) : R := if pur r.d = true then P r.d else match r.k with
  | .own => r
  | .shr => r
  | _ => ⟨.als, r.d⟩
section
variable {K : PySem.W.Frag} {H : Hp} {vs : List V} {rs : List R} {G : List Addr} {F0 : Nat → List Addr}
theorem args_ph (h : RpAll K false H vs (rs.map (·.d)) G) (g : ∀ a ∈ G, ¬ Own F0 a) (nd : ∀ i, (F0 i).Nodup) (dj : ∀ i j a, a ∈ F0 i → a ∈ F0 j → i = j) (lv : ∀ a, Own F0 a → H a ≠ none) (hsm : vs.length ≤ big) : StOk K (cv0 (vs.map some) F0 H) (vs.map some) H ((rs.map fun r => P r.d).map some) F0 where
  slot := fun i r e => by
    rw [List.getElem?_map] at e
    cases e1 : (rs.map fun r => P r.d)[i]? with
    | none => rw [e1] at e; cases e
    | some r1 =>
      rw [e1] at e
      cases e
      obtain ⟨v, G', h1, h2, h3, h4⟩ := read_list h i r e1
      refine ⟨v, by simp [h1], ?_⟩
      obtain ⟨kd, d⟩ := r
      cases h2
      exact ⟨G', h3, fun a ha z => g a (h4 a ha) z⟩
  nd := nd
  dj := dj
  live := lv
  st := Step.refl
  len := by
    have := h.length
    simp at this ⊢
    omega
  sm := by simpa using hsm
theorem cvS_ok {F0 F' F F1 : Nat → List Addr} {H0 H1 H' : Hp} {r : R} {v : V} (ro : ResOk K F0 H1 F' H' r v G) (hown : r.k = .own → (∀ a ∈ G, ¬ Own F1 a) ∧ ∀ a ∈ G, Own F a ∨ H0 a = none) (hshr : r.k = .shr → ∀ a ∈ G, ¬ Own F1 a) : ∃ G', ResOk K F H0 F1 H' (cvS r) v G' := by
  unfold cvS
  by_cases hp : pur r.d = true
  · rw [if_pos hp]
    exact ⟨[], (Rp.pure' _ _ _ ro.read hp).2, fun _ i => nomatch i⟩
  · rw [if_neg hp]
    have rd := ro.read
    obtain ⟨kd, d⟩ := r
    cases kd with
    | own =>
      obtain ⟨q, nd, n, o⟩ := ro
      exact ⟨G, q, nd, hown rfl⟩
    | shr => exact ⟨G, rd, hshr rfl⟩
    | als => exact ⟨G, rd⟩
    | fix => exact ro.elim
end
section
variable {X : Cx} {v0 : Cv} {k : Nat} {f : Addr} {fd : FuncData} {ps ks : List Str} {c : Ct} {x y : Str} {p p1 pos : Pos} {e : Expr} {es : List Expr} {kws : List Keyword} {ea : Bool} {wr : WA} {tr : TA}
/-- a call that changes nothing of ours, none of its arguments an alias -/
def wFnS (c : Ct) (wr : WA) : WE := fun ρ Q => wr ρ fun ρ1 rs => rs.all stb = true ∧ c.sd (rs.map fun r => P r.d) fun _ r => Q ρ1 (cvS r)
theorem re_fnS {n : Nat} (hn : ∀ a, (c.args a).length = n) (hsm : n ≤ big) (ha : RG X.K v0 ea tr wr) : RE X.K v0 ea (tCall (spD X.K n c) [] E0 tr) (wFnS c wr) := by
  intro σ H ρ F S Qd Q h k
  refine ha σ H ρ F S _ _ h fun vs H1 ρ1 F1 rs S1 s1 e1 A h1 => ?_
  rw [List.append_nil]
  obtain ⟨hst, h1⟩ := h1
  obtain ⟨G0, rp, g0⟩ := A.all.shr hst
  obtain ⟨a, ea, hpre, hpost⟩ := h1
  have hvl := rp.length
  have hal := congrArg List.length ea
  rw [hn, List.length_map] at hal
  have hvs : vs.length ≤ big := by rw [hvl, List.length_map, hal]; exact hsm
  have own0 : ∀ b, Own (phF [] (fun _ => false) F1) b → Own F1 b := fun b z => by
    rcases phF_own z with z | ⟨k, _, z⟩
    · cases z
    · exact ⟨k, z⟩
  refine ⟨by rw [hvl, List.length_map]; exact hal, _, phF [] (fun _ => false) F1, args_ph rp (fun b hb z => g0 b hb (own0 b z)) (phF_nd List.nodup_nil S1.nd) (phF_dj (fun _ _ _ z => nomatch z) S1.dj) (fun b z => S1.live b (own0 b z)) hvs, fun r hr => ?_, a, ea, hpre, fun ρ' r hp v σ' H' F' G S' s' ro => ?_⟩
  · obtain ⟨r0, _, rfl⟩ := List.mem_map.mp hr
    exact .inl rfl
  · have ex : Ext H1 H' := fun b o hb => by
      by_cases z : Own F1 b
      · obtain ⟨k, z⟩ := z
        exact s'.pk (big + k) (by omega) b (by rw [phF_big rfl]; exact z) o hb
      · exact s'.keep b o hb fun y => z (own0 b y)
    have up : ∀ b, Own F1 b → Own F' b := fun b ⟨k, z⟩ => ⟨big + k, by rw [s'.per (big + k) (by omega), phF_big rfl]; exact z⟩
    obtain ⟨G', ro'⟩ := cvS_ok (F := F) (F1 := F1) (H0 := H) ro (fun hk => by
      obtain ⟨kd, d⟩ := r
      cases hk
      obtain ⟨q, nd, n, o⟩ := ro
      refine ⟨fun b hb z => n b hb (up b z), fun b hb => ?_⟩
      rcases o b hb with y | y
      · exact absurd (up b (own0 b y)) (n b hb)
      · exact s1.none_of y) (fun hk => by
      obtain ⟨kd, d⟩ := r
      cases hk
      exact fun b hb z => ro.2 b hb (up b z))
    exact k v H' ρ1 F1 (cvS r) G' (S1.ext ex) (s1.trans (Step.ext ex)) (e1.ext ex) ro' (hpost ρ' r hp)
theorem de_callS (C : Fx X.prog X.w X.K X.mg X.base x f fd ps k c) (hgd : X.A.guards = some []) (hr : Room k X.A) (ha : DG X v0 ea (e :: es) wr) (hg : Gl X x := by rfl)
    (hdb : (x == ("__debug__" : Str)) = false := by decide) (he : starEach (e :: es) X.env = (false, eval e X.env) :: starEach es X.env := by rfl) (hpl : (backTo pos (starEach es X.env)).any (·.1) = false := by rfl) : DE X v0 ea (.Call (.Name x p) (e :: es) [] pos) (wFnS c wr) := by
  obtain ⟨t, pa, q⟩ := ha
  exact ⟨_, pe_callG C.F.fn hgd hr hg C.m C.kp C.bd pass0 pa hdb he hpl, re_fnS C.F.len C.F.sm q⟩
/-- a call whose first argument, what stands in the slot j, is lent; shared results stay shared -/
def wFnMS (c : Ct) (j : Nat) (wr : WA) : WE := fun ρ Q => (∃ r, ρ[j]? = some (some r)) ∧ wr ρ fun ρ1 rs => rs.all stb = true ∧ match ρ1[j]? with
  | some (some ⟨.own, d⟩) => c.sd (⟨.fix, d⟩ :: rs.map fun r => P r.d) fun ρ' r => ∃ d', ρ'[0]? = some (some (R.mk .fix d')) ∧ Q (ρ1.set j (some ⟨.own, d'⟩)) (cvS r)
  | some (some ⟨.fix, d⟩) => c.sd (⟨.fix, d⟩ :: rs.map fun r => P r.d) fun ρ' r => ∃ d', ρ'[0]? = some (some (R.mk .fix d')) ∧ Q (ρ1.set j (some ⟨.fix, d'⟩)) (cvS r)
  | _ => False
theorem re_fnMS {n : Nat} (j : Nat) (hn : ∀ a, (c.args a).length = n) (hsm : n ≤ big) (ha : RG X.K v0 ea tr wr) : RE X.K v0 true (tCall (spD X.K n c) [] E0 (tCons (tVar j) tr)) (wFnMS c j wr) := by
  intro σ H ρ F S Qd Q h k
  obtain ⟨⟨r0, e0⟩, h⟩ := h
  obtain ⟨v, ev, _⟩ := S.slot j r0 e0
  refine ⟨v, ev, ha σ H ρ F S _ _ h fun vs H1 ρ1 F1 rs S1 s1 e1 A h1 => ?_⟩
  show spD X.K n c ((v :: vs) ++ []) H1 Q E0
  rw [List.append_nil]
  obtain ⟨hst, h1⟩ := h1
  obtain ⟨G0, rp, g0⟩ := A.all.shr hst
  have hvl := rp.length
  rw [List.length_map] at hvl
  have core : ∀ (kj : Kd) (d : PyData), kj = .own ∨ kj = .fix → ρ1[j]? = some (some ⟨kj, d⟩) → Rp X.K true H1 v d (F1 j) →
      (c.sd (⟨.fix, d⟩ :: rs.map fun r => P r.d) fun ρ' r => ∃ d', ρ'[0]? = some (some (R.mk .fix d')) ∧ Qd (ρ1.set j (some ⟨kj, d'⟩)) (cvS r)) →
      spD X.K n c (v :: vs) H1 Q E0 := by
    intro kj d hkj ej rpj hsd
    obtain ⟨a, ea', hpre, hpost⟩ := hsd
    have hal := congrArg List.length ea'
    rw [hn, List.length_cons, List.length_map] at hal
    have hjl : j < ρ1.length := (List.getElem?_eq_some_iff.mp ej).1
    have hjb : j < big := S1.ilt ej
    have Xj : ∀ k, k ≠ j → (fun k => k == j) k = false := fun k h => by simpa using h
    have own0 : ∀ b, Own (phF (F1 j) (fun k => k == j) F1) b → Own F1 b := fun b z => by
      rcases phF_own z with z | ⟨k, _, z⟩
      · exact ⟨j, z⟩
      · exact ⟨k, z⟩
    have st : StOk X.K (cv0 ((v :: vs).map some) (phF (F1 j) (fun k => k == j) F1) H1) ((v :: vs).map some) H1 ((R.mk .fix d :: rs.map fun r => P r.d).map some) (phF (F1 j) (fun k => k == j) F1) := by
      refine ⟨fun i r e => ?_, phF_nd (S1.nd j) S1.nd, phF_dj (fun b k hk hb z => ?_) S1.dj, fun b z => S1.live b (own0 b z), by simp [hvl], by simp only [List.length_map, List.length_cons, hvl]; omega, Step.refl⟩
      · cases i with
        | zero =>
          simp at e
          subst e
          exact ⟨v, rfl, by simpa [phF] using rpj, rfl⟩
        | succ i =>
          have e' : (rs.map fun r => P r.d)[i]? = some r := by
            rw [List.map_cons, List.getElem?_cons_succ, List.getElem?_map] at e
            cases q : (rs.map fun r => P r.d)[i]? with
            | none => rw [q] at e; cases e
            | some r1 => rw [q] at e; cases e; rfl
          obtain ⟨w, G', w1, w2, w3, w4⟩ := read_list rp i r e'
          refine ⟨w, by simp [w1], ?_⟩
          obtain ⟨kd, d1⟩ := r
          cases w2
          exact ⟨G', w3, fun b hb z => g0 b (w4 b hb) (own0 b z)⟩
      · have := S1.dj j k b hb z
        subst this
        simp at hk
    refine ⟨by rw [List.length_cons, hvl]; exact hal, _, _, st, fun r hr => ?_, a, ea', hpre, fun ρ' r hp w σ' H' F' G S' s' ro => ?_⟩
    · rcases List.mem_cons.mp hr with rfl | hr
      · exact .inr rfl
      · obtain ⟨r1, _, rfl⟩ := List.mem_map.mp hr
        exact .inl rfl
    · obtain ⟨d', f0, hq⟩ := hpost ρ' r hp
      obtain ⟨w0, g1, g2⟩ := S'.slot 0 _ f0
      have hw0 : w0 = v := by
        have z := g2.2
        simp at z
        exact z.symm
      subst hw0
      have gq : Rp X.K true H' w0 d' (F' 0) := g2.1
      have perK : ∀ k, k ≠ j → F' (big + k) = F1 k := fun k hk => by rw [s'.per (big + k) (by omega), phF_big (X := fun k => k == j) (k := k) (by simpa using hk)]
      -- the caller's state behind the call
      have keepO : ∀ b o, H1 b = some o → ¬ (b ∈ F1 j) → H' b = some o := fun b o hb nb => by
        by_cases z : ∃ k, k ≠ j ∧ b ∈ F1 k
        · obtain ⟨k, hk, z⟩ := z
          exact s'.pk (big + k) (by omega) b (by rw [phF_big (X := fun k => k == j) (k := k) (by simpa using hk)]; exact z) o hb
        · refine s'.keep b o hb fun y => ?_
          rcases phF_own y with y | ⟨k, hk, y⟩
          · exact nb y
          · exact z ⟨k, by simpa using hk, y⟩
      have nF : ∀ b, b ∈ F' 0 → b ∈ F1 j ∨ H1 b = none := fun b hb => by
        rcases s'.own b ⟨0, hb⟩ with y | y
        · rcases phF_own y with y | ⟨k, hk, y⟩
          · exact .inl y
          · have hk : k ≠ j := by simpa using hk
            have e := S'.dj 0 (big + k) b hb (by rw [perK k hk]; exact y)
            have := big_pos
            omega
        · exact .inr y
      have own2 : ∀ b, Own (sF F1 j (F' 0)) b → Own F1 b ∨ H1 b = none := fun b z => by
        rcases sF_own z with z | z
        · exact .inl z
        · exact (nF b z).imp (fun z => ⟨j, z⟩) id
      have up2 : ∀ b, Own (sF F1 j (F' 0)) b → Own F' b := fun b ⟨i, z⟩ => by
        unfold sF at z
        split at z
        · exact ⟨0, z⟩
        · rename_i hi
          exact ⟨big + i, by rw [perK i hi]; exact z⟩
      have s2 : Step F1 H1 (sF F1 j (F' 0)) H' := ⟨fun b o hb nb => keepO b o hb fun z => nb ⟨j, z⟩, own2, s'.tups, fun l hl => sF_big hjb l hl, fun l hl b hb o ho => keepO b o ho fun z => Nat.lt_irrefl _ (Nat.lt_of_lt_of_le (S1.dj l j b hb z ▸ hjb) hl)⟩
      have S2 : StOk X.K v0 σ H' (ρ1.set j (some ⟨kj, d'⟩)) (sF F1 j (F' 0)) := by
        refine ⟨fun i r e => ?_, fun i => ?_, fun i l b z1 z2 => ?_, fun b z => ?_, by simp [S1.len], S1.sm, S1.st.trans s2⟩
        · by_cases hi : i = j
          · subst hi
            rw [List.getElem?_set_self hjl] at e
            cases e
            refine ⟨w0, ev, ?_⟩
            have gg : Rp X.K true H' w0 d' (sF F1 i (F' 0) i) := by
              unfold sF
              rw [if_pos rfl]
              exact gq
            rcases hkj with rfl | rfl
            · exact gg
            · refine ⟨gg, ?_⟩
              obtain ⟨w1, x1, x2⟩ := S1.slot i _ ej
              rw [ev] at x1
              cases x1
              exact x2.2
          · rw [List.getElem?_set_ne (Ne.symm hi)] at e
            obtain ⟨w1, x1, so⟩ := S1.slot i r e
            refine ⟨w1, x1, ?_⟩
            have hF : sF F1 j (F' 0) i = F1 i := by unfold sF; rw [if_neg hi]
            have tuO : Tu H1 H' := s'.tups
            have carO : ∀ {dd : PyData}, Rp X.K true H1 w1 dd (F1 i) → Rp X.K true H' w1 dd (sF F1 j (F' 0) i) := fun {dd} q => by
              rw [hF]
              exact q.keep tuO _ _ _ fun b hb o ho => keepO b o ho fun z => hi (S1.dj i j b hb z)
            obtain ⟨k1, d1⟩ := r
            cases k1 with
            | shr =>
              obtain ⟨G1, y1, y2⟩ := so
              refine ⟨G1, y1.keep tuO _ _ _ fun b hb o ho => keepO b o ho fun z => y2 b hb ⟨j, z⟩, fun b hb z => ?_⟩
              rcases own2 b z with z | z
              · exact y2 b hb z
              · exact y1.live _ _ _ b hb z
            | own => exact carO so
            | fix => exact ⟨carO so.1, so.2⟩
            | als => exact so
        · unfold sF
          split
          · exact S'.nd 0
          · exact S1.nd i
        · unfold sF at z1 z2
          split at z1 <;> split at z2
          · rename_i a1 a2
            rw [a1, a2]
          · rename_i a1 a2
            rcases nF b z1 with z | z
            · exact absurd (S1.dj j l b z z2).symm a2
            · exact absurd z (S1.live b ⟨l, z2⟩)
          · rename_i a1 a2
            rcases nF b z2 with z | z
            · exact absurd (S1.dj j i b z z1).symm a1
            · exact absurd z (S1.live b ⟨i, z1⟩)
          · exact S1.dj i l b z1 z2
        · exact S'.live b (up2 b z)
      obtain ⟨G', ro'⟩ := cvS_ok (F := F) (F1 := sF F1 j (F' 0)) (H0 := H) ro (fun hk => by
        obtain ⟨kd, dd⟩ := r
        cases hk
        obtain ⟨q, nd, nn, o⟩ := ro
        refine ⟨fun b hb z => nn b hb (up2 b z), fun b hb => ?_⟩
        rcases o b hb with y | y
        · rcases phF_own y with y | ⟨k, hk, y⟩
          · exact s1.own b ⟨j, y⟩
          · exact absurd ⟨big + k, by rw [perK k (by simpa using hk)]; exact y⟩ (nn b hb)
        · exact s1.none_of y) (fun hk => by
        obtain ⟨kd, dd⟩ := r
        cases hk
        exact fun b hb z => ro.2 b hb (up2 b z))
      refine k w H' _ _ (cvS r) G' S2 (s1.trans s2) ⟨fun l dd e => ?_, fun z => by cases z⟩ ro' hq
      by_cases hl : l = j
      · subst hl
        rw [List.getElem?_set_self hjl] at e
        rcases hkj with rfl | rfl <;> cases e
      · rw [List.getElem?_set_ne (Ne.symm hl)] at e
        exact e1.shr l dd e
  split at h1
  · rename_i d ej
    obtain ⟨w, x1, so⟩ := S1.slot j _ ej
    rw [ev] at x1
    cases x1
    exact core .own d (.inl rfl) ej so h1
  · rename_i d ej
    obtain ⟨w, x1, so⟩ := S1.slot j _ ej
    rw [ev] at x1
    cases x1
    exact core .fix d (.inr rfl) ej so.1 h1
  · exact h1.elim
theorem de_callMS (j : Nat) (C : Fx X.prog X.w X.K X.mg X.base x f fd ps k c) (hgd : X.A.guards = some []) (hr : Room k X.A) (ha : DG X v0 ea es wr) (hg : Gl X x := by rfl)
    (hN : X.N[j]? = some y := by rfl) (hv : Vis X.env.scope y := by first | exact Or.inl rfl | exact Or.inr (Or.inl rfl) | exact Or.inr (Or.inr rfl)) (hd : (y == ("__debug__" : Str)) = false := by decide) (hcd : (y == ("__classdict__" : Str)) = false := by decide)
    (hdb : (x == ("__debug__" : Str)) = false := by decide) (he : starEach (.Name y p1 :: es) X.env = (false, eval (.Name y p1) X.env) :: starEach es X.env := by rfl) (hpl : (backTo pos (starEach es X.env)).any (·.1) = false := by rfl) :
    DE X v0 true (.Call (.Name x p) (.Name y p1 :: es) [] pos) (wFnMS c j wr) := by
  obtain ⟨t, pa, q⟩ := ha
  exact ⟨_, pe_callG C.F.fn hgd hr hg C.m C.kp C.bd pass0 (pa_cons (pe_var hN hv hd hcd) pa he) hdb he hpl, re_fnMS j C.F.len C.F.sm q⟩
end
end DL
namespace DL
open PySem PySem.Spec PyProof.Rows L2
mutual
/-- all dicts have ints and texts as keys -/
def kpl : PyData → Bool
  | .none => true
  | .bool _ => true
  | .int _ => true
  | .str _ => true
  | .list xs => kpls xs
  | .tuple xs => kpls xs
  | .dict kvs => (kvs.all fun kv => (keyOf kv.1).isSome) && kplv kvs
def kpls : List PyData → Bool
  | [] => true
  | x :: xs => kpl x && kpls xs
def kplv : List (PyData × PyData) → Bool
  | [] => true
  | (_, v) :: r => kpl v && kplv r
end
theorem kplv_map : ∀ kvs : List (PyData × PyData), kplv kvs = kpls (kvs.map (·.2))
  | [] => by simp [kplv, kpls]
  | (k, v) :: r => by simp [kplv, kpls, kplv_map r]
section
variable {prog : Program} {w : World} {h : Heap} {p : Addr} {ob : Obj} {n : Nat}
/-- a node of a tree: how it is shown, alone and within -/
def Shown (prog : Program) (w : World) (h : Heap) (u : Value) (d : PyData) : Prop := d.showable = true → d.shown.length ≤ sizeLine → ∃ cs, ReadAtMost h d.depth cs ∧ ReprK prog w cs h d.depth u d.shown
def ShownAll (prog : Program) (w : World) (h : Heap) (us : List Value) (ds : List PyData) : Prop := PyData.showableAll ds = true → (∀ t ∈ PyData.shownAll ds, t.length ≤ sizeLine) → ∃ cs, ReadAtMost h (PyData.depthAll ds) cs ∧ ReprAllK prog w cs h (PyData.depthAll ds) us (PyData.shownAll ds)
theorem nd_list {its : List Value} {ds : List PyData} {as : List Addr} (e1 : h.get? p = some ob) (e2 : ob.cls = .type "list") (e3 : ob.data = .seq its.toArray n) (rd : ReadsAll h its ds as) (ih : ShownAll prog w h its ds) :
    Shown prog w h (.ref p) (.list ds) ∧ ((PyData.list ds).showable = true → (PyData.list ds).shown.length ≤ sizeLine → ∃ T idr, ShowsBy prog w h p (.list ds) T idr) := by
  have top : Reads h (.ref p) (.list ds) _ := Reads.list e1 e2 e3 rd
  have kids : (PyData.list ds).showable = true → (PyData.list ds).shown.length ≤ sizeLine → ∃ cs, ReadAtMost h (PyData.depthAll ds) cs ∧ ReprAllK prog w cs h (PyData.depthAll ds) its (PyData.shownAll ds) ∧ p ∉ cs := fun sh sz => by
    have sz' : (listText (PyData.shownAll ds)).length ≤ sizeLine := by simpa only [PyData.shown] using sz
    obtain ⟨cs, c1, c2⟩ := ih (by simpa [PyData.showable] using sh) fun t ht => Nat.le_trans (listText_mem_le ht) sz'
    exact ⟨cs, c1, c2, not_mem_of_deeper top (by simp only [PyData.depth]; omega) c1⟩
  refine ⟨fun sh sz => ?_, fun sh sz => ?_⟩
  · obtain ⟨cs, c1, c2, c3⟩ := kids sh sz
    refine ⟨p :: cs, c1.cons top (by simp only [PyData.depth]; omega), ?_⟩
    rw [PyData.depth, PyData.shown]
    cases its with
    | nil =>
      cases rd
      rw [PyData.shownAll, listText_nil]
      exact .listEmpty e1 e2 e3
    | cons y ys => exact .list e1 e2 e3 c3 (by simpa using c2.length_eq) fun i z hz => c2.item i z (by simpa using hz)
  · obtain ⟨cs, c1, c2, c3⟩ := kids sh sz
    refine ⟨"list", "list.__repr__", ⟨F.slot_list_repr.toG, F.slot_list_str, F.slot_list_format, fun s up => ⟨ob, up _ _ e1, e2⟩, fun A E s Q gd un up hQ => ?_⟩⟩
    rw [PyData.depth] at un
    rw [PyData.shown] at hQ
    cases its with
    | nil =>
      cases rd
      rw [PyData.shownAll, listText_nil] at hQ
      exact call_list_repr_empty ⟨ob, up _ _ e1, e2⟩ (up _ _ e1) e3 (hQ s.heap _ _ fun _ _ z => z)
    | cons y ys => exact call_list_reprK e1 e2 e3 c3 (by simpa using c2.length_eq) (fun i z hz => c2.item i z (by simpa using hz)) gd (fun b _ => Clear.nil b) un up hQ (by simpa only [PyData.shown] using sz)
theorem nd_tuple {its : List Value} {ds : List PyData} {as : List Addr} (e1 : h.get? p = some ob) (e2 : ob.cls = .type "tuple") (e3 : ob.data = .seq its.toArray n) (rd : ReadsAll h its ds as) (ih : ShownAll prog w h its ds) :
    Shown prog w h (.ref p) (.tuple ds) ∧ ((PyData.tuple ds).showable = true → (PyData.tuple ds).shown.length ≤ sizeLine → ∃ T idr, ShowsBy prog w h p (.tuple ds) T idr) := by
  have top : Reads h (.ref p) (.tuple ds) _ := Reads.tuple e1 e2 e3 rd
  have kids : (PyData.tuple ds).showable = true → (PyData.tuple ds).shown.length ≤ sizeLine → ∃ cs, ReadAtMost h (PyData.depthAll ds) cs ∧ ReprAllK prog w cs h (PyData.depthAll ds) its (PyData.shownAll ds) ∧ p ∉ cs := fun sh sz => by
    have sz' : (tupleText (PyData.shownAll ds)).length ≤ sizeLine := by simpa only [PyData.shown] using sz
    obtain ⟨cs, c1, c2⟩ := ih (by simpa [PyData.showable] using sh) fun t ht => Nat.le_trans (tupleText_mem_le ht) sz'
    exact ⟨cs, c1, c2, not_mem_of_deeper top (by simp only [PyData.depth]; omega) c1⟩
  refine ⟨fun sh sz => ?_, fun sh sz => ?_⟩
  · obtain ⟨cs, c1, c2, c3⟩ := kids sh sz
    refine ⟨p :: cs, c1.cons top (by simp only [PyData.depth]; omega), ?_⟩
    rw [PyData.depth, PyData.shown]
    exact .tuple e1 e2 e3 c3 c2
  · obtain ⟨cs, c1, c2, c3⟩ := kids sh sz
    refine ⟨"tuple", "tuple.__repr__", ⟨F.slot_tuple_repr, F.slot_tuple_str, F.slot_tuple_format, fun s up => ⟨ob, up _ _ e1, e2⟩, fun A E s Q gd un up hQ => ?_⟩⟩
    rw [PyData.depth] at un
    rw [PyData.shown] at hQ
    exact call_tuple_reprK e1 e2 e3 c3 c2 gd (fun b _ => Clear.nil b) un up hQ (by simpa only [PyData.shown] using sz)
theorem nd_dict {es : Array DictEntry} {kvs : List (PyData × PyData)} {as bs : List Addr} (e1 : h.get? p = some ob) (e2 : ob.cls = .type "dict") (e3 : ob.data = .dict es n) (ns : (p == sysModules) = false) (rk : ReadsAll h (es.toList.map (·.key)) (kvs.map (·.1)) as) (rv : ReadsAll h (es.toList.map (·.val)) (kvs.map (·.2)) bs)
    (ik : ShownAll prog w h (es.toList.map (·.key)) (kvs.map (·.1))) (iv : ShownAll prog w h (es.toList.map (·.val)) (kvs.map (·.2))) :
    Shown prog w h (.ref p) (.dict kvs) ∧ ((PyData.dict kvs).showable = true → (PyData.dict kvs).shown.length ≤ sizeLine → ∃ T idr, ShowsBy prog w h p (.dict kvs) T idr) := by
  have top : Reads h (.ref p) (.dict kvs) _ := Reads.dict e1 e2 e3 rk rv
  have kids : (PyData.dict kvs).showable = true → (PyData.dict kvs).shown.length ≤ sizeLine → ∃ cs, ReadAtMost h (PyData.depthKv kvs) cs ∧ ReprEntriesK prog w cs h (PyData.depthKv kvs) es.toList (PyData.shownKv kvs) ∧ p ∉ cs := fun sh sz => by
    have sz' : (dictText (PyData.shownKv kvs)).length ≤ sizeLine := by simpa only [PyData.shown] using sz
    obtain ⟨s1, s2⟩ := PyData.showableKv_split kvs (by simpa [PyData.showable] using sh)
    obtain ⟨c, c1, c2⟩ := ik s1 fun t ht => by
      obtain ⟨q, hq, hl⟩ := PyData.shownKv_key_le kvs t ht
      exact Nat.le_trans hl (Nat.le_trans (dictText_mem_le hq) sz')
    obtain ⟨e, d1, d2⟩ := iv s2 fun t ht => by
      obtain ⟨q, hq, hl⟩ := PyData.shownKv_val_le kvs t ht
      exact Nat.le_trans hl (Nat.le_trans (dictText_mem_le hq) sz')
    have both : ReadAtMost h (PyData.depthKv kvs) (c ++ e) := (c1.mono (PyData.depthAll_keys_le kvs)).append (d1.mono (PyData.depthAll_vals_le kvs))
    refine ⟨c ++ e, both, ?_, not_mem_of_deeper top (by simp only [PyData.depth]; omega) both⟩
    rw [PyData.shownKv_eq]
    exact .of_two es.toList _ _ (c2.more_le (fun b z => List.mem_append_left _ z) (PyData.depthAll_keys_le kvs)) (d2.more_le (fun b z => List.mem_append_right _ z) (PyData.depthAll_vals_le kvs))
  refine ⟨fun sh sz => ?_, fun sh sz => ?_⟩
  · obtain ⟨cs, c1, c2, c3⟩ := kids sh sz
    refine ⟨p :: cs, c1.cons top (by simp only [PyData.depth]; omega), ?_⟩
    rw [PyData.depth, PyData.shown]
    exact .dict e1 e2 e3 ns c3 c2
  · obtain ⟨cs, c1, c2, c3⟩ := kids sh sz
    refine ⟨"dict", "dict.__repr__", ⟨F.slot_dict_repr, F.slot_dict_str, F.slot_dict_format, fun s up => ⟨ob, up _ _ e1, e2⟩, fun A E s Q gd un up hQ => ?_⟩⟩
    rw [PyData.depth] at un
    rw [PyData.shown] at hQ
    exact call_dict_reprK e1 e2 e3 ns c3 c2 gd (fun b _ => Clear.nil b) un up hQ (by simpa only [PyData.shown] using sz)
end
section
variable {X : Cx} {pins : List (Addr × Obj)} {σ : L2.St} {H : Hp} {s : Shared}
theorem all_nil {h : Heap} : ShownAll X.prog X.w h [] [] := fun _ _ => ⟨[], (fun _ z => nomatch z), by simp only [PyData.shownAll]; exact .nil⟩
theorem all_cons {h : Heap} {u : Value} {us : List Value} {d : PyData} {ds : List PyData} (a : Shown X.prog X.w h u d) (b : ShownAll X.prog X.w h us ds) : ShownAll X.prog X.w h (u :: us) (d :: ds) := fun sh sz => by
  simp only [PyData.showableAll, Bool.and_eq_true] at sh
  simp only [PyData.shownAll, List.mem_cons] at sz
  obtain ⟨c, c1, c2⟩ := a sh.1 (sz _ (.inl rfl))
  obtain ⟨e, d1, d2⟩ := b sh.2 fun t ht => sz t (.inr ht)
  refine ⟨c ++ e, ?_, ?_⟩
  · rw [PyData.depthAll]
    exact (c1.mono (Nat.le_max_left _ _)).append (d1.mono (Nat.le_max_right _ _))
  · rw [PyData.depthAll, PyData.shownAll]
    exact .cons ((c2.more fun b z => List.mem_append_left _ z).level_le (Nat.le_max_left _ _)) (d2.more_le (fun b z => List.mem_append_right _ z) (Nat.le_max_right _ _))
theorem shw_int {h : Heap} (i : Int) (t : Tok) : Shown X.prog X.w h (.int i t) (.int i) := fun sh _ => ⟨[], (fun _ z => nomatch z), by rw [PyData.shown]; exact .of_is (.int t (by simpa [PyData.showable] using sh)) _ _ _⟩
theorem shw_str {h : Heap} (x : Str) (t : Tok) : Shown X.prog X.w h (.str x t) (.str x) := fun _ sz => ⟨[], (fun _ z => nomatch z), by rw [PyData.shown] at sz ⊢; exact .of_is (.str x t sz) _ _ _⟩
/-- a dict's entries beside its object -/
theorem ents : ∀ {es : List DictEntry} {vs : List (Key × Value)}, PySem.Pairs (mixKind X.prog X.w) es vs → es.map (·.val) = vs.map (·.2) ∧ (∃ as, ReadsAll s.heap (es.map (·.key)) (vs.map fun q => keyD q.1) as) ∧ ShownAll X.prog X.w s.heap (es.map (·.key)) (vs.map fun q => keyD q.1)
  | _, _, .nil => ⟨rfl, ⟨_, .nil⟩, all_nil⟩
  | _, _, .cons (e := e) (kv := kv) hk hv t => by
    obtain ⟨h1, ⟨as, h2⟩, h3⟩ := ents t
    obtain ⟨k, v⟩ := kv
    have hk : L2.keyIs k e.key = true := hk
    rcases L2.keyIs_shape hk with ⟨i, tk, rfl, q⟩ | ⟨x, tk, rfl, q⟩
    · refine ⟨by rw [List.map_cons, List.map_cons, h1, hv], ⟨[] ++ as, ?_⟩, ?_⟩
      · rw [List.map_cons, List.map_cons, q]
        exact .cons (.int i tk) h2
      · rw [List.map_cons, List.map_cons, q]
        exact all_cons (shw_int i tk) h3
    · refine ⟨by rw [List.map_cons, List.map_cons, h1, hv], ⟨[] ++ as, ?_⟩, ?_⟩
      · rw [List.map_cons, List.map_cons, q]
        exact .cons (.str x tk) h2
      · rw [List.map_cons, List.map_cons, q]
        exact all_cons (shw_str x tk) h3
theorem kv_vals : ∀ {ks : List (Key × V)} {vs : List (Key × Value)}, KV ks vs → Vals (ks.map (·.2)) (vs.map (·.2)) ∧ vs.map (fun q => keyD q.1) = ks.map fun q => keyD q.1
  | _, _, .nil => ⟨.nil, rfl⟩
  | _, _, .cons h t => by
    obtain ⟨a, b⟩ := kv_vals t
    exact ⟨.cons h.2 a, by rw [List.map_cons, List.map_cons, b, h.1]⟩
def Top (X : Cx) (h : Heap) (d : PyData) (u : Value) : Prop := ∀ p, u = .ref p → d.showable = true → d.shown.length ≤ sizeLine → ∃ T idr, ShowsBy X.prog X.w h p d T idr
mutual
theorem shw (I : Inv X pins σ H s) : ∀ (d : PyData) (v : V) (u : Value) (G : List Addr), Rp X.K false H v d G → L2.RelV v u → kpl d = true → (∃ as, Reads s.heap u d as) ∧ Shown X.prog X.w s.heap u d ∧ Top X s.heap d u
  | .none, _, _, _, h, r, _ => by
    cases h; cases r
    exact ⟨⟨_, .none⟩, fun _ _ => ⟨[], (fun _ z => nomatch z), by rw [PyData.shown]; exact .of_is .none _ _ _⟩, fun p e => nomatch e⟩
  | .bool b, _, _, _, h, r, _ => by
    cases h; cases r
    exact ⟨⟨_, .bool b⟩, fun _ _ => ⟨[], (fun _ z => nomatch z), by rw [PyData.shown]; exact .of_is (.bool b) _ _ _⟩, fun p e => nomatch e⟩
  | .int i, _, _, _, h, r, _ => by
    cases h
    obtain ⟨t, rfl⟩ := r
    exact ⟨⟨_, .int i t⟩, shw_int i t, fun p e => nomatch e⟩
  | .str x, _, _, _, h, r, _ => by
    cases h
    obtain ⟨t, rfl⟩ := r
    exact ⟨⟨_, .str x t⟩, shw_str x t, fun p e => nomatch e⟩
  | .list ds, v, u, G, h, r, e => by
    obtain ⟨a, xs, G', rfl, hs, ha, _⟩ := Rp.sql h
    obtain rfl : u = Value.ref a := r
    obtain ⟨its, rv, ⟨ob, n, f1, f2, _, f3⟩, _⟩ := I.list hs
    obtain ⟨⟨as, g1⟩, g2⟩ := shws I ds xs its G' ha rv (by simpa [kpl] using e)
    obtain ⟨k1, k2⟩ := nd_list f1 f2 f3 g1 g2
    exact ⟨⟨_, .list f1 f2 f3 g1⟩, k1, fun p z => by cases z; exact k2⟩
  | .tuple ds, v, u, G, h, r, e => by
    obtain ⟨a, xs, rfl, hs, ha⟩ := Rp.sqt h
    obtain rfl : u = Value.ref a := r
    obtain ⟨its, rv, ⟨ob, f1, f2, n, f3⟩, _⟩ := I.tuple hs
    obtain ⟨⟨as, g1⟩, g2⟩ := shws I ds xs its G ha rv (by simpa [kpl] using e)
    obtain ⟨k1, k2⟩ := nd_tuple f1 f2 f3 g1 g2
    exact ⟨⟨_, .tuple f1 f2 f3 g1⟩, k1, fun p z => by cases z; exact k2⟩
  | .dict kvs, v, u, G, h, r, e => by
    simp only [kpl, Bool.and_eq_true] at e
    cases h with
    | @dK a ks _ G' h1 h2 h3 =>
      obtain rfl : u = Value.ref a := r
      obtain ⟨_, ns, vs, rel, ob, es, ep, f1, f2, f3, _, pr, _⟩ := dk_of I.hok h1
      obtain ⟨q1, ⟨as, q2⟩, q3⟩ := ents (X := X) (s := s) pr
      obtain ⟨w1, w2⟩ := kv_vals rel
      obtain ⟨⟨bs, g1⟩, g2⟩ := shwv I kvs (ks.map (·.2)) (vs.map (·.2)) G' h3 w1 e.2
      rw [w2, ← h2] at q2 q3
      rw [← q1] at g1 g2
      obtain ⟨k1, k2⟩ := nd_dict f1 f2.1 f3 ns q2 g1 q3 g2
      exact ⟨⟨_, .dict f1 f2.1 f3 q2 g1⟩, k1, fun p z => by cases z; exact k2⟩
    | dN h1 h2 h3 =>
      exfalso
      cases kvs with
      | nil => exact h2.2.2 rfl
      | cons kv kvs =>
        have := keysN_no h2 kv (.head _)
        simp [this] at e
theorem shws (I : Inv X pins σ H s) : ∀ (ds : List PyData) (vs : List V) (us : List Value) (G : List Addr), RpAll X.K false H vs ds G → Vals vs us → kpls ds = true → (∃ as, ReadsAll s.heap us ds as) ∧ ShownAll X.prog X.w s.heap us ds
  | [], _, _, _, h, r, _ => by
    cases h; cases r
    exact ⟨⟨_, .nil⟩, all_nil⟩
  | d :: ds, _, _, _, h, r, e => by
    simp only [kpls, Bool.and_eq_true] at e
    cases h with
    | cons h1 h2 =>
      cases r with
      | cons r1 r2 =>
        obtain ⟨⟨as, a1⟩, a2, _⟩ := shw I d _ _ _ h1 r1 e.1
        obtain ⟨⟨bs, b1⟩, b2⟩ := shws I ds _ _ _ h2 r2 e.2
        exact ⟨⟨_, .cons a1 b1⟩, all_cons a2 b2⟩
theorem shwv (I : Inv X pins σ H s) : ∀ (kvs : List (PyData × PyData)) (vs : List V) (us : List Value) (G : List Addr), RpAll X.K false H vs (kvs.map (·.2)) G → Vals vs us → kplv kvs = true → (∃ as, ReadsAll s.heap us (kvs.map (·.2)) as) ∧ ShownAll X.prog X.w s.heap us (kvs.map (·.2))
  | [], _, _, _, h, r, _ => by
    cases h; cases r
    exact ⟨⟨_, .nil⟩, all_nil⟩
  | (k, d) :: kvs, _, _, _, h, r, e => by
    simp only [kplv, Bool.and_eq_true] at e
    rw [List.map_cons] at h ⊢
    cases h with
    | cons h1 h2 =>
      cases r with
      | cons r1 r2 =>
        obtain ⟨⟨as, a1⟩, a2, _⟩ := shw I d _ _ _ h1 r1 e.1
        obtain ⟨⟨bs, b1⟩, b2⟩ := shwv I kvs _ _ _ h2 r2 e.2
        exact ⟨⟨_, .cons a1 b1⟩, all_cons a2 b2⟩
end
end
def rReprA (K : PySem.W.Frag) : List V → Hp → VK → Prop := fun xs H Q => ((∃ i, xs = [.int i] ∧ i.natAbs.log2 < 1920 ∧ Q (.str (toString i)) H) ∨
  (∃ a d G, xs = [.ref a] ∧ Rp K false H (.ref a) d G ∧ kpl d = true ∧ d.showable = true ∧ d.depth < 50 ∧ d.shown.length ≤ sizeLine ∧ Q (.str d.shown) H))
theorem call_reprA {X : Cx} (hg : X.A.guards = some []) (hu : X.A.units + 64 < cLine) : CallR X (.builtin "repr") (rReprA X.K) := by
  intro pins s σ H xs us Q I r h
  rcases h with h | ⟨a, d, G, rfl, hd, hk, hs, hz, hl, q⟩
  · exact SkE.call_repr_int pins s σ H xs us Q I r h
  · obtain ⟨u, rfl, ru⟩ := r.one
    obtain rfl : u = Value.ref a := ru
    obtain ⟨_, _, top⟩ := shw I d _ _ _ hd rfl hk
    obtain ⟨T, idr, S⟩ := top a rfl hs hl
    refine call_repr_slot (by omega) (S.typeIs s fun _ _ e => e) S.slotRepr (S.call X.A.in1 X.xe s _ hg (by show X.A.units + 1 + d.depth < cLine; omega) (fun _ _ e => e) fun h' u tk hk => ⟨_, _, rfl, ?_⟩)
    exact ⟨.str d.shown, H, I.kept hk, ⟨_, rfl⟩, q⟩
section
variable {K : PySem.W.Frag}
def wReprA : List R → (R → Prop) → Prop
  | [r], Q => (match r.d with
    | .int i => i.natAbs.log2 < 1920 ∧ Q (P (.str (toString i)))
    | .list ds => kpls ds = true ∧ (PyData.list ds).showable = true ∧ (PyData.list ds).depth < 50 ∧ (PyData.list ds).shown.length ≤ sizeLine ∧ Q (P (.str (PyData.list ds).shown))
    | .tuple ds => kpls ds = true ∧ (PyData.tuple ds).showable = true ∧ (PyData.tuple ds).depth < 50 ∧ (PyData.tuple ds).shown.length ≤ sizeLine ∧ Q (P (.str (PyData.tuple ds).shown))
    | .dict kvs => kpl (.dict kvs) = true ∧ (PyData.dict kvs).showable = true ∧ (PyData.dict kvs).depth < 50 ∧ (PyData.dict kvs).shown.length ≤ sizeLine ∧ Q (P (.str (PyData.dict kvs).shown))
    | _ => False)
  | _, _ => False
theorem cd_reprA : CD K (rReprA K) wReprA := by
  intro N H xs rs A Qd Q hw k
  match rs, A, hw with
  | [⟨kd, d⟩], A, hw =>
    obtain ⟨x, rfl, ax⟩ := A.one
    unfold wReprA at hw
    cases d <;> first | exact hw.elim | skip
    · rename_i i
      rw [arg_int ax]
      exact .inl ⟨i, rfl, hw.1, k _ H _ [] Ext.refl (NewOk.pure (.str _)) hw.2⟩
    · rename_i ds
      obtain ⟨G, q, _⟩ := ax
      have q : Rp K false H x (.list ds) G := q
      obtain ⟨a, xs, _, rfl, _⟩ := Rp.sql q
      exact .inr ⟨a, .list ds, G, rfl, q, by simpa [kpl] using hw.1, hw.2.1, hw.2.2.1, hw.2.2.2.1, k _ H _ [] Ext.refl (NewOk.pure (.str _)) hw.2.2.2.2⟩
    · rename_i ds
      obtain ⟨G, q, _⟩ := ax
      have q : Rp K false H x (.tuple ds) G := q
      obtain ⟨a, xs, rfl, _⟩ := Rp.sqt q
      exact .inr ⟨a, .tuple ds, G, rfl, q, by simpa [kpl] using hw.1, hw.2.1, hw.2.2.1, hw.2.2.2.1, k _ H _ [] Ext.refl (NewOk.pure (.str _)) hw.2.2.2.2⟩
    · rename_i kvs
      obtain ⟨G, q, _⟩ := ax
      have q : Rp K false H x (.dict kvs) G := q
      have ex : ∃ a, x = .ref a := by cases q <;> exact ⟨_, rfl⟩
      obtain ⟨a, rfl⟩ := ex
      exact .inr ⟨a, .dict kvs, G, rfl, q, hw.1, hw.2.1, hw.2.2.1, hw.2.2.2.1, k _ H _ [] Ext.refl (NewOk.pure (.str _)) hw.2.2.2.2⟩
end
end DL
namespace DL
open PySem PySem.Spec PyProof.Rows L2
section
open PySem.SeqAt PySem.MeetsSeq PySem.AutoSeq1
variable {A : Around} {s : Shared}
theorem intDict (b : Int) (u : Tok) (l : Addr) (es : Array DictEntry) (n : Nat) (dd : Option Addr) (sl : Array (Option Value)) :
    Meets (Builtin.«int.__eq__» ⟨[.int b u, .ref l], []⟩) (fun _ R s => s.heap.get? l = some ⟨.type "dict", dd, .dict es n, sl⟩ ∧ R (.ok (.ret .notImplemented)) s) :=
  .of_wp fun prog w A R s h => by
    obtain ⟨hp, g, d, tk, os⟩ := s
    obtain ⟨hl, h⟩ := h
    wp_walk using wpAny_loadPart' hl, wpAny_load hl
    exact ⟨_, rfl, h⟩
theorem dictInt (b : Int) (u : Tok) (l : Addr) (es : Array DictEntry) (n : Nat) (dd : Option Addr) (sl : Array (Option Value)) :
    Meets (Builtin.«dict.__eq__» ⟨[.ref l, .int b u], []⟩) (fun _ R s => s.heap.get? l = some ⟨.type "dict", dd, .dict es n, sl⟩ ∧ R (.ok (.ret .notImplemented)) s) :=
  .of_wp fun prog w A R s h => by
    obtain ⟨hp, g, d, tk, os⟩ := s
    obtain ⟨hl, h⟩ := h
    have f1 := F.sub_int_dict
    wp_walk using wpAny_loadPart' hl, wpAny_load hl
    exact ⟨_, rfl, h⟩
theorem rcIntDict {l : Addr} {o : Obj} {es : Array DictEntry} {n : Nat} (b : Int) (u : Tok) (ho : s.heap.get? l = some o) (hc : o.cls = .type "dict") (hd : o.data = .dict es n) (hu : A.units < cLine) : RcAt A s (.int b u) (.ref l) false := fun prog w E Q h => by
  obtain ⟨cls, dd, data, sl⟩ := o
  simp only at hc hd
  subst hc hd
  exact rc_eq_decline_or (k := false) (typeIs_int s b u) ⟨_, ho, rfl⟩ (by decide) F.sub_dict_int F.slot_int_eq F.slot_dict_eq_refl
    (fun _ z => call_meets F.slot_int_eq (typeIs_int s b u) F.entry_int_eq (F.args_int_eq_2 _ _) (intDict b u l es n dd sl) ⟨ho, z⟩)
    (fun _ z => call_meets F.slot_dict_eq_refl ⟨_, ho, rfl⟩ F.entry_dict_eq (F.args_dict_eq_2 _ _) (dictInt b u l es n dd sl) ⟨ho, z⟩)
    (fun _ z => wpAny_of_eq (rfl : isSame (.int b u) (.ref l) = pure false) z) (.inr hu) h
theorem eqIntDict {l : Addr} {o : Obj} {es : Array DictEntry} {n : Nat} (b : Int) (u : Tok) (ho : s.heap.get? l = some o) (hc : o.cls = .type "dict") (hd : o.data = .dict es n) (hu : A.units < cLine) : EqAt A s (.int b u) (.ref l) false := fun prog w E Q h => by
  unfold eqBool
  refine wpAny_holding (wpAny_ite_split (fun z => absurd (eq_of_beq z) nofun) fun _ => ?_)
  exact wpAny_bind (rcIntDict b u ho hc hd hu prog w E _ (wpAny_truthy_bool h))
end
/-- an int beside any data -/
def eqI (i : Int) : PyData → Bool
  | .int j => i == j
  | .bool b => i == (if b then 1 else 0)
  | _ => false
theorem eqAt_any {X : Cx} {pins : List (Addr × Obj)} {σ : L2.St} {H : Hp} {s : Shared} (I : Inv X pins σ H s) {A : Around} (hu : A.units < cLine) (i : Int) (t : Tok) : ∀ {d : PyData} {x : V} {v : Value} {G : List Addr}, Rp X.K false H x d G → L2.RelV x v → SeqAt.EqAt A s (.int i t) v (eqI i d)
  | .none, _, _, _, h, r => by cases h; cases r; exact SeqAt.EqAt.int_none i t
  | .bool b, _, _, _, h, r => by cases h; cases r; exact SeqAt.EqAt.int_bool i t b
  | .int j, _, _, _, h, r => by cases h; obtain ⟨u, rfl⟩ := r; exact SeqAt.EqAt.int_int i t j u
  | .str x, _, _, _, h, r => by cases h; obtain ⟨u, rfl⟩ := r; exact SeqAt.EqAt.int_str i t x u
  | .list ds, _, _, _, h, r => by
    obtain ⟨a, xs, _, rfl, hs, _, _⟩ := Rp.sql h
    cases r
    obtain ⟨its, _, pl, _⟩ := I.list hs
    exact SeqAt.EqAt.int_list i t pl.isList hu
  | .tuple ds, _, _, _, h, r => by
    obtain ⟨a, xs, rfl, hs, _⟩ := Rp.sqt h
    cases r
    obtain ⟨its, _, pl, _⟩ := I.tuple hs
    exact SeqAt.EqAt.int_tuple i t pl hu
  | .dict kvs, _, _, _, h, r => by
    cases h with
    | @dK a ks _ G' h1 h2 h3 =>
      cases r
      obtain ⟨_, _, vs, rel, ob, es, ep, f1, f2, f3, _⟩ := dk_of I.hok h1
      exact eqIntDict i t f1 f2.1 f3 hu
    | @dN a es _ G' h1 h2 h3 =>
      cases r
      obtain ⟨⟨_, _, xs, _, ob, arr, ep, f1, f2, f3, _⟩, _⟩ := (show ObjOk X.prog X.w H s.heap a (.ext (DictN a es)) from I.hok a _ h1)
      exact eqIntDict i t f1 f2.1 f3 hu
def rInT (K : PySem.W.Frag) (g : Bool → Bool) : R2 := fun x y H Q => ∃ (p : Addr) (ns : List Int) (d : PyData) (G : List Addr), y = .ref p ∧ SqT K H p (ns.map V.int) ∧ Rp K false H x d G ∧ Q (.bl (g (ns.any fun i => eqI i d))) H
def intQ (d : PyData) : Value → Bool
  | .int i _ => eqI i d
  | _ => false
theorem ints_any {ns : List Int} {us : List Value} (r : Vals (ns.map V.int) us) (d : PyData) : (∀ w ∈ us, ∃ i t, w = Value.int i t) ∧ us.any (intQ d) = ns.any fun i => eqI i d := by
  induction ns generalizing us with
  | nil => cases r; exact ⟨(fun _ z => nomatch z), rfl⟩
  | cons n ns ih =>
    rw [List.map_cons] at r
    cases r with
    | cons h t =>
      obtain ⟨tk, rfl⟩ := h
      obtain ⟨a, b⟩ := ih t
      refine ⟨fun w hw => ?_, by rw [List.any_cons, List.any_cons, b]; rfl⟩
      rcases List.mem_cons.mp hw with rfl | hw
      · exact ⟨_, _, rfl⟩
      · exact a w hw
theorem op_inT {X : Cx} (hu : X.A.units + 65 < cLine) : OpR X (compareOp .In) (rInT X.K id) := by
  intro pins s σ H x y v u Q I rx ry h
  obtain ⟨p, ns, d, G, rfl, hq, rp, q⟩ := h
  cases ry
  obtain ⟨its, r, pl, hz⟩ := I.tuple hq
  obtain ⟨f1, f2⟩ := ints_any r d
  refine SeqAt.in_tupleAt (intQ d) pl (fun w hw => ?_) ⟨.bl _, H, I, rfl, ?_⟩
  · obtain ⟨i, t, rfl⟩ := f1 w (by simpa using hw)
    exact eqAt_any I (by show X.A.units + 1 < cLine; omega) i t rp rx
  · rw [show its.toArray.any (intQ d) = its.any (intQ d) by simp, f2]
    exact q
def wInT (g : Bool → Bool) : R → R → (R → Prop) → Prop := fun a b Q => match b.d with
  | .tuple ds => ∃ ns : List Int, ds = ns.map PyData.int ∧ Q (P (.bool (g (ns.any fun i => eqI i a.d))))
  | _ => False
theorem od_inT {K : PySem.W.Frag} : OD K (rInT K id) (wInT id) := by
  intro N H x y ⟨kx, dx⟩ ⟨ky, dy⟩ ax ay Qd Q hw k
  unfold wInT at hw
  cases dy <;> first | exact hw.elim | skip
  obtain ⟨ns, rfl, hw⟩ := hw
  obtain ⟨G1, q1, _⟩ := ax
  obtain ⟨G2, q2, _⟩ := ay
  obtain ⟨b, ys, rfl, hs, ra⟩ := Rp.sqt (show Rp K false H y (.tuple (ns.map PyData.int)) G2 from q2)
  rw [rpall_ints ra] at hs
  exact ⟨b, ns, dx, G1, rfl, hs, q1, k _ H _ [] Ext.refl (NewOk.pure (.bl _)) hw⟩
theorem wInT_t {k : Kd} {g : Bool → Bool} {a : R} {ds : List PyData} {Q : R → Prop} : wInT g a ⟨k, .tuple ds⟩ Q = ∃ ns : List Int, ds = ns.map PyData.int ∧ Q (P (.bool (g (ns.any fun i => eqI i a.d)))) := rfl
def OD1 (K : PySem.W.Frag) (r : R2) (wr : R → R → (R → Prop) → Prop) : Prop :=
  ∀ (N : Addr → Prop) (H : Hp), (∀ a, H a = none → N a) → ∀ (x y : V) (rx ry : R), Arg K N H rx x → Arg K N H ry y → ∀ (Qd : R → Prop) (Q : VK), wr rx ry Qd →
    (∀ v H' r G, Ext H H' → NewOk K N H H' r v G → Qd r → Q v H') → r x y H Q
def CD1 (K : PySem.W.Frag) (r : List V → Hp → VK → Prop) (wr : List R → (R → Prop) → Prop) : Prop :=
  ∀ (N : Addr → Prop) (H : Hp), (∀ a, H a = none → N a) → ∀ (xs : List V) (rs : List R), ArgsV K N H rs xs → ∀ (Qd : R → Prop) (Q : VK), wr rs Qd →
    (∀ v H' r G, Ext H H' → NewOk K N H H' r v G → Qd r → Q v H') → r xs H Q
section
variable {X : Cx} {v0 : Cv} {a b e : Expr} {es : List Expr} {ea eb : Bool} {wa wb we : WE} {wr0 : WA} {ta tb : TE} {tr : TA} {pos : Pos}
theorem re_op1 {r : R2} {wr : R → R → (R → Prop) → Prop} (od : OD1 X.K r wr) (ha : RE X.K v0 ea ta wa) (hb : RE X.K v0 eb tb wb) : RE X.K v0 (ea || eb) (tOp r ta tb) (wOp eb wr wa wb) := by
  intro σ H ρ F S Qd Q h k
  refine ha σ H ρ F S _ _ h fun x H1 ρ1 F1 ra G1 S1 s1 p1 r1 h1 => ?_
  refine hb σ H1 ρ1 F1 S1 _ _ h1 fun y H2 ρ2 F2 rb G2 S2 s2 p2 r2 h2 => ?_
  obtain ⟨hst, h2⟩ := h2
  have rx : Arg X.K (fun a => ¬ Own F2 a) H2 ra x := by
    cases eb with
    | true =>
      obtain ⟨G', q⟩ := r1.step s2 (hst rfl)
      exact q.arg
    | false =>
      obtain ⟨_, e2, e3⟩ := p2.non rfl
      subst e2
      exact (r1.ext e3).arg
  refine od (fun a => ¬ Own F2 a) H2 (fun a hn z => S2.live a z hn) x y ra rb rx r2.arg (Qd ρ2) Q h2 fun v H' r G e n q => ?_
  exact k v H' ρ2 F2 r G (S2.ext e) ((s1.trans s2).trans (Step.ext e)) ((p1.trans p2).ext e) (n.res S2 (s1.trans s2)) q
theorem de_op1 {op : Operator} {r : R2} {wr : R → R → (R → Prop) → Prop} (ho : OpR X (binaryOp op) r) (od : OD1 X.K r wr) (ha : DE X v0 ea a wa) (hb : DE X v0 eb b wb) : DE X v0 (ea || eb) (.BinOp a op b pos) (wOp eb wr wa wb) := by
  obtain ⟨ta, pa, ra⟩ := ha
  obtain ⟨tb, pb, rb⟩ := hb
  exact ⟨_, pe_op ho pa pb, re_op1 od ra rb⟩
theorem re_call1 {r : List V → Hp → VK → Prop} {w : List R → (R → Prop) → Prop} (cd : CD1 X.K r w) (ha : RG X.K v0 ea tr wr0) : RE X.K v0 ea (tCB r tr) (wCall w wr0) := by
  intro σ H ρ F S Qd Q h k
  refine ha σ H ρ F S _ _ h fun xs H1 ρ1 F1 rs S1 s1 p1 A h1 => ?_
  refine cd (fun a => ¬ Own F1 a) H1 (fun a hn z => S1.live a z hn) xs rs A.each (Qd ρ1) Q h1 fun v H' r G e n q => ?_
  exact k v H' ρ1 F1 r G (S1.ext e) (s1.trans (Step.ext e)) (p1.ext e) (n.res S1 s1) q
end
section
variable {K : PySem.W.Frag}
theorem new_listS {N : Addr → Prop} {H : Hp} {xs : List V} {ds : List PyData} {G : List Addr} {p : Addr} (hN : ∀ a, H a = none → N a) (hp : H p = none) (rp : RpAll K false H xs ds G) (g : ∀ a ∈ G, N a) : ∃ G', NewOk K N H (upd H p (.lst xs)) (P (.list ds)) (.ref p) G' := by
  have ex : Ext H (upd H p (.lst xs)) := Ext.upd hp
  exact ⟨p :: G, .lst (fun z => nomatch z) (.inl upd_same) (rp.keep ex.tu _ _ _ (ex.kp _)), fun a z => (List.mem_cons.mp z).elim (fun e => e ▸ hN p hp) (g a)⟩
theorem new_tupS {N : Addr → Prop} {H : Hp} {xs : List V} {ds : List PyData} {G : List Addr} {p : Addr} (hp : H p = none) (rp : RpAll K false H xs ds G) (g : ∀ a ∈ G, N a) : ∃ G', NewOk K N H (upd H p (.tup xs)) (P (.tuple ds)) (.ref p) G' := by
  have ex : Ext H (upd H p (.tup xs)) := Ext.upd hp
  exact ⟨G, .tup (.inl (.inl upd_same)) (rp.keep ex.tu _ _ _ (ex.kp _)), g⟩
def wAddS : R → R → (R → Prop) → Prop := fun a b Q => match a.d, b.d with
  | .int i, .int j => Q (P (.int (i + j)))
  | .str i, .str j => i.length + j.length ≤ sizeLine ∧ Q (P (.str (i ++ j)))
  | .list xs, .list ys => (a.k ≠ .als ∧ b.k ≠ .als) ∧ xs.length + ys.length ≤ sizeLine ∧ Q (P (.list (xs ++ ys)))
  | .tuple xs, .tuple ys => (a.k ≠ .als ∧ b.k ≠ .als) ∧ xs.length + ys.length ≤ sizeLine ∧ Q (P (.tuple (xs ++ ys)))
  | _, _ => False
theorem od_addS : OD1 K (rAddA K) wAddS := by
  intro N H hN x y ⟨kx, dx⟩ ⟨ky, dy⟩ ax ay Qd Q hw k
  unfold wAddS at hw
  cases dx <;> cases dy <;> first | exact hw.elim | skip
  · rename_i i j
    rw [arg_int ax, arg_int ay]
    exact .inl (.inl (.inl ⟨i, j, rfl, rfl, k _ H _ [] Ext.refl (NewOk.pure (.int _)) hw⟩))
  · rename_i i j
    rw [arg_str ax, arg_str ay]
    exact .inl (.inl (.inr ⟨i, j, rfl, rfl, hw.1, k _ H _ [] Ext.refl (NewOk.pure (.str _)) hw.2⟩))
  · rename_i ds es
    obtain ⟨G1, q1, g1⟩ := ax
    obtain ⟨G2, q2, g2⟩ := ay
    obtain ⟨a, xs, G1', rfl, hs, ra, s1⟩ := q1.sql
    obtain ⟨b, ys, G2', rfl, hs2, rb, s2⟩ := q2.sql
    obtain ⟨⟨n1, n2⟩, hl, hq⟩ := hw
    refine .inl (.inr ⟨a, b, xs, ys, rfl, rfl, hs, hs2, by rw [ra.length, rb.length]; exact hl, fun p np => ?_⟩)
    obtain ⟨G', n⟩ := new_listS (N := N) hN np (ra.append rb) fun c hc => (List.mem_append.mp hc).elim (fun z => g1 n1 c (s1 c z)) (fun z => g2 n2 c (s2 c z))
    exact k _ _ _ G' (Ext.upd np) n hq
  · rename_i ds es
    obtain ⟨G1, q1, g1⟩ := ax
    obtain ⟨G2, q2, g2⟩ := ay
    obtain ⟨⟨n1, n2⟩, hl, hq⟩ := hw
    have q1' := q1
    have q2' := q2
    obtain ⟨a, xs, rfl, hs, ra⟩ := q1.sqt
    obtain ⟨b, ys, rfl, hs2, rb⟩ := q2.sqt
    have l1 := ra.length
    have l2 := rb.length
    refine .inr ⟨a, b, xs, ys, rfl, rfl, hs, hs2, by rw [ra.length, rb.length]; exact hl, fun e => ?_, fun _ e => ?_, fun _ _ p np => ?_⟩
    · subst e
      have e1 : ds = [] := List.length_eq_zero_iff.mp (by simpa using l1.symm)
      subst e1
      exact k _ _ (P (.tuple es)) G2 Ext.refl ⟨q2', g2 n2⟩ hq
    · subst e
      have e1 : es = [] := List.length_eq_zero_iff.mp (by simpa using l2.symm)
      subst e1
      rw [List.append_nil] at hq
      exact k _ _ (P (.tuple ds)) G1 Ext.refl ⟨q1', g1 n1⟩ hq
    · obtain ⟨G', n⟩ := new_tupS (N := N) np (ra.append rb) fun c hc => (List.mem_append.mp hc).elim (g1 n1 c) (g2 n2 c)
      exact k _ _ _ G' (Ext.upd np) n hq
def wLstS : List R → (R → Prop) → Prop
  | [r], Q => (match r.d with
    | .list ds => r.k ≠ .als ∧ Q (P (.list ds))
    | .tuple ds => r.k ≠ .als ∧ Q (P (.list ds))
    | _ => False)
  | _, _ => False
theorem cd_lstS : CD1 K (rLstOf K) wLstS := by
  intro N H hN xs rs A Qd Q hw k
  match rs, A, hw with
  | [⟨kd, d⟩], A, hw =>
    obtain ⟨x, rfl, ax⟩ := A.one
    unfold wLstS at hw
    cases d <;> first | exact hw.elim | skip
    · rename_i ds
      obtain ⟨G, qx, g⟩ := ax
      obtain ⟨a, xs, G', rfl, hs, ra, su⟩ := Rp.sql (show Rp K false H x (.list ds) G from qx)
      refine ⟨a, xs, rfl, .inl hs, fun p np => ?_⟩
      obtain ⟨G', n⟩ := new_listS (N := N) hN np ra fun c hc => g hw.1 c (su c hc)
      exact k _ _ _ G' (Ext.upd np) n hw.2
    · rename_i ds
      obtain ⟨G, qx, g⟩ := ax
      obtain ⟨a, xs, rfl, hs, ra⟩ := Rp.sqt (show Rp K false H x (.tuple ds) G from qx)
      refine ⟨a, xs, rfl, .inr hs, fun p np => ?_⟩
      obtain ⟨G', n⟩ := new_listS (N := N) hN np ra fun c hc => g hw.1 c hc
      exact k _ _ _ G' (Ext.upd np) n hw.2
end
section
variable {X : Cx} {v0 : Cv} {ea : Bool} {e : Expr} {es : List Expr} {we : WE} {wr : WA} {wl wh : WPt} {lo hi : Option Expr} {p2 pos : Pos}
theorem de_lstS {p : Pos} (hg : Gl X "list") (hm : X.mg "list" = none) (ha : DG X v0 ea (e :: es) wr) (hv : bootBuiltins ("list" : Str) = some (.type "list") := by decide +kernel)
    (he : starEach (e :: es) X.env = (false, eval e X.env) :: starEach es X.env := by rfl) (hpl : (backTo pos (starEach es X.env)).any (·.1) = false := by rfl) : DE X v0 ea (.Call (.Name "list" p) (e :: es) [] pos) (wCall wLstS wr) := by
  obtain ⟨t, pa, ra⟩ := ha
  exact ⟨_, pe_callTy call_lstA hg hm hv pa (by decide) (by decide) he hpl, re_call1 cd_lstS ra⟩
def cutRS (r : R) (lo hi : Option Int) (Q : R → Prop) : Prop := match r.d with
  | .list ds => r.k ≠ .als ∧ Q (P (.list (cutD ds lo hi)))
  | .tuple ds => r.k ≠ .als ∧ Q (P (.tuple (cutD ds lo hi)))
  | .str z => z.length ≤ sizeLine ∧ Q (P (.str (cutS z lo hi)))
  | _ => False
def wSlcS (we : WE) (wl wh : WPt) : WE := fun ρ Q => we ρ fun ρ1 r => wl ρ1 fun lo => wh ρ1 fun hi => cutRS r lo hi (Q ρ1)
theorem de_sliceS (he : DE X v0 ea e we) (hl : DO X v0 lo wl) (hh : DO X v0 hi wh) : DE X v0 ea (.Subscript e (.Slice lo hi none p2) pos) (wSlcS we wl wh) := by
  obtain ⟨t, p, q⟩ := he
  obtain ⟨tl, pl, ql⟩ := hl
  obtain ⟨th, ph, qh⟩ := hh
  refine ⟨_, pe_slice sl_any p pl ph, fun σ H ρ F S Qd Q h k => ?_⟩
  refine q σ H ρ F S _ _ h fun x H1 ρ1 F1 r G S1 s1 e1 r1 h1 => ?_
  refine ql σ H1 ρ1 F1 S1 _ _ h1 fun lo H2 x2 h2 => ?_
  have S2 := S1.ext x2
  have s2 := s1.trans (Step.ext (F := F1) x2)
  have r2 := r1.ext x2
  have e2 := e1.ext x2
  refine qh σ H2 ρ1 F1 S2 _ _ h2 fun hi H3 x3 h3 => ?_
  have S3 := S2.ext x3
  have s3 := s2.trans (Step.ext (F := F1) x3)
  have r3 := r2.ext x3
  have e3 := e2.ext x3
  have fin : ∀ v H' r' G', Ext H3 H' → NewOk X.K (fun a => ¬ Own F1 a) H3 H' r' v G' → Qd ρ1 r' → Q v H' := fun v H' r' G' ex n hq =>
    k v H' ρ1 F1 r' G' (S3.ext ex) (s3.trans (Step.ext ex)) (e3.ext ex) (n.res S3 s3) hq
  obtain ⟨_, rd, gg⟩ := r3.arg
  obtain ⟨kd, d⟩ := r
  unfold cutRS at h3
  cases d <;> first | exact h3.elim | skip
  · rename_i z
    have rd : Rp X.K false H3 x (.str z) _ := rd
    cases rd
    exact .inr ⟨z, rfl, h3.1, fin _ H3 _ [] Ext.refl (NewOk.pure (.str _)) h3.2⟩
  · rename_i ds
    obtain ⟨a, xs, _, rfl, hs, ra, su⟩ := Rp.sql (show Rp X.K false H3 x (.list ds) _ from rd)
    refine .inl (.inl ⟨a, xs, rfl, hs, fun p np => ?_⟩)
    obtain ⟨G1, c1, su1⟩ := ra.cut lo hi
    obtain ⟨G', n⟩ := new_listS (N := fun a => ¬ Own F1 a) (fun a hn z => S3.live a z hn) np c1 fun c hc => gg h3.1 c (su c (su1.subset hc))
    exact fin _ _ _ G' (Ext.upd np) n h3.2
  · rename_i ds
    have rd : Rp X.K false H3 x (.tuple ds) _ := rd
    have rd' := rd
    obtain ⟨a, xs, rfl, hs, ra⟩ := Rp.sqt rd
    refine .inl (.inr ⟨a, xs, rfl, hs, fun w => ?_, fun _ p np => ?_⟩)
    · have w' : HT.sIx ds.length 0 lo = 0 ∧ HT.sIx ds.length ds.length hi = ds.length := by rw [← ra.length]; exact w
      have e0 : cutD ds lo hi = ds := sIx_whole ds lo hi w'
      have hq := h3.2
      rw [e0] at hq
      exact fin _ H3 (P (.tuple ds)) _ Ext.refl ⟨rd', gg h3.1⟩ hq
    · obtain ⟨G1, c1, su1⟩ := ra.cut lo hi
      obtain ⟨G', n⟩ := new_tupS (N := fun a => ¬ Own F1 a) np c1 fun c hc => gg h3.1 c (su1.subset hc)
      exact fin _ _ _ G' (Ext.upd np) n h3.2
end
theorem wAddS_ii {k k' : Kd} {i j : Int} {Q : R → Prop} : wAddS ⟨k, .int i⟩ ⟨k', .int j⟩ Q = Q (P (.int (i + j))) := rfl
theorem wAddS_tt {k k' : Kd} {xs ys : List PyData} {Q : R → Prop} : wAddS ⟨k, .tuple xs⟩ ⟨k', .tuple ys⟩ Q = ((k ≠ .als ∧ k' ≠ .als) ∧ xs.length + ys.length ≤ sizeLine ∧ Q (P (.tuple (xs ++ ys)))) := rfl
theorem wAddS_ll {k k' : Kd} {xs ys : List PyData} {Q : R → Prop} : wAddS ⟨k, .list xs⟩ ⟨k', .list ys⟩ Q = ((k ≠ .als ∧ k' ≠ .als) ∧ xs.length + ys.length ≤ sizeLine ∧ Q (P (.list (xs ++ ys)))) := rfl
theorem wSlcS_eq {we : WE} {wl wh : WPt} {ρ : DEnv} {Q : DEnv → R → Prop} : wSlcS we wl wh ρ Q = we ρ fun ρ1 r => wl ρ1 fun lo => wh ρ1 fun hi => cutRS r lo hi (Q ρ1) := rfl
theorem cutRS_t {k : Kd} {ds : List PyData} {lo hi : Option Int} {Q : R → Prop} : cutRS ⟨k, .tuple ds⟩ lo hi Q = (k ≠ .als ∧ Q (P (.tuple (cutD ds lo hi)))) := rfl
theorem cutRS_l {k : Kd} {ds : List PyData} {lo hi : Option Int} {Q : R → Prop} : cutRS ⟨k, .list ds⟩ lo hi Q = (k ≠ .als ∧ Q (P (.list (cutD ds lo hi)))) := rfl
theorem wLstS_t {k : Kd} {ds : List PyData} {Q : R → Prop} : wLstS [⟨k, .tuple ds⟩] Q = (k ≠ .als ∧ Q (P (.list ds))) := rfl
theorem wLstS_l {k : Kd} {ds : List PyData} {Q : R → Prop} : wLstS [⟨k, .list ds⟩] Q = (k ≠ .als ∧ Q (P (.list ds))) := rfl
theorem cvS_P {d : PyData} : cvS (P d) = P d := by unfold cvS; split <;> rfl
def rSubB : R2 := fun x y H Q => (rI0 fun i j => .int (i - j)) x y H Q ∨ ∃ i b, x = .int i ∧ y = .bl b ∧ Q (.int (i - if b = true then 1 else 0)) H
theorem op_subB {X : Cx} : OpR X (binaryOp .Sub) rSubB := by
  intro pins s σ H x y v u Q I rx ry h
  rcases h with h | ⟨i, b, rfl, rfl, q⟩
  · exact op_sub pins s σ H x y v u Q I rx ry h
  · obtain ⟨t, rfl⟩ := rx
    obtain rfl : u = Value.bool b := ry
    exact _root_.PySem.IntBool.sub_int_bool ⟨.int _, H, I.tok _, ⟨_, rfl⟩, q⟩
def wSubB : R → R → (R → Prop) → Prop := fun a b Q => match a.d, b.d with
  | .int i, .int j => Q (P (.int (i - j)))
  | .int i, .bool b => Q (P (.int (i - if b = true then 1 else 0)))
  | _, _ => False
theorem od_subB {K : PySem.W.Frag} : OD K rSubB wSubB := by
  intro N H x y ⟨kx, dx⟩ ⟨ky, dy⟩ ax ay Qd Q hw k
  unfold wSubB at hw
  cases dx <;> cases dy <;> first | exact hw.elim | skip
  · rename_i i b
    rw [arg_int ax]
    obtain ⟨_, q, _⟩ := ay
    have q : Rp K false H y (.bool b) _ := q
    cases q
    exact .inr ⟨i, b, rfl, rfl, k _ H _ [] Ext.refl (NewOk.pure (.int _)) hw⟩
  · rename_i i j
    rw [arg_int ax, arg_int ay]
    exact .inl ⟨i, j, rfl, rfl, k _ H _ [] Ext.refl (NewOk.pure (.int _)) hw⟩
end DL
namespace DL
open PySem PySem.Spec PyProof.Rows L2
/-- fit to be shown: with dicts; depth, length of the text -/
structure Sk (d : PyData) (k L : Nat) : Prop where
  kp : kpl d = true
  sh : d.showable = true
  dp : d.depth ≤ k
  ln : d.shown.length ≤ L
theorem Sk.mono {d : PyData} {k n k' n' : Nat} (h : Sk d k n) (hk : k ≤ k') (hn : n ≤ n') : Sk d k' n' := ⟨h.kp, h.sh, Nat.le_trans h.dp hk, Nat.le_trans h.ln hn⟩
mutual
theorem kpl_nd : ∀ d : PyData, nodct d = true → kpl d = true
  | .none, _ => rfl
  | .bool _, _ => rfl
  | .int _, _ => rfl
  | .str _, _ => rfl
  | .list ds, h => by rw [kpl]; exact kpls_nd ds (by simpa [nodct] using h)
  | .tuple ds, h => by rw [kpl]; exact kpls_nd ds (by simpa [nodct] using h)
  | .dict _, h => by simp [nodct] at h
theorem kpls_nd : ∀ ds : List PyData, nodcts ds = true → kpls ds = true
  | [], _ => rfl
  | d :: ds, h => by
    simp only [nodcts, Bool.and_eq_true] at h
    rw [kpls, kpl_nd d h.1, kpls_nd ds h.2]
    rfl
end
theorem Sh.sk {d : PyData} {k L : Nat} (h : Sh d k L) : Sk d k L := ⟨kpl_nd d h.nd, h.sh, h.dp, h.ln⟩
theorem kpls_of {ds : List PyData} (h : ∀ d ∈ ds, kpl d = true) : kpls ds = true := by
  induction ds with
  | nil => rfl
  | cons d ds ih =>
    rw [kpls, h d (.head _), ih fun e i => h e (.tail _ i)]
    rfl
theorem sk_lst {ds : List PyData} {k L : Nat} (n : Nat) (h : ∀ d ∈ ds, Sk d k L) (hn : ds.length ≤ n) : Sk (.list ds) (k + 1) (n * (L + 2) + 3) :=
  ⟨by rw [kpl]; exact kpls_of fun d i => (h d i).kp, by simpa [PyData.showable] using showAll_of fun d i => (h d i).sh, by simpa [PyData.depth] using depth_all fun d i => (h d i).dp, by
    have h1 := sum_all fun d i => (h d i).ln
    have h2 := listText_len_le (PyData.shownAll ds)
    have h3 := PyData.shownAll_length ds
    have h4 := Nat.mul_le_mul_right (L + 2) hn
    rw [Nat.mul_add] at h4
    simp only [PyData.shown]
    omega⟩
theorem sk_tup {ds : List PyData} {k L : Nat} (n : Nat) (h : ∀ d ∈ ds, Sk d k L) (hn : ds.length ≤ n) : Sk (.tuple ds) (k + 1) (n * (L + 2) + 3) :=
  ⟨by rw [kpl]; exact kpls_of fun d i => (h d i).kp, by simpa [PyData.showable] using showAll_of fun d i => (h d i).sh, by simpa [PyData.depth] using depth_all fun d i => (h d i).dp, by
    have h1 := sum_all fun d i => (h d i).ln
    have h2 := tupleText_len_le (PyData.shownAll ds)
    have h3 := PyData.shownAll_length ds
    have h4 := Nat.mul_le_mul_right (L + 2) hn
    rw [Nat.mul_add] at h4
    simp only [PyData.shown]
    omega⟩
def rReprU (K : PySem.W.Frag) : List V → Hp → VK → Prop := fun xs H Q => ∃ x d G, xs = [x] ∧ Rp K false H x d G ∧ kpl d = true ∧ d.showable = true ∧ d.depth < 50 ∧ d.shown.length ≤ sizeLine ∧ Q (.str d.shown) H
theorem call_reprU {X : Cx} (hg : X.A.guards = some []) (hu : X.A.units + 64 < cLine) : CallR X (.builtin "repr") (rReprU X.K) := by
  intro pins s σ H xs us Q I r h
  obtain ⟨x, d, G, rfl, hd, hk, hs, hz, hl, q⟩ := h
  obtain ⟨u, rfl, ru⟩ := r.one
  have node : ∀ a, x = .ref a → wpAny (model X.prog X.w) X.A (call (.builtin "repr") [u]) (EP X pins σ Q) X.xe s := fun a e => by
    subst e
    obtain rfl : u = Value.ref a := ru
    obtain ⟨_, _, top⟩ := shw I d _ _ _ hd rfl hk
    obtain ⟨T, idr, S⟩ := top a rfl hs hl
    refine call_repr_slot (by omega) (S.typeIs s fun _ _ e => e) S.slotRepr (S.call X.A.in1 X.xe s _ hg (by show X.A.units + 1 + d.depth < cLine; omega) (fun _ _ e => e) fun h' u tk hk => ⟨_, _, rfl, ?_⟩)
    exact ⟨.str d.shown, H, I.kept hk, ⟨_, rfl⟩, q⟩
  cases hd with
  | non =>
    cases ru
    exact PySem.P.repr_of_none ⟨.str _, H, I.tok _, ⟨_, rfl⟩, by simpa only [PyData.shown] using q⟩
  | bl b =>
    cases ru
    exact PySem.P.repr_of_bool ⟨.str _, H, I.tok _, ⟨_, rfl⟩, by simpa only [PyData.shown] using q⟩
  | int i =>
    obtain ⟨t, rfl⟩ := ru
    exact PySem.P.repr_of_int (by simpa [PyData.showable] using hs) ⟨.str _, H, I.tok _, ⟨_, rfl⟩, by simpa only [PyData.shown] using q⟩
  | str y =>
    obtain ⟨t, rfl⟩ := ru
    exact PySem.P.repr_of_str ⟨.str _, H, I.tok _, ⟨_, rfl⟩, by simpa only [PyData.shown] using q⟩ (by simpa only [PyData.shown] using hl)
  | lst _ _ _ => exact node _ rfl
  | lstK _ _ _ => exact node _ rfl
  | tup _ _ => exact node _ rfl
  | dK _ _ _ => exact node _ rfl
  | dN _ _ _ => exact node _ rfl
def wReprU : List R → (R → Prop) → Prop
  | [r], Q => (∃ k L, Sk r.d k L ∧ k < 50 ∧ L ≤ 2 ^ 24) ∧ Q (P (.str r.d.shown))
  | _, _ => False
theorem cd_reprU {K : PySem.W.Frag} : CD K (rReprU K) wReprU := by
  intro N H xs rs A Qd Q hw k
  match rs, A, hw with
  | [⟨kd, d⟩], A, hw =>
    obtain ⟨x, rfl, ax⟩ := A.one
    obtain ⟨⟨k', L, h1, h2, h3⟩, hq⟩ := hw
    obtain ⟨G, q, _⟩ := ax
    exact ⟨x, d, G, rfl, q, h1.kp, h1.sh, Nat.lt_of_le_of_lt h1.dp h2, Nat.le_trans h1.ln h3, k _ H _ [] Ext.refl (NewOk.pure (.str _)) hq⟩
theorem wReprU_of {r : R} {k L : Nat} {Q : R → Prop} (h : Sk r.d k L) (hk : k < 50) (hL : L ≤ 2 ^ 24) (q : Q (P (.str r.d.shown))) : wReprU [r] Q := ⟨⟨k, L, h, hk, hL⟩, q⟩
end DL
namespace DL
open PySem PySem.Spec PyProof.Rows L2
/-- what a written dict with text keys is, by data -/
def keyS : Value → Option Str
  | .str x _ => some x
  | _ => none
mutual
/-- what a written value is, by data: to be shown piece by piece -/
inductive RpW (K : PySem.W.Frag) : Value → PyData → Prop
  | non : RpW K .none .none
  | bl (b : Bool) : RpW K (.bool b) (.bool b)
  | int (i : Int) (t : Tok) : RpW K (.int i t) (.int i)
  | str (x : Str) (t : Tok) : RpW K (.str x t) (.str x)
  | tup {a : Addr} {od : Option Addr} {its : Array Value} {k : Nat} {sl : Array (Option Value)} {ds : List PyData} : K.lookup a = some ⟨.type "tuple", od, .seq its k, sl⟩ → its.size ≤ sizeLine → RpWs K its.toList ds → RpW K (.ref a) (.tuple ds)
inductive RpWs (K : PySem.W.Frag) : List Value → List PyData → Prop
  | nil : RpWs K [] []
  | cons {v : Value} {vs : List Value} {d : PyData} {ds : List PyData} : RpW K v d → RpWs K vs ds → RpWs K (v :: vs) (d :: ds)
end
mutual
theorem rpW_ok {K : PySem.W.Frag} {m : Bool} {H : Hp} : ∀ (d : PyData) (v : Value), RpW K v d → ∃ x, RelV x v ∧ Rp K m H x d []
  | .none, _, h => by cases h; exact ⟨.non, rfl, .non⟩
  | .bool b, _, h => by cases h; exact ⟨.bl b, rfl, .bl b⟩
  | .int i, _, h => by cases h; exact ⟨.int i, ⟨_, rfl⟩, .int i⟩
  | .str x, _, h => by cases h; exact ⟨.str x, ⟨_, rfl⟩, .str x⟩
  | .tuple ds, _, h => by
    cases h with
    | @tup a od its k sl _ hk hz hs =>
      obtain ⟨xs, hx, hr⟩ := rpWs_ok (m := m) (H := H) ds _ hs
      exact ⟨.ref a, rfl, .tup (.inr ⟨_, its, k, hk, rfl, rfl, hz, hx⟩) hr⟩
  | .list _, _, h => by cases h
  | .dict _, _, h => by cases h
theorem rpWs_ok {K : PySem.W.Frag} {m : Bool} {H : Hp} : ∀ (ds : List PyData) (vs : List Value), RpWs K vs ds → ∃ xs, Vals xs vs ∧ RpAll K m H xs ds []
  | [], _, h => by cases h; exact ⟨[], .nil, .nil⟩
  | d :: ds, _, h => by
    cases h with
    | cons h1 h2 =>
      obtain ⟨x, r1, r2⟩ := rpW_ok (m := m) (H := H) d _ h1
      obtain ⟨xs, s1, s2⟩ := rpWs_ok (m := m) (H := H) ds _ h2
      exact ⟨x :: xs, .cons r1 s1, .cons r2 s2⟩
end
theorem de_glW {X : Cx} {v0 : Cv} {pos : Pos} {x : Str} {v : Value} {d : PyData} (hg : Gl X x) (hm : X.mg x = some v) (h : RpW X.K v d) (hd : (x == ("__debug__" : Str)) = false := by decide) : DE X v0 false (.Name x pos) (wC d) := by
  have one : ∃ y, RelV y v ∧ ∀ H, Rp X.K false H y d [] := by
    obtain ⟨y, h1, _⟩ := rpW_ok (K := X.K) (m := false) (H := fun _ => none) d v h
    refine ⟨y, h1, fun H => ?_⟩
    obtain ⟨z, h2, h3⟩ := rpW_ok (K := X.K) (m := false) (H := H) d v h
    have e : z = y := by
      cases v <;> cases y <;> cases z <;> simp_all [L2.RelV]
    exact e ▸ h3
  obtain ⟨y, h1, h2⟩ := one
  exact de_c (pe_glob hg hm h1 hd) h2
/-- the entries of a written dict -/
inductive EntW (K : PySem.W.Frag) : List DictEntry → List (Str × PyData) → Prop
  | nil : EntW K [] []
  | cons {h : Int} {x : Str} {t : Tok} {v : Value} {es : List DictEntry} {d : PyData} {kvs : List (Str × PyData)} : RpW K v d → EntW K es kvs → EntW K (⟨h, .str x t, v⟩ :: es) ((x, d) :: kvs)
def rpDc (K : PySem.W.Frag) (P : Params) (v : Value) (kvs : List (Str × PyData)) : Prop :=
  ∃ a es n, v = .ref a ∧ K.lookup a = some ⟨.type "dict", none, .dict es n, #[]⟩ ∧ (a == sysModules) = false ∧ PySem.W.KeysLit P es.toList ∧ EntW K es.toList kvs
def lookS : List (Str × PyData) → Str → Option PyData
  | [], _ => none
  | (k, d) :: r, x => if k = x then some d else lookS r x
theorem find_lookS {K : PySem.W.Frag} (x : Str) {es : List DictEntry} {kvs : List (Str × PyData)} (h : EntW K es kvs) :
    match lookS kvs x with
    | none => (es.find? fun e => Value.isStrOf x e.key) = none
    | some d => ∃ e, (es.find? fun e => Value.isStrOf x e.key) = some e ∧ RpW K e.val d := by
  induction h with
  | nil => simp [lookS]
  | @cons hh y t v es d kvs h1 h2 ih =>
    unfold lookS
    have ek : Value.isStrOf x (.str y t) = decide (y = x) := by
      show (y == x) = decide (y = x)
      by_cases hx : y = x
      · subst hx; simp
      · rw [decide_eq_false hx]; exact beq_false_of_ne hx
    by_cases hk : y = x
    · rw [if_pos hk]
      refine ⟨⟨hh, .str y t, v⟩, ?_, h1⟩
      rw [List.find?_cons, ek, decide_eq_true hk]
    · rw [if_neg hk]
      rw [List.find?_cons, ek, decide_eq_false hk]
      exact ih
section
variable {X : Cx} {v0 : Cv} {pos : Pos} {ea : Bool} {wa : WE} {a b : Expr}
/-- the constant, as an expression -/
def IsDc (X : Cx) (x : Str) (v : Value) (kvs : List (Str × PyData)) : Prop := X.mg x = some v ∧ rpDc X.K X.w.params v kvs
def rKIn (r : Addr) (kvs : List (Str × PyData)) (g : Bool → Bool) : R2 := fun x y H Q => y = .ref r ∧ ∃ s, x = .str s ∧ Q (.bl (g (lookS kvs s).isSome)) H
theorem find_arr {es : Array DictEntry} {x : Str} : PySem.findBy Value.isStrOf es x = (es.toList.find? fun e => Value.isStrOf x e.key).map (·.val) := by
  obtain ⟨l⟩ := es
  unfold PySem.findBy
  rw [List.find?_toArray]
theorem look_isSome {K : PySem.W.Frag} {x : Str} {es : Array DictEntry} {kvs : List (Str × PyData)} (h : EntW K es.toList kvs) : (PySem.findBy Value.isStrOf es x).isSome = (lookS kvs x).isSome := by
  have q := find_lookS (K := K) x h
  rw [find_arr, Option.isSome_map]
  split at q
  · rename_i e; rw [e, q]; rfl
  · rename_i e; obtain ⟨z, e1, _⟩ := q; rw [e, e1]; rfl
theorem op_kIn {r : Addr} {es : Array DictEntry} {n : Nat} {kvs : List (Str × PyData)} (hl : X.K.lookup r = some ⟨.type "dict", none, .dict es n, #[]⟩) (hs : (r == sysModules) = false) (hk : PySem.W.KeysLit X.w.params es.toList) (h : EntW X.K es.toList kvs) : OpR X (compareOp .In) (rKIn r kvs id) := by
  intro pins s σ H x y v u Q I rx ry q
  obtain ⟨rfl, k, rfl, q⟩ := q
  obtain rfl : u = Value.ref r := ry
  obtain ⟨t, rfl⟩ := rx
  refine wpAny_in_of (strKind_is X.prog X.w k t) hs (PySem.W.mapOf_K (prog := X.prog) I.kIn hl hk) ?_
  rw [look_isSome h]
  exact ⟨.bl _, H, I.tok _, rfl, q⟩
theorem op_kNotIn {r : Addr} {es : Array DictEntry} {n : Nat} {kvs : List (Str × PyData)} (hl : X.K.lookup r = some ⟨.type "dict", none, .dict es n, #[]⟩) (hs : (r == sysModules) = false) (hk : PySem.W.KeysLit X.w.params es.toList) (h : EntW X.K es.toList kvs) : OpR X (compareOp .NotIn) (rKIn r kvs not) := by
  intro pins s σ H x y v u Q I rx ry q
  obtain ⟨rfl, k, rfl, q⟩ := q
  obtain rfl : u = Value.ref r := ry
  obtain ⟨t, rfl⟩ := rx
  refine wpAny_notIn_of (strKind_is X.prog X.w k t) hs (PySem.W.mapOf_K (prog := X.prog) I.kIn hl hk) ?_
  rw [look_isSome h]
  exact ⟨.bl _, H, I.tok _, rfl, q⟩
/-- x in D, x not in D -/
def wInK (kvs : List (Str × PyData)) (g : Bool → Bool) (wa : WE) : WE := fun ρ Q => wa ρ fun ρ1 ra => match ra.d with
  | .str s => Q ρ1 (P (.bool (g (lookS kvs s).isSome)))
  | _ => False
theorem re_inK {r : Addr} {kvs : List (Str × PyData)} {g : Bool → Bool} {ta : TE} (ha : RE X.K v0 ea ta wa) : RE X.K v0 ea (tOp (rKIn r kvs g) ta (tC (.ref r))) (wInK kvs g wa) := by
  intro σ H ρ F S Qd Q h k
  refine ha σ H ρ F S _ _ h fun x H1 ρ1 F1 ra G1 S1 s1 p1 r1 h1 => ?_
  obtain ⟨ka, da⟩ := ra
  cases da <;> first | exact h1.elim | skip
  rename_i z
  refine ⟨rfl, z, arg_str r1.arg, ?_⟩
  exact k _ H1 ρ1 F1 (P _) [] S1 s1 p1 ⟨.bl _, fun _ i => nomatch i⟩ h1
variable {x : Str} {v : Value} {kvs : List (Str × PyData)} {p : Pos}
theorem de_inK (g : Gl X x) (hm : X.mg x = some v) (hv : rpDc X.K X.w.params v kvs) (ha : DE X v0 ea a wa) (hm2 : behindInMarks .In (.Name x p) = false) (hd : (x == ("__debug__" : Str)) = false := by decide) : DE X v0 ea (.Compare a [.In] [.Name x p] pos) (wInK kvs id wa) := by
  obtain ⟨ta, pa, ra⟩ := ha
  obtain ⟨r, es, n, rfl, hl, hs, hk, h⟩ := hv
  exact ⟨_, pe_cmpR (op_kIn hl hs hk h) pa (pe_glob g hm (v := .ref r) rfl hd) hm2, re_inK ra⟩
theorem de_notInK (g : Gl X x) (hm : X.mg x = some v) (hv : rpDc X.K X.w.params v kvs) (ha : DE X v0 ea a wa) (hm2 : behindInMarks .NotIn (.Name x p) = false) (hd : (x == ("__debug__" : Str)) = false := by decide) : DE X v0 ea (.Compare a [.NotIn] [.Name x p] pos) (wInK kvs not wa) := by
  obtain ⟨ta, pa, ra⟩ := ha
  obtain ⟨r, es, n, rfl, hl, hs, hk, h⟩ := hv
  exact ⟨_, pe_cmpR (op_kNotIn hl hs hk h) pa (pe_glob g hm (v := .ref r) rfl hd) hm2, re_inK ra⟩
theorem dt_inK (g : Gl X x) (hm : X.mg x = some v) (hv : rpDc X.K X.w.params v kvs) (ha : DE X v0 ea a wa) (hm2 : behindInMarks .In (.Name x p) = false) (hd : (x == ("__debug__" : Str)) = false := by decide) : DT X v0 ea (.Compare a [.In] [.Name x p] pos) (wB (wInK kvs id wa)) := by
  obtain ⟨ta, pa, ra⟩ := ha
  obtain ⟨r, es, n, rfl, hl, hs, hk, h⟩ := hv
  exact ⟨_, pt_cmpR (op_kIn hl hs hk h) pa (pe_glob g hm (v := .ref r) rfl hd) hm2, rt_b (re_inK ra)⟩
theorem dt_notInK (g : Gl X x) (hm : X.mg x = some v) (hv : rpDc X.K X.w.params v kvs) (ha : DE X v0 ea a wa) (hm2 : behindInMarks .NotIn (.Name x p) = false) (hd : (x == ("__debug__" : Str)) = false := by decide) : DT X v0 ea (.Compare a [.NotIn] [.Name x p] pos) (wB (wInK kvs not wa)) := by
  obtain ⟨ta, pa, ra⟩ := ha
  obtain ⟨r, es, n, rfl, hl, hs, hk, h⟩ := hv
  exact ⟨_, pt_cmpR (op_kNotIn hl hs hk h) pa (pe_glob g hm (v := .ref r) rfl hd) hm2, rt_b (re_inK ra)⟩
/-- D[x] -/
def wDcGet (kvs : List (Str × PyData)) (wa : WE) : WE := fun ρ Q => wa ρ fun ρ1 ra => match ra.d with
  | .str s => ∃ d, lookS kvs s = some d ∧ Q ρ1 (P d)
  | _ => False
def tDcGet (es : Array DictEntry) (ty : TE) : TE := fun σ H Q => ty σ H fun y H1 => ∃ s u z, y = .str s ∧ PySem.findBy Value.isStrOf es s = some u ∧ RelV z u ∧ Q z H1
theorem pe_dcget {r : Addr} {es : Array DictEntry} {n : Nat} {ty : TE} (hl : X.K.lookup r = some ⟨.type "dict", none, .dict es n, #[]⟩) (hk : PySem.W.KeysLit X.w.params es.toList) (ho : PE X b (tC (.ref r))) (hi : PE X a ty) (hs : NoSl a) : PE X (.Subscript b a pos) (tDcGet es ty) := by
  refine ⟨fun pins s σ H Q I h => ?_⟩
  refine subD_of PySem.F.slot_dict_getitem.lookup hs (thn (ho.run pins s σ H (fun x H1 => x = .ref r ∧ tDcGet es ty σ H1 Q) I ⟨rfl, h⟩) fun u s1 ⟨x, H1, I1, rx, ex, q1⟩ => thn (hi.run pins s1 σ H1 _ I1 q1) fun iv s2 ⟨y, H2, I2, ry, k, z, v, ey, f, rz, q2⟩ => ?_)
  subst ex ey
  obtain rfl : u = Value.ref r := rx
  obtain ⟨t, rfl⟩ := ry
  have ob := I2.kIn r _ hl
  exact ⟨⟨_, ob, rfl⟩, wpAny_getItem_of (strKind_is X.prog X.w k t) (PySem.W.mapOf_K (prog := X.prog) I2.kIn hl hk) f ⟨v, H2, I2.tok _, rz, q2⟩⟩
theorem de_dcget (g : Gl X x) (hm : X.mg x = some v) (hv : rpDc X.K X.w.params v kvs) (ha : DE X v0 ea a wa) (hs : NoSl a) (hd : (x == ("__debug__" : Str)) = false := by decide) : DE X v0 ea (.Subscript (.Name x p) a pos) (wDcGet kvs wa) := by
  obtain ⟨ta, pa, ra⟩ := ha
  obtain ⟨r, es, n, rfl, hl, hs', hk, hh⟩ := hv
  refine ⟨_, pe_dcget hl hk (pe_glob g hm (v := .ref r) rfl hd) pa hs, fun σ H ρ F S Qd Q h k => ?_⟩
  refine ra σ H ρ F S _ _ h fun y H1 ρ1 F1 rr G1 S1 s1 p1 r1 h1 => ?_
  obtain ⟨kb, db⟩ := rr
  cases db <;> first | exact h1.elim | skip
  rename_i z
  obtain ⟨d, hd1, q⟩ := h1
  have f := find_lookS (K := X.K) z hh
  rw [hd1] at f
  obtain ⟨e, f1, f2⟩ := f
  obtain ⟨w, h2, h3⟩ := rpW_ok (K := X.K) (m := false) (H := H1) d e.val f2
  exact ⟨z, e.val, w, arg_str r1.arg, by rw [find_arr, f1]; rfl, h2, k w H1 ρ1 F1 (P d) [] S1 s1 p1 ⟨h3, fun _ i => nomatch i⟩ q⟩
end
section
variable {prog : Program} {w : World} {A : Around} {E : Value → Shared → Prop} {s : Shared} {l : Addr} {its : List Value} {bs : List Bool} {Q : Value → Shared → Prop}
theorem all_raw (hh : A.handled = none) (hl : s.heap.IsList l its.toArray) (hb : LSm.BoolsAre its bs)
    (h : ∀ h' tk, (∀ b o, s.heap.get? b = some o → h'.get? b = some o) → Q (.bool (bs.all id)) { s with heap := h', toks := tk }) : wpAny (model prog w) A (call (.builtin "all") [.ref l]) Q E s := by
  have hlt : l < s.heap.objs.size := by obtain ⟨_, e, _⟩ := id hl; exact Heap.lt_size e
  refine call_all_walk (wpAny_pyIter_list hl ?_)
  refine ⟨s.heap.objs.size, [s.heap.objs.size, l], [s.heap.objs.size], its.toArray.size, _, _, fun i => (bs[i]?).getD true, rfl, Walks.list (A := A.in1) hh _ l (Nat.ne_of_lt hlt) its.toArray,
    ⟨⟨_, Heap.get?_push_size _ rfl, rfl, rfl⟩, hl.push _⟩, fun i v s' Q' E' hP hQ => ?_, fun h' tk hk => ?_⟩
  · obtain ⟨b, e, rfl⟩ := hb.get i v (by simpa using hP)
    simp only [e, Option.getD_some] at hQ
    exact wpAny_truthy_bool hQ
  · have e : ((List.range its.toArray.size).all fun i => (bs[i]?).getD true) = bs.all id := by
      rw [List.size_toArray, hb.length]; exact LSm.range_all bs
    rw [e]
    exact h h' tk (LSm.kept_iter hk)
end
theorem bools_vals : ∀ {bs : List Bool} {its : List Value}, Vals (bs.map V.bl) its → LSm.BoolsAre its bs
  | [], _, h => by cases h; exact .nil
  | b :: bs, _, h => by
    cases h with
    | cons r h =>
      cases (show _ = Value.bool b from r)
      exact .cons b (bools_vals h)
theorem rpall_bools {K : PySem.W.Frag} {H : Hp} {G : List Addr} : ∀ {bs : List Bool} {xs : List V}, RpAll K false H xs (bs.map PyData.bool) G → xs = bs.map V.bl
  | [], _, h => by cases h; rfl
  | b :: bs, _, h => by
    cases h with
    | cons h1 h2 =>
      cases h1
      rw [rpall_bools h2]; rfl
def rAll (K : PySem.W.Frag) : List V → Hp → VK → Prop := fun vs H Q => ∃ (a : Addr) (bs : List Bool), vs = [V.ref a] ∧ SqL K H a (bs.map V.bl) ∧ Q (.bl (bs.all id)) H
theorem call_allL {X : Cx} (hc : X.calm = true) : CallR X (.builtin "all") (rAll X.K) := by
  intro pins s σ H vs us Q I r h
  obtain ⟨a, bs, rfl, hs, q⟩ := h
  obtain ⟨its, rv, hl, _⟩ := I.list hs
  rw [Vals.ref1 r]
  exact all_raw (I.ok.hd hc) hl.isList (bools_vals rv) fun h' tk hk => ⟨.bl _, H, I.kept hk, rfl, q⟩
def wAll : List R → (R → Prop) → Prop
  | [r], Q => (match r.d with
    | .list ds => ∃ bs : List Bool, ds = bs.map PyData.bool ∧ Q (P (.bool (bs.all id)))
    | _ => False)
  | _, _ => False
theorem cd_all {K : PySem.W.Frag} : CD K (rAll K) wAll := by
  intro N H xs rs A Qd Q hw k
  match rs, A, hw with
  | [⟨kd, d⟩], A, hw =>
    obtain ⟨x, rfl, ax⟩ := A.one
    unfold wAll at hw
    cases d <;> first | exact hw.elim | skip
    rename_i ds
    obtain ⟨bs, rfl, q⟩ := hw
    obtain ⟨G, qx, _⟩ := ax
    obtain ⟨a, xs, _, rfl, hs, ra, _⟩ := Rp.sql (show Rp K false H x (.list (bs.map PyData.bool)) G from qx)
    rw [rpall_bools ra] at hs
    exact ⟨a, bs, rfl, hs, k _ H _ [] Ext.refl (NewOk.pure (.bl _)) q⟩
theorem wAll_l {k : Kd} {ds : List PyData} {Q : R → Prop} : wAll [⟨k, .list ds⟩] Q = ∃ bs : List Bool, ds = bs.map PyData.bool ∧ Q (P (.bool (bs.all id))) := rfl
def rngC (lo c : Int) (n : Nat) : List PyData := (List.range n).map fun (i : Nat) => PyData.int (lo + i * c)
theorem rngC_len {lo c : Int} {n : Nat} : (rngC lo c n).length = n := by simp [rngC]
theorem rngC_get {lo c : Int} {n i : Nat} (h : i < n) : (rngC lo c n)[i]? = some (.int (lo + (i : Nat) * c)) := by simp [rngC, h]
theorem wk_rangeC {K : PySem.W.Frag} {m : Bool} {F1 : Nat → List Addr} {H1 : Hp} {lo c : Int} {n : Nat} : WkOk K m F1 H1 (Itc lo c n) (rngC lo c n) := by
  refine ⟨fun _ => True, YFn fun i => .int (lo + (i : Nat) * c), by rw [rngC_len]; exact walk_rangeC, fun _ _ _ => trivial, fun i H x H' F' hi r lv y => ?_⟩
  obtain ⟨rfl, rfl⟩ := y
  exact ⟨_, rngC_get (by rw [rngC_len] at hi; exact hi), Ext.refl, [], .int _, fun a i => nomatch i⟩
/-- range(i, j, -1) -/
def wRngN (wr : WA) : WI := fun ρ Q => wr ρ fun ρ1 rs => match rs with
  | [⟨_, .int i⟩, ⟨_, .int j⟩, ⟨_, .int c⟩] => c = -1 ∧ (-(2 ^ 62) ≤ i ∧ i < 2 ^ 62 ∧ -(2 ^ 62) ≤ j ∧ j < 2 ^ 62) ∧ Q ρ1 (rngC i (-1) (i - j).toNat)
  | _ => False
theorem argsV3 {K : PySem.W.Frag} {N : Addr → Prop} {H : Hp} {r r' r'' : R} {vs : List V} (A : ArgsV K N H [r, r', r''] vs) : ∃ x y z, vs = [x, y, z] ∧ Arg K N H r x ∧ Arg K N H r' y ∧ Arg K N H r'' z := by
  cases A with
  | cons a t =>
    obtain ⟨y, z, rfl, b, c⟩ := argsV2 t
    exact ⟨_, y, z, rfl, a, b, c⟩
theorem di_range3 {X : Cx} {v0 : Cv} {pos : Pos} {ea : Bool} {tg : Expr} {a b c : Expr} {wr : WA} {p : Pos} (m : Bool) (hg : Gl X "range") (hm : X.mg "range" = none) (ha : DG X v0 ea [a, b, c] wr)
    (hs : starEach [a, b, c] X.env = (false, eval a X.env) :: starEach [b, c] X.env := by rfl) (hpl : (backTo pos (starEach [b, c] X.env)).any (·.1) = false := by rfl) : DI X v0 m ea tg (.Call (.Name "range" p) [a, b, c] [] pos) (wRngN wr) := by
  obtain ⟨t, p, q⟩ := ha
  refine ⟨_, pi_range3 hg hm p hs hpl, fun σ H ρ F S Qd Q h k => ?_⟩
  refine q σ H ρ F S _ _ h fun vs H1 ρ1 F1 rs S1 s1 e1 A h1 => ?_
  split at h1
  · rename_i k0 i k1 j k2 c
    obtain ⟨rfl, hb, h1⟩ := h1
    obtain ⟨x, y, z, rfl, ax, ay, az⟩ := argsV3 A.each
    rw [arg_int ax, arg_int ay, arg_int az]
    exact ⟨i, j, -1, (i - j).toNat, rfl, RgC.neg hb.1 hb.2.1 hb.2.2.1 hb.2.2.2, k _ H1 ρ1 F1 _ S1 s1 e1 wk_rangeC h1⟩
  · exact h1.elim
end DL
namespace DL
open PySem PySem.Spec PyProof.Rows L2
section
variable {X : Cx} {v0 : Cv} {pos : Pos} {wk wv : WE} {kx vx : Expr}
def tDispN (K : PySem.W.Frag) (tk tv : TE) : TE := fun σ H Q => ∀ p, H p = none → tPairs [(tk, tv)] σ (upd H p (.dK [])) fun ps H2 => H2 p = some (.dK []) ∧ ∃ b k v, ps = [(V.ref b, v)] ∧ KOk K H2 b k ∧ Q (.ref p) (upd H2 p (.ext (DictN p [(k, b, v)])))
theorem pe_dispN {tk tv : TE} (hu : X.A.units + 10 < cLine) (h : PPs X pos [some kx] [vx] [(tk, tv)]) : PE X (.Dict [some kx] [vx] pos) (tDispN X.K tk tv) := by
  refine ⟨fun pins s σ H Q I q => ?_⟩
  have hn := I.hok.fresh (Nat.le_refl s.heap.objs.size)
  have I1 := I.laid (a := s.heap.objs.size) (o := .dK []) (h' := s.heap.push { cls := .type "dict", data := .dict #[] }) (t' := s.toks) (fun _ _ q => Heap.get?_push_of_some _ q) (Nat.le_refl _) (dk_empty s.heap I.big)
  have hlen := pairTrees_length [some kx] [vx] X.env pos rfl rfl
  rw [arm_eval_Dict, zip_pairTrees [some kx] [vx] X.env pos rfl rfl, dictDisplay_pairs _ (fun e => by rw [e] at hlen; cases hlen) (by rw [hlen]; simp)]
  refine wpAny_bind (wpAny_standAt (wpAny_bind (wpAny_subDictH (knd := nestedKind X.prog X.w) (Q := fun d s' => wpAny (model X.prog X.w) X.A (pure (Value.ref d)) _ _ s') (show X.A.units + 8 < cLine by omega) (by rw [hlen]; simp) (thn (h.run pins _ σ _ _ I1 (q _ hn)) fun ws s2 ⟨ps, H2, I2, rel, e, b, k, v, ep, kb, q2⟩ => ?_))))
  subst ep
  cases rel with
  | @cons _ w0 _ ws h0 h1 =>
    cases h1
    obtain ⟨w1, w2⟩ := w0
    obtain ⟨hk, hv⟩ := h0
    obtain rfl : w1 = Value.ref b := hk
    obtain ⟨z, hd, xs, r, dd⟩ := dn_rd I2 (.inr ⟨rfl, e⟩) (fun _ z => nomatch z)
    cases r
    refine ⟨[(k, b, w2)], ⟨rfl, rfl, kb.is I2, True.intro⟩, dd, fun h' tk dd' hs => wpAny_pure ⟨.ref s.heap.objs.size, _, ?_, rfl, q2⟩⟩
    have dd' : h'.DictOfH (nestedKind X.prog X.w) s.heap.objs.size [(k, b, w2)] := dd'
    obtain ⟨o, arr, ep, hq, h2, h3, h4, _, h5⟩ := dd'
    refine d_write I2 (by rw [e]; exact True.intro) hs ⟨o, hq⟩ ⟨⟨by rw [sizeLine_eq]; simp, hd, _, .cons ⟨rfl, rfl, hv⟩ .nil, o, arr, ep, hq, h2, h3, ?_, h5⟩, ⟨o, hq⟩, fun _ _ x y => dictN_ext x y⟩
    rw [h4]
    exact (ent_eq (es := [(k, b, v)]) (.cons ⟨rfl, rfl, hv⟩ .nil) (fun e he => by rw [List.mem_singleton.mp he]; exact kb.2.2) X.w X.prog).symm
/-- {k: v}, k a tuple, v plain data -/
def wDispN (wk wv : WE) : WE := fun ρ Q => wk ρ fun ρ1 rk => wv ρ1 fun ρ2 r => pur r.d = true ∧ pur rk.d = true ∧ isTu rk.d = true ∧ ∃ k, nk rk.d = some k ∧ k.depth ≤ 8 ∧ Q ρ2 ⟨.own, .dict [(rk.d, r.d)]⟩
theorem de_dispN (hu : X.A.units + 64 < cLine) (hk : DE X v0 false kx wk) (hv : DE X v0 false vx wv) : DE X v0 false (.Dict [some kx] [vx] pos) (wDispN wk wv) := by
  obtain ⟨tk, p1, q1⟩ := hk
  obtain ⟨tv, p2, q2⟩ := hv
  refine ⟨_, pe_dispN (by omega) (pps_cons p1 p2 pps_nil), fun σ H ρ F S Qd Q h k => ?_⟩
  intro p np
  have ex : Ext H (upd H p (.dK [])) := Ext.upd np
  refine q1 σ _ ρ F (S.ext ex) _ _ h fun x H1 ρ1 F1 rk G1 S1 s1 e1 r1 h1 => ?_
  obtain ⟨f1, f2, x1⟩ := e1.non rfl
  subst f1; subst f2
  refine q2 σ H1 ρ1 F1 S1 _ _ h1 fun y H2 ρ2 F2 r G2 S2 s2 e2 r2 h2 => ?_
  obtain ⟨f1, f2, x2⟩ := e2.non rfl
  subst f1; subst f2
  obtain ⟨hpur, hpk, htu, key, hnk, hdp, hQ⟩ := h2
  obtain ⟨_, rv⟩ := Rp.pure' (m' := true) _ _ _ r2.read hpur
  have hp : H2 p = some (.dK []) := x2 _ _ (x1 _ _ upd_same)
  obtain ⟨b, rfl, kb⟩ := kok_of (r1.ext x2).read htu hnk hdp
  refine ⟨hp, b, key, y, rfl, kb, ?_⟩
  have xx : Ext H (upd H2 p (.ext (DictN p [(key, b, y)]))) := fun a o h => by
    rw [upd_ne (ne_of_none h np)]
    exact x2 _ _ (x1 _ _ (ex _ _ h))
  have tu : Tu H2 (upd H2 p (.ext (DictN p [(key, b, y)]))) := fun a xs h => by
    by_cases ha : a = p
    · subst ha
      rcases h with h | ⟨o, h⟩ <;> rw [hp] at h <;> cases h
    · rcases h with h | ⟨o, h⟩
      · exact .inl (by rw [upd_ne ha]; exact h)
      · exact .inr ⟨o, by rw [upd_ne ha]; exact h⟩
  obtain ⟨g0, rv'⟩ := Rp.pure' (m' := true) _ _ _ (Rp.keep tu _ _ _ rv (fun a z => nomatch z)) hpur
  refine k (.ref p) _ ρ2 F2 ⟨.own, .dict [(rk.d, r.d)]⟩ ([p] ++ ([] ++ [])) (S.ext xx) (Step.ext xx) (Eff.refl.ext xx) ⟨.dN (es := [(key, b, y)]) upd_same ⟨by simp [nks, hnk], fun e he => ?_, by simp⟩ (.cons rv' .nil), List.nodup_cons.mpr ⟨(fun z => by cases z), List.nodup_nil⟩, (fun a ha z => ?_), fun a ha => ?_⟩ hQ
  · rw [List.mem_singleton.mp he]
    exact ⟨KeyV.keep tu _ _ kb.1, kb.2.1⟩
  · have ha : a = p := by simpa using ha
    subst ha
    exact S.live _ z np
  · have ha : a = p := by simpa using ha
    subst ha
    exact .inr np
def rEqE (K : PySem.W.Frag) (g : Bool → Bool) : R2 := fun x y H Q => ∃ a b xs, x = .ref a ∧ y = .ref b ∧ SqT K H a xs ∧ SqT K H b [] ∧ Q (.bl (g xs.isEmpty)) H
theorem op_eqE (hu : X.A.units + 64 < cLine) : OpR X (compareOp .Eq) (rEqE X.K id) := by
  intro pins s σ H x y v u Q I rx ry h
  obtain ⟨a, b, xs, rfl, rfl, h1, h2, q⟩ := h
  cases rx
  cases ry
  obtain ⟨its, r, pl, hz⟩ := I.tuple h1
  obtain ⟨its2, r2, pl2, _⟩ := I.tuple h2
  cases r2
  have e : its.length = xs.length := by have := Paired.length r; omega
  refine SeqAt.eq_tupleAt (e := fun _ => true) pl pl2 (by omega) (fun j _ hj => absurd hj (by simp)) ⟨.bl xs.isEmpty, H, I, ?_, q⟩
  show Value.bool _ = Value.bool _
  congr 1
  cases xs with
  | nil => simp at e; subst e; rfl
  | cons _ _ => simp at e; simp [e]
def wEqE : R → R → (R → Prop) → Prop := fun a b Q => match a.d, b.d with
  | .tuple ds, .tuple [] => Q (P (.bool ds.isEmpty))
  | _, _ => False
theorem od_eqE {K : PySem.W.Frag} : OD K (rEqE K id) wEqE := by
  intro N H x y ⟨kx, dx⟩ ⟨ky, dy⟩ ax ay Qd Q hw k
  unfold wEqE at hw
  split at hw
  · rename_i ds e1 e2
    cases e1
    cases e2
    obtain ⟨G1, q1, _⟩ := ax
    obtain ⟨G2, q2, _⟩ := ay
    obtain ⟨a, xs, rfl, hs, ra⟩ := Rp.sqt (show Rp K false H x (.tuple ds) G1 from q1)
    obtain ⟨b, ys, rfl, hs2, rb⟩ := Rp.sqt (show Rp K false H y (.tuple []) G2 from q2)
    cases rb
    refine ⟨a, b, xs, rfl, rfl, hs, hs2, ?_⟩
    have e : xs.isEmpty = ds.isEmpty := by cases ra <;> rfl
    rw [e]
    exact k _ H _ [] Ext.refl (NewOk.pure (.bl _)) hw
  · exact hw.elim
end
end DL
namespace DL
open PySem PySem.Spec PyProof.Rows L2
section
variable {X : Cx} {v0 : Cv} {e hi : Expr} {we wh : WE} {ea eh : Bool} {pos p2 : Pos}
def wSlcH (we wh : WE) : WE := fun ρ Q => we ρ fun ρ1 r => wh ρ1 fun ρ2 rh => stb r = true ∧ ∃ i, rh.d = .int i ∧ match r.d with
  | .list ds => Q ρ2 ⟨kOf (cutD ds none (some i)), .list (cutD ds none (some i))⟩
  | .tuple ds => Q ρ2 ⟨kOfT (cutD ds none (some i)), .tuple (cutD ds none (some i))⟩
  | _ => False
theorem de_sliceH (he : DE X v0 ea e we) (hh : DE X v0 eh hi wh) : DE X v0 (ea || eh) (.Subscript e (.Slice none (some hi) none p2) pos) (wSlcH we wh) := by
  obtain ⟨t, p, q⟩ := he
  obtain ⟨th, ph, qh⟩ := hh
  refine ⟨_, pe_slice sl_any p po_none (po_some ph), fun σ H ρ F S Qd Q h k => ?_⟩
  refine q σ H ρ F S _ _ h fun x H1 ρ1 F1 r G S1 s1 e1 r1 h1 => ?_
  refine qh σ H1 ρ1 F1 S1 _ _ h1 fun y H3 ρ3 F3 rh G3 S3 s3 e3 rr3 h3 => ?_
  obtain ⟨hst, i, hi3, h3⟩ := h3
  obtain ⟨kh, dh⟩ := rh
  obtain rfl : dh = .int i := hi3
  refine ⟨i, arg_int rr3.arg, ?_⟩
  obtain ⟨G, r3⟩ := r1.step s3 hst
  have s3' := s1.trans s3
  have fin : ∀ v H' r' G', Ext H3 H' → NewOk X.K (fun a => ¬ Own F3 a) H3 H' r' v G' → Qd ρ3 r' → Q v H' := fun v H' r' G' ex n hq =>
    k v H' ρ3 F3 r' G' (S3.ext ex) (s3'.trans (Step.ext ex)) ((e1.trans e3).ext ex) (n.res S3 s3') hq
  obtain ⟨kd, d⟩ := r
  have rd : Rp X.K false H3 x d G := r3.read
  cases d <;> first | exact h3.elim | skip
  · rename_i ds
    obtain ⟨a, xs, _, rfl, hs, ra, _⟩ := Rp.sql rd
    refine .inl (.inl ⟨a, xs, rfl, hs, fun p np => ?_⟩)
    obtain ⟨G1, c1, _⟩ := ra.cut none (some i)
    obtain ⟨G', n⟩ := new_list (N := fun a => ¬ Own F3 a) np c1
    exact fin _ _ _ G' (Ext.upd np) n h3
  · rename_i ds
    have rd' := rd
    obtain ⟨a, xs, rfl, hs, ra⟩ := Rp.sqt rd
    refine .inl (.inr ⟨a, xs, rfl, hs, fun w => ?_, fun _ p np => ?_⟩)
    · have w' : HT.sIx ds.length 0 none = 0 ∧ HT.sIx ds.length ds.length (some i) = ds.length := by rw [← ra.length]; exact w
      obtain ⟨G', n⟩ := old_tup (N := fun a => ¬ Own F3 a) rd'
      refine fin _ H3 ⟨kOfT ds, .tuple ds⟩ G' Ext.refl n ?_
      have : cutD ds none (some i) = ds := sIx_whole ds none (some i) w'
      have h3 : Qd ρ3 ⟨kOfT (cutD ds none (some i)), .tuple (cutD ds none (some i))⟩ := h3
      rw [this] at h3
      exact h3
    · obtain ⟨G1, c1, _⟩ := ra.cut none (some i)
      obtain ⟨G', n⟩ := new_tup (N := fun a => ¬ Own F3 a) np c1
      exact fin _ _ _ G' (Ext.upd np) n h3
end
end DL
namespace DL
open PySem PySem.Spec PyProof.Rows L2
section
variable {X : Cx} {v0 : Cv} {o e f : Expr} {wo we wf : WE} {apos cpos : Pos}
theorem look_none {k : Key} {kvs : List (PyData × PyData)} {ks : List (Key × V)} (e : kvs.map (·.1) = ks.map (fun p => keyD p.1)) (h : lookD kvs k = none) : valV ks k = none := by
  have := look_some (k := k) e
  rw [h] at this
  cases q : valV ks k with
  | none => rfl
  | some v => rw [q] at this; cases this
/-- d.get(k, x) -/
def wGet2 (wo we wf : WE) : WE := fun ρ Q => wo ρ fun ρ1 ro => ∃ kvs, ro.d = .dict kvs ∧ (kvs.all fun kv => (keyOf kv.1).isSome) = true ∧ we ρ1 fun ρ2 re => wf ρ2 fun ρ3 rf => ∃ k, keyOf re.d = some k ∧ match lookD kvs k with
  | some d => pur d = true ∧ Q ρ3 (P d)
  | none => pur rf.d = true ∧ Q ρ3 (P rf.d)
theorem de_get2 (hu : X.A.units + 64 < cLine) (ho : DE X v0 false o wo) (he : DE X v0 false e we) (hf : DE X v0 false f wf) (m1 : attributeBase o "get" X.env (eval o X.env) = eval o X.env := by rfl)
    (m2 : ((backTo cpos (starEach [e, f] X.env)).all (fun x => !x.1) && (backToKw cpos (keywordEach [] X.env)).all (fun x => x.1.isSome)
    && decide (([e, f] : List Expr).length + ([] : List Keyword).length + (if ([] : List Keyword).isEmpty then 0 else 1) < 30)) = true := by rfl) (m3 : (apos.endLine == cpos.line) = true := by rfl) (m4 : backTo cpos (starEach [e, f] X.env) = [(false, eval e X.env), (false, eval f X.env)] := by rfl) :
    DE X v0 false (.Call (.Attribute o "get" apos) [e, f] [] cpos) (wGet2 wo we wf) := by
  obtain ⟨to, po, qo⟩ := ho
  obtain ⟨te, pe, qe⟩ := he
  obtain ⟨tf, pf, qf⟩ := hf
  refine ⟨_, pe_dget2 (by omega) po pe pf ⟨m1, m2, m3, m4⟩, fun σ H ρ F S Qd Q h k => ?_⟩
  refine qo σ H ρ F S _ _ h fun x H1 ρ1 F1 ro G1 S1 s1 e1 r1 h1 => ?_
  obtain ⟨f1, f2, x1⟩ := e1.non rfl
  subst f1; subst f2
  obtain ⟨kvs, hd, hall, h1⟩ := h1
  obtain ⟨ko, do_⟩ := ro
  obtain rfl : do_ = .dict kvs := hd
  have rd : Rp X.K false H1 x (.dict kvs) G1 := r1.read
  cases rd with
  | dN e1 e2 e3 =>
    exfalso
    cases kvs with
    | nil => exact e2.2.2 rfl
    | cons kv kvs =>
      have := keysN_no e2 kv (.head _)
      rw [List.all_cons, this] at hall
      simp at hall
  | @dK a ks _ G' d1 d2 d3 =>
    refine ⟨a, rfl, .inl ⟨ks, .inl d1⟩, ?_⟩
    refine qe σ H1 ρ1 F1 S1 _ _ h1 fun y H2 ρ2 F2 re G2 S2 s2 e2 r2 h2 => ?_
    obtain ⟨f1, f2, x2⟩ := e2.non rfl
    subst f1; subst f2
    refine qf σ H2 ρ2 F2 S2 _ _ h2 fun z H3 ρ3 F3 rf G3 S3 s3 e3 r3 h3 => ?_
    obtain ⟨f1, f2, x3⟩ := e3.non rfl
    subst f1; subst f2
    obtain ⟨k', hk, h3⟩ := h3
    have ey := key_V r2.read hk
    refine ⟨valV ks k', by rw [ey]; exact DGet.k (x3 _ _ (x2 _ _ d1)), ?_⟩
    have st := (s1.trans s2).trans s3
    have ef := (e1.trans e2).trans e3
    cases hl : lookD kvs k' with
    | some d =>
      simp only [hl] at h3
      obtain ⟨hp, hq⟩ := h3
      obtain ⟨v, G4, l1, l2, l3⟩ := look_dK d2 d3 hl
      rw [l1]
      obtain ⟨_, l2'⟩ := Rp.pure' (m' := false) _ _ _ l2 hp
      exact k v H3 ρ3 F3 (P d) [] S3 st ef ⟨l2'.keep (x2.trans x3).tu _ _ _ (fun _ i => nomatch i), fun _ i => nomatch i⟩ hq
    | none =>
      simp only [hl] at h3
      obtain ⟨hp, hq⟩ := h3
      rw [look_none d2 hl]
      obtain ⟨_, l2'⟩ := Rp.pure' (m' := false) _ _ _ r3.read hp
      exact k z H3 ρ3 F3 (P rf.d) [] S3 st ef ⟨l2', fun _ i => nomatch i⟩ hq
def prD (p : Key × PyData) : PyData := .tuple [keyD p.1, p.2]
def putPr (acc : List (PyData × PyData)) (prs : List (Key × PyData)) : List (PyData × PyData) := prs.foldl (fun acc p => putD acc p.1 p.2) acc
def rDictP (K : PySem.W.Frag) : List V → Hp → VK → Prop := fun xs H Q => ∃ (a : Addr) (ps : List Addr) (kvs : List (Key × V)), xs = [.ref a] ∧ SqL K H a (ps.map V.ref) ∧ Paired (fun p kv => SqT K H p [kV kv.1, kv.2]) ps kvs ∧
    ∀ p, H p = none → Q (.ref p) (upd H p (.dK (mergeK [] kvs)))
theorem call_dictPd {X : Cx} (hc : X.calm = true) : CallR X (.type "dict") (rDictP X.K) := call_dictP hc
def wDictP : List R → (R → Prop) → Prop
  | [r], Q => (match r.d with
    | .list ds => ∃ prs : List (Key × PyData), ds = prs.map prD ∧ (prs.all fun p => pur p.2) = true ∧ Q ⟨.own, .dict (putPr [] prs)⟩
    | _ => False)
  | _, _ => False
theorem pairs_rp {K : PySem.W.Frag} {H : Hp} : ∀ {prs : List (Key × PyData)} {xs : List V} {G : List Addr}, RpAll K false H xs (prs.map prD) G → (prs.all fun p => pur p.2) = true →
    ∃ (ps : List Addr) (kvs : List (Key × V)), xs = ps.map V.ref ∧ Paired (fun p kv => SqT K H p [kV kv.1, kv.2]) ps kvs ∧ Paired (fun (kv : Key × V) (p : Key × PyData) => kv.1 = p.1 ∧ Rp K true H kv.2 p.2 []) kvs prs
  | [], _, _, h, _ => by cases h; exact ⟨[], [], rfl, .nil, .nil⟩
  | (k, d) :: prs, _, _, h, hp => by
    simp only [List.all_cons, Bool.and_eq_true] at hp
    cases h with
    | cons h1 h2 =>
      obtain ⟨ps, kvs, rfl, q1, q2⟩ := pairs_rp h2 hp.2
      obtain ⟨a, ys, rfl, hs, ra⟩ := Rp.sqt (show Rp K false H _ (.tuple [keyD k, d]) _ from h1)
      cases ra with
      | cons r1 r2 =>
        cases r2 with
        | cons r2 r3 =>
          cases r3
          have ek := key_V r1 (k := k) (keyOf_D k)
          subst ek
          obtain ⟨_, r2'⟩ := Rp.pure' (m' := true) _ _ _ r2 hp.1
          exact ⟨a :: ps, (k, _) :: kvs, rfl, .cons hs q1, .cons ⟨rfl, r2'⟩ q2⟩
theorem merge_acc {K : PySem.W.Frag} {H : Hp} {p : Addr} : ∀ {kvs : List (Key × V)} {prs : List (Key × PyData)} {acc : List (PyData × PyData)} {ks : List (Key × V)}, Paired (fun (kv : Key × V) (p : Key × PyData) => kv.1 = p.1 ∧ Rp K true H kv.2 p.2 []) kvs prs → AccD K (upd H p (.dK ks)) p acc ks → H p = none →
    AccD K (upd H p (.dK (mergeK ks kvs))) p (putPr acc prs) (mergeK ks kvs)
  | [], _, _, _, h, A, _ => by cases h; exact A
  | (k, v) :: kvs, _, acc, ks, h, A, hp => by
    cases h with
    | @cons _ q _ prs h1 h2 =>
      obtain ⟨k', d⟩ := q
      obtain ⟨e, rv⟩ := h1
      obtain rfl : k = k' := e
      have rv : Rp K true H v d [] := rv
      have rv' : Rp K true (upd H p (.dK ks)) v d [] := rv.keep (Ext.upd hp).tu _ _ _ (fun _ i => nomatch i)
      have A2 := A.put (k := k) rv'
      have eu : upd (upd H p (.dK ks)) p (.dK (putK ks k v)) = upd H p (.dK (putK ks k v)) := by
        funext b
        unfold upd
        split <;> rfl
      rw [eu] at A2
      show AccD K (upd H p (.dK (mergeK (putK ks k v) kvs))) p (putPr (putD acc k d) prs) (mergeK (putK ks k v) kvs)
      exact merge_acc (kvs := kvs) (prs := prs) h2 A2 hp
theorem cd_dictP {K : PySem.W.Frag} : CD K (rDictP K) wDictP := by
  intro N H xs rs A Qd Q hw k
  match rs, A, hw with
  | [⟨kd, d⟩], A, hw =>
    obtain ⟨x, rfl, ax⟩ := A.one
    unfold wDictP at hw
    cases d <;> first | exact hw.elim | skip
    rename_i ds
    obtain ⟨prs, rfl, hp, q⟩ := hw
    obtain ⟨G, qx, _⟩ := ax
    obtain ⟨a, xs, _, rfl, hs, ra, _⟩ := Rp.sql (show Rp K false H x (.list (prs.map prD)) G from qx)
    obtain ⟨ps, kvs, rfl, q1, q2⟩ := pairs_rp ra hp
    refine ⟨a, ps, kvs, rfl, hs, q1, fun p np => ?_⟩
    have A0 : AccD K (upd H p (.dK [])) p [] [] := ⟨upd_same, rfl, .nil⟩
    have A' := merge_acc q2 A0 np
    exact k (.ref p) _ ⟨.own, .dict (putPr [] prs)⟩ [p] (Ext.upd np) ⟨.dK A'.hD A'.keys A'.vals, List.nodup_cons.mpr ⟨(fun z => nomatch z), List.nodup_nil⟩, fun b hb => by rw [List.mem_singleton.mp hb]; exact np⟩ q
theorem wDictP_l {k : Kd} {ds : List PyData} {Q : R → Prop} : wDictP [⟨k, .list ds⟩] Q = ∃ prs : List (Key × PyData), ds = prs.map prD ∧ (prs.all fun p => pur p.2) = true ∧ Q ⟨.own, .dict (putPr [] prs)⟩ := rfl
end
end DL
namespace DL
open PySem PySem.Spec PyProof.Rows L2
section
variable {X : Cx} {v0 : Cv} {a b c e o : Expr} {es : List Expr} {pos p apos cpos : Pos} {ea eb ec : Bool} {wa wb we : WE}
def wCnt (we wa : WE) : WE := fun ρ Q => we ρ fun ρ1 r => (∃ ds, r.d = .list ds) ∧ wa ρ1 fun ρ2 ra => ∃ (ns : List Int) (k : Int), r.d = .list (ns.map PyData.int) ∧ ra.d = .int k ∧ Q ρ2 (P (.int (ns.count k : Nat)))
theorem de_cnt (ho : DE X v0 ea o we) (ha : DE X v0 false a wa) (hbase : attributeBase o "count" X.env (eval o X.env) = eval o X.env := by rfl)
    (hfew : ((backTo cpos (starEach [a] X.env)).all (fun x => !x.1) && (backToKw cpos (keywordEach [] X.env)).all (fun x => x.1.isSome)
      && decide ([a].length + ([] : List Keyword).length + (if ([] : List Keyword).isEmpty then 0 else 1) < 30)) = true := by rfl)
    (hline : (apos.endLine == cpos.line) = true := by rfl) (hs : starEach [a] X.env = (false, eval a X.env) :: starEach [] X.env := by rfl) : DE X v0 ea (.Call (.Attribute o "count" apos) [a] [] cpos) (wCnt we wa) := by
  obtain ⟨t, p, q⟩ := ho
  obtain ⟨ta, pa, qa⟩ := ha
  refine ⟨_, pe_bm PySem.F.plainAttrs_list PySem.F.slot_list_count PySem.F.type_list_count mt_lcount p (pa_cons pa pa_nil hs) hbase hfew hline hs rfl, fun σ H ρ F S Qd Q h k => ?_⟩
  refine q σ H ρ F S _ _ h fun v H1 ρ1 F1 r G S1 s1 e1 r1 h1 => ?_
  obtain ⟨⟨ds, hds⟩, h1⟩ := h1
  obtain ⟨kd, d⟩ := r
  have hds : d = .list ds := hds
  subst hds
  obtain ⟨l, xs, G', rfl, hsq, ra, _⟩ := Rp.sql r1.read
  refine ⟨.inl ⟨rfl, _, hsq⟩, ?_⟩
  refine qa σ H1 ρ1 F1 S1 _ _ h1 fun y H2 ρ2 F2 r2 G2 S2 s2 e2 rr h2 => ?_
  obtain ⟨q1, q2, x2⟩ := e2.non rfl
  subst q1 q2
  obtain ⟨ns, j, hns, hj, hq⟩ := h2
  have hns : PyData.list ds = .list (ns.map PyData.int) := hns
  cases hns
  obtain ⟨l', xs', G'', e', hsq', ra', _⟩ := Rp.sql (r1.ext x2).read
  cases e'
  have hx := RpAll.ints ns ra'
  subst hx
  have ry : Rp X.K false H2 y r2.d G2 := rr.read
  rw [hj] at ry
  cases ry
  exact ⟨l, ns, j, rfl, rfl, hsq', k _ H2 ρ2 F2 (P (.int (ns.count j : Nat))) [] S2 (s1.trans s2) (e1.ext x2) ⟨.int _, fun _ z => nomatch z⟩ hq⟩
end
end DL
namespace DL
open PySem PySem.Spec PyProof.Rows L2
/-- a tuple of numbers -/
def tupZ (ks : List Int) : PyData := .tuple (ks.map PyData.int)
theorem pur_tupZ (ks : List Int) : pur (tupZ ks) = true := purs_ints ks
section
variable {K : PySem.W.Frag} {m : Bool} {H H' : Hp}
theorem tups_of : ∀ {kss : List (List Int)} {xs : List V} {G : List Addr}, RpAll K m H xs (kss.map tupZ) G → ∃ ks : List (Addr × List Int), xs = (ks.map fun p => V.ref p.1) ∧ ks.map (·.2) = kss ∧ ∀ p ∈ ks, SqT K H p.1 (p.2.map V.int)
  | [], xs, G, r => by
    cases r
    exact ⟨[], rfl, rfl, fun p hp => nomatch hp⟩
  | k :: kss, xs, G, r => by
    rw [List.map_cons] at r
    cases r with
    | cons h1 h2 =>
      obtain ⟨ks, e1, e2, e3⟩ := tups_of h2
      obtain ⟨t, ys, rfl, hs, ra⟩ := Rp.sqt (show Rp K m H _ (.tuple (k.map PyData.int)) _ from h1)
      rw [vals_ints ra] at hs
      refine ⟨(t, k) :: ks, by rw [e1]; rfl, by rw [List.map_cons, e2], fun p hp => ?_⟩
      rcases List.mem_cons.mp hp with rfl | hp
      · exact hs
      · exact e3 p hp
theorem tups_rp : ∀ (ks : List (Addr × List Int)), (∀ p ∈ ks, SqT K H p.1 (p.2.map V.int)) → RpAll K m H (ks.map fun p => V.ref p.1) ((ks.map (·.2)).map tupZ) []
  | [], _ => .nil
  | p :: ks, h => by
    have h1 : Rp K m H (.ref p.1) (.tuple (p.2.map PyData.int)) [] := .tup (h p (.head _)) (RpAll.ints' p.2)
    exact .cons (G1 := []) (G2 := []) h1 (tups_rp ks fun q hq => h q (.tail _ hq))
end
/-- len(set(xs)) -/
def tLenSetT (K : PySem.W.Frag) (ta : TE) : TE := fun σ H Q => ta σ H fun x H1 => ∃ (l : Addr) (ks : List (Addr × List Int)), x = V.ref l ∧ SqL K H1 l (ks.map fun p => V.ref p.1) ∧ (∀ p ∈ ks, SqT K H1 p.1 (p.2.map V.int)) ∧ ks.length < 64 ∧
  ∀ L : List (Addr × List Int), (∀ p ∈ L, p ∈ ks) → (∀ p ∈ ks, p.2 ∈ L.map (·.2)) → (L.map (·.2)).Nodup → Q (.int L.length) H1
theorem pe_lenSetT {X : Cx} {a : Expr} {ta : TE} {p p2 q pos : Pos} (hc : X.calm = true) (hu : X.A.units + 64 < cLine) (hg : Gl X "len") (hm : X.mg "len" = none) (hg2 : Gl X "set") (hm2 : X.mg "set" = none) (ha : PE X a ta)
    (na : starEach [a] X.env = (false, eval a X.env) :: starEach [] X.env := by rfl) : PE X (.Call (.Name "len" p) [.Call (.Name "set" p2) [a] [] q] [] pos) (tLenSetT X.K ta) := by
  refine ⟨fun pins s σ H Q I h => ?_⟩
  refine Call_ (ld_blt I hg hm PySem.boot_len ?_)
  refine PyProof.Rows.callWith_builtin1 (PyProof.Rows.args_cons ?_ rfl) rfl rfl
  refine Call_ (ld_blt I hg2 hm2 PyProof.Rows.boot_set ?_)
  refine PyProof.Rows.callWith_type1 (PyProof.Rows.args_cons (thn (ha.run pins s σ H _ I h) fun v s1 ⟨x, H1, I1, r1, q1⟩ => PyProof.Rows.args_nil ?_) na) na rfl
  obtain ⟨l, ks, rfl, hl, hk, hf, q1⟩ := q1
  cases r1
  obtain ⟨its, rv, pl, hz⟩ := I1.list hl
  refine call_set_tups (P := X.prog) (w := X.w) ks (I1.ok.hd hc) pl.isList (by simpa using refs_of_vals rv) (fun p hp => I1.isT (hk p hp)) hf (by omega) fun h' tk L es ep t R g hk => ?_
  refine PyProof.Rows.args_nil ?_
  obtain ⟨o, ho, hex, hd⟩ := R.ob
  have I2 : Inv X pins σ H1 { s1 with heap := h', toks := tk } := I1.kept fun b o e => hk b o e
  have hn : es.size = L.length := SetTR.size (s := { s1 with heap := h' }) R
  have hfw := R.few
  refine call_len_set ho hex hd (SetTR.fits (s := { s1 with heap := h' }) R) (by rw [hn] <;> omega) ⟨.int L.length, H1, I2.tok _, ⟨_, by rw [hn]⟩, q1 L (fun p hp => List.mem_of_mem_take (g.sub p hp)) (fun p hp => g.all p (by rw [List.take_length]; exact hp)) R.nd⟩
section
variable {X : Cx} {v0 : Cv} {a : Expr} {p p2 q pos : Pos} {ea : Bool} {wa : WE}
def wSetLen (we : WE) : WE := fun ρ Q => we ρ fun ρ1 r => ∃ kss : List (List Int), r.d = .list (kss.map tupZ) ∧ kss.length < 64 ∧ ∀ D : List (List Int), D.Nodup → (∀ k, k ∈ D ↔ k ∈ kss) → Q ρ1 (P (.int (D.length : Int)))
theorem set_mem {ks L : List (Addr × List Int)} {kss : List (List Int)} (e : ks.map (·.2) = kss) (l1 : ∀ p ∈ L, p ∈ ks) (l2 : ∀ p ∈ ks, p.2 ∈ L.map (·.2)) (k : List Int) : k ∈ L.map (·.2) ↔ k ∈ kss := by
  subst e
  constructor
  · intro h
    obtain ⟨p, hp, rfl⟩ := List.mem_map.mp h
    exact List.mem_map.mpr ⟨p, l1 p hp, rfl⟩
  · intro h
    obtain ⟨p, hp, rfl⟩ := List.mem_map.mp h
    exact l2 p hp
theorem de_lenSet (hc : X.calm = true) (hu : X.A.units + 64 < cLine) (hg : Gl X "len") (hm : X.mg "len" = none) (hg2 : Gl X "set") (hm2 : X.mg "set" = none) (ha : DE X v0 ea a wa)
    (na : starEach [a] X.env = (false, eval a X.env) :: starEach [] X.env := by rfl) : DE X v0 ea (.Call (.Name "len" p) [.Call (.Name "set" p2) [a] [] q] [] pos) (wSetLen wa) := by
  obtain ⟨t, pa, qa⟩ := ha
  refine ⟨_, pe_lenSetT hc hu hg hm hg2 hm2 pa na, fun σ H ρ F S Qd Q h k => ?_⟩
  refine qa σ H ρ F S _ _ h fun x H1 ρ1 F1 r G S1 s1 e1 r1 h1 => ?_
  obtain ⟨kss, hd, hl, hq⟩ := h1
  have rd := r1.read
  rw [hd] at rd
  obtain ⟨l, xs, G', rfl, hsq, ra, _⟩ := Rp.sql rd
  obtain ⟨ks, rfl, ek, hks⟩ := tups_of ra
  refine ⟨l, ks, rfl, hsq, hks, by rw [← List.length_map (f := fun p : Addr × List Int => p.2) (as := ks), ek]; exact hl, fun L l1 l2 l3 => ?_⟩
  have hq' := hq (L.map (·.2)) l3 (set_mem ek l1 l2)
  rw [List.length_map] at hq'
  exact k _ H1 ρ1 F1 (P (.int (L.length : Int))) [] S1 s1 e1 ⟨.int _, fun _ z => nomatch z⟩ hq'
/-- sorted(set(xs)) -/
def wSetSort (we : WE) : WE := fun ρ Q => we ρ fun ρ1 r => ∃ (kss : List (List Int)) (d : Nat) (B : Int), r.d = .list (kss.map tupZ) ∧ kss.length < 64 ∧ 1 ≤ d ∧ (∀ k ∈ kss, k.length = d ∧ TS.Bd B k) ∧
  ∀ D : List (List Int), D.Nodup → (∀ k, k ∈ D ↔ k ∈ kss) → D.Pairwise (fun k j => TS.code B k ≤ TS.code B j) → Q ρ1 ⟨.own, .list (D.map tupZ)⟩
theorem de_sortSet (hc : X.calm = true) (hu : X.A.units + 64 < cLine) (hg : Gl X "sorted") (hm : X.mg "sorted" = none) (hg2 : Gl X "set") (hm2 : X.mg "set" = none) (ha : DE X v0 ea a wa)
    (n1 : starEach [a] X.env = (false, eval a X.env) :: starEach [] X.env := by rfl) (n2 : (backTo q (starEach [] X.env)).any (·.1) = false := by rfl)
    (n3 : starEach [.Call (.Name "set" p2) [a] [] q] X.env = (false, eval (.Call (.Name "set" p2) [a] [] q) X.env) :: starEach [] X.env := by rfl) (n4 : (backTo pos (starEach [] X.env)).any (·.1) = false := by rfl) :
    DE X v0 ea (.Call (.Name "sorted" p) [.Call (.Name "set" p2) [a] [] q] [] pos) (wSetSort wa) := by
  obtain ⟨t, pa, qa⟩ := ha
  refine ⟨_, pe_callB (cr_sortedT hc) hg hm (by decide +kernel) (pa_cons (pe_callTy (cr_setOfT hc hu) hg2 hm2 (by decide +kernel) (pa_cons pa pa_nil n1) (by decide) (by decide) n1 n2) pa_nil n3) (by decide) (by decide) n3 n4, fun σ H ρ F S Qd Q h k => ?_⟩
  refine qa σ H ρ F S _ _ h fun x H1 ρ1 F1 r G S1 s1 e1 r1 h1 => ?_
  obtain ⟨kss, d, B, hd, hl, h1d, hB, hq⟩ := h1
  have rd := r1.read
  rw [hd] at rd
  obtain ⟨l, xs, G', rfl, hsq, ra, _⟩ := Rp.sql rd
  obtain ⟨ks, rfl, ek, hks⟩ := tups_of ra
  refine ⟨l, ks, rfl, hsq, hks, by rw [← List.length_map (f := fun p : Addr × List Int => p.2) (as := ks), ek]; exact hl, fun a L na l1 l2 => ?_⟩
  have ex1 : Ext H1 (upd H1 a (SetTO X.prog X.w a L)) := Ext.upd na
  refine ⟨a, L, d, B, rfl, upd_same, fun p hp => sqt_keep (hks p (l1 p hp)) ex1.tu, h1d, fun p hp => hB _ (by rw [← ek]; exact List.mem_map.mpr ⟨p, l1 p hp, rfl⟩), fun L' p pm nd few pw np => ?_⟩
  have ex2 : Ext (upd H1 a (SetTO X.prog X.w a L)) (upd (upd H1 a (SetTO X.prog X.w a L)) p (.lst (L'.map fun q => V.ref q.1))) := Ext.upd np
  have ex := ex1.trans ex2
  have rp : RpAll X.K false (upd H1 a (SetTO X.prog X.w a L)) (L'.map fun q => V.ref q.1) ((L'.map (·.2)).map tupZ) [] := tups_rp L' fun q hq' => sqt_keep (hks q (l1 q (pm.mem_iff.mp hq'))) ex1.tu
  obtain ⟨G2, nw⟩ := new_list (N := fun a => ¬ Own F1 a) np rp
  rw [kOf_pur (purs_map' fun k _ => pur_tupZ k)] at nw
  have nw : NewOk X.K (fun a => ¬ Own F1 a) H1 (upd (upd H1 a (SetTO X.prog X.w a L)) p (.lst (L'.map fun q => V.ref q.1))) ⟨.own, .list ((L'.map (·.2)).map tupZ)⟩ (.ref p) G2 := by
    obtain ⟨n1, n2, n3⟩ := nw
    refine ⟨n1, n2, fun b hb => ?_⟩
    have := n3 b hb
    by_cases e : b = a
    · subst e; exact na
    · rwa [upd_ne e] at this
  refine k _ _ ρ1 F1 _ G2 (S1.ext ex) (s1.trans (Step.ext ex)) (e1.ext ex) (nw.res S1 s1) (hq (L'.map (·.2)) nd (fun z => ?_) ?_)
  · rw [← set_mem ek l1 l2 z]
    exact (pm.map (·.2)).mem_iff
  · exact List.pairwise_map.mpr pw
end
end DL
namespace DL
open PySem PySem.Spec PyProof.Rows L2
section
variable {X : Cx} {v0 : Cv} {a o : Expr} {pos p apos cpos : Pos} {ea eb : Bool} {wa we : WE}
def wIdxD (we wa : WE) : WE := fun ρ Q => we ρ fun ρ1 r => (∃ ds, r.d = .list ds) ∧ stb r = true ∧ wa ρ1 fun ρ2 ra => idxR r.d ra.d (Q ρ2)
theorem de_indexD (hu : X.A.units + 65 < cLine) (ho : DE X v0 ea o we) (ha : DE X v0 eb a wa) (hbase : attributeBase o "index" X.env (eval o X.env) = eval o X.env := by rfl)
    (hfew : ((backTo cpos (starEach [a] X.env)).all (fun x => !x.1) && (backToKw cpos (keywordEach [] X.env)).all (fun x => x.1.isSome)
      && decide ([a].length + ([] : List Keyword).length + (if ([] : List Keyword).isEmpty then 0 else 1) < 30)) = true := by rfl)
    (hline : (apos.endLine == cpos.line) = true := by rfl) (hs : starEach [a] X.env = (false, eval a X.env) :: starEach [] X.env := by rfl) : DE X v0 (ea || eb) (.Call (.Attribute o "index" apos) [a] [] cpos) (wIdxD we wa) := by
  obtain ⟨t, p, q⟩ := ho
  obtain ⟨ta, pa, qa⟩ := ha
  refine ⟨_, pe_bm PySem.F.plainAttrs_list PySem.F.slot_list_index PySem.F.type_list_index (mt_indexD hu) p (pa_cons pa pa_nil hs) hbase hfew hline hs rfl, fun σ H ρ F S Qd Q h k => ?_⟩
  refine q σ H ρ F S _ _ h fun v H1 ρ1 F1 r G S1 s1 e1 r1 h1 => ?_
  obtain ⟨⟨ds, hds⟩, hst, h1⟩ := h1
  obtain ⟨kd, d⟩ := r
  have hds : d = .list ds := hds
  subst hds
  obtain ⟨l, xs, G', rfl, hsq, ra, _⟩ := Rp.sql r1.read
  refine ⟨.inl ⟨rfl, _, hsq⟩, ?_⟩
  refine qa σ H1 ρ1 F1 S1 _ _ h1 fun y H2 ρ2 F2 r2 G2 S2 s2 e2 rr h2 => ?_
  obtain ⟨n1, n2, c1, c2, j, ⟨z, hz, hzj⟩, hno, hq⟩ := h2
  obtain ⟨G3, r3⟩ := r1.step s2 hst
  have rl := r3.read
  exact ⟨l, y, r2.d, ds, j, z, rfl, rfl, Rp.dp _ _ _ rl (by simpa [nodct] using n1), Rp.dp _ _ _ rr.read n2, c1, c2, hz, hzj, hno, k _ H2 ρ2 F2 (P (.int (j : Nat))) [] S2 (s1.trans s2) (e1.trans e2) ⟨.int _, fun _ z => nomatch z⟩ hq⟩
end
end DL
namespace DL
open PySem PySem.Spec PyProof.Rows L2
section
variable {X : Cx} {pins : List (Addr × Obj)} {σ : L2.St} {H : Hp} {s : Shared} {d : Addr} {o : Obj} {es : List (NestedKey × Addr × V)}
theorem frzN (I : Inv X pins σ H s) (h : H d = some (.frz o (.ext (DictN d es)))) :
    (d == sysModules) = false ∧ s.heap.get? d = some o ∧ o.ExactDict ∧ ∃ (arr : Array DictEntry) (ep : Nat), o.data = .dict arr ep ∧ arr.size = es.length ∧
      ∀ (i : Nat) (e : NestedKey × Addr × V), es[i]? = some e → ∃ en : DictEntry, arr[i]? = some en ∧ en.key = .ref e.2.1 := by
  obtain ⟨hd, ⟨h1, h2, xs, r, o', arr, ep, h3, h4, h5, h6, h7⟩, _⟩ := I.hok d _ h
  rw [hd] at h3
  cases h3
  have l1 : es.length = xs.length := Paired.length r
  refine ⟨h2, hd, h4, arr, ep, h5, ?_, fun i e he => ?_⟩
  · rw [← Array.length_toList, h6, List.length_map, l1]
  · obtain ⟨b, hb, e1, e2, _⟩ := paired_get r he
    have q : arr.toList[i]? = some ⟨hN b.1, .ref b.2.1, b.2.2⟩ := by rw [h6, List.getElem?_map, hb]; rfl
    rw [Array.getElem?_toList] at q
    exact ⟨_, q, by rw [e2]⟩
end
/-- the keys of the locked dict at d, in their order -/
def Itn (d : Addr) (o : Obj) (es : List (NestedKey × Addr × V)) : It :=
  ⟨fun i H => H d = some (.frz o (.ext (DictN d es))) ∧ i < es.length, fun i H x H' => H' = H ∧ ∃ e, es[i]? = some e ∧ x = V.ref e.2.1, fun i H => H d = some (.frz o (.ext (DictN d es))) ∧ es.length ≤ i⟩
theorem turn_keysN {P : Program} {w : World} {K : PySem.W.Frag} {tg : Expr} {d : Addr} {o : Obj} {arr : Array DictEntry} {ep : Nat} {es : List (NestedKey × Addr × V)} (it : Addr) (hod : o.data = .dict arr ep) : Turn P w K tg (Itn d o es) [it] it (fun i h => h.IsKeyIter it d i es.length ep) where
  mem := by simp
  obj := fun i h st b hb => by
    have e : b = it := by simpa using hb
    subst e
    obtain ⟨oi, e, c, dd⟩ := st
    exact ⟨oi, e, fun v z => by rw [dd] at z; cases z⟩
  keep := fun i h h' st k => st.at fun oi e => k it (by simp) oi e
  item := by
    intro X hP hw hK hc i pins s σ H E I hf st hg
    subst hP hw hK
    obtain ⟨hd, hi⟩ := hg
    obtain ⟨f0, f1, f2, f3, f4, f5⟩ := hf it (by simp)
    obtain ⟨hs, hgd, hx, es', ep', hdt, hsz, ent⟩ := frzN I hd
    obtain ⟨rfl, rfl⟩ := dict_ep hod hdt
    obtain ⟨e, he⟩ : ∃ p, es[i]? = some p := ⟨es[i], List.getElem?_eq_getElem hi⟩
    obtain ⟨en, hen, hkey⟩ := ent i e he
    refine next_key_item st hgd hdt hsz hen fun h' st' sb => ?_
    have I1 : Inv X pins σ H { s with heap := h' } := I.turned (t' := s.toks) (fun b ob hb e => (sb.2 b hb).trans e) f0 f1 f3 f4 f5
    obtain ⟨oi, e1, c, dd⟩ := id st'
    exact ⟨en.key, rfl, go_of (s := { s with heap := h' }) e1 c dd (by decide) ⟨.ref e.2.1, H, I1, hkey, ⟨rfl, e, he, rfl⟩, st', fun b hb => (hf b hb).1⟩⟩
  done := by
    intro X hP hw hK hc i pins s σ H E I hf st hg
    subst hP hw hK
    obtain ⟨hd, hi⟩ := hg
    obtain ⟨f0, f1, f2, f3, f4, f5⟩ := hf it (by simp)
    obtain ⟨hs, hgd, hx, es', ep', hdt, hsz, ent⟩ := frzN I hd
    obtain ⟨rfl, rfl⟩ := dict_ep hod hdt
    exact next_key_end (I.ok.hd hc) st hgd hdt hsz hi fun h' eb => ⟨rfl, I.turned (t' := s.toks) (fun b ob hb e => eb b ob hb e) f0 f1 f3 f4 f5⟩
  self := fun A i s Q E st h => by
    refine wpAny_pyIter_slot st.typeIs F.slot_dict_keyiterator_iter (wpAny_call_entry F.slot_dict_keyiterator_iter st.typeIs F.entry_dict_keyiterator_iter ?_ (F.args_dict_keyiterator_iter_1 _))
    show wpAny _ _ (ret (.ref it)) _ _ s
    exact wpAny_pure ⟨_, rfl, "dict_keyiterator", _, st.typeIs, F.slot_dict_keyiterator_next.lookup, h⟩
def iKeysN (td : TE) : TI := fun σ H R => td σ H fun x H1 => ∃ d o, x = .ref d ∧ ((∃ kvs, H1 d = some (.frz o (.dK kvs)) ∧ R (Itk d o kvs) H1) ∨ ∃ es, H1 d = some (.frz o (.ext (DictN d es))) ∧ R (Itn d o es) H1)
theorem pi_keysN {X : Cx} {tg e : Expr} {td : TE} (he : PE X e td) : PI X tg e (iKeysN td) := by
  refine ⟨fun pins s σ H R I h => ?_⟩
  refine thn (he.run pins s σ H _ I h) fun u s1 ⟨x, H1, I1, rx, d, o, ex, q⟩ => ?_
  subst ex
  obtain rfl : u = Value.ref d := rx
  rcases q with ⟨kvs, hd, q⟩ | ⟨es, hd, q⟩
  · obtain ⟨hs, hgd, hx, es, ep, vs, hdt, hsz, kv, hm⟩ := I1.frzK hd
    refine iter_keys hs hgd hx hdt (pi_one (tk := s1.toks) I1 _ (turn_keys _ hdt) ⟨_, Heap.get?_push_size _ rfl, rfl, ?_⟩ q)
    rw [hsz] <;> rfl
  · obtain ⟨hs, hgd, hx, es, ep, hdt, hsz, ent⟩ := frzN I1 hd
    refine iter_keys hs hgd hx hdt (pi_one (tk := s1.toks) I1 _ (turn_keysN _ hdt) ⟨_, Heap.get?_push_size _ rfl, rfl, ?_⟩ q)
    rw [hsz] <;> rfl
section
variable {K : PySem.W.Frag} {m : Bool} {H H' : Hp} {d : Addr} {od : Obj} {u : HO}
/-- a dict's object -/
def IsD (u : HO) : Prop := (∃ ks, u = .dK ks) ∨ ∃ φ, u = .ext φ
mutual
theorem Rp.nofrz (hu : IsD u) : ∀ (e : PyData) (v : V) (G : List Addr), Rp K m H v e G → ∀ a ∈ G, H a ≠ some (.frz od u)
  | .none, _, _, h => by
    cases h
    intro a z
    cases z
  | .bool _, _, _, h => by
    cases h
    intro a z
    cases z
  | .int _, _, _, h => by
    cases h
    intro a z
    cases z
  | .str _, _, _, h => by
    cases h
    intro a z
    cases z
  | .list ds, _, _, h => by
    cases h with
    | lst hm hs ha =>
      intro a z
      rcases List.mem_cons.mp z with rfl | z
      · intro q
        rcases hs with hs | ⟨o, hs⟩
        · rw [hs] at q; cases q
        · rw [hs] at q
          cases q
          rcases hu with ⟨ks, e⟩ | ⟨φ, e⟩ <;> cases e
      · exact RpAll.nofrz hu ds _ _ ha a z
    | lstK hm hs ha => exact RpAll.nofrz hu ds _ _ ha
  | .tuple ds, _, _, h => by
    cases h with
    | tup hs ha => exact RpAll.nofrz hu ds _ _ ha
  | .dict kvs, _, _, h => by
    cases h with
    | dK h1 h2 h3 =>
      intro a z
      rcases List.mem_cons.mp z with rfl | z
      · rw [h1]; simp
      · exact RpAll.nofrzV hu kvs _ _ h3 a z
    | dN h1 h2 h3 =>
      intro a z
      rcases List.mem_cons.mp z with rfl | z
      · rw [h1]; simp
      · exact RpAll.nofrzV hu kvs _ _ h3 a z
theorem RpAll.nofrz (hu : IsD u) : ∀ (ds : List PyData) (vs : List V) (G : List Addr), RpAll K m H vs ds G → ∀ a ∈ G, H a ≠ some (.frz od u)
  | [], _, _, h => by
    cases h
    intro a z
    cases z
  | d :: ds, _, _, h => by
    cases h with
    | cons h1 h2 =>
      intro a z
      rcases List.mem_append.mp z with z | z
      · exact Rp.nofrz hu d _ _ h1 a z
      · exact RpAll.nofrz hu ds _ _ h2 a z
theorem RpAll.nofrzV (hu : IsD u) : ∀ (kvs : List (PyData × PyData)) (vs : List V) (G : List Addr), RpAll K m H vs (kvs.map (·.2)) G → ∀ a ∈ G, H a ≠ some (.frz od u)
  | [], _, _, h => by
    cases h
    intro a z
    cases z
  | (_, d) :: ds, _, _, h => by
    cases h with
    | cons h1 h2 =>
      intro a z
      rcases List.mem_append.mp z with z | z
      · exact Rp.nofrz hu d _ _ h1 a z
      · exact RpAll.nofrzV hu ds _ _ h2 a z
end
theorem tu_lock (hd : H d = some u) (hu : IsD u) : Tu H (upd H d (.frz od u)) := fun a xs h => by
  have ne : a ≠ d := fun z => by
    rcases h with h | ⟨o, h⟩ <;> rw [z, hd] at h <;> cases h <;> rcases hu with ⟨ks, e⟩ | ⟨φ, e⟩ <;> cases e
  rcases h with h | ⟨o, h⟩
  · exact .inl (by rw [upd_ne ne]; exact h)
  · exact .inr ⟨o, by rw [upd_ne ne]; exact h⟩
theorem tu_unlock (hd : H d = some (.frz od u)) (hu : IsD u) : Tu H (upd H d u) := fun a xs h => by
  have ne : a ≠ d := fun z => by
    rcases h with h | ⟨o, h⟩ <;> rw [z, hd] at h <;> cases h <;> rcases hu with ⟨ks, e⟩ | ⟨φ, e⟩ <;> cases e
  rcases h with h | ⟨o, h⟩
  · exact .inl (by rw [upd_ne ne]; exact h)
  · exact .inr ⟨o, by rw [upd_ne ne]; exact h⟩
theorem Rp.lock (hd : H d = some u) (hu : IsD u) {e : PyData} {v : V} {G : List Addr} (h : Rp K m H v e G) (n : d ∉ G) : Rp K m (upd H d (.frz od u)) v e G :=
  h.keep (tu_lock hd hu) _ _ _ fun a ha o q => by rw [upd_ne (fun z : a = d => n (by rw [← z]; exact ha))]; exact q
theorem Rp.unlock (hd : H d = some (.frz od u)) (hu : IsD u) {e : PyData} {v : V} {G : List Addr} (h : Rp K m H v e G) : Rp K m (upd H d u) v e G :=
  h.keep (tu_unlock hd hu) _ _ _ fun a ha o q => by rw [upd_ne (fun z : a = d => Rp.nofrz (od := od) hu _ _ _ h a ha (by rw [z]; exact hd))]; exact q
end
/-- but for slot i: pure, or owned -/
def lone (ρ : DEnv) (i : Nat) : Bool := (List.range ρ.length).all fun j => j == i || match ρ[j]? with
  | some (some r) => r.k != .shr || pur r.d
  | _ => true
section
variable {K : PySem.W.Frag} {v0 : Cv} {σ : L2.St} {H H1 H' : Hp} {ρ ρ' : DEnv} {F F' : Nat → List Addr} {d : Addr} {od : Obj} {u : HO} {i : Nat} {k : Kd} {kvs : List (PyData × PyData)}
def drp (F : Nat → List Addr) (i : Nat) : Nat → List Addr := fun j => if j = i then [] else F j
theorem drp_own {a : Addr} (h : Own (drp F i) a) : Own F a := by
  obtain ⟨j, h⟩ := h
  unfold drp at h
  split at h
  · cases h
  · exact ⟨j, h⟩
/-- the state while the dict in slot i is locked -/
theorem StOk.lock (S : StOk K v0 σ H ρ F) (hr : ρ[i]? = some (some ⟨k, .dict kvs⟩)) (hv : σ[i]? = some (some (V.ref d))) (hd : H d = some u) (hu : IsD u) (hk : (k = .own ∧ d ∈ F i) ∨ (k = .shr ∧ lone ρ i = true ∧ ¬ Own F d)) :
    StOk K ⟨v0.v, v0.ex, if k = .own then drp F i else F, upd H d (.frz od u)⟩ σ (upd H d (.frz od u)) (ρ.set i none) (if k = .own then drp F i else F) := by
  have hi : i < ρ.length := by
    obtain ⟨h, _⟩ := List.getElem?_eq_some_iff.mp hr
    exact h
  have sub : ∀ a, Own (if k = .own then drp F i else F) a → Own F a := fun a h => by
    split at h
    · exact drp_own h
    · exact h
  have at' : ∀ j, j ≠ i → (if k = .own then drp F i else F) j = F j := fun j hj => by
    split
    · simp [drp, hj]
    · rfl
  have nin : ∀ j, j ≠ i → d ∉ F j := fun j hj z => by
    rcases hk with ⟨_, h⟩ | ⟨_, _, h⟩
    · exact hj (S.dj j i d z h)
    · exact h ⟨j, z⟩
  refine ⟨fun j r hj => ?_, fun j => ?_, fun j1 j2 a h1 h2 => ?_, fun a h => ?_, by rw [List.length_set]; exact S.len, S.sm, Step.refl⟩
  · have ne : j ≠ i := fun z => by
      subst z
      rw [List.getElem?_set_self hi] at hj
      cases hj
    rw [List.getElem?_set_ne (Ne.symm ne)] at hj
    obtain ⟨v, h1, h2⟩ := S.slot j r hj
    refine ⟨v, h1, ?_⟩
    obtain ⟨kr, dr⟩ := r
    cases kr with
    | shr =>
      obtain ⟨G, g1, g2⟩ := (show ∃ G, Rp K false H v dr G ∧ ∀ a ∈ G, ¬ Own F a from h2)
      have nd : ∃ G, Rp K false H v dr G ∧ (∀ a ∈ G, ¬ Own F a) ∧ d ∉ G := by
        rcases hk with ⟨_, h⟩ | ⟨_, h, _⟩
        · exact ⟨G, g1, g2, fun z => g2 d z ⟨i, h⟩⟩
        · have hl : j < ρ.length := by
            obtain ⟨h, _⟩ := List.getElem?_eq_some_iff.mp hj
            exact h
          have q := List.all_eq_true.mp h j (List.mem_range.mpr hl)
          rw [hj] at q
          simp [ne] at q
          obtain ⟨_, g3⟩ := Rp.pure' (m' := false) _ _ _ g1 q
          exact ⟨[], g3, fun a z => (nomatch z), fun z => nomatch z⟩
      obtain ⟨G, g1, g2, g3⟩ := nd
      exact ⟨G, Rp.lock hd hu g1 g3, fun a z q => g2 a z (sub a q)⟩
    | own =>
      have h2 : Rp K true H v dr (F j) := h2
      show Rp K true _ v dr _
      rw [at' j ne]
      exact Rp.lock hd hu h2 (nin j ne)
    | fix =>
      have h2 : Rp K true H v dr (F j) ∧ v0.v[j]? = some (some v) := h2
      refine ⟨?_, h2.2⟩
      show Rp K true _ v dr _
      rw [at' j ne]
      exact Rp.lock hd hu h2.1 (nin j ne)
    | als => exact h2
  · split
    · unfold drp
      split
      · exact List.nodup_nil
      · exact S.nd j
    · exact S.nd j
  · have q : ∀ j, a ∈ (if k = .own then drp F i else F) j → a ∈ F j := fun j h => by
      split at h
      · unfold drp at h
        split at h
        · cases h
        · exact h
      · exact h
    exact S.dj j1 j2 a (q j1 h1) (q j2 h2)
  · by_cases z : a = d
    · rw [z, upd_same]; simp
    · rw [upd_ne z]
      exact S.live a (sub a h)
/-- .. and behind it -/
theorem StOk.unlock {F1 : Nat → List Addr} {H1 : Hp} (S : StOk K ⟨v0.v, v0.ex, F1, H1⟩ σ H ρ F) (hd : H d = some (.frz od u)) (hu : IsD u) (st : Step v0.F0 v0.H0 F (upd H d u)) : StOk K v0 σ (upd H d u) ρ F := by
  refine ⟨fun j r hj => ?_, S.nd, S.dj, fun a h => ?_, S.len, S.sm, st⟩
  · obtain ⟨v, h1, h2⟩ := S.slot j r hj
    refine ⟨v, h1, ?_⟩
    obtain ⟨kr, dr⟩ := r
    cases kr with
    | shr =>
      obtain ⟨G, g1, g2⟩ := (show ∃ G, Rp K false H v dr G ∧ ∀ a ∈ G, ¬ Own F a from h2)
      exact ⟨G, Rp.unlock hd hu g1, g2⟩
    | own => exact Rp.unlock hd hu (show Rp K true H v dr (F j) from h2)
    | fix => exact ⟨Rp.unlock hd hu (show Rp K true H v dr (F j) from h2.1), h2.2⟩
    | als => exact h2
  · by_cases z : a = d
    · rw [z, upd_same]; simp
    · rw [upd_ne z]
      exact S.live a h
end
section
variable {K : PySem.W.Frag} {v0 : Cv} {σ : L2.St} {H H1 H' : Hp} {ρ ρ' : DEnv} {F F' : Nat → List Addr} {d : Addr} {od : Obj} {u : HO} {i : Nat} {k : Kd} {kvs : List (PyData × PyData)}
theorem step_lock (hi : i < big) (hd : H d = some u) (hu : IsD u) (s : Step (if k = .own then drp F i else F) (upd H d (.frz od u)) F' H') (hd' : H' d = some (.frz od u)) : Step F H F' (upd H' d u) := by
  have sub : ∀ a, Own (if k = .own then drp F i else F) a → Own F a := fun a h => by
    split at h
    · exact drp_own h
    · exact h
  have up : ∀ j, big ≤ j → (if k = .own then drp F i else F) j = F j := fun j hj => by
    split
    · have : j ≠ i := by omega
      simp [drp, this]
    · rfl
  refine ⟨fun a o h n => ?_, fun a h => ?_, fun a xs h => tu_unlock hd' hu a xs (s.tups a xs (tu_lock hd hu a xs h)), fun j hj => (s.per j hj).trans (up j hj), fun j hj a ha o h => ?_⟩
  · by_cases z : a = d
    · rw [z, upd_same]; rw [z, hd] at h; exact h
    · rw [upd_ne z]
      exact s.keep a o (by rw [upd_ne z]; exact h) fun q => n (sub a q)
  · rcases s.own a h with q | q
    · exact .inl (sub a q)
    · by_cases z : a = d
      · rw [z, upd_same] at q; cases q
      · rw [upd_ne z] at q; exact .inr q
  · by_cases z : a = d
    · rw [z, upd_same]; rw [z, hd] at h; exact h
    · rw [upd_ne z]
      exact s.pk j hj a (by rw [up j hj]; exact ha) o (by rw [upd_ne z]; exact h)
theorem res_unlock (hd : H d = some u) (hu : IsD u) (hd' : H' d = some (.frz od u)) {r : R} {v : V} {G : List Addr} (h : ResOk K (if k = .own then drp F i else F) (upd H d (.frz od u)) F' H' r v G) : ResOk K F H F' (upd H' d u) r v G := by
  have sub : ∀ a, Own (if k = .own then drp F i else F) a → Own F a := fun a h => by
    split at h
    · exact drp_own h
    · exact h
  obtain ⟨kr, e⟩ := r
  cases kr with
  | shr =>
    obtain ⟨h1, h2⟩ := (show Rp K false H' v e G ∧ ∀ a ∈ G, ¬ Own F' a from h)
    exact ⟨Rp.unlock hd' hu h1, h2⟩
  | own =>
    obtain ⟨h1, h2, h3, h4⟩ := (show Rp K true H' v e G ∧ G.Nodup ∧ (∀ a ∈ G, ¬ Own F' a) ∧ ∀ a ∈ G, Own (if k = .own then drp F i else F) a ∨ upd H d (.frz od u) a = none from h)
    refine ⟨Rp.unlock hd' hu h1, h2, h3, fun a ha => ?_⟩
    rcases h4 a ha with q | q
    · exact .inl (sub a q)
    · by_cases z : a = d
      · rw [z, upd_same] at q; cases q
      · rw [upd_ne z] at q; exact .inr q
  | fix => exact h.elim
  | als => exact Rp.unlock hd' hu (show Rp K false H' v e G from h)
mutual
theorem rp_key : ∀ (e : PyData) (v : V) (k : NestedKey), nk e = some k → KeyV K H v k → Rp K false H v e []
  | .none, v, k, h, q => by
    simp only [nk, Option.some.injEq] at h
    subst h
    cases q
    exact .non
  | .int i, v, k, h, q => by
    simp only [nk, Option.some.injEq] at h
    subst h
    cases q
    exact .int i
  | .tuple ds, v, k, h, q => by
    unfold nk at h
    split at h
    · rename_i ks e
      simp only [Option.some.injEq] at h
      subst h
      cases q with
      | tup sq al => exact .tup sq (rp_keys ds _ ks e al)
    · cases h
  | .bool _, _, _, h, _ => by simp [nk] at h
  | .str _, _, _, h, _ => by simp [nk] at h
  | .list _, _, _, h, _ => by simp [nk] at h
  | .dict _, _, _, h, _ => by simp [nk] at h
theorem rp_keys : ∀ (ds : List PyData) (vs : List V) (ks : List NestedKey), nks ds = some ks → KeyAll K H vs ks → RpAll K false H vs ds []
  | [], vs, ks, h, q => by
    simp only [nks, Option.some.injEq] at h
    subst h
    cases q
    exact .nil
  | e :: ds, vs, ks, h, q => by
    unfold nks at h
    split at h
    · rename_i k ks' e1 e2
      simp only [Option.some.injEq] at h
      subst h
      cases q with
      | cons h1 h2 => exact .cons (G1 := []) (G2 := []) (rp_key e _ k e1 h1) (rp_keys ds _ ks' e2 h2)
    · cases h
end
theorem nks_get : ∀ {ds : List PyData} {ks : List NestedKey}, nks ds = some ks → ∀ {i : Nat} {k : NestedKey}, ks[i]? = some k → ∃ e, ds[i]? = some e ∧ nk e = some k
  | [], ks, h, i, k, q => by
    simp only [nks, Option.some.injEq] at h
    subst h
    cases q
  | e :: ds, ks, h, i, k, q => by
    unfold nks at h
    split at h
    · rename_i k' ks' e1 e2
      simp only [Option.some.injEq] at h
      subst h
      cases i with
      | zero => simp at q; subst q; exact ⟨e, rfl, e1⟩
      | succ i => exact nks_get e2 (i := i) (by simpa using q)
    · cases h
theorem keyV_stay (tu : Tu H H') : ∀ (k : NestedKey) (v : V), KeyV K H v k → KeyV K H' v k
  | .none, v, h => by cases h; exact .non
  | .num i, v, h => by cases h; exact .num i
  | .text x, v, h => nomatch h
  | .tup ks, v, h => by
    cases h with
    | tup sq al => exact .tup (sqt_keep sq tu) (keyAll_stay tu ks _ al)
where keyAll_stay (tu : Tu H H') : ∀ (ks : List NestedKey) (vs : List V), KeyAll K H vs ks → KeyAll K H' vs ks
  | [], vs, h => by cases h; exact .nil
  | k :: ks, vs, h => by
    cases h with
    | cons h1 h2 => exact .cons (keyV_stay tu k _ h1) (keyAll_stay tu ks _ h2)
end
section
variable {X : Cx} {v0 : Cv} {pos p : Pos} {wg : WG} {w : WS} {tg : Expr} {body : List Stmt} {ts : List Nat} {x : Str}
def exG (g : Cv → TG) : TG := fun v σ H Q => ∃ c, g c v σ H Q
def exS (t : Cv → TS) : TS := fun D σ H => ∃ c, t c D σ H
def wForK (i : Nat) (g : WG) (b : WS) : WS := fun D ρ => ∃ k kvs, ρ[i]? = some (some ⟨k, .dict kvs⟩) ∧ (k = .own ∨ (k = .shr ∧ lone ρ i = true)) ∧ ∃ I : Nat → DEnv → Prop, I 0 (ρ.set i none) ∧
  (∀ j kv ρ, kvs[j]? = some kv → I j ρ → g ⟨.shr, kv.1⟩ ρ fun ρ2 => b { D with nx := I (j + 1), ct := I (j + 1), bk := D.nx } ρ2) ∧ ∀ ρ, I kvs.length ρ → D.nx ρ
theorem ds_forK (i : Nat) (hp : PassesOwn (model X.prog X.w) X.A X.env X.xe) (hc : X.calm = true) (hg : ∀ c, DB X c ts tg wg) (hb : ∀ c, DSs X c body w) (hN : X.N[i]? = some x := by rfl) (hv : Vis X.env.scope x := by first | exact Or.inl rfl | exact Or.inr (Or.inl rfl) | exact Or.inr (Or.inr rfl)) (hdb : (x == ("__debug__" : Str)) = false := by decide)
    (hcd : (x == ("__classdict__" : Str)) = false := by decide) (hs : ∀ y, foldedSetIterable (.Name x p) X.env y = pure y := by intro _; rfl) :
    DS X v0 (.For tg (.Name x p) body [] pos) (wForK i wg w) := by
  have hg' := fun c => (hg c).ex
  have hb' := fun c => (hb c).ex
  obtain ⟨g, hg2⟩ := Classical.axiomOfChoice hg'
  obtain ⟨tb, hb2⟩ := Classical.axiomOfChoice hb'
  have p2 : PG X tg (exG g) := ⟨fun pins s σ H v u Q I r ⟨c, h⟩ => (hg2 c).1.run pins s σ H v u Q I r h⟩
  have p3 : PSs X body (exS tb) := ⟨fun pins s σ H D I ⟨c, h⟩ => (hb2 c).1.run pins s σ H D I h⟩
  have q2 := fun c => (hg2 c).2
  have q3 := fun c => (hb2 c).2
  refine ⟨_, ps_lock (ps_for hp hc (pi_keysN (pe_var hN hv hdb hcd)) p2 p3 hs), fun σ H ρ F S Dd D e h => ?_⟩
  obtain ⟨k, kvs, hr, hk, I, i0, istep, iend⟩ := h
  obtain ⟨v, hσ, so⟩ := S.slot i _ hr
  have hib : i < big := by
    have h1 : i < σ.length := by
      obtain ⟨h, _⟩ := List.getElem?_eq_some_iff.mp hσ
      exact h
    exact Nat.lt_of_lt_of_le h1 S.sm
  -- the dict
  have core : ∀ (m : Bool) (G : List Addr), Rp X.K m H v (.dict kvs) G → (∀ d, v = .ref d → d ∈ G → (k = .own ∧ d ∈ F i) ∨ (k = .shr ∧ lone ρ i = true ∧ ¬ Own F d)) →
      ∃ d u, v = .ref d ∧ H d = some u ∧ IsD u ∧ ((k = .own ∧ d ∈ F i) ∨ (k = .shr ∧ lone ρ i = true ∧ ¬ Own F d)) ∧ ∃ J : Obj → It, (∀ od, (∃ ks, (.frz od u : HO) = .frz od (.dK ks) ∧ J od = Itk d od ks) ∨ ∃ es, (.frz od u : HO) = .frz od (.ext (DictN d es)) ∧ J od = Itn d od es) ∧
        ∀ od, ∃ Y, Walk (J od) kvs.length (fun H' => H' d = some (.frz od u)) Y ∧ ∀ j H' y H'', Tu H H' → Y j H' y H'' → H'' = H' ∧ ∃ kv, kvs[j]? = some kv ∧ Rp X.K false H' y kv.1 [] := by
    intro m G rp hG
    cases rp with
    | @dK a ks _ G' h1 h2 h3 =>
      refine ⟨a, .dK ks, rfl, h1, .inl ⟨ks, rfl⟩, hG a rfl (.head _), fun od => Itk a od ks, fun od => .inl ⟨ks, rfl, rfl⟩, fun od => ?_⟩
      have hl : ks.length = kvs.length := by
        have := congrArg List.length h2
        simpa using this.symm
      refine ⟨_, by rw [← hl]; exact walk_keys, fun j H' y H'' _ hy => ?_⟩
      obtain ⟨e1, kk, vv, hkk, rfl⟩ := hy
      refine ⟨e1, ?_⟩
      have hj : (kvs.map (·.1))[j]? = some (keyD kk) := by rw [h2, List.getElem?_map, hkk]; rfl
      rw [List.getElem?_map] at hj
      obtain ⟨kv, hkv, e2⟩ := Option.map_eq_some_iff.mp hj
      refine ⟨kv, hkv, ?_⟩
      rw [e2]
      cases kk with
      | inl n => exact .int n
      | inr t => exact .str t
    | @dN a es _ G' h1 h2 h3 =>
      obtain ⟨k1, k2, k3⟩ := h2
      refine ⟨a, _, rfl, h1, .inr ⟨_, rfl⟩, hG a rfl (.head _), fun od => Itn a od es, fun od => .inr ⟨es, rfl, rfl⟩, fun od => ?_⟩
      have hl : es.length = kvs.length := by
        have := h3.length
        simpa using this
      refine ⟨fun i H x H' => H' = H ∧ ∃ e, es[i]? = some e ∧ x = V.ref e.2.1, by rw [← hl]; exact ⟨fun _ _ hi q => ⟨q, hi⟩, fun _ q => ⟨q, Nat.le_refl _⟩, fun _ _ _ _ _ _ y => y⟩, fun j H' y H'' tu hy => ?_⟩
      obtain ⟨e1, en, hen, rfl⟩ := hy
      refine ⟨e1, ?_⟩
      obtain ⟨ky, hky, hnk⟩ := nks_get k1 (i := j) (k := en.1) (by rw [List.getElem?_map, hen]; rfl)
      rw [List.getElem?_map] at hky
      obtain ⟨kv, hkv, e2⟩ := Option.map_eq_some_iff.mp hky
      refine ⟨kv, hkv, ?_⟩
      rw [e2]
      exact rp_key ky _ en.1 hnk (keyV_stay tu _ _ (k2 en (List.mem_of_getElem? hen)).1)
  have got : ∃ d u, v = .ref d ∧ H d = some u ∧ IsD u ∧ ((k = .own ∧ d ∈ F i) ∨ (k = .shr ∧ lone ρ i = true ∧ ¬ Own F d)) ∧ ∃ J : Obj → It, (∀ od, (∃ ks, (.frz od u : HO) = .frz od (.dK ks) ∧ J od = Itk d od ks) ∨ ∃ es, (.frz od u : HO) = .frz od (.ext (DictN d es)) ∧ J od = Itn d od es) ∧
        ∀ od, ∃ Y, Walk (J od) kvs.length (fun H' => H' d = some (.frz od u)) Y ∧ ∀ j H' y H'', Tu H H' → Y j H' y H'' → H'' = H' ∧ ∃ kv, kvs[j]? = some kv ∧ Rp X.K false H' y kv.1 [] := by
    rcases hk with rfl | ⟨rfl, hlone⟩
    · exact core true (F i) so fun d _ z => .inl ⟨rfl, z⟩
    · obtain ⟨G, g1, g2⟩ := (show ∃ G, Rp X.K false H v (.dict kvs) G ∧ ∀ a ∈ G, ¬ Own F a from so)
      exact core false G g1 fun d _ z => .inr ⟨rfl, hlone, g2 d z⟩
  obtain ⟨d, u, rfl, hd, hu, hk', J, hJ, hY⟩ := got
  refine ⟨d, u, hd, by rcases hu with ⟨ks, e⟩ | ⟨φ, e⟩ <;> rw [e] <;> exact True.intro, fun od => ?_⟩
  obtain ⟨Y, walk, hYY⟩ := hY od
  have S1 := S.lock (od := od) hr hσ hd hu hk'
  have hd1 : upd H d (.frz od u) d = some (.frz od u) := upd_same
  have tu1 : Tu H (upd H d (.frz od u)) := tu_lock hd hu
  have nown : ¬ Own (if k = .own then drp F i else F) d := by
    rcases hk' with ⟨rfl, h⟩ | ⟨rfl, _, h⟩
    · rintro ⟨j, hj⟩
      simp only [if_true, drp] at hj
      split at hj
      · cases hj
      · rename_i hne
        exact hne (S.dj j i d hj h)
    · simpa using h
  have stay : ∀ F' H', Step (if k = .own then drp F i else F) (upd H d (.frz od u)) F' H' → H' d = some (.frz od u) := fun F' H' s => s.keep d _ hd1 nown
  rcases hJ od with ⟨ks, e1, e2⟩ | ⟨es, e1, e2⟩
  all_goals rw [e2] at walk
  · refine ⟨_, hσ, d, od, rfl, .inl ⟨ks, by rw [hd1, e1], for_it walk (fun j σ' H' => ∃ ρ' F', StOk X.K ⟨v0.v, v0.ex, if k = .own then drp F i else F, upd H d (.frz od u)⟩ σ' H' ρ' F' ∧ Step (if k = .own then drp F i else F) (upd H d (.frz od u)) F' H' ∧ I j ρ') ⟨_, _, S1, Step.refl, i0⟩ (fun j σ' H' _ ⟨ρ', F', _, s', _⟩ => stay F' H' s') ?_ ?_⟩⟩
    · rintro j y σ' H' H'' hj ⟨ρ', F', S', s', hI⟩ hy
      obtain ⟨rfl, kv, hkv, rp⟩ := hYY j H' y H'' (fun a xs q => s'.tups a xs (tu1 a xs q)) hy
      refine ⟨⟨v0.v, v0.ex, if k = .own then drp F i else F, upd H d (.frz od u)⟩, q2 _ (if k = .own then drp F i else F) (upd H d (.frz od u)) σ' H'' ρ' F' ⟨.shr, kv.1⟩ y [] (fun _ => False) Step.refl S' s' (Sep.of0 S') ⟨rp, fun a z => nomatch z⟩ (fun z => by cases z) (fun _ _ _ z => z) _ _ (istep j kv ρ' hkv hI) fun σ3 ρ3 F3 S3 s3 _ _ _ h3 => ?_⟩
      refine ⟨_, q3 _ σ3 H'' ρ3 F3 S3 _ _ ?_ h3⟩
      refine ⟨fun σ4 H4 ρ4 F4 S4 s4 h4 => ⟨ρ4, F4, S4, s3.trans s4, h4⟩, fun σ4 v4 H4 ρ4 F4 r G S4 s4 ro h4 => ?_, fun σ4 H4 ρ4 F4 S4 s4 h4 => ?_, fun σ4 H4 ρ4 F4 S4 s4 h4 => ⟨ρ4, F4, S4, s3.trans s4, h4⟩⟩
      · have hd4 := stay F4 H4 (s3.trans s4)
        exact ⟨hd4, e.rt σ4 v4 (upd H4 d u) ρ4 F4 r G (S4.unlock hd4 hu (S.st.trans (step_lock hib hd hu (s3.trans s4) hd4))) (step_lock hib hd hu (s3.trans s4) hd4) (res_unlock hd hu hd4 (ro.back s3)) h4⟩
      · have hd4 := stay F4 H4 (s3.trans s4)
        exact ⟨hd4, e.nx σ4 (upd H4 d u) ρ4 F4 (S4.unlock hd4 hu (S.st.trans (step_lock hib hd hu (s3.trans s4) hd4))) (step_lock hib hd hu (s3.trans s4) hd4) h4⟩
    · rintro σ' H' ⟨ρ', F', S', s', hI⟩
      have hd4 := stay F' H' s'
      exact ⟨hd4, e.nx σ' (upd H' d u) ρ' F' (S'.unlock hd4 hu (S.st.trans (step_lock hib hd hu s' hd4))) (step_lock hib hd hu s' hd4) (iend ρ' hI)⟩
  · refine ⟨_, hσ, d, od, rfl, .inr ⟨es, by rw [hd1, e1], for_it walk (fun j σ' H' => ∃ ρ' F', StOk X.K ⟨v0.v, v0.ex, if k = .own then drp F i else F, upd H d (.frz od u)⟩ σ' H' ρ' F' ∧ Step (if k = .own then drp F i else F) (upd H d (.frz od u)) F' H' ∧ I j ρ') ⟨_, _, S1, Step.refl, i0⟩ (fun j σ' H' _ ⟨ρ', F', _, s', _⟩ => stay F' H' s') ?_ ?_⟩⟩
    · rintro j y σ' H' H'' hj ⟨ρ', F', S', s', hI⟩ hy
      obtain ⟨rfl, kv, hkv, rp⟩ := hYY j H' y H'' (fun a xs q => s'.tups a xs (tu1 a xs q)) hy
      refine ⟨⟨v0.v, v0.ex, if k = .own then drp F i else F, upd H d (.frz od u)⟩, q2 _ (if k = .own then drp F i else F) (upd H d (.frz od u)) σ' H'' ρ' F' ⟨.shr, kv.1⟩ y [] (fun _ => False) Step.refl S' s' (Sep.of0 S') ⟨rp, fun a z => nomatch z⟩ (fun z => by cases z) (fun _ _ _ z => z) _ _ (istep j kv ρ' hkv hI) fun σ3 ρ3 F3 S3 s3 _ _ _ h3 => ?_⟩
      refine ⟨_, q3 _ σ3 H'' ρ3 F3 S3 _ _ ?_ h3⟩
      refine ⟨fun σ4 H4 ρ4 F4 S4 s4 h4 => ⟨ρ4, F4, S4, s3.trans s4, h4⟩, fun σ4 v4 H4 ρ4 F4 r G S4 s4 ro h4 => ?_, fun σ4 H4 ρ4 F4 S4 s4 h4 => ?_, fun σ4 H4 ρ4 F4 S4 s4 h4 => ⟨ρ4, F4, S4, s3.trans s4, h4⟩⟩
      · have hd4 := stay F4 H4 (s3.trans s4)
        exact ⟨hd4, e.rt σ4 v4 (upd H4 d u) ρ4 F4 r G (S4.unlock hd4 hu (S.st.trans (step_lock hib hd hu (s3.trans s4) hd4))) (step_lock hib hd hu (s3.trans s4) hd4) (res_unlock hd hu hd4 (ro.back s3)) h4⟩
      · have hd4 := stay F4 H4 (s3.trans s4)
        exact ⟨hd4, e.nx σ4 (upd H4 d u) ρ4 F4 (S4.unlock hd4 hu (S.st.trans (step_lock hib hd hu (s3.trans s4) hd4))) (step_lock hib hd hu (s3.trans s4) hd4) h4⟩
    · rintro σ' H' ⟨ρ', F', S', s', hI⟩
      have hd4 := stay F' H' s'
      exact ⟨hd4, e.nx σ' (upd H' d u) ρ' F' (S'.unlock hd4 hu (S.st.trans (step_lock hib hd hu s' hd4))) (step_lock hib hd hu s' hd4) (iend ρ' hI)⟩
theorem wForK_by {i : Nat} {g : WG} {b : WS} {D : DEnds} {ρ : DEnv} {k : Kd} {kvs : List (PyData × PyData)} (hr : ρ[i]? = some (some ⟨k, .dict kvs⟩)) (hk : k = .own ∨ (k = .shr ∧ lone ρ i = true)) (I : Nat → DEnv → Prop) (i0 : I 0 (ρ.set i none))
    (hs : ∀ j kv ρ (N : DEnv → Prop), kvs[j]? = some kv → I j ρ → (∀ ρ', I (j + 1) ρ' → N ρ') → g ⟨.shr, kv.1⟩ ρ fun ρ2 => b { D with nx := N, ct := N, bk := D.nx } ρ2) (he : ∀ ρ, I kvs.length ρ → D.nx ρ) : wForK i g b D ρ :=
  ⟨k, kvs, hr, hk, I, i0, fun j kv ρ h1 h2 => hs j kv ρ (I (j + 1)) h1 h2 fun _ h => h, he⟩
end
end DL
namespace DL
open PySem PySem.Spec PyProof.Rows L2
/-- what slot i owns is shared while e is evaluated, and owned again behind it -/
def wLockE (i : Nat) (w : WE) : WE := fun ρ Q => match ρ[i]? with
  | some (some ⟨.own, d⟩) => w (ρ.set i (some ⟨.shr, d⟩)) fun ρ' r => owp r = true ∧ ρ'[i]? = some (some ⟨.shr, d⟩) ∧ Q (ρ'.set i (some ⟨.own, d⟩)) r
  | _ => False
section
variable {X : Cx} {v0 : Cv} {e : Expr} {w : WE} {ea : Bool} {te : TE}
theorem re_lockE (i : Nat) (h : RE X.K v0 ea te w) : RE X.K v0 ea te (wLockE i w) := by
  intro σ H ρ F S Qd Q hw k
  unfold wLockE at hw
  split at hw
  · rename_i d ei
    have hi : i < ρ.length := (List.getElem?_eq_some_iff.mp ei).1
    have hb : i < big := S.ilt ei
    obtain ⟨v, ev, so⟩ := S.slot i _ ei
    have so : Rp X.K true H v d (F i) := so
    have T := S.drop i hb
    have notF : ∀ a ∈ F i, ¬ Own (sF F i []) a := fun a ha z => by
      obtain ⟨j, z⟩ := z
      unfold sF at z
      split at z
      · cases z
      · rename_i n
        exact n (S.dj j i a z ha)
    have S1 : StOk X.K v0 σ H (ρ.set i (some ⟨.shr, d⟩)) (sF F i []) := by
      refine ⟨fun j r h => ?_, T.nd, T.dj, T.live, by simp [S.len], S.sm, T.st⟩
      by_cases hj : j = i
      · subst hj
        rw [List.getElem?_set_self hi] at h
        cases h
        exact ⟨v, ev, F j, Rp.weak _ _ _ so, notF⟩
      · rw [List.getElem?_set_ne (Ne.symm hj)] at h
        have h' : (ρ.set i none)[j]? = some (some r) := by rw [List.getElem?_set_ne (Ne.symm hj)]; exact h
        exact T.slot j r h'
    refine h σ H _ _ S1 _ _ hw fun v2 H2 ρ2 F2 r G S2 s2 e2 r2 hq => ?_
    obtain ⟨ho, er, hq⟩ := hq
    have hi2 : i < ρ2.length := (List.getElem?_eq_some_iff.mp er).1
    have sub : ∀ a, Own (sF F i []) a → Own F a := fun a z => sF_nil z
    have kept : ∀ a, (∀ o, H a = some o → ¬ Own (sF F i []) a → H2 a = some o) := fun a o h n => s2.keep a o h n
    have soft : ∀ a ∈ F i, ∀ j, j ≠ i → a ∉ F2 j := fun a ha j hj z => by
      rcases s2.own a ⟨j, z⟩ with y | y
      · exact notF a ha y
      · exact S.live a ⟨i, ha⟩ y
    have soft' : ∀ a ∈ F i, ¬ Own F2 a := fun a ha z => by
      rcases s2.own a z with y | y
      · exact notF a ha y
      · exact S.live a ⟨i, ha⟩ y
    have own2 : ∀ a, Own (sF F2 i (F i)) a → Own F a ∨ H a = none := fun a z => by
      rcases sF_own z with z | z
      · exact (s2.own a z).imp (sub a) id
      · exact .inl ⟨i, z⟩
    have rp2 : Rp X.K true H2 v d (F i) := so.keep s2.tups _ _ _ fun a ha o h => s2.keep a o h (notF a ha)
    have st : Step F H (sF F2 i (F i)) H2 := ⟨fun a o h n => s2.keep a o h fun z => n (sub a z), own2, s2.tups,
      fun j hj => (sF_big hb j hj).trans ((s2.per j hj).trans (sF_big hb j hj)), fun j hj a ha o h => s2.pk j hj a (by rw [sF_big hb j hj]; exact ha) o h⟩
    have S3 : StOk X.K v0 σ H2 (ρ2.set i (some ⟨.own, d⟩)) (sF F2 i (F i)) := by
      refine ⟨fun j r h => ?_, fun j => ?_, fun j l a h1 h2 => ?_, fun a z => ?_, by simp [S2.len], S2.sm, S.st.trans st⟩
      · by_cases hj : j = i
        · subst hj
          rw [List.getElem?_set_self hi2] at h
          cases h
          refine ⟨v, ev, ?_⟩
          show Rp X.K true H2 v d (sF F2 j (F j) j)
          unfold sF
          rw [if_pos rfl]
          exact rp2
        · rw [List.getElem?_set_ne (Ne.symm hj)] at h
          obtain ⟨u, eu, su⟩ := S2.slot j r h
          refine ⟨u, eu, ?_⟩
          have hF : sF F2 i (F i) j = F2 j := by unfold sF; rw [if_neg hj]
          obtain ⟨kd, dd⟩ := r
          cases kd with
          | shr =>
            have q1 := e2.shr j dd h
            rw [List.getElem?_set_ne (Ne.symm hj)] at q1
            obtain ⟨u', eu', G0, g1, g2⟩ := S.slot j _ q1
            rw [eu] at eu'
            cases eu'
            refine ⟨G0, g1.keep s2.tups _ _ _ fun a ha o h => s2.keep a o h fun z => g2 a ha (sub a z), fun a ha z => ?_⟩
            rcases own2 a z with z | z
            · exact g2 a ha z
            · exact g1.live _ _ _ a ha z
          | own =>
            show Rp X.K true H2 u dd (sF F2 i (F i) j)
            rw [hF]
            exact su
          | fix =>
            refine ⟨?_, su.2⟩
            show Rp X.K true H2 u dd (sF F2 i (F i) j)
            rw [hF]
            exact su.1
          | als => exact su
      · unfold sF
        split
        · exact S.nd i
        · exact S2.nd j
      · unfold sF at h1 h2
        split at h1 <;> split at h2
        · rename_i a1 a2
          rw [a1, a2]
        · rename_i a1 a2
          exact absurd h2 (soft a h1 l a2)
        · rename_i a1 a2
          exact absurd h1 (soft a h2 j a1)
        · exact S2.dj j l a h1 h2
      · obtain ⟨j, z⟩ := z
        unfold sF at z
        split at z
        · exact rp2.live _ _ _ a z
        · exact S2.live a ⟨j, z⟩
    have rr : ∃ G', ResOk X.K F H (sF F2 i (F i)) H2 r v2 G' := by
      by_cases hp : pur r.d = true
      · obtain ⟨_, q⟩ := Rp.pure' (m' := true) _ _ _ r2.read hp
        obtain ⟨kd, dd⟩ := r
        cases kd with
        | shr => exact ⟨[], Rp.weak _ _ _ q, fun _ i => nomatch i⟩
        | own => exact ⟨[], q, List.nodup_nil, (fun _ i => nomatch i), fun _ i => nomatch i⟩
        | als => exact ⟨[], show Rp X.K false H2 v2 dd [] from Rp.weak _ _ _ q⟩
        | fix => exact r2.elim
      · have hk : r.k = .own := by
          unfold owp at ho
          rw [Bool.or_eq_true] at ho
          rcases ho with z | z
          · exact beq_iff_eq.mp z
          · exact absurd z hp
        obtain ⟨kd, dd⟩ := r
        cases hk
        obtain ⟨q, nd, n, o⟩ := r2
        refine ⟨G, q, nd, fun a ha z => ?_, fun a ha => (o a ha).imp (sub a) id⟩
        rcases sF_own z with z | z
        · exact n a ha z
        · rcases o a ha with y | y
          · exact notF a z y
          · exact S.live a ⟨i, z⟩ y
    obtain ⟨G', rr⟩ := rr
    refine k v2 H2 _ _ r G' S3 st ⟨fun j dd h => ?_, fun z => ?_⟩ rr hq
    · by_cases hj : j = i
      · subst hj
        rw [List.getElem?_set_self hi2] at h
        cases h
      · rw [List.getElem?_set_ne (Ne.symm hj)] at h
        have q1 := e2.shr j dd h
        rw [List.getElem?_set_ne (Ne.symm hj)] at q1
        exact q1
    · obtain ⟨a1, a2, a3⟩ := e2.non z
      refine ⟨?_, ?_, a3⟩
      · rw [a1, List.set_set]
        apply List.ext_getElem?
        intro j
        by_cases hj : j = i
        · subst hj
          rw [List.getElem?_set_self hi, ei]
        · rw [List.getElem?_set_ne (Ne.symm hj)]
      · rw [a2]
        funext j
        unfold sF
        by_cases hj : j = i
        · rw [if_pos hj, hj]
        · rw [if_neg hj, if_neg hj]
  · exact hw.elim
theorem de_lockE (i : Nat) (h : DE X v0 ea e w) : DE X v0 ea e (wLockE i w) := by
  obtain ⟨t, p, q⟩ := h
  exact ⟨t, p, re_lockE i q⟩
end
end DL
namespace DL
open PySem PySem.Spec PyProof.Rows L2
/-- a clause: what its test says of the exception's class, the slot of its name, its suite -/
structure Cl where
  m : Value → Option Bool
  i : Option Nat
  ts : Addr → Value → Option Addr → TS
/-- the ends behind a suite whose name is in slot i -/
def unN (i : Option Nat) (D : Ends) : Ends := match i with
  | none => D
  | some i => { nx := fun σ H => D.nx (σ.set i none) H, rt := D.rt, bk := fun σ H => D.bk (σ.set i none) H, ct := fun σ H => D.ct (σ.set i none) H }
def atN (i : Option Nat) (a : Addr) (σ : L2.St) : L2.St := match i with
  | none => σ
  | some i => σ.set i (some (.ref a))
def wCl (Wout : WX) (D : Ends) : List Cl → WX
  | [] => Wout
  | c :: r => fun cls d σ H => ∃ b, c.m cls = some b ∧ (b = true → ∀ a, H a = none → c.ts a cls d (unN c.i D) (atN c.i a σ) H) ∧ (b = false → wCl Wout D r cls d σ H)
/-- a clause's test, whatever is in flight -/
def ClT (X : Cx) (e : Expr) (m : Value → Option Bool) : Prop :=
  ∀ (a : Addr) (pn : List (Addr × Obj)) (pins : List (Addr × Obj)) (σ : L2.St) (H : Hp) (s : Shared) (cls : Value) (b : Bool) (Q : Bool → Shared → Prop) (E : Value → Shared → Prop), Inv (X.suite a pn) pins σ H s → PySem.W.Looks (model X.prog X.w) s.heap (typeOf (.ref a)) cls → m cls = some b → Q b s →
    wpAny (model X.prog X.w) (X.A.mark (some (.ref a))) (eval e X.env) (fun c s1 => wpAny (model X.prog X.w) (X.A.mark (some (.ref a))) (excMatches (.ref a) c) Q E s1) E s
theorem clT_name {X : Cx} {x : Str} {c : Value} {p : Pos} (h : Names X x c) : ClT X (.Name x p) (fun cls => PySem.W.exmOne X.K cls c) := by
  intro a pn pins σ H s cls b Q E I LT hb q
  have LM := PySem.W.exm_one (M := model X.prog X.w) I.kIn LT hb
  obtain ⟨hg, hd, hm | ⟨hm, hv, hn⟩⟩ := h
  · exact ld_glob (X := X.suite a pn) I hg hm (LM.here q) hd
  · exact ld_blt (X := X.suite a pn) I hg hm hv (LM.here q) hn hd
inductive ClsOk (X : Cx) : List ExceptHandler → List Cl → Prop
  | nil : ClsOk X [] []
  | cons {e : Expr} {n : Option Str} {i : Option Nat} {m : Value → Option Bool} {ts : Addr → Value → Option Addr → TS} {b0 : Stmt} {suite : List Stmt} {pos : Pos} {hds : List ExceptHandler} {l : List Cl} (ht : ClT X e m) (hn : n = none ∧ i = none ∨ ∃ x j, n = some x ∧ i = some j ∧ X.N[j]? = some x ∧ X.env.kindOf x = some .local)
      (hsu : ∀ (a : Addr) (oe : Obj) (cls : Value) (d : Option Addr) (pn : List (Addr × Obj)), Zc cls d oe → (∃ vs, oe.data = .fields vs) → PSs (X.suite a ((a, oe) :: pn)) (b0 :: suite) (ts a cls d)) (r : ClsOk X hds l) :
      ClsOk X (.ExceptHandler (some e) n (b0 :: suite) pos :: hds) (⟨m, i, ts⟩ :: l)
section
variable {X : Cx} {body : List Stmt} {h0 : ExceptHandler} {hds : List ExceptHandler} {l : List Cl} {pos : Pos} {tb : WX → TS} {Wout : WX}
/-- what is in flight meets a list of clauses -/
theorem cls_meet {pins : List (Addr × Obj)} {σ' : L2.St} {H' : Hp} {sI s' : Shared} {B h3 : Heap} {a : Addr} {oe3 : Obj} {cls : Value} {d : Option Addr} {D : Ends} (hN : X.N.Nodup) (ok : X.Ok) (hfr : X.A.frames = some (X.env :: X.outer)) (hs : X.stack = X.env :: X.outer) (hf : X.env.frame = some X.env.locals) (tk : Takes X Wout)
    (J : Inv X pins σ' H' sI) (nb : ∀ b o, sI.heap.get? b = some o → b ∉ frs X.stack → B.get? b = some o) (up : sI.heap.UpToSlots { s' with heap := h3 }.heap) (fl3 : HandSPX.FlyingZ B (X.env :: X.outer) a (Zc cls d) h3) (os : s'.os = sI.os) (ag : AllBare s'.gens) (na : H' a = none)
    (S3 : Inv (X.suite a ((a, oe3) :: (X.pn ++ pins))) [] σ' H' { s' with heap := h3 }) (hT : PySem.W.Looks (model X.prog X.w) h3 (typeOf (.ref a)) cls) (nL : a ≠ X.env.locals) (nF : a ∉ X.fs) :
    ∀ {hds : List ExceptHandler} {l : List Cl}, ClsOk X hds l → wCl Wout D l cls d σ' H' → wpAny (model X.prog X.w) X.A (handleBy (.ref a) X.env hds) (SP X pins D) X.xe { s' with heap := h3 } := by
  intro hds l hk
  induction hk with
  | nil =>
    intro w
    refine wpAny_handleBy_nil ?_
    obtain ⟨k1, k2, k3, oe, vs, T, oT, tv, he, hz, hd, h1, hr⟩ := id fl3
    unfold PySem.passOn
    refine wpAny_bind (wpAny_field he hd h1 ?_)
    rw [if_neg (show ¬ ((Value.ref T == Value.none) = true) from by simp)]
    have last : wpAny (model X.prog X.w) X.A (setFlight (.ref a) X.env.frame) (fun _ s4 => wpAny (model X.prog X.w) X.A (throw (.ref a) : Sem Flow) (SP X pins D) X.xe s4) X.xe { s' with heap := h3 } := by
      rw [hf]
      refine HandSPX.setFlight_upZ fl3 fun h4 hh4 up4 => wpAny_throw (tk _ _ ⟨a, B, sI, pins, σ', H', cls, d, rfl, J, nb, up.trans up4, .inr (.inr ?_), na, os, ag, w⟩)
      rw [hs]; exact hh4
    first
      | exact wpAny_bind (wpAny_pure (wpAny_bind last))
      | exact wpAny_bind last
  | @cons e n i m ts b0 suite p hds2 l2 ht hn hsu r ih =>
    intro w
    obtain ⟨b, hb, hyes, hno⟩ := w
    refine wpAny_handleBy_cons (codeAny_handlers_test (ht a _ [] σ' H' _ cls b _ _ S3 hT hb ?_)) (by intro q; cases q)
    cases b with
    | false =>
      show wpAny _ X.A (handleBy (.ref a) X.env hds2) _ _ _
      exact ih (hno rfl)
    | true =>
      rcases hn with ⟨rfl, rfl⟩ | ⟨x, j, rfl, rfl, hi, hl⟩
      · refine codeAny_handlers_suite ?_
        refine HandSPX.lands_againZ fl3 fun h4 fl4 up4 => ?_
        have J4 : Inv X pins σ' H' { s' with heap := h4 } := J.landed nb fl4.1 (up.trans up4) os ag
        obtain ⟨oe4, vs4, he4, hz4, hd4⟩ := fl4.there
        have S4 := J4.suite he4 hd4 na nL nF
        refine wpAny_mono ((hsu a oe4 cls d (X.pn ++ pins) hz4 ⟨_, hd4⟩).run [] _ _ H' _ S4 (hyes rfl a na)) (fun f s6 z => ?_) (fun _ _ z => False.elim z)
        cases f with
        | ret u =>
          obtain ⟨v6, σ6, H6, S6, r6, q6⟩ := z
          exact ⟨_, _, _, S6.unsuite ok, r6, q6⟩
        | next =>
          obtain ⟨σ6, H6, S6, q6⟩ := z
          exact ⟨_, _, S6.unsuite ok, q6⟩
        | brk =>
          obtain ⟨σ6, H6, S6, q6⟩ := z
          exact ⟨_, _, S6.unsuite ok, q6⟩
        | cont =>
          obtain ⟨σ6, H6, S6, q6⟩ := z
          exact ⟨_, _, S6.unsuite ok, q6⟩
      · refine codeAny_handlers_suite_as ?_
        refine HandSPX.lands_againZ fl3 fun h4 fl4 up4 => ?_
        have J4 : Inv X pins σ' H' { s' with heap := h4 } := J.landed nb fl4.1 (up.trans up4) os ag
        obtain ⟨oe4, vs4, he4, hz4, hd4⟩ := fl4.there
        have S4 := J4.suite he4 hd4 na nL nF
        refine store_ok (X := X.suite a ((a, oe4) :: (X.pn ++ pins))) (v := .ref a) S4 hN hi (.inl hl) rfl (fun s5 S5 => ?_) (.inr hl)
        refine wpAny_mono ((hsu a oe4 cls d (X.pn ++ pins) hz4 ⟨_, hd4⟩).run [] s5 _ H' _ S5 (hyes rfl a na)) (fun f s6 z => ?_) (fun _ _ z => False.elim z)
        have fin : ∀ {σ6 : L2.St} {H6 : Hp} {Q : Shared → Prop}, Inv (X.suite a ((a, oe4) :: (X.pn ++ pins))) [] σ6 H6 s6 → (∀ s7, Inv X pins (σ6.set j none) H6 s7 → Q s7) →
            wpAny (model X.prog X.w) X.A (do bindName X.env x .none; unbindBehindTheSuite X.env x p) (fun _ s7 => Q s7) X.xe s6 := fun {σ6 H6 Q} S6 hq => gone_ok (S6.unsuite ok) hN hi hl hq
        cases f with
        | ret u =>
          obtain ⟨v6, σ6, H6, S6, r6, q6⟩ := z
          exact fin S6 fun s7 J7 => ⟨_, _, _, J7, r6, q6⟩
        | next =>
          obtain ⟨σ6, H6, S6, q6⟩ := z
          exact fin S6 fun s7 J7 => ⟨_, _, J7, q6⟩
        | brk =>
          obtain ⟨σ6, H6, S6, q6⟩ := z
          exact fin S6 fun s7 J7 => ⟨_, _, J7, q6⟩
        | cont =>
          obtain ⟨σ6, H6, S6, q6⟩ := z
          exact fin S6 fun s7 J7 => ⟨_, _, J7, q6⟩
theorem ps_tryC (hN : X.N.Nodup) (hs : X.stack = X.env :: X.outer) (hf : X.env.frame = some X.env.locals) (tk : Takes X Wout)
    (hb : ∀ (W : WX) (pn : List (Addr × Obj)) (xe : Value → Shared → Prop), Takes (X.tr pn xe) W → PassesOwn (model X.prog X.w) X.A X.env xe → PSs (X.tr pn xe) body (tb W)) (hh : ClsOk X (h0 :: hds) l) :
    PS X (.Try body (h0 :: hds) [] [] pos) (fun D σ H => tb (wCl Wout D l) D σ H) := by
  refine ⟨fun pins s σ H D I h => ?_⟩
  have ok := I.ok
  have hfr : X.A.frames = some (X.env :: X.outer) := by rw [ok.frames, hs]
  refine wpAny_Try_except ?_
  refine wpAny_mono ((hb (wCl Wout D l) (X.pn ++ pins) (fun e s₁ => wpAny (model X.prog X.w) X.A (noteFrame e X.env) (fun _ s₂ => wpAny (model X.prog X.w) X.A (setFlight e none) (fun _ s₃ =>
    wpAny (model X.prog X.w) X.A (handleBy e X.env (h0 :: hds)) (SP X pins D) X.xe s₃) X.xe s₂) X.xe s₁) (fun u s' xx => ?_) PassesOwn.looking).run [] s σ H D (I.toTry _) h) (fun f s1 z => ?_) (fun e s1 he => he)
  · obtain ⟨a, B, sI, pins', σ', H', cls, d, rfl, J0, nb, up, sky, na, os, ag, w⟩ := xx
    have J : Inv X pins σ' H' sI := J0.ofTry ok
    have sky2 : Sky B (X.env :: X.outer) a (Zc cls d) X.env.locals s'.heap := by rw [← hs]; exact sky
    show wpAny (model X.prog X.w) X.A (noteFrame (.ref a) X.env) _ _ _
    refine Sky.land Zc.steady hfr hf sky2 fun h3 fl3 up3 => ?_
    have J3 : Inv X pins σ' H' { s' with heap := h3 } := J.landed nb fl3.1 (up.trans up3) os ag
    obtain ⟨oe3, vs3, he3, hz3, hd3⟩ := fl3.there
    have nfr : a ∉ frs (X.env :: X.outer) := fun hm => by
      obtain ⟨_, o, e, q⟩ := fl3.2.2.1.mem hm
      rw [he3] at e; cases e
      exact q _ hd3
    have nL : a ≠ X.env.locals := fun z => nfr (List.mem_filterMap.mpr ⟨X.env, List.mem_cons_self, by rw [hf, z]⟩)
    have nF : a ∉ X.fs := fun hm => by
      obtain ⟨e, he, q⟩ := List.mem_filterMap.mp hm
      exact nfr (List.mem_filterMap.mpr ⟨e, List.mem_cons_of_mem _ he, q⟩)
    exact cls_meet hN ok hfr hs hf tk J nb (up.trans up3) fl3 os ag na (J3.suite he3 hd3 na nL nF) (fun A Q E s k q => wpAny_typeOf_ref (k _ _ he3) (by rw [hz3.1]; exact q)) nL nF hh w
  · cases f with
    | ret u =>
      obtain ⟨v, σ1, H1, J1, r, q⟩ := z
      exact ⟨v, σ1, H1, J1.ofTry ok, r, q⟩
    | next =>
      obtain ⟨σ1, H1, J1, q⟩ := z
      exact wpAny_execs_nil ⟨σ1, H1, J1.ofTry ok, q⟩
    | brk =>
      obtain ⟨σ1, H1, J1, q⟩ := z
      exact ⟨σ1, H1, J1.ofTry ok, q⟩
    | cont =>
      obtain ⟨σ1, H1, J1, q⟩ := z
      exact ⟨σ1, H1, J1.ofTry ok, q⟩
end
end DL
namespace DL
open PySem PySem.Spec PyProof.Rows L2
/-- the package's errors -/
inductive Ek where | unfit | badMachine | badProgram | badTable | badText | badLog | tooMany | tooManyEdits | nothingToUndo
  deriving DecidableEq
def Ek.field : Ek → Option Str
  | .badMachine => some "error"
  | .badProgram => some "error"
  | .badTable => some "error"
  | .badText => some "line"
  | .badLog => some "line"
  | .tooMany => some "limit"
  | _ => none
/-- an error by its data: its class, what it keeps (none where it keeps nothing) -/
structure XD where
  k : Ek
  a : PyData
/-- class and own dict of an error x at F, H; the dict is no slot's -/
def XAt (K : PySem.W.Frag) (xc : Ek → Option Addr) (F : Nat → List Addr) (H : Hp) (x : XD) (cls : Value) (d : Option Addr) : Prop :=
  ∃ C, xc x.k = some C ∧ cls = .ref C ∧ pur x.a = true ∧ match x.k.field with
    | none => d = none ∧ x.a = .none
    | some f => ∃ dd v, d = some dd ∧ H dd = some (.xd [(f, v)]) ∧ Rp K false H v x.a [] ∧ ¬ Own F dd
/-- .. and it is new -/
def XOf (K : PySem.W.Frag) (xc : Ek → Option Addr) (v0 : Cv) (F : Nat → List Addr) (H : Hp) (x : XD) (cls : Value) (d : Option Addr) : Prop :=
  XAt K xc F H x cls d ∧ ∀ dd, d = some dd → Own v0.F0 dd ∨ v0.H0 dd = none
/-- what is wished of an error goes where the context takes it -/
def Tk (X : Cx) (xc : Ek → Option Addr) (v0 : Cv) (wd : XD → DEnv → Prop) : Prop :=
  ∃ W, L2.Takes X W ∧ ∀ σ H ρ F x cls d, StOk X.K v0 σ H ρ F → XOf X.K xc v0 F H x cls d → wd x ρ → W cls d σ H
theorem Tk.none {X : Cx} {xc : Ek → Option Addr} {v0 : Cv} : Tk X xc v0 (fun _ _ => False) := ⟨_, takes_none5, fun _ _ _ _ _ _ _ _ _ h => h⟩
structure Ctx where
  α : Type
  args : α → List R
  pre : α → Prop
  post : α → DEnv → R → Prop
  xp : α → DEnv → XD → Prop
def spX (K : PySem.W.Frag) (xc : Ek → Option Addr) (n : Nat) (c : Ctx) : Sp := fun vs H Q E => vs.length = n ∧ ∃ rs F0, StOk K (cv0 (vs.map some) F0 H) (vs.map some) H (rs.map some) F0 ∧ (∀ r ∈ rs, r.k = .shr ∨ r.k = .fix) ∧
  ∃ a, rs = c.args a ∧ c.pre a ∧ (∀ ρ' r, c.post a ρ' r → ∀ v σ' H' F' G, StOk K (cv0 (vs.map some) F0 H) σ' H' ρ' F' → Step F0 H F' H' → ResOk K F0 H F' H' r v G → Q v H') ∧
    ∀ ρ' x, c.xp a ρ' x → ∀ σ' H' F' cls d, StOk K (cv0 (vs.map some) F0 H) σ' H' ρ' F' → Step F0 H F' H' → XOf K xc (cv0 (vs.map some) F0 H) F' H' x cls d → E cls d H'
structure FnX (P : Program) (w : World) (K : PySem.W.Frag) (mg : Str → Option Value) (base : Heap) (xc : Ek → Option Addr) (k : Nat) (f : Addr) (fd : FuncData) (ps : List Str) (c : Ctx) : Prop where
  fn : FnG P w K mg base (L2.CX P w) k f fd ps (spX K xc ps.length c)
  len : ∀ a, (c.args a).length = ps.length
  sm : ps.length ≤ big
section
variable {P : Program} {w : World} {K : PySem.W.Frag} {mg : Str → Option Value} {base : Heap} {xc : Ek → Option Addr}
theorem FnX.mono {j k : Nat} {f : Addr} {fd : FuncData} {ps : List Str} {c : Ctx} (F : FnX P w K mg base xc j f fd ps c) (h : j ≤ k) : FnX P w K mg base xc k f fd ps c := ⟨F.fn.mono h, F.len, F.sm⟩
/-- THE RULE for a def that may raise -/
theorem fnX {x qual : Str} {st : Stmt} {f : Addr} {fd : FuncData} {N ps : List Str} {k : Nat} {c : Ctx} (F : Fun K x qual st f fd) (S : FnScope N ps (defScope st)) (len : ∀ a, (c.args a).length = ps.length)
    (hbody : ∀ (cdv : Value) (A : Around) (outer : List PySem.Env) (s : Shared) (H : Hp) (E : XK) (v0 : Cv) (a : c.α), A.guards = some [] → Room k (A.deeper (envOfC qual (defScope st) s.heap.objs.size f cdv)) →
      PassesOwn (model P w) (cxOf (L2.CX P w) P w K mg base N qual (defScope st) f cdv A outer s H E).A (cxOf (L2.CX P w) P w K mg base N qual (defScope st) f cdv A outer s H E).env (cxOf (L2.CX P w) P w K mg base N qual (defScope st) f cdv A outer s H E).xe →
      Tk (cxOf (L2.CX P w) P w K mg base N qual (defScope st) f cdv A outer s H E) xc v0 (fun x ρ => c.xp a ρ x) → c.pre a →
      ∃ wb, DSs (cxOf (L2.CX P w) P w K mg base N qual (defScope st) f cdv A outer s H E) v0 (defBody st) wb ∧ wb { nx := fun ρ => c.post a ρ (DL.P .none), rt := c.post a } (startD N.length (c.args a))) (hN : N.length ≤ big := by decide +kernel) :
    FnX P w K mg base xc (k + 1) f fd ps c := by
  have hpN : ps.length ≤ N.length := by
    have := congrArg List.length S.pre
    rw [List.length_take] at this
    omega
  obtain ⟨oc, od, kV, doc, pm, an, cdv, ct, osl, rfl, lk, hcd⟩ := F.ex
  refine ⟨fnG_of lk hcd S (fun vs H Q E h => h.1) fun A outer s H vs Q E hgd hr hsp => ?_, len, Nat.le_trans hpN hN⟩
  obtain ⟨hl, rs, F0, S0, hk, a, rfl, hpre, hq, hx⟩ := hsp
  have tk : Tk (cxOf (L2.CX P w) P w K mg base N qual (defScope st) f cdv A outer s H E) xc (cv0 (vs.map some) F0 H) (fun x ρ => c.xp a ρ x) :=
    ⟨_, takes_of rfl rfl rfl rfl, fun σ H' ρ F' x cls d S' xo h => hx ρ x h σ H' F' cls d S' S'.st xo⟩
  obtain ⟨wb, ⟨t, p, q⟩, hw⟩ := hbody cdv A outer s H E (cv0 (vs.map some) F0 H) a hgd hr (passes_of rfl) tk hpre
  have hrl : (c.args a).length = vs.length := by simpa using S0.len
  have S1 : StOk K (cv0 (vs.map some) F0 H) (L2.start N vs) H (startD N.length (c.args a)) F0 := by
    refine ⟨fun i r e => ?_, S0.nd, S0.dj, S0.live, by unfold startD L2.start; simp; omega, by have e0 : (L2.start N vs).length = N.length := by { unfold L2.start; simp; omega }; rw [e0]; exact hN, Step.refl⟩
    unfold startD at e
    by_cases hi : i < (c.args a).length
    · rw [List.getElem?_append_left (by simpa using hi)] at e
      obtain ⟨v, e1, so⟩ := S0.slot i r e
      refine ⟨v, ?_, so⟩
      unfold L2.start
      rw [List.getElem?_append_left (by simp; omega)]
      exact e1
    · rw [List.getElem?_append_right (by simpa using hi), List.getElem?_replicate] at e
      split at e <;> cases e
  refine ⟨t, p, q _ H _ F0 S1 _ _ ?_ hw⟩
  exact ⟨fun σ' H' ρ' F' S' s' h => hq _ _ h .non σ' H' F' [] S' s' ⟨.non, fun _ i => nomatch i⟩, fun σ' v H' ρ' F' r G S' s' ro h => hq _ _ h v σ' H' F' G S' s' ro, fun _ _ _ _ _ _ h => h.elim, fun _ _ _ _ _ _ h => h.elim⟩
end
section
variable {X : Cx} {v0 : Cv} {k : Nat} {f : Addr} {fd : FuncData} {ps ks : List Str} {c : Ctx} {x y : Str} {p p1 pos : Pos} {e : Expr} {es : List Expr} {kws : List Keyword} {ea : Bool} {wr : WA} {tr : TA} {xc : Ek → Option Addr} {sp : Sp} {E : L2.St → XK} {t tk : TA} {CX : CXT}
theorem run_GS {pins : List (Addr × Obj)} {σ : L2.St} {H : Hp} {s : Shared} {Q : VK} {args : Args} {us : List Value} {vs : List V} (F : FnG X.prog X.w X.K X.mg X.base CX k f fd ps sp) (hgd : X.A.guards = some []) (hr : Room k X.A) (hx : PassesAt CX X σ (E σ))
    (I : Inv X pins σ H s) (hb : BindsTo s fd args (ps.zip us)) (r : Vals vs us) (h : sp vs H Q (E σ)) : wpAny (model X.prog X.w) X.A (call (.ref f) args.pos args.kw) (EP X pins σ Q) X.xe s := by
  refine wpAny_call (codeAny_mono (F.run X.A X.stack s H args us vs Q (E σ) hgd hr I.env0 hb r h) fun r s' hq => ?_)
  cases r with
  | error e => exact hx pins H s e s' I hq
  | ok fl =>
    cases fl with
    | ret u => exact I.after hq
    | next => exact hq.elim
    | brk => exact hq.elim
    | cont => exact hq.elim
theorem pe_callGS (F : FnG X.prog X.w X.K X.mg X.base CX k f fd ps sp) (hgd : X.A.guards = some []) (hr : Room k X.A) (hg : Gl X x) (hm : X.mg x = some (.ref f)) (hk : PySem.W.keepIn X.K (.ref f) = true) (hb : Binds X.K fd ps []) (hx : ∀ σ, PassesAt CX X σ (E σ))
    (ha : PA X (e :: es) t) (hdb : (x == ("__debug__" : Str)) = false := by decide) (he : starEach (e :: es) X.env = (false, eval e X.env) :: starEach es X.env := by rfl) (hpl : (backTo pos (starEach es X.env)).any (·.1) = false := by rfl) :
    PE X (.Call (.Name x p) (e :: es) [] pos) (tCallS sp E t) := by
  constructor
  intro pins s σ H Q I h
  refine wpAny_Call_Name_kw (ld_glob I hg hm ?_ hdb)
  refine PySem.W.callWith_K (h₀ := X.base) I.ok.mod.kin hk (thn (ha.run pos pins s σ H _ I h) ?_) he hpl
  rintro us s1 ⟨vs, H1, I1, r, q⟩
  have hl : us.length = ps.length := by rw [← r.length]; exact F.len _ _ _ _ q
  have hb' := hb s1 us I1.kIn (by rw [List.append_nil]; exact hl)
  rw [List.append_nil] at hb'
  exact ⟨I1.kIn, run_GS (args := ⟨us, []⟩) F hgd hr (hx σ) I1 hb' r q⟩
/-- all by names -/
theorem pe_callGSK {g : List Value → List Value} {gV : List V → List V} (F : FnG X.prog X.w X.K X.mg X.base CX k f fd ps sp) (hgd : X.A.guards = some []) (hr : Room k X.A) (hg : Gl X x) (hm : X.mg x = some (.ref f)) (hk : PySem.W.keepIn X.K (.ref f) = true)
    (hb : ∀ (s : Shared) (ws : List Value), X.K.In s.heap → (g ws).length = ps.length → BindsTo s fd ⟨[], ks.zip ws⟩ (ps.zip (g ws))) (hrel : ∀ (zs : List V) (ws : List Value), Vals zs ws → Vals (gV zs) (g ws)) (hx : ∀ σ, PassesAt CX X σ (E σ)) (hkw : PK X kws tk) (hall : (backToKw pos (keywordEach kws X.env)).all (·.1.isSome) = true := by rfl) (hks : (backToKw pos (keywordEach kws X.env)).filterMap (·.1) = ks := by rfl)
    (hdb : (x == ("__debug__" : Str)) = false := by decide) (hpl : ((backTo pos (starEach [] X.env)).any (·.1) || (backToKw pos (keywordEach kws X.env)).any (·.1.isNone)) = false := by rfl) :
    PE X (.Call (.Name x p) [] kws pos) (fun σ H Q => tk σ H fun zs H1 => sp (gV zs) H1 Q (E σ)) := by
  constructor
  intro pins s σ H Q I h
  refine wpAny_Call_Name_kw (ld_glob I hg hm ?_ hdb)
  refine PySem.W.callWith_KW0 (h₀ := X.base) I.ok.mod.kin hk hall (thn (hkw.run pos pins s σ H _ I h) ?_) hpl
  rintro ws s1 ⟨zs, H1, I1, rz, q⟩
  refine ⟨I1.kIn, ?_⟩
  rw [hks]
  have r2 := hrel zs ws rz
  have hl : (g ws).length = ps.length := by rw [← r2.length]; exact F.len _ _ _ _ q
  exact run_GS (args := ⟨[], ks.zip ws⟩) F hgd hr (hx σ) I1 (hb s1 ws I1.kIn hl) r2 q
/-- a call that may raise; its arguments are shared -/
def Ctx.sd (c : Ctx) (rs : List R) (Q : DEnv → R → Prop) (E : XD → Prop) : Prop := ∃ a, rs = c.args a ∧ c.pre a ∧ (∀ ρ' r, c.post a ρ' r → Q ρ' r) ∧ ∀ ρ' x, c.xp a ρ' x → E x
def wFnX (c : Ctx) (wd : XD → DEnv → Prop) (wr : WA) : WE := fun ρ Q => wr ρ fun ρ1 rs => c.sd (rs.map fun r => P r.d) (fun _ r => Q ρ1 (cv r)) fun x => wd x ρ1
theorem core_fnX {n : Nat} {W : WX} {wd : XD → DEnv → Prop} (hW : ∀ σ H ρ F x cls d, StOk X.K v0 σ H ρ F → XOf X.K xc v0 F H x cls d → wd x ρ → W cls d σ H) (hn : ∀ a, (c.args a).length = n) (hsm : n ≤ big) {σ : L2.St} {H H1 : Hp} {ρ ρ1 : DEnv} {F F1 : Nat → List Addr} {rs : List R} {vs : List V} {G0 : List Addr} {Qd : DEnv → R → Prop} {Q : VK}
    (S1 : StOk X.K v0 σ H1 ρ1 F1) (s1 : Step F H F1 H1) (e1 : Eff ea ρ F H ρ1 F1 H1) (rp : RpAll X.K false H1 vs (rs.map (·.d)) G0) (h1 : c.sd (rs.map fun r => P r.d) (fun _ r => Qd ρ1 (cv r)) fun x => wd x ρ1)
    (k : ∀ v H' ρ' F' r G, StOk X.K v0 σ H' ρ' F' → Step F H F' H' → Eff ea ρ F H ρ' F' H' → ResOk X.K F H F' H' r v G → Qd ρ' r → Q v H') : spX X.K xc n c vs H1 Q (fun cls d H' => W cls d σ H') := by
  obtain ⟨a, ea', hpre, hpost, hxp⟩ := h1
  have hvl := rp.length
  have hal := congrArg List.length ea'
  rw [hn, List.length_map] at hal
  have hvs : vs.length ≤ big := by rw [hvl, List.length_map, hal]; exact hsm
  refine ⟨by rw [hvl, List.length_map]; exact hal, _, _, args_st rp hvs, fun r hr => ?_, a, ea', hpre, fun ρ' r hp v σ' H' F' G S' s' ro => ?_, fun ρ' x hp σ' H' F' cls d S' s' xo => ?_⟩
  · obtain ⟨r0, _, rfl⟩ := List.mem_map.mp hr
    exact .inl rfl
  · have ex : Ext H1 H' := fun b o hb => s'.keep b o hb fun ⟨_, z⟩ => nomatch z
    obtain ⟨G', ro'⟩ := cv_ok (F := F) (F1 := F1) (H0 := H) ro fun hk => by
      obtain ⟨kd, d⟩ := r
      cases hk
      obtain ⟨q, nd, n, o⟩ := ro
      have nn : ∀ b ∈ G, H1 b = none := fun b hb => (o b hb).resolve_left fun ⟨_, z⟩ => nomatch z
      exact ⟨fun b hb z => S1.live b z (nn b hb), fun b hb => s1.none_of (nn b hb)⟩
    exact k v H' ρ1 F1 (cv r) G' (S1.ext ex) (s1.trans (Step.ext ex)) (e1.ext ex) ro' (hpost ρ' r hp)
  · have ex : Ext H1 H' := fun b o hb => s'.keep b o hb fun ⟨_, z⟩ => nomatch z
    refine hW σ H' ρ1 F1 x cls d (S1.ext ex) ?_ (hxp ρ' x hp)
    obtain ⟨⟨C, x1, x2, x3, x4⟩, x5⟩ := xo
    have nn : ∀ dd, d = some dd → H1 dd = none := fun dd e => (x5 dd e).resolve_left fun ⟨_, z⟩ => nomatch z
    refine ⟨⟨C, x1, x2, x3, ?_⟩, fun dd e => S1.st.none_of (nn dd e)⟩
    split at x4
    · exact x4
    · obtain ⟨dd, v, y1, y2, y3, y4⟩ := x4
      exact ⟨dd, v, y1, y2, y3, fun z => S1.live dd z (nn dd y1)⟩
theorem de_fnX {wd : XD → DEnv → Prop} (tk : Tk X xc v0 wd) (F : FnX X.prog X.w X.K X.mg X.base xc k f fd ps c) (hgd : X.A.guards = some []) (hr : Room k X.A) (hm : X.mg x = some (.ref f)) (hk : PySem.W.keepIn X.K (.ref f) = true) (hb : Binds X.K fd ps []) (ha : DG X v0 ea (e :: es) wr) (hg : Gl X x := by rfl)
    (hdb : (x == ("__debug__" : Str)) = false := by decide) (he : starEach (e :: es) X.env = (false, eval e X.env) :: starEach es X.env := by rfl) (hpl : (backTo pos (starEach es X.env)).any (·.1) = false := by rfl) : DE X v0 ea (.Call (.Name x p) (e :: es) [] pos) (wFnX c wd wr) := by
  obtain ⟨t, pa, q⟩ := ha
  obtain ⟨W, hT, hW⟩ := tk
  refine ⟨_, pe_callGS F.fn hgd hr hg hm hk hb (fun σ => passAt hT σ) pa hdb he hpl, ?_⟩
  intro σ H ρ F0 S Qd Q h kk
  refine q σ H ρ F0 S _ _ h fun vs H1 ρ1 F1 rs S1 s1 e1 A h1 => ?_
  obtain ⟨G0, rp⟩ := A.all.read
  exact core_fnX hW F.len F.sm S1 s1 e1 rp h1 kk
end
/-- a def that may raise and may be called -/
structure FxX (P : Program) (w : World) (K : PySem.W.Frag) (mg : Str → Option Value) (base : Heap) (xc : Ek → Option Addr) (x : Str) (f : Addr) (fd : FuncData) (ps : List Str) (k : Nat) (c : Ctx) : Prop where
  F : FnX P w K mg base xc k f fd ps c
  m : mg x = some (.ref f)
  kp : PySem.W.keepIn K (.ref f) = true
  bd : Binds K fd ps []
section
variable {X : Cx} {v0 : Cv} {k : Nat} {f : Addr} {fd : FuncData} {ps ks : List Str} {c : Ctx} {x y : Str} {p p1 pos : Pos} {e : Expr} {es : List Expr} {kws : List Keyword} {ea : Bool} {wr : WA} {xc : Ek → Option Addr} {wd : XD → DEnv → Prop}
theorem de_callX (tk : Tk X xc v0 wd) (C : FxX X.prog X.w X.K X.mg X.base xc x f fd ps k c) (hgd : X.A.guards = some []) (hr : Room k X.A) (ha : DG X v0 ea (e :: es) wr) (hg : Gl X x := by rfl)
    (hdb : (x == ("__debug__" : Str)) = false := by decide) (he : starEach (e :: es) X.env = (false, eval e X.env) :: starEach es X.env := by rfl) (hpl : (backTo pos (starEach es X.env)).any (·.1) = false := by rfl) : DE X v0 ea (.Call (.Name x p) (e :: es) [] pos) (wFnX c wd wr) :=
  de_fnX tk C.F hgd hr C.m C.kp C.bd ha hg hdb he hpl
def wFnXK (c : Ctx) (wd : XD → DEnv → Prop) (π : List Nat) (wr : WA) : WE := fun ρ Q => wr ρ fun ρ1 rs => c.sd ((pick π rs).map fun r => P r.d) (fun _ r => Q ρ1 (cv r)) fun x => wd x ρ1
theorem de_callXK (π : List Nat) (tk : Tk X xc v0 wd) (C : FxX X.prog X.w X.K X.mg X.base xc x f fd ps k c) (hgd : X.A.guards = some []) (hr : Room k X.A) (kb : KwTo X.K fd ps ks π) (ha : DKw X v0 ea kws wr) (hg : Gl X x := by rfl)
    (hall : (backToKw pos (keywordEach kws X.env)).all (·.1.isSome) = true := by rfl) (hks : (backToKw pos (keywordEach kws X.env)).filterMap (·.1) = ks := by rfl)
    (hdb : (x == ("__debug__" : Str)) = false := by decide) (hpl : ((backTo pos (starEach [] X.env)).any (·.1) || (backToKw pos (keywordEach kws X.env)).any (·.1.isNone)) = false := by rfl) : DE X v0 ea (.Call (.Name x p) [] kws pos) (wFnXK c wd π wr) := by
  obtain ⟨t, pa, q⟩ := ha
  obtain ⟨W, hT, hW⟩ := tk
  refine ⟨_, pe_callGSK (g := pick π) (gV := pick π) C.F.fn hgd hr hg C.m C.kp (fun s ws hk hl => kb s ws hk hl) (fun zs ws r => DL.Vals.pick r π) (fun σ => passAt hT σ) pa hall hks hdb hpl, fun σ H ρ F S Qd Q h kk => ?_⟩
  refine q σ H ρ F S _ _ h fun vs H1 ρ1 F1 rs S1 s1 e1 A h1 => ?_
  obtain ⟨G0, rp0⟩ := A.all.read
  obtain ⟨G1, rp⟩ := rp0.pick π
  rw [pick_map] at rp
  exact core_fnX (rs := pick π rs) hW C.F.len C.F.sm S1 s1 e1 rp h1 kk
end
end DL
namespace DL
open PySem PySem.Spec PyProof.Rows L2
/-- what an except clause may name -/
inductive Hk where | own (k : Ek) | ladder | valueError
def isa : Ek → Hk → Bool
  | k, .own k' => k == k'
  | _, _ => true
/-- a clause by data: its class, the slot of its name, its suite -/
structure DCl where
  h : Hk
  i : Option Nat
  w : XD → WS
def unD (i : Option Nat) (D : DEnds) : DEnds := match i with
  | none => D
  | some i => { nx := fun ρ => D.nx (ρ.set i none), rt := fun ρ r => D.rt (ρ.set i none) r, bk := fun ρ => D.bk (ρ.set i none), ct := fun ρ => D.ct (ρ.set i none) }
abbrev exD : R := ⟨.als, .dict []⟩
def atD (i : Option Nat) (ρ : DEnv) : DEnv := match i with
  | none => ρ
  | some i => ρ.set i (some exD)
def okN (i : Option Nat) (ρ : DEnv) : Prop := match i with
  | none => True
  | some i => free ρ i
def wClD (wd : XD → DEnv → Prop) (D : DEnds) : List DCl → XD → DEnv → Prop
  | [] => wd
  | c :: r => fun x ρ => if isa x.k c.h = true then okN c.i ρ ∧ c.w x (unD c.i D) (atD c.i ρ) else wClD wd D r x ρ
def wTry (wb : (XD → DEnv → Prop) → WS) (l : List DCl) (wd : XD → DEnv → Prop) : WS := fun D ρ => wb (wClD wd D l) D ρ
/-- the state in a suite -/
def exV (v0 : Cv) (i : Option Nat) (a : Addr) (F : Nat → List Addr) (H : Hp) : Cv := ⟨v0.v, fun j => if i = some j then some (.ref a) else v0.ex j, F, H⟩
theorem exV_none {v0 : Cv} {a : Addr} {F : Nat → List Addr} {H : Hp} {j : Nat} : (exV v0 none a F H).ex j = v0.ex j := by
  show (if (none : Option Nat) = some j then some (V.ref a) else v0.ex j) = _
  rw [if_neg (by simp)]
theorem exV_ne {v0 : Cv} {a : Addr} {F : Nat → List Addr} {H : Hp} {i j : Nat} (h : j ≠ i) : (exV v0 (some i) a F H).ex j = v0.ex j := by
  show (if some i = some j then some (V.ref a) else v0.ex j) = _
  rw [if_neg (by intro z; cases z; exact h rfl)]
theorem exV_at {v0 : Cv} {a : Addr} {F : Nat → List Addr} {H : Hp} {i : Nat} : (exV v0 (some i) a F H).ex i = some (.ref a) := by
  show (if some i = some i then some (V.ref a) else v0.ex i) = _
  rw [if_pos rfl]
def drN (F : Nat → List Addr) : Option Nat → Nat → List Addr
  | none => F
  | some i => sF F i []
section
variable {K : PySem.W.Frag} {v0 : Cv} {σ : L2.St} {H : Hp} {ρ : DEnv} {F : Nat → List Addr} {i : Option Nat} {a : Addr}
theorem drN_own {b : Addr} (h : Own (drN F i) b) : Own F b := by
  cases i with
  | none => exact h
  | some i => exact sF_nil h
theorem StOk.toSuite (S : StOk K v0 σ H ρ F) (hf : okN i ρ) : StOk K (exV v0 i a (drN F i) H) (atN i a σ) H (atD i ρ) (drN F i) := by
  cases i with
  | none =>
    exact ⟨fun j r h => by
      obtain ⟨v, h1, h2⟩ := S.slot j r h
      refine ⟨v, h1, ?_⟩
      obtain ⟨k, d⟩ := r
      cases k with
      | shr => exact h2
      | own => exact h2
      | fix => exact h2
      | als => exact ⟨exV_none.trans h2.1, h2.2⟩, S.nd, S.dj, S.live, S.len, S.sm, Step.refl⟩
  | some i =>
    have hi : i < ρ.length := free_lt hf
    have hiσ : i < σ.length := by rw [← S.len]; exact hi
    have hb : i < big := Nat.lt_of_lt_of_le hiσ S.sm
    have T := S.drop i hb
    refine ⟨fun j r h => ?_, T.nd, T.dj, T.live, by simp [atN, atD, S.len], by simpa [atN] using S.sm, Step.refl⟩
    have h : (ρ.set i (some exD))[j]? = some (some r) := h
    by_cases hj : j = i
    · subst hj
      rw [List.getElem?_set_self hi] at h
      cases h
      exact ⟨.ref a, by show (σ.set j _)[j]? = _; exact List.getElem?_set_self hiσ, exV_at, rfl⟩
    · rw [List.getElem?_set_ne (Ne.symm hj)] at h
      obtain ⟨v, h1, h2⟩ := T.slot j r (by rw [List.getElem?_set_ne (Ne.symm hj)]; exact h)
      refine ⟨v, by show (σ.set i _)[j]? = _; rw [List.getElem?_set_ne (Ne.symm hj)]; exact h1, ?_⟩
      obtain ⟨k, d⟩ := r
      cases k with
      | shr => exact h2
      | own => exact h2
      | fix => exact h2
      | als => exact ⟨(exV_ne hj).trans h2.1, h2.2⟩
def cutN (i : Option Nat) (ρ : DEnv) : DEnv := match i with
  | none => ρ
  | some i => ρ.set i none
def cutS (i : Option Nat) (σ : L2.St) : L2.St := match i with
  | none => σ
  | some i => σ.set i none
/-- behind a suite -/
theorem StOk.ofSuite {F1 : Nat → List Addr} {H1 : Hp} (S : StOk K (exV v0 i a F1 H1) σ H ρ F) (hi : ∀ j, i = some j → j < big) (st : Step v0.F0 v0.H0 F H) (b : Bool) : StOk K v0 (if b = true then cutS i σ else σ) H (cutN i ρ) (drN F i) := by
  cases i with
  | none =>
    have S' : StOk K v0 σ H ρ F := ⟨fun j r h => by
      obtain ⟨v, h1, h2⟩ := S.slot j r h
      refine ⟨v, h1, ?_⟩
      obtain ⟨k, d⟩ := r
      cases k with
      | shr => exact h2
      | own => exact h2
      | fix => exact h2
      | als => exact ⟨exV_none.symm.trans h2.1, h2.2⟩, S.nd, S.dj, S.live, S.len, S.sm, st⟩
    cases b <;> exact S'
  | some i =>
    have hb := hi i rfl
    have T := S.drop i hb
    have S' : ∀ σ' : L2.St, σ'.length = σ.length → (∀ j : Nat, j ≠ i → σ'[j]? = σ[j]?) → StOk K v0 σ' H (ρ.set i none) (sF F i []) := fun σ' hl hg =>
      ⟨fun j r h => by
        have hj : j ≠ i := fun z => by
          subst z
          by_cases hl : j < ρ.length
          · rw [List.getElem?_set_self hl] at h
            cases h
          · rw [List.getElem?_eq_none (by simpa using hl)] at h
            cases h
        obtain ⟨v, h1, h2⟩ := T.slot j r h
        refine ⟨v, by rw [hg j hj]; exact h1, ?_⟩
        obtain ⟨k, d⟩ := r
        cases k with
        | shr => exact h2
        | own => exact h2
        | fix => exact h2
        | als => exact ⟨(exV_ne hj).symm.trans h2.1, h2.2⟩, T.nd, T.dj, T.live, by rw [T.len]; exact hl.symm, by rw [hl]; exact S.sm, st.trans (Step.drop i hb)⟩
    cases b
    · exact S' σ rfl fun _ _ => rfl
    · exact S' (σ.set i none) (by simp) fun j hj => List.getElem?_set_ne (Ne.symm hj)
end
theorem ResOk.less {K : PySem.W.Frag} {F F1 F2 : Nat → List Addr} {H H' : Hp} {r : R} {v : V} {G : List Addr} (h : ResOk K F H F1 H' r v G) (le : ∀ a, Own F2 a → Own F1 a) : ResOk K F H F2 H' r v G := by
  obtain ⟨k, d⟩ := r
  cases k with
  | shr => exact ⟨h.1, fun a i z => h.2 a i (le a z)⟩
  | own =>
    obtain ⟨q, nd, n, o⟩ := h
    exact ⟨q, nd, fun a i z => n a i (le a z), o⟩
  | fix => exact h
  | als => exact h
section
variable {X : Cx} {v0 : Cv} {xc : Ek → Option Addr} {wd : XD → DEnv → Prop}
/-- a clause that fits -/
structure ClOk (X : Cx) (v0 : Cv) (xc : Ek → Option Addr) (hd : ExceptHandler) (c : DCl) : Prop where
  ex : ∃ (e : Expr) (n : Option Str) (b0 : Stmt) (suite : List Stmt) (pos : Pos) (m : Value → Option Bool), hd = .ExceptHandler (some e) n (b0 :: suite) pos ∧ ClT X e m ∧ (∀ k C, xc k = some C → m (.ref C) = some (isa k c.h)) ∧
    (n = none ∧ c.i = none ∨ ∃ x j, n = some x ∧ c.i = some j ∧ X.N[j]? = some x ∧ X.env.kindOf x = some .local) ∧
    ∀ (a : Addr) (oe : Obj) (cls : Value) (d : Option Addr) (pn : List (Addr × Obj)) (v2 : Cv) (x : XD), Zc cls d oe → (∃ vs, oe.data = .fields vs) → XAt X.K xc v2.F0 v2.H0 x cls d → (∀ j, c.i = some j → v2.ex j = some (.ref a)) →
      DSs (X.suite a ((a, oe) :: pn)) v2 (b0 :: suite) (c.w x)
inductive ClsD (X : Cx) (v0 : Cv) (xc : Ek → Option Addr) : List ExceptHandler → List DCl → Prop
  | nil : ClsD X v0 xc [] []
  | cons {hd : ExceptHandler} {hds : List ExceptHandler} {c : DCl} {l : List DCl} : ClOk X v0 xc hd c → ClsD X v0 xc hds l → ClsD X v0 xc (hd :: hds) (c :: l)
/-- what a suite's reading comes to, at the library's level -/
def tSuite (X : Cx) (v0 : Cv) (xc : Ek → Option Addr) (c : DCl) : Addr → Value → Option Addr → TS := fun a cls d D σ H =>
  ∃ (v2 : Cv) (x : XD) (ρ : DEnv) (F : Nat → List Addr) (Dd : DEnds), XAt X.K xc v2.F0 v2.H0 x cls d ∧ (∀ j, c.i = some j → v2.ex j = some (.ref a)) ∧ StOk X.K v2 σ H ρ F ∧ EndsOk X.K v2 F H Dd D ∧ c.w x Dd ρ
theorem cls_of {hds : List ExceptHandler} {l : List DCl} (h : ClsD X v0 xc hds l) : ∃ l' : List Cl, ClsOk X hds l' ∧
    ∀ (Wout : WX) (F : Nat → List Addr) (H : Hp) (σ : L2.St) (ρ : DEnv) (Dd : DEnds) (D : Ends) (v1 : Cv), v1 = ⟨v0.v, v0.ex, F, H⟩ → Step v0.F0 v0.H0 F H → EndsOk X.K v0 F H Dd D →
      (∀ σ H ρ F x cls d, StOk X.K v0 σ H ρ F → XOf X.K xc v0 F H x cls d → wd x ρ → Wout cls d σ H) →
      ∀ σ' H' ρ' F' x cls d, StOk X.K v1 σ' H' ρ' F' → XOf X.K xc v1 F' H' x cls d → wClD wd Dd l x ρ' → wCl Wout D l' cls d σ' H' := by
  induction h with
  | nil =>
    refine ⟨[], .nil, ?_⟩
    rintro Wout F H σ ρ Dd D v1 rfl st0 e hW σ' H' ρ' F' x cls d S' ⟨xa, xn⟩ h
    refine hW σ' H' ρ' F' x cls d ⟨fun j r q => ?_, S'.nd, S'.dj, S'.live, S'.len, S'.sm, st0.trans S'.st⟩ ⟨xa, fun dd e => ?_⟩ h
    · obtain ⟨v, h1, h2⟩ := S'.slot j r q
      refine ⟨v, h1, ?_⟩
      obtain ⟨k, d⟩ := r
      cases k <;> exact h2
    · rcases xn dd e with z | z
      · exact st0.own dd z
      · exact st0.none_of z
  | @cons hd hds c l hc _ ih =>
    obtain ⟨l', ok', ih⟩ := ih
    obtain ⟨e, n, b0, suite, pos, m, rfl, ht, hm, hn, hsu⟩ := hc
    refine ⟨⟨m, c.i, tSuite X v0 xc c⟩ :: l', .cons ht hn (fun a oe cls d pn hz hf => ⟨fun pins s σ H D I h => ?_⟩) ok', ?_⟩
    · obtain ⟨v2, x, ρ, F, Dd, xa, hx, S, en, hw⟩ := h
      obtain ⟨t, p, q⟩ := hsu a oe cls d pn v2 x hz hf xa hx
      exact p.run pins s σ H D I (q σ H ρ F S Dd D en hw)
    · rintro Wout F H σ ρ Dd D v1 rfl st0 e1 hW σ' H' ρ' F' x cls d S' xo h
      obtain ⟨C, q1, rfl, q3⟩ := xo.1
      refine ⟨_, hm x.k C q1, fun hb a na => ?_, fun hb => ?_⟩
      · unfold wClD at h
        rw [if_pos hb] at h
        obtain ⟨hfr, h⟩ := h
        have ib : ∀ j, c.i = some j → j < big := fun j e => by
          rw [e] at hfr
          exact Nat.lt_of_lt_of_le (by rw [← S'.len]; exact free_lt hfr) S'.sm
        have S2 := S'.toSuite (a := a) hfr
        have sN : Step F' H' (drN F' c.i) H' := by
          cases e : c.i with
          | none => exact Step.refl
          | some i => exact Step.drop i (ib i e)
        have sA : Step F H (drN F' c.i) H' := S'.st.trans sN
        refine ⟨_, x, _, _, unD c.i Dd, ?_, fun j e => (by rw [e]; exact exV_at), S2, ?_, h⟩
        · obtain ⟨C', y1, y2, y3, y4⟩ := xo.1
          refine ⟨C', y1, y2, y3, ?_⟩
          split at y4
          · exact y4
          · obtain ⟨dd, v, z1, z2, z3, z4⟩ := y4
            exact ⟨dd, v, z1, z2, z3, fun z => z4 (drN_own z)⟩
        · have fin : ∀ {σ3 : L2.St} {H3 : Hp} {ρ3 : DEnv} {F3 : Nat → List Addr} (b : Bool), StOk X.K (exV ⟨v0.v, v0.ex, F, H⟩ c.i a (drN F' c.i) H') σ3 H3 ρ3 F3 → Step (drN F' c.i) H' F3 H3 → StOk X.K v0 (if b = true then cutS c.i σ3 else σ3) H3 (cutN c.i ρ3) (drN F3 c.i) ∧ Step F H (drN F3 c.i) H3 := fun {σ3 H3 ρ3 F3} b S3 s3 => by
            have sD : Step F3 H3 (drN F3 c.i) H3 := by
              cases e : c.i with
              | none => exact Step.refl
              | some i => exact Step.drop i (ib i e)
            exact ⟨StOk.ofSuite (v0 := v0) (a := a) (F1 := drN F' c.i) (H1 := H') S3 ib (st0.trans (sA.trans s3)) b, (sA.trans s3).trans sD⟩
          cases e : c.i with
          | none =>
            rw [e] at fin sA
            exact ⟨fun σ3 H3 ρ3 F3 S3 s3 q => e1.nx _ H3 _ _ (fin true S3 s3).1 (fin true S3 s3).2 q, fun σ3 v H3 ρ3 F3 r G S3 s3 ro q => e1.rt _ v H3 _ _ r G (fin true S3 s3).1 (fin true S3 s3).2 ((ro.back sA).less fun _ z => drN_own z) q,
              fun σ3 H3 ρ3 F3 S3 s3 q => e1.bk _ H3 _ _ (fin true S3 s3).1 (fin true S3 s3).2 q, fun σ3 H3 ρ3 F3 S3 s3 q => e1.ct _ H3 _ _ (fin true S3 s3).1 (fin true S3 s3).2 q⟩
          | some i =>
            rw [e] at fin sA
            exact ⟨fun σ3 H3 ρ3 F3 S3 s3 q => e1.nx _ H3 _ _ (fin true S3 s3).1 (fin true S3 s3).2 q, fun σ3 v H3 ρ3 F3 r G S3 s3 ro q => e1.rt _ v H3 _ _ r G (fin true S3 s3).1 (fin true S3 s3).2 ((ro.back sA).less fun _ z => drN_own z) q,
              fun σ3 H3 ρ3 F3 S3 s3 q => e1.bk _ H3 _ _ (fin true S3 s3).1 (fin true S3 s3).2 q, fun σ3 H3 ρ3 F3 S3 s3 q => e1.ct _ H3 _ _ (fin true S3 s3).1 (fin true S3 s3).2 q⟩
      · unfold wClD at h
        rw [if_neg (by rw [hb]; simp)] at h
        exact ih Wout F H σ ρ Dd D _ rfl st0 e1 hW σ' H' ρ' F' x _ d S' xo h
theorem ds_try {body : List Stmt} {hd : ExceptHandler} {hds : List ExceptHandler} {l : List DCl} {pos : Pos} {wb : (XD → DEnv → Prop) → WS} (hN : X.N.Nodup) (hs : X.stack = X.env :: X.outer) (hf : X.env.frame = some X.env.locals) (tk : Tk X xc v0 wd)
    (hb : ∀ (pn : List (Addr × Obj)) (xe : Value → Shared → Prop) (v1 : Cv) (wd1 : XD → DEnv → Prop), Tk (X.tr pn xe) xc v1 wd1 → PassesOwn (model X.prog X.w) X.A X.env xe → DSs (X.tr pn xe) v1 body (wb wd1)) (hh : ClsD X v0 xc (hd :: hds) l) :
    DS X v0 (.Try body (hd :: hds) [] [] pos) (wTry wb l wd) := by
  obtain ⟨Wout, hT, hW⟩ := tk
  obtain ⟨l', ok', hl⟩ := cls_of (wd := wd) hh
  let tb : WX → TS := fun W D σ H => ∀ (pn : List (Addr × Obj)) (xe : Value → Shared → Prop), L2.Takes (X.tr pn xe) W → PassesOwn (model X.prog X.w) X.A X.env xe →
    ∃ (v1 : Cv) (wd1 : XD → DEnv → Prop) (ρ : DEnv) (F : Nat → List Addr) (Dd : DEnds), (∀ σ H ρ F x cls d, StOk X.K v1 σ H ρ F → XOf X.K xc v1 F H x cls d → wd1 x ρ → W cls d σ H) ∧ StOk X.K v1 σ H ρ F ∧ EndsOk X.K v1 F H Dd D ∧ wb wd1 Dd ρ
  refine ⟨_, ps_tryC (tb := tb) hN hs hf hT (fun W pn xe ht hp => ⟨fun pins s σ H D I h => ?_⟩) ok', fun σ H ρ F S Dd D e h => ?_⟩
  · obtain ⟨v1, wd1, ρ, F, Dd, hW1, S, e, hw⟩ := h pn xe ht hp
    obtain ⟨t, p, q⟩ := hb pn xe v1 wd1 ⟨W, ht, hW1⟩ hp
    exact p.run pins s σ H D I (q σ H ρ F S Dd D e hw)
  · intro pn xe ht hp
    have S1 : StOk X.K ⟨v0.v, v0.ex, F, H⟩ σ H ρ F := ⟨fun j r q => by
      obtain ⟨v, h1, h2⟩ := S.slot j r q
      refine ⟨v, h1, ?_⟩
      obtain ⟨k, d⟩ := r
      cases k <;> exact h2, S.nd, S.dj, S.live, S.len, S.sm, Step.refl⟩
    have back : ∀ {σ' : L2.St} {H' : Hp} {ρ' : DEnv} {F' : Nat → List Addr}, StOk X.K ⟨v0.v, v0.ex, F, H⟩ σ' H' ρ' F' → StOk X.K v0 σ' H' ρ' F' := fun {σ' H' ρ' F'} S' => ⟨fun j r q => by
      obtain ⟨v, h1, h2⟩ := S'.slot j r q
      refine ⟨v, h1, ?_⟩
      obtain ⟨k, d⟩ := r
      cases k <;> exact h2, S'.nd, S'.dj, S'.live, S'.len, S'.sm, S.st.trans S'.st⟩
    refine ⟨_, wClD wd Dd l, ρ, F, Dd, hl Wout F H σ ρ Dd D _ rfl S.st e hW, S1, ?_, h⟩
    exact ⟨fun σ' H' ρ' F' S' s' q => e.nx σ' H' ρ' F' (back S') s' q, fun σ' v H' ρ' F' r G S' s' ro q => e.rt σ' v H' ρ' F' r G (back S') s' ro q, fun σ' H' ρ' F' S' s' q => e.bk σ' H' ρ' F' (back S') s' q, fun σ' H' ρ' F' S' s' q => e.ct σ' H' ρ' F' (back S') s' q⟩
end
end DL
namespace DL
open PySem PySem.Spec PyProof.Rows L2
/-- what is asked of an error's class: its instances' class and fields are read as told -/
structure ExK (K : PySem.W.Frag) (C : Addr) : Prop where
  cl : (PySem.W.clsIn K C).isSome = true
  ga : PySem.W.findIn K (.ref C) "__getattribute__" = some (some (.builtin "BaseException.__getattribute__"))
  gg : PySem.W.findIn K (.ref C) "__getattr__" = some none
  sb : PySem.W.subIn K (.ref C) (.type "BaseException") = some true
  hd : PySem.W.hasDictIn K C = true
  ca : PySem.W.findIn K (.ref C) "__class__" = some (some (.builtin "object.__class__"))
  sp : PySem.W.specialIn K (.builtin "object.__class__") "__get__" = some (some (.builtin "getset_descriptor.__get__"))
  tk : PySem.W.takesIn K (.builtin "object.__class__") = some true
  ob : PySem.W.mroIn K C (.type "object") = some true
def rIsX (K : PySem.W.Frag) (a C : Addr) : List V → Hp → VK → Prop := fun xs H Q => ∃ (c : V) (cv : Value) (b : Bool), xs = [.ref a, c] ∧ (∀ u, RelV c u → u = cv) ∧ PySem.W.kitOne K (.ref C) cv = some b ∧ Q (.bl b) H
section
variable {X : Cx} {a C : Addr} {oe : Obj} {cls : Value} {d : Option Addr} {pn : List (Addr × Obj)} {xc : Ek → Option Addr} {v0 : Cv} {x : XD}
/-- the error's own dict, where it has one -/
theorem xat_dict {K : PySem.W.Frag} {F : Nat → List Addr} {H : Hp} (xa : XAt K xc F H x cls d) : d = none ∨ ∃ dd fs, d = some dd ∧ H dd = some (.xd fs) ∧ ¬ Own F dd := by
  obtain ⟨C, _, _, _, h⟩ := xa
  split at h
  · exact .inl h.1
  · obtain ⟨dd, v, h1, h2, _, h4⟩ := h
    exact .inr ⟨dd, _, h1, h2, h4⟩
/-- isinstance(e, c), the error's dict tracked -/
theorem call_isX (T : ExK X.K C) (hz : Zc (.ref C) d oe) (hf : ∃ vs, oe.data = .fields vs) : CallR (X.suite a ((a, oe) :: pn)) (.builtin "isinstance") (fun xs H Q => (d = none ∨ ∃ dd fs, d = some dd ∧ H dd = some (.xd fs)) ∧ rIsX X.K a C xs H Q) := by
  intro pins s σ H xs us Q I r h
  obtain ⟨hd, c, cv, b, rfl, hcv, e, q⟩ := h
  cases r with
  | cons rx rr =>
    cases rr with
    | cons rt rr =>
      cases rr
      cases rx
      have ec := hcv _ rt
      subst ec
      obtain ⟨hget, _⟩ := I.pin (a, oe) (List.mem_append.mpr (.inl List.mem_cons_self))
      obtain ⟨vs, hv⟩ := hf
      have J : ∃ od, PySem.W.InstAt s.heap a oe C od := by
        rcases hd with rfl | ⟨dd, fs, rfl, hdd⟩
        · refine ⟨none, hget, hz.1, by unfold PySem.W.notCls; rw [hv] <;> rfl, ?_⟩
          rw [hz.2]
          trivial
        · obtain ⟨mA, hns, _⟩ := (show ObjOk X.prog X.w H s.heap dd (.xd fs) from I.hok dd _ hdd)
          obtain ⟨od, ho, _⟩ := lookIn_ns hns
          exact ⟨some od, hget, hz.1, by unfold PySem.W.notCls; rw [hv] <;> rfl, by rw [hz.2]; exact ho⟩
      obtain ⟨od, J⟩ := J
      exact PySem.W.kia_one (PySem.W.kitx_exc T.cl T.ga T.gg T.sb T.ca T.sp T.tk T.ob) I.kIn J e (fun z => nomatch z) fun tk => ⟨.bl b, H, I.kept (t' := tk) fun _ _ z => z, rfl, q⟩
def isEx (ρ : DEnv) (i : Nat) : Prop := ∃ d, ρ[i]? = some (some ⟨.als, d⟩)
theorem ex_slot {K : PySem.W.Frag} {σ : L2.St} {H : Hp} {ρ : DEnv} {F : Nat → List Addr} {i : Nat} (S : StOk K v0 σ H ρ F) (h : isEx ρ i) (hx : v0.ex i = some (.ref a)) : σ[i]? = some (some (.ref a)) := by
  obtain ⟨d, h⟩ := h
  obtain ⟨v, h1, h2⟩ := S.slot i _ h
  have h3 : v0.ex i = some v := h2.1
  rw [hx] at h3
  cases h3
  exact h1
def wIsX (i : Nat) (b : Bool) : WE := fun ρ Q => isEx ρ i ∧ Q ρ (P (.bool b))
theorem de_isX (i : Nat) {p1 p2 p3 pos : Pos} {n cn : Str} {b : Bool} {cv : V} {cu : Value} (T : ∀ C, xc x.k = some C → ExK X.K C) (hk : ∀ C, xc x.k = some C → PySem.W.kitOne X.K (.ref C) cu = some b) (hz : Zc cls d oe) (hf : ∃ vs, oe.data = .fields vs) (xa : XAt X.K xc v0.F0 v0.H0 x cls d) (hx : v0.ex i = some (.ref a))
    (hg : Gl X "isinstance") (hm : X.mg "isinstance" = none) (hc : PE (X.suite a ((a, oe) :: pn)) (.Name cn p3) (tC cv)) (hcv : ∀ u, RelV cv u → u = cu) (hN : X.N[i]? = some n := by rfl) (hv : Vis X.env.scope n := by first | exact Or.inl rfl | exact Or.inr (Or.inl rfl) | exact Or.inr (Or.inr rfl)) (hd : (n == ("__debug__" : Str)) = false := by decide)
    (hcd : (n == ("__classdict__" : Str)) = false := by decide)
    (hs : starEach [.Name n p2, .Name cn p3] X.env = (false, eval (.Name n p2) X.env) :: starEach [.Name cn p3] X.env := by rfl) (hs2 : starEach [.Name cn p3] X.env = (false, eval (.Name cn p3) X.env) :: starEach [] X.env := by rfl)
    (hpl : (backTo pos (starEach [.Name cn p3] X.env)).any (·.1) = false := by rfl) : DE (X.suite a ((a, oe) :: pn)) v0 false (.Call (.Name "isinstance" p1) [.Name n p2, .Name cn p3] [] pos) (wIsX i b) := by
  obtain ⟨C, hC, rfl, _⟩ := id xa
  refine ⟨_, pe_callB (X := X.suite a ((a, oe) :: pn)) (call_isX (X := X) (T C hC) hz hf) hg hm (by rfl) (pa_cons (pe_var hN hv hd hcd) (pa_cons hc pa_nil hs2) hs) (by decide) (by decide) hs hpl, fun σ H ρ F S Qd Q h k => ?_⟩
  obtain ⟨h1, h2⟩ := h
  refine ⟨.ref a, ex_slot S h1 hx, ?_, cv, cu, b, rfl, hcv, hk C hC, k _ H ρ F (P (.bool b)) [] S Step.refl Eff.refl ⟨.bl b, fun _ z => nomatch z⟩ h2⟩
  rcases xat_dict xa with e | ⟨dd, fs, e, h3, h4⟩
  · exact .inl e
  · exact .inr ⟨dd, fs, e, S.st.keep dd _ h3 h4⟩
/-- the error's field -/
def wXf (i : Nat) (f : Str) (x : XD) : WE := fun ρ Q => isEx ρ i ∧ x.k.field = some f ∧ Q ρ (P x.a)
theorem de_xf (i : Nat) {p2 pos : Pos} {n f : Str} (T : ∀ C, xc x.k = some C → ExK X.K C) (hno : ∀ C, xc x.k = some C → x.k.field = some f → PySem.W.findIn X.K (.ref C) f = some none) (hz : Zc cls d oe) (hf : ∃ vs, oe.data = .fields vs) (xa : XAt X.K xc v0.F0 v0.H0 x cls d) (hx : v0.ex i = some (.ref a))
    (hN : X.N[i]? = some n := by rfl) (hv : Vis X.env.scope n := by first | exact Or.inl rfl | exact Or.inr (Or.inl rfl) | exact Or.inr (Or.inr rfl)) (hd : (n == ("__debug__" : Str)) = false := by decide)
    (hcd : (n == ("__classdict__" : Str)) = false := by decide) (hb : attributeBase (.Name n p2) f X.env (eval (.Name n p2) X.env) = eval (.Name n p2) X.env := by rfl) :
    DE (X.suite a ((a, oe) :: pn)) v0 false (.Attribute (.Name n p2) f pos) (wXf i f x) := by
  obtain ⟨C, hC, rfl, hpa, hx4⟩ := id xa
  by_cases hfl : x.k.field = some f
  · have T' := T C hC
    refine ⟨_, pe_xf (C := C) ⟨T'.ga, T'.gg, T'.sb, T'.hd⟩ (hno C hC hfl) hz hf (pe_var hN hv hd hcd) hb, fun σ H ρ F S Qd Q h k => ?_⟩
    obtain ⟨h1, _, h2⟩ := h
    rw [hfl] at hx4
    obtain ⟨dd, v, y1, y2, y3, y4⟩ := hx4
    have hdd := S.st.keep dd _ y2 y4
    refine ⟨.ref a, ex_slot S h1 hx, rfl, rfl, dd, _, v, y1, hdd, by simp [List.lookup], k v H ρ F (P x.a) [] S Step.refl Eff.refl ⟨y3.keep S.st.tups _ _ _ (fun _ z => nomatch z), fun _ z => nomatch z⟩ h2⟩
  · exact ⟨fun _ _ _ => False, ⟨fun pins s σ H Q I h => h.elim⟩, fun σ H ρ F S Qd Q h k => absurd h.2.1 hfl⟩
end
/-- how an error is made: without a field, or with one -/
def Mk0 (X : Cx) (e : Expr) (C : Addr) : Prop := PMk X e (fun _ H Q => Q (.ref C) none H)
def Mk1 (X : Cx) (e : Expr) (C : Addr) (f : Str) (te : TE) : Prop := PMk X e (fun σ H Q => te σ H fun v H1 => ∀ dd, H1 dd = none → Q (.ref C) (some dd) (upd H1 dd (.xd [(f, v)])))
section
variable {X : Cx} {C : Addr} {xc : Ek → Option Addr} {v0 : Cv} {wd : XD → DEnv → Prop} {pos : Pos} {e : Expr} {we : WE} {ea : Bool}
def wRaise0 (wd : XD → DEnv → Prop) (k : Ek) : WS := fun _ ρ => wd ⟨k, .none⟩ ρ
theorem ds_raise0 (k : Ek) (hc : X.calm = true) (tk : Tk X xc v0 wd) (hm : Mk0 X e C) (hk : xc k = some C) (hf : k.field = none := by rfl) : DS X v0 (.Raise (some e) none pos) (wRaise0 wd k) := by
  obtain ⟨W, hT, hW⟩ := tk
  refine ⟨_, ps_raise hc hT hm, fun σ H ρ F S Dd D en h => ?_⟩
  refine hW σ H ρ F ⟨k, .none⟩ _ _ S ⟨⟨C, hk, rfl, rfl, ?_⟩, fun _ z => nomatch z⟩ h
  rw [hf]
  exact ⟨rfl, rfl⟩
def wRaise1 (wd : XD → DEnv → Prop) (k : Ek) (we : WE) : WS := fun _ ρ => we ρ fun ρ1 r => pur r.d = true ∧ wd ⟨k, r.d⟩ ρ1
theorem ds_raise1 {a : Expr} {f : Str} (k : Ek) (hc : X.calm = true) (tk : Tk X xc v0 wd) (ha : DE X v0 ea a we) (hm : ∀ te, PE X a te → Mk1 X e C f te) (hk : xc k = some C) (hf : k.field = some f := by rfl) : DS X v0 (.Raise (some e) none pos) (wRaise1 wd k we) := by
  obtain ⟨W, hT, hW⟩ := tk
  obtain ⟨te, pe, q⟩ := ha
  refine ⟨_, ps_raise hc hT (hm te pe), fun σ H ρ F S Dd D en h => ?_⟩
  refine q σ H ρ F S _ _ h fun v H1 ρ1 F1 r G S1 s1 e1 r1 h1 => ?_
  obtain ⟨hp, h1⟩ := h1
  intro dd hdd
  have ex : Ext H1 (upd H1 dd (.xd [(f, v)])) := Ext.upd hdd
  obtain ⟨_, rp⟩ := Rp.pure' (m' := false) _ _ _ r1.read hp
  refine hW σ _ ρ1 F1 ⟨k, r.d⟩ _ _ (S1.ext ex) ⟨⟨C, hk, rfl, hp, ?_⟩, fun dd' e => ?_⟩ h1
  · rw [hf]
    exact ⟨dd, v, rfl, upd_same, rp.keep ex.tu _ _ _ (ex.kp _), fun z => S1.live dd z hdd⟩
  · cases e
    exact S1.st.none_of hdd
end
end DL
namespace DL
open PySem PySem.Spec PySem.Calls PyProof.Rows L2
open PySem.W (Looks)
abbrev veMro : List Value := [.type "ValueError", .type "Exception", .type "BaseException", .type "object"]
/-- an error's class, its __init__ and what it stands on -/
structure ExI (K : PySem.W.Frag) (prog : Program) (C fI cda cc : Addr) (qual : Str) (params : Arguments) (body : List Stmt) (scope : Scope) : Prop where
  q : PySem.W.excInitIn K C veMro "ValueError.__new__" = true
  hi : PySem.W.findIn K (.ref C) "__init__" = some (some (.ref fI))
  ty : PySem.W.typeIn K (.ref fI) = some (.type "function")
  lk : ∃ (oc kV doc pm ct : Value) (od an : Option Addr) (osl : Array (Option Value)), K.lookup fI = some ⟨oc, od, .func (PySem.W.ksFn "__init__" qual params body scope .none kV doc pm an (.ref cda) ct cc), osl⟩
  cd : PySem.W.codeIn K (.ref cda) qual = true
  code : ∃ (ccl : Value) (cdd : Option Addr) (vs : Array Value) (ccs : Array (Option Value)) (file : Str) (tf : Tok), K.lookup cda = some ⟨ccl, cdd, .fields vs, ccs⟩ ∧ vs[2]? = some (.str file tf) ∧ ((prog.main.file : Str) == file) = true
  cell : ∃ (cl : Value) (cld : Option Addr) (csl : Array (Option Value)), K.lookup cc = some ⟨cl, cld, .cell (some (.ref C)), csl⟩
  cls : ∃ cd : ClassData, PySem.W.clsIn K C = some cd ∧ cd.hasDict = true ∧ HandSPX.refsVE cd.mro = true
  self : PySem.W.mroIn K C (.ref C) = some true
  op : PySem.W.nsIn K cStatics "thirdparty.any" = some none
  meth : PySem.W.ks_superIn K C C "__init__" = some (some (.builtin "ValueError.__init__"))
  sub : PySem.W.subIn K (.ref C) (.type "ValueError") = some true
  top : (prog.main.scope.names.lookup ("super" : Str)).isSome = false
  sa : PySem.W.findIn K (.ref C) "__setattr__" = some (some (.builtin "object.__setattr__"))
/-- what is asked of the scope of such an __init__ -/
structure ExS (scope : Scope) : Prop where
  kind : scope.kind = .function
  co : scope.isCoroutine = false
  gen : scope.isGenerator = false
  sup : scope.names.lookup ("super" : Str) = some .globalImplicit
  cls : scope.names.lookup ("__class__" : Str) = some .free
  self : scope.names.lookup ("self" : Str) = some .local
  cell : ∀ x ∈ scope.names, x.2 ≠ .cell
abbrev sc0 : Scope := { kind := .function, names := [("self", .local), ("__class__", .free), ("super", .globalImplicit)], isGenerator := false, isCoroutine := false, more := [] }
abbrev sc1 (f : Str) : Scope := { kind := .function, names := [("self", .local), (f, .local), ("__class__", .free), ("super", .globalImplicit)], isGenerator := false, isCoroutine := false, more := [] }
theorem exS0 : ExS sc0 := ⟨rfl, rfl, rfl, by decide +kernel, by decide +kernel, by decide +kernel, by decide +kernel⟩
abbrev excB (C t : Addr) (d : Option Addr) : Obj := { cls := .ref C, dict := d, data := .fields #[.ref t, .none, .none, .none, .bool false, .none] }
section
variable {K : PySem.W.Frag} {prog : Program} {w : World} {A : Around} {E : Value → Shared → Prop} {h : Heap} {g : Array GenState} {d : Drawn} {t : Nat} {os : OsState} {C fI cda cc L e : Addr} {qual : Str} {params : Arguments} {body : List Stmt} {scope : Scope} {mg mb m : Str → Option Value}
/-- super(), in such an __init__ -/
theorem super_node {p0 p1 : Pos} {whole : Sem Value} {oe : Obj} {Q : Value → Shared → Prop} {Qt : List Stmt} (T : ExI K prog C fI cda cc qual params body scope) (S : ExS scope) (X : K.In h) (hp : ∃ ar, (params.posonlyargs ++ params.args).head? = some ar ∧ ar.arg = "self")
    (hL : h.Ns L m) (hv : m "self" = some (.ref e)) (he : h.get? e = some oe) (hc : oe.cls = .ref C) (hn : ∀ c, oe.data ≠ .cls c) (nsM : h.Ns mainGlobals mg) (gs : mg "super" = none) (nsB : h.Ns builtinsNs mb) (bs : mb "super" = bootBuiltins "super")
    (hq : ∀ h', h'.get? h.objs.size = some (PySem.W.ks_superObj C e C) → (∀ y o, h.get? y = some o → h'.get? y = some o) → Q (.ref h.objs.size) ⟨h', g, d, t, os⟩) :
    _root_.PySem.wpAt (model prog w) A (.func Qt (PySem.W.ksEnv qual scope L fI (.ref cda) cc)) (attributeBase (.Call (.Name "super" p0) [] [] p1) "__init__" (PySem.W.ksEnv qual scope L fI (.ref cda) cc) whole) Q E ⟨h, g, d, t, os⟩ := by
  obtain ⟨oc, kV, doc, pm, ct, od, an, osl, lk⟩ := T.lk
  obtain ⟨ccl, cdd, vs, ccs, file, tf, lc, hvs, hfile⟩ := T.code
  obtain ⟨cl, cld, csl, lcell⟩ := T.cell
  obtain ⟨cdC, hD, _, _⟩ := T.cls
  obtain ⟨ar, hp, hself⟩ := hp
  obtain ⟨oD, hD1, hD2⟩ : ∃ oD, h.get? C = some oD ∧ oD.data = .cls cdC := by
    unfold PySem.W.clsIn at hD
    split at hD
    · rename_i c d cd' sl ho
      cases hD
      exact ⟨_, X _ _ ho, rfl⟩
    · cases hD
  refine ks_wpAt_super_base (env := PySem.W.ksEnv qual scope L fI (.ref cda) cc) S.sup S.cls (by decide) rfl (X _ _ lk) rfl hp rfl (X _ _ lc) rfl hvs hfile T.top ?_
  refine PySem.W.ks_loadName_global S.kind S.sup (loadGlobal_builtin (env := PySem.W.ksEnv qual scope L fI (.ref cda) cc) nsM gs nsB (bs.trans (by first | rfl | kernel_rfl)) ⟨rfl, ?_⟩)
  refine wpAny_loadName_free S.kind S.cls rfl ⟨_, X _ _ lcell, rfl⟩ ?_
  refine wpAny_loadName_local S.kind (by rw [hself]; exact S.self) hL (by rw [hself]; exact hv) ?_
  refine ks_wpAny_isType_cls hD1 hD2 ⟨rfl, ?_⟩
  exact ks_wpAny_call_super hD1 hD2 he hc hn (PySem.W.looks_mroIn X T.self) hq
/-- the bound ValueError.__init__, called -/
theorem call_mw {u t0 : Addr} {rest : List Value} {Q : Value → Shared → Prop} (T : ExI K prog C fI cda cc qual params body scope) (X : K.In h) (hu : h.get? u = some (PySem.W.kxs_mw "ValueError.__init__" e)) (he : h.get? e = some (excB C t0 none)) (hz : rest.length ≤ sizeLine)
    (hq : ∀ h' t1, (∀ b o, b ≠ e → h.get? b = some o → h'.get? b = some o) → h'.get? e = some (excB C t1 none) → Q .none ⟨h', g, d, t, os⟩) : wpAny (model prog w) A (call (.ref u) rest) Q E ⟨h, g, d, t, os⟩ := by
  obtain ⟨nm, N', qn, bs, bm, hdct, sn, sub, ab, col, dd, k0, k1, k2, k3, k5, hC, hT⟩ := PySem.W.excInit_of X T.q
  refine wpAny_call (codeAny_of_tree ?_)
  show wpAny _ A.in1 (callAny (.ref u) ⟨rest, []⟩) _ _ _
  simp only [callAny]
  refine wpAny_bind (wpAny_load hu ?_)
  simp only [PySem.W.kxs_mw, show (Value.type "method-wrapper" == Value.type "method" || Value.type "method-wrapper" == Value.type "builtin_function_or_method" || Value.type "method-wrapper" == Value.type "method-wrapper") = true by decide, if_true]
  refine PySem.W.KFB.if_so (by decide) ?_
  refine wpAny_bind (PySem.W.check_bound_init F.excBase_ValueError.toExcCallFacts hC he rfl ?_)
  refine wpAny_bind (wpAny_pure (wpAny_pure ?_))
  refine ⟨plainId_quiet F.excBase_ValueError.init.plain _, codeAny_builtin F.excBase_ValueError.initEntry ?_⟩
  exact PySem.W.exc_init_tree (cls := .ref C) (t0 := t0) (dv := none) (c2 := .none) (c3 := .none) (b4 := .bool false) he hz fun h' k e' _ => hq h' _ k e'
/-- super().__init__(..) found: the bound method -/
theorem super_meth {so : Addr} {oe : Obj} {pl : Sem Bool} {Q : Value × List Value → Shared → Prop} (T : ExI K prog C fI cda cc qual params body scope) (X : K.In h) (hso : h.get? so = some (PySem.W.ks_superObj C e C)) (he : h.get? e = some oe) (hc : oe.cls = .ref C) (hd : oe.dict = none) (hf : ∃ vs, oe.data = .fields vs)
    (hq : Q (.ref h.objs.size, []) ⟨h.push (PySem.W.kxs_mw "ValueError.__init__" e), g, d, t + 1, os⟩) : wpAny (model prog w) A (getMethod (.ref so) "__init__" pl) Q E ⟨h, g, d, t, os⟩ := by
  obtain ⟨cd, hcd, _, _⟩ := T.cls
  obtain ⟨vs, hvs⟩ := hf
  have hm := T.meth
  unfold PySem.W.ks_superIn at hm
  rw [hcd, Option.bind_some] at hm
  have I : PySem.W.InstAt h e oe C none := ⟨he, hc, by unfold PySem.W.notCls; rw [hvs] <;> rfl, by rw [hd]; trivial⟩
  refine PySem.W.kxs_getMethod PySem.W.kxs_ValueError hso (PySem.W.looks_opaque X T.op) (l₀ := cd.mro) (fun A Q E s k q => wpAny_bind ((PySem.W.looks_clsIn X hcd) A _ E s k (wpAny_pure q))) rfl X hm (I.type.andThen (PySem.W.looks_subIn X T.sub)) (PySem.W.ks_ne X I hcd) (by decide) hq
/-- how a method call is evaluated (it hangs on the positions) -/
def EvM (o : Expr) (name : Str) (apos : Pos) (args : List Expr) (pos : Pos) (env : PySem.Env) : Prop := ∃ pl : Sem Bool, eval (.Call (.Attribute o name apos) args [] pos) env = (do
  let ov ← attributeBase o name env (eval o env)
  standAt apos.atName
  let (f, first) ← holding [ov] (getMethod ov name pl)
  callWith pos f first (backTo pos (starEach args env)) [])
/-- __init__ without more -/
theorem init0 {p0 p1 p2 p3 p4 : Pos} {t0 : Addr} {R : Result → Shared → Prop} (T : ExI K prog C fI cda cc qual params [.Expr (.Call (.Attribute (.Call (.Name "super" p0) [] [] p1) "__init__" p2) [] [] p3) p4] sc0) (ev : ∀ L, EvM (.Call (.Name "super" p0) [] [] p1) "__init__" p2 [] p3 (PySem.W.ksEnv qual sc0 L fI (.ref cda) cc)) (X : K.In h) (hp : ∃ ar, (params.posonlyargs ++ params.args).head? = some ar ∧ ar.arg = "self")
    (hb : ∀ (s : Shared) (fd : FuncData), fd.params = params → fd.defaults = .none → BindsTo s fd ⟨[.ref e], []⟩ [("self", .ref e)]) (hroom : A.depth < recursionLimit) (hlim : h.NoLimit) (nsM : h.Ns mainGlobals mg) (gs : mg "super" = none) (nsB : h.Ns builtinsNs mb) (bs : mb "super" = bootBuiltins "super") (he : h.get? e = some (excB C t0 none))
    (hq : ∀ h' t1 t', (∀ b o, b ≠ e → h.get? b = some o → h'.get? b = some o) → h'.get? e = some (excB C t1 none) → R (.ok (.ret .none)) ⟨h', g, d, t', os⟩) : codeAny (model prog w) A (.call (.ref fI) ⟨[.ref e], []⟩) R ⟨h, g, d, t, os⟩ := by
  obtain ⟨oc, kV, doc, pm, ct, od, an, osl, lk⟩ := T.lk
  refine ks_codeAny_call_defAt (fd := PySem.W.ksFn "__init__" qual params _ sc0 .none kV doc pm an (.ref cda) ct cc) (body := [.Expr (.Call (.Attribute (.Call (.Name "super" p0) [] [] p1) "__init__" p2) [] [] p3) p4]) (binds := [("self", .ref e)]) hroom (X _ _ lk) rfl hlim (PySem.W.codeRec_of X T.cd) rfl (hb _ _ rfl rfl) exS0.cell (fun x hx => by
    simp at hx
    subst hx
    exact exS0.self) (fun h1 hns kk => ?_) rfl rfl rfl
  have X1 : K.In h1 := X.keeps kk
  obtain ⟨pl, hpl⟩ := ev h.objs.size
  refine ks_wpAt_execs_cons (ks_wpAt_Expr_any (ks_wpAt_MethodCall (pl := pl) (super_node T exS0 X1 hp hns rfl (kk _ _ he) rfl (fun c q => by cases q) (nsM.keeps kk) gs (nsB.keeps kk) bs fun h2 hso k2 => ?_) hpl))
  have X2 := X1.keeps k2
  refine super_meth T X2 hso (k2 _ _ (kk _ _ he)) rfl rfl ⟨_, rfl⟩ ?_
  have up : ∀ b o, h2.get? b = some o → (h2.push (PySem.W.kxs_mw "ValueError.__init__" e)).get? b = some o := fun b o q => Heap.get?_push_of_some _ q
  refine PySem.W.kxs_callWith (i := "ValueError.__init__") (x := e) rfl (evalArgs_empty ⟨Heap.get?_push_at rfl rfl, ?_⟩)
  refine call_mw T (X2.keeps up) (Heap.get?_push_at rfl rfl) (up _ _ (k2 _ _ (kk _ _ he))) (by rw [sizeLine_eq]; simp) fun h3 t1 k3 e3 => ?_
  refine wpAt_of_wpAny (wpAny_execs_nil ?_)
  exact hq h3 t1 _ (fun b o hb q => k3 b o hb (up _ _ (k2 _ _ (kk _ _ q)))) e3
/-- __init__ that keeps its argument -/
theorem init1 {f : Str} {p0 p1 p2 p3 p4 pa pb pc pd pe : Pos} {t0 : Addr} {v : Value} {R : Result → Shared → Prop} (T : ExI K prog C fI cda cc qual params [.Expr (.Call (.Attribute (.Call (.Name "super" p0) [] [] p1) "__init__" p2) [.Name f pa] [] p3) p4, .Assign [.Attribute (.Name "self" pb) f pc] (.Name f pd) pe] (sc1 f)) (S : ExS (sc1 f))
    (fl : (sc1 f).names.lookup f = some .local) (f1 : (("self" : Str) == f) = false) (f2 : (f == ("__debug__" : Str)) = false) (ff : PySem.W.findIn K (.ref C) f = some none)
    (ev : ∀ L, EvM (.Call (.Name "super" p0) [] [] p1) "__init__" p2 [.Name f pa] p3 (PySem.W.ksEnv qual (sc1 f) L fI (.ref cda) cc)) (es : ∀ L, backTo p3 (starEach [.Name f pa] (PySem.W.ksEnv qual (sc1 f) L fI (.ref cda) cc)) = [(false, eval (.Name f pa) (PySem.W.ksEnv qual (sc1 f) L fI (.ref cda) cc))])
    (hsw : ∀ L, swapsWith (.Name f pd) (some (.Attribute (.Name "self" pb) f pc)) pe.line (PySem.W.ksEnv qual (sc1 f) L fI (.ref cda) cc) = pure false)
    (X : K.In h) (hK : K.lookup e = none) (hp : ∃ ar, (params.posonlyargs ++ params.args).head? = some ar ∧ ar.arg = "self")
    (hb : ∀ (s : Shared) (fd : FuncData), fd.params = params → fd.defaults = .none → BindsTo s fd ⟨[.ref e, v], []⟩ [(("self" : Str), Value.ref e), (f, v)]) (hroom : A.depth < recursionLimit) (hlim : h.NoLimit) (nsM : h.Ns mainGlobals mg) (gs : mg "super" = none) (nsB : h.Ns builtinsNs mb) (bs : mb "super" = bootBuiltins "super") (he : h.get? e = some (excB C t0 none))
    (hq : ∀ h' t1 t' dx, (∀ b o, b ≠ e → h.get? b = some o → h'.get? b = some o) → h.objs.size ≤ dx → dx ≠ e → h'.get? e = some (excB C t1 (some dx)) → h'.Ns1 dx (fun y => if y = f then some v else none) → R (.ok (.ret .none)) ⟨h', g, d, t', os⟩) : codeAny (model prog w) A (.call (.ref fI) ⟨[.ref e, v], []⟩) R ⟨h, g, d, t, os⟩ := by
  obtain ⟨oc, kV, doc, pm, ct, od, an, osl, lk⟩ := T.lk
  obtain ⟨cdC, hD, hdict, hmro⟩ := T.cls
  refine ks_codeAny_call_defAt (fd := PySem.W.ksFn "__init__" qual params _ (sc1 f) .none kV doc pm an (.ref cda) ct cc) (body := [.Expr (.Call (.Attribute (.Call (.Name "super" p0) [] [] p1) "__init__" p2) [.Name f pa] [] p3) p4, .Assign [.Attribute (.Name "self" pb) f pc] (.Name f pd) pe]) (binds := [(("self" : Str), Value.ref e), (f, v)]) hroom (X _ _ lk) rfl hlim (PySem.W.codeRec_of X T.cd) rfl (hb _ _ rfl rfl) S.cell (fun x hx => by
    simp at hx
    rcases hx with rfl | rfl
    · exact S.self
    · exact fl) (fun h1 hns kk => ?_) rfl rfl rfl
  have X1 : K.In h1 := X.keeps kk
  obtain ⟨pl, hpl⟩ := ev h.objs.size
  have mself : List.lookup ("self" : Str) [(("self" : Str), Value.ref e), (f, v)].reverse = some (.ref e) := by
    show List.lookup ("self" : Str) [(f, v), (("self" : Str), Value.ref e)] = _
    rw [List.lookup, f1]
    rfl
  have mf : List.lookup f [(("self" : Str), Value.ref e), (f, v)].reverse = some v := by
    show List.lookup f [(f, v), (("self" : Str), Value.ref e)] = _
    rw [List.lookup, beq_self_eq_true]
  refine ks_wpAt_execs_cons (ks_wpAt_Expr_any (ks_wpAt_MethodCall (pl := pl) (super_node T S X1 hp hns mself (kk _ _ he) rfl (fun c q => by cases q) (nsM.keeps kk) gs (nsB.keeps kk) bs fun h2 hso k2 => ?_) hpl))
  have X2 := X1.keeps k2
  refine super_meth T X2 hso (k2 _ _ (kk _ _ he)) rfl rfl ⟨_, rfl⟩ ?_
  have up : ∀ b o, h2.get? b = some o → (h2.push (PySem.W.kxs_mw "ValueError.__init__" e)).get? b = some o := fun b o q => Heap.get?_push_of_some _ q
  show wpAny _ _ (callWith p3 (.ref h2.objs.size) [] (backTo p3 (starEach [.Name f pa] (PySem.W.ksEnv qual (sc1 f) h.objs.size fI (.ref cda) cc))) []) _ _ _
  rw [es]
  refine PySem.W.kxs_callWith (i := "ValueError.__init__") (x := e) rfl (evalArgs_plain (spliced_cons ?_))
  have lf : List.lookup f (sc1 f).names = some .local := fl
  have nsL : ∀ {hh : Heap}, (∀ b o, h1.get? b = some o → hh.get? b = some o) → hh.Ns h.objs.size (fun x => List.lookup x [(("self" : Str), Value.ref e), (f, v)].reverse) := fun k => hns.keeps k
  refine wpAny_Name (wpAny_loadName_local rfl lf (nsL fun b o q => up _ _ (k2 _ _ q)) mf (spliced_nil ⟨Heap.get?_push_at rfl rfl, ?_⟩)) f2
  refine call_mw T (X2.keeps up) (Heap.get?_push_at rfl rfl) (up _ _ (k2 _ _ (kk _ _ he))) (by rw [sizeLine_eq]; simp) fun h3 t1 k3 e3 => ?_
  have keep3 : ∀ b o, b ≠ e → h1.get? b = some o → h3.get? b = some o := fun b o hb q => k3 b o hb (up _ _ (k2 _ _ q))
  have eL : h.objs.size ≠ e := fun z => by
    have := Heap.lt_size he
    rw [z] at this
    exact Nat.lt_irrefl _ this
  have ns3 : h3.Ns h.objs.size (fun x => List.lookup x [(("self" : Str), Value.ref e), (f, v)].reverse) := hns.at fun o q => keep3 _ o eL q
  have X3 : K.In h3 := fun b o q => keep3 b o (fun z => by
    subst z
    have q' : K.lookup b = some o := q
    rw [hK] at q'
    cases q') (X1 b o q)
  refine ks_wpAt_execs_cons (ks_wpAt_Assign_Attr (wpAt_of_wpAny (wpAny_Name (wpAny_loadName_local rfl lf ns3 mf (wpAny_Name (wpAny_loadName_local rfl S.self ns3 mself ?_) (by decide))) f2)) (hsw _))
  refine PySem.W.set_plain X3 (ox := excB C t1 none) (od := none) ⟨e3, rfl, rfl, trivial⟩ T.sa ?_
  refine HandSPX.exc_osa X3 e3 hD hmro hdict ff fun h4 t4 dx k4 dn dne e4 n4 => ?_
  refine wpAt_of_wpAny (wpAny_execs_nil ?_)
  refine hq h4 t1 t4 dx (fun b o hb q => k4 b o hb (keep3 b o hb (kk _ _ q))) ?_ dne e4 n4
  obtain ⟨o, _, _, q, _⟩ := ns3
  exact Nat.le_trans (Nat.le_of_lt (Heap.lt_size q)) dn
end
section
variable {X : Cx} {C fI cda cc : Addr} {qual : Str} {params : Arguments} {x : Str} {p pos : Pos} {k : Nat}
theorem mk0 {p0 p1 p2 p3 p4 : Pos} (T : ExI X.K X.prog C fI cda cc qual params [.Expr (.Call (.Attribute (.Call (.Name "super" p0) [] [] p1) "__init__" p2) [] [] p3) p4] sc0) (ev : ∀ L, EvM (.Call (.Name "super" p0) [] [] p1) "__init__" p2 [] p3 (PySem.W.ksEnv qual sc0 L fI (.ref cda) cc)) (hp : ∃ ar, (params.posonlyargs ++ params.args).head? = some ar ∧ ar.arg = "self")
    (hb : ∀ (e : Addr) (s : Shared) (fd : FuncData), fd.params = params → fd.defaults = .none → BindsTo s fd ⟨[.ref e], []⟩ [("self", .ref e)]) (gs : X.mg "super" = none) (rz : Raises X (.ref C)) (hr : Room (k + 1) X.A) (hg : Gl X x) (hm : X.mg x = some (.ref C)) (hk : PySem.W.keepIn X.K (.ref C) = true) (hdb : (x == ("__debug__" : Str)) = false := by decide) :
    Mk0 X (.Call (.Name x p) [] [] pos) C := by
  intro pins s σ H Q I h
  obtain ⟨nm, N', qn, bs, bm, hdct, sn, sub, ab, col, dd, k0, k1, k2, k3, k5, hC, hT⟩ := PySem.W.excInit_of I.kIn T.q
  obtain ⟨hp', g, dr, tk, os⟩ := s
  have e0 := I.env0
  obtain ⟨mb, nsB, boot⟩ := e0.mod.blt
  have up : ∀ b o, X.base.get? b = some o → hp'.get? b = some o := fun b o q => (e0.bs b o q).1
  have kk : ∀ b o, hp'.get? b = some o → ((hp'.push (PySem.W.kdv_tup [])).push (PySem.HandSPX.excO C hp'.objs.size)).get? b = some o := fun b o e => Heap.get?_push_of_some _ (Heap.get?_push_of_some _ e)
  have hget : ((hp'.push (PySem.W.kdv_tup [])).push (PySem.HandSPX.excO C hp'.objs.size)).get? (hp'.objs.size + 1) = some (excB C hp'.objs.size none) := by heap_get
  have hn : hp'.get? (hp'.objs.size + 1) = none := by
    cases q : hp'.get? (hp'.objs.size + 1) with
    | none => rfl
    | some o => exact absurd (Heap.lt_size q) (Nat.not_lt.mpr (Nat.le_succ _))
  refine wpAny_Call_Name_kw (ld_glob I hg hm (PySem.W.callWith_K0 I.kIn hk ?_) hdb)
  refine wpAny_call (PySem.HandSPX.call_own F.excBase_ValueError hT hC (PySem.W.looks_findIn I.kIn T.hi) (fun self => PySem.W.bind_fn I.kIn self T.ty) (by rw [sizeLine_eq]; simp)
    (init0 T ev (fun b o q => kk b o (I.kIn b o q)) hp (hb _) (hr.make C [] []).depth (e0.mod.nolimit.keeps fun b o q => kk b o (up b o q)) (e0.mod.glob.keeps fun b o q => kk b o (up b o q)) gs (nsB.keeps fun b o q => kk b o (up b o q)) (boot _ (by decide)) hget fun h' t1 t' k' e' => ⟨rfl, ?_⟩))
  exact ⟨_, _, _, ⟨hp', g, dr, tk, os⟩, H, .ref C, none, rfl, I, fun b o q => k' b o (fun z => by rw [z, hn] at q; cases q) (kk b o q), hn, e', ⟨rfl, rfl⟩, rfl, rfl, I.hok.fresh (Nat.le_succ _), rfl, I.bare, rz, h⟩
def oneV (P : V → Prop) : List V → Prop
  | [v] => P v
  | _ => False
theorem oneV_ex {P : V → Prop} {vs : List V} (h : oneV P vs) : ∃ v, vs = [v] ∧ P v := by
  cases vs with
  | nil => exact h.elim
  | cons v r =>
    cases r with
    | nil => exact ⟨v, rfl, h⟩
    | cons _ _ => exact h.elim
theorem mk1 {f : Str} {p0 p1 p2 p3 p4 pa pb pc pd pe : Pos} {a : Expr} {te : TE} (T : ExI X.K X.prog C fI cda cc qual params [.Expr (.Call (.Attribute (.Call (.Name "super" p0) [] [] p1) "__init__" p2) [.Name f pa] [] p3) p4, .Assign [.Attribute (.Name "self" pb) f pc] (.Name f pd) pe] (sc1 f)) (S : ExS (sc1 f))
    (fl : (sc1 f).names.lookup f = some .local) (f1 : (("self" : Str) == f) = false) (f2 : (f == ("__debug__" : Str)) = false) (ff : PySem.W.findIn X.K (.ref C) f = some none)
    (ev : ∀ L, EvM (.Call (.Name "super" p0) [] [] p1) "__init__" p2 [.Name f pa] p3 (PySem.W.ksEnv qual (sc1 f) L fI (.ref cda) cc)) (es : ∀ L, backTo p3 (starEach [.Name f pa] (PySem.W.ksEnv qual (sc1 f) L fI (.ref cda) cc)) = [(false, eval (.Name f pa) (PySem.W.ksEnv qual (sc1 f) L fI (.ref cda) cc))])
    (hsw : ∀ L, swapsWith (.Name f pd) (some (.Attribute (.Name "self" pb) f pc)) pe.line (PySem.W.ksEnv qual (sc1 f) L fI (.ref cda) cc) = pure false) (hp : ∃ ar, (params.posonlyargs ++ params.args).head? = some ar ∧ ar.arg = "self")
    (hb : ∀ (e : Addr) (v : Value) (s : Shared) (fd : FuncData), fd.params = params → fd.defaults = .none → BindsTo s fd ⟨[.ref e, v], []⟩ [(("self" : Str), Value.ref e), (f, v)]) (gs : X.mg "super" = none) (rz : Raises X (.ref C)) (hr : Room (k + 1) X.A) (hg : Gl X x) (hm : X.mg x = some (.ref C)) (hk : PySem.W.keepIn X.K (.ref C) = true)
    (ha : PE X a te) (he : starEach [a] X.env = (false, eval a X.env) :: starEach [] X.env) (hpl : (backTo pos (starEach [] X.env)).any (·.1) = false) (hdb : (x == ("__debug__" : Str)) = false := by decide) :
    Mk1 X (.Call (.Name x p) [a] [] pos) C f te := by
  intro pins s0 σ H0 Q I0 h0
  refine wpAny_Call_Name_kw (ld_glob I0 hg hm ?_ hdb)
  have pa : PA X [a] (tCons te tNil) := pa_cons ha pa_nil he
  refine PySem.W.callWith_K (h₀ := X.base) I0.ok.mod.kin hk (thn (pa.run pos pins s0 σ H0 (fun vs H1 => oneV (fun v => ∀ dd, H1 dd = none → Q (.ref C) (some dd) (upd H1 dd (.xd [(f, v)]))) vs) I0 h0) fun us s hh => ?_) he hpl
  obtain ⟨vs, H, I, r, h⟩ := hh
  refine ⟨I.kIn, ?_⟩
  obtain ⟨v, ev1, h⟩ := oneV_ex h
  rw [ev1] at r
  cases r with
  | cons ru rn =>
    rename_i u us'
    cases rn
    show wpAny _ _ (call (.ref C) [u]) _ _ _
    obtain ⟨nm, N', qn, bs, bm, hdct, sn, sub, ab, col, dd, k0, k1, k2, k3, k5, hC, hT⟩ := PySem.W.excInit_of I.kIn T.q
    obtain ⟨hp', g, dr, tk, os⟩ := s
    have e0 := I.env0
    obtain ⟨mb, nsB, boot⟩ := e0.mod.blt
    have up : ∀ b o, X.base.get? b = some o → hp'.get? b = some o := fun b o q => (e0.bs b o q).1
    have kk : ∀ b o, hp'.get? b = some o → ((hp'.push (PySem.W.kdv_tup [u])).push (PySem.HandSPX.excO C hp'.objs.size)).get? b = some o := fun b o e => Heap.get?_push_of_some _ (Heap.get?_push_of_some _ e)
    have hget : ((hp'.push (PySem.W.kdv_tup [u])).push (PySem.HandSPX.excO C hp'.objs.size)).get? (hp'.objs.size + 1) = some (excB C hp'.objs.size none) := by heap_get
    have hn : hp'.get? (hp'.objs.size + 1) = none := by
      cases q : hp'.get? (hp'.objs.size + 1) with
      | none => rfl
      | some o => exact absurd (Heap.lt_size q) (Nat.not_lt.mpr (Nat.le_succ _))
    have hK : X.K.lookup (hp'.objs.size + 1) = none := by
      cases q : X.K.lookup (hp'.objs.size + 1) with
      | none => rfl
      | some o =>
        have z := I.kIn _ o q
        rw [hn] at z
        cases z
    refine wpAny_call (PySem.HandSPX.call_own F.excBase_ValueError hT hC (PySem.W.looks_findIn I.kIn T.hi) (fun self => PySem.W.bind_fn I.kIn self T.ty) (by rw [sizeLine_eq]; simp)
      (init1 T S fl f1 f2 ff ev es hsw (fun b o q => kk b o (I.kIn b o q)) hK hp (hb _ _) (hr.make C [u] []).depth (e0.mod.nolimit.keeps fun b o q => kk b o (up b o q)) (e0.mod.glob.keeps fun b o q => kk b o (up b o q)) gs (nsB.keeps fun b o q => kk b o (up b o q)) (boot _ (by decide)) hget fun h' t1 t' dx k' dn dne e' n' => ⟨rfl, ?_⟩))
    obtain ⟨G, g1, g2⟩ := restrict h' fun b => decide (b ≠ hp'.objs.size + 1)
    have gk : ∀ b, b ≠ hp'.objs.size + 1 → G.get? b = h'.get? b := fun b hb => g1 b (decide_eq_true hb)
    have ge : G.get? (hp'.objs.size + 1) = none := g2 _ (by simp)
    have kG : ∀ b o, hp'.get? b = some o → G.get? b = some o := fun b o q => by
      have nb : b ≠ hp'.objs.size + 1 := fun z => by rw [z, hn] at q; cases q
      rw [gk b nb]
      exact k' b o nb (kk b o q)
    have sz : hp'.objs.size ≤ dx := by
      refine Nat.le_trans ?_ dn
      simp [Heap.size_push]
      omega
    have J := I.laid (t' := t') (a := dx) (o := .xd [(f, v)]) (h' := G) kG sz ⟨_, n'.at fun o q => (gk dx dne).trans q, relO_put (fs := []) ru fun g => True.intro⟩
    refine ⟨_, _, _, { heap := G, gens := g, drawn := dr, toks := t', os := os }, _, .ref C, some dx, rfl, J, fun b o q => ?_, ge, e', ⟨rfl, rfl⟩, rfl, rfl, ?_, rfl, I.bare, rz, h dx (I.hok.fresh sz)⟩
    · by_cases hb : b = hp'.objs.size + 1
      · rw [hb, ge] at q
        cases q
      · exact (gk b hb).symm.trans q
    · rw [upd_ne (Ne.symm dne)]
      exact I.hok.fresh (Nat.le_succ _)
end
/-- an error's class may be called: without arguments, with one -/
def Er0 (P : Program) (K : PySem.W.Frag) (mg : Str → Option Value) (x : Str) (C : Addr) : Prop := ∀ (X : Cx) (k : Nat) (p pos : Pos), X.prog = P → X.K = K → X.mg = mg → Room (k + 1) X.A → Gl X x → Mk0 X (.Call (.Name x p) [] [] pos) C
def Er1 (P : Program) (K : PySem.W.Frag) (mg : Str → Option Value) (x : Str) (C : Addr) (f : Str) : Prop := ∀ (X : Cx) (k : Nat) (p pos : Pos) (a : Expr) (te : TE), X.prog = P → X.K = K → X.mg = mg → Room (k + 1) X.A → Gl X x → PE X a te →
  starEach [a] X.env = (false, eval a X.env) :: starEach [] X.env → (backTo pos (starEach [] X.env)).any (·.1) = false → Mk1 X (.Call (.Name x p) [a] [] pos) C f te
/-- what is asked of an error's class: it may be raised -/
structure ErC (K : PySem.W.Frag) (mg : Str → Option Value) (x : Str) (C : Addr) : Prop where
  gs : mg "super" = none
  g : mg x = some (.ref C)
  kp : PySem.W.keepIn K (.ref C) = true
  sb : PySem.W.subIn K (.ref C) (.type "BaseException") = some true
  ty : PySem.W.typeIn K (.ref C) = some (.type "type")
  db : (x == ("__debug__" : Str)) = false
section
variable {P : Program} {K : PySem.W.Frag} {mg : Str → Option Value} {C fI cda cc : Addr} {qual : Str} {params : Arguments} {x : Str}
theorem er0 {p0 p1 p2 p3 p4 : Pos} (c : ErC K mg x C) (T : ExI K P C fI cda cc qual params [.Expr (.Call (.Attribute (.Call (.Name "super" p0) [] [] p1) "__init__" p2) [] [] p3) p4] sc0) (ev : ∀ L, EvM (.Call (.Name "super" p0) [] [] p1) "__init__" p2 [] p3 (PySem.W.ksEnv qual sc0 L fI (.ref cda) cc)) (hp : ∃ ar, (params.posonlyargs ++ params.args).head? = some ar ∧ ar.arg = "self")
    (hb : ∀ (e : Addr) (s : Shared) (fd : FuncData), fd.params = params → fd.defaults = .none → BindsTo s fd ⟨[.ref e], []⟩ [("self", .ref e)]) : Er0 P K mg x C := by
  rintro X k p pos rfl rfl rfl hr hg
  exact mk0 T ev hp hb c.gs (raises_own c.sb c.ty) hr hg c.g c.kp c.db
theorem er1 {f : Str} {p0 p1 p2 p3 p4 pa pb pc pd pe : Pos} (c : ErC K mg x C) (T : ExI K P C fI cda cc qual params [.Expr (.Call (.Attribute (.Call (.Name "super" p0) [] [] p1) "__init__" p2) [.Name f pa] [] p3) p4, .Assign [.Attribute (.Name "self" pb) f pc] (.Name f pd) pe] (sc1 f)) (S : ExS (sc1 f))
    (fl : (sc1 f).names.lookup f = some .local) (f1 : (("self" : Str) == f) = false) (f2 : (f == ("__debug__" : Str)) = false) (ff : PySem.W.findIn K (.ref C) f = some none)
    (ev : ∀ L, EvM (.Call (.Name "super" p0) [] [] p1) "__init__" p2 [.Name f pa] p3 (PySem.W.ksEnv qual (sc1 f) L fI (.ref cda) cc)) (es : ∀ L, backTo p3 (starEach [.Name f pa] (PySem.W.ksEnv qual (sc1 f) L fI (.ref cda) cc)) = [(false, eval (.Name f pa) (PySem.W.ksEnv qual (sc1 f) L fI (.ref cda) cc))])
    (hsw : ∀ L, swapsWith (.Name f pd) (some (.Attribute (.Name "self" pb) f pc)) pe.line (PySem.W.ksEnv qual (sc1 f) L fI (.ref cda) cc) = pure false) (hp : ∃ ar, (params.posonlyargs ++ params.args).head? = some ar ∧ ar.arg = "self")
    (hb : ∀ (e : Addr) (v : Value) (s : Shared) (fd : FuncData), fd.params = params → fd.defaults = .none → BindsTo s fd ⟨[.ref e, v], []⟩ [(("self" : Str), Value.ref e), (f, v)]) : Er1 P K mg x C f := by
  rintro X k p pos a te rfl rfl rfl hr hg ha he hpl
  exact mk1 T S fl f1 f2 ff ev es hsw hp hb c.gs (raises_own c.sb c.ty) hr hg c.g c.kp ha he hpl c.db
end
end DL
namespace Law
open PySem PySem.Spec PyProof.Rows L2 DL
def I (n : Nat) : PyData := .int (n : Int)
abbrev Row := List (Nat × Nat)
def stepD (p : Nat × Nat) : PyData := .tuple [I p.1, I p.2]
def rowD (r : Row) : PyData := .tuple (r.map stepD)
def rowsD (rows : List Row) : PyData := .tuple (rows.map rowD)
def macD (many : Nat) (rows : List Row) : PyData := .tuple [I many, rowsD rows]
def strD (w : List Nat) : PyData := .tuple (w.map I)
structure OkM (many : Nat) (rows : List Row) : Prop where
  m : many ≤ 2
  n1 : 1 ≤ rows.length
  n24 : rows.length ≤ 24
  row : ∀ r ∈ rows, r.length = 2 ^ many ∧ ∀ p ∈ r, p.1 < rows.length ∧ p.2 < 2
def stp (rows : List Row) (q l : Nat) : Nat × Nat := nth (nth rows q) l
theorem OkM.len {m : Nat} {rows : List Row} (h : OkM m rows) {q : Nat} (hq : q < rows.length) : (nth rows q).length = 2 ^ m := (h.row _ (nth_mem hq)).1
theorem OkM.stp {m : Nat} {rows : List Row} (h : OkM m rows) {q l : Nat} (hq : q < rows.length) (hl : l < 2 ^ m) : (stp rows q l).1 < rows.length ∧ (stp rows q l).2 < 2 :=
  (h.row _ (nth_mem hq)).2 _ (nth_mem (by rw [h.len hq]; exact hl))
theorem OkM.pow {m : Nat} {rows : List Row} (h : OkM m rows) : 1 ≤ 2 ^ m ∧ 2 ^ m ≤ 4 := by
  have := h.m
  rcases m with _ | _ | _ | m
  all_goals first | decide | omega
theorem pur_step (p : Nat × Nat) : pur (stepD p) = true := rfl
theorem pur_row (r : Row) : pur (rowD r) = true := purs_map' fun p _ => pur_step p
theorem pur_rows (rows : List Row) : pur (rowsD rows) = true := purs_map' fun p _ => pur_row p
theorem purs_rows (rows : List Row) : purs (rows.map rowD) = true := pur_rows rows
theorem purs_steps (r : Row) : purs (r.map stepD) = true := pur_row r
theorem purs_I (w : List Nat) : purs (w.map I) = true := purs_map' fun _ _ => rfl
theorem pur_mac (m : Nat) (rows : List Row) : pur (macD m rows) = true := by simp [macD, pur, purs, pur_rows, I]
theorem pur_str (w : List Nat) : pur (strD w) = true := purs_I w
theorem cv_mac {m : Nat} {rows : List Row} : cv (P (macD m rows)) = P (macD m rows) := cv_pur (pur_mac m rows)
theorem cv_rows {rows : List Row} : cv (P (rowsD rows)) = P (rowsD rows) := cv_pur (pur_rows rows)
theorem wIx_mac0 {k k' : Kd} {m : Nat} {rows : List Row} {Q : R → Prop} : wIx ⟨k, macD m rows⟩ ⟨k', .int 0⟩ Q = Q (P (.int (m : Int))) := wIx_t0
theorem wIx_mac1 {k k' : Kd} {m : Nat} {rows : List Row} {Q : R → Prop} : wIx ⟨k, macD m rows⟩ ⟨k', .int 1⟩ Q = Q (P (rowsD rows)) := by
  unfold macD; rw [wIx_t1, itemK_pur (pur_rows rows)]
theorem wIx_rows {k k' : Kd} {rows : List Row} {q : Nat} {Q : R → Prop} (h : q < rows.length) : wIx ⟨k, rowsD rows⟩ ⟨k', .int (q : Int)⟩ Q = Q (P (rowD (nth rows q))) := by
  unfold rowsD; rw [wIx_tm h, itemK_pur (pur_row _)]
theorem wIx_row {k k' : Kd} {r : Row} {q : Nat} {Q : R → Prop} (h : q < r.length) : wIx ⟨k, rowD r⟩ ⟨k', .int (q : Int)⟩ Q = Q (P (stepD (nth r q))) := by
  unfold rowD; rw [wIx_tm h, itemK_pur (pur_step _)]
theorem wIx_step0 {k k' : Kd} {p : Nat × Nat} {Q : R → Prop} : wIx ⟨k, stepD p⟩ ⟨k', .int 0⟩ Q = Q (P (.int (p.1 : Int))) := wIx_t0
theorem wIx_step1 {k k' : Kd} {p : Nat × Nat} {Q : R → Prop} : wIx ⟨k, stepD p⟩ ⟨k', .int 1⟩ Q = Q (P (.int (p.2 : Int))) := wIx_t1
theorem wIx_str {k k' : Kd} {w : List Nat} {q : Nat} {Q : R → Prop} (h : q < w.length) : wIx ⟨k, strD w⟩ ⟨k', .int (q : Int)⟩ Q = Q (P (.int ((nth w q : Nat) : Int))) := by
  unfold strD; rw [wIx_tm h]; rfl
theorem wT_step {k : Kd} {p : Nat × Nat} {u : WGs} {ρ : DEnv} {Q : DEnv → Prop} : wTupT 2 u ⟨k, stepD p⟩ ρ Q = u .shr [.int (p.1 : Int), .int (p.2 : Int)] ρ Q := by
  simp [wTupT, stepD, purs, pur, I]
theorem wT_mac {k : Kd} {m : Nat} {rows : List Row} {u : WGs} {ρ : DEnv} {Q : DEnv → Prop} : wTupT 2 u ⟨k, macD m rows⟩ ρ Q = u .shr [.int (m : Int), rowsD rows] ρ Q := by
  simp [wTupT, macD, purs, pur, I, pur_rows]
theorem wLen_rows {k : Kd} {rows : List Row} {Q : R → Prop} : wLen [⟨k, rowsD rows⟩] Q = Q (P (.int (rows.length : Int))) := by simp [wLen, rowsD]
theorem wLen_row {k : Kd} {r : Row} {Q : R → Prop} : wLen [⟨k, rowD r⟩] Q = Q (P (.int (List.length r : Int))) := by simp [wLen, rowD]
theorem wLen_strD {k : Kd} {w : List Nat} {Q : R → Prop} : wLen [⟨k, strD w⟩] Q = Q (P (.int (w.length : Int))) := by simp [wLen, strD]
theorem wSq_rows {m : Bool} {we : WE} {ρ ρ1 : DEnv} {Q : DEnv → List PyData → Prop} {rows : List Row} (h : ∀ Q : DEnv → R → Prop, Q ρ1 (P (rowsD rows)) → we ρ Q) (q : Q ρ1 (rows.map rowD)) : wSq m we ρ Q := h _ ⟨by rfl, q⟩
theorem cutR_to {k : Kd} {w : List Nat} {n : Nat} {Q : R → Prop} : cutR ⟨k, strD w⟩ none (some (n : Int)) Q = Q (P (strD (w.take n))) := by
  unfold strD; rw [cutR_t, cutD_to, ← List.map_take, kOfT_pur (purs_I _)]
theorem cutR_from {k : Kd} {w : List Nat} {n : Nat} {Q : R → Prop} : cutR ⟨k, strD w⟩ (some (n : Int)) none Q = Q (P (strD (w.drop n))) := by
  unfold strD; rw [cutR_t, cutD_from, ← List.map_drop, kOfT_pur (purs_I _)]
theorem wAdd_str {k k' : Kd} {a b : List Nat} {Q : R → Prop} : wAdd ⟨k, strD a⟩ ⟨k', strD b⟩ Q = (a.length + b.length ≤ sizeLine ∧ Q (P (strD (a ++ b)))) := by
  unfold strD; rw [wAdd_tt, List.length_map, List.length_map, ← List.map_append, kOfT_pur (purs_I _)]
theorem wMul_str {k k' : Kd} {a : List Nat} {n : Nat} {Q : R → Prop} : wMulT ⟨k, strD a⟩ ⟨k', .int (n : Int)⟩ Q = (n < 2 ^ 63 ∧ a.length * n ≤ sizeLine ∧ (a = [] ∨ 1 ≤ n) ∧ Q (P (strD (List.replicate n a).flatten))) := by
  unfold strD
  rw [wMul_ti, Int.toNat_natCast, flat_rep_map, kOfT_pur (purs_I _)]
  simp only [List.length_map, List.map_eq_nil_iff]
  have e1 : (0 : Int) ≤ (n : Int) := by omega
  have e2 : ((n : Int) < 2 ^ 63) = (n < 2 ^ 63) := by simp only [eq_iff_iff]; omega
  have e3 : ((1 : Int) ≤ (n : Int)) = (1 ≤ n) := by simp only [eq_iff_iff]; omega
  rw [e2, e3]
  simp only [e1, true_and]
theorem cv_strD {w : List Nat} : cv (P (strD w)) = P (strD w) := cv_pur (pur_str w)
theorem cv_stepD {p : Nat × Nat} : cv (P (stepD p)) = P (stepD p) := rfl
def run (rows : List Row) (q : Nat) (w : List Nat) : Nat := w.foldl (fun q l => (stp rows q l).1) q
theorem run_nil (rows : List Row) (q : Nat) : run rows q [] = q := rfl
theorem run_cons (rows : List Row) (q l : Nat) (w : List Nat) : run rows q (l :: w) = run rows (stp rows q l).1 w := rfl
theorem run_app (rows : List Row) (q : Nat) (u w : List Nat) : run rows q (u ++ w) = run rows (run rows q u) w := by simp [run]
theorem run_snoc (rows : List Row) (q l : Nat) (w : List Nat) : run rows q (w ++ [l]) = (stp rows (run rows q w) l).1 := by simp [run]
theorem run_ok {m : Nat} {rows : List Row} (h : OkM m rows) : ∀ (w : List Nat) (q : Nat), q < rows.length → (∀ l ∈ w, l < 2 ^ m) → run rows q w < rows.length
  | [], _, hq, _ => hq
  | l :: w, q, hq, hw => run_ok h w _ (h.stp hq (hw l (.head _))).1 fun x hx => hw x (.tail _ hx)
/-- the word that is written from a state on -/
def outp (rows : List Row) (q : Nat) : List Nat → Nat
  | [] => 0
  | l :: w => (stp rows q l).2 + 2 * outp rows (stp rows q l).1 w
theorem outp_snoc (rows : List Row) (q l : Nat) (w : List Nat) : outp rows q (w ++ [l]) = outp rows q w + (stp rows (run rows q w) l).2 * 2 ^ w.length := by
  induction w generalizing q with
  | nil => simp [outp, run]
  | cons x w ih =>
    simp only [List.cons_append, outp, ih, run_cons, List.length_cons, Nat.pow_succ]
    rw [Nat.mul_add]
    have : 2 * ((stp rows (run rows (stp rows q x).1 w) l).2 * 2 ^ w.length) = (stp rows (run rows (stp rows q x).1 w) l).2 * (2 ^ w.length * 2) := by
      rw [Nat.mul_left_comm, Nat.mul_comm 2]
    omega
theorem outp_lt {m : Nat} {rows : List Row} (h : OkM m rows) : ∀ (w : List Nat) (q : Nat), q < rows.length → (∀ l ∈ w, l < 2 ^ m) → outp rows q w < 2 ^ w.length
  | [], _, _, _ => by simp [outp]
  | l :: w, q, hq, hw => by
    have h1 := h.stp hq (hw l (.head _))
    have h2 := outp_lt h w _ h1.1 fun x hx => hw x (.tail _ hx)
    simp only [outp, List.length_cons, Nat.pow_succ]
    omega
theorem outp_app (rows : List Row) (q : Nat) (u w : List Nat) : outp rows q (u ++ w) = outp rows q u + 2 ^ u.length * outp rows (run rows q u) w := by
  induction u generalizing q with
  | nil => simp [outp, run]
  | cons x u ih =>
    simp only [List.cons_append, outp, ih, run_cons, List.length_cons, Nat.pow_succ]
    rw [Nat.mul_add, Nat.mul_assoc, Nat.mul_left_comm]
    omega
/-- the word written by a prefix of the letters is the word cut -/
theorem outp_take {m : Nat} {rows : List Row} (h : OkM m rows) (w : List Nat) (hw : ∀ l ∈ w, l < 2 ^ m) (k : Nat) (hk : k ≤ w.length) : outp rows 0 (w.take k) = outp rows 0 w % 2 ^ k := by
  have e := outp_app rows 0 (w.take k) (w.drop k)
  rw [List.take_append_drop] at e
  have hl : (w.take k).length = k := by simp; omega
  rw [hl] at e
  have lt := outp_lt h (w.take k) 0 h.n1 fun x hx => hw x (List.mem_of_mem_take hx)
  rw [hl] at lt
  rw [e, Nat.add_mul_mod_self_left, Nat.mod_eq_of_lt lt]
def letterAt (ws : List Nat) (i : Nat) : Nat := (ws.zipIdx.map fun p => p.1 / 2 ^ i % 2 * 2 ^ p.2).sum
def letters (ws : List Nat) (w : Nat) : List Nat := (List.range w).map (letterAt ws)
theorem letters_succ (ws : List Nat) (w : Nat) : letters ws (w + 1) = letters ws w ++ [letterAt ws w] := by simp [letters, List.range_succ]
theorem letters_len (ws : List Nat) (w : Nat) : (letters ws w).length = w := by simp [letters]
theorem sum_bits (f : Nat → Nat) (hf : ∀ x, f x < 2) : ∀ (ws : List Nat) (k : Nat), ((ws.zipIdx k).map fun p => f p.1 * 2 ^ p.2).sum < 2 ^ (k + ws.length) ∧ ((ws.zipIdx k).map fun p => f p.1 * 2 ^ p.2).sum + 2 ^ k ≤ 2 ^ (k + ws.length)
  | [], k => by simp [Nat.two_pow_pos]
  | x :: ws, k => by
    have ih := sum_bits f hf ws (k + 1)
    have e : k + 1 + ws.length = k + (ws.length + 1) := by omega
    rw [e] at ih
    simp only [List.zipIdx_cons, List.map_cons, List.sum_cons, List.length_cons]
    have hx := hf x
    have : f x * 2 ^ k ≤ 1 * 2 ^ k := Nat.mul_le_mul_right _ (by omega)
    have h2 := ih.2
    rw [Nat.pow_succ] at h2
    omega
theorem letterAt_lt (ws : List Nat) (i : Nat) : letterAt ws i < 2 ^ ws.length := by
  have := (sum_bits (fun x => x / 2 ^ i % 2) (fun x => Nat.mod_lt _ (by decide)) ws 0).1
  simpa [letterAt] using this
theorem letters_lt (ws : List Nat) (w : Nat) : ∀ l ∈ letters ws w, l < 2 ^ ws.length := fun l hl => by
  obtain ⟨i, _, rfl⟩ := List.mem_map.mp hl
  exact letterAt_lt ws i
theorem letters_take (ws : List Nat) {k w : Nat} (h : k ≤ w) : (letters ws w).take k = letters ws k := by
  unfold letters
  rw [← List.map_take, List.take_range, Nat.min_eq_left h]
theorem letters_cut (ws : List Nat) (k : Nat) : letters (ws.map (· % 2 ^ k)) k = letters ws k := by
  unfold letters
  apply List.map_congr_left
  intro i hi
  have hi := List.mem_range.mp hi
  have e : ∀ (ws : List Nat) (j : Nat), ((ws.map (· % 2 ^ k)).zipIdx j).map (fun p => p.1 / 2 ^ i % 2 * 2 ^ p.2) = (ws.zipIdx j).map fun p => p.1 / 2 ^ i % 2 * 2 ^ p.2 := by
    intro ws
    induction ws with
    | nil => intro j; rfl
    | cons x ws ih =>
      intro j
      simp only [List.map_cons, List.zipIdx_cons, ih]
      have : x % 2 ^ k / 2 ^ i % 2 = x / 2 ^ i % 2 := by
        have h1 := Nat.testBit_mod_two_pow x k i
        rw [Nat.testBit_eq_decide_div_mod_eq, Nat.testBit_eq_decide_div_mod_eq] at h1
        simp only [hi, decide_true, Bool.true_and, decide_eq_decide] at h1
        omega
      rw [this]
  unfold letterAt
  rw [e]
theorem isum_map {α : Type} (f : α → Nat) (xs : List α) : (xs.map fun x => ((f x : Nat) : Int)).sum = ((xs.map f).sum : Nat) := by
  induction xs with
  | nil => rfl
  | cons x xs ih => simp [ih]
def td' (g : List Int) (s t : Int) : PyData := .dict (td (.list (g.map PyData.int)) (.int s) (.int t))
def Tray (d : PyData) : Prop := ∃ g s t, d = td' g s t ∧ g.length ≤ 60 ∧ 0 ≤ s ∧ s < 2 ^ 32
def lentT (ρ : DEnv) : Prop := ∃ d, ρ[0]? = some (some ⟨.fix, d⟩) ∧ Tray d
theorem Tray.npur {d : PyData} (h : Tray d) : pur d = false := by obtain ⟨g, s, t, rfl, _⟩ := h; rfl
theorem cv_tray {d : PyData} (h : Tray d) : cv ⟨.own, d⟩ = ⟨.own, d⟩ := by simp [cv, h.npur]
theorem sld_tray {d : PyData} {Q : R → Prop} (h : Tray d) : sld ⟨.own, d⟩ Q = Q ⟨.own, d⟩ := by simp [sld, h.npur]
theorem sh_nat {n K : Nat} (h : n < 10 ^ K) (hK : 0 < K := by decide) (h2 : K ≤ 577 := by decide) : Sh (.int (n : Int)) 0 (K + 1) := sh_int K hK (by simpa using h) h2
theorem sh_tupN {ds : List PyData} {k L : Nat} (n : Nat) (h : ∀ d ∈ ds, Sh d k L) (hn : ds.length ≤ n) : Sh (.tuple ds) (k + 1) (n * (L + 2) + 3) :=
  (sh_tup h).mono (Nat.le_refl _) (by have := Nat.mul_le_mul_right (L + 2) hn; omega)
theorem sh_lstN {ds : List PyData} {k L : Nat} (n : Nat) (h : ∀ d ∈ ds, Sh d k L) (hn : ds.length ≤ n) : Sh (.list ds) (k + 1) (n * (L + 2) + 3) :=
  (sh_lst h).mono (Nat.le_refl _) (by have := Nat.mul_le_mul_right (L + 2) hn; omega)
theorem sh_step {p : Nat × Nat} (h1 : p.1 < 100) (h2 : p.2 < 100) : Sh (stepD p) 1 13 := by
  refine sh_tupN (L := 3) 2 (fun d hd => ?_) (by simp)
  simp [I] at hd
  rcases hd with rfl | rfl
  · exact sh_nat (K := 2) h1
  · exact sh_nat (K := 2) h2
theorem sh_rows {m : Nat} {rows : List Row} (ok : OkM m rows) : Sh (rowsD rows) 3 1563 := by
  refine sh_tupN (L := 63) 24 (fun d hd => ?_) (by simp; exact ok.n24)
  obtain ⟨r, hr, rfl⟩ := List.mem_map.mp hd
  obtain ⟨h1, h2⟩ := ok.row r hr
  refine sh_tupN (L := 13) 4 (fun d hd => ?_) (by have := ok.pow; simp; omega)
  obtain ⟨p, hp, rfl⟩ := List.mem_map.mp hd
  have := h2 p hp
  have := ok.n24
  exact sh_step (by omega) (by omega)
theorem sh_mac {m : Nat} {rows : List Row} (ok : OkM m rows) : Sh (macD m rows) 4 3133 := by
  refine sh_tupN (L := 1563) 2 (fun d hd => ?_) (by simp)
  simp [I] at hd
  rcases hd with rfl | rfl
  · exact (sh_nat (K := 2) (by have := ok.m; omega)).mono (by decide) (by decide)
  · exact sh_rows ok
theorem sh_strD {w : List Nat} {K : Nat} (n : Nat) (h : ∀ x ∈ w, x < 10 ^ K) (hn : w.length ≤ n) (hK : 0 < K := by decide) (h2 : K ≤ 577 := by decide) : Sh (strD w) 1 (n * (K + 1 + 2) + 3) := by
  refine sh_tupN n (fun d hd => ?_) (by simpa using hn)
  obtain ⟨x, hx, rfl⟩ := List.mem_map.mp hd
  exact sh_nat (h x hx) hK h2
theorem pow2_10 {x w : Nat} (h : x < 2 ^ w) (hw : w ≤ 256 := by omega) : x < 10 ^ 78 :=
  Nat.lt_of_lt_of_le h (Nat.le_trans (Nat.pow_le_pow_right (by decide) hw) (by decide +kernel))
theorem map_I {α : Type} (f : α → Nat) (xs : List α) : (xs.map fun x => I (f x)) = (xs.map f).map I := by simp
theorem band_top (x w : Nat) : Builtin.bitAnd (x : Int) ((2 ^ w - 1 : Nat) : Int) = ((x % 2 ^ w : Nat) : Int) := by rw [band_nat, Nat.and_two_pow_sub_one_eq_mod]
def dk' (g : List Int) (s t : Int) : PyData := .list [.list (g.map PyData.int), .int s, .int t]
def Deck (d : PyData) : Prop := ∃ g s t, d = dk' g s t ∧ g.length ≤ 63 ∧ 0 ≤ s ∧ s < 2 ^ 32
theorem Deck.npur {d : PyData} (h : Deck d) : pur d = false := by obtain ⟨g, s, t, rfl, _⟩ := h; rfl
theorem cv_deck {d : PyData} (h : Deck d) : cv ⟨.own, d⟩ = ⟨.own, d⟩ := by simp [cv, h.npur]
theorem sld_deck {d : PyData} {Q : R → Prop} (h : Deck d) : sld ⟨.own, d⟩ Q = Q ⟨.own, d⟩ := by simp [sld, h.npur]
def turnM (rows : List Row) (w : List Nat) : List Nat := (List.range rows.length).map fun q => run rows q w
theorem turn_len (rows : List Row) (w : List Nat) : (turnM rows w).length = rows.length := by simp [turnM]
theorem turn_app (rows : List Row) (u w : List Nat) : turnM rows (u ++ w) = (turnM rows u).map fun q => run rows q w := by simp [turnM, run_app, Function.comp_def]
theorem turn_nth {rows : List Row} {w : List Nat} {q : Nat} (h : q < rows.length) : nth (turnM rows w) q = run rows q w := by
  unfold turnM; rw [nth_map _ (by simpa using h), nth_lt (by simpa using h)]; simp
theorem turn_ok {m : Nat} {rows : List Row} (ok : OkM m rows) {w : List Nat} (hw : ∀ l ∈ w, l < 2 ^ m) : ∀ x ∈ turnM rows w, x < rows.length := fun x hx => by
  obtain ⟨q, hq, rfl⟩ := List.mem_map.mp hx
  exact run_ok ok w q (by simpa using hq) hw
theorem flat_take {α : Type} {xs : List (List α)} {k : Nat} {x : List α} (h : xs[k]? = some x) : (xs.take (k + 1)).flatten = (xs.take k).flatten ++ x := by
  rw [take_succ_of h]; simp
theorem flat_len {α : Type} {xs : List (List α)} {L : Nat} (h : ∀ x ∈ xs, x.length ≤ L) : xs.flatten.length ≤ xs.length * L := by
  induction xs with
  | nil => simp
  | cons x xs ih =>
    simp only [List.flatten_cons, List.length_append, List.length_cons, Nat.succ_mul]
    have := h x (.head _)
    have := ih fun y hy => h y (.tail _ hy)
    omega
theorem run_id (rows : List Row) : turnM rows [] = List.range rows.length := by simp [turnM, run]
theorem sh_turn {m : Nat} {rows : List Row} (ok : OkM m rows) {w : List Nat} (hw : ∀ l ∈ w, l < 2 ^ m) : Sh (strD (turnM rows w)) 1 (24 * (2 + 1 + 2) + 3) :=
  sh_strD (K := 2) 24 (fun x hx => Nat.lt_trans (Nat.lt_of_lt_of_le (turn_ok ok hw x hx) ok.n24) (by decide)) (by rw [turn_len]; exact ok.n24)
theorem wIx_str0 {k k' : Kd} {w : List Nat} {Q : R → Prop} (h : 0 < w.length) : wIx ⟨k, strD w⟩ ⟨k', .int 0⟩ Q = Q (P (.int ((nth w 0 : Nat) : Int))) := wIx_str (q := 0) h
end Law
namespace Law
open PySem PySem.Spec PyProof.Rows L2 DL
def bd (a b c : PyData) : List (PyData × PyData) := [(.str "far", a), (.str "stirred", b), (.str "count", c)]
theorem bd_len (a b c : PyData) : (bd a b c).length = 3 := rfl
theorem bd_get0 {a b c : PyData} : lookD (bd a b c) (.inr "far") = some a := by rfl
theorem bd_pos0 {a b c : PyData} : posK (bd a b c) (.inr "far") = some 0 := by rfl
theorem bd_put0 {a b c d : PyData} : putD (bd a b c) (.inr "far") d = bd d b c := by rfl
theorem bd_g0 {a b c : PyData} : getP (.dict (bd a b c)) [0] = some a := by simp [bd, getP]
theorem bd_s0 {a b c e : PyData} : setP (.dict (bd a b c)) [0] e = .dict (bd e b c) := by simp [bd, setP]
theorem bd_get1 {a b c : PyData} : lookD (bd a b c) (.inr "stirred") = some b := by rfl
theorem bd_pos1 {a b c : PyData} : posK (bd a b c) (.inr "stirred") = some 1 := by rfl
theorem bd_put1 {a b c d : PyData} : putD (bd a b c) (.inr "stirred") d = bd a d c := by rfl
theorem bd_g1 {a b c : PyData} : getP (.dict (bd a b c)) [1] = some b := by simp [bd, getP]
theorem bd_s1 {a b c e : PyData} : setP (.dict (bd a b c)) [1] e = .dict (bd a e c) := by simp [bd, setP]
theorem bd_get2 {a b c : PyData} : lookD (bd a b c) (.inr "count") = some c := by rfl
theorem bd_pos2 {a b c : PyData} : posK (bd a b c) (.inr "count") = some 2 := by rfl
theorem bd_put2 {a b c d : PyData} : putD (bd a b c) (.inr "count") d = bd a b d := by rfl
theorem bd_g2 {a b c : PyData} : getP (.dict (bd a b c)) [2] = some c := by simp [bd, getP]
theorem bd_s2 {a b c e : PyData} : setP (.dict (bd a b c)) [2] e = .dict (bd a b e) := by simp [bd, setP]
theorem bd_all {a b c : PyData} : (∀ (x y : PyData), (x, y) ∈ bd a b c → (DL.keyOf x).isSome = true) := by
  intro x y h
  simp only [bd, List.mem_cons, Prod.mk.injEq, List.not_mem_nil, or_false] at h
  rcases h with ⟨rfl, _⟩ | ⟨rfl, _⟩ | ⟨rfl, _⟩ <;> rfl
def bd' (g : List Int) (s t : Int) : PyData := .dict (bd (.list (g.map PyData.int)) (.int s) (.int t))
def Bag (d : PyData) : Prop := ∃ g s t, d = bd' g s t ∧ g.length ≤ 63 ∧ 0 ≤ s ∧ s < 2 ^ 32
theorem Bag.npur {d : PyData} (h : Bag d) : pur d = false := by obtain ⟨g, s, t, rfl, _⟩ := h; rfl
theorem cv_bag {d : PyData} (h : Bag d) : cv ⟨.own, d⟩ = ⟨.own, d⟩ := by simp [cv, h.npur]
theorem sld_bag {d : PyData} {Q : R → Prop} (h : Bag d) : sld ⟨.own, d⟩ Q = Q ⟨.own, d⟩ := by simp [sld, h.npur]
def be (a b c : PyData) : List (PyData × PyData) := [(.str "far", a), (.str "stirred", b), (.str "turn", c)]
theorem be_len (a b c : PyData) : (be a b c).length = 3 := rfl
theorem be_get0 {a b c : PyData} : lookD (be a b c) (.inr "far") = some a := by rfl
theorem be_pos0 {a b c : PyData} : posK (be a b c) (.inr "far") = some 0 := by rfl
theorem be_put0 {a b c d : PyData} : putD (be a b c) (.inr "far") d = be d b c := by rfl
theorem be_g0 {a b c : PyData} : getP (.dict (be a b c)) [0] = some a := by simp [be, getP]
theorem be_s0 {a b c e : PyData} : setP (.dict (be a b c)) [0] e = .dict (be e b c) := by simp [be, setP]
theorem be_get1 {a b c : PyData} : lookD (be a b c) (.inr "stirred") = some b := by rfl
theorem be_pos1 {a b c : PyData} : posK (be a b c) (.inr "stirred") = some 1 := by rfl
theorem be_put1 {a b c d : PyData} : putD (be a b c) (.inr "stirred") d = be a d c := by rfl
theorem be_g1 {a b c : PyData} : getP (.dict (be a b c)) [1] = some b := by simp [be, getP]
theorem be_s1 {a b c e : PyData} : setP (.dict (be a b c)) [1] e = .dict (be a e c) := by simp [be, setP]
theorem be_get2 {a b c : PyData} : lookD (be a b c) (.inr "turn") = some c := by rfl
theorem be_pos2 {a b c : PyData} : posK (be a b c) (.inr "turn") = some 2 := by rfl
theorem be_put2 {a b c d : PyData} : putD (be a b c) (.inr "turn") d = be a b d := by rfl
theorem be_g2 {a b c : PyData} : getP (.dict (be a b c)) [2] = some c := by simp [be, getP]
theorem be_s2 {a b c e : PyData} : setP (.dict (be a b c)) [2] e = .dict (be a b e) := by simp [be, setP]
theorem be_all {a b c : PyData} : (∀ (x y : PyData), (x, y) ∈ be a b c → (DL.keyOf x).isSome = true) := by
  intro x y h
  simp only [be, List.mem_cons, Prod.mk.injEq, List.not_mem_nil, or_false] at h
  rcases h with ⟨rfl, _⟩ | ⟨rfl, _⟩ | ⟨rfl, _⟩ <;> rfl
def be' (g : List Int) (s t : Int) : PyData := .dict (be (.list (g.map PyData.int)) (.int s) (.int t))
/-- n: no more draws than so many -/
def Bag2 (n : Nat) (d : PyData) : Prop := ∃ g s t, d = be' g s t ∧ g.length ≤ 63 ∧ 0 ≤ s ∧ s < 2 ^ 32 ∧ 0 ≤ t ∧ t ≤ (n : Int)
theorem Bag2.mono {n m : Nat} {d : PyData} (h : Bag2 n d) (k : n ≤ m) : Bag2 m d := by
  obtain ⟨g, s, t, e, h1, h2, h3, h4, h5⟩ := h
  exact ⟨g, s, t, e, h1, h2, h3, h4, by omega⟩
theorem Bag2.npur {n : Nat} {d : PyData} (h : Bag2 n d) : pur d = false := by obtain ⟨g, s, t, rfl, _⟩ := h; rfl
theorem cv_bag2 {n : Nat} {d : PyData} (h : Bag2 n d) : cv ⟨.own, d⟩ = ⟨.own, d⟩ := by simp [cv, h.npur]
theorem sld_bag2 {n : Nat} {d : PyData} {Q : R → Prop} (h : Bag2 n d) : sld ⟨.own, d⟩ Q = Q ⟨.own, d⟩ := by simp [sld, h.npur]
end Law
namespace Law
open PySem PySem.Spec PyProof.Rows L2 DL
inductive O1 where | not | twice | minus | pre
  deriving DecidableEq
inductive O2 where | and | or | xor | plus | less
  deriving DecidableEq
def O1.nm : O1 → Str
  | .not => "not"
  | .twice => "twice"
  | .minus => "minus"
  | .pre => "prefix"
def O2.nm : O2 → Str
  | .and => "and"
  | .or => "or"
  | .xor => "xor"
  | .plus => "plus"
  | .less => "less"
inductive Ins where
  | k0 (one : Bool)
  | k1 (o : O1) (a : Nat)
  | k2 (o : O2) (a b : Nat)
  | mk (bits : List Nat)
def insD : Ins → PyData
  | .k0 b => .tuple [.str (if b then "ones" else "zero")]
  | .k1 o a => .tuple [.str o.nm, I a]
  | .k2 o a b => .tuple [.str o.nm, I a, I b]
  | .mk bits => .tuple [.str "mask", strD bits]
/-- the words of instructions -/
inductive Wd where
  | zero | ones | mask
  | o1 (o : O1)
  | o2 (o : O2)
  deriving DecidableEq
instance : Inhabited Wd := ⟨.zero⟩
instance : Inhabited Ins := ⟨.k0 false⟩
def Wd.nm : Wd → Str
  | .zero => "zero"
  | .ones => "ones"
  | .mask => "mask"
  | .o1 o => o.nm
  | .o2 o => o.nm
def Wd.ary : Wd → Nat
  | .zero => 0
  | .ones => 0
  | .mask => 1
  | .o1 _ => 1
  | .o2 _ => 2
def Wd.D (w : Wd) : PyData := .str w.nm
def Ins.wd : Ins → Wd
  | .k0 b => if b then .ones else .zero
  | .k1 o _ => .o1 o
  | .k2 o _ _ => .o2 o
  | .mk _ => .mask
def plainW : List Wd := [.zero, .ones, .o1 .not, .o2 .and, .o2 .or, .o2 .xor]
def sumsW : List Wd := plainW ++ [.o1 .twice, .o1 .minus, .o2 .plus, .o2 .less]
def bookW : Nat → List Wd
  | 0 => plainW
  | 1 => plainW ++ [.o1 .pre]
  | 2 => plainW ++ [.o1 .twice]
  | 3 => plainW ++ [.o1 .minus]
  | 4 => sumsW
  | 5 => sumsW ++ [.mask]
  | _ => sumsW ++ [.o1 .pre]
theorem purs_W (ws : List Wd) : purs (ws.map Wd.D) = true := purs_map' fun _ _ => rfl
/-- the instruction may stand behind n words and rows -/
def Ins.ok (n : Nat) : Ins → Prop
  | .k0 _ => True
  | .k1 _ a => a < n
  | .k2 _ a b => a < n ∧ b < n
  | .mk bits => 1 ≤ bits.length ∧ bits.length ≤ 48 ∧ ∀ x ∈ bits, x < 2
theorem pur_ins (r : Ins) : pur (insD r) = true := by cases r <;> simp [insD, pur, purs, I, pur_str]
def ob (f : Nat → Bool) : Nat → Nat
  | 0 => 0
  | w + 1 => ob f w + (f w).toNat * 2 ^ w
theorem ob_lt (f : Nat → Bool) (w : Nat) : ob f w < 2 ^ w := by
  induction w with
  | zero => simp [ob]
  | succ w ih =>
    have : (f w).toNat * 2 ^ w ≤ 1 * 2 ^ w := Nat.mul_le_mul_right _ (by cases f w <;> decide)
    simp only [ob]
    rw [Nat.pow_succ]
    omega
theorem ob_bit (f : Nat → Bool) (w i : Nat) : (ob f w).testBit i = (decide (i < w) && f i) := by
  induction w with
  | zero => simp [ob]
  | succ w ih =>
    simp only [ob]
    rw [Nat.add_comm, Nat.mul_comm]
    by_cases h : i < w
    · rw [Nat.testBit_two_pow_mul_add _ (ob_lt f w), if_pos h, ih]
      simp [h, show i < w + 1 by omega]
    · rw [Nat.testBit_two_pow_mul_add _ (ob_lt f w), if_neg h]
      by_cases h2 : i = w
      · subst h2
        simp
        cases f i <;> simp
      · rw [show i - w = (i - w - 1) + 1 by omega]
        have : ¬ i < w + 1 := by omega
        simp [this]
        cases f w <;> simp [Nat.testBit_succ]
theorem tb_high {x w i : Nat} (hx : x < 2 ^ w) (h : ¬ i < w) : x.testBit i = false :=
  Nat.testBit_lt_two_pow (Nat.lt_of_lt_of_le hx (Nat.pow_le_pow_right (by decide) (Nat.le_of_not_lt h)))
theorem ob_eq {f : Nat → Bool} {w x : Nat} (hx : x < 2 ^ w) (h : ∀ i, i < w → f i = x.testBit i) : ob f w = x := by
  refine Nat.eq_of_testBit_eq fun i => ?_
  rw [ob_bit]
  by_cases hi : i < w
  · simp [hi, h i hi]
  · simp [hi, tb_high hx hi]
theorem ob_congr {f g : Nat → Bool} {w : Nat} (h : ∀ i, i < w → f i = g i) : ob f w = ob g w :=
  ob_eq (ob_lt g w) fun i hi => by rw [ob_bit, h i hi]; simp [hi]
/-- parity of the bits below i -/
def par (x : Nat) : Nat → Bool
  | 0 => false
  | i + 1 => (par x i ^^ x.testBit i)
def pfx (w x : Nat) : Nat := ob (fun i => par x (i + 1)) w
def msk (bits : List Nat) (w : Nat) : Nat := ob (fun i => nth bits (i % bits.length) == 1) w
def val1 (w : Nat) (o : O1) (x : Nat) : Nat := match o with
  | .not => 2 ^ w - 1 - x
  | .twice => 2 * x % 2 ^ w
  | .minus => (2 ^ w - x) % 2 ^ w
  | .pre => pfx w x
def val2 (w : Nat) (o : O2) (x y : Nat) : Nat := match o with
  | .and => x &&& y
  | .or => x ||| y
  | .xor => x ^^^ y
  | .plus => (x + y) % 2 ^ w
  | .less => (2 ^ w + x - y) % 2 ^ w
def Ins.val (w : Nat) (kn : List Nat) : Ins → Nat
  | .k0 b => if b then 2 ^ w - 1 else 0
  | .k1 o a => val1 w o (nth kn a)
  | .k2 o a b => val2 w o (nth kn a) (nth kn b)
  | .mk bits => msk bits w
def vals (w : Nat) (kn : List Nat) (rows : List Ins) : List Nat := rows.foldl (fun kn r => kn ++ [r.val w kn]) kn
def progD (many : Nat) (rows : List Ins) : PyData := .tuple [I many, .tuple (rows.map insD)]
theorem pur_prog (m : Nat) (rows : List Ins) : pur (progD m rows) = true := by
  simp [progD, pur, purs, I]
  exact purs_map' fun p _ => pur_ins p
theorem val1_lt {w : Nat} {o : O1} {x : Nat} : val1 w o x < 2 ^ w := by
  have := Nat.two_pow_pos w
  cases o <;> simp only [val1]
  · omega
  · exact Nat.mod_lt _ this
  · exact Nat.mod_lt _ this
  · exact ob_lt _ _
theorem val2_lt {w : Nat} {o : O2} {x y : Nat} (hx : x < 2 ^ w) (hy : y < 2 ^ w) : val2 w o x y < 2 ^ w := by
  have := Nat.two_pow_pos w
  cases o <;> simp only [val2]
  · exact Nat.and_lt_two_pow _ hy
  · exact Nat.or_lt_two_pow hx hy
  · exact Nat.xor_lt_two_pow hx hy
  · exact Nat.mod_lt _ this
  · exact Nat.mod_lt _ this
theorem Ins.val_lt {w : Nat} {kn : List Nat} {r : Ins} (ok : r.ok kn.length) (h : ∀ x ∈ kn, x < 2 ^ w) : r.val w kn < 2 ^ w := by
  have := Nat.two_pow_pos w
  cases r with
  | k0 b => cases b <;> simp [Ins.val] <;> omega
  | k1 o a => exact val1_lt
  | k2 o a b => exact val2_lt (h _ (nth_mem ok.1)) (h _ (nth_mem ok.2))
  | mk bits => exact ob_lt _ _
/-- each row may stand where it stands -/
def OkR (n : Nat) : List Ins → Prop
  | [] => True
  | r :: rs => r.ok n ∧ OkR (n + 1) rs
theorem OkR.get : ∀ {rs : List Ins} {n k : Nat} {r : Ins}, OkR n rs → rs[k]? = some r → r.ok (n + k)
  | [], _, _, _, _, h => by simp at h
  | r :: rs, n, 0, x, h, e => by simp at e; subst e; exact h.1
  | r :: rs, n, k + 1, x, h, e => by
    have := OkR.get (k := k) h.2 (by simpa using e)
    rwa [show n + 1 + k = n + (k + 1) by omega] at this
theorem OkR.snoc : ∀ {rs : List Ins} {n : Nat} {r : Ins}, OkR n rs → r.ok (n + rs.length) → OkR n (rs ++ [r])
  | [], n, r, _, h => ⟨h, trivial⟩
  | x :: rs, n, r, h, h2 => ⟨h.1, OkR.snoc h.2 (by simp at h2; rwa [show n + 1 + rs.length = n + (rs.length + 1) by omega])⟩
theorem vals_snoc (w : Nat) (kn : List Nat) (rs : List Ins) (r : Ins) : vals w kn (rs ++ [r]) = vals w kn rs ++ [r.val w (vals w kn rs)] := by simp [vals]
theorem vals_len (w : Nat) (rs : List Ins) : ∀ kn : List Nat, (vals w kn rs).length = kn.length + rs.length := by
  induction rs with
  | nil => simp [vals]
  | cons r rs ih =>
    intro kn
    have := ih (kn ++ [r.val w kn])
    simp [vals] at this ⊢
    omega
theorem vals_lt {w : Nat} : ∀ {rs : List Ins} {kn : List Nat}, OkR kn.length rs → (∀ x ∈ kn, x < 2 ^ w) → ∀ x ∈ vals w kn rs, x < 2 ^ w
  | [], kn, _, h => h
  | r :: rs, kn, ok, h => by
    have := vals_lt (w := w) (rs := rs) (kn := kn ++ [r.val w kn]) (by simpa using ok.2) (fun x hx => by
      rcases List.mem_append.mp hx with hx | hx
      · exact h x hx
      · rw [List.mem_singleton.mp hx]; exact Ins.val_lt ok.1 h)
    simpa [vals] using this
theorem band_topZ (x : Int) (w : Nat) : Builtin.bitAnd x ((2 ^ w - 1 : Nat) : Int) = x % (2 ^ w : Nat) := by
  have hp := Nat.two_pow_pos w
  by_cases hx : 0 ≤ x
  · obtain ⟨n, rfl⟩ := Int.eq_ofNat_of_zero_le hx
    rw [band_top]
    rfl
  · have h2 : decide (0 ≤ ((2 ^ w - 1 : Nat) : Int)) = true := by simp
    have h1 : decide (0 ≤ x) = false := by simpa using hx
    show (match decide (0 ≤ x), decide (0 ≤ ((2 ^ w - 1 : Nat) : Int)) with
      | true, true => ((x.toNat &&& ((2 ^ w - 1 : Nat) : Int).toNat : Nat) : Int)
      | true, false => _
      | false, true => ((2 ^ w - 1 : Nat) : Int) - ((((2 ^ w - 1 : Nat) : Int).toNat &&& (Builtin.bitNot x).toNat : Nat) : Int)
      | false, false => _) = _
    rw [h1, h2]
    simp only [Int.toNat_natCast]
    rw [Nat.and_comm, Nat.and_two_pow_sub_one_eq_mod]
    obtain ⟨m, hm⟩ := Int.eq_ofNat_of_zero_le (show 0 ≤ -x - 1 by omega)
    have e : (Builtin.bitNot x).toNat = m := by show (-x - 1).toNat = m; omega
    rw [e]
    have hx' : x = -(m : Int) - 1 := by omega
    rw [hx']
    have dm := Nat.div_add_mod m (2 ^ w)
    have ml := Nat.mod_lt m hp
    have : -(m : Int) - 1 = ((2 ^ w : Nat) : Int) * (-((m / 2 ^ w : Nat) : Int) - 1) + (((2 ^ w - 1 : Nat) : Int) - ((m % 2 ^ w : Nat) : Int)) := by
      have e1 : (m : Int) = ((2 ^ w : Nat) : Int) * ((m / 2 ^ w : Nat) : Int) + ((m % 2 ^ w : Nat) : Int) := by exact_mod_cast dm.symm
      rw [Int.mul_sub, Int.mul_neg]
      omega
    rw [this, Int.add_comm, Int.add_mul_emod_self_left, Int.emod_eq_of_lt (by omega) (by omega)]
theorem topI (w : Nat) : (2 : Int) ^ w - 1 = ((2 ^ w - 1 : Nat) : Int) := top_nat w
theorem xor_top {x w : Nat} (hx : x < 2 ^ w) : (2 ^ w - 1) ^^^ x = 2 ^ w - 1 - x := by
  refine Nat.eq_of_testBit_eq fun i => ?_
  rw [Nat.testBit_xor, Nat.testBit_two_pow_sub_one, show 2 ^ w - 1 - x = 2 ^ w - (x + 1) by omega, Nat.testBit_two_pow_sub_succ hx]
  by_cases h : i < w
  · simp [h]
  · simp [h, tb_high hx h]
theorem modZ_minus {x w : Nat} (hx : x < 2 ^ w) : (-(x : Int)) % (2 ^ w : Nat) = (((2 ^ w - x) % 2 ^ w : Nat) : Int) := by
  rw [← Int.add_emod_right]
  have : -(x : Int) + ((2 ^ w : Nat) : Int) = ((2 ^ w - x : Nat) : Int) := by omega
  rw [this]
  rfl
theorem modZ_less {x y w : Nat} (hy : y < 2 ^ w) : ((x : Int) - (y : Int)) % (2 ^ w : Nat) = (((2 ^ w + x - y) % 2 ^ w : Nat) : Int) := by
  rw [← Int.add_emod_right]
  have : (x : Int) - (y : Int) + ((2 ^ w : Nat) : Int) = ((2 ^ w + x - y : Nat) : Int) := by omega
  rw [this]
  rfl
def parS (x s i : Nat) : Bool := (par x (i + 1) ^^ par x (i + 1 - s))
theorem par_pre_one (x i : Nat) : parS x 1 i = x.testBit i := by
  simp only [parS, par, Nat.add_sub_cancel]
  cases par x i <;> cases x.testBit i <;> rfl
theorem pre_step {x s f : Nat} (h : ∀ i, f.testBit i = parS x s i) (hs : 1 ≤ s) (i : Nat) : (f ^^^ (f <<< s)).testBit i = parS x (s * 2) i := by
  rw [Nat.testBit_xor, Nat.testBit_shiftLeft, h]
  by_cases hi : s ≤ i
  · simp only [ge_iff_le, hi, decide_true, Bool.true_and]
    rw [h]
    unfold parS
    rw [show i - s + 1 = i + 1 - s by omega, show i + 1 - s - s = i + 1 - s * 2 by omega]
    cases par x (i + 1) <;> cases par x (i + 1 - s) <;> cases par x (i + 1 - s * 2) <;> rfl
  · simp only [ge_iff_le, hi, decide_false, Bool.false_and, Bool.xor_false]
    unfold parS
    rw [show i + 1 - s = 0 by omega, show i + 1 - s * 2 = 0 by omega]
theorem pre_end {x s f w : Nat} (h : ∀ i, f.testBit i = parS x s i) (hs : w ≤ s) : f % 2 ^ w = pfx w x := by
  refine (ob_eq (Nat.mod_lt _ (Nat.two_pow_pos w)) fun i hi => ?_).symm
  rw [Nat.testBit_mod_two_pow, h]
  simp only [hi, decide_true, Bool.true_and]
  unfold parS
  rw [show i + 1 - s = 0 by omega]
  simp [par]
theorem msk_step (bits : List Nat) (hb : ∀ x ∈ bits, x < 2) (h1 : 1 ≤ bits.length) (i : Nat) : (msk bits i) ||| (nth bits (i % bits.length) <<< i) = msk bits (i + 1) := by
  have hn : nth bits (i % bits.length) < 2 := hb _ (nth_mem (Nat.mod_lt _ (by omega)))
  show _ = ob _ i + _ * 2 ^ i
  rw [Nat.shiftLeft_eq, Nat.add_comm]
  have : (nth bits (i % bits.length) == 1).toNat = nth bits (i % bits.length) := by
    rcases Nat.lt_succ_iff_lt_or_eq.mp hn with h | h
    · rw [Nat.lt_one_iff.mp h]; rfl
    · rw [h]; rfl
  rw [this, Nat.mul_comm, Nat.two_pow_add_eq_or_of_lt (ob_lt _ _), Nat.or_comm]
  rfl
theorem wIx_ins0 {k k' : Kd} {r : Ins} {Q : R → Prop} : wIx ⟨k, insD r⟩ ⟨k', .int 0⟩ Q = Q (P (.str r.wd.nm)) := by
  cases r with
  | k0 b => cases b <;> exact wIx_t0
  | k1 o a => exact wIx_t0
  | k2 o a b => exact wIx_t0
  | mk b => exact wIx_t0
theorem wIx_known {k k' : Kd} {w : List Nat} {q : Nat} {Q : R → Prop} (h : q < w.length) : wIx ⟨k, .list (w.map I)⟩ ⟨k', .int (q : Int)⟩ Q = Q (P (.int ((nth w q : Nat) : Int))) := by
  rw [wIx_lm h]
  rfl
theorem wIx_strL {k k' : Kd} {w : List Nat} {Q : R → Prop} (h : 1 ≤ w.length) : wIx ⟨k, strD w⟩ ⟨k', .int (-1)⟩ Q = Q (P (.int ((nth w (w.length - 1) : Nat) : Int))) := by
  unfold strD
  rw [wIx_tL h]
  rfl
theorem ob_sum (f : Nat → Bool) (w : Nat) : (((List.range w).filter fun i => f i).map fun i => (2 : Int) ^ i).sum = ((ob f w : Nat) : Int) := by
  induction w with
  | zero => rfl
  | succ w ih =>
    rw [List.range_succ, List.filter_append, List.map_append, List.sum_append, ih]
    simp only [ob]
    cases h : f w <;> simp [h]
theorem digit (x i : Nat) : ((x : Int) / 2 ^ i % 2) = (((x.testBit i).toNat : Nat) : Int) := by
  rw [Nat.toNat_testBit]
  simp
theorem obI (f : Nat → Bool) (k : Nat) : ((ob f k : Nat) : Int) + 2 ^ k * (if f k = true then 1 else 0) = ((ob f (k + 1) : Nat) : Int) := by
  simp only [ob]
  cases f k <;> simp
theorem twin_minus {w x y : Nat} (hx : x < 2 ^ w) (hy : y < 2 ^ w) : (2 ^ w + x - y) % 2 ^ w = (x + (2 ^ w - y) % 2 ^ w) % 2 ^ w := by
  rw [Nat.add_mod_mod]
  congr 1
  omega
theorem twin_not {w x : Nat} (hx : x < 2 ^ w) : 2 ^ w - 1 - (2 ^ w - 1 - x) = x := by omega
theorem twin_neg {w x : Nat} (hx : x < 2 ^ w) : (2 ^ w - x) % 2 ^ w = (2 ^ w - 1 - x + (2 ^ w + 0 - (2 ^ w - 1)) % 2 ^ w) % 2 ^ w := by
  rw [Nat.add_mod_mod]
  congr 1
  omega
theorem twin_or {w x y : Nat} (hx : x < 2 ^ w) (hy : y < 2 ^ w) : x ||| y = 2 ^ w - 1 - ((2 ^ w - 1 - x) &&& (2 ^ w - 1 - y)) := by
  have h1 : (2 ^ w - 1 - x) &&& (2 ^ w - 1 - y) < 2 ^ w := Nat.and_lt_two_pow _ (by omega)
  refine Nat.eq_of_testBit_eq fun i => ?_
  rw [show 2 ^ w - 1 - ((2 ^ w - 1 - x) &&& (2 ^ w - 1 - y)) = 2 ^ w - (((2 ^ w - 1 - x) &&& (2 ^ w - 1 - y)) + 1) by omega, Nat.testBit_two_pow_sub_succ h1, Nat.testBit_or, Nat.testBit_and]
  rw [show 2 ^ w - 1 - x = 2 ^ w - (x + 1) by omega, Nat.testBit_two_pow_sub_succ hx, show 2 ^ w - 1 - y = 2 ^ w - (y + 1) by omega, Nat.testBit_two_pow_sub_succ hy]
  by_cases h : i < w
  · simp [h]
  · simp [h, tb_high hx h, tb_high hy h]
theorem or_sub_and (x y : Nat) : (x ||| y) - (x &&& y) = x ^^^ y ∧ (x &&& y) ≤ (x ||| y) := by
  have h := bitXor_and (x : Int) (y : Int)
  have h2 := bitOr_and (x : Int) (y : Int)
  rw [bxor_nat, band_nat] at h
  rw [bor_nat, band_nat] at h2
  omega
theorem twin_xor {w x y : Nat} (hx : x < 2 ^ w) (hy : y < 2 ^ w) : x ^^^ y = (2 ^ w + (x ||| y) - (x &&& y)) % 2 ^ w := by
  obtain ⟨h1, h2⟩ := or_sub_and x y
  have h3 := Nat.xor_lt_two_pow hx hy
  rw [show 2 ^ w + (x ||| y) - (x &&& y) = (x ^^^ y) + 2 ^ w by omega, Nat.add_mod_right, Nat.mod_eq_of_lt h3]
theorem par_bit (x i : Nat) : (par x (i + 1) ^^ par x i) = x.testBit i := by
  simp only [par]
  cases par x i <;> cases x.testBit i <;> rfl
theorem twin_pfx {w x : Nat} (hx : x < 2 ^ w) : pfx w x ^^^ (2 * pfx w x % 2 ^ w) = x := by
  refine Nat.eq_of_testBit_eq fun i => ?_
  rw [Nat.testBit_xor, Nat.testBit_mod_two_pow, pfx, ob_bit]
  by_cases h : i < w
  · simp only [h, decide_true, Bool.true_and]
    rw [← par_bit x i]
    cases i with
    | zero => simp [par]
    | succ i =>
      rw [show 2 * ob (fun i => par x (i + 1)) w = 2 ^ 1 * ob (fun i => par x (i + 1)) w + 0 by omega, Nat.testBit_two_pow_mul_add _ (by decide), if_neg (by omega), Nat.add_sub_cancel, ob_bit, decide_eq_true (show i < w by omega)]
      simp
  · simp [h, tb_high hx h]
theorem twin_msk (bits : List Nat) (h : 1 ≤ bits.length) (w : Nat) : msk bits w = msk (bits ++ bits) w := by
  refine ob_congr fun i _ => ?_
  have e : nth (bits ++ bits) (i % (bits ++ bits).length) = nth bits (i % bits.length) := by
    rw [List.length_append]
    have h1 : i % (bits.length + bits.length) < bits.length + bits.length := Nat.mod_lt _ (by omega)
    have h2 : i % (bits.length + bits.length) % bits.length = i % bits.length := by
      rw [show bits.length + bits.length = bits.length * 2 by omega, Nat.mod_mul_right_mod]
    by_cases h3 : i % (bits.length + bits.length) < bits.length
    · rw [Nat.mod_eq_of_lt h3] at h2
      rw [nth_lt (by rw [List.length_append]; omega), List.getElem_append_left h3, ← nth_lt h3, h2]
    · have h4 : i % bits.length = i % (bits.length + bits.length) - bits.length := by
        rw [← h2, Nat.mod_eq_sub_mod (by omega), Nat.mod_eq_of_lt (by omega)]
      rw [nth_lt (by rw [List.length_append]; omega), List.getElem_append_right (by omega), h4, nth_lt (by omega)]
  rw [e]
theorem twin_plus {w x y : Nat} (hx : x < 2 ^ w) (hy : y < 2 ^ w) : (2 ^ w + (x + y) % 2 ^ w - y) % 2 ^ w = x := by
  by_cases h : x + y < 2 ^ w
  · rw [Nat.mod_eq_of_lt h, show 2 ^ w + (x + y) - y = x + 2 ^ w by omega, Nat.add_mod_right, Nat.mod_eq_of_lt hx]
  · have e : (x + y) % 2 ^ w = x + y - 2 ^ w := by
      rw [Nat.mod_eq_sub_mod (show x + y ≥ 2 ^ w by omega), Nat.mod_eq_of_lt (by omega)]
    rw [e, show 2 ^ w + (x + y - 2 ^ w) - y = x by omega, Nat.mod_eq_of_lt hx]
def Ins.ops : Ins → List Nat
  | .k0 _ => []
  | .k1 _ a => [a]
  | .k2 _ a b => [a, b]
  | .mk _ => []
theorem ins_ops {x : Ins} (h : x.wd ≠ .mask) : insD x = .tuple (.str x.wd.nm :: x.ops.map I) := by
  cases x with
  | k0 b => cases b <;> rfl
  | k1 o a => rfl
  | k2 o a b => rfl
  | mk _ => exact absurd rfl h
theorem ops_lt {x : Ins} {n : Nat} (h : x.ok n) : ∀ a ∈ x.ops, a < n := by
  cases x with
  | k0 b => simp [Ins.ops]
  | k1 o a =>
    have h : a < n := h
    simpa [Ins.ops] using h
  | k2 o a b =>
    have h : a < n ∧ b < n := h
    simpa [Ins.ops] using h
  | mk _ => simp [Ins.ops]
theorem nm_mask {w : Wd} (h : w ≠ .mask) : w.nm ≠ "mask" := by
  cases w with
  | mask => exact absurd rfl h
  | zero => simp [Wd.nm, ofStr_inj]
  | ones => simp [Wd.nm, ofStr_inj]
  | o1 o => cases o <;> simp [Wd.nm, O1.nm, ofStr_inj]
  | o2 o => cases o <;> simp [Wd.nm, O2.nm, ofStr_inj]
theorem sh_wd (w : Wd) : Sh w.D 0 12 := by
  cases w with
  | o1 o => cases o <;> exact ⟨rfl, by decide +kernel, Nat.le_refl _, by decide +kernel⟩
  | o2 o => cases o <;> exact ⟨rfl, by decide +kernel, Nat.le_refl _, by decide +kernel⟩
  | _ => exact ⟨rfl, by decide +kernel, Nat.le_refl _, by decide +kernel⟩
theorem fl_wd (w : Wd) : Fl w.D 0 := by
  cases w with
  | o1 o => cases o <;> exact ⟨rfl, by decide +kernel, Nat.le_refl _⟩
  | o2 o => cases o <;> exact ⟨rfl, by decide +kernel, Nat.le_refl _⟩
  | _ => exact ⟨rfl, by decide +kernel, Nat.le_refl _⟩
theorem sh_ins {r : Ins} {n : Nat} (ok : r.ok n) (hn : n ≤ 100000) : Sh (insD r) 2 500 := by
  by_cases hm : r.wd = .mask
  · cases r with
    | mk bits =>
      obtain ⟨h1, h2, h3⟩ := ok
      refine (sh_tupN (L := 48 * (1 + 1 + 2) + 3) (k := 1) 2 (fun d hd => ?_) (by simp)).mono (Nat.le_refl _) (by decide)
      simp at hd
      rcases hd with rfl | rfl
      · exact (sh_wd .mask).mono (by decide) (by decide)
      · exact sh_strD 48 (K := 1) (fun x hx => by have := h3 x hx; omega) h2
    | k0 b => cases b <;> cases hm
    | k1 o a => cases hm
    | k2 o a b => cases hm
  · rw [ins_ops hm]
    have ho := ops_lt ok
    have hl : r.ops.length ≤ 2 := by cases r <;> simp [Ins.ops]
    refine (sh_tupN (L := 12) (k := 0) 3 (fun d hd => ?_) (by simp; exact hl)).mono (by decide) (by decide)
    rcases List.mem_cons.mp hd with rfl | hd
    · exact sh_wd r.wd
    · obtain ⟨a, ha, rfl⟩ := List.mem_map.mp hd
      exact (sh_nat (K := 6) (by have := ho a ha; omega)).mono (by decide) (by decide)
theorem sh_prog {m : Nat} {rows : List Ins} (ok : OkR m rows) (hm : m ≤ 2) (hl : rows.length ≤ 3000) : Sh (progD m rows) 4 3100000 := by
  refine (sh_tupN (L := 3000 * (500 + 2) + 3) (k := 3) 2 (fun d hd => ?_) (by simp)).mono (by decide) (by decide)
  simp at hd
  rcases hd with rfl | rfl
  · exact (sh_nat (K := 1) (by omega)).mono (by decide) (by decide)
  · refine sh_tupN (L := 500) (k := 2) 3000 (fun d hd => ?_) (by simpa using hl)
    obtain ⟨r, hr, rfl⟩ := List.mem_map.mp hd
    obtain ⟨k, hk⟩ := List.getElem?_of_mem hr
    have := lt_of_some hk
    exact sh_ins (ok.get hk) (by omega)
theorem cv_ins {r : Ins} : cv (P (insD r)) = P (insD r) := cv_pur (pur_ins r)
theorem cv_prog {m : Nat} {rows : List Ins} : cv (P (progD m rows)) = P (progD m rows) := cv_pur (pur_prog m rows)
theorem sld_ins {k : Kd} {r : Ins} {Q : R → Prop} : sld ⟨k, insD r⟩ Q = Q (P (insD r)) := sld_pur (pur_ins r)
theorem sld_prog {k : Kd} {m : Nat} {rows : List Ins} {Q : R → Prop} : sld ⟨k, progD m rows⟩ Q = Q (P (progD m rows)) := sld_pur (pur_prog m rows)
theorem prog1 (m : Nat) (r : Ins) : PyData.tuple [.int (m : Int), .tuple [insD r]] = progD m [r] := rfl
theorem vals1 {w m : Nat} {ws : List Nat} {r : Ins} (h : ws.length = m) : nth (vals w ws [r]) (m + 1 - 1) = r.val w ws := by
  subst h
  rw [show vals w ws [r] = ws ++ [r.val w ws] from rfl, nth_lt (by simp)]
  simp
theorem bag_apart {d : PyData} {W : List Wd} (h : Bag d) (h1 : 1 ≤ W.length) : apA d (.list (W.map Wd.D)) := by
  refine .inr ⟨_, rfl, ?_, ?_⟩
  · rw [List.all_eq_true]
    intro x hx
    obtain ⟨w, _, rfl⟩ := List.mem_map.mp hx
    rfl
  · obtain ⟨g, s, t, rfl, _⟩ := h
    have no : ∀ g : List Int, subss (g.map PyData.int) = [] := fun g => by induction g <;> simp_all [subss, subs]
    intro hm
    simp only [bd', bd, subs, subsv, no, List.mem_cons, List.append_nil, List.not_mem_nil, or_false, reduceCtorEq, false_or, PyData.list.injEq] at hm
    cases W with
    | nil => cases h1
    | cons w W =>
      cases g with
      | nil => cases hm
      | cons i g => simp [Wd.D] at hm
theorem apA_int {d : PyData} {i : Int} : apA d (.int i) := .inl rfl
theorem vdrop_len {w m : Nat} {ws : List Nat} {rows : List Ins} (h : ws.length = m) : ((vals w ws rows).drop m).length = rows.length := by
  rw [List.length_drop, vals_len]; omega
theorem vlast {w m : Nat} {ws : List Nat} {rows : List Ins} (h : ws.length = m) (h1 : 1 ≤ rows.length) : nth ((vals w ws rows).drop m) (((vals w ws rows).drop m).length - 1) = nth (vals w ws rows) (m + rows.length - 1) := by
  rw [vdrop_len h]
  have h7 : (vals w ws rows).length = m + rows.length := by rw [vals_len, h]
  have h8 : ((vals w ws rows).drop m).length = rows.length := vdrop_len h
  rw [nth_lt (by omega), nth_lt (by omega), List.getElem_drop]
  congr 1
  omega
end Law
namespace Law
open PySem PySem.Spec PyProof.Rows L2 DL
theorem wIx_prog0 {k k' : Kd} {m : Nat} {rows : List Ins} {Q : R → Prop} : wIx ⟨k, progD m rows⟩ ⟨k', .int 0⟩ Q = Q (P (.int (m : Nat))) := wIx_t0
theorem ob_or (f : Nat → Bool) (k : Nat) : ob f k ||| ((f k).toNat <<< k) = ob f (k + 1) := by
  apply Nat.eq_of_testBit_eq
  intro i
  rw [Nat.testBit_or, ob_bit, ob_bit, Nat.testBit_shiftLeft]
  rcases Nat.lt_trichotomy i k with h | h | h
  · have h2 : ¬ k ≤ i := by omega
    have h3 : i < k + 1 := by omega
    simp [h, h2, h3]
  · subst h
    simp
    cases f i <;> rfl
  · have h2 : ¬ i < k := by omega
    have h3 : ¬ i < k + 1 := by omega
    obtain ⟨e, he⟩ : ∃ e, i - k = e + 1 := ⟨i - k - 1, by omega⟩
    simp [h2, h3, he]
    intro _
    cases f k <;> simp [Nat.testBit_succ]
theorem par_step (x k : Nat) : (par x k).toNat ^^^ (x / 2 ^ k % 2) = (par x (k + 1)).toNat := by
  rw [← Nat.toNat_testBit]
  show _ = (par x k ^^ x.testBit k).toNat
  cases par x k <;> cases x.testBit k <;> rfl
theorem msk_sum (bits : List Nat) (hb : ∀ x ∈ bits, x < 2) (h1 : 1 ≤ bits.length) (w : Nat) : ((List.range w).map fun i => nth bits (i % bits.length) * 2 ^ i).sum = msk bits w := by
  induction w with
  | zero => rfl
  | succ w ih =>
    rw [List.range_succ, List.map_append, List.sum_append, ih]
    have hn : nth bits (w % bits.length) < 2 := hb _ (nth_mem (Nat.mod_lt _ (by omega)))
    show msk bits w + _ = ob _ w + _ * 2 ^ w
    have e : nth bits (w % bits.length) = (nth bits (w % bits.length) == 1).toNat := by
      have : nth bits (w % bits.length) = 0 ∨ nth bits (w % bits.length) = 1 := by omega
      rcases this with h | h <;> rw [h] <;> rfl
    simp only [List.map_cons, List.map_nil, List.sum_cons, List.sum_nil, Nat.add_zero]
    rw [← e]
    rfl
def kindsW : List Wd := plainW ++ [.o1 .twice, .o1 .minus, .o2 .plus, .o2 .less, .o1 .pre, .mask]
def isI : PyData → Option Int
  | .int i => some i
  | _ => none
/-- which one is no word of the width -/
def Elem (d : PyData) : Prop := Sk d 1 40 ∧ ∀ es, d = .tuple es → es.length < 2
def oddL : List PyData := [.none, .bool true, .bool false, .int (-1), .int 0, .int 1, .int 2, .int 3, .int 9, .int 256, .int 1000000000000000000000000000000, .str "1", .tuple [.int 1], .list [.int 1], .dict [(.str "many", .int 1)]]
theorem elem_int {i : Int} (h : i.natAbs < 10 ^ 31) : Elem (.int i) := ⟨(sh_int 31 (by decide) h (by decide)).sk.mono (by decide) (by decide), fun _ z => nomatch z⟩
theorem odd_elem : ∀ x ∈ oddL, Elem x := by
  intro x hx
  simp only [oddL, List.mem_cons, List.not_mem_nil, or_false] at hx
  rcases hx with rfl | rfl | rfl | rfl | rfl | rfl | rfl | rfl | rfl | rfl | rfl | rfl | rfl | rfl | rfl
  · exact ⟨sh_none.sk.mono (by decide) (by decide), fun _ z => nomatch z⟩
  · exact ⟨sh_bool.sk.mono (by decide) (by decide), fun _ z => nomatch z⟩
  · exact ⟨sh_bool.sk.mono (by decide) (by decide), fun _ z => nomatch z⟩
  · exact elem_int (by decide)
  · exact elem_int (by decide)
  · exact elem_int (by decide)
  · exact elem_int (by decide)
  · exact elem_int (by decide)
  · exact elem_int (by decide)
  · exact elem_int (by decide)
  · exact elem_int (by decide)
  · exact ⟨⟨rfl, rfl, by decide, by decide +kernel⟩, fun _ z => nomatch z⟩
  · exact ⟨⟨rfl, by decide +kernel, by decide, by decide +kernel⟩, fun _ z => by cases z; decide⟩
  · exact ⟨⟨rfl, by decide +kernel, by decide, by decide +kernel⟩, fun _ z => nomatch z⟩
  · exact ⟨⟨by decide +kernel, by decide +kernel, by decide, by decide +kernel⟩, fun _ z => nomatch z⟩
theorem cvP {d : PyData} (h : pur d = true) : cv (P d) = P d := cv_pur h
def okW (m : Nat) (d : PyData) : Bool := match isI d with | some i => decide (1 ≤ i ∧ (m : Int) * i ≤ 8) | none => false
def wop (m w p : Nat) : List Nat := (List.range m).map fun j => p / 2 ^ (w * j) % 2 ^ w
def ansOf (m w : Nat) (rows : List Ins) : List Nat := (List.range (2 ^ (m * w))).map fun p => nth (vals w (wop m w p) rows) (m + rows.length - 1)
def tabD (m w : Nat) (rows : List Ins) : PyData := .tuple [I m, I w, strD (ansOf m w rows)]
structure OkP (m : Nat) (rows : List Ins) : Prop where
  hm : m ≤ 2
  ok : OkR m rows
  n1 : 1 ≤ rows.length
  n2 : rows.length ≤ 1000
  mb : ∀ b, Ins.mk b ∈ rows → b.length ≤ 24
def GoodW (m : Nat) (d : PyData) (w : Nat) : Prop := d = .int (w : Nat) ∧ 1 ≤ m ∧ 1 ≤ w ∧ m * w ≤ 8
def BadW (m : Nat) (d : PyData) : Prop := m = 0 ∨ okW m d = false
theorem okW_good {m : Nat} {d : PyData} (hm : 1 ≤ m) (h : okW m d = true) : ∃ w, GoodW m d w := by
  unfold okW at h
  cases d with
  | int i =>
    simp only [isI] at h
    have h := of_decide_eq_true h
    refine ⟨i.toNat, by rw [Int.toNat_of_nonneg (by omega)], hm, by omega, ?_⟩
    have e : ((m * i.toNat : Nat) : Int) = (m : Int) * i := by rw [Int.natCast_mul, Int.toNat_of_nonneg (by omega)]
    omega
  | _ => simp [isI] at h
theorem wop_len (m w p : Nat) : (wop m w p).length = m := by simp [wop]
theorem wop_lt {m w p x : Nat} (h : x ∈ wop m w p) : x < 2 ^ w := by
  obtain ⟨j, _, rfl⟩ := List.mem_map.mp h
  exact Nat.mod_lt _ (Nat.two_pow_pos w)
theorem GoodW.wle {m w : Nat} {d : PyData} (h : GoodW m d w) : w ≤ 8 := by
  obtain ⟨_, h1, _, h3⟩ := h
  have : 1 * w ≤ m * w := Nat.mul_le_mul_right _ h1
  omega
theorem GoodW.uniq {m w w' : Nat} {d : PyData} (h : GoodW m d w) (h' : GoodW m d w') : w = w' := by
  have := h.1.symm.trans h'.1
  injection this with e
  omega
theorem GoodW.ok {m w : Nat} {d : PyData} (h : GoodW m d w) : m ≠ 0 ∧ okW m d = true := by
  obtain ⟨rfl, h1, h2, h3⟩ := h
  refine ⟨by omega, ?_⟩
  unfold okW
  simp only [isI]
  refine decide_eq_true ⟨by omega, ?_⟩
  have : ((m * w : Nat) : Int) ≤ 8 := by omega
  simpa using this
theorem good_bad {m w : Nat} {d : PyData} (h : GoodW m d w) (b : BadW m d) : False := by
  obtain ⟨h1, h2⟩ := h.ok
  rcases b with b | b
  · exact h1 b
  · rw [b] at h2; cases h2
theorem wop1 {w p : Nat} (h : p < 2 ^ (1 * w)) : wop 1 w p = [p] := by
  rw [Nat.one_mul] at h
  simp [wop, List.range_succ, Nat.mod_eq_of_lt h]
theorem wop2 {w p : Nat} (h : p < 2 ^ (2 * w)) : wop 2 w p = [p % 2 ^ w, p / 2 ^ w] := by
  have h2 : p / 2 ^ w < 2 ^ w := by
    rw [Nat.div_lt_iff_lt_mul (Nat.two_pow_pos w), ← Nat.pow_add]
    rwa [show w + w = 2 * w by omega]
  simp [wop, List.range_succ, Nat.mod_eq_of_lt h2]
def ct__law_bag : Ct := ⟨List Int, fun ns => [P (.list (ns.map PyData.int))], fun ns => ns.length ≤ 63, fun _ _ r => r.k = .own ∧ Bag2 0 r.d⟩
def ct__law_draw : Ct := ⟨PyData × Int × Nat, fun a => [⟨.fix, a.1⟩, P (.int a.2.1)], fun a => Bag2 a.2.2 a.1 ∧ 1 ≤ a.2.1 ∧ a.2.1 < 2 ^ 30 ∧ a.2.2 < 2 ^ 60, fun a ρ r => ∃ d, ρ[0]? = some (some ⟨.fix, d⟩) ∧ Bag2 (a.2.2 + 1) d ∧ ∃ n : Nat, r = P (I n) ∧ (1 ≤ a.2.1 → (n : Int) < a.2.1)⟩
def ct__law_pick : Ct := ⟨PyData × List PyData × Nat, fun a => [⟨.fix, a.1⟩, P (.list a.2.1)], fun a => Bag2 a.2.2 a.1 ∧ 1 ≤ a.2.1.length ∧ a.2.1.length < 2 ^ 30 ∧ a.2.2 < 2 ^ 60, fun a ρ r => ∃ d, ρ[0]? = some (some ⟨.fix, d⟩) ∧ Bag2 (a.2.2 + 1) d ∧ ∃ x ∈ a.2.1, r = P x⟩
def ct__law_row : Ct := ⟨PyData × List Wd × Nat × Nat, fun a => [⟨.fix, a.1⟩, P (.list (a.2.1.map Wd.D)), P (I a.2.2.1)], fun a => Bag2 a.2.2.2 a.1 ∧ 1 ≤ a.2.1.length ∧ a.2.1.length ≤ 20 ∧ a.2.2.1 ≤ 100000 ∧ a.2.2.2 < 2 ^ 50, fun a ρ r => ∃ d, ρ[0]? = some (some ⟨.fix, d⟩) ∧ Bag2 (a.2.2.2 + 10) d ∧ ∃ x : Ins, x.ok a.2.2.1 ∧ (∀ b, x = .mk b → b.length ≤ 24) ∧ r = P (insD x)⟩
def ct__law_program : Ct := ⟨PyData × (Nat × Nat) × List Wd × Nat, fun a => [⟨.fix, a.1⟩, P (I a.2.1.1), P (I a.2.1.2), P (.list (a.2.2.1.map Wd.D))], fun a => Bag2 a.2.2.2 a.1 ∧ a.2.1.1 ≤ 1000 ∧ a.2.1.2 ≤ 1000 ∧ 1 ≤ a.2.2.1.length ∧ a.2.2.1.length ≤ 20 ∧ a.2.2.2 < 2 ^ 40, fun a ρ r => ∃ d, ρ[0]? = some (some ⟨.fix, d⟩) ∧ Bag2 (a.2.2.2 + 10 * a.2.1.2) d ∧ ∃ rows : List Ins, OkR a.2.1.1 rows ∧ rows.length = a.2.1.2 ∧ (∀ b, Ins.mk b ∈ rows → b.length ≤ 24) ∧ r = P (progD a.2.1.1 rows)⟩
def ct__law_is_whole : Ct := ⟨PyData, fun a => [P a], fun _ => True, fun a _ r => r = P (.bool (isI a).isSome)⟩
def ct__law_pair_value : Ct := ⟨O2 × Nat × Nat × Nat, fun a => [P (.str a.1.nm), P (I a.2.1), P (I a.2.2.1), P (.int (2 ^ a.2.2.2 - 1))], fun a => a.2.1 < 2 ^ a.2.2.2 ∧ a.2.2.1 < 2 ^ a.2.2.2 ∧ a.2.2.2 ≤ 256, fun a _ r => r = P (I (val2 a.2.2.2 a.1 a.2.1 a.2.2.1))⟩
def ct__law_value : Ct := ⟨Ins × List Nat × Nat, fun a => [P (insD a.1), P (.list (a.2.1.map I)), P (I a.2.2)], fun a => a.1.ok a.2.1.length ∧ (∀ x ∈ a.2.1, x < 2 ^ a.2.2) ∧ a.2.2 ≤ 256, fun a _ r => r = P (I (a.1.val a.2.2 a.2.1))⟩
def ct__law_run : Ct := ⟨Nat × List Ins × Nat × List Nat, fun a => [P (progD a.1 a.2.1), P (I a.2.2.1), P (strD a.2.2.2)], fun a => a.2.2.2.length = a.1 ∧ a.1 ≤ 2 ∧ OkR a.1 a.2.1 ∧ 1 ≤ a.2.1.length ∧ a.2.1.length ≤ 10000 ∧ (∀ x ∈ a.2.2.2, x < 2 ^ a.2.2.1) ∧ a.2.2.1 ≤ 256, fun a _ r => r = P (I (nth (vals a.2.2.1 a.2.2.2 a.2.1) (a.1 + a.2.1.length - 1)))⟩
def ct__law_due : Ct := ⟨(Nat × List Ins) × PyData, fun a => [P (progD a.1.1 a.1.2), P a.2], fun a => OkP a.1.1 a.1.2, fun a _ r => (∃ w, GoodW a.1.1 a.2 w ∧ r = ⟨.own, .list [.str "told", tabD a.1.1 w a.1.2]⟩) ∨ BadW a.1.1 a.2 ∧ r = ⟨.own, .list [.str "unfit", .bool true]⟩⟩
def ct_is_integer : Ct := ⟨PyData, fun a => [P a], fun _ => True, fun a _ r => r = P (.bool (isI a).isSome)⟩
def ct_is_width : Ct := ⟨Nat × PyData, fun a => [P (I a.1), P a.2], fun a => a.1 = 1 ∨ a.1 = 2, fun a _ r => r = P (.bool (okW a.1 a.2))⟩
def ct_value_of_two : Ct := ⟨O2 × Nat × Nat × Nat, fun a => [P (.str a.1.nm), P (I a.2.1), P (I a.2.2.1), P (I a.2.2.2)], fun a => a.2.1 < 2 ^ a.2.2.2 ∧ a.2.2.1 < 2 ^ a.2.2.2 ∧ a.2.2.2 ≤ 256, fun a _ r => r = P (I (val2 a.2.2.2 a.1 a.2.1 a.2.2.1))⟩
def ct_mask_word : Ct := ⟨List Nat × Nat, fun a => [P (strD a.1), P (I a.2)], fun a => 1 ≤ a.1.length ∧ a.1.length ≤ 48 ∧ (∀ x ∈ a.1, x < 2) ∧ a.2 ≤ 256, fun a _ r => r = P (I (msk a.1 a.2))⟩
def ct_prefix_word : Ct := ⟨Nat × Nat, fun a => [P (I a.1), P (I a.2)], fun a => a.1 < 2 ^ a.2 ∧ a.2 ≤ 256, fun a _ r => r = P (I (pfx a.2 a.1))⟩
def ct_value_of_one : Ct := ⟨O1 × Nat × Nat, fun a => [P (.str a.1.nm), P (I a.2.1), P (I a.2.2)], fun a => a.2.1 < 2 ^ a.2.2 ∧ a.2.2 ≤ 256, fun a _ r => r = P (I (val1 a.2.2 a.1 a.2.1))⟩
def ct_value_of : Ct := ⟨Ins × List Nat × Nat, fun a => [P (insD a.1), P (.list (a.2.1.map I)), P (I a.2.2)], fun a => a.1.ok a.2.1.length ∧ (∀ x ∈ a.2.1, x < 2 ^ a.2.2) ∧ a.2.2 ≤ 256, fun a _ r => r = P (I (a.1.val a.2.2 a.2.1))⟩
def ct_values : Ct := ⟨Nat × List Ins × Nat × List Nat, fun a => [P (progD a.1 a.2.1), P (I a.2.2.1), P (strD a.2.2.2)], fun a => a.2.2.2.length = a.1 ∧ a.1 ≤ 2 ∧ OkR a.1 a.2.1 ∧ a.2.1.length ≤ 10000 ∧ (∀ x ∈ a.2.2.2, x < 2 ^ a.2.2.1) ∧ a.2.2.1 ≤ 256, fun a _ r => r = P (strD ((vals a.2.2.1 a.2.2.2 a.2.1).drop a.1))⟩
def ct_result : Ct := ⟨Nat × List Ins × Nat × List Nat, fun a => [P (progD a.1 a.2.1), P (I a.2.2.1), P (strD a.2.2.2)], fun a => a.2.2.2.length = a.1 ∧ a.1 ≤ 2 ∧ OkR a.1 a.2.1 ∧ 1 ≤ a.2.1.length ∧ a.2.1.length ≤ 10000 ∧ (∀ x ∈ a.2.2.2, x < 2 ^ a.2.2.1) ∧ a.2.2.1 ≤ 256, fun a _ r => r = P (I (nth (vals a.2.2.1 a.2.2.2 a.2.1) (a.1 + a.2.1.length - 1)))⟩
def ct_words_of_place : Ct := ⟨Nat × Nat × Nat, fun a => [P (I a.1), P (I a.2.1), P (I a.2.2)], fun a => a.1 ≤ 2 ∧ a.2.1 ≤ 8, fun a _ r => r = P (strD (wop a.1 a.2.1 a.2.2))⟩
def ct_table_of : DL.Ctx := ⟨(Nat × List Ins) × PyData, fun a => [P (progD a.1.1 a.1.2), P a.2], fun a => OkP a.1.1 a.1.2, fun a _ r => ∃ w, GoodW a.1.1 a.2 w ∧ r = P (tabD a.1.1 w a.1.2), fun a _ x => BadW a.1.1 a.2 ∧ x = ⟨.unfit, .none⟩⟩
def ct__law_told : Ct := ⟨((Nat × List Ins) × PyData) × Bool, fun a => [P (progD a.1.1.1 a.1.1.2), P a.1.2, P (.bool a.2)], fun a => OkP a.1.1.1 a.1.1.2, fun a _ r => (∃ w, GoodW a.1.1.1 a.1.2 w ∧ r = ⟨.own, .list [.str "told", tabD a.1.1.1 w a.1.1.2]⟩) ∨ BadW a.1.1.1 a.1.2 ∧ r = ⟨.own, .list [.str "unfit", .bool true]⟩⟩
def ct__law_is_right : Ct := ⟨(Nat × List Ins) × PyData, fun a => [P (progD a.1.1 a.1.2), P a.2], fun a => OkP a.1.1 a.1.2 ∧ Elem a.2, fun a _ r => r = P (.bool true)⟩
def ct__law_kinds : Ct := ⟨Unit, fun _ => [], fun _ => True, fun _ _ r => r = ⟨.own, .list (kindsW.map Wd.D)⟩⟩
def ct__law_odd : Ct := ⟨PyData × Nat, fun a => [⟨.fix, a.1⟩], fun a => Bag2 a.2 a.1 ∧ a.2 < 2 ^ 60, fun a ρ r => ∃ d, ρ[0]? = some (some ⟨.fix, d⟩) ∧ Bag2 (a.2 + 1) d ∧ ∃ x, Elem x ∧ r = P x⟩
def ct_law : Ct := ctLaw 63
theorem sd_draw {d : PyData} {b : Nat} {m : Int} {Q : DEnv → R → Prop} (ht : Bag2 b d) (h1 : 1 ≤ m := by omega) (h2 : m < 2 ^ 30 := by omega) (hb : b < 2 ^ 60 := by omega) (k : ∀ ρ d' (n : Nat), ρ[0]? = some (some ⟨.fix, d'⟩) → Bag2 (b + 1) d' → (n : Int) < m → Q ρ (P (.int (n : Int)))) :
    ct__law_draw.sd [⟨.fix, d⟩, P (.int m)] Q := by
  refine Ct.sd_mk (c := ct__law_draw) (d, m, b) rfl ⟨ht, h1, h2, hb⟩ ?_
  rintro ρ r ⟨d', e, ht', n, rfl, hn⟩
  exact k ρ d' n e ht' (hn h1)
theorem sd_drawN {d : PyData} {b m : Nat} {Q : DEnv → R → Prop} (ht : Bag2 b d) (h1 : 1 ≤ m := by omega) (h2 : m < 2 ^ 30 := by omega) (hb : b < 2 ^ 60 := by omega) (k : ∀ ρ d' (n : Nat), ρ[0]? = some (some ⟨.fix, d'⟩) → Bag2 (b + 1) d' → n < m → Q ρ (P (.int (n : Int)))) :
    ct__law_draw.sd [⟨.fix, d⟩, P (.int (m : Int))] Q := sd_draw ht (by omega) (by omega) hb fun ρ d' n e t hn => k ρ d' n e t (by omega)
theorem sd_pickA {d : PyData} {b : Nat} {xs : List PyData} {Q : DEnv → R → Prop} (ht : Bag2 b d) (h1 : 1 ≤ xs.length := by simp) (h2 : xs.length < 2 ^ 30 := by simp) (hb : b < 2 ^ 60 := by omega) (k : ∀ ρ d' x, ρ[0]? = some (some ⟨.fix, d'⟩) → Bag2 (b + 1) d' → x ∈ xs → Q ρ (P x)) :
    ct__law_pick.sd [⟨.fix, d⟩, P (.list xs)] Q := by
  refine Ct.sd_mk (c := ct__law_pick) (d, xs, b) rfl ⟨ht, h1, h2, hb⟩ ?_
  rintro ρ r ⟨d', e, ht', x, hx, rfl⟩
  exact k ρ d' x e ht' hx
theorem sd_pickN {d : PyData} {b : Nat} {xs : List PyData} {Q : DEnv → R → Prop} (ns : List Nat) (ht : Bag2 b d) (k : ∀ ρ d' (n : Nat), ρ[0]? = some (some ⟨.fix, d'⟩) → Bag2 (b + 1) d' → n ∈ ns → Q ρ (P (.int (n : Int)))) (hx : xs = ns.map I := by rfl) (h1 : 1 ≤ ns.length := by decide) (h2 : ns.length < 2 ^ 30 := by decide) (hb : b < 2 ^ 60 := by omega) :
    ct__law_pick.sd [⟨.fix, d⟩, P (.list xs)] Q := by
  subst hx
  refine sd_pickA ht (by simpa using h1) (by simpa using h2) hb fun ρ d' x e t' hx => ?_
  obtain ⟨n, hn, rfl⟩ := List.mem_map.mp hx
  exact k ρ d' n e t' hn
theorem sd_row {d : PyData} {ws : List Wd} {b g : Nat} {Q : DEnv → R → Prop} (ht : Bag2 b d) (h1 : 1 ≤ ws.length) (h2 : ws.length ≤ 20) (hg : g ≤ 100000) (hb : b < 2 ^ 50) (k : ∀ ρ d' x, ρ[0]? = some (some ⟨.fix, d'⟩) → Bag2 (b + 10) d' → x.ok g → (∀ b, x = Ins.mk b → b.length ≤ 24) → Q ρ (P (insD x))) : ct__law_row.sd [⟨.fix, d⟩, P (.list (ws.map Wd.D)), P (.int (g : Nat))] Q :=
  Ct.sd_mk (c := ct__law_row) (d, ws, g, b) rfl ⟨ht, h1, h2, hg, hb⟩ (by rintro ρ r ⟨d', e, t, x, hx, hm, rfl⟩; exact k ρ d' x e t hx hm)
theorem sd_program {d : PyData} {ws : List Wd} {b m n : Nat} {Q : DEnv → R → Prop} (ht : Bag2 b d) (hm : m ≤ 1000) (hn : n ≤ 1000) (h1 : 1 ≤ ws.length) (h2 : ws.length ≤ 20) (hb : b < 2 ^ 40) (k : ∀ ρ d' rows, ρ[0]? = some (some ⟨.fix, d'⟩) → Bag2 (b + 10 * n) d' → OkR m rows → rows.length = n → (∀ b, Ins.mk b ∈ rows → b.length ≤ 24) → Q ρ (P (progD m rows))) : ct__law_program.sd [⟨.fix, d⟩, P (.int (m : Nat)), P (.int (n : Nat)), P (.list (ws.map Wd.D))] Q :=
  Ct.sd_mk (c := ct__law_program) (d, (m, n), ws, b) rfl ⟨ht, hm, hn, h1, h2, hb⟩ (by rintro ρ r ⟨d', e, t, rows, ok, hl, hm, rfl⟩; exact k ρ d' rows e t ok hl hm)
theorem sd_run {m w : Nat} {rows : List Ins} {ws : List Nat} {Q : DEnv → R → Prop} (hl : ws.length = m) (hm : m ≤ 2) (ok : OkR m rows) (h1 : 1 ≤ rows.length) (hr : rows.length ≤ 10000) (hw : ∀ x ∈ ws, x < 2 ^ w) (hw2 : w ≤ 256) (k : ∀ ρ, Q ρ (P (.int ((nth (vals w ws rows) (m + rows.length - 1) : Nat) : Int)))) : ct__law_run.sd [P (progD m rows), P (.int (w : Nat)), P (strD ws)] Q :=
  Ct.sd_mk (c := ct__law_run) (m, rows, w, ws) rfl ⟨hl, hm, ok, h1, hr, hw, hw2⟩ (by rintro ρ r rfl; exact k ρ)
theorem sd_due {m : Nat} {rows : List Ins} {d : PyData} {Q : DEnv → R → Prop} (o : OkP m rows) (k1 : ∀ ρ w, GoodW m d w → Q ρ ⟨.own, .list [.str "told", tabD m w rows]⟩) (k2 : ∀ ρ, BadW m d → Q ρ ⟨.own, .list [.str "unfit", .bool true]⟩) : ct__law_due.sd [P (progD m rows), P d] Q :=
  Ct.sd_mk (c := ct__law_due) ((m, rows), d) rfl o (by
    rintro ρ r (⟨w, g, rfl⟩ | ⟨hb, rfl⟩)
    · exact k1 ρ w g
    · exact k2 ρ hb)
theorem sd_is_width {m : Nat} {d : PyData} {Q : DEnv → R → Prop} (h : m = 1 ∨ m = 2) (k : ∀ ρ, Q ρ (P (.bool (okW m d)))) : ct_is_width.sd [P (.int (m : Nat)), P d] Q :=
  Ct.sd_mk (c := ct_is_width) (m, d) rfl h (by rintro ρ r rfl; exact k ρ)
theorem sd_values {m w : Nat} {rows : List Ins} {ws : List Nat} {Q : DEnv → R → Prop} (hl : ws.length = m) (hm : m ≤ 2) (ok : OkR m rows) (hr : rows.length ≤ 10000) (hw : ∀ x ∈ ws, x < 2 ^ w) (hw2 : w ≤ 256) (k : ∀ ρ, Q ρ (P (strD ((vals w ws rows).drop m)))) :
    ct_values.sd [P (progD m rows), P (.int (w : Int)), P (strD ws)] Q := by
  refine Ct.sd_mk (c := ct_values) (m, rows, w, ws) rfl ⟨hl, hm, ok, hr, hw, hw2⟩ ?_
  rintro ρ r rfl
  exact k ρ
theorem sd_result {m w : Nat} {rows : List Ins} {ws : List Nat} {Q : DEnv → R → Prop} (hl : ws.length = m) (hm : m ≤ 2) (ok : OkR m rows) (h1 : 1 ≤ rows.length) (hr : rows.length ≤ 10000) (hw : ∀ x ∈ ws, x < 2 ^ w) (hw2 : w ≤ 256) (k : ∀ ρ, Q ρ (P (.int ((nth (vals w ws rows) (m + rows.length - 1) : Nat) : Int)))) :
    ct_result.sd [P (progD m rows), P (.int (w : Int)), P (strD ws)] Q := by
  refine Ct.sd_mk (c := ct_result) (m, rows, w, ws) rfl ⟨hl, hm, ok, h1, hr, hw, hw2⟩ ?_
  rintro ρ r rfl
  exact k ρ
theorem sd_wop {m w p : Nat} {Q : DEnv → R → Prop} (h1 : m ≤ 2) (h2 : w ≤ 8) (k : ∀ ρ, Q ρ (P (strD (wop m w p)))) : ct_words_of_place.sd [P (.int (m : Nat)), P (.int (w : Nat)), P (.int (p : Nat))] Q :=
  Ct.sd_mk (c := ct_words_of_place) (m, w, p) rfl ⟨h1, h2⟩ (by rintro ρ r rfl; exact k ρ)
theorem pur_tab (m w : Nat) (rows : List Ins) : pur (tabD m w rows) = true := by simp [tabD, pur, purs, pur_str, I]
theorem cv_tab {k : Kd} {m w : Nat} {rows : List Ins} : cv ⟨k, tabD m w rows⟩ = P (tabD m w rows) := cv_pur (pur_tab m w rows)
theorem sx_table {m : Nat} {rows : List Ins} {d : PyData} {Q : DEnv → R → Prop} {W : XD → Prop} (o : OkP m rows) (k : ∀ ρ w, GoodW m d w → Q ρ (P (tabD m w rows))) (w : BadW m d → W ⟨.unfit, .none⟩) : ct_table_of.sd [P (progD m rows), P d] Q W :=
  ⟨((m, rows), d), rfl, o, (by rintro ρ r ⟨w, h, rfl⟩; exact k ρ w h), (by rintro ρ x ⟨h, rfl⟩; exact w h)⟩
theorem sd_told {m : Nat} {rows : List Ins} {d : PyData} {b : Bool} {Q : DEnv → R → Prop} (o : OkP m rows) (k1 : ∀ ρ w, GoodW m d w → Q ρ ⟨.own, .list [.str "told", tabD m w rows]⟩) (k2 : ∀ ρ, BadW m d → Q ρ ⟨.own, .list [.str "unfit", .bool true]⟩) : ct__law_told.sd [P (progD m rows), P d, P (.bool b)] Q :=
  Ct.sd_mk (c := ct__law_told) (((m, rows), d), b) rfl o (by
    rintro ρ r (⟨w, g, rfl⟩ | ⟨hb, rfl⟩)
    · exact k1 ρ w g
    · exact k2 ρ hb)
/-- what is due, as a list -/
def DueV (m : Nat) (rows : List Ins) (d : PyData) (xs : List PyData) : Prop := (∃ w, GoodW m d w ∧ xs = [.str "told", tabD m w rows]) ∨ BadW m d ∧ xs = [.str "unfit", .bool true]
theorem DueV.uniq {m : Nat} {rows : List Ins} {d : PyData} {xs ys : List PyData} (h : DueV m rows d xs) (k : DueV m rows d ys) : xs = ys := by
  rcases h with ⟨w, g, rfl⟩ | ⟨b, rfl⟩ <;> rcases k with ⟨w', g', rfl⟩ | ⟨b', rfl⟩
  · rw [g.uniq g']
  · exact (good_bad g b').elim
  · exact (good_bad g' b).elim
  · rfl
theorem DueV.purs {m : Nat} {rows : List Ins} {d : PyData} {xs : List PyData} (h : DueV m rows d xs) : purs xs = true := by
  rcases h with ⟨w, g, rfl⟩ | ⟨b, rfl⟩
  · simp [DL.purs, pur, pur_tab]
  · rfl
theorem sh_wordT {x : Str} (h : (PyData.str x).showable = true := by decide +kernel) (h2 : (PyData.str x).shown.length ≤ 20 := by decide +kernel) : Sh (.str x) 0 20 := ⟨rfl, h, Nat.le_refl _, h2⟩
theorem sh_tab {m w : Nat} {rows : List Ins} {d : PyData} (o : OkP m rows) (g : GoodW m d w) : Sh (tabD m w rows) 2 4626 := by
  have hw8 := g.wle
  have hm := o.hm
  have hmw := g.2.2.2
  have p8 : (2 : Nat) ^ (m * w) ≤ 2 ^ 8 := Nat.pow_le_pow_right (by decide) hmw
  have pw : (2 : Nat) ^ w ≤ 2 ^ 8 := Nat.pow_le_pow_right (by decide) hw8
  refine sh_tupN (L := 1539) 3 (fun e he => ?_) (by simp)
  simp [I] at he
  rcases he with rfl | rfl | rfl
  · exact (sh_nat (K := 3) (by omega)).mono (by decide) (by decide)
  · exact (sh_nat (K := 3) (by omega)).mono (by decide) (by decide)
  · refine sh_strD (K := 3) 256 (fun x hx => ?_) (by unfold ansOf; rw [List.length_map, List.length_range]; exact p8)
    obtain ⟨p, _, rfl⟩ := List.mem_map.mp hx
    have hl : (vals w (wop m w p) rows).length = m + rows.length := by rw [vals_len, wop_len]
    have n1 := o.n1
    have := vals_lt (w := w) (kn := wop m w p) (rs := rows) (by rw [wop_len]; exact o.ok) (fun x hx => wop_lt hx) _ (nth_mem (n := m + rows.length - 1) (by omega))
    omega
theorem DueV.sh {m : Nat} {rows : List Ins} {d : PyData} {xs : List PyData} (o : OkP m rows) (h : DueV m rows d xs) : Sh (.list xs) 3 9259 := by
  rcases h with ⟨w, g, rfl⟩ | ⟨b, rfl⟩
  · refine sh_lstN (L := 4626) 2 (fun e he => ?_) (by simp)
    simp at he
    rcases he with rfl | rfl
    · exact Sh.mono (sh_wordT (x := "told")) (by decide) (by decide)
    · exact sh_tab o g
  · refine sh_lstN (L := 4626) 2 (k := 2) (fun e he => ?_) (by simp)
    simp at he
    rcases he with rfl | rfl
    · exact Sh.mono (sh_wordT (x := "unfit")) (by decide) (by decide)
    · exact Sh.mono sh_bool (by decide) (by decide)
theorem sd_dueV {m : Nat} {rows : List Ins} {d : PyData} {Q : DEnv → R → Prop} (o : OkP m rows) (k : ∀ ρ xs, DueV m rows d xs → Q ρ ⟨.own, .list xs⟩) : ct__law_due.sd [P (progD m rows), P d] Q := sd_due o (fun ρ w g => k ρ _ (.inl ⟨w, g, rfl⟩)) fun ρ b => k ρ _ (.inr ⟨b, rfl⟩)
theorem sd_toldV {m : Nat} {rows : List Ins} {d : PyData} {b : Bool} {xs : List PyData} {Q : DEnv → R → Prop} (o : OkP m rows) (h : DueV m rows d xs) (k : ∀ ρ, Q ρ ⟨.own, .list xs⟩) : ct__law_told.sd [P (progD m rows), P d, P (.bool b)] Q :=
  sd_told o (fun ρ w g => by rw [h.uniq (.inl ⟨w, g, rfl⟩)] at k; exact k ρ) fun ρ b => by rw [h.uniq (.inr ⟨b, rfl⟩)] at k; exact k ρ
theorem sd_is_right {m : Nat} {rows : List Ins} {d : PyData} {Q : DEnv → R → Prop} (o : OkP m rows) (e : Elem d) (k : ∀ ρ, Q ρ (P (.bool true))) : ct__law_is_right.sd [P (progD m rows), P d] Q :=
  Ct.sd_mk (c := ct__law_is_right) ((m, rows), d) rfl ⟨o, e⟩ (by rintro ρ r rfl; exact k ρ)
theorem sd_odd {d : PyData} {b : Nat} {Q : DEnv → R → Prop} (ht : Bag2 b d) (hb : b < 2 ^ 60 := by omega) (k : ∀ ρ d' x, ρ[0]? = some (some ⟨.fix, d'⟩) → Bag2 (b + 1) d' → Elem x → Q ρ (P x)) : ct__law_odd.sd [⟨.fix, d⟩] Q := by
  refine Ct.sd_mk (c := ct__law_odd) (d, b) rfl ⟨ht, hb⟩ ?_
  rintro ρ r ⟨d', e, ht', x, hx, rfl⟩
  exact k ρ d' x e ht' hx
def cg4__law_bag : WG := (wName 1)
def ct4__law_bag : WT := (wB (wOp false wGe (wVar 1) (wOp false wPow (wC (.int 10)) (wC (.int 15)))))
def ce4__law_bag : WE := (wVar 1)
def fg2__law_bag : WG := (wName 1)
def fb2__law_bag : WS := (wSet 3 (wOp false wMod (wCall wInt (wCons false (wOp false wAdd (wOp false wAdd (wOp false wMulT (wVar 3) (wC (.int 48271))) (wVar 1)) (wC (.int 11))) wNil)) (wC (.int 4294967291))))
def rs2__law_bag : WS := (wRet (wDisp ["far", "stirred", "turn"] (wCons false (wLc0 (wSq true (wVar 2)) cg4__law_bag ct4__law_bag ce4__law_bag [1]) (wCons false (wVar 3) (wCons false (wC (.int 0)) wNil)))))
def cg1__law_bag : WG := (wName 1)
def ce1__law_bag : WE := (wOp false wAdd (wOp false wMulT (wC (.int 2)) (wCall wAbs (wCons false (wVar 1) wNil))) (wCall wInt (wCons false (wOp false wLt (wVar 1) (wC (.int 0))) wNil)))
def rs1__law_bag : WS := (wSeq (fun D ρ => (wFor (wSq false (wVar 2)) fg2__law_bag fb2__law_bag) D (frz ρ 2))
    rs2__law_bag)
def wb__law_bag : WS := (wSeq (wPar (wCons false (wLc0 (wSq true (wSlc (wVar 0) wNoPart (wPart (wC (.int 63))))) cg1__law_bag wYes ce1__law_bag [1]) (wCons false (wOp false wAdd (wC (.int 15032)) (wCall wLen (wCons false (wVar 0) wNil))) wNil)) (wgCons (wName 2) (wgCons (wName 3) wgNil)))
    rs1__law_bag)
theorem rd__law_bag (a : ct__law_bag.α) (h : ct__law_bag.pre a) : wb__law_bag { nx := fun ρ => ct__law_bag.post a ρ (DL.P .none), rt := ct__law_bag.post a } (startD 4 (ct__law_bag.args a)) := by
  suffices HH : ∀ (N : DEnv → Prop) (T : DEnv → R → Prop), (∀ ρ, ct__law_bag.post a ρ (DL.P .none) → N ρ) → (∀ ρ r, ct__law_bag.post a ρ r → T ρ r) → wb__law_bag { nx := N, rt := T } (startD 4 (ct__law_bag.args a)) from HH _ _ (fun _ h => h) (fun _ _ h => h)
  intro NN T hNN hT
  have h : List.length (α := Int) a ≤ 63 := h
  have c0 : cutD (List.map PyData.int a) none (some 63) = (List.take 63 a : List Int).map PyData.int := (cutD_to (n := 63)).trans List.map_take.symm
  have k0 : kOf ((List.take 63 a : List Int).map PyData.int) = .own := kOf_pur (purs_ints _)
  have h60 : (List.take 63 a : List Int).length ≤ 63 := List.length_take_le _ _
  simp [wb__law_bag, wOp, wCons, wNil, wC, wCall, wVar, wSeq, wName, wPar, wgCons_cons, wgNil_nil, startD, stb, pur_i, free_nf, owp, -List.map_map, ct__law_bag, kPar]
  refine wLc0_mapE (List.take 63 a : List Int) PyData.int (fun c => PyData.int (2 * (if c < 0 then -c else c) + (if c < 0 then 1 else 0))) (by rw [sizeLine_eq]; omega) (fun Q q => ?_) (fun k c Q hc q => ?_) ?_
  · simp [wC, wVar, wPart, wNoPart, stb, wSlc_eq, cutR_l, -List.map_map, wSq, c0, k0, q]
  · simp [cg1__law_bag, ce1__law_bag, wOp, wCons, wNil, wC, wCall, wVar, wName, wLt, cond2_ii, stb, pur_i, sld_pur, free_nf, nf_none, wipeD, wAdd_ii, wMul_ii, wInt_b, wAbs_i, -List.map_map, CMul]
    exact q _ _ rfl rfl
  generalize (List.take 63 a : List Int) = C at h60
  have hla : (List.map PyData.int a).length = List.length (α := Int) a := List.length_map _
  simp [wLen_lst, wSeq, frz, pur_i, pur_l, sld_ol, sld_pur, nf_none, wAdd_ii, -List.map_map, rs1__law_bag]
  refine wFor_ix C (fun c => PyData.int (2 * (if c < 0 then -c else c) + (if c < 0 then 1 else 0))) (fun k ρ => ∃ s : Int, 0 ≤ s ∧ s < 2 ^ 32 ∧ Env [isS (some (P (.list (List.map PyData.int a)))), nf, isS (some ⟨.shr, .list (C.map fun c => PyData.int (2 * (if c < 0 then -c else c) + (if c < 0 then 1 else 0)))⟩), isS (some (P (.int s)))] ρ) (fun Q q => ?_) ?_ ?_
  · simp [wVar, -List.map_map, wSq]
    exact q _ ⟨15032 + ((List.map PyData.int a).length : Int), by omega, by omega, by simp [nf_none, isS, env_c, env_n, -List.map_map]⟩
  · rintro k c ρ N hc ⟨s, s1, s2, hE⟩ hN
    obtain ⟨_, _, rfl, rfl, hE1⟩ := env_cons hE; obtain ⟨z1, _, rfl, n1, hE2⟩ := env_cons hE1; obtain ⟨_, _, rfl, rfl, hE3⟩ := env_cons hE2; obtain ⟨_, _, rfl, rfl, hE4⟩ := env_cons hE3; obtain rfl := env_nil hE4; clear hE hE1 hE2 hE3 hE4
    simp [fg2__law_bag, fb2__law_bag, wOp, wCons, wNil, wC, wCall, wVar, wSet, wAsg, wName, wMod, cond2_ii, stb, pur_i, sld_pur, free_nf, nf_shr, wAdd_ii, wMul_ii, wInt_i, -List.map_map, CMul, n1]
    have mm := md (s * 48271 + (2 * (if c < 0 then -c else c) + (if c < 0 then 1 else 0)) + 11) (show (0 : Int) < 4294967291 by decide)
    exact hN _ ⟨_, mm.1, by omega, by simp [nf_shr, isS, env_c, env_n, -List.map_map]⟩
  · rintro ρ ⟨s, s1, s2, hE⟩
    obtain ⟨_, _, rfl, rfl, hE1⟩ := env_cons hE; obtain ⟨z1, _, rfl, n1, hE2⟩ := env_cons hE1; obtain ⟨_, _, rfl, rfl, hE3⟩ := env_cons hE2; obtain ⟨_, _, rfl, rfl, hE4⟩ := env_cons hE3; obtain rfl := env_nil hE4; clear hE hE1 hE2 hE3 hE4
    simp [rs2__law_bag, wRet, wCons, wNil, wC, wVar, wDisp, dzip, stb, pur_i, owp, -List.map_map]
    refine wLc0_fmapE C (fun c => PyData.int (2 * (if c < 0 then -c else c) + (if c < 0 then 1 else 0))) (fun c => PyData.int (2 * (if c < 0 then -c else c) + (if c < 0 then 1 else 0))) (fun c => decide (1000000000000000 ≤ 2 * (if c < 0 then -c else c) + (if c < 0 then 1 else 0))) (by rw [sizeLine_eq]; omega) (fun Q q => ?_) (fun k c Q N hc y n => ?_) ?_
    · simp [wVar, -List.map_map, wSq, q]
    · simp [cg4__law_bag, ct4__law_bag, ce4__law_bag, wOp, wC, wVar, wName, wPow, wGe, cond2_ii, stb, pur_i, sld_pur, free_nf, nf_none, wipeD, wB_eq, booR_b, -List.map_map, CPow]
      by_cases z : 1000000000000000 ≤ 2 * (if c < 0 then -c else c) + (if c < 0 then 1 else 0)
      · rw [if_pos z]
        exact y (by simpa using z) _ _ rfl rfl
      · rw [if_neg z]
        exact n (by simpa using z)
    · simp [pur_i, pur_l, -List.map_map]
      refine hT _ _ ⟨rfl, (C.filter fun c => decide (1000000000000000 ≤ 2 * (if c < 0 then -c else c) + (if c < 0 then 1 else 0))).map fun c => 2 * (if c < 0 then -c else c) + (if c < 0 then 1 else 0), s, 0, by simp [be', be], ?_, s1, s2, by decide, by decide⟩
      have := List.length_filter_le (fun c : Int => decide (1000000000000000 ≤ 2 * (if c < 0 then -c else c) + (if c < 0 then 1 else 0))) C
      rw [List.length_map]; omega
def ib4__law_draw : WS := (wDrop (wIns 2 (wPlV 2) (wCons false (wC (.int 0)) (wCons false (wOp false wFdiv (wVar 3) (wVar 1)) wNil))))
def rs2__law_draw : WS := (wSeq (wDPut 0 (wOp false wAdd (wDGet false (wVar 0) (wC (.str "turn"))) (wC (.int 1))) (wPlV 0) (wC (.str "turn")))
    (wSeq (wSet 4 (wDGet false (wVar 0) (wC (.str "turn"))))
    (wSeq (wSet 5 (wOp false wMod (wCall wInt (wCons false (wOp false wAdd (wOp false wAdd (wOp false wMulT (wDGet false (wVar 0) (wC (.str "stirred"))) (wC (.int 69621))) (wOp false wMulT (wOp false wMulT (wVar 4) (wVar 4)) (wC (.int 7)))) (wOp false wMulT (wC (.int 104729)) (wVar 4))) wNil)) (wC (.int 4294967279))))
    (wSeq (wSet 5 (wOp false wMod (wCall wInt (wCons false (wOp false wAdd (wOp false wMulT (wVar 5) (wC (.int 48271))) (wOp false wFdiv (wVar 5) (wC (.int 65536)))) wNil)) (wC (.int 4294967291))))
    (wSeq (wDPut 0 (wVar 5) (wPlV 0) (wC (.str "stirred")))
    (wRet (wOp false wMod (wCall wInt (wCons false (wOp false wFdiv (wVar 5) (wC (.int 1024))) wNil)) (wVar 1))))))))
def fa2__law_draw : WS := (wSeq (wSet 3 (wPopE 2 false (wPlV 2) (wC (.int 0))))
    (wSeq (wIf (wB (wOp false wGe (wVar 3) (wVar 1))) ib4__law_draw wNext)
    (wRet (wOp false wMod (wCall wInt (wCons false (wVar 3) wNil)) (wVar 1)))))
def wb__law_draw : WS := (wFar 0 2 (wPlKey 0 (wPlV 0) (wC (.str "far"))) (wB (wOp false (wEq not) (wVar 2) (wLst wNil))) fa2__law_draw
    rs2__law_draw)
theorem rd__law_draw (a : ct__law_draw.α) (h : ct__law_draw.pre a) : wb__law_draw { nx := fun ρ => ct__law_draw.post a ρ (DL.P .none), rt := ct__law_draw.post a } (startD 6 (ct__law_draw.args a)) := by
  suffices HH : ∀ (N : DEnv → Prop) (T : DEnv → R → Prop), (∀ ρ, ct__law_draw.post a ρ (DL.P .none) → N ρ) → (∀ ρ r, ct__law_draw.post a ρ r → T ρ r) → wb__law_draw { nx := N, rt := T } (startD 6 (ct__law_draw.args a)) from HH _ _ (fun _ h => h) (fun _ _ h => h)
  intro NN T hNN hT
  obtain ⟨d, m, b⟩ := a
  obtain ⟨⟨g, s, t, rfl, hg, hs1, hs2, ht1, ht2⟩, h1, h2, h3⟩ := h
  have h1 : 1 ≤ m := h1
  have h2 : m < 2 ^ 30 := h2
  have h3 : b < 2 ^ 60 := h3
  have ht2 : t ≤ (b : Int) := ht2
  have tr : ∀ (g' : List Int) (s' t' : Int), g'.length ≤ 63 → 0 ≤ s' → s' < 2 ^ 32 → 0 ≤ t' → t' ≤ t + 1 → Bag2 (b + 1) (.dict (be (.list (g'.map PyData.int)) (.int s') (.int t'))) := fun g' s' t' h a c e f => ⟨g', s', t', rfl, h, a, c, e, by omega⟩
  have nn : ∀ v : Int, ∃ n : Nat, P (.int (v % m)) = P (I n) ∧ (1 ≤ m → (n : Int) < m) := by
    intro v
    have := md v (show 0 < m by omega)
    exact ⟨(v % m).toNat, by simp [I, Int.toNat_of_nonneg this.1], fun _ => by omega⟩
  cases g with
  | nil =>
    simp [wb__law_draw, wFar, rs2__law_draw, fa2__law_draw, wRet, wOp, wLst, wCons, wNil, wC, wCall, wVar, wSeq, wSet, wAsg, wName, wIf, wNext, wFdiv, wMod, wGe, cond2_ii, wDGet, wPlV, wPlKey, wPopE, wDPut, startD, stb, itemK_int, pur_i, pur_d, sld_shr, sld_pur, kLst, sizeLine_eq, wEq_ll, wAdd_ii, wMul_ii, wInt_i, wB_eq, booR_b, eqv_lnil, shaped_nil, -List.map_map, I, I, ct__law_draw, be', dAt, upP, getP_nil, setP_nil, be_g0, be_s0, keyOf_str, be_get1, be_get2, be_pos0, be_put1, be_put2, be_len, nodct, nodcts, ixN, CMul, CDiv, free, loP]
    have mm := md ((s * 69621 + (t + 1) * (t + 1) * 7 + 104729 * (t + 1)) % 4294967279 * 48271 + (s * 69621 + (t + 1) * (t + 1) * 7 + 104729 * (t + 1)) % 4294967279 / 65536) (show (0 : Int) < 4294967291 by decide)
    exact ⟨be_all, by omega, be_all, by omega, hT _ _ ⟨_, rfl, tr [] _ _ (by decide) mm.1 (by omega) (by omega) (by omega), nn _⟩⟩
  | cons c g =>
    simp at hg
    have nd : nodcts (PyData.int c :: g.map PyData.int) = true := nodcts_ints (c :: g)
    have sh : SeqAt.shaped (.list (PyData.int c :: g.map PyData.int)) = true := shaped_ints (c :: g)
    have eq0 : PyData.eqv (.list (PyData.int c :: g.map PyData.int)) (.list []) = false := by simp [PyData.eqv, PyData.eqvAll]
    simp [wb__law_draw, wFar, rs2__law_draw, fa2__law_draw, ib4__law_draw, wRet, wOp, wLst, wCons, wNil, wC, wCall, wVar, wSeq, wSet, wAsg, wName, wIf, wDrop, wNext, wFdiv, wMod, wGe, cond2_ii, wDGet, wPlV, wPlKey, wPopE, wIns, wDPut, startD, stb, itemK_int, pur_i, pur_d, ndcs_n, sld_shr, sld_pur, kLst, sizeLine_eq, wEq_ll, wAdd_ii, wMul_ii, wInt_i, wB_eq, booR_b, shaped_nil, -List.map_map, I, I, ct__law_draw, be', dAt, upP, getP_nil, setP_nil, be_g0, be_s0, keyOf_str, be_get1, be_get2, be_pos0, be_put1, be_put2, be_len, nodct, nd, sh, eq0, ixN, CMul, CDiv, free, loP]
    split
    · exact ⟨by omega, by omega, by omega, hT _ _ ⟨_, rfl, tr (c / m :: g) s t (by simp; omega) hs1 hs2 ht1 (by omega), nn _⟩⟩
    · exact ⟨by omega, hT _ _ ⟨_, rfl, tr g s t (by omega) hs1 hs2 ht1 (by omega), nn _⟩⟩
def wb__law_pick : WS := (wRet (wOp true wIx (wVar 1) (wFnM ct__law_draw 0 (wCons false (wCall wLen (wCons false (wVar 1) wNil)) wNil))))
theorem rd__law_pick (a : ct__law_pick.α) (h : ct__law_pick.pre a) : wb__law_pick { nx := fun ρ => ct__law_pick.post a ρ (DL.P .none), rt := ct__law_pick.post a } (startD 2 (ct__law_pick.args a)) := by
  suffices HH : ∀ (N : DEnv → Prop) (T : DEnv → R → Prop), (∀ ρ, ct__law_pick.post a ρ (DL.P .none) → N ρ) → (∀ ρ r, ct__law_pick.post a ρ r → T ρ r) → wb__law_pick { nx := N, rt := T } (startD 2 (ct__law_pick.args a)) from HH _ _ (fun _ h => h) (fun _ _ h => h)
  intro NN T hNN hT
  obtain ⟨d, xs, b⟩ := a
  obtain ⟨h1, h2, h3, h4⟩ := h
  have h1 : Bag2 b d := h1
  have h2 : 1 ≤ xs.length := h2
  have h3 : xs.length < 2 ^ 30 := h3
  have h4 : b < 2 ^ 60 := h4
  simp [wb__law_pick, wRet, wOp, wCons, wNil, wCall, wLen_lst, wVar, wFnM, startD, stb, pur_i, pur_l, -List.map_map, ct__law_pick]
  refine sd_drawN h1 h2 h3 h4 fun ρ d' n e ht hn => ⟨d', e, ?_⟩
  simp [pur_i, cv_pur, -List.map_map]
  rw [wIx_l (d := xs[n]) (by rw [ix_nat]; simp [hn])]
  have e2 : itemK .shr xs[n] = P xs[n] := by unfold itemK; split <;> rfl
  rw [e2]
  exact hT _ _ ⟨_, rfl, ht, _, List.getElem_mem hn, rfl⟩
def rs8__law_row : WS := (wSeq (wIf (wB (wOp false (wInA id) (wVar 3) (wTup (wCons false (wC (.str "not")) (wCons false (wC (.str "twice")) (wCons false (wC (.str "minus")) (wCons false (wC (.str "prefix")) wNil))))))) (wRet (wTup (wCons false (wVar 3) (wCons false (wVar 4) wNil)))) wNext)
    (wRet (wIfE (wB (wOp false (wEq id) (wFnM ct__law_draw 0 (wCons false (wC (.int 2)) wNil)) (wC (.int 0)))) (wTup (wCons true (wVar 3) (wCons true (wVar 4) (wCons false (wFnM ct__law_draw 0 (wCons false (wVar 2) wNil)) wNil)))) (wTup (wCons true (wVar 3) (wCons false (wFnM ct__law_draw 0 (wCons false (wVar 2) wNil)) (wCons false (wVar 4) wNil)))))))
def cg3__law_row : WG := (wName 5)
def ce3__law_row : WE := (wFnM ct__law_draw 0 (wCons false (wC (.int 2)) wNil))
def rs2__law_row : WS := (wSeq (wIf (wB (wOp false (wInA id) (wVar 3) (wTup (wCons false (wC (.str "zero")) (wCons false (wC (.str "ones")) wNil))))) (wRet (wTup (wCons false (wVar 3) wNil))) wNext)
    (wSeq (wIf (wB (wOp false (wEq id) (wVar 2) (wC (.int 0)))) (wRet (wTup (wCons false (wC (.str "ones")) wNil))) wNext)
    (wSeq (wSet 4 (wOp true wSub (wOp false wSub (wVar 2) (wC (.int 1))) (wOp false wFdiv (wFnM ct__law_draw 0 (wCons false (wVar 2) wNil)) (wC (.int 2)))))
    rs8__law_row)))
def rs1__law_row : WS := (wSeq (wIf (wB (wOp false (wEq id) (wVar 3) (wC (.str "mask")))) (wRet (wTup (wCons true (wVar 3) (wCons false (wCall wTupC (wCons false (wLc (wRng1 (wCons false (wOp true wAdd (wC (.int 1)) (wFnM ct__law_draw 0 (wCons false (wC (.int 4)) wNil))) wNil)) cg3__law_row wYes ce3__law_row [5]) wNil)) wNil)))) wNext)
    rs2__law_row)
def wb__law_row : WS := (wSeq (wSet 3 (wFnM ct__law_pick 0 (wCons false (wVar 1) wNil)))
    rs1__law_row)
theorem rd__law_row (a : ct__law_row.α) (h : ct__law_row.pre a) : wb__law_row { nx := fun ρ => ct__law_row.post a ρ (DL.P .none), rt := ct__law_row.post a } (startD 6 (ct__law_row.args a)) := by
  suffices HH : ∀ (N : DEnv → Prop) (T : DEnv → R → Prop), (∀ ρ, ct__law_row.post a ρ (DL.P .none) → N ρ) → (∀ ρ r, ct__law_row.post a ρ r → T ρ r) → wb__law_row { nx := N, rt := T } (startD 6 (ct__law_row.args a)) from HH _ _ (fun _ h => h) (fun _ _ h => h)
  intro NN T hNN hT
  obtain ⟨d, ws, g, b⟩ := a
  obtain ⟨h1, h2, h3, h4, h5⟩ := h
  have h1 : Bag2 b d := h1
  have h2 : 1 ≤ ws.length := h2
  have h3 : ws.length ≤ 20 := h3
  have h4 : g ≤ 100000 := h4
  have h5 : b < 2 ^ 50 := h5
  simp [wb__law_row, wCons, wNil, wVar, wSeq, wSet, wAsg, wName, wFnM, startD, stb, pur_l, free_nf, nf_none, -List.map_map, I, I, ct__law_row]
  refine sd_pickA h1 (by simpa using h2) (by simp; omega) (k := fun ρ' d1 x e1 t1 hx => ⟨d1, e1, ?_⟩)
  obtain ⟨w, hw, rfl⟩ := List.mem_map.mp hx
  have fin : ∀ (d2 : PyData) (b2 : Nat) (x : Ins) (ρ : DEnv), Bag2 b2 d2 → b2 ≤ b + 10 → ρ[0]? = some (some ⟨.fix, d2⟩) → x.ok g → (∀ b, x = .mk b → b.length ≤ 24) → T ρ (P (insD x)) := fun d2 b2 x ρ t2 hb e hx hm => hT _ _ ⟨d2, e, t2.mono hb, x, hx, hm, rfl⟩
  cases w with
  | zero =>
    simp [wRet, wOp, wCons, wNil, wC, wCall, wVar, wTup, wSeq, wSet, wAsg, wName, wIf, wNext, wSub, wFdiv, cond2_ii, wFnM, stb, purs_n, purs_c, pur_i, pur_s, kTup_pur, sld_pur, free_nf, nf_none, sizeLine_eq, cv_pur, wEq_ss, wEq_ii, wB_eq, booR_b, wInA_t, flatD, eqD_ss, ofStr_inj, -List.map_map, Wd.D, Wd.nm, rs1__law_row, rs2__law_row]
    exact fin d1 _ (.k0 false) _ t1 (by omega) rfl trivial (fun _ z => nomatch z)
  | ones =>
    simp [wRet, wOp, wCons, wNil, wC, wCall, wVar, wTup, wSeq, wSet, wAsg, wName, wIf, wNext, wSub, wFdiv, cond2_ii, wFnM, stb, purs_n, purs_c, pur_i, pur_s, kTup_pur, sld_pur, free_nf, nf_none, sizeLine_eq, cv_pur, wEq_ss, wEq_ii, wB_eq, booR_b, wInA_t, flatD, eqD_ss, ofStr_inj, -List.map_map, Wd.D, Wd.nm, rs1__law_row, rs2__law_row]
    exact fin d1 _ (.k0 true) _ t1 (by omega) rfl trivial (fun _ z => nomatch z)
  | mask =>
    simp [wRet, wOp, wCons, wNil, wC, wCall, wVar, wTup, wSeq, wIf, wNext, stb, pur_s, sld_pur, sizeLine_eq, cv_pur, wEq_ss, wB_eq, booR_b, -List.map_map, Wd.D, Wd.nm, rs1__law_row]
    rw [wLc_eq]
    simp [wOp, wCons, wNil, wC, wFnM, stb, pur_i, -List.map_map, wRng1]
    refine sd_draw t1 (k := fun ρ' d2 v e2 t2 hv => ⟨d2, e2, ?_⟩)
    simp [pur_i, cv_pur, wAdd_ii, -List.map_map]
    (repeat (with_reducible refine And.intro (by omega) ?_))
    rw [show (1 + (v : Int)).toNat = 1 + v by omega, rngD_nat]
    refine wLcD_ix (List.range (1 + v)) (fun i => PyData.int (i : Nat)) rfl (fun k ρ acc => ∃ (d : PyData) (bs : List Nat), Bag2 (b + 2 + k) d ∧ bs.length = k ∧ (∀ x ∈ bs, x < 2) ∧ acc = bs.map I ∧ Env [isS (some ⟨.fix, d⟩), isS (some (P (.list (ws.map Wd.D)))), isS (some (P (I g))), isS (some (P (.str "mask"))), nf, nf] ρ) (by rw [sizeLine_eq]; simp; omega) (fun k ρ acc hI => by obtain ⟨d, p, _, hl, _, rfl, _⟩ := hI; simp [hl]) ⟨d2, [], t2, rfl, by simp, rfl, by simp [nf_none, wipeD, isS, env_c, env_n, -List.map_map, I, I]⟩ ?_ ?_
    · rintro k x ρ acc N hk ⟨d3, bs, t3, hl, hp, rfl, hE⟩ hN
      obtain ⟨_, _, rfl, rfl, hE1⟩ := env_cons hE; obtain ⟨_, _, rfl, rfl, hE2⟩ := env_cons hE1; obtain ⟨_, _, rfl, rfl, hE3⟩ := env_cons hE2; obtain ⟨_, _, rfl, rfl, hE4⟩ := env_cons hE3; obtain ⟨z4, _, rfl, n4, hE5⟩ := env_cons hE4; obtain ⟨z5, _, rfl, n5, hE6⟩ := env_cons hE5; obtain rfl := env_nil hE6; clear hE hE1 hE2 hE3 hE4 hE5 hE6
      have hk := lt_of_some hk
      simp at hk
      simp [cg3__law_row, ce3__law_row, wCons, wNil, wC, wName, wFnM, stb, pur_i, sld_pur, free_nf, -List.map_map, I, I, n5]
      refine sd_draw t3 (k := fun ρ' d4 y e4 t4 hy => ⟨d4, e4, hN _ _ rfl ⟨d4, bs ++ [y], t4, by simp [hl], fun z hz => ?_, by simp [pur_i, cv_pur, -List.map_map, I, I], by simp [nf_none, wipeD, isS, env_c, env_n, -List.map_map, I, I, n4]⟩⟩)
      rcases List.mem_append.mp hz with hz | hz
      · exact hp z hz
      · rw [List.mem_singleton.mp hz]; omega
    · rintro ρ acc ⟨d3, bs, t3, hl, hp, rfl, hE⟩
      obtain ⟨_, _, rfl, rfl, hE1⟩ := env_cons hE; obtain ⟨_, _, rfl, rfl, hE2⟩ := env_cons hE1; obtain ⟨_, _, rfl, rfl, hE3⟩ := env_cons hE2; obtain ⟨_, _, rfl, rfl, hE4⟩ := env_cons hE3; obtain ⟨z4, _, rfl, n4, hE5⟩ := env_cons hE4; obtain ⟨z5, _, rfl, n5, hE6⟩ := env_cons hE5; obtain rfl := env_nil hE6; clear hE hE1 hE2 hE3 hE4 hE5 hE6
      simp at hl
      simp at t3
      simp [stb, pur_s, pur_t, owp, wTupC_l, -List.map_map, I, purs_I, I, purs_I, purs_I, DL.kTup]
      exact fin d3 _ (.mk bs) _ t3 (by omega) rfl ⟨by omega, by omega, hp⟩ (fun b' e => by cases e; omega)
  | o1 o =>
    by_cases hg : g = 0
    · subst hg
      cases o <;> simp [wRet, wOp, wCons, wNil, wC, wCall, wVar, wTup, wSeq, wSet, wAsg, wName, wIf, wNext, wSub, wFdiv, cond2_ii, wFnM, stb, purs_n, purs_c, pur_i, pur_s, kTup_pur, sld_pur, free_nf, nf_none, sizeLine_eq, cv_pur, wEq_ss, wEq_ii, wB_eq, booR_b, wInA_t, flatD, eqD_ss, ofStr_inj, -List.map_map, Wd.D, Wd.nm, O1.nm, rs1__law_row, rs2__law_row] <;> exact fin d1 _ (.k0 true) _ t1 (by omega) rfl trivial (fun _ z => nomatch z)
    · cases o <;> (
        simp [wRet, wOp, wCons, wNil, wC, wCall, wVar, wTup, wSeq, wSet, wAsg, wName, wIf, wNext, wSub, wFdiv, cond2_ii, wFnM, stb, purs_n, purs_c, pur_i, pur_s, kTup_pur, sld_pur, free_nf, nf_none, sizeLine_eq, cv_pur, wEq_ss, wEq_ii, wB_eq, booR_b, wInA_t, flatD, eqD_ss, ofStr_inj, -List.map_map, Wd.D, Wd.nm, O1.nm, rs1__law_row, rs2__law_row, hg]
        refine sd_drawN t1 (k := fun ρ' d2 v e2 t2 hv => ⟨d2, e2, ?_⟩)
        obtain ⟨low, hlow⟩ : ∃ low, g - 1 - v / 2 = low := ⟨_, rfl⟩
        have el : (g : Int) - 1 - (v : Int) / 2 = (low : Int) := by omega
        have ll : low < g := by omega
        simp [wRet, wOp, wCons, wNil, wC, wVar, wTup, wSeq, wIf, wNext, cond2_ii, wFnM, wIfE, stb, purs_n, purs_c, pur_i, pur_s, kTup_pur, sld_pur, sizeLine_eq, cv_pur, wB_eq, booR_b, wInA_t, flatD, eqD_ss, ofStr_inj, -List.map_map, CDiv, el, rs8__law_row]
        first
          | exact fin d2 _ (.k1 .not low) _ t2 (by omega) rfl ll (fun _ z => nomatch z)
          | exact fin d2 _ (.k1 .twice low) _ t2 (by omega) rfl ll (fun _ z => nomatch z)
          | exact fin d2 _ (.k1 .minus low) _ t2 (by omega) rfl ll (fun _ z => nomatch z)
          | exact fin d2 _ (.k1 .pre low) _ t2 (by omega) rfl ll (fun _ z => nomatch z))
  | o2 o =>
    by_cases hg : g = 0
    · subst hg
      cases o <;> simp [wRet, wOp, wCons, wNil, wC, wCall, wVar, wTup, wSeq, wSet, wAsg, wName, wIf, wNext, wSub, wFdiv, cond2_ii, wFnM, stb, purs_n, purs_c, pur_i, pur_s, kTup_pur, sld_pur, free_nf, nf_none, sizeLine_eq, cv_pur, wEq_ss, wEq_ii, wB_eq, booR_b, wInA_t, flatD, eqD_ss, ofStr_inj, -List.map_map, Wd.D, Wd.nm, O2.nm, rs1__law_row, rs2__law_row] <;> exact fin d1 _ (.k0 true) _ t1 (by omega) rfl trivial (fun _ z => nomatch z)
    · have fin2 : ∀ (d2 : PyData) (b2 : Nat) (lo hi : Nat) (ρ : DEnv), Bag2 b2 d2 → b2 ≤ b + 10 → ρ[0]? = some (some ⟨.fix, d2⟩) → lo < g → hi < g → T ρ (P (.tuple [.str o.nm, .int (lo : Nat), .int (hi : Nat)])) := fun d2 b2 lo hi ρ t2 hb e h1 h2 => fin d2 b2 (.k2 o lo hi) ρ t2 hb e ⟨h1, h2⟩ (fun _ z => nomatch z)
      cases o <;> (
        simp only [O2.nm] at fin2
        simp [wRet, wOp, wCons, wNil, wC, wCall, wVar, wTup, wSeq, wSet, wAsg, wName, wIf, wNext, wSub, wFdiv, cond2_ii, wFnM, stb, purs_n, purs_c, pur_i, pur_s, kTup_pur, sld_pur, free_nf, nf_none, sizeLine_eq, cv_pur, wEq_ss, wEq_ii, wB_eq, booR_b, wInA_t, flatD, eqD_ss, ofStr_inj, -List.map_map, Wd.D, Wd.nm, O2.nm, rs1__law_row, rs2__law_row, hg]
        refine sd_drawN t1 (k := fun ρ' d2 v e2 t2 hv => ⟨d2, e2, ?_⟩)
        obtain ⟨low, hlow⟩ : ∃ low, g - 1 - v / 2 = low := ⟨_, rfl⟩
        have el : (g : Int) - 1 - (v : Int) / 2 = (low : Int) := by omega
        have ll : low < g := by omega
        simp [wRet, wOp, wCons, wNil, wC, wVar, wTup, wSeq, wIf, wNext, cond2_ii, wFnM, wIfE, stb, purs_n, purs_c, pur_i, pur_s, kTup_pur, sld_pur, sizeLine_eq, cv_pur, wB_eq, booR_b, wInA_t, flatD, eqD_ss, ofStr_inj, -List.map_map, CDiv, el, rs8__law_row]
        refine sd_draw t2 (k := fun ρ' d3 w e3 t3 hw => ⟨d3, e3, ?_⟩)
        simp [pur_i, cv_pur, wEq_ii, booR_b, -List.map_map]
        split
        · refine sd_drawN t3 (k := fun ρ' d4 y e4 t4 hy => ⟨d4, e4, ?_⟩)
          simp [purs_n, purs_c, pur_i, pur_s, kTup_pur, cv_pur, -List.map_map]
          exact fin2 d4 _ low y _ t4 (by omega) rfl ll hy
        · refine sd_drawN t3 (k := fun ρ' d4 y e4 t4 hy => ⟨d4, e4, ?_⟩)
          simp [purs_n, purs_c, pur_i, pur_s, kTup_pur, cv_pur, -List.map_map]
          exact fin2 d4 _ y low _ t4 (by omega) rfl hy ll)
def fg2__law_program : WG := (wName 5)
def fb2__law_program : WS := (wDrop (wApp 4 true (wPlV 4) (wFnM ct__law_row 0 (wCons false (wVar 3) (wCons false (wOp false wAdd (wVar 1) (wVar 5)) wNil)))))
def rs2__law_program : WS := (wRet (wTup (wCons false (wVar 1) (wCons false (wCall wTupC (wCons false (wVar 4) wNil)) wNil))))
def wb__law_program : WS := (wSeq (wSet 4 (wLst wNil))
    (wSeq (wFor (wRng1 (wCons false (wVar 2) wNil)) fg2__law_program fb2__law_program)
    rs2__law_program))
theorem rd__law_program (a : ct__law_program.α) (h : ct__law_program.pre a) : wb__law_program { nx := fun ρ => ct__law_program.post a ρ (DL.P .none), rt := ct__law_program.post a } (startD 6 (ct__law_program.args a)) := by
  suffices HH : ∀ (N : DEnv → Prop) (T : DEnv → R → Prop), (∀ ρ, ct__law_program.post a ρ (DL.P .none) → N ρ) → (∀ ρ r, ct__law_program.post a ρ r → T ρ r) → wb__law_program { nx := N, rt := T } (startD 6 (ct__law_program.args a)) from HH _ _ (fun _ h => h) (fun _ _ h => h)
  intro NN T hNN hT
  obtain ⟨d, ⟨m, n⟩, ws, b⟩ := a
  obtain ⟨h1, h2, h3, h4, h5, h6⟩ := h
  have h1 : Bag2 b d := h1
  have h2 : m ≤ 1000 := h2
  have h3 : n ≤ 1000 := h3
  have h4 : 1 ≤ ws.length := h4
  have h5 : ws.length ≤ 20 := h5
  have h6 : b < 2 ^ 40 := h6
  simp [wb__law_program, wLst, wNil, wSeq, wSet, wAsg, wName, startD, sld_ol, free_nf, nf_none, kLst, sizeLine_eq, -List.map_map, I, I, ct__law_program]
  refine wFor_ix (List.range n) I (fun k ρ => ∃ (d : PyData) (rows : List Ins), Bag2 (b + 10 * k) d ∧ OkR m rows ∧ rows.length = k ∧ (∀ b, Ins.mk b ∈ rows → b.length ≤ 24) ∧ Env [isS (some ⟨.fix, d⟩), isS (some (P (I m))), isS (some (P (I n))), isS (some (P (.list (ws.map Wd.D)))), isS (some ⟨.own, .list (rows.map insD)⟩), nf] ρ) (fun Q q => ?_) ?_ ?_
  · simp [wCons, wNil, wVar, stb, pur_i, -List.map_map, wRng1, rngD_nat]
    exact ⟨by omega, q _ ⟨d, [], h1, trivial, rfl, by simp, by simp [nf_none, isS, env_c, env_n, -List.map_map, I, I]⟩⟩
  · rintro k x ρ N hk ⟨d, rows, ht, ok, hl, hm, hE⟩ hN
    obtain ⟨_, _, rfl, rfl, hE1⟩ := env_cons hE; obtain ⟨_, _, rfl, rfl, hE2⟩ := env_cons hE1; obtain ⟨_, _, rfl, rfl, hE3⟩ := env_cons hE2; obtain ⟨_, _, rfl, rfl, hE4⟩ := env_cons hE3; obtain ⟨_, _, rfl, rfl, hE5⟩ := env_cons hE4; obtain ⟨z5, _, rfl, n5, hE6⟩ := env_cons hE5; obtain rfl := env_nil hE6; clear hE hE1 hE2 hE3 hE4 hE5 hE6
    obtain ⟨hk, rfl⟩ := range_inv hk
    simp [fg2__law_program, fb2__law_program, wOp, wCons, wNil, wVar, wName, wDrop, wFnM, wPlV, wApp, stb, pur_i, pur_l, sld_pur, free_nf, owp, sizeLine_eq, wAdd_ii, -List.map_map, I, I, n5]
    refine ⟨⟨_, rfl⟩, ⟨_, rfl⟩, ?_⟩
    rw [show (m : Int) + (k : Int) = ((m + k : Nat) : Int) by simp]
    refine sd_row ht h4 h5 (by omega) (by omega) fun ρ d1 x e1 t1 hx hb => ⟨d1, e1, ?_⟩
    simp [cv_pur, -List.map_map, pur_ins, pur_ins, dAt, upP, getP_nil, setP_nil]
    refine ⟨by omega, hN _ ⟨d1, rows ++ [x], by rw [show b + 10 * (k + 1) = b + 10 * k + 10 by omega]; exact t1, ok.snoc (by rw [hl]; exact hx), by simp [hl], fun b' h => ?_, by simp [nf_shr, isS, env_c, env_n, -List.map_map, I, I]⟩⟩
    rcases List.mem_append.mp h with h | h
    · exact hm b' h
    · exact hb b' (List.mem_singleton.mp h).symm
  · rintro ρ ⟨d, rows, ht, ok, hl, hm, hE⟩
    obtain ⟨_, _, rfl, rfl, hE1⟩ := env_cons hE; obtain ⟨_, _, rfl, rfl, hE2⟩ := env_cons hE1; obtain ⟨_, _, rfl, rfl, hE3⟩ := env_cons hE2; obtain ⟨_, _, rfl, rfl, hE4⟩ := env_cons hE3; obtain ⟨_, _, rfl, rfl, hE5⟩ := env_cons hE4; obtain ⟨z5, _, rfl, n5, hE6⟩ := env_cons hE5; obtain rfl := env_nil hE6; clear hE hE1 hE2 hE3 hE4 hE5 hE6
    simp at hl
    simp at ht
    simp [rs2__law_program, wRet, wCons, wNil, wCall, wVar, wTup, stb, pur_i, pur_l, sizeLine_eq, wTupC_l, -List.map_map, I, I]
    have pr : purs (rows.map insD) = true := purs_map' fun p _ => pur_ins p
    rw [kOfT_pur pr]
    have ek : DL.kTup [P (PyData.int (m : Nat)), P (.tuple (rows.map insD))] = .shr := by simp [DL.kTup, pur, pr]
    refine hT _ _ ⟨d, rfl, ht, rows, ok, hl, hm, ?_⟩
    show (⟨DL.kTup [P (PyData.int (m : Nat)), P (.tuple (rows.map insD))], _⟩ : R) = _
    rw [ek]
    rfl
def wb__law_is_whole : WS := (wRet (wAndV (wIsi "int" (wVar 0)) (wNotV (wIsi "bool" (wVar 0)))))
theorem rd__law_is_whole (a : ct__law_is_whole.α) (h : ct__law_is_whole.pre a) : wb__law_is_whole { nx := fun ρ => ct__law_is_whole.post a ρ (DL.P .none), rt := ct__law_is_whole.post a } (startD 1 (ct__law_is_whole.args a)) := by
  suffices HH : ∀ (N : DEnv → Prop) (T : DEnv → R → Prop), (∀ ρ, ct__law_is_whole.post a ρ (DL.P .none) → N ρ) → (∀ ρ r, ct__law_is_whole.post a ρ r → T ρ r) → wb__law_is_whole { nx := N, rt := T } (startD 1 (ct__law_is_whole.args a)) from HH _ _ (fun _ h => h) (fun _ _ h => h)
  intro NN T hNN hT
  have key : ∀ d : PyData, (∀ ρ r, r = P (.bool (isI d).isSome) → T ρ r) → wb__law_is_whole { nx := NN, rt := T } (startD 1 [P d]) := by
    intro d hT
    cases d <;> simp [wb__law_is_whole, wRet, wVar, startD, booR_b, wIsi, isD, tyD, wAndV_eq, wNotV_eq, -List.map_map]
    all_goals exact hT _ _ rfl
  exact key a fun ρ r e => hT ρ r e
def wb__law_pair_value : WS := (wSeq (wIf (wB (wOp false (wEq id) (wVar 0) (wC (.str "and")))) (wRet (wOp false wBAnd (wVar 1) (wVar 2))) wNext)
    (wSeq (wIf (wB (wOp false (wEq id) (wVar 0) (wC (.str "or")))) (wRet (wOp false wBOr (wVar 1) (wVar 2))) wNext)
    (wSeq (wIf (wB (wOp false (wEq id) (wVar 0) (wC (.str "xor")))) (wRet (wOp false wBXor (wVar 1) (wVar 2))) wNext)
    (wRet (wIfE (wB (wOp false (wEq id) (wVar 0) (wC (.str "plus")))) (wOp false wBAnd (wOp false wAdd (wVar 1) (wVar 2)) (wVar 3)) (wOp false wBAnd (wOp false wSub (wVar 1) (wVar 2)) (wVar 3)))))))
theorem rd__law_pair_value (a : ct__law_pair_value.α) (h : ct__law_pair_value.pre a) : wb__law_pair_value { nx := fun ρ => ct__law_pair_value.post a ρ (DL.P .none), rt := ct__law_pair_value.post a } (startD 4 (ct__law_pair_value.args a)) := by
  suffices HH : ∀ (N : DEnv → Prop) (T : DEnv → R → Prop), (∀ ρ, ct__law_pair_value.post a ρ (DL.P .none) → N ρ) → (∀ ρ r, ct__law_pair_value.post a ρ r → T ρ r) → wb__law_pair_value { nx := N, rt := T } (startD 4 (ct__law_pair_value.args a)) from HH _ _ (fun _ h => h) (fun _ _ h => h)
  intro NN T hNN hT
  obtain ⟨o, x, y, w⟩ := a
  obtain ⟨h1, h2, h3⟩ := h
  have h1 : x < 2 ^ w := h1
  have h2 : y < 2 ^ w := h2
  have h3 : w ≤ 256 := h3
  cases o
  · simp [wb__law_pair_value, wRet, wOp, wC, wVar, wSeq, wIf, wNext, wSub, wBAnd, wBOr, wBXor, cond2_ii, wIfE, startD, stb, pur_s, wEq_ss, wAdd_ii, wB_eq, booR_b, ofStr_inj, -List.map_map, I, I, ct__law_pair_value, O2.nm, topI]
    rw [band_nat]
    exact hT _ _ rfl
  · simp [wb__law_pair_value, wRet, wOp, wC, wVar, wSeq, wIf, wNext, wSub, wBAnd, wBOr, wBXor, cond2_ii, wIfE, startD, stb, pur_s, wEq_ss, wAdd_ii, wB_eq, booR_b, ofStr_inj, -List.map_map, I, I, ct__law_pair_value, O2.nm, topI]
    rw [bor_nat]
    exact hT _ _ rfl
  · simp [wb__law_pair_value, wRet, wOp, wC, wVar, wSeq, wIf, wNext, wSub, wBAnd, wBOr, wBXor, cond2_ii, wIfE, startD, stb, pur_s, wEq_ss, wAdd_ii, wB_eq, booR_b, ofStr_inj, -List.map_map, I, I, ct__law_pair_value, O2.nm, topI]
    rw [bxor_nat]
    exact hT _ _ rfl
  · simp [wb__law_pair_value, wRet, wOp, wC, wVar, wSeq, wIf, wNext, wSub, wBAnd, wBOr, wBXor, cond2_ii, wIfE, startD, stb, pur_s, wEq_ss, wAdd_ii, wB_eq, booR_b, ofStr_inj, -List.map_map, I, I, ct__law_pair_value, O2.nm, topI]
    rw [show (x : Int) + (y : Int) = ((x + y : Nat) : Int) by omega, band_top]
    exact hT _ _ rfl
  · simp [wb__law_pair_value, wRet, wOp, wC, wVar, wSeq, wIf, wNext, wSub, wBAnd, wBOr, wBXor, cond2_ii, wIfE, startD, stb, pur_s, wEq_ss, wAdd_ii, wB_eq, booR_b, ofStr_inj, -List.map_map, I, I, ct__law_pair_value, O2.nm, topI]
    rw [band_topZ, modZ_less h2]
    exact hT _ _ rfl
def fg15__law_value : WG := (wName 4)
def fb15__law_value : WS := (wSeq (wSet 7 (wOp false wBXor (wVar 7) (wOp false wBAnd (wOp false wShr (wVar 5) (wVar 4)) (wC (.int 1)))))
    (wSet 6 (wOp false wBOr (wVar 6) (wOp false wShlW (wVar 7) (wVar 4)))))
def rs15__law_value : WS := (wRetV 6)
def ib13__law_value : WS := (wSeq (wAsg (wTup (wCons false (wC (.int 0)) (wCons false (wC (.int 0)) wNil))) (wTupT 2 (wgCons (wName 6) (wgCons (wName 7) wgNil))))
    (wSeq (wFor (wRng1 (wCons false (wVar 2) wNil)) fg15__law_value fb15__law_value)
    rs15__law_value))
def cg5__law_value : WG := (wName 4)
def ce5__law_value : WE := (wOp false wShlW (wOp false wIx (wOp false wIx (wVar 0) (wC (.int 1))) (wOp false wMod (wCall wInt (wCons false (wVar 4) wNil)) (wCall wLen (wCons false (wOp false wIx (wVar 0) (wC (.int 1))) wNil)))) (wVar 4))
def rs4__law_value : WS := (wSeq (wSet 5 (wOp false wIx (wVar 1) (wOp false wIx (wVar 0) (wC (.int 1)))))
    (wSeq (wIf (wB (wOp false (wEq id) (wOp false wIx (wVar 0) (wC (.int 0))) (wC (.str "not")))) (wRet (wOp false wSub (wVar 3) (wVar 5))) wNext)
    (wSeq (wIf (wB (wOp false (wEq id) (wOp false wIx (wVar 0) (wC (.int 0))) (wC (.str "twice")))) (wRet (wOp false wBAnd (wOp false wShlW (wVar 5) (wC (.int 1))) (wVar 3))) wNext)
    (wSeq (wIf (wB (wOp false (wEq id) (wOp false wIx (wVar 0) (wC (.int 0))) (wC (.str "minus")))) (wRet (wOp false wBAnd (wOp false wSub (wC (.int 0)) (wVar 5)) (wVar 3))) wNext)
    (wSeq (wIf (wB (wOp false (wEq id) (wOp false wIx (wVar 0) (wC (.int 0))) (wC (.str "prefix")))) ib13__law_value wNext)
    (wRet (wFn ct__law_pair_value (wCons false (wOp false wIx (wVar 0) (wC (.int 0))) (wCons false (wVar 5) (wCons false (wOp false wIx (wVar 1) (wOp false wIx (wVar 0) (wC (.int 2)))) (wCons false (wVar 3) wNil)))))))))))
def wb__law_value : WS := (wSeq (wSet 3 (wOp false wSub (wOp false wShlW (wC (.int 1)) (wVar 2)) (wC (.int 1))))
    (wSeq (wIf (wB (wOp false (wInA id) (wOp false wIx (wVar 0) (wC (.int 0))) (wTup (wCons false (wC (.str "zero")) (wCons false (wC (.str "ones")) wNil))))) (wRet (wIfE (wB (wOp false (wEq id) (wOp false wIx (wVar 0) (wC (.int 0))) (wC (.str "ones")))) (wVar 3) (wC (.int 0)))) wNext)
    (wSeq (wIf (wB (wOp false (wEq id) (wOp false wIx (wVar 0) (wC (.int 0))) (wC (.str "mask")))) (wRet (wCall wSumA (wCons false (wLc0 (wRng1 (wCons false (wVar 2) wNil)) cg5__law_value wYes ce5__law_value [4]) wNil))) wNext)
    rs4__law_value)))
theorem rd__law_value (a : ct__law_value.α) (h : ct__law_value.pre a) : wb__law_value { nx := fun ρ => ct__law_value.post a ρ (DL.P .none), rt := ct__law_value.post a } (startD 8 (ct__law_value.args a)) := by
  suffices HH : ∀ (N : DEnv → Prop) (T : DEnv → R → Prop), (∀ ρ, ct__law_value.post a ρ (DL.P .none) → N ρ) → (∀ ρ r, ct__law_value.post a ρ r → T ρ r) → wb__law_value { nx := N, rt := T } (startD 8 (ct__law_value.args a)) from HH _ _ (fun _ h => h) (fun _ _ h => h)
  intro NN T hNN hT
  obtain ⟨r, kn, w⟩ := a
  obtain ⟨q1, q2, q3⟩ := h
  have h1 : r.ok kn.length := q1
  have h2 : ∀ x ∈ kn, x < 2 ^ w := q2
  have h3 : w ≤ 256 := q3
  clear q1 q2 q3
  have e2w : ((2 ^ w : Nat) : Int) = 2 ^ w := by simp
  have cs : CShl 1 (w : Int) := cshl_one
  have pk : purs (kn.map I) = true := purs_I kn
  cases r with
  | k0 b =>
    cases b
    · simp [wb__law_value, wRet, wOp, wCons, wNil, wC, wCall, wIx_t0, wVar, wTup, wSeq, wSet, wAsg, wName, wIf, wNext, wSub, wShlW, cond2_ii, wIfE, startD, stb, itemK_str, purs_n, purs_c, pur_i, pur_s, pur_t, kTup_pur, sld_pur, free_nf, nf_none, sizeLine_eq, wEq_ss, wB_eq, booR_b, wInA_t, flatD, eqD_ss, ofStr_inj, -List.map_map, I, I, ct__law_value, cs, insD]
      exact hT _ _ rfl
    · simp [wb__law_value, wRet, wOp, wCons, wNil, wC, wCall, wIx_t0, wVar, wTup, wSeq, wSet, wAsg, wName, wIf, wNext, wSub, wShlW, cond2_ii, wIfE, startD, stb, itemK_str, purs_n, purs_c, pur_i, pur_s, pur_t, kTup_pur, sld_pur, free_nf, nf_none, sizeLine_eq, wEq_ss, wB_eq, booR_b, wInA_t, flatD, eqD_ss, ofStr_inj, -List.map_map, I, I, ct__law_value, cs, insD, topI]
      exact hT _ _ rfl
  | k1 o a =>
    have ha : a < kn.length := h1
    have hx := h2 _ (nth_mem ha)
    obtain ⟨x, ex⟩ : ∃ x, nth kn a = x := ⟨_, rfl⟩
    have fT : ∀ ρ, T ρ (P (.int (val1 w o x : Nat))) := fun ρ => hT _ _ (by rw [← ex]; rfl)
    rw [ex] at hx
    cases o
    · simp [wb__law_value, rs4__law_value, wRet, wOp, wCons, wNil, wC, wCall, wIx_t0, wIx_t1, wVar, wTup, wSeq, wSet, wAsg, wName, wIf, wNext, wSub, wShlW, wBAnd, cond2_ii, wFn, wIfE, startD, stb, itemK_int, itemK_str, purs_n, purs_c, pur_i, pur_s, pur_t, kTup_pur, sld_pur, free_nf, nf_none, sizeLine_eq, wEq_ss, wB_eq, booR_b, wInA_t, flatD, eqD_ss, ofStr_inj, -List.map_map, I, I, ct__law_value, cs, insD, O1.nm, wIx_known ha, ex]
      have e : (2 : Int) ^ w - 1 - (x : Int) = ((val1 w .not x : Nat) : Int) := by
        show _ = ((2 ^ w - 1 - x : Nat) : Int)
        omega
      rw [e]
      exact fT _
    · simp [wb__law_value, rs4__law_value, wRet, wOp, wCons, wNil, wC, wCall, wIx_t0, wIx_t1, wVar, wTup, wSeq, wSet, wAsg, wName, wIf, wNext, wSub, wShlW, wBAnd, cond2_ii, wFn, wIfE, startD, stb, itemK_int, itemK_str, purs_n, purs_c, pur_i, pur_s, pur_t, kTup_pur, sld_pur, free_nf, nf_none, sizeLine_eq, wEq_ss, wB_eq, booR_b, wInA_t, flatD, eqD_ss, ofStr_inj, -List.map_map, I, I, ct__law_value, cs, insD, O1.nm, wIx_known ha, ex]
      have cx : CShl (x : Int) 1 := cshl_nat (b := 1) (Nat.lt_of_lt_of_le hx (Nat.pow_le_pow_right (by decide) (by omega))) (by omega)
      rw [topI, show (x : Int) * 2 = ((2 * x : Nat) : Int) by omega, band_top]
      exact ⟨cx, fT _⟩
    · simp [wb__law_value, rs4__law_value, wRet, wOp, wCons, wNil, wC, wCall, wIx_t0, wIx_t1, wVar, wTup, wSeq, wSet, wAsg, wName, wIf, wNext, wSub, wShlW, wBAnd, cond2_ii, wFn, wIfE, startD, stb, itemK_int, itemK_str, purs_n, purs_c, pur_i, pur_s, pur_t, kTup_pur, sld_pur, free_nf, nf_none, sizeLine_eq, wEq_ss, wB_eq, booR_b, wInA_t, flatD, eqD_ss, ofStr_inj, -List.map_map, I, I, ct__law_value, cs, insD, O1.nm, wIx_known ha, ex]
      rw [topI, band_topZ, modZ_minus hx]
      exact fT _
    · simp [wb__law_value, rs4__law_value, ib13__law_value, wRet, wOp, wCons, wNil, wC, wCall, wIx_t0, wIx_t1, wVar, wTup, wSeq, wSet, wAsg, wName, wgCons_cons, wgNil_nil, wIf, wNext, wSub, wShlW, wBAnd, cond2_ii, wFn, wIfE, startD, stb, itemK_int, itemK_str, purs_n, purs_c, pur_i, pur_s, pur_t, kTup_pur, sld_pur, free_nf, nf_none, sizeLine_eq, wEq_ss, wB_eq, booR_b, wInA_t, flatD, eqD_ss, ofStr_inj, -List.map_map, I, I, ct__law_value, cs, insD, O1.nm, wIx_known ha, ex, wTupT]
      refine wFor_ix (List.range w) I (fun k ρ => Env [isS (some (P (.tuple [.str "prefix", .int (a : Nat)]))), isS (some (P (.list (kn.map I)))), isS (some (P (I w))), isS (some (P (.int (2 ^ w - 1)))), nf, isS (some (P (I x))), isS (some (P (I (ob (fun i => par x (i + 1)) k)))), isS (some (P (I (par x k).toNat)))] ρ) (fun Q q => ?_) ?_ ?_
      · simp [wCons, wNil, wVar, stb, pur_i, -List.map_map, wRng1, rngD_nat]
        exact ⟨by omega, q _ (by simp [nf_none, isS, env_c, env_n, -List.map_map, I, I, ob, par])⟩
      · rintro k y ρ N hk hE hN
        obtain ⟨_, _, rfl, rfl, hE1⟩ := env_cons hE; obtain ⟨_, _, rfl, rfl, hE2⟩ := env_cons hE1; obtain ⟨_, _, rfl, rfl, hE3⟩ := env_cons hE2; obtain ⟨_, _, rfl, rfl, hE4⟩ := env_cons hE3; obtain ⟨z4, _, rfl, n4, hE5⟩ := env_cons hE4; obtain ⟨_, _, rfl, rfl, hE6⟩ := env_cons hE5; obtain ⟨_, _, rfl, rfl, hE7⟩ := env_cons hE6; obtain ⟨_, _, rfl, rfl, hE8⟩ := env_cons hE7; obtain rfl := env_nil hE8; clear hE hE1 hE2 hE3 hE4 hE5 hE6 hE7 hE8
        obtain ⟨hk, rfl⟩ := range_inv hk
        have hb : Builtin.bitAnd ((x : Int) / 2 ^ k) 1 = ((x / 2 ^ k % 2 : Nat) : Int) := by
          have := band_nat (x / 2 ^ k) 1
          rw [Nat.and_one_is_mod] at this
          simpa using this
        have hs := par_step x k
        have cs2 : CShl (((par x (k + 1)).toNat : Nat) : Int) (k : Int) := cshl_nat (Nat.lt_of_lt_of_le (show (par x (k + 1)).toNat < 2 by cases par x (k + 1) <;> decide) (by decide +kernel)) (by omega)
        have e2 : (((par x (k + 1)).toNat : Nat) : Int) * (2 : Int) ^ k = (((par x (k + 1)).toNat <<< k : Nat) : Int) := by rw [Nat.shiftLeft_eq]; simp
        have hx2 : Builtin.bitXor (((par x k).toNat : Nat) : Int) ((x : Int) / 2 ^ k % 2) = (((par x (k + 1)).toNat : Nat) : Int) := by
          have := bxor_nat (par x k).toNat (x / 2 ^ k % 2)
          rw [hs] at this
          simpa using this
        simp [fg15__law_value, fb15__law_value, wOp, wC, wVar, wSeq, wSet, wAsg, wName, wShlW, wShr, wBAnd, wBOr, wBXor, cond2_ii, stb, pur_i, sld_pur, free_nf, nf_shr, -List.map_map, I, I, n4, hb]
        rw [hx2]
        refine ⟨cs2, ?_⟩
        rw [e2, bor_nat, ob_or (fun i => par x (i + 1)) k]
        exact hN _ (by simp [nf_shr, isS, env_c, env_n, -List.map_map, I, I])
      · rintro ρ hE
        obtain ⟨_, _, rfl, rfl, hE1⟩ := env_cons hE; obtain ⟨_, _, rfl, rfl, hE2⟩ := env_cons hE1; obtain ⟨_, _, rfl, rfl, hE3⟩ := env_cons hE2; obtain ⟨_, _, rfl, rfl, hE4⟩ := env_cons hE3; obtain ⟨z4, _, rfl, n4, hE5⟩ := env_cons hE4; obtain ⟨_, _, rfl, rfl, hE6⟩ := env_cons hE5; obtain ⟨_, _, rfl, rfl, hE7⟩ := env_cons hE6; obtain ⟨_, _, rfl, rfl, hE8⟩ := env_cons hE7; obtain rfl := env_nil hE8; clear hE hE1 hE2 hE3 hE4 hE5 hE6 hE7 hE8
        simp [rs15__law_value, wRetV, -List.map_map, I, I]
        exact fT _
  | k2 o a b =>
    have ha : a < kn.length := h1.1
    have hb : b < kn.length := h1.2
    have fin : ∀ Q : DEnv → R → Prop, (∀ ρ, Q ρ (P (.int (val2 w o (nth kn a) (nth kn b) : Nat)))) → ct__law_pair_value.sd [P (.str o.nm), P (.int ((nth kn a : Nat) : Int)), P (.int ((nth kn b : Nat) : Int)), P (.int (2 ^ w - 1))] Q := fun Q q =>
      Ct.sd_mk (c := ct__law_pair_value) (o, nth kn a, nth kn b, w) rfl ⟨h2 _ (nth_mem ha), h2 _ (nth_mem hb), h3⟩ (by rintro ρ' r rfl; exact q ρ')
    cases o <;> (
      simp only [O2.nm] at fin
      simp [wb__law_value, rs4__law_value, wRet, wOp, wCons, wNil, wC, wCall, wIx_t0, wIx_t1, wIx_t2, wVar, wTup, wSeq, wSet, wAsg, wName, wIf, wNext, wSub, wShlW, wBAnd, cond2_ii, wFn, wIfE, startD, stb, itemK_int, itemK_str, purs_n, purs_c, pur_i, pur_s, pur_t, kTup_pur, sld_pur, free_nf, nf_none, sizeLine_eq, wEq_ss, wB_eq, booR_b, wInA_t, flatD, eqD_ss, ofStr_inj, -List.map_map, I, I, ct__law_value, cs, insD, O2.nm, wIx_known ha, wIx_known hb]
      refine fin _ fun ρ => ?_
      simp [pur_i, cv_pur, -List.map_map]
      exact hT _ _ rfl)
  | mk bits =>
    obtain ⟨b1, b2, b3⟩ := h1
    simp [wb__law_value, wRet, wOp, wCons, wNil, wC, wCall, wIx_t0, wVar, wTup, wSeq, wSet, wAsg, wName, wIf, wNext, wSub, wShlW, cond2_ii, wIfE, startD, stb, itemK_str, purs_n, purs_c, pur_i, pur_s, pur_t, kTup_pur, sld_pur, free_nf, nf_none, sizeLine_eq, wEq_ss, wB_eq, booR_b, wInA_t, flatD, eqD_ss, ofStr_inj, -List.map_map, I, pur_str, I, pur_str, ct__law_value, cs, insD]
    refine wLc0_mapE (List.range w) (fun i => PyData.int (i : Nat)) (fun i => I (nth bits (i % bits.length) * 2 ^ i)) (by rw [sizeLine_eq]; simp; omega) (fun Q q => ?_) (fun i y Q hi q => ?_) ?_
    · simp [wCons, wNil, wVar, stb, pur_i, -List.map_map, wRng1, rngD_nat]
      exact ⟨by omega, q⟩
    · obtain ⟨hi, rfl⟩ := range_inv hi
      have hm : i % bits.length < bits.length := Nat.mod_lt _ (by omega)
      have hn := b3 _ (nth_mem hm)
      have e1 : ((i : Int) % (bits.length : Int)) = ((i % bits.length : Nat) : Int) := by simp
      have cs3 : CShl ((nth bits (i % bits.length) : Nat) : Int) (i : Int) := cshl_nat (Nat.lt_of_lt_of_le hn (by decide +kernel)) (by omega)
      simp [cg5__law_value, ce5__law_value, wOp, wCons, wNil, wC, wCall, wIx_t1, wVar, wName, wMod, wShlW, cond2_ii, stb, itemK_shr, purs_n, purs_c, pur_i, pur_s, pur_t, sld_pur, free_nf, nf_none, wipeD, wInt_i, -List.map_map, pur_str, wLen_strD, pur_str, wLen_strD]
      refine ⟨by omega, ?_⟩
      rw [e1, wIx_str hm]
      simp [cond2_ii, -List.map_map]
      exact ⟨cs3, q _ _ (by simp [I]) rfl⟩
    · simp [wSumA_l, -List.map_map, I, I]
      refine ⟨(List.range w).map fun i => ((nth bits (i % bits.length) * 2 ^ i : Nat) : Int), by simp, ?_⟩
      rw [isum_map, msk_sum bits b3 b1]
      exact hT _ _ rfl
def fg2__law_run : WG := (wName 4)
def fb2__law_run : WS := (wDrop (wApp 3 false (wPlV 3) (wFn ct__law_value (wCons false (wVar 4) (wCons false (wVar 3) (wCons false (wVar 1) wNil))))))
def rs2__law_run : WS := (wRet (wOp false wIx (wVar 3) (wUn wNeg (wC (.int 1)))))
def wb__law_run : WS := (wSeq (wSet 3 (wCall wLstC (wCons false (wVar 2) wNil)))
    (wSeq (wFor (wSq false (wOp false wIx (wVar 0) (wC (.int 1)))) fg2__law_run fb2__law_run)
    rs2__law_run))
theorem rd__law_run (a : ct__law_run.α) (h : ct__law_run.pre a) : wb__law_run { nx := fun ρ => ct__law_run.post a ρ (DL.P .none), rt := ct__law_run.post a } (startD 5 (ct__law_run.args a)) := by
  suffices HH : ∀ (N : DEnv → Prop) (T : DEnv → R → Prop), (∀ ρ, ct__law_run.post a ρ (DL.P .none) → N ρ) → (∀ ρ r, ct__law_run.post a ρ r → T ρ r) → wb__law_run { nx := N, rt := T } (startD 5 (ct__law_run.args a)) from HH _ _ (fun _ h => h) (fun _ _ h => h)
  intro NN T hNN hT
  obtain ⟨m, rows, w, ws⟩ := a
  obtain ⟨h1, h2, h3, h0, h4, h5, h6⟩ := h
  have h1 : ws.length = m := h1
  have h2 : m ≤ 2 := h2
  have h3 : OkR m rows := h3
  have h0 : 1 ≤ rows.length := h0
  have h4 : rows.length ≤ 10000 := h4
  have h5 : ∀ x ∈ ws, x < 2 ^ w := h5
  have h6 : w ≤ 256 := h6
  have pr : purs (rows.map insD) = true := purs_map' fun p _ => pur_ins p
  simp [wb__law_run, wCons, wNil, wCall, wVar, wSeq, wSet, wAsg, wName, startD, stb, free_nf, nf_none, -List.map_map, I, pur_str, I, pur_str, ct__law_run]
  simp [strD, purs_I, kOf_pur, sld_ol, kOf_pur, wLstC_t, -List.map_map, purs_I, purs_I]
  refine wFor_ix rows insD (fun k ρ => Env [isS (some (P (progD m rows))), isS (some (P (I w))), isS (some (P (.tuple (ws.map I)))), isS (some ⟨.own, .list ((vals w ws (rows.take k)).map I)⟩), nf] ρ) (fun Q q => ?_) ?_ ?_
  · simp [wOp, wC, wIx_t1, wVar, stb, purs_n, purs_c, pur_t, -List.map_map, I, I, wSq, progD, pr, itemK_pur, pur]
    exact q _ (by simp [nf_none, isS, env_c, env_n, -List.map_map, I, I, progD, vals])
  · rintro k r ρ N hk hE hN
    obtain ⟨_, _, rfl, rfl, hE1⟩ := env_cons hE; obtain ⟨_, _, rfl, rfl, hE2⟩ := env_cons hE1; obtain ⟨_, _, rfl, rfl, hE3⟩ := env_cons hE2; obtain ⟨_, _, rfl, rfl, hE4⟩ := env_cons hE3; obtain ⟨z4, _, rfl, n4, hE5⟩ := env_cons hE4; obtain rfl := env_nil hE5; clear hE hE1 hE2 hE3 hE4 hE5
    have hl : k < rows.length := lt_of_some hk
    have hlen : (vals w ws (rows.take k)).length = m + k := by rw [vals_len, h1, List.length_take]; omega
    have okr : r.ok (m + k) := h3.get hk
    have okt : OkR ws.length (rows.take k) := by
      rw [h1]
      have : ∀ (rs : List Ins) (n k : Nat), OkR n rs → OkR n (rs.take k) := by
        intro rs
        induction rs with
        | nil => intro n k h; simpa using h
        | cons r rs ih =>
          intro n k h
          cases k with
          | zero => exact trivial
          | succ k => exact ⟨h.1, ih _ _ h.2⟩
      exact this rows m k h3
    simp [fg2__law_run, fb2__law_run, wCons, wNil, wVar, wName, wDrop, wFn, wPlV, wApp, stb, pur_i, pur_l, sld_pur, free_nf, owp, sizeLine_eq, -List.map_map, I, I, pur_ins, n4, dAt, upP, getP_nil, setP_nil, pur_ins]
    refine Ct.sd_mk (c := ct__law_value) (r, vals w ws (rows.take k), w) rfl ⟨by rw [hlen]; exact okr, vals_lt okt h5, h6⟩ ?_
    rintro ρ' r' rfl
    have ht : vals w ws (rows.take (k + 1)) = vals w ws (rows.take k) ++ [r.val w (vals w ws (rows.take k))] := by rw [take_succ_of hk, vals_snoc]
    simp [pur_i, cv_pur, -List.map_map, I, I]
    exact ⟨by rw [hlen]; omega, hN _ (by simp [nf_shr, isS, env_c, env_n, -List.map_map, I, I, ht])⟩
  · rintro ρ hE
    obtain ⟨_, _, rfl, rfl, hE1⟩ := env_cons hE; obtain ⟨_, _, rfl, rfl, hE2⟩ := env_cons hE1; obtain ⟨_, _, rfl, rfl, hE3⟩ := env_cons hE2; obtain ⟨_, _, rfl, rfl, hE4⟩ := env_cons hE3; obtain ⟨z4, _, rfl, n4, hE5⟩ := env_cons hE4; obtain rfl := env_nil hE5; clear hE hE1 hE2 hE3 hE4 hE5
    have h7 : (vals w ws rows).length = m + rows.length := by rw [vals_len, h1]
    simp [rs2__law_run, wRet, wOp, wC, wVar, wUn, stb, pur_l, wNeg_i, -List.map_map, I, I]
    rw [wIx_lL (by omega), h7]
    simp [itemK_int, -List.map_map, I, I]
    exact hT _ _ rfl
def fg5__law_due : WG := (wName 4)
def fb5__law_due : WS := (wSeq (wSet 5 (wIfE (wB (wOp false (wEq id) (wVar 2) (wC (.int 1)))) (wTup (wCons false (wVar 4) wNil)) (wTup (wCons false (wOp false wBAnd (wVar 4) (wOp false wSub (wOp false wShlW (wC (.int 1)) (wVar 1)) (wC (.int 1)))) (wCons false (wOp false wShr (wVar 4) (wVar 1)) wNil)))))
    (wDrop (wApp 3 false (wPlV 3) (wFn ct__law_run (wCons false (wVar 0) (wCons false (wVar 1) (wCons false (wVar 5) wNil)))))))
def rs5__law_due : WS := (wRet (wLst (wCons false (wC (.str "told")) (wCons false (wTup (wCons false (wVar 2) (wCons false (wVar 1) (wCons false (wCall wTupC (wCons false (wVar 3) wNil)) wNil)))) wNil))))
def rs2__law_due : WS := (wSeq (wSet 3 (wLst wNil))
    (wSeq (wFor (wRng1 (wCons false (wOp false wShlW (wC (.int 1)) (wOp false wMulT (wVar 2) (wVar 1))) wNil)) fg5__law_due fb5__law_due)
    rs5__law_due))
def wb__law_due : WS := (wSeq (wSet 2 (wOp false wIx (wVar 0) (wC (.int 0))))
    (wSeq (wIf (wOr (wB (wOp false (wEq id) (wVar 2) (wC (.int 0)))) (wOr (DL.wNot (DL.wTru (wFn ct__law_is_whole (wCons false (wVar 1) wNil)))) (wOr (wB (wOp false wLt (wVar 1) (wC (.int 1)))) (wB (wOp false wGt (wOp false wMulT (wVar 2) (wVar 1)) (wC (.int 8))))))) (wRet (wLst (wCons false (wC (.str "unfit")) (wCons false (wC (.bool true)) wNil)))) wNext)
    rs2__law_due))
theorem rd__law_due (a : ct__law_due.α) (h : ct__law_due.pre a) : wb__law_due { nx := fun ρ => ct__law_due.post a ρ (DL.P .none), rt := ct__law_due.post a } (startD 6 (ct__law_due.args a)) := by
  suffices HH : ∀ (N : DEnv → Prop) (T : DEnv → R → Prop), (∀ ρ, ct__law_due.post a ρ (DL.P .none) → N ρ) → (∀ ρ r, ct__law_due.post a ρ r → T ρ r) → wb__law_due { nx := N, rt := T } (startD 6 (ct__law_due.args a)) from HH _ _ (fun _ h => h) (fun _ _ h => h)
  intro NN T hNN hT
  obtain ⟨⟨m, rows⟩, d⟩ := a
  have o : OkP m rows := h
  have hm := o.hm
  have fT : ∀ ρ w, GoodW m d w → T ρ ⟨.own, .list [.str "told", tabD m w rows]⟩ := fun ρ w g => hT _ _ (.inl ⟨w, g, rfl⟩)
  have fU : ∀ ρ, BadW m d → T ρ ⟨.own, .list [.str "unfit", .bool true]⟩ := fun ρ b => hT _ _ (.inr ⟨b, rfl⟩)
  simp [wb__law_due, wRet, wOp, wLst, wCons, wNil, wC, wVar, wSeq, wSet, wAsg, wName, wIf, DL.wNot, wOr, wNext, wLt, wGt, wFn, startD, stb, pur_b, pur_i, pur_s, sld_pur, free_nf, nf_none, owp, kLst, sizeLine_eq, wEq_ii, wTru_eq, wB_eq, booR_b, -List.map_map, pur_prog, ct__law_due, wIx_prog0]
  by_cases h0 : m = 0
  · rw [if_pos h0]
    exact fU _ (.inl h0)
  rw [if_neg h0]
  refine Ct.sd_mk (c := ct__law_is_whole) d rfl trivial ?_
  rintro ρ r rfl
  cases d with
  | int i =>
    simp [cond2_ii, pur_b, cv_pur, wMul_ii, truR_b, booR_b, -List.map_map, isI]
    by_cases hi : i < 1
    · rw [if_pos hi]
      exact fU _ (.inr (by unfold okW; simp only [isI]; exact decide_eq_false fun z => by omega))
    rw [if_neg hi]
    have cm : CMul (m : Int) i := .inl (by omega)
    refine ⟨cm, ?_⟩
    by_cases hj : 8 < (m : Int) * i
    · rw [if_pos hj]
      exact fU _ (.inr (by unfold okW; simp only [isI]; exact decide_eq_false fun z => by omega))
    rw [if_neg hj]
    obtain ⟨w, gw⟩ := okW_good (m := m) (d := .int i) (by omega) (by unfold okW; simp only [isI]; exact decide_eq_true ⟨by omega, by omega⟩)
    have hw8 := gw.wle
    have hmw := gw.2.2.2
    have ei := gw.1
    injection ei with ei
    subst ei
    have e1 : (m : Int) * (w : Int) = ((m * w : Nat) : Int) := by simp
    have p8 : (2 : Nat) ^ (m * w) ≤ 2 ^ 8 := Nat.pow_le_pow_right (by decide) hmw
    have e2 : ((2 : Int) ^ (m * w)) = ((2 ^ (m * w) : Nat) : Int) := by simp
    have cs : CShl 1 ((m * w : Nat) : Int) := cshl_one
    have hm3 : m = 1 ∨ m = 2 := by omega
    simp [rs2__law_due, wLst, wNil, wSeq, wSet, wAsg, wName, wShlW, sld_ol, free_nf, nf_none, kLst, sizeLine_eq, -List.map_map]
    obtain ⟨PN, hPN⟩ : ∃ PN, 2 ^ (m * w) = PN := ⟨_, rfl⟩
    rw [hPN] at p8
    obtain ⟨F, hF⟩ : ∃ F : Nat → Nat, ∀ p, nth (vals w (wop m w p) rows) (m + rows.length - 1) = F p := ⟨fun p => nth (vals w (wop m w p) rows) (m + rows.length - 1), fun _ => rfl⟩
    have run : ∀ (k : Nat) (Q : DEnv → R → Prop), (∀ ρ, Q ρ (P (.int (F k : Nat)))) → ct__law_run.sd [P (progD m rows), P (.int (w : Nat)), P (strD (wop m w k))] Q := fun k Q q => sd_run (wop_len m w k) hm o.ok o.n1 (by have := o.n2; omega) (fun x hx => wop_lt hx) (by omega) fun ρ => by rw [hF]; exact q ρ
    refine wFor_ix (List.range PN) I (fun k ρ => Env [isS (some (P (progD m rows))), isS (some (P (.int (w : Nat)))), isS (some (P (I m))), isS (some ⟨.own, .list (((List.range k).map F).map I)⟩), nf, nf] ρ) (fun Q q => ?_) ?_ ?_
    · simp [wOp, wCons, wNil, wC, wVar, cond2_ii, stb, pur_i, wMul_ii, -List.map_map, wRng1, rngD_nat]
      rw [e1, Int.toNat_natCast, e2, hPN, Int.toNat_natCast]
      refine ⟨cm, cs, by omega, by omega, q _ (by simp [nf_none, isS, env_c, env_n, -List.map_map, I, I])⟩
    · rintro k x ρ N hk hE hN
      obtain ⟨_, _, rfl, rfl, hE1⟩ := env_cons hE; obtain ⟨_, _, rfl, rfl, hE2⟩ := env_cons hE1; obtain ⟨_, _, rfl, rfl, hE3⟩ := env_cons hE2; obtain ⟨_, _, rfl, rfl, hE4⟩ := env_cons hE3; obtain ⟨z4, _, rfl, n4, hE5⟩ := env_cons hE4; obtain ⟨z5, _, rfl, n5, hE6⟩ := env_cons hE5; obtain rfl := env_nil hE6; clear hE hE1 hE2 hE3 hE4 hE5 hE6
      obtain ⟨hkk, rfl⟩ := range_inv hk
      have fin : ∀ (v : PyData), v = strD (wop m w k) → ct__law_run.sd [P (progD m rows), P (.int (w : Nat)), P v] fun x r => ((cv r).k = Kd.own ∨ pur (cv r).d = true) ∧ k < 16777216 ∧ N [some (P (progD m rows)), some (P (PyData.int (w : Nat))), some (P (PyData.int (m : Nat))), some ⟨.own, PyData.list (((List.range k).map F).map I ++ [(cv r).d])⟩, some (P (PyData.int (k : Nat))), some (P v)] := by
        rintro v rfl
        refine run k _ fun ρ => ?_
        simp [pur_i, cv_pur, -List.map_map]
        refine ⟨by omega, hN _ (by simp [nf_shr, isS, env_c, env_n, -List.map_map, I, I, List.range_succ])⟩
      rcases hm3 with rfl | rfl
      · have ew := wop1 (w := w) (p := k) (by rw [hPN]; exact hkk)
        simp [fg5__law_due, fb5__law_due, wOp, wCons, wNil, wC, wVar, wTup, wSeq, wSet, wAsg, wName, wDrop, wSub, wShlW, wShr, wBAnd, cond2_ii, wFn, wPlV, wApp, wIfE, stb, purs_n, purs_c, pur_i, pur_t, kTup_pur, sld_pur, free_nf, owp, sizeLine_eq, wEq_ii, wB_eq, booR_b, -List.map_map, I, I, n4, n5, dAt, upP, getP_nil, setP_nil]
        have := fin (.tuple [.int (k : Nat)]) (by rw [ew]; rfl)
        simpa [wTry, wClD, wFnX, wFnXK, wRaise0, wRaise1, wIsX, wXf, unD, atD, okN, isa, Ek.field, isEx, exD, wRet, wOp, wLst, wCons, wNil, wC, wCall, wLen_lst, wLen_tup, wLen_str, wIx_t0, wIx_t1, wIx_l0, wIx_l1, wIx_l2, wIx_t2, wIx_l3, wVar, wTup, wSeq, wCut, wSet, wAsg, wName, wPar, wgCons_cons, wgNil_nil, wT_lit, wIf, DL.wNot, wAnd, wOr, wDrop, wNext, wBreak, wCont, wRetN, wSub, wFdiv, wMod, wPow, wShl, wShlW, wShr, wBAnd, wBOr, wBXor, wLt, wLe, wGt, wGe, cond2_ii, wFn, wFnM, wFnK, wDGet, wDisp, dzip, wPlV, wPlIx, wPlKey, wApp, wPopE, wPop0, wIns, wPut, wAugP, wDPut, wPart, wNoPart, wUn, wIfE, wRetV, frz, wMove, wAug, wIAdd, startD, stb, itemK_int, itemK_str, itemK_shr, purs_n, purs_c, pur_n, pur_b, pur_i, pur_s, pur_l, pur_d, pur_t, ndcs_n, ndcs_c, ndc_n, ndc_b, ndc_i, ndc_s, ndc_l, ndc_t, kTup_pur, sld_shr, sld_ol, sld_od, sld_pur, sld_int, sld_str, sld_bool, sld_none, sld_tup, kOfT_pur, kOf_pur, purs_take, purs_drop, purs_app, purs_rep, free_nf, nf_none, nf_shr, nf_own, owp, kLst, sizeLine_eq, wipeD, cv_int, cv_str, cv_bool, cv_own, cv_pur, itemK_own, itemK_fix, itemK_lst, itemK_dct, isS, env_c, env_n, wEq_ss, wEq_ii, wEq_ll, wEq_tt, wAdd_ii, wAdd_ss, wAdd_ll, wAdd_tt, wMul_ii, wMul_li, wMul_ti, wInt_i, wInt_b, wInt_s, wStr_i, wStr_s, wAbs_i, wSumA_l, wSumA_t, wTupC_l, wTupC_t, wLstC_l, wLstC_t, wMax_ii, wMin_ii, wNeg_i, wSlc_eq, cutR_l, cutR_t, cutR_s, cutD_to, cutD_from, wTru_eq, truR_n, truR_b, truR_i, truR_s, truR_l, truR_t, wB_eq, booR_b, wIs_n, isNo_n, isNo_i, isNo_t, isNo_l, isNo_s, isNo_b, wIn_l, wIsi, isD, tyD, wRgL1, wRgL2, rgR_i, wStar, sqd, wIdx, wExt, eqv_lnil, eqv_tnil, shaped_nil, wAndV_eq, wOrV_eq, wNotV_eq, wInA_l, wInA_t, wInA_d, flatD, wVarM, wFnA, wSlcL_eq, cutR2_l, kSl_ne, wRevL_eq, revR_l, wAddS_ii, wAddS_tt, wAddS_ll, wSlcS_eq, cutRS_t, cutRS_l, wLstS_t, wLstS_l, cvS_P, wInT_t, wFnS, wFnMS, wAsgM, wMTup, wMName, wMSub, wMCons_cons, wMNil_nil, cv_shl, eqD_ss, eqD_ii, ofStr_inj, -List.map_map, I, cv_mac, cv_rows, pur_mac, pur_rows, purs_rows, pur_row, purs_steps, pur_step, pur_str, purs_I, wIx_mac0, wIx_mac1, wIx_step0, wIx_step1, wT_step, wT_mac, wLen_rows, wLen_row, wLen_strD, cutR_to, cutR_from, cv_strD, cv_stepD, wAdd_str, wMul_str, I, cv_mac, cv_rows, pur_mac, pur_rows, purs_rows, pur_row, purs_steps, pur_step, pur_str, purs_I, wIx_mac0, wIx_mac1, wIx_step0, wIx_step1, wT_step, wT_mac, wLen_rows, wLen_row, wLen_strD, cutR_to, cutR_from, cv_strD, cv_stepD, wAdd_str, wMul_str, pur_ins, pur_prog, wIx_ins0, cv_ins, cv_prog, sld_ins, sld_prog] using this
      · have ew := wop2 (w := w) (p := k) (by rw [hPN]; exact hkk)
        have e5 : Builtin.bitAnd (k : Int) (2 ^ w - 1) = ((k % 2 ^ w : Nat) : Int) := by rw [topI, band_top]
        have e6 : (k : Int) / 2 ^ w = ((k / 2 ^ w : Nat) : Int) := by simp
        simp [fg5__law_due, fb5__law_due, wOp, wCons, wNil, wC, wVar, wTup, wSeq, wSet, wAsg, wName, wDrop, wSub, wShlW, wShr, wBAnd, cond2_ii, wFn, wPlV, wApp, wIfE, stb, purs_n, purs_c, pur_i, pur_t, kTup_pur, sld_pur, free_nf, owp, sizeLine_eq, wEq_ii, wB_eq, booR_b, -List.map_map, I, I, n4, n5, dAt, upP, getP_nil, setP_nil]
        rw [e5, e6]
        refine ⟨cshl_one, ?_⟩
        have := fin (.tuple [.int ((k % 2 ^ w : Nat) : Int), .int ((k / 2 ^ w : Nat) : Int)]) (by rw [ew]; rfl)
        simpa [wTry, wClD, wFnX, wFnXK, wRaise0, wRaise1, wIsX, wXf, unD, atD, okN, isa, Ek.field, isEx, exD, wRet, wOp, wLst, wCons, wNil, wC, wCall, wLen_lst, wLen_tup, wLen_str, wIx_t0, wIx_t1, wIx_l0, wIx_l1, wIx_l2, wIx_t2, wIx_l3, wVar, wTup, wSeq, wCut, wSet, wAsg, wName, wPar, wgCons_cons, wgNil_nil, wT_lit, wIf, DL.wNot, wAnd, wOr, wDrop, wNext, wBreak, wCont, wRetN, wSub, wFdiv, wMod, wPow, wShl, wShlW, wShr, wBAnd, wBOr, wBXor, wLt, wLe, wGt, wGe, cond2_ii, wFn, wFnM, wFnK, wDGet, wDisp, dzip, wPlV, wPlIx, wPlKey, wApp, wPopE, wPop0, wIns, wPut, wAugP, wDPut, wPart, wNoPart, wUn, wIfE, wRetV, frz, wMove, wAug, wIAdd, startD, stb, itemK_int, itemK_str, itemK_shr, purs_n, purs_c, pur_n, pur_b, pur_i, pur_s, pur_l, pur_d, pur_t, ndcs_n, ndcs_c, ndc_n, ndc_b, ndc_i, ndc_s, ndc_l, ndc_t, kTup_pur, sld_shr, sld_ol, sld_od, sld_pur, sld_int, sld_str, sld_bool, sld_none, sld_tup, kOfT_pur, kOf_pur, purs_take, purs_drop, purs_app, purs_rep, free_nf, nf_none, nf_shr, nf_own, owp, kLst, sizeLine_eq, wipeD, cv_int, cv_str, cv_bool, cv_own, cv_pur, itemK_own, itemK_fix, itemK_lst, itemK_dct, isS, env_c, env_n, wEq_ss, wEq_ii, wEq_ll, wEq_tt, wAdd_ii, wAdd_ss, wAdd_ll, wAdd_tt, wMul_ii, wMul_li, wMul_ti, wInt_i, wInt_b, wInt_s, wStr_i, wStr_s, wAbs_i, wSumA_l, wSumA_t, wTupC_l, wTupC_t, wLstC_l, wLstC_t, wMax_ii, wMin_ii, wNeg_i, wSlc_eq, cutR_l, cutR_t, cutR_s, cutD_to, cutD_from, wTru_eq, truR_n, truR_b, truR_i, truR_s, truR_l, truR_t, wB_eq, booR_b, wIs_n, isNo_n, isNo_i, isNo_t, isNo_l, isNo_s, isNo_b, wIn_l, wIsi, isD, tyD, wRgL1, wRgL2, rgR_i, wStar, sqd, wIdx, wExt, eqv_lnil, eqv_tnil, shaped_nil, wAndV_eq, wOrV_eq, wNotV_eq, wInA_l, wInA_t, wInA_d, flatD, wVarM, wFnA, wSlcL_eq, cutR2_l, kSl_ne, wRevL_eq, revR_l, wAddS_ii, wAddS_tt, wAddS_ll, wSlcS_eq, cutRS_t, cutRS_l, wLstS_t, wLstS_l, cvS_P, wInT_t, wFnS, wFnMS, wAsgM, wMTup, wMName, wMSub, wMCons_cons, wMNil_nil, cv_shl, eqD_ss, eqD_ii, ofStr_inj, -List.map_map, I, cv_mac, cv_rows, pur_mac, pur_rows, purs_rows, pur_row, purs_steps, pur_step, pur_str, purs_I, wIx_mac0, wIx_mac1, wIx_step0, wIx_step1, wT_step, wT_mac, wLen_rows, wLen_row, wLen_strD, cutR_to, cutR_from, cv_strD, cv_stepD, wAdd_str, wMul_str, I, cv_mac, cv_rows, pur_mac, pur_rows, purs_rows, pur_row, purs_steps, pur_step, pur_str, purs_I, wIx_mac0, wIx_mac1, wIx_step0, wIx_step1, wT_step, wT_mac, wLen_rows, wLen_row, wLen_strD, cutR_to, cutR_from, cv_strD, cv_stepD, wAdd_str, wMul_str, pur_ins, pur_prog, wIx_ins0, cv_ins, cv_prog, sld_ins, sld_prog] using this
    · rintro ρ hE
      obtain ⟨_, _, rfl, rfl, hE1⟩ := env_cons hE; obtain ⟨_, _, rfl, rfl, hE2⟩ := env_cons hE1; obtain ⟨_, _, rfl, rfl, hE3⟩ := env_cons hE2; obtain ⟨_, _, rfl, rfl, hE4⟩ := env_cons hE3; obtain ⟨z4, _, rfl, n4, hE5⟩ := env_cons hE4; obtain ⟨z5, _, rfl, n5, hE6⟩ := env_cons hE5; obtain rfl := env_nil hE6; clear hE hE1 hE2 hE3 hE4 hE5 hE6
      have ea : (List.range PN).map F = ansOf m w rows := by
        unfold ansOf
        rw [hPN]
        exact List.map_congr_left fun p _ => (hF p).symm
      rw [List.length_range, ea]
      simp [rs5__law_due, wRet, wLst, wCons, wNil, wC, wCall, wVar, wTup, stb, purs_n, purs_c, pur_i, pur_s, pur_l, pur_t, kTup_pur, kOfT_pur, owp, kLst, sizeLine_eq, wTupC_l, -List.map_map, I, purs_I, I, purs_I]
      exact fT _ w gw
  | _ =>
    simp [pur_b, cv_pur, truR_b, -List.map_map, isI]
    exact fU _ (.inr rfl)
def wb_is_integer : WS := (wRet (wAndV (wIsi "int" (wVar 0)) (wNotV (wIsi "bool" (wVar 0)))))
theorem rd_is_integer (a : ct_is_integer.α) (h : ct_is_integer.pre a) : wb_is_integer { nx := fun ρ => ct_is_integer.post a ρ (DL.P .none), rt := ct_is_integer.post a } (startD 1 (ct_is_integer.args a)) := by
  suffices HH : ∀ (N : DEnv → Prop) (T : DEnv → R → Prop), (∀ ρ, ct_is_integer.post a ρ (DL.P .none) → N ρ) → (∀ ρ r, ct_is_integer.post a ρ r → T ρ r) → wb_is_integer { nx := N, rt := T } (startD 1 (ct_is_integer.args a)) from HH _ _ (fun _ h => h) (fun _ _ h => h)
  intro NN T hNN hT
  have key : ∀ d : PyData, (∀ ρ r, r = P (.bool (isI d).isSome) → T ρ r) → wb_is_integer { nx := NN, rt := T } (startD 1 [P d]) := by
    intro d hT
    cases d <;> simp [wb_is_integer, wRet, wVar, startD, booR_b, wIsi, isD, tyD, wAndV_eq, wNotV_eq, -List.map_map]
    all_goals exact hT _ _ rfl
  exact key a fun ρ r e => hT ρ r e
def wb_is_width : WS := (wRet (wAndV (wFn ct_is_integer (wCons false (wVar 1) wNil)) (wAndV (wOp false wGe (wVar 1) (wC (.int 1))) (wOp false wLe (wOp false wMulT (wVar 0) (wVar 1)) (wC (.int 8))))))
theorem rd_is_width (a : ct_is_width.α) (h : ct_is_width.pre a) : wb_is_width { nx := fun ρ => ct_is_width.post a ρ (DL.P .none), rt := ct_is_width.post a } (startD 2 (ct_is_width.args a)) := by
  suffices HH : ∀ (N : DEnv → Prop) (T : DEnv → R → Prop), (∀ ρ, ct_is_width.post a ρ (DL.P .none) → N ρ) → (∀ ρ r, ct_is_width.post a ρ r → T ρ r) → wb_is_width { nx := N, rt := T } (startD 2 (ct_is_width.args a)) from HH _ _ (fun _ h => h) (fun _ _ h => h)
  intro NN T hNN hT
  obtain ⟨m, d⟩ := a
  have h : m = 1 ∨ m = 2 := h
  have key : ∀ d : PyData, (∀ ρ r, r = P (.bool (okW m d)) → T ρ r) → wb_is_width { nx := NN, rt := T } (startD 2 [P (.int (m : Nat)), P d]) := by
    intro d hT
    simp [wb_is_width, wRet, wOp, wCons, wNil, wC, wVar, wLe, wGe, wFn, startD, stb, pur_i, wAndV_eq, -List.map_map]
    refine Ct.sd_mk (c := ct_is_integer) d rfl trivial ?_
    rintro ρ' r rfl
    cases d with
    | int i =>
      simp [cond2_ii, pur_b, cv_pur, wMul_ii, booR_b, -List.map_map, isI]
      by_cases h1 : 1 ≤ i
      · have cm : CMul (m : Int) i := .inl (by omega)
        simp [h1, -List.map_map, cm]
        exact hT _ _ (by simp [okW, isI, h1])
      · simp [h1]
        exact hT _ _ (by simp [okW, isI, h1])
    | _ =>
      simp [pur_b, cv_pur, booR_b, -List.map_map, isI]
      exact hT _ _ rfl
  exact key d fun ρ r e => hT ρ r e
def wb_value_of_two : WS := (wSeq (wIf (wB (wOp false (wEq id) (wVar 0) (wC (.str "and")))) (wRet (wOp false wBAnd (wVar 1) (wVar 2))) wNext)
    (wSeq (wIf (wB (wOp false (wEq id) (wVar 0) (wC (.str "or")))) (wRet (wOp false wBOr (wVar 1) (wVar 2))) wNext)
    (wSeq (wIf (wB (wOp false (wEq id) (wVar 0) (wC (.str "xor")))) (wRet (wOp false wBXor (wVar 1) (wVar 2))) wNext)
    (wSeq (wSet 4 (wOp false wSub (wOp false wShlW (wC (.int 1)) (wVar 3)) (wC (.int 1))))
    (wRet (wIfE (wB (wOp false (wEq id) (wVar 0) (wC (.str "plus")))) (wOp false wBAnd (wOp false wAdd (wVar 1) (wVar 2)) (wVar 4)) (wOp false wBAnd (wOp false wSub (wVar 1) (wVar 2)) (wVar 4))))))))
theorem rd_value_of_two (a : ct_value_of_two.α) (h : ct_value_of_two.pre a) : wb_value_of_two { nx := fun ρ => ct_value_of_two.post a ρ (DL.P .none), rt := ct_value_of_two.post a } (startD 5 (ct_value_of_two.args a)) := by
  suffices HH : ∀ (N : DEnv → Prop) (T : DEnv → R → Prop), (∀ ρ, ct_value_of_two.post a ρ (DL.P .none) → N ρ) → (∀ ρ r, ct_value_of_two.post a ρ r → T ρ r) → wb_value_of_two { nx := N, rt := T } (startD 5 (ct_value_of_two.args a)) from HH _ _ (fun _ h => h) (fun _ _ h => h)
  intro NN T hNN hT
  obtain ⟨o, x, y, w⟩ := a
  obtain ⟨h1, h2, h3⟩ := h
  have h1 : x < 2 ^ w := h1
  have h2 : y < 2 ^ w := h2
  have h3 : w ≤ 256 := h3
  have cs : CShl 1 (w : Int) := cshl_one
  cases o
  · simp [wb_value_of_two, wRet, wOp, wC, wVar, wSeq, wSet, wAsg, wName, wIf, wNext, wSub, wShlW, wBAnd, wBOr, wBXor, cond2_ii, wIfE, startD, stb, pur_i, pur_s, sld_pur, free_nf, nf_none, wEq_ss, wAdd_ii, wB_eq, booR_b, ofStr_inj, -List.map_map, I, I, ct_value_of_two, cs, O2.nm, topI]
    rw [band_nat]
    exact hT _ _ rfl
  · simp [wb_value_of_two, wRet, wOp, wC, wVar, wSeq, wSet, wAsg, wName, wIf, wNext, wSub, wShlW, wBAnd, wBOr, wBXor, cond2_ii, wIfE, startD, stb, pur_i, pur_s, sld_pur, free_nf, nf_none, wEq_ss, wAdd_ii, wB_eq, booR_b, ofStr_inj, -List.map_map, I, I, ct_value_of_two, cs, O2.nm, topI]
    rw [bor_nat]
    exact hT _ _ rfl
  · simp [wb_value_of_two, wRet, wOp, wC, wVar, wSeq, wSet, wAsg, wName, wIf, wNext, wSub, wShlW, wBAnd, wBOr, wBXor, cond2_ii, wIfE, startD, stb, pur_i, pur_s, sld_pur, free_nf, nf_none, wEq_ss, wAdd_ii, wB_eq, booR_b, ofStr_inj, -List.map_map, I, I, ct_value_of_two, cs, O2.nm, topI]
    rw [bxor_nat]
    exact hT _ _ rfl
  · simp [wb_value_of_two, wRet, wOp, wC, wVar, wSeq, wSet, wAsg, wName, wIf, wNext, wSub, wShlW, wBAnd, wBOr, wBXor, cond2_ii, wIfE, startD, stb, pur_i, pur_s, sld_pur, free_nf, nf_none, wEq_ss, wAdd_ii, wB_eq, booR_b, ofStr_inj, -List.map_map, I, I, ct_value_of_two, cs, O2.nm, topI]
    rw [show (x : Int) + (y : Int) = ((x + y : Nat) : Int) by omega, band_top]
    exact hT _ _ rfl
  · simp [wb_value_of_two, wRet, wOp, wC, wVar, wSeq, wSet, wAsg, wName, wIf, wNext, wSub, wShlW, wBAnd, wBOr, wBXor, cond2_ii, wIfE, startD, stb, pur_i, pur_s, sld_pur, free_nf, nf_none, wEq_ss, wAdd_ii, wB_eq, booR_b, ofStr_inj, -List.map_map, I, I, ct_value_of_two, cs, O2.nm, topI]
    rw [band_topZ, modZ_less h2]
    exact hT _ _ rfl
def fg2_mask_word : WG := (wName 3)
def fb2_mask_word : WS := (wSet 2 (wOp false wBOr (wVar 2) (wOp false wShlW (wOp false wIx (wVar 0) (wOp false wMod (wVar 3) (wCall wLen (wCons false (wVar 0) wNil)))) (wVar 3))))
def rs2_mask_word : WS := (wRetV 2)
def wb_mask_word : WS := (wSeq (wSet 2 (wC (.int 0)))
    (wSeq (wFor (wRng1 (wCons false (wVar 1) wNil)) fg2_mask_word fb2_mask_word)
    rs2_mask_word))
theorem rd_mask_word (a : ct_mask_word.α) (h : ct_mask_word.pre a) : wb_mask_word { nx := fun ρ => ct_mask_word.post a ρ (DL.P .none), rt := ct_mask_word.post a } (startD 4 (ct_mask_word.args a)) := by
  suffices HH : ∀ (N : DEnv → Prop) (T : DEnv → R → Prop), (∀ ρ, ct_mask_word.post a ρ (DL.P .none) → N ρ) → (∀ ρ r, ct_mask_word.post a ρ r → T ρ r) → wb_mask_word { nx := N, rt := T } (startD 4 (ct_mask_word.args a)) from HH _ _ (fun _ h => h) (fun _ _ h => h)
  intro NN T hNN hT
  obtain ⟨bits, w⟩ := a
  obtain ⟨h1, h2, h3, h4⟩ := h
  have h1 : 1 ≤ bits.length := h1
  have h2 : bits.length ≤ 48 := h2
  have h3 : ∀ x ∈ bits, x < 2 := h3
  have h4 : w ≤ 256 := h4
  simp [wb_mask_word, wC, wSeq, wSet, wAsg, wName, startD, pur_i, sld_pur, free_nf, nf_none, -List.map_map, I, I, ct_mask_word]
  refine wFor_ix (List.range w) I (fun k ρ => Env [isS (some (P (strD bits))), isS (some (P (I w))), isS (some (P (I (msk bits k)))), nf] ρ) (fun Q q => ?_) ?_ ?_
  · simp [wCons, wNil, wVar, stb, pur_i, -List.map_map, wRng1, rngD_nat]
    exact ⟨by omega, q _ (by simp [nf_none, isS, env_c, env_n, -List.map_map, I, I, msk, ob])⟩
  · rintro k x ρ N hk hE hN
    obtain ⟨_, _, rfl, rfl, hE1⟩ := env_cons hE; obtain ⟨_, _, rfl, rfl, hE2⟩ := env_cons hE1; obtain ⟨_, _, rfl, rfl, hE3⟩ := env_cons hE2; obtain ⟨z3, _, rfl, n3, hE4⟩ := env_cons hE3; obtain rfl := env_nil hE4; clear hE hE1 hE2 hE3 hE4
    obtain ⟨hk, rfl⟩ := range_inv hk
    have hm : k % bits.length < bits.length := Nat.mod_lt _ (by omega)
    have hn := h3 _ (nth_mem hm)
    have e1 : ((k : Int) % (bits.length : Int)) = ((k % bits.length : Nat) : Int) := by simp
    simp [fg2_mask_word, fb2_mask_word, wOp, wCons, wNil, wCall, wVar, wSet, wAsg, wName, wMod, wShlW, wBOr, cond2_ii, stb, pur_i, sld_pur, free_nf, nf_shr, -List.map_map, I, pur_str, wLen_strD, I, pur_str, wLen_strD, n3]
    rw [e1, wIx_str hm]
    have hs := msk_step bits h3 h1 k
    have cs : CShl ((nth bits (k % bits.length) : Nat) : Int) (k : Int) := cshl_nat (Nat.lt_of_lt_of_le hn (by decide +kernel)) (by omega)
    have e2 : ((nth bits (k % bits.length) : Nat) : Int) * (2 : Int) ^ k = ((nth bits (k % bits.length) <<< k : Nat) : Int) := by rw [Nat.shiftLeft_eq]; simp
    simp [cond2_ii, pur_i, sld_pur, -List.map_map, cs]
    rw [e2, bor_nat, hs]
    exact ⟨by omega, hN _ (by simp [nf_shr, isS, env_c, env_n, -List.map_map, I, I])⟩
  · rintro ρ hE
    obtain ⟨_, _, rfl, rfl, hE1⟩ := env_cons hE; obtain ⟨_, _, rfl, rfl, hE2⟩ := env_cons hE1; obtain ⟨_, _, rfl, rfl, hE3⟩ := env_cons hE2; obtain ⟨z3, _, rfl, n3, hE4⟩ := env_cons hE3; obtain rfl := env_nil hE4; clear hE hE1 hE2 hE3 hE4
    simp [rs2_mask_word, wRetV, -List.map_map, I, I]
    exact hT _ _ rfl
def wt2_prefix_word : WT := (wB (wOp false wLt (wVar 3) (wVar 1)))
def wb2_prefix_word : WS := (wSeq (wSet 2 (wOp false wBXor (wVar 2) (wOp false wShlW (wVar 2) (wVar 3))))
    (wSet 3 (wOp false wMulT (wVar 3) (wC (.int 2)))))
def rs2_prefix_word : WS := (wRet (wOp false wBAnd (wVar 2) (wOp false wSub (wOp false wShlW (wC (.int 1)) (wVar 1)) (wC (.int 1)))))
def wb_prefix_word : WS := (wSeq (wPar (wCons false (wVar 0) (wCons false (wC (.int 1)) wNil)) (wgCons (wName 2) (wgCons (wName 3) wgNil)))
    (wSeq (wWhile wt2_prefix_word wb2_prefix_word)
    rs2_prefix_word))
theorem rd_prefix_word (a : ct_prefix_word.α) (h : ct_prefix_word.pre a) : wb_prefix_word { nx := fun ρ => ct_prefix_word.post a ρ (DL.P .none), rt := ct_prefix_word.post a } (startD 4 (ct_prefix_word.args a)) := by
  suffices HH : ∀ (N : DEnv → Prop) (T : DEnv → R → Prop), (∀ ρ, ct_prefix_word.post a ρ (DL.P .none) → N ρ) → (∀ ρ r, ct_prefix_word.post a ρ r → T ρ r) → wb_prefix_word { nx := N, rt := T } (startD 4 (ct_prefix_word.args a)) from HH _ _ (fun _ h => h) (fun _ _ h => h)
  intro NN T hNN hT
  obtain ⟨x, w⟩ := a
  obtain ⟨h1, h2⟩ := h
  have h1 : x < 2 ^ w := h1
  have h2 : w ≤ 256 := h2
  simp [wb_prefix_word, wCons, wNil, wC, wVar, wSeq, wName, wPar, wgCons_cons, wgNil_nil, startD, stb, pur_i, sld_pur, free_nf, nf_none, owp, -List.map_map, I, I, ct_prefix_word]
  refine wWhile_by (fun m ρ => ∃ s f, 1 ≤ s ∧ (∀ i, f.testBit i = parS x s i) ∧ f < 2 ^ (w + s) ∧ s ≤ 512 ∧ m = 512 - s ∧ Env [isS (some (P (I x))), isS (some (P (I w))), isS (some (P (I f))), isS (some (P (I s)))] ρ) 511 ⟨1, x, by omega, fun i => (par_pre_one x i).symm, Nat.lt_of_lt_of_le h1 (Nat.pow_le_pow_right (by decide) (by omega)), by omega, rfl, by simp [isS, env_c, env_n, -List.map_map, I, I]⟩ ?_
  rintro m ρ M ⟨s, f, hs, hf, hb, hm2, hm, hE⟩ hM
  obtain ⟨_, _, rfl, rfl, hE1⟩ := env_cons hE; obtain ⟨_, _, rfl, rfl, hE2⟩ := env_cons hE1; obtain ⟨_, _, rfl, rfl, hE3⟩ := env_cons hE2; obtain ⟨_, _, rfl, rfl, hE4⟩ := env_cons hE3; obtain rfl := env_nil hE4; clear hE hE1 hE2 hE3 hE4
  simp [wt2_prefix_word, wOp, wVar, wLt, cond2_ii, stb, pur_i, wB_eq, booR_b, -List.map_map, I, I]
  by_cases hlt : s < w
  · simp [hlt]
    refine ⟨M, fun _ h => h, ?_⟩
    have cs : CShl ((f : Nat) : Int) (s : Int) := cshl_nat (Nat.lt_of_lt_of_le hb (Nat.pow_le_pow_right (by decide) (by omega))) (by omega)
    have e2 : (f : Int) * (2 : Int) ^ s = ((f <<< s : Nat) : Int) := by rw [Nat.shiftLeft_eq]; simp
    simp [wb2_prefix_word, wOp, wC, wVar, wSeq, wSet, wAsg, wName, wShlW, wBXor, cond2_ii, stb, pur_i, sld_pur, free_nf, nf_shr, wMul_ii, -List.map_map, cs, CMul]
    rw [e2, bxor_nat]
    have hb2 : f ^^^ (f <<< s) < 2 ^ (w + s * 2) := by
      refine Nat.xor_lt_two_pow (Nat.lt_of_lt_of_le hb (Nat.pow_le_pow_right (by decide) (by omega))) ?_
      rw [Nat.shiftLeft_eq, show w + s * 2 = (w + s) + s by omega, Nat.pow_add 2 (w + s) s]
      exact Nat.mul_lt_mul_of_pos_right hb (Nat.two_pow_pos s)
    exact hM _ _ (by omega) ⟨s * 2, f ^^^ (f <<< s), by omega, pre_step hf hs, hb2, by omega, rfl, by simp [isS, env_c, env_n, -List.map_map, I, I]⟩
  · simp [hlt, rs2_prefix_word, wRet, wOp, wC, wVar, wSub, wShlW, wBAnd, cond2_ii, stb, pur_i, -List.map_map]
    rw [topI, band_top, pre_end hf (by omega)]
    exact ⟨cshl_one, hT _ _ rfl⟩
def wb_value_of_one : WS := (wSeq (wSet 3 (wOp false wSub (wOp false wShlW (wC (.int 1)) (wVar 2)) (wC (.int 1))))
    (wSeq (wIf (wB (wOp false (wEq id) (wVar 0) (wC (.str "not")))) (wRet (wOp false wBXor (wVar 3) (wVar 1))) wNext)
    (wSeq (wIf (wB (wOp false (wEq id) (wVar 0) (wC (.str "twice")))) (wRet (wOp false wBAnd (wOp false wShlW (wVar 1) (wC (.int 1))) (wVar 3))) wNext)
    (wRet (wIfE (wB (wOp false (wEq id) (wVar 0) (wC (.str "minus")))) (wOp false wBAnd (wUn wNeg (wVar 1)) (wVar 3)) (wFn ct_prefix_word (wCons false (wVar 1) (wCons false (wVar 2) wNil))))))))
theorem rd_value_of_one (a : ct_value_of_one.α) (h : ct_value_of_one.pre a) : wb_value_of_one { nx := fun ρ => ct_value_of_one.post a ρ (DL.P .none), rt := ct_value_of_one.post a } (startD 4 (ct_value_of_one.args a)) := by
  suffices HH : ∀ (N : DEnv → Prop) (T : DEnv → R → Prop), (∀ ρ, ct_value_of_one.post a ρ (DL.P .none) → N ρ) → (∀ ρ r, ct_value_of_one.post a ρ r → T ρ r) → wb_value_of_one { nx := N, rt := T } (startD 4 (ct_value_of_one.args a)) from HH _ _ (fun _ h => h) (fun _ _ h => h)
  intro NN T hNN hT
  obtain ⟨o, x, w⟩ := a
  obtain ⟨h1, h2⟩ := h
  have h1 : x < 2 ^ w := h1
  have h2 : w ≤ 256 := h2
  have cs : CShl 1 (w : Int) := cshl_one
  have cx : CShl (x : Int) 1 := cshl_nat (b := 1) (Nat.lt_of_lt_of_le h1 (Nat.pow_le_pow_right (by decide) (by omega))) (by omega)
  have l1 := (val1_lt (w := w) (o := o) (x := x))
  cases o
  · simp [wb_value_of_one, wRet, wOp, wCons, wNil, wC, wVar, wSeq, wSet, wAsg, wName, wIf, wNext, wSub, wShlW, wBAnd, wBXor, cond2_ii, wFn, wUn, wIfE, startD, stb, pur_i, pur_s, sld_pur, free_nf, nf_none, wEq_ss, wNeg_i, wB_eq, booR_b, ofStr_inj, -List.map_map, I, I, ct_value_of_one, cs, O1.nm, topI]
    rw [bxor_nat, xor_top h1]
    exact hT _ _ rfl
  · simp [wb_value_of_one, wRet, wOp, wCons, wNil, wC, wVar, wSeq, wSet, wAsg, wName, wIf, wNext, wSub, wShlW, wBAnd, wBXor, cond2_ii, wFn, wUn, wIfE, startD, stb, pur_i, pur_s, sld_pur, free_nf, nf_none, wEq_ss, wNeg_i, wB_eq, booR_b, ofStr_inj, -List.map_map, I, I, ct_value_of_one, cs, O1.nm, topI, cx]
    rw [show (x : Int) * 2 = ((2 * x : Nat) : Int) by omega, band_top]
    exact hT _ _ rfl
  · simp [wb_value_of_one, wRet, wOp, wCons, wNil, wC, wVar, wSeq, wSet, wAsg, wName, wIf, wNext, wSub, wShlW, wBAnd, wBXor, cond2_ii, wFn, wUn, wIfE, startD, stb, pur_i, pur_s, sld_pur, free_nf, nf_none, wEq_ss, wNeg_i, wB_eq, booR_b, ofStr_inj, -List.map_map, I, I, ct_value_of_one, cs, O1.nm, topI]
    rw [band_topZ, modZ_minus h1]
    exact hT _ _ rfl
  · simp [wb_value_of_one, wRet, wOp, wCons, wNil, wC, wVar, wSeq, wSet, wAsg, wName, wIf, wNext, wSub, wShlW, wBAnd, wBXor, cond2_ii, wFn, wUn, wIfE, startD, stb, pur_i, pur_s, sld_pur, free_nf, nf_none, wEq_ss, wNeg_i, wB_eq, booR_b, ofStr_inj, -List.map_map, I, I, ct_value_of_one, cs, O1.nm, topI]
    refine Ct.sd_mk (c := ct_prefix_word) (x, w) rfl ⟨h1, h2⟩ ?_
    rintro ρ' r rfl
    simp [pur_i, cv_pur, -List.map_map, I, I]
    exact hT _ _ rfl
def rs8_value_of : WS := (wRet (wFn ct_value_of_two (wCons false (wVar 3) (wCons false (wOp false wIx (wVar 1) (wOp false wIx (wVar 0) (wC (.int 1)))) (wCons false (wOp false wIx (wVar 1) (wOp false wIx (wVar 0) (wC (.int 2)))) (wCons false (wVar 2) wNil))))))
def rs6_value_of : WS := (wSeq (wIf (wB (wOp false (wEq id) (wCall wLen (wCons false (wVar 0) wNil)) (wC (.int 2)))) (wRet (wFn ct_value_of_one (wCons false (wVar 3) (wCons false (wOp false wIx (wVar 1) (wOp false wIx (wVar 0) (wC (.int 1)))) (wCons false (wVar 2) wNil))))) wNext)
    rs8_value_of)
def wb_value_of : WS := (wSeq (wSet 3 (wOp false wIx (wVar 0) (wC (.int 0))))
    (wSeq (wIf (wB (wOp false (wEq id) (wVar 3) (wC (.str "zero")))) (wRet (wC (.int 0))) wNext)
    (wSeq (wIf (wB (wOp false (wEq id) (wVar 3) (wC (.str "ones")))) (wRet (wOp false wSub (wOp false wShlW (wC (.int 1)) (wVar 2)) (wC (.int 1)))) wNext)
    (wSeq (wIf (wB (wOp false (wEq id) (wVar 3) (wC (.str "mask")))) (wRet (wFn ct_mask_word (wCons false (wOp false wIx (wVar 0) (wC (.int 1))) (wCons false (wVar 2) wNil)))) wNext)
    rs6_value_of))))
theorem rd_value_of (a : ct_value_of.α) (h : ct_value_of.pre a) : wb_value_of { nx := fun ρ => ct_value_of.post a ρ (DL.P .none), rt := ct_value_of.post a } (startD 4 (ct_value_of.args a)) := by
  suffices HH : ∀ (N : DEnv → Prop) (T : DEnv → R → Prop), (∀ ρ, ct_value_of.post a ρ (DL.P .none) → N ρ) → (∀ ρ r, ct_value_of.post a ρ r → T ρ r) → wb_value_of { nx := N, rt := T } (startD 4 (ct_value_of.args a)) from HH _ _ (fun _ h => h) (fun _ _ h => h)
  intro NN T hNN hT
  obtain ⟨r, kn, w⟩ := a
  obtain ⟨h1, h2, h3⟩ := h
  have h1 : r.ok kn.length := h1
  have h2 : ∀ x ∈ kn, x < 2 ^ w := h2
  have h3 : w ≤ 256 := h3
  have cs : CShl 1 (w : Int) := cshl_one
  have pk : purs (kn.map I) = true := purs_I kn
  cases r with
  | k0 b =>
    cases b
    · simp [wb_value_of, wRet, wOp, wCons, wNil, wC, wIx_t0, wVar, wSeq, wSet, wAsg, wName, wIf, wNext, wSub, wShlW, cond2_ii, wFn, startD, stb, itemK_str, purs_n, purs_c, pur_i, pur_s, pur_t, sld_pur, free_nf, nf_none, wEq_ss, wB_eq, booR_b, ofStr_inj, -List.map_map, I, I, ct_value_of, cs, insD]
      exact hT _ _ rfl
    · simp [wb_value_of, wRet, wOp, wCons, wNil, wC, wIx_t0, wVar, wSeq, wSet, wAsg, wName, wIf, wNext, wSub, wShlW, cond2_ii, wFn, startD, stb, itemK_str, purs_n, purs_c, pur_i, pur_s, pur_t, sld_pur, free_nf, nf_none, wEq_ss, wB_eq, booR_b, ofStr_inj, -List.map_map, I, I, ct_value_of, cs, insD, topI]
      exact hT _ _ rfl
  | k1 o a =>
    have ha : a < kn.length := h1
    have fin : ct_value_of_one.sd [P (.str o.nm), P (.int ((nth kn a : Nat) : Int)), P (I w)] fun _ r => T [some (P (insD (.k1 o a))), some (P (.list (kn.map I))), some (P (I w)), some (P (.str o.nm))] (cv r) := by
      refine Ct.sd_mk (c := ct_value_of_one) (o, nth kn a, w) rfl ⟨h2 _ (nth_mem ha), h3⟩ ?_
      rintro ρ' r rfl
      exact hT _ _ rfl
    cases o <;> simp [wb_value_of, rs6_value_of, rs8_value_of, wRet, wOp, wCons, wNil, wC, wCall, wLen_tup, wIx_t0, wIx_t1, wVar, wSeq, wSet, wAsg, wName, wIf, wNext, wSub, wShlW, cond2_ii, wFn, startD, stb, itemK_int, itemK_str, purs_n, purs_c, pur_i, pur_s, pur_t, sld_pur, free_nf, nf_none, wEq_ss, wEq_ii, wB_eq, booR_b, ofStr_inj, -List.map_map, I, I, ct_value_of, cs, insD, O1.nm, wIx_known ha] <;> simpa [insD, O1.nm, I] using fin
  | k2 o a b =>
    have ha : a < kn.length := h1.1
    have hb : b < kn.length := h1.2
    have fin : ct_value_of_two.sd [P (.str o.nm), P (.int ((nth kn a : Nat) : Int)), P (.int ((nth kn b : Nat) : Int)), P (I w)] fun _ r => T [some (P (insD (.k2 o a b))), some (P (.list (kn.map I))), some (P (I w)), some (P (.str o.nm))] (cv r) := by
      refine Ct.sd_mk (c := ct_value_of_two) (o, nth kn a, nth kn b, w) rfl ⟨h2 _ (nth_mem ha), h2 _ (nth_mem hb), h3⟩ ?_
      rintro ρ' r rfl
      exact hT _ _ rfl
    cases o <;> simp [wb_value_of, rs6_value_of, rs8_value_of, wRet, wOp, wCons, wNil, wC, wCall, wLen_tup, wIx_t0, wIx_t1, wIx_t2, wVar, wSeq, wSet, wAsg, wName, wIf, wNext, wSub, wShlW, cond2_ii, wFn, startD, stb, itemK_int, itemK_str, purs_n, purs_c, pur_i, pur_s, pur_t, sld_pur, free_nf, nf_none, wEq_ss, wEq_ii, wB_eq, booR_b, ofStr_inj, -List.map_map, I, I, ct_value_of, cs, insD, O2.nm, wIx_known ha, wIx_known hb] <;> simpa [insD, O2.nm, I] using fin
  | mk bits =>
    simp [wb_value_of, wRet, wOp, wCons, wNil, wC, wIx_t0, wIx_t1, wVar, wSeq, wSet, wAsg, wName, wIf, wNext, wSub, wShlW, cond2_ii, wFn, startD, stb, itemK_str, itemK_shr, purs_n, purs_c, pur_i, pur_s, pur_t, sld_pur, free_nf, nf_none, wEq_ss, wB_eq, booR_b, ofStr_inj, -List.map_map, I, pur_str, I, pur_str, ct_value_of, cs, insD]
    refine Ct.sd_mk (c := ct_mask_word) (bits, w) rfl ⟨h1.1, h1.2.1, h1.2.2, h3⟩ ?_
    rintro ρ' r rfl
    simp [pur_i, cv_pur, -List.map_map, I, I]
    exact hT _ _ rfl
def fg2_values : WG := (wName 4)
def fb2_values : WS := (wDrop (wApp 3 false (wPlV 3) (wFn ct_value_of (wCons false (wVar 4) (wCons false (wVar 3) (wCons false (wVar 1) wNil))))))
def rs2_values : WS := (wRet (wCall wTupC (wCons false (wSlc (wVar 3) (wPart (wOp false wIx (wVar 0) (wC (.int 0)))) wNoPart) wNil)))
def wb_values : WS := (wSeq (wSet 3 (wCall wLstC (wCons false (wVar 2) wNil)))
    (wSeq (wFor (wSq false (wOp false wIx (wVar 0) (wC (.int 1)))) fg2_values fb2_values)
    rs2_values))
theorem rd_values (a : ct_values.α) (h : ct_values.pre a) : wb_values { nx := fun ρ => ct_values.post a ρ (DL.P .none), rt := ct_values.post a } (startD 5 (ct_values.args a)) := by
  suffices HH : ∀ (N : DEnv → Prop) (T : DEnv → R → Prop), (∀ ρ, ct_values.post a ρ (DL.P .none) → N ρ) → (∀ ρ r, ct_values.post a ρ r → T ρ r) → wb_values { nx := N, rt := T } (startD 5 (ct_values.args a)) from HH _ _ (fun _ h => h) (fun _ _ h => h)
  intro NN T hNN hT
  obtain ⟨m, rows, w, ws⟩ := a
  obtain ⟨h1, h2, h3, h4, h5, h6⟩ := h
  have h1 : ws.length = m := h1
  have h2 : m ≤ 2 := h2
  have h3 : OkR m rows := h3
  have h4 : rows.length ≤ 10000 := h4
  have h5 : ∀ x ∈ ws, x < 2 ^ w := h5
  have h6 : w ≤ 256 := h6
  have pr : purs (rows.map insD) = true := purs_map' fun p _ => pur_ins p
  simp [wb_values, wCons, wNil, wCall, wVar, wSeq, wSet, wAsg, wName, startD, stb, free_nf, nf_none, -List.map_map, I, pur_str, I, pur_str, ct_values]
  simp [strD, purs_I, kOf_pur, sld_ol, kOf_pur, wLstC_t, -List.map_map, purs_I, purs_I]
  refine wFor_ix rows insD (fun k ρ => Env [isS (some (P (progD m rows))), isS (some (P (I w))), isS (some (P (.tuple (ws.map I)))), isS (some ⟨.own, .list ((vals w ws (rows.take k)).map I)⟩), nf] ρ) (fun Q q => ?_) ?_ ?_
  · simp [wOp, wC, wIx_t1, wVar, stb, purs_n, purs_c, pur_t, -List.map_map, I, I, wSq, progD, pr, itemK_pur, pur]
    exact q _ (by simp [nf_none, isS, env_c, env_n, -List.map_map, I, I, progD, vals])
  · rintro k r ρ N hk hE hN
    obtain ⟨_, _, rfl, rfl, hE1⟩ := env_cons hE; obtain ⟨_, _, rfl, rfl, hE2⟩ := env_cons hE1; obtain ⟨_, _, rfl, rfl, hE3⟩ := env_cons hE2; obtain ⟨_, _, rfl, rfl, hE4⟩ := env_cons hE3; obtain ⟨z4, _, rfl, n4, hE5⟩ := env_cons hE4; obtain rfl := env_nil hE5; clear hE hE1 hE2 hE3 hE4 hE5
    have hl : k < rows.length := lt_of_some hk
    have hlen : (vals w ws (rows.take k)).length = m + k := by rw [vals_len, h1, List.length_take]; omega
    have okr : r.ok (m + k) := h3.get hk
    have okt : OkR ws.length (rows.take k) := by
      rw [h1]
      have : ∀ (rs : List Ins) (n k : Nat), OkR n rs → OkR n (rs.take k) := by
        intro rs
        induction rs with
        | nil => intro n k h; simpa using h
        | cons r rs ih =>
          intro n k h
          cases k with
          | zero => exact trivial
          | succ k => exact ⟨h.1, ih _ _ h.2⟩
      exact this rows m k h3
    simp [fg2_values, fb2_values, wCons, wNil, wVar, wName, wDrop, wFn, wPlV, wApp, stb, pur_i, pur_l, sld_pur, free_nf, owp, sizeLine_eq, -List.map_map, I, I, pur_ins, n4, dAt, upP, getP_nil, setP_nil, pur_ins]
    refine Ct.sd_mk (c := ct_value_of) (r, vals w ws (rows.take k), w) rfl ⟨by rw [hlen]; exact okr, vals_lt okt h5, h6⟩ ?_
    rintro ρ' r' rfl
    have ht : vals w ws (rows.take (k + 1)) = vals w ws (rows.take k) ++ [r.val w (vals w ws (rows.take k))] := by rw [take_succ_of hk, vals_snoc]
    simp [pur_i, cv_pur, -List.map_map, I, I]
    exact ⟨by rw [hlen]; omega, hN _ (by simp [nf_shr, isS, env_c, env_n, -List.map_map, I, I, ht])⟩
  · rintro ρ hE
    obtain ⟨_, _, rfl, rfl, hE1⟩ := env_cons hE; obtain ⟨_, _, rfl, rfl, hE2⟩ := env_cons hE1; obtain ⟨_, _, rfl, rfl, hE3⟩ := env_cons hE2; obtain ⟨_, _, rfl, rfl, hE4⟩ := env_cons hE3; obtain ⟨z4, _, rfl, n4, hE5⟩ := env_cons hE4; obtain rfl := env_nil hE5; clear hE hE1 hE2 hE3 hE4 hE5
    simp [rs2_values, wRet, wOp, wCons, wNil, wC, wCall, wIx_t0, wVar, wPart, wNoPart, stb, itemK_int, purs_n, purs_c, kOfT_pur, wTupC_l, wSlc_eq, cutR_l, cutD_from, -List.map_map, I, purs_I, I, purs_I, progD, cutD_from, ← List.map_drop, purs_I, kOfT_pur, pr, pur]
    exact hT _ _ rfl
def wb_result : WS := (wRet (wOp false wIx (wFn ct_values (wCons false (wVar 0) (wCons false (wVar 1) (wCons false (wVar 2) wNil)))) (wUn wNeg (wC (.int 1)))))
theorem rd_result (a : ct_result.α) (h : ct_result.pre a) : wb_result { nx := fun ρ => ct_result.post a ρ (DL.P .none), rt := ct_result.post a } (startD 3 (ct_result.args a)) := by
  suffices HH : ∀ (N : DEnv → Prop) (T : DEnv → R → Prop), (∀ ρ, ct_result.post a ρ (DL.P .none) → N ρ) → (∀ ρ r, ct_result.post a ρ r → T ρ r) → wb_result { nx := N, rt := T } (startD 3 (ct_result.args a)) from HH _ _ (fun _ h => h) (fun _ _ h => h)
  intro NN T hNN hT
  obtain ⟨m, rows, w, ws⟩ := a
  obtain ⟨h1, h2, h3, h0, h4, h5, h6⟩ := h
  have h1 : ws.length = m := h1
  have h2 : m ≤ 2 := h2
  have h3 : OkR m rows := h3
  have h0 : 1 ≤ rows.length := h0
  have h4 : rows.length ≤ 10000 := h4
  have h5 : ∀ x ∈ ws, x < 2 ^ w := h5
  have h6 : w ≤ 256 := h6
  simp [wb_result, wRet, wOp, wCons, wNil, wC, wVar, wFn, wUn, startD, stb, pur_i, wNeg_i, -List.map_map, I, pur_str, I, pur_str, pur_prog, ct_result, pur_prog]
  refine sd_values h1 h2 h3 h4 h5 h6 fun ρ' => ?_
  have hl : ((vals w ws rows).drop m).length = rows.length := by rw [List.length_drop, vals_len]; omega
  simp [cv_pur, -List.map_map, pur_str, pur_str]
  rw [wIx_strL (by omega), hl]
  have e : nth ((vals w ws rows).drop m) (rows.length - 1) = nth (vals w ws rows) (m + rows.length - 1) := by
    have h7 : (vals w ws rows).length = m + rows.length := by rw [vals_len, h1]
    rw [nth_lt (by omega), nth_lt (by omega), List.getElem_drop]
    congr 1
    omega
  rw [e]
  exact hT _ _ rfl
def cg1_words_of_place : WG := (wName 3)
def ce1_words_of_place : WE := (wOp false wBAnd (wOp false wShr (wVar 2) (wOp false wMulT (wVar 1) (wVar 3))) (wOp false wSub (wOp false wShlW (wC (.int 1)) (wVar 1)) (wC (.int 1))))
def wb_words_of_place : WS := (wRet (wCall wTupC (wCons false (wLc0 (wRng1 (wCons false (wVar 0) wNil)) cg1_words_of_place wYes ce1_words_of_place [3]) wNil)))
theorem rd_words_of_place (a : ct_words_of_place.α) (h : ct_words_of_place.pre a) : wb_words_of_place { nx := fun ρ => ct_words_of_place.post a ρ (DL.P .none), rt := ct_words_of_place.post a } (startD 4 (ct_words_of_place.args a)) := by
  suffices HH : ∀ (N : DEnv → Prop) (T : DEnv → R → Prop), (∀ ρ, ct_words_of_place.post a ρ (DL.P .none) → N ρ) → (∀ ρ r, ct_words_of_place.post a ρ r → T ρ r) → wb_words_of_place { nx := N, rt := T } (startD 4 (ct_words_of_place.args a)) from HH _ _ (fun _ h => h) (fun _ _ h => h)
  intro NN T hNN hT
  obtain ⟨m, w, p⟩ := a
  obtain ⟨h1, h2⟩ := h
  have h1 : m ≤ 2 := h1
  have h2 : w ≤ 8 := h2
  simp [wb_words_of_place, wRet, wCons, wNil, wCall, startD, stb, -List.map_map, I, I, ct_words_of_place]
  refine wLc0_mapE (List.range m) (fun i => PyData.int (i : Nat)) (fun j => I (p / 2 ^ (w * j) % 2 ^ w)) (by rw [sizeLine_eq]; simp; omega) (fun Q q => ?_) (fun i y Q hi q => ?_) ?_
  · simp [wCons, wNil, wVar, stb, pur_i, -List.map_map, wRng1, rngD_nat]
    exact ⟨by omega, q⟩
  · obtain ⟨hi, rfl⟩ := range_inv hi
    have e1 : (w : Int) * (i : Int) = ((w * i : Nat) : Int) := by simp
    simp [cg1_words_of_place, ce1_words_of_place, wOp, wC, wVar, wName, wSub, wShlW, wShr, wBAnd, cond2_ii, stb, pur_i, sld_pur, free_nf, nf_none, wipeD, wMul_ii, -List.map_map, topI]
    have e3 : (p : Int) / 2 ^ (w * i) = ((p / 2 ^ (w * i) : Nat) : Int) := by simp
    refine ⟨.inl (by omega), by rw [e1]; omega, cshl_one, ?_⟩
    rw [e1, Int.toNat_natCast, e3, band_top]
    exact q _ _ rfl rfl
  · have e : List.map (fun j => I (p / 2 ^ (w * j) % 2 ^ w)) (List.range m) = (wop m w p).map I := by simp [wop]
    rw [e]
    simp [kOfT_pur, wTupC_l, -List.map_map, purs_I, purs_I, purs_I, kOfT_pur]
    exact hT _ _ rfl
def cg5_table_of (wd : XD → DEnv → Prop) : WG := (wName 4)
def ce5_table_of (wd : XD → DEnv → Prop) : WE := (wFn ct_result (wCons false (wVar 0) (wCons false (wVar 1) (wCons false (wFn ct_words_of_place (wCons false (wVar 2) (wCons false (wVar 1) (wCons false (wVar 4) wNil)))) wNil))))
def ib2_table_of (wd : XD → DEnv → Prop) : WS := (wRaise0 wd .unfit)
def rs2_table_of (wd : XD → DEnv → Prop) : WS := (wSeq (wSet 3 (wRgL1 lstR (wOp false wShlW (wC (.int 1)) (wOp false wMulT (wVar 2) (wVar 1)))))
    (wRet (wTup (wCons false (wVar 2) (wCons false (wVar 1) (wCons false (wCall wTupC (wCons false (wLc0 (wSq true (wVar 3)) (cg5_table_of wd) wYes (ce5_table_of wd) [4]) wNil)) wNil))))))
def wb_table_of (wd : XD → DEnv → Prop) : WS := (wSeq (wSet 2 (wOp false wIx (wVar 0) (wC (.int 0))))
    (wSeq (wIf (wOr (wB (wOp false (wEq id) (wVar 2) (wC (.int 0)))) (DL.wNot (DL.wTru (wFn ct_is_width (wCons false (wVar 2) (wCons false (wVar 1) wNil)))))) (ib2_table_of wd) wNext)
    (rs2_table_of wd)))
theorem rd_table_of (a : ct_table_of.α) (h : ct_table_of.pre a) : wb_table_of (fun x ρ => ct_table_of.xp a ρ x) { nx := fun ρ => ct_table_of.post a ρ (DL.P .none), rt := ct_table_of.post a } (startD 5 (ct_table_of.args a)) := by
  suffices HH : ∀ (N : DEnv → Prop) (T : DEnv → R → Prop) (W : XD → DEnv → Prop), (∀ ρ, ct_table_of.post a ρ (DL.P .none) → N ρ) → (∀ ρ r, ct_table_of.post a ρ r → T ρ r) → (∀ x ρ, ct_table_of.xp a ρ x → W x ρ) → wb_table_of W { nx := N, rt := T } (startD 5 (ct_table_of.args a)) from HH _ _ _ (fun _ h => h) (fun _ _ h => h) (fun _ _ h => h)
  intro NN T W hNN hT hW
  obtain ⟨⟨m, rows⟩, d⟩ := a
  have o : OkP m rows := h
  have hm := o.hm
  have hm3 : m = 0 ∨ m = 1 ∨ m = 2 := by omega
  simp [wb_table_of, wOp, wCons, wNil, wC, wVar, wSeq, wSet, wAsg, wName, wIf, DL.wNot, wOr, wNext, wFn, startD, stb, pur_i, sld_pur, free_nf, nf_none, wEq_ii, wTru_eq, wB_eq, booR_b, -List.map_map, pur_prog, ct_table_of, wIx_prog0]
  by_cases h0 : m = 0
  · rw [if_pos h0]
    simp [ib2_table_of, wRaise0, -List.map_map]
    exact hW _ _ ⟨.inl h0, rfl⟩
  rw [if_neg h0]
  refine sd_is_width (by omega) fun ρ => ?_
  cases hk : okW m d with
  | false =>
    simp [wRaise0, pur_b, cv_pur, truR_b, -List.map_map, ib2_table_of]
    exact hW _ _ ⟨.inr hk, rfl⟩
  | true =>
    obtain ⟨w, gw⟩ := okW_good (by omega) hk
    have hw8 := gw.wle
    have hmw := gw.2.2.2
    obtain rfl := gw.1
    have e1 : (m : Int) * (w : Int) = ((m * w : Nat) : Int) := by simp
    have cm : CMul (m : Int) (w : Int) := .inl (by omega)
    have cs : CShl 1 ((m * w : Nat) : Int) := cshl_one
    have p8 : (2 : Nat) ^ (m * w) ≤ 2 ^ 8 := Nat.pow_le_pow_right (by decide) hmw
    have e2 : ((2 : Int) ^ (m * w)) = ((2 ^ (m * w) : Nat) : Int) := by simp
    simp [wRet, wOp, wCons, wNil, wC, wCall, wVar, wTup, wSeq, wSet, wAsg, wName, wShlW, cond2_ii, stb, pur_b, pur_i, sld_ol, free_nf, nf_none, sizeLine_eq, cv_pur, wMul_ii, truR_b, wRgL1, rgR_i, -List.map_map, rs2_table_of, cm]
    rw [e1, Int.toNat_natCast]
    obtain ⟨PN, hPN⟩ : ∃ PN, 2 ^ (m * w) = PN := ⟨_, rfl⟩
    rw [hPN] at p8
    refine ⟨cs, by unfold RgOk; rw [e2, hPN]; omega, ?_⟩
    rw [e2, Int.toNat_natCast, rngD_nat]
    refine wLc0_mapE (List.range (2 ^ (m * w))) (fun i => PyData.int (i : Nat)) (fun p => I (nth (vals w (wop m w p) rows) (m + rows.length - 1))) (by rw [sizeLine_eq, hPN]; simp; omega) (fun Q q => ?_) (fun i y Q hi q => ?_) ?_
    · simp [wVar, -List.map_map, wSq]
      exact ⟨purs_map' fun _ _ => rfl, q⟩
    · obtain ⟨hi, rfl⟩ := range_inv hi
      simp [cg5_table_of, ce5_table_of, wCons, wNil, wVar, wName, wFn, stb, pur_i, sld_pur, free_nf, nf_none, wipeD, -List.map_map, pur_prog]
      refine sd_wop hm hw8 fun ρ => ?_
      simp [cv_strD]
      refine sd_result (wop_len m w i) hm o.ok o.n1 (by have := o.n2; omega) (fun x hx => wop_lt hx) (by omega) fun ρ => ?_
      simp [pur_i, cv_pur, -List.map_map]
      exact q _ _ rfl rfl
    · have e : List.map (fun p => I (nth (vals w (wop m w p) rows) (m + rows.length - 1))) (List.range (2 ^ (m * w))) = (ansOf m w rows).map I := by simp [ansOf]
      rw [e]
      simp [purs_n, purs_c, pur_i, pur_t, kTup_pur, kOfT_pur, wTupC_l, -List.map_map, purs_I, purs_I, purs_I, kOfT_pur]
      exact hT _ _ ⟨w, gw, rfl⟩
def tb1__law_told (wd : XD → DEnv → Prop) : WS := (wRet (wLst (wCons false (wC (.str "told")) (wCons false (wIfE (DL.wTru (wVar 2)) (wFnXK ct_table_of wd [1, 0] (wCons false (wVar 1) (wCons false (wVar 0) wNil))) (wFnX ct_table_of wd (wCons false (wVar 0) (wCons false (wVar 1) wNil)))) wNil))))
def tx3__law_told (x : XD) : WS := (wRet (wLst (wCons false (wC (.str "unfit")) (wCons false (wIsX 3 (isa x.k .ladder)) wNil))))
def wb__law_told : WS := (wTry (fun wd => (tb1__law_told wd)) [⟨(.own .unfit), some 3, fun x => (tx3__law_told x)⟩] (fun _ _ => False))
theorem rd__law_told (a : ct__law_told.α) (h : ct__law_told.pre a) : wb__law_told { nx := fun ρ => ct__law_told.post a ρ (DL.P .none), rt := ct__law_told.post a } (startD 4 (ct__law_told.args a)) := by
  suffices HH : ∀ (N : DEnv → Prop) (T : DEnv → R → Prop), (∀ ρ, ct__law_told.post a ρ (DL.P .none) → N ρ) → (∀ ρ r, ct__law_told.post a ρ r → T ρ r) → wb__law_told { nx := N, rt := T } (startD 4 (ct__law_told.args a)) from HH _ _ (fun _ h => h) (fun _ _ h => h)
  intro NN T hNN hT
  obtain ⟨⟨⟨m, rows⟩, d⟩, b⟩ := a
  have o : OkP m rows := h
  have fin : ∀ (ρ : DEnv), BadW m d → Env [isS (some (P (progD m rows))), isS (some (P (d))), isS (some (P (.bool b))), nf] ρ → wClD (fun _ _ => False) { nx := NN, rt := T } [⟨(.own .unfit), some 3, fun x => (tx3__law_told x)⟩] ⟨.unfit, .none⟩ ρ := by
    intro ρ hb hE
    obtain ⟨_, _, rfl, rfl, hE1⟩ := env_cons hE; obtain ⟨_, _, rfl, rfl, hE2⟩ := env_cons hE1; obtain ⟨_, _, rfl, rfl, hE3⟩ := env_cons hE2; obtain ⟨z3, _, rfl, n3, hE4⟩ := env_cons hE3; obtain rfl := env_nil hE4; clear hE hE1 hE2 hE3 hE4
    simp [tx3__law_told, wClD, wIsX, unD, atD, okN, isa, isEx, exD, wRet, wLst, wCons, wNil, wC, stb, pur_b, pur_s, free_nf, owp, kLst, sizeLine_eq, -List.map_map, n3]
    exact hT _ _ (.inr ⟨hb, rfl⟩)
  have fT : ∀ ρ w, GoodW m d w → T ρ ⟨.own, .list [.str "told", tabD m w rows]⟩ := fun ρ w g => hT _ _ (.inl ⟨w, g, rfl⟩)
  unfold wb__law_told wTry
  generalize hW : wClD (fun _ _ => False) { nx := NN, rt := T } [⟨(.own .unfit), some 3, fun x => (tx3__law_told x)⟩] = W
  rw [hW] at fin
  simp [tb1__law_told, wFnX, wFnXK, wRet, wLst, wCons, wNil, wC, wVar, wIfE, startD, stb, pur_s, owp, kLst, sizeLine_eq, wTru_eq, truR_b, -List.map_map, ct__law_told]
  have key : ∀ (ρ : DEnv), Env [isS (some (P (progD m rows))), isS (some (P (d))), isS (some (P (.bool b))), nf] ρ → ct_table_of.sd [P (progD m rows), P d] (fun x r => T ρ { k := if (cv r).k = Kd.own ∨ pur (cv r).d = true then Kd.own else if ¬(cv r).k = Kd.als ∨ pur (cv r).d = true then Kd.shr else Kd.als, d := PyData.list [PyData.str (Str.ofString "told"), (cv r).d] }) fun x => W x ρ := by
    intro ρ h0
    refine sx_table o (fun ρ2 w g => ?_) (fun hb => fin _ hb h0)
    simp [cv_tab, pur_tab]
    exact fT _ w g
  split
  · exact key _ (by simp [nf_none, isS, env_c, env_n, -List.map_map])
  · exact key _ (by simp [nf_none, isS, env_c, env_n, -List.map_map])
def rs2__law_is_right : WS := (fun D ρ => (wRet (wAndV (wOp false (wEq id) (wCall wReprU (wCons false (wVar 4) wNil)) (wCall wReprU (wCons false (wLst (wCons false (wVar 3) (wCons false (wVar 3) wNil))) wNil))) (wOp false (wEq id) (wCall wReprU (wCons false (wLst (wCons false (wVar 0) (wCons false (wVar 1) wNil))) wNil)) (wVar 2)))) D (frz ρ 3))
def rs1__law_is_right : WS := (wSeq (wSet 4 (wLst (wCons false (wFn ct__law_told (wCons false (wVar 0) (wCons false (wVar 1) (wCons false (wC (.bool false)) wNil)))) (wCons false (wFn ct__law_told (wCons false (wVar 0) (wCons false (wVar 1) (wCons false (wC (.bool true)) wNil)))) wNil))))
    rs2__law_is_right)
def wb__law_is_right : WS := (wSeq (wPar (wCons false (wCall wReprU (wCons false (wLst (wCons false (wVar 0) (wCons false (wVar 1) wNil))) wNil)) (wCons false (wFn ct__law_due (wCons false (wVar 0) (wCons false (wVar 1) wNil))) wNil)) (wgCons (wName 2) (wgCons (wName 3) wgNil)))
    rs1__law_is_right)
theorem rd__law_is_right (a : ct__law_is_right.α) (h : ct__law_is_right.pre a) : wb__law_is_right { nx := fun ρ => ct__law_is_right.post a ρ (DL.P .none), rt := ct__law_is_right.post a } (startD 5 (ct__law_is_right.args a)) := by
  suffices HH : ∀ (N : DEnv → Prop) (T : DEnv → R → Prop), (∀ ρ, ct__law_is_right.post a ρ (DL.P .none) → N ρ) → (∀ ρ r, ct__law_is_right.post a ρ r → T ρ r) → wb__law_is_right { nx := N, rt := T } (startD 5 (ct__law_is_right.args a)) from HH _ _ (fun _ h => h) (fun _ _ h => h)
  intro NN T hNN hT
  obtain ⟨⟨m, rows⟩, d⟩ := a
  obtain ⟨q1, q2⟩ := h
  have o : OkP m rows := q1
  have he : Elem d := q2
  clear q1 q2
  have fT : ∀ ρ, T ρ (P (.bool true)) := fun ρ => hT _ _ rfl
  have sk0 : Sk (.list [progD m rows, d]) 5 6200007 := sk_lst 2 (k := 4) (L := 3100000) (fun e hx => by
    simp at hx
    rcases hx with rfl | rfl
    · exact (sh_prog o.ok o.hm (by have := o.n2; omega)).sk
    · exact he.1.mono (by decide) (by decide)) (by simp)
  simp [wb__law_is_right, wLst, wCons, wNil, wCall, wVar, wSeq, wName, wPar, wgCons_cons, wgNil_nil, wFn, startD, stb, pur_l, free_nf, nf_none, owp, kLst, sizeLine_eq, -List.map_map, pur_prog, ct__law_is_right, kPar, kLst]
  refine wReprU_of sk0 (by decide) (by decide) ?_
  refine sd_dueV o fun ρ xs hv => ?_
  have pv := hv.purs
  have s1 := (hv.sh o).sk
  have sk2 : Sk (.list [.list xs, .list xs]) 4 18525 := sk_lst 2 (k := 3) (L := 9259) (fun e hx => by
    simp at hx
    subst hx
    exact s1) (by simp)
  simp [wLst, wCons, wNil, wC, wVar, wSeq, wSet, wAsg, wName, wFn, stb, pur_b, pur_s, pur_l, sld_ol, sld_pur, free_nf, nf_none, owp, kLst, sizeLine_eq, cv_own, -List.map_map, pur_prog, rs1__law_is_right]
  refine sd_toldV o hv fun ρ => ?_
  simp [pur_l, cv_own, -List.map_map]
  refine sd_toldV o hv fun ρ => ?_
  simp [wRet, wOp, wLst, wCons, wNil, wCall, wVar, frz, stb, pur_l, sld_ol, owp, kLst, sizeLine_eq, cv_own, wAndV_eq, -List.map_map, pur_prog, rs2__law_is_right]
  refine wReprU_of sk2 (by decide) (by decide) ?_
  refine wReprU_of sk2 (by decide) (by decide) ?_
  simp [wEq_ss, booR_b, -List.map_map]
  refine wReprU_of sk0 (by decide) (by decide) ?_
  simp [wEq_ss, -List.map_map]
  exact fT _
def wb__law_kinds : WS := (wSeq (wSet 0 (wLst (wCons false (wC (.str "zero")) (wCons false (wC (.str "ones")) (wCons false (wC (.str "not")) (wCons false (wC (.str "and")) (wCons false (wC (.str "or")) (wCons false (wC (.str "xor")) wNil))))))))
    (wRet (wOp false wAdd (wVar 0) (wLst (wCons false (wC (.str "twice")) (wCons false (wC (.str "minus")) (wCons false (wC (.str "plus")) (wCons false (wC (.str "less")) (wCons false (wC (.str "prefix")) (wCons false (wC (.str "mask")) wNil))))))))))
theorem rd__law_kinds (a : ct__law_kinds.α) (h : ct__law_kinds.pre a) : wb__law_kinds { nx := fun ρ => ct__law_kinds.post a ρ (DL.P .none), rt := ct__law_kinds.post a } (startD 1 (ct__law_kinds.args a)) := by
  suffices HH : ∀ (N : DEnv → Prop) (T : DEnv → R → Prop), (∀ ρ, ct__law_kinds.post a ρ (DL.P .none) → N ρ) → (∀ ρ r, ct__law_kinds.post a ρ r → T ρ r) → wb__law_kinds { nx := N, rt := T } (startD 1 (ct__law_kinds.args a)) from HH _ _ (fun _ h => h) (fun _ _ h => h)
  intro NN T hNN hT
  simp [wb__law_kinds, wRet, wOp, wLst, wCons, wNil, wC, wVar, wSeq, wSet, wAsg, wName, startD, stb, purs_n, purs_c, pur_s, sld_ol, kOf_pur, free_nf, nf_none, owp, kLst, sizeLine_eq, wAdd_ll, -List.map_map, ct__law_kinds]
  exact hT _ _ rfl
def wb__law_odd : WS := (wRet (wFnMS ct__law_pick 0 (wCons false (wLst (wCons false (wC .none) (wCons false (wC (.bool true)) (wCons false (wC (.bool false)) (wCons false (wUn wNeg (wC (.int 1))) (wCons false (wC (.int 0)) (wCons false (wC (.int 1)) (wCons false (wC (.int 2)) (wCons false (wC (.int 3)) (wCons false (wC (.int 9)) (wCons false (wC (.int 256)) (wCons false (wOp false wPow (wC (.int 10)) (wC (.int 30))) (wCons false (wC (.str "1")) (wCons false (wTup (wCons false (wC (.int 1)) wNil)) (wCons false (wLst (wCons false (wC (.int 1)) wNil)) (wCons false (wDisp ["many"] (wCons false (wC (.int 1)) wNil)) wNil)))))))))))))))) wNil)))
theorem rd__law_odd (a : ct__law_odd.α) (h : ct__law_odd.pre a) : wb__law_odd { nx := fun ρ => ct__law_odd.post a ρ (DL.P .none), rt := ct__law_odd.post a } (startD 1 (ct__law_odd.args a)) := by
  suffices HH : ∀ (N : DEnv → Prop) (T : DEnv → R → Prop), (∀ ρ, ct__law_odd.post a ρ (DL.P .none) → N ρ) → (∀ ρ r, ct__law_odd.post a ρ r → T ρ r) → wb__law_odd { nx := N, rt := T } (startD 1 (ct__law_odd.args a)) from HH _ _ (fun _ h => h) (fun _ _ h => h)
  intro NN T hNN hT
  obtain ⟨d, b⟩ := a
  obtain ⟨h1, h2⟩ := h
  have h1 : Bag2 b d := h1
  have h2 : b < 2 ^ 60 := h2
  simp [wb__law_odd, wRet, wOp, wLst, wCons, wNil, wC, wTup, wPow, cond2_ii, wDisp, dzip, wUn, startD, stb, purs_n, purs_c, pur_n, pur_b, pur_i, pur_s, pur_l, pur_d, pur_t, kTup_pur, owp, kLst, sizeLine_eq, wNeg_i, wFnMS, -List.map_map, ct__law_odd, CPow]
  refine sd_pickA h1 (k := fun ρ' d1 x e1 t1 hx => ⟨d1, e1, ?_⟩)
  simp [cvS_P, -List.map_map]
  exact hT _ _ ⟨d1, rfl, t1, x, odd_elem x hx, rfl⟩
def rs11_law : WS := (wRet (wFn ct__law_is_right (wCons true (wVar 3) (wCons false (wIfE (wB (wOp false (wEq id) (wFnM ct__law_draw 1 (wCons false (wC (.int 3)) wNil)) (wC (.int 0)))) (wFnM ct__law_draw 1 (wCons false (wC (.int 11)) wNil)) (wC (.int 9))) wNil))))
def rs9_law : WS := (wSeq (wSet 3 (wFnM ct__law_program 1 (wCons true (wOp true wAdd (wC (.int 1)) (wFnM ct__law_draw 1 (wCons false (wC (.int 2)) wNil))) (wCons false (wOp true wAdd (wC (.int 1)) (wFnM ct__law_draw 1 (wCons false (wC (.int 3)) wNil))) (wCons false (wFn ct__law_kinds wNil) wNil)))))
    rs11_law)
def rs8_law : WS := (wSeq (wIf (DL.wNot (DL.wTru (wFn ct__law_is_right (wCons true (wVar 3) (wCons false (wOp true wAdd (wC (.int 1)) (wFnM ct__law_draw 1 (wCons false (wC (.int 8)) wNil))) wNil))))) (wRet (wC (.bool false))) wNext)
    rs9_law)
def rs4_law : WS := (wIf (DL.wNot (DL.wTru (wFn ct__law_is_right (wCons true (wVar 3) (wCons false (wFnMS ct__law_odd 1 wNil) wNil))))) (wRet (wC (.bool false))) wNext)
def rs3_law : WS := (wSeq (wIf (DL.wNot (DL.wTru (wFn ct__law_is_right (wCons true (wVar 3) (wCons false (wOp true wAdd (wC (.int 1)) (wFnM ct__law_draw 1 (wCons false (wIfE (wB (wOp false (wEq id) (wOp false wIx (wVar 3) (wC (.int 0))) (wC (.int 1)))) (wC (.int 4)) (wC (.int 2))) wNil))) wNil))))) (wRet (wC (.bool false))) wNext)
    rs4_law)
def fg2_law : WG := (wName 2)
def fb2_law : WS := (wSeq (wSet 3 (wFnM ct__law_program 1 (wCons true (wOp true wAdd (wC (.int 1)) (wFnM ct__law_draw 1 (wCons false (wC (.int 2)) wNil))) (wCons false (wOp true wAdd (wC (.int 1)) (wFnM ct__law_draw 1 (wCons false (wC (.int 6)) wNil))) (wCons false (wFn ct__law_kinds wNil) wNil)))))
    rs3_law)
def rs2_law : WS := (wSeq (wSet 3 (wFnM ct__law_program 1 (wCons true (wC (.int 0)) (wCons false (wOp true wAdd (wC (.int 1)) (wFnM ct__law_draw 1 (wCons false (wC (.int 3)) wNil))) (wCons false (wFn ct__law_kinds wNil) wNil)))))
    rs8_law)
def rs1_law : WS := (wSeq (wFor (wRng1 (wCons false (wC (.int 4)) wNil)) fg2_law fb2_law)
    rs2_law)
def wb_law : WS := (wSeq (wSet 1 (wFn ct__law_bag (wCons false (wVar 0) wNil)))
    rs1_law)
theorem rd_law (a : ct_law.α) (h : ct_law.pre a) : wb_law { nx := fun ρ => ct_law.post a ρ (DL.P .none), rt := ct_law.post a } (startD 4 (ct_law.args a)) := by
  suffices HH : ∀ (N : DEnv → Prop) (T : DEnv → R → Prop), (∀ ρ, ct_law.post a ρ (DL.P .none) → N ρ) → (∀ ρ r, ct_law.post a ρ r → T ρ r) → wb_law { nx := N, rt := T } (startD 4 (ct_law.args a)) from HH _ _ (fun _ h => h) (fun _ _ h => h)
  intro NN T hNN hT
  have h : List.length (α := Int) a ≤ 63 := h
  have fT : ∀ ρ, T ρ (P (.bool true)) := fun ρ => hT _ _ rfl
  simp [wb_law, wCons, wNil, wVar, wSeq, wSet, wAsg, wName, wFn, startD, stb, pur_l, free_nf, nf_none, -List.map_map, ct_law, ctLaw]
  refine Ct.sd_mk (c := ct__law_bag) a rfl h ?_
  rintro ρ' ⟨k0, d0⟩ ⟨rfl, ht0⟩
  have ht0 : Bag2 0 d0 := ht0
  rw [cv_bag2 ht0, sld_bag2 ht0]
  simp [rs1_law, wSeq, -List.map_map]
  have okk : ∀ {m : Nat} {rows : List Ins} {n : Nat}, m ≤ 2 → OkR m rows → rows.length = n → 1 ≤ n → n ≤ 1000 → (∀ b, Ins.mk b ∈ rows → b.length ≤ 24) → OkP m rows := fun hm ok hl h1 h2 hb => ⟨hm, ok, by omega, by omega, hb⟩
  have elI : ∀ (n : Nat), n < 100 → Elem (.int (n : Nat)) := fun n hn => elem_int (by simp; exact Nat.lt_of_lt_of_le hn (by decide +kernel))
  have kin : ∀ {Q : DEnv → R → Prop}, (∀ ρ, Q ρ ⟨.own, .list (kindsW.map Wd.D)⟩) → ct__law_kinds.sd [] Q := fun q => Ct.sd_mk (c := ct__law_kinds) () rfl trivial (by rintro ρ r rfl; exact q ρ)
  have kl : kindsW.length = 12 := rfl
  refine wFor_ix (List.range 4) (fun i => PyData.int (i : Nat)) (fun k ρ => ∃ d, Bag2 (100 * k) d ∧ Env [isS (some (P (.list (List.map PyData.int a)))), isS (some ⟨.own, d⟩), nf, nf] ρ) (fun Q q => ?_) ?_ ?_
  · simp [wCons, wNil, wC, stb, pur_i, -List.map_map, wRng1, rngD_nat]
    exact q _ ⟨d0, ht0, by simp [nf_none, isS, env_c, env_n, -List.map_map]⟩
  · rintro k x ρ N hk ⟨d, ht, hE⟩ hN
    obtain ⟨_, _, rfl, rfl, hE1⟩ := env_cons hE; obtain ⟨_, _, rfl, rfl, hE2⟩ := env_cons hE1; obtain ⟨z2, _, rfl, n2, hE3⟩ := env_cons hE2; obtain ⟨z3, _, rfl, n3, hE4⟩ := env_cons hE3; obtain rfl := env_nil hE4; clear hE hE1 hE2 hE3 hE4
    obtain ⟨hk, rfl⟩ := range_inv hk
    simp [fg2_law, fb2_law, wOp, wCons, wNil, wC, wSeq, wSet, wAsg, wName, wFn, wFnM, stb, pur_i, sld_pur, free_nf, -List.map_map, n2, n3]
    refine sd_draw ht (k := fun ρ' d1 v e1 t1 hv => ⟨d1, e1, ?_⟩)
    simp [pur_i, cv_pur, wAdd_ii, -List.map_map]
    refine sd_draw t1 (k := fun ρ' d2 u e2 t2 hu => ⟨d2, e2, ?_⟩)
    simp [pur_i, cv_pur, wAdd_ii, -List.map_map]
    refine kin fun ρ => ?_
    simp [pur_l, cv_own, -List.map_map]
    rw [show (1 : Int) + (v : Int) = ((1 + v : Nat) : Int) by omega, show (1 : Int) + (u : Int) = ((1 + u : Nat) : Int) by omega]
    refine sd_program t2 (by omega) (by omega) (by omega) (by omega) (by omega) fun ρ d3 rows e3 t3 okr hl hb => ⟨d3, e3, ?_⟩
    have o : OkP (1 + v) rows := okk (by omega) okr hl (by omega) (by omega) hb
    simp [wRet, wOp, wCons, wNil, wC, wVar, wSeq, wIf, DL.wNot, wNext, wFn, wFnM, wIfE, stb, pur_i, sld_pur, cv_pur, wEq_ii, wTru_eq, wB_eq, booR_b, -List.map_map, pur_prog, pur_prog, rs3_law, wIx_prog0]
    have F4 : ∀ (d4 : PyData), Bag2 (100 * k + 1 + 1 + 10 * (1 + u) + 1) d4 → rs4_law { nx := N, rt := T, bk := rs2_law { nx := NN, rt := T }, ct := N } [some (P (PyData.list (List.map PyData.int a))), some ⟨.own, d4⟩, some (P (PyData.int (k : Nat))), some (P (progD (1 + v) rows))] := by
      intro d4 t4
      simp [wRet, wCons, wNil, wC, wVar, wIf, DL.wNot, wNext, wFn, stb, wTru_eq, wFnMS, -List.map_map, pur_prog, rs4_law]
      refine sd_odd t4 (by omega) fun ρ d5 x e5 t5 hx => ⟨d5, e5, ?_⟩
      simp [cvS_P, -List.map_map]
      refine sd_is_right o hx fun ρ => ?_
      simp [pur_b, cv_pur, truR_b, -List.map_map]
      exact hN _ ⟨d5, t5.mono (by omega), by simp [nf_shr, isS, env_c, env_n, -List.map_map]⟩
    split
    · refine sd_draw t3 (k := fun ρ' d4 w e4 t4 hw => ⟨d4, e4, ?_⟩)
      simp [pur_i, cv_pur, wAdd_ii, -List.map_map]
      rw [show (1 : Int) + (w : Int) = ((1 + w : Nat) : Int) by omega]
      refine sd_is_right o (elI _ (by omega)) fun ρ => ?_
      simp [pur_b, cv_pur, truR_b, -List.map_map]
      exact F4 _ t4
    · refine sd_draw t3 (k := fun ρ' d4 w e4 t4 hw => ⟨d4, e4, ?_⟩)
      simp [pur_i, cv_pur, wAdd_ii, -List.map_map]
      rw [show (1 : Int) + (w : Int) = ((1 + w : Nat) : Int) by omega]
      refine sd_is_right o (elI _ (by omega)) fun ρ => ?_
      simp [pur_b, cv_pur, truR_b, -List.map_map]
      exact F4 _ t4
  · rintro ρ ⟨d, ht, hE⟩
    obtain ⟨_, _, rfl, rfl, hE1⟩ := env_cons hE; obtain ⟨_, _, rfl, rfl, hE2⟩ := env_cons hE1; obtain ⟨z2, _, rfl, n2, hE3⟩ := env_cons hE2; obtain ⟨z3, _, rfl, n3, hE4⟩ := env_cons hE3; obtain rfl := env_nil hE4; clear hE hE1 hE2 hE3 hE4
    simp at ht
    simp [rs2_law, wOp, wCons, wNil, wC, wSeq, wSet, wAsg, wName, wFn, wFnM, stb, pur_i, free_nf, -List.map_map]
    refine sd_draw ht (k := fun ρ' d1 u e1 t1 hu => ⟨d1, e1, ?_⟩)
    simp [pur_i, cv_pur, wAdd_ii, -List.map_map]
    refine kin fun ρ => ?_
    simp [pur_l, cv_own, -List.map_map]
    rw [show (1 : Int) + (u : Int) = ((1 + u : Nat) : Int) by omega]
    refine sd_program (m := 0) t1 (by omega) (by omega) (by omega) (by omega) (by omega) fun ρ d2 rows e2 t2 okr hl hb => ⟨d2, e2, by assumption, ?_⟩
    have o : OkP 0 rows := okk (by omega) okr hl (by omega) (by omega) hb
    simp [wRet, wOp, wCons, wNil, wC, wVar, wSeq, wIf, DL.wNot, wNext, wFn, wFnM, stb, pur_i, sld_pur, cv_pur, wTru_eq, -List.map_map, pur_prog, pur_prog, rs8_law]
    refine sd_draw t2 (k := fun ρ' d3 w e3 t3 hw => ⟨d3, e3, ?_⟩)
    simp [pur_i, cv_pur, wAdd_ii, -List.map_map]
    rw [show (1 : Int) + (w : Int) = ((1 + w : Nat) : Int) by omega]
    refine sd_is_right o (elI _ (by omega)) fun ρ => ?_
    simp [wOp, wCons, wNil, wC, wSeq, wSet, wAsg, wName, wFn, wFnM, stb, pur_b, pur_i, free_nf, nf_shr, cv_pur, truR_b, -List.map_map, rs9_law]
    refine sd_draw t3 (k := fun ρ' d4 v e4 t4 hv => ⟨d4, e4, ?_⟩)
    simp [pur_i, cv_pur, wAdd_ii, -List.map_map]
    refine sd_draw t4 (k := fun ρ' d5 y e5 t5 hy => ⟨d5, e5, ?_⟩)
    simp [pur_i, cv_pur, wAdd_ii, -List.map_map]
    refine kin fun ρ => ?_
    simp [pur_l, cv_own, -List.map_map]
    rw [show (1 : Int) + (v : Int) = ((1 + v : Nat) : Int) by omega, show (1 : Int) + (y : Int) = ((1 + y : Nat) : Int) by omega]
    refine sd_program t5 (by omega) (by omega) (by omega) (by omega) (by omega) fun ρ d6 rows2 e6 t6 okr2 hl2 hb2 => ⟨d6, e6, ?_⟩
    have o2 : OkP (1 + v) rows2 := okk (by omega) okr2 hl2 (by omega) (by omega) hb2
    simp [wRet, wOp, wCons, wNil, wC, wVar, wFn, wFnM, wIfE, stb, pur_i, sld_pur, cv_pur, wB_eq, -List.map_map, pur_prog, pur_prog, rs11_law]
    refine sd_draw t6 (k := fun ρ' d7 z e7 t7 hz => ⟨d7, e7, ?_⟩)
    simp [pur_i, cv_pur, wEq_ii, booR_b, -List.map_map]
    have fin : ∀ (ρ : DEnv) (n : Nat), n < 100 → ct__law_is_right.sd [P (progD (1 + v) rows2), P (.int (n : Nat))] fun x r => T ρ (cv r) := fun ρ n hn => sd_is_right o2 (elI n hn) fun ρ' => by
      simp [pur_b, cv_pur, -List.map_map]
      exact fT _
    split
    · refine sd_draw t7 (k := fun ρ' d8 q e8 t8 hq => ⟨d8, e8, ?_⟩)
      simp [pur_i, cv_pur, -List.map_map]
      exact fin _ q (by omega)
    · exact fin _ 9 (by omega)
end Law
namespace Law
open PySem PySem.Spec PyProof.Rows L2 DL
def top (i : Nat) : Stmt := PySem.Challenge.pw_carryladder_k32_whole_tables_of_programs.main.body.getD i (.Pass ⟨0, 0, 0, 0⟩)
abbrev st__law_bag : Stmt := top 19
theorem sc__law_bag : FnScope ["script", "cell", "cells", "stirred"] ["script"] (defScope st__law_bag) := ⟨rfl, rfl, rfl, by decide +kernel, rfl, by decide +kernel, by decide +kernel⟩
abbrev st__law_draw : Stmt := top 20
theorem sc__law_draw : FnScope ["bag", "many", "far", "whole", "turn", "mixed"] ["bag", "many"] (defScope st__law_draw) := ⟨rfl, rfl, rfl, by decide +kernel, rfl, by decide +kernel, by decide +kernel⟩
abbrev st__law_pick : Stmt := top 21
theorem sc__law_pick : FnScope ["bag", "row"] ["bag", "row"] (defScope st__law_pick) := ⟨rfl, rfl, rfl, by decide +kernel, rfl, by decide +kernel, by decide +kernel⟩
abbrev st__law_row : Stmt := top 23
theorem sc__law_row : FnScope ["bag", "kinds", "given", "word", "low", "turn"] ["bag", "kinds", "given"] (defScope st__law_row) := ⟨rfl, rfl, rfl, by decide +kernel, rfl, by decide +kernel, by decide +kernel⟩
abbrev st__law_program : Stmt := top 24
theorem sc__law_program : FnScope ["bag", "many", "count", "kinds", "rows", "spot"] ["bag", "many", "count", "kinds"] (defScope st__law_program) := ⟨rfl, rfl, rfl, by decide +kernel, rfl, by decide +kernel, by decide +kernel⟩
abbrev st__law_is_whole : Stmt := top 25
theorem sc__law_is_whole : FnScope ["value"] ["value"] (defScope st__law_is_whole) := ⟨rfl, rfl, rfl, by decide +kernel, rfl, by decide +kernel, by decide +kernel⟩
abbrev st__law_pair_value : Stmt := top 27
theorem sc__law_pair_value : FnScope ["word", "here", "there", "full"] ["word", "here", "there", "full"] (defScope st__law_pair_value) := ⟨rfl, rfl, rfl, by decide +kernel, rfl, by decide +kernel, by decide +kernel⟩
abbrev st__law_value : Stmt := top 28
theorem sc__law_value : FnScope ["row", "given", "width", "full", "place", "here", "found", "parity"] ["row", "given", "width"] (defScope st__law_value) := ⟨rfl, rfl, rfl, by decide +kernel, rfl, by decide +kernel, by decide +kernel⟩
abbrev st__law_run : Stmt := top 29
theorem sc__law_run : FnScope ["program", "width", "words", "given", "row"] ["program", "width", "words"] (defScope st__law_run) := ⟨rfl, rfl, rfl, by decide +kernel, rfl, by decide +kernel, by decide +kernel⟩
abbrev st__law_due : Stmt := top 31
theorem sc__law_due : FnScope ["program", "width", "many", "answers", "place", "words"] ["program", "width"] (defScope st__law_due) := ⟨rfl, rfl, rfl, by decide +kernel, rfl, by decide +kernel, by decide +kernel⟩
abbrev st_is_integer : Stmt := top 2
theorem sc_is_integer : FnScope ["value"] ["value"] (defScope st_is_integer) := ⟨rfl, rfl, rfl, by decide +kernel, rfl, by decide +kernel, by decide +kernel⟩
abbrev st_is_width : Stmt := top 15
theorem sc_is_width : FnScope ["many", "value"] ["many", "value"] (defScope st_is_width) := ⟨rfl, rfl, rfl, by decide +kernel, rfl, by decide +kernel, by decide +kernel⟩
abbrev st_value_of_two : Stmt := top 10
theorem sc_value_of_two : FnScope ["name", "word", "other", "width", "top"] ["name", "word", "other", "width"] (defScope st_value_of_two) := ⟨rfl, rfl, rfl, by decide +kernel, rfl, by decide +kernel, by decide +kernel⟩
abbrev st_mask_word : Stmt := top 7
theorem sc_mask_word : FnScope ["bits", "width", "found", "i"] ["bits", "width"] (defScope st_mask_word) := ⟨rfl, rfl, rfl, by decide +kernel, rfl, by decide +kernel, by decide +kernel⟩
abbrev st_prefix_word : Stmt := top 8
theorem sc_prefix_word : FnScope ["word", "width", "found", "shift"] ["word", "width"] (defScope st_prefix_word) := ⟨rfl, rfl, rfl, by decide +kernel, rfl, by decide +kernel, by decide +kernel⟩
abbrev st_value_of_one : Stmt := top 9
theorem sc_value_of_one : FnScope ["name", "word", "width", "top"] ["name", "word", "width"] (defScope st_value_of_one) := ⟨rfl, rfl, rfl, by decide +kernel, rfl, by decide +kernel, by decide +kernel⟩
abbrev st_value_of : Stmt := top 11
theorem sc_value_of : FnScope ["row", "known", "width", "name"] ["row", "known", "width"] (defScope st_value_of) := ⟨rfl, rfl, rfl, by decide +kernel, rfl, by decide +kernel, by decide +kernel⟩
abbrev st_values : Stmt := top 12
theorem sc_values : FnScope ["program", "width", "words", "known", "row"] ["program", "width", "words"] (defScope st_values) := ⟨rfl, rfl, rfl, by decide +kernel, rfl, by decide +kernel, by decide +kernel⟩
abbrev st_result : Stmt := top 13
theorem sc_result : FnScope ["program", "width", "words"] ["program", "width", "words"] (defScope st_result) := ⟨rfl, rfl, rfl, by decide +kernel, rfl, by decide +kernel, by decide +kernel⟩
abbrev st_words_of_place : Stmt := top 16
theorem sc_words_of_place : FnScope ["many", "width", "place", "number"] ["many", "width", "place"] (defScope st_words_of_place) := ⟨rfl, rfl, rfl, by decide +kernel, rfl, by decide +kernel, by decide +kernel⟩
abbrev st_table_of : Stmt := top 17
theorem sc_table_of : FnScope ["program", "width", "many", "places", "place"] ["program", "width"] (defScope st_table_of) := ⟨rfl, rfl, rfl, by decide +kernel, rfl, by decide +kernel, by decide +kernel⟩
abbrev st__law_told : Stmt := top 30
theorem sc__law_told : FnScope ["program", "width", "is_named", "refused"] ["program", "width", "is_named"] (defScope st__law_told) := ⟨rfl, rfl, rfl, by decide +kernel, rfl, by decide +kernel, by decide +kernel⟩
abbrev st__law_is_right : Stmt := top 32
theorem sc__law_is_right : FnScope ["program", "width", "stood", "due", "told"] ["program", "width"] (defScope st__law_is_right) := ⟨rfl, rfl, rfl, by decide +kernel, rfl, by decide +kernel, by decide +kernel⟩
abbrev st__law_kinds : Stmt := top 22
theorem sc__law_kinds : FnScope ["plain"] [] (defScope st__law_kinds) := ⟨rfl, rfl, rfl, by decide +kernel, rfl, by decide +kernel, by decide +kernel⟩
abbrev st__law_odd : Stmt := top 26
theorem sc__law_odd : FnScope ["bag"] ["bag"] (defScope st__law_odd) := ⟨rfl, rfl, rfl, by decide +kernel, rfl, by decide +kernel, by decide +kernel⟩
abbrev st_law : Stmt := top 33
theorem sc_law : FnScope ["script", "bag", "turn", "program"] ["script"] (defScope st_law) := ⟨rfl, rfl, rfl, by decide +kernel, rfl, by decide +kernel, by decide +kernel⟩
section
variable {P : Program} {w : World} {K : PySem.W.Frag} {mg : Str → Option Value} {base : Heap} {xc : Ek → Option Addr}
theorem hu64 {k : Nat} {A : Around} (hr : Room k A) : A.units + 64 < cLine := by have := hr.un; omega
theorem hu65 {k : Nat} {A : Around} (hr : Room k A) : A.units + 65 < cLine := by have := hr.un; omega
theorem hu1 {k : Nat} {A : Around} (hr : Room k A) : A.units + 1 < cLine := by have := hr.un; omega
theorem kwTo_table_of_width_program {f : Addr} {fd : FuncData} (F : Fun K "table_of" "table_of" st_table_of f fd) : KwTo K fd ["program", "width"] ["width", "program"] [1, 0] := by
  obtain ⟨oc, od, kV, doc, pm, an, cdv, ct, osl, rfl, lk, hcd⟩ := F.ex
  refine kw_mk 1 rfl (by decide) fun s ws h => ?_
  obtain ⟨a0, a1, r, rfl⟩ := ex2 h
  exact .of_eq rfl
theorem ok__law_bag {f : Addr} {fd : FuncData} (F : Fun K "_law_bag" "_law_bag" st__law_bag f fd) (b_abs : mg "abs" = none) (b_int : mg "int" = none) (b_len : mg "len" = none)  : FnD P w K mg base 1 f fd ["script"] ct__law_bag := by
  have nd := sc__law_bag.nd
  refine fnD F sc__law_bag (fun _ => rfl) fun cdv A outer s H E v0 hgd hr => ?_
  exact ⟨wb__law_bag, (ds_cons (ds_par 2 3 rfl nd (dg_cons (de_lc0 [("cell", 1)] rfl nd (di_sq true (de_slice (de_var 0) do_none (do_some de_int))) (blkOk_by (by kernel_rfl)) (fun _ _ _ _ _ => (db_name 1 nd)) (fun _ _ _ _ _ => dts_nil) (fun _ _ _ _ _ => (de_op op_addA od_add (de_op op_mulT od_mulT de_int (de_callB call_abs cd_abs (by rfl) b_abs (by decide +kernel) (dg_cons (de_var 1) dg_nil))) (de_callT call_intA cd_int (by rfl) b_int (by decide +kernel) (dg_cons (de_cmp op_lt od_cmpI (de_var 1) de_int (by rfl)) dg_nil))))) (dg_cons (de_op op_addA od_add de_int (de_callB call_lenA cd_len (by rfl) b_len (by decide +kernel) (dg_cons (de_var 0) dg_nil))) dg_nil)))
      (ds_cons (ds_frz 2 (ds_for PassesOwn.never rfl (di_sq false (de_var 2)) (db_name 1 nd) (ds_sole (ds_set 3 nd (de_op op_mod od_int (de_callT call_intA cd_int (by rfl) b_int (by decide +kernel) (dg_cons (de_op op_addA od_add (de_op op_addA od_add (de_op op_mulT od_mulT (de_var 3) de_int) (de_var 1)) de_int) dg_nil)) de_int)))))
      (ds_sole (ds_ret (de_disp (dp_cons (de_lc0 [("cell", 1)] rfl nd (di_sq true (de_var 2)) (blkOk_by (by kernel_rfl)) (fun _ _ _ _ _ => (db_name 1 nd)) (fun _ _ _ _ _ => (dts_one (dt_cmp op_ge od_cmpI (de_var 1) (de_op op_pow od_int de_int de_int) (by rfl)))) (fun _ _ _ _ _ => (de_var 1))) (dp_cons (de_var 3) (dp_cons de_int dp_nil)))))))), rd__law_bag⟩
theorem ok__law_draw {f : Addr} {fd : FuncData} (F : Fun K "_law_draw" "_law_draw" st__law_draw f fd) (b_int : mg "int" = none)  : FnD P w K mg base 1 f fd ["bag", "many"] ct__law_draw := by
  have nd := sc__law_draw.nd
  refine fnD F sc__law_draw (fun _ => rfl) fun cdv A outer s H E v0 hgd hr => ?_
  exact ⟨wb__law_draw, (ds_far 0 2 nd (dpl_key (hu1 hr) (dpl_var 0) de_str) (fun _ => (dt_cmp (op_neA (hu64 hr)) od_ne (de_var 2) (de_lst dg_nil) (by rfl))) (fun _ => (ds_cons (ds_set 3 nd (de_popE (dpl_var 2) de_int))
      (ds_cons (ds_if (dt_cmp op_ge od_cmpI (de_var 3) (de_var 1) (by rfl)) (ds_sole (ds_expr (de_ins (dpl_var 2) (dg_cons de_int (dg_cons (de_op op_fdiv od_int (de_var 3) (de_var 1)) dg_nil))))) ds_nil)
      (ds_sole (ds_ret (de_op op_mod od_int (de_callT call_intA cd_int (by rfl) b_int (by decide +kernel) (dg_cons (de_var 3) dg_nil)) (de_var 1)))))))
      (ds_cons (ds_dput (i := 0) (hu1 hr) (de_op op_addA od_add (de_dget (hu1 hr) (de_var 0) de_str (fun _ _ => rfl)) de_int) (dpl_var 0) de_str)
      (ds_cons (ds_set 4 nd (de_dget (hu1 hr) (de_var 0) de_str (fun _ _ => rfl)))
      (ds_cons (ds_set 5 nd (de_op op_mod od_int (de_callT call_intA cd_int (by rfl) b_int (by decide +kernel) (dg_cons (de_op op_addA od_add (de_op op_addA od_add (de_op op_mulT od_mulT (de_dget (hu1 hr) (de_var 0) de_str (fun _ _ => rfl)) de_int) (de_op op_mulT od_mulT (de_op op_mulT od_mulT (de_var 4) (de_var 4)) de_int)) (de_op op_mulT od_mulT de_int (de_var 4))) dg_nil)) de_int))
      (ds_cons (ds_set 5 nd (de_op op_mod od_int (de_callT call_intA cd_int (by rfl) b_int (by decide +kernel) (dg_cons (de_op op_addA od_add (de_op op_mulT od_mulT (de_var 5) de_int) (de_op op_fdiv od_int (de_var 5) de_int)) dg_nil)) de_int))
      (ds_cons (ds_dput (i := 0) (hu1 hr) (de_var 5) (dpl_var 0) de_str)
      (ds_sole (ds_ret (de_op op_mod od_int (de_callT call_intA cd_int (by rfl) b_int (by decide +kernel) (dg_cons (de_op op_fdiv od_int (de_var 5) de_int) dg_nil)) (de_var 1)))))))))), rd__law_draw⟩
theorem ok__law_pick {f : Addr} {fd : FuncData} (F : Fun K "_law_pick" "_law_pick" st__law_pick f fd) {f__law_draw : Addr} {fd__law_draw : FuncData} (C__law_draw : Fx P w K mg base "_law_draw" f__law_draw fd__law_draw ["bag", "many"] 1 ct__law_draw) (b_len : mg "len" = none)  : FnD P w K mg base 2 f fd ["bag", "row"] ct__law_pick := by
  have nd := sc__law_pick.nd
  refine fnD F sc__law_pick (fun _ => rfl) fun cdv A outer s H E v0 hgd hr => ?_
  exact ⟨wb__law_pick, (ds_sole (ds_ret (de_ix ix_seq od_ix (de_var 1) (de_callM 0 C__law_draw hgd (hr.mono (by decide)) (dg_cons (de_callB call_lenA cd_len (by rfl) b_len (by decide +kernel) (dg_cons (de_var 1) dg_nil)) dg_nil)) (fun _ _ => rfl)))), rd__law_pick⟩
theorem ok__law_row {f : Addr} {fd : FuncData} (F : Fun K "_law_row" "_law_row" st__law_row f fd) {f__law_draw : Addr} {fd__law_draw : FuncData} (C__law_draw : Fx P w K mg base "_law_draw" f__law_draw fd__law_draw ["bag", "many"] 1 ct__law_draw) {f__law_pick : Addr} {fd__law_pick : FuncData} (C__law_pick : Fx P w K mg base "_law_pick" f__law_pick fd__law_pick ["bag", "row"] 2 ct__law_pick) (b_range : mg "range" = none) (b_tuple : mg "tuple" = none)  : FnD P w K mg base 3 f fd ["bag", "kinds", "given"] ct__law_row := by
  have nd := sc__law_row.nd
  refine fnD F sc__law_row (fun _ => rfl) fun cdv A outer s H E v0 hgd hr => ?_
  exact ⟨wb__law_row, (ds_cons (ds_set 3 nd (de_callM 0 C__law_pick hgd (hr.mono (by decide)) (dg_cons (de_var 1) dg_nil)))
      (ds_cons (ds_if (dt_cmp (op_eqA (hu64 hr)) od_eq (de_var 3) de_str (by rfl)) (ds_sole (ds_ret (de_tup (dg_cons (de_var 3) (dg_cons (de_callT call_tupA cd_tup (by rfl) b_tuple (by decide +kernel) (dg_cons (de_lc [("turn", 5)] rfl nd (di_range1 false (by rfl) b_range (dg_cons (de_op op_addA od_add de_int (de_callM 0 C__law_draw hgd (hr.mono (by decide)) (dg_cons de_int dg_nil))) dg_nil)) (blkOk_by (by kernel_rfl)) (fun _ _ _ _ _ => (db_name 5 nd)) (fun _ _ _ _ _ => dts_nil) (fun _ _ _ _ _ => (de_callM 0 C__law_draw hgd (hr.mono (by decide)) (dg_cons de_int dg_nil)))) dg_nil)) dg_nil))))) ds_nil)
      (ds_cons (ds_if (dt_cmp (op_inA (hu65 hr)) od_inA (de_var 3) (de_tup (dg_cons de_str (dg_cons de_str dg_nil))) (by rfl)) (ds_sole (ds_ret (de_tup (dg_cons (de_var 3) dg_nil)))) ds_nil)
      (ds_cons (ds_if (dt_cmp (op_eqA (hu64 hr)) od_eq (de_var 2) de_int (by rfl)) (ds_sole (ds_ret (de_tup (dg_cons de_str dg_nil)))) ds_nil)
      (ds_cons (ds_set 4 nd (de_op op_sub od_int0 (de_op op_sub od_int0 (de_var 2) de_int) (de_op op_fdiv od_int (de_callM 0 C__law_draw hgd (hr.mono (by decide)) (dg_cons (de_var 2) dg_nil)) de_int)))
      (ds_cons (ds_if (dt_cmp (op_inA (hu65 hr)) od_inA (de_var 3) (de_tup (dg_cons de_str (dg_cons de_str (dg_cons de_str (dg_cons de_str dg_nil))))) (by rfl)) (ds_sole (ds_ret (de_tup (dg_cons (de_var 3) (dg_cons (de_var 4) dg_nil))))) ds_nil)
      (ds_sole (ds_ret (de_ifExp (dt_cmp (op_eqA (hu64 hr)) od_eq (de_callM 0 C__law_draw hgd (hr.mono (by decide)) (dg_cons de_int dg_nil)) de_int (by rfl)) (de_tup (dg_cons (de_var 3) (dg_cons (de_var 4) (dg_cons (de_callM 0 C__law_draw hgd (hr.mono (by decide)) (dg_cons (de_var 2) dg_nil)) dg_nil)))) (de_tup (dg_cons (de_var 3) (dg_cons (de_callM 0 C__law_draw hgd (hr.mono (by decide)) (dg_cons (de_var 2) dg_nil)) (dg_cons (de_var 4) dg_nil))))))))))))), rd__law_row⟩
theorem ok__law_program {f : Addr} {fd : FuncData} (F : Fun K "_law_program" "_law_program" st__law_program f fd) {f__law_row : Addr} {fd__law_row : FuncData} (C__law_row : Fx P w K mg base "_law_row" f__law_row fd__law_row ["bag", "kinds", "given"] 3 ct__law_row) (b_range : mg "range" = none) (b_tuple : mg "tuple" = none)  : FnD P w K mg base 4 f fd ["bag", "many", "count", "kinds"] ct__law_program := by
  have nd := sc__law_program.nd
  refine fnD F sc__law_program (fun _ => rfl) fun cdv A outer s H E v0 hgd hr => ?_
  exact ⟨wb__law_program, (ds_cons (ds_set 4 nd (de_lst dg_nil))
      (ds_cons (ds_for PassesOwn.never rfl (di_range1 false (by rfl) b_range (dg_cons (de_var 2) dg_nil)) (db_name 5 nd) (ds_sole (ds_expr (de_app (dpl_var 4) (de_callM 0 C__law_row hgd (hr.mono (by decide)) (dg_cons (de_var 3) (dg_cons (de_op op_addA od_add (de_var 1) (de_var 5)) dg_nil)))))))
      (ds_sole (ds_ret (de_tup (dg_cons (de_var 1) (dg_cons (de_callT call_tupA cd_tup (by rfl) b_tuple (by decide +kernel) (dg_cons (de_var 4) dg_nil)) dg_nil))))))), rd__law_program⟩
theorem ok__law_is_whole {f : Addr} {fd : FuncData} (F : Fun K "_law_is_whole" "_law_is_whole" st__law_is_whole f fd) (b_bool : mg "bool" = none) (b_int : mg "int" = none) (b_isinstance : mg "isinstance" = none)  : FnD P w K mg base 1 f fd ["value"] ct__law_is_whole := by
  have nd := sc__law_is_whole.nd
  refine fnD F sc__law_is_whole (fun _ => rfl) fun cdv A outer s H E v0 hgd hr => ?_
  exact ⟨wb__law_is_whole, (ds_sole (ds_ret (de_and (de_isi "int" (by decide) (by rfl) b_isinstance (by rfl) b_int (by rfl) (de_var 0)) (de_one (de_not (de_isi "bool" (by decide) (by rfl) b_isinstance (by rfl) b_bool (by rfl) (de_var 0))))))), rd__law_is_whole⟩
theorem ok__law_pair_value {f : Addr} {fd : FuncData} (F : Fun K "_law_pair_value" "_law_pair_value" st__law_pair_value f fd)  : FnD P w K mg base 1 f fd ["word", "here", "there", "full"] ct__law_pair_value := by
  have nd := sc__law_pair_value.nd
  refine fnD F sc__law_pair_value (fun _ => rfl) fun cdv A outer s H E v0 hgd hr => ?_
  exact ⟨wb__law_pair_value, (ds_cons (ds_if (dt_cmp (op_eqA (hu64 hr)) od_eq (de_var 0) de_str (by rfl)) (ds_sole (ds_ret (de_op op_and od_int0 (de_var 1) (de_var 2)))) ds_nil)
      (ds_cons (ds_if (dt_cmp (op_eqA (hu64 hr)) od_eq (de_var 0) de_str (by rfl)) (ds_sole (ds_ret (de_op op_or od_int0 (de_var 1) (de_var 2)))) ds_nil)
      (ds_cons (ds_if (dt_cmp (op_eqA (hu64 hr)) od_eq (de_var 0) de_str (by rfl)) (ds_sole (ds_ret (de_op op_xor od_int0 (de_var 1) (de_var 2)))) ds_nil)
      (ds_sole (ds_ret (de_ifExp (dt_cmp (op_eqA (hu64 hr)) od_eq (de_var 0) de_str (by rfl)) (de_op op_and od_int0 (de_op op_addA od_add (de_var 1) (de_var 2)) (de_var 3)) (de_op op_and od_int0 (de_op op_sub od_int0 (de_var 1) (de_var 2)) (de_var 3)))))))), rd__law_pair_value⟩
theorem ok__law_value {f : Addr} {fd : FuncData} (F : Fun K "_law_value" "_law_value" st__law_value f fd) {f__law_pair_value : Addr} {fd__law_pair_value : FuncData} (C__law_pair_value : Fx P w K mg base "_law_pair_value" f__law_pair_value fd__law_pair_value ["word", "here", "there", "full"] 1 ct__law_pair_value) (b_int : mg "int" = none) (b_len : mg "len" = none) (b_range : mg "range" = none) (b_sum : mg "sum" = none)  : FnD P w K mg base 2 f fd ["row", "given", "width"] ct__law_value := by
  have nd := sc__law_value.nd
  refine fnD F sc__law_value (fun _ => rfl) fun cdv A outer s H E v0 hgd hr => ?_
  exact ⟨wb__law_value, (ds_cons (ds_set 3 nd (de_op op_sub od_int0 (de_op op_shlW od_int de_int (de_var 2)) de_int))
      (ds_cons (ds_if (dt_cmp (op_inA (hu65 hr)) od_inA (de_ix ix_seq od_ix (de_var 0) de_int (fun _ _ => rfl)) (de_tup (dg_cons de_str (dg_cons de_str dg_nil))) (by rfl)) (ds_sole (ds_ret (de_ifExp (dt_cmp (op_eqA (hu64 hr)) od_eq (de_ix ix_seq od_ix (de_var 0) de_int (fun _ _ => rfl)) de_str (by rfl)) (de_var 3) de_int))) ds_nil)
      (ds_cons (ds_if (dt_cmp (op_eqA (hu64 hr)) od_eq (de_ix ix_seq od_ix (de_var 0) de_int (fun _ _ => rfl)) de_str (by rfl)) (ds_sole (ds_ret (de_callB (call_sumA rfl) cd_sumA (by rfl) b_sum (by decide +kernel) (dg_cons (de_lc0 [("place", 4)] rfl nd (di_range1 true (by rfl) b_range (dg_cons (de_var 2) dg_nil)) (blkOk_by (by kernel_rfl)) (fun _ _ _ _ _ => (db_name 4 nd)) (fun _ _ _ _ _ => dts_nil) (fun _ _ _ _ _ => (de_op op_shlW od_int (de_ix ix_seq od_ix (de_ix ix_seq od_ix (de_var 0) de_int (fun _ _ => rfl)) (de_op op_mod od_int (de_callT call_intA cd_int (by rfl) b_int (by decide +kernel) (dg_cons (de_var 4) dg_nil)) (de_callB call_lenA cd_len (by rfl) b_len (by decide +kernel) (dg_cons (de_ix ix_seq od_ix (de_var 0) de_int (fun _ _ => rfl)) dg_nil))) (fun _ _ => rfl)) (de_var 4)))) dg_nil)))) ds_nil)
      (ds_cons (ds_set 5 nd (de_ix ix_seq od_ix (de_var 1) (de_ix ix_seq od_ix (de_var 0) de_int (fun _ _ => rfl)) (fun _ _ => rfl)))
      (ds_cons (ds_if (dt_cmp (op_eqA (hu64 hr)) od_eq (de_ix ix_seq od_ix (de_var 0) de_int (fun _ _ => rfl)) de_str (by rfl)) (ds_sole (ds_ret (de_op op_sub od_int0 (de_var 3) (de_var 5)))) ds_nil)
      (ds_cons (ds_if (dt_cmp (op_eqA (hu64 hr)) od_eq (de_ix ix_seq od_ix (de_var 0) de_int (fun _ _ => rfl)) de_str (by rfl)) (ds_sole (ds_ret (de_op op_and od_int0 (de_op op_shlW od_int (de_var 5) de_int) (de_var 3)))) ds_nil)
      (ds_cons (ds_if (dt_cmp (op_eqA (hu64 hr)) od_eq (de_ix ix_seq od_ix (de_var 0) de_int (fun _ _ => rfl)) de_str (by rfl)) (ds_sole (ds_ret (de_op op_and od_int0 (de_op op_sub od_int0 de_int (de_var 5)) (de_var 3)))) ds_nil)
      (ds_cons (ds_if (dt_cmp (op_eqA (hu64 hr)) od_eq (de_ix ix_seq od_ix (de_var 0) de_int (fun _ _ => rfl)) de_str (by rfl)) (ds_cons (ds_asg (de_tup (dg_cons de_int (dg_cons de_int dg_nil))) (db_tup (n := 2) rfl (dbs_cons (db_name 6 nd) (dbs_cons (db_name 7 nd) dbs_nil))))
      (ds_cons (ds_for PassesOwn.never rfl (di_range1 false (by rfl) b_range (dg_cons (de_var 2) dg_nil)) (db_name 4 nd) (ds_cons (ds_set 7 nd (de_op op_xor od_int0 (de_var 7) (de_op op_and od_int0 (de_op op_shr od_int (de_var 5) (de_var 4)) de_int)))
      (ds_sole (ds_set 6 nd (de_op op_or od_int0 (de_var 6) (de_op op_shlW od_int (de_var 7) (de_var 4)))))))
      (ds_sole (ds_retV 6)))) ds_nil)
      (ds_sole (ds_ret (de_call C__law_pair_value hgd (hr.mono (by decide)) (dg_cons (de_ix ix_seq od_ix (de_var 0) de_int (fun _ _ => rfl)) (dg_cons (de_var 5) (dg_cons (de_ix ix_seq od_ix (de_var 1) (de_ix ix_seq od_ix (de_var 0) de_int (fun _ _ => rfl)) (fun _ _ => rfl)) (dg_cons (de_var 3) dg_nil))))))))))))))), rd__law_value⟩
theorem ok__law_run {f : Addr} {fd : FuncData} (F : Fun K "_law_run" "_law_run" st__law_run f fd) {f__law_value : Addr} {fd__law_value : FuncData} (C__law_value : Fx P w K mg base "_law_value" f__law_value fd__law_value ["row", "given", "width"] 2 ct__law_value) (b_list : mg "list" = none)  : FnD P w K mg base 3 f fd ["program", "width", "words"] ct__law_run := by
  have nd := sc__law_run.nd
  refine fnD F sc__law_run (fun _ => rfl) fun cdv A outer s H E v0 hgd hr => ?_
  exact ⟨wb__law_run, (ds_cons (ds_set 3 nd (de_callT call_lstA cd_lst (by rfl) b_list (by decide +kernel) (dg_cons (de_var 2) dg_nil)))
      (ds_cons (ds_for PassesOwn.never rfl (di_sq false (de_ix ix_seq od_ix (de_var 0) de_int (fun _ _ => rfl))) (db_name 4 nd) (ds_sole (ds_expr (de_app (dpl_var 3) (de_call C__law_value hgd (hr.mono (by decide)) (dg_cons (de_var 4) (dg_cons (de_var 3) (dg_cons (de_var 1) dg_nil))))))))
      (ds_sole (ds_ret (de_ix ix_seq od_ix (de_var 3) (de_un un_neg ud_neg de_int) (fun _ _ => rfl)))))), rd__law_run⟩
theorem ok__law_due {f : Addr} {fd : FuncData} (F : Fun K "_law_due" "_law_due" st__law_due f fd) {f__law_is_whole : Addr} {fd__law_is_whole : FuncData} (C__law_is_whole : Fx P w K mg base "_law_is_whole" f__law_is_whole fd__law_is_whole ["value"] 1 ct__law_is_whole) {f__law_run : Addr} {fd__law_run : FuncData} (C__law_run : Fx P w K mg base "_law_run" f__law_run fd__law_run ["program", "width", "words"] 3 ct__law_run) (b_range : mg "range" = none) (b_tuple : mg "tuple" = none)  : FnD P w K mg base 4 f fd ["program", "width"] ct__law_due := by
  have nd := sc__law_due.nd
  refine fnD F sc__law_due (fun _ => rfl) fun cdv A outer s H E v0 hgd hr => ?_
  exact ⟨wb__law_due, (ds_cons (ds_set 2 nd (de_ix ix_seq od_ix (de_var 0) de_int (fun _ _ => rfl)))
      (ds_cons (ds_if (DW.dt (dw_or (dt_cmp (op_eqA (hu64 hr)) od_eq (de_var 2) de_int (by rfl)) (dw_or (dt_not (dt_truth (de_call C__law_is_whole hgd (hr.mono (by decide)) (dg_cons (de_var 1) dg_nil)))) (dw_or (dt_cmp op_lt od_cmpI (de_var 1) de_int (by rfl)) (dw_or1 (dt_cmp op_gt od_cmpI (de_op op_mulT od_mulT (de_var 2) (de_var 1)) de_int (by rfl))))))) (ds_sole (ds_ret (de_lst (dg_cons de_str (dg_cons de_bl dg_nil))))) ds_nil)
      (ds_cons (ds_set 3 nd (de_lst dg_nil))
      (ds_cons (ds_for PassesOwn.never rfl (di_range1 false (by rfl) b_range (dg_cons (de_op op_shlW od_int de_int (de_op op_mulT od_mulT (de_var 2) (de_var 1))) dg_nil)) (db_name 4 nd) (ds_cons (ds_set 5 nd (de_ifExp (dt_cmp (op_eqA (hu64 hr)) od_eq (de_var 2) de_int (by rfl)) (de_tup (dg_cons (de_var 4) dg_nil)) (de_tup (dg_cons (de_op op_and od_int0 (de_var 4) (de_op op_sub od_int0 (de_op op_shlW od_int de_int (de_var 1)) de_int)) (dg_cons (de_op op_shr od_int (de_var 4) (de_var 1)) dg_nil)))))
      (ds_sole (ds_expr (de_app (dpl_var 3) (de_call C__law_run hgd (hr.mono (by decide)) (dg_cons (de_var 0) (dg_cons (de_var 1) (dg_cons (de_var 5) dg_nil)))))))))
      (ds_sole (ds_ret (de_lst (dg_cons de_str (dg_cons (de_tup (dg_cons (de_var 2) (dg_cons (de_var 1) (dg_cons (de_callT call_tupA cd_tup (by rfl) b_tuple (by decide +kernel) (dg_cons (de_var 3) dg_nil)) dg_nil)))) dg_nil))))))))), rd__law_due⟩
theorem ok_is_integer {f : Addr} {fd : FuncData} (F : Fun K "is_integer" "is_integer" st_is_integer f fd) (b_bool : mg "bool" = none) (b_int : mg "int" = none) (b_isinstance : mg "isinstance" = none)  : FnD P w K mg base 1 f fd ["value"] ct_is_integer := by
  have nd := sc_is_integer.nd
  refine fnD F sc_is_integer (fun _ => rfl) fun cdv A outer s H E v0 hgd hr => ?_
  exact ⟨wb_is_integer, (ds_sole (ds_ret (de_and (de_isi "int" (by decide) (by rfl) b_isinstance (by rfl) b_int (by rfl) (de_var 0)) (de_one (de_not (de_isi "bool" (by decide) (by rfl) b_isinstance (by rfl) b_bool (by rfl) (de_var 0))))))), rd_is_integer⟩
theorem ok_is_width {f : Addr} {fd : FuncData} (F : Fun K "is_width" "is_width" st_is_width f fd) {f_is_integer : Addr} {fd_is_integer : FuncData} (C_is_integer : Fx P w K mg base "is_integer" f_is_integer fd_is_integer ["value"] 1 ct_is_integer) {t_MAX_TABLE : Tok} (g_MAX_TABLE : mg "MAX_TABLE" = some (.int 8 t_MAX_TABLE))  : FnD P w K mg base 2 f fd ["many", "value"] ct_is_width := by
  have nd := sc_is_width.nd
  refine fnD F sc_is_width (fun _ => rfl) fun cdv A outer s H E v0 hgd hr => ?_
  exact ⟨wb_is_width, (ds_sole (ds_ret (de_and (de_call C_is_integer hgd (hr.mono (by decide)) (dg_cons (de_var 1) dg_nil)) (de_and (de_cmp op_ge od_cmpI (de_var 1) de_int (by rfl)) (de_one (de_cmp op_le od_cmpI (de_op op_mulT od_mulT (de_var 0) (de_var 1)) (de_glI (by rfl) g_MAX_TABLE) (by rfl))))))), rd_is_width⟩
theorem ok_value_of_two {f : Addr} {fd : FuncData} (F : Fun K "value_of_two" "value_of_two" st_value_of_two f fd)  : FnD P w K mg base 1 f fd ["name", "word", "other", "width"] ct_value_of_two := by
  have nd := sc_value_of_two.nd
  refine fnD F sc_value_of_two (fun _ => rfl) fun cdv A outer s H E v0 hgd hr => ?_
  exact ⟨wb_value_of_two, (ds_cons (ds_if (dt_cmp (op_eqA (hu64 hr)) od_eq (de_var 0) de_str (by rfl)) (ds_sole (ds_ret (de_op op_and od_int0 (de_var 1) (de_var 2)))) ds_nil)
      (ds_cons (ds_if (dt_cmp (op_eqA (hu64 hr)) od_eq (de_var 0) de_str (by rfl)) (ds_sole (ds_ret (de_op op_or od_int0 (de_var 1) (de_var 2)))) ds_nil)
      (ds_cons (ds_if (dt_cmp (op_eqA (hu64 hr)) od_eq (de_var 0) de_str (by rfl)) (ds_sole (ds_ret (de_op op_xor od_int0 (de_var 1) (de_var 2)))) ds_nil)
      (ds_cons (ds_set 4 nd (de_op op_sub od_int0 (de_op op_shlW od_int de_int (de_var 3)) de_int))
      (ds_sole (ds_ret (de_ifExp (dt_cmp (op_eqA (hu64 hr)) od_eq (de_var 0) de_str (by rfl)) (de_op op_and od_int0 (de_op op_addA od_add (de_var 1) (de_var 2)) (de_var 4)) (de_op op_and od_int0 (de_op op_sub od_int0 (de_var 1) (de_var 2)) (de_var 4))))))))), rd_value_of_two⟩
theorem ok_mask_word {f : Addr} {fd : FuncData} (F : Fun K "mask_word" "mask_word" st_mask_word f fd) (b_len : mg "len" = none) (b_range : mg "range" = none)  : FnD P w K mg base 1 f fd ["bits", "width"] ct_mask_word := by
  have nd := sc_mask_word.nd
  refine fnD F sc_mask_word (fun _ => rfl) fun cdv A outer s H E v0 hgd hr => ?_
  exact ⟨wb_mask_word, (ds_cons (ds_set 2 nd de_int)
      (ds_cons (ds_for PassesOwn.never rfl (di_range1 false (by rfl) b_range (dg_cons (de_var 1) dg_nil)) (db_name 3 nd) (ds_sole (ds_set 2 nd (de_op op_or od_int0 (de_var 2) (de_op op_shlW od_int (de_ix ix_seq od_ix (de_var 0) (de_op op_mod od_int (de_var 3) (de_callB call_lenA cd_len (by rfl) b_len (by decide +kernel) (dg_cons (de_var 0) dg_nil))) (fun _ _ => rfl)) (de_var 3))))))
      (ds_sole (ds_retV 2)))), rd_mask_word⟩
theorem ok_prefix_word {f : Addr} {fd : FuncData} (F : Fun K "prefix_word" "prefix_word" st_prefix_word f fd)  : FnD P w K mg base 1 f fd ["word", "width"] ct_prefix_word := by
  have nd := sc_prefix_word.nd
  refine fnD F sc_prefix_word (fun _ => rfl) fun cdv A outer s H E v0 hgd hr => ?_
  exact ⟨wb_prefix_word, (ds_cons (ds_par 2 3 rfl nd (dg_cons (de_var 0) (dg_cons de_int dg_nil)))
      (ds_cons (ds_while PassesOwn.never (dt_cmp op_lt od_cmpI (de_var 3) (de_var 1) (by rfl)) (ds_cons (ds_set 2 nd (de_op op_xor od_int0 (de_var 2) (de_op op_shlW od_int (de_var 2) (de_var 3))))
      (ds_sole (ds_set 3 nd (de_op op_mulT od_mulT (de_var 3) de_int)))))
      (ds_sole (ds_ret (de_op op_and od_int0 (de_var 2) (de_op op_sub od_int0 (de_op op_shlW od_int de_int (de_var 1)) de_int)))))), rd_prefix_word⟩
theorem ok_value_of_one {f : Addr} {fd : FuncData} (F : Fun K "value_of_one" "value_of_one" st_value_of_one f fd) {f_prefix_word : Addr} {fd_prefix_word : FuncData} (C_prefix_word : Fx P w K mg base "prefix_word" f_prefix_word fd_prefix_word ["word", "width"] 1 ct_prefix_word)  : FnD P w K mg base 2 f fd ["name", "word", "width"] ct_value_of_one := by
  have nd := sc_value_of_one.nd
  refine fnD F sc_value_of_one (fun _ => rfl) fun cdv A outer s H E v0 hgd hr => ?_
  exact ⟨wb_value_of_one, (ds_cons (ds_set 3 nd (de_op op_sub od_int0 (de_op op_shlW od_int de_int (de_var 2)) de_int))
      (ds_cons (ds_if (dt_cmp (op_eqA (hu64 hr)) od_eq (de_var 0) de_str (by rfl)) (ds_sole (ds_ret (de_op op_xor od_int0 (de_var 3) (de_var 1)))) ds_nil)
      (ds_cons (ds_if (dt_cmp (op_eqA (hu64 hr)) od_eq (de_var 0) de_str (by rfl)) (ds_sole (ds_ret (de_op op_and od_int0 (de_op op_shlW od_int (de_var 1) de_int) (de_var 3)))) ds_nil)
      (ds_sole (ds_ret (de_ifExp (dt_cmp (op_eqA (hu64 hr)) od_eq (de_var 0) de_str (by rfl)) (de_op op_and od_int0 (de_un un_neg ud_neg (de_var 1)) (de_var 3)) (de_call C_prefix_word hgd (hr.mono (by decide)) (dg_cons (de_var 1) (dg_cons (de_var 2) dg_nil))))))))), rd_value_of_one⟩
theorem ok_value_of {f : Addr} {fd : FuncData} (F : Fun K "value_of" "value_of" st_value_of f fd) {f_value_of_two : Addr} {fd_value_of_two : FuncData} (C_value_of_two : Fx P w K mg base "value_of_two" f_value_of_two fd_value_of_two ["name", "word", "other", "width"] 1 ct_value_of_two) {f_mask_word : Addr} {fd_mask_word : FuncData} (C_mask_word : Fx P w K mg base "mask_word" f_mask_word fd_mask_word ["bits", "width"] 1 ct_mask_word) {f_value_of_one : Addr} {fd_value_of_one : FuncData} (C_value_of_one : Fx P w K mg base "value_of_one" f_value_of_one fd_value_of_one ["name", "word", "width"] 2 ct_value_of_one) (b_len : mg "len" = none)  : FnD P w K mg base 3 f fd ["row", "known", "width"] ct_value_of := by
  have nd := sc_value_of.nd
  refine fnD F sc_value_of (fun _ => rfl) fun cdv A outer s H E v0 hgd hr => ?_
  exact ⟨wb_value_of, (ds_cons (ds_set 3 nd (de_ix ix_seq od_ix (de_var 0) de_int (fun _ _ => rfl)))
      (ds_cons (ds_if (dt_cmp (op_eqA (hu64 hr)) od_eq (de_var 3) de_str (by rfl)) (ds_sole (ds_ret de_int)) ds_nil)
      (ds_cons (ds_if (dt_cmp (op_eqA (hu64 hr)) od_eq (de_var 3) de_str (by rfl)) (ds_sole (ds_ret (de_op op_sub od_int0 (de_op op_shlW od_int de_int (de_var 2)) de_int))) ds_nil)
      (ds_cons (ds_if (dt_cmp (op_eqA (hu64 hr)) od_eq (de_var 3) de_str (by rfl)) (ds_sole (ds_ret (de_call C_mask_word hgd (hr.mono (by decide)) (dg_cons (de_ix ix_seq od_ix (de_var 0) de_int (fun _ _ => rfl)) (dg_cons (de_var 2) dg_nil))))) ds_nil)
      (ds_cons (ds_if (dt_cmp (op_eqA (hu64 hr)) od_eq (de_callB call_lenA cd_len (by rfl) b_len (by decide +kernel) (dg_cons (de_var 0) dg_nil)) de_int (by rfl)) (ds_sole (ds_ret (de_call C_value_of_one hgd (hr.mono (by decide)) (dg_cons (de_var 3) (dg_cons (de_ix ix_seq od_ix (de_var 1) (de_ix ix_seq od_ix (de_var 0) de_int (fun _ _ => rfl)) (fun _ _ => rfl)) (dg_cons (de_var 2) dg_nil)))))) ds_nil)
      (ds_sole (ds_ret (de_call C_value_of_two hgd (hr.mono (by decide)) (dg_cons (de_var 3) (dg_cons (de_ix ix_seq od_ix (de_var 1) (de_ix ix_seq od_ix (de_var 0) de_int (fun _ _ => rfl)) (fun _ _ => rfl)) (dg_cons (de_ix ix_seq od_ix (de_var 1) (de_ix ix_seq od_ix (de_var 0) de_int (fun _ _ => rfl)) (fun _ _ => rfl)) (dg_cons (de_var 2) dg_nil)))))))))))), rd_value_of⟩
theorem ok_values {f : Addr} {fd : FuncData} (F : Fun K "values" "values" st_values f fd) {f_value_of : Addr} {fd_value_of : FuncData} (C_value_of : Fx P w K mg base "value_of" f_value_of fd_value_of ["row", "known", "width"] 3 ct_value_of) (b_list : mg "list" = none) (b_tuple : mg "tuple" = none)  : FnD P w K mg base 4 f fd ["program", "width", "words"] ct_values := by
  have nd := sc_values.nd
  refine fnD F sc_values (fun _ => rfl) fun cdv A outer s H E v0 hgd hr => ?_
  exact ⟨wb_values, (ds_cons (ds_set 3 nd (de_callT call_lstA cd_lst (by rfl) b_list (by decide +kernel) (dg_cons (de_var 2) dg_nil)))
      (ds_cons (ds_for PassesOwn.never rfl (di_sq false (de_ix ix_seq od_ix (de_var 0) de_int (fun _ _ => rfl))) (db_name 4 nd) (ds_sole (ds_expr (de_app (dpl_var 3) (de_call C_value_of hgd (hr.mono (by decide)) (dg_cons (de_var 4) (dg_cons (de_var 3) (dg_cons (de_var 1) dg_nil))))))))
      (ds_sole (ds_ret (de_callT call_tupA cd_tup (by rfl) b_tuple (by decide +kernel) (dg_cons (de_slice (de_var 3) (do_some (de_ix ix_seq od_ix (de_var 0) de_int (fun _ _ => rfl))) do_none) dg_nil)))))), rd_values⟩
theorem ok_result {f : Addr} {fd : FuncData} (F : Fun K "result" "result" st_result f fd) {f_values : Addr} {fd_values : FuncData} (C_values : Fx P w K mg base "values" f_values fd_values ["program", "width", "words"] 4 ct_values)  : FnD P w K mg base 5 f fd ["program", "width", "words"] ct_result := by
  have nd := sc_result.nd
  refine fnD F sc_result (fun _ => rfl) fun cdv A outer s H E v0 hgd hr => ?_
  exact ⟨wb_result, (ds_sole (ds_ret (de_ix ix_seq od_ix (de_call C_values hgd (hr.mono (by decide)) (dg_cons (de_var 0) (dg_cons (de_var 1) (dg_cons (de_var 2) dg_nil)))) (de_un un_neg ud_neg de_int) (fun _ _ => rfl)))), rd_result⟩
theorem ok_words_of_place {f : Addr} {fd : FuncData} (F : Fun K "words_of_place" "words_of_place" st_words_of_place f fd) (b_range : mg "range" = none) (b_tuple : mg "tuple" = none)  : FnD P w K mg base 1 f fd ["many", "width", "place"] ct_words_of_place := by
  have nd := sc_words_of_place.nd
  refine fnD F sc_words_of_place (fun _ => rfl) fun cdv A outer s H E v0 hgd hr => ?_
  exact ⟨wb_words_of_place, (ds_sole (ds_ret (de_callT call_tupA cd_tup (by rfl) b_tuple (by decide +kernel) (dg_cons (de_lc0 [("number", 3)] rfl nd (di_range1 true (by rfl) b_range (dg_cons (de_var 0) dg_nil)) (blkOk_by (by kernel_rfl)) (fun _ _ _ _ _ => (db_name 3 nd)) (fun _ _ _ _ _ => dts_nil) (fun _ _ _ _ _ => (de_op op_and od_int0 (de_op op_shr od_int (de_var 2) (de_op op_mulT od_mulT (de_var 1) (de_var 3))) (de_op op_sub od_int0 (de_op op_shlW od_int de_int (de_var 1)) de_int)))) dg_nil)))), rd_words_of_place⟩
theorem ok_table_of {f : Addr} {fd : FuncData} (F : Fun K "table_of" "table_of" st_table_of f fd) {f_is_width : Addr} {fd_is_width : FuncData} (C_is_width : Fx P w K mg base "is_width" f_is_width fd_is_width ["many", "value"] 2 ct_is_width) {f_result : Addr} {fd_result : FuncData} (C_result : Fx P w K mg base "result" f_result fd_result ["program", "width", "words"] 5 ct_result) {f_words_of_place : Addr} {fd_words_of_place : FuncData} (C_words_of_place : Fx P w K mg base "words_of_place" f_words_of_place fd_words_of_place ["many", "width", "place"] 1 ct_words_of_place) (b_list : mg "list" = none) (b_range : mg "range" = none) (b_tuple : mg "tuple" = none) {k_Unfit : Addr} (E_Unfit : Er0 P K mg "Unfit" k_Unfit) (x_Unfit : xc .unfit = some k_Unfit)  : FnX P w K mg base xc 6 f fd ["program", "width"] ct_table_of := by
  have nd := sc_table_of.nd
  refine fnX F sc_table_of (fun _ => rfl) fun cdv A outer s H E v0 a hgd hr hpo tk hpre => ?_
  exact ⟨wb_table_of (fun x ρ => ct_table_of.xp a ρ x), (ds_cons (ds_set 2 nd (de_ix ix_seq od_ix (de_var 0) de_int (fun _ _ => rfl)))
      (ds_cons (ds_if (DW.dt (dw_or (dt_cmp (op_eqA (hu64 hr)) od_eq (de_var 2) de_int (by rfl)) (dw_or1 (dt_not (dt_truth (de_call C_is_width hgd (hr.mono (by decide)) (dg_cons (de_var 2) (dg_cons (de_var 1) dg_nil)))))))) (ds_sole (ds_raise0 .unfit rfl tk (E_Unfit _ 0 _ _ rfl rfl rfl (hr.mono (by decide)) rfl) x_Unfit)) ds_nil)
      (ds_cons (ds_set 3 nd (de_rgL1 rfl (by rfl) b_list (by rfl) b_range (de_op op_shlW od_int de_int (de_op op_mulT od_mulT (de_var 2) (de_var 1)))))
      (ds_sole (ds_ret (de_tup (dg_cons (de_var 2) (dg_cons (de_var 1) (dg_cons (de_callT call_tupA cd_tup (by rfl) b_tuple (by decide +kernel) (dg_cons (de_lc0 [("place", 4)] rfl nd (di_sq true (de_var 3)) (blkOk_by (by kernel_rfl)) (fun _ _ _ _ _ => (db_name 4 nd)) (fun _ _ _ _ _ => dts_nil) (fun _ _ _ _ _ => (de_call C_result hgd (hr.mono (by decide)) (dg_cons (de_var 0) (dg_cons (de_var 1) (dg_cons (de_call C_words_of_place hgd (hr.mono (by decide)) (dg_cons (de_var 2) (dg_cons (de_var 1) (dg_cons (de_var 4) dg_nil)))) dg_nil)))))) dg_nil)) dg_nil))))))))), rd_table_of a hpre⟩
theorem ok__law_told {f : Addr} {fd : FuncData} (F : Fun K "_law_told" "_law_told" st__law_told f fd) {f_table_of : Addr} {fd_table_of : FuncData} (C_table_of : FxX P w K mg base xc "table_of" f_table_of fd_table_of ["program", "width"] 6 ct_table_of) (kw_table_of_width_program : KwTo K fd_table_of ["program", "width"] ["width", "program"] [1, 0]) (b_isinstance : mg "isinstance" = none) {k_LadderError : Addr} {k_Unfit : Addr} (g_LadderError : mg "LadderError" = some (.ref k_LadderError)) (g_Unfit : mg "Unfit" = some (.ref k_Unfit)) (m_LadderError : ∀ k C, xc k = some C → PySem.W.exmOne K (.ref C) (.ref k_LadderError) = some (isa k .ladder)) (m_Unfit : ∀ k C, xc k = some C → PySem.W.exmOne K (.ref C) (.ref k_Unfit) = some (isa k (.own .unfit))) (exk : ∀ k C, xc k = some C → ExK K C) (i_LadderError : ∀ k C, xc k = some C → PySem.W.kitOne K (.ref C) (.ref k_LadderError) = some (isa k .ladder))  : FnD P w K mg base 7 f fd ["program", "width", "is_named"] ct__law_told := by
  have nd := sc__law_told.nd
  refine fnD F sc__law_told (fun _ => rfl) fun cdv A outer s H E v0 hgd hr => ?_
  exact ⟨wb__law_told, (ds_sole (ds_try (xc := xc) nd rfl rfl Tk.none (fun pn xe v1 wd tk hpo => (ds_sole (ds_ret (de_lst (dg_cons de_str (dg_cons (de_ifExp (dt_truth (de_var 2)) (de_callXK [1, 0] tk C_table_of hgd (hr.mono (by decide)) kw_table_of_width_program (dk_cons (de_var 1) (dk_cons (de_var 0) dk_nil))) (de_callX tk C_table_of hgd (hr.mono (by decide)) (dg_cons (de_var 0) (dg_cons (de_var 1) dg_nil)))) dg_nil)))))) (ClsD.cons ⟨⟨_, _, _, _, _, _, rfl, clT_name ⟨rfl, by decide, .inl g_Unfit⟩, m_Unfit, .inr ⟨_, 3, rfl, rfl, rfl, rfl⟩, fun a oe cls d pn v2 x hz hf xa hx => (ds_sole (ds_ret (de_lst (dg_cons de_str (dg_cons (de_isX (cv := .ref k_LadderError) (cu := .ref k_LadderError) 3 (fun C h => exk _ C h) (fun C h => i_LadderError _ C h) hz hf xa (hx 3 rfl) (by rfl) b_isinstance (pe_glob (by rfl) g_LadderError rfl) (fun u h => h)) dg_nil)))))⟩⟩ ClsD.nil))), rd__law_told⟩
theorem ok__law_is_right {f : Addr} {fd : FuncData} (F : Fun K "_law_is_right" "_law_is_right" st__law_is_right f fd) {f__law_due : Addr} {fd__law_due : FuncData} (C__law_due : Fx P w K mg base "_law_due" f__law_due fd__law_due ["program", "width"] 4 ct__law_due) {f__law_told : Addr} {fd__law_told : FuncData} (C__law_told : Fx P w K mg base "_law_told" f__law_told fd__law_told ["program", "width", "is_named"] 7 ct__law_told) (b_repr : mg "repr" = none)  : FnD P w K mg base 8 f fd ["program", "width"] ct__law_is_right := by
  have nd := sc__law_is_right.nd
  refine fnD F sc__law_is_right (fun _ => rfl) fun cdv A outer s H E v0 hgd hr => ?_
  exact ⟨wb__law_is_right, (ds_cons (ds_par 2 3 rfl nd (dg_cons (de_callB (call_reprU hgd (hu64 hr)) cd_reprU (by rfl) b_repr (by decide +kernel) (dg_cons (de_lst (dg_cons (de_var 0) (dg_cons (de_var 1) dg_nil))) dg_nil)) (dg_cons (de_call C__law_due hgd (hr.mono (by decide)) (dg_cons (de_var 0) (dg_cons (de_var 1) dg_nil))) dg_nil)))
      (ds_cons (ds_set 4 nd (de_lst (dg_cons (de_call C__law_told hgd (hr.mono (by decide)) (dg_cons (de_var 0) (dg_cons (de_var 1) (dg_cons de_bl dg_nil)))) (dg_cons (de_call C__law_told hgd (hr.mono (by decide)) (dg_cons (de_var 0) (dg_cons (de_var 1) (dg_cons de_bl dg_nil)))) dg_nil))))
      (ds_sole (ds_frz 3 (ds_ret (de_and (de_cmp (op_eqA (hu64 hr)) od_eq (de_callB (call_reprU hgd (hu64 hr)) cd_reprU (by rfl) b_repr (by decide +kernel) (dg_cons (de_var 4) dg_nil)) (de_callB (call_reprU hgd (hu64 hr)) cd_reprU (by rfl) b_repr (by decide +kernel) (dg_cons (de_lst (dg_cons (de_var 3) (dg_cons (de_var 3) dg_nil))) dg_nil)) (by rfl)) (de_one (de_cmp (op_eqA (hu64 hr)) od_eq (de_callB (call_reprU hgd (hu64 hr)) cd_reprU (by rfl) b_repr (by decide +kernel) (dg_cons (de_lst (dg_cons (de_var 0) (dg_cons (de_var 1) dg_nil))) dg_nil)) (de_var 2) (by rfl))))))))), rd__law_is_right⟩
theorem ok__law_kinds {f : Addr} {fd : FuncData} (F : Fun K "_law_kinds" "_law_kinds" st__law_kinds f fd)  : FnD P w K mg base 1 f fd [] ct__law_kinds := by
  have nd := sc__law_kinds.nd
  refine fnD F sc__law_kinds (fun _ => rfl) fun cdv A outer s H E v0 hgd hr => ?_
  exact ⟨wb__law_kinds, (ds_cons (ds_set 0 nd (de_lst (dg_cons de_str (dg_cons de_str (dg_cons de_str (dg_cons de_str (dg_cons de_str (dg_cons de_str dg_nil))))))))
      (ds_sole (ds_ret (de_op op_addA od_add (de_var 0) (de_lst (dg_cons de_str (dg_cons de_str (dg_cons de_str (dg_cons de_str (dg_cons de_str (dg_cons de_str dg_nil))))))))))), rd__law_kinds⟩
theorem ok__law_odd {f : Addr} {fd : FuncData} (F : Fun K "_law_odd" "_law_odd" st__law_odd f fd) {f__law_pick : Addr} {fd__law_pick : FuncData} (C__law_pick : Fx P w K mg base "_law_pick" f__law_pick fd__law_pick ["bag", "row"] 2 ct__law_pick)  : FnD P w K mg base 3 f fd ["bag"] ct__law_odd := by
  have nd := sc__law_odd.nd
  refine fnD F sc__law_odd (fun _ => rfl) fun cdv A outer s H E v0 hgd hr => ?_
  exact ⟨wb__law_odd, (ds_sole (ds_ret (de_callMS 0 C__law_pick hgd (hr.mono (by decide)) (dg_cons (de_lst (dg_cons de_non (dg_cons de_bl (dg_cons de_bl (dg_cons (de_un un_neg ud_neg de_int) (dg_cons de_int (dg_cons de_int (dg_cons de_int (dg_cons de_int (dg_cons de_int (dg_cons de_int (dg_cons (de_op op_pow od_int de_int de_int) (dg_cons de_str (dg_cons (de_tup (dg_cons de_int dg_nil)) (dg_cons (de_lst (dg_cons de_int dg_nil)) (dg_cons (de_disp (dp_cons de_int dp_nil)) dg_nil)))))))))))))))) dg_nil)))), rd__law_odd⟩
theorem ok_law {f : Addr} {fd : FuncData} (F : Fun K "law" "law" st_law f fd) {f__law_bag : Addr} {fd__law_bag : FuncData} (C__law_bag : Fx P w K mg base "_law_bag" f__law_bag fd__law_bag ["script"] 1 ct__law_bag) {f__law_draw : Addr} {fd__law_draw : FuncData} (C__law_draw : Fx P w K mg base "_law_draw" f__law_draw fd__law_draw ["bag", "many"] 1 ct__law_draw) {f__law_program : Addr} {fd__law_program : FuncData} (C__law_program : Fx P w K mg base "_law_program" f__law_program fd__law_program ["bag", "many", "count", "kinds"] 4 ct__law_program) {f__law_is_right : Addr} {fd__law_is_right : FuncData} (C__law_is_right : Fx P w K mg base "_law_is_right" f__law_is_right fd__law_is_right ["program", "width"] 8 ct__law_is_right) {f__law_kinds : Addr} {fd__law_kinds : FuncData} (C__law_kinds : Fx P w K mg base "_law_kinds" f__law_kinds fd__law_kinds [] 1 ct__law_kinds) {f__law_odd : Addr} {fd__law_odd : FuncData} (C__law_odd : Fx P w K mg base "_law_odd" f__law_odd fd__law_odd ["bag"] 3 ct__law_odd) (b_range : mg "range" = none)  : FnD P w K mg base 9 f fd ["script"] ct_law := by
  have nd := sc_law.nd
  refine fnD F sc_law (fun _ => rfl) fun cdv A outer s H E v0 hgd hr => ?_
  exact ⟨wb_law, (ds_cons (ds_set 1 nd (de_call C__law_bag hgd (hr.mono (by decide)) (dg_cons (de_var 0) dg_nil)))
      (ds_cons (ds_for PassesOwn.never rfl (di_range1 false (by rfl) b_range (dg_cons de_int dg_nil)) (db_name 2 nd) (ds_cons (ds_set 3 nd (de_callM 1 C__law_program hgd (hr.mono (by decide)) (dg_cons (de_op op_addA od_add de_int (de_callM 1 C__law_draw hgd (hr.mono (by decide)) (dg_cons de_int dg_nil))) (dg_cons (de_op op_addA od_add de_int (de_callM 1 C__law_draw hgd (hr.mono (by decide)) (dg_cons de_int dg_nil))) (dg_cons (de_call0 C__law_kinds hgd (hr.mono (by decide))) dg_nil)))))
      (ds_cons (ds_if (dt_not (dt_truth (de_call C__law_is_right hgd (hr.mono (by decide)) (dg_cons (de_var 3) (dg_cons (de_op op_addA od_add de_int (de_callM 1 C__law_draw hgd (hr.mono (by decide)) (dg_cons (de_ifExp (dt_cmp (op_eqA (hu64 hr)) od_eq (de_ix ix_seq od_ix (de_var 3) de_int (fun _ _ => rfl)) de_int (by rfl)) de_int de_int) dg_nil))) dg_nil))))) (ds_sole (ds_ret de_bl)) ds_nil)
      (ds_sole (ds_if (dt_not (dt_truth (de_call C__law_is_right hgd (hr.mono (by decide)) (dg_cons (de_var 3) (dg_cons (de_callMS 1 C__law_odd hgd (hr.mono (by decide)) dg_nil) dg_nil))))) (ds_sole (ds_ret de_bl)) ds_nil)))))
      (ds_cons (ds_set 3 nd (de_callM 1 C__law_program hgd (hr.mono (by decide)) (dg_cons de_int (dg_cons (de_op op_addA od_add de_int (de_callM 1 C__law_draw hgd (hr.mono (by decide)) (dg_cons de_int dg_nil))) (dg_cons (de_call0 C__law_kinds hgd (hr.mono (by decide))) dg_nil)))))
      (ds_cons (ds_if (dt_not (dt_truth (de_call C__law_is_right hgd (hr.mono (by decide)) (dg_cons (de_var 3) (dg_cons (de_op op_addA od_add de_int (de_callM 1 C__law_draw hgd (hr.mono (by decide)) (dg_cons de_int dg_nil))) dg_nil))))) (ds_sole (ds_ret de_bl)) ds_nil)
      (ds_cons (ds_set 3 nd (de_callM 1 C__law_program hgd (hr.mono (by decide)) (dg_cons (de_op op_addA od_add de_int (de_callM 1 C__law_draw hgd (hr.mono (by decide)) (dg_cons de_int dg_nil))) (dg_cons (de_op op_addA od_add de_int (de_callM 1 C__law_draw hgd (hr.mono (by decide)) (dg_cons de_int dg_nil))) (dg_cons (de_call0 C__law_kinds hgd (hr.mono (by decide))) dg_nil)))))
      (ds_sole (ds_ret (de_call C__law_is_right hgd (hr.mono (by decide)) (dg_cons (de_var 3) (dg_cons (de_ifExp (dt_cmp (op_eqA (hu64 hr)) od_eq (de_callM 1 C__law_draw hgd (hr.mono (by decide)) (dg_cons de_int dg_nil)) de_int (by rfl)) (de_callM 1 C__law_draw hgd (hr.mono (by decide)) (dg_cons de_int dg_nil)) de_int) dg_nil)))))))))), rd_law⟩
theorem all_mk {l : PySem.W.OpenLaw} {w : World} {K : PySem.W.Frag} {h : Heap} {mg : Str → Option Value} {fa : Addr} (X : K.In h) (G : h.Ns mainGlobals mg) (hfa : mg "law" = some (.ref fa)) {od0 an0 : Option Addr} {sl0 : Array (Option Value)} {oc0 kV0 dc0 pm0 cd0 ct0 : Value} {f0 : Addr} {od1 an1 : Option Addr} {sl1 : Array (Option Value)} {oc1 kV1 dc1 pm1 cd1 ct1 : Value} {f1 : Addr} {od2 an2 : Option Addr} {sl2 : Array (Option Value)} {oc2 kV2 dc2 pm2 cd2 ct2 : Value} {f2 : Addr} {od3 an3 : Option Addr} {sl3 : Array (Option Value)} {oc3 kV3 dc3 pm3 cd3 ct3 : Value} {f3 : Addr} {od4 an4 : Option Addr} {sl4 : Array (Option Value)} {oc4 kV4 dc4 pm4 cd4 ct4 : Value} {f4 : Addr} {od5 an5 : Option Addr} {sl5 : Array (Option Value)} {oc5 kV5 dc5 pm5 cd5 ct5 : Value} {f5 : Addr} {od6 an6 : Option Addr} {sl6 : Array (Option Value)} {oc6 kV6 dc6 pm6 cd6 ct6 : Value} {f6 : Addr} {od7 an7 : Option Addr} {sl7 : Array (Option Value)} {oc7 kV7 dc7 pm7 cd7 ct7 : Value} {f7 : Addr} {od8 an8 : Option Addr} {sl8 : Array (Option Value)} {oc8 kV8 dc8 pm8 cd8 ct8 : Value} {f8 : Addr} {od9 an9 : Option Addr} {sl9 : Array (Option Value)} {oc9 kV9 dc9 pm9 cd9 ct9 : Value} {f9 : Addr} {od10 an10 : Option Addr} {sl10 : Array (Option Value)} {oc10 kV10 dc10 pm10 cd10 ct10 : Value} {f10 : Addr} {od11 an11 : Option Addr} {sl11 : Array (Option Value)} {oc11 kV11 dc11 pm11 cd11 ct11 : Value} {f11 : Addr} {od12 an12 : Option Addr} {sl12 : Array (Option Value)} {oc12 kV12 dc12 pm12 cd12 ct12 : Value} {f12 : Addr} {od13 an13 : Option Addr} {sl13 : Array (Option Value)} {oc13 kV13 dc13 pm13 cd13 ct13 : Value} {f13 : Addr} {od14 an14 : Option Addr} {sl14 : Array (Option Value)} {oc14 kV14 dc14 pm14 cd14 ct14 : Value} {f14 : Addr} {od15 an15 : Option Addr} {sl15 : Array (Option Value)} {oc15 kV15 dc15 pm15 cd15 ct15 : Value} {f15 : Addr} {od16 an16 : Option Addr} {sl16 : Array (Option Value)} {oc16 kV16 dc16 pm16 cd16 ct16 : Value} {f16 : Addr} {od17 an17 : Option Addr} {sl17 : Array (Option Value)} {oc17 kV17 dc17 pm17 cd17 ct17 : Value} {f17 : Addr} {od18 an18 : Option Addr} {sl18 : Array (Option Value)} {oc18 kV18 dc18 pm18 cd18 ct18 : Value} {f18 : Addr} {od19 an19 : Option Addr} {sl19 : Array (Option Value)} {oc19 kV19 dc19 pm19 cd19 ct19 : Value} {f19 : Addr} {od20 an20 : Option Addr} {sl20 : Array (Option Value)} {oc20 kV20 dc20 pm20 cd20 ct20 : Value} {f20 : Addr} {od21 an21 : Option Addr} {sl21 : Array (Option Value)} {oc21 kV21 dc21 pm21 cd21 ct21 : Value} {f21 : Addr} {od22 an22 : Option Addr} {sl22 : Array (Option Value)} {oc22 kV22 dc22 pm22 cd22 ct22 : Value} {f22 : Addr} {od23 an23 : Option Addr} {sl23 : Array (Option Value)} {oc23 kV23 dc23 pm23 cd23 ct23 : Value} {f23 : Addr} {od24 an24 : Option Addr} {sl24 : Array (Option Value)} {oc24 kV24 dc24 pm24 cd24 ct24 : Value} {f24 : Addr} {od25 an25 : Option Addr} {sl25 : Array (Option Value)} {oc25 kV25 dc25 pm25 cd25 ct25 : Value} {f25 : Addr} {k_LadderError : Addr} {k_Unfit : Addr} {t_MAX_TABLE : Tok}
    (a0 : PySem.W.nsIn K mainGlobals "_law_bag" = some (some (.ref f0))) (l0 : K.lookup f0 = some ⟨oc0, od0, .func (PySem.W.fnOf "_law_bag" "_law_bag" (defArgs st__law_bag) (defBody st__law_bag) (defScope st__law_bag) .none kV0 dc0 pm0 an0 cd0 ct0), sl0⟩) (c0 : PySem.W.codeIn K cd0 "_law_bag" = true) (k0 : PySem.W.keepIn K (.ref f0) = true)
    (a1 : PySem.W.nsIn K mainGlobals "_law_draw" = some (some (.ref f1))) (l1 : K.lookup f1 = some ⟨oc1, od1, .func (PySem.W.fnOf "_law_draw" "_law_draw" (defArgs st__law_draw) (defBody st__law_draw) (defScope st__law_draw) .none kV1 dc1 pm1 an1 cd1 ct1), sl1⟩) (c1 : PySem.W.codeIn K cd1 "_law_draw" = true) (k1 : PySem.W.keepIn K (.ref f1) = true)
    (a2 : PySem.W.nsIn K mainGlobals "_law_pick" = some (some (.ref f2))) (l2 : K.lookup f2 = some ⟨oc2, od2, .func (PySem.W.fnOf "_law_pick" "_law_pick" (defArgs st__law_pick) (defBody st__law_pick) (defScope st__law_pick) .none kV2 dc2 pm2 an2 cd2 ct2), sl2⟩) (c2 : PySem.W.codeIn K cd2 "_law_pick" = true) (k2 : PySem.W.keepIn K (.ref f2) = true)
    (a3 : PySem.W.nsIn K mainGlobals "_law_row" = some (some (.ref f3))) (l3 : K.lookup f3 = some ⟨oc3, od3, .func (PySem.W.fnOf "_law_row" "_law_row" (defArgs st__law_row) (defBody st__law_row) (defScope st__law_row) .none kV3 dc3 pm3 an3 cd3 ct3), sl3⟩) (c3 : PySem.W.codeIn K cd3 "_law_row" = true) (k3 : PySem.W.keepIn K (.ref f3) = true)
    (a4 : PySem.W.nsIn K mainGlobals "_law_program" = some (some (.ref f4))) (l4 : K.lookup f4 = some ⟨oc4, od4, .func (PySem.W.fnOf "_law_program" "_law_program" (defArgs st__law_program) (defBody st__law_program) (defScope st__law_program) .none kV4 dc4 pm4 an4 cd4 ct4), sl4⟩) (c4 : PySem.W.codeIn K cd4 "_law_program" = true) (k4 : PySem.W.keepIn K (.ref f4) = true)
    (a5 : PySem.W.nsIn K mainGlobals "_law_is_whole" = some (some (.ref f5))) (l5 : K.lookup f5 = some ⟨oc5, od5, .func (PySem.W.fnOf "_law_is_whole" "_law_is_whole" (defArgs st__law_is_whole) (defBody st__law_is_whole) (defScope st__law_is_whole) .none kV5 dc5 pm5 an5 cd5 ct5), sl5⟩) (c5 : PySem.W.codeIn K cd5 "_law_is_whole" = true) (k5 : PySem.W.keepIn K (.ref f5) = true)
    (a6 : PySem.W.nsIn K mainGlobals "_law_pair_value" = some (some (.ref f6))) (l6 : K.lookup f6 = some ⟨oc6, od6, .func (PySem.W.fnOf "_law_pair_value" "_law_pair_value" (defArgs st__law_pair_value) (defBody st__law_pair_value) (defScope st__law_pair_value) .none kV6 dc6 pm6 an6 cd6 ct6), sl6⟩) (c6 : PySem.W.codeIn K cd6 "_law_pair_value" = true) (k6 : PySem.W.keepIn K (.ref f6) = true)
    (a7 : PySem.W.nsIn K mainGlobals "_law_value" = some (some (.ref f7))) (l7 : K.lookup f7 = some ⟨oc7, od7, .func (PySem.W.fnOf "_law_value" "_law_value" (defArgs st__law_value) (defBody st__law_value) (defScope st__law_value) .none kV7 dc7 pm7 an7 cd7 ct7), sl7⟩) (c7 : PySem.W.codeIn K cd7 "_law_value" = true) (k7 : PySem.W.keepIn K (.ref f7) = true)
    (a8 : PySem.W.nsIn K mainGlobals "_law_run" = some (some (.ref f8))) (l8 : K.lookup f8 = some ⟨oc8, od8, .func (PySem.W.fnOf "_law_run" "_law_run" (defArgs st__law_run) (defBody st__law_run) (defScope st__law_run) .none kV8 dc8 pm8 an8 cd8 ct8), sl8⟩) (c8 : PySem.W.codeIn K cd8 "_law_run" = true) (k8 : PySem.W.keepIn K (.ref f8) = true)
    (a9 : PySem.W.nsIn K mainGlobals "_law_due" = some (some (.ref f9))) (l9 : K.lookup f9 = some ⟨oc9, od9, .func (PySem.W.fnOf "_law_due" "_law_due" (defArgs st__law_due) (defBody st__law_due) (defScope st__law_due) .none kV9 dc9 pm9 an9 cd9 ct9), sl9⟩) (c9 : PySem.W.codeIn K cd9 "_law_due" = true) (k9 : PySem.W.keepIn K (.ref f9) = true)
    (a10 : PySem.W.nsIn K mainGlobals "is_integer" = some (some (.ref f10))) (l10 : K.lookup f10 = some ⟨oc10, od10, .func (PySem.W.fnOf "is_integer" "is_integer" (defArgs st_is_integer) (defBody st_is_integer) (defScope st_is_integer) .none kV10 dc10 pm10 an10 cd10 ct10), sl10⟩) (c10 : PySem.W.codeIn K cd10 "is_integer" = true) (k10 : PySem.W.keepIn K (.ref f10) = true)
    (a11 : PySem.W.nsIn K mainGlobals "is_width" = some (some (.ref f11))) (l11 : K.lookup f11 = some ⟨oc11, od11, .func (PySem.W.fnOf "is_width" "is_width" (defArgs st_is_width) (defBody st_is_width) (defScope st_is_width) .none kV11 dc11 pm11 an11 cd11 ct11), sl11⟩) (c11 : PySem.W.codeIn K cd11 "is_width" = true) (k11 : PySem.W.keepIn K (.ref f11) = true)
    (a12 : PySem.W.nsIn K mainGlobals "value_of_two" = some (some (.ref f12))) (l12 : K.lookup f12 = some ⟨oc12, od12, .func (PySem.W.fnOf "value_of_two" "value_of_two" (defArgs st_value_of_two) (defBody st_value_of_two) (defScope st_value_of_two) .none kV12 dc12 pm12 an12 cd12 ct12), sl12⟩) (c12 : PySem.W.codeIn K cd12 "value_of_two" = true) (k12 : PySem.W.keepIn K (.ref f12) = true)
    (a13 : PySem.W.nsIn K mainGlobals "mask_word" = some (some (.ref f13))) (l13 : K.lookup f13 = some ⟨oc13, od13, .func (PySem.W.fnOf "mask_word" "mask_word" (defArgs st_mask_word) (defBody st_mask_word) (defScope st_mask_word) .none kV13 dc13 pm13 an13 cd13 ct13), sl13⟩) (c13 : PySem.W.codeIn K cd13 "mask_word" = true) (k13 : PySem.W.keepIn K (.ref f13) = true)
    (a14 : PySem.W.nsIn K mainGlobals "prefix_word" = some (some (.ref f14))) (l14 : K.lookup f14 = some ⟨oc14, od14, .func (PySem.W.fnOf "prefix_word" "prefix_word" (defArgs st_prefix_word) (defBody st_prefix_word) (defScope st_prefix_word) .none kV14 dc14 pm14 an14 cd14 ct14), sl14⟩) (c14 : PySem.W.codeIn K cd14 "prefix_word" = true) (k14 : PySem.W.keepIn K (.ref f14) = true)
    (a15 : PySem.W.nsIn K mainGlobals "value_of_one" = some (some (.ref f15))) (l15 : K.lookup f15 = some ⟨oc15, od15, .func (PySem.W.fnOf "value_of_one" "value_of_one" (defArgs st_value_of_one) (defBody st_value_of_one) (defScope st_value_of_one) .none kV15 dc15 pm15 an15 cd15 ct15), sl15⟩) (c15 : PySem.W.codeIn K cd15 "value_of_one" = true) (k15 : PySem.W.keepIn K (.ref f15) = true)
    (a16 : PySem.W.nsIn K mainGlobals "value_of" = some (some (.ref f16))) (l16 : K.lookup f16 = some ⟨oc16, od16, .func (PySem.W.fnOf "value_of" "value_of" (defArgs st_value_of) (defBody st_value_of) (defScope st_value_of) .none kV16 dc16 pm16 an16 cd16 ct16), sl16⟩) (c16 : PySem.W.codeIn K cd16 "value_of" = true) (k16 : PySem.W.keepIn K (.ref f16) = true)
    (a17 : PySem.W.nsIn K mainGlobals "values" = some (some (.ref f17))) (l17 : K.lookup f17 = some ⟨oc17, od17, .func (PySem.W.fnOf "values" "values" (defArgs st_values) (defBody st_values) (defScope st_values) .none kV17 dc17 pm17 an17 cd17 ct17), sl17⟩) (c17 : PySem.W.codeIn K cd17 "values" = true) (k17 : PySem.W.keepIn K (.ref f17) = true)
    (a18 : PySem.W.nsIn K mainGlobals "result" = some (some (.ref f18))) (l18 : K.lookup f18 = some ⟨oc18, od18, .func (PySem.W.fnOf "result" "result" (defArgs st_result) (defBody st_result) (defScope st_result) .none kV18 dc18 pm18 an18 cd18 ct18), sl18⟩) (c18 : PySem.W.codeIn K cd18 "result" = true) (k18 : PySem.W.keepIn K (.ref f18) = true)
    (a19 : PySem.W.nsIn K mainGlobals "words_of_place" = some (some (.ref f19))) (l19 : K.lookup f19 = some ⟨oc19, od19, .func (PySem.W.fnOf "words_of_place" "words_of_place" (defArgs st_words_of_place) (defBody st_words_of_place) (defScope st_words_of_place) .none kV19 dc19 pm19 an19 cd19 ct19), sl19⟩) (c19 : PySem.W.codeIn K cd19 "words_of_place" = true) (k19 : PySem.W.keepIn K (.ref f19) = true)
    (a20 : PySem.W.nsIn K mainGlobals "table_of" = some (some (.ref f20))) (l20 : K.lookup f20 = some ⟨oc20, od20, .func (PySem.W.fnOf "table_of" "table_of" (defArgs st_table_of) (defBody st_table_of) (defScope st_table_of) .none kV20 dc20 pm20 an20 cd20 ct20), sl20⟩) (c20 : PySem.W.codeIn K cd20 "table_of" = true) (k20 : PySem.W.keepIn K (.ref f20) = true)
    (a21 : PySem.W.nsIn K mainGlobals "_law_told" = some (some (.ref f21))) (l21 : K.lookup f21 = some ⟨oc21, od21, .func (PySem.W.fnOf "_law_told" "_law_told" (defArgs st__law_told) (defBody st__law_told) (defScope st__law_told) .none kV21 dc21 pm21 an21 cd21 ct21), sl21⟩) (c21 : PySem.W.codeIn K cd21 "_law_told" = true) (k21 : PySem.W.keepIn K (.ref f21) = true)
    (a22 : PySem.W.nsIn K mainGlobals "_law_is_right" = some (some (.ref f22))) (l22 : K.lookup f22 = some ⟨oc22, od22, .func (PySem.W.fnOf "_law_is_right" "_law_is_right" (defArgs st__law_is_right) (defBody st__law_is_right) (defScope st__law_is_right) .none kV22 dc22 pm22 an22 cd22 ct22), sl22⟩) (c22 : PySem.W.codeIn K cd22 "_law_is_right" = true) (k22 : PySem.W.keepIn K (.ref f22) = true)
    (a23 : PySem.W.nsIn K mainGlobals "_law_kinds" = some (some (.ref f23))) (l23 : K.lookup f23 = some ⟨oc23, od23, .func (PySem.W.fnOf "_law_kinds" "_law_kinds" (defArgs st__law_kinds) (defBody st__law_kinds) (defScope st__law_kinds) .none kV23 dc23 pm23 an23 cd23 ct23), sl23⟩) (c23 : PySem.W.codeIn K cd23 "_law_kinds" = true) (k23 : PySem.W.keepIn K (.ref f23) = true)
    (a24 : PySem.W.nsIn K mainGlobals "_law_odd" = some (some (.ref f24))) (l24 : K.lookup f24 = some ⟨oc24, od24, .func (PySem.W.fnOf "_law_odd" "_law_odd" (defArgs st__law_odd) (defBody st__law_odd) (defScope st__law_odd) .none kV24 dc24 pm24 an24 cd24 ct24), sl24⟩) (c24 : PySem.W.codeIn K cd24 "_law_odd" = true) (k24 : PySem.W.keepIn K (.ref f24) = true)
    (a25 : PySem.W.nsIn K mainGlobals "law" = some (some (.ref f25))) (l25 : K.lookup f25 = some ⟨oc25, od25, .func (PySem.W.fnOf "law" "law" (defArgs st_law) (defBody st_law) (defScope st_law) .none kV25 dc25 pm25 an25 cd25 ct25), sl25⟩) (c25 : PySem.W.codeIn K cd25 "law" = true) (k25 : PySem.W.keepIn K (.ref f25) = true) (z0 : PySem.W.nsIn K mainGlobals "abs" = some none) (z1 : PySem.W.nsIn K mainGlobals "bool" = some none) (z2 : PySem.W.nsIn K mainGlobals "int" = some none) (z3 : PySem.W.nsIn K mainGlobals "isinstance" = some none) (z4 : PySem.W.nsIn K mainGlobals "len" = some none) (z5 : PySem.W.nsIn K mainGlobals "list" = some none) (z6 : PySem.W.nsIn K mainGlobals "range" = some none) (z7 : PySem.W.nsIn K mainGlobals "repr" = some none) (z8 : PySem.W.nsIn K mainGlobals "sum" = some none) (z9 : PySem.W.nsIn K mainGlobals "tuple" = some none) (y_MAX_TABLE : PySem.W.nsIn K mainGlobals "MAX_TABLE" = some (some (.int 8 t_MAX_TABLE)))
    (n_LadderError : PySem.W.nsIn K mainGlobals "LadderError" = some (some (.ref k_LadderError)))
    (n_Unfit : PySem.W.nsIn K mainGlobals "Unfit" = some (some (.ref k_Unfit)))
    (xm_Unfit_LadderError : PySem.W.exmOne K (.ref k_Unfit) (.ref k_LadderError) = some true)
    (xm_Unfit_Unfit : PySem.W.exmOne K (.ref k_Unfit) (.ref k_Unfit) = some true)
    (xk_Unfit : ExK K k_Unfit)
    (xi_Unfit_LadderError : PySem.W.kitOne K (.ref k_Unfit) (.ref k_LadderError) = some true)
    (Er_Unfit : mg "super" = none → mg "Unfit" = some (.ref k_Unfit) → Er0 l.prog K mg "Unfit" k_Unfit)
    (n_super : PySem.W.nsIn K mainGlobals "super" = some none) :
    ∃ fd : FuncData, (∀ (s : Shared) (v : Value), BindsTo s fd ⟨[v], []⟩ [("script", v)]) ∧ ∀ base : Heap, K.In base → base.Ns mainGlobals mg → FnD l.prog w K mg base 9 fa fd ["script"] (ctLaw 63) := by
  have e := hfa.symm.trans (PySem.W.mg_of X G a25)
  cases e
  have b_abs := PySem.W.mg_none_of X G z0
  have b_bool := PySem.W.mg_none_of X G z1
  have b_int := PySem.W.mg_none_of X G z2
  have b_isinstance := PySem.W.mg_none_of X G z3
  have b_len := PySem.W.mg_none_of X G z4
  have b_list := PySem.W.mg_none_of X G z5
  have b_range := PySem.W.mg_none_of X G z6
  have b_repr := PySem.W.mg_none_of X G z7
  have b_sum := PySem.W.mg_none_of X G z8
  have b_tuple := PySem.W.mg_none_of X G z9
  have g_MAX_TABLE := PySem.W.mg_of X G y_MAX_TABLE
  have g_LadderError := PySem.W.mg_of X G n_LadderError
  have g_Unfit := PySem.W.mg_of X G n_Unfit
  let xc : Ek → Option Addr := fun k => match k with | .unfit => some k_Unfit| _ => none
  have m_LadderError : ∀ k C, xc k = some C → PySem.W.exmOne K (.ref C) (.ref k_LadderError) = some (isa k .ladder) := by
    intro k C h; cases k <;> cases h <;> first | exact xm_Unfit_LadderError
  have m_Unfit : ∀ k C, xc k = some C → PySem.W.exmOne K (.ref C) (.ref k_Unfit) = some (isa k (.own .unfit)) := by
    intro k C h; cases k <;> cases h <;> first | exact xm_Unfit_Unfit
  have exk : ∀ k C, xc k = some C → ExK K C := by
    intro k C h; cases k <;> cases h <;> first | exact xk_Unfit
  have i_LadderError : ∀ k C, xc k = some C → PySem.W.kitOne K (.ref C) (.ref k_LadderError) = some (isa k .ladder) := by
    intro k C h; cases k <;> cases h <;> first | exact xi_Unfit_LadderError
  have E_Unfit := Er_Unfit (PySem.W.mg_none_of X G n_super) g_Unfit
  have x_Unfit : xc .unfit = some k_Unfit := rfl
  have F__law_bag := fun_mk (st := st__law_bag) l0 c0 k0
  have bd__law_bag := F__law_bag.binds (ps := ["script"]) fun _ _ _ _ _ _ us hl => match us, hl with | [_], _ => rfl
  have F__law_draw := fun_mk (st := st__law_draw) l1 c1 k1
  have bd__law_draw := F__law_draw.binds (ps := ["bag", "many"]) fun _ _ _ _ _ _ us hl => match us, hl with | [_, _], _ => rfl
  have F__law_pick := fun_mk (st := st__law_pick) l2 c2 k2
  have bd__law_pick := F__law_pick.binds (ps := ["bag", "row"]) fun _ _ _ _ _ _ us hl => match us, hl with | [_, _], _ => rfl
  have F__law_row := fun_mk (st := st__law_row) l3 c3 k3
  have bd__law_row := F__law_row.binds (ps := ["bag", "kinds", "given"]) fun _ _ _ _ _ _ us hl => match us, hl with | [_, _, _], _ => rfl
  have F__law_program := fun_mk (st := st__law_program) l4 c4 k4
  have bd__law_program := F__law_program.binds (ps := ["bag", "many", "count", "kinds"]) fun _ _ _ _ _ _ us hl => match us, hl with | [_, _, _, _], _ => rfl
  have F__law_is_whole := fun_mk (st := st__law_is_whole) l5 c5 k5
  have bd__law_is_whole := F__law_is_whole.binds (ps := ["value"]) fun _ _ _ _ _ _ us hl => match us, hl with | [_], _ => rfl
  have F__law_pair_value := fun_mk (st := st__law_pair_value) l6 c6 k6
  have bd__law_pair_value := F__law_pair_value.binds (ps := ["word", "here", "there", "full"]) fun _ _ _ _ _ _ us hl => match us, hl with | [_, _, _, _], _ => rfl
  have F__law_value := fun_mk (st := st__law_value) l7 c7 k7
  have bd__law_value := F__law_value.binds (ps := ["row", "given", "width"]) fun _ _ _ _ _ _ us hl => match us, hl with | [_, _, _], _ => rfl
  have F__law_run := fun_mk (st := st__law_run) l8 c8 k8
  have bd__law_run := F__law_run.binds (ps := ["program", "width", "words"]) fun _ _ _ _ _ _ us hl => match us, hl with | [_, _, _], _ => rfl
  have F__law_due := fun_mk (st := st__law_due) l9 c9 k9
  have bd__law_due := F__law_due.binds (ps := ["program", "width"]) fun _ _ _ _ _ _ us hl => match us, hl with | [_, _], _ => rfl
  have F_is_integer := fun_mk (st := st_is_integer) l10 c10 k10
  have bd_is_integer := F_is_integer.binds (ps := ["value"]) fun _ _ _ _ _ _ us hl => match us, hl with | [_], _ => rfl
  have F_is_width := fun_mk (st := st_is_width) l11 c11 k11
  have bd_is_width := F_is_width.binds (ps := ["many", "value"]) fun _ _ _ _ _ _ us hl => match us, hl with | [_, _], _ => rfl
  have F_value_of_two := fun_mk (st := st_value_of_two) l12 c12 k12
  have bd_value_of_two := F_value_of_two.binds (ps := ["name", "word", "other", "width"]) fun _ _ _ _ _ _ us hl => match us, hl with | [_, _, _, _], _ => rfl
  have F_mask_word := fun_mk (st := st_mask_word) l13 c13 k13
  have bd_mask_word := F_mask_word.binds (ps := ["bits", "width"]) fun _ _ _ _ _ _ us hl => match us, hl with | [_, _], _ => rfl
  have F_prefix_word := fun_mk (st := st_prefix_word) l14 c14 k14
  have bd_prefix_word := F_prefix_word.binds (ps := ["word", "width"]) fun _ _ _ _ _ _ us hl => match us, hl with | [_, _], _ => rfl
  have F_value_of_one := fun_mk (st := st_value_of_one) l15 c15 k15
  have bd_value_of_one := F_value_of_one.binds (ps := ["name", "word", "width"]) fun _ _ _ _ _ _ us hl => match us, hl with | [_, _, _], _ => rfl
  have F_value_of := fun_mk (st := st_value_of) l16 c16 k16
  have bd_value_of := F_value_of.binds (ps := ["row", "known", "width"]) fun _ _ _ _ _ _ us hl => match us, hl with | [_, _, _], _ => rfl
  have F_values := fun_mk (st := st_values) l17 c17 k17
  have bd_values := F_values.binds (ps := ["program", "width", "words"]) fun _ _ _ _ _ _ us hl => match us, hl with | [_, _, _], _ => rfl
  have F_result := fun_mk (st := st_result) l18 c18 k18
  have bd_result := F_result.binds (ps := ["program", "width", "words"]) fun _ _ _ _ _ _ us hl => match us, hl with | [_, _, _], _ => rfl
  have F_words_of_place := fun_mk (st := st_words_of_place) l19 c19 k19
  have bd_words_of_place := F_words_of_place.binds (ps := ["many", "width", "place"]) fun _ _ _ _ _ _ us hl => match us, hl with | [_, _, _], _ => rfl
  have F_table_of := fun_mk (st := st_table_of) l20 c20 k20
  have bd_table_of := F_table_of.binds (ps := ["program", "width"]) fun _ _ _ _ _ _ us hl => match us, hl with | [_, _], _ => rfl
  have F__law_told := fun_mk (st := st__law_told) l21 c21 k21
  have bd__law_told := F__law_told.binds (ps := ["program", "width", "is_named"]) fun _ _ _ _ _ _ us hl => match us, hl with | [_, _, _], _ => rfl
  have F__law_is_right := fun_mk (st := st__law_is_right) l22 c22 k22
  have bd__law_is_right := F__law_is_right.binds (ps := ["program", "width"]) fun _ _ _ _ _ _ us hl => match us, hl with | [_, _], _ => rfl
  have F__law_kinds := fun_mk (st := st__law_kinds) l23 c23 k23
  have bd__law_kinds := F__law_kinds.binds (ps := []) fun _ _ _ _ _ _ us hl => match us, hl with | [], _ => rfl
  have F__law_odd := fun_mk (st := st__law_odd) l24 c24 k24
  have bd__law_odd := F__law_odd.binds (ps := ["bag"]) fun _ _ _ _ _ _ us hl => match us, hl with | [_], _ => rfl
  have F_law := fun_mk (st := st_law) l25 c25 k25
  have kw_table_of_width_program := kwTo_table_of_width_program F_table_of
  refine ⟨PySem.W.fnOf "law" "law" (defArgs st_law) (defBody st_law) (defScope st_law) .none kV25 dc25 pm25 an25 cd25 ct25, fun s v => .of_eq rfl, fun base _ _ => ?_⟩
  have C__law_bag : Fx l.prog w K mg base "_law_bag" f0 _ ["script"] 1 ct__law_bag := ⟨ok__law_bag F__law_bag b_abs b_int b_len, PySem.W.mg_of X G a0, k0, bd__law_bag⟩
  have C__law_draw : Fx l.prog w K mg base "_law_draw" f1 _ ["bag", "many"] 1 ct__law_draw := ⟨ok__law_draw F__law_draw b_int, PySem.W.mg_of X G a1, k1, bd__law_draw⟩
  have C__law_pick : Fx l.prog w K mg base "_law_pick" f2 _ ["bag", "row"] 2 ct__law_pick := ⟨ok__law_pick F__law_pick C__law_draw b_len, PySem.W.mg_of X G a2, k2, bd__law_pick⟩
  have C__law_row : Fx l.prog w K mg base "_law_row" f3 _ ["bag", "kinds", "given"] 3 ct__law_row := ⟨ok__law_row F__law_row C__law_draw C__law_pick b_range b_tuple, PySem.W.mg_of X G a3, k3, bd__law_row⟩
  have C__law_program : Fx l.prog w K mg base "_law_program" f4 _ ["bag", "many", "count", "kinds"] 4 ct__law_program := ⟨ok__law_program F__law_program C__law_row b_range b_tuple, PySem.W.mg_of X G a4, k4, bd__law_program⟩
  have C__law_is_whole : Fx l.prog w K mg base "_law_is_whole" f5 _ ["value"] 1 ct__law_is_whole := ⟨ok__law_is_whole F__law_is_whole b_bool b_int b_isinstance, PySem.W.mg_of X G a5, k5, bd__law_is_whole⟩
  have C__law_pair_value : Fx l.prog w K mg base "_law_pair_value" f6 _ ["word", "here", "there", "full"] 1 ct__law_pair_value := ⟨ok__law_pair_value F__law_pair_value , PySem.W.mg_of X G a6, k6, bd__law_pair_value⟩
  have C__law_value : Fx l.prog w K mg base "_law_value" f7 _ ["row", "given", "width"] 2 ct__law_value := ⟨ok__law_value F__law_value C__law_pair_value b_int b_len b_range b_sum, PySem.W.mg_of X G a7, k7, bd__law_value⟩
  have C__law_run : Fx l.prog w K mg base "_law_run" f8 _ ["program", "width", "words"] 3 ct__law_run := ⟨ok__law_run F__law_run C__law_value b_list, PySem.W.mg_of X G a8, k8, bd__law_run⟩
  have C__law_due : Fx l.prog w K mg base "_law_due" f9 _ ["program", "width"] 4 ct__law_due := ⟨ok__law_due F__law_due C__law_is_whole C__law_run b_range b_tuple, PySem.W.mg_of X G a9, k9, bd__law_due⟩
  have C_is_integer : Fx l.prog w K mg base "is_integer" f10 _ ["value"] 1 ct_is_integer := ⟨ok_is_integer F_is_integer b_bool b_int b_isinstance, PySem.W.mg_of X G a10, k10, bd_is_integer⟩
  have C_is_width : Fx l.prog w K mg base "is_width" f11 _ ["many", "value"] 2 ct_is_width := ⟨ok_is_width F_is_width C_is_integer g_MAX_TABLE, PySem.W.mg_of X G a11, k11, bd_is_width⟩
  have C_value_of_two : Fx l.prog w K mg base "value_of_two" f12 _ ["name", "word", "other", "width"] 1 ct_value_of_two := ⟨ok_value_of_two F_value_of_two , PySem.W.mg_of X G a12, k12, bd_value_of_two⟩
  have C_mask_word : Fx l.prog w K mg base "mask_word" f13 _ ["bits", "width"] 1 ct_mask_word := ⟨ok_mask_word F_mask_word b_len b_range, PySem.W.mg_of X G a13, k13, bd_mask_word⟩
  have C_prefix_word : Fx l.prog w K mg base "prefix_word" f14 _ ["word", "width"] 1 ct_prefix_word := ⟨ok_prefix_word F_prefix_word , PySem.W.mg_of X G a14, k14, bd_prefix_word⟩
  have C_value_of_one : Fx l.prog w K mg base "value_of_one" f15 _ ["name", "word", "width"] 2 ct_value_of_one := ⟨ok_value_of_one F_value_of_one C_prefix_word, PySem.W.mg_of X G a15, k15, bd_value_of_one⟩
  have C_value_of : Fx l.prog w K mg base "value_of" f16 _ ["row", "known", "width"] 3 ct_value_of := ⟨ok_value_of F_value_of C_value_of_two C_mask_word C_value_of_one b_len, PySem.W.mg_of X G a16, k16, bd_value_of⟩
  have C_values : Fx l.prog w K mg base "values" f17 _ ["program", "width", "words"] 4 ct_values := ⟨ok_values F_values C_value_of b_list b_tuple, PySem.W.mg_of X G a17, k17, bd_values⟩
  have C_result : Fx l.prog w K mg base "result" f18 _ ["program", "width", "words"] 5 ct_result := ⟨ok_result F_result C_values, PySem.W.mg_of X G a18, k18, bd_result⟩
  have C_words_of_place : Fx l.prog w K mg base "words_of_place" f19 _ ["many", "width", "place"] 1 ct_words_of_place := ⟨ok_words_of_place F_words_of_place b_range b_tuple, PySem.W.mg_of X G a19, k19, bd_words_of_place⟩
  have C_table_of : FxX l.prog w K mg base xc "table_of" f20 _ ["program", "width"] 6 ct_table_of := ⟨ok_table_of F_table_of C_is_width C_result C_words_of_place b_list b_range b_tuple E_Unfit x_Unfit, PySem.W.mg_of X G a20, k20, bd_table_of⟩
  have C__law_told : Fx l.prog w K mg base "_law_told" f21 _ ["program", "width", "is_named"] 7 ct__law_told := ⟨ok__law_told F__law_told C_table_of kw_table_of_width_program b_isinstance g_LadderError g_Unfit m_LadderError m_Unfit exk i_LadderError, PySem.W.mg_of X G a21, k21, bd__law_told⟩
  have C__law_is_right : Fx l.prog w K mg base "_law_is_right" f22 _ ["program", "width"] 8 ct__law_is_right := ⟨ok__law_is_right F__law_is_right C__law_due C__law_told b_repr, PySem.W.mg_of X G a22, k22, bd__law_is_right⟩
  have C__law_kinds : Fx l.prog w K mg base "_law_kinds" f23 _ [] 1 ct__law_kinds := ⟨ok__law_kinds F__law_kinds , PySem.W.mg_of X G a23, k23, bd__law_kinds⟩
  have C__law_odd : Fx l.prog w K mg base "_law_odd" f24 _ ["bag"] 3 ct__law_odd := ⟨ok__law_odd F__law_odd C__law_pick, PySem.W.mg_of X G a24, k24, bd__law_odd⟩
  exact ok_law F_law C__law_bag C__law_draw C__law_program C__law_is_right C__law_kinds C__law_odd b_range
end
end Law
open PySem PySem.W PyProof.Rows
set_option maxRecDepth 100000 in
set_option maxHeartbeats 0 in
theorem PySem.Challenge.cw_carryladder_k32_whole_tables_of_programs_holds : PySem.Challenge.rw_carryladder_k32_whole_tables_of_programs.Holds := by
  w_on; o_law; k_head; (case hw => w_witness2)
  k_fill
  refine DL.walkD (l := PySem.Challenge.rw_carryladder_k32_whole_tables_of_programs) (n := 63) (k := 9) (x := "script") rfl (by decide) rfl ⟨rfl, by decide, by decide⟩ (fun w h Y => PySem.W.kIn_of Y) ?F
  case F =>
    intro w mg fa h KX G hmg
    refine' Law.all_mk KX G hmg ?a0 ?l0 ?c0 ?k0 ?a1 ?l1 ?c1 ?k1 ?a2 ?l2 ?c2 ?k2 ?a3 ?l3 ?c3 ?k3 ?a4 ?l4 ?c4 ?k4 ?a5 ?l5 ?c5 ?k5 ?a6 ?l6 ?c6 ?k6 ?a7 ?l7 ?c7 ?k7 ?a8 ?l8 ?c8 ?k8 ?a9 ?l9 ?c9 ?k9 ?a10 ?l10 ?c10 ?k10 ?a11 ?l11 ?c11 ?k11 ?a12 ?l12 ?c12 ?k12 ?a13 ?l13 ?c13 ?k13 ?a14 ?l14 ?c14 ?k14 ?a15 ?l15 ?c15 ?k15 ?a16 ?l16 ?c16 ?k16 ?a17 ?l17 ?c17 ?k17 ?a18 ?l18 ?c18 ?k18 ?a19 ?l19 ?c19 ?k19 ?a20 ?l20 ?c20 ?k20 ?a21 ?l21 ?c21 ?k21 ?a22 ?l22 ?c22 ?k22 ?a23 ?l23 ?c23 ?k23 ?a24 ?l24 ?c24 ?k24 ?a25 ?l25 ?c25 ?k25 ?z0 ?z1 ?z2 ?z3 ?z4 ?z5 ?z6 ?z7 ?z8 ?z9 ?y_MAX_TABLE ?n_LadderError ?n_Unfit ?xm_Unfit_LadderError ?xm_Unfit_Unfit ?xk_Unfit ?xi_Unfit_LadderError ?Er_Unfit ?n_super
    (case a0 => k_is); (case l0 => k_is); (case c0 => k_is); (case k0 => k_is)
    (case a1 => k_is); (case l1 => k_is); (case c1 => k_is); (case k1 => k_is)
    (case a2 => k_is); (case l2 => k_is); (case c2 => k_is); (case k2 => k_is)
    (case a3 => k_is); (case l3 => k_is); (case c3 => k_is); (case k3 => k_is)
    (case a4 => k_is); (case l4 => k_is); (case c4 => k_is); (case k4 => k_is)
    (case a5 => k_is); (case l5 => k_is); (case c5 => k_is); (case k5 => k_is)
    (case a6 => k_is); (case l6 => k_is); (case c6 => k_is); (case k6 => k_is)
    (case a7 => k_is); (case l7 => k_is); (case c7 => k_is); (case k7 => k_is)
    (case a8 => k_is); (case l8 => k_is); (case c8 => k_is); (case k8 => k_is)
    (case a9 => k_is); (case l9 => k_is); (case c9 => k_is); (case k9 => k_is)
    (case a10 => k_is); (case l10 => k_is); (case c10 => k_is); (case k10 => k_is)
    (case a11 => k_is); (case l11 => k_is); (case c11 => k_is); (case k11 => k_is)
    (case a12 => k_is); (case l12 => k_is); (case c12 => k_is); (case k12 => k_is)
    (case a13 => k_is); (case l13 => k_is); (case c13 => k_is); (case k13 => k_is)
    (case a14 => k_is); (case l14 => k_is); (case c14 => k_is); (case k14 => k_is)
    (case a15 => k_is); (case l15 => k_is); (case c15 => k_is); (case k15 => k_is)
    (case a16 => k_is); (case l16 => k_is); (case c16 => k_is); (case k16 => k_is)
    (case a17 => k_is); (case l17 => k_is); (case c17 => k_is); (case k17 => k_is)
    (case a18 => k_is); (case l18 => k_is); (case c18 => k_is); (case k18 => k_is)
    (case a19 => k_is); (case l19 => k_is); (case c19 => k_is); (case k19 => k_is)
    (case a20 => k_is); (case l20 => k_is); (case c20 => k_is); (case k20 => k_is)
    (case a21 => k_is); (case l21 => k_is); (case c21 => k_is); (case k21 => k_is)
    (case a22 => k_is); (case l22 => k_is); (case c22 => k_is); (case k22 => k_is)
    (case a23 => k_is); (case l23 => k_is); (case c23 => k_is); (case k23 => k_is)
    (case a24 => k_is); (case l24 => k_is); (case c24 => k_is); (case k24 => k_is)
    (case a25 => k_is); (case l25 => k_is); (case c25 => k_is); (case k25 => k_is)
    (case z0 => k_is); (case z1 => k_is); (case z2 => k_is); (case z3 => k_is); (case z4 => k_is); (case z5 => k_is); (case z6 => k_is); (case z7 => k_is); (case z8 => k_is); (case z9 => k_is); (case y_MAX_TABLE => k_is)
    (case n_LadderError => (k_is))
    (case n_Unfit => (k_is))
    (case xm_Unfit_LadderError => (first | kit_is | k_is | kernel_rfl))
    (case xm_Unfit_Unfit => (first | kit_is | k_is | kernel_rfl))
    (case xk_Unfit => (exact ⟨by kernel_rfl, by k_is, by k_is, by k_is, by first | k_is | kernel_rfl, by k_is, by k_is, by k_is, by first | k_is | kernel_rfl⟩))
    (case xi_Unfit_LadderError => (first | kit_is | k_is | kernel_rfl))
    (case Er_Unfit => (intro gs g; refine' DL.er0 ?cc ?T ?ev ?hp ?hb; (case T => exact ⟨by first | k_is | kx_is, by k_is, by k_is, ⟨_, _, _, _, _, _, _, _, by k_is⟩, by k_is, ⟨_, _, _, _, _, _, by k_is, rfl, rfl⟩, ⟨_, _, _, by k_is⟩, ⟨_, by k_is, rfl, rfl⟩, by k_is, by k_is, by first | ks_is | k_is, by k_is, rfl, by k_is⟩); (case cc => exact ⟨gs, g, by k_is, by k_is, by k_is, rfl⟩); (case ev => exact fun _ => ⟨_, rfl⟩); (case hp => exact ⟨_, rfl, rfl⟩); (case hb => (intro e s fd h1 h2; cases fd; cases h1; cases h2; exact .of_eq rfl))))
    (case n_super => (k_is))
