import PyProof.Rows.All
import Wide.All
import OpenK.AllK
import Wide.FinOn
import HandS.ForMost
import KE.KDictKeyed
import KE.KDictWalk
import PyProof.ReprReads
import HandS.Lambda
import HandS.TupAny
import HandS.Wide
import HandS.Deep
import HandS.Style
import HandS.IsInst
import HandS.SortInts
import HandS.Defaults
import HandS.Ends
import HandS.HeadEnd
import HandS.HeadHook1
import HandS.HeadHook2
import HandS.Head0
import HandS.Head1
import HandS.Head2
import HandS.Head3
import HandS.Gcd
import HandS.HeadWalk
import PyProof.ReprRoads
import PyProof.ReprText
import PyProof.FitsInt
import HandS.Iter
import KE.KDictDisplayH
import KE.SortData
import KE.DataCmp
import KE.GoesNewDict
import HandS.Conv
import HandS.FStr
import HandS.Text
import HandS.ListItems
import HandS.ExcValue
import KE.KDictItemsList
import HandS.RaiseMore
import HandS.SetFor
import KE.KRevSl
import KE.DataMinMax
import HandS.SortKw
import HandS.Finally
import HandS.TupLen
import KE.KDictSum
import PyProof.Rows.RowBridgeK
import KE.KDictPairs
import HandS.TryOnly
import HandS.EndTab
import HandS.HeadHook4
import HandS.JoinGen
import KE.SortKeyHeap
import PySem.Challenge.RW_skypasses_k50_steps_of_worths
set_option Elab.async false
set_option linter.all false
set_option maxRecDepth 100000
set_option maxHeartbeats 4000000
/-! A layer of plain values over the hand layer: each expression and statement is read as a function of an environment of plain data. -/
namespace SL
open PySem PySem.Spec PyProof.Rows L2
abbrev D := PyData
/-! ### dicts whose keys are tuples -/
mutual
/-- data as a key: None, numbers, tuples of such -/
def toNK : D → Option NestedKey
  | .none => some .none
  | .int i => some (.num i)
  | .tuple ds => (toNKs ds).map .tup
  | _ => none
def toNKs : List D → Option (List NestedKey)
  | [] => some []
  | d :: ds => (toNK d).bind fun k => (toNKs ds).map fun ks => k :: ks
end
mutual
/-- the hash of a key without texts -/
def hash0 : NestedKey → Int
  | .none => reduceHash 0xFCA86420
  | .num i => hashInt i
  | .text _ => 0
  | .tup ks => reduceHash (Builtin.Tuple.tupleHashOf (hashes0 ks))
def hashes0 : List NestedKey → List Int
  | [] => []
  | k :: ks => hash0 k :: hashes0 ks
end
mutual
theorem hash_eq (w : World) : ∀ (d : D) (k : NestedKey), toNK d = some k → k.hash w = hash0 k
  | .none, k, h => by simp only [toNK] at h; cases h; simp only [NestedKey.hash, hash0]
  | .int i, k, h => by simp only [toNK] at h; cases h; simp only [NestedKey.hash, hash0]
  | .tuple ds, k, h => by
    simp only [toNK] at h
    obtain ⟨ks, h1, h2⟩ := Option.map_eq_some_iff.mp h
    cases h2
    simp only [NestedKey.hash, hash0, hashes_eq w ds ks h1]
  | .bool _, k, h => by simp [toNK] at h
  | .str _, k, h => by simp [toNK] at h
  | .list _, k, h => by simp [toNK] at h
  | .dict _, k, h => by simp [toNK] at h
theorem hashes_eq (w : World) : ∀ (ds : List D) (ks : List NestedKey), toNKs ds = some ks → NestedKey.hashes w ks = hashes0 ks
  | [], ks, h => by simp only [toNKs] at h; cases h; simp only [NestedKey.hashes, hashes0]
  | d :: ds, ks, h => by
    simp only [toNKs] at h
    obtain ⟨k, h1, h2⟩ := Option.bind_eq_some_iff.mp h
    obtain ⟨ls, h3, h4⟩ := Option.map_eq_some_iff.mp h2
    cases h4
    simp only [NestedKey.hashes, hashes0, hash_eq w d k h1, hashes_eq w ds ls h3]
end
/-- data that may be a key -/
def nkey (d : D) : Option NestedKey := (toNK d).bind fun k => if k.depth ≤ 8 then some k else none
theorem nkey_some {d : D} {k : NestedKey} (h : nkey d = some k) : toNK d = some k ∧ k.depth ≤ 8 := by
  unfold nkey at h
  obtain ⟨j, h1, h2⟩ := Option.bind_eq_some_iff.mp h
  split at h2
  · cases h2; exact ⟨h1, by assumption⟩
  · cases h2
abbrev KE3 := NestedKey × Addr × V
def entry0 (x : NestedKey × Addr × Value) : DictEntry := ⟨hash0 x.1, .ref x.2.1, x.2.2⟩
def E3 (a : KE3) (b : NestedKey × Addr × Value) : Prop := a.1 = b.1 ∧ a.2.1 = b.2.1 ∧ RelV a.2.2 b.2.2
/-- the object o is a dict with these entries -/
def DicS (p : Addr) (o : Obj) (ks : List KE3) : Prop := ks.length ≤ sizeLine ∧ (p == sysModules) = false ∧ ∃ (xs : List (NestedKey × Addr × Value)) (es : Array DictEntry) (ep : Nat),
  Paired E3 ks xs ∧ o.ExactDict ∧ o.data = .dict es ep ∧ es.toList = xs.map entry0 ∧ (xs.map (·.1)).Nodup
def DicO (p : Addr) (o : Obj) (ks : List KE3) : HO := .ext fun h => h.get? p = some o ∧ DicS p o ks
mutual
inductive Dp (K : PySem.W.Frag) (H : Hp) : V → D → Prop
  | non : Dp K H .non .none
  | bl (b : Bool) : Dp K H (.bl b) (.bool b)
  | int (i : Int) : Dp K H (.int i) (.int i)
  | str (x : Str) : Dp K H (.str x) (.str x)
  | lst {a : Addr} {xs : List V} {ds : List D} : SqL K H a xs → DpAll K H xs ds → Dp K H (.ref a) (.list ds)
  | tup {a : Addr} {xs : List V} {ds : List D} : SqT K H a xs → DpAll K H xs ds → Dp K H (.ref a) (.tuple ds)
  | dic {a : Addr} {o : Obj} {ks : List KE3} {kds : List (D × D)} : H a = some (DicO a o ks) → DpKs K H ks kds → Dp K H (.ref a) (.dict kds)
inductive DpAll (K : PySem.W.Frag) (H : Hp) : List V → List D → Prop
  | nil : DpAll K H [] []
  | cons {v : V} {vs : List V} {d : D} {ds : List D} : Dp K H v d → DpAll K H vs ds → DpAll K H (v :: vs) (d :: ds)
inductive DpKs (K : PySem.W.Frag) (H : Hp) : List KE3 → List (D × D) → Prop
  | nil : DpKs K H [] []
  | cons {k : NestedKey} {a : Addr} {v : V} {kd vd : D} {ks : List KE3} {kds : List (D × D)} : nkey kd = some k → Dp K H (.ref a) kd → Dp K H v vd → DpKs K H ks kds → DpKs K H ((k, a, v) :: ks) ((kd, vd) :: kds)
end
mutual
theorem Dp.toL {K : PySem.W.Frag} {H : Hp} : ∀ {d : D} {v : V}, Dp K H v d → d.hasDict = false → L2.Dp K H v d
  | _, _, .non, _ => .non
  | _, _, .bl b, _ => .bl b
  | _, _, .int i, _ => .int i
  | _, _, .str x, _ => .str x
  | _, _, .lst h t, n => .lst h (DpAll.toL t (by simpa only [PyData.hasDict] using n))
  | _, _, .tup h t, n => .tup h (DpAll.toL t (by simpa only [PyData.hasDict] using n))
  | _, _, .dic _ _, n => by simp only [PyData.hasDict] at n; cases n
theorem DpAll.toL {K : PySem.W.Frag} {H : Hp} : ∀ {ds : List D} {vs : List V}, DpAll K H vs ds → PyData.hasDictAll ds = false → L2.DpAll K H vs ds
  | _, _, .nil, _ => .nil
  | _, _, .cons h t, n => by
    simp only [PyData.hasDictAll, Bool.or_eq_false_iff] at n
    exact .cons (Dp.toL h n.1) (DpAll.toL t n.2)
end
/-! values whose lists are all new: no list of theirs is one that P tells -/
mutual
inductive DpN (K : PySem.W.Frag) (P G : Hp) : V → D → Prop
  | non : DpN K P G .non .none
  | bl (b : Bool) : DpN K P G (.bl b) (.bool b)
  | int (i : Int) : DpN K P G (.int i) (.int i)
  | str (x : Str) : DpN K P G (.str x) (.str x)
  | lst {a : Addr} {xs : List V} {ds : List D} : G a = some (.lst xs) → P a = none → DpNAll K P G xs ds → DpN K P G (.ref a) (.list ds)
  | tup {a : Addr} {xs : List V} {ds : List D} : SqT K G a xs → DpNAll K P G xs ds → DpN K P G (.ref a) (.tuple ds)
inductive DpNAll (K : PySem.W.Frag) (P G : Hp) : List V → List D → Prop
  | nil : DpNAll K P G [] []
  | cons {v : V} {vs : List V} {d : D} {ds : List D} : DpN K P G v d → DpNAll K P G vs ds → DpNAll K P G (v :: vs) (d :: ds)
end
mutual
theorem DpN.dp {K : PySem.W.Frag} {P G : Hp} : ∀ {d : D} {v : V}, DpN K P G v d → Dp K G v d
  | _, _, .non => .non
  | _, _, .bl b => .bl b
  | _, _, .int i => .int i
  | _, _, .str x => .str x
  | _, _, .lst h _ t => .lst (.inl (.inl h)) (DpNAll.dp t)
  | _, _, .tup h t => .tup h (DpNAll.dp t)
theorem DpNAll.dp {K : PySem.W.Frag} {P G : Hp} : ∀ {ds : List D} {vs : List V}, DpNAll K P G vs ds → DpAll K G vs ds
  | _, _, .nil => .nil
  | _, _, .cons h t => .cons (DpN.dp h) (DpNAll.dp t)
end
/-- its entries, in the heap -/
inductive Cell where
  | val (d : D)
  | own (ds : List D)
  | loan (k : Nat) (ds : List D)
  | ownD (kds : List (D × D))
  | tag (n : Nat)
  | fre (d : D)
  | ownF (ds : List D)
abbrev Ev := List (Option Cell)
def Cell.isOwn : Cell → Bool
  | .val _ => false
  | .tag _ => false
  | .fre _ => false
  | _ => true
/-- what stays fixed while a body runs: what must not change, what was known at the start, the lists that may be changed -/
structure Ctx where
  P : Hp
  G0 : Hp
  M : List Addr
  L : Nat → Option Addr := fun _ => none
def CellOk (K : PySem.W.Frag) (C : Ctx) (G H : Hp) (v : V) : Cell → Prop
  | .val d => Dp K G v d
  | .own ds => ∃ p vs, v = .ref p ∧ (C.P p = none ∧ p ∉ C.M) ∧ G p = none ∧ H p = some (.lst vs) ∧ DpAll K G vs ds
  | .loan k ds => ∃ p vs, v = .ref p ∧ C.M[k]? = some p ∧ G p = none ∧ H p = some (.lst vs) ∧ DpAll K G vs ds
  | .ownD kds => ∃ p o ks, v = .ref p ∧ (C.P p = none ∧ p ∉ C.M) ∧ G p = none ∧ H p = some (DicO p o ks) ∧ DpKs K G ks kds
  | .tag n => ∃ p, v = .ref p ∧ C.L n = some p
  | .fre d => DpN K C.P G v d
  | .ownF ds => ∃ p vs, v = .ref p ∧ (C.P p = none ∧ p ∉ C.M) ∧ G p = none ∧ H p = some (.lst vs) ∧ DpNAll K C.P G vs ds
/-! tables of code objects that a body may let grow (lambdas): none, but where an instance tells them -/
class TBL where
  T : List (Addr × Str)
instance tbl0 : TBL := ⟨[]⟩
/-- the table at a tells code objects of the name q alone, which are known -/
def TabG (G H : Hp) (a : Addr) (q : Str) : Prop := ∃ ps : Array Value, H a = some (.tbl ps) ∧ TriplesOk ps.toList ∧ ∀ (pos : Pos) (cv : Value), codeAmong pos ps.toList = some cv → ∃ c, cv = .ref c ∧ G c = some (LamX.CodeO c q)
def TabsG (T : List (Addr × Str)) (M : List Addr) (G H : Hp) : Prop := ∀ p ∈ T, p.1 ∈ M ∧ TabG G H p.1 p.2
theorem TabsG.step {T : List (Addr × Str)} {M : List Addr} {G H G' H' : Hp} (t : TabsG T M G H) (s : Same G G') (k : ∀ a ps, a ∈ M → H a = some (.tbl ps) → H' a = some (.tbl ps)) : TabsG T M G' H' := fun p hp => by
  obtain ⟨m, ps, h1, h2, h3⟩ := t p hp
  refine ⟨m, ps, k _ _ m h1, h2, fun pos cv e => ?_⟩
  obtain ⟨c, e1, e2⟩ := h3 pos cv e
  exact ⟨c, e1, s _ _ e2⟩
theorem TabsG.upd {T : List (Addr × Str)} {M : List Addr} {G H : Hp} {p : Addr} {o : HO} (t : TabsG T M G H) (h : p ∉ M ∨ ∀ ps, H p ≠ some (.tbl ps)) : TabsG T M G (L2.upd H p o) := t.step (fun _ _ e => e) fun a ps ha e => by
  rw [upd_ne]
  · exact e
  · intro z
    subst z
    rcases h with h | h
    · exact h ha
    · exact h ps e
variable [TBL]
structure Ok (K : PySem.W.Frag) (C : Ctx) (G H : Hp) (σ : L2.St) (r : Ev) : Prop where
  sub : Same G H
  g0 : Same C.G0 G
  gnew : ∀ a o, G a = some o → C.G0 a = some o ∨ C.P a = none
  prot : ∀ a o, C.P a = some o → a ∉ C.M → H a = some o
  mreal : ∀ a, a ∈ C.M → H a ≠ none ∧ G a = none
  len : r.length = σ.length
  cell : ∀ (i : Nat) (c : Cell), r[i]? = some (some c) → ∃ v, σ[i]? = some (some v) ∧ CellOk K C G H v c
  dis : ∀ (i j : Nat) (c c' : Cell), r[i]? = some (some c) → r[j]? = some (some c') → c.isOwn = true → c'.isOwn = true → σ[i]? = σ[j]? → i = j
  tabs : TabsG TBL.T C.M G H
section
variable {K : PySem.W.Frag} {C : Ctx} {G H G' H' : Hp} {σ : L2.St} {r r' : Ev}
theorem SqL.mono {a : Addr} {xs : List V} (s : Same G G') (h : SqL K G a xs) : SqL K G' a xs := s.seq h
theorem SqT.mono {a : Addr} {xs : List V} (s : Same G G') (h : SqT K G a xs) : SqT K G' a xs := by
  rcases h with h | h
  · rcases h with h | ⟨o, h⟩
    · exact .inl (.inl (s _ _ h))
    · exact .inl (.inr ⟨o, s _ _ h⟩)
  · exact .inr h
mutual
theorem Dp.mono (s : Same G G') : ∀ {d : D} {v : V}, Dp K G v d → Dp K G' v d
  | _, _, .non => .non
  | _, _, .bl b => .bl b
  | _, _, .int i => .int i
  | _, _, .str x => .str x
  | _, _, .lst h t => .lst (SqL.mono s h) (DpAll.mono s t)
  | _, _, .tup h t => .tup (SqT.mono s h) (DpAll.mono s t)
  | _, _, .dic h t => .dic (s _ _ h) (DpKs.mono s t)
theorem DpAll.mono (s : Same G G') : ∀ {ds : List D} {vs : List V}, DpAll K G vs ds → DpAll K G' vs ds
  | _, _, .nil => .nil
  | _, _, .cons h t => .cons (Dp.mono s h) (DpAll.mono s t)
theorem DpKs.mono (s : Same G G') : ∀ {kds : List (D × D)} {ks : List KE3}, DpKs K G ks kds → DpKs K G' ks kds
  | _, _, .nil => .nil
  | _, _, .cons e a b t => .cons e (Dp.mono s a) (Dp.mono s b) (DpKs.mono s t)
end
mutual
theorem DpN.imp {P P' : Hp} (s : Same G G') (hp : ∀ a, G a ≠ none → P a = none → P' a = none) : ∀ {d : D} {v : V}, DpN K P G v d → DpN K P' G' v d
  | _, _, .non => .non
  | _, _, .bl b => .bl b
  | _, _, .int i => .int i
  | _, _, .str x => .str x
  | _, _, .lst h n t => .lst (s _ _ h) (hp _ (by rw [h]; exact fun z => nomatch z) n) (DpNAll.imp s hp t)
  | _, _, .tup h t => .tup (SqT.mono s h) (DpNAll.imp s hp t)
theorem DpNAll.imp {P P' : Hp} (s : Same G G') (hp : ∀ a, G a ≠ none → P a = none → P' a = none) : ∀ {ds : List D} {vs : List V}, DpNAll K P G vs ds → DpNAll K P' G' vs ds
  | _, _, .nil => .nil
  | _, _, .cons h t => .cons (DpN.imp s hp h) (DpNAll.imp s hp t)
end
theorem DpN.mono {P : Hp} (s : Same G G') {d : D} {v : V} (h : DpN K P G v d) : DpN K P G' v d := DpN.imp s (fun _ _ z => z) h
theorem DpNAll.mono {P : Hp} (s : Same G G') {ds : List D} {vs : List V} (h : DpNAll K P G vs ds) : DpNAll K P G' vs ds := DpNAll.imp s (fun _ _ z => z) h
theorem DpNAll.append {P : Hp} : ∀ {ds es : List D} {vs ws : List V}, DpNAll K P G vs ds → DpNAll K P G ws es → DpNAll K P G (vs ++ ws) (ds ++ es)
  | _, _, _, _, .nil, h => h
  | _, _, _, _, .cons h t, q => .cons h (DpNAll.append t q)
theorem DpNAll.get {P : Hp} : ∀ {ds : List D} {vs : List V} {i : Nat} {d : D}, DpNAll K P G vs ds → ds[i]? = some d → ∃ v, vs[i]? = some v ∧ DpN K P G v d
  | _, _, i, _, .nil, e => by simp at e
  | _, _, 0, _, .cons h _, e => by simp at e; subst e; exact ⟨_, rfl, h⟩
  | _, _, i + 1, _, .cons _ t, e => by
    obtain ⟨v, h1, h2⟩ := DpNAll.get (i := i) t (by simpa using e)
    exact ⟨v, by simpa using h1, h2⟩
theorem DpKs.length : ∀ {kds : List (D × D)} {ks : List KE3}, DpKs K G ks kds → ks.length = kds.length
  | _, _, .nil => rfl
  | _, _, .cons _ _ _ t => by rw [List.length_cons, List.length_cons, DpKs.length t]
theorem DpAll.length : ∀ {ds : List D} {vs : List V}, DpAll K G vs ds → vs.length = ds.length
  | _, _, .nil => rfl
  | _, _, .cons _ t => by rw [List.length_cons, List.length_cons, DpAll.length t]
theorem DpAll.get : ∀ {ds : List D} {vs : List V} {i : Nat} {d : D}, DpAll K G vs ds → ds[i]? = some d → ∃ v, vs[i]? = some v ∧ Dp K G v d
  | _, _, i, _, .nil, e => by simp at e
  | _, _, 0, _, .cons h _, e => by simp at e; subst e; exact ⟨_, rfl, h⟩
  | _, _, i + 1, _, .cons _ t, e => by
    obtain ⟨v, h1, h2⟩ := DpAll.get (i := i) t (by simpa using e)
    exact ⟨v, by simpa using h1, h2⟩
theorem DpAll.append : ∀ {ds es : List D} {vs ws : List V}, DpAll K G vs ds → DpAll K G ws es → DpAll K G (vs ++ ws) (ds ++ es)
  | _, _, _, _, .nil, h => h
  | _, _, _, _, .cons h t, q => .cons h (DpAll.append t q)
theorem DpAll.set {d : D} {v : V} (h : Dp K G v d) : ∀ {ds : List D} {vs : List V} (i : Nat), DpAll K G vs ds → DpAll K G (vs.set i v) (ds.set i d)
  | _, _, _, .nil => .nil
  | _, _, 0, .cons _ t => .cons h t
  | _, _, i + 1, .cons q t => .cons q (DpAll.set h i t)
theorem DpAll.take : ∀ {ds : List D} {vs : List V} (n : Nat), DpAll K G vs ds → DpAll K G (vs.take n) (ds.take n)
  | _, _, 0, _ => .nil
  | _, _, _ + 1, .nil => .nil
  | _, _, n + 1, .cons h t => .cons h (DpAll.take n t)
theorem DpAll.drop : ∀ {ds : List D} {vs : List V} (n : Nat), DpAll K G vs ds → DpAll K G (vs.drop n) (ds.drop n)
  | _, _, 0, h => h
  | _, _, _ + 1, .nil => .nil
  | _, _, n + 1, .cons _ t => DpAll.drop n t
theorem DpAll.reverse : ∀ {ds : List D} {vs : List V}, DpAll K G vs ds → DpAll K G vs.reverse ds.reverse
  | _, _, .nil => .nil
  | _, _, .cons h t => by
    rw [List.reverse_cons, List.reverse_cons]
    exact DpAll.append (DpAll.reverse t) (.cons h .nil)
theorem CellOk.step {v : V} {c : Cell} (h : CellOk K C G H v c) (s : Same G G') (k : ∀ p o, H p = some o → G p = none → (C.P p = none ∨ p ∈ C.M) → H' p = some o ∧ G' p = none) : CellOk K C G' H' v c := by
  cases c with
  | val d => exact Dp.mono s h
  | own ds =>
    obtain ⟨p, vs, rfl, h1, h2, h3, h4⟩ := h
    obtain ⟨k1, k2⟩ := k p _ h3 h2 (.inl h1.1)
    exact ⟨p, vs, rfl, h1, k2, k1, DpAll.mono s h4⟩
  | loan m ds =>
    obtain ⟨p, vs, rfl, h1, h2, h3, h4⟩ := h
    obtain ⟨k1, k2⟩ := k p _ h3 h2 (.inr (List.mem_of_getElem? h1))
    exact ⟨p, vs, rfl, h1, k2, k1, DpAll.mono s h4⟩
  | ownD kds =>
    obtain ⟨p, o, ks, rfl, h1, h2, h3, h4⟩ := h
    obtain ⟨k1, k2⟩ := k p _ h3 h2 (.inl h1.1)
    exact ⟨p, o, ks, rfl, h1, k2, k1, DpKs.mono s h4⟩
  | tag n => exact h
  | fre d => exact DpN.mono s h
  | ownF ds =>
    obtain ⟨p, vs, rfl, h1, h2, h3, h4⟩ := h
    obtain ⟨k1, k2⟩ := k p _ h3 h2 (.inl h1.1)
    exact ⟨p, vs, rfl, h1, k2, k1, DpNAll.mono s h4⟩
/-- nothing that stood has changed; what is newly known is new -/
theorem Ok.calm (ok : Ok K C G H σ r) (s : Same G G') (k : Same H H') (s' : Same G' H') (n : ∀ a o, G' a = some o → G a = some o ∨ H a = none) : Ok K C G' H' σ r where
  sub := s'
  g0 := ok.g0.trans s
  gnew := fun a o e => by
    rcases n a o e with e | e
    · exact ok.gnew a o e
    · cases q : C.P a with
      | none => exact .inr rfl
      | some u =>
        by_cases hm : a ∈ C.M
        · exact absurd e (ok.mreal a hm).1
        · rw [ok.prot a u q hm] at e; cases e
  prot := fun a o e hm => k _ _ (ok.prot a o e hm)
  mreal := fun a hm => by
    obtain ⟨h1, h2⟩ := ok.mreal a hm
    refine ⟨fun e => h1 (k.free e), ?_⟩
    cases q : G' a with
    | none => rfl
    | some u =>
      rcases n a u q with e | e
      · rw [h2] at e; cases e
      · exact absurd e h1
  len := ok.len
  cell := fun i c e => by
    obtain ⟨v, e1, h⟩ := ok.cell i c e
    refine ⟨v, e1, h.step s fun p vs h3 h2 _ => ⟨k _ _ h3, ?_⟩⟩
    cases q : G' p with
    | none => rfl
    | some u =>
      rcases n p u q with e | e
      · rw [h2] at e; cases e
      · rw [h3] at e; cases e
  dis := ok.dis
  tabs := ok.tabs.step s fun a ps _ e => k _ _ e
theorem Ok.fresh {p : Addr} (ok : Ok K C G H σ r) (n : H p = none) : C.P p = none ∧ p ∉ C.M ∧ G p = none := by
  have hm : p ∉ C.M := fun hm => (ok.mreal p hm).1 n
  refine ⟨?_, hm, ok.sub.free n⟩
  cases q : C.P p with
  | none => rfl
  | some u => rw [ok.prot p u q hm] at n; cases n
/-- a new thing, known at once -/
theorem Ok.laid {p : Addr} {o : HO} (ok : Ok K C G H σ r) (n : H p = none) : Ok K C (upd G p o) (upd H p o) σ r := by
  have ng := (ok.fresh n).2.2
  refine ok.calm (fun a u e => ?_) (fun a u e => ?_) (fun a u e => ?_) fun a u e => ?_
  · rw [upd_ne (ne_of_none e ng)]; exact e
  · rw [upd_ne (ne_of_none e n)]; exact e
  · by_cases h : a = p
    · subst h; rw [upd_same] at e ⊢; exact e
    · rw [upd_ne h] at e ⊢; exact ok.sub _ _ e
  · by_cases h : a = p
    · subst h; exact .inr n
    · rw [upd_ne h] at e; exact .inl e
/-- a new thing, not yet known -/
theorem Ok.made {p : Addr} {o : HO} (ok : Ok K C G H σ r) (n : H p = none) : Ok K C G (upd H p o) σ r := by
  refine ok.calm (fun a u e => e) (fun a u e => ?_) (fun a u e => ?_) fun a u e => .inl e
  · rw [upd_ne (ne_of_none e n)]; exact e
  · have e' := ok.sub _ _ e
    rw [upd_ne (ne_of_none e' n)]; exact e'
theorem same_laid {p : Addr} {o : HO} (n : G p = none) : Same G (upd G p o) := fun a u e => by rw [upd_ne (ne_of_none e n)]; exact e
end
end SL
namespace SL
open PySem PySem.Spec PyProof.Rows L2
variable [TBL]
/-! ### readings -/
abbrev FE := Ev → Option (D × Ev)
abbrev FA := Ev → Option (List D × Ev)
abbrev FT := Ev → Option (Bool × Ev)
/-- an expression: pu says that nothing that stood is changed -/
def tE (K : PySem.W.Frag) (pu : Bool) (f : FE) : TE := fun σ H Q => ∃ C G r d r', Ok K C G H σ r ∧ f r = some (d, r') ∧
  ∀ v G' H', Ok K C G' H' σ r' → Same G G' → (pu = true → Same H H') → Dp K G' v d → Q v H'
def tA (K : PySem.W.Frag) (pu : Bool) (f : FA) : TA := fun σ H Q => ∃ C G r d r', Ok K C G H σ r ∧ f r = some (d, r') ∧
  ∀ v G' H', Ok K C G' H' σ r' → Same G G' → (pu = true → Same H H') → DpAll K G' v d → Q v H'
def tT (K : PySem.W.Frag) (pu : Bool) (f : FT) : TT := fun σ H Q => ∃ C G r b r', Ok K C G H σ r ∧ f r = some (b, r') ∧
  ∀ G' H', Ok K C G' H' σ r' → Same G G' → (pu = true → Same H H') → Q b H'
/-- what may be looked at: a thing whose parts are known -/
def Pk (K : PySem.W.Frag) (G H : Hp) (v : V) (d : D) : Prop := Dp K G v d ∨ ∃ p vs ds, v = .ref p ∧ d = .list ds ∧ H p = some (.lst vs) ∧ DpAll K G vs ds
def tP (K : PySem.W.Frag) (pu : Bool) (f : FE) : TE := fun σ H Q => ∃ C G r d r', Ok K C G H σ r ∧ f r = some (d, r') ∧
  ∀ v G' H', Ok K C G' H' σ r' → Same G G' → (pu = true → Same H H') → Pk K G' H' v d → Q v H'
/-- a new list that only the one who asks for it knows -/
def NewX (K : PySem.W.Frag) (C : Ctx) (G H : Hp) (σ : L2.St) (r : Ev) (p : Addr) (o : HO) : Prop :=
  C.P p = none ∧ p ∉ C.M ∧ G p = none ∧ H p = some o ∧ ∀ (i : Nat) (c : Cell), r[i]? = some (some c) → c.isOwn = true → σ[i]? ≠ some (some (.ref p))
def New (K : PySem.W.Frag) (C : Ctx) (G H : Hp) (σ : L2.St) (r : Ev) (p : Addr) (vs : List V) : Prop := NewX K C G H σ r p (.lst vs)
def tL (K : PySem.W.Frag) (pu : Bool) (f : FA) : TE := fun σ H Q => ∃ C G r d r', Ok K C G H σ r ∧ f r = some (d, r') ∧
  ∀ p vs G' H', Ok K C G' H' σ r' → Same G G' → (pu = true → Same H H') → New K C G' H' σ r' p vs → DpAll K G' vs d → Q (.ref p) H'
abbrev SE (X : Cx) (pu : Bool) (e : Expr) (f : FE) : Prop := PE X e (tE X.K pu f)
abbrev SP (X : Cx) (pu : Bool) (e : Expr) (f : FE) : Prop := PE X e (tP X.K pu f)
abbrev SL (X : Cx) (pu : Bool) (e : Expr) (f : FA) : Prop := PE X e (tL X.K pu f)
abbrev ST (X : Cx) (pu : Bool) (e : Expr) (f : FT) : Prop := PT X e (tT X.K pu f)
abbrev SA (X : Cx) (pu : Bool) (es : List Expr) (f : FA) : Prop := PA X es (tA X.K pu f)
theorem PE.weak {X : Cx} {e : Expr} {t t' : TE} (h : PE X e t) (w : ∀ σ H Q, t' σ H Q → t σ H Q) : PE X e t' := ⟨fun pins s σ H Q I q => h.run pins s σ H Q I (w σ H Q q)⟩
theorem PT.weak {X : Cx} {e : Expr} {t t' : TT} (h : PT X e t) (w : ∀ σ H Q, t' σ H Q → t σ H Q) : PT X e t' := ⟨fun pins s σ H Q I q => h.run pins s σ H Q I (w σ H Q q)⟩
theorem PA.weak {X : Cx} {e : List Expr} {t t' : TA} (h : PA X e t) (w : ∀ σ H Q, t' σ H Q → t σ H Q) : PA X e t' := ⟨fun pos pins s σ H Q I q => h.run pos pins s σ H Q I (w σ H Q q)⟩
section
variable {K : PySem.W.Frag} {C : Ctx} {G H G' H' : Hp} {σ : L2.St} {r r' : Ev}
theorem Pk.of {v : V} {d : D} (h : Dp K G v d) : Pk K G H v d := .inl h
theorem Pk.list {v : V} {ds : List D} (s : Same G H) (h : Pk K G H v (.list ds)) : ∃ p vs, v = .ref p ∧ SqL K H p vs ∧ DpAll K G vs ds := by
  rcases h with h | ⟨p, vs, ds', rfl, e, h1, h2⟩
  · cases h with
    | lst a b => exact ⟨_, _, rfl, SqL.mono s a, b⟩
  · cases e
    exact ⟨p, vs, rfl, .inl (.inl h1), h2⟩
theorem Pk.tuple {v : V} {ds : List D} (s : Same G H) (h : Pk K G H v (.tuple ds)) : ∃ p vs, v = .ref p ∧ SqT K H p vs ∧ DpAll K G vs ds := by
  rcases h with h | ⟨p, vs, ds', rfl, e, h1, h2⟩
  · cases h with
    | tup a b => exact ⟨_, _, rfl, SqT.mono s a, b⟩
  · cases e
theorem Pk.int {v : V} {i : Int} (h : Pk K G H v (.int i)) : v = .int i := by
  rcases h with h | ⟨p, vs, ds', rfl, e, h1, h2⟩
  · cases h; rfl
  · cases e
theorem Pk.bool {v : V} {i : Bool} (h : Pk K G H v (.bool i)) : v = .bl i := by
  rcases h with h | ⟨p, vs, ds', rfl, e, h1, h2⟩
  · cases h; rfl
  · cases e
theorem Pk.str {v : V} {i : Str} (h : Pk K G H v (.str i)) : v = .str i := by
  rcases h with h | ⟨p, vs, ds', rfl, e, h1, h2⟩
  · cases h; rfl
  · cases e
theorem Pk.none {v : V} (h : Pk K G H v .none) : v = .non := by
  rcases h with h | ⟨p, vs, ds', rfl, e, h1, h2⟩
  · cases h; rfl
  · cases e
theorem Pk.full {v : V} {d : D} (s : Same G H) (h : Pk K G H v d) : Dp K H v d := by
  rcases h with h | ⟨p, vs, ds', rfl, rfl, h1, h2⟩
  · exact Dp.mono s h
  · exact .lst (.inl (.inl h1)) (DpAll.mono s h2)
theorem Pk.step {v : V} {d : D} (h : Pk K G H v d) (s : Same G G') (k : Same H H') : Pk K G' H' v d := by
  rcases h with h | ⟨p, vs, ds', rfl, rfl, h1, h2⟩
  · exact .inl (Dp.mono s h)
  · exact .inr ⟨p, vs, ds', rfl, rfl, k _ _ h1, DpAll.mono s h2⟩
theorem NewX.freeze {p : Addr} {o : HO} (ok : Ok K C G H σ r) (n : NewX K C G H σ r p o) : Ok K C (upd G p o) H σ r where
  sub := fun a u e => by
    by_cases h : a = p
    · subst h; rw [upd_same] at e; cases e; exact n.2.2.2.1
    · rw [upd_ne h] at e; exact ok.sub _ _ e
  g0 := ok.g0.trans (same_laid n.2.2.1)
  gnew := fun a o e => by
    by_cases h : a = p
    · subst h; exact .inr n.1
    · rw [upd_ne h] at e; exact ok.gnew _ _ e
  prot := ok.prot
  mreal := fun a hm => by
    obtain ⟨h1, h2⟩ := ok.mreal a hm
    refine ⟨h1, ?_⟩
    rw [upd_ne (show a ≠ p from fun e => n.2.1 (by rw [← e]; exact hm))]
    exact h2
  len := ok.len
  cell := fun i c e => by
    obtain ⟨v, e1, h⟩ := ok.cell i c e
    refine ⟨v, e1, ?_⟩
    cases c with
    | val d => exact Dp.mono (same_laid n.2.2.1) h
    | own ds =>
      obtain ⟨q, ws, rfl, h1, h2, h3, h4⟩ := h
      have hq : q ≠ p := fun z => n.2.2.2.2 i _ e rfl (by rw [e1, z])
      exact ⟨q, ws, rfl, h1, by rw [upd_ne hq]; exact h2, h3, DpAll.mono (same_laid n.2.2.1) h4⟩
    | loan m ds =>
      obtain ⟨q, ws, rfl, h1, h2, h3, h4⟩ := h
      have hq : q ≠ p := fun z => n.2.2.2.2 i _ e rfl (by rw [e1, z])
      exact ⟨q, ws, rfl, h1, by rw [upd_ne hq]; exact h2, h3, DpAll.mono (same_laid n.2.2.1) h4⟩
    | ownD kds =>
      obtain ⟨q, ob, ks, rfl, h1, h2, h3, h4⟩ := h
      have hq : q ≠ p := fun z => n.2.2.2.2 i _ e rfl (by rw [e1, z])
      exact ⟨q, ob, ks, rfl, h1, by rw [upd_ne hq]; exact h2, h3, DpKs.mono (same_laid n.2.2.1) h4⟩
    | tag m => exact h
    | fre d => exact DpN.mono (same_laid n.2.2.1) h
    | ownF ds =>
      obtain ⟨q, ws, rfl, h1, h2, h3, h4⟩ := h
      have hq : q ≠ p := fun z => n.2.2.2.2 i _ e rfl (by rw [e1, z])
      exact ⟨q, ws, rfl, h1, by rw [upd_ne hq]; exact h2, h3, DpNAll.mono (same_laid n.2.2.1) h4⟩
  dis := ok.dis
  tabs := ok.tabs.step (same_laid n.2.2.1) fun a ps _ e => e
theorem New.freeze {p : Addr} {vs : List V} (ok : Ok K C G H σ r) (n : New K C G H σ r p vs) : Ok K C (upd G p (.lst vs)) H σ r := NewX.freeze ok n
theorem Ok.ne_of_fresh {p : Addr} (ok : Ok K C G H σ r) (n : H p = Option.none) {i : Nat} {c : Cell} (e : r[i]? = some (some c)) (o : c.isOwn = true) : σ[i]? ≠ some (some (.ref p)) := by
  obtain ⟨v, e1, h⟩ := ok.cell i c e
  intro z
  rw [e1] at z; cases z
  cases c with
  | val d => cases o
  | own ds =>
    obtain ⟨q, ws, e2, h1, h2, h3, h4⟩ := h
    cases e2
    rw [h3] at n; cases n
  | loan m ds =>
    obtain ⟨q, ws, e2, h1, h2, h3, h4⟩ := h
    cases e2
    rw [h3] at n; cases n
  | ownD kds =>
    obtain ⟨q, ob, ks, e2, h1, h2, h3, h4⟩ := h
    cases e2
    rw [h3] at n; cases n
  | tag m => cases o
  | fre d => cases o
  | ownF ds =>
    obtain ⟨q, ws, e2, h1, h2, h3, h4⟩ := h
    cases e2
    rw [h3] at n; cases n
/-- a list just made -/
theorem Ok.newX {p : Addr} {o : HO} (ok : Ok K C G H σ r) (n : H p = Option.none) : Ok K C G (upd H p o) σ r ∧ NewX K C G (upd H p o) σ r p o :=
  ⟨ok.made n, (ok.fresh n).1, (ok.fresh n).2.1, (ok.fresh n).2.2, upd_same, fun i c e o => ok.ne_of_fresh n e o⟩
theorem Ok.newList {p : Addr} {vs : List V} (ok : Ok K C G H σ r) (n : H p = Option.none) : Ok K C G (upd H p (.lst vs)) σ r ∧ New K C G (upd H p (.lst vs)) σ r p vs := ok.newX n
end
section
variable {X : Cx} {e a b : Expr} {es : List Expr} {f fa fb : FE} {g : FA} {pu p q : Bool} {pos : Pos}
theorem sp_of (h : SE X pu e f) : SP X pu e f := PE.weak h fun σ H Q ⟨C, G, r, d, r', ok, hf, k⟩ => ⟨C, G, r, d, r', ok, hf, fun v G' H' o s m x => k v G' H' o s m (.inl x)⟩
def fL (g : FA) : FE := fun r => (g r).map fun p => (.list p.1, p.2)
@[simp] theorem fL_r (g : FA) (r : Ev) : fL g r = (g r).map fun p => (.list p.1, p.2) := rfl
theorem se_of_new (h : SL X pu e g) : SE X pu e (fL g) := PE.weak h fun σ H Q ⟨C, G, r, d, r', ok, hf, k⟩ => by
  unfold fL at hf
  cases hg : g r with
  | none => rw [hg] at hf; cases hf
  | some z =>
    obtain ⟨ds, r1⟩ := z
    rw [hg] at hf
    cases hf
    refine ⟨C, G, r, ds, r1, ok, hg, fun p vs G' H' o s m n x => ?_⟩
    refine k _ (upd G' p (.lst vs)) H' (n.freeze o) (s.trans (same_laid n.2.2.1)) m (.lst (.inl (.inl upd_same)) (DpAll.mono (same_laid n.2.2.1) x))
/-! ### constants and names -/
def fC (d : D) : FE := fun r => some (d, r)
@[simp] theorem fC_r (d : D) (r : Ev) : fC d r = some (d, r) := rfl
theorem se_int {i : Int} {j} : SE X true (.Constant (.int i) j pos) (fC (.int i)) := PE.weak pe_int fun σ H Q ⟨C, G, r, d, r', ok, hf, k⟩ => by cases hf; exact k _ G H ok (Same.refl _) (fun _ => Same.refl _) (.int i)
theorem se_bool {i : Bool} {j} : SE X true (.Constant (.bool i) j pos) (fC (.bool i)) := PE.weak pe_bl fun σ H Q ⟨C, G, r, d, r', ok, hf, k⟩ => by cases hf; exact k _ G H ok (Same.refl _) (fun _ => Same.refl _) (.bl i)
theorem se_none {j} : SE X true (.Constant .none j pos) (fC .none) := PE.weak pe_non fun σ H Q ⟨C, G, r, d, r', ok, hf, k⟩ => by cases hf; exact k _ G H ok (Same.refl _) (fun _ => Same.refl _) .non
theorem se_str {x : Str} {j} : SE X true (.Constant (.str x) j pos) (fC (.str x)) := PE.weak pe_str fun σ H Q ⟨C, G, r, d, r', ok, hf, k⟩ => by cases hf; exact k _ G H ok (Same.refl _) (fun _ => Same.refl _) (.str x)
def fV (i : Nat) : FE := fun r => match r[i]? with
  | some (some (.val d)) => some (d, r)
  | some (some (.own ds)) => some (.list ds, r.set i (some (.val (.list ds))))
  | some (some (.ownD kds)) => some (.dict kds, r.set i (some (.val (.dict kds))))
  | some (some (.fre d)) => some (d, r)
  | some (some (.ownF ds)) => some (.list ds, r.set i (some (.fre (.list ds))))
  | _ => none
@[simp] theorem fV_r (i : Nat) (r : Ev) : fV i r = match r[i]? with
  | some (some (.val d)) => some (d, r)
  | some (some (.own ds)) => some (.list ds, r.set i (some (.val (.list ds))))
  | some (some (.ownD kds)) => some (.dict kds, r.set i (some (.val (.dict kds))))
  | some (some (.fre d)) => some (d, r)
  | some (some (.ownF ds)) => some (.list ds, r.set i (some (.fre (.list ds))))
  | _ => none := rfl
/-- looked at, not handed on -/
def fVp (i : Nat) : FE := fun r => match r[i]? with
  | some (some (.val d)) => some (d, r)
  | some (some (.own ds)) => some (.list ds, r)
  | some (some (.loan _ ds)) => some (.list ds, r)
  | some (some (.fre d)) => some (d, r)
  | some (some (.ownF ds)) => some (.list ds, r)
  | _ => none
@[simp] theorem fVp_r (i : Nat) (r : Ev) : fVp i r = match r[i]? with
  | some (some (.val d)) => some (d, r)
  | some (some (.own ds)) => some (.list ds, r)
  | some (some (.loan _ ds)) => some (.list ds, r)
  | some (some (.fre d)) => some (d, r)
  | some (some (.ownF ds)) => some (.list ds, r)
  | _ => none := rfl
theorem Ok.freezeC {K : PySem.W.Frag} {C : Ctx} {G H : Hp} {σ : L2.St} {r : Ev} {i : Nat} {c0 : Cell} {dd : D} {p : Addr} {ob : HO} (ok : Ok K C G H σ r) (e : r[i]? = some (some c0)) (oc : c0.isOwn = true) (e1 : σ[i]? = some (some (.ref p))) (h1 : C.P p = none ∧ p ∉ C.M) (h2 : G p = none)
    (h3 : H p = some ob) (dp : Dp K (upd G p ob) (.ref p) dd) (cc : Cell) (occ : cc.isOwn = false) (hcc : CellOk K C (upd G p ob) H (.ref p) cc) : Ok K C (upd G p ob) H σ (r.set i (some cc)) ∧ Same G (upd G p ob) ∧ Dp K (upd G p ob) (.ref p) dd := by
  have sm : Same G (upd G p ob) := same_laid h2
  have hi : i < r.length := (List.getElem?_eq_some_iff.mp e).1
  refine ⟨⟨fun a u q => ?_, ok.g0.trans sm, fun a o q => ?_, ok.prot, fun a hm => ?_, by rw [List.length_set]; exact ok.len, fun j c q => ?_, fun j k c c' q1 q2 o1 o2 => ?_, ok.tabs.step sm fun a ps _ e => e⟩, sm, dp⟩
  · by_cases h : a = p
    · subst h; rw [upd_same] at q; cases q; exact h3
    · rw [upd_ne h] at q; exact ok.sub _ _ q
  · by_cases h : a = p
    · subst h; exact .inr h1.1
    · rw [upd_ne h] at q; exact ok.gnew _ _ q
  · obtain ⟨m1, m2⟩ := ok.mreal a hm
    refine ⟨m1, ?_⟩
    by_cases h : a = p
    · subst h; exact absurd hm h1.2
    · rw [upd_ne h]; exact m2
  · by_cases h : j = i
    · subst h
      rw [List.getElem?_set_self hi] at q
      cases q
      exact ⟨_, e1, hcc⟩
    · rw [List.getElem?_set_ne (Ne.symm h)] at q
      obtain ⟨v, e2, hc⟩ := ok.cell j c q
      refine ⟨v, e2, ?_⟩
      cases c with
      | val d => exact Dp.mono sm hc
      | own es =>
        obtain ⟨x, ws, rfl, g1, g2, g3, g4⟩ := hc
        have hx : x ≠ p := fun z => h (ok.dis j i _ _ q e rfl oc (by rw [e2, e1, z]))
        exact ⟨x, ws, rfl, g1, by rw [upd_ne hx]; exact g2, g3, DpAll.mono sm g4⟩
      | loan m es =>
        obtain ⟨x, ws, rfl, g1, g2, g3, g4⟩ := hc
        have hx : x ≠ p := fun z => h (ok.dis j i _ _ q e rfl oc (by rw [e2, e1, z]))
        exact ⟨x, ws, rfl, g1, by rw [upd_ne hx]; exact g2, g3, DpAll.mono sm g4⟩
      | ownD kds' =>
        obtain ⟨x, ob, ks, rfl, g1, g2, g3, g4⟩ := hc
        have hx : x ≠ p := fun z => h (ok.dis j i _ _ q e rfl oc (by rw [e2, e1, z]))
        exact ⟨x, ob, ks, rfl, g1, by rw [upd_ne hx]; exact g2, g3, DpKs.mono sm g4⟩
      | tag m => exact hc
      | fre d => exact DpN.mono sm hc
      | ownF es =>
        obtain ⟨x, ws, rfl, g1, g2, g3, g4⟩ := hc
        have hx : x ≠ p := fun z => h (ok.dis j i _ _ q e rfl oc (by rw [e2, e1, z]))
        exact ⟨x, ws, rfl, g1, by rw [upd_ne hx]; exact g2, g3, DpNAll.mono sm g4⟩
  · have n : ∀ (x : Nat) (c : Cell), (r.set i (some cc))[x]? = some (some c) → c.isOwn = true → r[x]? = some (some c) := fun x c q o => by
      by_cases h : x = i
      · subst h
        rw [List.getElem?_set_self hi] at q
        cases q; rw [occ] at o; cases o
      · rw [List.getElem?_set_ne (Ne.symm h)] at q; exact q
    exact ok.dis j k c c' (n j c q1 o1) (n k c' q2 o2) o1 o2
theorem Ok.freezeX {K : PySem.W.Frag} {C : Ctx} {G H : Hp} {σ : L2.St} {r : Ev} {i : Nat} {c0 : Cell} {dd : D} {p : Addr} {ob : HO} (ok : Ok K C G H σ r) (e : r[i]? = some (some c0)) (oc : c0.isOwn = true) (e1 : σ[i]? = some (some (.ref p))) (h1 : C.P p = none ∧ p ∉ C.M) (h2 : G p = none)
    (h3 : H p = some ob) (dp : Dp K (upd G p ob) (.ref p) dd) : Ok K C (upd G p ob) H σ (r.set i (some (.val dd))) ∧ Same G (upd G p ob) ∧ Dp K (upd G p ob) (.ref p) dd := ok.freezeC e oc e1 h1 h2 h3 dp (.val dd) rfl dp
theorem Ok.freeze {K : PySem.W.Frag} {C : Ctx} {G H : Hp} {σ : L2.St} {r : Ev} {i : Nat} {ds : List D} {p : Addr} {vs : List V} (ok : Ok K C G H σ r) (e : r[i]? = some (some (.own ds))) (e1 : σ[i]? = some (some (.ref p))) (h1 : C.P p = none ∧ p ∉ C.M) (h2 : G p = none)
    (h3 : H p = some (.lst vs)) (h4 : DpAll K G vs ds) : Ok K C (upd G p (.lst vs)) H σ (r.set i (some (.val (.list ds)))) ∧ Same G (upd G p (.lst vs)) ∧ Dp K (upd G p (.lst vs)) (.ref p) (.list ds) :=
  ok.freezeX e rfl e1 h1 h2 h3 (.lst (.inl (.inl upd_same)) (DpAll.mono (same_laid h2) h4))
theorem Ok.freezeD {K : PySem.W.Frag} {C : Ctx} {G H : Hp} {σ : L2.St} {r : Ev} {i : Nat} {kds : List (D × D)} {p : Addr} {o : Obj} {ks : List KE3} (ok : Ok K C G H σ r) (e : r[i]? = some (some (.ownD kds))) (e1 : σ[i]? = some (some (.ref p))) (h1 : C.P p = none ∧ p ∉ C.M) (h2 : G p = none)
    (h3 : H p = some (DicO p o ks)) (h4 : DpKs K G ks kds) : Ok K C (upd G p (DicO p o ks)) H σ (r.set i (some (.val (.dict kds)))) ∧ Same G (upd G p (DicO p o ks)) ∧ Dp K (upd G p (DicO p o ks)) (.ref p) (.dict kds) :=
  ok.freezeX e rfl e1 h1 h2 h3 (.dic upd_same (DpKs.mono (same_laid h2) h4))
theorem Ok.freezeF {K : PySem.W.Frag} {C : Ctx} {G H : Hp} {σ : L2.St} {r : Ev} {i : Nat} {ds : List D} {p : Addr} {vs : List V} (ok : Ok K C G H σ r) (e : r[i]? = some (some (.ownF ds))) (e1 : σ[i]? = some (some (.ref p))) (h1 : C.P p = none ∧ p ∉ C.M) (h2 : G p = none)
    (h3 : H p = some (.lst vs)) (h4 : DpNAll K C.P G vs ds) : Ok K C (upd G p (.lst vs)) H σ (r.set i (some (.fre (.list ds)))) ∧ Same G (upd G p (.lst vs)) ∧ DpN K C.P (upd G p (.lst vs)) (.ref p) (.list ds) := by
  have dn : DpN K C.P (upd G p (.lst vs)) (.ref p) (.list ds) := .lst upd_same h1.1 (DpNAll.mono (same_laid h2) h4)
  obtain ⟨a, b, _⟩ := ok.freezeC (dd := .list ds) e rfl e1 h1 h2 h3 dn.dp (.fre (.list ds)) rfl dn
  exact ⟨a, b, dn⟩
end
end SL
namespace SL
open PySem PySem.Spec PyProof.Rows L2
variable [TBL]
section
variable {X : Cx} {e a b : Expr} {es : List Expr} {f fa fb : FE} {g : FA} {pu p q : Bool} {pos : Pos}
theorem se_var (i : Nat) {x : Str} (hN : X.N[i]? = some x := by rfl) (hv : Vis X.env.scope x := by first | exact Or.inl rfl | exact Or.inr (Or.inl rfl) | exact Or.inr (Or.inr rfl)) (hd : (x == ("__debug__" : Str)) = false := by decide)
    (hcd : (x == ("__classdict__" : Str)) = false := by decide) : SE X true (.Name x pos) (fV i) := PE.weak (pe_var hN hv hd hcd) fun σ H Q ⟨C, G, r, d, r', ok, hf, k⟩ => by
  unfold fV at hf
  split at hf
  · rename_i d' e
    cases hf
    obtain ⟨v, e1, h⟩ := ok.cell i _ e
    exact ⟨v, e1, k v G H ok (Same.refl _) (fun _ => Same.refl _) h⟩
  · rename_i ds e
    cases hf
    obtain ⟨v, e1, p, vs, rfl, h1, h2, h3, h4⟩ := ok.cell i _ e
    obtain ⟨o1, o2, o3⟩ := ok.freeze e e1 h1 h2 h3 h4
    exact ⟨_, e1, k _ _ H o1 o2 (fun _ => Same.refl _) o3⟩
  · rename_i kds e
    cases hf
    obtain ⟨v, e1, p, o, ks, rfl, h1, h2, h3, h4⟩ := ok.cell i _ e
    obtain ⟨o1, o2, o3⟩ := ok.freezeD e e1 h1 h2 h3 h4
    exact ⟨_, e1, k _ _ H o1 o2 (fun _ => Same.refl _) o3⟩
  · rename_i d' e
    cases hf
    obtain ⟨v, e1, h⟩ := ok.cell i _ e
    exact ⟨v, e1, k v G H ok (Same.refl _) (fun _ => Same.refl _) (DpN.dp h)⟩
  · rename_i ds e
    cases hf
    obtain ⟨v, e1, p, vs, rfl, h1, h2, h3, h4⟩ := ok.cell i _ e
    obtain ⟨o1, o2, o3⟩ := ok.freezeF e e1 h1 h2 h3 h4
    exact ⟨_, e1, k _ _ H o1 o2 (fun _ => Same.refl _) o3.dp⟩
  · cases hf
theorem sp_var (i : Nat) {x : Str} (hN : X.N[i]? = some x := by rfl) (hv : Vis X.env.scope x := by first | exact Or.inl rfl | exact Or.inr (Or.inl rfl) | exact Or.inr (Or.inr rfl)) (hd : (x == ("__debug__" : Str)) = false := by decide)
    (hcd : (x == ("__classdict__" : Str)) = false := by decide) : SP X true (.Name x pos) (fVp i) := PE.weak (pe_var hN hv hd hcd) fun σ H Q ⟨C, G, r, d, r', ok, hf, k⟩ => by
  unfold fVp at hf
  split at hf
  · rename_i d' e
    cases hf
    obtain ⟨v, e1, h⟩ := ok.cell i _ e
    exact ⟨v, e1, k v G H ok (Same.refl _) (fun _ => Same.refl _) (.inl h)⟩
  · rename_i ds e
    cases hf
    obtain ⟨v, e1, p, vs, rfl, h1, h2, h3, h4⟩ := ok.cell i _ e
    exact ⟨_, e1, k _ G H ok (Same.refl _) (fun _ => Same.refl _) (.inr ⟨p, vs, ds, rfl, rfl, h3, h4⟩)⟩
  · rename_i m ds e
    cases hf
    obtain ⟨v, e1, p, vs, rfl, h1, h2, h3, h4⟩ := ok.cell i _ e
    exact ⟨_, e1, k _ G H ok (Same.refl _) (fun _ => Same.refl _) (.inr ⟨p, vs, ds, rfl, rfl, h3, h4⟩)⟩
  · rename_i d' e
    cases hf
    obtain ⟨v, e1, h⟩ := ok.cell i _ e
    exact ⟨v, e1, k v G H ok (Same.refl _) (fun _ => Same.refl _) (.inl (DpN.dp h))⟩
  · rename_i ds e
    cases hf
    obtain ⟨v, e1, p, vs, rfl, h1, h2, h3, h4⟩ := ok.cell i _ e
    exact ⟨_, e1, k _ G H ok (Same.refl _) (fun _ => Same.refl _) (.inr ⟨p, vs, ds, rfl, rfl, h3, h4.dp⟩)⟩
  · cases hf
/-! ### rules by values -/
/-- what an operation may hand back: d, at a heap that is as before but for new things -/
def Back (K : PySem.W.Frag) (G H : Hp) (d : D) (Q : VK) : Prop := ∀ v G' H', Same G G' → Same H H' → Same G' H' → (∀ a o, G' a = some o → G a = some o ∨ H a = none) → Dp K G' v d → Q v H'
theorem Back.val {K : PySem.W.Frag} {G H : Hp} {d : D} {Q : VK} {v : V} (s : Same G H) (h : Back K G H d Q) (x : Dp K G v d) : Q v H := h v G H (Same.refl _) (Same.refl _) s (fun _ _ e => .inl e) x
theorem Back.lst {K : PySem.W.Frag} {G H : Hp} {ds : List D} {Q : VK} {p : Addr} {vs : List V} (s : Same G H) (h : Back K G H (.list ds) Q) (n : H p = none) (x : DpAll K G vs ds) : Q (.ref p) (upd H p (.lst vs)) := by
  have ng := s.free n
  refine h _ (upd G p (.lst vs)) _ (same_laid ng) (same_laid n) (fun a u e => ?_) (fun a u e => ?_) (.lst (.inl (.inl upd_same)) (DpAll.mono (same_laid ng) x))
  · by_cases h : a = p
    · subst h; rw [upd_same] at e ⊢; exact e
    · rw [upd_ne h] at e ⊢; exact s _ _ e
  · by_cases h : a = p
    · subst h; exact .inr n
    · rw [upd_ne h] at e; exact .inl e
theorem Back.tup {K : PySem.W.Frag} {G H : Hp} {ds : List D} {Q : VK} {p : Addr} {vs : List V} (s : Same G H) (h : Back K G H (.tuple ds) Q) (n : H p = none) (x : DpAll K G vs ds) : Q (.ref p) (upd H p (.tup vs)) := by
  have ng := s.free n
  refine h _ (upd G p (.tup vs)) _ (same_laid ng) (same_laid n) (fun a u e => ?_) (fun a u e => ?_) (.tup (.inl (.inl upd_same)) (DpAll.mono (same_laid ng) x))
  · by_cases h : a = p
    · subst h; rw [upd_same] at e ⊢; exact e
    · rw [upd_ne h] at e ⊢; exact s _ _ e
  · by_cases h : a = p
    · subst h; exact .inr n
    · rw [upd_ne h] at e; exact .inl e
/-- from what a caller knows to Back -/
theorem Ok.back {K : PySem.W.Frag} {C : Ctx} {G H : Hp} {σ : L2.St} {r : Ev} {d : D} {Q : VK} (ok : Ok K C G H σ r) (k : ∀ v G' H', Ok K C G' H' σ r → Same G G' → Same H H' → Dp K G' v d → Q v H') : Back K G H d Q :=
  fun v G' H' s m s' n x => k v G' H' (ok.calm s m s' n) s m x
def Op1 (K : PySem.W.Frag) (r : V → Hp → VK → Prop) (g : D → Option D) : Prop := ∀ G H x dx dz Q, Same G H → Pk K G H x dx → g dx = some dz → Back K G H dz Q → r x H Q
def Op2 (K : PySem.W.Frag) (r : R2) (g : D → D → Option D) : Prop := ∀ G H x y dx dy dz Q, Same G H → Pk K G H x dx → Pk K G H y dy → g dx dy = some dz → Back K G H dz Q → r x y H Q
def f1 (g : D → Option D) (a : FE) : FE := fun r => (a r).bind fun x => (g x.1).map fun z => (z, x.2)
@[simp] theorem f1_r (g : D → Option D) (a : FE) (r : Ev) : f1 g a r = (a r).bind fun x => (g x.1).map fun z => (z, x.2) := rfl
def f2 (g : D → D → Option D) (a b : FE) : FE := fun r => (a r).bind fun x => (b x.2).bind fun y => (g x.1 y.1).map fun z => (z, y.2)
@[simp] theorem f2_r (g : D → D → Option D) (a b : FE) (r : Ev) : f2 g a b r = (a r).bind fun x => (b x.2).bind fun y => (g x.1 y.1).map fun z => (z, y.2) := rfl
theorem f1_some {g : D → Option D} {a : FE} {r r' : Ev} {d : D} (h : f1 g a r = some (d, r')) : ∃ x, a r = some (x, r') ∧ g x = some d := by
  unfold f1 at h
  obtain ⟨⟨x, r1⟩, h1, h2⟩ := Option.bind_eq_some_iff.mp h
  obtain ⟨z, h3, h4⟩ := Option.map_eq_some_iff.mp h2
  cases h4
  exact ⟨x, h1, h3⟩
theorem f2_some {g : D → D → Option D} {a b : FE} {r r' : Ev} {d : D} (h : f2 g a b r = some (d, r')) : ∃ x r1 y, a r = some (x, r1) ∧ b r1 = some (y, r') ∧ g x y = some d := by
  unfold f2 at h
  obtain ⟨⟨x, r1⟩, h1, h2⟩ := Option.bind_eq_some_iff.mp h
  obtain ⟨⟨y, r2⟩, h3, h4⟩ := Option.bind_eq_some_iff.mp h2
  obtain ⟨z, h5, h6⟩ := Option.map_eq_some_iff.mp h4
  cases h6
  exact ⟨x, r1, y, h1, h3, h5⟩
theorem Op2.or {K : PySem.W.Frag} {r r' : R2} {g : D → D → Option D} (h : ∀ dx dy dz, g dx dy = some dz → (∀ G H x y Q, Same G H → Pk K G H x dx → Pk K G H y dy → Back K G H dz Q → r x y H Q) ∨ (∀ G H x y Q, Same G H → Pk K G H x dx → Pk K G H y dy → Back K G H dz Q → r' x y H Q)) :
    Op2 K (fun x y H Q => r x y H Q ∨ r' x y H Q) g := fun G H x y dx dy dz Q s hx hy e bk => by
  rcases h dx dy dz e with h | h
  · exact .inl (h G H x y Q s hx hy bk)
  · exact .inr (h G H x y Q s hx hy bk)
theorem and1 {p q : Bool} (h : (p && q) = true) : p = true := (Bool.and_eq_true_iff.mp h).1
theorem and2 {p q : Bool} (h : (p && q) = true) : q = true := (Bool.and_eq_true_iff.mp h).2
/-- the reading of two values: each handed on -/
theorem t_op2 {r : R2} {g : D → D → Option D} (o : Op2 X.K r g) {σ : L2.St} {H : Hp} {Q : VK} (h : tE X.K (p && q) (f2 g fa fb) σ H Q) : tOp r (tE X.K p fa) (tE X.K q fb) σ H Q := by
  obtain ⟨C, G, r0, d, r', ok, hf, k⟩ := h
  obtain ⟨x, r1, y, h1, h2, h3⟩ := f2_some hf
  refine ⟨C, G, r0, x, r1, ok, h1, fun v G1 H1 ok1 s1 m1 x1 => ⟨C, G1, r1, y, r', ok1, h2, fun w G2 H2 ok2 s2 m2 x2 => ?_⟩⟩
  refine o G2 H2 v w x y d Q ok2.sub (.inl (Dp.mono s2 x1)) (.inl x2) h3 (ok2.back fun v3 G3 H3 ok3 s3 m3 x3 => ?_)
  exact k v3 G3 H3 ok3 ((s1.trans s2).trans s3) (fun m => ((m1 (and1 m)).trans (m2 (and2 m))).trans m3) x3
/-- .. the first one only looked at -/
theorem t_op2p {r : R2} {g : D → D → Option D} (o : Op2 X.K r g) {σ : L2.St} {H : Hp} {Q : VK} (h : tE X.K p (f2 g fa fb) σ H Q) : tOp r (tP X.K p fa) (tP X.K true fb) σ H Q := by
  obtain ⟨C, G, r0, d, r', ok, hf, k⟩ := h
  obtain ⟨x, r1, y, h1, h2, h3⟩ := f2_some hf
  refine ⟨C, G, r0, x, r1, ok, h1, fun v G1 H1 ok1 s1 m1 x1 => ⟨C, G1, r1, y, r', ok1, h2, fun w G2 H2 ok2 s2 m2 x2 => ?_⟩⟩
  refine o G2 H2 v w x y d Q ok2.sub (x1.step s2 (m2 rfl)) x2 h3 (ok2.back fun v3 G3 H3 ok3 s3 m3 x3 => ?_)
  exact k v3 G3 H3 ok3 ((s1.trans s2).trans s3) (fun m => ((m1 m).trans (m2 rfl)).trans m3) x3
theorem t_op1 {r : V → Hp → VK → Prop} {g : D → Option D} (o : Op1 X.K r g) {σ : L2.St} {H : Hp} {Q : VK} (h : tE X.K p (f1 g fa) σ H Q) : tUn r (tP X.K p fa) σ H Q := by
  obtain ⟨C, G, r0, d, r', ok, hf, k⟩ := h
  obtain ⟨x, h1, h3⟩ := f1_some hf
  refine ⟨C, G, r0, x, r', ok, h1, fun v G1 H1 ok1 s1 m1 x1 => ?_⟩
  refine o G1 H1 v x d Q ok1.sub x1 h3 (ok1.back fun v3 G3 H3 ok3 s3 m3 x3 => ?_)
  exact k v3 G3 H3 ok3 (s1.trans s3) (fun m => (m1 m).trans m3) x3
/-- two values -/
theorem se_op2 {op : Operator} {r : R2} {g : D → D → Option D} (ho : OpR X (binaryOp op) r) (o : Op2 X.K r g) (ha : SE X p a fa) (hb : SE X q b fb) : SE X (p && q) (.BinOp a op b pos) (f2 g fa fb) :=
  PE.weak (pe_op ho ha hb) fun σ H Q h => t_op2 o h
theorem se_op1 {op : UnaryOp} {r : V → Hp → VK → Prop} {g : D → Option D} (ho : UnR X (unaryOp op) r) (o : Op1 X.K r g) (ha : SP X p a fa) : SE X p (.UnaryOp op a pos) (f1 g fa) :=
  PE.weak (pe_un ho ha) fun σ H Q h => t_op1 o h
/-- comparisons: as a value, as a test -/
theorem se_cmp {op : CmpOp} {r : R2} {g : D → D → Option D} (ho : OpR X (compareOp op) r) (o : Op2 X.K r g) (ha : SE X p a fa) (hb : SE X q b fb) (hm : behindInMarks op b = false) : SE X (p && q) (.Compare a [op] [b] pos) (f2 g fa fb) :=
  PE.weak (pe_cmpR ho ha hb hm) fun σ H Q h => t_op2 o h
/-- a test that a value answers -/
def gT (f : FE) : FT := fun r => match f r with
  | some (.bool b, r') => some (b, r')
  | _ => none
@[simp] theorem gT_r (f : FE) (r : Ev) : gT f r = match f r with
  | some (.bool b, r') => some (b, r')
  | _ => none := rfl
theorem gT_some {f : FE} {r r' : Ev} {b : Bool} (h : gT f r = some (b, r')) : f r = some (.bool b, r') := by
  unfold gT at h
  split at h
  · rename_i e; cases h; exact e
  · cases h
theorem t_bool {t : TE} {σ : L2.St} {H : Hp} {Q : Bool → Hp → Prop} (w : ∀ Q' : VK, tE X.K p f σ H Q' → t σ H Q') (h : tT X.K p (gT f) σ H Q) : t σ H (fun x H1 => ∃ c, x = .bl c ∧ Q c H1) := by
  obtain ⟨C, G, r0, d, r', ok, hf, k⟩ := h
  refine w _ ⟨C, G, r0, _, r', ok, gT_some hf, fun v G1 H1 ok1 s1 m1 x1 => ?_⟩
  cases x1
  exact ⟨d, rfl, k G1 H1 ok1 s1 m1⟩
theorem st_cmp {op : CmpOp} {r : R2} {g : D → D → Option D} (ho : OpR X (compareOp op) r) (o : Op2 X.K r g) (ha : SE X p a fa) (hb : SE X q b fb) (hm : behindInMarks op b = false) : ST X (p && q) (.Compare a [op] [b] pos) (gT (f2 g fa fb)) :=
  PT.weak (pt_cmpR ho ha hb hm) fun σ H Q h => t_bool (fun Q' => t_op2 o) h
theorem st_cmpp {op : CmpOp} {r : R2} {g : D → D → Option D} (ho : OpR X (compareOp op) r) (o : Op2 X.K r g) (ha : SP X p a fa) (hb : SP X true b fb) (hm : behindInMarks op b = false) : ST X p (.Compare a [op] [b] pos) (gT (f2 g fa fb)) :=
  PT.weak (pt_cmpR ho ha hb hm) fun σ H Q h => t_bool (fun Q' => t_op2p o) h
/-- not -/
def gNot (f : FT) : FT := fun r => (f r).map fun x => (!x.1, x.2)
@[simp] theorem gNot_r (f : FT) (r : Ev) : gNot f r = (f r).map fun x => (!x.1, x.2) := rfl
theorem st_not {fT : FT} (h : ST X p e fT) : ST X p (.UnaryOp .Not e pos) (gNot fT) := PT.weak (pt_not h) fun σ H Q ⟨C, G, r, d, r', ok, hf, k⟩ => by
  unfold gNot at hf
  obtain ⟨⟨c, r1⟩, h1, h2⟩ := Option.map_eq_some_iff.mp hf
  cases h2
  exact ⟨C, G, r, c, _, ok, h1, fun G' H' o s m => k G' H' o s m⟩
def gAnd (f g : FT) : FT := fun r => (f r).bind fun x => if x.1 = true then g x.2 else some (false, x.2)
@[simp] theorem gAnd_r (f g : FT) (r : Ev) : gAnd f g r = (f r).bind fun x => if x.1 = true then g x.2 else some (false, x.2) := rfl
def gOr (f g : FT) : FT := fun r => (f r).bind fun x => if x.1 = true then some (true, x.2) else g x.2
@[simp] theorem gOr_r (f g : FT) (r : Ev) : gOr f g r = (f r).bind fun x => if x.1 = true then some (true, x.2) else g x.2 := rfl
structure SW (X : Cx) (pu : Bool) (e : Expr) (f : FT) : Prop where
  w : PW X e (tT X.K pu f)
theorem PW.weak {X : Cx} {e : Expr} {t t' : TT} (h : PW X e t) (w : ∀ σ H Q, t' σ H Q → t σ H Q) : PW X e t' := ⟨fun wh pins s σ H Q I q => h.run wh pins s σ H Q I (w σ H Q q)⟩
theorem st_bool {f : FT} (h : SW X p e f) : ST X p e f := h.w.pt
section
variable {fT gT' : FT} {rest : List Expr}
theorem sw_and1 (h : ST X p a fT) : SW X p (.BoolOp .And [a] pos) fT := ⟨pw_and1 h⟩
theorem sw_or1 (h : ST X p a fT) : SW X p (.BoolOp .Or [a] pos) fT := ⟨pw_or1 h⟩
theorem sw_and (ha : ST X p a fT) (hb : SW X q (.BoolOp .And (b :: rest) pos) gT') : SW X (p && q) (.BoolOp .And (a :: b :: rest) pos) (gAnd fT gT') := ⟨PW.weak (pw_and ha hb.w) fun σ H Q ⟨C, G, r, d, r', ok, hf, k⟩ => by
  unfold gAnd at hf
  obtain ⟨⟨c, r1⟩, h1, h2⟩ := Option.bind_eq_some_iff.mp hf
  refine ⟨C, G, r, c, r1, ok, h1, fun G1 H1 o1 s1 m1 => ?_⟩
  cases c with
  | true =>
    rw [if_pos rfl] at h2 ⊢
    exact ⟨C, G1, r1, d, r', o1, h2, fun G2 H2 o2 s2 m2 => k G2 H2 o2 (s1.trans s2) fun m => (m1 (and1 m)).trans (m2 (and2 m))⟩
  | false =>
    rw [if_neg Bool.false_ne_true] at h2 ⊢
    cases h2
    exact k G1 H1 o1 s1 fun m => m1 (and1 m)⟩
theorem sw_or (ha : ST X p a fT) (hb : SW X q (.BoolOp .Or (b :: rest) pos) gT') : SW X (p && q) (.BoolOp .Or (a :: b :: rest) pos) (gOr fT gT') := ⟨PW.weak (pw_or ha hb.w) fun σ H Q ⟨C, G, r, d, r', ok, hf, k⟩ => by
  unfold gOr at hf
  obtain ⟨⟨c, r1⟩, h1, h2⟩ := Option.bind_eq_some_iff.mp hf
  refine ⟨C, G, r, c, r1, ok, h1, fun G1 H1 o1 s1 m1 => ?_⟩
  cases c with
  | true =>
    rw [if_pos rfl] at h2 ⊢
    cases h2
    exact k G1 H1 o1 s1 fun m => m1 (and1 m)
  | false =>
    rw [if_neg Bool.false_ne_true] at h2 ⊢
    exact ⟨C, G1, r1, d, r', o1, h2, fun G2 H2 o2 s2 m2 => k G2 H2 o2 (s1.trans s2) fun m => (m1 (and1 m)).trans (m2 (and2 m))⟩⟩
end
/-- and, or, not as values that are bools -/
def fAnd (a b : FE) : FE := fun r => (gT a r).bind fun x => if x.1 = true then b x.2 else some (.bool false, x.2)
@[simp] theorem fAnd_r (a b : FE) (r : Ev) : fAnd a b r = (gT a r).bind fun x => if x.1 = true then b x.2 else some (.bool false, x.2) := rfl
def fOr (a b : FE) : FE := fun r => (gT a r).bind fun x => if x.1 = true then some (.bool true, x.2) else b x.2
@[simp] theorem fOr_r (a b : FE) (r : Ev) : fOr a b r = (gT a r).bind fun x => if x.1 = true then some (.bool true, x.2) else b x.2 := rfl
def fNot (a : FE) : FE := fun r => (gT a r).map fun x => (.bool (!x.1), x.2)
@[simp] theorem fNot_r (a : FE) (r : Ev) : fNot a r = (gT a r).map fun x => (.bool (!x.1), x.2) := rfl
theorem se_one {op} (h : SE X p a fa) : SE X p (.BoolOp op [a] pos) fa := pe_one h
theorem se_and {rest : List Expr} (ha : SE X p a fa) (hb : SE X q (.BoolOp .And (b :: rest) pos) fb) : SE X (p && q) (.BoolOp .And (a :: b :: rest) pos) (fAnd fa fb) := PE.weak (pe_and ha hb) fun σ H Q ⟨C, G, r, d, r', ok, hf, k⟩ => by
  unfold fAnd at hf
  obtain ⟨⟨c, r1⟩, h1, h2⟩ := Option.bind_eq_some_iff.mp hf
  refine ⟨C, G, r, _, r1, ok, gT_some h1, fun v G1 H1 o1 s1 m1 x1 => ?_⟩
  cases x1
  refine ⟨c, rfl, ?_⟩
  cases c with
  | true =>
    rw [if_pos rfl] at h2 ⊢
    exact ⟨C, G1, r1, d, r', o1, h2, fun v2 G2 H2 o2 s2 m2 x2 => k v2 G2 H2 o2 (s1.trans s2) (fun m => (m1 (and1 m)).trans (m2 (and2 m))) x2⟩
  | false =>
    rw [if_neg Bool.false_ne_true] at h2 ⊢
    cases h2
    exact k _ G1 H1 o1 s1 (fun m => m1 (and1 m)) (.bl _)
theorem se_not (ha : SE X p a fa) : SE X p (.UnaryOp .Not a pos) (fNot fa) := PE.weak (pe_not ha) fun σ H Q ⟨C, G, r, d, r', ok, hf, k⟩ => by
  unfold fNot at hf
  obtain ⟨⟨c, r1⟩, h1, h2⟩ := Option.map_eq_some_iff.mp hf
  cases h2
  refine ⟨C, G, r, _, _, ok, gT_some h1, fun v G1 H1 o1 s1 m1 x1 => ?_⟩
  cases x1
  exact ⟨c, rfl, k _ G1 H1 o1 s1 m1 (.bl _)⟩
/-- a if t else b -/
def fIf (t : FT) (a b : FE) : FE := fun r => (t r).bind fun x => if x.1 = true then a x.2 else b x.2
@[simp] theorem fIf_r (t : FT) (a b : FE) (r : Ev) : fIf t a b r = (t r).bind fun x => if x.1 = true then a x.2 else b x.2 := rfl
/-! ### lists of arguments, displays -/
def aNil : FA := fun r => some ([], r)
@[simp] theorem aNil_r (r : Ev) : aNil r = some ([], r) := rfl
def aCons (a : FE) (g : FA) : FA := fun r => (a r).bind fun x => (g x.2).map fun y => (x.1 :: y.1, y.2)
@[simp] theorem aCons_r (a : FE) (g : FA) (r : Ev) : aCons a g r = (a r).bind fun x => (g x.2).map fun y => (x.1 :: y.1, y.2) := rfl
theorem aCons_some {a : FE} {g : FA} {r r' : Ev} {ds : List D} (h : aCons a g r = some (ds, r')) : ∃ x r1 xs, a r = some (x, r1) ∧ g r1 = some (xs, r') ∧ ds = x :: xs := by
  unfold aCons at h
  obtain ⟨⟨x, r1⟩, h1, h2⟩ := Option.bind_eq_some_iff.mp h
  obtain ⟨⟨xs, r2⟩, h3, h4⟩ := Option.map_eq_some_iff.mp h2
  cases h4
  exact ⟨x, r1, xs, h1, h3, rfl⟩
theorem sa_nil : SA X true [] aNil := PA.weak pa_nil fun σ H Q ⟨C, G, r, d, r', ok, hf, k⟩ => by
  cases hf
  exact k [] G H ok (Same.refl _) (fun _ => Same.refl _) .nil
theorem sa_cons (ha : SE X p e f) (hr : SA X q es g) (hs : starEach (e :: es) X.env = (false, eval e X.env) :: starEach es X.env := by rfl) : SA X (p && q) (e :: es) (aCons f g) := PA.weak (pa_cons ha hr hs) fun σ H Q ⟨C, G, r, d, r', ok, hf, k⟩ => by
  obtain ⟨x, r1, xs, h1, h2, rfl⟩ := aCons_some hf
  exact ⟨C, G, r, x, r1, ok, h1, fun v G1 H1 o1 s1 m1 x1 => ⟨C, G1, r1, xs, r', o1, h2, fun vs G2 H2 o2 s2 m2 x2 => k _ G2 H2 o2 (s1.trans s2) (fun m => (m1 (and1 m)).trans (m2 (and2 m))) (.cons (Dp.mono s2 x1) x2)⟩⟩
def fTup (g : FA) : FE := fun r => (g r).bind fun x => if x.1.length ≤ 1000 then some (.tuple x.1, x.2) else none
@[simp] theorem fTup_r (g : FA) (r : Ev) : fTup g r = (g r).bind fun x => if x.1.length ≤ 1000 then some (.tuple x.1, x.2) else none := rfl
theorem se_tup {k : Nat} (h : SA X p es g) : SE X p (.Tuple es k pos) (fTup g) := PE.weak (pe_tup h) fun σ H Q ⟨C, G, r, d, r', ok, hf, k⟩ => by
  unfold fTup at hf
  obtain ⟨⟨xs, r1⟩, h1, h2⟩ := Option.bind_eq_some_iff.mp hf
  split at h2
  · rename_i hz
    cases h2
    refine ⟨C, G, r, xs, _, ok, h1, fun vs G1 H1 o1 s1 m1 x1 => ⟨by rw [DpAll.length x1]; exact Nat.le_of_lt (small1000 hz), fun p hp => ?_⟩⟩
    exact Back.tup o1.sub (o1.back fun v3 G3 H3 ok3 s3 m3 x3 => k v3 G3 H3 ok3 (s1.trans s3) (fun m => (m1 m).trans m3) x3) hp x1
  · cases h2
def lDisp (g : FA) : FA := fun r => (g r).bind fun x => if x.1.length ≤ 1000 then some x else none
@[simp] theorem lDisp_r (g : FA) (r : Ev) : lDisp g r = (g r).bind fun x => if x.1.length ≤ 1000 then some x else none := rfl
theorem sl_list {k : Nat} (h : SA X p es g) : SL X p (.List es pos) (lDisp g) := PE.weak (pe_lst h) fun σ H Q ⟨C, G, r, d, r', ok, hf, k⟩ => by
  unfold lDisp at hf
  obtain ⟨⟨xs, r1⟩, h1, h2⟩ := Option.bind_eq_some_iff.mp hf
  split at h2
  · rename_i hz
    cases h2
    refine ⟨C, G, r, _, _, ok, h1, fun vs G1 H1 o1 s1 m1 x1 => ⟨by rw [DpAll.length x1]; exact Nat.le_of_lt (small1000 hz), fun p hp => ?_⟩⟩
    obtain ⟨o2, n⟩ := o1.newList (vs := vs) hp
    exact k p vs G1 _ o2 s1 (fun m => (m1 m).trans (same_laid hp)) n x1
  · cases h2
end
end SL
namespace SL
open PySem PySem.Spec PyProof.Rows L2
variable [TBL]
/-! ### operations on data -/
def isSmall (i : Int) : Bool := decide (-(2 ^ 64) < i) && decide (i < 2 ^ 64)
def addD : D → D → Option D
  | .int i, .int j => some (.int (i + j))
  | .str x, .str y => if x.length + y.length ≤ sizeLine then some (.str (x ++ y)) else none
  | .list xs, .list ys => if xs.length + ys.length ≤ sizeLine then some (.list (xs ++ ys)) else none
  | .tuple xs, .tuple ys => if xs.length + ys.length ≤ sizeLine then some (.tuple (xs ++ ys)) else none
  | _, _ => none
def subD : D → D → Option D
  | .int i, .int j => some (.int (i - j))
  | _, _ => none
def mulD : D → D → Option D
  | .int i, .int j => if isSmall i = true ∨ isSmall j = true then some (.int (i * j)) else none
  | _, _ => none
def divD : D → D → Option D
  | .int i, .int j => if j ≠ 0 ∧ j.natAbs < 1073741824 then some (.int (i.fdiv j)) else none
  | _, _ => none
def modD : D → D → Option D
  | .int i, .int j => if j ≠ 0 then some (.int (i.fmod j)) else none
  | _, _ => none
def powD : D → D → Option D
  | .int i, .int j => if 0 ≤ j ∧ j ≤ 1000000 ∧ i.natAbs < 2 ^ 64 then some (.int (i ^ j.toNat)) else none
  | _, _ => none
def negD : D → Option D
  | .int i => some (.int (-i))
  | _ => none
def ltD : D → D → Option D
  | .int i, .int j => some (.bool (decide (i < j)))
  | _, _ => none
def leD : D → D → Option D
  | .int i, .int j => some (.bool (decide (i ≤ j)))
  | _, _ => none
def gtD : D → D → Option D
  | .int i, .int j => some (.bool (decide (j < i)))
  | _, _ => none
def geD : D → D → Option D
  | .int i, .int j => some (.bool (decide (j ≤ i)))
  | _, _ => none
/-- data that == may be asked of -/
def shp (d : D) : Bool := SeqAt.shaped d
theorem shp_nd {d : D} (h : shp d = true) : d.hasDict = false := PyData.hasDict_of_canLay d (SeqAt.canLay_of_shaped h)
def eqD (x y : D) : Option D := if shp x = true ∧ shp y = true then some (.bool (PyData.eqv x y)) else none
def neD (x y : D) : Option D := if shp x = true ∧ shp y = true then some (.bool (!PyData.eqv x y)) else none
def isNoneD (x : D) : Bool := match x with
  | .none => true
  | _ => false
/-- is, is not: of None -/
def isD (x y : D) : Option D := match y with
  | .none => some (.bool (isNoneD x))
  | _ => none
def isNotD (x y : D) : Option D := match y with
  | .none => some (.bool (!isNoneD x))
  | _ => none
def inD (x y : D) : Option D := match y with
  | .list ds => if shp x = true ∧ shp y = true then some (.bool (ds.any fun z => PyData.eqv z x)) else none
  | .tuple ds => if shp x = true ∧ shp y = true then some (.bool (ds.any fun z => PyData.eqv z x)) else none
  | _ => none
def notInD (x y : D) : Option D := match y with
  | .list ds => if shp x = true ∧ shp y = true then some (.bool (!ds.any fun z => PyData.eqv z x)) else none
  | .tuple ds => if shp x = true ∧ shp y = true then some (.bool (!ds.any fun z => PyData.eqv z x)) else none
  | _ => none
def ixD (x y : D) : Option D := match x, y with
  | .list ds, .int i => atI ds i
  | .tuple ds, .int i => atI ds i
  | _, _ => none
section
variable {X : Cx} {K : PySem.W.Frag} {G H : Hp}
/-! ### their rules -/
theorem Pk.tupD {v : V} {ds : List D} (h : Pk K G H v (.tuple ds)) : Dp K G v (.tuple ds) := by
  rcases h with h | ⟨p, vs, ds', rfl, e, h1, h2⟩
  · exact h
  · cases e
theorem small_ok {i : Int} (h : isSmall i = true) : -(2 ^ 64) < i ∧ i < 2 ^ 64 := ⟨of_decide_eq_true (Bool.and_eq_true_iff.mp h).1, of_decide_eq_true (Bool.and_eq_true_iff.mp h).2⟩
/-- list + list, whatever they are -/
def rCatL (K : PySem.W.Frag) : R2 := fun x y H Q => ∃ l b xs zs, x = .ref l ∧ y = .ref b ∧ SqL K H l xs ∧ SqL K H b zs ∧ xs.length + zs.length ≤ sizeLine ∧ ∀ p, H p = none → Q (.ref p) (upd H p (.lst (xs ++ zs)))
theorem cat_anyL {A : Around} {prog : Program} {w : World} {E : Value → Shared → Prop} {s : Shared} {l b : Addr} {xs ys : List Value} {Q : Value → Shared → Prop} (h1 : PlainL s.heap l xs.toArray) (h2 : PlainL s.heap b ys.toArray) (hz : xs.length + ys.length ≤ sizeLine)
    (h : Q (.ref s.heap.objs.size) { s with heap := s.heap.push { cls := .type "list", data := .seq (xs ++ ys).toArray } }) : wpAny (model prog w) A (binaryOp .Add (.ref l) (.ref b)) Q E s := by
  obtain ⟨⟨c1, d1, t1, k1⟩, n1, g1, g2, g3, g4⟩ := h1
  obtain ⟨⟨c2, d2, t2, k2⟩, n2, e1, e2, e3, e4⟩ := h2
  simp only at g2 g3 g4 e2 e3 e4
  subst g2 g3 g4 e2 e3 e4
  have e : xs.toArray ++ ys.toArray = (xs ++ ys).toArray := by simp
  rw [← e] at h
  exact concat_meets ⟨_, g1, rfl⟩ ⟨_, e1, rfl⟩ noFill_list_add seq_list_add F.slot_list_add F.entry_list_add (F.args_list_add_2 _ _)
    (list_addW l b xs.toArray ys.toArray n1 n2 none none k1 k2 (by simpa using hz)) ⟨g1, e1, h⟩
theorem op_catL : OpR X (binaryOp .Add) (rCatL X.K) := by
  intro pins s σ H x y v u Q I rx ry h
  obtain ⟨l, b, xs, zs, rfl, rfl, hH, hB, hz, q⟩ := h
  cases rx; cases ry
  obtain ⟨its, r, pl, z⟩ := I.list hH
  obtain ⟨its2, r2, pl2, z2⟩ := I.list hB
  have lx := r.length
  have ly := r2.length
  refine cat_anyL pl pl2 (by omega) ?_
  exact ⟨.ref _, _, I.lnew (t' := s.toks) (r.append r2) (by rw [List.length_append]; omega), rfl, q _ I.fresh⟩
/-- a + b -/
def rAddD (K : PySem.W.Frag) : R2 := fun x y H Q => (∃ i j, x = .int i ∧ y = .int j ∧ Q (.int (i + j)) H) ∨ (∃ i j, x = .str i ∧ y = .str j ∧ i.length + j.length ≤ sizeLine ∧ Q (.str (i ++ j)) H) ∨ rCatL K x y H Q ∨ rCatA K x y H Q
theorem op_addD : OpR X (binaryOp .Add) (rAddD X.K) := OpR.or op_add (OpR.or op_add_str (OpR.or op_catL op_catA))
theorem o_add : Op2 K (rAddD K) addD := fun G H x y dx dy dz Q s hx hy e bk => by
  unfold addD at e
  split at e
  · cases e; exact .inl ⟨_, _, hx.int, hy.int, bk.val s (.int _)⟩
  · split at e
    · cases e; exact .inr (.inl ⟨_, _, hx.str, hy.str, by assumption, bk.val s (.str _)⟩)
    · cases e
  · split at e
    · rename_i hz
      cases e
      obtain ⟨p, vs, rfl, h1, h2⟩ := hx.list s
      obtain ⟨q, ws, rfl, h3, h4⟩ := hy.list s
      exact .inr (.inr (.inl ⟨p, q, vs, ws, rfl, rfl, h1, h3, by rw [DpAll.length h2, DpAll.length h4]; exact hz, fun a na => Back.lst s bk na (DpAll.append h2 h4)⟩))
    · cases e
  · split at e
    · rename_i hz
      cases e
      obtain ⟨p, vs, rfl, h1, h2⟩ := hx.tuple s
      obtain ⟨q, ws, rfl, h3, h4⟩ := hy.tuple s
      refine .inr (.inr (.inr ⟨p, q, vs, ws, rfl, rfl, h1, h3, by rw [DpAll.length h2, DpAll.length h4]; exact hz, fun z => ?_, fun _ z => ?_, fun _ _ a na => Back.tup s bk na (DpAll.append h2 h4)⟩))
      · subst z
        have e0 := DpAll.length h2
        rename_i xs _
        cases xs with
        | nil => exact bk.val s hy.tupD
        | cons _ _ => cases e0
      · subst z
        have e0 := DpAll.length h4
        rename_i ys _
        cases ys with
        | nil => rw [List.append_nil] at bk; exact bk.val s hx.tupD
        | cons _ _ => cases e0
    · cases e
  · cases e
theorem o_sub : Op2 K (rI0 fun i j => .int (i - j)) subD := fun G H x y dx dy dz Q s hx hy e bk => by
  unfold subD at e
  split at e
  · cases e; exact ⟨_, _, hx.int, hy.int, bk.val s (.int _)⟩
  · cases e
/-- a * b: numbers; a list so many times -/
theorem o_mul : Op2 K (rI CMul fun i j => .int (i * j)) mulD := fun G H x y dx dy dz Q s hx hy e bk => by
  unfold mulD at e
  split at e
  · split at e
    · rename_i h
      cases e
      exact ⟨_, _, hx.int, hy.int, h.elim (fun h => .inl (small_ok h)) (fun h => .inr (small_ok h)), bk.val s (.int _)⟩
    · cases e
  · cases e
theorem o_div : Op2 K (rI CDivN fun i j => .int (i.fdiv j)) divD := fun G H x y dx dy dz Q s hx hy e bk => by
  unfold divD at e
  split at e
  · split at e
    · rename_i h
      cases e
      exact ⟨_, _, hx.int, hy.int, h, bk.val s (.int _)⟩
    · cases e
  · cases e
theorem o_mod : Op2 K (rI (fun _ j => j ≠ 0) fun i j => .int (i.fmod j)) modD := fun G H x y dx dy dz Q s hx hy e bk => by
  unfold modD at e
  split at e
  · split at e
    · rename_i h
      cases e
      exact ⟨_, _, hx.int, hy.int, h, bk.val s (.int _)⟩
    · cases e
  · cases e
theorem o_pow : Op2 K (rI CPow fun i j => .int (i ^ j.toNat)) powD := fun G H x y dx dy dz Q s hx hy e bk => by
  unfold powD at e
  split at e
  · split at e
    · rename_i h
      cases e
      exact ⟨_, _, hx.int, hy.int, h, bk.val s (.int _)⟩
    · cases e
  · cases e
theorem o_neg : Op1 K (rU fun i => .int (-i)) negD := fun G H x dx dz Q s hx e bk => by
  unfold negD at e
  split at e
  · cases e; exact ⟨_, hx.int, bk.val s (.int _)⟩
  · cases e
theorem o_lt : Op2 K (rI0 fun i j => .bl (decide (i < j))) ltD := fun G H x y dx dy dz Q s hx hy e bk => by
  unfold ltD at e
  split at e
  · cases e; exact ⟨_, _, hx.int, hy.int, bk.val s (.bl _)⟩
  · cases e
theorem o_le : Op2 K (rI0 fun i j => .bl (decide (i ≤ j))) leD := fun G H x y dx dy dz Q s hx hy e bk => by
  unfold leD at e
  split at e
  · cases e; exact ⟨_, _, hx.int, hy.int, bk.val s (.bl _)⟩
  · cases e
theorem o_gt : Op2 K (rI0 fun i j => .bl (decide (j < i))) gtD := fun G H x y dx dy dz Q s hx hy e bk => by
  unfold gtD at e
  split at e
  · cases e; exact ⟨_, _, hx.int, hy.int, bk.val s (.bl _)⟩
  · cases e
theorem o_ge : Op2 K (rI0 fun i j => .bl (decide (j ≤ i))) geD := fun G H x y dx dy dz Q s hx hy e bk => by
  unfold geD at e
  split at e
  · cases e; exact ⟨_, _, hx.int, hy.int, bk.val s (.bl _)⟩
  · cases e
theorem o_eq : Op2 K (rEqD K) eqD := fun G H x y dx dy dz Q s hx hy e bk => by
  unfold eqD at e
  split at e
  · rename_i h
    cases e
    exact ⟨_, _, (hx.full s).toL (shp_nd h.1), (hy.full s).toL (shp_nd h.2), h.1, h.2, bk.val s (.bl _)⟩
  · cases e
theorem o_ne : Op2 K (rNeD K) neD := fun G H x y dx dy dz Q s hx hy e bk => by
  unfold neD at e
  split at e
  · rename_i h
    cases e
    exact ⟨_, _, (hx.full s).toL (shp_nd h.1), (hy.full s).toL (shp_nd h.2), h.1, h.2, bk.val s (.bl _)⟩
  · cases e
theorem Pk.isNone {v : V} {d : D} (h : Pk K G H v d) : decide (v = .non) = isNoneD d := by
  rcases h with h | ⟨p, vs, ds', rfl, rfl, h1, h2⟩
  · cases h <;> rfl
  · rfl
theorem o_is : Op2 K (fun x y H Q => y = .non ∧ Q (.bl (decide (x = .non))) H) isD := fun G H x y dx dy dz Q s hx hy e bk => by
  unfold isD at e
  split at e
  · cases e
    refine ⟨hy.none, ?_⟩
    rw [hx.isNone]
    exact bk.val s (.bl _)
  · cases e
end
end SL
namespace SL
open PySem PySem.Spec PyProof.Rows L2
variable [TBL]
section
variable {X : Cx} {K : PySem.W.Frag} {G H : Hp}
/-- x in y, not in: a list or a tuple of data -/
def rInB (K : PySem.W.Frag) (neg : Bool) : R2 := fun x y H Q => ∃ d ds, Dp K H x d ∧ (Dp K H y (.list ds) ∧ shp (.list ds) = true ∨ Dp K H y (.tuple ds) ∧ shp (.tuple ds) = true) ∧ shp d = true ∧ Q (.bl (if neg then !ds.any fun z => PyData.eqv z d else ds.any fun z => PyData.eqv z d)) H
theorem op_inB (hu : X.A.units + 65 < cLine) : OpR X (compareOp .In) (rInB X.K false) := by
  rintro pins s σ H x y v u Q I rx ry ⟨d, ds, hd, he, sd, q⟩
  obtain ⟨as, r1⟩ := L2.Dp.reads I d x v (hd.toL (shp_nd sd)) rx
  rcases he with ⟨he, se⟩ | ⟨he, se⟩
  · obtain ⟨bs, r2⟩ := L2.Dp.reads I (.list ds) y u (he.toL (shp_nd se)) ry
    exact SeqAt.in_list_reads r2 r1 (SeqAt.canLay_of_shaped se) (SeqAt.canLay_of_shaped sd) (room_in_shaped sd hu) ⟨.bl _, H, I, rfl, q⟩
  · obtain ⟨bs, r2⟩ := L2.Dp.reads I (.tuple ds) y u (he.toL (shp_nd se)) ry
    exact SeqAt.in_tuple_reads r2 r1 (SeqAt.canLay_of_shaped se) (SeqAt.canLay_of_shaped sd) (room_in_shaped sd hu) ⟨.bl _, H, I, rfl, q⟩
theorem op_notInB (hu : X.A.units + 65 < cLine) : OpR X (compareOp .NotIn) (rInB X.K true) := by
  rintro pins s σ H x y v u Q I rx ry ⟨d, ds, hd, he, sd, q⟩
  obtain ⟨as, r1⟩ := L2.Dp.reads I d x v (hd.toL (shp_nd sd)) rx
  rcases he with ⟨he, se⟩ | ⟨he, se⟩
  · obtain ⟨bs, r2⟩ := L2.Dp.reads I (.list ds) y u (he.toL (shp_nd se)) ry
    exact SeqAt.notIn_list_reads r2 r1 (SeqAt.canLay_of_shaped se) (SeqAt.canLay_of_shaped sd) (room_in_shaped sd hu) ⟨.bl _, H, I, rfl, q⟩
  · obtain ⟨bs, r2⟩ := L2.Dp.reads I (.tuple ds) y u (he.toL (shp_nd se)) ry
    exact SeqAt.notIn_tuple_reads r2 r1 (SeqAt.canLay_of_shaped se) (SeqAt.canLay_of_shaped sd) (room_in_shaped sd hu) ⟨.bl _, H, I, rfl, q⟩
theorem o_in : Op2 K (rInB K false) inD := fun G H x y dx dy dz Q s hx hy e bk => by
  unfold inD at e
  split at e
  · split at e
    · rename_i h
      cases e
      exact ⟨_, _, hx.full s, .inl ⟨hy.full s, h.2⟩, h.1, bk.val s (.bl _)⟩
    · cases e
  · split at e
    · rename_i h
      cases e
      exact ⟨_, _, hx.full s, .inr ⟨hy.full s, h.2⟩, h.1, bk.val s (.bl _)⟩
    · cases e
  · cases e
theorem o_notIn : Op2 K (rInB K true) notInD := fun G H x y dx dy dz Q s hx hy e bk => by
  unfold notInD at e
  split at e
  · split at e
    · rename_i h
      cases e
      exact ⟨_, _, hx.full s, .inl ⟨hy.full s, h.2⟩, h.1, bk.val s (.bl _)⟩
    · cases e
  · split at e
    · rename_i h
      cases e
      exact ⟨_, _, hx.full s, .inr ⟨hy.full s, h.2⟩, h.1, bk.val s (.bl _)⟩
    · cases e
  · cases e
/-! ### subscripts -/
theorem DpAll.atI {ds : List D} {vs : List V} {i : Int} {d : D} (h : DpAll K G vs ds) (e : L2.atI ds i = some d) : ∃ v, L2.atI vs i = some v ∧ Dp K G v d := by
  unfold L2.atI at e ⊢
  rw [DpAll.length h]
  obtain ⟨j, h1, h2⟩ := Option.bind_eq_some_iff.mp e
  obtain ⟨v, h3, h4⟩ := DpAll.get h h2
  exact ⟨v, by rw [h1]; exact h3, h4⟩
theorem o_ix : Op2 K (fun x y H Q => rIxL K x y H Q ∨ rIxT K x y H Q) ixD := fun G H x y dx dy dz Q s hx hy e bk => by
  unfold ixD at e
  split at e
  · obtain ⟨p, vs, rfl, h1, h2⟩ := hx.list s
    obtain ⟨v, h3, h4⟩ := DpAll.atI h2 e
    exact .inl ⟨p, vs, _, v, rfl, hy.int, h1, h3, bk.val s h4⟩
  · obtain ⟨p, vs, rfl, h1, h2⟩ := hx.tuple s
    obtain ⟨v, h3, h4⟩ := DpAll.atI h2 e
    exact .inr ⟨p, vs, _, v, rfl, hy.int, h1, h3, bk.val s h4⟩
  · cases e
theorem ix_lt : IxR X (fun x y H Q => rIxL X.K x y H Q ∨ rIxT X.K x y H Q) := ix_list.or ix_tup
variable {e a b : Expr} {es : List Expr} {f fa fb : FE} {g : FA} {pu p q : Bool} {pos : Pos}
theorem se_ix (ha : SE X p a fa) (hb : SE X q b fb) (hs : PlainIx b := by exact fun _ _ => rfl) : SE X (p && q) (.Subscript a b pos) (f2 ixD fa fb) := PE.weak (pe_ix ix_lt ha hb hs) fun σ H Q h => t_op2 o_ix h
theorem se_ixp (ha : SP X p a fa) (hb : SP X true b fb) (hs : PlainIx b := by exact fun _ _ => rfl) : SE X p (.Subscript a b pos) (f2 ixD fa fb) := PE.weak (pe_ix ix_lt ha hb hs) fun σ H Q h => t_op2p o_ix h
/-! ### slices of lists and tuples -/
def cutD (xs : List D) (lo hi : Option Int) : List D := (xs.drop (HT.sIx xs.length 0 lo)).take (HT.sIx xs.length xs.length hi - HT.sIx xs.length 0 lo)
theorem DpAll.cut {ds : List D} {vs : List V} {lo hi : Option Int} (h : DpAll K G vs ds) : DpAll K G (cutV vs lo hi) (cutD ds lo hi) := by
  unfold cutV cutD
  rw [DpAll.length h]
  exact DpAll.take _ (DpAll.drop _ h)
/-- an end of a slice -/
abbrev FO := Ev → Option (Option Int × Ev)
def tO (K : PySem.W.Frag) (f : FO) : TO := fun σ H Q => ∃ C G r d r', Ok K C G H σ r ∧ f r = some (d, r') ∧ ∀ G' H', Ok K C G' H' σ r' → Same G G' → Same H H' → Q d H'
abbrev SO (X : Cx) (e : Option Expr) (f : FO) : Prop := PO X e (tO X.K f)
theorem PO.weak {X : Cx} {e : Option Expr} {t t' : TO} (h : PO X e t) (w : ∀ σ H Q, t' σ H Q → t σ H Q) : PO X e t' := ⟨fun pins s σ H Q I q => h.run pins s σ H Q I (w σ H Q q)⟩
def oNone : FO := fun r => some (none, r)
@[simp] theorem oNone_r (r : Ev) : oNone r = some (none, r) := rfl
def oSome (f : FE) : FO := fun r => match f r with
  | some (.int i, r') => some (some i, r')
  | _ => none
@[simp] theorem oSome_r (f : FE) (r : Ev) : oSome f r = match f r with
  | some (.int i, r') => some (some i, r')
  | _ => none := rfl
theorem so_none : SO X none oNone := PO.weak po_none fun σ H Q ⟨C, G, r, d, r', ok, hf, k⟩ => by
  cases hf
  exact k G H ok (Same.refl _) (Same.refl _)
theorem so_some (h : SE X true e f) : SO X (some e) (oSome f) := PO.weak (po_some h) fun σ H Q ⟨C, G, r, d, r', ok, hf, k⟩ => by
  unfold oSome at hf
  split at hf
  · rename_i i r1 h1
    cases hf
    refine ⟨C, G, r, _, _, ok, h1, fun v G1 H1 o1 s1 m1 x1 => ?_⟩
    cases x1
    exact ⟨i, rfl, k G1 H1 o1 s1 (m1 rfl)⟩
  · cases hf
/-- a slice of a list: a new list -/
def lCut (f : FE) (lo hi : FO) : FA := fun r => match f r with
  | some (.list ds, r1) => (lo r1).bind fun x => (hi x.2).map fun y => (cutD ds x.1 y.1, y.2)
  | _ => none
@[simp] theorem lCut_r (f : FE) (lo hi : FO) (r : Ev) : lCut f lo hi r = match f r with
  | some (.list ds, r1) => (lo r1).bind fun x => (hi x.2).map fun y => (cutD ds x.1 y.1, y.2)
  | _ => none := rfl
variable {lo hi : Option Expr} {fl fh : FO} {p2 : Pos}
/-- a slice of a list or a tuple, as a value -/
@[simp] def cutAny (d : D) (lo hi : Option Int) : Option D := match d with
  | .list ds => some (.list (cutD ds lo hi))
  | .tuple ds => some (.tuple (cutD ds lo hi))
  | _ => none
def fCut (f : FE) (lo hi : FO) : FE := fun r => (f r).bind fun z => (lo z.2).bind fun x => (hi x.2).bind fun y => (cutAny z.1 x.1 y.1).map fun d => (d, y.2)
@[simp] theorem fCut_r (f : FE) (lo hi : FO) (r : Ev) : fCut f lo hi r = (f r).bind fun z => (lo z.2).bind fun x => (hi x.2).bind fun y => (cutAny z.1 x.1 y.1).map fun d => (d, y.2) := rfl
theorem se_cut (ha : SP X p a fa) (hl : SO X lo fl) (hh : SO X hi fh) : SE X p (.Subscript a (.Slice lo hi none p2) pos) (fCut fa fl fh) := PE.weak (pe_slice (L2.sl_list.or sl_tupA) ha hl hh) fun σ H Q ⟨C, G, r, d, r', ok, hf, k⟩ => by
  unfold fCut at hf
  obtain ⟨⟨z, r1⟩, h1, h0⟩ := Option.bind_eq_some_iff.mp hf
  obtain ⟨⟨x, r2⟩, h2, h3⟩ := Option.bind_eq_some_iff.mp h0
  obtain ⟨⟨y, r3⟩, h4, h5⟩ := Option.bind_eq_some_iff.mp h3
  obtain ⟨d', h6, h7⟩ := Option.map_eq_some_iff.mp h5
  cases h7
  refine ⟨C, G, r, _, _, ok, h1, fun v G1 H1 o1 s1 m1 x1 => ⟨C, G1, r1, _, _, o1, h2, fun G2 H2 o2 s2 m2 => ⟨C, G2, r2, _, _, o2, h4, fun G3 H3 o3 s3 m3 => ?_⟩⟩⟩
  have pk := (x1.step s2 m2).step s3 m3
  have bk : Back X.K G3 H3 d Q := o3.back fun v4 G4 H4 o4 s4 m4 x4 => k v4 G4 H4 o4 (((s1.trans s2).trans s3).trans s4) (fun m => ((m1 m).trans (m2.trans m3)).trans m4) x4
  cases z with
  | list ds =>
    cases h6
    obtain ⟨q, vs, rfl, h8, h9⟩ := pk.list o3.sub
    exact .inl ⟨q, vs, rfl, h8, fun c hc => Back.lst o3.sub bk hc (DpAll.cut h9)⟩
  | tuple ds =>
    cases h6
    obtain ⟨q, vs, rfl, h8, h9⟩ := pk.tuple o3.sub
    refine .inr ⟨q, vs, rfl, h8, fun hw => ?_, fun _ c hc => Back.tup o3.sub bk hc (DpAll.cut h9)⟩
    have e : cutD ds x y = ds := by
      rw [DpAll.length h9] at hw
      unfold cutD
      rw [hw.1, hw.2]
      simp
    rw [e] at bk
    exact bk.val o3.sub pk.tupD
  | none => cases h6
  | bool => cases h6
  | int => cases h6
  | str => cases h6
  | dict => cases h6
end
end SL
namespace SL
open PySem PySem.Spec PyProof.Rows L2
variable [TBL]
def intsOf : List D → Option (List Int)
  | [] => some []
  | .int i :: r => (intsOf r).map (i :: ·)
  | _ => none
def boolsOf : List D → Option (List Bool)
  | [] => some []
  | .bool i :: r => (boolsOf r).map (i :: ·)
  | _ => none
theorem intsOf_eq : ∀ {ds : List D} {ns : List Int}, intsOf ds = some ns → ds = ns.map .int
  | [], ns, h => by cases h; rfl
  | .int i :: r, ns, h => by
    obtain ⟨ms, h1, h2⟩ := Option.map_eq_some_iff.mp (show (intsOf r).map (i :: ·) = some ns from h)
    subst h2
    rw [intsOf_eq h1]; rfl
  | .none :: r, ns, h => by cases h
  | .bool _ :: r, ns, h => by cases h
  | .str _ :: r, ns, h => by cases h
  | .list _ :: r, ns, h => by cases h
  | .tuple _ :: r, ns, h => by cases h
  | .dict _ :: r, ns, h => by cases h
theorem boolsOf_eq : ∀ {ds : List D} {ns : List Bool}, boolsOf ds = some ns → ds = ns.map .bool
  | [], ns, h => by cases h; rfl
  | .bool i :: r, ns, h => by
    obtain ⟨ms, h1, h2⟩ := Option.map_eq_some_iff.mp (show (boolsOf r).map (i :: ·) = some ns from h)
    subst h2
    rw [boolsOf_eq h1]; rfl
  | .none :: r, ns, h => by cases h
  | .int _ :: r, ns, h => by cases h
  | .str _ :: r, ns, h => by cases h
  | .list _ :: r, ns, h => by cases h
  | .tuple _ :: r, ns, h => by cases h
  | .dict _ :: r, ns, h => by cases h
@[simp] theorem intsOf_map : ∀ ns : List Int, intsOf (ns.map .int) = some ns
  | [] => rfl
  | i :: r => by
    show (intsOf (r.map .int)).map (i :: ·) = _
    rw [intsOf_map r]; rfl
@[simp] theorem boolsOf_map : ∀ ns : List Bool, boolsOf (ns.map .bool) = some ns
  | [] => rfl
  | i :: r => by
    show (boolsOf (r.map .bool)).map (i :: ·) = _
    rw [boolsOf_map r]; rfl
/-- the greatest, the least one of some numbers -/
def maxI : List Int → Int
  | [] => 0
  | [x] => x
  | x :: y :: r => max x (maxI (y :: r))
def minI : List Int → Int
  | [] => 0
  | [x] => x
  | x :: y :: r => min x (minI (y :: r))
theorem maxI_spec : ∀ {ns : List Int}, ns ≠ [] → maxI ns ∈ ns ∧ ∀ y ∈ ns, y ≤ maxI ns
  | [], h => absurd rfl h
  | [x], _ => by simp [maxI]
  | x :: y :: r, _ => by
    obtain ⟨h1, h2⟩ := maxI_spec (ns := y :: r) (by simp)
    unfold maxI
    refine ⟨?_, fun z hz => ?_⟩
    · rcases Int.le_total x (maxI (y :: r)) with h | h
      · rw [Int.max_eq_right h]; exact List.mem_cons_of_mem _ h1
      · rw [Int.max_eq_left h]; exact List.mem_cons_self
    · rcases List.mem_cons.mp hz with rfl | hz
      · exact Int.le_max_left _ _
      · exact Int.le_trans (h2 z hz) (Int.le_max_right _ _)
theorem minI_spec : ∀ {ns : List Int}, ns ≠ [] → minI ns ∈ ns ∧ ∀ y ∈ ns, minI ns ≤ y
  | [], h => absurd rfl h
  | [x], _ => by simp [minI]
  | x :: y :: r, _ => by
    obtain ⟨h1, h2⟩ := minI_spec (ns := y :: r) (by simp)
    unfold minI
    refine ⟨?_, fun z hz => ?_⟩
    · rcases Int.le_total x (minI (y :: r)) with h | h
      · rw [Int.min_eq_left h]; exact List.mem_cons_self
      · rw [Int.min_eq_right h]; exact List.mem_cons_of_mem _ h1
    · rcases List.mem_cons.mp hz with rfl | hz
      · exact Int.min_le_left _ _
      · exact Int.le_trans (Int.min_le_right _ _) (h2 z hz)
theorem max_one {ns : List Int} {m : Int} (h : m ∈ ns) (k : ∀ y ∈ ns, y ≤ m) : m = maxI ns := by
  have hn : ns ≠ [] := fun e => by rw [e] at h; cases h
  obtain ⟨h1, h2⟩ := maxI_spec hn
  exact Int.le_antisymm (h2 m h) (k _ h1)
theorem min_one {ns : List Int} {m : Int} (h : m ∈ ns) (k : ∀ y ∈ ns, m ≤ y) : m = minI ns := by
  have hn : ns ≠ [] := fun e => by rw [e] at h; cases h
  obtain ⟨h1, h2⟩ := minI_spec hn
  exact Int.le_antisymm (k _ h1) (h2 m h)
/-- numbers in their order -/
def insI (x : Int) : List Int → List Int
  | [] => [x]
  | y :: r => if x ≤ y then x :: y :: r else y :: insI x r
def sortI : List Int → List Int
  | [] => []
  | x :: r => insI x (sortI r)
theorem insI_perm (x : Int) : ∀ l : List Int, (insI x l).Perm (x :: l)
  | [] => .refl _
  | y :: r => by
    unfold insI
    split
    · exact .refl _
    · exact (List.Perm.cons y (insI_perm x r)).trans (List.Perm.swap x y r)
theorem sortI_perm : ∀ l : List Int, (sortI l).Perm l
  | [] => .refl _
  | x :: r => (insI_perm x (sortI r)).trans (List.Perm.cons x (sortI_perm r))
theorem insI_sorted (x : Int) : ∀ {l : List Int}, l.Pairwise (· ≤ ·) → (insI x l).Pairwise (· ≤ ·)
  | [], _ => List.pairwise_singleton _ _
  | y :: r, h => by
    obtain ⟨h1, h2⟩ := List.pairwise_cons.mp h
    unfold insI
    split
    · rename_i hx
      exact List.pairwise_cons.mpr ⟨fun z hz => (List.mem_cons.mp hz).elim (fun e => by rw [e]; exact hx) fun hz => Int.le_trans hx (h1 z hz), h⟩
    · rename_i hx
      refine List.pairwise_cons.mpr ⟨fun z hz => ?_, insI_sorted x h2⟩
      rcases List.mem_cons.mp ((insI_perm x r).mem_iff.mp hz) with e | hz
      · rw [e]; omega
      · exact h1 z hz
theorem sortI_sorted : ∀ l : List Int, (sortI l).Pairwise (· ≤ ·)
  | [] => .nil
  | x :: r => insI_sorted x (sortI_sorted r)
def lenD : D → Option D
  | .list ds => some (.int ds.length)
  | .tuple ds => some (.int ds.length)
  | .str x => if x.length ≤ sizeLine then some (.int x.length) else none
  | _ => none
def intD : D → Option D
  | .int i => some (.int i)
  | .bool b => some (.int (if b then 1 else 0))
  | _ => none
def absD : D → Option D
  | .int i => some (.int (if i < 0 then -i else i))
  | _ => none
def sumD : D → Option D
  | .list ds => (intsOf ds).map fun ns => .int ns.sum
  | _ => none
def maxD : D → Option D
  | .list ds => (intsOf ds).bind fun ns => if ns = [] then none else some (.int (maxI ns))
  | _ => none
def minD : D → Option D
  | .list ds => (intsOf ds).bind fun ns => if ns = [] then none else some (.int (minI ns))
  | _ => none
def allD : D → Option D
  | .list ds => (boolsOf ds).map fun ns => .bool (ns.all id)
  | _ => none
def anyD : D → Option D
  | .list ds => (boolsOf ds).map fun ns => .bool (ns.any id)
  | _ => none
def max2D : D → D → Option D
  | .int i, .int j => some (.int (if j > i then j else i))
  | _, _ => none
def min2D : D → D → Option D
  | .int i, .int j => some (.int (if j < i then j else i))
  | _, _ => none
/-- tuple(x) -/
def tupD : D → Option D
  | .list ds => some (.tuple ds)
  | .tuple ds => some (.tuple ds)
  | _ => none
def strD : D → Option D
  | .int i => if i.natAbs.log2 < 1920 then some (.str (toString i)) else none
  | _ => none
def listI : D → Option (List D)
  | .list ds => some ds
  | .tuple ds => some ds
  | _ => none
def sortedI : D → Option (List D)
  | .list ds => (intsOf ds).map fun ns => (sortI ns).map .int
  | _ => none
def tyOf : D → String
  | .none => "NoneType"
  | .bool _ => "bool"
  | .int _ => "int"
  | .str _ => "str"
  | .list _ => "list"
  | .tuple _ => "tuple"
  | .dict _ => "dict"
def isiD (T : String) (d : D) : Option D := match d with
  | .dict _ => none
  | d => (kitB (tyOf d) T).map .bool
section
variable {X : Cx} {K : PySem.W.Frag} {G H : Hp}
def Call1 (K : PySem.W.Frag) (r : List V → Hp → VK → Prop) (g : D → Option D) : Prop := ∀ G H x dx dz Q, Same G H → Pk K G H x dx → g dx = some dz → Back K G H dz Q → r [x] H Q
def Call1L (K : PySem.W.Frag) (r : List V → Hp → VK → Prop) (g : D → Option (List D)) : Prop := ∀ G H x dx ds (Q : VK), Same G H → Pk K G H x dx → g dx = some ds → (∀ p vs, H p = none → DpAll K G vs ds → Q (.ref p) (upd H p (.lst vs))) → r [x] H Q
def Call2 (K : PySem.W.Frag) (r : List V → Hp → VK → Prop) (g : D → D → Option D) : Prop := ∀ G H x y dx dy dz Q, Same G H → Dp K G x dx → Dp K G y dy → g dx dy = some dz → Back K G H dz Q → r [x, y] H Q
theorem DpAll.ints : ∀ {ns : List Int} {vs : List V}, DpAll K G vs (ns.map .int) → vs = ns.map V.int
  | [], _, .nil => rfl
  | n :: r, _, .cons h t => by cases h; rw [DpAll.ints t]; rfl
theorem DpAll.bools : ∀ {ns : List Bool} {vs : List V}, DpAll K G vs (ns.map .bool) → vs = ns.map V.bl
  | [], _, .nil => rfl
  | n :: r, _, .cons h t => by cases h; rw [DpAll.bools t]; rfl
theorem DpAll.ofInts : ∀ (ns : List Int), DpAll K G (ns.map V.int) (ns.map .int)
  | [] => .nil
  | n :: r => .cons (.int n) (DpAll.ofInts r)
theorem Pk.ints {v : V} {ns : List Int} (s : Same G H) (h : Pk K G H v (.list (ns.map .int))) : ∃ p, v = .ref p ∧ SqL K H p (ns.map V.int) := by
  obtain ⟨p, vs, e, h1, h2⟩ := h.list s
  rw [DpAll.ints h2] at h1
  exact ⟨p, e, h1⟩
theorem Pk.bools {v : V} {ns : List Bool} (s : Same G H) (h : Pk K G H v (.list (ns.map .bool))) : ∃ p, v = .ref p ∧ SqL K H p (ns.map V.bl) := by
  obtain ⟨p, vs, e, h1, h2⟩ := h.list s
  rw [DpAll.bools h2] at h1
  exact ⟨p, e, h1⟩
theorem c_len : Call1 K (fun xs H Q => (∃ p ys, xs = [.ref p] ∧ (SqL K H p ys ∨ SqT K H p ys) ∧ Q (.int ys.length) H) ∨ ∃ z, xs = [.str z] ∧ z.length ≤ sizeLine ∧ Q (.int z.length) H) lenD := fun G H x dx dz Q s hx e bk => by
  unfold lenD at e
  split at e
  · cases e
    obtain ⟨p, vs, rfl, h1, h2⟩ := hx.list s
    refine .inl ⟨p, vs, rfl, .inl h1, ?_⟩
    rw [DpAll.length h2]
    exact bk.val s (.int _)
  · cases e
    obtain ⟨p, vs, rfl, h1, h2⟩ := hx.tuple s
    refine .inl ⟨p, vs, rfl, .inr h1, ?_⟩
    rw [DpAll.length h2]
    exact bk.val s (.int _)
  · split at e
    · rename_i h
      cases e
      exact .inr ⟨_, by rw [hx.str], h, bk.val s (.int _)⟩
    · cases e
  · cases e
theorem c_int : Call1 K (fun xs H Q => (∃ i, xs = [.int i] ∧ Q (.int i) H) ∨ ∃ k, xs = [.bl k] ∧ Q (.int (if k then 1 else 0)) H) intD := fun G H x dx dz Q s hx e bk => by
  unfold intD at e
  split at e
  · cases e; exact .inl ⟨_, by rw [hx.int], bk.val s (.int _)⟩
  · cases e; exact .inr ⟨_, by rw [hx.bool], bk.val s (.int _)⟩
  · cases e
theorem c_abs : Call1 K (fun xs H Q => ∃ i, xs = [.int i] ∧ Q (.int (if i < 0 then -i else i)) H) absD := fun G H x dx dz Q s hx e bk => by
  unfold absD at e
  split at e
  · cases e; exact ⟨_, by rw [hx.int], bk.val s (.int _)⟩
  · cases e
theorem c_sum : Call1 K (rSum K) sumD := fun G H x dx dz Q s hx e bk => by
  unfold sumD at e
  split at e
  · obtain ⟨ns, h1, h2⟩ := Option.map_eq_some_iff.mp e
    rw [intsOf_eq h1] at hx
    subst h2
    obtain ⟨p, rfl, h⟩ := hx.ints s
    exact ⟨p, ns, rfl, h, bk.val s (.int _)⟩
  · cases e
theorem c_max : Call1 K (rMax K) maxD := fun G H x dx dz Q s hx e bk => by
  unfold maxD at e
  split at e
  · obtain ⟨ns, h1, h2⟩ := Option.bind_eq_some_iff.mp e
    rw [intsOf_eq h1] at hx
    split at h2
    · cases h2
    · rename_i hn
      cases h2
      obtain ⟨p, rfl, h⟩ := hx.ints s
      exact ⟨p, ns, rfl, h, List.length_pos_iff.mpr hn, fun m h1 h2 => by rw [max_one h1 h2]; exact bk.val s (.int _)⟩
  · cases e
theorem c_min : Call1 K (rMin K) minD := fun G H x dx dz Q s hx e bk => by
  unfold minD at e
  split at e
  · obtain ⟨ns, h1, h2⟩ := Option.bind_eq_some_iff.mp e
    rw [intsOf_eq h1] at hx
    split at h2
    · cases h2
    · rename_i hn
      cases h2
      obtain ⟨p, rfl, h⟩ := hx.ints s
      exact ⟨p, ns, rfl, h, List.length_pos_iff.mpr hn, fun m h1 h2 => by rw [min_one h1 h2]; exact bk.val s (.int _)⟩
  · cases e
theorem c_all : Call1 K (rAll K) allD := fun G H x dx dz Q s hx e bk => by
  unfold allD at e
  split at e
  · obtain ⟨ns, h1, h2⟩ := Option.map_eq_some_iff.mp e
    rw [boolsOf_eq h1] at hx
    subst h2
    obtain ⟨p, rfl, h⟩ := hx.bools s
    exact ⟨p, ns, rfl, h, bk.val s (.bl _)⟩
  · cases e
theorem c_tup : Call1 K (fun xs H Q => ∃ p ys, xs = [.ref p] ∧ ((SqL K H p ys ∧ ∀ l, H l = none → Q (.ref l) (upd H l (.tup ys))) ∨ (SqT K H p ys ∧ Q (.ref p) H))) tupD := fun G H x dx dz Q s hx e bk => by
  unfold tupD at e
  split at e
  · cases e
    obtain ⟨p, vs, rfl, h1, h2⟩ := hx.list s
    exact ⟨p, vs, rfl, .inl ⟨h1, fun l hl => Back.tup s bk hl h2⟩⟩
  · cases e
    obtain ⟨p, vs, rfl, h1, h2⟩ := hx.tuple s
    exact ⟨p, vs, rfl, .inr ⟨h1, bk.val s hx.tupD⟩⟩
  · cases e
theorem c_max2 : Call2 K (fun xs H Q => ∃ i j, xs = [.int i, .int j] ∧ Q (.int (if j > i then j else i)) H) max2D := fun G H x y dx dy dz Q s hx hy e bk => by
  unfold max2D at e
  split at e
  · cases e; cases hx; cases hy; exact ⟨_, _, rfl, bk.val s (.int _)⟩
  · cases e
theorem c_min2 : Call2 K (fun xs H Q => ∃ i j, xs = [.int i, .int j] ∧ Q (.int (if j < i then j else i)) H) min2D := fun G H x y dx dy dz Q s hx hy e bk => by
  unfold min2D at e
  split at e
  · cases e; cases hx; cases hy; exact ⟨_, _, rfl, bk.val s (.int _)⟩
  · cases e
theorem isi_kit {T : String} {d x : D} (h : isiD T d = some x) : (∀ kds, d ≠ .dict kds) ∧ (kitB (tyOf d) T).map .bool = some x := by
  cases d with
  | dict k => cases h
  | none => exact ⟨fun _ z => (nomatch z), h⟩
  | bool => exact ⟨fun _ z => (nomatch z), h⟩
  | int => exact ⟨fun _ z => (nomatch z), h⟩
  | str => exact ⟨fun _ z => (nomatch z), h⟩
  | list => exact ⟨fun _ z => (nomatch z), h⟩
  | tuple => exact ⟨fun _ z => (nomatch z), h⟩
theorem Dp.tyX {v : V} {d : D} (h : Dp K H v d) (nd : ∀ kds, d ≠ .dict kds) : TyX K H v (.type (tyOf d)) := by
  cases h with
  | dic _ _ => exact absurd rfl (nd _)
  | non => exact .base .non
  | bl b => exact .base (.bl b)
  | int i => exact .base (.int i)
  | str x => exact .base (.str x)
  | lst a _ =>
    rcases a with (a | ⟨o, a⟩) | ⟨o, its, n, h1, h2, _⟩
    · exact .base (.lst a)
    · exact .base (.frz a)
    · exact .kList h1 h2
  | tup a _ =>
    rcases a with (a | ⟨o, a⟩) | ⟨o, its, n, h1, h2, _⟩
    · exact .base (.tup a)
    · exact .fTuple a
    · exact .kTuple h1 h2
end
section
variable {X : Cx} {e a b : Expr} {es : List Expr} {f fa fb : FE} {g : FA} {pu p q : Bool} {pos pp : Pos} {x : Str}
theorem t_call1 {r : List V → Hp → VK → Prop} {g : D → Option D} (o : Call1 X.K r g) {σ : L2.St} {H : Hp} {Q : VK} (h : tE X.K p (f1 g fa) σ H Q) : tCB r (tCons (tP X.K p fa) tNil) σ H Q := by
  obtain ⟨C, G, r0, d, r', ok, hf, k⟩ := h
  obtain ⟨x, h1, h3⟩ := f1_some hf
  refine ⟨C, G, r0, x, r', ok, h1, fun v G1 H1 ok1 s1 m1 x1 => ?_⟩
  refine o G1 H1 v x d Q ok1.sub x1 h3 (ok1.back fun v3 G3 H3 ok3 s3 m3 x3 => ?_)
  exact k v3 G3 H3 ok3 (s1.trans s3) (fun m => (m1 m).trans m3) x3
theorem t_call2 {r : List V → Hp → VK → Prop} {g : D → D → Option D} (o : Call2 X.K r g) {σ : L2.St} {H : Hp} {Q : VK} (h : tE X.K (p && q) (f2 g fa fb) σ H Q) : tCB r (tCons (tE X.K p fa) (tCons (tE X.K q fb) tNil)) σ H Q := by
  obtain ⟨C, G, r0, d, r', ok, hf, k⟩ := h
  obtain ⟨x, r1, y, h1, h2, h3⟩ := f2_some hf
  refine ⟨C, G, r0, x, r1, ok, h1, fun v G1 H1 ok1 s1 m1 x1 => ⟨C, G1, r1, y, r', ok1, h2, fun w G2 H2 ok2 s2 m2 x2 => ?_⟩⟩
  refine o G2 H2 v w x y d Q ok2.sub (Dp.mono s2 x1) x2 h3 (ok2.back fun v3 G3 H3 ok3 s3 m3 x3 => ?_)
  exact k v3 G3 H3 ok3 ((s1.trans s2).trans s3) (fun m => ((m1 (and1 m)).trans (m2 (and2 m))).trans m3) x3
def l1 (g : D → Option (List D)) (a : FE) : FA := fun r => (a r).bind fun x => (g x.1).map fun z => (z, x.2)
@[simp] theorem l1_r (g : D → Option (List D)) (a : FE) (r : Ev) : l1 g a r = (a r).bind fun x => (g x.1).map fun z => (z, x.2) := rfl
theorem t_call1L {r : List V → Hp → VK → Prop} {g : D → Option (List D)} (o : Call1L X.K r g) {σ : L2.St} {H : Hp} {Q : VK} (h : tL X.K p (l1 g fa) σ H Q) : tCB r (tCons (tP X.K p fa) tNil) σ H Q := by
  obtain ⟨C, G, r0, d, r', ok, hf, k⟩ := h
  unfold l1 at hf
  obtain ⟨⟨x, r1⟩, h1, h2⟩ := Option.bind_eq_some_iff.mp hf
  obtain ⟨z, h3, h4⟩ := Option.map_eq_some_iff.mp h2
  cases h4
  refine ⟨C, G, r0, x, r1, ok, h1, fun v G1 H1 ok1 s1 m1 x1 => ?_⟩
  refine o G1 H1 v x _ Q ok1.sub x1 h3 fun l vs hl hd => ?_
  obtain ⟨o4, n4⟩ := ok1.newList (vs := vs) hl
  exact k l vs G1 _ o4 s1 (fun m => (m1 m).trans (same_laid hl)) n4 hd
variable {id T : String}
theorem se_callB1 {r : List V → Hp → VK → Prop} {g : D → Option D} (hc : CallR X (.builtin id) r) (o : Call1 X.K r g) (hg : Gl X x) (hm : X.mg x = none) (ha : SP X p a fa) (hv : bootBuiltins x = some (.builtin id) := by decide +kernel) (hn : x ≠ "__name__" := by decide) (hdb : (x == ("__debug__" : Str)) = false := by decide)
    (he : starEach [a] X.env = (false, eval a X.env) :: starEach [] X.env := by rfl) (hpl : (backTo pos (starEach [] X.env)).any (·.1) = false := by rfl) : SE X p (.Call (.Name x pp) [a] [] pos) (f1 g fa) :=
  PE.weak (pe_callB hc hg hm hv (pa_cons ha pa_nil he) hn hdb he hpl) fun σ H Q h => t_call1 o h
theorem se_callT1 {r : List V → Hp → VK → Prop} {g : D → Option D} (hc : CallR X (.type T) r) (o : Call1 X.K r g) (hg : Gl X x) (hm : X.mg x = none) (ha : SP X p a fa) (hv : bootBuiltins x = some (.type T) := by decide +kernel) (hn : x ≠ "__name__" := by decide) (hdb : (x == ("__debug__" : Str)) = false := by decide)
    (he : starEach [a] X.env = (false, eval a X.env) :: starEach [] X.env := by rfl) (hpl : (backTo pos (starEach [] X.env)).any (·.1) = false := by rfl) : SE X p (.Call (.Name x pp) [a] [] pos) (f1 g fa) :=
  PE.weak (pe_callTy hc hg hm hv (pa_cons ha pa_nil he) hn hdb he hpl) fun σ H Q h => t_call1 o h
theorem sl_callB1 {r : List V → Hp → VK → Prop} {g : D → Option (List D)} (hc : CallR X (.builtin id) r) (o : Call1L X.K r g) (hg : Gl X x) (hm : X.mg x = none) (ha : SP X p a fa) (hv : bootBuiltins x = some (.builtin id) := by decide +kernel) (hn : x ≠ "__name__" := by decide) (hdb : (x == ("__debug__" : Str)) = false := by decide)
    (he : starEach [a] X.env = (false, eval a X.env) :: starEach [] X.env := by rfl) (hpl : (backTo pos (starEach [] X.env)).any (·.1) = false := by rfl) : SL X p (.Call (.Name x pp) [a] [] pos) (l1 g fa) :=
  PE.weak (pe_callB hc hg hm hv (pa_cons ha pa_nil he) hn hdb he hpl) fun σ H Q h => t_call1L o h
theorem se_callB2 {r : List V → Hp → VK → Prop} {g : D → D → Option D} (hc : CallR X (.builtin id) r) (o : Call2 X.K r g) (hg : Gl X x) (hm : X.mg x = none) (ha : SE X p a fa) (hb : SE X q b fb) (hv : bootBuiltins x = some (.builtin id) := by decide +kernel) (hn : x ≠ "__name__" := by decide) (hdb : (x == ("__debug__" : Str)) = false := by decide)
    (he : starEach [a, b] X.env = (false, eval a X.env) :: starEach [b] X.env := by rfl) (he2 : starEach [b] X.env = (false, eval b X.env) :: starEach [] X.env := by rfl) (hpl : (backTo pos (starEach [b] X.env)).any (·.1) = false := by rfl) : SE X (p && q) (.Call (.Name x pp) [a, b] [] pos) (f2 g fa fb) :=
  PE.weak (pe_callB hc hg hm hv (pa_cons ha (pa_cons hb pa_nil he2) he) hn hdb he hpl) fun σ H Q h => t_call2 o h
/-- isinstance(x, T), T a built-in type -/
theorem se_isi {y : Str} {py : Pos} (hg : Gl X "isinstance") (hm : X.mg "isinstance" = none) (hgT : Gl X y) (hmT : X.mg y = none) (ha : SP X p a fa) (hvT : bootBuiltins y = some (.type T) := by decide +kernel) (hnT : y ≠ "__name__" := by decide) (hdT : (y == ("__debug__" : Str)) = false := by decide)
    (he : starEach [a, .Name y py] X.env = (false, eval a X.env) :: starEach [.Name y py] X.env := by rfl) (he2 : starEach [.Name y py] X.env = (false, eval (.Name y py) X.env) :: starEach [] X.env := by rfl) (hpl : (backTo pos (starEach [.Name y py] X.env)).any (·.1) = false := by rfl) :
    SE X p (.Call (.Name "isinstance" pp) [a, .Name y py] [] pos) (f1 (isiD T) fa) :=
  PE.weak (pe_callB call_isi hg hm (by decide +kernel) (pa_cons ha (pa_cons (pe_bltn (v := .ty T) hgT hmT hvT rfl hnT hdT) pa_nil he2) he) (by decide) (by decide) he hpl) fun σ H Q ⟨C, G, r0, d, r', ok, hf, k⟩ => by
    obtain ⟨x, h1, h3⟩ := f1_some hf
    obtain ⟨nd, h3⟩ := isi_kit h3
    obtain ⟨bb, h4, h5⟩ := Option.map_eq_some_iff.mp h3
    subst h5
    refine ⟨C, G, r0, x, r', ok, h1, fun v G1 H1 ok1 s1 m1 x1 => ?_⟩
    exact ⟨v, .ty T, _, _, bb, rfl, .ty T, Dp.tyX (x1.full ok1.sub) nd, kit_ty h4, k _ G1 H1 ok1 s1 m1 (.bl _)⟩
end
end SL
namespace SL
open PySem PySem.Spec PyProof.Rows L2
variable [TBL]
/-! ### statements -/
inductive Out where
  | nx (r : Ev) | bk (r : Ev) | ct (r : Ev)
  | rt (d : D) (r : Ev)
  | rtO (ds : List D) (r : Ev)
  | rtN (d : D) (r : Ev)
abbrev FS := Ev → Option Out
def OutOk (K : PySem.W.Frag) (C : Ctx) (G : Hp) (E : Ends) : Out → Prop
  | .nx r => ∀ σ' G' H', Ok K C G' H' σ' r → Same G G' → E.nx σ' H'
  | .bk r => ∀ σ' G' H', Ok K C G' H' σ' r → Same G G' → E.bk σ' H'
  | .ct r => ∀ σ' G' H', Ok K C G' H' σ' r → Same G G' → E.ct σ' H'
  | .rt d r => ∀ v σ' G' H', Ok K C G' H' σ' r → Same G G' → Dp K G' v d → E.rt v H'
  | .rtO ds r => ∀ p vs σ' G' H', Ok K C G' H' σ' r → Same G G' → C.P p = none → p ∉ C.M → G' p = none → H' p = some (.lst vs) → DpAll K G' vs ds → E.rt (.ref p) H'
  | .rtN d r => ∀ v σ' G' H', Ok K C G' H' σ' r → Same G G' → DpN K C.P G' v d → E.rt v H'
theorem OutOk.mono {K : PySem.W.Frag} {C : Ctx} {G G' : Hp} {E : Ends} {o : Out} (s : Same G G') (h : OutOk K C G E o) : OutOk K C G' E o := by
  cases o with
  | nx r => exact fun σ' G2 H2 ok s2 => h σ' G2 H2 ok (s.trans s2)
  | bk r => exact fun σ' G2 H2 ok s2 => h σ' G2 H2 ok (s.trans s2)
  | ct r => exact fun σ' G2 H2 ok s2 => h σ' G2 H2 ok (s.trans s2)
  | rt d r => exact fun v σ' G2 H2 ok s2 => h v σ' G2 H2 ok (s.trans s2)
  | rtO ds r => exact fun p vs σ' G2 H2 ok s2 => h p vs σ' G2 H2 ok (s.trans s2)
  | rtN d r => exact fun v σ' G2 H2 ok s2 => h v σ' G2 H2 ok (s.trans s2)
def tS (K : PySem.W.Frag) (F : FS) : TS := fun E σ H => ∃ C G r o, Ok K C G H σ r ∧ F r = some o ∧ OutOk K C G E o
abbrev SS (X : Cx) (st : Stmt) (F : FS) : Prop := PS X st (tS X.K F)
abbrev SSs (X : Cx) (st : List Stmt) (F : FS) : Prop := PSs X st (tS X.K F)
theorem PS.weak {X : Cx} {e : Stmt} {t t' : TS} (h : PS X e t) (w : ∀ E σ H, t' E σ H → t E σ H) : PS X e t' := ⟨fun pins s σ H E I q => h.run pins s σ H E I (w E σ H q)⟩
theorem PSs.weak {X : Cx} {e : List Stmt} {t t' : TS} (h : PSs X e t) (w : ∀ E σ H, t' E σ H → t E σ H) : PSs X e t' := ⟨fun pins s σ H E I q => h.run pins s σ H E I (w E σ H q)⟩
def sNext : FS := fun r => some (.nx r)
@[simp] theorem sNext_r (r : Ev) : sNext r = some (.nx r) := rfl
def sSeq (F F' : FS) : FS := fun r => match F r with
  | some (.nx r1) => F' r1
  | o => o
@[simp] theorem sSeq_r (F F' : FS) (r : Ev) : sSeq F F' r = match F r with
  | some (.nx r1) => F' r1
  | o => o := rfl
def sDrop (f : FE) : FS := fun r => (f r).map fun x => .nx x.2
@[simp] theorem sDrop_r (f : FE) (r : Ev) : sDrop f r = (f r).map fun x => .nx x.2 := rfl
def sRet (f : FE) : FS := fun r => (f r).map fun x => .rt x.1 x.2
@[simp] theorem sRet_r (f : FE) (r : Ev) : sRet f r = (f r).map fun x => .rt x.1 x.2 := rfl
def sRetN : FS := fun r => some (.rt .none r)
@[simp] theorem sRetN_r (r : Ev) : sRetN r = some (.rt .none r) := rfl
def sRetL (g : FA) : FS := fun r => (g r).map fun x => .rtO x.1 x.2
@[simp] theorem sRetL_r (g : FA) (r : Ev) : sRetL g r = (g r).map fun x => .rtO x.1 x.2 := rfl
/-- return of a list of one's own -/
def sRetO (i : Nat) : FS := fun r => match r[i]? with
  | some (some (.own ds)) => some (.rtO ds (r.set i none))
  | _ => none
@[simp] theorem sRetO_r (i : Nat) (r : Ev) : sRetO i r = match r[i]? with
  | some (some (.own ds)) => some (.rtO ds (r.set i none))
  | _ => none := rfl
def sIf (t : FT) (F F' : FS) : FS := fun r => (t r).bind fun x => if x.1 = true then F x.2 else F' x.2
@[simp] theorem sIf_r (t : FT) (F F' : FS) (r : Ev) : sIf t F F' r = (t r).bind fun x => if x.1 = true then F x.2 else F' x.2 := rfl
def sBrk : FS := fun r => some (.bk r)
@[simp] theorem sBrk_r (r : Ev) : sBrk r = some (.bk r) := rfl
def sCnt : FS := fun r => some (.ct r)
@[simp] theorem sCnt_r (r : Ev) : sCnt r = some (.ct r) := rfl
section
variable {K : PySem.W.Frag} {C : Ctx} {G H G' H' : Hp} {σ : L2.St} {r r' : Ev}
/-- a slot is set -/
theorem Ok.set (ok : Ok K C G H σ r) {i : Nat} {v : V} {c : Cell} (h : CellOk K C G H v c) (d : c.isOwn = true → ∀ (j : Nat) (c' : Cell), r[j]? = some (some c') → c'.isOwn = true → j ≠ i → σ[j]? ≠ some (some v)) : Ok K C G H (σ.set i (some v)) (r.set i (some c)) where
  sub := ok.sub
  g0 := ok.g0
  gnew := ok.gnew
  prot := ok.prot
  mreal := ok.mreal
  len := by rw [List.length_set, List.length_set]; exact ok.len
  cell := fun j c' e => by
    by_cases hj : j = i
    · subst hj
      have hlt : j < r.length := by
        have := (List.getElem?_eq_some_iff.mp e).1
        rwa [List.length_set] at this
      rw [List.getElem?_set_self hlt] at e
      cases e
      exact ⟨v, by rw [List.getElem?_set_self (by rw [← ok.len]; exact hlt)], h⟩
    · rw [List.getElem?_set_ne (Ne.symm hj)] at e ⊢
      exact ok.cell j c' e
  dis := fun j k c1 c2 e1 e2 o1 o2 e => by
    have get : ∀ {x : Nat} {c' : Cell}, x ≠ i → (r.set i (some c))[x]? = some (some c') → r[x]? = some (some c') ∧ (σ.set i (some v))[x]? = σ[x]? := fun {x c'} hx q => by
      rw [List.getElem?_set_ne (Ne.symm hx)] at q
      exact ⟨q, List.getElem?_set_ne (Ne.symm hx)⟩
    have self : ∀ {c' : Cell}, (r.set i (some c))[i]? = some (some c') → c' = c ∧ (σ.set i (some v))[i]? = some (some v) := fun {c'} q => by
      have hlt : i < r.length := by
        have := (List.getElem?_eq_some_iff.mp q).1
        rwa [List.length_set] at this
      rw [List.getElem?_set_self hlt] at q
      cases q
      exact ⟨rfl, List.getElem?_set_self (by rw [← ok.len]; exact hlt)⟩
    by_cases hj : j = i
    · by_cases hk : k = i
      · rw [hj, hk]
      · subst hj
        obtain ⟨rfl, s1⟩ := self e1
        obtain ⟨g2, s2⟩ := get hk e2
        rw [s1, s2] at e
        exact absurd e.symm (d o1 k c2 g2 o2 hk)
    · by_cases hk : k = i
      · subst hk
        obtain ⟨rfl, s1⟩ := self e2
        obtain ⟨g2, s2⟩ := get hj e1
        rw [s1, s2] at e
        exact absurd e (d o2 j c1 g2 o1 hj)
      · obtain ⟨g1, s1⟩ := get hj e1
        obtain ⟨g2, s2⟩ := get hk e2
        rw [s1, s2] at e
        exact ok.dis j k c1 c2 g1 g2 o1 o2 e
  tabs := ok.tabs
theorem Ok.setV (ok : Ok K C G H σ r) {i : Nat} {v : V} {d : D} (h : Dp K G v d) : Ok K C G H (σ.set i (some v)) (r.set i (some (.val d))) := ok.set (c := .val d) h (fun z => by cases z)
theorem Ok.setO (ok : Ok K C G H σ r) {i : Nat} {p : Addr} {vs : List V} {ds : List D} (n : New K C G H σ r p vs) (h : DpAll K G vs ds) : Ok K C G H (σ.set i (some (.ref p))) (r.set i (some (.own ds))) :=
  ok.set (c := .own ds) ⟨p, vs, rfl, ⟨n.1, n.2.1⟩, n.2.2.1, n.2.2.2.1, h⟩ fun _ j c' e o _ => n.2.2.2.2 j c' e o
/-- a slot is forgotten -/
theorem Ok.drop (ok : Ok K C G H σ r) (i : Nat) : Ok K C G H σ (r.set i none) where
  sub := ok.sub
  g0 := ok.g0
  gnew := ok.gnew
  prot := ok.prot
  mreal := ok.mreal
  len := by rw [List.length_set]; exact ok.len
  cell := fun j c' e => by
    by_cases hj : j = i
    · subst hj
      have hlt : j < r.length := by
        have := (List.getElem?_eq_some_iff.mp e).1
        rwa [List.length_set] at this
      rw [List.getElem?_set_self hlt] at e
      cases e
    · rw [List.getElem?_set_ne (Ne.symm hj)] at e
      exact ok.cell j c' e
  dis := fun j k c1 c2 e1 e2 o1 o2 e => by
    have get : ∀ {x : Nat} {c' : Cell}, (r.set i none)[x]? = some (some c') → r[x]? = some (some c') := fun {x c'} q => by
      by_cases hx : x = i
      · subst hx
        have hlt : x < r.length := by
          have := (List.getElem?_eq_some_iff.mp q).1
          rwa [List.length_set] at this
        rw [List.getElem?_set_self hlt] at q
        cases q
      · rwa [List.getElem?_set_ne (Ne.symm hx)] at q
    exact ok.dis j k c1 c2 (get e1) (get e2) o1 o2 e
  tabs := ok.tabs
theorem Ok.notTbl (ok : Ok K C G H σ r) {i : Nat} {c : Cell} {p : Addr} (e : r[i]? = some (some c)) (ho : c.isOwn = true) (e1 : σ[i]? = some (some (.ref p))) (ps : Array Value) : H p ≠ some (.tbl ps) := fun z => by
  obtain ⟨v, e2, h⟩ := ok.cell i c e
  rw [e1] at e2
  cases e2
  cases c with
  | val d => cases ho
  | tag n => cases ho
  | fre d => cases ho
  | own ds => obtain ⟨q, ws, eq, _, _, g, _⟩ := h; cases eq; rw [z] at g; cases g
  | loan k ds => obtain ⟨q, ws, eq, _, _, g, _⟩ := h; cases eq; rw [z] at g; cases g
  | ownF ds => obtain ⟨q, ws, eq, _, _, g, _⟩ := h; cases eq; rw [z] at g; cases g
  | ownD kds => obtain ⟨q, o, ks, eq, _, _, g, _⟩ := h; cases eq; rw [z] at g; unfold DicO at g; cases g
/-- the list of a slot is written -/
theorem Ok.write (ok : Ok K C G H σ r) {i : Nat} {c c' : Cell} {p : Addr} {ob ob' : HO} (e : r[i]? = some (some c)) (ho : c.isOwn = true) (e1 : σ[i]? = some (some (.ref p))) (hG : G p = none) (hH : H p = some ob) (hP : C.P p = none ∨ p ∈ C.M)
    (hc' : CellOk K C G (upd H p ob') (.ref p) c') (ho' : c'.isOwn = true) : Ok K C G (upd H p ob') σ (r.set i (some c')) where
  sub := fun a u q => by
    have : a ≠ p := ne_of_none q hG
    rw [upd_ne this]; exact ok.sub _ _ q
  g0 := ok.g0
  gnew := ok.gnew
  prot := fun a o q hm => by
    have : a ≠ p := fun z => by
      subst z
      rcases hP with h | h
      · rw [h] at q; cases q
      · exact hm h
    rw [upd_ne this]; exact ok.prot a o q hm
  mreal := fun a hm => by
    obtain ⟨h1, h2⟩ := ok.mreal a hm
    refine ⟨?_, h2⟩
    by_cases z : a = p
    · subst z; rw [upd_same]; intro w; cases w
    · rw [upd_ne z]; exact h1
  len := by rw [List.length_set]; exact ok.len
  cell := fun j c2 q => by
    have hi : i < r.length := (List.getElem?_eq_some_iff.mp e).1
    by_cases hj : j = i
    · subst hj
      rw [List.getElem?_set_self hi] at q
      cases q
      exact ⟨_, e1, hc'⟩
    · rw [List.getElem?_set_ne (Ne.symm hj)] at q
      obtain ⟨v, e2, hc⟩ := ok.cell j c2 q
      refine ⟨v, e2, ?_⟩
      cases c2 with
      | val d => exact hc
      | own es =>
        obtain ⟨x, ws, rfl, g1, g2, g3, g4⟩ := hc
        have hx : x ≠ p := fun z => hj (ok.dis j i _ _ q e rfl ho (by rw [e2, e1, z]))
        exact ⟨x, ws, rfl, g1, g2, by rw [upd_ne hx]; exact g3, g4⟩
      | loan m es =>
        obtain ⟨x, ws, rfl, g1, g2, g3, g4⟩ := hc
        have hx : x ≠ p := fun z => hj (ok.dis j i _ _ q e rfl ho (by rw [e2, e1, z]))
        exact ⟨x, ws, rfl, g1, g2, by rw [upd_ne hx]; exact g3, g4⟩
      | ownD kds' =>
        obtain ⟨x, ob2, ks, rfl, g1, g2, g3, g4⟩ := hc
        have hx : x ≠ p := fun z => hj (ok.dis j i _ _ q e rfl ho (by rw [e2, e1, z]))
        exact ⟨x, ob2, ks, rfl, g1, g2, by rw [upd_ne hx]; exact g3, g4⟩
      | tag m => exact hc
      | fre d => exact hc
      | ownF es =>
        obtain ⟨x, ws, rfl, g1, g2, g3, g4⟩ := hc
        have hx : x ≠ p := fun z => hj (ok.dis j i _ _ q e rfl ho (by rw [e2, e1, z]))
        exact ⟨x, ws, rfl, g1, g2, by rw [upd_ne hx]; exact g3, g4⟩
  dis := fun j k c1 c2 q1 q2 o1 o2 => by
    have hi : i < r.length := (List.getElem?_eq_some_iff.mp e).1
    have get : ∀ {x : Nat} {c2 : Cell}, (r.set i (some c'))[x]? = some (some c2) → ∃ c3, r[x]? = some (some c3) ∧ (c2.isOwn = true → c3.isOwn = true) := fun {x c2} q => by
      by_cases hx : x = i
      · subst hx
        exact ⟨c, e, fun _ => ho⟩
      · rw [List.getElem?_set_ne (Ne.symm hx)] at q
        exact ⟨c2, q, fun z => z⟩
    obtain ⟨d1, g1, w1⟩ := get q1
    obtain ⟨d2, g2, w2⟩ := get q2
    exact ok.dis j k d1 d2 g1 g2 (w1 o1) (w2 o2)
  tabs := ok.tabs.upd (.inr fun ps => ok.notTbl e ho e1 ps)
end
section
variable {X : Cx} {e a b : Expr} {es : List Expr} {f fa fb : FE} {g : FA} {pu p q : Bool} {pos pp : Pos} {x : Str} {st : Stmt} {sts : List Stmt} {F F' : FS}
theorem ss_nil : SSs X [] sNext := PSs.weak pss_nil fun E σ H ⟨C, G, r, o, ok, hf, k⟩ => by cases hf; exact k σ G H ok (Same.refl _)
theorem ss_one (h : SS X st F) : SSs X [st] F := pss_one h
theorem ss_cons (h1 : SS X st F) (h2 : SSs X sts F') : SSs X (st :: sts) (sSeq F F') := PSs.weak (pss_cons h1 h2) fun E σ H ⟨C, G, r, o, ok, hf, k⟩ => by
  unfold sSeq at hf
  split at hf
  · rename_i r1 h1
    refine ⟨C, G, r, _, ok, h1, fun σ' G' H' ok' s => ⟨C, G', r1, o, ok', hf, k.mono s⟩⟩
  · refine ⟨C, G, r, o, ok, hf, ?_⟩
    cases o with
    | nx r1 => rename_i h; exact absurd hf (h r1)
    | bk => exact k
    | ct => exact k
    | rt => exact k
    | rtO => exact k
    | rtN => exact k
theorem ss_break : SS X (.Break pos) sBrk := PS.weak ps_break fun E σ H ⟨C, G, r, o, ok, hf, k⟩ => by cases hf; exact k σ G H ok (Same.refl _)
theorem ss_ret (h : SE X p e f) : SS X (.Return (some e) pos) (sRet f) := PS.weak (ps_ret h) fun E σ H ⟨C, G, r, o, ok, hf, k⟩ => by
  unfold sRet at hf
  obtain ⟨⟨d, r1⟩, h1, h2⟩ := Option.map_eq_some_iff.mp hf
  cases h2
  exact ⟨C, G, r, d, r1, ok, h1, fun v G' H' o' s m x => k v σ G' H' o' s x⟩
theorem ss_retO (i : Nat) {py : Pos} (hN : X.N[i]? = some x := by rfl) (hv : Vis X.env.scope x := by first | exact Or.inl rfl | exact Or.inr (Or.inl rfl) | exact Or.inr (Or.inr rfl)) (hd : (x == ("__debug__" : Str)) = false := by decide)
    (hcd : (x == ("__classdict__" : Str)) = false := by decide) : SS X (.Return (some (.Name x py)) pos) (sRetO i) := PS.weak (ps_ret (pe_var hN hv hd hcd)) fun E σ H ⟨C, G, r, o, ok, hf, k⟩ => by
  unfold sRetO at hf
  split at hf
  · rename_i ds e
    cases hf
    obtain ⟨v, e1, l, vs, rfl, h1, h2, h3, h4⟩ := ok.cell i _ e
    exact ⟨_, e1, k l vs σ G H (ok.drop i) (Same.refl _) h1.1 h1.2 h2 h3 h4⟩
  · cases hf
theorem ss_if {c : Expr} {t : FT} {as bs : List Stmt} (hc : ST X p c t) (ha : SSs X as F) (hb : SSs X bs F') : SS X (.If c as bs pos) (sIf t F F') := PS.weak (ps_if hc ha hb) fun E σ H ⟨C, G, r, o, ok, hf, k⟩ => by
  unfold sIf at hf
  obtain ⟨⟨c, r1⟩, h1, h2⟩ := Option.bind_eq_some_iff.mp hf
  refine ⟨C, G, r, c, r1, ok, h1, fun G' H' o' s m => ?_⟩
  cases c with
  | true => rw [if_pos rfl] at h2 ⊢; exact ⟨C, G', r1, o, o', h2, k.mono s⟩
  | false => rw [if_neg Bool.false_ne_true] at h2 ⊢; exact ⟨C, G', r1, o, o', h2, k.mono s⟩
/-! ### stores -/
def sSet (i : Nat) (f : FE) : FS := fun r => (f r).map fun x => .nx (x.2.set i (some (.val x.1)))
@[simp] theorem sSet_r (i : Nat) (f : FE) (r : Ev) : sSet i f r = (f r).map fun x => .nx (x.2.set i (some (.val x.1))) := rfl
def sSetO (i : Nat) (g : FA) : FS := fun r => (g r).map fun x => .nx (x.2.set i (some (.own x.1)))
@[simp] theorem sSetO_r (i : Nat) (g : FA) (r : Ev) : sSetO i g r = (g r).map fun x => .nx (x.2.set i (some (.own x.1))) := rfl
section
variable {i : Nat} {px : Pos} (hN : X.N.Nodup) (hi : X.N[i]? = some x) (hx : Loc X.env.scope x)
include hN hi hx
theorem ss_set (he : SE X p e f) (hf : X.fn x = true ∨ X.env.scope.names.lookup x = some .local := by first | exact .inl rfl | exact .inr rfl | assumption) (hs : swapsWith e (some (.Name x px)) pos.line X.env = pure false := by rfl) : SS X (.Assign [.Name x px] e pos) (sSet i f) :=
  PS.weak (ps_set hN hi hx he hs hf) fun E σ H ⟨C, G, r, o, ok, hf, k⟩ => by
    unfold sSet at hf
    obtain ⟨⟨d, r1⟩, h1, h2⟩ := Option.map_eq_some_iff.mp hf
    cases h2
    exact ⟨C, G, r, d, r1, ok, h1, fun v G' H' o' s m x => k _ G' H' (o'.setV x) s⟩
theorem ss_setO (he : SL X p e g) (hf : X.fn x = true ∨ X.env.scope.names.lookup x = some .local := by first | exact .inl rfl | exact .inr rfl | assumption) (hs : swapsWith e (some (.Name x px)) pos.line X.env = pure false := by rfl) : SS X (.Assign [.Name x px] e pos) (sSetO i g) :=
  PS.weak (ps_set hN hi hx he hs hf) fun E σ H ⟨C, G, r, o, ok, hf, k⟩ => by
    unfold sSetO at hf
    obtain ⟨⟨d, r1⟩, h1, h2⟩ := Option.map_eq_some_iff.mp hf
    cases h2
    exact ⟨C, G, r, d, r1, ok, h1, fun l vs G' H' o' s m n x => k _ G' H' (o'.setO n x) s⟩
end
/-! ### targets -/
def Wp (L : List Nat) (σ σ' : L2.St) : Prop := ∀ vs : List Nat, (∀ i ∈ L, i ∈ vs) → wipe σ' vs = wipe σ vs
abbrev FG := D → Ev → Option Ev
abbrev FGs := List D → Ev → Option Ev
def tG (K : PySem.W.Frag) (A : FG) (L : List Nat) : TG := fun v σ H Q => ∃ C G r d r', Ok K C G H σ r ∧ Dp K G v d ∧ A d r = some r' ∧ ∀ σ', Ok K C G H σ' r' → Wp L σ σ' → Q σ' H
def tGs (K : PySem.W.Frag) (A : FGs) (L : List Nat) : TGs := fun v σ H Q => ∃ C G r d r', Ok K C G H σ r ∧ DpAll K G v d ∧ A d r = some r' ∧ ∀ σ', Ok K C G H σ' r' → Wp L σ σ' → Q σ' H
abbrev SG (X : Cx) (tg : Expr) (A : FG) (L : List Nat) : Prop := PG X tg (tG X.K A L)
abbrev SGs (X : Cx) (tg : List Expr) (A : FGs) (L : List Nat) : Prop := PGs X tg (tGs X.K A L)
theorem PG.weak {e : Expr} {t t' : TG} (h : PG X e t) (w : ∀ v σ H Q, t' v σ H Q → t v σ H Q) : PG X e t' := ⟨fun pins s σ H v u Q I rv q => h.run pins s σ H v u Q I rv (w v σ H Q q)⟩
theorem PGs.weak {e : List Expr} {t t' : TGs} (h : PGs X e t) (w : ∀ v σ H Q, t' v σ H Q → t v σ H Q) : PGs X e t' := ⟨fun pins s σ H v u Q I rv q => h.run pins s σ H v u Q I rv (w v σ H Q q)⟩
theorem wipe_set {σ : L2.St} {i : Nat} {v : Option V} : ∀ {vs : List Nat}, i ∈ vs → wipe (σ.set i v) vs = wipe σ vs
  | [], h => by cases h
  | j :: vs, h => by
    unfold wipe
    by_cases hi : i ∈ vs
    · rw [wipe_set hi]
    · rcases List.mem_cons.mp h with e | h
      · subst e
        have : ∀ (vs : List Nat), i ∉ vs → wipe (σ.set i v) vs = (wipe σ vs).set i v := by
          intro vs
          induction vs with
          | nil => intro _; rfl
          | cons k ks ih =>
            intro hk
            rw [List.mem_cons, not_or] at hk
            unfold wipe
            rw [ih hk.2, List.set_comm _ _ hk.1]
        rw [this vs hi, List.set_set]
      · exact absurd h hi
theorem Wp.refl (σ : L2.St) : Wp [] σ σ := fun _ _ => rfl
theorem Wp.trans {L L' : List Nat} {σ σ' σ'' : L2.St} (a : Wp L σ σ') (b : Wp L' σ' σ'') : Wp (L ++ L') σ σ'' := fun vs h => (b vs fun i hi => h i (List.mem_append_right _ hi)).trans (a vs fun i hi => h i (List.mem_append_left _ hi))
def gNm (i : Nat) : FG := fun d r => some (r.set i (some (.val d)))
@[simp] theorem gNm_r (i : Nat) (d : D) (r : Ev) : gNm i d r = some (r.set i (some (.val d))) := rfl
def gsNil : FGs := fun ds r => match ds with
  | [] => some r
  | _ => none
@[simp] theorem gsNil_r (ds : List D) (r : Ev) : gsNil ds r = match ds with
  | [] => some r
  | _ => none := rfl
def gsCons (A : FG) (B : FGs) : FGs := fun ds r => match ds with
  | d :: ds => (A d r).bind fun r1 => B ds r1
  | _ => none
@[simp] theorem gsCons_r (A : FG) (B : FGs) (ds : List D) (r : Ev) : gsCons A B ds r = match ds with
  | d :: ds => (A d r).bind fun r1 => B ds r1
  | _ => none := rfl
def gTp (n : Nat) (B : FGs) : FG := fun d r => match d with
  | .tuple ds => if ds.length = n then B ds r else none
  | _ => none
@[simp] theorem gTp_r (n : Nat) (B : FGs) (d : D) (r : Ev) : gTp n B d r = match d with
  | .tuple ds => if ds.length = n then B ds r else none
  | _ => none := rfl
theorem sg_name {i : Nat} (hN : X.N.Nodup) (hi : X.N[i]? = some x) (hx : Loc X.env.scope x) (hf : X.fn x = true ∨ X.env.scope.names.lookup x = some .local := by first | exact .inl rfl | exact .inr rfl | assumption) : SG X (.Name x pos) (gNm i) [i] :=
  PG.weak (pg_name hN hi hx hf) fun v σ H Q ⟨C, G, r, d, r', ok, hd, hA, k⟩ => by
    cases hA
    exact k _ (ok.setV hd) fun vs h => wipe_set (h i List.mem_cons_self)
theorem sgs_nil : SGs X [] gsNil [] := PGs.weak pgs_nil fun v σ H Q ⟨C, G, r, d, r', ok, hd, hA, k⟩ => by
  cases hd with
  | nil => cases hA; exact ⟨rfl, k σ ok (Wp.refl σ)⟩
  | cons h t => cases hA
theorem sgs_cons {A : FG} {B : FGs} {L L' : List Nat} (h1 : SG X e A L) (h2 : SGs X es B L') (hs : (assignEach (e :: es) X.env).map (·.2) = assign e X.env :: (assignEach es X.env).map (·.2) := by rfl) : SGs X (e :: es) (gsCons A B) (L ++ L') :=
  PGs.weak (pgs_cons h1 h2 hs) fun v σ H Q ⟨C, G, r, d, r', ok, hd, hA, k⟩ => by
    cases hd with
    | nil => cases hA
    | cons h t =>
      obtain ⟨r1, h3, h4⟩ := Option.bind_eq_some_iff.mp (show (A _ r).bind _ = some r' from hA)
      exact ⟨_, _, rfl, C, G, r, _, r1, ok, h, h3, fun σ1 ok1 w1 => ⟨C, G, r1, _, r', ok1, t, h4, fun σ2 ok2 w2 => k σ2 ok2 (w1.trans w2)⟩⟩
theorem sg_tup {k n : Nat} {B : FGs} {L : List Nat} (hc : X.calm = true) (h : SGs X es B L) (hn : (assignEach es X.env).length = n := by rfl) (hst : (assignEach es X.env).findIdx? (·.1) = none := by rfl) : SG X (.Tuple es k pos) (gTp n B) L :=
  PG.weak (pg_tup hc h hn hst) fun v σ H Q ⟨C, G, r, d, r', ok, hd, hA, kk⟩ => by
    unfold gTp at hA
    split at hA
    · split at hA
      · rename_i hl
        cases hd with
        | tup ht ha => exact ⟨_, _, rfl, SqT.mono ok.sub ht, by rw [DpAll.length ha]; exact hl, C, G, r, _, r', ok, ha, hA, kk⟩
      · cases hA
    · cases hA
/-- a, b, .. = e -/
def sAsg (f : FE) (A : FG) : FS := fun r => (f r).bind fun x => (A x.1 x.2).map .nx
@[simp] theorem sAsg_r (f : FE) (A : FG) (r : Ev) : sAsg f A r = (f r).bind fun x => (A x.1 x.2).map .nx := rfl
theorem ss_asg {tg : Expr} {A : FG} {L : List Nat} (he : SE X p e f) (hg : SG X tg A L) (hs : swapsWithSole [tg] e pos.line X.env = pure false := by rfl) (hw : swappedStores [tg] e X.env = pure none := by rfl) (h1 : (assignEach [tg] X.env).map (·.2) = [assign tg X.env] := by rfl) :
    SS X (.Assign [tg] e pos) (sAsg f A) := PS.weak (ps_asg he hg hs hw h1) fun E σ H ⟨C, G, r, o, ok, hf, k⟩ => by
  unfold sAsg at hf
  obtain ⟨⟨d, r1⟩, h1, h2⟩ := Option.bind_eq_some_iff.mp hf
  obtain ⟨r2, h3, h4⟩ := Option.map_eq_some_iff.mp h2
  cases h4
  exact ⟨C, G, r, d, r1, ok, h1, fun v G' H' o' s m x => ⟨C, G', r1, d, r2, o', x, h3, fun σ' ok' _ => k σ' G' H' ok' s⟩⟩
end
end SL
namespace SL
open PySem PySem.Spec PyProof.Rows L2
variable [TBL]
/-! ### what is walked -/
/-- the turns of an iterator: the data ds, one by one, while what is known stays -/
def Turns (K : PySem.W.Frag) (J : It) (ds : List D) (G1 : Hp) : Prop := ∀ i G2 H2, Same G1 G2 → Same G2 H2 →
  (∀ d, ds[i]? = some d → J.go i H2 ∧ ∀ x H3, J.yld i H2 x H3 → Same H2 H3 ∧ ∃ G3, Same G2 G3 ∧ Same G3 H3 ∧ (∀ a o, G3 a = some o → G2 a = some o ∨ H2 a = none) ∧ Dp K G3 x d) ∧ (ds.length ≤ i → J.stop i H2)
def tI (K : PySem.W.Frag) (src : FA) : TI := fun σ H R => ∃ C G r ds r', Ok K C G H σ r ∧ src r = some (ds, r') ∧ ∀ J G' H', Ok K C G' H' σ r' → Same G G' → Turns K J ds G' → R J H'
abbrev SI (X : Cx) (tg iter : Expr) (src : FA) : Prop := PI X tg iter (tI X.K src)
theorem PI.weak {X : Cx} {tg e : Expr} {t t' : TI} (h : PI X tg e t) (w : ∀ σ H R, t' σ H R → t σ H R) : PI X tg e t' := ⟨fun pins s σ H R I q => h.run pins s σ H R I (w σ H R q)⟩
@[simp] def seqD : D → Option (List D)
  | .list ds => some ds
  | .tuple ds => some ds
  | _ => none
def iSeq (f : FE) : FA := fun r => (f r).bind fun x => (seqD x.1).map fun ds => (ds, x.2)
@[simp] theorem iSeq_r (f : FE) (r : Ev) : iSeq f r = (f r).bind fun x => (seqD x.1).map fun ds => (ds, x.2) := rfl
def rngL (lo : Int) (n : Nat) : List D := (List.range n).map fun (i : Nat) => .int (lo + i)
def okR (i : Int) : Bool := decide (-(2 ^ 62) ≤ i) && decide (i < 2 ^ 62)
def iRng1 (f : FE) : FA := fun r => match f r with
  | some (.int j, r') => if okR j = true then some (rngL 0 j.toNat, r') else none
  | _ => none
def iRng2 (f g : FE) : FA := fun r => match f r with
  | some (.int i, r1) => (match g r1 with
    | some (.int j, r') => if okR i = true ∧ okR j = true then some (rngL i (j - i).toNat, r') else none
    | _ => none)
  | _ => none
section
variable {K : PySem.W.Frag} {G H : Hp}
theorem okR_ok {i : Int} (h : okR i = true) : -(2 ^ 62) ≤ i ∧ i < 2 ^ 62 := ⟨of_decide_eq_true (Bool.and_eq_true_iff.mp h).1, of_decide_eq_true (Bool.and_eq_true_iff.mp h).2⟩
theorem turns_list {a : Addr} {vs : List V} {ds : List D} (h1 : SqL K G a vs) (h2 : DpAll K G vs ds) : Turns K (Itl K a) ds G := fun i G2 H2 s1 s2 => by
  have q : SqL K H2 a vs := SqL.mono s2 (SqL.mono s1 h1)
  refine ⟨fun d e => ?_, fun h => ⟨vs, q, by rw [DpAll.length h2]; exact h⟩⟩
  obtain ⟨v, e1, dv⟩ := DpAll.get h2 e
  refine ⟨⟨vs, v, q, e1⟩, fun x H3 ⟨eH, y⟩ => ?_⟩
  subst eH
  rw [y vs q] at e1
  cases e1
  exact ⟨Same.refl _, G2, Same.refl _, s2, fun a o z => .inl z, Dp.mono s1 dv⟩
theorem turns_tup {a : Addr} {vs : List V} {ds : List D} (h1 : SqT K G a vs) (h2 : DpAll K G vs ds) : Turns K (Itt K a) ds G := fun i G2 H2 s1 s2 => by
  have q : SqT K H2 a vs := SqT.mono s2 (SqT.mono s1 h1)
  refine ⟨fun d e => ?_, fun h => ⟨vs, q, by rw [DpAll.length h2]; exact h⟩⟩
  obtain ⟨v, e1, dv⟩ := DpAll.get h2 e
  refine ⟨⟨vs, v, q, e1⟩, fun x H3 ⟨eH, y⟩ => ?_⟩
  subst eH
  rw [y vs q] at e1
  cases e1
  exact ⟨Same.refl _, G2, Same.refl _, s2, fun a o z => .inl z, Dp.mono s1 dv⟩
theorem rngL_length (lo : Int) (n : Nat) : (rngL lo n).length = n := by unfold rngL; rw [List.length_map, List.length_range]
theorem rngL_get {lo : Int} {n i : Nat} {d : D} (h : (rngL lo n)[i]? = some d) : i < n ∧ d = .int (lo + i) := by
  have hl : i < n := by
    have := (List.getElem?_eq_some_iff.mp h).1
    rwa [rngL_length] at this
  unfold rngL at h
  rw [List.getElem?_map, List.getElem?_range hl] at h
  cases h
  exact ⟨hl, rfl⟩
theorem turns_rng (lo : Int) (n : Nat) : Turns K (Itr lo n) (rngL lo n) G := fun i G2 H2 s1 s2 => by
  refine ⟨fun d e => ?_, fun h => by rw [rngL_length] at h; exact h⟩
  obtain ⟨hl, rfl⟩ := rngL_get e
  refine ⟨hl, fun x H3 ⟨eH, y⟩ => ?_⟩
  subst eH y
  exact ⟨Same.refl _, G2, Same.refl _, s2, fun a o z => .inl z, .int _⟩
end
section
variable {X : Cx} {tg e a b : Expr} {f fa fb : FE} {g : FA} {pu p q : Bool} {pos pp : Pos}
/-- a walk over a list or a tuple -/
theorem pi_any {l : Expr} {tl : TE} (hl : PE X l tl) : PI X tg l (fun σ H R => tl σ H fun x H1 => (∃ a, x = .ref a ∧ (∃ xs, SqL X.K H1 a xs) ∧ R (Itl X.K a) H1) ∨ (∃ a, x = .ref a ∧ (∃ xs, SqT X.K H1 a xs) ∧ R (Itt X.K a) H1)) := by
  refine ⟨fun pins s σ H R I h => ?_⟩
  refine thn (hl.run pins s σ H _ I h) fun v s1 ⟨x, H1, I1, r1, q1⟩ => ?_
  have hd : ∀ b ∈ [s1.heap.objs.size], FpOk X pins H1 b := fun b hb => by
    have e : b = s1.heap.objs.size := by simpa using hb
    subst e
    exact I1.fpOk (Nat.le_refl _) (I1.hok.fresh (Nat.le_refl _))
  rcases q1 with ⟨a, e, ⟨xs, hq⟩, q⟩ | ⟨a, e, ⟨xs, hq⟩, q⟩
  · subst e
    cases r1
    obtain ⟨its, rv, p, hz⟩ := I1.list hq
    exact wpAny_pyIter_list p.isList ⟨s1.heap.objs.size, [s1.heap.objs.size], _, _, H1, rfl, I1.kept (t' := s1.toks) fun b o e => Heap.get?_push_of_some _ e, turn_list a _, ⟨_, Heap.get?_push_size _ rfl, rfl, rfl⟩, hd, q⟩
  · subst e
    cases r1
    obtain ⟨its, rv, p, hz⟩ := I1.tuple hq
    exact wpAny_pyIter_tuple (show s1.heap.IsTuple a its.toArray from p) ⟨s1.heap.objs.size, [s1.heap.objs.size], _, _, H1, rfl, I1.kept (t' := s1.toks) fun b o e => Heap.get?_push_of_some _ e, turn_tuple a _, ⟨_, Heap.get?_push_size _ rfl, rfl, rfl⟩, hd, q⟩
theorem si_seq (h : SE X p e f) : SI X tg e (iSeq f) := PI.weak (pi_any h) fun σ H R ⟨C, G, r, ds, r', ok, hf, k⟩ => by
  unfold iSeq at hf
  obtain ⟨⟨d, r1⟩, h1, h2⟩ := Option.bind_eq_some_iff.mp hf
  obtain ⟨ds', h3, h4⟩ := Option.map_eq_some_iff.mp h2
  cases h4
  refine ⟨C, G, r, d, _, ok, h1, fun v G1 H1 o1 s1 m1 x1 => ?_⟩
  cases x1 with
  | lst ha hb => cases h3; exact .inl ⟨_, rfl, ⟨_, SqL.mono o1.sub ha⟩, k _ G1 H1 o1 s1 (turns_list ha hb)⟩
  | tup ha hb => cases h3; exact .inr ⟨_, rfl, ⟨_, SqT.mono o1.sub ha⟩, k _ G1 H1 o1 s1 (turns_tup ha hb)⟩
  | non => cases h3
  | bl => cases h3
  | int => cases h3
  | str => cases h3
  | dic => cases h3
theorem si_range1 (hg : Gl X "range") (hm : X.mg "range" = none) (ha : SE X p a f) (hs : starEach [a] X.env = [(false, eval a X.env)] := by rfl) : SI X tg (.Call (.Name "range" pp) [a] [] pos) (iRng1 f) :=
  PI.weak (pi_range1 hg hm (pa_cons ha pa_nil hs) hs) fun σ H R ⟨C, G, r, ds, r', ok, hf, k⟩ => by
    unfold iRng1 at hf
    split at hf
    · rename_i j r1 h1
      split at hf
      · rename_i hj
        cases hf
        obtain ⟨j1, j2⟩ := okR_ok hj
        refine ⟨C, G, r, _, _, ok, h1, fun v G1 H1 o1 s1 m1 x1 => ?_⟩
        cases x1
        exact ⟨j, rfl, j1, j2, k _ G1 H1 o1 s1 (turns_rng 0 j.toNat)⟩
      · cases hf
    · cases hf
theorem si_range2 (hg : Gl X "range") (hm : X.mg "range" = none) (ha : SE X p a fa) (hb : SE X q b fb) (hs : starEach [a, b] X.env = [(false, eval a X.env), (false, eval b X.env)] := by rfl) (hs2 : starEach [b] X.env = [(false, eval b X.env)] := by rfl) :
    SI X tg (.Call (.Name "range" pp) [a, b] [] pos) (iRng2 fa fb) :=
  PI.weak (pi_range2 hg hm (pa_cons ha (pa_cons hb pa_nil hs2) (by rw [hs, hs2])) hs hs2) fun σ H R ⟨C, G, r, ds, r', ok, hf, k⟩ => by
    unfold iRng2 at hf
    split at hf
    · rename_i i r1 h1
      split at hf
      · rename_i j r2 h2
        split at hf
        · rename_i hj
          cases hf
          obtain ⟨i1, i2⟩ := okR_ok hj.1
          obtain ⟨j1, j2⟩ := okR_ok hj.2
          refine ⟨C, G, r, _, _, ok, h1, fun v G1 H1 o1 s1 m1 x1 => ⟨C, G1, r1, _, _, o1, h2, fun w G2 H2 o2 s2 m2 x2 => ?_⟩⟩
          cases x1; cases x2
          exact ⟨i, j, rfl, ⟨i1, i2, j1, j2⟩, k _ G2 H2 o2 (s1.trans s2) (turns_rng i (j - i).toNat)⟩
        · cases hf
      · cases hf
    · cases hf
/-! ### for -/
def loopF (A : FG) (body : FS) : List D → FS
  | [], r => some (.nx r)
  | d :: ds, r => (A d r).bind fun r1 => match body r1 with
    | some (.nx r2) => loopF A body ds r2
    | some (.ct r2) => loopF A body ds r2
    | some (.bk r2) => some (.nx r2)
    | o => o
def sFor (src : FA) (A : FG) (body : FS) : FS := fun r => (src r).bind fun x => loopF A body x.1 x.2
theorem ss_for {iter : Expr} {body : List Stmt} {src : FA} {A : FG} {L : List Nat} {F : FS} (hp : PassesOwn (model X.prog X.w) X.A X.env X.xe) (hc : X.calm = true) (hi : SI X tg iter src) (hg : SG X tg A L) (hb : SSs X body F)
    (hs : ∀ x, foldedSetIterable iter X.env x = pure x := by intro _; rfl) : SS X (.For tg iter body [] pos) (sFor src A F) := PS.weak (ps_for hp hc hi hg hb hs) fun E σ H ⟨C, G, r, o, ok, hf, k⟩ => by
  unfold sFor at hf
  obtain ⟨⟨ds, r1⟩, h1, h2⟩ := Option.bind_eq_some_iff.mp hf
  refine ⟨C, G, r, ds, r1, ok, h1, fun J G1 H1 o1 s1 tn => ?_⟩
  refine ⟨fun i m σ H => ∃ G' r', Ok X.K C G' H σ r' ∧ Same G1 G' ∧ m = ds.length - i ∧ i ≤ ds.length ∧ loopF A F (ds.drop i) r' = some o, ⟨_, G1, r1, o1, Same.refl _, rfl, Nat.zero_le _, h2⟩, ?_⟩
  rintro i m σ H ⟨G', r', ok', sg, rfl, hi, hl⟩
  obtain ⟨go, stop⟩ := tn i G' H sg ok'.sub
  have km : OutOk X.K C G' E o := k.mono (s1.trans sg)
  by_cases hlt : i < ds.length
  · refine .inr ?_
    have e : ds.drop i = ds[i] :: ds.drop (i + 1) := List.drop_eq_getElem_cons hlt
    rw [e] at hl
    obtain ⟨g1, g2⟩ := go ds[i] (List.getElem?_eq_getElem hlt)
    refine ⟨g1, fun σ H => ∃ G' r', Ok X.K C G' H σ r' ∧ Same G1 G' ∧ loopF A F (ds.drop (i + 1)) r' = some o, fun σ' H' ⟨G2, r2, a1, a2, a3⟩ => ⟨_, Nat.sub_lt_sub_left hlt (Nat.lt_succ_self i), G2, r2, a1, a2, rfl, hlt, a3⟩, fun x H3 y => ?_⟩
    obtain ⟨m3, G3, s3, s3', n3, dx⟩ := g2 x H3 y
    have ok3 : Ok X.K C G3 H3 σ r' := ok'.calm s3 m3 s3' n3
    obtain ⟨r2, h3, h4⟩ := Option.bind_eq_some_iff.mp (show (A ds[i] r').bind _ = some o from hl)
    refine ⟨C, G3, r', _, r2, ok3, dx, h3, fun σ2 ok4 _ => ?_⟩
    have sg3 := sg.trans s3
    cases hb : F r2 with
    | none => rw [hb] at h4; cases h4
    | some o2 =>
      rw [hb] at h4
      refine ⟨C, G3, r2, o2, ok4, hb, ?_⟩
      cases o2 with
      | nx r3 => exact fun σ' G4 H4 ok5 s5 => ⟨G4, r3, ok5, sg3.trans s5, h4⟩
      | ct r3 => exact fun σ' G4 H4 ok5 s5 => ⟨G4, r3, ok5, sg3.trans s5, h4⟩
      | bk r3 => cases h4; exact OutOk.mono s3 km
      | rt d r3 => cases h4; exact OutOk.mono s3 km
      | rtO d r3 => cases h4; exact OutOk.mono s3 km
      | rtN d r3 => cases h4; exact OutOk.mono s3 km
  · have e : ds.length = i := by omega
    refine .inl ⟨stop (by omega), ?_⟩
    rw [← e, List.drop_length] at hl
    cases hl
    exact km σ G' H ok' (Same.refl _)
end
end SL
namespace SL
open PySem PySem.Spec PyProof.Rows L2
variable [TBL]
/-! ### comprehensions -/
@[simp] def wipeE (r : Ev) : List Nat → Ev
  | [] => r
  | v :: vs => (wipeE r vs).set v none
/-- the slots of the block's own names are again what they were -/
def backE (r0 r : Ev) : List Nat → Ev
  | [] => r
  | v :: vs => match r0[v]? with
    | some (some (.val d)) => (backE r0 r vs).set v (some (.val d))
    | _ => (backE r0 r vs).set v none
def lcF (vs : List Nat) (A : FG) (t : FT) (f : FE) : List D → Ev → Option (List D × Ev)
  | [], r => some ([], wipeE r vs)
  | d :: ds, r => (A d (wipeE r vs)).bind fun r1 => (t r1).bind fun b => if b.1 = true then (f b.2).bind fun y => (lcF vs A t f ds y.2).map fun z => (y.1 :: z.1, z.2) else lcF vs A t f ds b.2
def lLc (src : FA) (vs : List Nat) (A : FG) (t : FT) (f : FE) : FA := fun r => (src r).bind fun x => (lcF vs A t f x.1 x.2).bind fun z => if z.1.length < sizeLine then some (z.1, backE x.2 z.2 vs) else none
def gYes : FT := fun r => some (true, r)
@[simp] theorem gYes_r (r : Ev) : gYes r = some (true, r) := rfl
section
variable {K : PySem.W.Frag} {C : Ctx} {G H G' H' : Hp} {σ σ' : L2.St} {r r' r0 : Ev}
theorem wipeE_length (r : Ev) : ∀ vs : List Nat, (wipeE r vs).length = r.length
  | [] => rfl
  | v :: vs => by unfold wipeE; rw [List.length_set, wipeE_length r vs]
theorem wipeE_get (i : Nat) (vs : List Nat) : (wipeE r vs)[i]? = if i ∈ vs then r[i]?.map fun _ => none else r[i]? := by
  induction vs with
  | nil => simp
  | cons v vs ih =>
    simp only [wipeE, List.getElem?_set, wipeE_length, ih, List.mem_cons]
    by_cases e : v = i
    · subst e
      by_cases l : v < r.length <;> simp [l]
    · simp [e, Ne.symm e]
theorem wipeE_some {i : Nat} {c : Cell} {vs : List Nat} (h : (wipeE r vs)[i]? = some (some c)) : r[i]? = some (some c) ∧ i ∉ vs := by
  rw [wipeE_get] at h
  by_cases m : i ∈ vs
  · simp [m] at h
  · exact ⟨by simpa [m] using h, m⟩
theorem wipe_off {i : Nat} {vs : List Nat} (h : i ∉ vs) : (wipe σ vs)[i]? = σ[i]? := by
  induction vs with
  | nil => rfl
  | cons v vs ih => simp only [wipe, List.getElem?_set, if_neg (fun z : v = i => h (z ▸ List.mem_cons_self)), ih fun z => h (List.mem_cons_of_mem _ z)]
/-- only the slots change, and only such as nobody knows -/
theorem Ok.slots (ok : Ok K C G H σ r) (hl : r'.length = σ'.length) (h : ∀ (i : Nat) (c : Cell), r'[i]? = some (some c) → (r[i]? = some (some c) ∧ σ'[i]? = σ[i]?) ∨ (c.isOwn = false ∧ ∃ v, σ'[i]? = some (some v) ∧ CellOk K C G H v c)) : Ok K C G H σ' r' where
  sub := ok.sub
  g0 := ok.g0
  gnew := ok.gnew
  prot := ok.prot
  mreal := ok.mreal
  len := hl
  cell := fun i c e => by
    rcases h i c e with ⟨e1, e2⟩ | ⟨_, v, e1, e2⟩
    · obtain ⟨v, e3, h3⟩ := ok.cell i c e1
      exact ⟨v, by rw [e2]; exact e3, h3⟩
    · exact ⟨v, e1, e2⟩
  dis := fun i j c c' e1 e2 o1 o2 e => by
    rcases h i c e1 with ⟨a1, a2⟩ | ⟨a1, _⟩
    · rcases h j c' e2 with ⟨b1, b2⟩ | ⟨b1, _⟩
      · exact ok.dis i j c c' a1 b1 o1 o2 (by rw [← a2, ← b2]; exact e)
      · rw [o2] at b1; cases b1
    · rw [o1] at a1; cases a1
  tabs := ok.tabs
theorem Ok.wipe (ok : Ok K C G H σ r) (vs : List Nat) : Ok K C G H (L2.wipe σ vs) (wipeE r vs) := ok.slots (by rw [wipeE_length, L2.wipe_length]; exact ok.len) fun i c e => by
  obtain ⟨e1, e2⟩ := wipeE_some e
  exact .inl ⟨e1, wipe_off e2⟩
theorem backE_length (r0 r : Ev) : ∀ vs : List Nat, (backE r0 r vs).length = r.length
  | [] => rfl
  | v :: vs => by
    unfold backE
    split <;> rw [List.length_set, backE_length r0 r vs]
theorem backE_some {i : Nat} {c : Cell} : ∀ {vs : List Nat}, (backE r0 r vs)[i]? = some (some c) → (i ∉ vs ∧ r[i]? = some (some c)) ∨ (i ∈ vs ∧ c.isOwn = false ∧ r0[i]? = some (some c))
  | [], h => .inl ⟨by simp, h⟩
  | v :: vs, h => by
    have go : ∀ {x : Option Cell}, ((backE r0 r vs).set v x)[i]? = some (some c) → (x = none ∨ ∃ d, x = some (.val d) ∧ r0[v]? = some (some (.val d))) → (i ∉ v :: vs ∧ r[i]? = some (some c)) ∨ (i ∈ v :: vs ∧ c.isOwn = false ∧ r0[i]? = some (some c)) := fun {x} h hx => by
      rw [List.getElem?_set] at h
      by_cases hi : v = i
      · subst hi
        by_cases l : v < (backE r0 r vs).length
        · rcases hx with rfl | ⟨d, rfl, e⟩ <;> simp [l] at h
          subst h
          exact .inr ⟨List.mem_cons_self, rfl, e⟩
        · simp [l] at h
      · rw [if_neg hi] at h
        exact (backE_some h).imp (fun q => ⟨fun z => (List.mem_cons.mp z).elim (fun z => hi z.symm) q.1, q.2⟩) fun q => ⟨List.mem_cons_of_mem _ q.1, q.2⟩
    unfold backE at h
    split at h
    · rename_i d e
      exact go h (.inr ⟨d, rfl, e⟩)
    · exact go h (.inl rfl)
theorem Ok.back0 {G1 H1 : Hp} {vs : List Nat} (ok0 : Ok K C G1 H1 σ r0) (s : Same G1 G) (ok : Ok K C G H (L2.wipe σ vs) r) : Ok K C G H σ (backE r0 r vs) := ok.slots (by rw [backE_length, ok.len, L2.wipe_length]) fun i c e => by
  rcases backE_some e with ⟨a, b⟩ | ⟨a, b, d⟩
  · exact .inl ⟨b, (wipe_off a).symm⟩
  · refine .inr ⟨b, ?_⟩
    obtain ⟨v, e1, h⟩ := ok0.cell i c d
    refine ⟨v, e1, ?_⟩
    cases c with
    | val d => exact Dp.mono s h
    | own => cases b
    | loan => cases b
    | ownD => cases b
    | tag m => exact h
    | fre d => exact DpN.mono s h
    | ownF => cases b
/-- a list that is being made is kept from all -/
def Ctx.holdX (C : Ctx) (p : Addr) (o : HO) : Ctx := { C with P := upd C.P p o }
abbrev Ctx.hold (C : Ctx) (p : Addr) (xs : List V) : Ctx := C.holdX p (.lst xs)
theorem Ok.holdX {p : Addr} {ho : HO} (ok : Ok K C G H σ r) (n : NewX K C G H σ r p ho) : Ok K (C.holdX p ho) G H σ r where
  sub := ok.sub
  g0 := ok.g0
  gnew := fun a o e => by
    have : a ≠ p := ne_of_none e n.2.2.1
    rcases ok.gnew a o e with h | h
    · exact .inl h
    · exact .inr (by show upd C.P p _ a = none; rw [upd_ne this]; exact h)
  prot := fun a o e hm => by
    by_cases z : a = p
    · subst z
      have e' : upd C.P a ho a = some o := e
      rw [upd_same] at e'
      cases e'
      exact n.2.2.2.1
    · have e' : upd C.P p ho a = some o := e
      rw [upd_ne z] at e'
      exact ok.prot a o e' hm
  mreal := ok.mreal
  len := ok.len
  cell := fun i c e => by
    obtain ⟨v, e1, h⟩ := ok.cell i c e
    refine ⟨v, e1, ?_⟩
    cases c with
    | val d => exact h
    | own ds =>
      obtain ⟨q, ws, rfl, h1, h2, h3, h4⟩ := h
      have hq : q ≠ p := fun z => n.2.2.2.2 i _ e rfl (by rw [e1, z])
      exact ⟨q, ws, rfl, ⟨by show upd C.P p _ q = none; rw [upd_ne hq]; exact h1.1, h1.2⟩, h2, h3, h4⟩
    | loan m ds =>
      obtain ⟨q, ws, rfl, h1, h2, h3, h4⟩ := h
      exact ⟨q, ws, rfl, h1, h2, h3, h4⟩
    | ownD kds =>
      obtain ⟨q, ob, ks, rfl, h1, h2, h3, h4⟩ := h
      have hq : q ≠ p := fun z => n.2.2.2.2 i _ e rfl (by rw [e1, z])
      exact ⟨q, ob, ks, rfl, ⟨by show upd C.P p _ q = none; rw [upd_ne hq]; exact h1.1, h1.2⟩, h2, h3, h4⟩
    | tag m => exact h
    | fre d => exact DpN.imp (Same.refl _) (fun a ha hn => by show upd C.P p _ a = none; rw [upd_ne (fun z => by subst z; exact ha n.2.2.1)]; exact hn) h
    | ownF ds =>
      obtain ⟨q, ws, rfl, h1, h2, h3, h4⟩ := h
      have hq : q ≠ p := fun z => n.2.2.2.2 i _ e rfl (by rw [e1, z])
      exact ⟨q, ws, rfl, ⟨by show upd C.P p _ q = none; rw [upd_ne hq]; exact h1.1, h1.2⟩, h2, h3, DpNAll.imp (Same.refl _) (fun a ha hn => by show upd C.P p _ a = none; rw [upd_ne (fun z => by subst z; exact ha n.2.2.1)]; exact hn) h4⟩
  dis := ok.dis
  tabs := ok.tabs
theorem Ok.hold {p : Addr} {xs : List V} (ok : Ok K C G H σ r) (n : New K C G H σ r p xs) : Ok K (C.hold p xs) G H σ r := ok.holdX n
theorem Ok.unholdX {p : Addr} {ho : HO} (ok : Ok K (C.holdX p ho) G H σ r) (hP : C.P p = none) (hM : p ∉ C.M) (h0 : C.G0 p = none) : Ok K C G H σ r ∧ NewX K C G H σ r p ho := by
  have hp : (C.holdX p ho).P p = some ho := upd_same
  have hH : H p = some ho := ok.prot p _ hp hM
  have hG : G p = none := by
    cases q : G p with
    | none => rfl
    | some u =>
      rcases ok.gnew p u q with h | h
      · have h' : C.G0 p = some u := h
        rw [h0] at h'; cases h'
      · rw [hp] at h; cases h
  refine ⟨⟨ok.sub, ok.g0, fun a o e => ?_, fun a o e hm => ?_, ok.mreal, ok.len, fun i c e => ?_, ok.dis, ok.tabs⟩, hP, hM, hG, hH, fun i c e o z => ?_⟩
  · rcases ok.gnew a o e with h | h
    · exact .inl h
    · by_cases z : a = p
      · subst z; rw [hG] at e; cases e
      · have h' : upd C.P p ho a = none := h
        rw [upd_ne z] at h'
        exact .inr h'
  · have z : a ≠ p := fun z => by subst z; rw [hP] at e; cases e
    exact ok.prot a o (by show upd C.P p _ a = some o; rw [upd_ne z]; exact e) hm
  · obtain ⟨v, e1, h⟩ := ok.cell i c e
    refine ⟨v, e1, ?_⟩
    cases c with
    | val d => exact h
    | own ds =>
      obtain ⟨q, ws, rfl, h1, h2, h3, h4⟩ := h
      have hq : q ≠ p := fun z => by subst z; rw [hp] at h1; cases h1.1
      have h1' : upd C.P p ho q = none := h1.1
      rw [upd_ne hq] at h1'
      exact ⟨q, ws, rfl, ⟨h1', h1.2⟩, h2, h3, h4⟩
    | loan m ds =>
      obtain ⟨q, ws, rfl, h1, h2, h3, h4⟩ := h
      exact ⟨q, ws, rfl, h1, h2, h3, h4⟩
    | ownD kds =>
      obtain ⟨q, ob, ks, rfl, h1, h2, h3, h4⟩ := h
      have hq : q ≠ p := fun z => by subst z; rw [hp] at h1; cases h1.1
      have h1' : upd C.P p ho q = none := h1.1
      rw [upd_ne hq] at h1'
      exact ⟨q, ob, ks, rfl, ⟨h1', h1.2⟩, h2, h3, h4⟩
    | tag m => exact h
    | fre d => exact DpN.imp (Same.refl _) (fun a ha hn => by
        have hn' : upd C.P p ho a = none := hn
        rw [upd_ne (fun z => by subst z; exact ha hG)] at hn'
        exact hn') h
    | ownF ds =>
      obtain ⟨q, ws, rfl, h1, h2, h3, h4⟩ := h
      have hq : q ≠ p := fun z => by subst z; rw [hp] at h1; cases h1.1
      have h1' : upd C.P p ho q = none := h1.1
      rw [upd_ne hq] at h1'
      exact ⟨q, ws, rfl, ⟨h1', h1.2⟩, h2, h3, DpNAll.imp (Same.refl _) (fun a ha hn => by
        have hn' : upd C.P p ho a = none := hn
        rw [upd_ne (fun z => by subst z; exact ha hG)] at hn'
        exact hn') h4⟩
  · obtain ⟨v, e1, h⟩ := ok.cell i c e
    rw [e1] at z; cases z
    cases c with
    | val d => cases o
    | own ds =>
      obtain ⟨q, ws, e2, h1, h2, h3, h4⟩ := h
      cases e2
      rw [hp] at h1; cases h1.1
    | loan m ds =>
      obtain ⟨q, ws, e2, h1, h2, h3, h4⟩ := h
      cases e2
      exact hM (List.mem_of_getElem? h1)
    | ownD kds =>
      obtain ⟨q, ob, ks, e2, h1, h2, h3, h4⟩ := h
      cases e2
      rw [hp] at h1; cases h1.1
    | tag m => cases o
    | fre d => cases o
    | ownF ds =>
      obtain ⟨q, ws, e2, h1, h2, h3, h4⟩ := h
      cases e2
      rw [hp] at h1; cases h1.1
theorem Ok.unhold {p : Addr} {xs : List V} (ok : Ok K (C.hold p xs) G H σ r) (hP : C.P p = none) (hM : p ∉ C.M) (h0 : C.G0 p = none) : Ok K C G H σ r ∧ New K C G H σ r p xs := ok.unholdX hP hM h0
/-- the list that is being made grows -/
theorem NewX.grow {p : Addr} {ho ho' : HO} (n : NewX K C G H σ r p ho) (ok : Ok K C G H σ r) : Ok K C G (upd H p ho') σ r ∧ NewX K C G (upd H p ho') σ r p ho' := by
  refine ⟨⟨fun a u e => ?_, ok.g0, ok.gnew, fun a o e hm => ?_, fun a hm => ?_, ok.len, fun i c e => ?_, ok.dis, ok.tabs.upd (.inl n.2.1)⟩, n.1, n.2.1, n.2.2.1, upd_same, n.2.2.2.2⟩
  · rw [upd_ne (ne_of_none e n.2.2.1)]; exact ok.sub _ _ e
  · have z : a ≠ p := fun z => by subst z; rw [n.1] at e; cases e
    rw [upd_ne z]; exact ok.prot a o e hm
  · have z : a ≠ p := fun z => by subst z; exact n.2.1 hm
    rw [upd_ne z]; exact ok.mreal a hm
  · obtain ⟨v, e1, h⟩ := ok.cell i c e
    refine ⟨v, e1, ?_⟩
    cases c with
    | val d => exact h
    | own ds =>
      obtain ⟨q, ws, rfl, h1, h2, h3, h4⟩ := h
      have hq : q ≠ p := fun z => n.2.2.2.2 i _ e rfl (by rw [e1, z])
      exact ⟨q, ws, rfl, h1, h2, by rw [upd_ne hq]; exact h3, h4⟩
    | loan m ds =>
      obtain ⟨q, ws, rfl, h1, h2, h3, h4⟩ := h
      have hq : q ≠ p := fun z => n.2.2.2.2 i _ e rfl (by rw [e1, z])
      exact ⟨q, ws, rfl, h1, h2, by rw [upd_ne hq]; exact h3, h4⟩
    | ownD kds =>
      obtain ⟨q, ob, ks, rfl, h1, h2, h3, h4⟩ := h
      have hq : q ≠ p := fun z => n.2.2.2.2 i _ e rfl (by rw [e1, z])
      exact ⟨q, ob, ks, rfl, h1, h2, by rw [upd_ne hq]; exact h3, h4⟩
    | tag m => exact h
    | fre d => exact h
    | ownF ds =>
      obtain ⟨q, ws, rfl, h1, h2, h3, h4⟩ := h
      have hq : q ≠ p := fun z => n.2.2.2.2 i _ e rfl (by rw [e1, z])
      exact ⟨q, ws, rfl, h1, h2, by rw [upd_ne hq]; exact h3, h4⟩
theorem New.grow {p : Addr} {xs ys : List V} (n : New K C G H σ r p xs) (ok : Ok K C G H σ r) : Ok K C G (upd H p (.lst ys)) σ r ∧ New K C G (upd H p (.lst ys)) σ r p ys := NewX.grow n ok
end
/-- what is asked of the place where code runs -/
structure Pl (X : Cx) : Prop where
  calm : X.calm = true
  nd : X.N.Nodup
  units : X.A.units + 100 < cLine
  guards : X.A.guards = some []
  own : PassesOwn (model X.prog X.w) X.A X.env X.xe
theorem Pl.blk {X : Cx} (pl : Pl X) {s : Shared} {H : Hp} {scope : Scope} {ce : PySem.Env} {fp : List Addr} : Pl (X.blk s H scope ce fp) := ⟨pl.calm, pl.nd, pl.units, pl.guards, PassesOwn.never⟩
section
variable {X : Cx} {tg e elt iter : Expr} {ifs : List Expr} {scope : Scope} {own : List (Str × Nat)} {src : FA} {A : FG} {L : List Nat} {t : FT} {f : FE} {pos spos : Pos} {p : Bool}
abbrev STs (X : Cx) (ifs : List Expr) (f : FT) : Prop := PTs X ifs (tT X.K false f)
theorem PTs.weak {ifs : List Expr} {t t' : TT} (h : PTs X ifs t) (w : ∀ σ H Q, t' σ H Q → t σ H Q) : PTs X ifs t' := ⟨fun pins s σ H Q I q => h.run pins s σ H Q I (w σ H Q q)⟩
theorem sts_nil : STs X [] gYes := PTs.weak pts_nil fun σ H Q ⟨C, G, r, d, r', ok, hf, k⟩ => by cases hf; exact k G H ok (Same.refl _) (fun m => by cases m)
theorem st_any {t : FT} (h : ST X p e t) : ST X false e t := PT.weak h fun σ H Q ⟨C, G, r, d, r', ok, hf, k⟩ => ⟨C, G, r, d, r', ok, hf, fun G' H' o s m => k G' H' o s (fun q => by cases q)⟩
theorem se_any {f : FE} (h : SE X p e f) : SE X false e f := PE.weak h fun σ H Q ⟨C, G, r, d, r', ok, hf, k⟩ => ⟨C, G, r, d, r', ok, hf, fun v G' H' o s m x => k v G' H' o s (fun q => by cases q) x⟩
theorem sts_one {c : Expr} (h : ST X p c t) : STs X [c] t := pts_one (st_any h)
/-- the reading of a comprehension -/
theorem t_lc {vs : List Nat} (hL : ∀ i ∈ L, i ∈ vs) {σ : L2.St} {H : Hp} {Q : VK} (h : tL X.K false (lLc src vs A t f) σ H Q) : tLc (tI X.K src) (tG X.K A L) (tT X.K false t) (tE X.K false f) vs σ H Q := by
  obtain ⟨C, G, r, ds', r', ok, hf, k⟩ := h
  unfold lLc at hf
  obtain ⟨⟨ds, r0⟩, h1, h2⟩ := Option.bind_eq_some_iff.mp hf
  obtain ⟨⟨zs, rz⟩, h3, h4⟩ := Option.bind_eq_some_iff.mp h2
  split at h4
  · rename_i hz
    cases h4
    refine ⟨C, G, r, ds, r0, ok, h1, fun J G1 H1 o1 s1 tn => fun d hd => ?_⟩
    obtain ⟨oD, nD⟩ := o1.newList (vs := []) hd
    have f1 : C.P d = none := (o1.fresh hd).1
    have f2 : d ∉ C.M := (o1.fresh hd).2.1
    have f3 : C.G0 d = none := by
      cases q : C.G0 d with
      | none => rfl
      | some u => rw [o1.sub _ _ (o1.g0 _ _ q)] at hd; cases hd
    -- what holds between two turns
    refine ⟨fun i m H => ∃ G' r' acc us, Ok X.K (C.hold d us) G' H (wipe σ vs) (wipeE r' vs) ∧ Same G1 G' ∧ DpAll X.K G' us acc ∧ m = ds.length - i ∧ i ≤ ds.length ∧ ∃ ys, lcF vs A t f (ds.drop i) r' = some (ys, rz) ∧ acc ++ ys = zs,
      ⟨_, G1, r0, [], [], (oD.hold nD).wipe vs, Same.refl _, .nil, rfl, Nat.zero_le _, zs, h3, rfl⟩, ?_⟩
    rintro i m H ⟨G', r', acc, us, ok', sg, hu, rfl, hi, ys, hy, hz'⟩
    obtain ⟨go, stop⟩ := tn i G' H sg ok'.sub
    by_cases hlt : i < ds.length
    · refine .inr ?_
      have e : ds.drop i = ds[i] :: ds.drop (i + 1) := List.drop_eq_getElem_cons hlt
      rw [e] at hy
      obtain ⟨g1, g2⟩ := go ds[i] (List.getElem?_eq_getElem hlt)
      refine ⟨g1, fun H => ∃ G' r' acc us, Ok X.K (C.hold d us) G' H (wipe σ vs) (wipeE r' vs) ∧ Same G1 G' ∧ DpAll X.K G' us acc ∧ ∃ ys, lcF vs A t f (ds.drop (i + 1)) r' = some (ys, rz) ∧ acc ++ ys = zs, fun H' ⟨G2, r2, a, u, q1, q2, q3, q4⟩ => ⟨_, Nat.sub_lt_sub_left hlt (Nat.lt_succ_self i), G2, r2, a, u, q1, q2, q3, rfl, hlt, q4⟩, fun x H3 y => ?_⟩
      obtain ⟨m3, G3, s3, s3', n3, dx⟩ := g2 x H3 y
      have ok3 := ok'.calm s3 m3 s3' n3
      obtain ⟨r2, h5, h6⟩ := Option.bind_eq_some_iff.mp (show (A ds[i] (wipeE r' vs)).bind _ = some (ys, rz) from hy)
      obtain ⟨⟨b, r3⟩, h7, h8⟩ := Option.bind_eq_some_iff.mp h6
      refine ⟨_, G3, _, _, r2, ok3, dx, h5, fun σ2 ok4 w4 => ?_⟩
      have wv : wipe σ2 vs = wipe σ vs := by
        rw [w4 vs hL]
        have : ∀ (ws : List Nat), (∀ i ∈ ws, i ∈ vs) → wipe (wipe σ ws) vs = wipe σ vs := by
          intro ws
          induction ws with
          | nil => intro _; rfl
          | cons j js ih =>
            intro hj
            show wipe ((wipe σ js).set j none) vs = _
            rw [wipe_set (hj j List.mem_cons_self), ih fun i hi => hj i (List.mem_cons_of_mem _ hi)]
        exact this vs fun i hi => hi
      refine ⟨wv, _, G3, r2, b, r3, ok4, h7, fun G5 H5 ok5 s5 _ => ?_⟩
      cases b with
      | false =>
        rw [if_neg Bool.false_ne_true] at h8 ⊢
        have w5 := ok5.wipe vs
        rw [wv] at w5
        exact ⟨G5, r3, acc, us, w5, (sg.trans s3).trans s5, DpAll.mono (s3.trans s5) hu, ys, h8, hz'⟩
      | true =>
        rw [if_pos rfl] at h8 ⊢
        obtain ⟨⟨y1, r4⟩, h9, h10⟩ := Option.bind_eq_some_iff.mp h8
        obtain ⟨⟨ys2, rz2⟩, h11, h12⟩ := Option.map_eq_some_iff.mp h10
        cases h12
        refine ⟨_, G5, r3, y1, r4, ok5, h9, fun v G6 H6 ok6 s6 _ x6 => ?_⟩
        obtain ⟨ok7, n7⟩ := ok6.unhold f1 f2 f3
        have hl : us.length < sizeLine := by
          rw [DpAll.length hu]
          have : acc.length ≤ zs.length := by rw [← hz', List.length_append]; omega
          exact Nat.lt_of_le_of_lt this hz
        refine ⟨us, n7.2.2.2.1, hl, ?_⟩
        obtain ⟨ok8, n8⟩ := n7.grow ok7 (ys := us ++ [v])
        have w9 := (ok8.hold n8).wipe vs
        rw [wv] at w9
        refine ⟨G6, r4, acc ++ [y1], us ++ [v], w9, ((sg.trans s3).trans s5).trans s6, DpAll.append (DpAll.mono ((s3.trans s5).trans s6) hu) (.cons x6 .nil), ys2, h11, ?_⟩
        rw [List.append_assoc]
        exact hz'
    · have e : ds.length = i := by omega
      refine .inl ⟨stop (by omega), ?_⟩
      rw [← e, List.drop_length] at hy
      cases hy
      rw [List.append_nil] at hz'
      subst hz'
      obtain ⟨ok7, n7⟩ := ok'.unhold f1 f2 f3
      have ok8 := Ok.back0 o1 sg ok7
      refine k d us G' H ok8 (s1.trans sg) (fun m => by cases m) ⟨f1, f2, n7.2.2.1, n7.2.2.2.1, fun j c e o z => ?_⟩ hu
      have : (C.hold d us).P d = some (.lst us) := upd_same
      obtain ⟨v, e1, hc⟩ := ok8.cell j c e
      rw [e1] at z; cases z
      have hj : j ∉ vs := fun hj => by
        rcases backE_some e with ⟨a, b⟩ | ⟨a, b, _⟩
        · exact a hj
        · rw [o] at b; cases b
      rcases backE_some e with ⟨a, b⟩ | ⟨a, _⟩
      · exact n7.2.2.2.2 j c b o (by rw [wipe_off hj]; exact e1)
      · exact hj a
  · cases h4
theorem sl_lc (pl : Pl X) (hi : SI X tg iter src) (ok : BlkOk X.N X.env.scope scope own) (hL : ∀ i ∈ L, i ∈ own.map (·.2))
    (hg : ∀ (s : Shared) (H : Hp) (C : Addr) (cl : List (Str × Addr)) (fp : List Addr), Pl (X.blk s H scope (compEnvC scope cl C X.env) fp) → SG (X.blk s H scope (compEnvC scope cl C X.env) fp) tg A L) (ht : ∀ (s : Shared) (H : Hp) (C : Addr) (cl : List (Str × Addr)) (fp : List Addr), Pl (X.blk s H scope (compEnvC scope cl C X.env) fp) → STs (X.blk s H scope (compEnvC scope cl C X.env) fp) ifs t)
    (he : ∀ (s : Shared) (H : Hp) (C : Addr) (cl : List (Str × Addr)) (fp : List Addr), Pl (X.blk s H scope (compEnvC scope cl C X.env) fp) → SE (X.blk s H scope (compEnvC scope cl C X.env) fp) false elt f) (hs : ∀ x, foldedSetIterable iter X.env x = pure x := by intro _; rfl) :
    SL X false (.ListComp elt [⟨tg, iter, ifs, 0⟩] scope pos) (lLc src (own.map (·.2)) A t f) := PE.weak (pe_lc pl.calm pl.nd hi ok (fun s H C cl fp => hg s H C cl fp pl.blk) (fun s H C cl fp => ht s H C cl fp pl.blk) (fun s H C cl fp => he s H C cl fp pl.blk) hs) fun σ H Q h => t_lc hL h
/-- x = [..] -/
theorem ss_lcO {i : Nat} {y : Str} {py : Pos} (pl : Pl X) (hy : X.N[i]? = some y) (hyl : X.env.scope.names.lookup y = some .local) (hsw : swapsWith (.ListComp elt [⟨tg, iter, ifs, 0⟩] scope pos) (some (.Name y py)) spos.line X.env = pure true) (hi : SI X tg iter src) (ok : BlkOk X.N X.env.scope scope own) (hL : ∀ i ∈ L, i ∈ own.map (·.2))
    (hg : ∀ (s : Shared) (H : Hp) (C : Addr) (cl : List (Str × Addr)) (fp : List Addr), Pl (X.blk s H scope (compEnvC scope cl C X.env) fp) → SG (X.blk s H scope (compEnvC scope cl C X.env) fp) tg A L) (ht : ∀ (s : Shared) (H : Hp) (C : Addr) (cl : List (Str × Addr)) (fp : List Addr), Pl (X.blk s H scope (compEnvC scope cl C X.env) fp) → STs (X.blk s H scope (compEnvC scope cl C X.env) fp) ifs t)
    (he : ∀ (s : Shared) (H : Hp) (C : Addr) (cl : List (Str × Addr)) (fp : List Addr), Pl (X.blk s H scope (compEnvC scope cl C X.env) fp) → SE (X.blk s H scope (compEnvC scope cl C X.env) fp) false elt f) (hs : ∀ x, foldedSetIterable iter X.env x = pure x := by intro _; rfl) :
    SS X (.Assign [.Name y py] (.ListComp elt [⟨tg, iter, ifs, 0⟩] scope pos) spos) (sSetO i (lLc src (own.map (·.2)) A t f)) := PS.weak (ps_setLc pl.calm pl.nd hy hyl hsw hi ok (fun s H C cl fp => hg s H C cl fp pl.blk) (fun s H C cl fp => ht s H C cl fp pl.blk) (fun s H C cl fp => he s H C cl fp pl.blk) hs) fun E σ H ⟨C, G, r, o, okk, hf, k⟩ => by
  unfold sSetO at hf
  obtain ⟨⟨d, r1⟩, h1, h2⟩ := Option.map_eq_some_iff.mp hf
  cases h2
  exact t_lc hL ⟨C, G, r, d, r1, okk, h1, fun l vs G' H' o' s m n x => k _ G' H' (o'.setO n x) s⟩
theorem ss_lc {i : Nat} {y : Str} {py : Pos} (pl : Pl X) (hy : X.N[i]? = some y) (hyl : X.env.scope.names.lookup y = some .local) (hsw : swapsWith (.ListComp elt [⟨tg, iter, ifs, 0⟩] scope pos) (some (.Name y py)) spos.line X.env = pure true) (hi : SI X tg iter src) (ok : BlkOk X.N X.env.scope scope own) (hL : ∀ i ∈ L, i ∈ own.map (·.2))
    (hg : ∀ (s : Shared) (H : Hp) (C : Addr) (cl : List (Str × Addr)) (fp : List Addr), Pl (X.blk s H scope (compEnvC scope cl C X.env) fp) → SG (X.blk s H scope (compEnvC scope cl C X.env) fp) tg A L) (ht : ∀ (s : Shared) (H : Hp) (C : Addr) (cl : List (Str × Addr)) (fp : List Addr), Pl (X.blk s H scope (compEnvC scope cl C X.env) fp) → STs (X.blk s H scope (compEnvC scope cl C X.env) fp) ifs t)
    (he : ∀ (s : Shared) (H : Hp) (C : Addr) (cl : List (Str × Addr)) (fp : List Addr), Pl (X.blk s H scope (compEnvC scope cl C X.env) fp) → SE (X.blk s H scope (compEnvC scope cl C X.env) fp) false elt f) (hs : ∀ x, foldedSetIterable iter X.env x = pure x := by intro _; rfl) :
    SS X (.Assign [.Name y py] (.ListComp elt [⟨tg, iter, ifs, 0⟩] scope pos) spos) (sSet i (fL (lLc src (own.map (·.2)) A t f))) := PS.weak (ps_setLc pl.calm pl.nd hy hyl hsw hi ok (fun s H C cl fp => hg s H C cl fp pl.blk) (fun s H C cl fp => ht s H C cl fp pl.blk) (fun s H C cl fp => he s H C cl fp pl.blk) hs) fun E σ H ⟨C, G, r, o, okk, hf, k⟩ => by
  unfold sSet fL at hf
  obtain ⟨⟨d, r1⟩, h1, h2⟩ := Option.map_eq_some_iff.mp hf
  cases h2
  obtain ⟨⟨ds, r2⟩, h3, h4⟩ := Option.map_eq_some_iff.mp h1
  cases h4
  exact t_lc hL ⟨C, G, r, ds, _, okk, h3, fun l vs G' H' o' s m n x => k _ (upd G' l (.lst vs)) H' ((n.freeze o').setV (.lst (.inl (.inl upd_same)) (DpAll.mono (same_laid n.2.2.1) x))) (s.trans (same_laid n.2.2.1))⟩
end
end SL
namespace SL
open PySem PySem.Spec PyProof.Rows L2
variable [TBL]
/-! ### the list of a slot is changed -/
/-- the list in a slot, and the slot with another list -/
@[simp] def listAt (i : Nat) (r : Ev) : Option (List D × (List D → Ev)) := match r[i]? with
  | some (some (.own ds)) => some (ds, fun es => r.set i (some (.own es)))
  | some (some (.loan k ds)) => some (ds, fun es => r.set i (some (.loan k es)))
  | _ => none
theorem Ok.listAt {K : PySem.W.Frag} {C : Ctx} {G H : Hp} {σ : L2.St} {r : Ev} {i : Nat} {ds : List D} {put : List D → Ev} (ok : Ok K C G H σ r) (h : listAt i r = some (ds, put)) : ∃ p vs, σ[i]? = some (some (.ref p)) ∧ G p = none ∧ H p = some (.lst vs) ∧ DpAll K G vs ds ∧
    ∀ vs' es, DpAll K G vs' es → Ok K C G (upd H p (.lst vs')) σ (put es) := by
  unfold SL.listAt at h
  split at h
  · rename_i d0 e
    cases h
    obtain ⟨v, e1, p, vs, rfl, h1, h2, h3, h4⟩ := ok.cell i _ e
    exact ⟨p, vs, e1, h2, h3, h4, fun vs' es hd => ok.write e rfl e1 h2 h3 (.inl h1.1) ⟨p, vs', rfl, h1, h2, upd_same, hd⟩ rfl⟩
  · rename_i k d0 e
    cases h
    obtain ⟨v, e1, p, vs, rfl, h1, h2, h3, h4⟩ := ok.cell i _ e
    exact ⟨p, vs, e1, h2, h3, h4, fun vs' es hd => ok.write e rfl e1 h2 h3 (.inr (List.mem_of_getElem? h1)) ⟨p, vs', rfl, h1, h2, upd_same, hd⟩ rfl⟩
  · cases h
section
variable {X : Cx} {e a b : Expr} {es : List Expr} {f fa fb : FE} {g : FA} {pu p q : Bool} {pos pp : Pos} {x : Str} {F F' : FS}
/-- x.append(e) -/
def sApp (i : Nat) (f : FE) : FS := fun r => (listAt i r).bind fun _ => (f r).bind fun y => (listAt i y.2).bind fun z => if z.1.length < sizeLine then some (.nx (z.2 (z.1 ++ [y.1]))) else none
@[simp] theorem sApp_r (i : Nat) (f : FE) (r : Ev) : sApp i f r = (listAt i r).bind fun _ => (f r).bind fun y => (listAt i y.2).bind fun z => if z.1.length < sizeLine then some (.nx (z.2 (z.1 ++ [y.1]))) else none := rfl
theorem ss_app {i : Nat} {px pa : Pos} (hcall : PE X (.Call (.Attribute (.Name x px) "append" pa) [e] [] pp) (tBM X.K "list" rAppend (tVar i) (tCons (tE X.K p f) tNil)))
    (hs : swapsWith (.Call (.Attribute (.Name x px) "append" pa) [e] [] pp) none pos.line X.env = pure false := by rfl) : SS X (.Expr (.Call (.Attribute (.Name x px) "append" pa) [e] [] pp) pos) (sApp i f) :=
  PS.weak (ps_expr hcall hs) fun E σ H ⟨C, G, r, o, ok, hf, k⟩ => by
    unfold sApp at hf
    obtain ⟨⟨d0, p0⟩, h0, hf⟩ := Option.bind_eq_some_iff.mp hf
    obtain ⟨⟨d, r1⟩, h1, hf⟩ := Option.bind_eq_some_iff.mp hf
    obtain ⟨⟨ds, put⟩, h2, hf⟩ := Option.bind_eq_some_iff.mp hf
    split at hf
    · rename_i hz
      cases hf
      obtain ⟨l, vs, e1, _, e2, _, _⟩ := ok.listAt h0
      refine ⟨_, e1, .inl ⟨rfl, _, .inl (.inl e2)⟩, C, G, r, d, r1, ok, h1, fun v G1 H1 o1 s1 m1 x1 => ?_⟩
      obtain ⟨l', vs', e1', _, e2', e3', k'⟩ := o1.listAt h2
      rw [e1] at e1'
      cases e1'
      exact ⟨l, vs', v, rfl, rfl, e2', by rw [DpAll.length e3']; exact hz, k σ G1 _ (k' _ _ (DpAll.append e3' (.cons x1 .nil))) s1⟩
    · cases hf
/-- x[i] = e -/
def sPut (i : Nat) (fi f : FE) : FS := fun r => (f r).bind fun y => (listAt i y.2).bind fun _ => match fi y.2 with
  | some (.int k, r2) => (listAt i r2).bind fun z => (ixN z.1.length k).map fun j => .nx (z.2 (z.1.set j y.1))
  | _ => none
@[simp] theorem sPut_r (i : Nat) (fi f : FE) (r : Ev) : sPut i fi f r = (f r).bind fun y => (listAt i y.2).bind fun _ => match fi y.2 with
  | some (.int k, r2) => (listAt i r2).bind fun z => (ixN z.1.length k).map fun j => .nx (z.2 (z.1.set j y.1))
  | _ => none := rfl
theorem ss_put (i : Nat) {px pa : Pos} {ix : Expr} {fi : FE} (he : SE X p e f) (hi : SE X q ix fi) (hN : X.N[i]? = some x := by rfl) (hv : Vis X.env.scope x := by first | exact Or.inl rfl | exact Or.inr (Or.inl rfl) | exact Or.inr (Or.inr rfl)) (hd : (x == ("__debug__" : Str)) = false := by decide) (hcd : (x == ("__classdict__" : Str)) = false := by decide)
    (ha : ∀ v, assign (.Subscript (.Name x px) ix pa) X.env v = (do
      let ov ← holding [v] (eval (.Name x px) X.env)
      let iv ← holding [v, ov] (eval ix X.env)
      standAt pa
      holding [v, ov, iv] (setItem ov iv v)
      release [v, ov, iv] []) := by intro _; rfl)
    (hs : swapsWithSole [.Subscript (.Name x px) ix pa] e pos.line X.env = pure false := by rfl) (hw : swappedStores [.Subscript (.Name x px) ix pa] e X.env = pure none := by rfl) (h1 : (assignEach [.Subscript (.Name x px) ix pa] X.env).map (·.2) = [assign (.Subscript (.Name x px) ix pa) X.env] := by rfl) :
    SS X (.Assign [.Subscript (.Name x px) ix pa] e pos) (sPut i fi f) :=
  PS.weak (ps_asg he (pg_sub (pe_var hN hv hd hcd) hi set_list ha) hs hw h1) fun E σ H ⟨C, G, r, o, ok, hf, k⟩ => by
    unfold sPut at hf
    obtain ⟨⟨d, r1⟩, h1, hf⟩ := Option.bind_eq_some_iff.mp hf
    obtain ⟨⟨d0, p0⟩, h0, hf⟩ := Option.bind_eq_some_iff.mp hf
    split at hf
    · rename_i kk r2 h2
      obtain ⟨⟨ds, put⟩, h3, hf⟩ := Option.bind_eq_some_iff.mp hf
      obtain ⟨j, h4, h5⟩ := Option.map_eq_some_iff.mp hf
      cases h5
      refine ⟨C, G, r, d, r1, ok, h1, fun v G1 H1 o1 s1 m1 x1 => ?_⟩
      obtain ⟨l, vs, e1, _, e2, _, _⟩ := o1.listAt h0
      refine ⟨_, e1, C, G1, r1, _, r2, o1, h2, fun w G2 H2 o2 s2 m2 x2 => ?_⟩
      cases x2
      obtain ⟨l', vs', e1', _, e2', e3', k'⟩ := o2.listAt h3
      rw [e1] at e1'
      cases e1'
      exact ⟨l, vs', kk, j, rfl, rfl, e2', by rw [DpAll.length e3']; exact h4, k σ G2 _ (k' _ _ (DpAll.set (Dp.mono s2 x1) j e3')) (s1.trans s2)⟩
    · cases hf
/-- x += e -/
def sAug (i : Nat) (g : D → D → Option D) (f : FE) : FS := fun r => match r[i]? with
  | some (some (.val d)) => (f r).bind fun y => (g d y.1).map fun z => .nx (y.2.set i (some (.val z)))
  | _ => none
@[simp] theorem sAug_r (i : Nat) (g : D → D → Option D) (f : FE) (r : Ev) : sAug i g f r = match r[i]? with
  | some (some (.val d)) => (f r).bind fun y => (g d y.1).map fun z => .nx (y.2.set i (some (.val z)))
  | _ => none := rfl
theorem ss_aug {i : Nat} {op : Operator} {ti : TIp} {g : D → D → Option D} {px : Pos} (hN : X.N.Nodup) (hi : X.N[i]? = some x) (hx : Loc X.env.scope x) (he : SE X p e f) (ho : PIp X op ti) (o : Op2 X.K ti g) (hf : X.fn x = true ∨ X.env.scope.names.lookup x = some .local := by first | exact .inl rfl | exact .inr rfl | assumption) :
    SS X (.AugAssign (.Name x px) op e pos) (sAug i g f) := PS.weak (ps_aug hN hi hx he ho hf) fun E σ H ⟨C, G, r, oo, ok, hf, k⟩ => by
  unfold sAug at hf
  split at hf
  · rename_i d e0
    obtain ⟨⟨y, r1⟩, h1, h2⟩ := Option.bind_eq_some_iff.mp hf
    obtain ⟨z, h3, h4⟩ := Option.map_eq_some_iff.mp h2
    cases h4
    obtain ⟨v, e1, hv⟩ := ok.cell i _ e0
    refine ⟨v, e1, C, G, r, y, r1, ok, h1, fun w G1 H1 o1 s1 m1 x1 => ?_⟩
    refine o G1 H1 v w d y z _ o1.sub (.inl (Dp.mono s1 hv)) (.inl x1) h3 (o1.back fun v3 G3 H3 o3 s3 m3 x3 => ?_)
    exact k _ G3 H3 (o3.setV x3) (s1.trans s3)
  · cases hf
@[simp] def iaddD : D → D → Option D
  | .int i, .int j => some (.int (i + j))
  | _, _ => none
theorem o_iadd {K : PySem.W.Frag} : Op2 K (rI0 fun i j => .int (i + j)) iaddD := fun G H x y dx dy dz Q s hx hy e bk => by
  unfold iaddD at e
  split at e
  · cases e; exact ⟨_, _, hx.int, hy.int, bk.val s (.int _)⟩
  · cases e
end
/-! ### what a def promises -/
/-- a value for data -/
def spP (K : PySem.W.Frag) (n : Nat) (fn : List D → Option D) : Sp := fun vs H Q E => ∃ G ds d, Same G H ∧ DpAll K G vs ds ∧ vs.length = n ∧ fn ds = some d ∧ Back K G H d Q
/-- a new list for data -/
def BackO (K : PySem.W.Frag) (G H : Hp) (ds : List D) (Q : VK) : Prop := ∀ p vs G' H', Same G G' → Same H H' → Same G' H' → (∀ a o, G' a = some o → G a = some o ∨ H a = none) → H p = none → G' p = none → H' p = some (.lst vs) → DpAll K G' vs ds → Q (.ref p) H'
def spO (K : PySem.W.Frag) (n : Nat) (fn : List D → Option (List D)) : Sp := fun vs H Q E => ∃ G ds d, Same G H ∧ DpAll K G vs ds ∧ vs.length = n ∧ fn ds = some d ∧ BackO K G H d Q
/-- a value, where the first argument's list is changed -/
def BackM (K : PySem.W.Frag) (G H : Hp) (p : Addr) (d : D) (xs : List D) (Q : VK) : Prop := ∀ v G' H' us, Same G G' → (∀ a o, a ≠ p → H a = some o → H' a = some o) → Same G' H' → (∀ a o, G' a = some o → G a = some o ∨ H a = none) → H' p = some (.lst us) → DpAll K G' us xs → Dp K G' v d → Q v H'
def spM (K : PySem.W.Frag) (n : Nat) (fn : List D → List D → Option (D × List D)) : Sp := fun vs H Q E => ∃ G p us xs ws ds d xs', vs = .ref p :: ws ∧ Same G H ∧ G p = none ∧ H p = some (.lst us) ∧ DpAll K G us xs ∧ DpAll K G ws ds ∧ ws.length = n ∧ fn xs ds = some (d, xs') ∧ BackM K G H p d xs' Q
structure FnG (P : Program) (w : World) (K : PySem.W.Frag) (mg : Str → Option Value) (base : Heap) (CX : CXT) (k : Nat) (f : Addr) (fd : FuncData) (ps : List Str) (sp : Sp) : Prop where
  len : ∀ vs H Q E, sp vs H Q E → vs.length = ps.length
  run : ∀ (A : Around) (out : List PySem.Env) (s : Shared) (H : Hp) (as : Args) (us : List Value) (vs : List V) (Q : VK) (E : XK), Room k A → A.guards = some [] → Env0 P w K mg base A out s H →
    BindsTo s fd as (ps.zip us) → Vals vs us → sp vs H Q E → codeAny (model P w) A (.call (.ref f) as) (CR CX out P w H s Q E) s
section
variable {P : Program} {w : World} {K : PySem.W.Frag} {mg : Str → Option Value} {base : Heap} {CX : CXT} {k : Nat} {f : Addr} {fd : FuncData} {ps : List Str} {sp sp' : Sp}
theorem FnG.imp (F : FnG P w K mg base CX k f fd ps sp) (h : ∀ vs H Q E, sp' vs H Q E → sp vs H Q E) : FnG P w K mg base CX k f fd ps sp' :=
  ⟨fun vs H Q E q => F.len vs H Q E (h _ _ _ _ q), fun A out s H as us vs Q E hr hg e0 hb rv q => F.run A out s H as us vs Q E hr hg e0 hb rv (h _ _ _ _ q)⟩
theorem FnG.up {j : Nat} (F : FnG P w K mg base CX j f fd ps sp) (h : j ≤ k) : FnG P w K mg base CX k f fd ps sp :=
  ⟨F.len, fun A out s H as us vs Q E hr => F.run A out s H as us vs Q E (hr.mono h)⟩
/-- a def's body keeps its promise -/
theorem FnG.ofD {x qual : Str} {params : Arguments} {body : List Stmt} {scope : Scope} {dvs : List V} {kws : List (Str × V)} {N : List Str} (F : FunD K x qual params body scope dvs kws f fd) (S : FnScope N ps scope) (len : ∀ vs H Q E, sp vs H Q E → vs.length = ps.length)
    (hbody : ∀ (cv : Value) (A : Around) (out : List PySem.Env) (s : Shared) (H : Hp) (vs : List V) (Q : VK) (E : XK), Room k (A.deeper (envOfC qual scope s.heap.objs.size f cv)) → A.guards = some [] → sp vs H Q E →
      ∃ t, PSs (cxOf CX P w K mg base N qual scope f cv A out s H E) body t ∧ t { nx := fun _ H' => Q .non H', rt := Q } (start N vs) H) : FnG P w K mg base CX (k + 1) f fd ps sp := by
  obtain ⟨oc, od, dV, kV, doc, pm, an, cv, ct, osl, rfl, lk, hcd, _, _⟩ := F.ex
  refine ⟨len, ?_⟩
  intro A out s H as us vs Q E hr hg e0 hb rv q
  have hin : K.In s.heap := e0.mod.kin.keeps (fun b o z => (e0.bs b o z).1)
  have hno : s.heap.NoLimit := e0.mod.nolimit.keeps (fun b o z => (e0.bs b o z).1)
  have kinds : ∀ y ∈ ps.zip us, scope.names.lookup y.1 = some .local ∨ (scope.names.lookup y.1 = some .cell ∧ ((cellsFrom (s.heap.objs.size + 1) scope.names []).lookup y.1).isSome = true) := by
    rintro ⟨n, v⟩ hy
    refine (S.par n (List.of_mem_zip hy).1).imp id (fun z => ⟨z, ?_⟩)
    exact PySem.W.cellsFrom_some _ _ _ (.inl z)
  apply codeAny_call_function hr.depth (hin _ _ lk) rfl S.co S.gen rfl (PySem.W.codeRec_of hin hcd)
  apply hb
  apply wpAny_newFunctionEnv_cells S.kind kinds
  rintro env rfl s1 ic
  refine ⟨hno.keeps ic.toInCall.keep, codeAny_func ?_⟩
  obtain ⟨t, ht, hq⟩ := hbody cv A out s H vs Q E (hr.deeper _) hg q
  have I := inv_start (CX := CX) (E := E) S hr.hd e0 (len _ _ _ _ q) rv ic
  apply wpAny_mono (ht.run [] s1 (start N vs) H _ I hq)
  · intro fl s' hs
    cases fl with
    | next =>
      obtain ⟨σ2, H2, J, z⟩ := hs
      exact ⟨.non, H2, J.os, J.bare, J.base, J.hok, rfl, z⟩
    | ret u =>
      obtain ⟨v2, σ2, H2, J, rz, z⟩ := hs
      exact ⟨v2, H2, J.os, J.bare, J.base, J.hok, rz, z⟩
    | brk => exact hs.choose_spec.choose_spec.2.elim
    | cont => exact hs.choose_spec.choose_spec.2.elim
  · exact fun e s' hs => hs
end
section
variable {X : Cx} {CX : CXT} {k : Nat} {f : Addr} {fd : FuncData} {ps : List Str} {sp : Sp} {dvs : List V} {ds : List Value} {E : XK} {x : Str} {p q : Bool} {pp pos : Pos} {e : Expr} {es : List Expr} {t : TA} {g : FA}
theorem run_G {pins : List (Addr × Obj)} {σ : L2.St} {H : Hp} {s : Shared} {Q : VK} {us : List Value} {vs : List V} (F : FnG X.prog X.w X.K X.mg X.base CX k f fd ps sp) (hr : Room k X.A) (hgd : X.A.guards = some []) (hb : Binds X.K fd ps ds) (hd : Vals dvs ds) (hx : Passes CX X E)
    (I : Inv X pins σ H s) (rv : Vals vs us) (h : sp (vs ++ dvs) H Q E) : wpAny (model X.prog X.w) X.A (call (.ref f) us) (EP X pins σ Q) X.xe s := by
  have hl : (us ++ ds).length = ps.length := (Vals.length (rv.append hd)).symm.trans (F.len _ _ _ _ h)
  apply wpAny_call
  apply codeAny_mono (F.run X.A X.stack s H ⟨us, []⟩ (us ++ ds) (vs ++ dvs) Q E hr hgd I.env0 (hb s us I.kIn hl) (rv.append hd) h)
  intro r s' hq
  cases r with
  | error e => exact hx pins σ H s e s' I hq
  | ok fl =>
    cases fl with
    | ret u => exact I.after hq
    | next => cases hq
    | brk => cases hq
    | cont => cases hq
theorem pe_callG (F : FnG X.prog X.w X.K X.mg X.base CX k f fd ps sp) (hr : Room k X.A) (hgd : X.A.guards = some []) (hg : Gl X x) (hm : X.mg x = some (.ref f)) (hk : PySem.W.keepIn X.K (.ref f) = true) (hb : Binds X.K fd ps ds) (hd : Vals dvs ds) (hx : Passes CX X E)
    (ha : PA X (e :: es) t) (hdb : (x == ("__debug__" : Str)) = false := by decide) (he : starEach (e :: es) X.env = (false, eval e X.env) :: starEach es X.env := by rfl) (hpl : (backTo pos (starEach es X.env)).any (·.1) = false := by rfl) :
    PE X (.Call (.Name x pp) (e :: es) [] pos) (tCall sp dvs E t) := by
  constructor
  intro pins s σ H Q I h
  apply wpAny_Call_Name_kw
  apply ld_glob I hg hm _ hdb
  apply PySem.W.callWith_K (h₀ := X.base) I.ok.mod.kin hk _ he hpl
  exact thn (ha.run pos pins s σ H _ I h) fun us s1 ⟨vs, H1, I1, r1, q1⟩ => ⟨I1.kIn, run_G F hr hgd hb hd hx I1 r1 q1⟩
theorem aNil_len : ∀ (r : Ev) (ds : List D) (r' : Ev), aNil r = some (ds, r') → ds.length = 0 := fun r ds r' h => by cases h; rfl
theorem aCons_len {f : FE} {g : FA} {n : Nat} (hg : ∀ (r : Ev) (ds : List D) (r' : Ev), g r = some (ds, r') → ds.length = n) : ∀ (r : Ev) (ds : List D) (r' : Ev), aCons f g r = some (ds, r') → ds.length = n + 1 := fun r ds r' h => by
  obtain ⟨x, r1, xs, h1, h2, rfl⟩ := aCons_some h
  rw [List.length_cons, hg _ _ _ h2]
/-- a call of a def that gives a value for data -/
def fCall (fn : List D → Option D) (g : FA) : FE := fun r => (g r).bind fun x => (fn x.1).map fun d => (d, x.2)
@[simp] theorem fCall_r (fn : List D → Option D) (g : FA) (r : Ev) : fCall fn g r = (g r).bind fun x => (fn x.1).map fun d => (d, x.2) := rfl
theorem se_call {n : Nat} {fn : List D → Option D} (F : FnG X.prog X.w X.K X.mg X.base CX0 k f fd ps (spP X.K n fn)) (pl : Pl X) (hr : Room k X.A) (hg : Gl X x) (hm : X.mg x = some (.ref f)) (hk : PySem.W.keepIn X.K (.ref f) = true) (hb : Binds X.K fd ps []) (ha : SA X p (e :: es) g) (hlen : ∀ r ds r', g r = some (ds, r') → ds.length = n)
    (hdb : (x == ("__debug__" : Str)) = false := by decide) (he : starEach (e :: es) X.env = (false, eval e X.env) :: starEach es X.env := by rfl) (hpl : (backTo pos (starEach es X.env)).any (·.1) = false := by rfl) :
    SE X p (.Call (.Name x pp) (e :: es) [] pos) (fCall fn g) := PE.weak (pe_callG (dvs := []) F hr pl.guards hg hm hk hb .nil pass0 ha hdb he hpl) fun σ H Q ⟨C, G, r, d, r', ok, hf, kk⟩ => by
  unfold fCall at hf
  obtain ⟨⟨ds, r1⟩, h1, h2⟩ := Option.bind_eq_some_iff.mp hf
  obtain ⟨d', h3, h4⟩ := Option.map_eq_some_iff.mp h2
  cases h4
  refine ⟨C, G, r, ds, _, ok, h1, fun vs G1 H1 o1 s1 m1 x1 => ⟨G1, ds, d, o1.sub, by rw [List.append_nil]; exact x1, ?_, h3, o1.back fun v G2 H2 o2 s2 m2 x2 => kk v G2 H2 o2 (s1.trans s2) (fun m => (m1 m).trans m2) x2⟩⟩
  rw [List.append_nil, DpAll.length x1, hlen _ _ _ h1]
end
end SL
namespace SL
open PySem PySem.Spec PyProof.Rows L2
/-! ### from a body to its promise -/
def startE (m : Nat) (ds : List D) : Ev := ds.map (fun d => some (.val d)) ++ List.replicate (m - ds.length) none
def startM (m : Nat) (xs : List D) (ds : List D) : Ev := some (.loan 0 xs) :: (ds.map (fun d => some (.val d)) ++ List.replicate (m - (ds.length + 1)) none)
@[simp] def endP : Option Out → Option D
  | some (.rt d _) => some d
  | some (.rtO ds _) => some (.list ds)
  | some (.nx _) => some .none
  | some (.rtN d _) => some d
  | _ => none
@[simp] def endO : Option Out → Option (List D)
  | some (.rtO ds _) => some ds
  | _ => none
@[simp] def lent (r : Ev) : Option (List D) := match (r[0]? : Option (Option Cell)) with
  | some (some (.loan 0 xs)) => some xs
  | _ => none
@[simp] def endM : Option Out → Option (D × List D)
  | some (.rt d r) => (lent r).map fun xs => (d, xs)
  | some (.rtO ds r) => (lent r).map fun xs => (.list ds, xs)
  | some (.nx r) => (lent r).map fun xs => (.none, xs)
  | _ => none
def runP (m : Nat) (F : FS) (ds : List D) : Option D := endP (F (startE m ds))
def runO (m : Nat) (F : FS) (ds : List D) : Option (List D) := endO (F (startE m ds))
def runM (m : Nat) (F : FS) (xs : List D) (ds : List D) : Option (D × List D) := endM (F (startM m xs ds))
section
variable {K : PySem.W.Frag} {C : Ctx} {G H G' H' : Hp} {σ : L2.St} {r : Ev}
theorem start_get {N : List Str} {ds : List D} {vs : List V} (h : DpAll K G vs ds) {m i : Nat} {c : Cell} (e : (startE m ds)[i]? = some (some c)) : ∃ d v, c = .val d ∧ (L2.start N vs)[i]? = some (some v) ∧ Dp K G v d := by
  unfold startE at e
  by_cases hi : i < ds.length
  · rw [List.getElem?_append_left (by rw [List.length_map]; exact hi), List.getElem?_map] at e
    obtain ⟨d, h1, h2⟩ := Option.map_eq_some_iff.mp e
    obtain ⟨v, h3, h4⟩ := DpAll.get h h1
    cases h2
    refine ⟨d, v, rfl, ?_, h4⟩
    unfold L2.start
    rw [List.getElem?_append_left (by rw [List.length_map, DpAll.length h]; exact hi), List.getElem?_map, h3]
    rfl
  · rw [List.getElem?_append_right (by rw [List.length_map]; omega)] at e
    obtain ⟨h1, h2⟩ := List.getElem?_eq_some_iff.mp e
    rw [List.getElem_replicate] at h2
    cases h2
theorem Ok.start {N : List Str} {ds : List D} {vs : List V} (s : Same G H) (h : DpAll K G vs ds) (hl : ds.length ≤ N.length) : Ok K { P := H, G0 := G, M := [] } G H (L2.start N vs) (startE N.length ds) where
  sub := s
  g0 := Same.refl _
  gnew := fun a o e => .inl e
  prot := fun a o e _ => e
  mreal := fun a hm => by cases hm
  len := by
    unfold startE L2.start
    rw [List.length_append, List.length_map, List.length_replicate, List.length_append, List.length_map, List.length_replicate, DpAll.length h]
  cell := fun i c e => by
    obtain ⟨d, v, rfl, h1, h2⟩ := start_get (N := N) h e
    exact ⟨v, h1, h2⟩
  dis := fun i j c c' e1 _ o1 _ => by
    obtain ⟨d, v, rfl, _⟩ := start_get (N := N) h e1
    cases o1
  tabs := fun p hp => absurd (show p ∈ ([] : List (Addr × Str)) from hp) (by simp)
theorem Ok.startM {N : List Str} {ds xs : List D} {ws us : List V} {p : Addr} (s : Same G H) (h : DpAll K G ws ds) (hl : ds.length + 1 ≤ N.length) (hG : G p = none) (hH : H p = some (.lst us)) (hx : DpAll K G us xs) :
    Ok K { P := H, G0 := G, M := [p] } G H (L2.start N (.ref p :: ws)) (SL.startM N.length xs ds) := by
  have hst : L2.start N (.ref p :: ws) = some (.ref p) :: (ws.map some ++ List.replicate (N.length - (ws.length + 1)) none) := rfl
  have get : ∀ {i : Nat} {c : Cell}, (SL.startM N.length xs ds)[i]? = some (some c) → (i = 0 ∧ c = .loan 0 xs) ∨ ∃ d v, c = .val d ∧ (L2.start N (.ref p :: ws))[i]? = some (some v) ∧ Dp K G v d := fun {i c} e => by
    cases i with
    | zero =>
      have e' : some (some (Cell.loan 0 xs)) = some (some c) := e
      cases e'
      exact .inl ⟨rfl, rfl⟩
    | succ j =>
      have e' : (ds.map (fun d => some (Cell.val d)) ++ List.replicate (N.length - (ds.length + 1)) none)[j]? = some (some c) := e
      by_cases hi : j < ds.length
      · rw [List.getElem?_append_left (by rw [List.length_map]; exact hi), List.getElem?_map] at e'
        obtain ⟨d, h1, h2⟩ := Option.map_eq_some_iff.mp e'
        obtain ⟨v, h3, h4⟩ := DpAll.get h h1
        cases h2
        refine .inr ⟨d, v, rfl, ?_, h4⟩
        rw [hst, List.getElem?_cons_succ, List.getElem?_append_left (by rw [List.length_map, DpAll.length h]; exact hi), List.getElem?_map, h3]
        rfl
      · rw [List.getElem?_append_right (by rw [List.length_map]; omega)] at e'
        obtain ⟨h1, h2⟩ := List.getElem?_eq_some_iff.mp e'
        rw [List.getElem_replicate] at h2
        cases h2
  refine ⟨s, Same.refl _, fun a o e => .inl e, fun a o e _ => e, fun a hm => ?_, ?_, fun i c e => ?_, fun i j c c' e1 e2 o1 o2 _ => ?_, fun p hp => absurd (show p ∈ ([] : List (Addr × Str)) from hp) (by simp)⟩
  · obtain rfl : a = p := by simpa using hm
    exact ⟨fun z => (by rw [hH] at z; cases z), hG⟩
  · rw [hst]
    unfold SL.startM
    rw [List.length_cons, List.length_cons, List.length_append, List.length_append, List.length_map, List.length_map, List.length_replicate, List.length_replicate, DpAll.length h]
  · rcases get e with ⟨rfl, rfl⟩ | ⟨d, v, rfl, h1, h2⟩
    · exact ⟨.ref p, rfl, p, us, rfl, rfl, hG, hH, hx⟩
    · exact ⟨v, h1, h2⟩
  · rcases get e1 with ⟨rfl, rfl⟩ | ⟨d, v, rfl, _⟩
    · rcases get e2 with ⟨rfl, rfl⟩ | ⟨d, v, rfl, _⟩
      · rfl
      · cases o2
    · cases o1
end
section
variable {P : Program} {w : World} {K : PySem.W.Frag} {mg : Str → Option Value} {base : Heap} {k : Nat} {f : Addr} {fd : FuncData} {ps : List Str} {x qual : Str} {params : Arguments} {body : List Stmt} {scope : Scope} {dvs : List V} {kws : List (Str × V)} {N : List Str} {F : FS}
/-- the place where a def's body runs -/
abbrev At (P : Program) (w : World) (K : PySem.W.Frag) (mg : Str → Option Value) (base : Heap) (N : List Str) (qual : Str) (scope : Scope) (f : Addr) (cv : Value) (A : Around) (out : List PySem.Env) (s : Shared) (H : Hp) (E : XK) : Cx := (cxOf CX0 P w K mg base N qual scope f cv A out s H E).nox
theorem pl_at {cv : Value} {A : Around} {out : List PySem.Env} {s : Shared} {H : Hp} {E : XK} {j : Nat} (hN : N.Nodup) (hr : Room j (A.deeper (envOfC qual scope s.heap.objs.size f cv))) (hg : A.guards = some []) : Pl (At P w K mg base N qual scope f cv A out s H E) :=
  ⟨rfl, hN, by have := hr.un; show (A.deeper (envOfC qual scope s.heap.objs.size f cv)).units + 100 < cLine; omega, hg, PassesOwn.never⟩
abbrev BodyOk (P : Program) (w : World) (K : PySem.W.Frag) (mg : Str → Option Value) (base : Heap) (k : Nat) (N : List Str) (qual : Str) (scope : Scope) (f : Addr) (body : List Stmt) (F : FS) : Prop :=
  ∀ (cv : Value) (A : Around) (out : List PySem.Env) (s : Shared) (H : Hp) (E : XK), Pl (At P w K mg base N qual scope f cv A out s H E) → Room k (At P w K mg base N qual scope f cv A out s H E).A → SSs (At P w K mg base N qual scope f cv A out s H E) body F
theorem len_ps (S : FnScope N ps scope) : ps.length ≤ N.length := by
  have := congrArg List.length S.pre
  rw [List.length_take] at this
  omega
theorem FnG.pure (DF : FunD K x qual params body scope dvs kws f fd) (S : FnScope N ps scope) (h : BodyOk P w K mg base k N qual scope f body F) : FnG P w K mg base CX0 (k + 1) f fd ps (spP K ps.length (runP N.length F)) := by
  refine FnG.ofD DF S (fun vs H Q E ⟨G, ds, d, _, _, h, _⟩ => h) fun cv A out s H vs Q E hr hg ⟨G, ds, d, s0, h0, hl, hf, bk⟩ => ⟨_, (h cv A out s H E (pl_at S.nd hr hg) hr).nox, ?_⟩
  have hz : ds.length ≤ N.length := by rw [← DpAll.length h0, hl]; exact len_ps S
  unfold runP at hf
  cases hF : F (startE N.length ds) with
  | none => rw [hF] at hf; cases hf
  | some o =>
    rw [hF] at hf
    refine ⟨{ P := H, G0 := G, M := [] }, G, _, o, Ok.start s0 h0 hz, hF, ?_⟩
    have keep : ∀ {H' : Hp} {G' : Hp} {σ' : L2.St} {r : Ev}, Ok K { P := H, G0 := G, M := [] } G' H' σ' r → Same H H' := fun ok a o e => ok.prot a o e (by simp)
    cases o with
    | rt d' r => cases hf; exact fun v σ' G' H' ok s1 hv => bk v G' H' s1 (keep ok) ok.sub ok.gnew hv
    | rtO xs r =>
      cases hf
      intro p vs σ' G' H' ok s1 hP hM hG hH hv
      have sm : Same G' (upd G' p (.lst vs)) := same_laid hG
      refine bk _ (upd G' p (.lst vs)) H' (s1.trans sm) (keep ok) (fun a u e => ?_) (fun a u e => ?_) (.lst (.inl (.inl upd_same)) (DpAll.mono sm hv))
      · by_cases z : a = p
        · subst z; rw [upd_same] at e; cases e; exact hH
        · rw [upd_ne z] at e; exact ok.sub _ _ e
      · by_cases z : a = p
        · subst z; exact .inr hP
        · rw [upd_ne z] at e; exact ok.gnew _ _ e
    | nx r => cases hf; exact fun σ' G' H' ok s1 => bk _ G' H' s1 (keep ok) ok.sub ok.gnew .non
    | rtN d' r => cases hf; exact fun v σ' G' H' ok s1 hv => bk v G' H' s1 (keep ok) ok.sub ok.gnew hv.dp
    | bk => cases hf
    | ct => cases hf
theorem FnG.own (DF : FunD K x qual params body scope dvs kws f fd) (S : FnScope N ps scope) (h : BodyOk P w K mg base k N qual scope f body F) : FnG P w K mg base CX0 (k + 1) f fd ps (spO K ps.length (runO N.length F)) := by
  refine FnG.ofD DF S (fun vs H Q E ⟨G, ds, d, _, _, h, _⟩ => h) fun cv A out s H vs Q E hr hg ⟨G, ds, d, s0, h0, hl, hf, bk⟩ => ⟨_, (h cv A out s H E (pl_at S.nd hr hg) hr).nox, ?_⟩
  have hz : ds.length ≤ N.length := by rw [← DpAll.length h0, hl]; exact len_ps S
  unfold runO at hf
  cases hF : F (startE N.length ds) with
  | none => rw [hF] at hf; cases hf
  | some o =>
    rw [hF] at hf
    refine ⟨{ P := H, G0 := G, M := [] }, G, _, o, Ok.start s0 h0 hz, hF, ?_⟩
    cases o with
    | rtO xs r => cases hf; exact fun p vs σ' G' H' ok s1 hP hM hG hH hv => bk p vs G' H' s1 (fun a o e => ok.prot a o e (by simp)) ok.sub ok.gnew hP hG hH hv
    | rt => cases hf
    | rtN => cases hf
    | nx => cases hf
    | bk => cases hf
    | ct => cases hf
end
section
variable [TBL]
variable {X : Cx} {k : Nat} {f : Addr} {fd : FuncData} {ps : List Str} {x : Str} {p q : Bool} {pp pos : Pos} {e : Expr} {es : List Expr} {g : FA} {n : Nat}
/-- a call that gives a new list -/
def lCall (fn : List D → Option (List D)) (g : FA) : FA := fun r => (g r).bind fun x => (fn x.1).map fun d => (d, x.2)
@[simp] theorem lCall_r (fn : List D → Option (List D)) (g : FA) (r : Ev) : lCall fn g r = (g r).bind fun x => (fn x.1).map fun d => (d, x.2) := rfl
/-- a call that changes the list of a slot, its first argument -/
def fCallM (i : Nat) (fn : List D → List D → Option (D × List D)) (g : FA) : FE := fun r => (listAt i r).bind fun _ => (g r).bind fun x => (listAt i x.2).bind fun z => (fn z.1 x.1).map fun d => (d.1, z.2 d.2)
@[simp] theorem fCallM_r (i : Nat) (fn : List D → List D → Option (D × List D)) (g : FA) (r : Ev) : fCallM i fn g r = (listAt i r).bind fun _ => (g r).bind fun x => (listAt i x.2).bind fun z => (fn z.1 x.1).map fun d => (d.1, z.2 d.2) := rfl
end
end SL
namespace SL
open PySem PySem.Spec PyProof.Rows L2
/-! ### the law's own call -/
/-- the heap in which the script alone is tracked (where it is no object of the module) -/
def onlyAt (a : Addr) (o : Obj) (xs : List V) (yes : Bool) : Hp := fun b => if b = a ∧ yes = true then some (.frz o (.lst xs)) else none
theorem onlyAt_some {a b : Addr} {o : Obj} {xs : List V} {yes : Bool} {u : HO} (h : onlyAt a o xs yes b = some u) : b = a ∧ yes = true ∧ u = .frz o (.lst xs) := by
  unfold onlyAt at h
  split at h
  · rename_i z; cases h; exact ⟨z.1, z.2, rfl⟩
  · cases h
end SL
namespace SL
open PySem PySem.Spec PyProof.Rows L2
variable [TBL]
section
variable {X : Cx} {e a b c : Expr} {es : List Expr} {f fa fb fc : FE} {g : FA} {pu p q s : Bool} {pos pp : Pos} {x : Str}
theorem hu64 (pl : Pl X) : X.A.units + 64 < cLine := by have := pl.units; omega
theorem hu65 (pl : Pl X) : X.A.units + 65 < cLine := by have := pl.units; omega
/-- a < b < c -/
def fChain (o o' : D → D → Option D) (a b c : FE) : FE := fun r => (a r).bind fun x => (b x.2).bind fun y => match o x.1 y.1 with
  | some (.bool true) => (c y.2).bind fun z => (o' y.1 z.1).map fun d => (d, z.2)
  | some (.bool false) => some (.bool false, y.2)
  | _ => none
@[simp] theorem fChain_r (o o' : D → D → Option D) (a b c : FE) (r : Ev) : fChain o o' a b c r = (a r).bind fun x => (b x.2).bind fun y => match o x.1 y.1 with
  | some (.bool true) => (c y.2).bind fun z => (o' y.1 z.1).map fun d => (d, z.2)
  | some (.bool false) => some (.bool false, y.2)
  | _ => none := rfl
theorem t_chain {r r' : R2} {g g' : D → D → Option D} (o : Op2 X.K r g) (o' : Op2 X.K r' g') {σ : L2.St} {H : Hp} {Q : VK} (h : tE X.K (p && (q && s)) (fChain g g' fa fb fc) σ H Q) : tChain r r' (tE X.K p fa) (tE X.K q fb) (tE X.K s fc) σ H Q := by
  obtain ⟨C, G, r0, d, rr, ok, hf, k⟩ := h
  unfold fChain at hf
  obtain ⟨⟨x, r1⟩, h1, hf⟩ := Option.bind_eq_some_iff.mp hf
  obtain ⟨⟨y, r2⟩, h2, hf⟩ := Option.bind_eq_some_iff.mp hf
  refine ⟨C, G, r0, x, r1, ok, h1, fun v G1 H1 ok1 s1 m1 x1 => ⟨C, G1, r1, y, r2, ok1, h2, fun w G2 H2 ok2 s2 m2 x2 => ?_⟩⟩
  dsimp only at hf
  split at hf
  · rename_i h3
    obtain ⟨⟨z, r3⟩, h4, hf⟩ := Option.bind_eq_some_iff.mp hf
    obtain ⟨d', h5, h6⟩ := Option.map_eq_some_iff.mp hf
    cases h6
    refine o G2 H2 v w x y _ _ ok2.sub (.inl (Dp.mono s2 x1)) (.inl x2) h3 (ok2.back fun v3 G3 H3 ok3 s3 m3 x3 => ?_)
    cases x3
    refine ⟨true, rfl, ?_⟩
    rw [if_pos rfl]
    refine ⟨C, G3, r2, z, _, ok3, h4, fun v4 G4 H4 ok4 s4 m4 x4 => ?_⟩
    refine o' G4 H4 w v4 y z d Q ok4.sub (.inl (Dp.mono (s3.trans s4) x2)) (.inl x4) h5 (ok4.back fun v5 G5 H5 ok5 s5 m5 x5 => ?_)
    exact k v5 G5 H5 ok5 ((((s1.trans s2).trans s3).trans s4).trans s5) (fun m => ((((m1 (and1 m)).trans (m2 (and1 (and2 m)))).trans m3).trans (m4 (and2 (and2 m)))).trans m5) x5
  · rename_i h3
    cases hf
    refine o G2 H2 v w x y _ _ ok2.sub (.inl (Dp.mono s2 x1)) (.inl x2) h3 (ok2.back fun v3 G3 H3 ok3 s3 m3 x3 => ?_)
    cases x3
    refine ⟨false, rfl, ?_⟩
    rw [if_neg Bool.false_ne_true]
    exact k _ G3 H3 ok3 ((s1.trans s2).trans s3) (fun m => ((m1 (and1 m)).trans (m2 (and1 (and2 m)))).trans m3) (.bl _)
  · cases hf
theorem st_chain {op op' : CmpOp} {r r' : R2} {g g' : D → D → Option D} (ho : OpR X (compareOp op) r) (o : Op2 X.K r g) (ho' : OpR X (compareOp op') r') (o' : Op2 X.K r' g') (ha : SE X p a fa) (hb : SE X q b fb) (hc : SE X s c fc) (hm : lastMarks [op, op'] [b, c] = false := by with_unfolding_all rfl) :
    ST X (p && (q && s)) (.Compare a [op, op'] [b, c] pos) (gT (fChain g g' fa fb fc)) := PT.weak (pt_chain ho ho' ha hb hc hm) fun σ H Q h => t_bool (fun Q' => t_chain o o') h
/-! ### truth of any value -/
def truD : D → Option Bool
  | .none => some false
  | .bool b => some b
  | .int i => some (i != 0)
  | .str x => if x.length ≤ sizeLine then some ((x.length : Int) != 0) else none
  | .list xs => some (!xs.isEmpty)
  | .tuple xs => some (!xs.isEmpty)
  | _ => none
def gTru (f : FE) : FT := fun r => (f r).bind fun x => (truD x.1).map fun b => (b, x.2)
@[simp] theorem gTru_r (f : FE) (r : Ev) : gTru f r = (f r).bind fun x => (truD x.1).map fun b => (b, x.2) := rfl
theorem isEmpty_dp {K : PySem.W.Frag} {G : Hp} {vs : List V} {ds : List D} (h : DpAll K G vs ds) : vs.isEmpty = ds.isEmpty := by
  cases h <;> rfl
theorem tru_pk {K : PySem.W.Frag} {G H : Hp} {v : V} {d : D} {b : Bool} (s : Same G H) (h : Pk K G H v d) (e : truD d = some b) : TruV K v H b := by
  cases d with
  | none => rw [h.none]; cases e; exact rfl
  | bool c => rw [h.bool]; cases e; exact rfl
  | int i => rw [h.int]; cases e; exact rfl
  | str x =>
    rw [h.str]
    unfold truD at e
    dsimp only at e
    split at e
    · rename_i hz; cases e; exact ⟨hz, rfl⟩
    · cases e
  | list xs =>
    obtain ⟨p, vs, rfl, h1, h2⟩ := h.list s
    cases e
    exact .inl ⟨vs, h1, by rw [isEmpty_dp h2]⟩
  | tuple xs =>
    obtain ⟨p, vs, rfl, h1, h2⟩ := h.tuple s
    cases e
    exact .inr (.inl ⟨vs, h1, by rw [isEmpty_dp h2]⟩)
  | dict => cases e
theorem st_tru (h : SP X p e f) (he : ∀ whole, isTrue e X.env whole = (do let v ← whole; standAt e.pos; holding [v] (truthy v)) := by intro _; rfl) : ST X p e (gTru f) :=
  PT.weak (pt_truth h he) fun σ H Q ⟨C, G, r, d, r', ok, hf, k⟩ => by
    unfold gTru at hf
    obtain ⟨⟨x, r1⟩, h1, h2⟩ := Option.bind_eq_some_iff.mp hf
    obtain ⟨b, h3, h4⟩ := Option.map_eq_some_iff.mp h2
    cases h4
    exact ⟨C, G, r, x, _, ok, h1, fun v G1 H1 o1 s1 m1 x1 => ⟨d, tru_pk o1.sub x1 h3, k G1 H1 o1 s1 m1⟩⟩
/-! ### a new list of two -/
def lCat (fa fb : FE) : FA := fun r => match fa r with
  | some (.list xs, r1) => (match fb r1 with
    | some (.list ys, r2) => if xs.length + ys.length ≤ sizeLine then some (xs ++ ys, r2) else none
    | _ => none)
  | _ => none
@[simp] theorem lCat_r (fa fb : FE) (r : Ev) : lCat fa fb r = match fa r with
  | some (.list xs, r1) => (match fb r1 with
    | some (.list ys, r2) => if xs.length + ys.length ≤ sizeLine then some (xs ++ ys, r2) else none
    | _ => none)
  | _ => none := rfl
end
end SL
namespace SL
open PySem PySem.Spec PyProof.Rows L2
variable [TBL]
theorem call_lenA {X : Cx} : CallR X (.builtin "len") (fun xs H Q => (∃ p ys, xs = [.ref p] ∧ (SqL X.K H p ys ∨ SqT X.K H p ys) ∧ Q (.int ys.length) H) ∨ ∃ z, xs = [.str z] ∧ z.length ≤ sizeLine ∧ Q (.int z.length) H) := CallR.or call_len_seq call_len_str
end SL
/-! Calls with keywords. -/
namespace SL
open PySem PySem.Spec PyProof.Rows L2
variable [TBL]
section
variable {X : Cx} {CX : CXT} {k n m : Nat} {f : Addr} {fd : FuncData} {ps ks : List Str} {sp : Sp} {E : XK} {x y : Str} {p q : Bool} {pp pos kpos : Pos} {e : Expr} {es : List Expr} {kws : List Keyword} {t tk : TA} {g gk : FA} {h2 : List Value → List Value → List Value} {hV : List V → List V → List V}
theorem run_GN {pins : List (Addr × Obj)} {σ : L2.St} {H : Hp} {s : Shared} {Q : VK} {us ws : List Value} {vs zs : List V} (F : FnG X.prog X.w X.K X.mg X.base CX k f fd ps sp) (hr : Room k X.A) (hgd : X.A.guards = some []) (hb : KBn X.K fd ps n ks h2 hV) (hx : Passes CX X E)
    (I : Inv X pins σ H s) (r : Vals vs us) (rz : Vals zs ws) (l1 : vs.length = n) (l2 : zs.length = ks.length) (h : sp (hV vs zs) H Q E) : wpAny (model X.prog X.w) X.A (call (.ref f) us (ks.zip ws)) (EP X pins σ Q) X.xe s := by
  have r2 := hb.rel r rz
  apply wpAny_call
  apply codeAny_mono (F.run X.A X.stack s H ⟨us, ks.zip ws⟩ (h2 us ws) (hV vs zs) Q E hr hgd I.env0 (hb.to s us ws I.kIn (r.length.symm.trans l1) (rz.length.symm.trans l2)) r2 h)
  intro z s' hq
  cases z with
  | error e => exact hx pins σ H s e s' I hq
  | ok fl =>
    cases fl with
    | ret u => exact I.after hq
    | next => cases hq
    | brk => cases hq
    | cont => cases hq
theorem pe_callGN (F : FnG X.prog X.w X.K X.mg X.base CX k f fd ps sp) (hr : Room k X.A) (hgd : X.A.guards = some []) (hg : Gl X x) (hm : X.mg x = some (.ref f)) (hk : PySem.W.keepIn X.K (.ref f) = true) (hb : KBn X.K fd ps n ks h2 hV) (hx : Passes CX X E)
    (ha : PA X (e :: es) t) (hkw : PK X kws tk) (hall : (backToKw pos (keywordEach kws X.env)).all (·.1.isSome) = true := by rfl) (hks : (backToKw pos (keywordEach kws X.env)).filterMap (·.1) = ks := by rfl)
    (hdb : (x == ("__debug__" : Str)) = false := by decide) (he : starEach (e :: es) X.env = (false, eval e X.env) :: starEach es X.env := by rfl)
    (hpl : ((backTo pos (starEach (e :: es) X.env)).any (·.1) || (backToKw pos (keywordEach kws X.env)).any (·.1.isNone)) = false := by rfl) :
    PE X (.Call (.Name x pp) (e :: es) kws pos) (tCallN n ks.length sp hV E t tk) := by
  constructor
  intro pins s σ H Q I h
  apply wpAny_Call_Name_kw
  apply ld_glob I hg hm _ hdb
  apply PySem.W.callWith_KW (h₀ := X.base) I.ok.mod.kin hk hall _ hpl he
  refine thn (ha.run pos pins s σ H _ I h) fun us s1 ⟨vs, H1, I1, r, qq⟩ => ?_
  refine thn (hkw.run pos pins s1 σ H1 _ I1 qq) fun ws s2 ⟨zs, H2, I2, rz, l1, l2, q2⟩ => ⟨I2.kIn, ?_⟩
  rw [hks]
  exact run_GN F hr hgd hb hx I2 r rz l1 l2 q2
/-- the keywords' values -/
abbrev SK (X : Cx) (pu : Bool) (kws : List Keyword) (g : FA) : Prop := PK X kws (tA X.K pu g)
theorem PK.weak {t t' : TA} (h : PK X kws t) (w : ∀ σ H Q, t' σ H Q → t σ H Q) : PK X kws t' := ⟨fun pos pins s σ H Q I z => h.run pos pins s σ H Q I (w σ H Q z)⟩
theorem sk_nil : SK X true [] aNil := PK.weak pk_nil fun σ H Q ⟨C, G, r, d, r', ok, hf, k⟩ => by
  cases hf
  exact k [] G H ok (Same.refl _) (fun _ => Same.refl _) .nil
theorem sk_cons {nm : Option Str} {f : FE} (ha : SE X p e f) (hr : SK X q kws g) : SK X (p && q) (⟨nm, e, kpos⟩ :: kws) (aCons f g) := PK.weak (pk_cons ha hr) fun σ H Q ⟨C, G, r, d, r', ok, hf, k⟩ => by
  obtain ⟨x, r1, xs, h1, h2, rfl⟩ := aCons_some hf
  exact ⟨C, G, r, x, r1, ok, h1, fun v G1 H1 o1 s1 m1 x1 => ⟨C, G1, r1, xs, r', o1, h2, fun vs G2 H2 o2 s2 m2 x2 => k _ G2 H2 o2 (s1.trans s2) (fun m => (m1 (and1 m)).trans (m2 (and2 m))) (.cons (Dp.mono s2 x1) x2)⟩⟩
/-- the values of two rows, one behind the other -/
def aApp (g gk : FA) : FA := fun r => (g r).bind fun x => (gk x.2).map fun y => (x.1 ++ y.1, y.2)
@[simp] theorem aApp_r (g gk : FA) (r : Ev) : aApp g gk r = (g r).bind fun x => (gk x.2).map fun y => (x.1 ++ y.1, y.2) := rfl
theorem aApp_len (h1 : ∀ (r : Ev) (ds : List D) (r' : Ev), g r = some (ds, r') → ds.length = n) (h2 : ∀ (r : Ev) (ds : List D) (r' : Ev), gk r = some (ds, r') → ds.length = m) : ∀ (r : Ev) (ds : List D) (r' : Ev), aApp g gk r = some (ds, r') → ds.length = n + m := fun r ds r' h => by
  unfold aApp at h
  obtain ⟨⟨a, r1⟩, e1, h⟩ := Option.bind_eq_some_iff.mp h
  obtain ⟨⟨b, r2⟩, e2, h⟩ := Option.map_eq_some_iff.mp h
  cases h
  rw [List.length_append, h1 _ _ _ e1, h2 _ _ _ e2]
theorem DpAll.app {K : PySem.W.Frag} {G : Hp} : ∀ {vs : List V} {ds : List D} {ws : List V} {es : List D}, DpAll K G vs ds → DpAll K G ws es → DpAll K G (vs ++ ws) (ds ++ es)
  | [], [], _, _, .nil, h => h
  | _ :: _, _ :: _, _, _, .cons a b, h => .cons a (DpAll.app b h)
theorem kb_of {K : PySem.W.Frag} {qual : Str} {params : Arguments} {body : List Stmt} {scope : Scope} {kwd : List (Str × V)} (F : FunD K x qual params body scope [] kwd f fd) (n : Nat) (ks : List Str)
    (h : ∀ (kV doc pm : Value) (an : Option Addr) (cdv ct : Value) (us ws : List Value), us.length = n → ws.length = ks.length → bindArgs (PySem.W.fnOf x qual params body scope .none kV doc pm an cdv ct) ⟨us, ks.zip ws⟩ = pure (ps.zip (us ++ ws))) :
    KBn K fd ps n ks (fun us ws => us ++ ws) (fun vs zs => vs ++ zs) := by
  obtain ⟨oc, od, dV, kV, doc, pm, an, cdv, ct, osl, rfl, lk, hcd, hD, hK⟩ := F.ex
  rcases hD with ⟨_, rfl⟩ | ⟨e, _⟩
  · exact ⟨fun s us ws X l1 l2 => BindsTo.of_eq (h kV doc pm an cdv ct us ws l1 l2), fun r1 r2 => r1.append r2⟩
  · exact absurd rfl e
theorem pe_callKA (F : FnG X.prog X.w X.K X.mg X.base CX k f fd ps sp) (hr : Room k X.A) (hgd : X.A.guards = some []) (hg : Gl X x) (hm : X.mg x = some (.ref f)) (hk : PySem.W.keepIn X.K (.ref f) = true) (hb : KBn X.K fd ps n ks (fun us ws => us ++ ws) (fun vs zs => vs ++ zs)) (hx : Passes CX X E)
    (ha : SA X p (e :: es) g) (hkw : SK X q kws gk) (hl1 : ∀ r ds r', g r = some (ds, r') → ds.length = n) (hl2 : ∀ r ds r', gk r = some (ds, r') → ds.length = ks.length) (hall : (backToKw pos (keywordEach kws X.env)).all (·.1.isSome) = true := by rfl) (hks : (backToKw pos (keywordEach kws X.env)).filterMap (·.1) = ks := by rfl)
    (hdb : (x == ("__debug__" : Str)) = false := by decide) (he : starEach (e :: es) X.env = (false, eval e X.env) :: starEach es X.env := by rfl)
    (hpl : ((backTo pos (starEach (e :: es) X.env)).any (·.1) || (backToKw pos (keywordEach kws X.env)).any (·.1.isNone)) = false := by rfl) :
    PE X (.Call (.Name x pp) (e :: es) kws pos) (tCall sp [] E (tA X.K (p && q) (aApp g gk))) := PE.weak (pe_callGN F hr hgd hg hm hk hb hx ha hkw hall hks hdb he hpl) fun σ H Q ⟨C, G, r, d, r', ok, hf, kk⟩ => by
  unfold aApp at hf
  obtain ⟨⟨a, r1⟩, e1, hf⟩ := Option.bind_eq_some_iff.mp hf
  obtain ⟨⟨b, r2⟩, e2, hf⟩ := Option.map_eq_some_iff.mp hf
  cases hf
  refine ⟨C, G, r, a, r1, ok, e1, fun vs G1 H1 o1 s1 m1 x1 => ⟨C, G1, r1, b, _, o1, e2, fun zs G2 H2 o2 s2 m2 x2 => ⟨?_, ?_, ?_⟩⟩⟩
  · rw [DpAll.length x1, hl1 _ _ _ e1]
  · rw [DpAll.length x2, hl2 _ _ _ e2]
  · have := kk (vs ++ zs) G2 H2 o2 (s1.trans s2) (fun z => (m1 (and1 z)).trans (m2 (and2 z))) (DpAll.app (DpAll.mono s2 x1) x2)
    simpa only [List.append_nil] using this
/-- from a call's question to a value for data -/
theorem se_ofCall {fn : List D → Option D} (hc : PE X e (tCall (spP X.K n fn) [] E (tA X.K p g))) (hlen : ∀ r ds r', g r = some (ds, r') → ds.length = n) : SE X p e (fCall fn g) := PE.weak hc fun σ H Q ⟨C, G, r, d, r', ok, hf, kk⟩ => by
  unfold fCall at hf
  obtain ⟨⟨ds, r1⟩, h1, h2⟩ := Option.bind_eq_some_iff.mp hf
  obtain ⟨d', h3, h4⟩ := Option.map_eq_some_iff.mp h2
  cases h4
  refine ⟨C, G, r, ds, _, ok, h1, fun vs G1 H1 o1 s1 m1 x1 => ⟨G1, ds, d, o1.sub, by rw [List.append_nil]; exact x1, ?_, h3, o1.back fun v G2 H2 o2 s2 m2 x2 => kk v G2 H2 o2 (s1.trans s2) (fun m => (m1 m).trans m2) x2⟩⟩
  rw [List.append_nil, DpAll.length x1, hlen _ _ _ h1]
end
end SL
/-! repr; a module's builtin function; a hook that also holds such names. -/
namespace SL
open PySem PySem.Spec PyProof.Rows L2
variable [TBL]
def okShow (d : D) : Bool := d.showable && !d.hasDict && decide (d.shown.length ≤ sizeLine) && decide (d.depth ≤ 64)
theorem okShow_iff {d : D} : okShow d = true ↔ d.showable = true ∧ d.hasDict = false ∧ d.shown.length ≤ sizeLine ∧ d.depth ≤ 64 := by
  unfold okShow
  rw [Bool.and_eq_true, Bool.and_eq_true, Bool.and_eq_true, decide_eq_true_iff, decide_eq_true_iff, Bool.not_eq_true', and_assoc, and_assoc]
def isSq : D → Bool
  | .list _ => true
  | .tuple _ => true
  | _ => false
def reprD (d : D) : Option D := if isSq d = true ∧ okShow d = true then some (.str d.shown) else none
def rRepr (K : PySem.W.Frag) : List V → Hp → VK → Prop := fun vs H Q => ∃ v d, vs = [v] ∧ Dp K H v d ∧ isSq d = true ∧ okShow d = true ∧ Q (.str d.shown) H
section
variable {X : Cx}
theorem cr_repr (pl : Pl X) : CallR X (.builtin "repr") (rRepr X.K) := by
  intro pins s σ H vs us Q I r h
  obtain ⟨v, d, rfl, hd, hs, ho, q⟩ := h
  obtain ⟨u, rfl, ru⟩ := Vals.one r
  obtain ⟨h1, h2, h3, h4⟩ := okShow_iff.mp ho
  obtain ⟨as, hr⟩ := L2.Dp.reads I d v u (hd.toL h2) ru
  have hu := hu65 pl
  cases d with
  | list ds =>
    cases hd with
    | lst a b =>
      cases ru
      exact repr_of_reads' hr h1 (PyData.noDict_hsm h2) pl.guards (by omega) (fun _ _ e => e) (fun h' u tk hk => ⟨.str _, H, I.kept hk, ⟨_, rfl⟩, q⟩) h3
  | tuple ds =>
    cases hd with
    | tup a b =>
      cases ru
      exact repr_of_reads' hr h1 (PyData.noDict_hsm h2) pl.guards (by omega) (fun _ _ e => e) (fun h' u tk hk => ⟨.str _, H, I.kept hk, ⟨_, rfl⟩, q⟩) h3
  | none => cases hs
  | bool b => cases hs
  | int i => cases hs
  | str t => cases hs
  | dict k => cases hs
def gcdD : D → D → Option D
  | .int a, .int b => some (.int ((Nat.gcd a.natAbs b.natAbs : Nat) : Int))
  | _, _ => none
@[simp] theorem gcdD_i (a b : Int) : gcdD (.int a) (.int b) = some (.int ((Nat.gcd a.natAbs b.natAbs : Nat) : Int)) := rfl
variable {x : Str} {p q : Bool} {pp pos : Pos} {a b : Expr} {fa fb : FE} {id : String}
end
/-! ### sizes of what is shown -/
theorem strOk_app (a b : Str) : PyData.strOk (a ++ b) = (PyData.strOk a && PyData.strOk b) := by
  show (Array.all (a.cps ++ b.cps) _) = _
  rw [Array.all_append]
  rfl
theorem strOk_of (s : String) : PyData.strOk (Str.ofString s) = true := by
  unfold PyData.strOk
  rw [Str.ofString_eq_toList]
  rw [List.all_toArray, List.all_map, List.all_eq_true]
  intro c _
  refine decide_eq_true ?_
  have := c.valid
  rcases this with h | h
  · exact Nat.lt_trans h (by decide)
  · exact h.2
theorem strOk_join : ∀ {ts : List Str}, (∀ t ∈ ts, PyData.strOk t = true) → PyData.strOk (Str.join ", " ts) = true
  | [], _ => by show Array.all #[] _ = true; simp
  | [x], h => h x (List.mem_cons_self ..)
  | x :: y :: r, h => by
    show PyData.strOk (x ++ ", " ++ Str.join ", " (y :: r)) = true
    rw [strOk_app, strOk_app, h x (List.mem_cons_self ..), strOk_of, strOk_join fun t ht => h t (List.mem_cons_of_mem _ ht)]
    rfl
structure Sw (n : Nat) (d : D) : Prop where
  ok : d.showable = true
  nd : d.hasDict = false
  len : d.shown.length ≤ n
  st : PyData.strOk d.shown = true
theorem Sw.mono {n m : Nat} {d : D} (h : Sw n d) (k : n ≤ m) : Sw m d := ⟨h.1, h.2, Nat.le_trans h.3 k, h.4⟩
theorem Sw.int {k : Nat} {i : Int} (hk : 0 < k) (hk2 : k ≤ 480) (h : i.natAbs < 10 ^ k) : Sw (k + 1) (.int i) := by
  refine ⟨?_, by simp only [PyData.hasDict], ?_, by rw [PyData.shown_int]; exact strOk_of _⟩
  · simp only [PyData.showable]
    refine decide_eq_true ?_
    by_cases z : i.natAbs = 0
    · rw [z]; decide
    · refine (Nat.log2_lt z).mpr (Nat.lt_of_lt_of_le h (Nat.le_trans (Nat.pow_le_pow_left (show 10 ≤ 2 ^ 4 by decide) k) ?_))
      rw [← Nat.pow_mul]
      exact Nat.pow_le_pow_right (by decide) (by omega)
  · rw [PyData.shown_int, PySem.ofString_length]
    exact int_text_length_le10 hk h
theorem Sw.bool (b : Bool) : Sw 5 (.bool b) := ⟨by simp only [PyData.showable], by simp only [PyData.hasDict], by rw [PyData.shown_bool]; cases b <;> decide, by rw [PyData.shown_bool]; cases b <;> exact strOk_of _⟩
theorem Sw.none : Sw 4 .none := ⟨by simp only [PyData.showable], by simp only [PyData.hasDict], by rw [PyData.shown_none]; decide, by rw [PyData.shown_none]; exact strOk_of _⟩
theorem join_le {n : Nat} : ∀ {ts : List Str}, (∀ t ∈ ts, t.length ≤ n) → (Str.join ", " ts).length ≤ ts.length * (n + 2)
  | [], _ => Nat.le_of_eq (by rw [List.length_nil, Nat.zero_mul]; rfl)
  | x :: r, h => by
    have h1 := join_length_add (x :: r) (List.cons_ne_nil _ _)
    have h2 : ∀ {us : List Str}, (∀ t ∈ us, t.length ≤ n) → piled us ≤ us.length * (n + 2) := fun {us} hu => by
      induction us with
      | nil => exact Nat.zero_le _
      | cons y us ih =>
        rw [piled_cons, List.length_cons, Nat.succ_mul]
        have a := ih fun t ht => hu t (List.mem_cons_of_mem _ ht)
        have b := hu y (List.mem_cons_self ..)
        omega
    have := h2 h
    omega
theorem showAll_of {n : Nat} : ∀ {ds : List D}, (∀ d ∈ ds, Sw n d) → PyData.showableAll ds = true ∧ PyData.hasDictAll ds = false ∧ (∀ t ∈ PyData.shownAll ds, t.length ≤ n) ∧ (∀ t ∈ PyData.shownAll ds, PyData.strOk t = true)
  | [], _ => ⟨by simp only [PyData.showableAll], by simp only [PyData.hasDictAll], fun t ht => (by rw [PyData.shownAll_nil] at ht; cases ht), fun t ht => by rw [PyData.shownAll_nil] at ht; cases ht⟩
  | d :: ds, h => by
    obtain ⟨a, b, c, c2⟩ := showAll_of fun e he => h e (List.mem_cons_of_mem _ he)
    have g := h d (List.mem_cons_self ..)
    refine ⟨by simp only [PyData.showableAll, g.ok, a, Bool.and_self], by simp only [PyData.hasDictAll, g.nd, b, Bool.or_self], fun t ht => ?_, fun t ht => ?_⟩
    · rw [PyData.shownAll_cons] at ht
      rcases List.mem_cons.mp ht with rfl | ht
      · exact g.len
      · exact c t ht
    · rw [PyData.shownAll_cons] at ht
      rcases List.mem_cons.mp ht with rfl | ht
      · exact g.st
      · exact c2 t ht
theorem Sw.list {n : Nat} {ds : List D} (h : ∀ d ∈ ds, Sw n d) : Sw (ds.length * (n + 2) + 2) (.list ds) := by
  obtain ⟨a, b, c, c2⟩ := showAll_of h
  refine ⟨by simp only [PyData.showable, a], by simp only [PyData.hasDict, b], ?_, by rw [PyData.shown_list, strOk_app, strOk_app, strOk_of, strOk_of, strOk_join c2]; rfl⟩
  rw [PyData.shown_list, strLen_append, strLen_append]
  have := join_le c
  rw [PyData.shownAll_length] at this
  have e1 : ((("[" : String) : Str)).length = 1 := rfl
  have e2 : ((("]" : String) : Str)).length = 1 := rfl
  omega
theorem Sw.tuple {n : Nat} {ds : List D} (h : ∀ d ∈ ds, Sw n d) : Sw (ds.length * (n + 2) + 3) (.tuple ds) := by
  obtain ⟨a, b, c, c2⟩ := showAll_of h
  refine ⟨by simp only [PyData.showable, a], by simp only [PyData.hasDict, b], ?_, by rw [PyData.shown_tuple, strOk_app, strOk_app, strOk_of, strOk_of, strOk_join c2]; rfl⟩
  rw [PyData.shown_tuple, strLen_append, strLen_append]
  have := join_le c
  rw [PyData.shownAll_length] at this
  have e1 : ((("(" : String) : Str)).length = 1 := rfl
  have e2 : (((if ds.length == 1 then ",)" else ")" : String) : Str)).length ≤ 2 := by split <;> decide
  omega
theorem Sw.repr {n : Nat} {d : D} (h : Sw n d) (hn : n ≤ sizeLine) (hs : isSq d = true) (hd : d.depth ≤ 64) : reprD d = some (.str d.shown) := by
  unfold reprD
  rw [if_pos ⟨hs, okShow_iff.mpr ⟨h.ok, h.nd, Nat.le_trans h.len hn, hd⟩⟩]
/-! ### a hook with more facts -/
def biB (x : Str) (id : String) (K : PySem.W.Frag) : Bool := match PySem.W.nsIn K mainGlobals x with
  | some (some (.builtin i)) => decide (i = id)
  | _ => false
abbrev AlB : Type := Bool × He.AlD
def obsB (ex : List (PySem.W.Frag → Bool)) (fa : List He.Fa) (fn : List He.DefD) (K : PySem.W.Frag) : AlB := (ex.all fun e => e K, He.obsD fa fn K)
def valB (fn : List He.DefD) : AlB := (true, He.valD fn)
def SaysB (ex : List (PySem.W.Frag → Bool)) (fa : List He.Fa) (fn : List He.DefD) (K : PySem.W.Frag) : Prop := obsB ex fa fn K = valB fn
def obsBG (n : Nat) (ex : List (PySem.W.Frag → Bool)) (fa : List He.Fa) (fn : List He.DefD) (g : Addr → Option Obj) : AlB := obsB ex fa fn (He.frG g (He.asD g n))
def hookB (n : Nat) (ex : List (PySem.W.Frag → Bool)) (fa : List He.Fa) (fn : List He.DefD) : PySem.W.Hook where
  α := AlB
  obs := fun s => obsBG n ex fa fn s.heap.get?
  val := fun _ => valB fn
  says := fun _ h => ∃ K : PySem.W.Frag, K.In h ∧ SaysB ex fa fn K
  of := fun _ _ e => ⟨_, He.frG_in, e⟩
  keeps := fun _ _ _ ⟨K, hK, c⟩ k => ⟨K, PySem.W.Frag.In.keeps hK k, c⟩
section
variable {xs : List (PySem.W.Frag → Bool)} {fa : List He.Fa} {fn : List He.DefD} {K : PySem.W.Frag}
theorem SaysB.d (c : SaysB xs fa fn K) : He.SaysD fa fn K := congrArg (fun z : AlB => z.2) c
theorem SaysB.more (c : SaysB xs fa fn K) (i : Nat) {f : PySem.W.Frag → Bool} (h : xs[i]? = some f := by rfl) : f K = true := List.all_eq_true.mp (congrArg (fun z : AlB => z.1) c) f (List.mem_of_getElem? h)
end
end SL
/-! enumerate, zip, reversed as what is walked. -/
namespace SL
open PySem PySem.Spec PyProof.Rows L2
variable [TBL]
def enumL : Nat → List D → List D
  | _, [] => []
  | k, d :: ds => .tuple [.int (k : Nat), d] :: enumL (k + 1) ds
theorem enumL_get : ∀ (k : Nat) (ds : List D) (i : Nat), (enumL k ds)[i]? = (ds[i]?).map fun d => .tuple [.int ((k + i : Nat) : Int), d]
  | _, [], _ => rfl
  | k, d :: ds, 0 => rfl
  | k, d :: ds, i + 1 => by
    show (enumL (k + 1) ds)[i]? = (ds[i]?).map _
    rw [enumL_get (k + 1) ds i, show k + 1 + i = k + (i + 1) by omega]
theorem enumL_length : ∀ (k : Nat) (ds : List D), (enumL k ds).length = ds.length
  | _, [] => rfl
  | k, d :: ds => by
    show (enumL (k + 1) ds).length + 1 = ds.length + 1
    rw [enumL_length]
def zipL : List D → List D → List D
  | d :: ds, e :: es => .tuple [d, e] :: zipL ds es
  | _, _ => []
section
variable {K : PySem.W.Frag} {G H : Hp}
theorem new_tup {G2 H2 : Hp} {T : Addr} {vs : List V} {ds : List D} (s2 : Same G2 H2) (n : H2 T = none) (x : DpAll K G2 vs ds) :
    Same H2 (upd H2 T (.tup vs)) ∧ ∃ G3, Same G2 G3 ∧ Same G3 (upd H2 T (.tup vs)) ∧ (∀ a o, G3 a = some o → G2 a = some o ∨ H2 a = none) ∧ Dp K G3 (.ref T) (.tuple ds) := by
  have ng := s2.free n
  refine ⟨same_laid n, upd G2 T (.tup vs), same_laid ng, fun a u e => ?_, fun a u e => ?_, .tup (.inl (.inl upd_same)) (DpAll.mono (same_laid ng) x)⟩
  · by_cases h : a = T
    · subst h; rw [upd_same] at e ⊢; exact e
    · rw [upd_ne h] at e ⊢; exact s2 _ _ e
  · by_cases h : a = T
    · subst h; exact .inr n
    · rw [upd_ne h] at e; exact .inl e
theorem turns_enum {a : Addr} {vs : List V} {ds : List D} (h1 : SqL K G a vs) (h2 : DpAll K G vs ds) : Turns K (Ite K a) (enumL 0 ds) G := fun i G2 H2 s1 s2 => by
  have q : SqL K H2 a vs := SqL.mono s2 (SqL.mono s1 h1)
  refine ⟨fun d e => ?_, fun h => ⟨vs, q, by rw [enumL_length] at h; rw [DpAll.length h2]; exact h⟩⟩
  rw [enumL_get, Nat.zero_add] at e
  obtain ⟨d', e0, rfl⟩ := Option.map_eq_some_iff.mp e
  obtain ⟨v, e1, dv⟩ := DpAll.get h2 e0
  refine ⟨⟨vs, v, q, e1⟩, fun x H3 ⟨T, y, ex, hT, eH, z⟩ => ?_⟩
  subst ex eH
  rw [z vs q] at e1
  cases e1
  exact new_tup s2 hT (.cons (.int _) (.cons (Dp.mono s1 dv) .nil))
end
@[simp] def lstD : D → Option (List D)
  | .list ds => some ds
  | _ => none
def iEnumD (f : FE) : FA := fun r => (f r).bind fun x => (lstD x.1).map fun ds => (enumL 0 ds, x.2)
@[simp] theorem iEnumD_r (f : FE) (r : Ev) : iEnumD f r = (f r).bind fun x => (lstD x.1).map fun ds => (enumL 0 ds, x.2) := rfl
def iRevD (f : FE) : FA := fun r => (f r).bind fun x => (lstD x.1).map fun ds => (ds.reverse, x.2)
@[simp] theorem iRevD_r (f : FE) (r : Ev) : iRevD f r = (f r).bind fun x => (lstD x.1).map fun ds => (ds.reverse, x.2) := rfl
def iZipD (f g : FE) : FA := fun r => (f r).bind fun x => (g x.2).bind fun y => (lstD x.1).bind fun ds => (lstD y.1).map fun es => (zipL ds es, y.2)
@[simp] theorem iZipD_r (f g : FE) (r : Ev) : iZipD f g r = (f r).bind fun x => (g x.2).bind fun y => (lstD x.1).bind fun ds => (lstD y.1).map fun es => (zipL ds es, y.2) := rfl
section
variable {X : Cx} {tg e e2 a b : Expr} {f g : FE} {p q : Bool} {pp pos tpos : Pos} {elts : List Expr} {kk : Nat}
theorem si_enum (hg : Gl X "enumerate") (hm : X.mg "enumerate" = none) (ha : SE X p e f) (hs : starEach [e] X.env = [(false, eval e X.env)] := by rfl) : SI X (.Tuple elts kk tpos) (.Call (.Name "enumerate" pp) [e] [] pos) (iEnumD f) :=
  PI.weak (pi_enum hg hm (pa_cons ha pa_nil hs) hs) fun σ H R ⟨C, G, r, ds, r', ok, hf, k⟩ => by
    unfold iEnumD at hf
    obtain ⟨⟨d, r1⟩, h1, h2⟩ := Option.bind_eq_some_iff.mp hf
    obtain ⟨ds', h3, h4⟩ := Option.map_eq_some_iff.mp h2
    cases h4
    refine ⟨C, G, r, d, _, ok, h1, fun v G1 H1 o1 s1 m1 x1 => ?_⟩
    cases x1 with
    | lst ha hb => cases h3; exact ⟨_, _, rfl, SqL.mono o1.sub ha, k _ G1 H1 o1 s1 (turns_enum ha hb)⟩
    | tup ha hb => cases h3
    | non => cases h3
    | bl => cases h3
    | int => cases h3
    | str => cases h3
    | dic => cases h3
end
/-! ### x is True -/
def rIsB (neg : Bool) : R2 := fun x y H Q => ∃ b c, x = .bl b ∧ y = .bl c ∧ Q (.bl (neg != (b == c))) H
def isBD (neg : Bool) : D → D → Option D
  | .bool b, .bool c => some (.bool (neg != (b == c)))
  | _, _ => none
@[simp] theorem isBD_b (neg b c : Bool) : isBD neg (.bool b) (.bool c) = some (.bool (neg != (b == c))) := rfl
end SL
namespace SL
open PySem PySem.Spec PyProof.Rows L2
variable [TBL]
/-! ### working out -/
@[simp] theorem addD_i (i j : Int) : addD (.int i) (.int j) = some (.int (i + j)) := rfl
@[simp] theorem subD_i (i j : Int) : subD (.int i) (.int j) = some (.int (i - j)) := rfl
@[simp] theorem ltD_i (i j : Int) : ltD (.int i) (.int j) = some (.bool (decide (i < j))) := rfl
@[simp] theorem leD_i (i j : Int) : leD (.int i) (.int j) = some (.bool (decide (i ≤ j))) := rfl
@[simp] theorem gtD_i (i j : Int) : gtD (.int i) (.int j) = some (.bool (decide (j < i))) := rfl
@[simp] theorem geD_i (i j : Int) : geD (.int i) (.int j) = some (.bool (decide (j ≤ i))) := rfl
@[simp] theorem negD_i (i : Int) : negD (.int i) = some (.int (-i)) := rfl
theorem mulD_r {i j : Int} (h : isSmall j = true) : mulD (.int i) (.int j) = some (.int (i * j)) := by show (if _ then _ else _) = _; rw [if_pos (.inr h)]
theorem mulD_l {i j : Int} (h : isSmall i = true) : mulD (.int i) (.int j) = some (.int (i * j)) := by show (if _ then _ else _) = _; rw [if_pos (.inl h)]
theorem small_of {i : Int} (h1 : -(2 ^ 64) < i) (h2 : i < 2 ^ 64) : isSmall i = true := by
  unfold isSmall
  rw [decide_eq_true h1, decide_eq_true h2]
  rfl
theorem divD_p {i j : Int} (h : 0 < j) (h2 : j < 1073741824) : divD (.int i) (.int j) = some (.int (i / j)) := by
  show (if _ then _ else _) = _
  rw [if_pos ⟨by omega, by omega⟩, Int.fdiv_eq_ediv_of_nonneg _ (Int.le_of_lt h)]
theorem modD_p {i j : Int} (h : 0 < j) : modD (.int i) (.int j) = some (.int (i % j)) := by
  show (if _ then _ else _) = _
  rw [if_pos (by omega), Int.fmod_eq_emod_of_nonneg _ (Int.le_of_lt h)]
@[simp] theorem intD_i (i : Int) : intD (.int i) = some (.int i) := rfl
@[simp] theorem intD_b (b : Bool) : intD (.bool b) = some (.int (if b then 1 else 0)) := rfl
@[simp] theorem lenD_l (ds : List D) : lenD (.list ds) = some (.int ds.length) := rfl
@[simp] theorem lenD_t (ds : List D) : lenD (.tuple ds) = some (.int ds.length) := rfl
@[simp] theorem min2D_i (i j : Int) : min2D (.int i) (.int j) = some (.int (if j < i then j else i)) := rfl
@[simp] theorem max2D_i (i j : Int) : max2D (.int i) (.int j) = some (.int (if j > i then j else i)) := rfl
@[simp] theorem absD_i (i : Int) : absD (.int i) = some (.int (if i < 0 then -i else i)) := rfl
@[simp] theorem truD_b (b : Bool) : truD (.bool b) = some b := rfl
@[simp] theorem truD_l (ds : List D) : truD (.list ds) = some (!ds.isEmpty) := rfl
theorem ixD_l {ds : List D} {i : Int} {d : D} (h : atI ds i = some d) : ixD (.list ds) (.int i) = some d := h
theorem at_nat {α : Type} {xs : List α} {i : Int} {d : α} (h0 : 0 ≤ i) (h : xs[i.toNat]? = some d) : atI xs i = some d := by
  obtain ⟨k, rfl⟩ := Int.eq_ofNat_of_zero_le h0
  exact atI_nat h
/-- a number at a place of a list of numbers -/
theorem ix_ints {ns : List Int} {i : Int} (h0 : 0 ≤ i) (h1 : i < ns.length) : ixD (.list (ns.map .int)) (.int i) = some (.int (ns.getD i.toNat 0)) := by
  have hl : i.toNat < ns.length := by omega
  exact ixD_l (at_nat h0 (by rw [List.getElem?_map, List.getElem?_eq_getElem hl, List.getD_eq_getElem?_getD, List.getElem?_eq_getElem hl]; rfl))
/-- loops, by what holds between two turns -/
theorem loop_ind {A : FG} {body : FS} (P : Nat → Ev → Prop) : ∀ {items : List D} {r : Ev} (k : Nat), P k r → (∀ i d r, items[i]? = some d → P (k + i) r → ∃ r1 r2, A d r = some r1 ∧ (body r1 = some (.nx r2) ∨ body r1 = some (.ct r2)) ∧ P (k + i + 1) r2) →
    ∃ r', loopF A body items r = some (.nx r') ∧ P (k + items.length) r'
  | [], r, k, h0, _ => ⟨r, rfl, h0⟩
  | d :: ds, r, k, h0, hs => by
    obtain ⟨r1, r2, h1, h2, h3⟩ := hs 0 d r rfl h0
    obtain ⟨r', h4, h5⟩ := loop_ind (A := A) (body := body) P (items := ds) (r := r2) (k + 1) h3 fun i d r e hp => by
      have := hs (i + 1) d r (by simpa using e) (by rw [← Nat.add_assoc, Nat.add_right_comm]; exact hp)
      rw [← Nat.add_assoc, Nat.add_right_comm k i 1] at this
      exact this
    refine ⟨r', ?_, by rw [List.length_cons, Nat.add_comm ds.length 1, ← Nat.add_assoc]; exact h5⟩
    show (A d r).bind _ = _
    rw [h1]
    show (match body r1 with | some (.nx r2) => loopF A body ds r2 | some (.ct r2) => loopF A body ds r2 | some (.bk r2) => some (.nx r2) | o => o) = _
    rcases h2 with h2 | h2 <;> rw [h2] <;> exact h4
theorem loop_all {A : FG} {body : FS} (P : Nat → Ev → Prop) {items : List D} {r : Ev} (h0 : P 0 r) (hs : ∀ i d r, items[i]? = some d → P i r → ∃ r1 r2, A d r = some r1 ∧ (body r1 = some (.nx r2) ∨ body r1 = some (.ct r2)) ∧ P (i + 1) r2) :
    ∃ r', loopF A body items r = some (.nx r') ∧ P items.length r' := by
  have := loop_ind (A := A) (body := body) P (items := items) 0 h0 (by simpa using hs)
  simpa using this
theorem loop_fold {α β : Type} {A : FG} {body : FS} (enc : α → D) (P : β → Ev → Prop) (step : β → α → β) : ∀ {xs : List α} {b : β} {r : Ev}, (∀ b x r, x ∈ xs → P b r → ∃ r1 r2, A (enc x) r = some r1 ∧ (body r1 = some (.nx r2) ∨ body r1 = some (.ct r2)) ∧ P (step b x) r2) → P b r →
    ∃ r', loopF A body (xs.map enc) r = some (.nx r') ∧ P (xs.foldl step b) r'
  | [], b, r, _, h => ⟨r, rfl, h⟩
  | x :: xs, b, r, hs, h => by
    obtain ⟨r1, r2, h1, h2, h3⟩ := hs b x r (List.mem_cons_self ..) h
    obtain ⟨r', h4, h5⟩ := loop_fold enc P step (xs := xs) (fun b y r hy => hs b y r (List.mem_cons_of_mem _ hy)) h3
    refine ⟨r', ?_, h5⟩
    show (A (enc x) r).bind _ = _
    rw [h1]
    show (match body r1 with | some (.nx r2) => loopF A body (xs.map enc) r2 | some (.ct r2) => loopF A body (xs.map enc) r2 | some (.bk r2) => some (.nx r2) | o => o) = _
    rcases h2 with h2 | h2 <;> rw [h2] <;> exact h4
theorem sFor_eq {src : FA} {A : FG} {body : FS} {r r1 : Ev} {ds : List D} (h : src r = some (ds, r1)) : sFor src A body r = loopF A body ds r1 := by unfold sFor; rw [h]; rfl
theorem sSeq_nx {F F' : FS} {r r1 : Ev} (h : F r = some (.nx r1)) : sSeq F F' r = F' r1 := by unfold sSeq; rw [h]
theorem sSeq_rt {F F' : FS} {r r1 : Ev} {d : D} (h : F r = some (.rt d r1)) : sSeq F F' r = some (.rt d r1) := by unfold sSeq; rw [h]
/-- comprehensions: each item by itself -/
theorem lcF_gen {vs : List Nat} {A : FG} {t : FT} {f : FE} {w : Ev} {α : Type} (enc : α → D) (p : α → Bool) (g : α → D) : ∀ {xs : List α} {r : Ev}, wipeE r vs = w → (∀ x ∈ xs, ∃ r1 r2, A (enc x) w = some r1 ∧ t r1 = some (p x, r2) ∧ (p x = true → ∃ r3, f r2 = some (g x, r3) ∧ wipeE r3 vs = w) ∧ (p x = false → wipeE r2 vs = w)) →
    lcF vs A t f (xs.map enc) r = some ((xs.filter p).map g, w)
  | [], r, hw, _ => by
    show some ([], wipeE r vs) = _
    rw [hw]; rfl
  | x :: xs, r, hw, h => by
    obtain ⟨r1, r2, h1, h2, h3, h4⟩ := h x List.mem_cons_self
    have ih : ∀ {r : Ev}, wipeE r vs = w → _ := fun {r} hr => lcF_gen enc p g (xs := xs) (r := r) hr fun e he => h e (List.mem_cons_of_mem _ he)
    show (A (enc x) (wipeE r vs)).bind _ = _
    rw [hw, h1]
    show (t r1).bind _ = _
    rw [h2]
    cases hp : p x with
    | true =>
      obtain ⟨r3, h5, h6⟩ := h3 hp
      refine Eq.trans (b := (f r2).bind fun y => (lcF vs A t f (xs.map enc) y.2).map fun z => (y.1 :: z.1, z.2)) rfl ?_
      rw [h5]
      show (lcF vs A t f (xs.map enc) r3).map _ = _
      rw [ih h6, List.filter_cons_of_pos hp]
      rfl
    | false =>
      refine Eq.trans (b := lcF vs A t f (xs.map enc) r2) rfl ?_
      rw [ih (h4 hp), List.filter_cons_of_neg (by rw [hp]; decide)]
theorem lcF_all {vs : List Nat} {A : FG} {f : FE} {w : Ev} {α : Type} (enc : α → D) (g : α → D) {xs : List α} {r : Ev} (hw : wipeE r vs = w) (h : ∀ x ∈ xs, ∃ r1 r3, A (enc x) w = some r1 ∧ f r1 = some (g x, r3) ∧ wipeE r3 vs = w) :
    lcF vs A gYes f (xs.map enc) r = some (xs.map g, w) := by
  have := lcF_gen (vs := vs) (A := A) (t := gYes) (f := f) (w := w) enc (fun _ => true) g (xs := xs) hw fun x hx => by
    obtain ⟨r1, r3, h1, h2, h3⟩ := h x hx
    exact ⟨r1, r1, h1, rfl, fun _ => ⟨r3, h2, h3⟩, fun z => by cases z⟩
  rw [this]
  congr 2
  rw [List.filter_eq_self.mpr (fun _ _ => rfl)]
theorem lLc_eq {src : FA} {vs : List Nat} {A : FG} {t : FT} {f : FE} {r r0 w : Ev} {ds zs : List D} (h1 : src r = some (ds, r0)) (h2 : lcF vs A t f ds r0 = some (zs, w)) (h3 : zs.length < sizeLine) : lLc src vs A t f r = some (zs, backE r0 w vs) := by
  unfold lLc
  rw [h1]
  show (lcF vs A t f ds r0).bind _ = _
  rw [h2]
  show (if zs.length < sizeLine then _ else _) = _
  rw [if_pos h3]
theorem rngL_map (n : Nat) : rngL 0 n = (List.range n).map (fun (i : Nat) => (.int i : D)) := by
  unfold rngL
  congr 1
  funext i
  rw [Int.zero_add]
theorem small_len {n : Nat} (h : n ≤ 10000000) : n < sizeLine := Nat.lt_of_le_of_lt h (by decide)
/-! ### equality, types -/
theorem shp_i (i : Int) : shp (.int i) = true := by simp [shp, SeqAt.shaped, PyData.canLay0, PyData.depth]
theorem shp_b (b : Bool) : shp (.bool b) = true := by simp [shp, SeqAt.shaped, PyData.canLay0, PyData.depth]
@[simp] theorem eqD_i (i j : Int) : eqD (.int i) (.int j) = some (.bool (decide (i = j))) := by
  unfold eqD
  rw [if_pos ⟨shp_i i, shp_i j⟩]
  simp only [PyData.eqv, Bool.beq_eq_decide_eq]
@[simp] theorem neD_i (i j : Int) : neD (.int i) (.int j) = some (.bool (!decide (i = j))) := by
  unfold neD
  rw [if_pos ⟨shp_i i, shp_i j⟩]
  simp only [PyData.eqv, Bool.beq_eq_decide_eq]
@[simp] theorem eqD_b (i j : Bool) : eqD (.bool i) (.bool j) = some (.bool (decide (i = j))) := by
  unfold eqD
  rw [if_pos ⟨shp_b i, shp_b j⟩]
  simp only [PyData.eqv]
  cases i <;> cases j <;> rfl
@[simp] theorem neD_b (i j : Bool) : neD (.bool i) (.bool j) = some (.bool (!decide (i = j))) := by
  unfold neD
  rw [if_pos ⟨shp_b i, shp_b j⟩]
  simp only [PyData.eqv]
  cases i <;> cases j <;> rfl
/-- data without texts and dicts, of a depth -/
def lay : D → Bool
  | .none => true
  | .bool _ => true
  | .int _ => true
  | _ => false
theorem canLay_all : ∀ {ds : List D}, (∀ d ∈ ds, d.canLay0 = true) → PyData.canLayAll0 ds = true
  | [], _ => rfl
  | d :: ds, h => by
    unfold PyData.canLayAll0
    rw [h d List.mem_cons_self, canLay_all fun e he => h e (List.mem_cons_of_mem _ he)]
    rfl
theorem depth_all {n : Nat} : ∀ {ds : List D}, (∀ d ∈ ds, d.depth ≤ n) → PyData.depthAll ds ≤ n
  | [], _ => Nat.zero_le _
  | d :: ds, h => by
    unfold PyData.depthAll
    exact Nat.max_le.mpr ⟨h d List.mem_cons_self, depth_all fun e he => h e (List.mem_cons_of_mem _ he)⟩
/-- so deep, no deeper -/
def Sh (n : Nat) (d : D) : Prop := d.canLay0 = true ∧ d.depth ≤ n
theorem Sh.shp {n : Nat} {d : D} (h : Sh n d) (hn : n ≤ 64 := by decide) : shp d = true := by
  unfold SL.shp SeqAt.shaped
  rw [h.1, decide_eq_true (Nat.le_trans h.2 hn)]
  rfl
theorem Sh.int (n : Nat) (i : Int) : Sh n (.int i) := ⟨by simp [PyData.canLay0], by simp [PyData.depth]⟩
theorem Sh.bool (n : Nat) (i : Bool) : Sh n (.bool i) := ⟨by simp [PyData.canLay0], by simp [PyData.depth]⟩
theorem Sh.str (n : Nat) {i : Str} (h : PyData.strOk i = true) : Sh n (.str i) := ⟨by simp only [PyData.canLay0]; exact h, by simp [PyData.depth]⟩
theorem Sh.none (n : Nat) : Sh n .none := ⟨by simp [PyData.canLay0], by simp [PyData.depth]⟩
theorem Sh.list {n : Nat} {ds : List D} (h : ∀ d ∈ ds, Sh n d) : Sh (n + 1) (.list ds) := ⟨by simp only [PyData.canLay0]; exact canLay_all fun d hd => (h d hd).1, by simp only [PyData.depth]; exact Nat.succ_le_succ (depth_all fun d hd => (h d hd).2)⟩
theorem Sh.tuple {n : Nat} {ds : List D} (h : ∀ d ∈ ds, Sh n d) : Sh (n + 1) (.tuple ds) := ⟨by simp only [PyData.canLay0]; exact canLay_all fun d hd => (h d hd).1, by simp only [PyData.depth]; exact Nat.succ_le_succ (depth_all fun d hd => (h d hd).2)⟩
theorem Sh.ints (ns : List Int) : Sh 1 (.list (ns.map .int)) := Sh.list fun d hd => by
  obtain ⟨i, _, rfl⟩ := List.mem_map.mp hd
  exact Sh.int 0 i
theorem Sh.bools (ns : List Bool) : Sh 1 (.list (ns.map .bool)) := Sh.list fun d hd => by
  obtain ⟨i, _, rfl⟩ := List.mem_map.mp hd
  exact Sh.bool 0 i
theorem eqD_self {d : D} (h : shp d = true) : eqD d d = some (.bool true) := by
  unfold eqD
  rw [if_pos ⟨h, h⟩, SeqAt.eqv_refl _ (SeqAt.canLay_of_shaped h)]
theorem neD_self {d : D} (h : shp d = true) : neD d d = some (.bool false) := by
  unfold neD
  rw [if_pos ⟨h, h⟩, SeqAt.eqv_refl _ (SeqAt.canLay_of_shaped h)]
  rfl
@[simp] theorem isi_int_i (i : Int) : isiD "int" (.int i) = some (.bool true) := by
  show (kitB "int" "int").map _ = _
  rw [show kitB "int" "int" = some true by decide +kernel]; rfl
@[simp] theorem isi_bool_i (i : Int) : isiD "bool" (.int i) = some (.bool false) := by
  show (kitB "int" "bool").map _ = _
  rw [show kitB "int" "bool" = some false by decide +kernel]; rfl
@[simp] theorem isi_bool_b (i : Bool) : isiD "bool" (.bool i) = some (.bool true) := by
  show (kitB "bool" "bool").map _ = _
  rw [show kitB "bool" "bool" = some true by decide +kernel]; rfl
@[simp] theorem isi_int_b (i : Bool) : isiD "int" (.bool i) = some (.bool true) := by
  show (kitB "bool" "int").map _ = _
  rw [show kitB "bool" "int" = some true by decide +kernel]; rfl
@[simp] theorem isi_int_l (ds : List D) : isiD "int" (.list ds) = some (.bool false) := by
  show (kitB "list" "int").map _ = _
  rw [show kitB "list" "int" = some false by decide +kernel]; rfl
@[simp] theorem isi_int_t (ds : List D) : isiD "int" (.tuple ds) = some (.bool false) := by
  show (kitB "tuple" "int").map _ = _
  rw [show kitB "tuple" "int" = some false by decide +kernel]; rfl
@[simp] theorem isi_int_s (t : Str) : isiD "int" (.str t) = some (.bool false) := by
  show (kitB "str" "int").map _ = _
  rw [show kitB "str" "int" = some false by decide +kernel]; rfl
@[simp] theorem isi_int_n  : isiD "int" .none = some (.bool false) := by
  show (kitB "NoneType" "int").map _ = _
  rw [show kitB "NoneType" "int" = some false by decide +kernel]; rfl
@[simp] theorem isi_bool_l (ds : List D) : isiD "bool" (.list ds) = some (.bool false) := by
  show (kitB "list" "bool").map _ = _
  rw [show kitB "list" "bool" = some false by decide +kernel]; rfl
@[simp] theorem isi_bool_t (ds : List D) : isiD "bool" (.tuple ds) = some (.bool false) := by
  show (kitB "tuple" "bool").map _ = _
  rw [show kitB "tuple" "bool" = some false by decide +kernel]; rfl
@[simp] theorem isi_bool_s (t : Str) : isiD "bool" (.str t) = some (.bool false) := by
  show (kitB "str" "bool").map _ = _
  rw [show kitB "str" "bool" = some false by decide +kernel]; rfl
@[simp] theorem isi_bool_n  : isiD "bool" .none = some (.bool false) := by
  show (kitB "NoneType" "bool").map _ = _
  rw [show kitB "NoneType" "bool" = some false by decide +kernel]; rfl
@[simp] theorem isi_str_l (ds : List D) : isiD "str" (.list ds) = some (.bool false) := by
  show (kitB "list" "str").map _ = _
  rw [show kitB "list" "str" = some false by decide +kernel]; rfl
@[simp] theorem isi_str_t (ds : List D) : isiD "str" (.tuple ds) = some (.bool false) := by
  show (kitB "tuple" "str").map _ = _
  rw [show kitB "tuple" "str" = some false by decide +kernel]; rfl
@[simp] theorem isi_str_s (t : Str) : isiD "str" (.str t) = some (.bool true) := by
  show (kitB "str" "str").map _ = _
  rw [show kitB "str" "str" = some true by decide +kernel]; rfl
@[simp] theorem isi_str_i (t : Int) : isiD "str" (.int t) = some (.bool false) := by
  show (kitB "int" "str").map _ = _
  rw [show kitB "int" "str" = some false by decide +kernel]; rfl
@[simp] theorem isi_str_b (t : Bool) : isiD "str" (.bool t) = some (.bool false) := by
  show (kitB "bool" "str").map _ = _
  rw [show kitB "bool" "str" = some false by decide +kernel]; rfl
@[simp] theorem isi_str_n  : isiD "str" .none = some (.bool false) := by
  show (kitB "NoneType" "str").map _ = _
  rw [show kitB "NoneType" "str" = some false by decide +kernel]; rfl
@[simp] theorem isi_list_l (ds : List D) : isiD "list" (.list ds) = some (.bool true) := by
  show (kitB "list" "list").map _ = _
  rw [show kitB "list" "list" = some true by decide +kernel]; rfl
@[simp] theorem isi_list_t (ds : List D) : isiD "list" (.tuple ds) = some (.bool false) := by
  show (kitB "tuple" "list").map _ = _
  rw [show kitB "tuple" "list" = some false by decide +kernel]; rfl
@[simp] theorem isi_list_s (t : Str) : isiD "list" (.str t) = some (.bool false) := by
  show (kitB "str" "list").map _ = _
  rw [show kitB "str" "list" = some false by decide +kernel]; rfl
@[simp] theorem isi_list_i (t : Int) : isiD "list" (.int t) = some (.bool false) := by
  show (kitB "int" "list").map _ = _
  rw [show kitB "int" "list" = some false by decide +kernel]; rfl
@[simp] theorem isi_list_b (t : Bool) : isiD "list" (.bool t) = some (.bool false) := by
  show (kitB "bool" "list").map _ = _
  rw [show kitB "bool" "list" = some false by decide +kernel]; rfl
@[simp] theorem isi_list_n  : isiD "list" .none = some (.bool false) := by
  show (kitB "NoneType" "list").map _ = _
  rw [show kitB "NoneType" "list" = some false by decide +kernel]; rfl
@[simp] theorem isi_tuple_l (ds : List D) : isiD "tuple" (.list ds) = some (.bool false) := by
  show (kitB "list" "tuple").map _ = _
  rw [show kitB "list" "tuple" = some false by decide +kernel]; rfl
@[simp] theorem isi_tuple_t (ds : List D) : isiD "tuple" (.tuple ds) = some (.bool true) := by
  show (kitB "tuple" "tuple").map _ = _
  rw [show kitB "tuple" "tuple" = some true by decide +kernel]; rfl
@[simp] theorem isi_tuple_s (t : Str) : isiD "tuple" (.str t) = some (.bool false) := by
  show (kitB "str" "tuple").map _ = _
  rw [show kitB "str" "tuple" = some false by decide +kernel]; rfl
@[simp] theorem isi_tuple_i (t : Int) : isiD "tuple" (.int t) = some (.bool false) := by
  show (kitB "int" "tuple").map _ = _
  rw [show kitB "int" "tuple" = some false by decide +kernel]; rfl
@[simp] theorem isi_tuple_b (t : Bool) : isiD "tuple" (.bool t) = some (.bool false) := by
  show (kitB "bool" "tuple").map _ = _
  rw [show kitB "bool" "tuple" = some false by decide +kernel]; rfl
@[simp] theorem isi_tuple_n  : isiD "tuple" .none = some (.bool false) := by
  show (kitB "NoneType" "tuple").map _ = _
  rw [show kitB "NoneType" "tuple" = some false by decide +kernel]; rfl
theorem okR_of {i : Int} (h1 : -(2 ^ 62) ≤ i) (h2 : i < 2 ^ 62) : okR i = true := by
  unfold okR
  rw [decide_eq_true h1, decide_eq_true h2]
  rfl
/-- a loop that may be left -/
theorem loop_brk {A : FG} {body : FS} (P : Nat → Ev → Prop) (Q : Ev → Prop) : ∀ {items : List D} {r : Ev} (k : Nat), P k r → (∀ i d r, items[i]? = some d → P (k + i) r → ∃ r1, A d r = some r1 ∧ ((∃ r2, (body r1 = some (.nx r2) ∨ body r1 = some (.ct r2)) ∧ P (k + i + 1) r2) ∨ ∃ r2, body r1 = some (.bk r2) ∧ Q r2)) →
    ∃ r', loopF A body items r = some (.nx r') ∧ (P (k + items.length) r' ∨ Q r')
  | [], r, k, h0, _ => ⟨r, rfl, .inl h0⟩
  | d :: ds, r, k, h0, hs => by
    obtain ⟨r1, h1, h2⟩ := hs 0 d r rfl h0
    rcases h2 with ⟨r2, h2, h3⟩ | ⟨r2, h2, h3⟩
    · obtain ⟨r', h4, h5⟩ := loop_brk (A := A) (body := body) P Q (items := ds) (r := r2) (k + 1) h3 fun i d r e hp => by
        have := hs (i + 1) d r (by simpa using e) (by rw [← Nat.add_assoc, Nat.add_right_comm]; exact hp)
        rw [← Nat.add_assoc, Nat.add_right_comm k i 1] at this
        exact this
      refine ⟨r', ?_, by rw [List.length_cons, Nat.add_comm ds.length 1, ← Nat.add_assoc]; exact h5⟩
      show (A d r).bind _ = _
      rw [h1]
      show (match body r1 with | some (.nx r2) => loopF A body ds r2 | some (.ct r2) => loopF A body ds r2 | some (.bk r2) => some (.nx r2) | o => o) = _
      rcases h2 with h2 | h2 <;> rw [h2] <;> exact h4
    · refine ⟨r2, ?_, .inr h3⟩
      show (A d r).bind _ = _
      rw [h1]
      show (match body r1 with | some (.nx r2) => loopF A body ds r2 | some (.ct r2) => loopF A body ds r2 | some (.bk r2) => some (.nx r2) | o => o) = _
      rw [h2]
/-! ### items at written places -/
theorem atI_lit {α : Type} (ds : List α) (n : Nat) : atI ds (n : Int) = ds[n]? := by
  unfold atI ixN
  rw [if_pos (by omega)]
  by_cases h : n < ds.length
  · rw [if_pos (by omega)]; rfl
  · rw [if_neg (by omega), List.getElem?_eq_none (by omega)]; rfl
@[simp] theorem ixL_0 (ds : List D) : ixD (.list ds) (.int 0) = ds[0]? := atI_lit ds 0
@[simp] theorem ixT_0 (ds : List D) : ixD (.tuple ds) (.int 0) = ds[0]? := atI_lit ds 0
@[simp] theorem ixL_1 (ds : List D) : ixD (.list ds) (.int 1) = ds[1]? := atI_lit ds 1
@[simp] theorem ixT_1 (ds : List D) : ixD (.tuple ds) (.int 1) = ds[1]? := atI_lit ds 1
@[simp] theorem ixL_2 (ds : List D) : ixD (.list ds) (.int 2) = ds[2]? := atI_lit ds 2
@[simp] theorem ixT_2 (ds : List D) : ixD (.tuple ds) (.int 2) = ds[2]? := atI_lit ds 2
@[simp] theorem ixL_3 (ds : List D) : ixD (.list ds) (.int 3) = ds[3]? := atI_lit ds 3
@[simp] theorem ixT_3 (ds : List D) : ixD (.tuple ds) (.int 3) = ds[3]? := atI_lit ds 3
@[simp] theorem ixL_4 (ds : List D) : ixD (.list ds) (.int 4) = ds[4]? := atI_lit ds 4
@[simp] theorem ixT_4 (ds : List D) : ixD (.tuple ds) (.int 4) = ds[4]? := atI_lit ds 4
@[simp] theorem ixL_5 (ds : List D) : ixD (.list ds) (.int 5) = ds[5]? := atI_lit ds 5
@[simp] theorem ixT_5 (ds : List D) : ixD (.tuple ds) (.int 5) = ds[5]? := atI_lit ds 5
@[simp] theorem ixL_6 (ds : List D) : ixD (.list ds) (.int 6) = ds[6]? := atI_lit ds 6
@[simp] theorem ixT_6 (ds : List D) : ixD (.tuple ds) (.int 6) = ds[6]? := atI_lit ds 6
@[simp] theorem ixL_7 (ds : List D) : ixD (.list ds) (.int 7) = ds[7]? := atI_lit ds 7
@[simp] theorem ixT_7 (ds : List D) : ixD (.tuple ds) (.int 7) = ds[7]? := atI_lit ds 7
@[simp] theorem ixL_8 (ds : List D) : ixD (.list ds) (.int 8) = ds[8]? := atI_lit ds 8
@[simp] theorem ixT_8 (ds : List D) : ixD (.tuple ds) (.int 8) = ds[8]? := atI_lit ds 8
@[simp] theorem ixL_9 (ds : List D) : ixD (.list ds) (.int 9) = ds[9]? := atI_lit ds 9
@[simp] theorem ixT_9 (ds : List D) : ixD (.tuple ds) (.int 9) = ds[9]? := atI_lit ds 9
@[simp] theorem ixL_10 (ds : List D) : ixD (.list ds) (.int 10) = ds[10]? := atI_lit ds 10
@[simp] theorem ixT_10 (ds : List D) : ixD (.tuple ds) (.int 10) = ds[10]? := atI_lit ds 10
@[simp] theorem ixL_11 (ds : List D) : ixD (.list ds) (.int 11) = ds[11]? := atI_lit ds 11
@[simp] theorem ixT_11 (ds : List D) : ixD (.tuple ds) (.int 11) = ds[11]? := atI_lit ds 11
@[simp] theorem ixL_12 (ds : List D) : ixD (.list ds) (.int 12) = ds[12]? := atI_lit ds 12
@[simp] theorem ixT_12 (ds : List D) : ixD (.tuple ds) (.int 12) = ds[12]? := atI_lit ds 12
@[simp] theorem ix_two (a b : D) (c : Prop) [Decidable c] : ixD (.list [a, b]) (.int (if c then 1 else 0)) = some (if c then b else a) := by
  by_cases h : c
  · rw [if_pos h, if_pos h]; rfl
  · rw [if_neg h, if_neg h]; rfl
@[simp] theorem ix_twoB (a b : D) (c : Bool) : ixD (.list [a, b]) (.int (if c then 1 else 0)) = some (if c then b else a) := by
  cases c <;> rfl
/-! ### slices -/
def cutL {α : Type} (xs : List α) (lo hi : Option Int) : List α := (xs.drop (HT.sIx xs.length 0 lo)).take (HT.sIx xs.length xs.length hi - HT.sIx xs.length 0 lo)
theorem cutD_map {α : Type} (f : α → D) (xs : List α) (lo hi : Option Int) : cutD (xs.map f) lo hi = (cutL xs lo hi).map f := by
  unfold cutD cutL
  rw [List.length_map, List.map_take, List.map_drop]
@[simp] theorem isD_none : isD .none .none = some (.bool true) := rfl
@[simp] theorem isD_int (i : Int) : isD (.int i) .none = some (.bool false) := rfl
@[simp] theorem isD_bool (b : Bool) : isD (.bool b) .none = some (.bool false) := rfl
@[simp] theorem isD_str (b : Str) : isD (.str b) .none = some (.bool false) := rfl
@[simp] theorem isD_list (ds : List D) : isD (.list ds) .none = some (.bool false) := rfl
@[simp] theorem isD_tuple (ds : List D) : isD (.tuple ds) .none = some (.bool false) := rfl
@[simp] theorem isNotD_none : isNotD .none .none = some (.bool false) := rfl
@[simp] theorem isNotD_int (i : Int) : isNotD (.int i) .none = some (.bool true) := rfl
@[simp] theorem isNotD_bool (b : Bool) : isNotD (.bool b) .none = some (.bool true) := rfl
@[simp] theorem isNotD_str (b : Str) : isNotD (.str b) .none = some (.bool true) := rfl
@[simp] theorem isNotD_list (ds : List D) : isNotD (.list ds) .none = some (.bool true) := rfl
@[simp] theorem isNotD_tuple (ds : List D) : isNotD (.tuple ds) .none = some (.bool true) := rfl
end SL
namespace SL
open PySem PySem.Spec PyProof.Rows L2
def drawTurn : FS := (sSeq (sSet 6 (fC (.int 0)))
    (sSeq (sIf (gT (f2 gtD (f1 lenD (fVp 2)) (fC (.int 0)))) (sSeq (sSet 7 (f2 modD (f1 intD (fV 5)) (f1 lenD (fVp 2))))
    (sIf (gT (f2 geD (f2 ixD (fVp 2) (fV 7)) (f2 powD (fC (.int 10)) (fC (.int 18))))) (sSeq (sSet 6 (f2 modD (f1 intD (f2 ixD (fVp 2) (fV 7))) (fC (.int 1000))))
    (sPut 2 (fV 7) (f2 divD (f2 ixD (fVp 2) (fV 7)) (fC (.int 1000))))) (sSeq (sSet 8 (f2 modD (f1 intD (f2 addD (f2 addD (f2 mulD (f2 ixD (fVp 2) (fV 7)) (fC (.int 48271))) (f2 mulD (fV 5) (fC (.int 69621)))) (fC (.int 11)))) (fC (.int 2147483647))))
    (sSeq (sSet 8 (f2 modD (f1 intD (f2 addD (f2 mulD (fV 8) (fC (.int 16807))) (fV 7))) (fC (.int 2147483629))))
    (sSet 6 (f2 modD (f1 intD (f2 divD (fV 8) (fC (.int 7)))) (fC (.int 1000)))))))) sNext)
    (sApp 4 (fV 6))))
def drawF : FS := (sSeq (sSetO 2 (lLc (iSeq (fV 0)) [3] (gNm 3) gYes (fV 3)))
    (sSeq (sSetO 4 (lDisp aNil))
    (sSeq (sFor (iRng1 (fV 1)) (gNm 5) drawTurn)
    (sRet (fV 4)))))
theorem pow_18 : powD (.int 10) (.int 18) = some (.int 1000000000000000000) := by
  simp [powD]
theorem draw_turn (s c : D) (rests ds : List Int) (k : Int) (c6 c7 c8 : Option Cell) (hk : 0 ≤ k) (hd : ds.length < sizeLine) :
    ∃ (rests' : List Int) (v : Int) (c7' c8' : Option Cell), rests'.length = rests.length ∧ 0 ≤ v ∧ v < 1000 ∧
      drawTurn [some (.val s), some (.val c), some (.own (rests.map .int)), none, some (.own (ds.map .int)), some (.val (.int k)), c6, c7, c8] =
        some (.nx [some (.val s), some (.val c), some (.own (rests'.map .int)), none, some (.own ((ds ++ [v]).map .int)), some (.val (.int k)), some (.val (.int v)), c7', c8']) := by
  by_cases h0 : rests = []
  · subst h0
    refine ⟨[], 0, c7, c8, rfl, by decide, by decide, ?_⟩
    unfold drawTurn
    simp [sSeq, sSet, sIf, gT, f2, f1, fVp, fV, fC, sApp, listAt, sNext, hd]
  · have hl : 0 < rests.length := List.length_pos_iff.mpr h0
    have hm1 : 0 ≤ k % (rests.length : Int) := Int.emod_nonneg _ (by omega)
    have hm2 : k % (rests.length : Int) < (rests.length : Int) := Int.emod_lt_of_pos _ (by omega)
    have hix := ix_ints (ns := rests) hm1 hm2
    generalize ha : k % (rests.length : Int) = a at hm1 hm2 hix
    generalize hx : rests.getD a.toNat 0 = x at hix
    have hlen : (0 : Int) < (rests.length : Int) := by omega
    have hb : decide ((0 : Int) < ((rests.map PyData.int).length : Int)) = true := by rw [List.length_map]; exact decide_eq_true hlen
    have hat : k % (((rests.map PyData.int).length : Nat) : Int) = a := by rw [List.length_map]; exact ha
    have hj : ixN rests.length a = some a.toNat := by
      unfold ixN
      rw [if_pos hm1, if_pos hm2]
    by_cases hg : 1000000000000000000 ≤ x
    · refine ⟨rests.set a.toNat (x / 1000), x % 1000, some (.val (.int a)), c8, by rw [List.length_set], Int.emod_nonneg _ (by decide), Int.emod_lt_of_pos _ (by decide), ?_⟩
      unfold drawTurn
      simp [sSeq, sSet, sIf, gT, f2, f1, fVp, fV, fC, sApp, listAt, sNext, sPut, hd, pow_18, modD_p (i := k) hlen, modD_p, divD_p, hl, ha, hix, hg, hj, List.map_set]
    · have e1 := mulD_r (i := x) (j := 48271) (small_of (by decide) (by decide))
      have e2 := mulD_r (i := k) (j := 69621) (small_of (by decide) (by decide))
      have e3 := mulD_r (i := (x * 48271 + k * 69621 + 11) % 2147483647) (j := 16807) (small_of (by decide) (by decide))
      refine ⟨rests, (((x * 48271 + k * 69621 + 11) % 2147483647 * 16807 + a) % 2147483629 / 7) % 1000, some (.val (.int a)), some (.val (.int (((x * 48271 + k * 69621 + 11) % 2147483647 * 16807 + a) % 2147483629))), rfl, Int.emod_nonneg _ (by decide), Int.emod_lt_of_pos _ (by decide), ?_⟩
      unfold drawTurn
      simp [sSeq, sSet, sIf, gT, f2, f1, fVp, fV, fC, sApp, listAt, sNext, sPut, hd, pow_18, modD_p (i := k) hlen, modD_p, divD_p, hl, ha, hix, hg, e1, e2, e3]
theorem draws_ok (ns : List Int) (hn : ns.length ≤ 1000) (c : Nat) (hc : c ≤ 1000) : ∃ ds : List Int, runP 9 drawF [.list (ns.map .int), .int c] = some (.list (ds.map .int)) ∧ ds.length = c ∧ ∀ x ∈ ds, 0 ≤ x ∧ x < 1000 := by
  have h1 : sSetO 2 (lLc (iSeq (fV 0)) [3] (gNm 3) gYes (fV 3)) (startE 9 [.list (ns.map .int), .int c]) = some (.nx [some (.val (.list (ns.map .int))), some (.val (.int c)), some (.own (ns.map .int)), none, none, none, none, none, none]) := by
    unfold sSetO
    rw [lLc_eq (r0 := startE 9 [.list (ns.map .int), .int c]) (ds := ns.map .int) (zs := ns.map .int) (w := startE 9 [.list (ns.map .int), .int c]) ?a ?b ?c]
    · rfl
    · simp [iSeq, fV, startE, seqD]
    · exact lcF_all (fun i => .int i) (fun i => .int i) rfl fun x _ => ⟨_, _, rfl, rfl, rfl⟩
    · rw [List.length_map]; exact small_len (by omega)
  have h2 : iRng1 (fV 1) [some (.val (.list (ns.map .int))), some (.val (.int c)), some (.own (ns.map .int)), none, some (.own []), none, none, none, none] = some (rngL 0 c, [some (.val (.list (ns.map .int))), some (.val (.int c)), some (.own (ns.map .int)), none, some (.own []), none, none, none, none]) := by
    have : okR (c : Int) = true := by
      unfold okR
      rw [decide_eq_true (by omega), decide_eq_true (by omega)]; rfl
    simp [iRng1, fV, this]
  obtain ⟨r', h3, rests, ds, c5, c6, c7, c8, rfl, _, hl, hb⟩ := loop_all (A := gNm 5) (body := drawTurn) (items := rngL 0 c) (r := [some (.val (.list (ns.map .int))), some (.val (.int c)), some (.own (ns.map .int)), none, some (.own []), none, none, none, none])
    (fun i r => ∃ (rests ds : List Int) (c5 c6 c7 c8 : Option Cell), r = [some (.val (.list (ns.map .int))), some (.val (.int c)), some (.own (rests.map .int)), none, some (.own (ds.map .int)), c5, c6, c7, c8] ∧ rests.length = ns.length ∧ ds.length = i ∧ ∀ x ∈ ds, 0 ≤ x ∧ x < 1000)
    ⟨ns, [], none, none, none, none, rfl, rfl, rfl, fun x h => by cases h⟩ fun i d r e ⟨rests, ds, c5, c6, c7, c8, er, h1, h2, h3⟩ => by
      subst er
      obtain ⟨hi, rfl⟩ := rngL_get e
      obtain ⟨rests', v, c7', c8', g1, g2, g3, g4⟩ := draw_turn (.list (ns.map .int)) (.int c) rests ds (0 + i) c6 c7 c8 (by omega) (small_len (by omega))
      refine ⟨_, _, rfl, .inl g4, rests', ds ++ [v], _, _, _, _, rfl, by omega, by rw [List.length_append, h2]; rfl, fun x hx => ?_⟩
      rcases List.mem_append.mp hx with hx | hx
      · exact h3 x hx
      · obtain rfl : x = v := by simpa using hx
        exact ⟨g2, g3⟩
  refine ⟨ds, ?_, by rw [hl, rngL_length], hb⟩
  unfold runP drawF
  rw [sSeq_nx h1, sSeq_nx (r1 := [some (.val (.list (ns.map .int))), some (.val (.int c)), some (.own (ns.map .int)), none, some (.own []), none, none, none, none]) rfl, sSeq_nx (by rw [sFor_eq h2]; exact h3)]
  simp [sRet, fV, endP]
end SL
/-! The ring's functions, program's and law's, in plain numbers. -/
namespace Rg
open PySem PySem.Spec PyProof.Rows L2 SL
def F__law_ring : FS := (sSeq (sSet 1 (f2 addD (fC (.int 3)) (f2 modD (f1 intD (f2 ixD (fV 0) (fC (.int 0)))) (f2 ixD (fL (lDisp (aCons (fC (.int 10)) (aCons (fC (.int 58)) aNil)))) (f2 modD (f1 intD (f2 ixD (fV 0) (fC (.int 1)))) (fC (.int 2)))))))
    (sRet (fV 1)))
def R__law_ring : List D → Option D := runP 2 F__law_ring
def F__law_satellite : FS := (sRet (fTup (aCons (f2 modD (f1 intD (f2 ixD (fV 0) (fC (.int 0)))) (fV 1)) (aCons (f2 modD (f1 intD (f2 ixD (fV 0) (fC (.int 1)))) (fV 1)) (aCons (f2 ixD (fL (lDisp (aCons (fC (.int 0)) (aCons (fC (.int 1)) (aCons (fC (.int 2)) (aCons (fC (.int 5)) (aCons (fC (.int 30)) aNil))))))) (f2 modD (f1 intD (f2 ixD (fV 0) (fC (.int 2)))) (fC (.int 5)))) aNil)))))
def R__law_satellite : List D → Option D := runP 2 F__law_satellite
def F__law_cells : FS := (sSeq (sSet 3 (f2 ixD (fV 1) (fC (.int 0))))
    (sSeq (sSetO 4 (lDisp aNil))
    (sSeq (sFor (iRng1 (fV 2)) (gNm 5) (sSeq (sApp 4 (fV 3))
    (sSeq (sSet 3 (f2 addD (fV 3) (f2 ixD (fV 1) (fC (.int 1)))))
    (sIf (gT (f2 geD (fV 3) (fV 0))) (sSet 3 (f2 subD (fV 3) (fV 0))) sNext))))
    (sRet (fV 4)))))
def R__law_cells : List D → Option D := runP 6 F__law_cells
def F_place_of : FS := (sSeq (sAsg (fV 1) (gTp 3 (gsCons (gNm 3) (gsCons (gNm 4) (gsCons (gNm 5) gsNil)))))
    (sRet (f2 modD (f2 addD (fV 3) (f2 mulD (fV 4) (fV 2))) (fV 0))))
def R_place_of : List D → Option D := runP 6 F_place_of
def F__law_way : FS := (sSeq (sSet 3 (fC (.int 0)))
    (sSeq (sSet 4 (fV 1))
    (sSeq (sSet 5 (fV 1))
    (sSeq (sFor (iRng1 (fV 0)) (gNm 6) (sSeq (sIf (gOr (gT (f2 eqD (fV 4) (fV 2))) (gT (f2 eqD (fV 5) (fV 2)))) sBrk sNext)
    (sSeq (sSet 3 (f2 addD (fV 3) (fC (.int 1))))
    (sSeq (sSet 4 (f2 ixD (fL (lDisp (aCons (f2 addD (fV 4) (fC (.int 1))) (aCons (fC (.int 0)) aNil)))) (f1 intD (f2 eqD (fV 4) (f2 subD (fV 0) (fC (.int 1)))))))
    (sSet 5 (f2 ixD (fL (lDisp (aCons (f2 subD (fV 5) (fC (.int 1))) (aCons (f2 subD (fV 0) (fC (.int 1))) aNil)))) (f1 intD (f2 eqD (fV 5) (fC (.int 0))))))))))
    (sRet (fV 3))))))
def R__law_way : List D → Option D := runP 7 F__law_way
def F__law_seen : FS := (sSeq (sSet 4 (fL (lLc (iRng1 (fV 0)) [5] (gNm 5) gYes (f2 leD (fCall R__law_way (aCons (fV 0) (aCons (fV 5) (aCons (fV 2) aNil)))) (f2 ixD (fV 1) (fC (.int 2)))))))
    (sRet (fL (lLc (iSeq (fCall R__law_cells (aCons (fV 0) (aCons (fV 1) (aCons (fV 3) aNil))))) [5] (gNm 5) gYes (f2 ixD (fV 4) (fV 5))))))
def R__law_seen : List D → Option D := runP 6 F__law_seen
def F_way : FS := (sSeq (sSet 3 (f2 modD (f2 subD (fV 2) (fV 1)) (fV 0)))
    (sRet (f2 min2D (fV 3) (f2 subD (fV 0) (fV 3)))))
def R_way : List D → Option D := runP 4 F_way
def F_sees : FS := (sRet (f2 leD (fCall R_way (aCons (fV 0) (aCons (fCall R_place_of (aCons (fV 0) (aCons (fV 1) (aCons (fV 3) aNil)))) (aCons (fV 2) aNil)))) (f2 ixD (fV 1) (fC (.int 2)))))
def R_sees : List D → Option D := runP 4 F_sees
def cellAt (n a b : Int) (t : Nat) : Int := (a + b * t) % n
def wayZ (n a b : Int) : Int := if n - (b - a) % n < (b - a) % n then n - (b - a) % n else (b - a) % n
/-! ### the ways, step by step -/
def upZ (n x : Int) (k : Nat) : Int := if x + k < n then x + k else x + k - n
def downZ (n x : Int) (k : Nat) : Int := if (k : Int) ≤ x then x - k else x - k + n
def wayBody : FS := (sSeq (sIf (gOr (gT (f2 eqD (fV 4) (fV 2))) (gT (f2 eqD (fV 5) (fV 2)))) sBrk sNext)
    (sSeq (sSet 3 (f2 addD (fV 3) (fC (.int 1))))
    (sSeq (sSet 4 (f2 ixD (fL (lDisp (aCons (f2 addD (fV 4) (fC (.int 1))) (aCons (fC (.int 0)) aNil)))) (f1 intD (f2 eqD (fV 4) (f2 subD (fV 0) (fC (.int 1)))))))
    (sSet 5 (f2 ixD (fL (lDisp (aCons (f2 subD (fV 5) (fC (.int 1))) (aCons (f2 subD (fV 0) (fC (.int 1))) aNil)))) (f1 intD (f2 eqD (fV 5) (fC (.int 0)))))))))
def satD (a b c : Int) : D := .tuple [.int a, .int b, .int c]
theorem cell_in {n a b : Int} (hn : 0 < n) (t : Nat) : 0 ≤ cellAt n a b t ∧ cellAt n a b t < n := ⟨Int.emod_nonneg _ (by omega), Int.emod_lt_of_pos _ hn⟩
theorem t0 (W : List D → Option D) (k m : Nat) (a b c x : Int)  (hw : ∀ j : Nat, j < k → W [.int k, .int j, .int x] = some (.int (wayZ k j x))) :
  lcF [5] (gNm 5) gYes (f2 leD (fCall W (aCons (fV 0) (aCons (fV 5) (aCons (fV 2) aNil)))) (f2 ixD (fV 1) (fC (.int 2)))) ((List.range k).map (fun (i : Nat) => (.int i : D))) [some (.val (.int k)), some (.val (satD a b c)), some (.val (.int x)), some (.val (.int m)), none, none] = some ((List.range k).map fun (j : Nat) => (.bool (decide (wayZ k j x ≤ c)) : D), [some (.val (.int k)), some (.val (satD a b c)), some (.val (.int x)), some (.val (.int m)), none, none]) := by
      refine lcF_all (fun (i : Nat) => (.int i : D)) _ rfl fun j hj => ?_
      have hj2 : j < k := List.mem_range.mp hj
      have h1 := hw j hj2
      exact ⟨_, [some (.val (.int k)), some (.val (satD a b c)), some (.val (.int x)), some (.val (.int m)), none, some (.val (.int j))], rfl, by simp [satD, h1], rfl⟩
theorem t1 (k m : Nat) (a b c x : Int) (hm2 : okR k = true) : SL.iRng1 (fV 0) [some (.val (.int k)), some (.val (satD a b c)), some (.val (.int x)), some (.val (.int m)), none, none] = some (rngL 0 k, [some (.val (.int k)), some (.val (satD a b c)), some (.val (.int x)), some (.val (.int m)), none, none]) := by simp [SL.iRng1, hm2]
theorem t2 (W : List D → Option D) (k m : Nat) (a b c x : Int) (hk : k ≤ 1000)  (hw : ∀ j : Nat, j < k → W [.int k, .int j, .int x] = some (.int (wayZ k j x))) (hm2 : okR k = true) :
  lLc (SL.iRng1 (fV 0)) [5] (gNm 5) gYes (f2 leD (fCall W (aCons (fV 0) (aCons (fV 5) (aCons (fV 2) aNil)))) (f2 ixD (fV 1) (fC (.int 2)))) [some (.val (.int k)), some (.val (satD a b c)), some (.val (.int x)), some (.val (.int m)), none, none] = some ((List.range k).map fun (j : Nat) => (.bool (decide (wayZ k j x ≤ c)) : D), [some (.val (.int k)), some (.val (satD a b c)), some (.val (.int x)), some (.val (.int m)), none, none]) := by
  rw [lLc_eq (t1 k m a b c x hm2) (by rw [rngL_map]; exact t0 W k m a b c x hw) (small_len (by simp; omega))]
  rfl
theorem t3 (k m : Nat) (a b c x : Int) (hk : 0 < (k : Int)) :
  lcF [5] (gNm 5) gYes (f2 ixD (fV 4) (fV 5)) ((List.range m).map fun t => (.int (cellAt k a b t) : D)) [some (.val (.int k)), some (.val (satD a b c)), some (.val (.int x)), some (.val (.int m)), some (.val (.list ((List.range k).map fun (j : Nat) => (.bool (decide (wayZ k j x ≤ c)) : D)))), none] =
    some ((List.range m).map fun t => (.bool (decide (wayZ k (cellAt k a b t) x ≤ c)) : D), [some (.val (.int k)), some (.val (satD a b c)), some (.val (.int x)), some (.val (.int m)), some (.val (.list ((List.range k).map fun (j : Nat) => (.bool (decide (wayZ k j x ≤ c)) : D)))), none]) := by
  refine lcF_all (fun t => (.int (cellAt k a b t) : D)) _ rfl fun t ht => ?_
  obtain ⟨g1, g2⟩ := cell_in (a := a) (b := b) hk t
  obtain ⟨j, hj⟩ := Int.eq_ofNat_of_zero_le g1
  have hix : ixD (.list ((List.range k).map fun (j : Nat) => (.bool (decide (wayZ k j x ≤ c)) : D))) (.int (cellAt k a b t)) = some (.bool (decide (wayZ k (cellAt k a b t) x ≤ c))) := by
    rw [hj]
    refine (atI_lit _ j).trans ?_
    rw [List.getElem?_map, List.getElem?_range (by omega)]
    rfl
  exact ⟨_, [some (.val (.int k)), some (.val (satD a b c)), some (.val (.int x)), some (.val (.int m)), some (.val (.list ((List.range k).map fun (j : Nat) => (.bool (decide (wayZ k j x ≤ c)) : D)))), some (.val (.int (cellAt k a b t)))], rfl, by simp [hix], rfl⟩
theorem t4 (Z : List D → Option D) (k m : Nat) (a b c x : Int) (hk : 0 < (k : Int)) (hm : m ≤ 1000) (hz : Z [.int k, satD a b c, .int m] = some (.list ((List.range m).map fun t => (.int (cellAt k a b t) : D)))) :
  lLc (iSeq (fCall Z (aCons (fV 0) (aCons (fV 1) (aCons (fV 3) aNil))))) [5] (gNm 5) gYes (f2 ixD (fV 4) (fV 5)) [some (.val (.int k)), some (.val (satD a b c)), some (.val (.int x)), some (.val (.int m)), some (.val (.list ((List.range k).map fun (j : Nat) => (.bool (decide (wayZ k j x ≤ c)) : D)))), none] =
    some ((List.range m).map fun t => (.bool (decide (wayZ k (cellAt k a b t) x ≤ c)) : D), [some (.val (.int k)), some (.val (satD a b c)), some (.val (.int x)), some (.val (.int m)), some (.val (.list ((List.range k).map fun (j : Nat) => (.bool (decide (wayZ k j x ≤ c)) : D)))), none]) := by
  rw [lLc_eq (by simp [hz]) (t3 k m a b c x hk) (small_len (by simp; omega))]
  rfl
theorem t5 (W Z : List D → Option D) (k m : Nat) (a b c x : Int) (hk : 0 < (k : Int)) (hk2 : k ≤ 1000) (hm : m ≤ 1000) (hm2 : okR k = true) (hw : ∀ j : Nat, j < k → W [.int k, .int j, .int x] = some (.int (wayZ k j x))) (hz : Z [.int k, satD a b c, .int m] = some (.list ((List.range m).map fun t => (.int (cellAt k a b t) : D)))) :
  endP ((sSeq (sSet 4 (fL (lLc (SL.iRng1 (fV 0)) [5] (gNm 5) gYes (f2 leD (fCall W (aCons (fV 0) (aCons (fV 5) (aCons (fV 2) aNil)))) (f2 ixD (fV 1) (fC (.int 2)))))))
    (sRet (fL (lLc (iSeq (fCall Z (aCons (fV 0) (aCons (fV 1) (aCons (fV 3) aNil))))) [5] (gNm 5) gYes (f2 ixD (fV 4) (fV 5)))))) (startE 6 [.int k, satD a b c, .int x, .int m])) = some (.list ((List.range m).map fun t => (.bool (decide (wayZ k (cellAt k a b t) x ≤ c)) : D))) := by
  have hnear := t2 W k m a b c x hk2 hw hm2
  have hrow := t4 Z k m a b c x hk hm hz
  rw [sSeq_nx (r1 := [some (.val (.int k)), some (.val (satD a b c)), some (.val (.int x)), some (.val (.int m)), some (.val (.list ((List.range k).map fun (j : Nat) => (.bool (decide (wayZ k j x ≤ c)) : D)))), none]) (by
    unfold sSet fL startE
    simp [hnear])]
  unfold sRet fL
  simp [hrow]
/-! ### the drawn things -/
theorem ix_at {ds : List Int} (i : Nat) (h : i < ds.length) : ixD (.list (ds.map .int)) (.int (i : Int)) = some (.int (ds.getD i 0)) := by
  have := ix_ints (ns := ds) (i := (i : Int)) (by omega) (by omega)
  simpa using this
/-! ### the law -/
/-- rows of truth values -/
def rowD (f : Nat → Bool) (m : Nat) : D := .list ((List.range m).map fun t => .bool (f t))
end Rg
/-! Fleets: periods, who sees what. -/
namespace Rg
open PySem PySem.Spec PyProof.Rows L2 SL
/-! ### satellites and fleets -/
abbrev Sat : Type := Int × Int × Int
def sd (s : Sat) : D := satD s.1 s.2.1 s.2.2
def fleetD (fl : List Sat) : D := .list (fl.map sd)
structure OkS (n : Int) (s : Sat) : Prop where
  a0 : 0 ≤ s.1
  a1 : s.1 < n
  b0 : 0 ≤ s.2.1
  b1 : s.2.1 < n
  c0 : 0 ≤ s.2.2
  c1 : s.2.2 ≤ 30
def reachOf (z : Int) : Int := if z % 5 = 0 then 0 else if z % 5 = 1 then 1 else if z % 5 = 2 then 2 else if z % 5 = 3 then 5 else 30
def satOf (n x y z : Int) : Sat := (x % n, y % n, reachOf z)
def seesZ (n : Int) (s : Sat) (x : Int) (t : Nat) : Bool := decide (wayZ n (cellAt n s.1 s.2.1 t) x ≤ s.2.2)
def anySees (n : Int) (fl : List Sat) (x : Int) (t : Nat) : Bool := fl.any fun s => seesZ n s x t
/-! ### the program's functions -/
def isSeenF (E : List D → Option D) : FS := (sRet (f1 anyD (fL (lLc (iSeq (fV 1)) [4] (gNm 4) gYes (fCall E (aCons (fV 0) (aCons (fV 4) (aCons (fV 2) (aCons (fV 3) aNil)))))))))
/-! ### periods -/
def ownZ (n b : Nat) : Nat := n / Nat.gcd n b
def perZ (n : Nat) (fl : List Nat) : Nat := fl.foldl (fun f b => f * ownZ n b / Nat.gcd f (ownZ n b)) 1
abbrev steps (fl : List Sat) : List Nat := fl.map fun s => s.2.1.toNat
def perF (n : Int) (fl : List Sat) : Nat := perZ n.toNat (steps fl)
def perBody : FS := (sSeq (sSet 6 (f2 divD (fV 0) (f2 gcdD (fV 0) (fV 4))))
    (sSet 2 (f2 divD (f2 mulD (fV 2) (fV 6)) (f2 gcdD (fV 2) (fV 6)))))
def perFS : FS := (sSeq (sSet 2 (fC (.int 1)))
    (sSeq (sFor (iSeq (fV 1)) (gTp 3 (gsCons (gNm 3) (gsCons (gNm 4) (gsCons (gNm 5) gsNil)))) perBody)
    (sRet (fV 2))))
/-! ### the fleet as drawn -/
def fleetOf (n : Int) (ds : List Int) (m : Nat) : List Sat := (List.range m).map fun k => satOf n (ds.getD (3 + 3 * k) 0) (ds.getD (4 + 3 * k) 0) (ds.getD (5 + 3 * k) 0)
end Rg
/-! Skies: the law's drawn sky, in plain numbers. -/
namespace Sk
open PySem PySem.Spec PyProof.Rows L2 SL
def F__law_grown : FS := (sSeq (sIf (gT (f2 gtD (f2 modD (f1 intD (fV 1)) (fC (.int 3))) (fC (.int 0)))) (sRet (fV 0)) sNext)
    (sSeq (sSet 2 (f2 addD (fC (.int 1)) (f2 modD (f1 intD (f2 divD (fV 1) (fC (.int 3)))) (fC (.int 6)))))
    (sSeq (sSetO 3 (lDisp aNil))
    (sSeq (sFor (iSeq (f2 ixD (fV 0) (fC (.int 0)))) (gTp 5 (gsCons (gNm 4) (gsCons (gNm 5) (gsCons (gNm 6) (gsCons (gNm 7) (gsCons (gNm 8) gsNil)))))) (sApp 3 (fTup (aCons (fV 4) (aCons (f2 mulD (fV 2) (fV 5)) (aCons (f2 mulD (fV 2) (fV 6)) (aCons (f2 mulD (fC (.int 3)) (fV 7)) (aCons (f2 mulD (fC (.int 7)) (fV 8)) aNil))))))))
    (sSeq (sSet 9 (fL (lLc (iSeq (f2 ixD (fV 0) (fC (.int 2)))) [10, 11, 12] (gTp 3 (gsCons (gNm 10) (gsCons (gNm 11) (gsCons (gNm 12) gsNil)))) gYes (fTup (aCons (f2 mulD (fV 2) (fV 10)) (aCons (f2 mulD (fV 2) (fV 11)) (aCons (f2 mulD (fC (.int 5)) (fV 12)) aNil)))))))
    (sRet (fTup (aCons (fV 3) (aCons (f2 ixD (fV 0) (fC (.int 1))) (aCons (fV 9) (aCons (f2 addD (f2 mulD (fC (.int 3)) (f2 ixD (fV 0) (fC (.int 3)))) (fC (.int 6))) (aCons (f2 ixD (fV 0) (fC (.int 4))) aNil))))))))))))
def R__law_grown : List D → Option D := runP 13 F__law_grown
def F_loss : FS := (sSeq (sSet 3 (fC (.int 0)))
    (sSeq (sFor (iSeq (fV 0)) (gTp 3 (gsCons (gNm 4) (gsCons (gNm 5) (gsCons (gNm 6) gsNil)))) (sAug 3 iaddD (f2 mulD (fV 6) (f2 max2D (fC (.int 0)) (f2 subD (f2 min2D (fV 2) (fV 5)) (f2 max2D (fV 1) (fV 4)))))))
    (sRet (fV 3))))
def R_loss : List D → Option D := runP 7 F_loss
def F_emptied : FS := (sRet (f2 max2D (fC (.int 0)) (f2 subD (fV 1) (fCall R_loss (aCons (f2 ixD (fV 0) (fC (.int 2))) (aCons (fV 2) (aCons (fV 3) aNil)))))))
def R_emptied : List D → Option D := runP 4 F_emptied
def F__law_sky : FS := (sSeq (sSet 2 (f2 addD (fC (.int 1)) (f2 modD (f1 intD (f2 ixD (fV 0) (fC (.int 0)))) (fC (.int 4)))))
    (sSeq (sSet 3 (fL (lLc (SL.iRng1 (fV 2)) [4] (gNm 4) gYes (f2 modD (f1 intD (f2 ixD (fV 0) (f2 addD (fC (.int 1)) (fV 4)))) (fC (.int 10))))))
    (sSeq (sSetO 5 (lDisp aNil))
    (sSeq (sSet 6 (fC (.int 0)))
    (sSeq (sFor (SL.iRng1 (f2 modD (f1 intD (f2 ixD (fV 0) (fC (.int 9)))) (fC (.int 3)))) (gNm 4) (sSeq (sSet 7 (f2 addD (fV 6) (f2 modD (f1 intD (f2 ixD (fV 0) (f2 addD (fC (.int 10)) (f2 mulD (fC (.int 3)) (fV 4))))) (fC (.int 6)))))
    (sSeq (sSet 6 (f2 addD (f2 addD (fV 7) (fC (.int 1))) (f2 modD (f1 intD (f2 ixD (fV 0) (f2 addD (fC (.int 11)) (f2 mulD (fC (.int 3)) (fV 4))))) (fC (.int 5)))))
    (sApp 5 (fTup (aCons (fV 7) (aCons (fV 6) (aCons (f2 addD (fC (.int 1)) (f2 modD (f1 intD (f2 ixD (fV 0) (f2 addD (fC (.int 12)) (f2 mulD (fC (.int 3)) (fV 4))))) (fC (.int 3)))) aNil))))))))
    (sSeq (sSetO 8 (lDisp aNil))
    (sSeq (sSet 9 (fC (.int 0)))
    (sSeq (sFor (SL.iRng1 (f2 modD (f1 intD (f2 ixD (fV 0) (fC (.int 16)))) (f2 addD (fV 1) (fC (.int 1))))) (gNm 4) (sSeq (sSet 9 (f2 addD (fV 9) (f2 modD (f1 intD (f2 ixD (fV 0) (f2 addD (fC (.int 20)) (f2 mulD (fC (.int 5)) (fV 4))))) (fC (.int 4)))))
    (sSeq (sSet 10 (f2 subD (f2 modD (f1 intD (f2 ixD (fV 0) (f2 addD (fC (.int 23)) (f2 mulD (fC (.int 5)) (fV 4))))) (fC (.int 61))) (fC (.int 30))))
    (sApp 8 (fTup (aCons (f2 modD (f1 intD (f2 ixD (fV 0) (f2 addD (fC (.int 21)) (f2 mulD (fC (.int 5)) (fV 4))))) (fV 2)) (aCons (fV 9) (aCons (f2 addD (fC (.int 1)) (f2 modD (f1 intD (f2 ixD (fV 0) (f2 addD (fC (.int 22)) (f2 mulD (fC (.int 5)) (fV 4))))) (fC (.int 3)))) (aCons (fV 10) (aCons (f2 addD (fC (.int 1)) (f2 modD (f1 intD (f2 ixD (fV 0) (f2 addD (fC (.int 24)) (f2 mulD (fC (.int 5)) (fV 4))))) (fC (.int 4)))) aNil))))))))))
    (sRet (fTup (aCons (fV 8) (aCons (fV 3) (aCons (fV 5) (aCons (f2 addD (fC (.int 2)) (f2 modD (f1 intD (f2 ixD (fV 0) (fC (.int 7)))) (fC (.int 7)))) (aCons (f2 addD (fC (.int 1)) (f2 modD (f1 intD (f2 ixD (fV 0) (fC (.int 8)))) (fC (.int 30)))) aNil)))))))))))))))
def R__law_sky : List D → Option D := runP 11 F__law_sky
def F_turning : FS := (sRet (f1 negD (f2 divD (f1 negD (f1 absD (f2 subD (f2 ixD (f2 ixD (f2 ixD (fV 0) (fC (.int 0))) (fV 2)) (fC (.int 3))) (f2 ixD (f2 ixD (f2 ixD (fV 0) (fC (.int 0))) (fV 1)) (fC (.int 3)))))) (f2 ixD (fV 0) (fC (.int 4))))))
def R_turning : List D → Option D := runP 3 F_turning
def F__law_is_whole : FS := (sRet (fAnd (f1 (isiD "int") (fV 0)) (fNot (f1 (isiD "bool") (fV 0)))))
def R__law_is_whole : List D → Option D := runP 1 F__law_is_whole
def F__law_left : FS := (sSeq (sFor (SL.iRng2 (fV 2) (fV 3)) (gNm 4) (sFor (iSeq (f2 ixD (fV 0) (fC (.int 2)))) (gTp 3 (gsCons (gNm 5) (gsCons (gNm 6) (gsCons (gNm 7) gsNil)))) (sIf (gT (fChain leD ltD (fV 5) (fV 4) (fV 6))) (sSet 1 (f2 max2D (fC (.int 0)) (f2 subD (fV 1) (fV 7)))) sNext)))
    (sRet (fV 1)))
def R__law_left : List D → Option D := runP 8 F__law_left
def F_end_of : FS := (sSeq (sAsg (f2 ixD (f2 ixD (fV 0) (fC (.int 0))) (fV 1)) (gTp 5 (gsCons (gNm 2) (gsCons (gNm 3) (gsCons (gNm 4) (gsCons (gNm 5) (gsCons (gNm 6) gsNil)))))))
    (sRet (f2 addD (fV 3) (fV 4))))
def R_end_of : List D → Option D := runP 7 F_end_of
def F__law_turn : FS := (sSeq (sSet 3 (fC (.int 0)))
    (sSeq (sFor (SL.iRng1 (fC (.int 200))) (gNm 4) (sSeq (sIf (gT (f2 geD (f2 mulD (fV 3) (f2 ixD (fV 0) (fC (.int 4)))) (f1 absD (f2 subD (f2 ixD (f2 ixD (f2 ixD (fV 0) (fC (.int 0))) (fV 2)) (fC (.int 3))) (f2 ixD (f2 ixD (f2 ixD (fV 0) (fC (.int 0))) (fV 1)) (fC (.int 3))))))) sBrk sNext)
    (sSet 3 (f2 addD (fV 3) (fC (.int 1))))))
    (sRet (fV 3))))
def R__law_turn : List D → Option D := runP 5 F__law_turn
structure Look where
  w : Int
  s : Int
  l : Int
  a : Int
  z : Int
structure Ear where
  f : Int
  l : Int
  r : Int
def lD (x : Look) : D := .tuple [.int x.w, .int x.s, .int x.l, .int x.a, .int x.z]
def eD (e : Ear) : D := .tuple [.int e.f, .int e.l, .int e.r]
structure Sky where
  looks : List Look
  worths : List Int
  ears : List Ear
  cap : Int
  turn : Int
def skyD (S : Sky) : D := .tuple [.list (S.looks.map lD), .list (S.worths.map .int), .list (S.ears.map eD), .int S.cap, .int S.turn]
structure OkL (n : Int) (x : Look) : Prop where
  w0 : 0 ≤ x.w
  w1 : x.w < n
  s0 : 0 ≤ x.s
  s1 : x.s ≤ 200
  l0 : 1 ≤ x.l
  l1 : x.l ≤ 20
  a0 : -90 ≤ x.a
  a1 : x.a ≤ 90
  z0 : 1 ≤ x.z
  z1 : x.z ≤ 30
structure OkE (e : Ear) : Prop where
  f0 : 0 ≤ e.f
  fl : e.f < e.l
  l1 : e.l ≤ 200
  r0 : 1 ≤ e.r
  r1 : e.r ≤ 30
structure OkSky (most : Nat) (S : Sky) : Prop where
  many : S.looks.length ≤ most
  looks : ∀ x ∈ S.looks, OkL S.worths.length x
  asc : S.looks.Pairwise fun x y => x.s ≤ y.s
  wl0 : 1 ≤ S.worths.length
  wl1 : S.worths.length ≤ 4
  worths : ∀ w ∈ S.worths, 0 ≤ w ∧ w ≤ 9
  el : S.ears.length ≤ 2
  ears : ∀ e ∈ S.ears, OkE e
  apart : S.ears.Pairwise fun x y => x.l ≤ y.f
  c0 : 2 ≤ S.cap
  c1 : S.cap ≤ 30
  t0 : 1 ≤ S.turn
  t1 : S.turn ≤ 30
/-! ### the drawn sky -/
def earBody : FS := (sSeq (sSet 7 (f2 addD (fV 6) (f2 modD (f1 intD (f2 ixD (fV 0) (f2 addD (fC (.int 10)) (f2 mulD (fC (.int 3)) (fV 4))))) (fC (.int 6)))))
    (sSeq (sSet 6 (f2 addD (f2 addD (fV 7) (fC (.int 1))) (f2 modD (f1 intD (f2 ixD (fV 0) (f2 addD (fC (.int 11)) (f2 mulD (fC (.int 3)) (fV 4))))) (fC (.int 5)))))
    (sApp 5 (fTup (aCons (fV 7) (aCons (fV 6) (aCons (f2 addD (fC (.int 1)) (f2 modD (f1 intD (f2 ixD (fV 0) (f2 addD (fC (.int 12)) (f2 mulD (fC (.int 3)) (fV 4))))) (fC (.int 3)))) aNil)))))))
theorem ear_turn (dr : D) (c1 c2 c3 c7 c8 c9 c10 : Option Cell) (es : List Ear) (k : Nat) (u x y z : Int) (hl : es.length < sizeLine)
    (h1 : ixD dr (.int (10 + 3 * (k : Int))) = some (.int x)) (h2 : ixD dr (.int (11 + 3 * (k : Int))) = some (.int y)) (h3 : ixD dr (.int (12 + 3 * (k : Int))) = some (.int z)) :
    earBody [some (.val dr), c1, c2, c3, some (.val (.int k)), some (.own (es.map eD)), some (.val (.int u)), c7, c8, c9, c10] =
      some (.nx [some (.val dr), c1, c2, c3, some (.val (.int k)), some (.own ((es ++ [Ear.mk (u + x % 6) (u + x % 6 + 1 + y % 5) (1 + z % 3)]).map eD)), some (.val (.int (u + x % 6 + 1 + y % 5))), some (.val (.int (u + x % 6))), c8, c9, c10]) := by
  have m : mulD (.int 3) (.int (k : Int)) = some (.int (3 * (k : Int))) := mulD_l rfl
  unfold earBody
  simp [m, h1, h2, h3, modD_p, hl, eD]
def lookBody : FS := (sSeq (sSet 9 (f2 addD (fV 9) (f2 modD (f1 intD (f2 ixD (fV 0) (f2 addD (fC (.int 20)) (f2 mulD (fC (.int 5)) (fV 4))))) (fC (.int 4)))))
    (sSeq (sSet 10 (f2 subD (f2 modD (f1 intD (f2 ixD (fV 0) (f2 addD (fC (.int 23)) (f2 mulD (fC (.int 5)) (fV 4))))) (fC (.int 61))) (fC (.int 30))))
    (sApp 8 (fTup (aCons (f2 modD (f1 intD (f2 ixD (fV 0) (f2 addD (fC (.int 21)) (f2 mulD (fC (.int 5)) (fV 4))))) (fV 2)) (aCons (fV 9) (aCons (f2 addD (fC (.int 1)) (f2 modD (f1 intD (f2 ixD (fV 0) (f2 addD (fC (.int 22)) (f2 mulD (fC (.int 5)) (fV 4))))) (fC (.int 3)))) (aCons (fV 10) (aCons (f2 addD (fC (.int 1)) (f2 modD (f1 intD (f2 ixD (fV 0) (f2 addD (fC (.int 24)) (f2 mulD (fC (.int 5)) (fV 4))))) (fC (.int 4)))) aNil)))))))))
theorem look_turn (dr : D) (n : Int) (hn : 0 < n) (c1 c3 c5 c6 c7 c10 : Option Cell) (ls : List Look) (k : Nat) (u x0 x1 x2 x3 x4 : Int) (hl : ls.length < sizeLine)
    (h0 : ixD dr (.int (20 + 5 * (k : Int))) = some (.int x0)) (h1 : ixD dr (.int (21 + 5 * (k : Int))) = some (.int x1)) (h2 : ixD dr (.int (22 + 5 * (k : Int))) = some (.int x2)) (h3 : ixD dr (.int (23 + 5 * (k : Int))) = some (.int x3)) (h4 : ixD dr (.int (24 + 5 * (k : Int))) = some (.int x4)) :
    lookBody [some (.val dr), c1, some (.val (.int n)), c3, some (.val (.int k)), c5, c6, c7, some (.own (ls.map lD)), some (.val (.int u)), c10] =
      some (.nx [some (.val dr), c1, some (.val (.int n)), c3, some (.val (.int k)), c5, c6, c7, some (.own ((ls ++ [Look.mk (x1 % n) (u + x0 % 4) (1 + x2 % 3) (x3 % 61 - 30) (1 + x4 % 4)]).map lD)), some (.val (.int (u + x0 % 4))), some (.val (.int (x3 % 61 - 30)))]) := by
  have m : mulD (.int 5) (.int (k : Int)) = some (.int (5 * (k : Int))) := mulD_l rfl
  unfold lookBody
  simp [m, h0, h1, h2, h3, h4, modD_p, modD_p hn, hl, lD]
theorem ear_loop (dr : D) (v : Nat → Int) (hix : ∀ i : Nat, i < 16 → ixD dr (.int i) = some (.int (v i))) (c1 c2 c3 c8 c9 c10 : Option Cell) (m : Nat) (hm : m ≤ 2) :
    ∃ (es : List Ear) (c4 c6 c7 : Option Cell), loopF (gNm 4) earBody (rngL 0 m) [some (.val dr), c1, c2, c3, none, some (.own []), some (.val (.int 0)), none, c8, c9, c10] = some (.nx [some (.val dr), c1, c2, c3, c4, some (.own (es.map eD)), c6, c7, c8, c9, c10]) ∧
      es.length = m ∧ (∀ e ∈ es, OkE e ∧ e.r ≤ 3 ∧ e.l ≤ 20) ∧ es.Pairwise (fun x y => x.l ≤ y.f) := by
  obtain ⟨r', h3, es, u, c4, c7, rfl, h4, h5, h6, h7, h8, h9⟩ := loop_all (A := gNm 4) (body := earBody) (items := rngL 0 m) (r := [some (.val dr), c1, c2, c3, none, some (.own []), some (.val (.int 0)), none, c8, c9, c10])
    (fun k r => ∃ (es : List Ear) (u : Int) (c4 c7 : Option Cell), r = [some (.val dr), c1, c2, c3, c4, some (.own (es.map eD)), some (.val (.int u)), c7, c8, c9, c10] ∧ es.length = k ∧ 0 ≤ u ∧ u ≤ 10 * k ∧ (∀ e ∈ es, OkE e ∧ e.r ≤ 3 ∧ e.l ≤ 20) ∧ (∀ e ∈ es, e.l ≤ u) ∧ es.Pairwise (fun x y => x.l ≤ y.f))
    ⟨[], 0, none, none, rfl, rfl, by decide, by decide, fun e he => by (cases he), fun e he => by (cases he), List.Pairwise.nil⟩ fun k d r e ⟨es, u, c4, c7, er, h4, h5, h6, h7, h8, h9⟩ => by
      subst er
      obtain ⟨hk, rfl⟩ := rngL_get e
      rw [show (0 : Int) + (k : Int) = k from Int.zero_add _]
      have i1 := hix (10 + 3 * k) (by omega)
      have i2 := hix (11 + 3 * k) (by omega)
      have i3 := hix (12 + 3 * k) (by omega)
      rw [show ((10 + 3 * k : Nat) : Int) = 10 + 3 * (k : Int) by omega] at i1
      rw [show ((11 + 3 * k : Nat) : Int) = 11 + 3 * (k : Int) by omega] at i2
      rw [show ((12 + 3 * k : Nat) : Int) = 12 + 3 * (k : Int) by omega] at i3
      generalize v (10 + 3 * k) = x at i1
      generalize v (11 + 3 * k) = y at i2
      generalize v (12 + 3 * k) = z at i3
      refine ⟨_, _, rfl, .inl (ear_turn dr c1 c2 c3 c7 c8 c9 c10 es k u x y z (small_len (by omega)) i1 i2 i3), es ++ [Ear.mk (u + x % 6) (u + x % 6 + 1 + y % 5) (1 + z % 3)], _, _, _, rfl, ?_, ?_, ?_, ?_, ?_, ?_⟩
      · rw [List.length_append, h4]; rfl
      · omega
      · omega
      · intro e he
        rcases List.mem_append.mp he with he | he
        · exact h7 e he
        · rw [List.mem_singleton.mp he]
          exact ⟨⟨by show 0 ≤ u + x % 6; omega, by show u + x % 6 < u + x % 6 + 1 + y % 5; omega, by show u + x % 6 + 1 + y % 5 ≤ 200; omega, by show 1 ≤ 1 + z % 3; omega, by show 1 + z % 3 ≤ 30; omega⟩, by show 1 + z % 3 ≤ 3; omega, by show u + x % 6 + 1 + y % 5 ≤ 20; omega⟩
      · intro e he
        rcases List.mem_append.mp he with he | he
        · have := h8 e he
          omega
        · rw [List.mem_singleton.mp he]
          exact Int.le_refl _
      · refine List.pairwise_append.mpr ⟨h9, List.pairwise_singleton _ _, fun a ha b hb => ?_⟩
        rw [List.mem_singleton.mp hb]
        have := h8 a ha
        show a.l ≤ u + x % 6
        omega
  rw [rngL_length] at h4
  exact ⟨es, c4, _, c7, h3, h4, h7, h9⟩
theorem look_loop (dr : D) (v : Nat → Int) (n : Int) (hn : 0 < n) (L : Nat) (hix : ∀ i : Nat, i < L → ixD dr (.int i) = some (.int (v i))) (c1 c3 c4 c5 c6 c7 : Option Cell) (m : Nat) (hm : 20 + 5 * m ≤ L) (hm2 : m ≤ 16) :
    ∃ (ls : List Look) (c4' c9 c10 : Option Cell), loopF (gNm 4) lookBody (rngL 0 m) [some (.val dr), c1, some (.val (.int n)), c3, c4, c5, c6, c7, some (.own []), some (.val (.int 0)), none] = some (.nx [some (.val dr), c1, some (.val (.int n)), c3, c4', c5, c6, c7, some (.own (ls.map lD)), c9, c10]) ∧
      ls.length = m ∧ (∀ x ∈ ls, OkL n x ∧ x.s ≤ 3 * m ∧ x.l ≤ 3 ∧ -30 ≤ x.a ∧ x.a ≤ 30 ∧ x.z ≤ 4) ∧ ls.Pairwise (fun x y => x.s ≤ y.s) := by
  obtain ⟨r', h3, ls, u, c4', c10, rfl, h4, h5, h6, h7, h8, h9⟩ := loop_all (A := gNm 4) (body := lookBody) (items := rngL 0 m) (r := [some (.val dr), c1, some (.val (.int n)), c3, c4, c5, c6, c7, some (.own []), some (.val (.int 0)), none])
    (fun k r => ∃ (ls : List Look) (u : Int) (c4' c10 : Option Cell), r = [some (.val dr), c1, some (.val (.int n)), c3, c4', c5, c6, c7, some (.own (ls.map lD)), some (.val (.int u)), c10] ∧ ls.length = k ∧ 0 ≤ u ∧ u ≤ 3 * k ∧ (∀ x ∈ ls, OkL n x ∧ x.l ≤ 3 ∧ -30 ≤ x.a ∧ x.a ≤ 30 ∧ x.z ≤ 4) ∧ (∀ x ∈ ls, x.s ≤ u) ∧ ls.Pairwise (fun x y => x.s ≤ y.s))
    ⟨[], 0, c4, none, rfl, rfl, by decide, by decide, fun e he => by (cases he), fun e he => by (cases he), List.Pairwise.nil⟩ fun k d r e ⟨ls, u, c4', c10, er, h4, h5, h6, h7, h8, h9⟩ => by
      subst er
      obtain ⟨hk, rfl⟩ := rngL_get e
      rw [show (0 : Int) + (k : Int) = k from Int.zero_add _]
      have i0 := hix (20 + 5 * k) (by omega)
      have i1 := hix (21 + 5 * k) (by omega)
      have i2 := hix (22 + 5 * k) (by omega)
      have i3 := hix (23 + 5 * k) (by omega)
      have i4 := hix (24 + 5 * k) (by omega)
      rw [show ((20 + 5 * k : Nat) : Int) = 20 + 5 * (k : Int) by omega] at i0
      rw [show ((21 + 5 * k : Nat) : Int) = 21 + 5 * (k : Int) by omega] at i1
      rw [show ((22 + 5 * k : Nat) : Int) = 22 + 5 * (k : Int) by omega] at i2
      rw [show ((23 + 5 * k : Nat) : Int) = 23 + 5 * (k : Int) by omega] at i3
      rw [show ((24 + 5 * k : Nat) : Int) = 24 + 5 * (k : Int) by omega] at i4
      generalize v (20 + 5 * k) = x0 at i0
      generalize v (21 + 5 * k) = x1 at i1
      generalize v (22 + 5 * k) = x2 at i2
      generalize v (23 + 5 * k) = x3 at i3
      generalize v (24 + 5 * k) = x4 at i4
      have w0 := Int.emod_nonneg x1 (show n ≠ 0 by omega)
      have w1 := Int.emod_lt_of_pos x1 hn
      refine ⟨_, _, rfl, .inl (look_turn dr n hn c1 c3 c5 c6 c7 c10 ls k u x0 x1 x2 x3 x4 (small_len (by omega)) i0 i1 i2 i3 i4), ls ++ [Look.mk (x1 % n) (u + x0 % 4) (1 + x2 % 3) (x3 % 61 - 30) (1 + x4 % 4)], _, _, _, rfl, ?_, ?_, ?_, ?_, ?_, ?_⟩
      · rw [List.length_append, h4]; rfl
      · omega
      · omega
      · intro e he
        rcases List.mem_append.mp he with he | he
        · exact h7 e he
        · rw [List.mem_singleton.mp he]
          exact ⟨⟨w0, w1, by show 0 ≤ u + x0 % 4; omega, by show u + x0 % 4 ≤ 200; omega, by show 1 ≤ 1 + x2 % 3; omega, by show 1 + x2 % 3 ≤ 20; omega, by show -90 ≤ x3 % 61 - 30; omega, by show x3 % 61 - 30 ≤ 90; omega, by show 1 ≤ 1 + x4 % 4; omega, by show 1 + x4 % 4 ≤ 30; omega⟩, by show 1 + x2 % 3 ≤ 3; omega, by show -30 ≤ x3 % 61 - 30; omega, by show x3 % 61 - 30 ≤ 30; omega, by show 1 + x4 % 4 ≤ 4; omega⟩
      · intro e he
        rcases List.mem_append.mp he with he | he
        · have := h8 e he
          omega
        · rw [List.mem_singleton.mp he]
          exact Int.le_refl _
      · refine List.pairwise_append.mpr ⟨h9, List.pairwise_singleton _ _, fun a ha b hb => ?_⟩
        rw [List.mem_singleton.mp hb]
        have := h8 a ha
        show a.s ≤ u + x0 % 4
        omega
  rw [rngL_length] at h4 h6
  exact ⟨ls, c4', _, c10, h3, h4, fun x hx => ⟨(h7 x hx).1, Int.le_trans (h8 x hx) h6, (h7 x hx).2⟩, h9⟩
theorem worths_lc (dr : D) (v : Nat → Int) (hix : ∀ i : Nat, i < 16 → ixD dr (.int i) = some (.int (v i))) (c1 : D) (m : Nat) (hm : m ≤ 4) :
    lLc (SL.iRng1 (fV 2)) [4] (gNm 4) gYes (f2 modD (f1 intD (f2 ixD (fV 0) (f2 addD (fC (.int 1)) (fV 4)))) (fC (.int 10))) [some (.val dr), some (.val c1), some (.val (.int m)), none, none, none, none, none, none, none, none] =
      some (((List.range m).map fun k => v (1 + k) % 10).map .int, [some (.val dr), some (.val c1), some (.val (.int m)), none, none, none, none, none, none, none, none]) := by
  have hr := okR_of (i := (m : Int)) (by omega) (by omega)
  rw [lLc_eq (ds := rngL 0 m) (r0 := [some (.val dr), some (.val c1), some (.val (.int m)), none, none, none, none, none, none, none, none]) (zs := ((List.range m).map fun k => v (1 + k) % 10).map .int) (w := [some (.val dr), some (.val c1), some (.val (.int m)), none, none, none, none, none, none, none, none]) ?a ?b ?c]
  · rfl
  case a => simp [SL.iRng1, hr]
  case b =>
    rw [rngL_map, List.map_map]
    refine lcF_all (fun (i : Nat) => (.int i : D)) _ rfl fun k hk => ?_
    have hk2 : k < m := List.mem_range.mp hk
    have h1 := hix (1 + k) (by omega)
    rw [show ((1 + k : Nat) : Int) = 1 + (k : Int) by omega] at h1
    exact ⟨_, [some (.val dr), some (.val c1), some (.val (.int m)), none, some (.val (.int k)), none, none, none, none, none, none], rfl, by simp [h1, modD_p], rfl⟩
  case c => exact small_len (by simp; omega)
theorem sky_ok (dr : D) (v : Nat → Int) (most : Nat) (hm : most ≤ 16) (hix : ∀ i : Nat, i < 20 + 5 * most → ixD dr (.int i) = some (.int (v i))) :
    ∃ S : Sky, R__law_sky [dr, .int most] = some (skyD S) ∧ OkSky most S ∧ (∀ x ∈ S.looks, x.s ≤ 3 * most ∧ x.l ≤ 3 ∧ -30 ≤ x.a ∧ x.a ≤ 30 ∧ x.z ≤ 4) ∧ (∀ e ∈ S.ears, e.r ≤ 3 ∧ e.l ≤ 20) ∧ S.cap ≤ 8 := by
  have h0 := hix 0 (by omega)
  have h7 := hix 7 (by omega)
  have h8 := hix 8 (by omega)
  have h9 := hix 9 (by omega)
  have h16 := hix 16 (by omega)
  simp only [Int.natCast_zero] at h0
  rw [show ((7 : Nat) : Int) = 7 from rfl] at h7
  rw [show ((8 : Nat) : Int) = 8 from rfl] at h8
  rw [show ((9 : Nat) : Int) = 9 from rfl] at h9
  rw [show ((16 : Nat) : Int) = 16 from rfl] at h16
  obtain ⟨n, en⟩ := Int.eq_ofNat_of_zero_le (show 0 ≤ 1 + v 0 % 4 by omega)
  obtain ⟨me, eme⟩ := Int.eq_ofNat_of_zero_le (show 0 ≤ v 9 % 3 by omega)
  have hp : (0 : Int) < (most : Int) + 1 := by omega
  have hp2 : (most : Int) + 1 < 1073741824 := by omega
  obtain ⟨ml, eml⟩ := Int.eq_ofNat_of_zero_le (Int.emod_nonneg (v 16) (show (most : Int) + 1 ≠ 0 by omega))
  have lml := Int.emod_lt_of_pos (v 16) hp
  have n0 : (0 : Int) < n := by omega
  have lw := worths_lc dr v (fun i hi => hix i (by omega)) (.int most) n (by omega)
  obtain ⟨es, c4, c6, c7, g1, g2, g3, g4⟩ := ear_loop dr v (fun i hi => hix i (by omega)) (some (.val (.int most))) (some (.val (.int n))) (some (.val (.list (((List.range n).map fun k => v (1 + k) % 10).map .int)))) none none none me (by omega)
  obtain ⟨ls, c4', c9, c10, k1, k2, k3, k4⟩ := look_loop dr v n n0 (20 + 5 * most) hix (some (.val (.int most))) (some (.val (.list (((List.range n).map fun k => v (1 + k) % 10).map .int)))) c4 (some (.own (es.map eD))) c6 c7 ml (by omega) (by omega)
  have r1 := okR_of (i := (me : Int)) (by omega) (by omega)
  have r2 := okR_of (i := (ml : Int)) (by omega) (by omega)
  refine ⟨⟨ls, (List.range n).map fun k => v (1 + k) % 10, es, 2 + v 7 % 7, 1 + v 8 % 30⟩, ?_, ?_, ?_, ?_, ?_⟩
  · generalize hW : ((List.range n).map fun k => v (1 + k) % 10) = W at *
    generalize hWD : (PyData.list (W.map .int)) = WD at *
    unfold R__law_sky runP F__law_sky skyD
    rw [sSeq_nx (r1 := [some (.val dr), some (.val (.int most)), some (.val (.int n)), none, none, none, none, none, none, none, none]) (by simp [startE, h0, modD_p, en]),
      sSeq_nx (r1 := [some (.val dr), some (.val (.int most)), some (.val (.int n)), some (.val WD), none, none, none, none, none, none, none]) (by unfold sSet fL; rw [lw]; rw [← hWD]; rfl),
      sSeq_nx (r1 := [some (.val dr), some (.val (.int most)), some (.val (.int n)), some (.val WD), none, some (.own []), none, none, none, none, none]) rfl,
      sSeq_nx (r1 := [some (.val dr), some (.val (.int most)), some (.val (.int n)), some (.val WD), none, some (.own []), some (.val (.int 0)), none, none, none, none]) rfl,
      sSeq_nx (by rw [sFor_eq (ds := rngL 0 me) (r1 := [some (.val dr), some (.val (.int most)), some (.val (.int n)), some (.val WD), none, some (.own []), some (.val (.int 0)), none, none, none, none]) (by simp [SL.iRng1, h9, modD_p, eme, r1])]; exact g1),
      sSeq_nx (r1 := [some (.val dr), some (.val (.int most)), some (.val (.int n)), some (.val WD), c4, some (.own (es.map eD)), c6, c7, some (.own []), none, none]) rfl,
      sSeq_nx (r1 := [some (.val dr), some (.val (.int most)), some (.val (.int n)), some (.val WD), c4, some (.own (es.map eD)), c6, c7, some (.own []), some (.val (.int 0)), none]) rfl,
      sSeq_nx (by rw [sFor_eq (ds := rngL 0 ml) (r1 := [some (.val dr), some (.val (.int most)), some (.val (.int n)), some (.val WD), c4, some (.own (es.map eD)), c6, c7, some (.own []), some (.val (.int 0)), none]) (by simp [SL.iRng1, h16, modD_p hp, eml, r2])]; exact k1)]
    simp [h7, h8, modD_p, hWD]
  · exact {
      many := by show ls.length ≤ most; omega
      looks := fun x hx => by
        have := (k3 x hx).1
        show OkL (((List.range n).map fun k => v (1 + k) % 10).length : Nat) x
        rw [List.length_map, List.length_range]
        exact this
      asc := k4
      wl0 := by show 1 ≤ ((List.range n).map fun k => v (1 + k) % 10).length; rw [List.length_map, List.length_range]; omega
      wl1 := by show ((List.range n).map fun k => v (1 + k) % 10).length ≤ 4; rw [List.length_map, List.length_range]; omega
      worths := fun w hw => by
        obtain ⟨k, _, rfl⟩ := List.mem_map.mp hw
        omega
      el := by show es.length ≤ 2; omega
      ears := fun e he => (g3 e he).1
      apart := g4
      c0 := by show 2 ≤ 2 + v 7 % 7; omega
      c1 := by show 2 + v 7 % 7 ≤ 30; omega
      t0 := by show 1 ≤ 1 + v 8 % 30; omega
      t1 := by show 1 + v 8 % 30 ≤ 30; omega }
  · intro x hx
    obtain ⟨a, b, c⟩ := k3 x hx
    exact ⟨by omega, c⟩
  · exact fun e he => (g3 e he).2
  · show 2 + v 7 % 7 ≤ 8; omega
/-! ### the sky made greater -/
def grow (b : Int) (S : Sky) : Sky := ⟨S.looks.map fun x => ⟨x.w, b * x.s, b * x.l, 3 * x.a, 7 * x.z⟩, S.worths, S.ears.map fun e => ⟨b * e.f, b * e.l, 5 * e.r⟩, 3 * S.cap + 6, S.turn⟩
def gBody : FS := (sApp 3 (fTup (aCons (fV 4) (aCons (f2 mulD (fV 2) (fV 5)) (aCons (f2 mulD (fV 2) (fV 6)) (aCons (f2 mulD (fC (.int 3)) (fV 7)) (aCons (f2 mulD (fC (.int 7)) (fV 8)) aNil)))))))
abbrev gT5 : FG := (gTp 5 (gsCons (gNm 4) (gsCons (gNm 5) (gsCons (gNm 6) (gsCons (gNm 7) (gsCons (gNm 8) gsNil))))))
end Sk
/-! Turning and stores, in plain numbers. -/
namespace Sk
open PySem PySem.Spec PyProof.Rows L2 SL
theorem sky_i0 (S : Sky) : ixD (skyD S) (.int 0) = some (.list (S.looks.map lD)) := rfl
theorem sky_i1 (S : Sky) : ixD (skyD S) (.int 1) = some (.list (S.worths.map .int)) := rfl
theorem sky_i2 (S : Sky) : ixD (skyD S) (.int 2) = some (.list (S.ears.map eD)) := rfl
theorem sky_i3 (S : Sky) : ixD (skyD S) (.int 3) = some (.int S.cap) := rfl
theorem sky_i4 (S : Sky) : ixD (skyD S) (.int 4) = some (.int S.turn) := rfl
theorem look_ix {S : Sky} {i : Nat} {x : Look} (h : S.looks[i]? = some x) : ixD (.list (S.looks.map lD)) (.int (i : Int)) = some (lD x) := by
  refine (atI_lit _ i).trans ?_
  rw [List.getElem?_map, h]
  rfl
theorem end_ok {S : Sky} {i : Nat} {x : Look} (h : S.looks[i]? = some x) : R_end_of [skyD S, .int i] = some (.int (x.s + x.l)) := by
  have h0 := sky_i0 S
  have h1 := look_ix h
  generalize PyData.list (S.looks.map lD) = LD at h0 h1
  generalize skyD S = SD at h0
  unfold R_end_of runP F_end_of
  rw [sSeq_nx (r1 := [some (.val SD), some (.val (.int i)), some (.val (.int x.w)), some (.val (.int x.s)), some (.val (.int x.l)), some (.val (.int x.a)), some (.val (.int x.z))]) (by
    unfold sAsg
    simp [startE, h0, h1, lD, gTp, gsCons, gsNil, gNm])]
  simp
def dA (a b : Int) : Int := if b - a < 0 then -(b - a) else b - a
def turnZ (t a b : Int) : Int := -((-(dA a b)) / t)
theorem whole_ok (i : Int) : R__law_is_whole [.int i] = some (.bool true) := by
  unfold R__law_is_whole runP F__law_is_whole
  simp [startE]
/-! ### the law's turning -/
def turnBody : FS := (sSeq (sIf (gT (f2 geD (f2 mulD (fV 3) (f2 ixD (fV 0) (fC (.int 4)))) (f1 absD (f2 subD (f2 ixD (f2 ixD (f2 ixD (fV 0) (fC (.int 0))) (fV 2)) (fC (.int 3))) (f2 ixD (f2 ixD (f2 ixD (fV 0) (fC (.int 0))) (fV 1)) (fC (.int 3))))))) sBrk sNext)
    (sSet 3 (f2 addD (fV 3) (fC (.int 1)))))
theorem turn_ev (SD LD X Y : D) (i j k t kt d a b : Int) (c4 : Option Cell) (h0 : ixD SD (.int 0) = some LD) (h4 : ixD SD (.int 4) = some (.int t)) (h1 : ixD LD (.int i) = some X) (h2 : ixD LD (.int j) = some Y) (e1 : ixD X (.int 3) = some (.int a)) (e2 : ixD Y (.int 3) = some (.int b))
    (m : mulD (.int k) (.int t) = some (.int kt)) (ab : absD (.int (b - a)) = some (.int d)) :
    turnBody [some (.val SD), some (.val (.int i)), some (.val (.int j)), some (.val (.int k)), c4] =
      if d ≤ kt then some (.bk [some (.val SD), some (.val (.int i)), some (.val (.int j)), some (.val (.int k)), c4])
      else some (.nx [some (.val SD), some (.val (.int i)), some (.val (.int j)), some (.val (.int (k + 1))), c4]) := by
  unfold turnBody
  by_cases h : d ≤ kt
  · rw [if_pos h]
    simp [h0, h1, h2, h4, e1, e2, m, ab, -absD_i, h]
  · rw [if_neg h]
    simp [h0, h1, h2, h4, e1, e2, m, ab, -absD_i, h]
theorem turn_step {S : Sky} {i j : Nat} {x y : Look} (hx : S.looks[i]? = some x) (hy : S.looks[j]? = some y) (ht : 1 ≤ S.turn) (ht2 : S.turn ≤ 30) (k : Nat) (c4 : Option Cell) :
    turnBody [some (.val (skyD S)), some (.val (.int i)), some (.val (.int j)), some (.val (.int k)), c4] =
      if dA x.a y.a ≤ (k : Int) * S.turn then some (.bk [some (.val (skyD S)), some (.val (.int i)), some (.val (.int j)), some (.val (.int k)), c4])
      else some (.nx [some (.val (skyD S)), some (.val (.int i)), some (.val (.int j)), some (.val (.int ((k + 1 : Nat) : Int))), c4]) :=
  turn_ev (skyD S) (.list (S.looks.map lD)) (lD x) (lD y) i j k S.turn _ _ x.a y.a c4 (sky_i0 S) (sky_i4 S) (look_ix hx) (look_ix hy) rfl rfl (mulD_r (small_of (by omega) (by omega))) rfl
theorem turnZ_le {t a b : Int} (ht : 1 ≤ t) (k : Nat) : dA a b ≤ (k : Int) * t ↔ turnZ t a b ≤ k := by
  unfold turnZ
  generalize dA a b = d
  rw [show (-(-d / t) ≤ (k : Int)) ↔ (-(k : Int) ≤ -d / t) by omega, Int.le_ediv_iff_mul_le (by omega), Int.neg_mul]
  omega
theorem dA_nonneg (a b : Int) : 0 ≤ dA a b := by unfold dA; split <;> omega
theorem turnZ_nonneg {t a b : Int} (ht : 1 ≤ t) : 0 ≤ turnZ t a b := by
  unfold turnZ
  have := dA_nonneg a b
  have h : -dA a b / t ≤ 0 := by
    have := Int.ediv_le_ediv (show 0 < t by omega) (show -dA a b ≤ 0 by omega)
    rwa [Int.zero_ediv] at this
  omega
theorem lturn_ok {S : Sky} {n : Nat} {i j : Nat} {x y : Look} (hx : S.looks[i]? = some x) (hy : S.looks[j]? = some y) (ox : OkL n x) (oy : OkL n y) (ht : 1 ≤ S.turn) (ht2 : S.turn ≤ 30) : R__law_turn [skyD S, .int i, .int j] = some (.int (turnZ S.turn x.a y.a)) := by
  obtain ⟨z, ez⟩ := Int.eq_ofNat_of_zero_le (turnZ_nonneg (a := x.a) (b := y.a) ht)
  have hd : dA x.a y.a ≤ 180 := by
    have := ox.a0; have := ox.a1; have := oy.a0; have := oy.a1
    unfold dA
    split <;> omega
  have zle := fun k => turnZ_le (a := x.a) (b := y.a) ht k
  rw [ez] at zle ⊢
  have z180 : z ≤ 180 := by
    have := (zle 180).mp (by
      have : (180 : Int) * 1 ≤ 180 * S.turn := Int.mul_le_mul_of_nonneg_left ht (by decide)
      show dA x.a y.a ≤ 180 * S.turn
      omega)
    omega
  obtain ⟨r', h3, h4⟩ := loop_brk (A := gNm 4) (body := turnBody) (items := rngL 0 200) (r := [some (.val (skyD S)), some (.val (.int i)), some (.val (.int j)), some (.val (.int 0)), none])
    (fun k r => k ≤ z ∧ ∃ c4 : Option Cell, r = [some (.val (skyD S)), some (.val (.int i)), some (.val (.int j)), some (.val (.int k)), c4])
    (fun r => ∃ c4 : Option Cell, r = [some (.val (skyD S)), some (.val (.int i)), some (.val (.int j)), some (.val (.int z)), c4])
    0 ⟨Nat.zero_le _, none, rfl⟩ fun k d r e ⟨hk, c4, er⟩ => by
      subst er
      rw [Nat.zero_add] at *
      obtain ⟨hi, rfl⟩ := rngL_get e
      have st := turn_step hx hy ht ht2 k (some (.val (.int (0 + (k : Int)))))
      by_cases h : dA x.a y.a ≤ (k : Int) * S.turn
      · have h2 := (zle k).mp h
        rw [if_pos h] at st
        have : k = z := by omega
        subst this
        exact ⟨_, rfl, .inr ⟨_, st, _, rfl⟩⟩
      · have h2 := mt (zle k).mpr h
        rw [if_neg h] at st
        exact ⟨_, rfl, .inl ⟨_, .inl st, by omega, _, rfl⟩⟩
  have fin : ∃ c4 : Option Cell, r' = [some (.val (skyD S)), some (.val (.int i)), some (.val (.int j)), some (.val (.int z)), c4] := by
    rcases h4 with ⟨h5, _⟩ | h5
    · rw [rngL_length] at h5
      omega
    · exact h5
  obtain ⟨c4, rfl⟩ := fin
  unfold R__law_turn runP F__law_turn
  rw [sSeq_nx (r1 := [some (.val (skyD S)), some (.val (.int i)), some (.val (.int j)), some (.val (.int 0)), none]) (by simp [startE]),
    sSeq_nx (by rw [sFor_eq (ds := rngL 0 200) (r1 := [some (.val (skyD S)), some (.val (.int i)), some (.val (.int j)), some (.val (.int 0)), none]) rfl]; exact h3)]
  simp
/-! ### stores -/
def mx (i j : Int) : Int := if j > i then j else i
def mn (i j : Int) : Int := if j < i then j else i
def oneLoss (since until_ : Int) (e : Ear) : Int := e.r * mx 0 (mn until_ e.l - mx since e.f)
def lossZ (es : List Ear) (since until_ : Int) : Int := es.foldl (fun u e => u + oneLoss since until_ e) 0
def lossBody : FS := (sAug 3 iaddD (f2 mulD (fV 6) (f2 max2D (fC (.int 0)) (f2 subD (f2 min2D (fV 2) (fV 5)) (f2 max2D (fV 1) (fV 4))))))
abbrev gT3 : FG := (gTp 3 (gsCons (gNm 4) (gsCons (gNm 5) (gsCons (gNm 6) gsNil))))
theorem loss_turn (E : D) (since until_ u f l r w1 w2 w3 z : Int) (h1 : min2D (.int until_) (.int l) = some (.int w1)) (h2 : max2D (.int since) (.int f) = some (.int w2)) (h3 : max2D (.int 0) (.int (w1 - w2)) = some (.int w3)) (m : mulD (.int r) (.int w3) = some (.int z)) :
    lossBody [some (.val E), some (.val (.int since)), some (.val (.int until_)), some (.val (.int u)), some (.val (.int f)), some (.val (.int l)), some (.val (.int r))] =
      some (.nx [some (.val E), some (.val (.int since)), some (.val (.int until_)), some (.val (.int (u + z))), some (.val (.int f)), some (.val (.int l)), some (.val (.int r))]) := by
  unfold lossBody
  simp [-max2D_i, -min2D_i, h1, h2, h3, m]
theorem loss_ok (es : List Ear) (ok : ∀ e ∈ es, OkE e) (since until_ : Int) : R_loss [.list (es.map eD), .int since, .int until_] = some (.int (lossZ es since until_)) := by
  obtain ⟨r', h1, c4, c5, c6, rfl⟩ := loop_fold (A := gT3) (body := lossBody) eD
    (fun (u : Int) r => ∃ c4 c5 c6 : Option Cell, r = [some (.val (.list (es.map eD))), some (.val (.int since)), some (.val (.int until_)), some (.val (.int u)), c4, c5, c6])
    (fun u e => u + oneLoss since until_ e) (xs := es) (b := 0) (r := [some (.val (.list (es.map eD))), some (.val (.int since)), some (.val (.int until_)), some (.val (.int 0)), none, none, none])
    (fun u e r he ⟨c4, c5, c6, er⟩ => by
      subst er
      have o := ok e he
      have m : mulD (.int e.r) (.int (mx 0 (mn until_ e.l - mx since e.f))) = some (.int (oneLoss since until_ e)) := mulD_l (small_of (by have := o.r0; omega) (by have := o.r1; omega))
      exact ⟨[some (.val (.list (es.map eD))), some (.val (.int since)), some (.val (.int until_)), some (.val (.int u)), some (.val (.int e.f)), some (.val (.int e.l)), some (.val (.int e.r))], _, rfl, .inl (loss_turn _ since until_ u e.f e.l e.r _ _ _ _ rfl rfl rfl m), _, _, _, rfl⟩)
    ⟨none, none, none, rfl⟩
  unfold R_loss runP F_loss
  rw [sSeq_nx (r1 := [some (.val (.list (es.map eD))), some (.val (.int since)), some (.val (.int until_)), some (.val (.int 0)), none, none, none]) rfl,
    sSeq_nx (by rw [sFor_eq (ds := es.map eD) (r1 := [some (.val (.list (es.map eD))), some (.val (.int since)), some (.val (.int until_)), some (.val (.int 0)), none, none, none]) rfl]; exact h1)]
  simp [lossZ]
theorem emp_ev (R : List D → Option D) (SD E : D) (a since until_ z : Int) (h2 : ixD SD (.int 2) = some E) (hl : R [E, .int since, .int until_] = some (.int z)) :
    endP (sRet (f2 max2D (fC (.int 0)) (f2 subD (fV 1) (fCall R (aCons (f2 ixD (fV 0) (fC (.int 2))) (aCons (fV 2) (aCons (fV 3) aNil)))))) (startE 4 [SD, .int a, .int since, .int until_])) = some (.int (mx 0 (a - z))) := by
  unfold mx
  simp [startE, h2, hl]
theorem emptied_ok (S : Sky) (ok : ∀ e ∈ S.ears, OkE e) (a since until_ : Int) : R_emptied [skyD S, .int a, .int since, .int until_] = some (.int (mx 0 (a - lossZ S.ears since until_))) :=
  emp_ev R_loss (skyD S) _ a since until_ _ (sky_i2 S) (loss_ok S.ears ok since until_)
/-- what is lost in one tick -/
def tickLoss (es : List Ear) (t : Int) : Int := es.foldl (fun u e => u + if e.f ≤ t ∧ t < e.l then e.r else 0) 0
theorem fold_add {α : Type} (g : α → Int) : ∀ (xs : List α) (u : Int), xs.foldl (fun u x => u + g x) u = u + xs.foldl (fun u x => u + g x) 0
  | [], u => (Int.add_zero u).symm
  | x :: xs, u => by
    rw [List.foldl_cons, fold_add g xs, List.foldl_cons, fold_add g xs (0 + g x)]
    omega
theorem fold_sum {α : Type} (g h k : α → Int) : ∀ (xs : List α), (∀ x ∈ xs, g x = h x + k x) → xs.foldl (fun u x => u + g x) 0 = xs.foldl (fun u x => u + h x) 0 + xs.foldl (fun u x => u + k x) 0
  | [], _ => rfl
  | x :: xs, hx => by
    rw [List.foldl_cons, List.foldl_cons, List.foldl_cons, fold_add g, fold_add h, fold_add k, fold_sum g h k xs fun y hy => hx y (List.mem_cons_of_mem _ hy), hx x (List.mem_cons_self ..)]
    omega
theorem fold_zero {α : Type} (g : α → Int) : ∀ (xs : List α), (∀ x ∈ xs, g x = 0) → xs.foldl (fun u x => u + g x) 0 = 0
  | [], _ => rfl
  | x :: xs, hx => by
    rw [List.foldl_cons, fold_add g, fold_zero g xs fun y hy => hx y (List.mem_cons_of_mem _ hy), hx x (List.mem_cons_self ..)]
    rfl
theorem one_step {since t : Int} (h : since ≤ t) (e : Ear) (he : e.f < e.l) : oneLoss since (t + 1) e = oneLoss since t e + if e.f ≤ t ∧ t < e.l then e.r else 0 := by
  unfold oneLoss mx mn
  by_cases h1 : e.f ≤ t ∧ t < e.l
  · rw [if_pos h1]
    have a1 : (if e.l < t + 1 then e.l else t + 1) = t + 1 := if_neg (by omega)
    have a2 : (if e.l < t then e.l else t) = t := if_neg (by omega)
    rw [a1, a2]
    by_cases h2 : e.f > since
    · rw [if_pos h2, if_pos (show t + 1 - e.f > 0 by omega)]
      by_cases h3 : t - e.f > 0
      · rw [if_pos h3, show t + 1 - e.f = (t - e.f) + 1 by omega, Int.mul_add, Int.mul_one]
      · rw [if_neg h3, show t + 1 - e.f = 1 by omega, Int.mul_one, Int.mul_zero, Int.zero_add]
    · rw [if_neg h2, if_pos (show t + 1 - since > 0 by omega)]
      by_cases h3 : t - since > 0
      · rw [if_pos h3, show t + 1 - since = (t - since) + 1 by omega, Int.mul_add, Int.mul_one]
      · rw [if_neg h3, show t + 1 - since = 1 by omega, Int.mul_one, Int.mul_zero, Int.zero_add]
  · rw [if_neg h1, Int.add_zero]
    congr 1
    by_cases h2 : e.l ≤ t
    · have a1 : (if e.l < t + 1 then e.l else t + 1) = e.l := if_pos (by omega)
      have a2 : (if e.l < t then e.l else t) = e.l := by split <;> omega
      rw [a1, a2]
    · have a1 : (if e.l < t + 1 then e.l else t + 1) = t + 1 := if_neg (by omega)
      have a2 : (if e.l < t then e.l else t) = t := if_neg (by omega)
      have a3 : (if e.f > since then e.f else since) = e.f := if_pos (by omega)
      rw [a1, a2, a3, if_neg (by omega), if_neg (by omega)]
/-- the losses of k ticks -/
def sumLoss (es : List Ear) (since : Int) : Nat → Int
  | 0 => 0
  | k + 1 => sumLoss es since k + tickLoss es (since + k)
theorem loss_sum (es : List Ear) (ok : ∀ e ∈ es, OkE e) (since : Int) : ∀ k : Nat, lossZ es since (since + k) = sumLoss es since k
  | 0 => by
    unfold lossZ
    refine fold_zero _ es fun e he => ?_
    unfold oneLoss mx mn
    rw [if_neg (by
      have := (ok e he).fl
      rw [show since + ((0 : Nat) : Int) = since from Int.add_zero _]
      split <;> split <;> omega), Int.mul_zero]
  | k + 1 => by
    rw [show since + ((k + 1 : Nat) : Int) = (since + k) + 1 by omega]
    unfold lossZ
    rw [fold_sum _ (oneLoss since (since + k)) (fun e => if e.f ≤ since + k ∧ since + k < e.l then e.r else 0) es fun e he => one_step (by omega) e (ok e he).fl]
    have ih := loss_sum es ok since k
    unfold lossZ at ih
    rw [ih]
    rfl
theorem tick_nonneg {es : List Ear} (ok : ∀ e ∈ es, OkE e) (t : Int) : 0 ≤ tickLoss es t := by
  unfold tickLoss
  induction es with
  | nil => exact Int.le_refl _
  | cons e es ih =>
    rw [List.foldl_cons, fold_add fun e : Ear => if e.f ≤ t ∧ t < e.l then e.r else 0]
    have := ih fun x hx => ok x (List.mem_cons_of_mem _ hx)
    have := (ok e (List.mem_cons_self ..)).r0
    split <;> omega
theorem sum_nonneg {es : List Ear} (ok : ∀ e ∈ es, OkE e) (since : Int) : ∀ k, 0 ≤ sumLoss es since k
  | 0 => Int.le_refl _
  | k + 1 => by
    have := sum_nonneg ok since k
    have := tick_nonneg ok (since + k)
    show 0 ≤ sumLoss es since k + tickLoss es (since + k)
    omega
/-! the law's store -/
def leftIn : FS := (sIf (gT (fChain leD ltD (fV 5) (fV 4) (fV 6))) (sSet 1 (f2 max2D (fC (.int 0)) (f2 subD (fV 1) (fV 7)))) sNext)
abbrev gT3b : FG := (gTp 3 (gsCons (gNm 5) (gsCons (gNm 6) (gsCons (gNm 7) gsNil))))
def leftBody : FS := (sFor (iSeq (f2 ixD (fV 0) (fC (.int 2)))) gT3b leftIn)
theorem left_fold (t : Int) : ∀ (es : List Ear) (_ : ∀ e ∈ es, OkE e) (a u : Int), 0 ≤ u → es.foldl (fun a e => if e.f ≤ t ∧ t < e.l then mx 0 (a - e.r) else a) (mx 0 (a - u)) = mx 0 (a - (u + tickLoss es t))
  | [], _, a, u, _ => by
    show mx 0 (a - u) = mx 0 (a - (u + 0))
    rw [Int.add_zero]
  | e :: es, ok, a, u, hu => by
    have o := ok e (List.mem_cons_self ..)
    have e1 : tickLoss (e :: es) t = (if e.f ≤ t ∧ t < e.l then e.r else 0) + tickLoss es t := by
      unfold tickLoss
      rw [List.foldl_cons, fold_add fun e : Ear => if e.f ≤ t ∧ t < e.l then e.r else 0]
      omega
    rw [List.foldl_cons, e1]
    have hr := o.r0
    by_cases h : e.f ≤ t ∧ t < e.l
    · rw [if_pos h, if_pos h]
      have e2 : mx 0 (mx 0 (a - u) - e.r) = mx 0 (a - (u + e.r)) := by
        unfold mx
        split <;> split <;> split <;> omega
      rw [e2, left_fold t es (fun x hx => ok x (List.mem_cons_of_mem _ hx)) a (u + e.r) (by omega), Int.add_assoc]
    · rw [if_neg h, if_neg h, Int.zero_add]
      exact left_fold t es (fun x hx => ok x (List.mem_cons_of_mem _ hx)) a u hu
/-! ### what is shown -/
theorem look_sw {n : Int} (hn : n ≤ 1000) {x : Look} (h : OkL n x) : Sw 38 (lD x) := by
  refine Sw.mono (Sw.tuple (n := 5) (ds := [.int x.w, .int x.s, .int x.l, .int x.a, .int x.z]) fun d hd => ?_) (show 5 * (5 + 2) + 3 ≤ 38 by decide)
  have := h.w0; have := h.w1; have := h.s0; have := h.s1; have := h.l0; have := h.l1; have := h.a0; have := h.a1; have := h.z0; have := h.z1
  simp only [List.mem_cons, List.not_mem_nil, or_false] at hd
  rcases hd with rfl | rfl | rfl | rfl | rfl <;> exact Sw.int (k := 4) (by decide) (by decide) (by omega)
theorem ear_sw {e : Ear} (h : OkE e) : Sw 24 (eD e) := by
  refine Sw.mono (Sw.tuple (n := 5) (ds := [.int e.f, .int e.l, .int e.r]) fun d hd => ?_) (show 3 * (5 + 2) + 3 ≤ 24 by decide)
  have := h.f0; have := h.fl; have := h.l1; have := h.r0; have := h.r1
  simp only [List.mem_cons, List.not_mem_nil, or_false] at hd
  rcases hd with rfl | rfl | rfl <;> exact Sw.int (k := 4) (by decide) (by decide) (by omega)
theorem sky_sw {most : Nat} (hm : most ≤ 16) {S : Sky} (ok : OkSky most S) : Sw 3600 (skyD S) := by
  refine Sw.mono (Sw.tuple (n := 700) (ds := [.list (S.looks.map lD), .list (S.worths.map .int), .list (S.ears.map eD), .int S.cap, .int S.turn]) fun d hd => ?_) (show 5 * (700 + 2) + 3 ≤ 3600 by decide)
  have := ok.many; have := ok.wl1; have := ok.el
  simp only [List.mem_cons, List.not_mem_nil, or_false] at hd
  rcases hd with rfl | rfl | rfl | rfl | rfl
  · refine Sw.mono (Sw.list (n := 38) fun d hd => ?_) (by rw [List.length_map]; omega)
    obtain ⟨x, hx, rfl⟩ := List.mem_map.mp hd
    exact look_sw (by omega) (ok.looks x hx)
  · refine Sw.mono (Sw.list (n := 5) fun d hd => ?_) (by rw [List.length_map]; omega)
    obtain ⟨x, hx, rfl⟩ := List.mem_map.mp hd
    exact Sw.int (k := 4) (by decide) (by decide) (by have := ok.worths x hx; omega)
  · refine Sw.mono (Sw.list (n := 24) fun d hd => ?_) (by rw [List.length_map]; omega)
    obtain ⟨x, hx, rfl⟩ := List.mem_map.mp hd
    exact ear_sw (ok.ears x hx)
  · exact Sw.mono (Sw.int (k := 4) (by decide) (by decide) (by have := ok.c0; have := ok.c1; omega)) (by decide)
  · exact Sw.mono (Sw.int (k := 4) (by decide) (by decide) (by have := ok.t0; have := ok.t1; omega)) (by decide)
theorem look_sh (x : Look) : Sh 1 (lD x) := Sh.tuple (n := 0) fun d hd => by
  simp only [List.mem_cons, List.not_mem_nil, or_false] at hd
  rcases hd with rfl | rfl | rfl | rfl | rfl <;> exact Sh.int 0 _
theorem ear_sh (e : Ear) : Sh 1 (eD e) := Sh.tuple (n := 0) fun d hd => by
  simp only [List.mem_cons, List.not_mem_nil, or_false] at hd
  rcases hd with rfl | rfl | rfl <;> exact Sh.int 0 _
theorem sky_sh (S : Sky) : Sh 3 (skyD S) := Sh.tuple (n := 2) fun d hd => by
  simp only [List.mem_cons, List.not_mem_nil, or_false] at hd
  rcases hd with rfl | rfl | rfl | rfl | rfl
  · exact Sh.list (n := 1) fun d hd => by
      obtain ⟨x, _, rfl⟩ := List.mem_map.mp hd
      exact look_sh x
  · exact Sh.list (n := 1) fun d hd => by
      obtain ⟨x, _, rfl⟩ := List.mem_map.mp hd
      exact Sh.int 1 _
  · exact Sh.list (n := 1) fun d hd => by
      obtain ⟨x, _, rfl⟩ := List.mem_map.mp hd
      exact ear_sh x
  · exact Sh.int 2 _
  · exact Sh.int 2 _
end Sk
/-! What is wrong in a list of names, in plain numbers. -/
namespace Sk
open PySem PySem.Spec PyProof.Rows L2 SL
def F__law_store : FS := (sSeq (sSet 3 (fC (.int 0)))
    (sSeq (sFor (SL.iRng1 (f2 addD (fV 2) (fC (.int 1)))) (gNm 4) (sSeq (sFor (iSeq (f2 ixD (fV 0) (fC (.int 2)))) (gTp 3 (gsCons (gNm 5) (gsCons (gNm 6) (gsCons (gNm 7) gsNil)))) (sIf (gT (fChain leD ltD (fV 5) (f2 subD (fV 4) (fC (.int 1))) (fV 6))) (sSet 3 (f2 max2D (fC (.int 0)) (f2 subD (fV 3) (fV 7)))) sNext))
    (sFor (iSeq (fV 1)) (gNm 8) (sSeq (sAsg (f2 ixD (f2 ixD (fV 0) (fC (.int 0))) (fV 8)) (gTp 5 (gsCons (gNm 9) (gsCons (gNm 10) (gsCons (gNm 11) (gsCons (gNm 12) (gsCons (gNm 13) gsNil)))))))
    (sIf (gT (f2 eqD (f2 addD (fV 10) (fV 11)) (fV 4))) (sSet 3 (f2 addD (fV 3) (fV 13))) sNext)))))
    (sRet (fV 3))))
def R__law_store : List D → Option D := runP 14 F__law_store
def F__law_wrong : FS := (sSeq (sFor (SL.iRng1 (f1 lenD (fV 1))) (gNm 2) (sSeq (sSet 3 (f2 ixD (f2 ixD (fV 0) (fC (.int 0))) (f2 ixD (fV 1) (fV 2))))
    (sSeq (sIf (gAnd (gT (f2 gtD (fV 2) (fC (.int 0)))) (gT (f2 leD (f2 ixD (fV 1) (fV 2)) (f2 ixD (fV 1) (f2 subD (fV 2) (fC (.int 1))))))) (sRet (fTup (aCons (fC (.str "order")) (aCons (fV 2) aNil)))) sNext)
    (sSeq (sIf (gT (f2 inD (f2 ixD (fV 3) (fC (.int 0))) (fL (lLc (iSeq (fCut (fV 1) oNone (oSome (fV 2)))) [4] (gNm 4) gYes (f2 ixD (f2 ixD (f2 ixD (fV 0) (fC (.int 0))) (fV 4)) (fC (.int 0))))))) (sRet (fTup (aCons (fC (.str "wish")) (aCons (fV 2) aNil)))) sNext)
    (sSeq (sIf (gT (f2 gtD (fV 2) (fC (.int 0)))) (sSeq (sSet 5 (f2 ixD (f2 ixD (fV 0) (fC (.int 0))) (f2 ixD (fV 1) (f2 subD (fV 2) (fC (.int 1))))))
    (sIf (gT (f2 ltD (f2 ixD (fV 3) (fC (.int 1))) (f2 addD (f2 addD (f2 ixD (fV 5) (fC (.int 1))) (f2 ixD (fV 5) (fC (.int 2)))) (fCall R__law_turn (aCons (fV 0) (aCons (f2 ixD (fV 1) (f2 subD (fV 2) (fC (.int 1)))) (aCons (f2 ixD (fV 1) (fV 2)) aNil))))))) (sRet (fTup (aCons (fC (.str "turning")) (aCons (fV 2) aNil)))) sNext)) sNext)
    (sIf (gT (f2 gtD (f2 addD (fCall R__law_store (aCons (fV 0) (aCons (fCut (fV 1) oNone (oSome (fV 2))) (aCons (f2 ixD (fV 3) (fC (.int 1))) aNil)))) (f2 ixD (fV 3) (fC (.int 4)))) (f2 ixD (fV 0) (fC (.int 3))))) (sRet (fTup (aCons (fC (.str "room")) (aCons (fV 2) aNil)))) sNext))))))
    (sRet (fC .none)))
def R__law_wrong : List D → Option D := runP 6 F__law_wrong
def F_stored_at : FS := (sSeq (sIf (gT (f2 isD (fV 1) (fC .none))) (sRet (fC (.int 0))) sNext)
    (sRet (fCall R_emptied (aApp (aCons (fV 0) (aCons (fV 2) aNil)) (aCons (fCall R_end_of (aCons (fV 0) (aCons (fV 1) aNil))) (aCons (fV 3) aNil))))))
def R_stored_at : List D → Option D := runP 4 F_stored_at
def F_level_behind : FS := (sSeq (sAsg (f2 ixD (f2 ixD (fV 0) (fC (.int 0))) (fV 3)) (gTp 5 (gsCons (gNm 4) (gsCons (gNm 5) (gsCons (gNm 6) (gsCons (gNm 7) (gsCons (gNm 8) gsNil)))))))
    (sSeq (sIf (gT (f2 gtD (f2 addD (fCall R_stored_at (aCons (fV 0) (aCons (fV 1) (aCons (fV 2) (aCons (fV 5) aNil))))) (fV 8)) (f2 ixD (fV 0) (fC (.int 3))))) (sRet (fC .none)) sNext)
    (sRet (f2 addD (fCall R_stored_at (aCons (fV 0) (aCons (fV 1) (aCons (fV 2) (aCons (f2 addD (fV 5) (fV 6)) aNil))))) (fV 8)))))
def R_level_behind : List D → Option D := runP 9 F_level_behind
def F_follows : FS := (sRet (f2 geD (f2 ixD (f2 ixD (f2 ixD (fV 0) (fC (.int 0))) (fV 2)) (fC (.int 1))) (f2 addD (fCall R_end_of (aCons (fV 0) (aCons (fV 1) aNil))) (fCall R_turning (aCons (fV 0) (aCons (fV 1) (aCons (fV 2) aNil)))))))
def R_follows : List D → Option D := runP 3 F_follows
def F_wrong_in : FS := (sSeq (sSet 2 (fC .none))
    (sSeq (sSet 3 (fC (.int 0)))
    (sSeq (sSetO 4 (lDisp aNil))
    (sSeq (sFor (iEnumD (fV 1)) (gTp 2 (gsCons (gNm 5) (gsCons (gNm 6) gsNil))) (sSeq (sIf (gAnd (gT (f2 isNotD (fV 2) (fC .none))) (gT (f2 leD (fV 6) (fV 2)))) (sRet (fTup (aCons (fC (.str "order")) (aCons (fV 5) aNil)))) sNext)
    (sSeq (sIf (gT (f2 inD (f2 ixD (f2 ixD (f2 ixD (fV 0) (fC (.int 0))) (fV 6)) (fC (.int 0))) (fVp 4))) (sRet (fTup (aCons (fC (.str "wish")) (aCons (fV 5) aNil)))) sNext)
    (sSeq (sIf (gAnd (gT (f2 isNotD (fV 2) (fC .none))) (gNot (gTru (fCall R_follows (aCons (fV 0) (aCons (fV 2) (aCons (fV 6) aNil))))))) (sRet (fTup (aCons (fC (.str "turning")) (aCons (fV 5) aNil)))) sNext)
    (sSeq (sSet 3 (fCall R_level_behind (aCons (fV 0) (aCons (fV 2) (aCons (fV 3) (aCons (fV 6) aNil))))))
    (sSeq (sIf (gT (f2 isD (fV 3) (fC .none))) (sRet (fTup (aCons (fC (.str "room")) (aCons (fV 5) aNil)))) sNext)
    (sSeq (sApp 4 (f2 ixD (f2 ixD (f2 ixD (fV 0) (fC (.int 0))) (fV 6)) (fC (.int 0))))
    (sSet 2 (fV 6)))))))))
    (sRet (fC .none))))))
def R_wrong_in : List D → Option D := runP 7 F_wrong_in
def F_is_plan : FS := (sRet (f2 isD (fCall R_wrong_in (aCons (fV 0) (aCons (fV 1) aNil))) (fC .none)))
def R_is_plan : List D → Option D := runP 2 F_is_plan
def F_worth_of : FS := (sSeq (sSetO 2 (lDisp aNil))
    (sSeq (sFor (iSeq (fV 1)) (gNm 3) (sIf (gT (f2 notInD (f2 ixD (f2 ixD (f2 ixD (fV 0) (fC (.int 0))) (fV 3)) (fC (.int 0))) (fVp 2))) (sApp 2 (f2 ixD (f2 ixD (f2 ixD (fV 0) (fC (.int 0))) (fV 3)) (fC (.int 0)))) sNext))
    (sRet (f1 sumD (fL (lLc (iSeq (fV 2)) [4] (gNm 4) gYes (f2 ixD (f2 ixD (fV 0) (fC (.int 1))) (fV 4))))))))
def R_worth_of : List D → Option D := runP 5 F_worth_of
def F__law_worth : FS := (sSeq (sSet 2 (fL (lLc (iSeq (fV 1)) [3] (gNm 3) gYes (f2 ixD (f2 ixD (f2 ixD (fV 0) (fC (.int 0))) (fV 3)) (fC (.int 0))))))
    (sRet (f1 sumD (fL (lLc (SL.iRng1 (f1 lenD (f2 ixD (fV 0) (fC (.int 1))))) [4] (gNm 4) (gT (f2 inD (fV 4) (fV 2))) (f2 ixD (f2 ixD (fV 0) (fC (.int 1))) (fV 4)))))))
def R__law_worth : List D → Option D := runP 5 F__law_worth
/-! ### a loop that may return -/
theorem loop_first {A : FG} {body : FS} (b : Nat → Option D) (P : Nat → Ev → Prop) : ∀ {items : List D} {r : Ev} (k : Nat), P k r → (∀ i d r, items[i]? = some d → P (k + i) r → ∃ r1, A d r = some r1 ∧ ((b (k + i) = none ∧ ∃ r2, (body r1 = some (.nx r2) ∨ body r1 = some (.ct r2)) ∧ P (k + i + 1) r2) ∨ ∃ dv r2, b (k + i) = some dv ∧ body r1 = some (.rt dv r2))) →
    (((List.range' k items.length).findSome? b = none ∧ ∃ r', loopF A body items r = some (.nx r') ∧ P (k + items.length) r') ∨ ∃ dv r', (List.range' k items.length).findSome? b = some dv ∧ loopF A body items r = some (.rt dv r'))
  | [], r, k, h0, _ => .inl ⟨rfl, r, rfl, h0⟩
  | d :: ds, r, k, h0, hs => by
    have ht : List.range' k (d :: ds).length = k :: List.range' (k + 1) ds.length := rfl
    have hl : loopF A body (d :: ds) r = (A d r).bind fun r1 => match body r1 with | some (.nx r2) => loopF A body ds r2 | some (.ct r2) => loopF A body ds r2 | some (.bk r2) => some (.nx r2) | o => o := rfl
    obtain ⟨r1, h1, h2⟩ := hs 0 d r rfl h0
    rw [ht, List.findSome?_cons, hl, h1]
    rcases h2 with ⟨hb, r2, h2, h3⟩ | ⟨dv, r2, hb, h2⟩
    · rw [Nat.add_zero] at hb
      rw [hb]
      have ih := loop_first (A := A) (body := body) b P (items := ds) (r := r2) (k + 1) h3 fun i d r e hp => by
        have := hs (i + 1) d r (by simpa using e) (by rw [← Nat.add_assoc, Nat.add_right_comm]; exact hp)
        rw [← Nat.add_assoc, Nat.add_right_comm k i 1] at this
        exact this
      have e2 : (match body r1 with | some (.nx r2) => loopF A body ds r2 | some (.ct r2) => loopF A body ds r2 | some (.bk r2) => some (.nx r2) | o => o) = loopF A body ds r2 := by
        rcases h2 with h2 | h2 <;> rw [h2]
      show ((List.range' (k + 1) ds.length).findSome? b = none ∧ ∃ r', (match body r1 with | some (.nx r2) => loopF A body ds r2 | some (.ct r2) => loopF A body ds r2 | some (.bk r2) => some (.nx r2) | o => o) = some (.nx r') ∧ _) ∨ ∃ dv r', _ ∧ (match body r1 with | some (.nx r2) => loopF A body ds r2 | some (.ct r2) => loopF A body ds r2 | some (.bk r2) => some (.nx r2) | o => o) = some (.rt dv r')
      rw [e2]
      rcases ih with ⟨a, r', c, e⟩ | ⟨dv, r', a, c⟩
      · exact .inl ⟨a, r', c, by rw [List.length_cons, Nat.add_comm ds.length 1, ← Nat.add_assoc]; exact e⟩
      · exact .inr ⟨dv, r', a, c⟩
    · rw [Nat.add_zero] at hb
      rw [hb]
      refine .inr ⟨dv, r2, rfl, ?_⟩
      show (match body r1 with | some (.nx r2) => loopF A body ds r2 | some (.ct r2) => loopF A body ds r2 | some (.bk r2) => some (.nx r2) | o => o) = _
      rw [h2]
/-! ### looks by name -/
def Sky.lk (S : Sky) (i : Nat) : Look := S.looks.getD i ⟨0, 0, 1, 0, 1⟩
theorem lk_get {S : Sky} {i : Nat} (h : i < S.looks.length) : S.looks[i]? = some (S.lk i) := by
  unfold Sky.lk
  rw [List.getD_eq_getElem?_getD, List.getElem?_eq_getElem h]
  rfl
theorem lk_mem {S : Sky} {i : Nat} (h : i < S.looks.length) : S.lk i ∈ S.looks := List.mem_of_getElem? (lk_get h)
def Sky.fin (S : Sky) (i : Nat) : Int := (S.lk i).s + (S.lk i).l
def Sky.tz (S : Sky) (i j : Nat) : Int := turnZ S.turn (S.lk i).a (S.lk j).a
def namesD (ns : List Nat) : D := .list (ns.map fun (n : Nat) => .int n)
def lastD : Option Nat → D
  | none => .none
  | some i => .int i
/-- what of a sky the rest needs -/
structure Fit (S : Sky) : Prop where
  t0 : 1 ≤ S.turn
  t1 : S.turn ≤ 1000
  ears : ∀ e ∈ S.ears, OkE e
  s0 : ∀ x ∈ S.looks, 0 ≤ x.s
  s1 : ∀ x ∈ S.looks, x.s ≤ 1000
  l0 : ∀ x ∈ S.looks, 1 ≤ x.l
  z0 : ∀ x ∈ S.looks, 0 ≤ x.z
theorem fol_ev (En T : List D → Option D) (SD LD Y : D) (i j : Int) (e t s : Int) (h0 : ixD SD (.int 0) = some LD) (h1 : ixD LD (.int j) = some Y) (h2 : ixD Y (.int 1) = some (.int s)) (he : En [SD, .int i] = some (.int e)) (ht : T [SD, .int i, .int j] = some (.int t)) :
    endP (sRet (f2 geD (f2 ixD (f2 ixD (f2 ixD (fV 0) (fC (.int 0))) (fV 2)) (fC (.int 1))) (f2 addD (fCall En (aCons (fV 0) (aCons (fV 1) aNil))) (fCall T (aCons (fV 0) (aCons (fV 1) (aCons (fV 2) aNil)))))) (startE 3 [SD, .int i, .int j])) = some (.bool (decide (e + t ≤ s))) := by
  simp [startE, h0, h1, h2, he, ht]
theorem turning_ok2 {S : Sky} {i j : Nat} {x y : Look} (hx : S.looks[i]? = some x) (hy : S.looks[j]? = some y) (ht : 1 ≤ S.turn) (ht2 : S.turn ≤ 1000) : R_turning [skyD S, .int i, .int j] = some (.int (turnZ S.turn x.a y.a)) := by
  have h0 := sky_i0 S
  have h4 := sky_i4 S
  have h1 := look_ix hx
  have h2 := look_ix hy
  have e1 : ixD (lD x) (.int 3) = some (.int x.a) := rfl
  have e2 : ixD (lD y) (.int 3) = some (.int y.a) := rfl
  have dv : ∀ u : Int, divD (.int u) (.int S.turn) = some (.int (u / S.turn)) := fun u => divD_p (by omega) (by omega)
  generalize PyData.list (S.looks.map lD) = LD at h0 h1 h2
  generalize skyD S = SD at h0 h4
  generalize lD x = X at h1 e1
  generalize lD y = Y at h2 e2
  unfold R_turning runP F_turning turnZ dA
  simp [startE, h0, h1, h2, h4, e1, e2, dv]
theorem follows_ok {S : Sky} (F : Fit S) {i j : Nat} (hi : i < S.looks.length) (hj : j < S.looks.length) : R_follows [skyD S, .int i, .int j] = some (.bool (decide (S.fin i + S.tz i j ≤ (S.lk j).s))) :=
  fol_ev R_end_of R_turning (skyD S) _ (lD (S.lk j)) i j _ _ _ (sky_i0 S) (look_ix (lk_get hj)) rfl (end_ok (lk_get hi)) (turning_ok2 (lk_get hi) (lk_get hj) F.t0 F.t1)
def storedZ (S : Sky) (last : Option Nat) (a t : Int) : Int := match last with
  | none => 0
  | some i => mx 0 (a - lossZ S.ears (S.fin i) t)
theorem sto_none (Em En : List D → Option D) (SD : D) (a t : Int) : endP ((sSeq (sIf (gT (f2 isD (fV 1) (fC .none))) (sRet (fC (.int 0))) sNext)
    (sRet (fCall Em (aApp (aCons (fV 0) (aCons (fV 2) aNil)) (aCons (fCall En (aCons (fV 0) (aCons (fV 1) aNil))) (aCons (fV 3) aNil)))))) (startE 4 [SD, .none, .int a, .int t])) = some (.int 0) := by
  simp [startE, sSeq]
theorem sto_some (Em En : List D → Option D) (SD : D) (i a t e z : Int) (he : En [SD, .int i] = some (.int e)) (hm : Em [SD, .int a, .int e, .int t] = some (.int z)) : endP ((sSeq (sIf (gT (f2 isD (fV 1) (fC .none))) (sRet (fC (.int 0))) sNext)
    (sRet (fCall Em (aApp (aCons (fV 0) (aCons (fV 2) aNil)) (aCons (fCall En (aCons (fV 0) (aCons (fV 1) aNil))) (aCons (fV 3) aNil)))))) (startE 4 [SD, .int i, .int a, .int t])) = some (.int z) := by
  simp [startE, sSeq, he, hm]
theorem stored_ok {S : Sky} (F : Fit S) (last : Option Nat) (hl : ∀ i, last = some i → i < S.looks.length) (a t : Int) : R_stored_at [skyD S, lastD last, .int a, .int t] = some (.int (storedZ S last a t)) := by
  cases last with
  | none => exact sto_none R_emptied R_end_of (skyD S) a t
  | some i => exact sto_some R_emptied R_end_of (skyD S) i a t _ _ (end_ok (lk_get (hl i rfl))) (emptied_ok S F.ears a _ t)
def levelZ (S : Sky) (last : Option Nat) (a : Int) (i : Nat) : Option Int := if S.cap < storedZ S last a (S.lk i).s + (S.lk i).z then none else some (storedZ S last a (S.fin i) + (S.lk i).z)
def levD : Option Int → D
  | none => .none
  | some x => .int x
/-! ### the law's store -/
def addAt (S : Sky) (p : List Nat) (now : Int) : Int := p.foldl (fun u i => u + if S.fin i = now then (S.lk i).z else 0) 0
def runZ (S : Sky) (p : List Nat) : Nat → Int
  | 0 => 0
  | k + 1 => mx 0 (runZ S p k - tickLoss S.ears ((k : Int) - 1)) + addAt S p k
theorem mx_nonneg (u : Int) : 0 ≤ mx 0 u := by unfold mx; split <;> omega
theorem add_nonneg {S : Sky} (F : Fit S) : ∀ {p : List Nat}, (∀ i ∈ p, i < S.looks.length) → ∀ now, 0 ≤ addAt S p now
  | [], _, _ => Int.le_refl _
  | i :: p, h, now => by
    have := add_nonneg F (fun j hj => h j (List.mem_cons_of_mem _ hj)) now
    have hz := F.z0 _ (lk_mem (h i (List.mem_cons_self ..)))
    unfold addAt at this ⊢
    rw [List.foldl_cons, fold_add fun i : Nat => if S.fin i = now then (S.lk i).z else 0]
    split <;> omega
theorem run_nonneg {S : Sky} (F : Fit S) {p : List Nat} (hp : ∀ i ∈ p, i < S.looks.length) : ∀ k, 0 ≤ runZ S p k
  | 0 => Int.le_refl _
  | k + 1 => by
    have := mx_nonneg (runZ S p k - tickLoss S.ears ((k : Int) - 1))
    have := add_nonneg F hp k
    show 0 ≤ mx 0 (runZ S p k - tickLoss S.ears ((k : Int) - 1)) + addAt S p k
    omega
theorem add_app (S : Sky) (p : List Nat) (i : Nat) (now : Int) : addAt S (p ++ [i]) now = addAt S p now + if S.fin i = now then (S.lk i).z else 0 := by
  unfold addAt
  rw [List.foldl_append]
  rfl
theorem add_zero {S : Sky} {p : List Nat} {now : Int} (h : ∀ i ∈ p, S.fin i ≠ now) : addAt S p now = 0 := fold_zero _ p fun i hi => if_neg (h i hi)
theorem run_empty {S : Sky} (F : Fit S) : ∀ k, runZ S [] k = 0
  | 0 => rfl
  | k + 1 => by
    have := tick_nonneg F.ears ((k : Int) - 1)
    show mx 0 (runZ S [] k - tickLoss S.ears ((k : Int) - 1)) + 0 = 0
    rw [run_empty F k]
    unfold mx
    split <;> omega
theorem run_prefix {S : Sky} {p : List Nat} {i : Nat} : ∀ k : Nat, (k : Int) ≤ S.fin i → runZ S (p ++ [i]) k = runZ S p k
  | 0, _ => rfl
  | k + 1, h => by
    show mx 0 (runZ S (p ++ [i]) k - tickLoss S.ears ((k : Int) - 1)) + addAt S (p ++ [i]) k = mx 0 (runZ S p k - tickLoss S.ears ((k : Int) - 1)) + addAt S p k
    rw [run_prefix k (by omega), add_app, if_neg (by omega), Int.add_zero]
theorem run_on {S : Sky} (F : Fit S) {p : List Nat} (hp : ∀ i ∈ p, i < S.looks.length) {e : Nat} (he : ∀ i ∈ p, S.fin i ≤ e) : ∀ j : Nat, runZ S p (e + 1 + j) = mx 0 (runZ S p (e + 1) - sumLoss S.ears e j)
  | 0 => by
    have := run_nonneg F hp (e + 1)
    show runZ S p (e + 1) = mx 0 (runZ S p (e + 1) - 0)
    unfold mx
    split <;> omega
  | j + 1 => by
    have ih := run_on F hp he j
    have h1 := sum_nonneg F.ears e j
    have h2 := tick_nonneg F.ears ((e : Int) + j)
    show mx 0 (runZ S p (e + 1 + j) - tickLoss S.ears (((e + 1 + j : Nat) : Int) - 1)) + addAt S p ((e + 1 + j : Nat) : Int) = mx 0 (runZ S p (e + 1) - (sumLoss S.ears e j + tickLoss S.ears ((e : Int) + j)))
    rw [ih, add_zero fun i hi => by have := he i hi; omega, show (((e + 1 + j : Nat) : Int) - 1) = (e : Int) + j by omega]
    generalize runZ S p (e + 1) = a
    generalize sumLoss S.ears e j = b at h1
    generalize tickLoss S.ears ((e : Int) + j) = c at h2
    unfold mx
    split <;> split <;> split <;> omega
/-! the law's store, walked -/
def stEar : FS := (sIf (gT (fChain leD ltD (fV 5) (f2 subD (fV 4) (fC (.int 1))) (fV 6))) (sSet 3 (f2 max2D (fC (.int 0)) (f2 subD (fV 3) (fV 7)))) sNext)
def stName : FS := (sSeq (sAsg (f2 ixD (f2 ixD (fV 0) (fC (.int 0))) (fV 8)) (gTp 5 (gsCons (gNm 9) (gsCons (gNm 10) (gsCons (gNm 11) (gsCons (gNm 12) (gsCons (gNm 13) gsNil)))))))
    (sIf (gT (f2 eqD (f2 addD (fV 10) (fV 11)) (fV 4))) (sSet 3 (f2 addD (fV 3) (fV 13))) sNext))
def stBody : FS := (sSeq (sFor (iSeq (f2 ixD (fV 0) (fC (.int 2)))) gT3b stEar)
    (sFor (iSeq (fV 1)) (gNm 8) stName))
theorem st_ear (SD NS T : D) (a now f l r : Int) (c8 c9 c10 c11 c12 c13 : Option Cell) :
    stEar [some (.val SD), some (.val NS), some (.val T), some (.val (.int a)), some (.val (.int now)), some (.val (.int f)), some (.val (.int l)), some (.val (.int r)), c8, c9, c10, c11, c12, c13] =
      some (.nx [some (.val SD), some (.val NS), some (.val T), some (.val (.int (if f ≤ now - 1 ∧ now - 1 < l then mx 0 (a - r) else a))), some (.val (.int now)), some (.val (.int f)), some (.val (.int l)), some (.val (.int r)), c8, c9, c10, c11, c12, c13]) := by
  unfold stEar mx
  by_cases h1 : f ≤ now - 1
  · by_cases h2 : now - 1 < l
    · simp [h1, h2]
    · simp [h1, h2]
  · simp [h1]
theorem st_name (SD NS T LD : D) (a now i w s l an z : Int) (c5 c6 c7 c9 c10 c11 c12 c13 : Option Cell) (h0 : ixD SD (.int 0) = some LD) (h1 : ixD LD (.int i) = some (.tuple [.int w, .int s, .int l, .int an, .int z])) :
    stName [some (.val SD), some (.val NS), some (.val T), some (.val (.int a)), some (.val (.int now)), c5, c6, c7, some (.val (.int i)), c9, c10, c11, c12, c13] =
      some (.nx [some (.val SD), some (.val NS), some (.val T), some (.val (.int (a + if s + l = now then z else 0))), some (.val (.int now)), c5, c6, c7, some (.val (.int i)), some (.val (.int w)), some (.val (.int s)), some (.val (.int l)), some (.val (.int an)), some (.val (.int z))]) := by
  unfold stName
  rw [sSeq_nx (r1 := [some (.val SD), some (.val NS), some (.val T), some (.val (.int a)), some (.val (.int now)), c5, c6, c7, some (.val (.int i)), some (.val (.int w)), some (.val (.int s)), some (.val (.int l)), some (.val (.int an)), some (.val (.int z))]) (by
    unfold sAsg
    simp [h0, h1, gTp, gsCons, gsNil, gNm])]
  by_cases h : s + l = now
  · simp [h]
  · simp [h]
theorem st_turn {S : Sky} (F : Fit S) (p : List Nat) (hp : ∀ i ∈ p, i < S.looks.length) (T : D) (k : Nat) (c5 c6 c7 c8 c9 c10 c11 c12 c13 : Option Cell) :
    ∃ c5' c6' c7' c8' c9' c10' c11' c12' c13' : Option Cell, stBody [some (.val (skyD S)), some (.val (namesD p)), some (.val T), some (.val (.int (runZ S p k))), some (.val (.int k)), c5, c6, c7, c8, c9, c10, c11, c12, c13] =
      some (.nx [some (.val (skyD S)), some (.val (namesD p)), some (.val T), some (.val (.int (runZ S p (k + 1)))), some (.val (.int k)), c5', c6', c7', c8', c9', c10', c11', c12', c13']) := by
  obtain ⟨r', h1, c5', c6', c7', rfl⟩ := loop_fold (A := gT3b) (body := stEar) eD
    (fun (b : Int) r => ∃ c5 c6 c7 : Option Cell, r = [some (.val (skyD S)), some (.val (namesD p)), some (.val T), some (.val (.int b)), some (.val (.int k)), c5, c6, c7, c8, c9, c10, c11, c12, c13])
    (fun b e => if e.f ≤ (k : Int) - 1 ∧ (k : Int) - 1 < e.l then mx 0 (b - e.r) else b) (xs := S.ears) (b := runZ S p k) (r := [some (.val (skyD S)), some (.val (namesD p)), some (.val T), some (.val (.int (runZ S p k))), some (.val (.int k)), c5, c6, c7, c8, c9, c10, c11, c12, c13])
    (fun b e r he ⟨c5, c6, c7, er⟩ => by
      subst er
      exact ⟨[some (.val (skyD S)), some (.val (namesD p)), some (.val T), some (.val (.int b)), some (.val (.int k)), some (.val (.int e.f)), some (.val (.int e.l)), some (.val (.int e.r)), c8, c9, c10, c11, c12, c13], _, rfl, .inl (st_ear _ _ T b k e.f e.l e.r c8 c9 c10 c11 c12 c13), _, _, _, rfl⟩)
    ⟨c5, c6, c7, rfl⟩
  have e0 : runZ S p k = mx 0 (runZ S p k - 0) := by
    have := run_nonneg F hp k
    unfold mx
    split <;> omega
  have e1 := left_fold ((k : Int) - 1) S.ears F.ears (runZ S p k) 0 (Int.le_refl _)
  rw [← e0, Int.zero_add] at e1
  rw [e1] at h1
  obtain ⟨r2, h2, c8', c9', c10', c11', c12', c13', rfl⟩ := loop_fold (A := gNm 8) (body := stName) (fun (n : Nat) => (.int n : D))
    (fun (b : Int) r => ∃ c8 c9 c10 c11 c12 c13 : Option Cell, r = [some (.val (skyD S)), some (.val (namesD p)), some (.val T), some (.val (.int (mx 0 (runZ S p k - tickLoss S.ears ((k : Int) - 1)) + b))), some (.val (.int k)), c5', c6', c7', c8, c9, c10, c11, c12, c13])
    (fun b i => b + if S.fin i = (k : Int) then (S.lk i).z else 0) (xs := p) (b := 0) (r := [some (.val (skyD S)), some (.val (namesD p)), some (.val T), some (.val (.int (mx 0 (runZ S p k - tickLoss S.ears ((k : Int) - 1))))), some (.val (.int k)), c5', c6', c7', c8, c9, c10, c11, c12, c13])
    (fun b i r hi ⟨c8, c9, c10, c11, c12, c13, er⟩ => by
      subst er
      have := st_name (skyD S) (namesD p) T _ (mx 0 (runZ S p k - tickLoss S.ears ((k : Int) - 1)) + b) k i (S.lk i).w (S.lk i).s (S.lk i).l (S.lk i).a (S.lk i).z c5' c6' c7' c9 c10 c11 c12 c13 (sky_i0 S) (look_ix (lk_get (hp i hi)))
      rw [Int.add_assoc] at this
      exact ⟨_, _, rfl, .inl this, _, _, _, _, _, _, rfl⟩)
    ⟨c8, c9, c10, c11, c12, c13, by rw [Int.add_zero]⟩
  refine ⟨c5', c6', c7', c8', c9', c10', c11', c12', c13', ?_⟩
  unfold stBody
  rw [sSeq_nx (by rw [sFor_eq (ds := S.ears.map eD) (r1 := [some (.val (skyD S)), some (.val (namesD p)), some (.val T), some (.val (.int (runZ S p k))), some (.val (.int k)), c5, c6, c7, c8, c9, c10, c11, c12, c13]) rfl]; exact h1),
    sFor_eq (ds := p.map fun (n : Nat) => (.int n : D)) (r1 := [some (.val (skyD S)), some (.val (namesD p)), some (.val T), some (.val (.int (mx 0 (runZ S p k - tickLoss S.ears ((k : Int) - 1))))), some (.val (.int k)), c5', c6', c7', c8, c9, c10, c11, c12, c13]) rfl]
  exact h2
def storeZ (S : Sky) (p : List Nat) (t : Int) : Int := runZ S p (t.toNat + 1)
theorem store_ok {S : Sky} (F : Fit S) (p : List Nat) (hp : ∀ i ∈ p, i < S.looks.length) (t : Int) (h0 : 0 ≤ t) (h1 : t ≤ 100000) : R__law_store [skyD S, namesD p, .int t] = some (.int (storeZ S p t)) := by
  have e : t + 1 = ((t.toNat + 1 : Nat) : Int) := by omega
  have hr := okR_of (i := ((t.toNat + 1 : Nat) : Int)) (by omega) (by omega)
  obtain ⟨r', h3, c4, c5, c6, c7, c8, c9, c10, c11, c12, c13, rfl⟩ := loop_all (A := gNm 4) (body := stBody) (items := rngL 0 (t.toNat + 1)) (r := [some (.val (skyD S)), some (.val (namesD p)), some (.val (.int t)), some (.val (.int 0)), none, none, none, none, none, none, none, none, none, none])
    (fun k r => ∃ c4 c5 c6 c7 c8 c9 c10 c11 c12 c13 : Option Cell, r = [some (.val (skyD S)), some (.val (namesD p)), some (.val (.int t)), some (.val (.int (runZ S p k))), c4, c5, c6, c7, c8, c9, c10, c11, c12, c13])
    ⟨none, none, none, none, none, none, none, none, none, none, rfl⟩ fun k d r e ⟨c4, c5, c6, c7, c8, c9, c10, c11, c12, c13, er⟩ => by
      subst er
      obtain ⟨hk, rfl⟩ := rngL_get e
      rw [show (0 : Int) + (k : Int) = k from Int.zero_add _]
      obtain ⟨c5', c6', c7', c8', c9', c10', c11', c12', c13', h⟩ := st_turn F p hp (.int t) k c5 c6 c7 c8 c9 c10 c11 c12 c13
      exact ⟨_, _, rfl, .inl h, _, _, _, _, _, _, _, _, _, _, rfl⟩
  rw [rngL_length] at h3
  unfold R__law_store runP F__law_store storeZ
  generalize skyD S = SD at h3 ⊢
  generalize namesD p = NS at h3 ⊢
  rw [sSeq_nx (r1 := [some (.val SD), some (.val NS), some (.val (.int t)), some (.val (.int 0)), none, none, none, none, none, none, none, none, none, none]) (by simp [startE]),
    sSeq_nx (by rw [sFor_eq (ds := rngL 0 (t.toNat + 1)) (r1 := [some (.val SD), some (.val NS), some (.val (.int t)), some (.val (.int 0)), none, none, none, none, none, none, none, none, none, none]) (by
      generalize hz : t.toNat + 1 = z at e hr ⊢
      simp [SL.iRng1, e, hr])]; exact h3)]
  simp
/-! ### what is wrong -/
def Sky.ord (_ : Sky) (p : List Nat) (i : Nat) : Bool := match p.getLast? with
  | none => false
  | some j => decide (i ≤ j)
def Sky.trn (S : Sky) (p : List Nat) (i : Nat) : Bool := match p.getLast? with
  | none => false
  | some j => decide ((S.lk i).s < S.fin j + S.tz j i)
def Sky.wsh (S : Sky) (p : List Nat) (i : Nat) : Bool := decide ((S.lk i).w ∈ p.map fun j => (S.lk j).w)
def Sky.rm (S : Sky) (p : List Nat) (i : Nat) : Bool := decide (S.cap < storeZ S p (S.lk i).s + (S.lk i).z)
def kindD (o w t r : Bool) (k : Nat) : Option D := if o then some (.tuple [.str "order", .int k]) else if w then some (.tuple [.str "wish", .int k]) else if t then some (.tuple [.str "turning", .int k]) else if r then some (.tuple [.str "room", .int k]) else none
def Sky.badD (S : Sky) (ns : List Nat) (k : Nat) : Option D := kindD (S.ord (ns.take k) (ns.getD k 0)) (S.wsh (ns.take k) (ns.getD k 0)) (S.trn (ns.take k) (ns.getD k 0)) (S.rm (ns.take k) (ns.getD k 0)) k
def Sky.wrongD (S : Sky) (ns : List Nat) : D := ((List.range' 0 ns.length).findSome? (S.badD ns)).getD .none
/-- a prefix that is right: its last name, and the amount behind it -/
def Vp (S : Sky) (p : List Nat) (last : Option Nat) (a : Int) : Prop := last = p.getLast? ∧ (∀ i ∈ p, i < S.looks.length) ∧ ∀ j, last = some j → (∀ i ∈ p, S.fin i ≤ S.fin j) ∧ a = runZ S p ((S.fin j).toNat + 1)
theorem fin_pos {S : Sky} (F : Fit S) {i : Nat} (hi : i < S.looks.length) : 1 ≤ S.fin i ∧ (S.lk i).s < S.fin i := by
  have := F.s0 _ (lk_mem hi)
  have := F.l0 _ (lk_mem hi)
  unfold Sky.fin
  omega
theorem tz_nonneg {S : Sky} (F : Fit S) (i j : Nat) : 0 ≤ S.tz i j := turnZ_nonneg F.t0
theorem stored_run {S : Sky} (F : Fit S) {p : List Nat} {last : Option Nat} {a : Int} (V : Vp S p last a) {t : Int} (ht0 : 0 ≤ t) (ht : ∀ j, last = some j → S.fin j ≤ t) : storedZ S last a t = runZ S p (t.toNat + 1) := by
  obtain ⟨v1, v2, v3⟩ := V
  cases last with
  | none =>
    cases p with
    | nil => exact (run_empty F _).symm
    | cons x xs => rw [List.getLast?_cons] at v1; cases v1
  | some j =>
    obtain ⟨v4, v5⟩ := v3 j rfl
    have hj : j < S.looks.length := v2 j (List.mem_of_getLast? v1.symm)
    have f1 := (fin_pos F hj).1
    have t1 := ht j rfl
    obtain ⟨e, ee⟩ := Int.eq_ofNat_of_zero_le (show 0 ≤ S.fin j by omega)
    obtain ⟨d, ed⟩ := Int.eq_ofNat_of_zero_le (show 0 ≤ t - S.fin j by omega)
    have et : t = (e : Int) + d := by omega
    have ls := loss_sum S.ears F.ears (e : Int) d
    have ro := run_on F v2 (e := e) (fun i hi => by have := v4 i hi; omega) d
    show mx 0 (a - lossZ S.ears (S.fin j) t) = _
    rw [ee, et, ls, v5, ee, Int.toNat_natCast, show ((e : Int) + d).toNat + 1 = e + 1 + d by omega, ro]
theorem vp_next {S : Sky} (F : Fit S) {p : List Nat} {last : Option Nat} {a : Int} (V : Vp S p last a) {i : Nat} (hi : i < S.looks.length) (ht : S.trn p i = false) : Vp S (p ++ [i]) (some i) (runZ S (p ++ [i]) ((S.fin i).toNat + 1)) := by
  obtain ⟨v1, v2, v3⟩ := V
  refine ⟨by rw [List.getLast?_append]; rfl, fun k hk => ?_, fun j hj => ?_⟩
  · rcases List.mem_append.mp hk with h | h
    · exact v2 k h
    · rw [List.mem_singleton.mp h]; exact hi
  · cases hj
    refine ⟨fun k hk => ?_, rfl⟩
    rcases List.mem_append.mp hk with h | h
    · cases hl : last with
      | none =>
        rw [hl] at v1
        cases p with
        | nil => cases h
        | cons x xs => rw [List.getLast?_cons] at v1; cases v1
      | some j =>
        have := (v3 j hl).1 k h
        have f1 := fin_pos F hi
        unfold Sky.trn at ht
        rw [← v1, hl] at ht
        have := of_decide_eq_false ht
        have := tz_nonneg F j i
        omega
    · rw [List.mem_singleton.mp h]; exact Int.le_refl _
/-! ### lists of numbers -/
theorem in_ints (xs : List Int) (x : Int) : inD (.int x) (.list (xs.map .int)) = some (.bool (decide (x ∈ xs))) := by
  unfold inD
  show (if _ then _ else _) = _
  rw [if_pos ⟨(Sh.int 0 _).shp, (Sh.ints xs).shp⟩]
  congr 2
  rw [Bool.eq_iff_iff, List.any_map, List.any_eq_true, decide_eq_true_iff]
  constructor
  · intro ⟨y, hy, e⟩
    have e2 : PyData.eqv (.int y) (.int x) = true := e
    simp [PyData.eqv] at e2
    subst e2
    exact hy
  · intro h
    exact ⟨x, h, SeqAt.eqv_refl _ (SeqAt.canLay_of_shaped (Sh.int 0 _).shp)⟩
theorem nin_ints (xs : List Int) (x : Int) : notInD (.int x) (.list (xs.map .int)) = some (.bool (!decide (x ∈ xs))) := by
  have h := in_ints xs x
  unfold notInD
  unfold inD at h
  show (if _ then _ else _) = _
  have h2 : (if shp (.int x) = true ∧ shp (.list (xs.map .int)) = true then some (PyData.bool ((xs.map PyData.int).any fun z => PyData.eqv z (.int x))) else none) = some (.bool (decide (x ∈ xs))) := h
  rw [if_pos ⟨(Sh.int 0 _).shp, (Sh.ints xs).shp⟩] at h2 ⊢
  rw [PyData.bool.inj (Option.some.inj h2)]
/-! ### the program's wrong_in -/
def wrongBody (Fo Le : List D → Option D) : FS := (sSeq (sIf (gAnd (gT (f2 isNotD (fV 2) (fC .none))) (gT (f2 leD (fV 6) (fV 2)))) (sRet (fTup (aCons (fC (.str "order")) (aCons (fV 5) aNil)))) sNext)
    (sSeq (sIf (gT (f2 inD (f2 ixD (f2 ixD (f2 ixD (fV 0) (fC (.int 0))) (fV 6)) (fC (.int 0))) (fVp 4))) (sRet (fTup (aCons (fC (.str "wish")) (aCons (fV 5) aNil)))) sNext)
    (sSeq (sIf (gAnd (gT (f2 isNotD (fV 2) (fC .none))) (gNot (gTru (fCall Fo (aCons (fV 0) (aCons (fV 2) (aCons (fV 6) aNil))))))) (sRet (fTup (aCons (fC (.str "turning")) (aCons (fV 5) aNil)))) sNext)
    (sSeq (sSet 3 (fCall Le (aCons (fV 0) (aCons (fV 2) (aCons (fV 3) (aCons (fV 6) aNil))))))
    (sSeq (sIf (gT (f2 isD (fV 3) (fC .none))) (sRet (fTup (aCons (fC (.str "room")) (aCons (fV 5) aNil)))) sNext)
    (sSeq (sApp 4 (f2 ixD (f2 ixD (f2 ixD (fV 0) (fC (.int 0))) (fV 6)) (fC (.int 0))))
    (sSet 2 (fV 6))))))))
theorem take_get (ns : List Nat) (k : Nat) (h : k < ns.length) : ns.take (k + 1) = ns.take k ++ [ns.getD k 0] := by
  rw [List.take_succ, List.getD_eq_getElem?_getD, List.getElem?_eq_getElem h]
  rfl
theorem vp_zero (S : Sky) : Vp S [] none 0 := ⟨rfl, fun i hi => (by cases hi), fun j hj => (by cases hj)⟩
/-! ### the law's wrong -/
def lwBody (T St : List D → Option D) : FS := (sSeq (sSet 3 (f2 ixD (f2 ixD (fV 0) (fC (.int 0))) (f2 ixD (fV 1) (fV 2))))
    (sSeq (sIf (gAnd (gT (f2 gtD (fV 2) (fC (.int 0)))) (gT (f2 leD (f2 ixD (fV 1) (fV 2)) (f2 ixD (fV 1) (f2 subD (fV 2) (fC (.int 1))))))) (sRet (fTup (aCons (fC (.str "order")) (aCons (fV 2) aNil)))) sNext)
    (sSeq (sIf (gT (f2 inD (f2 ixD (fV 3) (fC (.int 0))) (fL (lLc (iSeq (fCut (fV 1) oNone (oSome (fV 2)))) [4] (gNm 4) gYes (f2 ixD (f2 ixD (f2 ixD (fV 0) (fC (.int 0))) (fV 4)) (fC (.int 0))))))) (sRet (fTup (aCons (fC (.str "wish")) (aCons (fV 2) aNil)))) sNext)
    (sSeq (sIf (gT (f2 gtD (fV 2) (fC (.int 0)))) (sSeq (sSet 5 (f2 ixD (f2 ixD (fV 0) (fC (.int 0))) (f2 ixD (fV 1) (f2 subD (fV 2) (fC (.int 1))))))
    (sIf (gT (f2 ltD (f2 ixD (fV 3) (fC (.int 1))) (f2 addD (f2 addD (f2 ixD (fV 5) (fC (.int 1))) (f2 ixD (fV 5) (fC (.int 2)))) (fCall T (aCons (fV 0) (aCons (f2 ixD (fV 1) (f2 subD (fV 2) (fC (.int 1)))) (aCons (f2 ixD (fV 1) (fV 2)) aNil))))))) (sRet (fTup (aCons (fC (.str "turning")) (aCons (fV 2) aNil)))) sNext)) sNext)
    (sIf (gT (f2 gtD (f2 addD (fCall St (aCons (fV 0) (aCons (fCut (fV 1) oNone (oSome (fV 2))) (aCons (f2 ixD (fV 3) (fC (.int 1))) aNil)))) (f2 ixD (fV 3) (fC (.int 4)))) (f2 ixD (fV 0) (fC (.int 3))))) (sRet (fTup (aCons (fC (.str "room")) (aCons (fV 2) aNil)))) sNext)))))
theorem lw_lc (SD NS LD X : D) (k : Nat) (c5 : Option Cell) (p : List Nat) (f : Nat → Int) (g : Nat → D) (h0 : ixD SD (.int 0) = some LD) (hc : cutAny NS none (some (k : Int)) = some (.list (p.map fun (n : Nat) => (.int n : D)))) (hg : ∀ j ∈ p, ixD LD (.int (j : Int)) = some (g j) ∧ ixD (g j) (.int 0) = some (.int (f j))) (hl : p.length ≤ 1000) :
    lLc (iSeq (fCut (fV 1) oNone (oSome (fV 2)))) [4] (gNm 4) gYes (f2 ixD (f2 ixD (f2 ixD (fV 0) (fC (.int 0))) (fV 4)) (fC (.int 0))) [some (.val SD), some (.val NS), some (.val (.int k)), some (.val X), none, c5] =
      some ((p.map f).map .int, [some (.val SD), some (.val NS), some (.val (.int k)), some (.val X), none, c5]) := by
  rw [lLc_eq (ds := p.map fun (n : Nat) => (.int n : D)) (r0 := [some (.val SD), some (.val NS), some (.val (.int k)), some (.val X), none, c5]) (zs := (p.map f).map .int) (w := [some (.val SD), some (.val NS), some (.val (.int k)), some (.val X), none, c5]) ?a ?b ?c]
  · rfl
  case a => simp [-cutAny, hc]
  case b =>
    rw [List.map_map]
    refine lcF_all (fun (n : Nat) => (.int n : D)) _ rfl fun j hj => ?_
    obtain ⟨g1, g2⟩ := hg j hj
    exact ⟨_, [some (.val SD), some (.val NS), some (.val (.int k)), some (.val X), some (.val (.int j)), c5], rfl, by simp [h0, g1, g2], rfl⟩
  case c => exact small_len (by simp; omega)
theorem lw_tail (T St : List D → Option D) (SD NS LD X PD : D) (k : Nat) (w s z c u : Int) (c5 : Option Cell) (p : List Nat) (f : Nat → Int) (g : Nat → D) (wb t : Bool) (h0 : ixD SD (.int 0) = some LD) (h3 : ixD SD (.int 3) = some (.int c)) (x0 : ixD X (.int 0) = some (.int w)) (x1 : ixD X (.int 1) = some (.int s)) (x4 : ixD X (.int 4) = some (.int z))
    (hc : cutAny NS none (some (k : Int)) = some PD) (eP : PD = .list (p.map fun (n : Nat) => (.int n : D))) (hg : ∀ j ∈ p, ixD LD (.int (j : Int)) = some (g j) ∧ ixD (g j) (.int 0) = some (.int (f j))) (hl : p.length ≤ 1000)
    (hw : inD (.int w) (.list ((p.map f).map .int)) = some (.bool wb)) (hs : St [SD, PD, .int s] = some (.int u))
    (ht : ∃ r2 : Ev, (sIf (gT (f2 gtD (fV 2) (fC (.int 0)))) (sSeq (sSet 5 (f2 ixD (f2 ixD (fV 0) (fC (.int 0))) (f2 ixD (fV 1) (f2 subD (fV 2) (fC (.int 1))))))
    (sIf (gT (f2 ltD (f2 ixD (fV 3) (fC (.int 1))) (f2 addD (f2 addD (f2 ixD (fV 5) (fC (.int 1))) (f2 ixD (fV 5) (fC (.int 2)))) (fCall T (aCons (fV 0) (aCons (f2 ixD (fV 1) (f2 subD (fV 2) (fC (.int 1)))) (aCons (f2 ixD (fV 1) (fV 2)) aNil))))))) (sRet (fTup (aCons (fC (.str "turning")) (aCons (fV 2) aNil)))) sNext)) sNext) [some (.val SD), some (.val NS), some (.val (.int k)), some (.val X), none, c5] =
      (if t then some (.rt (.tuple [.str "turning", .int k]) r2) else some (.nx r2)) ∧ ∃ c5', r2 = [some (.val SD), some (.val NS), some (.val (.int k)), some (.val X), none, c5']) :
    ∃ c5' : Option Cell, (sSeq (sIf (gT (f2 inD (f2 ixD (fV 3) (fC (.int 0))) (fL (lLc (iSeq (fCut (fV 1) oNone (oSome (fV 2)))) [4] (gNm 4) gYes (f2 ixD (f2 ixD (f2 ixD (fV 0) (fC (.int 0))) (fV 4)) (fC (.int 0))))))) (sRet (fTup (aCons (fC (.str "wish")) (aCons (fV 2) aNil)))) sNext)
    (sSeq (sIf (gT (f2 gtD (fV 2) (fC (.int 0)))) (sSeq (sSet 5 (f2 ixD (f2 ixD (fV 0) (fC (.int 0))) (f2 ixD (fV 1) (f2 subD (fV 2) (fC (.int 1))))))
    (sIf (gT (f2 ltD (f2 ixD (fV 3) (fC (.int 1))) (f2 addD (f2 addD (f2 ixD (fV 5) (fC (.int 1))) (f2 ixD (fV 5) (fC (.int 2)))) (fCall T (aCons (fV 0) (aCons (f2 ixD (fV 1) (f2 subD (fV 2) (fC (.int 1)))) (aCons (f2 ixD (fV 1) (fV 2)) aNil))))))) (sRet (fTup (aCons (fC (.str "turning")) (aCons (fV 2) aNil)))) sNext)) sNext)
    (sIf (gT (f2 gtD (f2 addD (fCall St (aCons (fV 0) (aCons (fCut (fV 1) oNone (oSome (fV 2))) (aCons (f2 ixD (fV 3) (fC (.int 1))) aNil)))) (f2 ixD (fV 3) (fC (.int 4)))) (f2 ixD (fV 0) (fC (.int 3))))) (sRet (fTup (aCons (fC (.str "room")) (aCons (fV 2) aNil)))) sNext))) [some (.val SD), some (.val NS), some (.val (.int k)), some (.val X), none, c5] =
      match kindD false wb t (decide (c < u + z)) k with
      | some dv => some (.rt dv [some (.val SD), some (.val NS), some (.val (.int k)), some (.val X), none, c5'])
      | none => some (.nx [some (.val SD), some (.val NS), some (.val (.int k)), some (.val X), none, c5']) := by
  have lc := lw_lc SD NS LD X k c5 p f g h0 (by rw [hc, eP]) hg hl
  generalize (p.map f).map PyData.int = ws at lc hw
  cases wb
  · rw [sSeq_nx (r1 := [some (.val SD), some (.val NS), some (.val (.int k)), some (.val X), none, c5]) (by simp [lc, x0, hw])]
    obtain ⟨r2, ht1, c5', rfl⟩ := ht
    refine ⟨c5', ?_⟩
    cases t
    · rw [sSeq_nx ht1]
      by_cases hd : c < u + z
      · rw [decide_eq_true hd]
        simp [-cutAny, hc, x1, x4, hs, h3, hd, kindD]
      · rw [decide_eq_false hd]
        simp [-cutAny, hc, x1, x4, hs, h3, hd, kindD]
    · rw [sSeq_rt ht1]
      rfl
  · refine ⟨c5, ?_⟩
    rw [sSeq_rt (d := .tuple [.str "wish", .int k]) (r1 := [some (.val SD), some (.val NS), some (.val (.int k)), some (.val X), none, c5]) (by simp [lc, x0, hw])]
    rfl
theorem names_ix (ns : List Nat) (k : Nat) (h : k < ns.length) : ixD (namesD ns) (.int (k : Int)) = some (.int ((ns.getD k 0 : Nat) : Int)) := by
  refine (atI_lit _ k).trans ?_
  rw [List.getElem?_map, List.getD_eq_getElem?_getD, List.getElem?_eq_getElem h]
  rfl
theorem names_cut (ns : List Nat) (k : Nat) (h : k ≤ ns.length) : cutAny (namesD ns) none (some (k : Int)) = some (namesD (ns.take k)) := by
  show some (PyData.list (cutD _ _ _)) = _
  rw [cutD_map]
  have : cutL ns none (some (k : Int)) = ns.take k := by
    unfold cutL
    rw [HT.sIx_nat, HT.sIx_none, List.drop_zero, Nat.sub_zero, Nat.min_eq_left h]
  rw [this]
  rfl
theorem take_last (ns : List Nat) (k : Nat) (h : k < ns.length) : (ns.take (k + 1)).getLast? = some (ns.getD k 0) := by
  rw [take_get ns k h, List.getLast?_append]
  rfl
theorem trn_zero (T : List D → Option D) (SD NS X : D) (c5 : Option Cell) (F1 : FS) : (sIf (gT (f2 gtD (fV 2) (fC (.int 0)))) F1 sNext) [some (.val SD), some (.val NS), some (.val (.int 0)), some (.val X), none, c5] = some (.nx [some (.val SD), some (.val NS), some (.val (.int 0)), some (.val X), none, c5]) := by
  simp
theorem trn_succ (T : List D → Option D) (SD NS LD X Y : D) (k i j : Nat) (s bs bl z : Int) (c5 : Option Cell) (h0 : ixD SD (.int 0) = some LD) (n1 : ixD NS (.int (k : Int)) = some (.int j)) (n2 : ixD NS (.int ((k : Int) + 1)) = some (.int i)) (hy : ixD LD (.int (j : Int)) = some Y) (x1 : ixD X (.int 1) = some (.int s)) (y1 : ixD Y (.int 1) = some (.int bs)) (y2 : ixD Y (.int 2) = some (.int bl)) (ht : T [SD, .int j, .int i] = some (.int z)) :
    (sIf (gT (f2 gtD (fV 2) (fC (.int 0)))) (sSeq (sSet 5 (f2 ixD (f2 ixD (fV 0) (fC (.int 0))) (f2 ixD (fV 1) (f2 subD (fV 2) (fC (.int 1))))))
    (sIf (gT (f2 ltD (f2 ixD (fV 3) (fC (.int 1))) (f2 addD (f2 addD (f2 ixD (fV 5) (fC (.int 1))) (f2 ixD (fV 5) (fC (.int 2)))) (fCall T (aCons (fV 0) (aCons (f2 ixD (fV 1) (f2 subD (fV 2) (fC (.int 1)))) (aCons (f2 ixD (fV 1) (fV 2)) aNil))))))) (sRet (fTup (aCons (fC (.str "turning")) (aCons (fV 2) aNil)))) sNext)) sNext) [some (.val SD), some (.val NS), some (.val (.int ((k : Int) + 1))), some (.val X), none, c5] =
      if decide (s < bs + bl + z) then some (.rt (.tuple [.str "turning", .int ((k : Int) + 1)]) [some (.val SD), some (.val NS), some (.val (.int ((k : Int) + 1))), some (.val X), none, some (.val Y)]) else some (.nx [some (.val SD), some (.val NS), some (.val (.int ((k : Int) + 1))), some (.val X), none, some (.val Y)]) := by
  have e1 : (0 : Int) < (k : Int) + 1 := by omega
  have e2 : (k : Int) + 1 - 1 = k := by omega
  by_cases h : s < bs + bl + z
  · rw [decide_eq_true h]
    simp [e1, e2, h0, n1, n2, hy, x1, y1, y2, ht, h]
  · rw [decide_eq_false h]
    simp [e1, e2, h0, n1, n2, hy, x1, y1, y2, ht, h]
theorem lw_ord (SD NS X : D) (k i : Nat) (c5 : Option Cell) (ns : List Nat) (S : Sky) (hk : k < ns.length) (ei : ns.getD k 0 = i) (eN : NS = namesD ns) :
    (gAnd (gT (f2 gtD (fV 2) (fC (.int 0)))) (gT (f2 leD (f2 ixD (fV 1) (fV 2)) (f2 ixD (fV 1) (f2 subD (fV 2) (fC (.int 1))))))) [some (.val SD), some (.val NS), some (.val (.int k)), some (.val X), none, c5] =
      some (S.ord (ns.take k) i, [some (.val SD), some (.val NS), some (.val (.int k)), some (.val X), none, c5]) := by
  have n2 := names_ix ns k hk
  rw [ei, ← eN] at n2
  unfold Sky.ord
  cases k with
  | zero => simp
  | succ j =>
    have n1 := names_ix ns j (by omega)
    rw [← eN] at n1
    rw [take_last ns j (by omega)]
    rw [show ((j + 1 : Nat) : Int) = (j : Int) + 1 from rfl] at n2 ⊢
    have e1 : (0 : Int) < (j : Int) + 1 := by omega
    have e2 : (j : Int) + 1 - 1 = j := by omega
    generalize ns.getD j 0 = b at n1 ⊢
    simp [e1, e2, n1, n2]
theorem lw_turn {S : Sky} {most : Nat} (F : Fit S) (ok : ∀ x ∈ S.looks, OkL most x) (ht30 : S.turn ≤ 30) (ns : List Nat) (hn : ∀ i ∈ ns, i < S.looks.length) (hl : ns.length ≤ 1000) (k : Nat) (hk : k < ns.length) (c3 c5 : Option Cell) :
    (S.badD ns k = none ∧ ∃ c3' c5' : Option Cell, lwBody R__law_turn R__law_store [some (.val (skyD S)), some (.val (namesD ns)), some (.val (.int k)), c3, none, c5] = some (.nx [some (.val (skyD S)), some (.val (namesD ns)), some (.val (.int k)), c3', none, c5'])) ∨
    ∃ dv r2, S.badD ns k = some dv ∧ lwBody R__law_turn R__law_store [some (.val (skyD S)), some (.val (namesD ns)), some (.val (.int k)), c3, none, c5] = some (.rt dv r2) := by
  obtain ⟨i, ei⟩ : ∃ i, ns.getD k 0 = i := ⟨_, rfl⟩
  have hi : i < S.looks.length := by
    rw [← ei, List.getD_eq_getElem?_getD, List.getElem?_eq_getElem hk]
    exact hn _ (List.getElem_mem hk)
  have hp : ∀ j ∈ ns.take k, j < S.looks.length := fun j hj => hn j (List.mem_of_mem_take hj)
  have n2 := names_ix ns k hk
  rw [ei] at n2
  have s0 := F.s0 _ (lk_mem hi)
  have s1 := F.s1 _ (lk_mem hi)
  have hst := store_ok F (ns.take k) hp (S.lk i).s s0 (by omega)
  have hcut := names_cut ns k (by omega)
  have hord := lw_ord (skyD S) (namesD ns) (lD (S.lk i)) k i c5 ns S hk ei rfl
  unfold Sky.badD
  rw [ei]
  unfold lwBody
  rw [sSeq_nx (r1 := [some (.val (skyD S)), some (.val (namesD ns)), some (.val (.int k)), some (.val (lD (S.lk i))), none, c5]) (by
    have h0 := sky_i0 S
    have h1 := look_ix (lk_get hi)
    generalize PyData.list (S.looks.map lD) = LD at h0 h1
    generalize skyD S = SD at h0 ⊢
    generalize namesD ns = NS at n2 ⊢
    generalize lD (S.lk i) = X at h1 ⊢
    simp [h0, h1, n2])]
  cases ho : S.ord (ns.take k) i
  · rw [ho] at hord
    rw [sSeq_nx (r1 := [some (.val (skyD S)), some (.val (namesD ns)), some (.val (.int k)), some (.val (lD (S.lk i))), none, c5]) (by unfold sIf; rw [hord]; rfl)]
    have htr : ∃ r2 : Ev, (sIf (gT (f2 gtD (fV 2) (fC (.int 0)))) (sSeq (sSet 5 (f2 ixD (f2 ixD (fV 0) (fC (.int 0))) (f2 ixD (fV 1) (f2 subD (fV 2) (fC (.int 1))))))
      (sIf (gT (f2 ltD (f2 ixD (fV 3) (fC (.int 1))) (f2 addD (f2 addD (f2 ixD (fV 5) (fC (.int 1))) (f2 ixD (fV 5) (fC (.int 2)))) (fCall R__law_turn (aCons (fV 0) (aCons (f2 ixD (fV 1) (f2 subD (fV 2) (fC (.int 1)))) (aCons (f2 ixD (fV 1) (fV 2)) aNil))))))) (sRet (fTup (aCons (fC (.str "turning")) (aCons (fV 2) aNil)))) sNext)) sNext) [some (.val (skyD S)), some (.val (namesD ns)), some (.val (.int k)), some (.val (lD (S.lk i))), none, c5] =
        (if S.trn (ns.take k) i then some (.rt (.tuple [.str "turning", .int k]) r2) else some (.nx r2)) ∧ ∃ c5', r2 = [some (.val (skyD S)), some (.val (namesD ns)), some (.val (.int k)), some (.val (lD (S.lk i))), none, c5'] := by
      cases k with
      | zero =>
        refine ⟨_, ?_, c5, rfl⟩
        show _ = (if (false = true) then some (Out.rt _ _) else some (Out.nx _))
        exact trn_zero R__law_turn _ _ _ c5 _
      | succ j =>
        have n1 := names_ix ns j (by omega)
        obtain ⟨b, eb⟩ : ∃ b, ns.getD j 0 = b := ⟨_, rfl⟩
        have hb : b < S.looks.length := by
          rw [← eb, List.getD_eq_getElem?_getD, List.getElem?_eq_getElem (show j < ns.length by omega)]
          exact hn _ (List.getElem_mem (by omega))
        rw [eb] at n1
        have lt := lturn_ok (lk_get hb) (lk_get hi) (ok _ (lk_mem hb)) (ok _ (lk_mem hi)) F.t0 ht30
        have := trn_succ R__law_turn (skyD S) (namesD ns) _ (lD (S.lk i)) (lD (S.lk b)) j i b _ _ _ _ c5 (sky_i0 S) n1 n2 (look_ix (lk_get hb)) rfl rfl rfl lt
        refine ⟨_, ?_, some (.val (lD (S.lk b))), rfl⟩
        have et : S.trn (ns.take (j + 1)) i = decide ((S.lk i).s < (S.lk b).s + (S.lk b).l + turnZ S.turn (S.lk b).a (S.lk i).a) := by
          unfold Sky.trn
          rw [take_last ns j (by omega), eb]
          rfl
        rw [et]
        exact this
    obtain ⟨c5', h⟩ := lw_tail R__law_turn R__law_store (skyD S) (namesD ns) _ (lD (S.lk i)) _ k (S.lk i).w (S.lk i).s (S.lk i).z S.cap _ c5 (ns.take k) (fun j => (S.lk j).w) (fun j => lD (S.lk j)) (S.wsh (ns.take k) i) (S.trn (ns.take k) i) (sky_i0 S) (sky_i3 S) rfl rfl rfl hcut rfl (fun j hj => ⟨look_ix (lk_get (hp j hj)), rfl⟩) (by rw [List.length_take]; omega) (in_ints _ _) hst htr
    have er : S.rm (ns.take k) i = decide (S.cap < storeZ S (ns.take k) (S.lk i).s + (S.lk i).z) := rfl
    rw [← er] at h
    cases hkd : kindD false (S.wsh (ns.take k) i) (S.trn (ns.take k) i) (S.rm (ns.take k) i) k with
    | some dv =>
      rw [hkd] at h
      exact .inr ⟨dv, _, rfl, h⟩
    | none =>
      rw [hkd] at h
      exact .inl ⟨rfl, _, c5', h⟩
  · rw [ho] at hord
    exact .inr ⟨.tuple [.str "order", .int k], [some (.val (skyD S)), some (.val (namesD ns)), some (.val (.int k)), some (.val (lD (S.lk i))), none, c5], rfl, by
      rw [sSeq_rt (d := .tuple [.str "order", .int k]) (r1 := [some (.val (skyD S)), some (.val (namesD ns)), some (.val (.int k)), some (.val (lD (S.lk i))), none, c5]) (by unfold sIf; rw [hord]; rfl)]⟩
theorem lwrong_ok {S : Sky} {most : Nat} (F : Fit S) (ok : ∀ x ∈ S.looks, OkL most x) (ht30 : S.turn ≤ 30) (ns : List Nat) (hn : ∀ i ∈ ns, i < S.looks.length) (hl : ns.length ≤ 1000) : R__law_wrong [skyD S, namesD ns] = some (S.wrongD ns) := by
  have hr := okR_of (i := (ns.length : Int)) (by omega) (by omega)
  have hlp := loop_first (A := gNm 2) (body := lwBody R__law_turn R__law_store) (S.badD ns)
    (fun k r => ∃ (c2 c3 c5 : Option Cell), r = [some (.val (skyD S)), some (.val (namesD ns)), c2, c3, none, c5])
    (items := rngL 0 ns.length) (r := [some (.val (skyD S)), some (.val (namesD ns)), none, none, none, none]) 0
    ⟨none, none, none, rfl⟩ fun k d r e ⟨c2, c3, c5, er⟩ => by
      subst er
      rw [Nat.zero_add] at *
      obtain ⟨hk, rfl⟩ := rngL_get e
      rw [show (0 : Int) + (k : Int) = k from Int.zero_add _]
      refine ⟨_, rfl, ?_⟩
      rcases lw_turn F ok ht30 ns hn hl k hk c3 c5 with ⟨h1, c3', c5', h2⟩ | ⟨dv, r2, h1, h2⟩
      · exact .inl ⟨h1, _, .inl h2, _, _, _, rfl⟩
      · exact .inr ⟨dv, r2, h1, h2⟩
  rw [rngL_length] at hlp
  have e5 : lenD (namesD ns) = some (.int ns.length) := by
    show some (PyData.int _) = _
    rw [List.length_map]
  have src : SL.iRng1 (f1 lenD (fV 1)) (startE 6 [skyD S, namesD ns]) = some (rngL 0 ns.length, [some (.val (skyD S)), some (.val (namesD ns)), none, none, none, none]) := by
    show SL.iRng1 (f1 lenD (fV 1)) [some (.val (skyD S)), some (.val (namesD ns)), none, none, none, none] = _
    generalize skyD S = SD
    generalize namesD ns = NS at e5 ⊢
    simp [SL.iRng1, e5, hr]
  unfold R__law_wrong runP F__law_wrong Sky.wrongD
  rcases hlp with ⟨h1, r', h2, _⟩ | ⟨dv, r', h1, h2⟩
  · rw [h1, sSeq_nx (r1 := r') (by rw [sFor_eq (ds := rngL 0 ns.length) (r1 := [some (.val (skyD S)), some (.val (namesD ns)), none, none, none, none]) src]; exact h2)]
    rfl
  · rw [h1, sSeq_rt (d := dv) (r1 := r') (by rw [sFor_eq (ds := rngL 0 ns.length) (r1 := [some (.val (skyD S)), some (.val (namesD ns)), none, none, none, none]) src]; exact h2)]
    rfl
theorem wrong_form (S : Sky) (ns : List Nat) : S.wrongD ns = .none ∨ ∃ w k, S.wrongD ns = .tuple [.str w, .int k] ∧ PyData.strOk w = true := by
  unfold Sky.wrongD
  cases h : (List.range' 0 ns.length).findSome? (S.badD ns) with
  | none => exact .inl rfl
  | some dv =>
    right
    obtain ⟨k, _, hk⟩ := List.exists_of_findSome?_eq_some h
    unfold Sky.badD kindD at hk
    split at hk
    · cases hk; exact ⟨_, _, rfl, strOk_of _⟩
    · split at hk
      · cases hk; exact ⟨_, _, rfl, strOk_of _⟩
      · split at hk
        · cases hk; exact ⟨_, _, rfl, strOk_of _⟩
        · split at hk
          · cases hk; exact ⟨_, _, rfl, strOk_of _⟩
          · cases hk
end Sk
/-! Plans and worths. -/
namespace Sk
open PySem PySem.Spec PyProof.Rows L2 SL
theorem fit_of {most : Nat} {S : Sky} (ok : OkSky most S) : Fit S where
  t0 := ok.t0
  t1 := Int.le_trans ok.t1 (by decide)
  ears := ok.ears
  s0 := fun x hx => (ok.looks x hx).s0
  s1 := fun x hx => Int.le_trans (ok.looks x hx).s1 (by decide)
  l0 := fun x hx => (ok.looks x hx).l0
  z0 := fun x hx => Int.le_trans (by decide) (ok.looks x hx).z0
def isN (d : D) : Bool := match d with
  | .none => true
  | _ => false
/-! ### worths -/
theorem sum_ints (ns : List Int) : sumD (.list (ns.map .int)) = some (.int ns.sum) := by
  show (intsOf _).map _ = _
  rw [intsOf_map]
  rfl
def Sky.wo (S : Sky) (w : Int) : Int := S.worths.getD w.toNat 0
theorem wo_ix {S : Sky} {w : Int} (h0 : 0 ≤ w) (h1 : w < S.worths.length) : ixD (.list (S.worths.map .int)) (.int w) = some (.int (S.wo w)) := by
  obtain ⟨k, rfl⟩ := Int.eq_ofNat_of_zero_le h0
  exact Rg.ix_at k (by omega)
def addW (ws : List Int) (w : Int) : List Int := if w ∈ ws then ws else ws ++ [w]
def wishesOf (S : Sky) (ns : List Nat) : List Int := ns.foldl (fun ws i => addW ws (S.lk i).w) []
theorem addW_mem (ws : List Int) (w x : Int) : x ∈ addW ws w ↔ x ∈ ws ∨ x = w := by
  unfold addW
  split
  · rename_i h
    exact ⟨.inl, fun z => z.elim id fun e => e ▸ h⟩
  · rw [List.mem_append, List.mem_singleton]
theorem addW_nodup {ws : List Int} {w : Int} (h : ws.Nodup) : (addW ws w).Nodup := by
  unfold addW
  split
  · exact h
  · rename_i hw
    refine List.nodup_append.mpr ⟨h, List.pairwise_singleton _ _, fun a ha b hb => ?_⟩
    rw [List.mem_singleton.mp hb]
    intro e
    exact hw (e ▸ ha)
theorem wishes_fold (S : Sky) : ∀ (ns : List Nat) (ws : List Int), ws.Nodup → (ns.foldl (fun ws i => addW ws (S.lk i).w) ws).Nodup ∧ ∀ x, x ∈ ns.foldl (fun ws i => addW ws (S.lk i).w) ws ↔ x ∈ ws ∨ x ∈ ns.map fun i => (S.lk i).w
  | [], ws, h => ⟨h, fun x => by simp⟩
  | i :: ns, ws, h => by
    obtain ⟨a, b⟩ := wishes_fold S ns (addW ws (S.lk i).w) (addW_nodup h)
    refine ⟨a, fun x => ?_⟩
    rw [List.foldl_cons, b x, addW_mem, List.map_cons, List.mem_cons]
    exact or_assoc
theorem perm_sum {a b : List Int} (h : a.Perm b) : a.sum = b.sum := by
  induction h with
  | nil => rfl
  | cons x _ ih => rw [List.sum_cons, List.sum_cons, ih]
  | swap x y l => simp only [List.sum_cons]; omega
  | trans _ _ h1 h2 => rw [h1, h2]
def worthZ (S : Sky) (ns : List Nat) : Int := ((wishesOf S ns).map S.wo).sum
def lawWishes (S : Sky) (ns : List Nat) : List Nat := (List.range S.worths.length).filter fun k => decide ((k : Int) ∈ ns.map fun i => (S.lk i).w)
theorem worth_same {S : Sky} (hw : ∀ x ∈ S.looks, 0 ≤ x.w ∧ x.w < S.worths.length) (ns : List Nat) (hn : ∀ i ∈ ns, i < S.looks.length) : ((lawWishes S ns).map fun (k : Nat) => S.wo k).sum = worthZ S ns := by
  obtain ⟨a, b⟩ := wishes_fold S ns [] List.Pairwise.nil
  have p : ((lawWishes S ns).map fun (k : Nat) => (k : Int)).Perm (wishesOf S ns) := by
    show List.Perm _ (ns.foldl (fun ws i => addW ws (S.lk i).w) [])
    rw [List.perm_ext_iff_of_nodup ?_ a]
    · intro x
      rw [b x]
      unfold lawWishes
      constructor
      · intro h
        obtain ⟨k, hk, rfl⟩ := List.mem_map.mp h
        exact .inr (of_decide_eq_true (List.mem_filter.mp hk).2)
      · intro h
        rcases h with h | h
        · cases h
        · obtain ⟨i, hi, rfl⟩ := List.mem_map.mp h
          obtain ⟨w0, w1⟩ := hw _ (lk_mem (hn i hi))
          obtain ⟨k, ek⟩ := Int.eq_ofNat_of_zero_le w0
          refine List.mem_map.mpr ⟨k, List.mem_filter.mpr ⟨List.mem_range.mpr (by omega), decide_eq_true ?_⟩, ek.symm⟩
          rw [← ek]
          exact List.mem_map.mpr ⟨i, hi, rfl⟩
    · unfold lawWishes
      refine List.pairwise_map.mpr ((List.nodup_range.filter _).imp fun {x y} h e => h (by omega))
  have := perm_sum (p.map S.wo)
  rw [List.map_map] at this
  exact this
theorem lwo_lc1 (SD NS LD : D) (p : List Nat) (f : Nat → Int) (g : Nat → D) (h0 : ixD SD (.int 0) = some LD) (eN : NS = .list (p.map fun (n : Nat) => (.int n : D))) (hg : ∀ j ∈ p, ixD LD (.int (j : Int)) = some (g j) ∧ ixD (g j) (.int 0) = some (.int (f j))) (hl : p.length ≤ 1000) :
    lLc (iSeq (fV 1)) [3] (gNm 3) gYes (f2 ixD (f2 ixD (f2 ixD (fV 0) (fC (.int 0))) (fV 3)) (fC (.int 0))) [some (.val SD), some (.val NS), none, none, none] =
      some ((p.map f).map .int, [some (.val SD), some (.val NS), none, none, none]) := by
  rw [lLc_eq (ds := p.map fun (n : Nat) => (.int n : D)) (r0 := [some (.val SD), some (.val NS), none, none, none]) (zs := (p.map f).map .int) (w := [some (.val SD), some (.val NS), none, none, none]) (by rw [eN]; rfl) ?b ?c]
  · rfl
  case b =>
    rw [List.map_map]
    refine lcF_all (fun (n : Nat) => (.int n : D)) _ rfl fun j hj => ?_
    obtain ⟨g1, g2⟩ := hg j hj
    exact ⟨_, [some (.val SD), some (.val NS), none, some (.val (.int j)), none], rfl, by simp [h0, g1, g2], rfl⟩
  case c => exact small_len (by simp; omega)
theorem lwo_lc2 (SD NS WD : D) (ws : List Int) (m : Nat) (f : Nat → Int) (hm : m ≤ 1000) (h1 : ixD SD (.int 1) = some WD) (h2 : lenD WD = some (.int m)) (hf : ∀ k : Nat, k < m → ixD WD (.int (k : Int)) = some (.int (f k))) :
    lLc (SL.iRng1 (f1 lenD (f2 ixD (fV 0) (fC (.int 1))))) [4] (gNm 4) (gT (f2 inD (fV 4) (fV 2))) (f2 ixD (f2 ixD (fV 0) (fC (.int 1))) (fV 4)) [some (.val SD), some (.val NS), some (.val (.list (ws.map .int))), none, none] =
      some ((((List.range m).filter fun (k : Nat) => decide ((k : Int) ∈ ws)).map f).map .int, [some (.val SD), some (.val NS), some (.val (.list (ws.map .int))), none, none]) := by
  have hr := okR_of (i := (m : Int)) (by omega) (by omega)
  rw [lLc_eq (ds := rngL 0 m) (r0 := [some (.val SD), some (.val NS), some (.val (.list (ws.map .int))), none, none]) (zs := (((List.range m).filter fun (k : Nat) => decide ((k : Int) ∈ ws)).map f).map .int) (w := [some (.val SD), some (.val NS), some (.val (.list (ws.map .int))), none, none]) ?a ?b ?c]
  · rfl
  case a => simp [SL.iRng1, h1, h2, hr]
  case b =>
    rw [rngL_map, List.map_map]
    refine lcF_gen (fun (i : Nat) => (.int i : D)) (fun (k : Nat) => decide ((k : Int) ∈ ws)) _ rfl fun k hk => ?_
    have hk2 : k < m := List.mem_range.mp hk
    have hin := in_ints ws (k : Int)
    generalize PyData.list (ws.map .int) = wd at hin
    refine ⟨[some (.val SD), some (.val NS), some (.val wd), none, some (.val (.int k))], [some (.val SD), some (.val NS), some (.val wd), none, some (.val (.int k))], rfl, ?_, fun _ => ⟨[some (.val SD), some (.val NS), some (.val wd), none, some (.val (.int k))], by simp [h1, hf k hk2], rfl⟩, fun _ => rfl⟩
    generalize decide ((k : Int) ∈ ws) = b at hin
    simp [hin]
  case c =>
    refine small_len ?_
    have := List.length_filter_le (fun (k : Nat) => decide ((k : Int) ∈ ws)) (List.range m)
    rw [List.length_range] at this
    rw [List.length_map, List.length_map]
    omega
theorem lworth_ev (SD NS : D) (ws zs : List D) (z : Int) (F1 F2 : FA) (l1 : F1 [some (.val SD), some (.val NS), none, none, none] = some (ws, [some (.val SD), some (.val NS), none, none, none]))
    (l2 : F2 [some (.val SD), some (.val NS), some (.val (.list ws)), none, none] = some (zs, [some (.val SD), some (.val NS), some (.val (.list ws)), none, none])) (sm : sumD (.list zs) = some (.int z)) :
    endP ((sSeq (sSet 2 (fL F1)) (sRet (f1 sumD (fL F2)))) (startE 5 [SD, NS])) = some (.int z) := by
  rw [sSeq_nx (r1 := [some (.val SD), some (.val NS), some (.val (.list ws)), none, none]) (by unfold sSet fL startE; simp [l1])]
  simp [l2, sm]
theorem lworth_ok {S : Sky} (hw : ∀ x ∈ S.looks, 0 ≤ x.w ∧ x.w < S.worths.length) (hm : S.worths.length ≤ 1000) (ns : List Nat) (hn : ∀ i ∈ ns, i < S.looks.length) (hl : ns.length ≤ 1000) : R__law_worth [skyD S, namesD ns] = some (.int (worthZ S ns)) := by
  have l1 := lwo_lc1 (skyD S) (namesD ns) _ ns (fun j => (S.lk j).w) (fun j => lD (S.lk j)) (sky_i0 S) rfl (fun j hj => ⟨look_ix (lk_get (hn j hj)), rfl⟩) hl
  have e5 : lenD (.list (S.worths.map .int)) = some (.int S.worths.length) := by
    show some (PyData.int _) = _
    rw [List.length_map]
  have l2 := lwo_lc2 (skyD S) (namesD ns) _ (ns.map fun j => (S.lk j).w) S.worths.length (fun k => S.wo k) hm (sky_i1 S) e5 (fun k hk => wo_ix (by omega) (by omega))
  have sm := sum_ints ((lawWishes S ns).map fun (k : Nat) => S.wo k)
  rw [worth_same hw ns hn] at sm
  exact lworth_ev (skyD S) (namesD ns) _ _ _ _ _ l1 l2 sm
end Sk
/-! Parts of plans are plans; all ascending lists; levels. -/
namespace Sk
open PySem PySem.Spec PyProof.Rows L2 SL
theorem mx_mono {a b : Int} (h : a ≤ b) : mx 0 a ≤ mx 0 b := by
  unfold mx
  split <;> split <;> omega
theorem addAt_cons (S : Sky) (i : Nat) (p : List Nat) (now : Int) : addAt S (i :: p) now = (if S.fin i = now then (S.lk i).z else 0) + addAt S p now := by
  unfold addAt
  rw [List.foldl_cons, fold_add fun i : Nat => if S.fin i = now then (S.lk i).z else 0]
  omega
/-- a look can come behind a list -/
structure Good (S : Sky) (p : List Nat) (i : Nat) : Prop where
  o : S.ord p i = false
  w : S.wsh p i = false
  t : S.trn p i = false
  r : S.rm p i = false
inductive PlanP (S : Sky) : List Nat → Prop
  | nil : PlanP S []
  | snoc {p : List Nat} {i : Nat} : PlanP S p → Good S p i → PlanP S (p ++ [i])
theorem PlanP.split {S : Sky} {ns : List Nat} (h : PlanP S ns) : ∀ {p : List Nat} {i : Nat}, ns = p ++ [i] → PlanP S p ∧ Good S p i := by
  cases h with
  | nil => intro p i e; exact absurd e (by simp)
  | snoc a b =>
    intro p i e
    obtain ⟨rfl, e2⟩ := List.append_inj' e rfl
    cases e2
    exact ⟨a, b⟩
theorem last_snoc (p : List Nat) (x : Nat) : (p ++ [x]).getLast? = some x := by
  rw [List.getLast?_append]
  rfl
theorem ord_lt {S : Sky} {ns : List Nat} (h : PlanP S ns) : ∀ i, S.ord ns i = false → ∀ y ∈ ns, y < i := by
  induction h with
  | nil => intro i _ y hy; cases hy
  | @snoc p x _ g ih =>
    intro i hi y hy
    have hx : x < i := by
      unfold Sky.ord at hi
      rw [last_snoc] at hi
      have := of_decide_eq_false hi
      omega
    rcases List.mem_append.mp hy with h | h
    · have := ih x g.o y h
      omega
    · rw [List.mem_singleton.mp h]; exact hx
/-! ### plans and wrongD -/
theorem kind_none {o w t r : Bool} {k : Nat} : kindD o w t r k = none ↔ o = false ∧ w = false ∧ t = false ∧ r = false := by
  unfold kindD
  cases o <;> cases w <;> cases t <;> cases r <;> simp
theorem bad_prefix (S : Sky) (p : List Nat) (i k : Nat) (h : k < p.length) : S.badD (p ++ [i]) k = S.badD p k := by
  unfold Sky.badD
  rw [List.take_append_of_le_length (by omega), List.getD_eq_getElem?_getD, List.getElem?_append_left h, ← List.getD_eq_getElem?_getD]
theorem bad_last (S : Sky) (p : List Nat) (i : Nat) : S.badD (p ++ [i]) p.length = kindD (S.ord p i) (S.wsh p i) (S.trn p i) (S.rm p i) p.length := by
  unfold Sky.badD
  rw [List.take_left, List.getD_eq_getElem?_getD, List.getElem?_append_right (Nat.le_refl _), Nat.sub_self]
  rfl
theorem wrong_none {S : Sky} {ns : List Nat} : S.wrongD ns = .none ↔ ∀ k, k < ns.length → S.badD ns k = none := by
  unfold Sky.wrongD
  constructor
  · intro h k hk
    cases e : (List.range' 0 ns.length).findSome? (S.badD ns) with
    | none => exact List.findSome?_eq_none_iff.mp e k (List.mem_range'_1.mpr ⟨Nat.zero_le _, by omega⟩)
    | some dv =>
      rw [e] at h
      obtain ⟨j, _, hj⟩ := List.exists_of_findSome?_eq_some e
      have hd : dv = .none := h
      subst hd
      unfold Sky.badD kindD at hj
      split at hj
      · cases hj
      · split at hj
        · cases hj
        · split at hj
          · cases hj
          · split at hj <;> cases hj
  · intro h
    rw [List.findSome?_eq_none_iff.mpr fun k hk => h k (by have := List.mem_range'_1.mp hk; omega)]
    rfl
theorem plan_iff (S : Sky) : ∀ (n : Nat) (ns : List Nat), ns.length = n → ((∀ k, k < ns.length → S.badD ns k = none) ↔ PlanP S ns)
  | 0, ns, h => by
    rw [List.length_eq_zero_iff.mp h]
    exact ⟨fun _ => .nil, fun _ k hk => absurd hk (Nat.not_lt_zero _)⟩
  | n + 1, ns, h => by
    rcases List.eq_nil_or_concat ns with rfl | ⟨p, i, rfl⟩
    · cases h
    · rw [List.concat_eq_append] at h ⊢
      rw [List.length_append, List.length_singleton] at h
      have hp : p.length = n := by omega
      have ih := plan_iff S n p hp
      have bl := bad_last S p i
      rw [List.length_append, List.length_singleton]
      constructor
      · intro z
        have g := z p.length (by omega)
        rw [bl] at g
        obtain ⟨a, b, c, d⟩ := kind_none.mp g
        exact .snoc (ih.mp fun k hk => by rw [← bad_prefix S p i k hk]; exact z k (by omega)) ⟨a, b, c, d⟩
      · intro z k hk
        obtain ⟨z1, g⟩ := z.split rfl
        by_cases e : k = p.length
        · rw [e, bl]
          exact kind_none.mpr ⟨g.o, g.w, g.t, g.r⟩
        · rw [bad_prefix S p i k (by omega)]
          exact ih.mpr z1 k (by omega)
theorem isN_plan {S : Sky} {ns : List Nat} : isN (S.wrongD ns) = true ↔ PlanP S ns := by
  rw [← plan_iff S _ ns rfl, ← wrong_none]
  constructor
  · intro h
    cases e : S.wrongD ns <;> rw [e] at h <;> first | rfl | cases h
  · intro h
    rw [h]
    rfl
/-! ### all ascending lists -/
def lst : Nat → List (List Nat)
  | 0 => [[]]
  | k + 1 => lst k ++ (lst k).map fun p => p ++ [k]
theorem lst_lt : ∀ (n : Nat) (p : List Nat), p ∈ lst n → (∀ i ∈ p, i < n) ∧ p.length ≤ n
  | 0, p, h => by
    rw [List.mem_singleton.mp h]
    exact ⟨fun i hi => (by cases hi), Nat.le_refl _⟩
  | n + 1, p, h => by
    rcases List.mem_append.mp h with h | h
    · obtain ⟨a, b⟩ := lst_lt n p h
      exact ⟨fun i hi => by have := a i hi; omega, by omega⟩
    · obtain ⟨q, hq, rfl⟩ := List.mem_map.mp h
      obtain ⟨a, b⟩ := lst_lt n q hq
      refine ⟨fun i hi => ?_, by rw [List.length_append, List.length_singleton]; omega⟩
      rcases List.mem_append.mp hi with hi | hi
      · have := a i hi; omega
      · rw [List.mem_singleton.mp hi]; exact Nat.lt_succ_self _
theorem lst_len : ∀ n, (lst n).length = 2 ^ n
  | 0 => rfl
  | n + 1 => by
    show (lst n ++ (lst n).map _).length = _
    rw [List.length_append, List.length_map, lst_len n, Nat.pow_succ]
    omega
/-! ### lists in lists -/
def plistD (Ls : List (List Nat)) : D := .list (Ls.map namesD)
/-! ### levels -/
def lvl (S : Sky) (ns : List Nat) (k : Nat) : Int := runZ S (ns.take (k + 1)) ((S.fin (ns.getD k 0)).toNat + 1)
end Sk
/-! Timely lists and needs. -/
namespace Sk
open PySem PySem.Spec PyProof.Rows L2 SL
def F_with_capacity : FS := (sSeq (sAsg (fV 0) (gTp 5 (gsCons (gNm 2) (gsCons (gNm 3) (gsCons (gNm 4) (gsCons (gNm 5) (gsCons (gNm 6) gsNil)))))))
    (sRet (fTup (aCons (fV 2) (aCons (fV 3) (aCons (fV 4) (aCons (fV 1) (aCons (fV 6) aNil))))))))
def R_with_capacity : List D → Option D := runP 7 F_with_capacity
def F_plenty : FS := (sRet (fCall R_with_capacity (aCons (fV 0) (aCons (f2 addD (fC (.int 1)) (f1 sumD (fL (lLc (iSeq (f2 ixD (fV 0) (fC (.int 0)))) [1] (gNm 1) gYes (f2 ixD (fV 1) (fC (.int 4))))))) aNil))))
def R_plenty : List D → Option D := runP 2 F_plenty
def F_is_timely : FS := (sRet (f2 isD (fCall R_wrong_in (aCons (fCall R_plenty (aCons (fV 0) aNil)) (aCons (fV 1) aNil))) (fC .none)))
def R_is_timely : List D → Option D := runP 2 F_is_timely
def F_need_of : FS := (sSeq (sSet 2 (fC (.int 0)))
    (sSeq (sSet 3 (fC .none))
    (sSeq (sSet 4 (fC (.int 0)))
    (sSeq (sFor (iSeq (fV 1)) (gNm 5) (sSeq (sAsg (f2 ixD (f2 ixD (fV 0) (fC (.int 0))) (fV 5)) (gTp 5 (gsCons (gNm 6) (gsCons (gNm 7) (gsCons (gNm 8) (gsCons (gNm 6) (gsCons (gNm 9) gsNil)))))))
    (sSeq (sSet 2 (f2 max2D (fV 2) (f2 addD (fCall R_stored_at (aCons (fV 0) (aCons (fV 3) (aCons (fV 4) (aCons (fV 7) aNil))))) (fV 9))))
    (sSeq (sSet 4 (f2 addD (fCall R_stored_at (aCons (fV 0) (aCons (fV 3) (aCons (fV 4) (aCons (f2 addD (fV 7) (fV 8)) aNil))))) (fV 9)))
    (sSet 3 (fV 5))))))
    (sRet (fV 2))))))
def R_need_of : List D → Option D := runP 10 F_need_of
def F__law_need : FS := (sSeq (sSet 2 (fC (.int 0)))
    (sSeq (sFor (SL.iRng1 (f1 lenD (fV 1))) (gNm 3) (sSeq (sSet 4 (f2 ixD (f2 ixD (fV 0) (fC (.int 0))) (f2 ixD (fV 1) (fV 3))))
    (sSet 2 (f2 max2D (fV 2) (f2 addD (fCall R__law_store (aCons (fV 0) (aCons (fCut (fV 1) oNone (oSome (fV 3))) (aCons (f2 ixD (fV 4) (fC (.int 1))) aNil)))) (f2 ixD (fV 4) (fC (.int 4))))))))
    (sRet (fV 2))))
def R__law_need : List D → Option D := runP 5 F__law_need
def Sky.withC (S : Sky) (c : Int) : Sky := ⟨S.looks, S.worths, S.ears, c, S.turn⟩
theorem withC_fit {S : Sky} (F : Fit S) (c : Int) : Fit (S.withC c) := ⟨F.t0, F.t1, F.ears, F.s0, F.s1, F.l0, F.z0⟩
theorem withC_run (S : Sky) (c : Int) (p : List Nat) : ∀ k, runZ (S.withC c) p k = runZ S p k
  | 0 => rfl
  | k + 1 => by
    show mx 0 (runZ (S.withC c) p k - tickLoss S.ears ((k : Int) - 1)) + addAt S p k = _
    rw [withC_run S c p k]
    rfl
/-- the three things that do not ask for room -/
def Sky.tim (S : Sky) (ns : List Nat) (k : Nat) : Bool := !(S.ord (ns.take k) (ns.getD k 0)) && (!(S.wsh (ns.take k) (ns.getD k 0)) && !(S.trn (ns.take k) (ns.getD k 0)))
def Sky.timely (S : Sky) (ns : List Nat) : Bool := decide (∀ k, k < ns.length → S.tim ns k = true)
/-! sums -/
def sumTo (f : Nat → Int) : Nat → Int
  | 0 => 0
  | n + 1 => sumTo f n + f n
theorem sumTo_mono {f : Nat → Int} {m : Nat} (h : ∀ i, i < m → 0 ≤ f i) : ∀ n, n ≤ m → ∀ k, k ≤ n → sumTo f k ≤ sumTo f n
  | 0, _, k, hk => by rw [Nat.le_zero.mp hk]; exact Int.le_refl _
  | n + 1, hn, k, hk => by
    by_cases e : k = n + 1
    · rw [e]; exact Int.le_refl _
    · have a := sumTo_mono h n (by omega) k (by omega)
      have b := h n (by omega)
      show sumTo f k ≤ sumTo f n + f n
      omega
theorem asc_sum {f : Nat → Int} {m : Nat} (h : ∀ i, i < m → 0 ≤ f i) : ∀ (len : Nat) (ns : List Nat), ns.length = len → ns.Pairwise (· < ·) → ∀ n, n ≤ m → (∀ i ∈ ns, i < n) → (ns.map f).sum ≤ sumTo f n
  | 0, ns, hl, _, n, hn, _ => by
    rw [List.length_eq_zero_iff.mp hl]
    exact sumTo_mono h n hn 0 (Nat.zero_le _)
  | len + 1, ns, hl, hp, n, hn, hi => by
    rcases List.eq_nil_or_concat ns with rfl | ⟨p, i, rfl⟩
    · cases hl
    · rw [List.concat_eq_append] at hl hp hi ⊢
      rw [List.length_append, List.length_singleton] at hl
      obtain ⟨h1, _, h3⟩ := List.pairwise_append.mp hp
      have i1 : i < n := hi i (List.mem_append_right _ (List.mem_singleton.mpr rfl))
      have ih := asc_sum h len p (by omega) h1 i (by omega) fun j hj => h3 j hj i (List.mem_singleton.mpr rfl)
      have mo := sumTo_mono h n hn (i + 1) (by omega)
      rw [List.map_append, List.sum_append]
      show _ + (f i + 0) ≤ _
      have e : sumTo f (i + 1) = sumTo f i + f i := rfl
      omega
def accZ (S : Sky) (p : List Nat) (k : Nat) : Int := (p.map fun i => if S.fin i < (k : Int) then (S.lk i).z else 0).sum
theorem acc_succ (S : Sky) : ∀ (p : List Nat) (k : Nat), accZ S p (k + 1) = accZ S p k + addAt S p k
  | [], _ => rfl
  | i :: p, k => by
    have ih := acc_succ S p k
    unfold accZ at ih ⊢
    rw [List.map_cons, List.map_cons, List.sum_cons, List.sum_cons, ih, addAt_cons]
    by_cases h : S.fin i < (k : Int)
    · rw [if_pos h, if_pos (by omega), if_neg (by omega)]; omega
    · by_cases h2 : S.fin i = (k : Int)
      · rw [if_neg h, if_pos (by omega), if_pos h2]; omega
      · rw [if_neg h, if_neg (by omega), if_neg h2]; omega
theorem run_acc {S : Sky} (F : Fit S) {p : List Nat} (hp : ∀ i ∈ p, i < S.looks.length) : ∀ k, runZ S p k ≤ accZ S p k
  | 0 => by
    have : accZ S p 0 = 0 := by
      unfold accZ
      induction p with
      | nil => rfl
      | cons i p ih =>
        rw [List.map_cons, List.sum_cons, ih fun j hj => hp j (List.mem_cons_of_mem _ hj), if_neg]
        · rfl
        · have := (fin_pos F (hp i (List.mem_cons_self ..))).1
          omega
    rw [this]
    exact Int.le_refl _
  | k + 1 => by
    have a := run_acc F hp k
    have b := run_nonneg F hp k
    have c := tick_nonneg F.ears ((k : Int) - 1)
    rw [acc_succ]
    show mx 0 (runZ S p k - tickLoss S.ears ((k : Int) - 1)) + addAt S p k ≤ _
    have : mx 0 (runZ S p k - tickLoss S.ears ((k : Int) - 1)) ≤ runZ S p k := by
      unfold mx
      split <;> omega
    omega
theorem acc_sum {S : Sky} (F : Fit S) : ∀ {p : List Nat}, (∀ i ∈ p, i < S.looks.length) → ∀ k, accZ S p k ≤ (p.map fun i => (S.lk i).z).sum
  | [], _, _ => Int.le_refl _
  | i :: p, h, k => by
    have ih := acc_sum F (fun j hj => h j (List.mem_cons_of_mem _ hj)) k
    have hz := F.z0 _ (lk_mem (h i (List.mem_cons_self ..)))
    unfold accZ at ih ⊢
    rw [List.map_cons, List.map_cons, List.sum_cons, List.sum_cons]
    split <;> omega
def sizes (S : Sky) : Int := sumTo (fun i => (S.lk i).z) S.looks.length
theorem tim_asc {S : Sky} : ∀ (len : Nat) (ns : List Nat), ns.length = len → (∀ k, k < ns.length → S.ord (ns.take k) (ns.getD k 0) = false) → ns.Pairwise (· < ·)
  | 0, ns, hl, _ => by rw [List.length_eq_zero_iff.mp hl]; exact List.Pairwise.nil
  | len + 1, ns, hl, h => by
    rcases List.eq_nil_or_concat ns with rfl | ⟨p, i, rfl⟩
    · cases hl
    · rw [List.concat_eq_append] at hl h ⊢
      rw [List.length_append, List.length_singleton] at hl
      have hp := tim_asc (S := S) len p (by omega) fun k hk => by
        have := h k (by rw [List.length_append]; omega)
        rwa [List.take_append_of_le_length (by omega), List.getD_eq_getElem?_getD, List.getElem?_append_left hk, ← List.getD_eq_getElem?_getD] at this
      have hi := h p.length (by rw [List.length_append, List.length_singleton]; omega)
      rw [List.take_left, List.getD_eq_getElem?_getD, List.getElem?_append_right (Nat.le_refl _), Nat.sub_self] at hi
      refine List.pairwise_append.mpr ⟨hp, List.pairwise_singleton _ _, fun a ha b hb => ?_⟩
      rw [List.mem_singleton.mp hb]
      have hi2 : S.ord p i = false := hi
      unfold Sky.ord at hi2
      cases e : p.getLast? with
      | none =>
        rw [List.getLast?_eq_none_iff.mp e] at ha
        cases ha
      | some j =>
        rw [e] at hi2
        have hj := of_decide_eq_false hi2
        rcases List.eq_nil_or_concat p with rfl | ⟨q, x, rfl⟩
        · cases ha
        · rw [List.concat_eq_append] at e ha hp
          rw [last_snoc] at e
          cases e
          obtain ⟨_, _, h3⟩ := List.pairwise_append.mp hp
          rcases List.mem_append.mp ha with ha | ha
          · have := h3 a ha j (List.mem_singleton.mpr rfl)
            omega
          · rw [List.mem_singleton.mp ha]; omega
theorem room_free {S : Sky} (F : Fit S) {ns : List Nat} (hn : ∀ i ∈ ns, i < S.looks.length) (h : ∀ k, k < ns.length → S.ord (ns.take k) (ns.getD k 0) = false) (k : Nat) (hk : k < ns.length) : storeZ S (ns.take k) (S.lk (ns.getD k 0)).s + (S.lk (ns.getD k 0)).z ≤ sizes S := by
  have hp : ∀ i ∈ ns.take k, i < S.looks.length := fun i hi => hn i (List.mem_of_mem_take hi)
  have a := run_acc F hp ((S.lk (ns.getD k 0)).s.toNat + 1)
  have b := acc_sum F hp ((S.lk (ns.getD k 0)).s.toNat + 1)
  have asc := tim_asc _ ns rfl h
  have asc2 := asc.sublist (List.take_sublist (k + 1) ns)
  have c := asc_sum (f := fun i => (S.lk i).z) (m := S.looks.length) (fun i hi => F.z0 _ (lk_mem hi)) _ (ns.take (k + 1)) rfl asc2 S.looks.length (Nat.le_refl _) fun i hi => hn i (List.mem_of_mem_take hi)
  rw [take_get ns k hk, List.map_append, List.sum_append] at c
  have d : ([ns.getD k 0].map fun i => (S.lk i).z).sum = (S.lk (ns.getD k 0)).z := by
    show (S.lk (ns.getD k 0)).z + 0 = _
    omega
  rw [d] at c
  unfold storeZ sizes
  omega
theorem tim_iff {S : Sky} {ns : List Nat} {k : Nat} : S.tim ns k = true ↔ S.ord (ns.take k) (ns.getD k 0) = false ∧ S.wsh (ns.take k) (ns.getD k 0) = false ∧ S.trn (ns.take k) (ns.getD k 0) = false := by
  unfold Sky.tim
  cases S.ord (ns.take k) (ns.getD k 0) <;> cases S.wsh (ns.take k) (ns.getD k 0) <;> cases S.trn (ns.take k) (ns.getD k 0) <;> simp
theorem timely_wrong {S : Sky} (F : Fit S) (c : Int) (hc : sizes S ≤ c) (ns : List Nat) (hn : ∀ i ∈ ns, i < S.looks.length) : isN ((S.withC c).wrongD ns) = S.timely ns := by
  rw [Bool.eq_iff_iff, isN_plan, ← plan_iff _ _ ns rfl]
  unfold Sky.timely
  rw [decide_eq_true_iff]
  constructor
  · intro h k hk
    obtain ⟨a, b, d, _⟩ := kind_none.mp (h k hk)
    exact tim_iff.mpr ⟨a, b, d⟩
  · intro h k hk
    have ho : ∀ k, k < ns.length → S.ord (ns.take k) (ns.getD k 0) = false := fun k hk => (tim_iff.mp (h k hk)).1
    obtain ⟨a, b, d⟩ := tim_iff.mp (h k hk)
    refine kind_none.mpr ⟨a, b, d, ?_⟩
    have rf := room_free F hn ho k hk
    unfold storeZ at rf
    refine decide_eq_false ?_
    show ¬ c < runZ (S.withC c) (ns.take k) ((S.lk (ns.getD k 0)).s.toNat + 1) + (S.lk (ns.getD k 0)).z
    rw [withC_run]
    omega
/-! needs -/
def needZ (S : Sky) (ns : List Nat) : Nat → Int
  | 0 => 0
  | k + 1 => mx (needZ S ns k) (storeZ S (ns.take k) (S.lk (ns.getD k 0)).s + (S.lk (ns.getD k 0)).z)
def needBody (St : List D → Option D) : FS := (sSeq (sAsg (f2 ixD (f2 ixD (fV 0) (fC (.int 0))) (fV 5)) (gTp 5 (gsCons (gNm 6) (gsCons (gNm 7) (gsCons (gNm 8) (gsCons (gNm 6) (gsCons (gNm 9) gsNil)))))))
    (sSeq (sSet 2 (f2 max2D (fV 2) (f2 addD (fCall St (aCons (fV 0) (aCons (fV 3) (aCons (fV 4) (aCons (fV 7) aNil))))) (fV 9))))
    (sSeq (sSet 4 (f2 addD (fCall St (aCons (fV 0) (aCons (fV 3) (aCons (fV 4) (aCons (f2 addD (fV 7) (fV 8)) aNil))))) (fV 9)))
    (sSet 3 (fV 5)))))
end Sk
/-! Long skies. -/
namespace Sk
open PySem PySem.Spec PyProof.Rows L2 SL
def F__law_long_sky : FS := (sSeq (sSet 1 (f2 addD (fC (.int 1)) (f2 modD (f1 intD (f2 ixD (fV 0) (fC (.int 0)))) (fC (.int 6)))))
    (sSeq (sSet 2 (fL (lLc (SL.iRng1 (fV 1)) [3] (gNm 3) gYes (f2 modD (f1 intD (f2 ixD (fV 0) (f2 addD (fC (.int 1)) (fV 3)))) (fC (.int 100))))))
    (sSeq (sSetO 4 (lDisp aNil))
    (sSeq (sSet 5 (fC (.int 0)))
    (sSeq (sFor (SL.iRng1 (f2 modD (f1 intD (f2 ixD (fV 0) (fC (.int 9)))) (fC (.int 5)))) (gNm 3) (sSeq (sSet 6 (f2 addD (fV 5) (f2 modD (f1 intD (f2 ixD (fV 0) (f2 addD (fC (.int 70)) (f2 mulD (fC (.int 3)) (fV 3))))) (fC (.int 12)))))
    (sSeq (sSet 5 (f2 addD (f2 addD (fV 6) (fC (.int 1))) (f2 modD (f1 intD (f2 ixD (fV 0) (f2 addD (fC (.int 71)) (f2 mulD (fC (.int 3)) (fV 3))))) (fC (.int 20)))))
    (sApp 4 (fTup (aCons (fV 6) (aCons (fV 5) (aCons (f2 ixD (fL (lDisp (aCons (fC (.int 1)) (aCons (fC (.int 1)) (aCons (fC (.int 2)) (aCons (fC (.int 7)) (aCons (fC (.int 30)) aNil))))))) (f2 modD (f1 intD (f2 ixD (fV 0) (f2 addD (fC (.int 72)) (f2 mulD (fC (.int 3)) (fV 3))))) (fC (.int 5)))) aNil))))))))
    (sSeq (sSetO 7 (lDisp aNil))
    (sSeq (sSet 8 (f2 modD (f1 intD (f2 ixD (fV 0) (fC (.int 10)))) (fC (.int 3))))
    (sSeq (sFor (SL.iRng1 (f2 modD (f1 intD (f2 ixD (fV 0) (fC (.int 16)))) (fC (.int 17)))) (gNm 3) (sSeq (sSet 8 (f2 min2D (fC (.int 180)) (f2 addD (fV 8) (f2 ixD (fL (lDisp (aCons (fC (.int 0)) (aCons (fC (.int 1)) (aCons (fC (.int 2)) (aCons (fC (.int 3)) (aCons (fC (.int 5)) (aCons (fC (.int 8)) aNil)))))))) (f2 modD (f1 intD (f2 ixD (fV 0) (f2 addD (fC (.int 90)) (f2 mulD (fC (.int 5)) (fV 3))))) (fC (.int 6)))))))
    (sApp 7 (fTup (aCons (f2 modD (f1 intD (f2 ixD (fV 0) (f2 addD (fC (.int 91)) (f2 mulD (fC (.int 5)) (fV 3))))) (fV 1)) (aCons (fV 8) (aCons (f2 ixD (fL (lDisp (aCons (fC (.int 1)) (aCons (fC (.int 2)) (aCons (fC (.int 3)) (aCons (fC (.int 7)) (aCons (fC (.int 20)) aNil))))))) (f2 modD (f1 intD (f2 ixD (fV 0) (f2 addD (fC (.int 92)) (f2 mulD (fC (.int 5)) (fV 3))))) (fC (.int 5)))) (aCons (f2 subD (f2 modD (f1 intD (f2 ixD (fV 0) (f2 addD (fC (.int 93)) (f2 mulD (fC (.int 5)) (fV 3))))) (fC (.int 181))) (fC (.int 90))) (aCons (f2 ixD (fL (lDisp (aCons (fC (.int 1)) (aCons (fC (.int 2)) (aCons (fC (.int 3)) (aCons (fC (.int 5)) (aCons (fC (.int 9)) (aCons (fC (.int 30)) aNil)))))))) (f2 modD (f1 intD (f2 ixD (fV 0) (f2 addD (fC (.int 94)) (f2 mulD (fC (.int 5)) (fV 3))))) (fC (.int 6)))) aNil)))))))))
    (sRet (fTup (aCons (fV 7) (aCons (fV 2) (aCons (fV 4) (aCons (f2 ixD (fL (lDisp (aCons (fC (.int 1)) (aCons (fC (.int 4)) (aCons (fC (.int 9)) (aCons (fC (.int 30)) (aCons (fC (.int 30)) (aCons (fC (.int 12)) aNil)))))))) (f2 modD (f1 intD (f2 ixD (fV 0) (fC (.int 7)))) (fC (.int 6)))) (aCons (f2 ixD (fL (lDisp (aCons (fC (.int 1)) (aCons (fC (.int 90)) (aCons (fC (.int 30)) (aCons (fC (.int 9)) (aCons (fC (.int 45)) aNil))))))) (f2 modD (f1 intD (f2 ixD (fV 0) (fC (.int 8)))) (fC (.int 5)))) aNil)))))))))))))))
def R__law_long_sky : List D → Option D := runP 9 F__law_long_sky
def longEar : FS := (sSeq (sSet 6 (f2 addD (fV 5) (f2 modD (f1 intD (f2 ixD (fV 0) (f2 addD (fC (.int 70)) (f2 mulD (fC (.int 3)) (fV 3))))) (fC (.int 12)))))
    (sSeq (sSet 5 (f2 addD (f2 addD (fV 6) (fC (.int 1))) (f2 modD (f1 intD (f2 ixD (fV 0) (f2 addD (fC (.int 71)) (f2 mulD (fC (.int 3)) (fV 3))))) (fC (.int 20)))))
    (sApp 4 (fTup (aCons (fV 6) (aCons (fV 5) (aCons (f2 ixD (fL (lDisp (aCons (fC (.int 1)) (aCons (fC (.int 1)) (aCons (fC (.int 2)) (aCons (fC (.int 7)) (aCons (fC (.int 30)) aNil))))))) (f2 modD (f1 intD (f2 ixD (fV 0) (f2 addD (fC (.int 72)) (f2 mulD (fC (.int 3)) (fV 3))))) (fC (.int 5)))) aNil)))))))
def longLook : FS := (sSeq (sSet 8 (f2 min2D (fC (.int 180)) (f2 addD (fV 8) (f2 ixD (fL (lDisp (aCons (fC (.int 0)) (aCons (fC (.int 1)) (aCons (fC (.int 2)) (aCons (fC (.int 3)) (aCons (fC (.int 5)) (aCons (fC (.int 8)) aNil)))))))) (f2 modD (f1 intD (f2 ixD (fV 0) (f2 addD (fC (.int 90)) (f2 mulD (fC (.int 5)) (fV 3))))) (fC (.int 6)))))))
    (sApp 7 (fTup (aCons (f2 modD (f1 intD (f2 ixD (fV 0) (f2 addD (fC (.int 91)) (f2 mulD (fC (.int 5)) (fV 3))))) (fV 1)) (aCons (fV 8) (aCons (f2 ixD (fL (lDisp (aCons (fC (.int 1)) (aCons (fC (.int 2)) (aCons (fC (.int 3)) (aCons (fC (.int 7)) (aCons (fC (.int 20)) aNil))))))) (f2 modD (f1 intD (f2 ixD (fV 0) (f2 addD (fC (.int 92)) (f2 mulD (fC (.int 5)) (fV 3))))) (fC (.int 5)))) (aCons (f2 subD (f2 modD (f1 intD (f2 ixD (fV 0) (f2 addD (fC (.int 93)) (f2 mulD (fC (.int 5)) (fV 3))))) (fC (.int 181))) (fC (.int 90))) (aCons (f2 ixD (fL (lDisp (aCons (fC (.int 1)) (aCons (fC (.int 2)) (aCons (fC (.int 3)) (aCons (fC (.int 5)) (aCons (fC (.int 9)) (aCons (fC (.int 30)) aNil)))))))) (f2 modD (f1 intD (f2 ixD (fV 0) (f2 addD (fC (.int 94)) (f2 mulD (fC (.int 5)) (fV 3))))) (fC (.int 6)))) aNil))))))))
structure OkLong (S : Sky) : Prop where
  many : S.looks.length ≤ 16
  looks : ∀ x ∈ S.looks, OkL S.worths.length x
  wl0 : 1 ≤ S.worths.length
  wl1 : S.worths.length ≤ 6
  worths : ∀ w ∈ S.worths, 0 ≤ w ∧ w ≤ 99
  el : S.ears.length ≤ 4
  ears : ∀ e ∈ S.ears, OkE e
  c0 : 1 ≤ S.cap
  c1 : S.cap ≤ 30
  t0 : 1 ≤ S.turn
  t1 : S.turn ≤ 90
end Sk
/-! Needs and plans; parts of timely lists; lists of names. -/
namespace Sk
open PySem PySem.Spec PyProof.Rows L2 SL
theorem names_add (a b : List Nat) (h : a.length + b.length ≤ 1000) : addD (namesD a) (namesD b) = some (namesD (a ++ b)) := by
  show (if _ then _ else _) = _
  rw [if_pos (by rw [List.length_map, List.length_map]; unfold sizeLine; omega), ← List.map_append]
  rfl
theorem plist_add (a b : List (List Nat)) (h : a.length + b.length ≤ 1000) : addD (plistD a) (plistD b) = some (plistD (a ++ b)) := by
  show (if _ then _ else _) = _
  rw [if_pos (by rw [List.length_map, List.length_map]; unfold sizeLine; omega), ← List.map_append]
  rfl
theorem withC_store (S : Sky) (c : Int) (p : List Nat) (t : Int) : storeZ (S.withC c) p t = storeZ S p t := withC_run S c p _
theorem need_le {S : Sky} {ns : List Nat} {c : Int} (hc : 0 ≤ c) : ∀ k, needZ S ns k ≤ c ↔ ∀ j, j < k → storeZ S (ns.take j) (S.lk (ns.getD j 0)).s + (S.lk (ns.getD j 0)).z ≤ c
  | 0 => ⟨fun _ j hj => absurd hj (Nat.not_lt_zero _), fun _ => hc⟩
  | k + 1 => by
    have ih := need_le (S := S) (ns := ns) hc k
    have e : needZ S ns (k + 1) = mx (needZ S ns k) (storeZ S (ns.take k) (S.lk (ns.getD k 0)).s + (S.lk (ns.getD k 0)).z) := rfl
    rw [e]
    constructor
    · intro h j hj
      unfold mx at h
      have h1 : needZ S ns k ≤ c ∧ storeZ S (ns.take k) (S.lk (ns.getD k 0)).s + (S.lk (ns.getD k 0)).z ≤ c := by
        split at h <;> constructor <;> omega
      by_cases z : j = k
      · subst z; exact h1.2
      · exact ih.mp h1.1 j (by omega)
    · intro h
      have h1 := ih.mpr fun j hj => h j (by omega)
      have h2 := h k (by omega)
      unfold mx
      split <;> assumption
/-- a plan is a timely list whose need is not above the room -/
theorem plan_need (S : Sky) (c : Int) (hc : 0 ≤ c) (ns : List Nat) : PlanP (S.withC c) ns ↔ S.timely ns = true ∧ needZ S ns ns.length ≤ c := by
  rw [← plan_iff _ _ ns rfl, need_le hc]
  unfold Sky.timely
  rw [decide_eq_true_iff]
  have e : ∀ k, (S.withC c).badD ns k = none ↔ S.tim ns k = true ∧ storeZ S (ns.take k) (S.lk (ns.getD k 0)).s + (S.lk (ns.getD k 0)).z ≤ c := fun k => by
    have r : (S.withC c).rm (ns.take k) (ns.getD k 0) = false ↔ storeZ S (ns.take k) (S.lk (ns.getD k 0)).s + (S.lk (ns.getD k 0)).z ≤ c := by
      unfold Sky.rm
      rw [withC_store, decide_eq_false_iff_not]
      show ¬ (c < storeZ S (ns.take k) (S.lk (ns.getD k 0)).s + (S.lk (ns.getD k 0)).z) ↔ _
      omega
    rw [tim_iff, ← r]
    refine kind_none.trans ?_
    constructor
    · intro ⟨a, b, d, f⟩; exact ⟨⟨a, b, d⟩, f⟩
    · intro ⟨⟨a, b, d⟩, f⟩; exact ⟨a, b, d, f⟩
  constructor
  · intro h
    exact ⟨fun k hk => ((e k).mp (h k hk)).1, fun k hk => ((e k).mp (h k hk)).2⟩
  · intro ⟨h1, h2⟩ k hk
    exact (e k).mpr ⟨h1 k hk, h2 k hk⟩
theorem timely_nil (S : Sky) : S.timely [] = true := decide_eq_true fun k hk => absurd hk (Nat.not_lt_zero _)
/-! the little sky -/
def twoS (s a b cap : Int) : Sky := ⟨[⟨0, s, 1, 0, 2⟩, ⟨1, s + 3, 2, 0, 3⟩], [a, b], [], cap, 1⟩
end Sk
/-! A comprehension over a list of one's own, which stays one's own. -/
namespace SL
open PySem PySem.Spec PyProof.Rows L2
variable [TBL]
def lLcP (i : Nat) (vs : List Nat) (A : FG) (t : FT) (f : FE) : FA := fun r => match r[i]? with
  | some (some (.own ds)) => (lcF vs A t f ds (r.set i none)).bind fun z => if z.1.length < sizeLine then some (z.1, (backE (r.set i none) z.2 vs).set i (some (.own ds))) else none
  | _ => none
def tIP (K : PySem.W.Frag) (i : Nat) : TI := fun σ H R => ∃ p vs0, σ[i]? = some (some (.ref p)) ∧ H p = some (.lst vs0) ∧ R (Itl K p) H
section
variable {X : Cx} {tg e elt iter : Expr} {ifs : List Expr} {scope : Scope} {own : List (Str × Nat)} {src : FA} {A : FG} {L : List Nat} {t : FT} {f : FE} {pos spos : Pos} {p : Bool}
theorem t_lcP {s : Nat} {vs : List Nat} (hsv : s ∉ vs) (hL : ∀ i ∈ L, i ∈ vs) {σ : L2.St} {H : Hp} {Q : VK} (h : tL X.K false (lLcP s vs A t f) σ H Q) : tLc (tIP X.K s) (tG X.K A L) (tT X.K false t) (tE X.K false f) vs σ H Q := by
  obtain ⟨C0, G1, r, ds', r', ok0, hf, k⟩ := h
  unfold lLcP at hf
  split at hf
  case h_2 => cases hf
  case h_1 ds er =>
    obtain ⟨v0, es, l, vs0, rfl, h1, h2, h3, h4⟩ := ok0.cell s _ er
    obtain ⟨⟨zs, rz⟩, h5, h6⟩ := Option.bind_eq_some_iff.mp hf
    split at h6
    case isFalse => cases h6
    case isTrue hz =>
    cases h6
    have od := ok0.drop s
    have nl : New X.K C0 G1 H σ (r.set s none) l vs0 := ⟨h1.1, h1.2, h2, h3, fun j c ej o z => by
      by_cases e : s = j
      · subst e
        have hlt : s < r.length := (List.getElem?_eq_some_iff.mp er).1
        rw [List.getElem?_set_self hlt] at ej
        cases ej
      · rw [List.getElem?_set_ne e] at ej
        exact e (ok0.dis s j _ c er ej rfl o (by rw [es, z]))⟩
    have o1 := od.hold nl
    refine ⟨l, vs0, es, h3, fun d hd => ?_⟩
    have hld : l ≠ d := fun z => by rw [z, hd] at h3; cases h3
    obtain ⟨oD, nD⟩ := o1.newList (vs := []) hd
    have f1 : (C0.hold l vs0).P d = none := (o1.fresh hd).1
    have f2 : d ∉ (C0.hold l vs0).M := (o1.fresh hd).2.1
    have f3 : (C0.hold l vs0).G0 d = none := by
      cases q : (C0.hold l vs0).G0 d with
      | none => rfl
      | some u => rw [o1.sub _ _ (o1.g0 _ _ q)] at hd; cases hd
    have f0 : C0.G0 l = none := by
      cases q : C0.G0 l with
      | none => rfl
      | some u => rw [ok0.g0 _ _ q] at h2; cases h2
    have pl0 : ∀ us : List V, ((C0.hold l vs0).hold d us).P l = some (.lst vs0) := fun us => by
      show upd (upd C0.P l (.lst vs0)) d (.lst us) l = _
      rw [upd_ne hld, upd_same]
    refine ⟨fun i m H => ∃ G' r' acc us, Ok X.K ((C0.hold l vs0).hold d us) G' H (wipe σ vs) (wipeE r' vs) ∧ Same G1 G' ∧ DpAll X.K G' us acc ∧ m = ds.length - i ∧ i ≤ ds.length ∧ ∃ ys, lcF vs A t f (ds.drop i) r' = some (ys, rz) ∧ acc ++ ys = zs,
      ⟨_, G1, r.set s none, [], [], (oD.hold nD).wipe vs, Same.refl _, .nil, rfl, Nat.zero_le _, zs, h5, rfl⟩, ?_⟩
    rintro i m H ⟨G', r', acc, us, ok', sg, hu, rfl, hi, ys, hy, hz'⟩
    have q : SqL X.K H l vs0 := .inl (.inl (ok'.prot l _ (pl0 us) h1.2))
    by_cases hlt : i < ds.length
    · refine .inr ?_
      have e : ds.drop i = ds[i] :: ds.drop (i + 1) := List.drop_eq_getElem_cons hlt
      rw [e] at hy
      obtain ⟨v, e1, dv⟩ := DpAll.get h4 (List.getElem?_eq_getElem hlt)
      refine ⟨⟨vs0, v, q, e1⟩, fun H => ∃ G' r' acc us, Ok X.K ((C0.hold l vs0).hold d us) G' H (wipe σ vs) (wipeE r' vs) ∧ Same G1 G' ∧ DpAll X.K G' us acc ∧ ∃ ys, lcF vs A t f (ds.drop (i + 1)) r' = some (ys, rz) ∧ acc ++ ys = zs, fun H' ⟨G2, r2, a, u, q1, q2, q3, q4⟩ => ⟨_, Nat.sub_lt_sub_left hlt (Nat.lt_succ_self i), G2, r2, a, u, q1, q2, q3, rfl, hlt, q4⟩, fun x H3 ⟨eH, y⟩ => ?_⟩
      subst eH
      rw [y vs0 q] at e1
      cases e1
      have dx := Dp.mono sg dv
      obtain ⟨r2, h5, h6⟩ := Option.bind_eq_some_iff.mp (show (A ds[i] (wipeE r' vs)).bind _ = some (ys, rz) from hy)
      obtain ⟨⟨b, r3⟩, h7, h8⟩ := Option.bind_eq_some_iff.mp h6
      refine ⟨_, G', _, _, r2, ok', dx, h5, fun σ2 ok4 w4 => ?_⟩
      have wv : wipe σ2 vs = wipe σ vs := by
        rw [w4 vs hL]
        have : ∀ (ws : List Nat), (∀ i ∈ ws, i ∈ vs) → wipe (wipe σ ws) vs = wipe σ vs := by
          intro ws
          induction ws with
          | nil => intro _; rfl
          | cons j js ih =>
            intro hj
            show wipe ((wipe σ js).set j none) vs = _
            rw [wipe_set (hj j List.mem_cons_self), ih fun i hi => hj i (List.mem_cons_of_mem _ hi)]
        exact this vs fun i hi => hi
      refine ⟨wv, _, G', r2, b, r3, ok4, h7, fun G5 H5 ok5 s5 _ => ?_⟩
      cases b with
      | false =>
        rw [if_neg Bool.false_ne_true] at h8 ⊢
        have w5 := ok5.wipe vs
        rw [wv] at w5
        exact ⟨G5, r3, acc, us, w5, sg.trans s5, DpAll.mono s5 hu, ys, h8, hz'⟩
      | true =>
        rw [if_pos rfl] at h8 ⊢
        obtain ⟨⟨y1, r4⟩, h9, h10⟩ := Option.bind_eq_some_iff.mp h8
        obtain ⟨⟨ys2, rz2⟩, h11, h12⟩ := Option.map_eq_some_iff.mp h10
        cases h12
        refine ⟨_, G5, r3, y1, r4, ok5, h9, fun v G6 H6 ok6 s6 _ x6 => ?_⟩
        obtain ⟨ok7, n7⟩ := ok6.unhold f1 f2 f3
        have hl : us.length < sizeLine := by
          rw [DpAll.length hu]
          have : acc.length ≤ zs.length := by rw [← hz', List.length_append]; omega
          exact Nat.lt_of_le_of_lt this hz
        refine ⟨us, n7.2.2.2.1, hl, ?_⟩
        obtain ⟨ok8, n8⟩ := n7.grow ok7 (ys := us ++ [v])
        have w9 := (ok8.hold n8).wipe vs
        rw [wv] at w9
        refine ⟨G6, r4, acc ++ [y1], us ++ [v], w9, (sg.trans s5).trans s6, DpAll.append (DpAll.mono (s5.trans s6) hu) (.cons x6 .nil), ys2, h11, ?_⟩
        rw [List.append_assoc]
        exact hz'
    · have e : ds.length = i := by omega
      refine .inl ⟨⟨vs0, q, by rw [DpAll.length h4]; omega⟩, ?_⟩
      rw [← e, List.drop_length] at hy
      cases hy
      rw [List.append_nil] at hz'
      subst hz'
      obtain ⟨ok7, n7⟩ := ok'.unhold f1 f2 f3
      have ok8 := Ok.back0 o1 sg ok7
      obtain ⟨ok9, n9⟩ := ok8.unhold h1.1 h1.2 f0
      have ok10 := ok9.setO (i := s) n9 (DpAll.mono sg h4)
      have eσ : σ.set s (some (.ref l)) = σ := by
        have hlt2 : s < σ.length := (List.getElem?_eq_some_iff.mp es).1
        have : σ[s] = some (.ref l) := by
          have := List.getElem?_eq_getElem hlt2
          rw [es] at this
          exact (Option.some.inj this).symm
        rw [← this]
        exact List.set_getElem_self hlt2
      rw [eσ] at ok10
      have cP : C0.P d = none := by
        have f1' : upd C0.P l (.lst vs0) d = none := f1
        rwa [upd_ne (Ne.symm hld)] at f1'
      refine k d us G' H ok10 sg (fun m => by cases m) ⟨cP, f2, n7.2.2.1, n7.2.2.2.1, fun j c e o z => ?_⟩ hu
      by_cases ej : s = j
      · subst ej
        rw [es] at z
        cases z
        exact hld rfl
      · rw [List.getElem?_set_ne ej] at e
        obtain ⟨v, e1, hc⟩ := ok8.cell j c e
        rw [e1] at z; cases z
        have hj : j ∉ vs := fun hj => by
          rcases backE_some e with ⟨a, b⟩ | ⟨a, b, _⟩
          · exact a hj
          · rw [o] at b; cases b
        rcases backE_some e with ⟨a, b⟩ | ⟨a, _⟩
        · exact n7.2.2.2.2 j c b o (by rw [wipe_off hj]; exact e1)
        · exact hj a
theorem pi_own {y : Str} {py : Pos} {s : Nat} (hN : X.N[s]? = some y) (hv : Vis X.env.scope y) (hd : (y == ("__debug__" : Str)) = false := by decide) (hcd : (y == ("__classdict__" : Str)) = false := by decide) : PI X tg (.Name y py) (tIP X.K s) :=
  PI.weak (pi_any (pe_var hN hv hd hcd)) fun σ H R ⟨p, vs0, e, h, r⟩ => ⟨_, e, .inl ⟨p, rfl, ⟨vs0, .inl (.inl h)⟩, r⟩⟩
theorem sl_lcP {y : Str} {py : Pos} {s : Nat} (pl : Pl X) (hi : PI X tg (.Name y py) (tIP X.K s)) (ok : BlkOk X.N X.env.scope scope own) (hsv : s ∉ own.map (·.2)) (hL : ∀ i ∈ L, i ∈ own.map (·.2))
    (hg : ∀ (s : Shared) (H : Hp) (C : Addr) (cl : List (Str × Addr)) (fp : List Addr), Pl (X.blk s H scope (compEnvC scope cl C X.env) fp) → SG (X.blk s H scope (compEnvC scope cl C X.env) fp) tg A L) (ht : ∀ (s : Shared) (H : Hp) (C : Addr) (cl : List (Str × Addr)) (fp : List Addr), Pl (X.blk s H scope (compEnvC scope cl C X.env) fp) → STs (X.blk s H scope (compEnvC scope cl C X.env) fp) ifs t)
    (he : ∀ (s : Shared) (H : Hp) (C : Addr) (cl : List (Str × Addr)) (fp : List Addr), Pl (X.blk s H scope (compEnvC scope cl C X.env) fp) → SE (X.blk s H scope (compEnvC scope cl C X.env) fp) false elt f) (hs : ∀ x, foldedSetIterable (.Name y py) X.env x = pure x := by intro _; rfl) :
    SL X false (.ListComp elt [⟨tg, .Name y py, ifs, 0⟩] scope pos) (lLcP s (own.map (·.2)) A t f) := PE.weak (pe_lc pl.calm pl.nd hi ok (fun s H C cl fp => hg s H C cl fp pl.blk) (fun s H C cl fp => ht s H C cl fp pl.blk) (fun s H C cl fp => he s H C cl fp pl.blk) hs) fun σ H Q h => t_lcP hsv hL h
end
/-! a, b = e1, e2 -/
def sPar (i j : Nat) (g : FA) : FS := fun r => match g r with
  | some ([x, y], r1) => some (.nx ((r1.set i (some (.val x))).set j (some (.val y))))
  | _ => none
@[simp] theorem sPar_r (i j : Nat) (g : FA) (r : Ev) : sPar i j g r = match g r with
  | some ([x, y], r1) => some (.nx ((r1.set i (some (.val x))).set j (some (.val y))))
  | _ => none := rfl
section
variable {X : Cx}
end
end SL
/-! Dicts whose keys are tuples: own ones, and as values. -/
namespace SL
open PySem PySem.Spec PyProof.Rows L2
variable [TBL]
/-! ### the heap's side -/
section
variable {X : Cx} {pins : List (Addr × Obj)} {σ : L2.St} {H : Hp} {s : Shared}
mutual
theorem Dp.nested (I : Inv X pins σ H s) : ∀ (d : D) (v : V) (u : Value) (k : NestedKey), Dp X.K H v d → RelV v u → toNK d = some k → NestedIs s.heap k u
  | .none, _, _, _, h, r, e => by
    cases h
    obtain rfl : _ = Value.none := r
    simp only [toNK] at e; cases e
    exact .none
  | .int i, _, _, _, h, r, e => by
    cases h
    obtain ⟨t, rfl⟩ : ∃ t, _ = Value.int i t := r
    simp only [toNK] at e; cases e
    exact .int i t
  | .tuple ds, _, _, _, h, r, e => by
    cases h with
    | tup hs ha =>
      obtain rfl : _ = Value.ref _ := r
      simp only [toNK] at e
      obtain ⟨ks, h1, h2⟩ := Option.map_eq_some_iff.mp e
      cases h2
      obtain ⟨its, rv, ⟨o, g, c, n, hd⟩, hz⟩ := I.tuple hs
      exact .tup g c hd (by rw [List.toList_toArray]; exact DpAll.nested I ds _ its ks ha rv h1)
  | .bool _, _, _, _, _, _, e => by simp [toNK] at e
  | .str _, _, _, _, _, _, e => by simp [toNK] at e
  | .list _, _, _, _, _, _, e => by simp [toNK] at e
  | .dict _, _, _, _, _, _, e => by simp [toNK] at e
theorem DpAll.nested (I : Inv X pins σ H s) : ∀ (ds : List D) (vs : List V) (us : List Value) (ks : List NestedKey), DpAll X.K H vs ds → Vals vs us → toNKs ds = some ks → NestedAll s.heap ks us
  | [], _, _, _, h, r, e => by
    cases h
    cases r
    simp only [toNKs] at e; cases e
    exact .nil
  | d :: ds, _, _, _, h, r, e => by
    cases h with
    | cons h1 t =>
      cases r with
      | cons r1 rt =>
        simp only [toNKs] at e
        obtain ⟨k, e1, e2⟩ := Option.bind_eq_some_iff.mp e
        obtain ⟨ls, e3, e4⟩ := Option.map_eq_some_iff.mp e2
        cases e4
        exact .cons (Dp.nested I d _ _ k h1 r1 e1) (DpAll.nested I ds _ _ ls t rt e3)
end
theorem nk_is (I : Inv X pins σ H s) {a : Addr} {d : D} {k : NestedKey} (h : Dp X.K H (.ref a) d) (e : nkey d = some k) : (nestedKind X.prog X.w).is s.heap k a :=
  ⟨Dp.nested I d _ _ k h rfl (nkey_some e).1, (nkey_some e).2⟩
theorem key_ref {K : PySem.W.Frag} {v : V} {d : D} {ds : List D} (h : Dp K H v d) (e : d = .tuple ds) : ∃ a, v = .ref a := by
  subst e
  cases h with
  | tup a b => exact ⟨_, rfl⟩
theorem ents (w : World) {P : Program} {K : PySem.W.Frag} : ∀ {ks : List KE3} {kds : List (D × D)} {xs : List (NestedKey × Addr × Value)}, DpKs K H ks kds → Paired E3 ks xs → xs.map entry0 = xs.map (entryOfKey (nestedKind P w))
  | _, _, _, .nil, .nil => rfl
  | _, _, _, .cons e a b t, .cons r rs => by
    rw [List.map_cons, List.map_cons, ents w t rs]
    congr 1
    unfold entry0 entryOfKey
    have h := hash_eq w _ _ (nkey_some e).1
    obtain ⟨r1, r2, r3⟩ := r
    dsimp only at r1 r2 r3
    show DictEntry.mk _ _ _ = DictEntry.mk (NestedKey.hash w _) _ _
    rw [← r1, h]
theorem DicO.at {p : Addr} {o : Obj} {ks : List KE3} (I : Inv X pins σ H s) (h : H p = some (DicO p o ks)) : s.heap.get? p = some o ∧ DicS p o ks := (I.hok p _ h).1
theorem dic_is (I : Inv X pins σ H s) : ∀ {ks : List KE3} {kds : List (D × D)} {xs : List (NestedKey × Addr × Value)}, DpKs X.K H ks kds → Paired E3 ks xs → ∀ x ∈ xs, (nestedKind X.prog X.w).is s.heap x.1 x.2.1
  | _, _, _, .nil, .nil, x, hx => nomatch hx
  | _, _, _, .cons e a b t, .cons r rs, x, hx => by
    rcases List.mem_cons.mp hx with rfl | hx
    · obtain ⟨r1, r2, r3⟩ := r
      dsimp only at r1 r2
      rw [← r1, ← r2]
      exact nk_is I a e
    · exact dic_is I t rs x hx
theorem dic_of {p : Addr} {o : Obj} {ks : List KE3} {kds : List (D × D)} (I : Inv X pins σ H s) (h : H p = some (DicO p o ks)) (hk : DpKs X.K H ks kds) :
    ∃ xs, Paired E3 ks xs ∧ s.heap.DictOfH (nestedKind X.prog X.w) p xs := by
  obtain ⟨g, hz, hm, xs, es, ep, pr, ex, hd, he, hn⟩ := DicO.at I h
  exact ⟨xs, pr, o, es, ep, g, ex, hd, by rw [he]; exact ents X.w hk pr, fun x hx => dic_is I hk pr x hx, hn⟩
end
/-! ### look-ups -/
def keyEq (a b : D) : Bool := decide (nkey a = nkey b)
def dFind (kds : List (D × D)) (k : D) : Option D := (kds.find? fun p => keyEq p.1 k).map (·.2)
def dPut (kds : List (D × D)) (k v : D) : List (D × D) := if (dFind kds k).isSome = true then kds.map fun p => if keyEq p.1 k = true then (p.1, v) else p else kds ++ [(k, v)]
theorem dPut_len (kds : List (D × D)) (k v : D) : (dPut kds k v).length ≤ kds.length + 1 := by
  unfold dPut
  split
  · rw [List.length_map]; omega
  · rw [List.length_append]; exact Nat.le_refl _
section
variable {K : PySem.W.Frag} {G H : Hp}
theorem key_dec {a b : D} {k l : NestedKey} (ha : nkey a = some k) (hb : nkey b = some l) : keyEq a b = decide (k = l) := by
  unfold keyEq
  rw [ha, hb]
  by_cases h : k = l
  · rw [decide_eq_true h, h, decide_eq_true rfl]
  · rw [decide_eq_false h, decide_eq_false fun z => h (Option.some.inj z)]
theorem DpKs.find {kd : D} {k : NestedKey} (e : nkey kd = some k) : ∀ {ks : List KE3} {kds : List (D × D)} {xs : List (NestedKey × Addr × Value)}, DpKs K G ks kds → Paired E3 ks xs →
    (dFind kds kd = none ∧ atKey xs k = none) ∨ ∃ vd v a u, dFind kds kd = some vd ∧ Dp K G v vd ∧ atKey xs k = some (a, u) ∧ RelV v u
  | _, _, _, .nil, .nil => .inl ⟨rfl, rfl⟩
  | _, _, _, .cons (k := k') (kd := kd') (vd := vd') e' a b t, .cons (b := x) r rs => by
    obtain ⟨r1, r2, r3⟩ := r
    dsimp only at r1 r2 r3
    have q := key_dec e' e
    unfold dFind atKey
    rw [List.find?_cons, List.find?_cons]
    dsimp only
    rw [q, ← r1]
    cases decide (k' = k) with
    | true => exact .inr ⟨_, _, x.2.1, x.2.2, rfl, b, rfl, r3⟩
    | false => exact DpKs.find e t rs
/-- the entries behind a store -/
def ksPut (ks : List KE3) (k : NestedKey) (a : Addr) (v : V) (old : Bool) : List KE3 := if old = true then ks.map fun x => if x.1 = k then (x.1, x.2.1, v) else x else ks ++ [(k, a, v)]
theorem DpKs.append {K : PySem.W.Frag} : ∀ {ks : List KE3} {kds : List (D × D)} {ls : List KE3} {lds : List (D × D)}, DpKs K G ks kds → DpKs K G ls lds → DpKs K G (ks ++ ls) (kds ++ lds)
  | _, _, _, _, .nil, h => h
  | _, _, _, _, .cons e a b t, h => .cons e a b (DpKs.append t h)
theorem Paired.app {α β : Type} {R : α → β → Prop} : ∀ {xs : List α} {ys : List β} {us : List α} {vs : List β}, Paired R xs ys → Paired R us vs → Paired R (xs ++ us) (ys ++ vs)
  | _, _, _, _, .nil, h => h
  | _, _, _, _, .cons r t, h => .cons r (Paired.app t h)
theorem DpKs.map {kd vd : D} {k : NestedKey} {v : V} (e : nkey kd = some k) (hv : Dp K G v vd) : ∀ {ks : List KE3} {kds : List (D × D)}, DpKs K G ks kds → DpKs K G (ks.map fun x => if x.1 = k then (x.1, x.2.1, v) else x) (kds.map fun p => if keyEq p.1 kd = true then (p.1, vd) else p)
  | _, _, .nil => .nil
  | _, _, .cons (k := k') e' a b t => by
    rw [List.map_cons, List.map_cons]
    have q := key_dec e' e
    dsimp only
    rw [q]
    by_cases h : k' = k
    · rw [if_pos h, decide_eq_true h, if_pos rfl]
      exact .cons e' a hv (DpKs.map e hv t)
    · rw [if_neg h, decide_eq_false h, if_neg Bool.false_ne_true]
      exact .cons e' a b (DpKs.map e hv t)
theorem pair_map {k : NestedKey} {v : V} {u : Value} (r : RelV v u) : ∀ {ks : List KE3} {xs : List (NestedKey × Addr × Value)}, Paired E3 ks xs → Paired E3 (ks.map fun x => if x.1 = k then (x.1, x.2.1, v) else x) (xs.map (putAt k u))
  | _, _, .nil => .nil
  | _, _, .cons (a := x) (b := y) q t => by
    rw [List.map_cons, List.map_cons]
    refine .cons ?_ (pair_map r t)
    obtain ⟨q1, q2, q3⟩ := q
    unfold putAt
    by_cases h : x.1 = k
    · rw [if_pos h, if_pos (by rw [← q1]; exact h)]
      exact ⟨q1, q2, r⟩
    · rw [if_neg h, if_neg (by rw [← q1]; exact h)]
      exact ⟨q1, q2, q3⟩
theorem DpKs.put {kd vd : D} {k : NestedKey} {v : V} {a : Addr} {u : Value} {ks : List KE3} {kds : List (D × D)} {xs : List (NestedKey × Addr × Value)} (e : nkey kd = some k) (hk : Dp K G (.ref a) kd) (hv : Dp K G v vd) (r : RelV v u) (h : DpKs K G ks kds) (pr : Paired E3 ks xs) :
    ∃ ks', DpKs K G ks' (dPut kds kd vd) ∧ Paired E3 ks' (storedH xs k a u) := by
  unfold dPut
  rcases DpKs.find e h pr with ⟨h1, h2⟩ | ⟨vd', v', a', u', h1, h2, h3, h4⟩
  · rw [h1, storedH_new h2]
    exact ⟨_, DpKs.append h (.cons e hk hv .nil), Paired.app pr (.cons ⟨rfl, rfl, r⟩ .nil)⟩
  · rw [h1, storedH_old h3]
    exact ⟨_, DpKs.map e hv h, pair_map r pr⟩
end
/-- the dict in a slot: one's own, or a value -/
@[simp] def dictAt (i : Nat) (r : Ev) : Option (List (D × D)) := match r[i]? with
  | some (some (.ownD kds)) => some kds
  | some (some (.val (.dict kds))) => some kds
  | _ => none
@[simp] def dictOwn (i : Nat) (r : Ev) : Option (List (D × D)) := match r[i]? with
  | some (some (.ownD kds)) => some kds
  | _ => none
theorem Ok.dictAt {K : PySem.W.Frag} {C : Ctx} {G H : Hp} {σ : L2.St} {r : Ev} {i : Nat} {kds : List (D × D)} (ok : Ok K C G H σ r) (h : dictAt i r = some kds) : ∃ p o ks, σ[i]? = some (some (.ref p)) ∧ H p = some (DicO p o ks) ∧ DpKs K G ks kds := by
  unfold SL.dictAt at h
  split at h
  · rename_i k e
    cases h
    obtain ⟨v, e1, p, o, ks, rfl, h1, h2, h3, h4⟩ := ok.cell i _ e
    exact ⟨p, o, ks, e1, h3, h4⟩
  · rename_i k e
    cases h
    obtain ⟨v, e1, hv⟩ := ok.cell i _ e
    cases hv with
    | dic a b => exact ⟨_, _, _, e1, ok.sub _ _ a, b⟩
  · cases h
theorem Ok.dictOwn {K : PySem.W.Frag} {C : Ctx} {G H : Hp} {σ : L2.St} {r : Ev} {i : Nat} {kds : List (D × D)} (ok : Ok K C G H σ r) (h : dictOwn i r = some kds) : ∃ p o ks, σ[i]? = some (some (.ref p)) ∧ G p = none ∧ H p = some (DicO p o ks) ∧ DpKs K G ks kds ∧
    ∀ o' ks' kds', DpKs K G ks' kds' → Ok K C G (upd H p (DicO p o' ks')) σ (r.set i (some (.ownD kds'))) := by
  unfold SL.dictOwn at h
  split at h
  · rename_i k e
    cases h
    obtain ⟨v, e1, p, o, ks, rfl, h1, h2, h3, h4⟩ := ok.cell i _ e
    exact ⟨p, o, ks, e1, h2, h3, h4, fun o' ks' kds' hk => ok.write e rfl e1 h2 h3 (.inl h1.1) ⟨p, o', ks', rfl, h1, h2, upd_same, hk⟩ rfl⟩
  · cases h
/-! ### operations -/
section
variable {X : Cx} {pins : List (Addr × Obj)} {σ : L2.St} {H : Hp} {s : Shared} {A : Around} {E : Value → Shared → Prop}
/-- p holds these entries -/
def IsDic (K : PySem.W.Frag) (G H : Hp) (p : Addr) (kds : List (D × D)) : Prop := ∃ o ks, H p = some (DicO p o ks) ∧ DpKs K G ks kds
theorem nroom (hu : A.units + 100 < cLine) : (nestedKind X.prog X.w).room A.in1 := by show A.in1.units + 8 < cLine; rw [Around.in1_units]; omega
theorem q_getOr {p b : Addr} {kds : List (D × D)} {kd vd : D} {k : NestedKey} {v : V} {w : Value} {Q : Value → Shared → Prop} (hu : A.units + 100 < cLine) (I : Inv X pins σ H s) {G : Hp} (sg : Same G H) (h : IsDic X.K G H p kds) (hk : Dp X.K G (.ref b) kd) (e : nkey kd = some k) (hv : Dp X.K G v vd) (rv : RelV v w)
    (q : ∀ v w' s', Inv X pins σ H s' → RelV v w' → Dp X.K G v ((dFind kds kd).getD vd) → Q w' s') : wpAny (model X.prog X.w) A (call (.builtin "dict.get") [.ref p, .ref b, w]) Q E s := by
  obtain ⟨o, ks, h1, h2⟩ := h
  obtain ⟨g, hz, hm, _⟩ := DicO.at I h1
  obtain ⟨xs, pr, hx⟩ := dic_of I h1 (DpKs.mono sg h2)
  refine call_meetsIn PySem.F.slot_dict_get hx.typeIs PySem.F.entry_dict_get (PySem.F.args_dict_get_3 _ _ _) (meetsH_dict_get_default (nestedKind X.prog X.w) p b hm w) ⟨nroom hu, k, xs, nk_is I (Dp.mono sg hk) e, hx, ?_⟩
  rcases DpKs.find e h2 pr with ⟨f1, f2⟩ | ⟨vd', v', a', u', f1, f2, f3, f4⟩
  · rw [f2]
    exact q v w _ (I.tok _) rv (by rw [f1]; exact hv)
  · rw [f3]
    exact q v' u' _ (I.tok _) f4 (by rw [f1]; exact f2)
theorem dic_back {P : Program} {w : World} {p : Addr} {h' : Heap} {ks : List KE3} {kds : List (D × D)} {xs : List (NestedKey × Addr × Value)} {K : PySem.W.Frag} {G : Hp} (hk : DpKs K G ks kds) (pr : Paired E3 ks xs) (hx : h'.DictOfH (nestedKind P w) p xs) (hz : ks.length ≤ sizeLine) (hm : (p == sysModules) = false) :
    ∃ o, h'.get? p = some o ∧ DicS p o ks := by
  obtain ⟨o, es, ep, g, ex, hd, he, _, hn⟩ := hx
  exact ⟨o, g, hz, hm, xs, es, ep, pr, ex, hd, by rw [he]; exact (ents w hk pr).symm, hn⟩
theorem dic_ok {P : Program} {w : World} {p : Addr} {h' : Heap} {o : Obj} {ks : List KE3} (g : h'.get? p = some o) (ds : DicS p o ks) : ObjOk P w H h' p (DicO p o ks) :=
  ⟨⟨g, ds⟩, ⟨o, g⟩, fun h1 h2 f k => ⟨k _ f.1, f.2⟩⟩
theorem q_setItem {p b : Addr} {o : Obj} {ks : List KE3} {G : Hp} {kds : List (D × D)} {kd vd : D} {k : NestedKey} {v : V} {u : Value} {Q : Unit → Shared → Prop} (hu : A.units + 100 < cLine) (I : Inv X pins σ H s) (h1 : H p = some (DicO p o ks)) (sg : Same G H) (h2 : DpKs X.K G ks kds) (hk : Dp X.K G (.ref b) kd) (e : nkey kd = some k) (hv : Dp X.K G v vd) (rv : RelV v u)
    (hl : kds.length < sizeLine) (q : ∀ o' ks' s', DpKs X.K G ks' (dPut kds kd vd) → Inv X pins σ (upd H p (DicO p o' ks')) s' → Q () s') : wpAny (model X.prog X.w) A (setItem (.ref p) (.ref b) u) Q E s := by
  obtain ⟨g, hz, hm, _⟩ := DicO.at I h1
  obtain ⟨xs, pr, hx⟩ := dic_of I h1 (DpKs.mono sg h2)
  have lx : ks.length = xs.length := Paired.length pr
  refine wpAny_setItem_heap (hsz := by omega) (nroom hu) (nk_is I (Dp.mono sg hk) e) hx fun h' hx' hs => ?_
  obtain ⟨ks', d1, d2⟩ := DpKs.put e hk hv rv h2 pr
  have lk := DpKs.length d1
  have lp := dPut_len kds kd vd
  obtain ⟨o', g', ds'⟩ := dic_back d1 d2 hx' (by omega) hm
  refine q o' ks' _ d1 ?_
  exact I.write (x := p) (e := p) (by rw [h1]; exact True.intro) (.inl rfl) (fun b' q' hb z => (hs.2 b' hb).trans z) ⟨o', g'⟩ (dic_ok g' ds')
end
end SL
/-! Expressions and statements over dicts. -/
namespace SL
open PySem PySem.Spec PyProof.Rows L2
variable [TBL]
/-- what an expression leaves behind -/
def Got (K : PySem.W.Frag) (C : Ctx) (σ : L2.St) (G H : Hp) (p : Bool) (d : D) (r' : Ev) (v : V) (H1 : Hp) : Prop := ∃ G1, Ok K C G1 H1 σ r' ∧ Same G G1 ∧ (p = true → Same H H1) ∧ Dp K G1 v d
section
variable {X : Cx} {e a b : Expr} {es : List Expr} {f fa fb fk fx : FE} {g : FA} {p q : Bool} {pos pp py : Pos} {y : Str}
theorem se_got (h : SE X p e f) {pins : List (Addr × Obj)} {s : Shared} {σ : L2.St} {C : Ctx} {G H : Hp} {r r' : Ev} {d : D} (I : Inv X pins σ H s) (ok : Ok X.K C G H σ r) (hf : f r = some (d, r')) :
    wpAny (model X.prog X.w) X.A (eval e X.env) (EP X pins σ (Got X.K C σ G H p d r')) X.xe s :=
  h.run pins s σ H _ I ⟨C, G, r, d, r', ok, hf, fun v G' H' o' s' m x => ⟨G', o', s', m, x⟩⟩
/-- a tuple that is a key -/
def tkey (d : D) : Option NestedKey := match d with
  | .tuple ds => nkey (.tuple ds)
  | _ => none
theorem tkey_ref {K : PySem.W.Frag} {G : Hp} {d : D} {k : NestedKey} {v : V} (h : tkey d = some k) (x : Dp K G v d) : ∃ b, v = .ref b ∧ nkey d = some k := by
  unfold tkey at h
  split at h
  · obtain ⟨b, e⟩ := key_ref x rfl
    exact ⟨b, e, h⟩
  · cases h
/-- d[k] -/
def fDget (i : Nat) (fk : FE) : FE := fun r => (dictAt i r).bind fun _ => (fk r).bind fun x => (dictAt i x.2).bind fun kds => (tkey x.1).bind fun _ => (dFind kds x.1).map fun d => (d, x.2)
@[simp] theorem fDget_r (i : Nat) (fk : FE) (r : Ev) : fDget i fk r = (dictAt i r).bind fun _ => (fk r).bind fun x => (dictAt i x.2).bind fun kds => (tkey x.1).bind fun _ => (dFind kds x.1).map fun d => (d, x.2) := rfl
/-- k in d -/
def fDin (neg : Bool) (i : Nat) (fk : FE) : FE := fun r => (fk r).bind fun x => (dictAt i x.2).bind fun kds => (tkey x.1).map fun _ => (.bool (neg != (dFind kds x.1).isSome), x.2)
@[simp] theorem fDin_r (neg : Bool) (i : Nat) (fk : FE) (r : Ev) : fDin neg i fk r = (fk r).bind fun x => (dictAt i x.2).bind fun kds => (tkey x.1).map fun _ => (.bool (neg != (dFind kds x.1).isSome), x.2) := rfl
def tDin (K : PySem.W.Frag) (p : Bool) (neg : Bool) (i : Nat) (fk : FE) : TE := tE K p (fDin neg i fk)
/-- d.get(k, x) -/
def fDgetOr (i : Nat) (fk fx : FE) : FE := fun r => (dictAt i r).bind fun _ => (fk r).bind fun x => (fx x.2).bind fun y => (dictAt i y.2).bind fun kds => (tkey x.1).map fun _ => ((dFind kds x.1).getD y.1, y.2)
@[simp] theorem fDgetOr_r (i : Nat) (fk fx : FE) (r : Ev) : fDgetOr i fk fx r = (dictAt i r).bind fun _ => (fk r).bind fun x => (fx x.2).bind fun y => (dictAt i y.2).bind fun kds => (tkey x.1).map fun _ => ((dFind kds x.1).getD y.1, y.2) := rfl
theorem se_dgetOr {apos cpos : Pos} (pl : Pl X) (i : Nat) (hk : SE X p a fk) (hx : SE X q b fx) (hN : X.N[i]? = some y := by rfl) (hv : Vis X.env.scope y := by first | exact Or.inl rfl | exact Or.inr (Or.inl rfl) | exact Or.inr (Or.inr rfl)) (hd : (y == ("__debug__" : Str)) = false := by decide)
    (hcd : (y == ("__classdict__" : Str)) = false := by decide) (m : M2 X (.Name y py) "get" apos a b cpos := by exact ⟨rfl, rfl, rfl, rfl⟩) : SE X (p && q) (.Call (.Attribute (.Name y py) "get" apos) [a, b] [] cpos) (fDgetOr i fk fx) := ⟨fun pins s σ H Q I ⟨C, G, r, d, r', ok, hf, kk⟩ => by
  unfold fDgetOr at hf
  obtain ⟨kds0, h0, hf⟩ := Option.bind_eq_some_iff.mp hf
  obtain ⟨⟨x, r1⟩, h1, hf⟩ := Option.bind_eq_some_iff.mp hf
  obtain ⟨⟨z, r2⟩, hz, hf⟩ := Option.bind_eq_some_iff.mp hf
  obtain ⟨kds, h2, hf⟩ := Option.bind_eq_some_iff.mp hf
  obtain ⟨k, h3, h5⟩ := Option.map_eq_some_iff.mp hf
  cases h5
  obtain ⟨l, o0, ks0, e1, e0, _⟩ := ok.dictAt h0
  refine wpAny_Call_method m.base m.few m.line PySem.F.plainAttrs_dict PySem.F.slot_dict_get PySem.F.type_dict_get (thn ((pe_var hN hv hd hcd).run pins s σ H (fun x H1 => x = .ref l ∧ H1 = H) I ⟨_, e1, rfl, rfl⟩) fun u s1 ⟨x', H1, I1, rx, ex, eH⟩ => ?_)
  subst ex eH
  obtain rfl : u = Value.ref l := rx
  obtain ⟨g, _, _, _, _, _, _, ed, _⟩ := DicO.at I1 e0
  refine ⟨⟨o0, g, ed.1⟩, fun b' q' => by cases q'; exact ⟨o0, g, ed.2.1⟩, ?_⟩
  rw [m.trees]
  refine Calls.callWith_builtin rfl (Calls.evalArgs_plain (Calls.spliced_cons (thn (se_got hk I1 ok h1) fun iv s2 ⟨v, H2, I2, ry, G2, o2, s2', m2, x2⟩ =>
    Calls.spliced_cons (thn (se_got hx I2 o2 hz) fun fv s3 ⟨v3, H3, I3, rz, G3, o3, s3', m3, x3⟩ => Calls.spliced_nil ?_))))
  obtain ⟨l', o, ks, e2, h6, h7⟩ := o3.dictAt h2
  rw [e1] at e2; cases e2
  obtain ⟨b', rfl, e3⟩ := tkey_ref h3 x2
  obtain rfl : iv = Value.ref b' := ry
  exact q_getOr pl.units I3 o3.sub ⟨o, ks, h6, h7⟩ (Dp.mono s3' x2) e3 x3 rz fun v' w' s4 I4 r4 x4 => ⟨v', H3, I4, r4, kk v' G3 H3 o3 (s2'.trans s3') (fun mm => (m2 (and1 mm)).trans (m3 (and2 mm))) x4⟩⟩
/-- d[k] = e -/
def sDput (i : Nat) (fk f : FE) : FS := fun r => (f r).bind fun y => (dictOwn i y.2).bind fun _ => (fk y.2).bind fun x => (dictOwn i x.2).bind fun kds => (tkey x.1).bind fun _ => if kds.length < sizeLine then some (.nx (x.2.set i (some (.ownD (dPut kds x.1 y.1))))) else none
@[simp] theorem sDput_r (i : Nat) (fk f : FE) (r : Ev) : sDput i fk f r = (f r).bind fun y => (dictOwn i y.2).bind fun _ => (fk y.2).bind fun x => (dictOwn i x.2).bind fun kds => (tkey x.1).bind fun _ => if kds.length < sizeLine then some (.nx (x.2.set i (some (.ownD (dPut kds x.1 y.1))))) else none := rfl
theorem ss_dput {pos' : Pos} (pl : Pl X) (i : Nat) (he : SE X p e f) (hk : SE X q a fk) (hN : X.N[i]? = some y := by rfl) (hv : Vis X.env.scope y := by first | exact Or.inl rfl | exact Or.inr (Or.inl rfl) | exact Or.inr (Or.inr rfl)) (hd : (y == ("__debug__" : Str)) = false := by decide)
    (hcd : (y == ("__classdict__" : Str)) = false := by decide) (hs : swapsWith e (some (.Subscript (.Name y py) a pos')) pos.line X.env = pure false := by rfl) : SS X (.Assign [.Subscript (.Name y py) a pos'] e pos) (sDput i fk f) := ⟨fun pins s σ H E I ⟨C, G, r, oo, ok, hf, kk⟩ => by
  unfold sDput at hf
  obtain ⟨⟨yd, r1⟩, h1, hf⟩ := Option.bind_eq_some_iff.mp hf
  obtain ⟨kds0, h0, hf⟩ := Option.bind_eq_some_iff.mp hf
  obtain ⟨⟨x, r2⟩, h2, hf⟩ := Option.bind_eq_some_iff.mp hf
  obtain ⟨kds, h3, hf⟩ := Option.bind_eq_some_iff.mp hf
  obtain ⟨k, h4, hf⟩ := Option.bind_eq_some_iff.mp hf
  split at hf
  · rename_i hl
    cases hf
    refine wpAny_Assign_Subscript (thn (se_got he I ok h1) fun ev s1 ⟨v1, H1, I1, rv, G1, o1, s1', m1, x1⟩ => ?_) hs
    obtain ⟨l, ob0, ks0, e1, _⟩ := o1.dictOwn h0
    refine thn ((pe_var hN hv hd hcd).run pins s1 σ H1 (fun x H2 => x = .ref l ∧ H2 = H1) I1 ⟨_, e1, rfl, rfl⟩) fun u s2 ⟨x', H2, I2, rx, ex, eH⟩ => ?_
    subst ex eH
    obtain rfl : u = Value.ref l := rx
    refine thn (se_got hk I2 o1 h2) fun iv s3 ⟨v3, H3, I3, ry, G3, o3, s3', m3, x3⟩ => ?_
    obtain ⟨l', ob, ks, e2, hg, h6, h7, put⟩ := o3.dictOwn h3
    rw [e1] at e2; cases e2
    obtain ⟨b', rfl, e3⟩ := tkey_ref h4 x3
    obtain rfl : iv = Value.ref b' := ry
    exact q_setItem pl.units I3 h6 o3.sub h7 x3 e3 (Dp.mono s3' x1) rv hl fun o' ks' s4 d4 I4 => ⟨σ, _, I4, kk σ G3 _ (put o' ks' _ d4) (s1'.trans s3')⟩
  · cases hf⟩
/-! ### new dicts -/
abbrev FDc := Ev → Option (List (D × D) × Ev)
def tDc (K : PySem.W.Frag) (pu : Bool) (f : FDc) : TE := fun σ H Q => ∃ C G r d r', Ok K C G H σ r ∧ f r = some (d, r') ∧
  ∀ p o ks G' H', Ok K C G' H' σ r' → Same G G' → (pu = true → Same H H') → NewX K C G' H' σ r' p (DicO p o ks) → DpKs K G' ks d → Q (.ref p) H'
abbrev SDc (X : Cx) (pu : Bool) (e : Expr) (f : FDc) : Prop := PE X e (tDc X.K pu f)
def fDc (g : FDc) : FE := fun r => (g r).map fun p => (.dict p.1, p.2)
@[simp] theorem fDc_r (g : FDc) (r : Ev) : fDc g r = (g r).map fun p => (.dict p.1, p.2) := rfl
def sSetD (i : Nat) (g : FDc) : FS := fun r => (g r).map fun x => .nx (x.2.set i (some (.ownD x.1)))
@[simp] theorem sSetD_r (i : Nat) (g : FDc) (r : Ev) : sSetD i g r = (g r).map fun x => .nx (x.2.set i (some (.ownD x.1))) := rfl
theorem Ok.setD {K : PySem.W.Frag} {C : Ctx} {G H : Hp} {σ : L2.St} {r : Ev} {i : Nat} {pp : Addr} {o : Obj} {ks : List KE3} {kds : List (D × D)} (ok : Ok K C G H σ r) (n : NewX K C G H σ r pp (DicO pp o ks)) (h : DpKs K G ks kds) : Ok K C G H (σ.set i (some (.ref pp))) (r.set i (some (.ownD kds))) :=
  ok.set (c := .ownD kds) ⟨pp, o, ks, rfl, ⟨n.1, n.2.1⟩, n.2.2.1, n.2.2.2.1, h⟩ fun _ j c' e o _ => n.2.2.2.2 j c' e o
theorem ss_setD {i : Nat} {gd : FDc} {x : Str} {px : Pos} (hN : X.N.Nodup) (hi : X.N[i]? = some x) (hx : Loc X.env.scope x) (he : SDc X p e gd) (hf : X.fn x = true ∨ X.env.scope.names.lookup x = some .local := by first | exact .inl rfl | exact .inr rfl | assumption) (hs : swapsWith e (some (.Name x px)) pos.line X.env = pure false := by rfl) :
    SS X (.Assign [.Name x px] e pos) (sSetD i gd) := PS.weak (ps_set hN hi hx he hs hf) fun E σ H ⟨C, G, r, o, ok, hf, k⟩ => by
  unfold sSetD at hf
  obtain ⟨⟨d, r1⟩, h1, h2⟩ := Option.map_eq_some_iff.mp hf
  cases h2
  exact ⟨C, G, r, d, r1, ok, h1, fun l ob ks G' H' o' s m n x => k _ G' H' (o'.setD n x) s⟩
theorem dicS_nil {a : Addr} (h : (a == sysModules) = false) : DicS a { cls := .type "dict", data := .dict #[] } [] := ⟨Nat.zero_le _, h, [], #[], 0, .nil, ⟨rfl, rfl, rfl⟩, rfl, rfl, List.nodup_nil⟩
/-- {} -/
def dNil : FDc := fun r => some ([], r)
@[simp] theorem dNil_r (r : Ev) : dNil r = some ([], r) := rfl
theorem sd_nil : SDc X true (.Dict [] [] pos) dNil := ⟨fun pins s σ H Q I ⟨C, G, r, d, r', ok, hf, kk⟩ => by
  cases hf
  have hn := I.hok.fresh (Nat.le_refl s.heap.objs.size)
  have hm : (s.heap.objs.size == sysModules) = false := beq_eq_false_iff_ne.mpr (Ne.symm (Nat.ne_of_lt I.big))
  obtain ⟨o1, n1⟩ := ok.newX (o := DicO s.heap.objs.size { cls := .type "dict", data := .dict #[] } []) hn
  exact wpAny_Dict_empty ⟨.ref s.heap.objs.size, _, I.laid (a := s.heap.objs.size) (o := DicO s.heap.objs.size { cls := .type "dict", data := .dict #[] } []) (t' := s.toks) (fun _ _ q => Heap.get?_push_of_some _ q) (Nat.le_refl _) (dic_ok (Heap.get?_push_size _ rfl) (dicS_nil hm)), rfl,
    kk _ _ _ G _ o1 (Same.refl _) (fun _ => same_laid hn) n1 .nil⟩⟩
/-- {k: v} -/
def dOne (fk f : FE) : FDc := fun r => (fk r).bind fun x => (f x.2).bind fun y => (tkey x.1).map fun _ => ([(x.1, y.1)], y.2)
@[simp] theorem dOne_r (fk f : FE) (r : Ev) : dOne fk f r = (fk r).bind fun x => (f x.2).bind fun y => (tkey x.1).map fun _ => ([(x.1, y.1)], y.2) := rfl
end
end SL
/-! Walks over dicts; a dict written with one pair. -/
namespace SL
open PySem PySem.Spec PyProof.Rows L2
variable [TBL]
section
variable {X : Cx} {e a b : Expr} {es : List Expr} {f fa fb fk fx : FE} {g : FA} {p q : Bool} {pos pp py : Pos} {y : Str}
theorem dict_pairsH {prog : Program} {w : World} {A : Around} {E : Value → Shared → Prop} {s : Shared} {env : PySem.Env} {keys : List (Option Expr)} {values : List Expr} {pairs : List (Sem Value × Sem Value)} {Q : Value → Shared → Prop} (hu : (nestedKind prog w).room A)
    (hshape : (evalEachOpt keys env).zip ((evalEach values env).map fun v => do let x ← v; standAt pos; pure x) = pairs.map fun p => (some p.1, p.2)) (h0 : pairs ≠ []) (hlen : pairs.length ≤ 15)
    (h : wpAny (model prog w) A (evalPairs pairs) (fun vs s₁ => ∃ ps, CarriesH (nestedKind prog w) s₁.heap vs ps ∧ s₁.heap.DictOfH (nestedKind prog w) s.heap.objs.size [] ∧
      ∀ h' tk, h'.DictOfH (nestedKind prog w) s.heap.objs.size (storedAllH [] ps) → Heap.SameBut s.heap.objs.size s₁.heap h' → Q (.ref s.heap.objs.size) { s₁ with heap := h', toks := tk }) E
      { s with heap := s.heap.push { cls := .type "dict", data := .dict #[] } }) :
    wpAny (model prog w) A (eval (.Dict keys values pos) env) Q E s := by
  rw [arm_eval_Dict, hshape, dictDisplay_pairs pairs h0 (by omega)]
  exact wpAny_bind (wpAny_standAt (wpAny_bind (wpAny_subDictH (knd := nestedKind prog w) (Q := fun d s' => wpAny (model prog w) A (pure (Value.ref d)) Q E s') hu hlen
    (wpAny_mono h (fun vs s₁ h₁ => by obtain ⟨ps, hc, hm, hq⟩ := h₁; exact ⟨ps, hc, hm, fun h' tk a b => wpAny_pure (hq h' tk a b)⟩) fun _ _ e => e))))
theorem sd_one (pl : Pl X) (hk : SE X p a fk) (hv : SE X q b f) : SDc X (p && q) (.Dict [some a] [b] pos) (dOne fk f) := ⟨fun pins s σ H Q I ⟨C, G, r, d, r', ok, hf, kk⟩ => by
  unfold dOne at hf
  obtain ⟨⟨x, r1⟩, h1, hf⟩ := Option.bind_eq_some_iff.mp hf
  obtain ⟨⟨z, r2⟩, h2, hf⟩ := Option.bind_eq_some_iff.mp hf
  obtain ⟨k, h3, h5⟩ := Option.map_eq_some_iff.mp hf
  cases h5
  have hn := I.hok.fresh (Nat.le_refl s.heap.objs.size)
  have hm : (s.heap.objs.size == sysModules) = false := beq_eq_false_iff_ne.mpr (Ne.symm (Nat.ne_of_lt I.big))
  obtain ⟨o1, n1⟩ := ok.newX (o := DicO s.heap.objs.size { cls := .type "dict", data := .dict #[] } []) hn
  have I1 := I.laid (a := s.heap.objs.size) (o := DicO s.heap.objs.size { cls := .type "dict", data := .dict #[] } []) (t' := s.toks) (fun _ _ q => Heap.get?_push_of_some _ q) (Nat.le_refl _) (dic_ok (Heap.get?_push_size _ rfl) (dicS_nil hm))
  have f0 : C.G0 s.heap.objs.size = none := by
    cases z : C.G0 s.heap.objs.size with
    | none => rfl
    | some u => rw [ok.sub _ _ (ok.g0 _ _ z)] at hn; cases hn
  have oh := o1.holdX n1
  refine dict_pairsH (pairs := [(eval a X.env, do let x ← eval b X.env; standAt pos; pure x)]) (by show X.A.units + 8 < cLine; have := pl.units; omega) (by rfl) (by intro z; cases z) (by rw [List.length_singleton]; decide) ?_
  refine evalPairs_cons (thn (se_got hk I1 oh h1) fun u s1 ⟨v, H1, I2, ru, G1, o2, s1', m1, x1⟩ => wpAny_bind (thn (se_got hv I2 o2 h2) fun w2 s2 ⟨v2, H2, I3, rw2, G2, o3, s2', m2, x2⟩ => wpAny_bind (wpAny_standAt (wpAny_pure (evalPairs_nil ?_)))))
  obtain ⟨bb, rfl, e3⟩ := tkey_ref h3 x1
  obtain rfl : u = Value.ref bb := ru
  obtain ⟨o4, n4⟩ := o3.unholdX n1.1 n1.2.1 f0
  have kx := nk_is I3 (Dp.mono (s2'.trans o3.sub) x1) e3
  obtain ⟨xs, pr, hx⟩ := dic_of I3 n4.2.2.2.1 DpKs.nil
  cases pr
  refine ⟨[(k, bb, w2)], ⟨rfl, rfl, kx, trivial⟩, hx, fun h' tk hx' hs => ?_⟩
  have dk : DpKs X.K G2 [(k, bb, v2)] [(x, z)] := .cons e3 (Dp.mono s2' x1) x2 .nil
  obtain ⟨ob, g', ds'⟩ := dic_back dk (Paired.cons ⟨rfl, rfl, rw2⟩ .nil) hx' (by show 1 ≤ sizeLine; decide) hm
  have mu : Mut (H2 s.heap.objs.size) := by rw [n4.2.2.2.1]; exact True.intro
  have I5 := I3.write (x := s.heap.objs.size) (e := s.heap.objs.size) (t' := tk) mu (.inl rfl) (fun b' q' hb z => (hs.2 b' hb).trans z) ⟨ob, g'⟩ (dic_ok g' ds')
  obtain ⟨o6, n6⟩ := n4.grow o4 (ho' := DicO s.heap.objs.size ob [(k, bb, v2)])
  exact ⟨.ref s.heap.objs.size, _, I5, rfl, kk _ _ _ G2 _ o6 (s1'.trans s2') (fun mm => by
    intro a' u' e'
    have ne : a' ≠ s.heap.objs.size := ne_of_none e' hn
    rw [upd_ne ne]
    exact (m2 (and2 mm)) _ _ ((m1 (and1 mm)) _ _ (by rw [upd_ne ne]; exact e'))) n6 dk⟩⟩
end
end SL
/-! Walks over dicts: keys, items; over one's own dict. -/
namespace SL
open PySem PySem.Spec PyProof.Rows L2
variable [TBL]
def Itq (p : Addr) (o : Obj) (ks : List KE3) : It :=
  ⟨fun i H => H p = some (DicO p o ks) ∧ i < ks.length, fun i H x H' => H' = H ∧ ∃ k a v, ks[i]? = some (k, a, v) ∧ x = .ref a, fun i H => H p = some (DicO p o ks) ∧ ks.length ≤ i⟩
def Itqi (p : Addr) (o : Obj) (ks : List KE3) : It :=
  ⟨fun i H => H p = some (DicO p o ks) ∧ i < ks.length, fun i H x H' => ∃ T k a v, ks[i]? = some (k, a, v) ∧ x = .ref T ∧ H T = none ∧ H' = upd H T (.tup [.ref a, v]), fun i H => H p = some (DicO p o ks) ∧ ks.length ≤ i⟩
theorem e3_nth {ks : List KE3} {xs : List (NestedKey × Addr × Value)} (pr : Paired E3 ks xs) : ∀ (i : Nat) (h : i < ks.length) (h' : i < xs.length), E3 ks[i] xs[i] := by
  induction pr with
  | nil => exact fun i h => absurd h (Nat.not_lt_zero _)
  | cons r _ ih =>
    rintro (_ | j) h h'
    · exact r
    · exact ih j (Nat.lt_of_succ_lt_succ h) (Nat.lt_of_succ_lt_succ h')
/-- the entries of a dict of ours, by place -/
theorem dic_at {p : Addr} {o : Obj} {ks : List KE3} {es : Array DictEntry} {ep : Nat} (h : DicS p o ks) (hd : o.data = .dict es ep) : es.size = ks.length ∧ ∀ (i : Nat) (hi : i < es.size), ∃ k a v, ks[i]? = some (k, a, v) ∧ es[i].key = Value.ref a ∧ RelV v es[i].val := by
  obtain ⟨_, _, xs, es', ep', pr, rest⟩ := h
  obtain ⟨hd', he⟩ := rest.2
  cases hd.symm.trans hd'
  replace he := he.1
  clear rest
  have hz : es.size = xs.length := by simpa using congrArg List.length he
  refine ⟨hz.trans (Paired.length pr).symm, fun i hi => ?_⟩
  have hx : i < xs.length := hz ▸ hi
  have hk : i < ks.length := by rw [Paired.length pr]; exact hx
  have key : E3 ks[i] xs[i] := e3_nth pr i hk hx
  have en : es[i] = entry0 xs[i] := by
    have q := congrArg (fun l => l[i]?) he
    simpa [hi, hx] using q
  refine ⟨ks[i].1, ks[i].2.1, ks[i].2.2, List.getElem?_eq_getElem hk, ?_, ?_⟩
  · rw [en, key.2.1]; rfl
  · rw [en]; exact key.2.2
section
variable {P : Program} {w : World} {K : PySem.W.Frag} {tg : Expr} {d : Addr} {o : Obj} {es : Array DictEntry} {ep : Nat}
/-- a walk that the library tells as GoesN, over one record I, serves here; B is what stands still outside the record -/
theorem turn_of {J : It} {I : Addr} {fp : List Addr} {n : Nat} {Y : Nat → Heap → Value → Heap → Prop} {U : Nat → Heap → Prop} {B : Heap → Prop}
    (held : ∀ i h, U i h → ∃ r, h.get? I = some r ∧ (∀ v, r.data ≠ .cell v) ∧ ∀ h', h'.get? I = some r → U i h')
    (own : ∀ (A : Around) i (s : Shared) (Q E : Value → Shared → Prop), U i s.heap → Q (.ref I) s → wpAny (model P w) A (pyIter (.ref I)) Q E s)
    (G : ∀ A : Around, A.handled = none → GoesN P w A tg I fp [I] n Y (fun i h => U i h ∧ B h))
    (there : ∀ {X : Cx} {pins σ H s}, Inv X pins σ H s → ∀ i, (J.go i H → i < n ∧ B s.heap) ∧ (J.stop i H → n ≤ i ∧ B s.heap))
    (gives : ∀ {X : Cx} {pins σ H s}, X.prog = P → X.w = w → Inv X pins σ H s → FpOk X pins H I → ∀ i v h' tk, J.go i H → Y i s.heap v h' → U (i + 1) h' → (∀ b r, b ∉ [I] → s.heap.get? b = some r → h'.get? b = some r) →
      ∃ x H', Inv X pins σ H' { s with heap := h', toks := tk } ∧ RelV x v ∧ J.yld i H x H' ∧ H' I = none) :
    Turn P w K tg J [I] I (fun i h => i ≤ n ∧ U i h) := by
  constructor
  case mem => exact List.mem_singleton.mpr rfl
  case obj =>
    rintro i h ⟨_, u⟩ b hb
    cases List.mem_singleton.mp hb
    exact (held i h u).imp fun r q => ⟨q.1, q.2.1⟩
  case keep =>
    rintro i h h' ⟨le, u⟩ k
    obtain ⟨r, q1, _, q3⟩ := held i h u
    exact ⟨le, q3 h' (k I (List.mem_singleton.mpr rfl) r q1)⟩
  case self => exact fun A i s Q E u q => own A i s Q E u.2 q
  case item =>
    intro X eP eW _ hc i pins s σ H E iv fo ⟨_, u⟩ g
    obtain ⟨lt, bs⟩ := (there iv i).1 g
    refine (G X.A (iv.ok.hd hc)).goes i s _ E lt ⟨u, bs⟩ fun v h' tk y st kp _ => ?_
    obtain ⟨x, H', a1, a2, a3, a4⟩ := gives eP eW iv (fo I (List.mem_singleton.mpr rfl)) i v h' tk g y st.1 kp
    exact ⟨x, H', a1, a2, a3, ⟨lt, st.1⟩, fun b hb => by cases List.mem_singleton.mp hb; exact a4⟩
  case done =>
    intro X _ _ _ hc i pins s σ H E iv fo ⟨le, u⟩ g
    obtain ⟨ge, bs⟩ := (there iv i).2 g
    cases Nat.le_antisymm le ge
    exact (G X.A (iv.ok.hd hc)).stops s _ E ⟨u, bs⟩ fun h' tk kp _ => iv.turnedL kp fo
theorem raw_there {X : Cx} {pins σ H s} {ks : List KE3} (hod : o.data = .dict es ep) (iv : Inv X pins σ H s) (h : H d = some (DicO d o ks)) : s.heap.DictRaw d es ep ∧ es.size = ks.length ∧ ∀ (i : Nat) (hi : i < es.size), ∃ k a v, ks[i]? = some (k, a, v) ∧ es[i].key = Value.ref a ∧ RelV v es[i].val := by
  obtain ⟨at1, sh⟩ := DicO.at iv h
  have ents := dic_at sh hod
  obtain ⟨_, _, _, _, _, _, ex, _⟩ := sh
  exact ⟨⟨o, at1, ex, hod⟩, ents⟩
theorem turn_qitems {ks : List KE3} {elts : List Expr} {kk : Nat} {tpos : Pos} {it : Addr} (hne : d ≠ it) (hod : o.data = .dict es ep) :
    Turn P w K (.Tuple elts kk tpos) (Itqi d o ks) [it] it (fun i h => i ≤ es.size ∧ ∃ ok ov, IsItemIter h it d i es.size ep ok ov) := by
  refine turn_of (B := fun h => h.DictRaw d es ep) ?_ (fun A i s Q E u q => wpAny_pyIter_itemiter u.choose_spec.choose_spec q) (fun A hh => GoesN.rawItems hh it d hne es ep) ?_ ?_
  · rintro i h ⟨ok, ov, r⟩
    exact ⟨_, r, fun v => nofun, fun h' q => ⟨ok, ov, q⟩⟩
  · intro X pins σ H s iv i
    exact ⟨fun g => let z := raw_there hod iv g.1; ⟨z.2.1 ▸ g.2, z.1⟩, fun g => let z := raw_there hod iv g.1; ⟨z.2.1 ▸ g.2, z.1⟩⟩
  · rintro X pins σ H s rfl rfl iv fo i v h' tk g ⟨T, hi, rfl, hT, r, q1, q2, cp, q3⟩ ⟨ok, ov, nx⟩ kp
    obtain ⟨k, a, u, e1, e2, e3⟩ := (raw_there hod iv g.1).2.2 i hi
    have fr : H T = none := iv.hok.fresh hT
    have fo' : ∀ b ∈ [it], FpOk X pins H b := fun b hb => by cases List.mem_singleton.mp hb; exact fo
    refine ⟨.ref T, _, iv.turnedNew (ob := .tup [.ref a, u]) kp fo' hT ⟨(show 2 ≤ sizeLine by decide), [es[i].key, es[i].val], .cons e2 (.cons e3 .nil), ⟨r, q1, q2, cp, q3⟩⟩, rfl, ⟨T, k, a, u, e1, rfl, fr, rfl⟩, ?_⟩
    by_cases z : it = T
    · subst z
      cases Option.some.inj (nx.symm.trans q1)
      exact absurd q2 (by simp)
    · rw [upd_ne z]; exact fo.1
end
theorem dicS_obj {p : Addr} {o : Obj} {ks : List KE3} (h : DicS p o ks) : o.ExactDict ∧ (p == sysModules) = false ∧ ∃ es ep, o.data = .dict es ep := by
  obtain ⟨_, hm, xs, es, ep, _, ex, hd, _⟩ := h
  exact ⟨ex, hm, es, ep, hd⟩
section
variable {X : Cx} {tg e : Expr} {td : TE} {apos cpos : Pos}
def iQKeys (td : TE) : TI := fun σ H R => td σ H fun x H1 => ∃ d o ks, x = .ref d ∧ H1 d = some (DicO d o ks) ∧ R (Itq d o ks) H1
def iQItems (td : TE) : TI := fun σ H R => td σ H fun x H1 => ∃ d o ks, x = .ref d ∧ H1 d = some (DicO d o ks) ∧ R (Itqi d o ks) H1
theorem pi_qitems {elts : List Expr} {kk : Nat} {tpos : Pos} (he : PE X e td) (hbase : attributeBase e "items" X.env (eval e X.env) = eval e X.env := by rfl) (hline : (apos.endLine == cpos.line) = true := by rfl) :
    PI X (.Tuple elts kk tpos) (.Call (.Attribute e "items" apos) [] [] cpos) (iQItems td) := by
  constructor
  intro pins s σ H R iv h
  refine wpAny_Call_method (T := "dict") (id := "dict.items") hbase rfl hline F.plainAttrs_dict F.slot_dict_items F.type_dict_items (thn (he.run pins s σ H _ iv h) ?_)
  rintro _ s1 ⟨_, H1, iv1, rx, d, o, ks, rfl, hd, q⟩
  cases rx
  obtain ⟨at1, sh⟩ := DicO.at iv1 hd
  obtain ⟨ex, nm, es, ep, data⟩ := dicS_obj sh
  refine ⟨⟨o, at1, ex.1⟩, fun _ z => by cases z; exact ⟨o, at1, ex.2.1⟩, method_meetsIn F.slot_dict_items F.entry_dict_items rfl (PySem.evalArgs_none ⟨rfl, ⟨o, at1, ex.1⟩, F.args_dict_items_1 _, _, meets_dict_items_raw d nm, ⟨es, ep, o, at1, ex, data⟩, ?_⟩)⟩
  exact wpAny_pyIter_items_raw (d := d) ⟨_, Heap.get?_push_size _ rfl, rfl, rfl⟩ ⟨o, Heap.get?_push_of_some _ at1, ex, data⟩
    (pi_one (tk := s1.toks) (iv1.kept (t' := s1.toks) fun _ _ => Heap.get?_push_of_some _) _ (turn_qitems (Nat.ne_of_lt (Heap.lt_size (Heap.get?_push_of_some _ at1))) data) ⟨Nat.zero_le _, Value.none, Value.none, Heap.get?_push_size _ rfl⟩ q)
end
theorem DpKs.get {K : PySem.W.Frag} {G : Hp} : ∀ {ks : List KE3} {kds : List (D × D)} {i : Nat} {kd vd : D}, DpKs K G ks kds → kds[i]? = some (kd, vd) → ∃ k a v, ks[i]? = some (k, a, v) ∧ Dp K G (.ref a) kd ∧ Dp K G v vd
  | _, _, i, _, _, .nil, e => by simp at e
  | _, _, 0, _, _, .cons _ a b _, e => by simp at e; obtain ⟨rfl, rfl⟩ := e; exact ⟨_, _, _, rfl, a, b⟩
  | _, _, i + 1, _, _, .cons _ _ _ t, e => by
    obtain ⟨k, a, v, h1, h2⟩ := DpKs.get (i := i) t (by simpa using e)
    exact ⟨k, a, v, by simpa using h1, h2⟩
section
variable {K : PySem.W.Frag} {G H : Hp}
theorem turns_qitems {p : Addr} {o : Obj} {ks : List KE3} {kds : List (D × D)} (h1 : G p = some (DicO p o ks)) (h2 : DpKs K G ks kds) : Turns K (Itqi p o ks) (kds.map fun x => .tuple [x.1, x.2]) G := fun i G2 H2 s1 s2 => by
  have q : H2 p = some (DicO p o ks) := s2 _ _ (s1 _ _ h1)
  have hl := DpKs.length h2
  refine ⟨fun d e => ?_, fun h => ⟨q, by rw [List.length_map] at h; omega⟩⟩
  rw [List.getElem?_map] at e
  obtain ⟨⟨kd, vd⟩, e1, rfl⟩ := Option.map_eq_some_iff.mp e
  obtain ⟨k, a, v, e2, dk, dv⟩ := DpKs.get h2 e1
  refine ⟨⟨q, (List.getElem?_eq_some_iff.mp e2).1⟩, fun x H3 ⟨T, k', a', v', e3, ex, hT, eH⟩ => ?_⟩
  subst ex eH
  rw [e2] at e3
  cases e3
  exact new_tup s2 hT (.cons (Dp.mono s1 dk) (.cons (Dp.mono s1 dv) .nil))
end
@[simp] def dicD : D → Option (List (D × D))
  | .dict kds => some kds
  | _ => none
/-- for k in d, d a value -/
def iDKeys (f : FE) : FA := fun r => (f r).bind fun x => (dicD x.1).map fun kds => (kds.map (·.1), x.2)
@[simp] theorem iDKeys_r (f : FE) (r : Ev) : iDKeys f r = (f r).bind fun x => (dicD x.1).map fun kds => (kds.map (·.1), x.2) := rfl
def iDItems (f : FE) : FA := fun r => (f r).bind fun x => (dicD x.1).map fun kds => (kds.map (fun z => .tuple [z.1, z.2]), x.2)
@[simp] theorem iDItems_r (f : FE) (r : Ev) : iDItems f r = (f r).bind fun x => (dicD x.1).map fun kds => (kds.map (fun z => .tuple [z.1, z.2]), x.2) := rfl
section
variable {X : Cx} {tg e : Expr} {f : FE} {p : Bool} {apos cpos : Pos}
theorem dp_dict {K : PySem.W.Frag} {G : Hp} {v : V} {d : D} {kds : List (D × D)} (h : Dp K G v d) (e : dicD d = some kds) : ∃ a o ks, v = .ref a ∧ G a = some (DicO a o ks) ∧ DpKs K G ks kds := by
  cases h with
  | dic a b => cases e; exact ⟨_, _, _, rfl, a, b⟩
  | non => cases e
  | bl => cases e
  | int => cases e
  | str => cases e
  | lst => cases e
  | tup => cases e
theorem si_ditems {elts : List Expr} {kk : Nat} {tpos : Pos} (h : SE X p e f) (hbase : attributeBase e "items" X.env (eval e X.env) = eval e X.env := by rfl) (hline : (apos.endLine == cpos.line) = true := by rfl) :
    SI X (.Tuple elts kk tpos) (.Call (.Attribute e "items" apos) [] [] cpos) (iDItems f) := PI.weak (pi_qitems h hbase hline) fun σ H R ⟨C, G, r, ds, r', ok, hf, k⟩ => by
  unfold iDItems at hf
  obtain ⟨⟨d, r1⟩, h1, h2⟩ := Option.bind_eq_some_iff.mp hf
  obtain ⟨ds', h3, h4⟩ := Option.map_eq_some_iff.mp h2
  cases h4
  refine ⟨C, G, r, d, _, ok, h1, fun v G1 H1 o1 s1 m1 x1 => ?_⟩
  obtain ⟨a, o, ks, rfl, g1, g2⟩ := dp_dict x1 h3
  exact ⟨a, o, ks, rfl, o1.sub _ _ g1, k _ G1 H1 o1 s1 (turns_qitems g1 g2)⟩
end
/-! ### slots that are forgotten -/
theorem Ok.forget {K : PySem.W.Frag} {C : Ctx} {G H : Hp} {σ : L2.St} {r : Ev} (ok : Ok K C G H σ r) : ∀ J : List Nat, Ok K C G H σ (wipeE r J)
  | [] => ok
  | v :: vs => (Ok.forget ok vs).drop v
def srcW (J : List Nat) (src : FA) : FA := fun r => (src r).map fun x => (x.1, wipeE x.2 J)
@[simp] theorem srcW_r (J : List Nat) (src : FA) (r : Ev) : srcW J src r = (src r).map fun x => (x.1, wipeE x.2 J) := rfl
@[simp] def wipeO (J : List Nat) : Option Out → Option Out
  | some (.nx r) => some (.nx (wipeE r J))
  | some (.ct r) => some (.ct (wipeE r J))
  | some (.bk r) => some (.bk (wipeE r J))
  | o => o
def sW (J : List Nat) (F : FS) : FS := fun r => wipeO J (F r)
@[simp] theorem sW_r (J : List Nat) (F : FS) (r : Ev) : sW J F r = wipeO J (F r) := rfl
section
variable {X : Cx} {tg iter : Expr} {src : FA} {body : List Stmt} {F : FS}
theorem si_w (J : List Nat) (h : SI X tg iter src) : SI X tg iter (srcW J src) := PI.weak h fun σ H R ⟨C, G, r, ds, r', ok, hf, k⟩ => by
  unfold srcW at hf
  obtain ⟨⟨d, r1⟩, h1, h2⟩ := Option.map_eq_some_iff.mp hf
  cases h2
  exact ⟨C, G, r, _, r1, ok, h1, fun J' G' H' o s t => k J' G' H' (o.forget J) s t⟩
theorem ss_w (J : List Nat) (h : SSs X body F) : SSs X body (sW J F) := PSs.weak h fun E σ H ⟨C, G, r, o, ok, hf, k⟩ => by
  unfold sW at hf
  cases hF : F r with
  | none => rw [hF] at hf; cases hf
  | some o1 =>
    rw [hF] at hf
    refine ⟨C, G, r, o1, ok, hF, ?_⟩
    cases o1 with
    | nx r1 => cases hf; exact fun σ' G' H' ok' s => k σ' G' H' (ok'.forget J) s
    | bk r1 => cases hf; exact fun σ' G' H' ok' s => k σ' G' H' (ok'.forget J) s
    | ct r1 => cases hf; exact fun σ' G' H' ok' s => k σ' G' H' (ok'.forget J) s
    | rt d r1 => cases hf; exact k
    | rtO ds r1 => cases hf; exact k
    | rtN ds r1 => cases hf; exact k
/-- for, with the slots J forgotten ahead of each turn and behind the last one -/
def sForW (J : List Nat) (src : FA) (A : FG) (body : FS) : FS := sFor (srcW J src) A (sW J body)
theorem sForW_r (J : List Nat) (src : FA) (A : FG) (body : FS) (r : Ev) : sForW J src A body r = (src r).bind fun x => loopF A (sW J body) x.1 (wipeE x.2 J) := by
  unfold sForW sFor srcW
  cases src r with
  | none => rfl
  | some x => rfl
theorem ss_forW {A : FG} {L : List Nat} {pos : Pos} (J : List Nat) (hp : PassesOwn (model X.prog X.w) X.A X.env X.xe) (hc : X.calm = true) (hi : SI X tg iter src) (hg : SG X tg A L) (hb : SSs X body F)
    (hs : ∀ x, foldedSetIterable iter X.env x = pure x := by intro _; rfl) : SS X (.For tg iter body [] pos) (sForW J src A F) := ss_for hp hc (si_w J hi) hg (ss_w J hb) hs
/-! ### while -/
def whileF (t : FT) (F : FS) : Nat → FS
  | 0, _ => none
  | n + 1, r => (t r).bind fun x => if x.1 = true then (match F x.2 with
    | some (.nx r2) => whileF t F n r2
    | some (.ct r2) => whileF t F n r2
    | some (.bk r2) => some (.nx r2)
    | o => o) else some (.nx x.2)
def bigF : Nat := 1000000000
def sWhile (J : List Nat) (t : FT) (F : FS) : FS := fun r => whileF t (sW J F) bigF (wipeE r J)
end
/-! ### one's own dict is walked: it is not to be used meanwhile -/
def itemsD (kds : List (D × D)) : List D := kds.map fun z => .tuple [z.1, z.2]
def keysD (kds : List (D × D)) : List D := kds.map (·.1)
@[simp] def untag1 (n : Nat) : Option Cell → Option Cell
  | some (.tag m) => if m = n then none else some (.tag m)
  | c => c
def untag (n : Nat) (r : Ev) : Ev := r.map (untag1 n)
@[simp] theorem untag_cons (n : Nat) (c : Option Cell) (r : Ev) : untag n (c :: r) = untag1 n c :: untag n r := rfl
@[simp] theorem untag_nil (n : Nat) : untag n [] = [] := rfl
@[simp] def backD (i : Nat) (kds : List (D × D)) : Option Out → Option Out
  | some (.nx r) => match r[i]? with
    | some (some (.tag m)) => if m = i then some (.nx ((untag i r).set i (some (.ownD kds)))) else none
    | _ => none
  | some (.rt d r) => some (.rt d (untag i r))
  | _ => none
def sForD (g : List (D × D) → List D) (i : Nat) (J : List Nat) (A : FG) (F : FS) : FS := fun r => match r[i]? with
  | some (some (.ownD kds)) => backD i kds (loopF A (sW J F) (g kds) ((untag i (wipeE r J)).set i (some (.tag i))))
  | _ => none
theorem untag_some {n i : Nat} {r : Ev} {c : Cell} (h : (untag n r)[i]? = some (some c)) : r[i]? = some (some c) ∧ c ≠ .tag n := by
  unfold untag at h
  rw [List.getElem?_map] at h
  obtain ⟨x, h1, h2⟩ := Option.map_eq_some_iff.mp h
  cases x with
  | none => cases h2
  | some y =>
    cases y with
    | tag m =>
      have h3 : (if m = n then none else some (Cell.tag m)) = some c := h2
      by_cases hm : m = n
      · rw [if_pos hm] at h3; cases h3
      · rw [if_neg hm] at h3; cases h3; exact ⟨h1, fun z => by cases z; exact hm rfl⟩
    | val d => cases h2; exact ⟨h1, fun z => by cases z⟩
    | own d => cases h2; exact ⟨h1, fun z => by cases z⟩
    | loan d e => cases h2; exact ⟨h1, fun z => by cases z⟩
    | ownD d => cases h2; exact ⟨h1, fun z => by cases z⟩
    | fre d => cases h2; exact ⟨h1, fun z => by cases z⟩
    | ownF d => cases h2; exact ⟨h1, fun z => by cases z⟩
theorem untag_len (n : Nat) (r : Ev) : (untag n r).length = r.length := List.length_map _
section
variable {K : PySem.W.Frag} {C : Ctx} {G H : Hp} {σ : L2.St} {r : Ev}
def Ctx.lab (C : Ctx) (n : Nat) (o : Option Addr) : Ctx := { C with L := fun m => if m = n then o else C.L m }
/-- fewer slots are known -/
theorem Ok.less {r' : Ev} (ok : Ok K C G H σ r) (hl : r'.length = r.length) (h : ∀ (i : Nat) (c : Cell), r'[i]? = some (some c) → r[i]? = some (some c)) : Ok K C G H σ r' :=
  ⟨ok.sub, ok.g0, ok.gnew, ok.prot, ok.mreal, by rw [hl]; exact ok.len, fun i c e => ok.cell i c (h i c e), fun i j c c' e1 e2 => ok.dis i j c c' (h i c e1) (h j c' e2), ok.tabs⟩
theorem Ok.untag (ok : Ok K C G H σ r) (n : Nat) : Ok K C G H σ (untag n r) := ok.less (untag_len n r) fun i c e => (untag_some e).1
theorem CellOk.lab {v : V} {c : Cell} (n : Nat) (o : Option Addr) (h : CellOk K C G H v c) (hc : c ≠ .tag n) : CellOk K (C.lab n o) G H v c := by
  cases c with
  | val d => exact h
  | own ds => exact h
  | loan k ds => exact h
  | ownD ds => exact h
  | fre d => exact h
  | ownF ds => exact h
  | tag m =>
    obtain ⟨p, h1, h2⟩ := h
    exact ⟨p, h1, by show (if m = n then o else C.L m) = some p; rw [if_neg fun z => hc (by rw [z])]; exact h2⟩
theorem Ok.lab (ok : Ok K C G H σ r) (n : Nat) (o : Option Addr) : Ok K (C.lab n o) G H σ (SL.untag n r) :=
  let ok' := ok.untag n
  ⟨ok'.sub, ok'.g0, ok'.gnew, ok'.prot, ok'.mreal, ok'.len, fun i c e => by
    obtain ⟨v, e1, h⟩ := ok'.cell i c e
    exact ⟨v, e1, h.lab n o (untag_some e).2⟩, ok'.dis, ok'.tabs⟩
theorem Ok.setT {n i : Nat} {p : Addr} (ok : Ok K C G H σ r) (e : σ[i]? = some (some (.ref p))) (hL : C.L n = some p) (hi : ∀ c, r[i]? = some (some c) → c.isOwn = false) : Ok K C G H σ (r.set i (some (.tag n))) :=
  ⟨ok.sub, ok.g0, ok.gnew, ok.prot, ok.mreal, by rw [List.length_set]; exact ok.len, fun j c q => by
    by_cases hj : j = i
    · subst hj
      have hlt : j < r.length := by
        have := (List.getElem?_eq_some_iff.mp q).1
        rwa [List.length_set] at this
      rw [List.getElem?_set_self hlt] at q
      cases q
      exact ⟨_, e, p, rfl, hL⟩
    · rw [List.getElem?_set_ne (Ne.symm hj)] at q
      exact ok.cell j c q, fun j k c c' q1 q2 o1 o2 => by
    have get : ∀ {x : Nat} {c2 : Cell}, (r.set i (some (.tag n)))[x]? = some (some c2) → c2.isOwn = true → r[x]? = some (some c2) := fun {x c2} q o => by
      by_cases hx : x = i
      · subst hx
        have hlt : x < r.length := by
          have := (List.getElem?_eq_some_iff.mp q).1
          rwa [List.length_set] at this
        rw [List.getElem?_set_self hlt] at q
        cases q; cases o
      · rwa [List.getElem?_set_ne (Ne.symm hx)] at q
    exact ok.dis j k c c' (get q1 o1) (get q2 o2) o1 o2, ok.tabs⟩
end
def tIO (i : Nat) (mk : Addr → Obj → List KE3 → It) : TI := fun σ H R => ∃ p o ks, σ[i]? = some (some (.ref p)) ∧ H p = some (DicO p o ks) ∧ R (mk p o ks) H
section
variable {X : Cx} {tg iter : Expr} {body : List Stmt} {F : FS} {y : Str} {py apos cpos : Pos}
theorem pi_ownItems {elts : List Expr} {kk : Nat} {tpos : Pos} (i : Nat) (hN : X.N[i]? = some y := by rfl) (hv : Vis X.env.scope y := by first | exact Or.inl rfl | exact Or.inr (Or.inl rfl) | exact Or.inr (Or.inr rfl)) (hd : (y == ("__debug__" : Str)) = false := by decide)
    (hcd : (y == ("__classdict__" : Str)) = false := by decide) (hbase : attributeBase (.Name y py) "items" X.env (eval (.Name y py) X.env) = eval (.Name y py) X.env := by rfl) (hline : (apos.endLine == cpos.line) = true := by rfl) :
    PI X (.Tuple elts kk tpos) (.Call (.Attribute (.Name y py) "items" apos) [] [] cpos) (tIO i Itqi) := PI.weak (pi_qitems (pe_var hN hv hd hcd) hbase hline) fun σ H R ⟨p, o, ks, e, h, q⟩ => ⟨_, e, p, o, ks, rfl, h, q⟩
/-- a walk over a dict that is held -/
def TurnsH (K : PySem.W.Frag) (mk : Addr → Obj → List KE3 → It) (g : List (D × D) → List D) : Prop := ∀ (p : Addr) (o : Obj) (ks : List KE3) (kds : List (D × D)) (G : Hp), DpKs K G ks kds → ∀ (i : Nat) (G2 H2 : Hp), Same G G2 → Same G2 H2 → H2 p = some (DicO p o ks) →
  (∀ d, (g kds)[i]? = some d → (mk p o ks).go i H2 ∧ ∀ x H3, (mk p o ks).yld i H2 x H3 → Same H2 H3 ∧ ∃ G3, Same G2 G3 ∧ Same G3 H3 ∧ (∀ a o, G3 a = some o → G2 a = some o ∨ H2 a = none) ∧ Dp K G3 x d) ∧ ((g kds).length ≤ i → (mk p o ks).stop i H2)
theorem th_items {K : PySem.W.Frag} : TurnsH K Itqi itemsD := fun p o ks kds G h2 i G2 H2 s1 s2 q => by
  have hl := DpKs.length h2
  unfold itemsD
  refine ⟨fun d e => ?_, fun h => ⟨q, by rw [List.length_map] at h; omega⟩⟩
  rw [List.getElem?_map] at e
  obtain ⟨⟨kd, vd⟩, e1, rfl⟩ := Option.map_eq_some_iff.mp e
  obtain ⟨k, a, v, e2, dk, dv⟩ := DpKs.get h2 e1
  refine ⟨⟨q, (List.getElem?_eq_some_iff.mp e2).1⟩, fun x H3 ⟨T, k', a', v', e3, ex, hT, eH⟩ => ?_⟩
  subst ex eH
  rw [e2] at e3
  cases e3
  exact new_tup s2 hT (.cons (Dp.mono s1 dk) (.cons (Dp.mono s1 dv) .nil))
theorem ss_forD {A : FG} {L : List Nat} {pos : Pos} {mk : Addr → Obj → List KE3 → It} {g : List (D × D) → List D} (s : Nat) (J : List Nat) (hp : PassesOwn (model X.prog X.w) X.A X.env X.xe) (hc : X.calm = true) (hi : PI X tg iter (tIO s mk)) (th : TurnsH X.K mk g) (hsJ : s ∉ J) (hg : SG X tg A L) (hb0 : SSs X body F)
    (hs : ∀ x, foldedSetIterable iter X.env x = pure x := by intro _; rfl) : SS X (.For tg iter body [] pos) (sForD g s J A F) := PS.weak (ps_for hp hc hi hg (ss_w J hb0) hs) fun E σ H ⟨C, G, r, oo, ok, hf, k⟩ => by
  unfold sForD at hf
  split at hf
  case h_2 => cases hf
  case h_1 kds er =>
    obtain ⟨v0, es, p, ob, ks, rfl, h1, h2, h3, h4⟩ := ok.cell s _ er
    obtain ⟨CL, eCL⟩ : ∃ CL, C.lab s (some p) = CL := ⟨_, rfl⟩
    have f0 : C.G0 p = none := by
      cases q : C.G0 p with
      | none => rfl
      | some u => rw [ok.g0 _ _ q] at h2; cases h2
    have odrop := ((ok.forget J).drop s).lab s (some p)
    have nl : NewX X.K (C.lab s (some p)) G H σ (untag s ((wipeE r J).set s none)) p (DicO p ob ks) := ⟨h1.1, h1.2, h2, h3, fun j c ej o' z => by
      have ej1 := (untag_some ej).1
      by_cases e : s = j
      · subst e
        have hlt : s < (wipeE r J).length := by
          have := (List.getElem?_eq_some_iff.mp ej1).1
          rwa [List.length_set] at this
        rw [List.getElem?_set_self hlt] at ej1
        cases ej1
      · rw [List.getElem?_set_ne e] at ej1
        exact e (ok.dis s j _ c er (wipeE_some ej1).1 rfl o' (by rw [es, z]))⟩
    have o1 := odrop.holdX nl
    have eset : (untag s ((wipeE r J).set s none)).set s (some (.tag s)) = (untag s (wipeE r J)).set s (some (.tag s)) := by
      unfold untag
      rw [List.map_set, List.set_set]
    have o2 := o1.setT (n := s) es (by show (if s = s then some p else C.L s) = some p; rw [if_pos rfl]) (fun c ec => by
      have ec1 := (untag_some ec).1
      have hlt : s < (wipeE r J).length := by
        have := (List.getElem?_eq_some_iff.mp ec1).1
        rwa [List.length_set] at this
      rw [List.getElem?_set_self hlt] at ec1
      cases ec1)
    rw [eset] at o2
    cases hl : loopF A (sW J F) (g kds) ((untag s (wipeE r J)).set s (some (.tag s))) with
    | none => rw [hl] at hf; cases hf
    | some o1' =>
    rw [hl] at hf
    -- from the loop's world back
    have back : ∀ {G' H' : Hp} {σ' : L2.St} {r' : Ev}, Ok X.K ((C.lab s (some p)).holdX p (DicO p ob ks)) G' H' σ' r' → Ok X.K C G' H' σ' (untag s r') ∧ NewX X.K C G' H' σ' (untag s r') p (DicO p ob ks) := fun {G' H' σ' r'} okk => by
      obtain ⟨q1, q2⟩ := okk.unholdX h1.1 h1.2 f0
      have q3 := q1.lab s (C.L s)
      have eC : (C.lab s (some p)).lab s (C.L s) = C := by
        unfold Ctx.lab
        congr 1
        funext m
        by_cases hm : m = s
        · subst hm; simp
        · simp [hm]
      rw [eC] at q3
      exact ⟨q3, q2.1, q2.2.1, q2.2.2.1, q2.2.2.2.1, fun j c ej o' z => q2.2.2.2.2 j c (untag_some ej).1 o' z⟩
    have km : ∀ G', Same G G' → OutOk X.K ((C.lab s (some p)).holdX p (DicO p ob ks)) G' E o1' := fun G' sg => by
      cases o1' with
      | nx r3 =>
        unfold backD at hf
        dsimp only at hf
        split at hf
        · rename_i m em
          split at hf
          case isFalse => cases hf
          case isTrue hms =>
          cases hf
          intro σ' G4 H4 okk s4
          obtain ⟨q3, n3⟩ := back okk
          obtain ⟨v, e1, p', rfl, hL⟩ := okk.cell s _ em
          have hm : (Ctx.lab C s (some p)).L m = some p' := hL
          have hpp : m = s → p' = p := fun z => by
            have hL' : (if m = s then some p else C.L m) = some p' := hm
            rw [if_pos z] at hL'
            exact (Option.some.inj hL').symm
          have := hpp hms
          subst this
          have q5 := q3.setD (i := s) n3 (DpKs.mono (sg.trans s4) h4)
          have eσ : σ'.set s (some (.ref p')) = σ' := by
            have hlt2 : s < σ'.length := (List.getElem?_eq_some_iff.mp e1).1
            have : σ'[s] = some (.ref p') := by
              have := List.getElem?_eq_getElem hlt2
              rw [e1] at this
              exact (Option.some.inj this).symm
            rw [← this]
            exact List.set_getElem_self hlt2
          rw [eσ] at q5
          exact k σ' G4 H4 q5 (sg.trans s4)
        · cases hf
      | rt d r3 =>
        cases hf
        intro v σ' G4 H4 okk s4 hv
        exact k v σ' G4 H4 (back okk).1 (sg.trans s4) hv
      | bk r3 => cases hf
      | ct r3 => cases hf
      | rtO d r3 => cases hf
      | rtN d r3 => cases hf
    refine ⟨p, ob, ks, es, h3, ?_⟩
    refine ⟨fun n m σ H => ∃ G' r', Ok X.K ((C.lab s (some p)).holdX p (DicO p ob ks)) G' H σ r' ∧ Same G G' ∧ m = (g kds).length - n ∧ n ≤ (g kds).length ∧ loopF A (sW J F) ((g kds).drop n) r' = some o1', ⟨_, G, _, o2, Same.refl _, rfl, Nat.zero_le _, hl⟩, ?_⟩
    rintro n m σ H ⟨G', r', ok', sg, rfl, hn, hlp⟩
    have hpH : H p = some (DicO p ob ks) := ok'.prot p _ upd_same h1.2
    obtain ⟨go, stop⟩ := th p ob ks kds G h4 n G' H sg ok'.sub hpH
    by_cases hlt : n < (g kds).length
    · refine .inr ?_
      have e : (g kds).drop n = (g kds)[n] :: (g kds).drop (n + 1) := List.drop_eq_getElem_cons hlt
      rw [e] at hlp
      obtain ⟨g1, g2⟩ := go (g kds)[n] (List.getElem?_eq_getElem hlt)
      refine ⟨g1, fun σ H => ∃ G' r', Ok X.K ((C.lab s (some p)).holdX p (DicO p ob ks)) G' H σ r' ∧ Same G G' ∧ loopF A (sW J F) ((g kds).drop (n + 1)) r' = some o1', fun σ' H' ⟨G2, r2, a1, a2, a3⟩ => ⟨_, Nat.sub_lt_sub_left hlt (Nat.lt_succ_self n), G2, r2, a1, a2, rfl, hlt, a3⟩, fun x H3 yy => ?_⟩
      obtain ⟨m3, G3, s3, s3', n3, dx⟩ := g2 x H3 yy
      have ok3 := ok'.calm s3 m3 s3' n3
      obtain ⟨r2, h5, h6⟩ := Option.bind_eq_some_iff.mp (show (A (g kds)[n] r').bind _ = some o1' from hlp)
      refine ⟨_, G3, r', _, r2, ok3, dx, h5, fun σ2 ok4 _ => ?_⟩
      have sg3 := sg.trans s3
      cases hb : sW J F r2 with
      | none => rw [hb] at h6; cases h6
      | some ob2 =>
        rw [hb] at h6
        refine ⟨_, G3, r2, ob2, ok4, hb, ?_⟩
        cases ob2 with
        | nx r3 => exact fun σ' G4 H4 ok5 s5 => ⟨G4, r3, ok5, sg3.trans s5, h6⟩
        | ct r3 => exact fun σ' G4 H4 ok5 s5 => ⟨G4, r3, ok5, sg3.trans s5, h6⟩
        | bk r3 => cases h6; exact km G3 sg3
        | rt d r3 => cases h6; exact km G3 sg3
        | rtO d r3 => cases h6; exact km G3 sg3
        | rtN d r3 => cases h6; exact km G3 sg3
    · have e : (g kds).length = n := by omega
      refine .inl ⟨stop (by omega), ?_⟩
      rw [← e, List.drop_length] at hlp
      cases hlp
      exact km G' sg σ G' H ok' (Same.refl _)
end
end SL
/-! Sorting of data; extend; dicts that are lent; working out. -/
namespace SL
open PySem PySem.Spec PyProof.Rows L2
variable [TBL]
/-! ### sorted -/
def alikeB (ds : List D) : Bool := ds.all fun d => ds.all fun d' => W.alike d d'
def sortB (ds : List D) : Bool := (ds.all fun d => match d with | .tuple (_ :: _) => true | _ => false) || ds.all fun d => match d with | .none => false | .tuple _ => false | _ => true
def okSort (ds : List D) : Bool := alikeB ds && sortB ds && decide (ds.length ≤ sizeLine) && ds.all fun d => decide (d.depth ≤ 64)
def srt (ds : List D) : List D := ds.mergeSort (W.dataLe false id)
@[simp] def sortX : D → Option (List D)
  | .list ds => if okSort ds = true then some (srt ds) else none
  | .tuple ds => if okSort ds = true then some (srt ds) else none
  | _ => none
theorem okSort_iff {ds : List D} : okSort ds = true ↔ W.AllAlike ds ∧ W.Sortable ds ∧ ds.length ≤ sizeLine ∧ ∀ d ∈ ds, d.depth ≤ 64 := by
  unfold okSort alikeB sortB W.AllAlike W.Sortable
  rw [Bool.and_eq_true, Bool.and_eq_true, Bool.and_eq_true, decide_eq_true_iff, List.all_eq_true, List.all_eq_true, Bool.or_eq_true, List.all_eq_true, List.all_eq_true, and_assoc, and_assoc]
  refine and_congr ?_ (and_congr ?_ (and_congr Iff.rfl ?_))
  · exact ⟨fun h d hd d' hd' => List.all_eq_true.mp (h d hd) d' hd', fun h d hd => List.all_eq_true.mpr fun d' hd' => h d hd d' hd'⟩
  · refine or_congr ?_ ?_
    · refine ⟨fun h d hd => ?_, fun h d hd => ?_⟩
      · have := h d hd
        split at this
        · exact ⟨_, _, rfl⟩
        · cases this
      · obtain ⟨x, r, rfl⟩ := h d hd
        rfl
    · refine ⟨fun h d hd => ?_, fun h d hd => ?_⟩
      · have := h d hd
        cases d with
        | none => cases this
        | tuple xs => cases this
        | bool b => exact ⟨fun z => (nomatch z), fun _ z => (nomatch z)⟩
        | int b => exact ⟨fun z => (nomatch z), fun _ z => (nomatch z)⟩
        | str b => exact ⟨fun z => (nomatch z), fun _ z => (nomatch z)⟩
        | list b => exact ⟨fun z => (nomatch z), fun _ z => (nomatch z)⟩
        | dict b => exact ⟨fun z => (nomatch z), fun _ z => (nomatch z)⟩
      · obtain ⟨h1, h2⟩ := h d hd
        cases d with
        | none => exact absurd rfl h1
        | tuple xs => exact absurd rfl (h2 xs)
        | _ => rfl
  · exact ⟨fun h d hd => of_decide_eq_true (h d hd), fun h d hd => decide_eq_true (h d hd)⟩
mutual
theorem alike_nd : ∀ d : D, W.alike d d = true → d.hasDict = false
  | .none, _ => by simp only [PyData.hasDict]
  | .bool _, _ => by simp only [PyData.hasDict]
  | .int _, _ => by simp only [PyData.hasDict]
  | .str _, _ => by simp only [PyData.hasDict]
  | .list xs, h => by simp only [PyData.hasDict]; exact alikes_nd xs (by simpa only [W.alike] using h)
  | .tuple xs, h => by simp only [PyData.hasDict]; exact alikes_nd xs (by simpa only [W.alike] using h)
  | .dict _, h => by simp [W.alike] at h
theorem alikes_nd : ∀ ds : List D, W.alikeAll ds ds = true → PyData.hasDictAll ds = false
  | [], _ => by simp only [PyData.hasDictAll]
  | d :: ds, h => by
    simp only [W.alikeAll, Bool.and_eq_true] at h
    simp only [PyData.hasDictAll, alike_nd d h.1, alikes_nd ds h.2, Bool.or_self]
end
section
variable {prog : Program} {w : World} {A : Around} {E : Value → Shared → Prop} {s : Shared}
open PySem.W PySem.Calls in
/-- sorted(r): r's items are told by coll; the list that is made stands where the heap then ended -/
theorem sorted_any {β : Type} {r : Addr} {bs : List β} {enc : β → PyData} {R : Value → β → Prop} {Q : Value → Shared → Prop}
    (coll : ∀ (T : List Value → Shared → Prop) (E' : Value → Shared → Prop), (∀ (h1 : Heap) (tk : Nat) (vs : List Value), (∀ b o, s.heap.get? b = some o → h1.get? b = some o) → EachIs R vs bs → EachIs (fun v b => ∃ as, Reads s.heap v (enc b) as) vs bs → T vs { s with heap := h1, toks := tk }) → wpAny (model prog w) A.in1 (collect (.ref r)) T E' s)
    (alike : AllAlike (bs.map enc)) (able : Sortable (bs.map enc)) (few : bs.length ≤ sizeLine) (deep : ∀ b, b ∈ bs → A.units + 2 + (enc b).depth < cLine)
    (fin : ∀ (h1 : Heap) (tk : Nat) (vs out : List Value), (∀ b o, s.heap.get? b = some o → h1.get? b = some o) → out.length = bs.length → EachIs R out (bs.mergeSort (dataLe false enc)) → Q (.ref h1.objs.size) { s with heap := sortedHeap (h1.push (seqObj "list" vs.toArray 0)) h1.objs.size vs out.toArray, toks := tk }) :
    wpAny (model prog w) A (call (.builtin "sorted") [.ref r]) Q E s := by
  -- the sort of the new list, on its own
  have sort : ∀ (B : Around) (h1 : Heap) (tk : Nat) (vs : List Value), B.units ≤ A.units + 2 → (∀ b o, s.heap.get? b = some o → h1.get? b = some o) → EachIs R vs bs → EachIs (fun v b => ∃ as, Reads s.heap v (enc b) as) vs bs → ∀ E' : Value → Shared → Prop,
      wpAny (model prog w) B (Builtin.«list.sort» ⟨[.ref h1.objs.size], []⟩) (fun f s' => f = .done (.ret .none) ∧ Q (.ref h1.objs.size) s') E' { s with heap := h1.push (seqObj "list" vs.toArray 0), toks := tk } := fun B h1 tk vs hB old is rd E' => by
    have at1 : (h1.push (seqObj "list" vs.toArray 0)).get? h1.objs.size = some (seqObj "list" vs.toArray 0) := Heap.get?_push_size _ rfl
    have rd2 := rd.mono fun _ _ ⟨as, x⟩ => (⟨as, PyProof.Rows.Reads.keeps (fun b o hb => sortingHeap_old (vs := vs) (Nat.ne_of_lt (Heap.lt_size (old _ _ hb))) (Heap.get?_push_of_some (seqObj "list" vs.toArray 0) (old _ _ hb))) x⟩ : ∃ as, Reads _ _ _ as)
    refine list_sort_vals at1 (SortsAt.data (each_map (R := fun v d => ∃ as, Reads _ v d as) enc rd2) alike able fun d hd => ?_) (by rw [is.length]; exact few) ⟨rfl, fin h1 tk vs _ old (by rw [sortVals_length false rfl]; exact is.length) (sortVals_data false is rd2 alike)⟩
    obtain ⟨b, hb, rfl⟩ := List.mem_map.mp hd
    have := deep b hb
    omega
  refine call_function_entry_kw kind_sorted plain_sorted entry_sorted (args_sorted1 _) ?_
  unfold Builtin.«sorted»
  refine wpAny_bind (m := checkCount "sorted" 1 1 _) (wpAny_pure (wpAny_bind (coll _ _ fun h1 tk vs old is rd => wpAny_bind (wpAny_newList ?_ (by rw [is.length]; exact few)))))
  refine wpAny_bind (wpAny_holding (wpAny_call_entry_kw slot_list_sort ⟨_, Heap.get?_push_size _ rfl, rfl⟩ entry_list_sort (wpAny_mono (sort _ h1 tk vs ?_ old is rd _) (fun f s' ⟨e, q⟩ => by subst e; exact ⟨.none, rfl, wpAny_pure ⟨.ref h1.objs.size, rfl, q⟩⟩) fun _ _ e => e) (args_list_sort _)))
  simp only [Around.in1_units]
  omega
end
def rSortX (K : PySem.W.Frag) : List V → Hp → VK → Prop := fun xs H Q => ∃ p ys ds G, xs = [.ref p] ∧ (SqL K H p ys ∨ SqT K H p ys) ∧ Same G H ∧ DpAll K G ys ds ∧ okSort ds = true ∧ ∀ l zs, H l = none → DpAll K G zs (srt ds) → Q (.ref l) (upd H l (.lst zs))
theorem each_dp {K : PySem.W.Frag} {G : Hp} : ∀ {ys : List V} {ds : List D} {us : List Value}, DpAll K G ys ds → Vals ys us → W.EachIs (fun v d => ∃ x, RelV x v ∧ Dp K G x d) us ds
  | _, _, _, .nil, .nil => .nil
  | _, _, _, .cons h t, .cons r rs => .cons ⟨_, r, h⟩ (each_dp t rs)
theorem dp_each {K : PySem.W.Frag} {G : Hp} : ∀ {ds : List D} {us : List Value}, W.EachIs (fun v d => ∃ x, RelV x v ∧ Dp K G x d) us ds → ∃ zs, DpAll K G zs ds ∧ Vals zs us
  | _, _, .nil => ⟨[], .nil, .nil⟩
  | _, _, .cons ⟨x, r, h⟩ t => by
    obtain ⟨zs, h1, h2⟩ := dp_each t
    exact ⟨x :: zs, .cons h h1, .cons r h2⟩
section
variable {X : Cx}
theorem cr_sortX (pl : Pl X) : CallR X (.builtin "sorted") (rSortX X.K) := fun pins s σ H vs us Q I r ⟨a, ys, ds, G, evs, hs, sg, hd, ho, q⟩ => by
  subst evs
  obtain ⟨oa, os, oz, od⟩ := okSort_iff.mp ho
  rw [Vals.ref1 r]
  have hun := pl.units
  -- the items, read
  have rd : ∀ (ys : List V) (ds : List D) (its : List Value), DpAll X.K G ys ds → Vals ys its → (∀ d ∈ ds, W.alike d d = true) → W.EachIs (fun v b => ∃ as, Reads s.heap v (id b) as) its ds := by
    intro ys ds its h rv
    induction rv generalizing ds with
    | nil => cases h; exact fun _ => .nil
    | cons r1 _ ih =>
      cases h with
      | cons h1 h2 => exact fun al => .cons (L2.Dp.reads I _ _ _ ((Dp.mono sg h1).toL (alike_nd _ (al _ List.mem_cons_self))) r1) (ih _ h2 fun d hd => al d (List.mem_cons_of_mem _ hd))
  -- they stand in a list or in a tuple
  obtain ⟨its, T, o, n, rv, hT, ho1, hc, hdt, hz⟩ : ∃ (its : List Value) (T : String) (o : Obj) (n : Nat), Vals ys its ∧ (T = "list" ∨ T = "tuple") ∧ s.heap.get? a = some o ∧ o.cls = .type T ∧ o.data = .seq its.toArray n ∧ ys.length ≤ sizeLine := by
    rcases hs with hs | hs
    · obtain ⟨its, rv, hl, hz⟩ := I.list hs
      obtain ⟨o, h1, h2, n, h3⟩ := hl.isList
      exact ⟨its, "list", o, n, rv, .inl rfl, h1, h2, h3, hz⟩
    · obtain ⟨its, rv, hl, hz⟩ := I.tuple hs
      obtain ⟨o, h1, h2, n, h3⟩ := (show s.heap.IsTuple a its.toArray from hl)
      exact ⟨its, "tuple", o, n, rv, .inr rfl, h1, h2, h3, hz⟩
  have len : its.toArray.size ≤ sizeLine := by rw [List.size_toArray, ← Vals.length rv]; exact hz
  refine sorted_any (R := fun v d => ∃ x, RelV x v ∧ Dp X.K G x d) (enc := id) (bs := ds) (fun T E' k => wpAny_collect_seq (hsz := len) a hT ho1 hc hdt fun h1 old => k h1 s.toks its old (each_dp hd rv) (rd ys ds its hd rv fun d hd => oa d hd d hd)) (by rw [List.map_id]; exact oa) (by rw [List.map_id]; exact os) oz (fun b hb => ?_) fun h1 tk vs out old ol eo => ?_
  · have := od b hb
    show X.A.units + 2 + b.depth < cLine
    omega
  · obtain ⟨zs, z1, z2⟩ := dp_each eo
    have at1 : (h1.push (seqObj "list" vs.toArray 0)).get? h1.objs.size = some (seqObj "list" vs.toArray 0) := Heap.get?_push_size _ rfl
    obtain ⟨ep, at2⟩ := PyProof.Rows.sortedHeap_at (out := out.toArray) at1
    have I1 := I.kept (t' := tk) old
    refine ⟨.ref _, upd H h1.objs.size (.lst zs), I1.laid (t' := tk) (fun b o2 e2 => ?_) (Nat.le_refl _) ⟨by rw [Vals.length z2, ol]; exact oz, out, ep, z2, at2⟩, rfl, q _ _ (I1.hok.fresh (Nat.le_refl _)) z1⟩
    have lt := Heap.lt_size e2
    rw [PyProof.Rows.sortedHeap_old (Nat.ne_of_lt lt) (by rw [Heap.size_push]; exact Nat.lt_succ_of_lt lt)]
    exact Heap.get?_push_of_some _ e2
theorem c_sortX {K : PySem.W.Frag} : Call1L K (rSortX K) sortX := fun G H x dx ds Q s hx e bk => by
  unfold sortX at e
  split at e
  · split at e
    · rename_i ho
      cases e
      obtain ⟨p, vs, rfl, h1, h2⟩ := hx.list s
      exact ⟨p, vs, _, G, rfl, .inl h1, s, h2, ho, fun l zs hl hz => bk l zs hl hz⟩
    · cases e
  · split at e
    · rename_i ho
      cases e
      obtain ⟨p, vs, rfl, h1, h2⟩ := hx.tuple s
      exact ⟨p, vs, _, G, rfl, .inr h1, s, h2, ho, fun l zs hl hz => bk l zs hl hz⟩
    · cases e
  · cases e
/-! ### extend by a new list -/
def sExt (i : Nat) (g : FA) : FS := fun r => (listAt i r).bind fun _ => (g r).bind fun y => (listAt i y.2).bind fun z => if z.1.length + y.1.length ≤ sizeLine then some (.nx (z.2 (z.1 ++ y.1))) else none
@[simp] theorem sExt_r (i : Nat) (g : FA) (r : Ev) : sExt i g r = (listAt i r).bind fun _ => (g r).bind fun y => (listAt i y.2).bind fun z => if z.1.length + y.1.length ≤ sizeLine then some (.nx (z.2 (z.1 ++ y.1))) else none := rfl
theorem ss_ext {i : Nat} {px pa pp pos : Pos} {x : Str} {e : Expr} {g : FA} {p : Bool} (hcall : PE X (.Call (.Attribute (.Name x px) "extend" pa) [e] [] pp) (tBM X.K "list" rExtend (tVar i) (tCons (tL X.K p g) tNil)))
    (hs : swapsWith (.Call (.Attribute (.Name x px) "extend" pa) [e] [] pp) none pos.line X.env = pure false := by rfl) : SS X (.Expr (.Call (.Attribute (.Name x px) "extend" pa) [e] [] pp) pos) (sExt i g) :=
  PS.weak (ps_expr hcall hs) fun E σ H ⟨C, G, r, o, ok, hf, k⟩ => by
    unfold sExt at hf
    obtain ⟨⟨d0, p0⟩, h0, hf⟩ := Option.bind_eq_some_iff.mp hf
    obtain ⟨⟨d, r1⟩, h1, hf⟩ := Option.bind_eq_some_iff.mp hf
    obtain ⟨⟨ds, put⟩, h2, hf⟩ := Option.bind_eq_some_iff.mp hf
    split at hf
    · rename_i hz
      cases hf
      obtain ⟨l, vs, e1, _, e2, _, _⟩ := ok.listAt h0
      refine ⟨_, e1, .inl ⟨rfl, _, .inl (.inl e2)⟩, C, G, r, d, r1, ok, h1, fun b zs G1 H1 o1 s1 m1 n1 x1 => ?_⟩
      obtain ⟨l', vs', e1', _, e2', e3', k'⟩ := o1.listAt h2
      rw [e1] at e1'
      cases e1'
      exact ⟨l, b, vs', zs, rfl, rfl, e2', n1.2.2.2.1, by rw [DpAll.length e3', DpAll.length x1]; exact hz, k σ G1 _ (k' _ _ (DpAll.append e3' x1)) s1⟩
    · cases hf
end
end SL
/-! Dicts that are lent to a call; working out of programs. -/
namespace SL
open PySem PySem.Spec PyProof.Rows L2
variable [TBL]
section
variable {K : PySem.W.Frag} {G H : Hp}
/-- what is known without p -/
def era (G : Hp) (p : Addr) : Hp := fun a => if a = p then none else G a
theorem era_ne {p a : Addr} (h : a ≠ p) : era G p a = G a := by unfold era; rw [if_neg h]
theorem SqL.era {p a : Addr} {xs : List V} {o : Obj} {ks : List KE3} (hp : G p = some (DicO p o ks)) (h : SqL K G a xs) : SqL K (era G p) a xs := by
  by_cases z : a = p
  · subst z
    rcases h with (h | ⟨o', h⟩) | h
    · rw [hp] at h; cases h
    · rw [hp] at h; cases h
    · exact .inr h
  · rcases h with (h | ⟨o', h⟩) | h
    · exact .inl (.inl (by rw [era_ne z]; exact h))
    · exact .inl (.inr ⟨o', by rw [era_ne z]; exact h⟩)
    · exact .inr h
theorem SqT.era {p a : Addr} {xs : List V} {o : Obj} {ks : List KE3} (hp : G p = some (DicO p o ks)) (h : SqT K G a xs) : SqT K (era G p) a xs := by
  by_cases z : a = p
  · subst z
    rcases h with (h | ⟨o', h⟩) | h
    · rw [hp] at h; cases h
    · rw [hp] at h; cases h
    · exact .inr h
  · rcases h with (h | ⟨o', h⟩) | h
    · exact .inl (.inl (by rw [era_ne z]; exact h))
    · exact .inl (.inr ⟨o', by rw [era_ne z]; exact h⟩)
    · exact .inr h
mutual
theorem Dp.era {p : Addr} {o : Obj} {ks : List KE3} (hp : G p = some (DicO p o ks)) : ∀ {d : D} {v : V}, Dp K G v d → d.hasDict = false → Dp K (era G p) v d
  | _, _, .non, _ => .non
  | _, _, .bl b, _ => .bl b
  | _, _, .int i, _ => .int i
  | _, _, .str x, _ => .str x
  | _, _, .lst h t, n => .lst (SqL.era hp h) (DpAll.era hp t (by simpa only [PyData.hasDict] using n))
  | _, _, .tup h t, n => .tup (SqT.era hp h) (DpAll.era hp t (by simpa only [PyData.hasDict] using n))
  | _, _, .dic _ _, n => by simp only [PyData.hasDict] at n; cases n
theorem DpAll.era {p : Addr} {o : Obj} {ks : List KE3} (hp : G p = some (DicO p o ks)) : ∀ {ds : List D} {vs : List V}, DpAll K G vs ds → PyData.hasDictAll ds = false → DpAll K (era G p) vs ds
  | _, _, .nil, _ => .nil
  | _, _, .cons h t, n => by
    simp only [PyData.hasDictAll, Bool.or_eq_false_iff] at n
    exact .cons (Dp.era hp h n.1) (DpAll.era hp t n.2)
end
end
/-- arguments, one of them the dict of slot i -/
def Lent (K : PySem.W.Frag) (G H : Hp) (σ : L2.St) (r : Ev) (i : Nat) (vs : List V) (ds : List D) : Prop := ∃ p o ks kds, r[i]? = some (some (.ownD kds)) ∧ σ[i]? = some (some (.ref p)) ∧ G p = none ∧ H p = some (DicO p o ks) ∧ DpKs K G ks kds ∧ DpAll K (upd G p (DicO p o ks)) vs ds
def tAL (K : PySem.W.Frag) (pu : Bool) (i : Nat) (f : FA) : TA := fun σ H Q => ∃ C G r d r', Ok K C G H σ r ∧ f r = some (d, r') ∧
  ∀ vs G' H', Ok K C G' H' σ r' → Same G G' → (pu = true → Same H H') → Lent K G' H' σ r' i vs d → Q vs H'
abbrev SAL (X : Cx) (pu : Bool) (i : Nat) (es : List Expr) (f : FA) : Prop := PA X es (tAL X.K pu i f)
def aLend (i : Nat) (g : FA) : FA := fun r => (dictOwn i r).bind fun _ => (g r).bind fun y => (dictOwn i y.2).map fun kds => (.dict kds :: y.1, y.2)
@[simp] theorem aLend_r (i : Nat) (g : FA) (r : Ev) : aLend i g r = (dictOwn i r).bind fun _ => (g r).bind fun y => (dictOwn i y.2).map fun kds => (.dict kds :: y.1, y.2) := rfl
/-- the result has no dict in it -/
def fCallL (fn : List D → Option D) (g : FA) : FE := fun r => (g r).bind fun x => (fn x.1).bind fun d => if d.hasDict = true then none else some (d, x.2)
@[simp] theorem fCallL_r (fn : List D → Option D) (g : FA) (r : Ev) : fCallL fn g r = (g r).bind fun x => (fn x.1).bind fun d => if d.hasDict = true then none else some (d, x.2) := rfl
section
variable {X : Cx} {e : Expr} {es : List Expr} {f : FE} {g : FA} {p q : Bool} {pos pp py : Pos} {x y : Str} {k : Nat} {fa : Addr} {fd : FuncData} {ps : List Str} {n : Nat}
end
/-! ### working out -/
/-- what follows an end of a statement -/
def thenK (o : Option Out) (F : FS) : Option Out := match o with
  | some (.nx r) => F r
  | o => o
def sT (F F' : FS) : FS := fun r => thenK (F r) F'
@[simp] theorem sT_r (F F' : FS) (r : Ev) : sT F F' r = thenK (F r) F' := rfl
theorem ss_then {X : Cx} {st : Stmt} {sts : List Stmt} {F F' : FS} (h1 : SS X st F) (h2 : SSs X sts F') : SSs X (st :: sts) (sT F F') := ss_cons h1 h2
@[simp] theorem thenK_none (F : FS) : thenK none F = none := rfl
@[simp] theorem thenK_nx (r : Ev) (F : FS) : thenK (some (.nx r)) F = F r := rfl
@[simp] theorem thenK_rt (d : D) (r : Ev) (F : FS) : thenK (some (.rt d r)) F = some (.rt d r) := rfl
@[simp] theorem thenK_rtO (d : List D) (r : Ev) (F : FS) : thenK (some (.rtO d r)) F = some (.rtO d r) := rfl
@[simp] theorem thenK_rtN (d : D) (r : Ev) (F : FS) : thenK (some (.rtN d r)) F = some (.rtN d r) := rfl
@[simp] theorem thenK_bk (r : Ev) (F : FS) : thenK (some (.bk r)) F = some (.bk r) := rfl
@[simp] theorem thenK_ct (r : Ev) (F : FS) : thenK (some (.ct r)) F = some (.ct r) := rfl
@[simp] theorem thenK_ite (c : Prop) [Decidable c] (a b : Option Out) (F : FS) : thenK (if c then a else b) F = if c then thenK a F else thenK b F := by split <;> rfl
/-- a loop, turn by turn -/
theorem loop_each {α β : Type} {A : FG} {body : FS} (enc : α → D) (E : β → Ev) (step : β → α → β) (P : β → Prop) : ∀ {xs : List α} {b : β}, P b → (∀ b x, x ∈ xs → P b → ((A (enc x) (E b)).bind body = some (.nx (E (step b x))) ∨ (A (enc x) (E b)).bind body = some (.ct (E (step b x)))) ∧ P (step b x)) →
    loopF A body (xs.map enc) (E b) = some (.nx (E (xs.foldl step b))) ∧ P (xs.foldl step b)
  | [], b, h, _ => ⟨rfl, h⟩
  | x :: xs, b, h, hs => by
    obtain ⟨h1, h2⟩ := hs b x (List.mem_cons_self ..) h
    have ih := loop_each enc E step P (xs := xs) h2 fun b y hy => hs b y (List.mem_cons_of_mem _ hy)
    refine ⟨?_, ih.2⟩
    rw [List.foldl_cons, ← ih.1]
    show (A (enc x) (E b)).bind _ = _
    cases hA : A (enc x) (E b) with
    | none => rw [hA] at h1; rcases h1 with h1 | h1 <;> cases h1
    | some r1 =>
      rw [hA] at h1
      show (match body r1 with | some (.nx r2) => loopF A body (xs.map enc) r2 | some (.ct r2) => loopF A body (xs.map enc) r2 | some (.bk r2) => some (.nx r2) | o => o) = _
      rcases h1 with h1 | h1
      · have h1' : body r1 = some (.nx (E (step b x))) := h1
        rw [h1']
      · have h1' : body r1 = some (.ct (E (step b x))) := h1
        rw [h1']
def tryF {α β : Type} (step : β → α → β ⊕ D) : β → List α → β ⊕ D
  | b, [] => .inl b
  | b, x :: xs => match step b x with
    | .inl b' => tryF step b' xs
    | .inr d => .inr d
end SL
/-! list(d); look-ups in dicts that calls give. -/
namespace SL
open PySem PySem.Spec PyProof.Rows L2
variable [TBL]
def listKD : D → Option (List D)
  | .dict kds => some (kds.map (·.1))
  | _ => none
@[simp] theorem listKD_d (kds : List (D × D)) : listKD (.dict kds) = some (kds.map (·.1)) := rfl
def rListD (K : PySem.W.Frag) : List V → Hp → VK → Prop := fun xs H Q => ∃ p o ks, xs = [.ref p] ∧ H p = some (DicO p o ks) ∧ ∀ l, H l = none → Q (.ref l) (upd H l (.lst (ks.map fun x => .ref x.2.1)))
section
variable {X : Cx} {a b : Expr} {fk fd : FE} {p q : Bool} {pos : Pos}
/-- f(..)[k] -/
def fDgetE (fd fk : FE) : FE := fun r => (fd r).bind fun y => (fk y.2).bind fun x => (dicD y.1).bind fun kds => (tkey x.1).bind fun _ => (dFind kds x.1).map fun d => (d, x.2)
@[simp] theorem fDgetE_r (fd fk : FE) (r : Ev) : fDgetE fd fk r = (fd r).bind fun y => (fk y.2).bind fun x => (dicD y.1).bind fun kds => (tkey x.1).bind fun _ => (dFind kds x.1).map fun d => (d, x.2) := rfl
def fDinE (neg : Bool) (fk fd : FE) : FE := fun r => (fk r).bind fun x => (fd x.2).bind fun y => (dicD y.1).bind fun kds => (tkey x.1).map fun _ => (.bool (neg != (dFind kds x.1).isSome), y.2)
@[simp] theorem fDinE_r (neg : Bool) (fk fd : FE) (r : Ev) : fDinE neg fk fd r = (fk r).bind fun x => (fd x.2).bind fun y => (dicD y.1).bind fun kds => (tkey x.1).map fun _ => (.bool (neg != (dFind kds x.1).isSome), y.2) := rfl
end
end SL
/-! Dicts over plain keys; sorting of numbers. -/
namespace Sk
open PySem PySem.Spec PyProof.Rows L2 SL
section
variable {α β : Type} [DecidableEq α]
def aFind (l : List (α × β)) (k : α) : Option β := (l.find? fun p => decide (p.1 = k)).map (·.2)
def aPut (l : List (α × β)) (k : α) (v : β) : List (α × β) := if (aFind l k).isSome = true then l.map fun p => if p.1 = k then (p.1, v) else p else l ++ [(k, v)]
theorem aFind_nil (k : α) : aFind ([] : List (α × β)) k = none := rfl
theorem aFind_cons (p : α × β) (l : List (α × β)) (k : α) : aFind (p :: l) k = if p.1 = k then some p.2 else aFind l k := by
  unfold aFind
  rw [List.find?_cons]
  by_cases h : p.1 = k
  · rw [if_pos h, decide_eq_true h]; rfl
  · rw [if_neg h, decide_eq_false h]
theorem aFind_app (l m : List (α × β)) (k : α) : aFind (l ++ m) k = (aFind l k).or (aFind m k) := by
  unfold aFind
  rw [List.find?_append]
  cases l.find? fun p => decide (p.1 = k) <;> rfl
theorem aFind_map (l : List (α × β)) (k k' : α) (v : β) : aFind (l.map fun p => if p.1 = k then (p.1, v) else p) k' = if k' = k then (aFind l k').map fun _ => v else aFind l k' := by
  induction l with
  | nil => rw [List.map_nil, aFind_nil]; split <;> rfl
  | cons p l ih =>
    rw [List.map_cons, aFind_cons, aFind_cons, ih]
    by_cases h : p.1 = k
    · rw [if_pos h]
      dsimp only
      by_cases h2 : p.1 = k'
      · rw [if_pos h2, if_pos h2, if_pos (by rw [← h2, h])]; rfl
      · rw [if_neg h2, if_neg h2]
    · rw [if_neg h]
      by_cases h2 : p.1 = k'
      · rw [if_pos h2, if_neg (by rw [← h2]; exact h), if_pos h2]
      · rw [if_neg h2, if_neg h2]
theorem aFind_same (l : List (α × β)) (k : α) (v : β) : aFind (aPut l k v) k = some v := by
  unfold aPut
  split
  · rename_i h
    rw [aFind_map, if_pos rfl]
    obtain ⟨x, hx⟩ := Option.isSome_iff_exists.mp h
    rw [hx]
    rfl
  · rename_i h
    have e : aFind l k = none := by cases hh : aFind l k with
      | none => rfl
      | some x => rw [hh] at h; exact absurd rfl h
    rw [aFind_app, e, aFind_cons, if_pos rfl]
    rfl
theorem aFind_ne (l : List (α × β)) {k k' : α} (v : β) (h : k' ≠ k) : aFind (aPut l k v) k' = aFind l k' := by
  unfold aPut
  split
  · rw [aFind_map, if_neg h]
  · rw [aFind_app, aFind_cons, if_neg (fun e => h e.symm), aFind_nil, Option.or_none]
theorem mem_put {l : List (α × β)} {k : α} {v : β} {e : α × β} (h : e ∈ aPut l k v) : e ∈ l ∨ e = (k, v) := by
  unfold aPut at h
  split at h
  · obtain ⟨p, hp, rfl⟩ := List.mem_map.mp h
    by_cases z : p.1 = k
    · rw [if_pos z]; exact .inr (by rw [z])
    · rw [if_neg z]; exact .inl hp
  · rcases List.mem_append.mp h with h | h
    · exact .inl h
    · exact .inr (List.mem_singleton.mp h)
theorem aFind_mem {l : List (α × β)} {k : α} {v : β} (h : aFind l k = some v) : (k, v) ∈ l := by
  unfold aFind at h
  obtain ⟨p, h1, rfl⟩ := Option.map_eq_some_iff.mp h
  have h2 := List.find?_some h1
  have h3 := List.mem_of_find?_eq_some h1
  rw [← of_decide_eq_true h2]
  exact h3
theorem keys_put (l : List (α × β)) (k : α) (v : β) : (aPut l k v).map (·.1) = if (aFind l k).isSome = true then l.map (·.1) else l.map (·.1) ++ [k] := by
  unfold aPut
  split
  · rw [List.map_map]
    refine List.map_congr_left fun p _ => ?_
    show (if p.1 = k then (p.1, v) else p).1 = p.1
    split <;> rfl
  · rw [List.map_append]
    rfl
theorem aFind_none {l : List (α × β)} {k : α} : aFind l k = none ↔ k ∉ l.map (·.1) := by
  unfold aFind
  rw [Option.map_eq_none_iff, List.find?_eq_none]
  constructor
  · intro h hk
    obtain ⟨p, hp, e⟩ := List.mem_map.mp hk
    exact h p hp (decide_eq_true e)
  · intro h p hp e
    exact h (List.mem_map.mpr ⟨p, hp, of_decide_eq_true e⟩)
theorem aFind_some {l : List (α × β)} {k : α} : (aFind l k).isSome = true ↔ k ∈ l.map (·.1) := by
  constructor
  · intro h
    by_cases z : k ∈ l.map (·.1)
    · exact z
    · rw [aFind_none.mpr z] at h; cases h
  · intro h
    cases e : aFind l k with
    | none => exact absurd h (aFind_none.mp e)
    | some v => rfl
theorem nodup_put {l : List (α × β)} {k : α} {v : β} (h : (l.map (·.1)).Nodup) : ((aPut l k v).map (·.1)).Nodup := by
  rw [keys_put]
  split
  · exact h
  · rename_i z
    refine List.nodup_append.mpr ⟨h, List.pairwise_singleton _ _, fun a ha b hb => ?_⟩
    rw [List.mem_singleton.mp hb]
    intro e
    subst e
    exact z (aFind_some.mpr ha)
theorem put_len (l : List (α × β)) (k : α) (v : β) : (aPut l k v).length ≤ l.length + 1 := by
  unfold aPut
  split
  · rw [List.length_map]; omega
  · rw [List.length_append]; exact Nat.le_refl _
/-- keys as data -/
structure KEnc (enc : α → D) where
  nk : α → NestedKey
  ok : ∀ a, tkey (enc a) = some (nk a)
  inj : ∀ a b, nk a = nk b → a = b
variable {enc : α → D}
theorem KEnc.key (E : KEnc enc) (a : α) : nkey (enc a) = some (E.nk a) := by
  have h := E.ok a
  unfold tkey at h
  split at h
  · rename_i e; rw [e]; exact h
  · cases h
theorem KEnc.eq (E : KEnc enc) (a b : α) : keyEq (enc a) (enc b) = decide (a = b) := by
  rw [key_dec (E.key a) (E.key b), Bool.eq_iff_iff, decide_eq_true_iff, decide_eq_true_iff]
  exact ⟨E.inj a b, fun h => by rw [h]⟩
theorem enc_find (E : KEnc enc) (f : β → D) (l : List (α × β)) (k : α) : dFind (l.map fun p => (enc p.1, f p.2)) (enc k) = (aFind l k).map f := by
  induction l with
  | nil => rfl
  | cons p l ih =>
    rw [aFind_cons]
    unfold dFind at ih ⊢
    rw [List.map_cons, List.find?_cons, E.eq]
    by_cases h : p.1 = k
    · rw [if_pos h, decide_eq_true h]; rfl
    · rw [if_neg h, decide_eq_false h]; exact ih
theorem enc_put (E : KEnc enc) (f : β → D) (l : List (α × β)) (k : α) (v : β) : dPut (l.map fun p => (enc p.1, f p.2)) (enc k) (f v) = (aPut l k v).map fun p => (enc p.1, f p.2) := by
  unfold dPut aPut
  rw [enc_find E, Option.isSome_map]
  split
  · rw [List.map_map, List.map_map]
    refine List.map_congr_left fun p _ => ?_
    show (if keyEq (enc p.1) (enc k) = true then (enc p.1, f v) else (enc p.1, f p.2)) = (enc (if p.1 = k then (p.1, v) else p).1, f (if p.1 = k then (p.1, v) else p).2)
    rw [E.eq]
    by_cases h : p.1 = k
    · rw [if_pos h, decide_eq_true h, if_pos rfl]
    · rw [if_neg h, decide_eq_false h, if_neg Bool.false_ne_true]
  · rw [List.map_append]; rfl
end
/-! tuples of numbers -/
def wsD (ws : List Int) : D := .tuple (ws.map .int)
def rkD (k : Nat × List Int) : D := .tuple [.int k.1, wsD k.2]
theorem toNKs_ints : ∀ (ws : List Int), toNKs (ws.map .int) = some (ws.map .num)
  | [] => rfl
  | w :: ws => by
    rw [List.map_cons, toNKs, toNKs_ints ws]
    rfl
theorem nk_num_inj : ∀ {a b : List Int}, a.map NestedKey.num = b.map NestedKey.num → a = b
  | [], [], _ => rfl
  | x :: xs, y :: ys, h => by
    rw [List.map_cons, List.map_cons] at h
    injection h with h1 h2
    injection h1 with h1
    rw [h1, nk_num_inj h2]
  | [], y :: ys, h => by cases h
  | x :: xs, [], h => by cases h
theorem depths_num : ∀ (ws : List Int), NestedKey.depthAll (ws.map .num) ≤ 1
  | [] => by simp [NestedKey.depthAll]
  | w :: ws => by
    have := depths_num ws
    simp only [List.map_cons, NestedKey.depthAll, NestedKey.depth]
    omega
def wsK : KEnc wsD where
  nk ws := .tup (ws.map .num)
  ok ws := by
    show nkey (.tuple (ws.map .int)) = _
    unfold nkey
    rw [toNK, toNKs_ints]
    have := depths_num ws
    exact if_pos (show NestedKey.depth (.tup (ws.map .num)) ≤ 8 by simp only [NestedKey.depth]; omega)
  inj a b h := by
    injection h with h
    exact nk_num_inj h
def rkK : KEnc rkD where
  nk k := .tup [.num k.1, .tup (k.2.map .num)]
  ok k := by
    show nkey (.tuple [.int k.1, .tuple (k.2.map .int)]) = _
    unfold nkey
    simp only [toNK, toNKs, toNKs_ints]
    have := depths_num k.2
    exact if_pos (show NestedKey.depth (.tup [.num k.1, .tup (k.2.map .num)]) ≤ 8 by simp only [NestedKey.depth, NestedKey.depthAll]; omega)
  inj a b h := by
    injection h with h
    injection h with h1 h2
    injection h1 with h1
    injection h2 with h2
    injection h2 with h2
    have := nk_num_inj h2
    obtain ⟨a1, a2⟩ := a
    obtain ⟨b1, b2⟩ := b
    dsimp only at h1 this
    rw [this, Int.ofNat_inj.mp h1]
/-! sorting -/
def sortI (ws : List Int) : List Int := ws.mergeSort fun a b => decide (a ≤ b)
theorem sortI_perm (ws : List Int) : (sortI ws).Perm ws := List.mergeSort_perm ws _
theorem sortI_sorted (ws : List Int) : (sortI ws).Pairwise fun a b => a ≤ b := by
  have := List.pairwise_mergeSort (le := fun a b : Int => decide (a ≤ b)) (fun a b c h1 h2 => by
    have := of_decide_eq_true h1; have := of_decide_eq_true h2
    exact decide_eq_true (by omega)) (fun a b => by
    by_cases h : a ≤ b
    · simp [h]
    · simp [h]; omega) ws
  exact this.imp fun h => of_decide_eq_true h
theorem sorted_eq : ∀ {a b : List Int}, a.Perm b → (a.Pairwise fun x y => x ≤ y) → (b.Pairwise fun x y => x ≤ y) → a = b
  | [], b, h, _, _ => (List.Perm.nil_eq h)
  | x :: xs, [], h, _, _ => absurd h.symm (by intro z; exact absurd (List.Perm.nil_eq z) (by simp))
  | x :: xs, y :: ys, h, h1, h2 => by
    rw [List.pairwise_cons] at h1 h2
    have e : x = y := by
      have a1 : x ∈ y :: ys := h.subset (List.mem_cons_self ..)
      have a2 : y ∈ x :: xs := h.symm.subset (List.mem_cons_self ..)
      rcases List.mem_cons.mp a1 with r | r
      · exact r
      · rcases List.mem_cons.mp a2 with s | s
        · exact s.symm
        · have := h2.1 x r; have := h1.1 y s
          omega
    subst e
    rw [sorted_eq (List.perm_cons x |>.mp h) h1.2 h2.2]
theorem sortI_eq {a b : List Int} (h : a.Perm b) : sortI a = sortI b := sorted_eq ((sortI_perm a).trans (h.trans (sortI_perm b).symm)) (sortI_sorted a) (sortI_sorted b)
theorem dataLe_int (a b : Int) : W.dataLe false id (.int a) (.int b) = decide (a ≤ b) := by
  show (!W.dataLt (.int b) (.int a)) = _
  rw [W.dataLt_int, W.not_lt_int]
theorem sort_ints (ws : List Int) (h : ws.length ≤ 1000) : sortX (.tuple (ws.map .int)) = some ((sortI ws).map .int) ∧ sortX (.list (ws.map .int)) = some ((sortI ws).map .int) := by
  have ho : okSort (ws.map .int) = true := by
    rw [okSort_iff]
    refine ⟨fun d hd d' hd' => ?_, .inr fun d hd => ?_, by rw [List.length_map]; unfold sizeLine; omega, fun d hd => ?_⟩
    · obtain ⟨a, _, rfl⟩ := List.mem_map.mp hd
      obtain ⟨b, _, rfl⟩ := List.mem_map.mp hd'
      simp [W.alike]
    · obtain ⟨a, _, rfl⟩ := List.mem_map.mp hd
      exact ⟨fun z => (nomatch z), fun _ z => (nomatch z)⟩
    · obtain ⟨a, _, rfl⟩ := List.mem_map.mp hd
      simp [PyData.depth]
  have hs : srt (ws.map .int) = (sortI ws).map .int := by
    unfold srt sortI
    exact (List.map_mergeSort (fun a _ b _ => (dataLe_int a b).symm)).symm
  constructor
  · show (if _ then _ else _) = _
    rw [if_pos ho, hs]
  · show (if _ then _ else _) = _
    rw [if_pos ho, hs]
end Sk
/-! The sets of wishes that plans have: plain mathematics. -/
namespace Sk
open PySem PySem.Spec PyProof.Rows L2 SL
abbrev Rows := List ((Nat × List Int) × (Int × List Nat))
structure Beg where
  last : Option Nat
  ws : List Int
  amt : Int
  p : List Nat
def Sky.wi (S : Sky) (i : Nat) : Int := (S.lk i).w
def setOf (S : Sky) (p : List Nat) : List Int := sortI (p.map S.wi)
theorem set_nil (S : Sky) : setOf S [] = [] := by
  unfold setOf sortI
  rw [List.map_nil, List.mergeSort_nil]
def okB (S : Sky) (i : Nat) (e : (Nat × List Int) × (Int × List Nat)) : Bool := !decide (S.wi i ∈ e.1.2) && decide (S.fin e.1.1 + S.tz e.1.1 i ≤ (S.lk i).s)
def begOf (e : (Nat × List Int) × (Int × List Nat)) : Beg := ⟨some e.1.1, e.1.2, e.2.1, e.2.2⟩
def beg0 : Beg := ⟨none, [], 0, []⟩
def begs (S : Sky) (i : Nat) (rows : Rows) : List Beg := beg0 :: (rows.filter (okB S i)).map begOf
def keyB (S : Sky) (i : Nat) (b : Beg) : Nat × List Int := (i, sortI (b.ws ++ [S.wi i]))
def lowerB (rows : Rows) (k : Nat × List Int) (v : Int) : Bool := match aFind rows k with
  | none => true
  | some u => decide (v < u.1)
def putB (S : Sky) (i : Nat) (rows : Rows) (b : Beg) : Rows := match levelZ S b.last b.amt i with
  | none => rows
  | some v => if lowerB rows (keyB S i b) v = true then aPut rows (keyB S i b) (v, b.p ++ [i]) else rows
def stepR (S : Sky) (rows : Rows) (i : Nat) : Rows := (begs S i rows).foldl (putB S i) rows
def reachZ (S : Sky) (m : Nat) : Rows := (List.range m).foldl (stepR S) []
/-! levels -/
theorem stored_mono {S : Sky} {last : Option Nat} {a b t : Int} (h : a ≤ b) : storedZ S last a t ≤ storedZ S last b t := by
  unfold storedZ
  cases last with
  | none => exact Int.le_refl _
  | some i => exact mx_mono (by omega)
def runB (S : Sky) (p : List Nat) (l : Nat) : Int := runZ S p ((S.fin l).toNat + 1)
theorem plan_vp {S : Sky} (F : Fit S) {p : List Nat} (hp : PlanP S p) : (∀ j ∈ p, j < S.looks.length) → Vp S p p.getLast? (match p.getLast? with | none => 0 | some l => runB S p l) := by
  induction hp with
  | nil => intro _; exact vp_zero S
  | @snoc p i hp g ih =>
    intro h
    rw [last_snoc]
    have ih := ih fun j hj => h j (List.mem_append_left _ hj)
    exact vp_next F ih (h i (List.mem_append_right _ (List.mem_singleton.mpr rfl))) g.t
theorem plan_vp_last {S : Sky} (F : Fit S) {p : List Nat} (hp : PlanP S p) (h : ∀ j ∈ p, j < S.looks.length) {l : Nat} (e : p.getLast? = some l) : Vp S p (some l) (runB S p l) := by
  have := plan_vp F hp h
  rw [e] at this
  exact this
theorem plan_wishes {S : Sky} {p : List Nat} (hp : PlanP S p) : (p.map S.wi).Nodup := by
  induction hp with
  | nil => exact List.Pairwise.nil
  | @snoc p i hp g ih =>
    rw [List.map_append]
    refine List.nodup_append.mpr ⟨ih, List.pairwise_singleton _ _, fun a ha b hb => ?_⟩
    rw [List.mem_singleton.mp hb]
    intro e
    subst e
    exact of_decide_eq_false g.w ha
theorem set_snoc (S : Sky) (p : List Nat) (i : Nat) : sortI (setOf S p ++ [S.wi i]) = setOf S (p ++ [i]) := by
  unfold setOf
  refine sortI_eq ?_
  rw [List.map_append]
  exact (sortI_perm _).append_right _
theorem mem_set {S : Sky} {p : List Nat} {w : Int} : w ∈ setOf S p ↔ w ∈ p.map S.wi := (sortI_perm _).mem_iff
/-- what a beginning is -/
structure BegOk (S : Sky) (m : Nat) (b : Beg) : Prop where
  plan : PlanP S b.p
  lt : ∀ j ∈ b.p, j < m
  vp : Vp S b.p b.last b.amt
  ws : b.ws = setOf S b.p
  o : S.ord b.p m = false
  w : S.wsh b.p m = false
  t : S.trn b.p m = false
structure EntOk (S : Sky) (m : Nat) (e : (Nat × List Int) × (Int × List Nat)) : Prop where
  plan : PlanP S e.2.2
  lt : ∀ j ∈ e.2.2, j < m
  last : e.2.2.getLast? = some e.1.1
  ws : e.1.2 = setOf S e.2.2
  lev : e.2.1 = runB S e.2.2 e.1.1
structure RInv (S : Sky) (m : Nat) (rows : Rows) : Prop where
  ent : ∀ e ∈ rows, EntOk S m e
  low : ∀ p, PlanP S p → (∀ j ∈ p, j < m) → ∀ l, p.getLast? = some l → ∃ v q, aFind rows (l, setOf S p) = some (v, q) ∧ v ≤ runB S p l
  nodup : (rows.map (·.1)).Nodup
  len : rows.length + 1 ≤ 2 ^ m
/-! sets and plans -/
def addS (f : List (List Int × List Nat)) (e : (Nat × List Int) × (Int × List Nat)) : List (List Int × List Nat) := if (aFind f e.1.2).isSome = true then f else aPut f e.1.2 e.2.2
def setsZ (S : Sky) : List (List Int × List Nat) := (reachZ S S.looks.length).foldl addS [([], [])]
/-! worths -/
def sumW (S : Sky) (ws : List Int) : Int := (ws.map S.wo).sum
theorem worth_set {S : Sky} {p : List Nat} (hp : PlanP S p) : worthZ S p = sumW S (setOf S p) := by
  unfold worthZ sumW
  refine perm_sum (List.Perm.map _ ?_)
  obtain ⟨a, b⟩ := wishes_fold S p [] List.Pairwise.nil
  have h1 : (wishesOf S p).Perm (p.map S.wi) := by
    show List.Perm (p.foldl (fun ws i => addW ws (S.lk i).w) []) _
    rw [List.perm_ext_iff_of_nodup a (plan_wishes hp)]
    intro x
    rw [b x]
    constructor
    · intro h; rcases h with h | h
      · cases h
      · exact h
    · exact .inr
  exact h1.trans (sortI_perm _).symm
end Sk
/-! The sets of wishes that plans have: what the program's functions compute. -/
namespace Sk
open PySem PySem.Spec PyProof.Rows L2 SL
def sum_of_c1 : FA := (lLc (iSeq (fV 1)) [2] (gNm 2) gYes (f2 ixD (f2 ixD (fV 0) (fC (.int 1))) (fV 2)))
def F_sum_of : FS := (sRet (f1 sumD (fL (sum_of_c1))))
def R_sum_of : List D → Option D := runP 3 F_sum_of
def reached_b1 (c_level_behind : List D → Option D) : FS := (sT (sSet 8 (fCall c_level_behind (aCons (fV 0) (aCons (fV 6) (aCons (fV 10) (aCons (fV 2) aNil))))))
    (sT (sSet 11 (fTup (aCons (fV 2) (aCons (f1 tupD (fL (l1 sortX (f2 addD (fV 7) (fTup (aCons (fV 3) aNil)))))) aNil))))
    (sIf (gAnd (gT (f2 isNotD (fV 8) (fC .none))) (gOr (gT (fDin true 1 (fV 11))) (gT (f2 ltD (fV 8) (f2 ixD (fDget 1 (fV 11)) (fC (.int 0))))))) (sDput 1 (fV 11) (fTup (aCons (fV 8) (aCons (f2 addD (fV 9) (fL (lDisp (aCons (fV 2) aNil)))) aNil)))) sNext)))
def reached_b2 (c_follows : List D → Option D) : FS := (sIf (gAnd (gT (f2 notInD (fV 3) (fV 7))) (gTru (fCall c_follows (aCons (fV 0) (aCons (fV 6) (aCons (fV 2) aNil)))))) (sApp 5 (fTup (aCons (fV 6) (aCons (fV 7) (aCons (fV 8) (aCons (fV 9) aNil)))))) sNext)
def reached_b3 (c_follows : List D → Option D) (c_level_behind : List D → Option D) : FS := (sT (sSetO 5 (lDisp (aCons (fTup (aCons (fC .none) (aCons (fTup aNil) (aCons (fC (.int 0)) (aCons (fL (lDisp aNil)) aNil))))) aNil)))
    (sT (sForD itemsD 1 [6, 7, 8, 9] (gTp 2 (gsCons (gTp 2 (gsCons (gNm 6) (gsCons (gNm 7) gsNil))) (gsCons (gTp 2 (gsCons (gNm 8) (gsCons (gNm 9) gsNil))) gsNil))) (reached_b2 c_follows))
    (sForW [6, 7, 8, 9, 10, 11] (iSeq (fV 5)) (gTp 4 (gsCons (gNm 6) (gsCons (gNm 7) (gsCons (gNm 10) (gsCons (gNm 9) gsNil))))) (reached_b1 c_level_behind))))
def F_reached (c_follows : List D → Option D) (c_level_behind : List D → Option D) : FS := (sT (sSetD 1 dNil)
    (sT (sForW [2, 3, 4, 5, 6, 7, 8, 9, 10, 11] (iEnumD (f2 ixD (fV 0) (fC (.int 0)))) (gTp 2 (gsCons (gNm 2) (gsCons (gTp 5 (gsCons (gNm 3) (gsCons (gNm 4) (gsCons (gNm 4) (gsCons (gNm 4) (gsCons (gNm 4) gsNil)))))) gsNil))) (reached_b3 c_follows c_level_behind))
    (sRet (fV 1))))
def R_reached : List D → Option D := runP 12 (F_reached R_follows R_level_behind)
def plans_by_set_b1 : FS := (sIf (gT (fDin true 1 (fV 3))) (sDput 1 (fV 3) (fV 4)) sNext)
def F_plans_by_set (c_reached : List D → Option D) : FS := (sT (sSetD 1 (dOne (fTup aNil) (fL (lDisp aNil))))
    (sT (sForW [2, 3, 4] (iDItems (fCall c_reached (aCons (fV 0) aNil))) (gTp 2 (gsCons (gTp 2 (gsCons (gNm 2) (gsCons (gNm 3) gsNil))) (gsCons (gTp 2 (gsCons (gNm 2) (gsCons (gNm 4) gsNil))) gsNil))) (plans_by_set_b1))
    (sRet (fV 1))))
def R_plans_by_set : List D → Option D := runP 5 (F_plans_by_set R_reached)
def F_sets_had (c_plans_by_set : List D → Option D) : FS := (sRet (fL (l1 listKD (fCall c_plans_by_set (aCons (fV 0) aNil)))))
def R_sets_had : List D → Option D := runP 1 (F_sets_had R_plans_by_set)
def greatest_worth_c1 (c_sets_had : List D → Option D) (c_sum_of : List D → Option D) : FA := (lLc (iSeq (fCall c_sets_had (aCons (fV 0) aNil))) [1] (gNm 1) gYes (fCall c_sum_of (aCons (fV 0) (aCons (fV 1) aNil))))
def F_greatest_worth (c_sets_had : List D → Option D) (c_sum_of : List D → Option D) : FS := (sRet (f1 maxD (fL (greatest_worth_c1 c_sets_had c_sum_of))))
def R_greatest_worth : List D → Option D := runP 2 (F_greatest_worth R_sets_had R_sum_of)
/-- a loop whose turns are counted -/
theorem loop_count {α β : Type} {A : FG} {body : FS} (enc : α → D) (E : β → Ev) (step : β → α → β) (P : Nat → β → Prop) : ∀ {xs : List α} {b : β} (n : Nat), P n b → (∀ k b x, k < n + xs.length → x ∈ xs → P k b → ((A (enc x) (E b)).bind body = some (.nx (E (step b x))) ∨ (A (enc x) (E b)).bind body = some (.ct (E (step b x)))) ∧ P (k + 1) (step b x)) →
    loopF A body (xs.map enc) (E b) = some (.nx (E (xs.foldl step b))) ∧ P (n + xs.length) (xs.foldl step b)
  | [], b, n, h, _ => ⟨rfl, h⟩
  | x :: xs, b, n, h, hs => by
    obtain ⟨h1, h2⟩ := hs n b x (by rw [List.length_cons]; omega) (List.mem_cons_self ..) h
    have ih := loop_count enc E step P (xs := xs) (n + 1) h2 fun k b y hk hy => hs k b y (by rw [List.length_cons]; omega) (List.mem_cons_of_mem _ hy)
    refine ⟨?_, by rw [List.length_cons, List.foldl_cons, show n + (xs.length + 1) = n + 1 + xs.length by omega]; exact ih.2⟩
    rw [List.foldl_cons, ← ih.1]
    show (A (enc x) (E b)).bind _ = _
    cases hA : A (enc x) (E b) with
    | none => rw [hA] at h1; rcases h1 with h1 | h1 <;> cases h1
    | some r1 =>
      rw [hA] at h1
      show (match body r1 with | some (.nx r2) => loopF A body (xs.map enc) r2 | some (.ct r2) => loopF A body (xs.map enc) r2 | some (.bk r2) => some (.nx r2) | o => o) = _
      rcases h1 with h1 | h1
      · have h1' : body r1 = some (.nx (E (step b x))) := h1
        rw [h1']
      · have h1' : body r1 = some (.ct (E (step b x))) := h1
        rw [h1']
def rvD (v : Int × List Nat) : D := .tuple [.int v.1, namesD v.2]
def rowE (e : (Nat × List Int) × (Int × List Nat)) : D × D := (rkD e.1, rvD e.2)
def begD (b : Beg) : D := .tuple [lastD b.last, wsD b.ws, .int b.amt, namesD b.p]
theorem nin_ws (ws : List Int) (x : Int) : notInD (.int x) (wsD ws) = some (.bool (!decide (x ∈ ws))) := by
  have h := nin_ints ws x
  unfold notInD at h ⊢
  unfold wsD
  have s2 : shp (.tuple (ws.map .int)) = true := (Sh.tuple (n := 0) fun d hd => by
    obtain ⟨i, _, rfl⟩ := List.mem_map.mp hd
    exact Sh.int 0 _ : Sh 1 _).shp
  show (if _ then _ else _) = _
  have h2 : (if shp (.int x) = true ∧ shp (.list (ws.map .int)) = true then some (PyData.bool (!(ws.map PyData.int).any fun z => PyData.eqv z (.int x))) else none) = some (.bool (!decide (x ∈ ws))) := h
  rw [if_pos ⟨(Sh.int 0 _).shp, (Sh.ints ws).shp⟩] at h2
  rw [if_pos ⟨(Sh.int 0 _).shp, s2⟩]
  exact h2
theorem ws_add (ws : List Int) (w : Int) (h : ws.length ≤ 1000) : addD (wsD ws) (.tuple [.int w]) = some (wsD (ws ++ [w])) := by
  unfold wsD
  show (if _ then _ else _) = _
  rw [if_pos (by rw [List.length_map]; show ws.length + 1 ≤ _; unfold sizeLine; omega), List.map_append]
  rfl
abbrev A4 : FG := (gTp 2 (gsCons (gTp 2 (gsCons (gNm 6) (gsCons (gNm 7) gsNil))) (gsCons (gTp 2 (gsCons (gNm 8) (gsCons (gNm 9) gsNil))) gsNil)))
abbrev A4b : FG := (gTp 4 (gsCons (gNm 6) (gsCons (gNm 7) (gsCons (gNm 10) (gsCons (gNm 9) gsNil)))))
theorem tup_list (ds : List D) : tupD (.list ds) = some (.tuple ds) := rfl
def lowF : Option D → Int → Bool
  | some (.tuple (.int u :: _)), v => decide (v < u)
  | _, _ => true
def resB (lev : Option Int) (ds : List (D × D)) (fd : Option D) (k n : D) : List (D × D) := match lev with
  | none => ds
  | some v => if lowF fd v = true then dPut ds k (.tuple [.int v, n]) else ds
theorem plan_len {S : Sky} {p : List Nat} (hp : PlanP S p) : ∀ m, (∀ j ∈ p, j < m) → p.length ≤ m := by
  induction hp with
  | nil => intro m _; exact Nat.zero_le _
  | @snoc q i hq g ih =>
    intro m h
    have hi := h i (List.mem_append_right _ (List.mem_singleton.mpr rfl))
    have := ih i fun j hj => ord_lt hq i g.o j hj
    rw [List.length_append, List.length_singleton]
    omega
theorem set_len {S : Sky} {p : List Nat} : (setOf S p).length = p.length := by
  unfold setOf
  rw [(sortI_perm _).length_eq, List.length_map]
def stepB (S : Sky) (i : Nat) (bs : List Beg) (e : (Nat × List Int) × (Int × List Nat)) : List Beg := if okB S i e = true then bs ++ [begOf e] else bs
abbrev A2 : FG := (gTp 2 (gsCons (gNm 2) (gsCons (gTp 5 (gsCons (gNm 3) (gsCons (gNm 4) (gsCons (gNm 4) (gsCons (gNm 4) (gsCons (gNm 4) gsNil)))))) gsNil)))
/-! plans_by_set .. -/
def psE (x : List Int × List Nat) : D × D := (wsD x.1, namesD x.2)
abbrev A3 : FG := (gTp 2 (gsCons (gTp 2 (gsCons (gNm 2) (gsCons (gNm 3) gsNil))) (gsCons (gTp 2 (gsCons (gNm 2) (gsCons (gNm 4) gsNil))) gsNil)))
def hadZ (S : Sky) : List (List Int) := (setsZ S).map (·.1)
theorem sum_lc (SD WD : D) (ws : List Int) (f : Int → Int) (h1 : ixD SD (.int 1) = some WD) (hf : ∀ w ∈ ws, ixD WD (.int w) = some (.int (f w))) (hl : ws.length ≤ 1000) :
    sum_of_c1 [some (.val SD), some (.val (wsD ws)), none] = some ((ws.map f).map .int, [some (.val SD), some (.val (wsD ws)), none]) := by
  unfold sum_of_c1
  rw [lLc_eq (ds := ws.map .int) (r0 := [some (.val SD), some (.val (wsD ws)), none]) (zs := (ws.map f).map .int) (w := [some (.val SD), some (.val (wsD ws)), none]) rfl ?b ?c]
  · rfl
  case b =>
    rw [List.map_map]
    exact lcF_all (fun (w : Int) => (.int w : D)) _ rfl fun w hw => ⟨_, [some (.val SD), some (.val (wsD ws)), some (.val (.int w))], rfl, by simp [h1, hf w hw], rfl⟩
  case c => exact small_len (by simp; omega)
def Sky.has (S : Sky) (w : Int) : Prop := 0 ≤ w ∧ w < S.worths.length
theorem sum_ok {S : Sky} (ws : List Int) (hw : ∀ w ∈ ws, S.has w) (hl : ws.length ≤ 1000) : R_sum_of [skyD S, wsD ws] = some (.int (sumW S ws)) := by
  have lc := sum_lc (skyD S) _ ws S.wo (sky_i1 S) (fun w h => wo_ix (hw w h).1 (hw w h).2) hl
  have sm := sum_ints (ws.map S.wo)
  unfold R_sum_of runP F_sum_of sumW
  generalize (ws.map S.wo).map PyData.int = zs at lc sm
  simp [startE, lc, sm]
theorem max_ints {ns : List Int} (h : ns ≠ []) : maxD (.list (ns.map .int)) = some (.int (maxI ns)) := by
  show (intsOf _).bind _ = _
  rw [intsOf_map]
  show (if _ then _ else _) = _
  rw [if_neg h]
theorem min_ints {ns : List Int} (h : ns ≠ []) : minD (.list (ns.map .int)) = some (.int (minI ns)) := by
  show (intsOf _).bind _ = _
  rw [intsOf_map]
  show (if _ then _ else _) = _
  rw [if_neg h]
def bestZ (S : Sky) : Int := maxI ((hadZ S).map (sumW S))
end Sk
/-! Plans on the law's side; close skies. -/
namespace Sk
open PySem PySem.Spec PyProof.Rows L2 SL
/-- one turn of a comprehension -/
def lcTurn (vs : List Nat) (A : FG) (t : FT) (f : FE) (d : D) (w : Ev) : Option (Option D × Ev) := (A d w).bind fun r1 => (t r1).bind fun y => if y.1 = true then (f y.2).map fun z => (some z.1, wipeE z.2 vs) else some (none, wipeE y.2 vs)
theorem lc_run {src : FA} {vs : List Nat} {A : FG} {t : FT} {f : FE} {r r0 w : Ev} {α : Type} (enc : α → D) (p : α → Bool) (g : α → D) {xs : List α} (h1 : src r = some (xs.map enc, r0)) (hw : wipeE r0 vs = w) (h : ∀ x ∈ xs, lcTurn vs A t f (enc x) w = some (if p x = true then some (g x) else none, w)) (hl : xs.length ≤ 10000000) :
    lLc src vs A t f r = some ((xs.filter p).map g, backE r0 w vs) := by
  refine lLc_eq h1 (lcF_gen enc p g hw fun x hx => ?_) (small_len (by rw [List.length_map]; have := List.length_filter_le p xs; omega))
  have h2 := h x hx
  unfold lcTurn at h2
  obtain ⟨r1, a1, h2⟩ := Option.bind_eq_some_iff.mp h2
  obtain ⟨⟨b, r2⟩, a2, h2⟩ := Option.bind_eq_some_iff.mp h2
  dsimp only at h2
  split at h2
  · rename_i hb
    obtain ⟨⟨z, r3⟩, a3, h3⟩ := Option.map_eq_some_iff.mp h2
    injection h3 with h4 h5
    have hp : p x = true := by
      by_cases hp : p x = true
      · exact hp
      · rw [if_neg hp] at h4; cases h4
    rw [if_pos hp] at h4
    dsimp only at h4 h5
    injection h4 with h4
    subst h4
    exact ⟨r1, r2, a1, by rw [a2]; have hb' : b = true := hb; rw [hb', hp], fun _ => ⟨r3, a3, h5⟩, fun z => by rw [hp] at z; cases z⟩
  · rename_i hb
    injection h2 with h3
    injection h3 with h4 h5
    have hp : p x = false := by
      cases e : p x with
      | false => rfl
      | true => rw [e, if_pos rfl] at h4; cases h4
    have hb' : b = false := by
      cases b with
      | false => rfl
      | true => exact absurd rfl hb
    exact ⟨r1, r2, a1, by rw [a2, hb', hp], fun z => (by rw [hp] at z; cases z), fun _ => h5⟩
theorem lc_run1 {src : FA} {vs : List Nat} {A : FG} {t : FT} {f : FE} {r r0 w : Ev} {α : Type} (enc : α → D) (g : α → D) {xs : List α} (h1 : src r = some (xs.map enc, r0)) (hw : wipeE r0 vs = w) (h : ∀ x ∈ xs, lcTurn vs A t f (enc x) w = some (some (g x), w)) (hl : xs.length ≤ 10000000) :
    lLc src vs A t f r = some (xs.map g, backE r0 w vs) := by
  have := lc_run enc (fun _ => true) g h1 hw (fun x hx => by rw [h x hx]; rfl) hl
  rwa [List.filter_eq_self.mpr fun _ _ => rfl] at this
def _law_close_sky_c1 : FA := (lLc (iRng1 (f1 lenD (fV 1))) [11] (gNm 11) gYes (f2 addD (fTup (aCons (f2 modD (f1 intD (f2 addD (f2 ixD (f2 ixD (fV 1) (fV 11)) (fC (.int 0))) (fV 11))) (fC (.int 6))) aNil)) (fCut (f2 ixD (fV 1) (fV 11)) (oSome (fC (.int 1))) oNone)))
def _law_close_sky_c2 : FA := (lLc (iRng1 (fC (.int 6))) [11] (gNm 11) gYes (f2 modD (f1 intD (f2 ixD (fV 0) (f2 addD (fC (.int 53)) (fV 11)))) (fC (.int 10))))
def _law_close_sky_c3 : FA := (lLc (iSeq (fV 1)) [6, 7, 8, 9, 10] (gTp 5 (gsCons (gNm 6) (gsCons (gNm 7) (gsCons (gNm 8) (gsCons (gNm 9) (gsCons (gNm 10) gsNil)))))) gYes (fTup (aCons (fV 6) (aCons (f2 divD (fV 7) (fC (.int 2))) (aCons (fV 8) (aCons (fV 9) (aCons (fV 10) aNil)))))))
def F__law_close_sky (c__law_sky : List D → Option D) : FS := (sT (sAsg (fCall c__law_sky (aCons (fV 0) (aCons (fC (.int 6)) aNil))) (gTp 5 (gsCons (gNm 1) (gsCons (gNm 2) (gsCons (gNm 3) (gsCons (gNm 4) (gsCons (gNm 5) gsNil)))))))
    (sT (sIf (gT (f2 eqD (f2 modD (f1 intD (f2 ixD (fV 0) (fC (.int 50)))) (fC (.int 2))) (fC (.int 0)))) (sSet 1 (fL (_law_close_sky_c3))) sNext)
    (sT (sIf (gT (f2 eqD (f2 modD (f1 intD (f2 ixD (fV 0) (fC (.int 52)))) (fC (.int 3))) (fC (.int 0)))) (sT (sSet 2 (fL (_law_close_sky_c2)))
    (sSet 1 (fL (_law_close_sky_c1)))) sNext)
    (sRet (fTup (aCons (fV 1) (aCons (fV 2) (aCons (fV 3) (aCons (f2 addD (fC (.int 2)) (f2 modD (f1 intD (f2 ixD (fV 0) (fC (.int 51)))) (fC (.int 5)))) (aCons (fV 5) aNil))))))))))
def R__law_close_sky : List D → Option D := runP 12 (F__law_close_sky R__law_sky)
def F__law_lists : FS := (sSeq (sSet 1 (fL (lDisp (aCons (fL (lDisp aNil)) aNil))))
    (sSeq (sFor (iRng1 (f1 lenD (f2 ixD (fV 0) (fC (.int 0))))) (gNm 2) (sSet 1 (f2 addD (fV 1) (fL (lLc (iSeq (fV 1)) [3] (gNm 3) gYes (f2 addD (fV 3) (fL (lDisp (aCons (fV 2) aNil)))))))))
    (sRet (fV 1))))
def R__law_lists : List D → Option D := runP 4 F__law_lists
theorem li_lc (SD PD : D) (k : Nat) (ls : List (List Nat)) (eP : PD = plistD ls) (hl : ls.length ≤ 500) (hk : ∀ p ∈ ls, p.length ≤ 500) :
    lLc (iSeq (fV 1)) [3] (gNm 3) gYes (f2 addD (fV 3) (fL (lDisp (aCons (fV 2) aNil)))) [some (.val SD), some (.val PD), some (.val (.int k)), none] =
      some ((ls.map fun p => p ++ [k]).map namesD, [some (.val SD), some (.val PD), some (.val (.int k)), none]) := by
  rw [List.map_map]
  refine (lc_run1 namesD _ (r0 := [some (.val SD), some (.val PD), some (.val (.int k)), none]) (by rw [eP]; rfl) rfl (fun p hp => ?_) (by omega)).trans rfl
  have h := names_add p [k] (by have := hk p hp; simp; omega)
  have e : namesD [k] = .list [.int k] := rfl
  rw [e] at h
  show _ = some (some (namesD (p ++ [k])), _)
  generalize namesD (p ++ [k]) = z at h ⊢
  generalize namesD p = y at h ⊢
  simp [lcTurn, h]
def liBody : FS := (sSet 1 (f2 addD (fV 1) (fL (lLc (iSeq (fV 1)) [3] (gNm 3) gYes (f2 addD (fV 3) (fL (lDisp (aCons (fV 2) aNil))))))))
theorem li_ok (S : Sky) (hn : S.looks.length ≤ 6) : R__law_lists [skyD S] = some (plistD (lst S.looks.length)) := by
  have pw : ∀ k, k ≤ 6 → (lst k).length ≤ 64 := fun k hk => by
    rw [lst_len]
    exact Nat.pow_le_pow_right (by decide) hk
  obtain ⟨r', h1, c2, rfl⟩ := loop_all (A := gNm 2) (body := liBody) (items := rngL 0 S.looks.length) (r := [some (.val (skyD S)), some (.val (plistD (lst 0))), none, none])
    (fun k r => ∃ c2 : Option Cell, r = [some (.val (skyD S)), some (.val (plistD (lst k))), c2, none])
    ⟨none, rfl⟩ fun k d r e ⟨c2, er⟩ => by
      subst er
      obtain ⟨hk, rfl⟩ := rngL_get e
      rw [show (0 : Int) + (k : Int) = k from Int.zero_add _]
      have hl := pw k (by omega)
      have lc := li_lc (skyD S) (plistD (lst k)) k (lst k) rfl (by omega) fun p hp => by have := (lst_lt k p hp).2; omega
      have ad := plist_add (lst k) ((lst k).map fun p => p ++ [k]) (by rw [List.length_map]; omega)
      refine ⟨_, [some (.val (skyD S)), some (.val (plistD (lst (k + 1)))), some (.val (.int k)), none], rfl, .inl ?_, _, rfl⟩
      have e2 : plistD ((lst k).map fun p => p ++ [k]) = .list (((lst k).map fun p => p ++ [k]).map namesD) := rfl
      have e3 : plistD (lst k ++ (lst k).map fun p => p ++ [k]) = plistD (lst (k + 1)) := rfl
      rw [e2, e3] at ad
      generalize ((lst k).map fun p => p ++ [k]).map namesD = zs at lc ad
      generalize plistD (lst (k + 1)) = z at ad ⊢
      generalize plistD (lst k) = y at lc ad ⊢
      generalize skyD S = SD at lc ⊢
      unfold liBody
      simp [lc, ad]
  rw [rngL_length] at h1
  have e5 : lenD (.list (S.looks.map lD)) = some (.int S.looks.length) := by
    show some (PyData.int _) = _
    rw [List.length_map]
  have hr := okR_of (i := (S.looks.length : Int)) (by omega) (by omega)
  have h0 := sky_i0 S
  unfold R__law_lists runP F__law_lists
  rw [sSeq_nx (r1 := [some (.val (skyD S)), some (.val (plistD (lst 0))), none, none]) rfl,
    sSeq_nx (by rw [sFor_eq (ds := rngL 0 S.looks.length) (r1 := [some (.val (skyD S)), some (.val (plistD (lst 0))), none, none]) (by
      generalize plistD (lst 0) = y
      generalize PyData.list (S.looks.map lD) = LD at h0 e5
      generalize skyD S = SD at h0 ⊢
      simp [SL.iRng1, h0, e5, hr])]; exact h1)]
  simp
/-! all plans -/
theorem plan_asc {S : Sky} {p : List Nat} (hp : PlanP S p) : p.Pairwise (· < ·) := by
  induction hp with
  | nil => exact List.Pairwise.nil
  | @snoc q i hq g ih =>
    refine List.pairwise_append.mpr ⟨ih, List.pairwise_singleton _ _, fun a ha b hb => ?_⟩
    rw [List.mem_singleton.mp hb]
    exact ord_lt hq i g.o a ha
theorem asc_lst : ∀ (n : Nat) {p : List Nat}, p.Pairwise (· < ·) → (∀ j ∈ p, j < n) → p ∈ lst n
  | 0, p, _, h => by
    cases p with
    | nil => exact List.mem_singleton.mpr rfl
    | cons a as => exact absurd (h a (List.mem_cons_self ..)) (Nat.not_lt_zero _)
  | n + 1, p, hp, h => by
    rcases List.eq_nil_or_concat p with rfl | ⟨q, i, rfl⟩
    · exact List.mem_append_left _ (asc_lst n List.Pairwise.nil fun j hj => (by cases hj))
    · rw [List.concat_eq_append] at hp h ⊢
      obtain ⟨h1, _, h3⟩ := List.pairwise_append.mp hp
      have hi := h i (List.mem_append_right _ (List.mem_singleton.mpr rfl))
      have hq : ∀ j ∈ q, j < i := fun j hj => h3 j hj i (List.mem_singleton.mpr rfl)
      by_cases e : i = n
      · subst e
        exact List.mem_append_right _ (List.mem_map.mpr ⟨q, asc_lst i h1 hq, rfl⟩)
      · refine List.mem_append_left _ (asc_lst n hp fun j hj => ?_)
        rcases List.mem_append.mp hj with hj | hj
        · have := hq j hj; omega
        · rw [List.mem_singleton.mp hj]; omega
def plansL (S : Sky) : List (List Nat) := (lst S.looks.length).filter fun p => isN (S.wrongD p)
/-! close skies -/
def half (x : Look) : Look := ⟨x.w, x.s / 2, x.l, x.a, x.z⟩
def shift6 (ls : List Look) (k : Nat) : Look := ⟨((ls.getD k ⟨0, 0, 1, 0, 1⟩).w + k) % 6, (ls.getD k ⟨0, 0, 1, 0, 1⟩).s, (ls.getD k ⟨0, 0, 1, 0, 1⟩).l, (ls.getD k ⟨0, 0, 1, 0, 1⟩).a, (ls.getD k ⟨0, 0, 1, 0, 1⟩).z⟩
theorem sT_nx {F F' : FS} {r r1 : Ev} (h : F r = some (.nx r1)) : sT F F' r = F' r1 := by
  unfold sT
  rw [h]
  rfl
theorem all_bools (bs : List Bool) : allD (.list (bs.map .bool)) = some (.bool (bs.all id)) := by
  show (boolsOf _).map _ = _
  rw [boolsOf_map]
  rfl
end Sk
/-! Skies without a look. -/
namespace Sk
open PySem PySem.Spec PyProof.Rows L2 SL
theorem lcP_run {i : Nat} {vs : List Nat} {A : FG} {t : FT} {f : FE} {r w : Ev} {α : Type} (enc : α → D) (p : α → Bool) (g : α → D) {xs : List α} (h1 : r[i]? = some (some (.own (xs.map enc)))) (hw : wipeE (r.set i none) vs = w) (h : ∀ x ∈ xs, lcTurn vs A t f (enc x) w = some (if p x = true then some (g x) else none, w)) (hl : xs.length ≤ 10000000) :
    lLcP i vs A t f r = some ((xs.filter p).map g, (backE (r.set i none) w vs).set i (some (.own (xs.map enc)))) := by
  have h2 := lc_run (src := fun _ => some (xs.map enc, r.set i none)) (vs := vs) (A := A) (t := t) (f := f) (r := r) (r0 := r.set i none) (w := w) enc p g rfl hw h hl
  unfold lLc at h2
  unfold lLcP
  rw [h1]
  have h3 : ((lcF vs A t f (xs.map enc) (r.set i none)).bind fun z => if z.1.length < sizeLine then some (z.1, backE (r.set i none) z.2 vs) else none) = some ((xs.filter p).map g, backE (r.set i none) w vs) := h2
  obtain ⟨z, hz, h4⟩ := Option.bind_eq_some_iff.mp h3
  show (lcF vs A t f (xs.map enc) (r.set i none)).bind _ = _
  rw [hz]
  show (if _ then _ else _) = _
  split at h4
  · rename_i hh
    injection h4 with h5
    injection h5 with h6 h7
    rw [if_pos hh, h6, h7]
  · cases h4
theorem lcP_run1 {i : Nat} {vs : List Nat} {A : FG} {t : FT} {f : FE} {r w : Ev} {α : Type} (enc : α → D) (g : α → D) {xs : List α} (h1 : r[i]? = some (some (.own (xs.map enc)))) (hw : wipeE (r.set i none) vs = w) (h : ∀ x ∈ xs, lcTurn vs A t f (enc x) w = some (some (g x), w)) (hl : xs.length ≤ 10000000) :
    lLcP i vs A t f r = some (xs.map g, (backE (r.set i none) w vs).set i (some (.own (xs.map enc)))) := by
  have := lcP_run enc (fun _ => true) g h1 hw (fun x hx => by rw [h x hx]; rfl) hl
  rwa [List.filter_eq_self.mpr fun _ _ => rfl] at this
def up (i j : Nat) : Nat := if j < i then j else j + 1
def Sky.out (S : Sky) (i : Nat) : Sky := ⟨S.looks.take i ++ S.looks.drop (i + 1), S.worths, S.ears, S.cap, S.turn⟩
section
variable {S : Sky} {i : Nat} (hi : i < S.looks.length)
include hi
def dn (i j : Nat) : Nat := if j < i then j else j - 1
end
/-! what a look is worth -/
end Sk
/-! The least needs of sets of wishes: plain mathematics. -/
namespace Sk
open PySem PySem.Spec PyProof.Rows L2 SL
/-! pairs -/
def leP (a b : Int × Int) : Bool := decide (a.1 < b.1 ∨ (a.1 = b.1 ∧ a.2 ≤ b.2))
def keepP (found : List (Int × Int)) (x : Int × Int) : List (Int × Int) := match found.getLast? with
  | none => found ++ [x]
  | some y => if x.2 < y.2 then found ++ [x] else found
def sortP (xs : List (Int × Int)) : List (Int × Int) := xs.mergeSort leP
def lowZ (xs : List (Int × Int)) : List (Int × Int) := (sortP xs).foldl keepP []
theorem sortP_perm (xs : List (Int × Int)) : (sortP xs).Perm xs := List.mergeSort_perm xs _
theorem sortP_sorted (xs : List (Int × Int)) : (sortP xs).Pairwise fun a b => a.1 ≤ b.1 := by
  have := List.pairwise_mergeSort (le := leP) (fun a b c h1 h2 => by
    have := of_decide_eq_true h1; have := of_decide_eq_true h2
    exact decide_eq_true (by omega)) (fun a b => by
    rw [Bool.or_eq_true]
    unfold leP
    rw [decide_eq_true_iff, decide_eq_true_iff]
    omega) xs
  exact this.imp fun h => by have := of_decide_eq_true h; omega
def DomP (xs : List (Int × Int)) (a : Int × Int) : Prop := ∃ y ∈ xs, y.1 ≤ a.1 ∧ y.2 ≤ a.2
theorem keep_sub (found : List (Int × Int)) (x : Int × Int) : ∀ y ∈ found, y ∈ keepP found x := fun y hy => by
  unfold keepP
  split
  · exact List.mem_append_left _ hy
  · split
    · exact List.mem_append_left _ hy
    · exact hy
theorem keep_mem {found : List (Int × Int)} {x y : Int × Int} (h : y ∈ keepP found x) : y ∈ found ∨ y = x := by
  unfold keepP at h
  split at h
  · rcases List.mem_append.mp h with h | h
    · exact .inl h
    · exact .inr (List.mem_singleton.mp h)
  · split at h
    · rcases List.mem_append.mp h with h | h
      · exact .inl h
      · exact .inr (List.mem_singleton.mp h)
    · exact .inl h
theorem keep_dom {found : List (Int × Int)} {x : Int × Int} (h : ∀ y ∈ found, y.1 ≤ x.1) : DomP (keepP found x) x := by
  unfold keepP
  split
  · exact ⟨x, List.mem_append_right _ (List.mem_singleton.mpr rfl), Int.le_refl _, Int.le_refl _⟩
  · rename_i y hy
    split
    · exact ⟨x, List.mem_append_right _ (List.mem_singleton.mpr rfl), Int.le_refl _, Int.le_refl _⟩
    · exact ⟨y, List.mem_of_getLast? hy, h y (List.mem_of_getLast? hy), by omega⟩
theorem keep_len (found : List (Int × Int)) (x : Int × Int) : (keepP found x).length ≤ found.length + 1 := by
  unfold keepP
  split
  · rw [List.length_append]; exact Nat.le_refl _
  · split
    · rw [List.length_append]; exact Nat.le_refl _
    · omega
theorem fold_keep : ∀ (xs found : List (Int × Int)), (xs.Pairwise fun a b => a.1 ≤ b.1) → (∀ y ∈ found, ∀ x ∈ xs, y.1 ≤ x.1) →
    (∀ y ∈ found, y ∈ xs.foldl keepP found) ∧ (∀ y ∈ xs.foldl keepP found, y ∈ found ∨ y ∈ xs) ∧ (∀ x ∈ xs, DomP (xs.foldl keepP found) x) ∧ (xs.foldl keepP found).length ≤ found.length + xs.length
  | [], found, _, _ => ⟨fun y h => h, fun y h => .inl h, fun x h => (by cases h), Nat.le_refl _⟩
  | x :: xs, found, hp, hf => by
    rw [List.pairwise_cons] at hp
    obtain ⟨h1, h2, h3, h4⟩ := fold_keep xs (keepP found x) hp.2 fun y hy z hz => by
      rcases keep_mem hy with hy | rfl
      · exact hf y hy z (List.mem_cons_of_mem _ hz)
      · exact hp.1 z hz
    rw [List.foldl_cons]
    refine ⟨fun y hy => h1 y (keep_sub found x y hy), fun y hy => ?_, fun z hz => ?_, ?_⟩
    · rcases h2 y hy with h | h
      · rcases keep_mem h with h | rfl
        · exact .inl h
        · exact .inr (List.mem_cons_self ..)
      · exact .inr (List.mem_cons_of_mem _ h)
    · rcases List.mem_cons.mp hz with rfl | hz
      · obtain ⟨y, hy, a, b⟩ := keep_dom (found := found) (x := z) fun y hy => hf y hy z (List.mem_cons_self ..)
        exact ⟨y, h1 y hy, a, b⟩
      · exact h3 z hz
    · have := keep_len found x
      rw [List.length_cons]
      omega
theorem low_mem {xs : List (Int × Int)} {y : Int × Int} (h : y ∈ lowZ xs) : y ∈ xs := by
  obtain ⟨_, h2, _⟩ := fold_keep (sortP xs) [] (sortP_sorted xs) fun y hy => by cases hy
  rcases h2 y h with h | h
  · cases h
  · exact (sortP_perm xs).mem_iff.mp h
theorem low_dom {xs : List (Int × Int)} {x : Int × Int} (h : x ∈ xs) : DomP (lowZ xs) x := by
  obtain ⟨_, _, h3, _⟩ := fold_keep (sortP xs) [] (sortP_sorted xs) fun y hy => by cases hy
  exact h3 x ((sortP_perm xs).mem_iff.mpr h)
theorem low_len (xs : List (Int × Int)) : (lowZ xs).length ≤ xs.length := by
  obtain ⟨_, _, _, h4⟩ := fold_keep (sortP xs) [] (sortP_sorted xs) fun y hy => by cases hy
  have := (sortP_perm xs).length_eq
  simp only [List.length_nil] at h4
  unfold lowZ
  omega
/-! rows -/
abbrev RowsN := List ((Nat × List Int) × List (Int × Int))
structure BegN where
  last : Option Nat
  ws : List Int
  amt : Int
  nd : Int
def okN (S : Sky) (i : Nat) (e : (Nat × List Int) × List (Int × Int)) : Bool := !decide (S.wi i ∈ e.1.2) && decide (S.fin e.1.1 + S.tz e.1.1 i ≤ (S.lk i).s)
def begN0 : BegN := ⟨none, [], 0, 0⟩
def begsOf (e : (Nat × List Int) × List (Int × Int)) : List BegN := e.2.map fun x => ⟨some e.1.1, e.1.2, x.1, x.2⟩
def stepBN (S : Sky) (i : Nat) (bs : List BegN) (e : (Nat × List Int) × List (Int × Int)) : List BegN := if okN S i e = true then bs ++ begsOf e else bs
def begsN (S : Sky) (i : Nat) (rows : RowsN) : List BegN := rows.foldl (stepBN S i) [begN0]
def keyN (S : Sky) (i : Nat) (b : BegN) : Nat × List Int := (i, sortI (b.ws ++ [S.wi i]))
def pairN (S : Sky) (i : Nat) (b : BegN) : Int × Int := (storedZ S b.last b.amt (S.fin i) + (S.lk i).z, mx b.nd (storedZ S b.last b.amt (S.lk i).s + (S.lk i).z))
def putN (S : Sky) (i : Nat) (rows : RowsN) (b : BegN) : RowsN := aPut rows (keyN S i b) (lowZ ((aFind rows (keyN S i b)).getD [] ++ [pairN S i b]))
def stepN (S : Sky) (rows : RowsN) (i : Nat) : RowsN := (begsN S i rows).foldl (putN S i) rows
def rowsN (S : Sky) (m : Nat) : RowsN := (List.range m).foldl (stepN S) []
theorem rowsN_succ (S : Sky) (m : Nat) : rowsN S (m + 1) = stepN S (rowsN S m) m := by
  unfold rowsN
  rw [List.range_succ, List.foldl_append]
  rfl
theorem begsN_mem {S : Sky} {i : Nat} {b : BegN} : ∀ {rows : RowsN} {bs : List BegN}, b ∈ rows.foldl (stepBN S i) bs ↔ b ∈ bs ∨ ∃ e ∈ rows, okN S i e = true ∧ b ∈ begsOf e
  | [], bs => by simp
  | e :: rows, bs => by
    rw [List.foldl_cons, begsN_mem]
    unfold stepBN
    by_cases h : okN S i e = true
    · rw [if_pos h, List.mem_append]
      constructor
      · intro z
        rcases z with (z | z) | ⟨e', h1, h2⟩
        · exact .inl z
        · exact .inr ⟨e, List.mem_cons_self .., h, z⟩
        · exact .inr ⟨e', List.mem_cons_of_mem _ h1, h2⟩
      · intro z
        rcases z with z | ⟨e', h1, h2⟩
        · exact .inl (.inl z)
        · rcases List.mem_cons.mp h1 with rfl | h1
          · exact .inl (.inr h2.2)
          · exact .inr ⟨e', h1, h2⟩
    · rw [if_neg h]
      constructor
      · intro z
        rcases z with z | ⟨e', h1, h2⟩
        · exact .inl z
        · exact .inr ⟨e', List.mem_cons_of_mem _ h1, h2⟩
      · intro z
        rcases z with z | ⟨e', h1, h2⟩
        · exact .inl z
        · rcases List.mem_cons.mp h1 with rfl | h1
          · exact absurd h2.1 h
          · exact .inr ⟨e', h1, h2⟩
def tot (rows : RowsN) : Nat := (rows.map fun e => e.2.length).sum
theorem begsN_len {S : Sky} {i : Nat} : ∀ {rows : RowsN} {bs : List BegN}, (rows.foldl (stepBN S i) bs).length ≤ bs.length + tot rows
  | [], bs => Nat.le_refl _
  | e :: rows, bs => by
    have := begsN_len (S := S) (i := i) (rows := rows) (bs := stepBN S i bs e)
    have h : (stepBN S i bs e).length ≤ bs.length + e.2.length := by
      unfold stepBN begsOf
      split
      · rw [List.length_append, List.length_map]; exact Nat.le_refl _
      · omega
    rw [List.foldl_cons]
    show _ ≤ bs.length + (e.2.length + tot rows)
    omega
theorem tot_map (k : Nat × List Int) (v : List (Int × Int)) : ∀ {rows : RowsN}, (rows.map (·.1)).Nodup → tot (rows.map fun p => if p.1 = k then (p.1, v) else p) ≤ tot rows + v.length - ((aFind rows k).getD []).length ∧ ((aFind rows k).getD []).length ≤ tot rows
  | [], _ => ⟨by simp [tot], Nat.le_refl _⟩
  | e :: rows, h => by
    rw [List.map_cons, List.nodup_cons] at h
    obtain ⟨i1, i2⟩ := tot_map k v h.2
    rw [aFind_cons, List.map_cons]
    show (if e.1 = k then (e.1, v) else e).2.length + tot (rows.map fun p => if p.1 = k then (p.1, v) else p) ≤ e.2.length + tot rows + v.length - _ ∧ _ ≤ e.2.length + tot rows
    by_cases z : e.1 = k
    · rw [if_pos z, if_pos z]
      have n : aFind rows k = none := aFind_none.mpr (z ▸ h.1)
      have em : (rows.map fun p => if p.1 = k then (p.1, v) else p) = rows := by
        refine (List.map_congr_left fun p hp => ?_).trans (List.map_id rows)
        rw [if_neg]
        · rfl
        · intro e2
          exact h.1 (List.mem_map.mpr ⟨p, hp, by rw [e2, z]⟩)
      rw [em]
      show v.length + tot rows ≤ e.2.length + tot rows + v.length - e.2.length ∧ e.2.length ≤ e.2.length + tot rows
      omega
    · rw [if_neg z, if_neg z]
      omega
theorem tot_put {rows : RowsN} (h : (rows.map (·.1)).Nodup) (k : Nat × List Int) (v : List (Int × Int)) : tot (aPut rows k v) ≤ tot rows + v.length - ((aFind rows k).getD []).length ∧ ((aFind rows k).getD []).length ≤ tot rows := by
  obtain ⟨i1, i2⟩ := tot_map k v h
  unfold aPut
  split
  · exact ⟨i1, i2⟩
  · rename_i z
    have e : aFind rows k = none := by cases hh : aFind rows k with
      | none => rfl
      | some x => rw [hh] at z; exact absurd rfl z
    rw [e]
    refine ⟨?_, Nat.zero_le _⟩
    unfold tot
    rw [List.map_append, List.sum_append]
    show _ + (v.length + 0) ≤ _ + v.length - 0
    omega
theorem putN_tot {S : Sky} {i : Nat} {rows : RowsN} {b : BegN} (h : (rows.map (·.1)).Nodup) : tot (putN S i rows b) ≤ tot rows + 1 := by
  obtain ⟨a, c⟩ := tot_put h (keyN S i b) (lowZ ((aFind rows (keyN S i b)).getD [] ++ [pairN S i b]))
  have l := low_len ((aFind rows (keyN S i b)).getD [] ++ [pairN S i b])
  rw [List.length_append, List.length_singleton] at l
  unfold putN
  omega
theorem foldN_tot {S : Sky} {i : Nat} : ∀ {bs : List BegN} {rows : RowsN}, (rows.map (·.1)).Nodup → ((bs.foldl (putN S i) rows).map (·.1)).Nodup ∧ tot (bs.foldl (putN S i) rows) ≤ tot rows + bs.length ∧ (bs.foldl (putN S i) rows).length ≤ rows.length + bs.length
  | [], rows, h => ⟨h, Nat.le_refl _, Nat.le_refl _⟩
  | b :: bs, rows, h => by
    obtain ⟨a, c, d⟩ := foldN_tot (S := S) (i := i) (bs := bs) (rows := putN S i rows b) (nodup_put h)
    have := putN_tot (S := S) (i := i) (b := b) h
    have l := put_len rows (keyN S i b) (lowZ ((aFind rows (keyN S i b)).getD [] ++ [pairN S i b]))
    rw [List.foldl_cons, List.length_cons]
    unfold putN at this a c d ⊢
    exact ⟨a, by omega, by omega⟩
/-! what they mean -/
def Sky.big (S : Sky) : Sky := S.withC (sizes S)
structure LsP (S : Sky) (m : Nat) (p : List Nat) : Prop where
  plan : PlanP S.big p
  lt : ∀ j ∈ p, j < m
def ndOf (S : Sky) (p : List Nat) : Int := needZ S p p.length
structure BegNOk (S : Sky) (m : Nat) (b : BegN) (p : List Nat) : Prop where
  ls : LsP S m p
  vp : Vp S p b.last b.amt
  ws : b.ws = setOf S p
  nd : b.nd = ndOf S p
  o : S.ord p m = false
  w : S.wsh p m = false
  t : S.trn p m = false
structure PrOk (S : Sky) (m : Nat) (k : Nat × List Int) (x : Int × Int) (p : List Nat) : Prop where
  ls : LsP S m p
  last : p.getLast? = some k.1
  ws : k.2 = setOf S p
  lev : x.1 = runB S p k.1
  nd : x.2 = ndOf S p
theorem vp_big {S : Sky} {p : List Nat} {last : Option Nat} {a : Int} (h : Vp S.big p last a) : Vp S p last a := by
  obtain ⟨v1, v2, v3⟩ := h
  refine ⟨v1, v2, fun j hj => ?_⟩
  obtain ⟨a1, a2⟩ := v3 j hj
  refine ⟨a1, a2.trans ?_⟩
  exact withC_run S _ p _
theorem plan_vpN {S : Sky} (F : Fit S) {p : List Nat} (hp : PlanP S.big p) (h : ∀ j ∈ p, j < S.looks.length) {l : Nat} (e : p.getLast? = some l) : Vp S p (some l) (runB S p l) := by
  have := vp_big (plan_vp_last (withC_fit F _) hp h e)
  have e2 : runB (S.withC (sizes S)) p l = runB S p l := withC_run S _ p _
  rw [e2] at this
  exact this
theorem need_snoc (S : Sky) (p : List Nat) (i : Nat) : ndOf S (p ++ [i]) = mx (ndOf S p) (storeZ S p (S.lk i).s + (S.lk i).z) := by
  have e : ∀ k, k ≤ p.length → needZ S (p ++ [i]) k = needZ S p k := fun k => by
    induction k with
    | zero => intro _; rfl
    | succ k ih =>
      intro hk
      show mx (needZ S (p ++ [i]) k) (storeZ S ((p ++ [i]).take k) (S.lk ((p ++ [i]).getD k 0)).s + (S.lk ((p ++ [i]).getD k 0)).z) = mx (needZ S p k) (storeZ S (p.take k) (S.lk (p.getD k 0)).s + (S.lk (p.getD k 0)).z)
      rw [ih (by omega), List.take_append_of_le_length (by omega), List.getD_eq_getElem?_getD, List.getElem?_append_left (by omega), ← List.getD_eq_getElem?_getD]
  unfold ndOf
  rw [List.length_append, List.length_singleton]
  show mx (needZ S (p ++ [i]) p.length) (storeZ S ((p ++ [i]).take p.length) (S.lk ((p ++ [i]).getD p.length 0)).s + (S.lk ((p ++ [i]).getD p.length 0)).z) = _
  rw [e _ (Nat.le_refl _), List.take_left, List.getD_eq_getElem?_getD, List.getElem?_append_right (Nat.le_refl _), Nat.sub_self]
  rfl
theorem plan_big {S : Sky} (F : Fit S) {p : List Nat} (h : ∀ j ∈ p, j < S.looks.length) : PlanP S.big p ↔ S.timely p = true := by
  rw [← isN_plan]
  unfold Sky.big
  rw [timely_wrong F (sizes S) (Int.le_refl _) p h]
/-- one more look -/
theorem begN_pr {S : Sky} (F : Fit S) {m : Nat} (hm : m < S.looks.length) {b : BegN} {p : List Nat} (h : BegNOk S m b p) : PrOk S (m + 1) (keyN S m b) (pairN S m b) (p ++ [m]) := by
  have s0 := F.s0 _ (lk_mem hm)
  have f1 := fin_pos F hm
  have hs : ∀ j, b.last = some j → S.fin j ≤ (S.lk m).s := fun j hj => by
    have ht := h.t
    unfold Sky.trn at ht
    rw [← h.vp.1, hj] at ht
    have := of_decide_eq_false ht
    have := tz_nonneg F j m
    omega
  have e1 := stored_run F h.vp s0 hs
  have e2 := stored_run F h.vp (show 0 ≤ S.fin m by omega) fun j hj => by have := hs j hj; omega
  have e3 : runZ S (p ++ [m]) ((S.fin m).toNat + 1) = runZ S p ((S.fin m).toNat + 1) + (S.lk m).z := by
    show mx 0 (runZ S (p ++ [m]) (S.fin m).toNat - _) + addAt S (p ++ [m]) ((S.fin m).toNat : Int) = mx 0 (runZ S p (S.fin m).toNat - _) + addAt S p ((S.fin m).toNat : Int) + (S.lk m).z
    rw [run_prefix _ (by omega), add_app, if_pos (by omega)]
    omega
  have hl : ∀ j ∈ p ++ [m], j < m + 1 := fun j hj => by
    rcases List.mem_append.mp hj with hj | hj
    · have := h.ls.lt j hj; omega
    · rw [List.mem_singleton.mp hj]; omega
  have tm : S.timely (p ++ [m]) = true := by
    have tp := (plan_big F fun j hj => Nat.lt_trans (h.ls.lt j hj) hm).mp h.ls.plan
    refine decide_eq_true fun k hk => ?_
    rw [List.length_append, List.length_singleton] at hk
    by_cases e : k = p.length
    · subst e
      refine tim_iff.mpr ?_
      rw [List.take_left, List.getD_eq_getElem?_getD, List.getElem?_append_right (Nat.le_refl _), Nat.sub_self]
      exact ⟨h.o, h.w, h.t⟩
    · have := of_decide_eq_true tp k (by omega)
      unfold Sky.tim at this ⊢
      rw [List.take_append_of_le_length (by omega), List.getD_eq_getElem?_getD, List.getElem?_append_left (by omega), ← List.getD_eq_getElem?_getD]
      exact this
  exact {
    ls := ⟨(plan_big F fun j hj => Nat.lt_of_lt_of_le (hl j hj) hm).mpr tm, hl⟩
    last := last_snoc _ _
    ws := by
      show sortI (b.ws ++ [S.wi m]) = _
      rw [h.ws, set_snoc]
    lev := by
      show storedZ S b.last b.amt (S.fin m) + (S.lk m).z = runZ S (p ++ [m]) ((S.fin m).toNat + 1)
      rw [e2, e3]
    nd := by
      show mx b.nd (storedZ S b.last b.amt (S.lk m).s + (S.lk m).z) = _
      rw [need_snoc, h.nd, e1]
      rfl }
theorem begN0_ok (S : Sky) (m : Nat) : BegNOk S m begN0 [] := ⟨⟨.nil, fun j hj => (by cases hj)⟩, vp_zero S, (set_nil S).symm, rfl, rfl, decide_eq_false (by show ¬ _ ∈ ([] : List Int); simp), rfl⟩
theorem begN_ok {S : Sky} (F : Fit S) {m : Nat} (hm : m < S.looks.length) {e : (Nat × List Int) × List (Int × Int)} (hb : okN S m e = true) {x : Int × Int} {p : List Nat} (h : PrOk S m e.1 x p) : BegNOk S m ⟨some e.1.1, e.1.2, x.1, x.2⟩ p := by
  unfold okN at hb
  rw [Bool.and_eq_true, Bool.not_eq_true', decide_eq_false_iff_not, decide_eq_true_iff] at hb
  have hlt : ∀ j ∈ p, j < S.looks.length := fun j hj => Nat.lt_trans (h.ls.lt j hj) hm
  have v := plan_vpN F h.ls.plan hlt h.last
  rw [← h.lev] at v
  refine ⟨h.ls, v, h.ws, h.nd, ?_, ?_, ?_⟩
  · unfold Sky.ord
    rw [h.last]
    exact decide_eq_false (by have := h.ls.lt _ (List.mem_of_getLast? h.last); omega)
  · refine decide_eq_false fun z => hb.1 ?_
    rw [h.ws, mem_set]
    exact z
  · unfold Sky.trn
    rw [h.last]
    exact decide_eq_false (by omega)
def DomR (rows : RowsN) (k : Nat × List Int) (a : Int × Int) : Prop := ∃ v, aFind rows k = some v ∧ DomP v a
def EntN (S : Sky) (m : Nat) (rows : RowsN) : Prop := ∀ e ∈ rows, e.2 ≠ [] ∧ ∀ x ∈ e.2, ∃ p, PrOk S m e.1 x p
structure NInv (S : Sky) (m : Nat) (rows : RowsN) : Prop where
  ent : EntN S m rows
  low : ∀ p, LsP S m p → ∀ l, p.getLast? = some l → DomR rows (l, setOf S p) (runB S p l, ndOf S p)
  nodup : (rows.map (·.1)).Nodup
  tot : tot rows + 1 ≤ 2 ^ m
  len : rows.length + 1 ≤ 2 ^ m
theorem pr_up {S : Sky} {m : Nat} {k : Nat × List Int} {x : Int × Int} {p : List Nat} (h : PrOk S m k x p) : PrOk S (m + 1) k x p := ⟨⟨h.ls.plan, fun j hj => Nat.lt_succ_of_lt (h.ls.lt j hj)⟩, h.last, h.ws, h.lev, h.nd⟩
theorem putN_ent {S : Sky} (F : Fit S) {m : Nat} (hm : m < S.looks.length) {rows : RowsN} {b : BegN} {p : List Nat} (h : BegNOk S m b p) (hr : EntN S (m + 1) rows) : EntN S (m + 1) (putN S m rows b) := by
  intro e he
  unfold putN at he
  rcases mem_put he with he | rfl
  · exact hr e he
  · constructor
    · intro z
      have z' : lowZ ((aFind rows (keyN S m b)).getD [] ++ [pairN S m b]) = [] := z
      obtain ⟨y, hy, _⟩ := low_dom (xs := (aFind rows (keyN S m b)).getD [] ++ [pairN S m b]) (x := pairN S m b) (List.mem_append_right _ (List.mem_singleton.mpr rfl))
      rw [z'] at hy
      cases hy
    · intro x hx
      rcases List.mem_append.mp (low_mem hx) with hx | hx
      · cases ef : aFind rows (keyN S m b) with
        | none => rw [ef] at hx; cases hx
        | some v =>
          rw [ef] at hx
          exact (hr _ (aFind_mem ef)).2 x hx
      · rw [List.mem_singleton.mp hx]
        exact ⟨p ++ [m], begN_pr F hm h⟩
theorem domP_trans {xs ys : List (Int × Int)} {a : Int × Int} (h : DomP xs a) (hs : ∀ x ∈ xs, DomP ys x) : DomP ys a := by
  obtain ⟨y, hy, a1, a2⟩ := h
  obtain ⟨z, hz, b1, b2⟩ := hs y hy
  exact ⟨z, hz, by omega, by omega⟩
theorem putN_keep {S : Sky} {m : Nat} {rows : RowsN} {b : BegN} {k : Nat × List Int} {a : Int × Int} (h : DomR rows k a) : DomR (putN S m rows b) k a := by
  obtain ⟨v, h1, h2⟩ := h
  unfold putN
  by_cases e : k = keyN S m b
  · subst e
    refine ⟨_, aFind_same _ _ _, ?_⟩
    rw [h1]
    exact domP_trans h2 fun x hx => low_dom (List.mem_append_left _ hx)
  · exact ⟨v, by rw [aFind_ne _ _ e, h1], h2⟩
theorem putN_here (S : Sky) (m : Nat) (rows : RowsN) (b : BegN) : DomR (putN S m rows b) (keyN S m b) (pairN S m b) := ⟨_, aFind_same _ _ _, low_dom (List.mem_append_right _ (List.mem_singleton.mpr rfl))⟩
theorem foldN_keep {S : Sky} {m : Nat} : ∀ {bs : List BegN} {rows : RowsN} {k : Nat × List Int} {a : Int × Int}, DomR rows k a → DomR (bs.foldl (putN S m) rows) k a
  | [], _, _, _, h => h
  | b :: bs, rows, k, a, h => foldN_keep (bs := bs) (putN_keep h)
theorem foldN_here {S : Sky} {m : Nat} {b : BegN} : ∀ {bs : List BegN} {rows : RowsN}, b ∈ bs → DomR (bs.foldl (putN S m) rows) (keyN S m b) (pairN S m b)
  | b' :: bs, rows, h => by
    rw [List.foldl_cons]
    rcases List.mem_cons.mp h with rfl | h
    · exact foldN_keep (putN_here S m rows b)
    · exact foldN_here h
theorem foldN_ent {S : Sky} (F : Fit S) {m : Nat} (hm : m < S.looks.length) : ∀ {bs : List BegN} {rows : RowsN}, (∀ b ∈ bs, ∃ p, BegNOk S m b p) → EntN S (m + 1) rows → EntN S (m + 1) (bs.foldl (putN S m) rows)
  | [], _, _, h => h
  | b :: bs, rows, hb, h => by
    obtain ⟨p, hp⟩ := hb b (List.mem_cons_self ..)
    rw [List.foldl_cons]
    exact foldN_ent F hm (bs := bs) (fun b' h' => hb b' (List.mem_cons_of_mem _ h')) (putN_ent F hm hp h)
theorem begsN_ok {S : Sky} (F : Fit S) {m : Nat} (hm : m < S.looks.length) {rows : RowsN} (h : EntN S m rows) : ∀ b ∈ begsN S m rows, ∃ p, BegNOk S m b p := fun b hb => by
  rcases begsN_mem.mp hb with hb | ⟨e, he, hok, hb⟩
  · rw [List.mem_singleton.mp hb]
    exact ⟨[], begN0_ok S m⟩
  · obtain ⟨x, hx, rfl⟩ := List.mem_map.mp hb
    obtain ⟨p, hp⟩ := (h e he).2 x hx
    exact ⟨p, begN_ok F hm hok hp⟩
theorem mx_le {a b c d : Int} (h1 : a ≤ c) (h2 : b ≤ d) : mx a b ≤ mx c d := by
  unfold mx
  split <;> split <;> omega
theorem ninv {S : Sky} (F : Fit S) : ∀ m, m ≤ S.looks.length → NInv S m (rowsN S m)
  | 0, _ => ⟨fun e he => (by cases he), fun p h l e => absurd (h.lt l (List.mem_of_getLast? e)) (Nat.not_lt_zero _), List.Pairwise.nil, Nat.le_refl _, Nat.le_refl _⟩
  | m + 1, hm => by
    have I := ninv F m (by omega)
    have hm' : m < S.looks.length := by omega
    have hb := begsN_ok F hm' I.ent
    obtain ⟨t1, t2, t3⟩ := foldN_tot (S := S) (i := m) (bs := begsN S m (rowsN S m)) I.nodup
    have bl : (begsN S m (rowsN S m)).length ≤ 1 + tot (rowsN S m) := begsN_len
    have c1 := I.tot
    have c2 := I.len
    rw [rowsN_succ]
    refine ⟨foldN_ent F hm' hb fun e he => ⟨(I.ent e he).1, fun x hx => ?_⟩, ?_, t1, ?_, ?_⟩
    · obtain ⟨p, hp⟩ := (I.ent e he).2 x hx
      exact ⟨p, pr_up hp⟩
    · intro p hp l hl
      by_cases e : l = m
      · subst e
        obtain ⟨hpl, hlt⟩ := hp
        cases hpl with
        | nil => cases hl
        | @snoc q i hq g =>
          rw [last_snoc] at hl
          cases hl
          have hql : ∀ j ∈ q, j < l := fun j hj => ord_lt hq l g.o j hj
          have hql2 : ∀ j ∈ q, j < S.looks.length := fun j hj => Nat.lt_trans (hql j hj) hm'
          have key : ∃ b ∈ begsN S l (rowsN S l), keyN S l b = (l, setOf S (q ++ [l])) ∧ (pairN S l b).1 ≤ runB S (q ++ [l]) l ∧ (pairN S l b).2 ≤ ndOf S (q ++ [l]) := by
            cases eq : q.getLast? with
            | none =>
              have eq2 := List.getLast?_eq_none_iff.mp eq
              subst eq2
              have pr := begN_pr F hm' (begN0_ok S l)
              exact ⟨begN0, begsN_mem.mpr (.inl (List.mem_singleton.mpr rfl)), by
                have h2 := pr.ws
                show (l, _) = (l, _)
                exact congrArg (Prod.mk l) h2, Int.le_of_eq pr.lev, Int.le_of_eq pr.nd⟩
            | some l' =>
              obtain ⟨v, h1, x, hx, d1, d2⟩ := I.low q ⟨hq, hql⟩ l' eq
              have hmem := aFind_mem h1
              have hok : okN S l ((l', setOf S q), v) = true := by
                unfold okN
                rw [Bool.and_eq_true, Bool.not_eq_true', decide_eq_false_iff_not, decide_eq_true_iff]
                constructor
                · intro z
                  exact of_decide_eq_false g.w (mem_set.mp z)
                · have := g.t
                  unfold Sky.trn at this
                  rw [eq] at this
                  have := of_decide_eq_false this
                  show S.fin l' + S.tz l' l ≤ (S.lk l).s
                  have e1 : S.big.fin l' = S.fin l' := rfl
                  have e2 : S.big.tz l' l = S.tz l' l := rfl
                  have e3 : (S.big.lk l).s = (S.lk l).s := rfl
                  omega
              have vq := plan_vpN F hq hql2 eq
              have bq : BegNOk S l ⟨some l', setOf S q, runB S q l', ndOf S q⟩ q := ⟨⟨hq, hql⟩, vq, rfl, rfl, g.o, g.w, g.t⟩
              have pr := begN_pr F hm' bq
              refine ⟨⟨some l', setOf S q, x.1, x.2⟩, begsN_mem.mpr (.inr ⟨_, hmem, hok, List.mem_map.mpr ⟨x, hx, rfl⟩⟩), ?_, ?_, ?_⟩
              · show (l, _) = (l, _)
                exact congrArg (Prod.mk l) pr.ws
              · have plev : (pairN S l ⟨some l', setOf S q, runB S q l', ndOf S q⟩).1 = runB S (q ++ [l]) l := pr.lev
                rw [← plev]
                show storedZ S (some l') x.1 (S.fin l) + (S.lk l).z ≤ storedZ S (some l') (runB S q l') (S.fin l) + (S.lk l).z
                have : storedZ S (some l') x.1 (S.fin l) ≤ storedZ S (some l') (runB S q l') (S.fin l) := stored_mono d1
                omega
              · rw [← pr.nd]
                show mx x.2 (storedZ S (some l') x.1 (S.lk l).s + (S.lk l).z) ≤ mx (ndOf S q) (storedZ S (some l') (runB S q l') (S.lk l).s + (S.lk l).z)
                have : storedZ S (some l') x.1 (S.lk l).s ≤ storedZ S (some l') (runB S q l') (S.lk l).s := stored_mono d1
                exact mx_le d2 (by omega)
          obtain ⟨b, hb1, hk, a1, a2⟩ := key
          obtain ⟨v, h1, y, hy, b1, b2⟩ := foldN_here (S := S) (m := l) (rows := rowsN S l) hb1
          rw [hk] at h1
          exact ⟨v, h1, y, hy, by dsimp only; omega, by dsimp only; omega⟩
      · have hlt2 : ∀ j ∈ p, j < m := by
          intro j hj
          have h1 := hp.lt l (List.mem_of_getLast? hl)
          obtain ⟨hpl, hlt⟩ := hp
          cases hpl with
          | nil => cases hj
          | @snoc q i hq g =>
            rw [last_snoc] at hl
            cases hl
            rcases List.mem_append.mp hj with hj | hj
            · have := ord_lt hq l g.o j hj
              omega
            · rw [List.mem_singleton.mp hj]; omega
        exact foldN_keep (I.low p ⟨hp.plan, hlt2⟩ l hl)
    · unfold stepN
      rw [Nat.pow_succ]
      omega
    · unfold stepN
      rw [Nat.pow_succ]
      omega
end Sk
/-! The least needs: what the program's functions compute. -/
namespace Sk
open PySem PySem.Spec PyProof.Rows L2 SL
def F__law_roomy : FS := (sRet (fTup (aCons (f2 ixD (fV 0) (fC (.int 0))) (aCons (f2 ixD (fV 0) (fC (.int 1))) (aCons (f2 ixD (fV 0) (fC (.int 2))) (aCons (fV 1) (aCons (f2 ixD (fV 0) (fC (.int 4))) aNil)))))))
def R__law_roomy : List D → Option D := runP 2 F__law_roomy
def _law_timely_c1 (c__law_need : List D → Option D) (c__law_worth : List D → Option D) : FA := (lLc (iSeq (fV 2)) [3] (gNm 3) gYes (fTup (aCons (fV 3) (aCons (fCall c__law_need (aCons (fV 0) (aCons (fV 3) aNil))) (aCons (fCall c__law_worth (aCons (fV 0) (aCons (fV 3) aNil))) aNil)))))
def _law_timely_c2 (c__law_lists : List D → Option D) (c__law_wrong : List D → Option D) : FA := (lLc (iSeq (fCall c__law_lists (aCons (fV 0) aNil))) [3] (gNm 3) (gT (f2 isD (fCall c__law_wrong (aCons (fV 1) (aCons (fV 3) aNil))) (fC .none))) (fV 3))
def F__law_timely (c__law_roomy : List D → Option D) (c__law_lists : List D → Option D) (c__law_wrong : List D → Option D) (c__law_need : List D → Option D) (c__law_worth : List D → Option D) : FS := (sT (sSet 1 (fCall c__law_roomy (aCons (fV 0) (aCons (fC (.int 1000)) aNil))))
    (sT (sSet 2 (fL (_law_timely_c2 c__law_lists c__law_wrong)))
    (sRet (fL (_law_timely_c1 c__law_need c__law_worth)))))
def R__law_timely : List D → Option D := runP 4 (F__law_timely R__law_roomy R__law_lists R__law_wrong R__law_need R__law_worth)
def lowest_b1 : FS := (sIf (gOr (gNot (gTru (fVp 1))) (gT (f2 ltD (fV 3) (f2 ixD (f2 ixD (fVp 1) (f1 negD (fC (.int 1)))) (fC (.int 1)))))) (sApp 1 (fTup (aCons (fV 2) (aCons (fV 3) aNil)))) sNext)
def F_lowest : FS := (sT (sSetO 1 (lDisp aNil))
    (sT (sForW [2, 3] (iSeq (fL (l1 sortX (fV 0)))) (gTp 2 (gsCons (gNm 2) (gsCons (gNm 3) gsNil))) (lowest_b1))
    (sRet (fV 1))))
def R_lowest : List D → Option D := runP 4 F_lowest
def least_needs_c1 : FA := (lLc (iSeq (fV 11)) [6, 13] (gTp 2 (gsCons (gNm 6) (gsCons (gNm 13) gsNil))) gYes (fV 13))
def least_needs_b1 : FS := (sT (sSet 18 (f1 minD (fL (least_needs_c1))))
    (sDput 17 (fV 10) (f2 min2D (fDgetOr 17 (fV 10) (fV 18)) (fV 18))))
def least_needs_b2 (c_stored_at : List D → Option D) (c_lowest : List D → Option D) : FS := (sT (sSet 15 (f2 max2D (fV 13) (f2 addD (fCall c_stored_at (aCons (fV 0) (aCons (fV 9) (aCons (fV 14) (aCons (fV 4) aNil))))) (fV 7))))
    (sT (sSet 12 (f2 addD (fCall c_stored_at (aCons (fV 0) (aCons (fV 9) (aCons (fV 14) (aCons (f2 addD (fV 4) (fV 5)) aNil))))) (fV 7)))
    (sT (sSet 16 (fTup (aCons (fV 2) (aCons (f1 tupD (fL (l1 sortX (f2 addD (fV 10) (fTup (aCons (fV 3) aNil)))))) aNil))))
    (sDput 1 (fV 16) (fCall c_lowest (aCons (f2 addD (fDgetOr 1 (fV 16) (fL (lDisp aNil))) (fL (lDisp (aCons (fTup (aCons (fV 12) (aCons (fV 15) aNil))) aNil)))) aNil))))))
def least_needs_c2 : FA := (lLc (iSeq (fV 11)) [12, 13] (gTp 2 (gsCons (gNm 12) (gsCons (gNm 13) gsNil))) gYes (fTup (aCons (fV 9) (aCons (fV 10) (aCons (fV 12) (aCons (fV 13) aNil))))))
def least_needs_b3 (c_follows : List D → Option D) : FS := (sIf (gAnd (gT (f2 notInD (fV 3) (fV 10))) (gTru (fCall c_follows (aCons (fV 0) (aCons (fV 9) (aCons (fV 2) aNil)))))) (sExt 8 (least_needs_c2)) sNext)
def least_needs_b4 (c_follows : List D → Option D) (c_stored_at : List D → Option D) (c_lowest : List D → Option D) : FS := (sT (sSetO 8 (lDisp (aCons (fTup (aCons (fC .none) (aCons (fTup aNil) (aCons (fC (.int 0)) (aCons (fC (.int 0)) aNil))))) aNil)))
    (sT (sForD itemsD 1 [9, 10, 11] (gTp 2 (gsCons (gTp 2 (gsCons (gNm 9) (gsCons (gNm 10) gsNil))) (gsCons (gNm 11) gsNil))) (least_needs_b3 c_follows))
    (sForW [9, 10, 12, 13, 14, 15, 16] (iSeq (fV 8)) (gTp 4 (gsCons (gNm 9) (gsCons (gNm 10) (gsCons (gNm 14) (gsCons (gNm 13) gsNil))))) (least_needs_b2 c_stored_at c_lowest))))
def F_least_needs (c_follows : List D → Option D) (c_stored_at : List D → Option D) (c_lowest : List D → Option D) : FS := (sT (sSetD 1 dNil)
    (sT (sForW [2, 3, 4, 5, 6, 7, 8, 9, 10, 11, 12, 13, 14, 15, 16] (iEnumD (f2 ixD (fV 0) (fC (.int 0)))) (gTp 2 (gsCons (gNm 2) (gsCons (gTp 5 (gsCons (gNm 3) (gsCons (gNm 4) (gsCons (gNm 5) (gsCons (gNm 6) (gsCons (gNm 7) gsNil)))))) gsNil))) (least_needs_b4 c_follows c_stored_at c_lowest))
    (sT (sSetD 17 (dOne (fTup aNil) (fC (.int 0))))
    (sT (sForW [6, 10, 11, 18] (iDItems (fV 1)) (gTp 2 (gsCons (gTp 2 (gsCons (gNm 6) (gsCons (gNm 10) gsNil))) (gsCons (gNm 11) gsNil))) (least_needs_b1))
    (sRet (fV 17))))))
def R_least_needs : List D → Option D := runP 19 (F_least_needs R_follows R_stored_at R_lowest)
def worths_and_needs_c1 (c_least_needs : List D → Option D) (c_sum_of : List D → Option D) : FA := (lLc (iDItems (fCall c_least_needs (aCons (fV 0) aNil))) [1, 2] (gTp 2 (gsCons (gNm 1) (gsCons (gNm 2) gsNil))) gYes (fTup (aCons (fCall c_sum_of (aCons (fV 0) (aCons (fV 1) aNil))) (aCons (f2 max2D (fC (.int 1)) (fV 2)) aNil))))
def F_worths_and_needs (c_least_needs : List D → Option D) (c_sum_of : List D → Option D) : FS := (sRet (fL (worths_and_needs_c1 c_least_needs c_sum_of)))
def R_worths_and_needs : List D → Option D := runP 3 (F_worths_and_needs R_least_needs R_sum_of)
def prD (x : Int × Int) : D := .tuple [.int x.1, .int x.2]
def prsD (xs : List (Int × Int)) : D := .list (xs.map prD)
theorem sort_pairs (xs : List (Int × Int)) (h : xs.length ≤ 1000) : sortX (prsD xs) = some ((sortP xs).map prD) := by
  have ho : okSort (xs.map prD) = true := by
    rw [okSort_iff]
    refine ⟨fun d hd d' hd' => ?_, .inl fun d hd => ?_, by rw [List.length_map]; unfold sizeLine; omega, fun d hd => ?_⟩
    · obtain ⟨a, _, rfl⟩ := List.mem_map.mp hd
      obtain ⟨b, _, rfl⟩ := List.mem_map.mp hd'
      simp [prD, W.alike, W.alikeAll]
    · obtain ⟨a, _, rfl⟩ := List.mem_map.mp hd
      exact ⟨_, _, rfl⟩
    · obtain ⟨a, _, rfl⟩ := List.mem_map.mp hd
      simp [prD, PyData.depth, PyData.depthAll]
  have hs : srt (xs.map prD) = (sortP xs).map prD := by
    unfold srt sortP
    refine (List.map_mergeSort (fun a _ b _ => ?_)).symm
    have := congrFun (congrFun (W.dataLe_ii (fun x : Int × Int => x.1) (fun x : Int × Int => x.2)) a) b
    exact this.symm
  show (if _ then _ else _) = _
  rw [if_pos ho, hs]
theorem ix_last (ys : List D) (y : D) : ixD (.list (ys ++ [y])) (.int (-1)) = some y := by
  refine ixD_l ?_
  unfold atI
  have e : ixN (ys ++ [y]).length (-1) = some ys.length := by
    rw [List.length_append, List.length_singleton]
    unfold ixN
    simp
    try omega
  rw [e]
  simp
theorem low_ev1 (xs : D) (y : Int × Int) : (gTp 2 (gsCons (gNm 2) (gsCons (gNm 3) gsNil)) (prD y) [some (.val xs), some (.own []), none, none]).bind (sW [2, 3] lowest_b1) = some (.nx [some (.val xs), some (.own [prD y]), none, none]) := by
  unfold lowest_b1 prD
  simp [show (0 : Nat) < sizeLine from by decide]
theorem low_ev2 (xs : D) (zs : List D) (l y : Int × Int) (hl : zs.length < 10000) : (gTp 2 (gsCons (gNm 2) (gsCons (gNm 3) gsNil)) (prD y) [some (.val xs), some (.own (zs ++ [prD l])), none, none]).bind (sW [2, 3] lowest_b1) = some (.nx [some (.val xs), some (.own (if y.2 < l.2 then zs ++ [prD l] ++ [prD y] else zs ++ [prD l])), none, none]) := by
  have il := ix_last zs (prD l)
  have ne : (zs ++ [prD l]).isEmpty = false := by cases zs <;> rfl
  have hl2 : (zs ++ [prD l]).length < sizeLine := small_len (by rw [List.length_append, List.length_singleton]; omega)
  have e0 : prD l = .tuple [.int l.1, .int l.2] := rfl
  have e1 : ixD (prD l) (.int 1) = some (.int l.2) := rfl
  generalize hz : zs ++ [prD l] = Z at *
  generalize prD l = PL at *
  cases Z with
  | nil => cases zs <;> cases hz
  | cons z Z =>
    have hl3 : Z.length + 1 < sizeLine := hl2
    unfold lowest_b1 prD
    by_cases h : y.2 < l.2 <;> simp [il, e1, h, hl3]
theorem lowest_ok (xs : List (Int × Int)) (h : xs.length ≤ 1000) : R_lowest [prsD xs] = some (prsD (lowZ xs)) := by
  have so := sort_pairs xs h
  have sl := (sortP_perm xs).length_eq
  have lp := (loop_count (A := gTp 2 (gsCons (gNm 2) (gsCons (gNm 3) gsNil))) (body := sW [2, 3] lowest_b1) prD (fun fs : List (Int × Int) => [some (.val (prsD xs)), some (.own (fs.map prD)), none, none]) keepP (fun k fs => fs.length ≤ k) (xs := sortP xs) (b := []) 0 (Nat.le_refl _) fun k fs y hk hy hf => by
      have kl := keep_len fs y
      refine ⟨.inl ?_, by omega⟩
      rcases List.eq_nil_or_concat fs with rfl | ⟨zs, l, rfl⟩
      · exact low_ev1 (prsD xs) y
      · rw [List.concat_eq_append] at hf ⊢
        rw [List.length_append, List.length_singleton] at hf
        have ev := low_ev2 (prsD xs) (zs.map prD) l y (by rw [List.length_map]; omega)
        rw [List.map_append]
        refine Eq.trans ev ?_
        have e : (if y.2 < l.2 then zs.map prD ++ [prD l] ++ [prD y] else zs.map prD ++ [prD l]) = (keepP (zs ++ [l]) y).map prD := by
          unfold keepP
          rw [List.getLast?_append]
          show _ = List.map prD (if y.2 < l.2 then zs ++ [l] ++ [y] else zs ++ [l])
          split
          · rw [List.map_append, List.map_append]; rfl
          · rw [List.map_append]; rfl
        rw [e]).1
  unfold R_lowest runP F_lowest
  have e3 : prsD (lowZ xs) = .list ((lowZ xs).map prD) := rfl
  have e4 : (sortP xs).foldl keepP [] = lowZ xs := rfl
  rw [e3]
  rw [e4] at lp
  generalize (sortP xs).map prD = SP at *
  generalize (lowZ xs).map prD = LZ at *
  generalize prsD xs = X at *
  simp only [List.map_nil] at lp
  simp [-sortX, startE, so, sForW_r, lp]
/-! least_needs -/
def rowN (e : (Nat × List Int) × List (Int × Int)) : D × D := (rkD e.1, prsD e.2)
def bgD (b : BegN) : D := .tuple [lastD b.last, wsD b.ws, .int b.amt, .int b.nd]
abbrev E19 (SD : D) (c1 c2 c3 c4 c5 c6 c7 c8 c9 c10 c11 c12 c13 c14 : Option Cell) : Ev := [some (.val SD), c1, c2, c3, c4, c5, c6, c7, c8, c9, c10, c11, c12, c13, c14, none, none, none, none]
theorem n_c2 (SD L WS : D) (c1 c2 c3 c4 c5 c6 c7 c8 : Option Cell) (xs : List (Int × Int)) (hl : xs.length ≤ 1000) :
    least_needs_c2 (E19 SD c1 c2 c3 c4 c5 c6 c7 c8 (some (.val L)) (some (.val WS)) (some (.val (prsD xs))) none none none) = some (xs.map fun x => .tuple [L, WS, .int x.1, .int x.2], E19 SD c1 c2 c3 c4 c5 c6 c7 c8 (some (.val L)) (some (.val WS)) (some (.val (prsD xs))) none none none) := by
  unfold least_needs_c2
  refine (lc_run1 prD _ (r0 := E19 SD c1 c2 c3 c4 c5 c6 c7 c8 (some (.val L)) (some (.val WS)) (some (.val (prsD xs))) none none none) rfl rfl (fun x _ => ?_) (by omega)).trans rfl
  generalize prsD xs = P
  simp [lcTurn, prD]
abbrev A9 : FG := (gTp 2 (gsCons (gTp 2 (gsCons (gNm 9) (gsCons (gNm 10) gsNil))) (gsCons (gNm 11) gsNil)))
theorem nb3_ev (FO : List D → Option D) (SD WS PR : D) (l i : Nat) (w : Int) (c4 c5 c6 c7 : Option Cell) (bs zs : List D) (hl : bs.length + zs.length ≤ sizeLine) (n f : Bool) (h1 : notInD (.int w) WS = some (.bool n)) (h2 : FO [SD, .int l, .int i] = some (.bool f))
    (c2 : least_needs_c2 (E19 SD (some (.tag 1)) (some (.val (.int i))) (some (.val (.int w))) c4 c5 c6 c7 (some (.own bs)) (some (.val (.int l))) (some (.val WS)) (some (.val PR)) none none none) = some (zs, E19 SD (some (.tag 1)) (some (.val (.int i))) (some (.val (.int w))) c4 c5 c6 c7 (some (.own bs)) (some (.val (.int l))) (some (.val WS)) (some (.val PR)) none none none)) :
    (A9 (.tuple [.tuple [.int l, WS], PR]) (E19 SD (some (.tag 1)) (some (.val (.int i))) (some (.val (.int w))) c4 c5 c6 c7 (some (.own bs)) none none none none none none)).bind (sW [9, 10, 11] (least_needs_b3 FO)) =
      some (.nx (E19 SD (some (.tag 1)) (some (.val (.int i))) (some (.val (.int w))) c4 c5 c6 c7 (some (.own (if (n && f) = true then bs ++ zs else bs))) none none none none none none)) := by
  unfold least_needs_b3
  cases n <;> cases f <;> simp [h1, h2, c2, hl]
theorem nb3_loop {S : Sky} (F : Fit S) (i : Nat) (hi : i < S.looks.length) (c4 c5 c6 c7 : Option Cell) (rows : RowsN) (hr : ∀ e ∈ rows, e.1.1 < S.looks.length ∧ e.2.length ≤ 1000) (ht : tot rows ≤ 100000) :
    loopF A9 (sW [9, 10, 11] (least_needs_b3 R_follows)) (itemsD (rows.map rowN)) (E19 (skyD S) (some (.tag 1)) (some (.val (.int i))) (some (.val (.int (S.wi i)))) c4 c5 c6 c7 (some (.own ([begN0].map bgD))) none none none none none none) =
      some (.nx (E19 (skyD S) (some (.tag 1)) (some (.val (.int i))) (some (.val (.int (S.wi i)))) c4 c5 c6 c7 (some (.own ((begsN S i rows).map bgD))) none none none none none none)) := by
  have key : ∀ (rs : RowsN) (bs : List BegN), (∀ e ∈ rs, e.1.1 < S.looks.length ∧ e.2.length ≤ 1000) → bs.length + tot rs ≤ 200000 → loopF A9 (sW [9, 10, 11] (least_needs_b3 R_follows)) (rs.map fun e => .tuple [rkD e.1, prsD e.2]) (E19 (skyD S) (some (.tag 1)) (some (.val (.int i))) (some (.val (.int (S.wi i)))) c4 c5 c6 c7 (some (.own (bs.map bgD))) none none none none none none) =
      some (.nx (E19 (skyD S) (some (.tag 1)) (some (.val (.int i))) (some (.val (.int (S.wi i)))) c4 c5 c6 c7 (some (.own ((rs.foldl (stepBN S i) bs).map bgD))) none none none none none none)) := by
    intro rs
    induction rs with
    | nil => intro bs _ _; rfl
    | cons e rs ih =>
      intro bs h ht
      have et : tot (e :: rs) = e.2.length + tot rs := rfl
      obtain ⟨h1, h2⟩ := h e (List.mem_cons_self ..)
      have nw := nin_ws e.1.2 (S.wi i)
      have fo := follows_ok F (i := e.1.1) (j := i) h1 hi
      have ev := nb3_ev R_follows (skyD S) (wsD e.1.2) (prsD e.2) e.1.1 i (S.wi i) c4 c5 c6 c7 (bs.map bgD) _ (by
        have : (bs.map bgD).length + (e.2.map fun x => (.tuple [.int e.1.1, wsD e.1.2, .int x.1, .int x.2] : D)).length ≤ 10000000 := by rw [List.length_map, List.length_map]; omega
        exact Nat.le_of_lt (small_len this)) _ _ nw fo (n_c2 (skyD S) (.int e.1.1) (wsD e.1.2) _ _ _ _ _ _ _ _ e.2 (by omega))
      have e1 : (if (!decide (S.wi i ∈ e.1.2) && decide (S.fin e.1.1 + S.tz e.1.1 i ≤ (S.lk i).s)) = true then bs.map bgD ++ (e.2.map fun x => (.tuple [.int e.1.1, wsD e.1.2, .int x.1, .int x.2] : D)) else bs.map bgD) = (stepBN S i bs e).map bgD := by
        unfold stepBN
        show _ = (if okN S i e = true then bs ++ begsOf e else bs).map bgD
        unfold okN begsOf
        split
        · rw [List.map_append, List.map_map]; rfl
        · rfl
      rw [e1] at ev
      have lt : (stepBN S i bs e).length ≤ bs.length + e.2.length := by
        unfold stepBN begsOf
        split
        · rw [List.length_append, List.length_map]; exact Nat.le_refl _
        · omega
      have ih' := ih (stepBN S i bs e) (fun e' h' => h e' (List.mem_cons_of_mem _ h')) (by omega)
      rw [List.foldl_cons, ← ih', List.map_cons]
      have l1 := loop_each (A := A9) (body := sW [9, 10, 11] (least_needs_b3 R_follows)) (fun d : D => d) (fun _ : Unit => E19 (skyD S) (some (.tag 1)) (some (.val (.int i))) (some (.val (.int (S.wi i)))) c4 c5 c6 c7 (some (.own (bs.map bgD))) none none none none none none) (fun _ _ => ()) (fun _ => True) (xs := []) (b := ()) trivial (fun _ _ h => by cases h)
      show (A9 _ _).bind _ = _
      obtain ⟨r1, hA, hB⟩ := Option.bind_eq_some_iff.mp ev
      have hA' : A9 (.tuple [rkD e.1, prsD e.2]) (E19 (skyD S) (some (.tag 1)) (some (.val (.int i))) (some (.val (.int (S.wi i)))) c4 c5 c6 c7 (some (.own (bs.map bgD))) none none none none none none) = some r1 := hA
      rw [hA']
      show (match sW [9, 10, 11] (least_needs_b3 R_follows) r1 with | some (.nx r2) => loopF A9 (sW [9, 10, 11] (least_needs_b3 R_follows)) _ r2 | some (.ct r2) => loopF A9 (sW [9, 10, 11] (least_needs_b3 R_follows)) _ r2 | some (.bk r2) => some (.nx r2) | o => o) = _
      rw [hB]
  have h := key rows [begN0] hr (by show 1 + tot rows ≤ _; omega)
  unfold itemsD
  rw [List.map_map]
  exact h
abbrev A10 : FG := (gTp 4 (gsCons (gNm 9) (gsCons (gNm 10) (gsCons (gNm 14) (gsCons (gNm 13) gsNil)))))
theorem nb2_ev (SA LO : List D → Option D) (SD L WS AM W2 P1 P2 BG : D) (ss : List D) (ds : List (D × D)) (i : Nat) (w s l z nd u v hi : Int) (c6 : Option Cell) (nk : NestedKey) (old : List D) (hl : ds.length < sizeLine)
    (h1 : SA [SD, L, AM, .int s] = some (.int u)) (h1' : SA [SD, L, AM, .int (s + l)] = some (.int v)) (hm : max2D (.int nd) (.int (u + z)) = some (.int hi)) (h2 : addD WS (.tuple [.int w]) = some W2) (h3 : sortX W2 = some ss) (h4 : tkey (.tuple [.int i, .tuple ss]) = some nk) (h5 : (dFind ds (.tuple [.int i, .tuple ss])).getD (.list []) = .list old) (h6 : addD (.list old) (.list [.tuple [.int (v + z), .int hi]]) = some P1) (h7 : LO [P1] = some P2) :
    (A10 (.tuple [L, WS, AM, .int nd]) (E19 SD (some (.ownD ds)) (some (.val (.int i))) (some (.val (.int w))) (some (.val (.int s))) (some (.val (.int l))) c6 (some (.val (.int z))) (some (.val BG)) none none none none none none)).bind (sW [9, 10, 12, 13, 14, 15, 16] (least_needs_b2 SA LO)) =
      some (.nx (E19 SD (some (.ownD (dPut ds (.tuple [.int i, .tuple ss]) P2))) (some (.val (.int i))) (some (.val (.int w))) (some (.val (.int s))) (some (.val (.int l))) c6 (some (.val (.int z))) (some (.val BG)) none none none none none none)) := by
  have hA : A10 (.tuple [L, WS, AM, .int nd]) (E19 SD (some (.ownD ds)) (some (.val (.int i))) (some (.val (.int w))) (some (.val (.int s))) (some (.val (.int l))) c6 (some (.val (.int z))) (some (.val BG)) none none none none none none) = some ([some (.val SD), some (.ownD ds), some (.val (.int i)), some (.val (.int w)), some (.val (.int s)), some (.val (.int l)), c6, some (.val (.int z)), some (.val BG), some (.val L), some (.val WS), none, none, some (.val (.int nd)), some (.val AM), none, none, none, none]) := rfl
  rw [hA]
  show sW _ _ _ = _
  rw [sW_r]
  unfold least_needs_b2
  rw [sT_nx (r1 := [some (.val SD), some (.ownD ds), some (.val (.int i)), some (.val (.int w)), some (.val (.int s)), some (.val (.int l)), c6, some (.val (.int z)), some (.val BG), some (.val L), some (.val WS), none, none, some (.val (.int nd)), some (.val AM), some (.val (.int hi)), none, none, none]) (by simp [-max2D_i, h1, hm]),
    sT_nx (r1 := [some (.val SD), some (.ownD ds), some (.val (.int i)), some (.val (.int w)), some (.val (.int s)), some (.val (.int l)), c6, some (.val (.int z)), some (.val BG), some (.val L), some (.val WS), none, some (.val (.int (v + z))), some (.val (.int nd)), some (.val AM), some (.val (.int hi)), none, none, none]) (by simp [h1']),
    sT_nx (r1 := [some (.val SD), some (.ownD ds), some (.val (.int i)), some (.val (.int w)), some (.val (.int s)), some (.val (.int l)), c6, some (.val (.int z)), some (.val BG), some (.val L), some (.val WS), none, some (.val (.int (v + z))), some (.val (.int nd)), some (.val AM), some (.val (.int hi)), some (.val (.tuple [.int i, .tuple ss])), none, none]) (by simp [-sortX, h2, h3, tup_list])]
  simp [h4, h5, h6, h7, hl]
theorem prs_add (a b : List (Int × Int)) (h : a.length + b.length ≤ 1000) : addD (prsD a) (prsD b) = some (prsD (a ++ b)) := by
  show (if _ then _ else _) = _
  rw [if_pos (by rw [List.length_map, List.length_map]; unfold sizeLine; omega), ← List.map_append]
  rfl
theorem nb2_loop {S : Sky} (F : Fit S) (i : Nat) (hi : i < S.looks.length) (hi2 : i ≤ 900) (c6 : Option Cell) (BG : D) (bs : List BegN) (hb : ∀ b ∈ bs, ∃ p, BegNOk S i b p) : ∀ (rows : RowsN), (rows.map (·.1)).Nodup → tot rows + bs.length ≤ 900 → rows.length + bs.length ≤ 100000 →
    loopF A10 (sW [9, 10, 12, 13, 14, 15, 16] (least_needs_b2 R_stored_at R_lowest)) (bs.map bgD) (E19 (skyD S) (some (.ownD (rows.map rowN))) (some (.val (.int i))) (some (.val (.int (S.wi i)))) (some (.val (.int (S.lk i).s))) (some (.val (.int (S.lk i).l))) c6 (some (.val (.int (S.lk i).z))) (some (.val BG)) none none none none none none) =
      some (.nx (E19 (skyD S) (some (.ownD ((bs.foldl (putN S i) rows).map rowN))) (some (.val (.int i))) (some (.val (.int (S.wi i)))) (some (.val (.int (S.lk i).s))) (some (.val (.int (S.lk i).l))) c6 (some (.val (.int (S.lk i).z))) (some (.val BG)) none none none none none none)) := by
  induction bs with
  | nil => intro rows _ _ _; rfl
  | cons b bs ih =>
    intro rows hn ht hl
    rw [List.length_cons] at ht hl
    obtain ⟨p, ok⟩ := hb b (List.mem_cons_self ..)
    have asc := plan_len ok.ls.plan i ok.ls.lt
    have wl : b.ws.length ≤ 900 := by rw [ok.ws, set_len]; omega
    have st := stored_ok F b.last (fun j hj => ok.vp.2.1 j (by have h := ok.vp.1; rw [hj] at h; exact List.mem_of_getLast? h.symm)) b.amt
    have ad := ws_add b.ws (S.wi i) (by omega)
    have so := (sort_ints (b.ws ++ [S.wi i]) (by rw [List.length_append, List.length_singleton]; omega)).1
    have tk := rkK.ok (keyN S i b)
    have fi := enc_find rkK prsD rows (keyN S i b)
    obtain ⟨_, tl⟩ := tot_put hn (keyN S i b) []
    have pa := prs_add ((aFind rows (keyN S i b)).getD []) [pairN S i b] (by rw [List.length_singleton]; omega)
    have lo := lowest_ok ((aFind rows (keyN S i b)).getD [] ++ [pairN S i b]) (by rw [List.length_append, List.length_singleton]; omega)
    have ev := nb2_ev R_stored_at R_lowest (skyD S) (lastD b.last) (wsD b.ws) (.int b.amt) (wsD (b.ws ++ [S.wi i])) _ _ BG ((sortI (b.ws ++ [S.wi i])).map .int) (rows.map rowN) i (S.wi i) (S.lk i).s (S.lk i).l (S.lk i).z b.nd _ _ _ c6 _ (((aFind rows (keyN S i b)).getD []).map prD)
      (by rw [List.length_map]; exact small_len (by omega)) (st (S.lk i).s) (st ((S.lk i).s + (S.lk i).l)) rfl ad so tk (by
        have e : dFind (rows.map rowN) (.tuple [.int i, .tuple ((sortI (b.ws ++ [S.wi i])).map .int)]) = (aFind rows (keyN S i b)).map prsD := fi
        rw [e]
        cases aFind rows (keyN S i b) <;> rfl) pa lo
    have e2 : dPut (rows.map rowN) (.tuple [.int i, .tuple ((sortI (b.ws ++ [S.wi i])).map .int)]) (prsD (lowZ ((aFind rows (keyN S i b)).getD [] ++ [pairN S i b]))) = (putN S i rows b).map rowN := enc_put rkK prsD rows (keyN S i b) _
    rw [e2] at ev
    have pt := putN_tot (S := S) (i := i) (b := b) hn
    have pl := put_len rows (keyN S i b) (lowZ ((aFind rows (keyN S i b)).getD [] ++ [pairN S i b]))
    have ih' := ih (fun b' h' => hb b' (List.mem_cons_of_mem _ h')) (putN S i rows b) (nodup_put hn) (by omega) (by
      have : (putN S i rows b).length ≤ rows.length + 1 := pl
      omega)
    rw [List.foldl_cons, ← ih', List.map_cons]
    show (A10 _ _).bind _ = _
    obtain ⟨r1, hA, hB⟩ := Option.bind_eq_some_iff.mp ev
    have hA' : A10 (bgD b) (E19 (skyD S) (some (.ownD (rows.map rowN))) (some (.val (.int i))) (some (.val (.int (S.wi i)))) (some (.val (.int (S.lk i).s))) (some (.val (.int (S.lk i).l))) c6 (some (.val (.int (S.lk i).z))) (some (.val BG)) none none none none none none) = some r1 := hA
    rw [hA']
    show (match sW [9, 10, 12, 13, 14, 15, 16] (least_needs_b2 R_stored_at R_lowest) r1 with | some (.nx r2) => loopF A10 (sW [9, 10, 12, 13, 14, 15, 16] (least_needs_b2 R_stored_at R_lowest)) _ r2 | some (.ct r2) => loopF A10 (sW [9, 10, 12, 13, 14, 15, 16] (least_needs_b2 R_stored_at R_lowest)) _ r2 | some (.bk r2) => some (.nx r2) | o => o) = _
    rw [hB]
abbrev A2n : FG := (gTp 2 (gsCons (gNm 2) (gsCons (gTp 5 (gsCons (gNm 3) (gsCons (gNm 4) (gsCons (gNm 5) (gsCons (gNm 6) (gsCons (gNm 7) gsNil)))))) gsNil)))
theorem nb4_ev (FO SA LO : List D → Option D) (SD W S L A Z : D) (i : Nat) (ds ds2 : List (D × D)) (bs : List D)
    (h1 : loopF A9 (sW [9, 10, 11] (least_needs_b3 FO)) (itemsD ds) (E19 SD (some (.tag 1)) (some (.val (.int i))) (some (.val W)) (some (.val S)) (some (.val L)) (some (.val A)) (some (.val Z)) (some (.own [.tuple [.none, .tuple [], .int 0, .int 0]])) none none none none none none) = some (.nx (E19 SD (some (.tag 1)) (some (.val (.int i))) (some (.val W)) (some (.val S)) (some (.val L)) (some (.val A)) (some (.val Z)) (some (.own bs)) none none none none none none)))
    (h2 : loopF A10 (sW [9, 10, 12, 13, 14, 15, 16] (least_needs_b2 SA LO)) bs (E19 SD (some (.ownD ds)) (some (.val (.int i))) (some (.val W)) (some (.val S)) (some (.val L)) (some (.val A)) (some (.val Z)) (some (.val (.list bs))) none none none none none none) = some (.nx (E19 SD (some (.ownD ds2)) (some (.val (.int i))) (some (.val W)) (some (.val S)) (some (.val L)) (some (.val A)) (some (.val Z)) (some (.val (.list bs))) none none none none none none))) :
    (A2n (.tuple [.int i, .tuple [W, S, L, A, Z]]) (E19 SD (some (.ownD ds)) none none none none none none none none none none none none none)).bind (sW [2, 3, 4, 5, 6, 7, 8, 9, 10, 11, 12, 13, 14, 15, 16] (least_needs_b4 FO SA LO)) =
      some (.nx (E19 SD (some (.ownD ds2)) none none none none none none none none none none none none none)) := by
  have hA : A2n (.tuple [.int i, .tuple [W, S, L, A, Z]]) (E19 SD (some (.ownD ds)) none none none none none none none none none none none none none) = some (E19 SD (some (.ownD ds)) (some (.val (.int i))) (some (.val W)) (some (.val S)) (some (.val L)) (some (.val A)) (some (.val Z)) none none none none none none none) := rfl
  rw [hA]
  show sW _ _ _ = _
  rw [sW_r]
  unfold least_needs_b4
  rw [sT_nx (r1 := E19 SD (some (.ownD ds)) (some (.val (.int i))) (some (.val W)) (some (.val S)) (some (.val L)) (some (.val A)) (some (.val Z)) (some (.own [.tuple [.none, .tuple [], .int 0, .int 0]])) none none none none none none) rfl,
    sT_nx (r1 := E19 SD (some (.ownD ds)) (some (.val (.int i))) (some (.val W)) (some (.val S)) (some (.val L)) (some (.val A)) (some (.val Z)) (some (.own bs)) none none none none none none) (by simp [sForD, h1])]
  simp [sForW_r, h2]
theorem rowsN_small {S : Sky} (F : Fit S) (hl : S.looks.length ≤ 8) (m : Nat) (hm : m ≤ S.looks.length) : tot (rowsN S m) ≤ 255 ∧ (rowsN S m).length ≤ 255 := by
  have I := ninv F m hm
  have h2 : 2 ^ m ≤ 2 ^ 8 := Nat.pow_le_pow_right (by decide) (by omega)
  have := I.tot
  have := I.len
  omega
theorem len_tot : ∀ {rows : RowsN} {e : (Nat × List Int) × List (Int × Int)}, e ∈ rows → e.2.length ≤ tot rows
  | r :: rows, e, h => by
    show _ ≤ r.2.length + tot rows
    rcases List.mem_cons.mp h with rfl | h
    · omega
    · have := len_tot h
      omega
theorem rows_loop {S : Sky} (F : Fit S) (hl : S.looks.length ≤ 7) : loopF A2n (sW [2, 3, 4, 5, 6, 7, 8, 9, 10, 11, 12, 13, 14, 15, 16] (least_needs_b4 R_follows R_stored_at R_lowest)) (enumL 0 (S.looks.map lD)) (E19 (skyD S) (some (.ownD [])) none none none none none none none none none none none none none) =
    some (.nx (E19 (skyD S) (some (.ownD ((rowsN S S.looks.length).map rowN))) none none none none none none none none none none none none none)) := by
  obtain ⟨r', h1, rfl⟩ := loop_all (A := A2n) (body := sW [2, 3, 4, 5, 6, 7, 8, 9, 10, 11, 12, 13, 14, 15, 16] (least_needs_b4 R_follows R_stored_at R_lowest)) (items := enumL 0 (S.looks.map lD)) (r := E19 (skyD S) (some (.ownD [])) none none none none none none none none none none none none none)
    (fun k r => r = E19 (skyD S) (some (.ownD ((rowsN S k).map rowN))) none none none none none none none none none none none none none) rfl fun k d r e er => by
      subst er
      rw [enumL_get, Nat.zero_add, List.getElem?_map] at e
      obtain ⟨y, e1, rfl⟩ := Option.map_eq_some_iff.mp e
      obtain ⟨x, e2, rfl⟩ := Option.map_eq_some_iff.mp e1
      have hk : k < S.looks.length := (List.getElem?_eq_some_iff.mp e2).1
      have ex : S.lk k = x := by
        unfold Sky.lk
        rw [List.getD_eq_getElem?_getD, e2]
        rfl
      have I := ninv F k (by omega)
      obtain ⟨b1, b2⟩ := rowsN_small F (by omega) k (by omega)
      have bl : (begsN S k (rowsN S k)).length ≤ 1 + tot (rowsN S k) := begsN_len
      have ew : S.wi k = x.w := by unfold Sky.wi; rw [ex]
      have l1 := nb3_loop F k hk (some (.val (.int x.s))) (some (.val (.int x.l))) (some (.val (.int x.a))) (some (.val (.int x.z))) (rowsN S k) (fun e he => ⟨by
        obtain ⟨hne, hpr⟩ := I.ent e he
        cases hh : e.2 with
        | nil => exact absurd hh hne
        | cons y ys =>
          obtain ⟨p, hp⟩ := hpr y (by rw [hh]; exact List.mem_cons_self ..)
          have := hp.ls.lt _ (List.mem_of_getLast? hp.last)
          omega, by have := len_tot he; omega⟩) (by omega)
      have l2 := nb2_loop F k hk (by omega) (some (.val (.int x.a))) (.list ((begsN S k (rowsN S k)).map bgD)) (begsN S k (rowsN S k)) (begsN_ok F hk I.ent) (rowsN S k) I.nodup (by omega) (by omega)
      rw [ew] at l1 l2
      rw [ex] at l2
      have ev := nb4_ev R_follows R_stored_at R_lowest (skyD S) (.int x.w) (.int x.s) (.int x.l) (.int x.a) (.int x.z) k _ _ _ l1 l2
      obtain ⟨r1, hA, hB⟩ := Option.bind_eq_some_iff.mp ev
      exact ⟨r1, _, hA, .inl hB, by rw [rowsN_succ]; rfl⟩
  rw [enumL_length, List.length_map] at h1
  exact h1
/-! the least need of each set -/
def ndsOf (e : (Nat × List Int) × List (Int × Int)) : Int := minI (e.2.map (·.2))
def addM (f : List (List Int × Int)) (e : (Nat × List Int) × List (Int × Int)) : List (List Int × Int) := aPut f e.1.2 (mn ((aFind f e.1.2).getD (ndsOf e)) (ndsOf e))
def leastZ (S : Sky) : List (List Int × Int) := (rowsN S S.looks.length).foldl addM [([], 0)]
theorem addM_keep {f : List (List Int × Int)} {e : (Nat × List Int) × List (Int × Int)} {k : List Int} {v : Int} (h : aFind f k = some v) : ∃ u, aFind (addM f e) k = some u ∧ u ≤ v := by
  unfold addM
  by_cases z : k = e.1.2
  · subst z
    rw [aFind_same, h]
    refine ⟨_, rfl, ?_⟩
    show mn v _ ≤ v
    unfold mn
    split <;> omega
  · exact ⟨v, by rw [aFind_ne _ _ z, h], Int.le_refl _⟩
theorem foldM_keep : ∀ {es : RowsN} {f : List (List Int × Int)} {k : List Int} {v : Int}, aFind f k = some v → ∃ u, aFind (es.foldl addM f) k = some u ∧ u ≤ v
  | [], f, k, v, h => ⟨v, h, Int.le_refl _⟩
  | e :: es, f, k, v, h => by
    obtain ⟨u, h1, l1⟩ := addM_keep (e := e) h
    obtain ⟨u2, h2, l2⟩ := foldM_keep (es := es) h1
    exact ⟨u2, h2, by omega⟩
theorem foldM_here {e : (Nat × List Int) × List (Int × Int)} {x : Int × Int} (hx : x ∈ e.2) : ∀ {es : RowsN} {f : List (List Int × Int)}, e ∈ es → ∃ u, aFind (es.foldl addM f) e.1.2 = some u ∧ u ≤ x.2
  | e' :: es, f, h => by
    rw [List.foldl_cons]
    rcases List.mem_cons.mp h with rfl | h
    · have h1 : aFind (addM f e) e.1.2 = some (mn ((aFind f e.1.2).getD (ndsOf e)) (ndsOf e)) := aFind_same _ _ _
      have hn : ndsOf e ≤ x.2 := by
        have ne : e.2.map (·.2) ≠ [] := fun z => by rw [List.map_eq_nil_iff.mp z] at hx; cases hx
        exact (minI_spec ne).2 _ (List.mem_map.mpr ⟨x, hx, rfl⟩)
      obtain ⟨u, h2, l2⟩ := foldM_keep (es := es) h1
      refine ⟨u, h2, ?_⟩
      have : mn ((aFind f e.1.2).getD (ndsOf e)) (ndsOf e) ≤ ndsOf e := by unfold mn; split <;> omega
      omega
    · exact foldM_here hx h
def LeastOk (S : Sky) (f : List (List Int × Int)) : Prop := ∀ x ∈ f, ∃ p, LsP S S.looks.length p ∧ setOf S p = x.1 ∧ ndOf S p = x.2
theorem addM_ok {S : Sky} {f : List (List Int × Int)} {e : (Nat × List Int) × List (Int × Int)} (hf : LeastOk S f) (he : e.2 ≠ [] ∧ ∀ x ∈ e.2, ∃ p, PrOk S S.looks.length e.1 x p) : LeastOk S (addM f e) := by
  intro x hx
  have hn : ∃ p, LsP S S.looks.length p ∧ setOf S p = e.1.2 ∧ ndOf S p = ndsOf e := by
    have ne : e.2.map (·.2) ≠ [] := fun z => he.1 (List.map_eq_nil_iff.mp z)
    obtain ⟨y, hy, ey⟩ := List.mem_map.mp (minI_spec ne).1
    obtain ⟨p, hp⟩ := he.2 y hy
    exact ⟨p, hp.ls, hp.ws.symm, by rw [← hp.nd]; exact ey⟩
  rcases mem_put hx with hx | rfl
  · exact hf x hx
  · show ∃ p, LsP S S.looks.length p ∧ setOf S p = e.1.2 ∧ ndOf S p = mn ((aFind f e.1.2).getD (ndsOf e)) (ndsOf e)
    cases ef : aFind f e.1.2 with
    | none =>
      obtain ⟨p, a, b, c⟩ := hn
      refine ⟨p, a, b, ?_⟩
      show _ = mn (ndsOf e) (ndsOf e)
      unfold mn
      split <;> exact c
    | some v =>
      show ∃ p, _ ∧ _ ∧ ndOf S p = mn v (ndsOf e)
      unfold mn
      split
      · exact hn
      · exact hf _ (aFind_mem ef)
theorem foldM_ok {S : Sky} : ∀ {es : RowsN} {f : List (List Int × Int)}, LeastOk S f → (∀ e ∈ es, e.2 ≠ [] ∧ ∀ x ∈ e.2, ∃ p, PrOk S S.looks.length e.1 x p) → LeastOk S (es.foldl addM f)
  | [], f, h, _ => h
  | e :: es, f, h, he => foldM_ok (es := es) (addM_ok h (he e (List.mem_cons_self ..))) fun e' h' => he e' (List.mem_cons_of_mem _ h')
theorem least_ok {S : Sky} (F : Fit S) : LeastOk S (leastZ S) := foldM_ok (fun x hx => by
  rw [List.mem_singleton.mp hx]
  exact ⟨[], ⟨.nil, fun j hj => (by cases hj)⟩, set_nil S, rfl⟩) (ninv F S.looks.length (Nat.le_refl _)).ent
theorem least_low {S : Sky} (F : Fit S) {p : List Nat} (h : LsP S S.looks.length p) : ∃ v, (setOf S p, v) ∈ leastZ S ∧ v ≤ ndOf S p := by
  cases e : p.getLast? with
  | none =>
    rw [List.getLast?_eq_none_iff.mp e]
    obtain ⟨u, h1, l1⟩ := foldM_keep (es := rowsN S S.looks.length) (f := [(([] : List Int), (0 : Int))]) (k := []) (v := 0) rfl
    exact ⟨u, by rw [set_nil]; exact aFind_mem h1, l1⟩
  | some l =>
    obtain ⟨v, h1, x, hx, d1, d2⟩ := (ninv F S.looks.length (Nat.le_refl _)).low p h l e
    obtain ⟨u, h2, l2⟩ := foldM_here (e := ((l, setOf S p), v)) hx (f := [([], 0)]) (aFind_mem h1)
    exact ⟨u, aFind_mem h2, Int.le_trans l2 d2⟩
theorem foldM_len : ∀ {es : RowsN} {f : List (List Int × Int)}, (es.foldl addM f).length ≤ f.length + es.length
  | [], _ => Nat.le_refl _
  | e :: es, f => by
    have := foldM_len (es := es) (f := addM f e)
    have h2 : (addM f e).length ≤ f.length + 1 := put_len _ _ _
    rw [List.foldl_cons, List.length_cons]
    omega
theorem least_len {S : Sky} (F : Fit S) (hl : S.looks.length ≤ 7) : (leastZ S).length ≤ 256 := by
  have h : (leastZ S).length ≤ [(([] : List Int), (0 : Int))].length + (rowsN S S.looks.length).length := foldM_len
  have := (rowsN_small F (by omega) S.looks.length (Nat.le_refl _)).2
  simp only [List.length_singleton] at h
  omega
/-! .. as the program computes it -/
def leE (x : List Int × Int) : D × D := (wsD x.1, .int x.2)
abbrev A6 : FG := (gTp 2 (gsCons (gTp 2 (gsCons (gNm 6) (gsCons (gNm 10) gsNil))) (gsCons (gNm 11) gsNil)))
abbrev E19b (SD RD : D) (c6 c10 c11 : Option Cell) (f : List (D × D)) (c18 : Option Cell) : Ev := [some (.val SD), some (.val RD), none, none, none, none, c6, none, none, none, c10, c11, none, none, none, none, none, some (.ownD f), c18]
theorem n_c1 (SD RD L WS : D) (f : List (D × D)) (xs : List (Int × Int)) (hl : xs.length ≤ 1000) : least_needs_c1 (E19b SD RD (some (.val L)) (some (.val WS)) (some (.val (prsD xs))) f none) = some ((xs.map (·.2)).map .int, E19b SD RD (some (.val L)) (some (.val WS)) (some (.val (prsD xs))) f none) := by
  unfold least_needs_c1
  rw [List.map_map]
  refine (lc_run1 prD _ (r0 := E19b SD RD (some (.val L)) (some (.val WS)) (some (.val (prsD xs))) f none) rfl rfl (fun x _ => ?_) (by omega)).trans rfl
  generalize prsD xs = P
  simp [lcTurn, prD]
theorem nb1_ev (SD RD L WS PR : D) (f : List (D × D)) (ns : List Int) (nk : NestedKey) (u v : Int) (hn : ns ≠ []) (hl : f.length < sizeLine) (c1 : least_needs_c1 (E19b SD RD (some (.val L)) (some (.val WS)) (some (.val PR)) f none) = some (ns.map .int, E19b SD RD (some (.val L)) (some (.val WS)) (some (.val PR)) f none)) (h1 : tkey WS = some nk) (h2 : (dFind f WS).getD (.int (minI ns)) = .int u) (h3 : min2D (.int u) (.int (minI ns)) = some (.int v)) :
    (A6 (.tuple [.tuple [L, WS], PR]) (E19b SD RD none none none f none)).bind (sW [6, 10, 11, 18] least_needs_b1) = some (.nx (E19b SD RD none none none (dPut f WS (.int v)) none)) := by
  have mi := min_ints hn
  have hA : A6 (.tuple [.tuple [L, WS], PR]) (E19b SD RD none none none f none) = some (E19b SD RD (some (.val L)) (some (.val WS)) (some (.val PR)) f none) := rfl
  rw [hA]
  show sW _ _ _ = _
  rw [sW_r]
  unfold least_needs_b1
  rw [sT_nx (r1 := E19b SD RD (some (.val L)) (some (.val WS)) (some (.val PR)) f (some (.val (.int (minI ns))))) (by simp [c1, mi])]
  simp [-min2D_i, h1, h2, h3, hl]
theorem least_ev (FO SA LO : List D → Option D) (SD LD : D) (lds rs f : List (D × D)) (ls : List D) (nk : NestedKey) (h0 : ixD SD (.int 0) = some (.list ls)) (tk : tkey (.tuple []) = some nk)
    (l1 : loopF A2n (sW [2, 3, 4, 5, 6, 7, 8, 9, 10, 11, 12, 13, 14, 15, 16] (least_needs_b4 FO SA LO)) (enumL 0 ls) (E19 SD (some (.ownD [])) none none none none none none none none none none none none none) = some (.nx (E19 SD (some (.ownD rs)) none none none none none none none none none none none none none)))
    (l2 : loopF A6 (sW [6, 10, 11, 18] least_needs_b1) (rs.map fun z => .tuple [z.1, z.2]) (E19b SD (.dict rs) none none none [(.tuple [], .int 0)] none) = some (.nx (E19b SD (.dict rs) none none none f none))) :
    endP (F_least_needs FO SA LO (startE 19 [SD])) = some (.dict f) := by
  unfold F_least_needs
  rw [sT_nx (r1 := E19 SD (some (.ownD [])) none none none none none none none none none none none none none) rfl,
    sT_nx (r1 := E19 SD (some (.ownD rs)) none none none none none none none none none none none none none) (by simp [sForW_r, h0, l1]),
    sT_nx (r1 := [some (.val SD), some (.ownD rs), none, none, none, none, none, none, none, none, none, none, none, none, none, none, none, some (.ownD [(.tuple [], .int 0)]), none]) (by simp [tk]),
    sT_nx (r1 := E19b SD (.dict rs) none none none f none) (by simp [sForW_r, l2])]
  simp
theorem leastD_ok {S : Sky} (F : Fit S) (hl : S.looks.length ≤ 7) : R_least_needs [skyD S] = some (.dict ((leastZ S).map leE)) := by
  have hlen := (rowsN_small F (by omega) S.looks.length (Nat.le_refl _))
  have I := ninv F S.looks.length (Nat.le_refl _)
  have l1 := rows_loop F hl
  have l2 := (loop_count (A := A6) (body := sW [6, 10, 11, 18] least_needs_b1) (fun e : (Nat × List Int) × List (Int × Int) => .tuple [rkD e.1, prsD e.2])
    (fun f : List (List Int × Int) => E19b (skyD S) (.dict ((rowsN S S.looks.length).map rowN)) none none none (f.map leE) none) addM (fun k f => f.length ≤ 1 + k) (xs := rowsN S S.looks.length) (b := [([], 0)]) 0 (Nat.le_refl _) fun k f e hk he hf => by
      have fi := enc_find wsK (fun v : Int => (.int v : D)) f e.1.2
      refine ⟨.inl ?_, ?_⟩
      · have el := len_tot he
        have ev := nb1_ev (skyD S) (.dict ((rowsN S S.looks.length).map rowN)) (.int e.1.1) (wsD e.1.2) (prsD e.2) (f.map leE) (e.2.map (·.2)) _ ((aFind f e.1.2).getD (ndsOf e)) _ (fun z => (I.ent e he).1 (List.map_eq_nil_iff.mp z)) (by rw [List.length_map]; exact small_len (by omega)) (n_c1 _ _ _ _ _ e.2 (by omega)) (wsK.ok e.1.2) (by
          have e1 : dFind (f.map leE) (wsD e.1.2) = (aFind f e.1.2).map fun v : Int => (.int v : D) := fi
          rw [e1]
          cases aFind f e.1.2 <;> rfl) rfl
        have e2 : dPut (f.map leE) (wsD e.1.2) (.int (mn ((aFind f e.1.2).getD (ndsOf e)) (ndsOf e))) = (addM f e).map leE := enc_put wsK (fun v : Int => (.int v : D)) f e.1.2 _
        rw [← e2]
        exact ev
      · have := put_len f e.1.2 (mn ((aFind f e.1.2).getD (ndsOf e)) (ndsOf e))
        unfold addM
        omega).1
  have e1 : ((rowsN S S.looks.length).map rowN).map (fun z => (.tuple [z.1, z.2] : D)) = (rowsN S S.looks.length).map fun e => .tuple [rkD e.1, prsD e.2] := by
    rw [List.map_map]
    rfl
  rw [← e1] at l2
  unfold R_least_needs runP
  exact least_ev R_follows R_stored_at R_lowest (skyD S) .none [] _ _ _ _ (sky_i0 S) (wsK.ok []) l1 l2
end Sk
/-! Worths and needs; timely lists on the law's side. -/
namespace Sk
open PySem PySem.Spec PyProof.Rows L2 SL
theorem lneed_ev (St : List D → Option D) (SD NS LD X P : D) (nd k i s z u nd2 : Int) (c4 : Option Cell) (h0 : ixD SD (.int 0) = some LD) (hn : ixD NS (.int k) = some (.int i)) (h1 : ixD LD (.int i) = some X) (x1 : ixD X (.int 1) = some (.int s)) (x4 : ixD X (.int 4) = some (.int z)) (hc : cutAny NS none (some k) = some P) (hu : St [SD, P, .int s] = some (.int u)) (hm : max2D (.int nd) (.int (u + z)) = some (.int nd2)) :
    (sSeq (sSet 4 (f2 ixD (f2 ixD (fV 0) (fC (.int 0))) (f2 ixD (fV 1) (fV 3))))
    (sSet 2 (f2 max2D (fV 2) (f2 addD (fCall St (aCons (fV 0) (aCons (fCut (fV 1) oNone (oSome (fV 3))) (aCons (f2 ixD (fV 4) (fC (.int 1))) aNil)))) (f2 ixD (fV 4) (fC (.int 4))))))) [some (.val SD), some (.val NS), some (.val (.int nd)), some (.val (.int k)), c4] =
      some (.nx [some (.val SD), some (.val NS), some (.val (.int nd2)), some (.val (.int k)), some (.val X)]) := by
  rw [sSeq_nx (r1 := [some (.val SD), some (.val NS), some (.val (.int nd)), some (.val (.int k)), some (.val X)]) (by simp [h0, hn, h1])]
  simp [-cutAny, -max2D_i, hc, x1, x4, hu, hm]
theorem lneed_ok {S : Sky} (F : Fit S) (ns : List Nat) (hn : ∀ i ∈ ns, i < S.looks.length) (hl : ns.length ≤ 1000) : Sk.R__law_need [skyD S, namesD ns] = some (.int (needZ S ns ns.length)) := by
  have hr := okR_of (i := (ns.length : Int)) (by omega) (by omega)
  obtain ⟨r', h1, c3, c4, rfl⟩ := loop_all (A := gNm 3) (body := (sSeq (sSet 4 (f2 ixD (f2 ixD (fV 0) (fC (.int 0))) (f2 ixD (fV 1) (fV 3))))
    (sSet 2 (f2 max2D (fV 2) (f2 addD (fCall Sk.R__law_store (aCons (fV 0) (aCons (fCut (fV 1) oNone (oSome (fV 3))) (aCons (f2 ixD (fV 4) (fC (.int 1))) aNil)))) (f2 ixD (fV 4) (fC (.int 4)))))))) (items := rngL 0 ns.length) (r := [some (.val (skyD S)), some (.val (namesD ns)), some (.val (.int 0)), none, none])
    (fun k r => ∃ c3 c4 : Option Cell, r = [some (.val (skyD S)), some (.val (namesD ns)), some (.val (.int (needZ S ns k))), c3, c4])
    ⟨none, none, rfl⟩ fun k d r e ⟨c3, c4, er⟩ => by
      subst er
      obtain ⟨hk, rfl⟩ := rngL_get e
      rw [show (0 : Int) + (k : Int) = k from Int.zero_add _]
      have hi : ns.getD k 0 < S.looks.length := hn _ (by
        rw [List.getD_eq_getElem?_getD, List.getElem?_eq_getElem hk]
        exact List.getElem_mem hk)
      have s0 := F.s0 _ (lk_mem hi)
      have s1 := F.s1 _ (lk_mem hi)
      have ev := lneed_ev Sk.R__law_store (skyD S) (namesD ns) _ (lD (S.lk (ns.getD k 0))) _ (needZ S ns k) k _ _ _ _ _ c4 (sky_i0 S) (names_ix ns k hk) (look_ix (lk_get hi)) rfl rfl (names_cut ns k (by omega)) (store_ok F (ns.take k) (fun i hi => hn i (List.mem_of_mem_take hi)) _ s0 (by omega)) rfl
      have en2 : needZ S ns (k + 1) = if storeZ S (ns.take k) (S.lk (ns.getD k 0)).s + (S.lk (ns.getD k 0)).z > needZ S ns k then storeZ S (ns.take k) (S.lk (ns.getD k 0)).s + (S.lk (ns.getD k 0)).z else needZ S ns k := rfl
      rw [← en2] at ev
      exact ⟨_, _, rfl, .inl ev, some (.val (.int k)), _, rfl⟩
  rw [rngL_length] at h1
  have e5 : lenD (namesD ns) = some (.int ns.length) := by
    show some (PyData.int _) = _
    rw [List.length_map]
  unfold Sk.R__law_need runP Sk.F__law_need
  rw [sSeq_nx (r1 := [some (.val (skyD S)), some (.val (namesD ns)), some (.val (.int 0)), none, none]) rfl,
    sSeq_nx (by rw [sFor_eq (ds := rngL 0 ns.length) (r1 := [some (.val (skyD S)), some (.val (namesD ns)), some (.val (.int 0)), none, none]) (by
      generalize skyD S = SD
      generalize namesD ns = NS at e5 ⊢
      simp [SL.iRng1, e5, hr])]; exact h1)]
  simp
theorem sizes_le {S : Sky} (h : ∀ x ∈ S.looks, x.z ≤ 30) : sizes S ≤ 30 * S.looks.length := by
  have : ∀ n, n ≤ S.looks.length → sumTo (fun i => (S.lk i).z) n ≤ 30 * (n : Int) := fun n => by
    induction n with
    | zero => intro _; exact Int.le_refl _
    | succ n ih =>
      intro hn
      have a := ih (by omega)
      have b := h _ (lk_mem (show n < S.looks.length by omega))
      show sumTo _ n + (S.lk n).z ≤ _
      omega
  exact this _ (Nat.le_refl _)
theorem roomy_ok (S : Sky) (c : Int) : R__law_roomy [skyD S, .int c] = some (skyD (S.withC c)) := rfl
/-! timely lists -/
def tlL (S : Sky) : List (List Nat) := (lst S.looks.length).filter S.timely
theorem mem_tl {S : Sky} (F : Fit S) {p : List Nat} : p ∈ tlL S ↔ LsP S S.looks.length p := by
  unfold tlL
  rw [List.mem_filter]
  constructor
  · intro ⟨a, b⟩
    have h := (lst_lt _ p a).1
    exact ⟨(plan_big F h).mpr b, h⟩
  · intro ⟨a, b⟩
    exact ⟨asc_lst _ (plan_asc a) b, (plan_big F b).mp a⟩
theorem tl_len {S : Sky} (h : S.looks.length ≤ 6) : (tlL S).length ≤ 64 := by
  unfold tlL
  have := List.length_filter_le S.timely (lst S.looks.length)
  have h2 : 2 ^ S.looks.length ≤ 2 ^ 6 := Nat.pow_le_pow_right (by decide) h
  rw [lst_len] at this
  omega
theorem worth_setN {S : Sky} {p : List Nat} (hp : PlanP S.big p) : worthZ S p = sumW S (setOf S p) := @worth_set S.big p hp
def tmD (S : Sky) (p : List Nat) : D := .tuple [namesD p, .int (ndOf S p), .int (worthZ S p)]
theorem tm_c2 (LL LW : List D → Option D) (SD RD : D) (ls : List (List Nat)) (f : List Nat → D) (h1 : LL [SD] = some (plistD ls)) (hf : ∀ p ∈ ls, LW [RD, namesD p] = some (f p) ∧ (f p = .none ∨ ∃ w k, f p = .tuple [.str w, .int k])) (hl : ls.length ≤ 1000) :
    _law_timely_c2 LL LW [some (.val SD), some (.val RD), none, none] = some ((ls.filter fun p => isN (f p)).map namesD, [some (.val SD), some (.val RD), none, none]) := by
  unfold _law_timely_c2
  refine (lc_run namesD (fun p => isN (f p)) namesD (r0 := [some (.val SD), some (.val RD), none, none]) (by simp [iSeq, h1, plistD]) rfl (fun p hp => ?_) (by omega)).trans rfl
  obtain ⟨a, b⟩ := hf p hp
  generalize namesD p = NS at a ⊢
  rcases b with b | ⟨w, k, b⟩ <;> rw [b] at a ⊢ <;> simp [lcTurn, a, isN]
theorem tm_c1 (LN LW : List D → Option D) (SD RD : D) (ps : List (List Nat)) (u v : List Nat → Int) (hf : ∀ p ∈ ps, LN [SD, namesD p] = some (.int (u p)) ∧ LW [SD, namesD p] = some (.int (v p))) (hl : ps.length ≤ 1000) :
    _law_timely_c1 LN LW [some (.val SD), some (.val RD), some (.val (plistD ps)), none] = some (ps.map fun p => .tuple [namesD p, .int (u p), .int (v p)], [some (.val SD), some (.val RD), some (.val (plistD ps)), none]) := by
  unfold _law_timely_c1
  refine (lc_run1 namesD _ (r0 := [some (.val SD), some (.val RD), some (.val (plistD ps)), none]) rfl rfl (fun p hp => ?_) (by omega)).trans rfl
  obtain ⟨a, b⟩ := hf p hp
  show _ = some (some (PyData.tuple [namesD p, .int (u p), .int (v p)]), _)
  generalize namesD p = NS at a b ⊢
  generalize plistD ps = PL
  simp [lcTurn, a, b]
theorem tm_ev (RO LL LR LN LW : List D → Option D) (SD RD : D) (ps zs : List D) (h1 : RO [SD, .int 1000] = some RD) (c2 : _law_timely_c2 LL LR [some (.val SD), some (.val RD), none, none] = some (ps, [some (.val SD), some (.val RD), none, none]))
    (c1 : _law_timely_c1 LN LW [some (.val SD), some (.val RD), some (.val (.list ps)), none] = some (zs, [some (.val SD), some (.val RD), some (.val (.list ps)), none])) : endP (F__law_timely RO LL LR LN LW (startE 4 [SD])) = some (.list zs) := by
  unfold F__law_timely
  rw [sT_nx (r1 := [some (.val SD), some (.val RD), none, none]) (by simp [startE, h1]),
    sT_nx (r1 := [some (.val SD), some (.val RD), some (.val (.list ps)), none]) (by simp [c2])]
  simp [c1]
theorem tm_ok {S : Sky} (F : Fit S) {m : Nat} (ok : ∀ x ∈ S.looks, OkL m x) (t30 : S.turn ≤ 30) (hl : S.looks.length ≤ 6) (hm : S.worths.length ≤ 1000) (hw : ∀ x ∈ S.looks, S.has x.w) : R__law_timely [skyD S] = some (.list ((tlL S).map (tmD S))) := by
  have sl := sizes_le (S := S) fun x hx => (ok x hx).z1
  have tl := tl_len hl
  have c2 := tm_c2 R__law_lists R__law_wrong (skyD S) (skyD (S.withC 1000)) (lst S.looks.length) (fun p => (S.withC 1000).wrongD p) (li_ok S hl) (fun p hp => by
    obtain ⟨a, b⟩ := lst_lt _ p hp
    refine ⟨lwrong_ok (withC_fit F 1000) (most := m) ok t30 p a (by omega), ?_⟩
    rcases wrong_form (S.withC 1000) p with h | ⟨w, k, h, _⟩
    · exact .inl h
    · exact .inr ⟨w, k, h⟩) (by rw [lst_len]; have := Nat.pow_le_pow_right (show 0 < 2 by decide) hl; omega)
  have ef : ((lst S.looks.length).filter fun p => isN ((S.withC 1000).wrongD p)) = tlL S := by
    unfold tlL
    refine List.filter_congr fun p hp => ?_
    exact timely_wrong F 1000 (by omega) p (lst_lt _ p hp).1
  rw [ef] at c2
  have c1 := tm_c1 R__law_need R__law_worth (skyD S) (skyD (S.withC 1000)) (tlL S) (ndOf S) (worthZ S) (fun p hp => by
    have a := lst_lt _ p (List.mem_filter.mp hp).1
    exact ⟨lneed_ok F p a.1 (by omega), lworth_ok hw hm p a.1 (by omega)⟩) (by omega)
  unfold R__law_timely runP
  exact tm_ev R__law_roomy R__law_lists R__law_wrong R__law_need R__law_worth (skyD S) (skyD (S.withC 1000)) ((tlL S).map namesD) _ (roomy_ok S 1000) c2 c1
/-! worths and needs -/
def wnL (S : Sky) : List (Int × Int) := (leastZ S).map fun x => (sumW S x.1, mx 1 x.2)
theorem least_in {S : Sky} (F : Fit S) (hw : ∀ x ∈ S.looks, S.has x.w) {x : List Int × Int} (h : x ∈ leastZ S) : (∀ w ∈ x.1, S.has w) ∧ x.1.length ≤ S.looks.length := by
  obtain ⟨p, hp, e, _⟩ := least_ok F x h
  rw [← e]
  constructor
  · intro w hw2
    obtain ⟨i, hi, rfl⟩ := List.mem_map.mp (mem_set.mp hw2)
    exact hw _ (lk_mem (hp.lt i hi))
  · rw [set_len]
    exact plan_len hp.plan _ hp.lt
theorem wn_c1 (LN SU : List D → Option D) (SD : D) (xs : List (List Int × Int)) (f : List Int → Int) (h1 : LN [SD] = some (.dict (xs.map leE))) (hf : ∀ x ∈ xs, SU [SD, wsD x.1] = some (.int (f x.1))) (hl : xs.length ≤ 1000) :
    worths_and_needs_c1 LN SU [some (.val SD), none, none] = some ((xs.map fun x => (f x.1, mx 1 x.2)).map prD, [some (.val SD), none, none]) := by
  unfold worths_and_needs_c1
  rw [List.map_map]
  refine (lc_run1 (fun x : List Int × Int => .tuple [wsD x.1, .int x.2]) _ (xs := xs) (r0 := [some (.val SD), none, none]) (by
    have e : (xs.map leE).map (fun z => (.tuple [z.1, z.2] : D)) = xs.map fun x : List Int × Int => .tuple [wsD x.1, .int x.2] := by
      rw [List.map_map]
      rfl
    rw [← e]
    generalize xs.map leE = ks at h1 ⊢
    simp [h1]) rfl (fun x hx => ?_) (by omega)).trans rfl
  have s := hf x hx
  show _ = some (some (PyData.tuple [.int (f x.1), .int (mx 1 x.2)]), _)
  have m : max2D (.int 1) (.int x.2) = some (.int (mx 1 x.2)) := rfl
  generalize wsD x.1 = W at *
  generalize mx 1 x.2 = z at *
  simp [-max2D_i, lcTurn, s, m]
theorem wn_ev (LN SU : List D → Option D) (SD : D) (zs : List D) (h : worths_and_needs_c1 LN SU [some (.val SD), none, none] = some (zs, [some (.val SD), none, none])) : endP (F_worths_and_needs LN SU (startE 3 [SD])) = some (.list zs) := by
  unfold F_worths_and_needs
  simp [startE, h]
theorem wn_ok {S : Sky} (F : Fit S) (hl : S.looks.length ≤ 7) (hw : ∀ x ∈ S.looks, S.has x.w) : R_worths_and_needs [skyD S] = some (prsD (wnL S)) := by
  have ll := least_len F hl
  unfold R_worths_and_needs runP
  exact wn_ev R_least_needs R_sum_of (skyD S) _ (wn_c1 R_least_needs R_sum_of (skyD S) (leastZ S) (sumW S) (leastD_ok F hl) (fun x hx => sum_ok x.1 (least_in F hw hx).1 (by have := (least_in F hw hx).2; omega)) (by omega))
/-- the worths and needs are those of the timely lists, as far as the least ones go -/
theorem wn_from {S : Sky} (F : Fit S) {x : Int × Int} (h : x ∈ wnL S) : ∃ p ∈ tlL S, worthZ S p = x.1 ∧ mx 1 (ndOf S p) = x.2 := by
  obtain ⟨y, hy, rfl⟩ := List.mem_map.mp h
  obtain ⟨p, hp, e1, e2⟩ := least_ok F y hy
  exact ⟨p, (mem_tl F).mpr hp, by rw [worth_setN hp.plan, e1], by rw [e2]⟩
theorem wn_low {S : Sky} (F : Fit S) {p : List Nat} (h : p ∈ tlL S) : ∃ x ∈ wnL S, x.1 = worthZ S p ∧ x.2 ≤ mx 1 (ndOf S p) := by
  have hp := (mem_tl F).mp h
  obtain ⟨v, h1, l1⟩ := least_low F hp
  exact ⟨_, List.mem_map.mpr ⟨_, h1, rfl⟩, by rw [worth_setN hp.plan], mx_le (Int.le_refl _) l1⟩
theorem tl_nil (S : Sky) : [] ∈ tlL S := List.mem_filter.mpr ⟨asc_lst _ List.Pairwise.nil fun j hj => (by cases hj), timely_nil S⟩
end Sk
/-! The greatest worth with a capacity (k50, k51, k55, k62). -/
namespace Sk
open PySem PySem.Spec PyProof.Rows L2 SL
def gain_of_room_c1 (c_worths_and_needs : List D → Option D) : FA := (lLc (iSeq (fCall c_worths_and_needs (aCons (fV 0) aNil))) [3, 4] (gTp 2 (gsCons (gNm 3) (gsCons (gNm 4) gsNil))) (gT (f2 leD (fV 4) (f2 addD (f2 ixD (fV 0) (fC (.int 3))) (fV 1)))) (fV 3))
def F_gain_of_room (c_worths_and_needs : List D → Option D) (c_greatest_worth : List D → Option D) : FS := (sT (sSet 2 (fL (gain_of_room_c1 c_worths_and_needs)))
    (sRet (f2 subD (f1 maxD (fV 2)) (fCall c_greatest_worth (aCons (fV 0) aNil)))))
def R_gain_of_room : List D → Option D := runP 5 (F_gain_of_room R_worths_and_needs R_greatest_worth)
def _law_greatest_c1 : FA := (lLc (iSeq (fV 0)) [2, 3, 4] (gTp 3 (gsCons (gNm 2) (gsCons (gNm 3) (gsCons (gNm 4) gsNil)))) (gT (f2 leD (fV 3) (fV 1))) (fV 4))
def F__law_greatest : FS := (sRet (f1 maxD (fL (_law_greatest_c1))))
def R__law_greatest : List D → Option D := runP 5 F__law_greatest
theorem lg_c1 (c : Int) (ps : List (List Nat)) (u v : List Nat → Int) (RW : D) (eR : RW = .list (ps.map fun p => .tuple [namesD p, .int (u p), .int (v p)])) (hl : ps.length ≤ 1000) :
    _law_greatest_c1 [some (.val RW), some (.val (.int c)), none, none, none] = some (((ps.filter fun p => decide (u p ≤ c)).map v).map .int, [some (.val RW), some (.val (.int c)), none, none, none]) := by
  unfold _law_greatest_c1
  rw [List.map_map]
  refine (lc_run (fun p => .tuple [namesD p, .int (u p), .int (v p)]) (fun p => decide (u p ≤ c)) _ (xs := ps) (r0 := [some (.val RW), some (.val (.int c)), none, none, none]) (by rw [eR]; rfl) rfl (fun p hp => ?_) (by omega)).trans rfl
  show _ = some ((if _ then some (PyData.int (v p)) else none), _)
  generalize namesD p = NS
  by_cases e : u p ≤ c <;> simp [lcTurn, e]
theorem lg_ev (RW : D) (c : Int) (V : List Int) (hV : V ≠ []) (lc : _law_greatest_c1 [some (.val RW), some (.val (.int c)), none, none, none] = some (V.map .int, [some (.val RW), some (.val (.int c)), none, none, none])) : endP (F__law_greatest (startE 5 [RW, .int c])) = some (.int (maxI V)) := by
  have mx := max_ints hV
  unfold F__law_greatest
  generalize V.map PyData.int = zs at *
  simp [startE, lc, mx]
def grZ (S : Sky) (c : Int) : List Int := ((tlL S).filter fun p => decide (ndOf S p ≤ c)).map (worthZ S)
theorem gr_ne (S : Sky) {c : Int} (hc : 0 ≤ c) : grZ S c ≠ [] := fun e => by
  have : worthZ S [] ∈ grZ S c := List.mem_map.mpr ⟨[], List.mem_filter.mpr ⟨tl_nil S, decide_eq_true hc⟩, rfl⟩
  rw [e] at this
  cases this
theorem lg_ok {S : Sky} (hl : (tlL S).length ≤ 1000) (c : Int) (hc : 0 ≤ c) : R__law_greatest [.list ((tlL S).map (tmD S)), .int c] = some (.int (maxI (grZ S c))) := by
  unfold R__law_greatest runP
  exact lg_ev _ c _ (gr_ne S hc) (lg_c1 c (tlL S) (ndOf S) (worthZ S) _ rfl hl)
theorem gr_same {S : Sky} (F : Fit S) {c : Int} (hc : 1 ≤ c) : ∀ x, x ∈ ((wnL S).filter fun x => decide (x.2 ≤ c)).map (·.1) ↔ x ∈ grZ S c := fun x => by
  have m1 : ∀ u : Int, mx 1 u ≤ c ↔ u ≤ c := fun u => by unfold mx; split <;> omega
  unfold grZ
  rw [List.mem_map, List.mem_map]
  constructor
  · intro ⟨y, hy, e⟩
    obtain ⟨a, b⟩ := List.mem_filter.mp hy
    obtain ⟨p, hp, e1, e2⟩ := wn_from F a
    refine ⟨p, List.mem_filter.mpr ⟨hp, decide_eq_true ?_⟩, by rw [e1]; exact e⟩
    have := of_decide_eq_true b
    rw [← e2] at this
    exact (m1 _).mp this
  · intro ⟨p, hp, e⟩
    obtain ⟨a, b⟩ := List.mem_filter.mp hp
    obtain ⟨y, hy, e1, e2⟩ := wn_low F a
    refine ⟨y, List.mem_filter.mpr ⟨hy, decide_eq_true ?_⟩, by rw [e1]; exact e⟩
    have := (m1 _).mpr (of_decide_eq_true b)
    omega
end Sk
/-! Constants of the module. -/
namespace SL
open PySem PySem.Spec PyProof.Rows L2
variable [TBL]
def all2 {α β : Type} (f : α → β → Bool) : List α → List β → Bool
  | [], [] => true
  | x :: xs, y :: ys => f x y && all2 f xs ys
  | _, _ => false
def isTupT : Value → Bool
  | .type t => decide (t = "tuple")
  | _ => false
def dvB (K : PySem.W.Frag) : Nat → D → Value → Bool
  | 0, _, _ => false
  | _ + 1, .none, .none => true
  | _ + 1, .int i, .int j _ => decide (i = j)
  | _ + 1, .str i, .str j _ => decide (i = j)
  | n + 1, .tuple ds, .ref a => match K.lookup a with
    | some o => match o.data with
      | .seq its _ => isTupT o.cls && (decide (its.size ≤ sizeLine) && all2 (dvB K n) ds its.toList)
      | _ => false
    | none => false
  | _, _, _ => false
def conB (x : Str) (d : D) (K : PySem.W.Frag) : Bool := match PySem.W.nsIn K mainGlobals x with
  | some (some u) => dvB K 4 d u
  | _ => false
def Con (K : PySem.W.Frag) (mg : Str → Option Value) (x : Str) (d : D) : Prop := ∃ u v, mg x = some u ∧ RelV v u ∧ ∀ G, Dp K G v d
end SL
/-! list(range(n)); clear. -/
namespace SL
open PySem PySem.Spec PyProof.Rows L2
variable [TBL]
def lRng1 (f : FE) : FA := fun r => match f r with
  | some (.int n, r1) => if okR n = true ∧ n.toNat ≤ 16777216 then some (rngL 0 n.toNat, r1) else none
  | _ => none
@[simp] theorem lRng1_r (f : FE) (r : Ev) : lRng1 f r = match f r with
  | some (.int n, r1) => if okR n = true ∧ n.toNat ≤ 16777216 then some (rngL 0 n.toNat, r1) else none
  | _ => none := rfl
/-! a, b = [..], n with a a list of one's own -/
def sParO (i j : Nat) (g : FA) (c : Int) : FS := fun r => (g r).map fun x => .nx ((x.2.set i (some (.own x.1))).set j (some (.val (.int c))))
@[simp] theorem sParO_r (i j : Nat) (g : FA) (c : Int) (r : Ev) : sParO i j g c r = (g r).map fun x => .nx ((x.2.set i (some (.own x.1))).set j (some (.val (.int c)))) := rfl
end SL
/-! sep.join(list of texts); f-strings of texts and ints. -/
namespace SL
open PySem PySem.Spec PyProof.Rows L2
variable [TBL]
def strsOf : List D → Option (List Str)
  | [] => some []
  | .str s :: r => (strsOf r).map (s :: ·)
  | _ :: _ => none
def joinB (a : Str) (ys : List Str) : Prop := (ys.map (·.length)).sum + ys.length * a.length ≤ 16777216
instance (a : Str) (ys : List Str) : Decidable (joinB a ys) := inferInstanceAs (Decidable (_ ≤ _))
def joinD : D → D → Option D
  | .str a, .list ds => (strsOf ds).bind fun ys => if joinB a ys then some (.str (Txt.join a ys)) else none
  | _, _ => none
section
variable {X : Cx} {e o : Expr} {es : List Expr} {f fo fe : FE} {g : FA} {pu p q : Bool} {pos apos : Pos}
/-! f-strings -/
def fmtD : D → Option D
  | .str y => if y.length ≤ sizeLine then some (.str y) else none
  | .int i => if i.natAbs.log2 < 1920 then some (.str (toString i)) else none
  | _ => none
def jsD : Str → List D → Option Str
  | acc, [] => some acc
  | acc, .str y :: r => if (acc ++ y).length ≤ sizeLine then jsD (acc ++ y) r else none
  | _, _ => none
def fJs (g : FA) : FE := fun r => (g r).bind fun x => (jsD Str.empty x.1).map fun s => (.str s, x.2)
@[simp] theorem fJs_r (g : FA) (r : Ev) : fJs g r = (g r).bind fun x => (jsD Str.empty x.1).map fun s => (.str s, x.2) := rfl
def tJ (K : PySem.W.Frag) (pu : Bool) (acc : Str) (g : FA) (σ : L2.St) (H : Hp) (Q : Str → Hp → Prop) : Prop := ∃ C G r ds r' s, Ok K C G H σ r ∧ g r = some (ds, r') ∧ jsD acc ds = some s ∧ ∀ G' H', Ok K C G' H' σ r' → Same G G' → (pu = true → Same H H') → Q s H'
def SJ (X : Cx) (pu : Bool) (es : List Expr) (g : FA) : Prop := ∃ ts, PJ X es ts ∧ ∀ acc σ H Q, tJ X.K pu acc g σ H Q → tJs ts acc σ H Q
end
end SL
/-! list(d.items()), d a dict of one's own that stays: the view is an object of ours, list takes it. -/
namespace SL
open PySem PySem.Spec PyProof.Rows L2
variable [TBL]
/-! ### objects laid over a heap -/
def over (F H : Hp) : Hp := fun b => (F b).or (H b)
/-! ### the view -/
def VwO (v d : Addr) : HO := .ext fun h => h.IsItemsView v d
def tView (te : TE) : TE := fun σ H Q => te σ H fun x H1 => ∃ d o ks, x = .ref d ∧ H1 d = some (DicO d o ks) ∧ ∀ v, H1 v = none → Q (.ref v) (upd H1 v (VwO v d))
section
variable {X : Cx} {e : Expr} {te : TE} {apos cpos : Pos}
end
/-! ### list takes it -/
def tupsAt (ts : List Addr) (ks : List KE3) : Hp := fun b => (ks[ts.idxOf b]?).map fun z => .tup [.ref z.2.1, z.2.2]
def rListV : List V → Hp → VK → Prop := fun xs H Q => ∃ v d o ks, xs = [.ref v] ∧ H v = some (VwO v d) ∧ H d = some (DicO d o ks) ∧
  ∀ (l : Addr) (ts : List Addr), ts.Nodup → ts.length = ks.length → H l = none → (∀ t ∈ ts, H t = none) → l ∉ ts → Q (.ref l) (upd (over (tupsAt ts ks) H) l (.lst (ts.map V.ref)))
def lItemsO (i : Nat) : FA := fun r => match r[i]? with
  | some (some (.ownD kds)) => some (kds.map (fun z => .tuple [z.1, z.2]), r)
  | _ => none
@[simp] theorem lItemsO_r (i : Nat) (r : Ev) : lItemsO i r = match r[i]? with
  | some (some (.ownD kds)) => some (kds.map (fun z => .tuple [z.1, z.2]), r)
  | _ => none := rfl
section
variable {X : Cx} {y : Str} {py p apos cpos pos : Pos}
end
end SL
/-! a, b, c, d, e = x, [], [], m, n: b and c lists of one's own. -/
namespace SL
open PySem PySem.Spec PyProof.Rows L2
variable [TBL]
def sPar5 (i1 i2 i3 i4 i5 : Nat) (f : FE) (c d : Int) : FS := fun r => (f r).map fun x => .nx (((((x.2.set i1 (some (.val x.1))).set i2 (some (.own []))).set i3 (some (.own []))).set i4 (some (.val (.int c)))).set i5 (some (.val (.int d))))
@[simp] theorem sPar5_r (i1 i2 i3 i4 i5 : Nat) (f : FE) (c d : Int) (r : Ev) : sPar5 i1 i2 i3 i4 i5 f c d r = (f r).map fun x => .nx (((((x.2.set i1 (some (.val x.1))).set i2 (some (.own []))).set i3 (some (.own []))).set i4 (some (.val (.int c)))).set i5 (some (.val (.int d)))) := rfl
theorem New.keep {K : PySem.W.Frag} {C : Ctx} {G H : Hp} {σ : L2.St} {r : Ev} {p q : Addr} {vs : List V} {o : HO} (n : New K C G H σ r p vs) (hq : H q = none) : New K C G (upd H q o) σ r p vs :=
  ⟨n.1, n.2.1, n.2.2.1, by rw [upd_ne (ne_of_none n.2.2.2.1 hq)]; exact n.2.2.2.1, n.2.2.2.2⟩
theorem New.set {K : PySem.W.Frag} {C : Ctx} {G H : Hp} {σ : L2.St} {r : Ev} {p : Addr} {vs : List V} {i : Nat} {v : V} {c : Cell} (n : New K C G H σ r p vs) (h : v ≠ .ref p) (hl : r.length = σ.length) : New K C G H (σ.set i (some v)) (r.set i (some c)) p vs :=
  ⟨n.1, n.2.1, n.2.2.1, n.2.2.2.1, fun j c' e o z => by
    by_cases hj : j = i
    · subst hj
      have hlt : j < r.length := by
        have := (List.getElem?_eq_some_iff.mp e).1
        rwa [List.length_set] at this
      rw [List.getElem?_set_self (by omega)] at z
      exact h (Option.some.inj (Option.some.inj z))
    · rw [List.getElem?_set_ne (Ne.symm hj)] at e z
      exact n.2.2.2.2 j c' e o z⟩
section
variable {X : Cx} {i1 i2 i3 i4 i5 : Nat} {x1 x2 x3 x4 x5 : Str} {e : Expr} {c4 c5 : Int} {t4 t5 : _} {f : FE} {p : Bool} {p1 p2 p3 p4 p5 pt q2 q3 q4 q5 pt2 pos : Pos} {kt k2 : _}
end
end SL
/-! A list of one's own whose parts are dicts of one's own: made, filled, walked while it is filled, handed back as lists. -/
namespace SL
open PySem PySem.Spec PyProof.Rows L2
variable [TBL]
abbrev LS := List (List (D × D))
def noOwn (r : Ev) : Bool := r.all fun c => match c with
  | some c => !c.isOwn
  | none => true
theorem noOwn_at {r : Ev} {i : Nat} {c : Cell} (h : noOwn r = true) (e : r[i]? = some (some c)) : c.isOwn = false := by
  unfold noOwn at h
  have := List.all_eq_true.mp h _ (List.mem_of_getElem? e)
  simpa using this
def Ctx.fix (C : Ctx) (S : List Addr) (H0 : Hp) : Ctx := { C with P := fun a => if a ∈ S then H0 a else C.P a }
section
variable {K : PySem.W.Frag} {C : Ctx} {G H H0 G' H' : Hp} {σ σ' : L2.St} {r r' : Ev} {S : List Addr}
theorem Ok.fix (ok : Ok K C G H σ r) (no : noOwn r = true) (hS : ∀ a ∈ S, C.P a = none ∧ a ∉ C.M ∧ G a = none) : Ok K (C.fix S H) G H σ r where
  sub := ok.sub
  g0 := ok.g0
  gnew := fun a o e => by
    rcases ok.gnew a o e with h | h
    · exact .inl h
    · by_cases hs : a ∈ S
      · rw [(hS a hs).2.2] at e; cases e
      · refine .inr ?_
        show (if a ∈ S then H a else C.P a) = none
        rw [if_neg hs]; exact h
  prot := fun a o e hm => by
    have e : (if a ∈ S then H a else C.P a) = some o := e
    by_cases hs : a ∈ S
    · rw [if_pos hs] at e; exact e
    · rw [if_neg hs] at e; exact ok.prot a o e hm
  mreal := ok.mreal
  len := ok.len
  cell := fun i c e => by
    obtain ⟨v, e1, h⟩ := ok.cell i c e
    refine ⟨v, e1, ?_⟩
    have z := noOwn_at no e
    cases c with
    | val d => exact h
    | tag n => exact h
    | own ds => cases z
    | loan k ds => cases z
    | ownD kds => cases z
    | fre d => exact DpN.imp (Same.refl _) (fun a ha hn => by
        show (if a ∈ S then H a else C.P a) = none
        by_cases hs : a ∈ S
        · exact absurd (hS a hs).2.2 ha
        · rw [if_neg hs]; exact hn) h
    | ownF ds => cases z
  dis := ok.dis
  tabs := ok.tabs
theorem Ok.unfix (ok : Ok K (C.fix S H0) G H σ r) (no : noOwn r = true) (hS : ∀ a ∈ S, C.P a = none ∧ a ∉ C.M ∧ C.G0 a = none ∧ H0 a ≠ none) : Ok K C G H σ r ∧ ∀ a ∈ S, G a = none ∧ H a = H0 a := by
  have key : ∀ a ∈ S, G a = none ∧ H a = H0 a := fun a ha => by
    obtain ⟨h1, h2, h3, h4⟩ := hS a ha
    obtain ⟨o, e⟩ := Option.ne_none_iff_exists'.mp h4
    have e' : (C.fix S H0).P a = some o := by
      show (if a ∈ S then H0 a else C.P a) = some o
      rw [if_pos ha]; exact e
    refine ⟨?_, by rw [e]; exact ok.prot a o e' h2⟩
    cases q : G a with
    | none => rfl
    | some u =>
      rcases ok.gnew a u q with z | z
      · rw [show C.G0 a = some u from z] at h3; cases h3
      · rw [e'] at z; cases z
  refine ⟨⟨ok.sub, ok.g0, fun a o e => ?_, fun a o e hm => ?_, ok.mreal, ok.len, fun i c e => ?_, ok.dis, ok.tabs⟩, key⟩
  · by_cases hs : a ∈ S
    · exact .inr (hS a hs).1
    · rcases ok.gnew a o e with h | h
      · exact .inl h
      · refine .inr ?_
        have h : (if a ∈ S then H0 a else C.P a) = none := h
        rw [if_neg hs] at h; exact h
  · have hs : a ∉ S := fun hs => by rw [(hS a hs).1] at e; cases e
    refine ok.prot a o ?_ hm
    show (if a ∈ S then H0 a else C.P a) = some o
    rw [if_neg hs]; exact e
  · obtain ⟨v, e1, h⟩ := ok.cell i c e
    refine ⟨v, e1, ?_⟩
    have z := noOwn_at no e
    cases c with
    | val d => exact h
    | tag n => exact h
    | own ds => cases z
    | loan k ds => cases z
    | ownD kds => cases z
    | fre d => exact DpN.imp (Same.refl _) (fun a ha hn => by
        have hn : (if a ∈ S then H0 a else C.P a) = none := hn
        by_cases hs : a ∈ S
        · exact (hS a hs).1
        · rw [if_neg hs] at hn; exact hn) h
    | ownF ds => cases z
theorem newX_no {p : Addr} {o : HO} (no : noOwn r = true) (h1 : C.P p = none) (h2 : p ∉ C.M) (h3 : G p = none) (h4 : H p = some o) : NewX K C G H σ r p o :=
  ⟨h1, h2, h3, h4, fun i c e o => by rw [noOwn_at no e] at o; cases o⟩
/-- p is a list of one's own, its parts the dicts qs of one's own, which hold ls -/
structure LD (K : PySem.W.Frag) (C : Ctx) (G H : Hp) (σ : L2.St) (r : Ev) (p : Addr) (qs : List Addr) (ls : LS) : Prop where
  ok : Ok K C G H σ r
  no : noOwn r = true
  nd : (p :: qs).Nodup
  fr : ∀ a ∈ p :: qs, C.P a = none ∧ a ∉ C.M ∧ G a = none
  lst : H p = some (.lst (qs.map V.ref))
  len : qs.length = ls.length
  dic : ∀ (j : Nat) (q : Addr) (kds : List (D × D)), qs[j]? = some q → ls[j]? = some kds → IsDic K G H q kds
variable {p : Addr} {qs : List Addr} {ls : LS}
theorem LD.real (l : LD K C G H σ r p qs ls) : ∀ a ∈ p :: qs, C.P a = none ∧ a ∉ C.M ∧ C.G0 a = none ∧ H a ≠ none := fun a ha => by
  obtain ⟨h1, h2, h3⟩ := l.fr a ha
  refine ⟨h1, h2, ?_, ?_⟩
  · cases q : C.G0 a with
    | none => rfl
    | some u => rw [l.ok.g0 _ _ q] at h3; cases h3
  · rcases List.mem_cons.mp ha with rfl | ha
    · rw [l.lst]; exact fun z => by cases z
    · obtain ⟨j, hj, rfl⟩ := List.getElem_of_mem ha
      obtain ⟨o, ks, e, _⟩ := l.dic j qs[j] (ls[j]'(by rw [← l.len]; exact hj)) (List.getElem?_eq_getElem hj) (List.getElem?_eq_getElem _)
      rw [e]; exact fun z => by cases z
theorem LD.hold (l : LD K C G H σ r p qs ls) : Ok K (C.fix (p :: qs) H) G H σ r := l.ok.fix l.no l.fr
theorem IsDic.step {q : Addr} {kds : List (D × D)} (h : IsDic K G H q kds) (s : Same G G') (e : H' q = H q) : IsDic K G' H' q kds := by
  obtain ⟨o, ks, h1, h2⟩ := h
  exact ⟨o, ks, by rw [e]; exact h1, DpKs.mono s h2⟩
theorem LD.after (l : LD K C G H σ r p qs ls) (o : Ok K (C.fix (p :: qs) H) G' H' σ' r') (no : noOwn r' = true) (s : Same G G') : LD K C G' H' σ' r' p qs ls ∧ ∀ a ∈ p :: qs, H' a = H a := by
  obtain ⟨ok, k⟩ := o.unfix no l.real
  refine ⟨⟨ok, no, l.nd, fun a ha => ⟨(l.fr a ha).1, (l.fr a ha).2.1, (k a ha).1⟩, by rw [(k p List.mem_cons_self).2]; exact l.lst, l.len, fun j q kds e1 e2 => (l.dic j q kds e1 e2).step s (k q (List.mem_cons_of_mem _ (List.mem_of_getElem? e1))).2⟩, fun a ha => (k a ha).2⟩
theorem LD.calm (l : LD K C G H σ r p qs ls) (s : Same G G') (k : Same H H') (s' : Same G' H') (n : ∀ a o, G' a = some o → G a = some o ∨ H a = none) : LD K C G' H' σ r p qs ls ∧ ∀ a ∈ p :: qs, H' a = H a := by
  have hh : ∀ a ∈ p :: qs, H' a = H a := fun a ha => by
    obtain ⟨o, e⟩ := Option.ne_none_iff_exists'.mp (l.real a ha).2.2.2
    rw [e]; exact k _ _ e
  refine ⟨⟨l.ok.calm s k s' n, l.no, l.nd, fun a ha => ⟨(l.fr a ha).1, (l.fr a ha).2.1, ?_⟩, by rw [hh p List.mem_cons_self]; exact l.lst, l.len, fun j q kds e1 e2 => (l.dic j q kds e1 e2).step s (hh q (List.mem_cons_of_mem _ (List.mem_of_getElem? e1)))⟩, hh⟩
  cases q : G' a with
  | none => rfl
  | some u =>
    rcases n a u q with z | z
    · rw [(l.fr a ha).2.2] at z; cases z
    · exact absurd z (l.real a ha).2.2.2
theorem nodup_ix {qs : List Addr} {i j : Nat} {q : Addr} (nd : qs.Nodup) (h1 : qs[i]? = some q) (h2 : qs[j]? = some q) : i = j := by
  obtain ⟨hi, e1⟩ := List.getElem?_eq_some_iff.mp h1
  obtain ⟨hj, e2⟩ := List.getElem?_eq_some_iff.mp h2
  exact (List.getElem_inj nd).mp (e1.trans e2.symm)
theorem LD.write {j : Nat} {q : Addr} {o' : Obj} {ks' : List KE3} {kds' : List (D × D)} (l : LD K C G H σ r p qs ls) (hq : qs[j]? = some q) (hk : DpKs K G ks' kds') : LD K C G (upd H q (DicO q o' ks')) σ r p qs (ls.set j kds') := by
  have nd := List.nodup_cons.mp l.nd
  have hm := List.mem_of_getElem? hq
  have hjl : j < ls.length := by rw [← l.len]; exact (List.getElem?_eq_some_iff.mp hq).1
  have hpq : p ≠ q := fun e => nd.1 (by rw [e]; exact hm)
  obtain ⟨f1, f2, f3⟩ := l.fr q (List.mem_cons_of_mem _ hm)
  obtain ⟨o, ks, e, _⟩ := l.dic j q ls[j] hq (List.getElem?_eq_getElem hjl)
  refine ⟨((newX_no (σ := σ) (K := K) l.no f1 f2 f3 e).grow l.ok).1, l.no, l.nd, l.fr, by rw [upd_ne hpq]; exact l.lst, by rw [List.length_set]; exact l.len, fun j' q' kds e1 e2 => ?_⟩
  by_cases hj : j' = j
  · subst hj
    rw [hq] at e1; cases e1
    rw [List.getElem?_set_self hjl] at e2; cases e2
    exact ⟨o', ks', upd_same, hk⟩
  · rw [List.getElem?_set_ne (Ne.symm hj)] at e2
    obtain ⟨o2, ks2, a, b⟩ := l.dic j' q' kds e1 e2
    exact ⟨o2, ks2, by rw [upd_ne fun z => hj (nodup_ix nd.2 (by rw [← z]; exact e1) hq)]; exact a, b⟩
theorem LD.add {q : Addr} {o : Obj} (l : LD K C G H σ r p qs ls) (n : H q = none) : LD K C G (upd (upd H q (DicO q o [])) p (.lst ((qs ++ [q]).map V.ref))) σ r p (qs ++ [q]) (ls ++ [[]]) := by
  have hqn : ∀ a ∈ p :: qs, a ≠ q := fun a ha e => (l.real a ha).2.2.2 (by rw [e]; exact n)
  have hpq := hqn p List.mem_cons_self
  obtain ⟨f1, f2, f3⟩ := l.fr p List.mem_cons_self
  obtain ⟨g1, g2, g3⟩ := l.ok.fresh n
  refine ⟨((newX_no (σ := σ) (K := K) (G := G) (o := .lst (qs.map V.ref)) l.no f1 f2 f3 (by rw [upd_ne hpq]; exact l.lst)).grow (l.ok.made n)).1, l.no, ?_, fun a ha => ?_, upd_same, by rw [List.length_append, List.length_append, l.len]; rfl, fun j q' kds e1 e2 => ?_⟩
  · have nd := List.nodup_cons.mp l.nd
    rw [List.nodup_cons, List.nodup_append]
    refine ⟨?_, nd.2, by simp, fun a ha b hb => ?_⟩
    · intro hm
      rcases List.mem_append.mp hm with hm | hm
      · exact nd.1 hm
      · exact hpq (by simpa using hm)
    · have e : b = q := by simpa using hb
      rw [e]
      exact hqn a (List.mem_cons_of_mem _ ha)
  · rcases List.mem_cons.mp ha with rfl | ha
    · exact ⟨f1, f2, f3⟩
    · rcases List.mem_append.mp ha with ha | ha
      · exact l.fr a (List.mem_cons_of_mem _ ha)
      · have e : a = q := by simpa using ha
        rw [e]; exact ⟨g1, g2, g3⟩
  · by_cases hj : j < qs.length
    · rw [List.getElem?_append_left hj] at e1
      rw [List.getElem?_append_left (by rw [← l.len]; exact hj)] at e2
      have hm := List.mem_cons_of_mem p (List.mem_of_getElem? e1)
      obtain ⟨o2, ks2, a, b⟩ := l.dic j q' kds e1 e2
      have hqp : q' ≠ p := fun e => (List.nodup_cons.mp l.nd).1 (by rw [← e]; exact List.mem_of_getElem? e1)
      exact ⟨o2, ks2, by rw [upd_ne hqp, upd_ne (hqn q' hm)]; exact a, b⟩
    · rw [List.getElem?_append_right (by omega)] at e1
      rw [List.getElem?_append_right (by rw [← l.len]; omega), ← l.len] at e2
      have hz : j - qs.length = 0 := by
        have := (List.getElem?_eq_some_iff.mp e1).1
        simp at this
        omega
      rw [hz] at e1 e2
      simp at e1 e2
      subst e1 e2
      exact ⟨o, [], by rw [upd_ne (Ne.symm hpq), upd_same], .nil⟩
end
/-! ### plain functions -/
abbrev FL := Ev → LS → Option (Ev × LS)
def putL (J : List Nat) (ls : LS) (i k : D) : Option LS := match i with
  | .int (.ofNat n) => (ls[n]?).bind fun kds => (tkey k).bind fun _ => if n ∉ J ∧ kds.length < sizeLine then some (ls.set n (dPut kds k (.bool true))) else none
  | _ => none
def putD (J : List Nat) (fi fk : FE) : FL := fun r ls => (fi r).bind fun x => (fk x.2).bind fun y => if noOwn x.2 = true ∧ noOwn y.2 = true then (putL J ls x.1 y.1).map fun ls' => (y.2, ls') else none
def loopD (A : FG) (B : FL) : List D → FL
  | [], r, ls => some (r, ls)
  | d :: ds, r, ls => (A d r).bind fun r1 => if noOwn r1 = true then (B r1 ls).bind fun z => loopD A B ds z.1 z.2 else none
def forD (src : FA) (A : FG) (B : FL) : FL := fun r ls => (src r).bind fun x => if noOwn x.2 = true then loopD A B x.1 x.2 ls else none
def walkD (iY : Nat) (A : FG) (B : Nat → FL) : Nat → Nat → FL
  | 0, _, r, ls => some (r, ls)
  | n + 1, j, r, ls => if iY < r.length then (loopD A (B j) ((ls.getD j []).map (·.1)) (r.set iY none) ls).bind fun z => walkD iY A B n (j + 1) z.1 z.2 else none
def eachD (iY : Nat) (A : FG) (B : Nat → FL) : FL := fun r ls => walkD iY A B ls.length 0 r ls
/-- a statement that fills the dicts; those at J stay -/
def tD (K : PySem.W.Frag) (iL : Nat) (J : List Nat) (B : FL) : TS := fun E σ H => ∃ C G r p qs ls r' ls', LD K C G H σ r p qs ls ∧ σ[iL]? = some (some (.ref p)) ∧ B r ls = some (r', ls') ∧
  ∀ σ' G' H', LD K C G' H' σ' r' p qs ls' → σ'[iL]? = some (some (.ref p)) → Same G G' → (∀ j ∈ J, ∀ q, qs[j]? = some q → H' q = H q) → E.nx σ' H'
section
variable {X : Cx} {ix key iter tg tgS : Expr} {fi fk : FE} {J L : List Nat} {iL iY : Nat} {p1 p2 : Bool} {y yl ys : Str} {py px pos pos' pc : Pos} {src : FA} {A : FG} {B : FL} {body : List Stmt}
end
/-! ### the list is made; it is handed back -/
def tDNew : TE := fun _ H Q => ∀ p o, H p = none → Q (.ref p) (upd H p (DicO p o []))
def tN (K : PySem.W.Frag) (iL : Nat) (src : FA) : TS := fun E σ H => ∃ C G r ds r1, Ok K C G H σ r ∧ src r = some (ds, r1) ∧ noOwn r1 = true ∧ iL < r1.length ∧ ds.length < sizeLine ∧
  ∀ σ' p qs G' H', LD K C G' H' σ' (r1.set iL none) p qs (List.replicate ds.length []) → σ'[iL]? = some (some (.ref p)) → Same G G' → E.nx σ' H'
def tRD (K : PySem.W.Frag) (iL iY : Nat) : TS := fun E σ H => ∃ C G r p qs ls, LD K C G H σ r p qs ls ∧ σ[iL]? = some (some (.ref p)) ∧ iY < r.length ∧ ls.length < sizeLine ∧
  ∀ v G' H', Ok K C G' H' σ r → Same G G' → Dp K G' v (.list (ls.map fun kds => .list (kds.map (·.1)))) → E.rt v H'
section
variable {X : Cx} {iter : Expr} {iL iY iN : Nat} {yl ys nn : Str} {src : FA} {scope : Scope}
/-- the four statements -/
def sGrown (iL iY : Nat) (src : FA) (F2 F3 : FL) : FS := fun r => (src r).bind fun x => if noOwn x.2 = true ∧ iL < x.2.length ∧ x.1.length < sizeLine then
  (F2 (x.2.set iL none) (List.replicate x.1.length [])).bind fun y => (F3 y.1 y.2).bind fun z => if iY < z.1.length ∧ z.2.length < sizeLine then some (.rt (.list (z.2.map fun kds => .list (kds.map (·.1)))) z.1) else none else none
end
/-! ### a def that calls itself: no depth left -/
section
variable {P : Program} {w : World} {K : PySem.W.Frag} {mg : Str → Option Value} {base : Heap} {k n : Nat} {f : Addr} {fd : FuncData} {ps : List Str}
end
end SL
/-! repr of numbers, texts, truths and None too. -/
namespace SL
open PySem PySem.Spec PyProof.Rows L2
variable [TBL]
def isRp : D → Bool
  | .list _ => true
  | .tuple _ => true
  | .int i => decide (i.natAbs.log2 < 1920)
  | .bool _ => true
  | .none => true
  | .str _ => true
  | .dict _ => false
def reprX (d : D) : Option D := if isRp d = true ∧ okShow d = true then some (.str d.shown) else none
def rReprX (K : PySem.W.Frag) : List V → Hp → VK → Prop := fun vs H Q => ∃ v d, vs = [v] ∧ Dp K H v d ∧ isRp d = true ∧ okShow d = true ∧ Q (.str d.shown) H
theorem cr_reprX {X : Cx} (pl : Pl X) : CallR X (.builtin "repr") (rReprX X.K) := by
  intro pins s σ H vs us Q I r h
  obtain ⟨v, d, rfl, hd, hs, ho, q⟩ := h
  cases d with
  | list ds => exact cr_repr pl pins s σ H [v] us Q I r ⟨v, _, rfl, hd, rfl, ho, q⟩
  | tuple ds => exact cr_repr pl pins s σ H [v] us Q I r ⟨v, _, rfl, hd, rfl, ho, q⟩
  | dict k => cases hs
  | int i =>
    obtain ⟨u, rfl, ru⟩ := Vals.one r
    cases hd
    obtain ⟨t, rfl⟩ : ∃ t, u = Value.int i t := ru
    rw [PyData.shown_int] at q
    exact PySem.P.repr_of_int (of_decide_eq_true hs) ⟨.str _, H, I.tok _, ⟨_, rfl⟩, q⟩
  | bool b =>
    obtain ⟨u, rfl, ru⟩ := Vals.one r
    cases hd
    obtain rfl : u = Value.bool b := ru
    rw [PyData.shown_bool] at q
    refine PySem.P.repr_of_bool ⟨.str _, H, I.tok _, ⟨_, rfl⟩, ?_⟩
    cases b <;> exact q
  | none =>
    obtain ⟨u, rfl, ru⟩ := Vals.one r
    cases hd
    obtain rfl : u = Value.none := ru
    rw [PyData.shown_none] at q
    exact PySem.P.repr_of_none ⟨.str _, H, I.tok _, ⟨_, rfl⟩, q⟩
  | str x =>
    obtain ⟨u, rfl, ru⟩ := Vals.one r
    cases hd
    obtain ⟨t, rfl⟩ : ∃ t, u = Value.str x t := ru
    have hl := (okShow_iff.mp ho).2.2.1
    rw [PyData.shown_str] at q hl
    exact PySem.P.repr_of_str ⟨.str _, H, I.tok _, ⟨_, rfl⟩, q⟩ hl
theorem c_reprX {K : PySem.W.Frag} : Call1 K (rReprX K) reprX := fun G H x dx dz Q s hx e bk => by
  unfold reprX at e
  split at e
  · rename_i h
    cases e
    exact ⟨x, dx, rfl, hx.full s, h.1, h.2, bk.val s (.str _)⟩
  · cases e
theorem Sw.reprX {n : Nat} {d : D} (h : Sw n d) (hn : n ≤ sizeLine) (hs : isRp d = true) (hd : d.depth ≤ 64) : reprX d = some (.str d.shown) := by
  unfold SL.reprX
  have ho : okShow d = true := okShow_iff.mpr ⟨h.1, h.2, Nat.le_trans h.3 hn, hd⟩
  rw [if_pos ⟨hs, ho⟩]
end SL
/-! xs.count(k), xs a list of numbers. -/
namespace SL
open PySem PySem.Spec PyProof.Rows L2
variable [TBL]
def countD : D → D → Option D
  | .list ds, .int k => (intsOf ds).map fun ns => .int (ns.count k : Nat)
  | _, _ => none
section
variable {X : Cx} {a b : Expr} {fa fb : FE} {p q : Bool} {apos cpos : Pos}
end
end SL
/-! x <= y of any alike data. -/
namespace SL
open PySem PySem.Spec PyProof.Rows L2
variable [TBL]
def cmpOk (x y : D) : Bool := W.alike x y && (decide (x.depth ≤ 64) && (!x.hasDict && (!y.hasDict && !isNoneD x)))
def leX (x y : D) : Option D := if cmpOk x y = true then some (.bool (!W.dataLt y x)) else none
def rLeX (K : PySem.W.Frag) : R2 := fun x y H Q => ∃ d e, L2.Dp K H x d ∧ L2.Dp K H y e ∧ W.alike d e = true ∧ d ≠ .none ∧ d.depth ≤ 64 ∧ Q (.bl (!W.dataLt e d)) H
section
variable {X : Cx} {K : PySem.W.Frag}
end
end SL
/-! x[::-1]. -/
namespace SL
open PySem PySem.Spec PyProof.Rows L2
variable [TBL]
section
variable {prog : Program} {w : World} {A : Around} {E : Value → Shared → Prop} {s : Shared}
end
section
variable {X : Cx} {e st : Expr} {te : TE} {ts : TO} {pos p2 : Pos}
def rRevA (K : PySem.W.Frag) : V → Hp → VK → Prop := fun x H Q => (∃ a xs, x = .ref a ∧ SqT K H a xs ∧ ∀ p, H p = none → Q (.ref p) (upd H p (.tup xs.reverse))) ∨ (∃ a xs, x = .ref a ∧ SqL K H a xs ∧ ∀ p, H p = none → Q (.ref p) (upd H p (.lst xs.reverse)))
end
/-- x[::-1] -/
def revD : D → Option D
  | .list ds => some (.list ds.reverse)
  | .tuple ds => some (.tuple ds.reverse)
  | _ => none
def fRev (f : FE) : FE := f1 revD f
@[simp] theorem fRev_r (f : FE) (r : Ev) : fRev f r = (f r).bind fun x => (revD x.1).map fun z => (z, x.2) := rfl
@[simp] theorem revD_l (ds : List D) : revD (.list ds) = some (.list ds.reverse) := rfl
@[simp] theorem revD_t (ds : List D) : revD (.tuple ds) = some (.tuple ds.reverse) := rfl
section
variable {X : Cx} {e : Expr} {f : FE} {p : Bool} {pos p2 p3 p4 : Pos}
end
end SL
namespace SL
open PySem PySem.Spec PyProof.Rows L2
variable [TBL]
/-! tuple(range(n)) -/
def fTupRg (f : FE) : FE := fun r => match f r with
  | some (.int n, r1) => if okR n = true ∧ n.toNat ≤ 16777216 then some (.tuple (rngL 0 n.toNat), r1) else none
  | _ => none
@[simp] theorem fTupRg_r (f : FE) (r : Ev) : fTupRg f r = match f r with
  | some (.int n, r1) => if okR n = true ∧ n.toNat ≤ 16777216 then some (.tuple (rngL 0 n.toNat), r1) else none
  | _ => none := rfl
end SL
/-! Calls that leave the defaults of keyword-only parameters. -/
namespace SL
open PySem PySem.Spec PyProof.Rows L2
variable [TBL]
/-- the def at f has these keyword-only defaults -/
def KwdD (K : PySem.W.Frag) (f : Addr) (qs : List (Str × D)) : Prop := ∃ (oc : Value) (od : Option Addr) (fd : FuncData) (osl : Array (Option Value)) (T : Addr), K.lookup f = some ⟨oc, od, .func fd, osl⟩ ∧ fd.kwdefaults = .ref T ∧
  ∀ q ∈ qs, ∃ u v, PySem.W.nsIn K T q.1 = some (some u) ∧ RelV v u ∧ ∀ G, Dp K G v q.2
def dv2B (K : PySem.W.Frag) : D → Value → Bool
  | .bool b, .bool c => decide (b = c)
  | d, u => dvB K 4 d u
def kwqB (K : PySem.W.Frag) (T : Addr) (q : Str × D) : Bool := match PySem.W.nsIn K T q.1 with
  | some (some u) => dv2B K q.2 u
  | _ => false
def kwfB (x : Str) (qs : List (Str × D)) (K : PySem.W.Frag) : Bool := match K.lookup (He.ga K x) with
  | some ⟨_, _, .func fd, _⟩ => match fd.kwdefaults with
    | .ref T => qs.all (kwqB K T)
    | _ => false
  | _ => false
/-- a call that leaves all keyword-only parameters to their defaults -/
def BindsD (K : PySem.W.Frag) (fd : FuncData) (ps : List Str) (ds : List D) : Prop := ∃ (us : List Value) (vs : List V), Vals vs us ∧ (∀ G, DpAll K G vs ds) ∧ Binds K fd ps us
section
variable {X : Cx} {k : Nat} {f : Addr} {fd : FuncData} {ps : List Str} {x : Str} {p q : Bool} {pp pos : Pos} {e : Expr} {es : List Expr} {g : FA} {n : Nat} {dds : List D}
def aDef (g : FA) (dds : List D) : FA := fun r => (g r).map fun x => (x.1 ++ dds, x.2)
@[simp] theorem aDef_r (g : FA) (dds : List D) (r : Ev) : aDef g dds r = (g r).map fun x => (x.1 ++ dds, x.2) := rfl
end
end SL
/-! max, min with default=; xs.clear(). -/
namespace SL
open PySem PySem.Spec PyProof.Rows L2
variable [TBL]
def maxDf : D → D → Option D
  | .list ds, z => (intsOf ds).map fun ns => if ns = [] then z else .int (maxI ns)
  | _, _ => none
def minDf : D → D → Option D
  | .list ds, z => (intsOf ds).map fun ns => if ns = [] then z else .int (minI ns)
  | _, _ => none
def rMaxK (K : PySem.W.Frag) : List V → List V → Hp → VK → Prop := fun vs zs H Q => ∃ (a : Addr) (ns : List Int) (z : V), vs = [V.ref a] ∧ zs = [z] ∧ SqL K H a (ns.map V.int) ∧ Q (if ns = [] then z else .int (maxI ns)) H
def rMinK (K : PySem.W.Frag) : List V → List V → Hp → VK → Prop := fun vs zs H Q => ∃ (a : Addr) (ns : List Int) (z : V), vs = [V.ref a] ∧ zs = [z] ∧ SqL K H a (ns.map V.int) ∧ Q (if ns = [] then z else .int (minI ns)) H
section
variable {X : Cx}
/-- f(e, default=z) -/
def Call2K (K : PySem.W.Frag) (r : List V → List V → Hp → VK → Prop) (g : D → D → Option D) : Prop := ∀ G H x y dx dy dz Q, Same G H → Pk K G H x dx → Dp K G y dy → g dx dy = some dz → Back K G H dz Q → r [x] [y] H Q
end
end SL
/-! Values whose lists are all new: expressions, statements, promises. -/
namespace SL
open PySem PySem.Spec PyProof.Rows L2
variable [TBL]
mutual
/-- data without a list -/
def flatD : D → Bool
  | .list _ => false
  | .dict _ => false
  | .tuple ds => flatAll ds
  | _ => true
def flatAll : List D → Bool
  | [] => true
  | d :: ds => flatD d && flatAll ds
end
mutual
theorem flat_n {K : PySem.W.Frag} {P G : Hp} : ∀ {d : D} {v : V}, flatD d = true → Dp K G v d → DpN K P G v d
  | _, _, _, .non => .non
  | _, _, _, .bl b => .bl b
  | _, _, _, .int i => .int i
  | _, _, _, .str x => .str x
  | _, _, h, .tup a t => .tup a (flatAll_n (by simpa only [flatD] using h) t)
  | _, _, h, .lst _ _ => by simp only [flatD] at h; cases h
  | _, _, h, .dic _ _ => by simp only [flatD] at h; cases h
theorem flatAll_n {K : PySem.W.Frag} {P G : Hp} : ∀ {ds : List D} {vs : List V}, flatAll ds = true → DpAll K G vs ds → DpNAll K P G vs ds
  | _, _, _, .nil => .nil
  | _, _, h, .cons a t => by
    simp only [flatAll, Bool.and_eq_true] at h
    exact .cons (flat_n h.1 a) (flatAll_n h.2 t)
end
@[simp] theorem flatD_int (i : Int) : flatD (.int i) = true := by simp only [flatD]
@[simp] theorem flatD_none : flatD .none = true := by simp only [flatD]
@[simp] theorem flatD_bool (b : Bool) : flatD (.bool b) = true := by simp only [flatD]
@[simp] theorem flatD_str (b : Str) : flatD (.str b) = true := by simp only [flatD]
@[simp] theorem flatAll_nil : flatAll [] = true := by simp only [flatAll]
@[simp] theorem flatAll_cons (d : D) (ds : List D) : flatAll (d :: ds) = (flatD d && flatAll ds) := by simp only [flatAll]
theorem DpNAll.length {K : PySem.W.Frag} {P G : Hp} {ds : List D} {vs : List V} (h : DpNAll K P G vs ds) : vs.length = ds.length := DpAll.length h.dp
theorem DpNAll.atI {K : PySem.W.Frag} {P G : Hp} {ds : List D} {vs : List V} {i : Int} {d : D} (h : DpNAll K P G vs ds) (e : L2.atI ds i = some d) : ∃ v, L2.atI vs i = some v ∧ DpN K P G v d := by
  unfold L2.atI at e ⊢
  rw [h.length]
  obtain ⟨j, h1, h2⟩ := Option.bind_eq_some_iff.mp e
  obtain ⟨v, h3, h4⟩ := DpNAll.get h h2
  exact ⟨v, by rw [h1]; exact h3, h4⟩
def tEN (K : PySem.W.Frag) (pu : Bool) (f : FE) : TE := fun σ H Q => ∃ C G r d r', Ok K C G H σ r ∧ f r = some (d, r') ∧
  ∀ v G' H', Ok K C G' H' σ r' → Same G G' → (pu = true → Same H H') → DpN K C.P G' v d → Q v H'
def tLN (K : PySem.W.Frag) (pu : Bool) (f : FA) : TE := fun σ H Q => ∃ C G r d r', Ok K C G H σ r ∧ f r = some (d, r') ∧
  ∀ p vs G' H', Ok K C G' H' σ r' → Same G G' → (pu = true → Same H H') → New K C G' H' σ r' p vs → DpNAll K C.P G' vs d → Q (.ref p) H'
def tAN (K : PySem.W.Frag) (pu : Bool) (f : FA) : TA := fun σ H Q => ∃ C G r d r', Ok K C G H σ r ∧ f r = some (d, r') ∧
  ∀ v G' H', Ok K C G' H' σ r' → Same G G' → (pu = true → Same H H') → DpNAll K C.P G' v d → Q v H'
abbrev SEN (X : Cx) (pu : Bool) (e : Expr) (f : FE) : Prop := PE X e (tEN X.K pu f)
abbrev SLN (X : Cx) (pu : Bool) (e : Expr) (f : FA) : Prop := PE X e (tLN X.K pu f)
abbrev SAN (X : Cx) (pu : Bool) (es : List Expr) (f : FA) : Prop := PA X es (tAN X.K pu f)
/-- a name that holds such a value -/
def fVN (i : Nat) : FE := fun r => match r[i]? with
  | some (some (.fre d)) => some (d, r)
  | some (some (.ownF ds)) => some (.list ds, r.set i (some (.fre (.list ds))))
  | _ => none
@[simp] theorem fVN_r (i : Nat) (r : Ev) : fVN i r = match r[i]? with
  | some (some (.fre d)) => some (d, r)
  | some (some (.ownF ds)) => some (.list ds, r.set i (some (.fre (.list ds))))
  | _ => none := rfl
def fFl (f : FE) : FE := fun r => (f r).bind fun x => if flatD x.1 = true then some x else none
@[simp] theorem fFl_r (f : FE) (r : Ev) : fFl f r = (f r).bind fun x => if flatD x.1 = true then some x else none := rfl
def lFl (g : FA) : FA := fun r => (g r).bind fun x => if flatAll x.1 = true then some x else none
@[simp] theorem lFl_r (g : FA) (r : Ev) : lFl g r = (g r).bind fun x => if flatAll x.1 = true then some x else none := rfl
section
variable {X : Cx} {e a b : Expr} {es : List Expr} {f fa fb : FE} {g : FA} {pu p q : Bool} {pos pp : Pos} {x : Str}
end
/-! ### promises -/
/-- a value whose lists are all new -/
def BackN (K : PySem.W.Frag) (G H : Hp) (d : D) (Q : VK) : Prop := ∀ v G' H', Same G G' → Same H H' → Same G' H' → (∀ a o, G' a = some o → G a = some o ∨ H a = none) → DpN K H G' v d → Q v H'
def spN (K : PySem.W.Frag) (n : Nat) (fn : List D → Option D) : Sp := fun vs H Q E => ∃ G ds d, Same G H ∧ DpAll K G vs ds ∧ vs.length = n ∧ fn ds = some d ∧ BackN K G H d Q
@[simp] def endN : Option Out → Option D
  | some (.rtN d _) => some d
  | _ => none
def runN (m : Nat) (F : FS) (ds : List D) : Option D := endN (F (startE m ds))
section
variable {P : Program} {w : World} {K : PySem.W.Frag} {mg : Str → Option Value} {base : Heap} {k : Nat} {f : Addr} {fd : FuncData} {ps : List Str} {x qual : Str} {params : Arguments} {body : List Stmt} {scope : Scope} {dvs : List V} {kws : List (Str × V)} {N : List Str} {F : FS}
omit [TBL] in
theorem FnG.new (DF : FunD K x qual params body scope dvs kws f fd) (S : FnScope N ps scope) (h : BodyOk P w K mg base k N qual scope f body F) : FnG P w K mg base CX0 (k + 1) f fd ps (spN K ps.length (runN N.length F)) := by
  refine FnG.ofD DF S (fun vs H Q E ⟨G, ds, d, _, _, h, _⟩ => h) fun cv A out s H vs Q E hr hg ⟨G, ds, d, s0, h0, hl, hf, bk⟩ => ⟨_, (h cv A out s H E (pl_at S.nd hr hg) hr).nox, ?_⟩
  have hz : ds.length ≤ N.length := by rw [← DpAll.length h0, hl]; exact len_ps S
  unfold runN at hf
  cases hF : F (startE N.length ds) with
  | none => rw [hF] at hf; cases hf
  | some o =>
    rw [hF] at hf
    refine ⟨{ P := H, G0 := G, M := [] }, G, _, o, Ok.start s0 h0 hz, hF, ?_⟩
    cases o with
    | rtN d' r => cases hf; exact fun v σ' G' H' ok s1 hv => bk v G' H' s1 (fun a o e => ok.prot a o e (by simp)) ok.sub ok.gnew hv
    | rt => cases hf
    | rtO => cases hf
    | nx => cases hf
    | bk => cases hf
    | ct => cases hf
end
section
variable {X : Cx} {k : Nat} {f : Addr} {fd : FuncData} {ps : List Str} {x : Str} {p q : Bool} {pp pos : Pos} {e : Expr} {es : List Expr} {g : FA} {n : Nat} {E : XK}
theorem Ok.old {K : PySem.W.Frag} {C : Ctx} {G H : Hp} {σ : L2.St} {r : Ev} (ok : Ok K C G H σ r) {a : Addr} (h : H a = none) : C.P a = none := (ok.fresh h).1
end
/-! ### statements -/
def sSetF (i : Nat) (f : FE) : FS := fun r => (f r).map fun x => .nx (x.2.set i (some (.fre x.1)))
@[simp] theorem sSetF_r (i : Nat) (f : FE) (r : Ev) : sSetF i f r = (f r).map fun x => .nx (x.2.set i (some (.fre x.1))) := rfl
def sSetOF (i : Nat) (g : FA) : FS := fun r => (g r).map fun x => .nx (x.2.set i (some (.ownF x.1)))
@[simp] theorem sSetOF_r (i : Nat) (g : FA) (r : Ev) : sSetOF i g r = (g r).map fun x => .nx (x.2.set i (some (.ownF x.1))) := rfl
def sRetF (f : FE) : FS := fun r => (f r).map fun x => .rtN x.1 x.2
@[simp] theorem sRetF_r (f : FE) (r : Ev) : sRetF f r = (f r).map fun x => .rtN x.1 x.2 := rfl
@[simp] def frAt (i : Nat) (r : Ev) : Option (List D) := match r[i]? with
  | some (some (.ownF ds)) => some ds
  | _ => none
def sAppF (i : Nat) (f : FE) : FS := fun r => (frAt i r).bind fun _ => (f r).bind fun y => (frAt i y.2).bind fun z => if z.length < sizeLine then some (.nx (y.2.set i (some (.ownF (z ++ [y.1]))))) else none
@[simp] theorem sAppF_r (i : Nat) (f : FE) (r : Ev) : sAppF i f r = (frAt i r).bind fun _ => (f r).bind fun y => (frAt i y.2).bind fun z => if z.length < sizeLine then some (.nx (y.2.set i (some (.ownF (z ++ [y.1]))))) else none := rfl
def gNmF (i : Nat) : FG := fun d r => some (r.set i (some (.fre d)))
@[simp] theorem gNmF_r (i : Nat) (d : D) (r : Ev) : gNmF i d r = some (r.set i (some (.fre d))) := rfl
section
variable {K : PySem.W.Frag} {C : Ctx} {G H : Hp} {σ : L2.St} {r : Ev}
theorem Ok.frAt {i : Nat} {ds : List D} (ok : Ok K C G H σ r) (h : frAt i r = some ds) : ∃ p vs, σ[i]? = some (some (.ref p)) ∧ G p = none ∧ H p = some (.lst vs) ∧ DpNAll K C.P G vs ds ∧
    ∀ vs' es, DpNAll K C.P G vs' es → Ok K C G (upd H p (.lst vs')) σ (r.set i (some (.ownF es))) := by
  unfold SL.frAt at h
  split at h
  · rename_i d0 e
    cases h
    obtain ⟨v, e1, p, vs, rfl, h1, h2, h3, h4⟩ := ok.cell i _ e
    exact ⟨p, vs, e1, h2, h3, h4, fun vs' es hd => ok.write e rfl e1 h2 h3 (.inl h1.1) ⟨p, vs', rfl, h1, h2, upd_same, hd⟩ rfl⟩
  · cases h
end
section
variable {X : Cx} {e a b : Expr} {es : List Expr} {f fa fb : FE} {g : FA} {pu p q : Bool} {pos pp : Pos} {x : Str} {F F' : FS}
/-- what is walked: items whose lists are all new -/
def TurnsN (K : PySem.W.Frag) (P : Hp) (J : It) (ds : List D) (G1 : Hp) : Prop := ∀ i G2 H2, Same G1 G2 → Same G2 H2 →
  (∀ d, ds[i]? = some d → J.go i H2 ∧ ∀ x H3, J.yld i H2 x H3 → Same H2 H3 ∧ ∃ G3, Same G2 G3 ∧ Same G3 H3 ∧ (∀ a o, G3 a = some o → G2 a = some o ∨ H2 a = none) ∧ DpN K P G3 x d) ∧ (ds.length ≤ i → J.stop i H2)
def tIN (K : PySem.W.Frag) (src : FA) : TI := fun σ H R => ∃ C G r ds r', Ok K C G H σ r ∧ src r = some (ds, r') ∧ ∀ J G' H', Ok K C G' H' σ r' → Same G G' → TurnsN K C.P J ds G' → R J H'
abbrev SIN (X : Cx) (tg iter : Expr) (src : FA) : Prop := PI X tg iter (tIN X.K src)
@[simp] def seqL : D → Option (List D)
  | .list ds => some ds
  | _ => none
def iSeqN (f : FE) : FA := fun r => (f r).bind fun x => (seqL x.1).map fun ds => (ds, x.2)
@[simp] theorem iSeqN_r (f : FE) (r : Ev) : iSeqN f r = (f r).bind fun x => (seqL x.1).map fun ds => (ds, x.2) := rfl
/-- a target that is a name -/
def tGN (K : PySem.W.Frag) (A : FG) (L : List Nat) : TG := fun v σ H Q => ∃ C G r d r', Ok K C G H σ r ∧ DpN K C.P G v d ∧ A d r = some r' ∧ ∀ σ', Ok K C G H σ' r' → Wp L σ σ' → Q σ' H
abbrev SGN (X : Cx) (tg : Expr) (A : FG) (L : List Nat) : Prop := PG X tg (tGN X.K A L)
end
/-! ### comprehensions whose items are such values -/
section
variable {X : Cx} {tg e elt iter : Expr} {ifs : List Expr} {scope : Scope} {own : List (Str × Nat)} {src : FA} {A : FG} {L : List Nat} {t : FT} {f : FE} {pos spos : Pos} {p : Bool}
end
/-! ### sorted -/
def rSortN (K : PySem.W.Frag) (P : Hp) : List V → Hp → VK → Prop := fun xs H Q => ∃ p ys ds G, xs = [.ref p] ∧ SqL K H p ys ∧ Same G H ∧ DpNAll K P G ys ds ∧ okSort ds = true ∧ ∀ l zs, H l = none → DpNAll K P G zs (srt ds) → Q (.ref l) (upd H l (.lst zs))
section
variable {X : Cx} {a : Expr} {fa : FE} {p : Bool} {pp pos : Pos} {x : Str}
@[simp] def sortL : D → Option (List D)
  | .list ds => if okSort ds = true then some (srt ds) else none
  | _ => none
end
/-- xs, k = [..], c -/
def sParOF (i j : Nat) (g : FA) (c : Int) : FS := fun r => (g r).map fun x => .nx ((x.2.set i (some (.ownF x.1))).set j (some (.val (.int c))))
@[simp] theorem sParOF_r (i j : Nat) (g : FA) (c : Int) (r : Ev) : sParOF i j g c r = (g r).map fun x => .nx ((x.2.set i (some (.ownF x.1))).set j (some (.val (.int c)))) := rfl
end SL
/-! A value whose lists are all new is looked at, and its lists are changed; then nothing of it is used any more. -/
namespace SL
open PySem PySem.Spec PyProof.Rows L2
/-- all is known -/
def toV : Option Cell → Option Cell
  | some (.val d) => some (.val d)
  | some (.own ds) => some (.val (.list ds))
  | some (.loan _ ds) => some (.val (.list ds))
  | some (.ownD kds) => some (.val (.dict kds))
  | some (.fre d) => some (.val d)
  | some (.ownF ds) => some (.val (.list ds))
  | _ => none
@[simp] theorem toV_none : toV none = none := rfl
@[simp] theorem toV_val (d : D) : toV (some (.val d)) = some (.val d) := rfl
@[simp] theorem toV_own (d : List D) : toV (some (.own d)) = some (.val (.list d)) := rfl
@[simp] theorem toV_loan (k : Nat) (d : List D) : toV (some (.loan k d)) = some (.val (.list d)) := rfl
@[simp] theorem toV_ownD (d : List (D × D)) : toV (some (.ownD d)) = some (.val (.dict d)) := rfl
@[simp] theorem toV_fre (d : D) : toV (some (.fre d)) = some (.val d) := rfl
@[simp] theorem toV_ownF (d : List D) : toV (some (.ownF d)) = some (.val (.list d)) := rfl
@[simp] theorem toV_tag (n : Nat) : toV (some (.tag n)) = none := rfl
def allV (r : Ev) : Ev := r.map toV
@[simp] theorem allV_nil : allV [] = [] := rfl
@[simp] theorem allV_cons (c : Option Cell) (r : Ev) : allV (c :: r) = toV c :: allV r := rfl
section
variable {K : PySem.W.Frag} {C : Ctx} {G H H0 G1 G' H' : Hp} {σ σ' : L2.St} {r r' : Ev}
def ctx0 (H0 : Hp) : Ctx := { P := H0, G0 := H0, M := [] }
theorem toV_some {c : Option Cell} {c' : Cell} (h : toV c = some c') : ∃ d, c' = .val d := by
  cases c with
  | none => cases h
  | some c => cases c <;> first | (cases h; exact ⟨_, rfl⟩) | cases h
theorem Ok.all (ok : Ok K C G H σ r) : Ok K (ctx0 H) H H σ (allV r) where
  sub := Same.refl _
  g0 := Same.refl _
  gnew := fun a o e => .inl e
  prot := fun a o e _ => e
  mreal := fun a hm => by cases hm
  len := by unfold allV; rw [List.length_map]; exact ok.len
  cell := fun i c' e => by
    unfold allV at e
    rw [List.getElem?_map] at e
    obtain ⟨c, e1, e2⟩ := Option.map_eq_some_iff.mp e
    cases c with
    | none => cases e2
    | some c =>
      obtain ⟨v, e3, h⟩ := ok.cell i c e1
      refine ⟨v, e3, ?_⟩
      cases c with
      | val d => cases e2; exact Dp.mono ok.sub h
      | own ds =>
        cases e2
        obtain ⟨p, vs, rfl, h1, h2, h3, h4⟩ := h
        exact Dp.lst (.inl (.inl h3)) (DpAll.mono ok.sub h4)
      | loan k ds =>
        cases e2
        obtain ⟨p, vs, rfl, h1, h2, h3, h4⟩ := h
        exact Dp.lst (.inl (.inl h3)) (DpAll.mono ok.sub h4)
      | ownD kds =>
        cases e2
        obtain ⟨p, o, ks, rfl, h1, h2, h3, h4⟩ := h
        exact Dp.dic h3 (DpKs.mono ok.sub h4)
      | tag n => cases e2
      | fre d => cases e2; exact Dp.mono ok.sub (DpN.dp h)
      | ownF ds =>
        cases e2
        obtain ⟨p, vs, rfl, h1, h2, h3, h4⟩ := h
        exact Dp.lst (.inl (.inl h3)) (DpAll.mono ok.sub h4.dp)
  dis := fun i j c c' e1 _ o1 _ => by
    unfold allV at e1
    rw [List.getElem?_map] at e1
    obtain ⟨c0, _, e2⟩ := Option.map_eq_some_iff.mp e1
    obtain ⟨d, rfl⟩ := toV_some e2
    cases o1
  tabs := fun p hp => absurd (show p ∈ ([] : List (Addr × Str)) from hp) (by simp)
/-- the slots' reading is taken up again -/
theorem Ok.again (ok : Ok K C G H σ r) (no : ∀ (i : Nat) (c : Cell), r[i]? = some (some c) → c.isOwn = false ∧ ∀ n, c ≠ .tag n) (ok' : Ok K C G' H' σ r') (s : Same G G') : Ok K C G' H' σ r where
  sub := ok'.sub
  g0 := ok'.g0
  gnew := ok'.gnew
  prot := ok'.prot
  mreal := ok'.mreal
  len := ok.len
  cell := fun i c e => by
    obtain ⟨v, e1, h⟩ := ok.cell i c e
    refine ⟨v, e1, ?_⟩
    obtain ⟨n1, n2⟩ := no i c e
    cases c with
    | val d => exact Dp.mono s h
    | fre d => exact DpN.mono s h
    | own => cases n1
    | loan => cases n1
    | ownD => cases n1
    | ownF => cases n1
    | tag n => exact absurd rfl (n2 n)
  dis := fun i j c c' e1 _ o1 _ => by rw [(no i c e1).1] at o1; cases o1
  tabs := ok'.tabs
/-- the end: what stood stands, but for the slots J -/
theorem Ok.out (ok : Ok K C G H0 σ r) (m : Same H0 H) (J : List Nat) (hl : σ'.length = σ.length) (hs : ∀ j, j ∉ J → σ'[j]? = σ[j]?) : Ok K C G H σ' (wipeE r J) := by
  have o1 : Ok K C G H σ r := ok.calm (Same.refl _) m (fun a o e => m _ _ (ok.sub _ _ e)) fun a o e => .inl e
  refine o1.slots (by rw [wipeE_length, hl]; exact ok.len) fun i c e => .inl ?_
  obtain ⟨a, b⟩ := wipeE_some e
  exact ⟨a, hs i b⟩
end
/-! ### the reading -/
/-- what follows the making: from the slots as they were, and the value -/
abbrev RT := Ev → D → Option Out
def sReg (i : Nat) (f : FE) (T : RT) : FS := fun r => (f (allV r)).bind fun x => T r x.1
@[simp] theorem sReg_r (i : Nat) (f : FE) (T : RT) (r : Ev) : sReg i f T r = (f (allV r)).bind fun x => T r x.1 := rfl
/-- nothing is changed yet -/
def tReg (K : PySem.W.Frag) (i : Nat) (T : RT) : TS := fun E σ H => ∃ C G r d v H0 σ0 G1 o, Ok K C G H0 σ0 r ∧ Ok K (ctx0 H0) G1 H σ ((allV r).set i (some (.fre d))) ∧ σ = σ0.set i (some v) ∧ i < σ0.length ∧ DpN K H0 G1 v d ∧ T r d = some o ∧ OutOk K C G E o
/-- how the lists stand behind some changes -/
structure Dty (K : PySem.W.Frag) (H0 G1 H : Hp) (n : Nat) : Prop where
  old : Same H0 H
  lst : ∀ a vs, G1 a = some (.lst vs) → H0 a = none → ∃ ex, H a = some (.lst (vs ++ ex)) ∧ ex.length ≤ n
  tup : ∀ a xs, SqT K G1 a xs → SqT K H a xs
/-- some have been changed; J: the slots that are stored meanwhile -/
def tDty (K : PySem.W.Frag) (i : Nat) (J : List Nat) (m : Nat) (T : RT) : TS := fun E σ H => ∃ C G r d v H0 σ0 G1 o n, Ok K C G H0 σ0 r ∧ Same G H0 ∧ Dty K H0 G1 H n ∧ n + m ≤ 3000000 ∧ σ.length = σ0.length ∧ (∀ j, j ∉ J → σ[j]? = σ0[j]?) ∧ σ[i]? = some (some v) ∧ DpN K H0 G1 v d ∧ T r d = some o ∧ OutOk K C G E o
abbrev SRs (X : Cx) (st : List Stmt) (i : Nat) (T : RT) : Prop := PSs X st (tReg X.K i T)
abbrev SDs (X : Cx) (st : List Stmt) (i : Nat) (J : List Nat) (m : Nat) (T : RT) : Prop := PSs X st (tDty X.K i J m T)
def rEnd (J : List Nat) (F : FS) : RT := fun r _ => F (wipeE r J)
@[simp] theorem rEnd_r (J : List Nat) (F : FS) (r : Ev) (d : D) : rEnd J F r d = F (wipeE r J) := rfl
def rChk (i : Nat) (t : FT) (c : D) (T : RT) : RT := fun r d => (t ((allV r).set i (some (.fre d)))).bind fun x => if x.1 = true then some (.rt c (wipeE r [i])) else T r d
@[simp] theorem rChk_r (i : Nat) (t : FT) (c : D) (T : RT) (r : Ev) (d : D) : rChk i t c T r d = (t ((allV r).set i (some (.fre d)))).bind fun x => if x.1 = true then some (.rt c (wipeE r [i])) else T r d := rfl
def rIf (i : Nat) (t : FT) (T T' : RT) : RT := fun r d => (t ((allV r).set i (some (.fre d)))).bind fun x => if x.1 = true then T r d else T' r d
@[simp] theorem rIf_r (i : Nat) (t : FT) (T T' : RT) (r : Ev) (d : D) : rIf i t T T' r d = (t ((allV r).set i (some (.fre d)))).bind fun x => if x.1 = true then T r d else T' r d := rfl
/-- the length of a list that is changed, at a place: [] itself, [k] its part -/
def lnAt (k : Option Int) (d : D) : Option Nat := match k, d with
  | none, .list ds => some ds.length
  | some k, .list ds => (L2.atI ds k).bind fun x => match x with
    | .list es => some es.length
    | _ => none
  | some k, .tuple ds => (L2.atI ds k).bind fun x => match x with
    | .list es => some es.length
    | _ => none
  | _, _ => none
def rApp (k : Option Int) (T : RT) : RT := fun r d => (lnAt k d).bind fun n => if n ≤ 1000000 then T r d else none
@[simp] theorem rApp_r (k : Option Int) (T : RT) (r : Ev) (d : D) : rApp k T r d = (lnAt k d).bind fun n => if n ≤ 1000000 then T r d else none := rfl
def isInt : D → Bool
  | .int _ => true
  | _ => false
/-- lists of numbers -/
def rowsB : D → Bool
  | .list ds => decide (ds.length ≤ 1000000) && ds.all fun x => match x with
    | .list es => es.all isInt && decide (es.length ≤ 1000000)
    | _ => false
  | _ => false
def rEach (i2 : Nat) (T : RT) : RT := fun r d => if rowsB d = true ∧ i2 < r.length then T r d else none
@[simp] theorem rEach_r (i2 : Nat) (T : RT) (r : Ev) (d : D) : rEach i2 T r d = if rowsB d = true ∧ i2 < r.length then T r d else none := rfl
section
variable {X : Cx} {e a b c : Expr} {es : List Expr} {f fa fb : FE} {g : FA} {pu p q : Bool} {pos pp : Pos} {x : Str} {F F' : FS} {i : Nat} {T T' : RT} {rest sts : List Stmt} {t : FT} {J : List Nat} {m : Nat}
theorem SqT.upd {K : PySem.W.Frag} {H : Hp} {a b : Addr} {xs ys zs : List V} (h : SqT K H a xs) (e : H b = some (.lst ys)) : SqT K (upd H b (.lst zs)) a xs := by
  rcases h with h | h
  · refine .inl ?_
    rcases h with h | ⟨o, h⟩
    · exact .inl (by rw [upd_ne (fun z => by subst z; rw [e] at h; cases h)]; exact h)
    · exact .inr ⟨o, by rw [upd_ne (fun z => by subst z; rw [e] at h; cases h)]; exact h⟩
  · exact .inr h
theorem Dty.app {K : PySem.W.Frag} {H0 G1 H : Hp} {n : Nat} (dt : Dty K H0 G1 H n) {a : Addr} {vs ex : List V} (y : V) (h0 : H0 a = none) (hG : G1 a = some (.lst vs)) (h : H a = some (.lst (vs ++ ex))) (he : ex.length ≤ n) : Dty K H0 G1 (upd H a (.lst (vs ++ ex ++ [y]))) (n + 1) where
  old := fun b o e => by rw [upd_ne (ne_of_none e h0)]; exact dt.old _ _ e
  lst := fun b ws e nb => by
    by_cases hb : b = a
    · subst hb
      rw [hG] at e
      cases e
      exact ⟨ex ++ [y], by rw [upd_same, List.append_assoc], by rw [List.length_append, List.length_singleton]; omega⟩
    · obtain ⟨ex', h1, h2⟩ := dt.lst b ws e nb
      exact ⟨ex', by rw [upd_ne hb]; exact h1, by omega⟩
  tup := fun b xs hb => SqT.upd (dt.tup b xs hb) h
def rIfM (i : Nat) (t : FT) (T : RT) (J : List Nat) (F : FS) : RT := fun r d => (t ((allV r).set i (some (.fre d)))).bind fun x => if x.1 = true then thenK (T r d) F else F (wipeE r J)
@[simp] theorem rIfM_r (i : Nat) (t : FT) (T : RT) (J : List Nat) (F : FS) (r : Ev) (d : D) : rIfM i t T J F r d = (t ((allV r).set i (some (.fre d)))).bind fun x => if x.1 = true then thenK (T r d) F else F (wipeE r J) := rfl
end
end SL
/-! x = l.pop() -/
namespace SL
open PySem PySem.Spec PyProof.Rows L2
section
variable {X : Cx} {e a b : Expr} {es : List Expr} {f fa fb : FE} {g : FA} {pu p q : Bool} {pos pp : Pos} {x : Str} {F F' : FS}
def sPop (i j : Nat) : FS := fun r => (listAt j r).bind fun z => z.1[z.1.length - 1]?.map fun d => .nx ((z.2 z.1.dropLast).set i (some (.val d)))
@[simp] theorem sPop_r (i j : Nat) (r : Ev) : sPop i j r = (listAt j r).bind fun z => z.1[z.1.length - 1]?.map fun d => .nx ((z.2 z.1.dropLast).set i (some (.val d))) := rfl
theorem DpAll.dropLast {K : PySem.W.Frag} {G : Hp} : ∀ {vs : List V} {ds : List D}, DpAll K G vs ds → DpAll K G vs.dropLast ds.dropLast
  | _, _, .nil => .nil
  | _, _, .cons a .nil => .nil
  | _, _, .cons a (.cons b t) => by
    rw [List.dropLast_cons₂, List.dropLast_cons₂]
    exact .cons a (DpAll.dropLast (.cons b t))
end
end SL
/-! sorted(d): the keys of a dict -/
namespace SL
open PySem PySem.Spec PyProof.Rows L2
variable [TBL]
def sortKD : D → Option (List D)
  | .dict kds => if okSort (kds.map (·.1)) = true then some (srt (kds.map (·.1))) else none
  | _ => none
@[simp] theorem sortKD_d (kds : List (D × D)) : sortKD (.dict kds) = if okSort (kds.map (·.1)) = true then some (srt (kds.map (·.1))) else none := rfl
def rSortK (K : PySem.W.Frag) : List V → Hp → VK → Prop := fun xs H Q => ∃ p o ks kds G, xs = [.ref p] ∧ H p = some (DicO p o ks) ∧ Same G H ∧ DpKs K G ks kds ∧ okSort (kds.map (·.1)) = true ∧ ∀ l zs, H l = none → DpAll K G zs (srt (kds.map (·.1))) → Q (.ref l) (upd H l (.lst zs))
section
variable {X : Cx}
end
/-! len of a dict -/
def lenKD : D → Option D
  | .dict kds => some (.int kds.length)
  | _ => none
@[simp] theorem lenKD_d (kds : List (D × D)) : lenKD (.dict kds) = some (.int kds.length) := rfl
def rLenK (K : PySem.W.Frag) : List V → Hp → VK → Prop := fun xs H Q => ∃ p o ks kds G, xs = [.ref p] ∧ H p = some (DicO p o ks) ∧ Same G H ∧ DpKs K G ks kds ∧ Q (.int (kds.length : Int)) H
section
variable {X : Cx}
end
end SL
/-! y = {x: True for x in ..}, the keys tuples. The block is run in the context of the def around it: its own names stand at one address, which is pinned while the iterator goes on. -/
namespace SL
open PySem PySem.Spec PyProof.Rows L2
variable [TBL]
/-- the dict that is made -/
def dcK : List D → List (D × D) → Option (List (D × D))
  | [], acc => some acc
  | d :: ds, acc => (tkey d).bind fun _ => if acc.length < sizeLine then dcK ds (dPut acc d (.bool true)) else none
@[simp] theorem dcK_nil (acc : List (D × D)) : dcK [] acc = some acc := rfl
@[simp] theorem dcK_cons (d : D) (ds : List D) (acc : List (D × D)) : dcK (d :: ds) acc = (tkey d).bind fun _ => if acc.length < sizeLine then dcK ds (dPut acc d (.bool true)) else none := rfl
def dKeys (src : FA) : FDc := fun r => (src r).bind fun x => (dcK x.1 []).map fun z => (z, x.2)
@[simp] theorem dKeys_r (src : FA) (r : Ev) : dKeys src r = (src r).bind fun x => (dcK x.1 []).map fun z => (z, x.2) := rfl
section
variable {X : Cx} {pins : List (Addr × Obj)} {σ : L2.St} {H : Hp} {s : Shared} {E : Value → Shared → Prop}
end
section
variable {X : Cx} {pins : List (Addr × Obj)} {σ : L2.St} {C : Ctx} {r0 : Ev} {B : Addr} {fp : List Addr} {G1 : Hp} {ds : List D} {zs : List (D × D)}
/-- the walk gives what is told, whatever else is made meanwhile -/
def TurnsK (K : PySem.W.Frag) (C : Ctx) (σ : L2.St) (r0 : Ev) (J : It) (ds : List D) (G1 : Hp) : Prop := ∀ (dA : Addr) (o : Obj) (ks : List KE3) (i : Nat) (G H : Hp), Ok K (C.holdX dA (DicO dA o ks)) G H σ r0 → Same G1 G →
  (∀ d, ds[i]? = some d → J.go i H ∧ ∀ x H3, J.yld i H x H3 → Same H H3 ∧ ∃ G3, Same G G3 ∧ Same G3 H3 ∧ (∀ a u, G3 a = some u → G a = some u ∨ H a = none) ∧ Dp K G3 x d) ∧ (ds.length ≤ i → J.stop i H)
/-- between two turns: i items are in the dict at D, the block's names stand at B -/
def KeysAt (X : Cx) (pins : List (Addr × Obj)) (σ : L2.St) (C : Ctx) (r0 : Ev) (dA B : Addr) (fp : List Addr) (tn : Nat → Heap → Prop) (G1 : Hp) (ds : List D) (zs : List (D × D)) (i : Nat) (s : Shared) : Prop :=
  i ≤ ds.length ∧ tn i s.heap ∧ (∃ m, s.heap.Ns B m) ∧ ∃ H o ks acc G, Inv X pins σ H s ∧ FpOk X pins H B ∧ (∀ b ∈ fp, FpOk X pins H b) ∧ Ok X.K (C.holdX dA (DicO dA o ks)) G H σ r0 ∧ Same G1 G ∧ DpKs X.K G ks acc ∧ dcK (ds.drop i) acc = some zs
end
/-- all names of the block are its own, x among them -/
def keyScope (scope : Scope) (x : Str) : Bool := (scope.kind == .function) && (scope.names.all fun y => y.2 == .local && scope.names.lookup y.1 == some .local) && (scope.names.lookup x == some .local) && !(x == ("__debug__" : Str))
section
variable {X : Cx} {src : FA}
/-- {x: True for x in w}, w a list of one's own that stays so -/
def ownA (i : Nat) : FA := fun r => match r[i]? with
  | some (some (.own ds)) => some (ds, r)
  | _ => none
@[simp] theorem ownA_r (i : Nat) (r : Ev) : ownA i r = match r[i]? with
  | some (some (.own ds)) => some (ds, r)
  | _ => none := rfl
theorem DpAll.at {K : PySem.W.Frag} {G : Hp} {n : Nat} : ∀ {vs : List V} {ds : List D} {i : Nat} {d : D}, DpAll K G vs ds → ds[i]? = some d → ∃ v, vs[i]? = some v ∧ Dp K G v d
  | _, _, _, _, .nil, e => by simp at e
  | _, _, 0, _, .cons a _, e => by
    simp only [List.getElem?_cons_zero, Option.some.injEq] at e
    exact ⟨_, rfl, e ▸ a⟩
  | _, _, i + 1, _, .cons _ b, e => by
    simp only [List.getElem?_cons_succ] at e ⊢
    exact DpAll.at (n := n) b e
end
end SL
/-! sorted of tuples the first of which is empty: then each two of them are compared as tuples compare themselves. -/
namespace SL
open PySem PySem.Spec PyProof.Rows L2
variable [TBL]
section
open PySem.W PySem.Calls PySem.SeqAt
variable {prog : Program} {w : World} {A : Around} {E : Value → Shared → Prop} {s : Shared}
end
def tupB : D → Bool
  | .tuple _ => true
  | _ => false
def empty1 : List D → Bool
  | .tuple [] :: _ => true
  | _ => false
/-- tuples that are alike, the first of them empty -/
def okSortE (ds : List D) : Bool := alikeB ds && empty1 ds && ds.all tupB && decide (ds.length ≤ sizeLine) && ds.all fun d => decide (d.depth ≤ 64)
def sortE : D → Option (List D)
  | .list ds => if okSort ds = true ∨ okSortE ds = true then some (srt ds) else none
  | _ => none
def rSortE (K : PySem.W.Frag) : List V → Hp → VK → Prop := fun xs H Q => ∃ p ys ds G, xs = [.ref p] ∧ SqL K H p ys ∧ Same G H ∧ DpAll K G ys ds ∧ (okSort ds = true ∨ okSortE ds = true) ∧ ∀ l zs, H l = none → DpAll K G zs (srt ds) → Q (.ref l) (upd H l (.lst zs))
section
variable {X : Cx}
end
end SL
/-! sorted(f(..).items()), the dict one that a call hands back: the view is an object of ours, sorted takes it; its tuples are new. -/
namespace SL
open PySem PySem.Spec PyProof.Rows L2
variable [TBL]
section
variable {prog : Program} {w : World} {A : Around} {E : Value → Shared → Prop} {s : Shared}
end
def pairsD (kds : List (D × D)) : List D := kds.map fun z => .tuple [z.1, z.2]
def rSortV (K : PySem.W.Frag) : List V → Hp → VK → Prop := fun xs H Q => ∃ v d o ks kds G, xs = [.ref v] ∧ H v = some (VwO v d) ∧ H d = some (DicO d o ks) ∧ Same G H ∧ DpKs K G ks kds ∧ okSort (pairsD kds) = true ∧
  ∀ (l : Addr) (ts : List Addr) (zs : List V), ts.Nodup → ts.length = ks.length → H l = none → (∀ t ∈ ts, H t = none) → l ∉ ts → DpAll K (over (tupsAt ts ks) G) zs (srt (pairsD kds)) → Q (.ref l) (upd (over (tupsAt ts ks) H) l (.lst zs))
section
variable {X : Cx}
end
def lSortIt (f : FE) : FA := fun r => (f r).bind fun x => match x.1 with
  | .dict kds => if okSort (pairsD kds) = true then some (srt (pairsD kds), x.2) else none
  | _ => none
section
variable {X : Cx} {e : Expr} {f : FE} {q : Bool} {p apos cpos pos : Pos}
end
end SL
/-! d.setdefault(k, x), d.get(k), a pair stored: a new list and a value. -/
namespace SL
open PySem PySem.Spec PyProof.Rows L2
variable [TBL]
/-- the dict with the key, if it was not there -/
def dDef (kds : List (D × D)) (k v : D) : List (D × D) := if (dFind kds k).isSome = true then kds else dPut kds k v
section
variable {X : Cx} {pins : List (Addr × Obj)} {σ : L2.St} {H : Hp} {s : Shared} {E : Value → Shared → Prop} {A : Around}
end
section
variable {X : Cx} {a b e : Expr} {fk f : FE} {p q : Bool} {y : Str} {py pos : Pos}
def sDdef (i : Nat) (fk f : FE) : FS := fun r => (dictOwn i r).bind fun _ => (fk r).bind fun x => (f x.2).bind fun y => (dictOwn i y.2).bind fun kds => (tkey x.1).bind fun _ => if kds.length < sizeLine then some (.nx (y.2.set i (some (.ownD (dDef kds x.1 y.1))))) else none
@[simp] theorem sDdef_r (i : Nat) (fk f : FE) (r : Ev) : sDdef i fk f r = (dictOwn i r).bind fun _ => (fk r).bind fun x => (f x.2).bind fun y => (dictOwn i y.2).bind fun kds => (tkey x.1).bind fun _ => if kds.length < sizeLine then some (.nx (y.2.set i (some (.ownD (dDef kds x.1 y.1))))) else none := rfl
def tDdef (K : PySem.W.Frag) (i : Nat) (fk f : FE) : TE := fun σ H Q => ∃ C G r r', Ok K C G H σ r ∧ sDdef i fk f r = some (.nx r') ∧ ∀ v G' H', Ok K C G' H' σ r' → Same G G' → Q v H'
/-- d.get(k) -/
def fDget1 (i : Nat) (fk : FE) : FE := fun r => (dictAt i r).bind fun _ => (fk r).bind fun x => (dictAt i x.2).bind fun kds => (tkey x.1).map fun _ => ((dFind kds x.1).getD .none, x.2)
@[simp] theorem fDget1_r (i : Nat) (fk : FE) (r : Ev) : fDget1 i fk r = (dictAt i r).bind fun _ => (fk r).bind fun x => (dictAt i x.2).bind fun kds => (tkey x.1).map fun _ => ((dFind kds x.1).getD .none, x.2) := rfl
end
/-- x, y = [..], e -/
def sParOE (i j : Nat) (g : FA) (f : FE) : FS := fun r => (g r).bind fun x => (f x.2).map fun y => .nx ((y.2.set i (some (.own x.1))).set j (some (.val y.1)))
@[simp] theorem sParOE_r (i j : Nat) (g : FA) (f : FE) (r : Ev) : sParOE i j g f r = (g r).bind fun x => (f x.2).map fun y => .nx ((y.2.set i (some (.own x.1))).set j (some (.val y.1))) := rfl
end SL
/-! min of tuples (or of other data that are alike). -/
namespace SL
open PySem PySem.Spec PyProof.Rows L2
variable [TBL]
def minT : D → Option D
  | .list (x :: xs) => if okSort (x :: xs) = true then some (W.minD x xs) else none
  | _ => none
def rMinT (K : PySem.W.Frag) : List V → Hp → VK → Prop := fun vs H Q => ∃ p ys x xs G, vs = [.ref p] ∧ SqL K H p ys ∧ Same G H ∧ DpAll K G ys (x :: xs) ∧ okSort (x :: xs) = true ∧ ∀ v, Dp K G v (W.minD x xs) → Q v H
section
variable {X : Cx}
end
end SL
/-! dict(w), w a list of pairs whose first is a tuple. -/
namespace SL
open PySem PySem.Spec PyProof.Rows L2
variable [TBL]
def unpairs : List D → Option (List (D × D))
  | [] => some []
  | .tuple [k, v] :: ds => (tkey k).bind fun _ => (unpairs ds).map fun r => (k, v) :: r
  | _ => none
def dPuts (acc kds : List (D × D)) : List (D × D) := kds.foldl (fun a p => dPut a p.1 p.2) acc
def dictP : D → Option (List (D × D))
  | .list ds => if ds.length ≤ sizeLine then (unpairs ds).map fun kds => dPuts [] kds else none
  | _ => none
def rDictP (K : PySem.W.Frag) : List V → Hp → VK → Prop := fun vs H Q => ∃ p ys ds kds G, vs = [.ref p] ∧ SqL K H p ys ∧ Same G H ∧ DpAll K G ys ds ∧ unpairs ds = some kds ∧ ds.length ≤ sizeLine ∧ ∀ l o ks, H l = none → DpKs K G ks (dPuts [] kds) → Q (.ref l) (upd H l (DicO l o ks))
section
variable {X : Cx} {pins : List (Addr × Obj)} {σ : L2.St} {H : Hp} {s : Shared}
end
/-- f(e), a new dict -/
def Call1D (K : PySem.W.Frag) (r : List V → Hp → VK → Prop) (g : D → Option (List (D × D))) : Prop := ∀ G H x dx kds (Q : VK), Same G H → Pk K G H x dx → g dx = some kds → (∀ l o ks, H l = none → DpKs K G ks kds → Q (.ref l) (upd H l (DicO l o ks))) → r [x] H Q
def d1 (g : D → Option (List (D × D))) (f : FE) : FDc := fun r => (f r).bind fun x => (g x.1).map fun z => (z, x.2)
@[simp] theorem d1_r (g : D → Option (List (D × D))) (f : FE) (r : Ev) : d1 g f r = (f r).bind fun x => (g x.1).map fun z => (z, x.2) := rfl
section
variable {X : Cx} {a : Expr} {fa : FE} {p : Bool} {pp pos : Pos} {x : Str} {T : String}
end
end SL
/-! sorted(d, reverse=True); parts of a new tuple that are cleared -/
namespace SL
open PySem PySem.Spec PyProof.Rows L2
section
variable {prog : Program} {w : World} {A : Around} {E : Value → Shared → Prop} {s : Shared}
end
def srtR (ds : List D) : List D := ds.mergeSort (W.dataLe true id)
def sortKR : D → Option (List D)
  | .dict kds => if okSort (kds.map (·.1)) = true then some (srtR (kds.map (·.1))) else none
  | _ => none
@[simp] theorem sortKR_d (kds : List (D × D)) : sortKR (.dict kds) = if okSort (kds.map (·.1)) = true then some (srtR (kds.map (·.1))) else none := rfl
def rSortKR (K : PySem.W.Frag) : List V → List V → Hp → VK → Prop := fun xs zs H Q => ∃ p o ks kds G, xs = [.ref p] ∧ zs = [.bl true] ∧ H p = some (DicO p o ks) ∧ Same G H ∧ DpKs K G ks kds ∧ okSort (kds.map (·.1)) = true ∧ ∀ l zs, H l = none → DpAll K G zs (srtR (kds.map (·.1))) → Q (.ref l) (upd H l (.lst zs))
section
variable {X : Cx}
end
/-! ### for y in told[:c]: y.clear() -/
def isLst : D → Bool
  | .list _ => true
  | _ => false
def rClr (c : Int) (i2 : Nat) (J : List Nat) (F : FS) : RT := fun r d => match d with
  | .tuple ds => if (cutD ds none (some c)).all isLst = true ∧ i2 < r.length then F (wipeE r J) else none
  | _ => none
@[simp] theorem rClr_r (c : Int) (i2 : Nat) (J : List Nat) (F : FS) (r : Ev) (ds : List D) : rClr c i2 J F r (.tuple ds) = if (cutD ds none (some c)).all isLst = true ∧ i2 < r.length then F (wipeE r J) else none := rfl
theorem DpNAll.sub {K : PySem.W.Frag} {P G : Hp} : ∀ {vs : List V} {ds : List D}, DpNAll K P G vs ds → ∀ k, DpNAll K P G (vs.drop k) (ds.drop k) ∧ DpNAll K P G (vs.take k) (ds.take k)
  | _, _, h, 0 => ⟨h, by rw [List.take_zero, List.take_zero]; exact .nil⟩
  | _, _, .nil, k + 1 => ⟨.nil, .nil⟩
  | _, _, .cons a t, k + 1 => ⟨(DpNAll.sub t k).1, .cons a (DpNAll.sub t k).2⟩
section
variable {X : Cx} {i : Nat} {J : List Nat} {F : FS} {x : Str} {rest : List Stmt}
end
/-! ### // by great divisors -/
def divW : D → D → Option D
  | .int i, .int j => if 0 < j ∧ j < 2 ^ 300 then some (.int (i / j)) else none
  | _, _ => none
end SL
/-! x, y = a list -/
namespace SL
open PySem PySem.Spec PyProof.Rows L2
def gLp (n : Nat) (B : FGs) : FG := fun d r => match d with
  | .list ds => if ds.length = n then B ds r else none
  | _ => none
@[simp] theorem gLp_r (n : Nat) (B : FGs) (d : D) (r : Ev) : gLp n B d r = match d with
  | .list ds => if ds.length = n then B ds r else none
  | _ => none := rfl
end SL
/-! a statement that is never come to (a raise, where nothing is raised) -/
namespace SL
open PySem PySem.Spec PyProof.Rows L2
variable [TBL]
def sBad : FS := fun _ => none
@[simp] theorem sBad_r (r : Ev) : sBad r = none := rfl
end SL
/-! A lambda as key of sorted; defs that make one: their table of code objects grows. -/
namespace SL
open PySem PySem.Spec PyProof.Rows L2
/-! ### the key (r[i], -r[k]) of a row of whole numbers -/
section
variable {prog : Program} {w : World} {A : Around} {s : Shared} {env : Env} {m : Str → Option Value} {x : Str}
/-- x[k], x a tuple -/
theorem ev_cell {t : Addr} {items : List Value} {k : Nat} {y : Value} {E : Value → Shared → Prop} {Q : Value → Shared → Prop} {p1 p2 p3 : Pos} {j : Nat} (hk : env.scope.kind = .function) (hl : env.kindOf x = some .local) (hn : s.heap.Ns env.locals m) (hm : m x = some (.ref t)) (ht : IsTup s.heap t items.toArray) (hy : items[k]? = some y) (h2 : items.length ≤ 1000)
    (hd : (x == ("__debug__" : Str)) = false) (h : Q y { s with toks := s.toks + 1 }) : wpAny (model prog w) A (eval (.Subscript (.Name x p1) (.Constant (.int (k : Int)) j p2) p3) env) Q E s := by
  have hlt : k < items.length := (List.getElem?_eq_some_iff.mp hy).1
  refine Subscript_Constant (wpAny_Name (wpAny_loadName_local hk hl hn hm ?_) hd)
  refine wpAny_Constant_int ?_
  refine ⟨"tuple", _, slot_tuple_getitem.lookup, IsTup.typeIs (s := { s with toks := s.toks + 1 }) ht, PyProof.Rows.getItem_tuple (s := { s with toks := s.toks + 1 }) (j := k) ht (by omega) (by omega) ?_ (by simpa using hy) h⟩
  rw [List.size_toArray]
  unfold seqIndex?
  simp
  omega
/-- (x[1], -x[0]) -/
theorem key_body {t : Addr} {a b : Int} {ta tb : Tok} {rest : List Value} {E : Value → Shared → Prop} {p1 p2 p3 p4 p5 p6 p7 p8 : Pos} {j1 j2 j3 : Nat} (hk : env.scope.kind = .function) (hl : env.kindOf x = some .local) (hn : s.heap.Ns env.locals m) (hm : m x = some (.ref t)) (ht : IsTup s.heap t (Value.int a ta :: Value.int b tb :: rest).toArray) (h2 : rest.length ≤ 900)
    (hd : (x == ("__debug__" : Str)) = false) (he : starEach [.Subscript (.Name x p1) (.Constant (.int 1) j1 p2) p3, .UnaryOp .USub (.Subscript (.Name x p4) (.Constant (.int 0) j2 p5) p6) p7] env = (false, eval (.Subscript (.Name x p1) (.Constant (.int 1) j1 p2) p3) env) :: starEach [.UnaryOp .USub (.Subscript (.Name x p4) (.Constant (.int 0) j2 p5) p6) p7] env := by rfl)
    (he2 : starEach [.UnaryOp .USub (.Subscript (.Name x p4) (.Constant (.int 0) j2 p5) p6) p7] env = (false, eval (.UnaryOp .USub (.Subscript (.Name x p4) (.Constant (.int 0) j2 p5) p6) p7) env) :: starEach [] env := by rfl) :
    wpAny (model prog w) A (eval (.Tuple [.Subscript (.Name x p1) (.Constant (.int 1) j1 p2) p3, .UnaryOp .USub (.Subscript (.Name x p4) (.Constant (.int 0) j2 p5) p6) p7] j3 p8) env) (fun v s' => W.KeyPure (.tuple [.int b, .int (-a)]) s v s') E s := by
  refine wpAny_Tuple (wpAny_items_cons (ev_cell (k := 1) hk hl hn hm ht rfl (by simp; omega) hd (wpAny_items_cons (wpAny_UnaryOp (ev_cell (k := 0) (s := { s with toks := s.toks + 1 }) hk hl hn hm ht rfl (by simp; omega) hd (neg_int (wpAny_items_nil ?_)))) he2)) he)
  refine ⟨by show 2 ≤ _; decide, ?_⟩
  refine ⟨_, _, rfl, fun b o e => Heap.get?_push_of_some _ e, ?_⟩
  exact Reads.tuple (as := []) (Heap.get?_push_size _ rfl) rfl rfl (ReadsAll.cons (as := []) (.int _ _) (ReadsAll.cons (as := []) (.int _ _) .nil))
end
/-- what is asked of a key's body: at any frame in which the parameter stands for a row -/
def KeyBody (prog : Program) (w : World) (x : Str) (scope : Scope) (body : Expr) (dom : D → Prop) (key : D → D) : Prop :=
  ∀ (A : Around) (s : Shared) (env : Env) (m : Str → Option Value) (d : D) (as : List Addr) (v : Value), env.scope = scope → s.heap.Ns env.locals m → m x = some v → dom d → Reads s.heap v d as → wpAny (model prog w) A (eval body env) (fun u s' => W.KeyPure (key d) s u s') (fun _ _ => False) s
/-- the function object that a lambda makes -/
abbrev lamO (X : Cx) (params : Arguments) (body : Expr) (scope : Scope) (pm : Value) (c' : Addr) (ctv : Value) : Obj := PySem.W.kla_obj "<lambda>" (X.env.qual ++ "<lambda>") params body scope (cloFrom X.env.cells scope.names []) pm c' ctv
section
variable {X : Cx} {pins : List (Addr × Obj)} {σ : L2.St} {H : Hp} {s : Shared}
/-- a call of the lambda at f -/
theorem lam_turn {A : Around} {params : Arguments} {body : Expr} {scope : Scope} {pm ctv : Value} {f c' : Addr} {x : Str} {dom : D → Prop} {key : D → D} {d : D} {as : List Addr} {v : Value} (hkind : scope.kind = .function) (hco : scope.isCoroutine = false) (hgen : scope.isGenerator = false) (hcell : ∀ y ∈ scope.names, y.2 ≠ .cell) (hloc : scope.names.lookup x = some .local) (KB : KeyBody X.prog X.w x scope body dom key)
    (hbind : ∀ v, bindArgs (PySem.W.kla_fn "<lambda>" (X.env.qual ++ "<lambda>") params body scope (cloFrom X.env.cells scope.names []) pm (.ref c') ctv) ⟨[v], []⟩ = pure [(x, v)]) (hroom : A.depth < recursionLimit)
    (ho : s.heap.get? f = some (lamO X params body scope pm c' ctv)) (hc : s.heap.CodeRec (.ref c') (X.env.qual ++ "<lambda>")) (lim : s.heap.NoLimit) (hd : dom d) (rd : Reads s.heap v d as) :
    wpAny (model X.prog X.w) A (call (.ref f) [v]) (W.KeyPure (key d) s) (fun _ _ => False) s := by
  have go : codeAny (model X.prog X.w) A (.call (.ref f) ⟨[v], []⟩) (fun r s' => match r with
      | .ok (.ret u) => W.KeyPure (key d) s u s'
      | _ => False) s := by
    refine PySem.W.kla_callFunE hroom ho rfl hco hgen rfl hc ?_
    rw [hbind v]
    refine wpAny_pure (wpAny_newFunctionEnv hcell (fun y hy => ?_) (fun h1 hns hsb => ?_) hkind)
    · rw [List.mem_singleton.mp hy]
      exact hloc
    · have kp : ∀ b o, s.heap.get? b = some o → h1.get? b = some o := fun b o e => hsb.extBut b o (Nat.ne_of_lt (Heap.lt_size e)) (Heap.get?_push_of_some _ e)
      refine ⟨lim.fresh _ hsb, PySem.W.kla_codeExpr (wpAny_mono (KB _ _ _ _ d as v rfl hns ?_ hd (PyProof.Rows.Reads.keeps kp rd)) (fun u s' hq => ?_) fun _ _ z => z.elim)⟩
      · simp [List.lookup]
      · obtain ⟨h2, tk, e, k2, r2⟩ := hq
        subst e
        exact ⟨h2, tk, rfl, fun b o z => k2 b o (kp b o z), r2⟩
  refine wpAny_call (codeAny_mono go fun r s' hq => ?_)
  cases r with
  | error e => exact hq
  | ok fl =>
    cases fl with
    | ret u => exact hq
    | next => exact hq
    | brk => exact hq
    | cont => exact hq
/-- a lambda is made; its code object is known from then on -/
theorem lam_made {G : Hp} {c P : Addr} {q : Str} {params : Arguments} {body : Expr} {scope : Scope} {lp : Pos} {E Q : Value → Shared → Prop} (I : Inv X pins σ H s) (TB : LamX.TabB X.base X.mg c P) (code : X.env.code = .ref c) (eq : X.env.qual ++ "<lambda>" = q) (tb : TabG G H P q) (sg : Same G H) (gP : G P = Option.none)
    (dflt : defaultsOf params X.env = ([], [])) (free : ∀ y ∈ scope.names, y.2 = .free → ∃ c, X.env.cells.lookup y.1 = some c)
    (done : ∀ (f c' : Addr) (pm ctv : Value) (G1 H1 : Hp) (s' : Shared), Inv X pins σ H1 s' → Same G G1 → Same G1 H1 → (∀ b o, b ≠ P → H b = some o → H1 b = some o) → (∀ b o, G1 b = some o → G b = some o ∨ H b = none) → TabG G1 H1 P q →
      s'.heap.get? f = some (lamO X params body scope pm c' ctv) → G1 c' = some (LamX.CodeO c' q) → Q (.ref f) s') :
    wpAny (model X.prog X.w) X.A (eval (.Lambda params body scope lp) X.env) Q E s := by
  subst eq
  obtain ⟨ps, atP, tri, known⟩ := tb
  have phys : s.heap.get? P = some { cls := .none, data := .fields ps } := I.hok P _ atP
  have blt := TB.bm.keeps I.bk
  have head := TB.code.keeps I.bk
  have clo := closure_ok free
  have gl := I.mod.glob.keeps I.bk
  apply PySem.W.kla_eval dflt
  by_cases hit : ∃ cv, codeAmong lp ps.toList = some cv
  · -- its code object stands in the table
    obtain ⟨cv, e⟩ := hit
    obtain ⟨c', rfl, kc⟩ := known lp cv e
    apply PySem.W.kla_makeFunctionHit (mg := X.mg) (c := c) (P := P) (ps := ps) clo I.ok.glob gl code head phys tri e blt
    intro ctv h1 tk old _
    exact done _ c' _ ctv G H _ (I.kept (t' := tk) fun b o z => Heap.get?_push_of_some _ (old b o z)) (Same.refl _) sg (fun _ _ _ z => z) (fun _ _ z => .inl z) ⟨ps, atP, tri, known⟩ (Heap.get?_push_size _ rfl) kc
  · -- it is laid anew
    have none : codeAmong lp ps.toList = Option.none := by
      cases e : codeAmong lp ps.toList with
      | none => rfl
      | some cv => exact absurd ⟨cv, e⟩ hit
    apply PySem.W.kla_makeFunction (mg := X.mg) (c := c) (P := P) (ps := ps) clo I.ok.glob gl code head phys tri none TB.gP blt
    intro c' ctv h1 tk old above below rec tab
    obtain ⟨c2, oc, vs, t, e2, o1, o2, o3⟩ := rec
    cases e2
    have nH : H c' = Option.none := I.hok.fresh above
    have nG : G c' = Option.none := sg.free nH
    have nP : P ≠ c' := ne_of_none atP nH
    have J := LamX.inv_table (t' := tk) (more := #[rawInt lp.line, rawInt lp.col, .ref c']) (h' := h1.push (lamO X params body scope ((X.mg "__name__").getD .none) c' ctv)) I atP (fun b o n z => Heap.get?_push_of_some _ (old b o n z)) (Heap.get?_push_of_some _ tab) above ⟨oc, vs, t, Heap.get?_push_of_some _ o1, o2, o3⟩
    refine done _ c' _ ctv (upd G c' (LamX.CodeO c' (X.env.qual ++ "<lambda>"))) _ _ J (same_laid nG) (fun b o z => ?_) (fun b o n z => ?_) (fun b o z => ?_) ⟨_, (upd_ne nP).trans upd_same, ?_, fun pos' cv z => ?_⟩ (Heap.get?_push_size _ rfl) upd_same
    · by_cases y : b = c'
      · subst y
        rw [upd_same] at z ⊢
        exact z
      · rw [upd_ne y] at z ⊢
        have z2 := sg b o z
        by_cases y2 : b = P
        · subst y2
          rw [atP] at z2
          cases z2
          rw [gP] at z; cases z
        · rw [upd_ne y2]
          exact z2
    · rw [upd_ne (ne_of_none z nH), upd_ne n]
      exact z
    · by_cases y : b = c'
      · subst y
        exact .inr nH
      · rw [upd_ne y] at z
        exact .inl z
    · rw [Array.toList_append]
      exact PySem.TriplesOk_snoc _ _ _ _ tri
    · rw [Array.toList_append] at z
      rcases LamX.among_app _ tri z with w1 | w1
      · obtain ⟨c0, e1, e2⟩ := known pos' cv w1
        exact ⟨c0, e1, same_laid nG _ _ e2⟩
      · exact ⟨c', w1, upd_same⟩
end
/-! ### contexts whose tables may grow -/
section
variable [TBL] {K : PySem.W.Frag} {C : Ctx} {G H G' H' : Hp} {σ : L2.St} {r : Ev}
/-- all but the table at P has stayed -/
theorem Ok.calmT {P : Addr} {ps : Array Value} (ok : Ok K C G H σ r) (hP : H P = some (.tbl ps)) (mP : P ∈ C.M) (s : Same G G') (k : ∀ b o, b ≠ P → H b = some o → H' b = some o) (s' : Same G' H') (n : ∀ a o, G' a = some o → G a = some o ∨ H a = none) (t : TabsG TBL.T C.M G' H') (hP' : H' P ≠ none) : Ok K C G' H' σ r where
  sub := s'
  g0 := ok.g0.trans s
  gnew := fun a o e => by
    rcases n a o e with e | e
    · exact ok.gnew a o e
    · exact .inr (ok.fresh e).1
  prot := fun a o e hm => k _ _ (fun z => hm (by rw [z]; exact mP)) (ok.prot a o e hm)
  mreal := fun a hm => by
    obtain ⟨h1, h2⟩ := ok.mreal a hm
    refine ⟨?_, ?_⟩
    · by_cases z : a = P
      · rw [z]; exact hP'
      · obtain ⟨o, e⟩ := Option.ne_none_iff_exists'.mp h1
        rw [k _ _ z e]
        exact fun y => nomatch y
    · cases q : G' a with
      | none => rfl
      | some u =>
        rcases n a u q with e | e
        · rw [h2] at e; cases e
        · exact absurd e h1
  len := ok.len
  cell := fun i c e => by
    obtain ⟨v, e1, h⟩ := ok.cell i c e
    have key : ∀ p o, H p = some o → G p = none → (∀ q, o ≠ .tbl q) → H' p = some o ∧ G' p = none := fun p o e2 e3 nt => by
      refine ⟨k _ _ (fun z => ?_) e2, ?_⟩
      · rw [z, hP] at e2
        exact nt ps (Option.some.inj e2).symm
      · cases q : G' p with
        | none => rfl
        | some u =>
          rcases n p u q with e | e
          · rw [e3] at e; cases e
          · rw [e2] at e; cases e
    refine ⟨v, e1, ?_⟩
    cases c with
    | val d => exact Dp.mono s h
    | own ds => obtain ⟨p, vs, rfl, h1, h2, h3, h4⟩ := h; obtain ⟨k1, k2⟩ := key p _ h3 h2 (fun q z => nomatch z); exact ⟨p, vs, rfl, h1, k2, k1, DpAll.mono s h4⟩
    | loan m ds => obtain ⟨p, vs, rfl, h1, h2, h3, h4⟩ := h; obtain ⟨k1, k2⟩ := key p _ h3 h2 (fun q z => nomatch z); exact ⟨p, vs, rfl, h1, k2, k1, DpAll.mono s h4⟩
    | ownD kds => obtain ⟨p, o, ks, rfl, h1, h2, h3, h4⟩ := h; obtain ⟨k1, k2⟩ := key p _ h3 h2 (fun q z => by unfold DicO at z; nomatch z); exact ⟨p, o, ks, rfl, h1, k2, k1, DpKs.mono s h4⟩
    | tag n => exact h
    | fre d => exact DpN.mono s h
    | ownF ds => obtain ⟨p, vs, rfl, h1, h2, h3, h4⟩ := h; obtain ⟨k1, k2⟩ := key p _ h3 h2 (fun q z => nomatch z); exact ⟨p, vs, rfl, h1, k2, k1, DpNAll.mono s h4⟩
  dis := ok.dis
  tabs := t
theorem TabsG.turn {T : List (Addr × Str)} {M : List Addr} {P : Addr} {q : Str} (t : TabsG T M G H) (s : Same G G') (k : ∀ b o, b ≠ P → H b = some o → H' b = some o) (u : ∀ p ∈ T, p.1 = P → p.2 = q) (tb : TabG G' H' P q) : TabsG T M G' H' := fun p hp => by
  obtain ⟨m, ps, h1, h2, h3⟩ := t p hp
  by_cases z : p.1 = P
  · rw [u p hp z, z]
    exact ⟨by rw [← z]; exact m, tb⟩
  · refine ⟨m, ps, k _ _ z h1, h2, fun pos cv e => ?_⟩
    obtain ⟨c, e1, e2⟩ := h3 pos cv e
    exact ⟨c, e1, s _ _ e2⟩
end
/-! ### sorted(xs, key=lambda x: ..) -/
def lKey (dom : D → Bool) (key : D → D) (fa : FE) : FA := fun r => (fa r).bind fun x => match x.1 with
  | .list ds => if ds.all dom = true ∧ ds.length ≤ sizeLine then some (ds.mergeSort (W.dataLe false key), x.2) else none
  | _ => none
@[simp] theorem lKey_r (dom : D → Bool) (key : D → D) (fa : FE) (r : Ev) : lKey dom key fa r = (fa r).bind fun x => match x.1 with
  | .list ds => if ds.all dom = true ∧ ds.length ≤ sizeLine then some (ds.mergeSort (W.dataLe false key), x.2) else none
  | _ => none := rfl
/-- keys that may be compared -/
structure KeyGood (dom : D → Bool) (key : D → D) : Prop where
  alike : ∀ d d', dom d = true → dom d' = true → W.alike (key d) (key d') = true
  sortable : ∀ ds : List D, ds.all dom = true → W.Sortable (ds.map key)
  deep : ∀ d, dom d = true → (key d).depth ≤ 3
  nd : ∀ d, dom d = true → d.hasDict = false
section
variable [TBL] {X : Cx}
theorem sl_sortLam {pp pos lpos kpos : Pos} {a : Expr} {fa : FE} {p : Bool} {params : Arguments} {body : Expr} {scope : Scope} {x q : Str} {c P : Addr} {j : Nat} {dom : D → Bool} {key : D → D} (pl : Pl X) (hr : Room j X.A) (hg : Gl X "sorted") (hm : X.mg "sorted" = none) (ha : SP X p a fa) (kg : KeyGood dom key) (KB : KeyBody X.prog X.w x scope body (fun d => dom d = true) key)
    (TB : LamX.TabB X.base X.mg c P) (code : X.env.code = .ref c) (eq : X.env.qual ++ "<lambda>" = q) (hT : (P, q) ∈ TBL.T) (hu : ∀ z ∈ TBL.T, z.1 = P → z.2 = q) (dflt : defaultsOf params X.env = ([], [])) (free : ∀ y ∈ scope.names, y.2 = .free → ∃ c, X.env.cells.lookup y.1 = some c)
    (hkind : scope.kind = .function) (hco : scope.isCoroutine = false) (hgen : scope.isGenerator = false) (hcell : ∀ y ∈ scope.names, y.2 ≠ .cell) (hloc : scope.names.lookup x = some .local)
    (hbind : ∀ (q : Str) (cl : List (Str × Addr)) (pm cv ctv v : Value), bindArgs (PySem.W.kla_fn "<lambda>" q params body scope cl pm cv ctv) ⟨[v], []⟩ = pure [(x, v)])
    (he0 : starEach [a] X.env = (false, eval a X.env) :: starEach [] X.env := by rfl)
    (he : backTo pos (starEach [a] X.env) = (false, eval a X.env) :: backTo pos (starEach [] X.env) := by rfl) (hpl : (backTo pos (starEach [a] X.env)).any (·.1) = false := by rfl)
    (hall : (backToKw pos (keywordEach [⟨some "key", .Lambda params body scope lpos, kpos⟩] X.env)).all (·.1.isSome) = true := by rfl) (hnone : (backToKw pos (keywordEach [⟨some "key", .Lambda params body scope lpos, kpos⟩] X.env)).any (·.1.isNone) = false := by rfl) (hks : (backToKw pos (keywordEach [⟨some "key", .Lambda params body scope lpos, kpos⟩] X.env)).filterMap (·.1) = [Str.ofString "key"] := by rfl) :
    SL X false (.Call (.Name "sorted" pp) [a] [⟨some "key", .Lambda params body scope lpos, kpos⟩] pos) (lKey dom key fa) := by
  refine ⟨fun pins s σ H Q I ⟨C, G, r, ds, r', ok, hf, k⟩ => ?_⟩
  unfold lKey at hf
  obtain ⟨⟨d0, r1⟩, h1, h2⟩ := Option.bind_eq_some_iff.mp hf
  dsimp only at h2
  split at h2
  case h_2 => cases h2
  rename_i es
  split at h2
  case isFalse => cases h2
  rename_i hes
  obtain ⟨hdom, hlen⟩ := hes
  cases h2
  have dom1 : ∀ d, d ∈ es → dom d = true := fun d hd => List.all_eq_true.mp hdom d hd
  refine wpAny_Call_Name_kw (ld_blt I hg hm (show bootBuiltins "sorted" = some (.builtin "sorted") from by decide +kernel) ?_ (by decide) (by decide))
  refine PyProof.Rows.callWith_kw (thn ((pa_cons ha pa_nil he0).run pos pins s σ H (fun vs H1 => ∃ v G1, vs = [v] ∧ Ok X.K C G1 H1 σ r' ∧ Same G G1 ∧ Pk X.K G1 H1 v (.list es)) I ⟨C, G, r, _, r', ok, h1, fun v G1 H1 o1 s1 _ x1 => ⟨v, G1, rfl, o1, s1, x1⟩⟩) fun us t1 hq => ?_) he hpl hall hnone
  obtain ⟨vs, H1, I1, rv, v, G1, rfl, o1, s1, x1⟩ := hq
  rw [hks]
  obtain ⟨mP, tb⟩ := o1.tabs _ hT
  have gP := (o1.mreal P mP).2
  obtain ⟨l, ws, rfl, hl, hes⟩ := Pk.list o1.sub x1
  obtain ⟨u, eu⟩ : ∃ u, us = [u] := by
    cases rv with
    | cons r rs => cases rs; exact ⟨_, rfl⟩
  subst eu
  have ru : u = .ref l := by
    cases rv with
    | cons r rs => exact r
  subst ru
  obtain ⟨ps, atP, _, _⟩ := id tb
  show wpAny _ _ (evalAll ((do let v ← eval (.Lambda params body scope lpos) X.env; standAt pos; pure v) :: [])) _ _ t1
  refine wpAny_evalAll_cons (wpAny_bind (lam_made I1 TB code eq tb o1.sub gP dflt free fun f c' pm ctv G2 H2 s2 I2 sg2 sub2 k2 n2 tb2 of2 co2 => wpAny_bind (wpAny_standAt (wpAny_pure (wpAny_evalAll_nil ?_)))))
  have o2 : Ok X.K C G2 H2 σ r' := o1.calmT atP mP sg2 k2 sub2 n2 (o1.tabs.turn sg2 k2 hu tb2) (by obtain ⟨ps2, z, _⟩ := tb2; rw [z]; exact fun y => nomatch y)
  have hl2 : SqL X.K H2 l ws := by
    rcases hl with (z | ⟨o, z⟩) | z
    · exact .inl (.inl (k2 _ _ (fun y => by rw [y, atP] at z; cases z) z))
    · exact .inl (.inr ⟨o, k2 _ _ (fun y => by rw [y, atP] at z; cases z) z⟩)
    · exact .inr z
  have hes2 := DpAll.mono sg2 hes
  obtain ⟨its, rvi, pl2, hz⟩ := I2.list hl2
  have rd : ∀ (ys : List V) (ds : List D) (us : List Value), DpAll X.K G2 ys ds → Vals ys us → (∀ d, d ∈ ds → dom d = true) → W.EachIs (fun v d => (∃ x, RelV x v ∧ Dp X.K G2 x d) ∧ ∃ as, Reads s2.heap v d as) us ds := by
    intro ys ds us hd hr
    induction hr generalizing ds with
    | nil => cases hd; exact fun _ => .nil
    | cons e1 _ ih =>
      cases hd with
      | cons d1 d2 =>
        intro hh
        refine .cons ⟨⟨_, e1, d1⟩, ?_⟩ (ih _ d2 fun d hd => hh d (List.mem_cons_of_mem _ hd))
        exact L2.Dp.reads I2 _ _ _ ((Dp.mono sub2 d1).toL (kg.nd _ (hh _ List.mem_cons_self))) e1
  have hc2 : ∃ (oc : Obj) (vs : Array Value) (t : Tok), s2.heap.get? c' = some oc ∧ oc.data = .fields vs ∧ vs[1]? = some (.str q t) := (I2.hok c' _ (sub2 _ _ co2)).1
  have hun := pl.units
  show wpAny _ _ (call (.builtin "sorted") [.ref l] [(Str.ofString "key", .ref f)]) _ _ s2
  refine W.sorted_key_data (b := false) (R := fun v d => (∃ x, RelV x v ∧ Dp X.K G2 x d) ∧ ∃ as, Reads s2.heap v d as) key (bs := es) pl2.isList (rd ws es its hes2 rvi dom1) (fun d hd d' hd' => ?_) (kg.sortable es hdom) hlen (fun d hd => ?_) (ksk_s1 _ _) (fun _ => ksk_l1 _ _) (fun _ => ksk_t1 _ _) (fun v d hR hd h tk kp => ?_) fun out cc h3 tk kp nd at3 ol eo => ?_
  · obtain ⟨b1, m1, rfl⟩ := List.mem_map.mp hd
    obtain ⟨b2, m2, rfl⟩ := List.mem_map.mp hd'
    exact kg.alike _ _ (dom1 _ m1) (dom1 _ m2)
  · have := kg.deep d (dom1 d hd)
    show X.A.units + 2 + _ < _
    omega
  · obtain ⟨_, as, rds⟩ := hR
    obtain ⟨oc, vs, t, z1, z2, z3⟩ := hc2
    exact lam_turn (s := { s2 with heap := h, toks := tk }) hkind hco hgen hcell hloc KB (fun v => hbind _ _ _ _ _ v) (by have := hr.depth; exact this) (kp _ _ of2) ⟨c', oc, vs, t, rfl, kp _ _ z1, z2, by rw [eq]; exact z3⟩ (I2.nolimit.keeps kp) (dom1 d hd) (PyProof.Rows.Reads.keeps kp rds)
  · obtain ⟨zs, z1, z2⟩ := dp_each (eo.mono fun _ _ z => z.1)
    have hn : H2 (s2.heap.objs.size + 1) = Option.none := I2.hok.fresh (Nat.le_succ _)
    obtain ⟨o4, n4⟩ := o2.newList (vs := zs) hn
    refine ⟨.ref (s2.heap.objs.size + 1), upd H2 (s2.heap.objs.size + 1) (.lst zs), (I2.laid (h' := h3) (t' := tk) kp (Nat.le_succ _) ⟨by rw [Vals.length z2, ol]; exact hlen, out, cc, z2, at3⟩), rfl, ?_⟩
    exact k _ zs G2 _ o4 (s1.trans sg2) (fun y => nomatch y) n4 z1
end
end SL
/-! Defs that make lambdas: promises, calls, the law's start with tables. -/
namespace SL
open PySem PySem.Spec PyProof.Rows L2
/-! ### rows of two whole numbers by (r[1], -r[0]) -/
def rowB : D → Bool
  | .tuple [.int _, .int _] => true
  | _ => false
def rowK : D → D
  | .tuple [.int a, .int b] => .tuple [.int b, .int (-a)]
  | d => d
theorem rowB_some {d : D} (h : rowB d = true) : ∃ a b : Int, d = .tuple [.int a, .int b] := by
  unfold rowB at h
  split at h
  · exact ⟨_, _, rfl⟩
  · cases h
theorem rows_good : KeyGood rowB rowK where
  alike := fun d d' h h' => by
    obtain ⟨a, b, rfl⟩ := rowB_some h
    obtain ⟨a', b', rfl⟩ := rowB_some h'
    simp [rowK, W.alike, W.alikeAll]
  sortable := fun ds h => .inl fun e he => by
    obtain ⟨d, hd, rfl⟩ := List.mem_map.mp he
    obtain ⟨a, b, rfl⟩ := rowB_some (List.all_eq_true.mp h d hd)
    exact ⟨_, _, rfl⟩
  deep := fun d h => by
    obtain ⟨a, b, rfl⟩ := rowB_some h
    simp [rowK, PyData.depth, PyData.depthAll]
  nd := fun d h => by
    obtain ⟨a, b, rfl⟩ := rowB_some h
    simp [PyData.hasDict, PyData.hasDictAll]
theorem rows_body {prog : Program} {w : World} {x : Str} {scope : Scope} {p1 p2 p3 p4 p5 p6 p7 p8 : Pos} {j1 j2 j3 : Nat} (hk : scope.kind = .function) (hl : scope.names.lookup x = some .local) (hd : (x == ("__debug__" : Str)) = false) :
    KeyBody prog w x scope (.Tuple [.Subscript (.Name x p1) (.Constant (.int 1) j1 p2) p3, .UnaryOp .USub (.Subscript (.Name x p4) (.Constant (.int 0) j2 p5) p6) p7] j3 p8) (fun d => rowB d = true) rowK := by
  intro A s env m d as v es hn hm hdom rd
  obtain ⟨a, b, rfl⟩ := rowB_some hdom
  subst es
  cases rd with
  | tuple h1 h2 h3 h4 =>
    rename_i t o vs n
    obtain ⟨l⟩ := vs
    have h4' : ReadsAll s.heap l [.int a, .int b] as := h4
    cases h4' with
    | cons r1 r2 =>
      cases r1
      cases r2 with
      | cons r3 r4 =>
        cases r3
        cases r4
        exact key_body hk hl hn hm ⟨o, h1, h2, n, h3⟩ (by simp) hd
/-! ### promises -/
def TabsT (T : List (Addr × Str)) (G H : Hp) : Prop := ∀ p ∈ T, G p.1 = none ∧ TabG G H p.1 p.2
section
variable [TBL]
def BackT (K : PySem.W.Frag) (G H : Hp) (G' H' : Hp) : Prop := Same G G' ∧ (∀ a o, a ∉ TBL.T.map (·.1) → H a = some o → H' a = some o) ∧ Same G' H' ∧ (∀ a o, G' a = some o → G a = some o ∨ H a = none) ∧ TabsT TBL.T G' H'
def spPL (K : PySem.W.Frag) (n : Nat) (fn : List D → Option D) : Sp := fun vs H Q E => ∃ G ds d, Same G H ∧ TabsT TBL.T G H ∧ DpAll K G vs ds ∧ vs.length = n ∧ fn ds = some d ∧ ∀ v G' H', BackT K G H G' H' → Dp K G' v d → Q v H'
def spOL (K : PySem.W.Frag) (n : Nat) (fn : List D → Option (List D)) : Sp := fun vs H Q E => ∃ G ds d, Same G H ∧ TabsT TBL.T G H ∧ DpAll K G vs ds ∧ vs.length = n ∧ fn ds = some d ∧ ∀ p vs G' H', BackT K G H G' H' → H p = none → G' p = none → H' p = some (.lst vs) → DpAll K G' vs d → Q (.ref p) H'
section
variable {K : PySem.W.Frag} {C : Ctx} {G H G' H' : Hp} {σ : L2.St} {r : Ev}
theorem Ok.startT {N : List Str} {ds : List D} {vs : List V} (s : Same G H) (t : TabsT TBL.T G H) (h : DpAll K G vs ds) (hl : ds.length ≤ N.length) : Ok K { P := H, G0 := G, M := TBL.T.map (·.1) } G H (L2.start N vs) (startE N.length ds) where
  sub := s
  g0 := Same.refl _
  gnew := fun a o e => .inl e
  prot := fun a o e _ => e
  mreal := fun a hm => by
    obtain ⟨p, hp, rfl⟩ := List.mem_map.mp hm
    obtain ⟨h1, ps, h2, _⟩ := t p hp
    exact ⟨by rw [h2]; exact (fun z => by cases z), h1⟩
  len := by
    unfold startE L2.start
    rw [List.length_append, List.length_map, List.length_replicate, List.length_append, List.length_map, List.length_replicate, DpAll.length h]
  cell := fun i c e => by
    obtain ⟨d, v, rfl, h1, h2⟩ := start_get (N := N) h e
    exact ⟨v, h1, h2⟩
  dis := fun i j c c' e1 _ o1 _ => by
    obtain ⟨d, v, rfl, _⟩ := start_get (N := N) h e1
    cases o1
  tabs := fun p hp => ⟨List.mem_map_of_mem hp, (t p hp).2⟩
theorem Ok.tabsT {P G0 : Hp} (ok : Ok K { P := P, G0 := G0, M := TBL.T.map (·.1) } G H σ r) : TabsT TBL.T G H := fun p hp => by
  obtain ⟨m, t⟩ := ok.tabs p hp
  exact ⟨(ok.mreal _ m).2, t⟩
theorem Ok.outT {G0 : Hp} (ok : Ok K { P := H, G0 := G0, M := TBL.T.map (·.1) } G' H' σ r) (s : Same G0 G') : BackT K G0 H G' H' := ⟨s, fun a o hm e => ok.prot a o e hm, ok.sub, ok.gnew, ok.tabsT⟩
/-- behind a call of a def whose tables may grow -/
theorem Ok.calmL (ok : Ok K C G H σ r) (b : BackT K G H G' H') : Ok K C G' H' σ r := by
  obtain ⟨s, k, s', n, t⟩ := b
  have inM : ∀ a, a ∈ TBL.T.map (·.1) → a ∈ C.M ∧ ∃ ps, H a = some (.tbl ps) := fun a ha => by
    obtain ⟨p, hp, rfl⟩ := List.mem_map.mp ha
    obtain ⟨m, ps, h, _⟩ := ok.tabs p hp
    exact ⟨m, ps, h⟩
  have key : ∀ p o, H p = some o → G p = none → (∀ q, o ≠ .tbl q) → H' p = some o ∧ G' p = none := fun p o e2 e3 nt => by
    refine ⟨k _ _ (fun z => ?_) e2, ?_⟩
    · obtain ⟨_, ps, h⟩ := inM p z
      rw [e2] at h
      exact nt ps (Option.some.inj h)
    · cases q : G' p with
      | none => rfl
      | some u =>
        rcases n p u q with e | e
        · rw [e3] at e; cases e
        · rw [e2] at e; cases e
  refine ⟨s', ok.g0.trans s, fun a o e => ?_, fun a o e hm => k _ _ (fun z => hm (inM a z).1) (ok.prot a o e hm), fun a hm => ?_, ok.len, fun i c e => ?_, ok.dis, fun p hp => ⟨(ok.tabs p hp).1, (t p hp).2⟩⟩
  · rcases n a o e with e | e
    · exact ok.gnew a o e
    · exact .inr (ok.fresh e).1
  · obtain ⟨h1, h2⟩ := ok.mreal a hm
    refine ⟨?_, ?_⟩
    · by_cases z : a ∈ TBL.T.map (·.1)
      · obtain ⟨p, hp, rfl⟩ := List.mem_map.mp z
        obtain ⟨_, ps, h, _⟩ := t p hp
        rw [h]
        exact fun y => nomatch y
      · obtain ⟨o, e⟩ := Option.ne_none_iff_exists'.mp h1
        rw [k _ _ z e]
        exact fun y => nomatch y
    · cases q : G' a with
      | none => rfl
      | some u =>
        rcases n a u q with e | e
        · rw [h2] at e; cases e
        · exact absurd e h1
  · obtain ⟨v, e1, h⟩ := ok.cell i c e
    refine ⟨v, e1, ?_⟩
    cases c with
    | val d => exact Dp.mono s h
    | own ds => obtain ⟨p, vs, rfl, h1, h2, h3, h4⟩ := h; obtain ⟨k1, k2⟩ := key p _ h3 h2 (fun q z => nomatch z); exact ⟨p, vs, rfl, h1, k2, k1, DpAll.mono s h4⟩
    | loan m ds => obtain ⟨p, vs, rfl, h1, h2, h3, h4⟩ := h; obtain ⟨k1, k2⟩ := key p _ h3 h2 (fun q z => nomatch z); exact ⟨p, vs, rfl, h1, k2, k1, DpAll.mono s h4⟩
    | ownD kds => obtain ⟨p, o, ks, rfl, h1, h2, h3, h4⟩ := h; obtain ⟨k1, k2⟩ := key p _ h3 h2 (fun q z => by unfold DicO at z; nomatch z); exact ⟨p, o, ks, rfl, h1, k2, k1, DpKs.mono s h4⟩
    | tag n => exact h
    | fre d => exact DpN.mono s h
    | ownF ds => obtain ⟨p, vs, rfl, h1, h2, h3, h4⟩ := h; obtain ⟨k1, k2⟩ := key p _ h3 h2 (fun q z => nomatch z); exact ⟨p, vs, rfl, h1, k2, k1, DpNAll.mono s h4⟩
end
/-! ### from a body to its promise, where the code object is known -/
section
variable {P : Program} {w : World} {K : PySem.W.Frag} {mg : Str → Option Value} {base : Heap} {k : Nat} {f : Addr} {fd : FuncData} {ps : List Str} {x qual : Str} {params : Arguments} {body : List Stmt} {scope : Scope} {dvs : List V} {kws : List (Str × V)} {N : List Str} {F : FS} {sp : Sp}
omit [TBL] in
/-- a def's body keeps its promise; its code object is the one that the fragment tells -/
theorem FnG.ofCode {p0 : Str × Option Str} (DF : FunD K x qual params body scope dvs kws f fd) (hf : f = He.fAd K p0) (S : FnScope N ps scope) (len : ∀ vs H Q E, sp vs H Q E → vs.length = ps.length)
    (hbody : ∀ (A : Around) (out : List PySem.Env) (s : Shared) (H : Hp) (vs : List V) (Q : VK) (E : XK), Room k (A.deeper (envOfC qual scope s.heap.objs.size f (.ref (He.codeOf K p0)))) → A.guards = some [] → sp vs H Q E →
      ∃ t, PSs (cxOf CX0 P w K mg base N qual scope f (.ref (He.codeOf K p0)) A out s H E) body t ∧ t { nx := fun _ H' => Q .non H', rt := Q } (start N vs) H) : FnG P w K mg base CX0 (k + 1) f fd ps sp := by
  obtain ⟨oc, od, dV, kV, doc, pm, an, cv, ct, osl, efd, lk, hcd, _, _⟩ := DF.ex
  have code : cv = .ref (He.codeOf K p0) := by
    obtain ⟨c, ec⟩ := He.codeIn_ref hcd
    rw [ec, He.codeOf_eq (K := K) (p := p0) (c := c) (by rw [← hf]; exact lk) (by rw [efd]; exact ec)]
  subst code
  subst efd
  refine ⟨len, fun A out s H as us vs Q E hr hg e0 hb rv q => ?_⟩
  have inK : K.In s.heap := e0.mod.kin.keeps fun b o z => (e0.bs b o z).1
  have lim : s.heap.NoLimit := e0.mod.nolimit.keeps fun b o z => (e0.bs b o z).1
  refine codeAny_call_function hr.depth (inK _ _ lk) rfl S.co S.gen rfl (PySem.W.codeRec_of inK hcd) (hb _ _ _ _ ?_)
  refine wpAny_newFunctionEnv_cells S.kind (fun y hy => ?_) fun env ee s1 ic => ?_
  · rcases S.par y.1 (List.of_mem_zip hy).1 with z | z
    · exact .inl z
    · exact .inr ⟨z, PySem.W.cellsFrom_some _ _ _ (.inl z)⟩
  · subst ee
    obtain ⟨t, ht, hq⟩ := hbody A out s H vs Q E (hr.deeper _) hg q
    have J := inv_start (CX := CX0) (E := E) S hr.hd e0 (len _ _ _ _ q) rv ic
    refine ⟨lim.keeps ic.toInCall.keep, codeAny_func (wpAny_mono (ht.run [] s1 (start N vs) H _ J hq) (fun fl s' hs => ?_) fun _ _ z => z)⟩
    cases fl with
    | ret u => obtain ⟨v2, _, H2, J2, r2, z⟩ := hs; exact ⟨v2, H2, J2.os, J2.bare, J2.base, J2.hok, r2, z⟩
    | next => obtain ⟨_, H2, J2, z⟩ := hs; exact ⟨.non, H2, J2.os, J2.bare, J2.base, J2.hok, rfl, z⟩
    | brk => exact hs.choose_spec.choose_spec.2.elim
    | cont => exact hs.choose_spec.choose_spec.2.elim
abbrev BodyOkT (P : Program) (w : World) (K : PySem.W.Frag) (mg : Str → Option Value) (base : Heap) (k : Nat) (N : List Str) (qual : Str) (scope : Scope) (f : Addr) (cv : Value) (body : List Stmt) (F : FS) : Prop :=
  ∀ (A : Around) (out : List PySem.Env) (s : Shared) (H : Hp) (E : XK), Pl (At P w K mg base N qual scope f cv A out s H E) → Room k (At P w K mg base N qual scope f cv A out s H E).A → SSs (At P w K mg base N qual scope f cv A out s H E) body F
/-- a value -/
theorem FnG.pureT {p0 : Str × Option Str} (DF : FunD K x qual params body scope dvs kws f fd) (hf : f = He.fAd K p0) (S : FnScope N ps scope) (h : BodyOkT P w K mg base k N qual scope f (.ref (He.codeOf K p0)) body F) : FnG P w K mg base CX0 (k + 1) f fd ps (spPL K ps.length (runP N.length F)) := by
  refine FnG.ofCode DF hf S (fun vs H Q E ⟨G, ds, d, _, _, _, h, _⟩ => h) fun A out s H vs Q E hr hg ⟨G, ds, d, s0, t0, h0, hl, hf, bk⟩ => ⟨_, (h A out s H E (pl_at S.nd hr hg) hr).nox, ?_⟩
  have hz : ds.length ≤ N.length := by rw [← DpAll.length h0, hl]; exact len_ps S
  unfold runP at hf
  cases hF : F (startE N.length ds) with
  | none => rw [hF] at hf; cases hf
  | some o =>
    rw [hF] at hf
    refine ⟨{ P := H, G0 := G, M := TBL.T.map (·.1) }, G, _, o, Ok.startT s0 t0 h0 hz, hF, ?_⟩
    cases o with
    | rt d' r => cases hf; exact fun v σ' G' H' ok s1 hv => bk v G' H' (ok.outT s1) hv
    | nx r => cases hf; exact fun σ' G' H' ok s1 => bk _ G' H' (ok.outT s1) .non
    | rtN d' r => cases hf; exact fun v σ' G' H' ok s1 hv => bk v G' H' (ok.outT s1) hv.dp
    | bk => cases hf
    | ct => cases hf
    | rtO xs r =>
      cases hf
      intro p vs σ' G' H' ok s1 hP hM hG hH hv
      have sm : Same G' (upd G' p (.lst vs)) := same_laid hG
      obtain ⟨_, b2, b3, b4, b5⟩ := ok.outT s1
      refine bk _ (upd G' p (.lst vs)) H' ⟨s1.trans sm, b2, fun a u e => ?_, fun a u e => ?_, fun z hz => ?_⟩ (.lst (.inl (.inl upd_same)) (DpAll.mono sm hv))
      · by_cases z : a = p
        · subst z; rw [upd_same] at e; cases e; exact hH
        · rw [upd_ne z] at e; exact b3 _ _ e
      · by_cases z : a = p
        · subst z; exact .inr hP
        · rw [upd_ne z] at e; exact b4 _ _ e
      · obtain ⟨c1, qs, c2, c3, c4⟩ := b5 z hz
        refine ⟨?_, qs, c2, c3, fun pos cv e => ?_⟩
        · rw [upd_ne (fun y => by rw [y, hH] at c2; cases c2)]
          exact c1
        · obtain ⟨c, e1, e2⟩ := c4 pos cv e
          exact ⟨c, e1, sm _ _ e2⟩
/-- a list of one's own -/
theorem FnG.ownT {p0 : Str × Option Str} (DF : FunD K x qual params body scope dvs kws f fd) (hf : f = He.fAd K p0) (S : FnScope N ps scope) (h : BodyOkT P w K mg base k N qual scope f (.ref (He.codeOf K p0)) body F) : FnG P w K mg base CX0 (k + 1) f fd ps (spOL K ps.length (runO N.length F)) := by
  refine FnG.ofCode DF hf S (fun vs H Q E ⟨G, ds, d, _, _, _, h, _⟩ => h) fun A out s H vs Q E hr hg ⟨G, ds, d, s0, t0, h0, hl, hf, bk⟩ => ⟨_, (h A out s H E (pl_at S.nd hr hg) hr).nox, ?_⟩
  have hz : ds.length ≤ N.length := by rw [← DpAll.length h0, hl]; exact len_ps S
  unfold runO at hf
  cases hF : F (startE N.length ds) with
  | none => rw [hF] at hf; cases hf
  | some o =>
    rw [hF] at hf
    refine ⟨{ P := H, G0 := G, M := TBL.T.map (·.1) }, G, _, o, Ok.startT s0 t0 h0 hz, hF, ?_⟩
    cases o with
    | rtO xs r => cases hf; exact fun p vs σ' G' H' ok s1 hP hM hG hH hv => bk p vs G' H' (ok.outT s1) hP hG hH hv
    | rt => cases hf
    | rtN => cases hf
    | nx => cases hf
    | bk => cases hf
    | ct => cases hf
end
section
variable {X : Cx} {k : Nat} {f : Addr} {fd : FuncData} {ps : List Str} {x : Str} {p : Bool} {pp pos : Pos} {e : Expr} {es : List Expr} {g : FA} {n : Nat}
theorem sl_callT {fn : List D → Option (List D)} (F : FnG X.prog X.w X.K X.mg X.base CX0 k f fd ps (spOL X.K n fn)) (pl : Pl X) (hr : Room k X.A) (hg : Gl X x) (hm : X.mg x = some (.ref f)) (hk : PySem.W.keepIn X.K (.ref f) = true) (hb : Binds X.K fd ps []) (ha : SA X p (e :: es) g) (hlen : ∀ r ds r', g r = some (ds, r') → ds.length = n)
    (hdb : (x == ("__debug__" : Str)) = false := by decide) (he : starEach (e :: es) X.env = (false, eval e X.env) :: starEach es X.env := by rfl) (hpl : (backTo pos (starEach es X.env)).any (·.1) = false := by rfl) :
    SL X false (.Call (.Name x pp) (e :: es) [] pos) (lCall fn g) := PE.weak (pe_callG (dvs := []) F hr pl.guards hg hm hk hb .nil pass0 ha hdb he hpl) fun σ H Q ⟨C, G, r, d, r', ok, hf, kk⟩ => by
  unfold lCall at hf
  obtain ⟨⟨ds, r1⟩, h1, h2⟩ := Option.bind_eq_some_iff.mp hf
  obtain ⟨d', h3, h4⟩ := Option.map_eq_some_iff.mp h2
  cases h4
  refine ⟨C, G, r, ds, _, ok, h1, fun vs G1 H1 o1 s1 m1 x1 => ⟨G1, ds, _, o1.sub, fun z hz => ⟨(o1.mreal _ (o1.tabs z hz).1).2, (o1.tabs z hz).2⟩, by rw [List.append_nil]; exact x1, ?_, h3, fun l ws G2 H2 b hl hG2 hH2 hd => ?_⟩⟩
  · rw [List.append_nil, DpAll.length x1, hlen _ _ _ h1]
  · exact kk l ws G2 H2 (o1.calmL b) (s1.trans b.1) (fun m => nomatch m) ⟨(o1.fresh hl).1, (o1.fresh hl).2.1, hG2, hH2, fun i c e o => o1.ne_of_fresh hl e o⟩ hd
end
end
/-! ### the law's own call -/
/-- the tables, empty, beside another heap -/
def withTabs (ts : List Addr) (H : Hp) : Hp := fun b => if b ∈ ts then some (.tbl #[]) else H b
theorem withTabs_some {ts : List Addr} {H : Hp} {b : Addr} {u : HO} (h : withTabs ts H b = some u) : (b ∈ ts ∧ u = .tbl #[]) ∨ (b ∉ ts ∧ H b = some u) := by
  unfold withTabs at h
  by_cases z : b ∈ ts
  · rw [if_pos z] at h; cases h; exact .inl ⟨z, rfl⟩
  · rw [if_neg z] at h; exact .inr ⟨z, h⟩
section
variable [TBL] {P : Program} {w : World} {K : PySem.W.Frag} {mg mb : Str → Option Value} {k : Nat} {fa a : Addr} {fd : FuncData} {x : Str} {fn : List D → Option D} {s1 : Shared} {vs : List Value} {ns : List Int} {cs : List (Addr × Addr)}
theorem law_callT (KX : K.In s1.heap) (hns : s1.heap.Ns mainGlobals mg) (hb : s1.heap.Ns builtinsNs mb) (hbb : ∀ x : Str, x ≠ "__name__" → mb x = bootBuiltins x) (hlim : s1.heap.NoLimit) (hg : s1.gens = #[])
    (tabs : ∀ p ∈ cs, s1.heap.get? p.2 = some { cls := .none, data := .fields #[] }) (outK : ∀ p ∈ cs, K.lookup p.2 = none) (heads : ∀ p ∈ cs, PySem.W.CodeHd s1.heap p.1 p.2) (hT : TBL.T.map (·.1) = cs.map (·.2))
    (bm : ∃ (bm : Addr) (ob : Obj), mg "__builtins__" = some (.ref bm) ∧ bm ≠ builtinsNs ∧ s1.heap.get? bm = some ob ∧ ob.cls = .type "module" ∧ ob.dict = some builtinsNs ∧ ob.data = .plain)
    (ha : s1.heap.get? a = some { cls := .type "list", data := .seq vs.toArray }) (hi : IntsAre vs ns) (hl : ns.length ≤ sizeLine) (hr : Room k callerA)
    (F : ∀ base : Heap, K.In base → base.Ns mainGlobals mg → (∀ p ∈ cs, LamX.TabB base mg p.1 p.2) → FnG P w K mg base CX0 k fa fd [x] (spPL K 1 fn)) (hbind : ∀ (s : Shared) (u : Value), BindsTo s fd ⟨[u], []⟩ [(x, u)]) (hfn : fn [.list (ns.map .int)] = some (.bool true)) :
    codeAny (model P w) callerA (.call (.ref fa) ⟨[.ref a], []⟩) (fun r s' => r = .ok (.ret (.bool true)) ∧ OldK s1.heap s'.heap ∧ s'.os = s1.os ∧ AllBare s'.gens) s1 := by
  generalize ho : ({ cls := .type "list", data := .seq vs.toArray } : Obj) = o at ha
  generalize hyes : (K.lookup a).isNone = yes
  generalize hts : cs.map (·.2) = ts at hT
  have rv : Vals (ns.map V.int) vs := vals_ints hi
  have isT : ∀ b, b ∈ ts → s1.heap.get? b = some { cls := .none, data := .fields #[] } ∧ K.lookup b = none := fun b h => by
    rw [← hts] at h
    obtain ⟨p, hp, rfl⟩ := List.mem_map.mp h
    exact ⟨tabs p hp, outK p hp⟩
  have aT : a ∉ ts := fun z => by
    have e := (isT a z).1
    rw [ha, ← ho] at e
    cases e
  obtain ⟨G, hG⟩ : ∃ G, G = onlyAt a o (ns.map V.int) yes := ⟨_, rfl⟩
  obtain ⟨H, hH⟩ : ∃ H, H = withTabs ts G := ⟨_, rfl⟩
  have Gs : ∀ {b : Addr} {u : HO}, G b = some u → b = a ∧ K.lookup a = none ∧ u = .frz o (.lst (ns.map V.int)) := fun {b u} e => by
    rw [hG] at e
    obtain ⟨e1, e2, e3⟩ := onlyAt_some e
    rw [← hyes] at e2
    exact ⟨e1, Option.isNone_iff_eq_none.mp e2, e3⟩
  have HT : ∀ b, b ∈ ts → H b = some (.tbl #[]) := fun b h => by rw [hH]; exact if_pos h
  have HG : ∀ b, b ∉ ts → H b = G b := fun b h => by rw [hH]; exact if_neg h
  have sub : Same G H := fun b u e => by
    rw [HG b (fun z => by obtain ⟨e1, _⟩ := Gs e; rw [e1] at z; exact aT z)]
    exact e
  have ok : HOk P w H s1.heap := fun b u e => by
    rw [hH] at e
    rcases withTabs_some e with ⟨h1, rfl⟩ | ⟨_, h2⟩
    · exact (isT b h1).1
    · obtain ⟨rfl, _, rfl⟩ := Gs h2
      exact ⟨ha, by rw [List.length_map]; exact hl, vs, _, rv, by rw [ha, ← ho]⟩
  have sqG : SqL K G a (ns.map V.int) := by
    cases q : K.lookup a with
    | none =>
      refine .inl (.inr ⟨o, ?_⟩)
      rw [hG]
      exact if_pos ⟨rfl, by rw [← hyes, q]; rfl⟩
    | some o2 =>
      have e2 := KX a o2 q
      rw [ha] at e2
      cases e2
      refine .inr ⟨o, vs.toArray, 0, q, ?_, ?_, ?_, ?_, ?_⟩
      · rw [← ho]
      · rw [← ho]
      · rw [← ho]
      · rw [List.size_toArray, ← Vals.length rv, List.length_map]; exact hl
      · simpa using rv
  -- what is tracked: a list and the tables alone
  have free : ∀ {b : Addr} {u : Obj}, s1.heap.get? b = some u → u ≠ { cls := .none, data := .fields #[] } → (∀ es n, u.data ≠ .seq es n) → H b = none := fun {b u} e n1 n2 => by
    cases q : H b with
    | none => rfl
    | some z =>
      rw [hH] at q
      rcases withTabs_some q with ⟨h1, _⟩ | ⟨_, h2⟩
      · rw [(isT b h1).1] at e
        cases e
        exact absurd rfl n1
      · obtain ⟨rfl, _, _⟩ := Gs h2
        rw [ha] at e
        cases e
        exact absurd (by rw [← ho]) (n2 vs.toArray 0)
  have freeD : ∀ {b : Addr} {u : Obj} {es : Array DictEntry} {ep : Nat}, s1.heap.get? b = some u → u.data = .dict es ep → H b = none := fun e d => free e (fun z => by rw [z] at d; cases d) fun _ _ z => by rw [d] at z; cases z
  have nss : ∀ {b : Addr} {m : Str → Option Value}, s1.heap.Ns b m → (hidT s1.heap H).Ns b m := fun {b m} ⟨u, es, ep, e, d, r⟩ => ⟨u, es, ep, hidT_get e (freeD e d), d, r⟩
  have kin : K.In (hidT s1.heap H) := fun b u e => hidT_get (KX b u e) (by
    cases q : H b with
    | none => rfl
    | some z =>
      rw [hH] at q
      rcases withTabs_some q with ⟨h1, _⟩ | ⟨_, h2⟩
      · rw [(isT b h1).2] at e; cases e
      · obtain ⟨rfl, n, _⟩ := Gs h2
        rw [n] at e; cases e)
  have md : Mod K mg (hidT s1.heap H) := ⟨kin, nss hns, ⟨mb, nss hb, hbb⟩, let ⟨mc, z1, z2⟩ := hlim; ⟨mc, nss z1, z2⟩⟩
  have glob : ∀ {b : Addr} {u : Obj}, s1.heap.get? b = some u → (∀ es ep, u.data ≠ .dict es ep) → b ≠ mainGlobals := fun {b u} e d z => by
    obtain ⟨v, es, ep, e2, d2, _⟩ := hns
    rw [z, e2] at e
    cases e
    exact d _ _ d2
  have tb : ∀ p ∈ cs, LamX.TabB (hidT s1.heap H) mg p.1 p.2 := fun p hp => by
    refine ⟨?_, ?_, fun z => ?_⟩
    · obtain ⟨u, us, f1, f2, f3, f4, f5, f6, f7, e1, q1, q2, q3, rest⟩ := heads p hp
      exact ⟨u, us, f1, f2, f3, f4, f5, f6, f7, hidT_get e1 (free e1 (fun z => by rw [z] at q2; cases q2; simp at q3) fun _ _ z => by rw [q2] at z; cases z), q1, q2, q3, rest⟩
    · obtain ⟨m, u, b1, b2, b3, b4, b5, b6⟩ := bm
      refine ⟨m, u, b1, b2, glob b3 (fun _ _ z => by rw [b6] at z; cases z), fun z => ?_, hidT_get b3 (free b3 (fun z => by rw [z] at b6; cases b6) fun _ _ z => by rw [b6] at z; cases z), b4, b5, b6⟩
      rw [z, tabs p hp] at b3
      cases b3
      cases b6
    · exact glob (tabs p hp) (fun _ _ y => by cases y) z.symm
  have e0 : Env0 P w K mg (hidT s1.heap H) callerA [] s1 H := ⟨rfl, md, fun b u e => of_hidT e, Nat.le_of_eq (hidT_size _ _), trivial, fun b z => (by cases z), ok, .of_eq hg⟩
  have sp : spPL K 1 fn [.ref a] H (fun v _ => v = .bl true) (fun _ _ _ => False) := by
    refine ⟨G, [.list (ns.map .int)], .bool true, sub, fun p hp => ?_, .cons (.lst sqG (SL.DpAll.ofInts ns)) .nil, rfl, hfn, fun v G' H' _ hv => by cases hv; rfl⟩
    have hm : p.1 ∈ ts := by rw [← hT]; exact List.mem_map_of_mem hp
    refine ⟨?_, #[], HT _ hm, True.intro, fun pos cv z => by simp [codeAmong] at z⟩
    cases q : G p.1 with
    | none => rfl
    | some u => obtain ⟨e1, _⟩ := Gs q; rw [e1] at hm; exact absurd hm aT
  apply codeAny_mono ((F _ kin (nss hns) tb).run callerA [] s1 H ⟨[.ref a], []⟩ [.ref a] [.ref a] _ _ hr rfl e0 (hbind s1 (.ref a)) (.cons rfl .nil) sp)
  intro r s' h
  cases r with
  | error e => exact h.elim
  | ok fl =>
    cases fl with
    | next => cases h
    | brk => cases h
    | cont => cases h
    | ret u =>
      obtain ⟨v, H2, os, bare, un, ok2, r2, q⟩ := h
      have q2 : v = .bl true := q
      subst q2
      have r3 : u = Value.bool true := r2
      subst r3
      have stay : ∀ b u, b ∉ ts → s1.heap.get? b = some u → s'.heap.get? b = some u := fun b u nb e => by
        cases q : H b with
        | none => exact un.keep b u e q (fun z => by cases z) (fun z => by cases z)
        | some z =>
          rw [HG b nb] at q
          obtain ⟨rfl, n, rfl⟩ := Gs q
          rw [ha] at e
          cases e
          exact (ok2 b _ (un.frzs b _ _ ((HG b nb).trans q))).1
      have grew : ∀ b, b ∈ ts → ∃ more : Array Value, s'.heap.get? b = some { cls := .none, data := .fields more } := fun b hb => by
        obtain ⟨more, z⟩ := un.tbls b #[] (HT b hb)
        exact ⟨_, ok2 b _ z⟩
      refine ⟨rfl, ⟨fun b u e => ?_, fun b u e => ?_⟩, os, bare⟩
      · by_cases hb : b ∈ ts
        · obtain ⟨more, z⟩ := grew b hb
          rw [(isT b hb).1] at e
          cases e
          have hb' : b ∈ cs.map (·.2) := by rw [hts]; exact hb
          obtain ⟨p, hp, rfl⟩ := List.mem_map.mp hb'
          exact .inr (.inl ⟨((heads p hp).tab (tabs p hp)).isCodeTable, rfl, #[], more, rfl, by rw [Array.empty_append]; exact z⟩)
        · exact .inl (stay b u hb e)
      · by_cases hb : b ∈ ts
        · obtain ⟨more, z⟩ := grew b hb
          exact ⟨_, z⟩
        · exact ⟨u, stay b u hb e⟩
end
/-- the goal behind the head, where the law makes lambdas -/
theorem walkT {l : PySem.W.OpenLaw} {n k : Nat} {q : Program} {loose : List Str} {XP : (Str → Option Value) → Heap → Prop} {YP : World → Heap → Prop} {d : DefRec} {x : Str} {fn : List D → Option D}
    (hn : l.most = some n) (hn2 : n ≤ sizeLine) (hdf : d.params.defaults = []) (hr : Room k callerA)
    (F : ∀ (v : World) (nm : Str → Option Value) (fa : Addr) (h : Heap), YP v h → h.Ns mainGlobals nm → nm d.name = some (.ref fa) →
      ∃ (K : PySem.W.Frag) (fd : FuncData) (cs : List (Addr × Addr)) (tb : TBL), K.In h ∧ (∀ (s : Shared) (u : Value), BindsTo s fd ⟨[u], []⟩ [(x, u)]) ∧ (∀ p ∈ cs, h.get? p.2 = some { cls := .none, data := .fields #[] }) ∧ (∀ p ∈ cs, K.lookup p.2 = none) ∧ (∀ p ∈ cs, PySem.W.CodeHd h p.1 p.2) ∧ tb.T.map (·.1) = cs.map (·.2) ∧
        ∀ base : Heap, K.In base → base.Ns mainGlobals nm → (∀ p ∈ cs, LamX.TabB base nm p.1 p.2) → FnG l.prog v K nm base CX0 k fa fd [x] (@spPL tb K 1 fn))
    (hfn : ∀ ns : List Int, ns.length ≤ n → fn [.list (ns.map .int)] = some (.bool true)) :
    PySem.W.WalkO q loose XP YP l.row.toRowW d [] (fun f vs => PySem.call f vs) := by
  apply Att.attach_call hn hdf
  intro w s0 s1 mg mb fa o pm cd doc a vs ns G Y ho hd hcd hmg hobj hints hlen hg
  obtain ⟨K, fd, cs, tb, KX, hb, h1, h2, h3, h4, hF⟩ := F w mg fa _ Y G.T.g hmg
  exact @law_callT tb _ _ _ _ _ _ _ _ _ _ _ _ _ _ _ KX G.T.g G.T.b G.T.builtins G.T.nolimit hg h1 h2 h3 h4 G.T.bmain hobj hints (Nat.le_trans hlen hn2) hr hF hb (hfn ns hlen)
/-- the head's facts, where tables are told too -/
abbrev exAll (ex : List (PySem.W.Frag → Bool)) (K : PySem.W.Frag) : Bool := ex.all fun e => e K
theorem saysB_of {ex : List (PySem.W.Frag → Bool)} {fa : List He.Fa} {fn : List He.DefD} {tf : List He.Defn} {w : World} {h : Heap} {K : PySem.W.Frag} (c : He.SaysX fa fn [] tf (exAll ex) w h K) : SaysB ex fa fn K := Prod.ext c.more c.t.d
/-- a def's table, the name of the lambdas that it makes -/
abbrev tabP (x : Str) (K : PySem.W.Frag) : Addr × Str := ((He.cT K (x, none)).2, x ++ ".<locals>." ++ "<lambda>")
theorem no_free {X : Cx} {sc : Scope} (h : (sc.names.all fun y => decide (y.2 = .local)) = true) : ∀ y ∈ sc.names, y.2 = .free → ∃ c, X.env.cells.lookup y.1 = some c := fun y hy e => by
  have := List.all_eq_true.mp h y hy
  rw [e] at this
  cases this
theorem no_cell {sc : Scope} (h : (sc.names.all fun y => decide (y.2 = .local)) = true) : ∀ y ∈ sc.names, y.2 ≠ .cell := fun y hy e => by
  have := List.all_eq_true.mp h y hy
  rw [e] at this
  cases this
theorem one_tab {K : PySem.W.Frag} {x : Str} : ∀ z ∈ [tabP x K], z.1 = (tabP x K).1 → z.2 = (tabP x K).2 := fun z hz _ => by rw [List.mem_singleton.mp hz]
/-! ### x.clear() -/
def sClr (i : Nat) : FS := fun r => (listAt i r).map fun z => .nx (z.2 [])
@[simp] theorem sClr_r (i : Nat) (r : Ev) : sClr i r = (listAt i r).map fun z => .nx (z.2 []) := rfl
theorem ss_clear [TBL] {X : Cx} {i : Nat} {x : Str} {px pa pp pos : Pos} (hcall : PE X (.Call (.Attribute (.Name x px) "clear" pa) [] [] pp) (tBM0 X.K "list" rClear (tVar i)))
    (hs : swapsWith (.Call (.Attribute (.Name x px) "clear" pa) [] [] pp) none pos.line X.env = pure false := by rfl) : SS X (.Expr (.Call (.Attribute (.Name x px) "clear" pa) [] [] pp) pos) (sClr i) :=
  PS.weak (ps_expr hcall hs) fun E σ H ⟨C, G, r, o, ok, hf, k⟩ => by
    obtain ⟨⟨ds, put⟩, h0, h1⟩ := Option.map_eq_some_iff.mp hf
    cases h1
    obtain ⟨l, vs, e1, _, e2, _, kk⟩ := ok.listAt h0
    exact ⟨_, e1, .inl ⟨rfl, _, .inl (.inl e2)⟩, l, vs, rfl, rfl, e2, k σ G _ (kk [] [] .nil) (Same.refl _)⟩
end SL
/-! The steps of the greatest worth (k50, k55, k62, k75, k92). -/
namespace Sk
open PySem PySem.Spec PyProof.Rows L2 SL
/-! ### records -/
def rec1 (fs : List (Int × Int)) (x : Int × Int) : List (Int × Int) := match fs.getLast? with
  | none => fs ++ [x]
  | some z => if z.2 < x.2 then fs ++ [x] else fs
def recs (l : List (Int × Int)) : List (Int × Int) := l.foldl rec1 []
structure RecInv (p fs : List (Int × Int)) : Prop where
  top : ∀ y ∈ p, ∃ z, fs.getLast? = some z ∧ y.2 ≤ z.2
  asc : fs.Pairwise fun x y => x.2 < y.2
  mem : ∀ x, x ∈ fs ↔ ∃ a b, p = a ++ x :: b ∧ ∀ y ∈ a, y.2 < x.2
theorem RecInv.nil : RecInv [] [] := ⟨fun y h => (by cases h), .nil, fun x => ⟨fun h => (by cases h), fun ⟨a, b, e, _⟩ => by cases a <;> cases e⟩⟩
theorem snoc_split {α : Type} {p a b : List α} {x y : α} (e : p ++ [y] = a ++ x :: b) : (b = [] ∧ p = a ∧ y = x) ∨ ∃ b', b = b' ++ [y] ∧ p = a ++ x :: b' := by
  rcases List.eq_nil_or_concat b with rfl | ⟨b', z, rfl⟩
  · obtain ⟨h1, h2⟩ := List.append_inj' e rfl
    exact .inl ⟨rfl, h1, by simpa using h2⟩
  · have e' : p ++ [y] = (a ++ x :: b') ++ [z] := by rw [e]; simp
    obtain ⟨h1, h2⟩ := List.append_inj' e' rfl
    have h2 : y = z := by simpa using h2
    subst h2
    exact .inr ⟨b', by simp, h1⟩
theorem RecInv.step {p fs : List (Int × Int)} (h : RecInv p fs) (x : Int × Int) : RecInv (p ++ [x]) (rec1 fs x) := by
  have add : (∀ y ∈ p, y.2 < x.2) → rec1 fs x = fs ++ [x] → RecInv (p ++ [x]) (rec1 fs x) := fun hl e => by
    rw [e]
    refine ⟨fun y hy => ⟨x, List.getLast?_concat .., ?_⟩, List.pairwise_append.mpr ⟨h.asc, List.pairwise_singleton _ _, fun y hy z hz => ?_⟩, fun y => ⟨fun hy => ?_, fun ⟨a, b, e2, e3⟩ => ?_⟩⟩
    · rcases List.mem_append.mp hy with hy | hy
      · exact Int.le_of_lt (hl y hy)
      · rw [List.mem_singleton.mp hy]; exact Int.le_refl _
    · obtain ⟨a, b, e2, _⟩ := (h.mem y).mp hy
      rw [List.mem_singleton.mp hz]
      exact hl y (by rw [e2]; simp)
    · rcases List.mem_append.mp hy with hy | hy
      · obtain ⟨a, b, e2, e3⟩ := (h.mem y).mp hy
        exact ⟨a, b ++ [x], by rw [e2]; simp, e3⟩
      · rw [List.mem_singleton.mp hy]
        exact ⟨p, [], rfl, hl⟩
    · rcases snoc_split e2 with ⟨_, _, rfl⟩ | ⟨b', _, e4⟩
      · exact List.mem_append.mpr (.inr (List.mem_singleton.mpr rfl))
      · exact List.mem_append.mpr (.inl ((h.mem y).mpr ⟨a, b', e4, e3⟩))
  cases e : fs.getLast? with
  | none =>
    refine add (fun y hy => ?_) (by unfold rec1; rw [e])
    obtain ⟨z, hz, _⟩ := h.top y hy
    rw [e] at hz; cases hz
  | some z =>
    by_cases c : z.2 < x.2
    · refine add (fun y hy => ?_) (by unfold rec1; rw [e]; exact if_pos c)
      obtain ⟨z', hz, h2⟩ := h.top y hy
      rw [e] at hz; cases hz
      omega
    · have e1 : rec1 fs x = fs := by unfold rec1; rw [e]; exact if_neg c
      rw [e1]
      refine ⟨fun y hy => ⟨z, e, ?_⟩, h.asc, fun y => ⟨fun hy => ?_, fun ⟨a, b, e2, e3⟩ => ?_⟩⟩
      · rcases List.mem_append.mp hy with hy | hy
        · obtain ⟨z', hz, h2⟩ := h.top y hy
          rw [e] at hz; cases hz
          exact h2
        · rw [List.mem_singleton.mp hy]; omega
      · obtain ⟨a, b, e2, e3⟩ := (h.mem y).mp hy
        exact ⟨a, b ++ [x], by rw [e2]; simp, e3⟩
      · rcases snoc_split e2 with ⟨_, rfl, rfl⟩ | ⟨b', _, e4⟩
        · obtain ⟨a, b, e5, _⟩ := (h.mem z).mp (List.mem_of_getLast? e)
          exact absurd (e3 z (by rw [e5]; simp)) c
        · exact (h.mem y).mpr ⟨a, b', e4, e3⟩
theorem recs_inv (l : List (Int × Int)) : RecInv l (recs l) := by
  have key : ∀ (l p fs : List (Int × Int)), RecInv p fs → RecInv (p ++ l) (l.foldl rec1 fs) := by
    intro l
    induction l with
    | nil => intro p fs h; rw [List.append_nil]; exact h
    | cons x l ih =>
      intro p fs h
      have := ih (p ++ [x]) (rec1 fs x) (h.step x)
      rw [List.append_assoc] at this
      exact this
  exact key l [] [] .nil
theorem recs_eq {a b : List (Int × Int)} (h : ∀ x, x ∈ recs a ↔ x ∈ recs b) : recs a = recs b := by
  have nd : ∀ l : List (Int × Int), (recs l).Nodup := fun l => (recs_inv l).asc.imp fun h e => by rw [e] at h; exact Int.lt_irrefl _ h
  have p : (recs a).Perm (recs b) := (List.perm_ext_iff_of_nodup (nd a) (nd b)).mpr h
  exact List.Perm.eq_of_pairwise (le := fun x y => x.2 < y.2) (fun x y _ _ h1 h2 => by omega) (recs_inv a).asc (recs_inv b).asc p
/-- the capacities' records -/
def capsL (g : Int → Int) (M : Nat) : List (Int × Int) := (List.range M).map fun (i : Nat) => ((i : Int) + 1, g ((i : Int) + 1))
theorem recs_caps (rs : List (Int × Int)) (g : Int → Int) (M : Nat) (hs : rs.Pairwise fun x y => x.1 < y.1 ∨ x.1 = y.1 ∧ y.2 ≤ x.2) (hr : ∀ x ∈ rs, 1 ≤ x.1 ∧ x.1 ≤ M) (g1 : ∀ x ∈ rs, ∀ c, x.1 ≤ c → x.2 ≤ g c) (g2 : ∀ c, 1 ≤ c → ∃ x ∈ rs, x.1 ≤ c ∧ x.2 = g c) :
    recs rs = recs (capsL g M) := by
  refine recs_eq fun x => ?_
  rw [(recs_inv rs).mem, (recs_inv (capsL g M)).mem]
  constructor
  · intro ⟨a, b, e, ha⟩
    have hx : x ∈ rs := by rw [e]; simp
    obtain ⟨r1, r2⟩ := hr x hx
    rw [e] at hs
    obtain ⟨_, s2, s3⟩ := List.pairwise_append.mp hs
    have s2 := (List.pairwise_cons.mp s2).1
    have low : ∀ c, 1 ≤ c → c < x.1 → g c < x.2 := fun c h1 h2 => by
      obtain ⟨y, hy, y1, y2⟩ := g2 c h1
      rw [e] at hy
      rcases List.mem_append.mp hy with hy | hy
      · rw [← y2]; exact ha y hy
      · rcases List.mem_cons.mp hy with rfl | hy
        · omega
        · have := s2 y hy
          omega
    have top : g x.1 = x.2 := by
      obtain ⟨y, hy, y1, y2⟩ := g2 x.1 r1
      have u := g1 x hx x.1 (Int.le_refl _)
      rw [e] at hy
      rcases List.mem_append.mp hy with hy | hy
      · have := ha y hy; omega
      · rcases List.mem_cons.mp hy with rfl | hy
        · omega
        · have := s2 y hy
          omega
    obtain ⟨i, hi⟩ := Int.eq_ofNat_of_zero_le (show 0 ≤ x.1 - 1 by omega)
    have iM : i < M := by omega
    have ex : x = ((i : Int) + 1, g ((i : Int) + 1)) := by
      have : x.1 = (i : Int) + 1 := by omega
      rw [← this, top]
    have h1 : (capsL g M)[i]? = some x := by
      rw [ex]
      unfold capsL
      rw [List.getElem?_map, List.getElem?_range iM]
      rfl
    obtain ⟨hl, hg⟩ := List.getElem?_eq_some_iff.mp h1
    refine ⟨(capsL g M).take i, (capsL g M).drop (i + 1), ?_, fun y hy => ?_⟩
    · rw [← hg, ← List.drop_eq_getElem_cons hl, List.take_append_drop]
    · unfold capsL at hy
      rw [← List.map_take, List.take_range, Nat.min_eq_left (Nat.le_of_lt iM)] at hy
      obtain ⟨j, hj, rfl⟩ := List.mem_map.mp hy
      have := List.mem_range.mp hj
      exact low _ (by omega) (by omega)
  · intro ⟨a, b, e, ha⟩
    have hi : a.length < (capsL g M).length := by rw [e]; simp
    have hM : a.length < M := by unfold capsL at hi; rwa [List.length_map, List.length_range] at hi
    have hx : x = ((a.length : Int) + 1, g ((a.length : Int) + 1)) := by
      have h1 : (capsL g M)[a.length]? = some x := by rw [e]; simp
      have h2 : (capsL g M)[a.length]? = some ((a.length : Int) + 1, g ((a.length : Int) + 1)) := by
        unfold capsL
        rw [List.getElem?_map, List.getElem?_range hM]
        rfl
      rw [h1] at h2
      exact Option.some.inj h2
    have low : ∀ j : Nat, j < a.length → g ((j : Int) + 1) < x.2 := fun j hj => by
      have : ((j : Int) + 1, g ((j : Int) + 1)) ∈ a := by
        have h1 : (capsL g M)[j]? = some ((j : Int) + 1, g ((j : Int) + 1)) := by
          unfold capsL
          rw [List.getElem?_map, List.getElem?_range (by omega)]
          rfl
        rw [e, List.getElem?_append_left hj] at h1
        exact List.mem_of_getElem? h1
      exact ha _ this
    have x1 : x.1 = (a.length : Int) + 1 := by rw [hx]
    have x2 : x.2 = g x.1 := by rw [hx]
    have lowc : ∀ c, 1 ≤ c → c < x.1 → g c < x.2 := fun c h1 h2 => by
      obtain ⟨j, hj⟩ := Int.eq_ofNat_of_zero_le (show 0 ≤ c - 1 by omega)
      have := low j (by omega)
      rwa [show (j : Int) + 1 = c by omega] at this
    obtain ⟨y, hy, y1, y2⟩ := g2 x.1 (by omega)
    have ey : y = x := by
      have h1 := (hr y hy).1
      have : y.1 = x.1 := by
        by_cases c : y.1 = x.1
        · exact c
        · have u := lowc y.1 h1 (by omega)
          have v := g1 y hy y.1 (Int.le_refl _)
          omega
      exact Prod.ext this (by omega)
    rw [ey] at hy
    obtain ⟨p, q, e2, nm⟩ := List.eq_append_cons_of_mem hy
    refine ⟨p, q, e2, fun z hz => ?_⟩
    have hz' : z ∈ rs := by rw [e2]; simp [hz]
    rw [e2] at hs
    have s3 := (List.pairwise_append.mp hs).2.2 z hz x List.mem_cons_self
    have z1 := (hr z hz').1
    by_cases c : z.1 < x.1
    · have := g1 z hz' z.1 (Int.le_refl _)
      have := lowc z.1 z1 c
      omega
    · have u := g1 z hz' x.1 (by omega)
      have : z = x := Prod.ext (by omega) (by omega)
      rw [this] at hz
      exact absurd hz nm
/-! ### the program's steps -/
def leR (x y : Int × Int) : Bool := W.dataLe false rowK (prD x) (prD y)
theorem leR_eq (x y : Int × Int) : leR x y = decide (x.2 < y.2 ∨ x.2 = y.2 ∧ y.1 ≤ x.1) := by
  show W.dataLe false (fun p : Int × Int => rowK (prD p)) x y = _
  have e : (fun p : Int × Int => rowK (prD p)) = fun p => .tuple [.int p.2, .int (-p.1)] := rfl
  rw [e, W.dataLe_ii (fun p : Int × Int => p.2) fun p => -p.1]
  rw [Bool.eq_iff_iff, decide_eq_true_iff, decide_eq_true_iff]
  omega
/-- the rows by need, greater worths first -/
def rowsS (xs : List (Int × Int)) : List (Int × Int) := xs.mergeSort leR
theorem rowsS_perm (xs : List (Int × Int)) : (rowsS xs).Perm xs := List.mergeSort_perm _ _
theorem rowsS_pair (xs : List (Int × Int)) : (rowsS xs).Pairwise fun x y => x.2 < y.2 ∨ x.2 = y.2 ∧ y.1 ≤ x.1 := by
  refine (List.pairwise_mergeSort (le := leR) (fun a b c h1 h2 => ?_) (fun a b => ?_) xs).imp fun h => ?_
  · rw [leR_eq, decide_eq_true_iff] at *
    omega
  · rw [leR_eq, leR_eq, Bool.or_eq_true, decide_eq_true_iff, decide_eq_true_iff]
    omega
  · rw [leR_eq, decide_eq_true_iff] at h
    exact h
theorem rowB_pr (xs : List (Int × Int)) : (xs.map prD).all rowB = true := List.all_eq_true.mpr fun d hd => by
  obtain ⟨x, _, rfl⟩ := List.mem_map.mp hd
  rfl
theorem lkey_ok (fa : FE) (r r' : Ev) (xs : List (Int × Int)) (h : fa r = some (prsD xs, r')) (hl : xs.length ≤ 100000) : lKey rowB rowK fa r = some ((rowsS xs).map prD, r') := by
  have hz : (xs.map prD).length ≤ sizeLine := by rw [List.length_map]; unfold sizeLine; omega
  unfold lKey
  rw [h]
  show (if _ then _ else _) = _
  rw [if_pos ⟨rowB_pr xs, hz⟩]
  refine congrArg (fun z => some (z, r')) ?_
  exact (List.map_mergeSort (r := leR) (s := W.dataLe false rowK) (f := prD) (l := xs) (fun a _ b _ => rfl)).symm
/-- a step: need, worth -/
def swp (x : Int × Int) : Int × Int := (x.2, x.1)
def stepsZ (xs : List (Int × Int)) : List (Int × Int) := recs ((rowsS xs).map swp)
def steps_b1 : FS := (sIf (gOr (gNot (gTru (fVp 1))) (gT (f2 gtD (fV 2) (f2 ixD (f2 ixD (fVp 1) (f1 negD (fC (.int 1)))) (fC (.int 1)))))) (sApp 1 (fTup (aCons (fV 3) (aCons (fV 2) aNil)))) sNext)
def F_stepsO (c_worths_and_needs : List D → Option D) : FS := (sT (sSetO 1 (lDisp aNil))
    (sT (sForW [2, 3] (iSeq (fL (lKey rowB rowK (fCall c_worths_and_needs (aCons (fV 0) aNil))))) (gTp 2 (gsCons (gNm 2) (gsCons (gNm 3) gsNil))) (steps_b1))
    (sRetO 1)))
def F_steps (c_worths_and_needs : List D → Option D) : FS := (sT (sSetO 1 (lDisp aNil))
    (sT (sForW [2, 3] (iSeq (fL (lKey rowB rowK (fCall c_worths_and_needs (aCons (fV 0) aNil))))) (gTp 2 (gsCons (gNm 2) (gsCons (gNm 3) gsNil))) (steps_b1))
    (sRet (fV 1))))
def R_stepsO : List D → Option (List D) := runO 4 (F_stepsO R_worths_and_needs)
def R_steps : List D → Option D := runP 4 (F_steps R_worths_and_needs)
theorem last_ix {fs : List (Int × Int)} {z : Int × Int} (h : fs.getLast? = some z) : ixD (.list (fs.map prD)) (.int (-1)) = some (prD z) := by
  obtain ⟨ys, rfl⟩ : ∃ ys, fs = ys ++ [z] := by
    rcases List.eq_nil_or_concat fs with rfl | ⟨ys, y, rfl⟩
    · cases h
    · rw [List.concat_eq_append] at h ⊢
      rw [List.getLast?_concat] at h
      cases h
      exact ⟨ys, rfl⟩
  show atI ((ys ++ [z]).map prD) (-1) = _
  rw [List.map_append]
  have h1 : (1 : Int) ≤ (ys.length : Int) + 1 := by omega
  have h2 : (-1 + ((ys.length : Int) + 1)).toNat = ys.length := by omega
  have h3 : (ys.map prD ++ [prD z])[ys.length]? = some (prD z) := by
    rw [List.getElem?_append_right (by simp)]
    simp
  unfold atI ixN
  simp [h1, h2, h3]
theorem st_b1 (SD : D) (fs : List (Int × Int)) (x : Int × Int) (hl : fs.length ≤ 100000) :
    sW [2, 3] steps_b1 [some (.val SD), some (.own (fs.map prD)), some (.val (.int x.1)), some (.val (.int x.2))] = some (.nx [some (.val SD), some (.own ((rec1 fs (swp x)).map prD)), none, none]) := by
  have hz : fs.length < sizeLine := small_len (by omega)
  rw [sW_r]
  unfold steps_b1 rec1 swp
  cases e : fs.getLast? with
  | none =>
    have : fs = [] := by
      rcases List.eq_nil_or_concat fs with h | ⟨ys, y, rfl⟩
      · exact h
      · rw [List.concat_eq_append, List.getLast?_concat] at e
        cases e
    subst this
    have hz0 : (0 : Nat) < sizeLine := by decide
    simp [prD, hz0]
  | some z =>
    have ne : fs ≠ [] := fun y => by rw [y] at e; cases e
    have t : truD (.list (fs.map prD)) = some true := by
      cases fs with
      | nil => exact absurd rfl ne
      | cons a b => rfl
    have ix := last_ix e
    have ix2 : ixD (prD z) (.int 1) = some (.int z.2) := rfl
    have hz2 : (fs.map prD).length < sizeLine := by rw [List.length_map]; exact hz
    show _ = some (Out.nx [some (.val SD), some (.own ((if z.2 < x.1 then fs ++ [(x.2, x.1)] else fs).map prD)), none, none])
    by_cases c : z.2 < x.1
    · rw [if_pos c, List.map_append]
      have e2 : [(x.2, x.1)].map prD = [.tuple [.int x.2, .int x.1]] := rfl
      rw [e2]
      generalize fs.map prD = FL at *
      generalize prD z = Z at *
      simp [t, ix, ix2, c, hz2]
    · rw [if_neg c]
      generalize fs.map prD = FL at *
      generalize prD z = Z at *
      simp [t, ix, ix2, c]
theorem rec1_len (fs : List (Int × Int)) (x : Int × Int) : (rec1 fs x).length ≤ fs.length + 1 := by
  unfold rec1
  split
  · rw [List.length_append]; exact Nat.le_refl _
  · split
    · rw [List.length_append]; exact Nat.le_refl _
    · omega
theorem st_loop (SD : D) (xs : List (Int × Int)) (hl : xs.length ≤ 1000) :
    loopF (gTp 2 (gsCons (gNm 2) (gsCons (gNm 3) gsNil))) (sW [2, 3] steps_b1) (xs.map prD) [some (.val SD), some (.own []), none, none] = some (.nx [some (.val SD), some (.own ((recs (xs.map swp)).map prD)), none, none]) := by
  have h := (loop_count (A := gTp 2 (gsCons (gNm 2) (gsCons (gNm 3) gsNil))) (body := sW [2, 3] steps_b1) prD (fun fs : List (Int × Int) => [some (.val SD), some (.own (fs.map prD)), none, none]) (fun fs x => rec1 fs (swp x)) (fun k c => c.length ≤ k) (xs := xs) (b := []) 0 (Nat.le_refl _) fun k c x hk hm hc => by
    refine ⟨.inl ?_, by have := rec1_len c (swp x); omega⟩
    exact st_b1 SD c x (by omega)).1
  unfold recs
  rw [List.foldl_map]
  exact h
theorem forW_go {J : List Nat} {src : FA} {A : FG} {F : FS} {r r0 r1 r2 : Ev} {ds : List D} (h1 : src r = some (ds, r0)) (hw : wipeE r0 J = r1) (h2 : loopF A (sW J F) ds r1 = some (.nx r2)) : sForW J src A F r = some (.nx r2) := by
  rw [sForW_r, h1, Option.bind_some, hw]
  exact h2
theorem steps_ev (WN : List D → Option D) (SD : D) (xs : List (Int × Int)) (h : WN [SD] = some (prsD xs)) (hl : xs.length ≤ 1000) :
    endO (F_stepsO WN (startE 4 [SD])) = some ((stepsZ xs).map prD) ∧ endP (F_steps WN (startE 4 [SD])) = some (prsD (stepsZ xs)) := by
  have k := lkey_ok (fCall WN (aCons (fV 0) aNil)) [some (.val SD), some (.own []), none, none] [some (.val SD), some (.own []), none, none] xs (by simp [h]) (by omega)
  have lp := st_loop SD (rowsS xs) (by rw [(rowsS_perm xs).length_eq]; exact hl)
  have src : iSeq (fL (lKey rowB rowK (fCall WN (aCons (fV 0) aNil)))) [some (.val SD), some (.own []), none, none] = some ((rowsS xs).map prD, [some (.val SD), some (.own []), none, none]) := by
    unfold iSeq
    simp [-lKey_r, k]
  unfold F_stepsO F_steps stepsZ prsD
  generalize (recs ((rowsS xs).map swp)).map prD = ZL at *
  constructor
  · rw [sT_nx (r1 := [some (.val SD), some (.own []), none, none]) (by simp [startE]), sT_nx (r1 := [some (.val SD), some (.own ZL), none, none]) (forW_go src (by simp) lp)]
    simp
  · rw [sT_nx (r1 := [some (.val SD), some (.own []), none, none]) (by simp [startE]), sT_nx (r1 := [some (.val SD), some (.own ZL), none, none]) (forW_go src (by simp) lp)]
    simp
theorem steps_ok {S : Sky} (F : Fit S) (hl : S.looks.length ≤ 7) (hw : ∀ x ∈ S.looks, S.has x.w) : R_stepsO [skyD S] = some ((stepsZ (wnL S)).map prD) ∧ R_steps [skyD S] = some (prsD (stepsZ (wnL S))) :=
  steps_ev R_worths_and_needs (skyD S) (wnL S) (wn_ok F hl hw) (by have := least_len F hl; unfold wnL; rw [List.length_map]; omega)
/-- the steps are the records of the greatest worths -/
theorem stepsZ_caps {S : Sky} (F : Fit S) (M : Nat) (hM : ∀ x ∈ wnL S, x.2 ≤ M) : stepsZ (wnL S) = recs (capsL (fun c => maxI (grZ S c)) M) := by
  have pm := rowsS_perm (wnL S)
  refine recs_caps _ _ M ?_ (fun x hx => ?_) (fun x hx c hc => ?_) fun c hc => ?_
  · rw [List.pairwise_map]
    exact rowsS_pair (wnL S)
  · obtain ⟨y, hy, rfl⟩ := List.mem_map.mp hx
    have hy := pm.mem_iff.mp hy
    obtain ⟨p, _, _, e⟩ := wn_from F hy
    exact ⟨by show 1 ≤ y.2; rw [← e]; unfold mx; split <;> omega, hM y hy⟩
  · obtain ⟨y, hy, rfl⟩ := List.mem_map.mp hx
    have hy := pm.mem_iff.mp hy
    obtain ⟨p, _, _, e⟩ := wn_from F hy
    have y1 : 1 ≤ y.2 := by rw [← e]; unfold mx; split <;> omega
    have hc' : y.2 ≤ c := hc
    exact (maxI_spec (gr_ne S (show 0 ≤ c by omega))).2 _ ((gr_same F (by omega) y.1).mp (List.mem_map.mpr ⟨y, List.mem_filter.mpr ⟨hy, decide_eq_true hc'⟩, rfl⟩))
  · obtain ⟨y, hy, e⟩ := List.mem_map.mp ((gr_same F hc _).mpr (maxI_spec (gr_ne S (show 0 ≤ c by omega))).1)
    obtain ⟨h1, h2⟩ := List.mem_filter.mp hy
    exact ⟨swp y, List.mem_map.mpr ⟨y, pm.mem_iff.mpr h1, rfl⟩, of_decide_eq_true h2, e⟩
end Sk
namespace K50
open PySem PySem.Spec PyProof.Rows L2 SL
abbrev Row := PySem.Challenge.rw_skypasses_k50_steps_of_worths
def top (i : Nat) : Stmt := PySem.Challenge.pw_skypasses_k50_steps_of_worths.main.body.getD i (.Pass ⟨0, 0, 0, 0⟩)
abbrev s__law_draws : Stmt := top 15
abbrev s__law_sky : Stmt := top 16
abbrev s__law_roomy : Stmt := top 22
abbrev s__law_lists : Stmt := top 20
abbrev s__law_store : Stmt := top 18
abbrev s__law_need : Stmt := top 23
abbrev s__law_worth : Stmt := top 21
abbrev s__law_turn : Stmt := top 17
abbrev s__law_wrong : Stmt := top 19
abbrev s__law_timely : Stmt := top 24
abbrev s__law_greatest : Stmt := top 25
abbrev s_sum_of : Stmt := top 10
abbrev s_lowest : Stmt := top 8
abbrev s_end_of : Stmt := top 1
abbrev s_turning : Stmt := top 2
abbrev s_follows : Stmt := top 5
abbrev s_loss : Stmt := top 3
abbrev s_emptied : Stmt := top 4
abbrev s_stored_at : Stmt := top 6
abbrev s_least_needs : Stmt := top 9
abbrev s_worths_and_needs : Stmt := top 12
abbrev s_steps : Stmt := top 13
abbrev s__law_is_whole : Stmt := top 26
abbrev s_law : Stmt := top 27
structure Tx (K : PySem.W.Frag) (mg : Str → Option Value) (fd : Nat → FuncData) : Prop where
  d__law_draws : FunD K "_law_draws" "_law_draws" (defArgs s__law_draws) (defBody s__law_draws) (defScope s__law_draws) [] [] (He.ga K "_law_draws") (fd 0)
  g__law_draws : mg "_law_draws" = some (.ref (He.ga K "_law_draws"))
  d__law_sky : FunD K "_law_sky" "_law_sky" (defArgs s__law_sky) (defBody s__law_sky) (defScope s__law_sky) [] [] (He.ga K "_law_sky") (fd 1)
  g__law_sky : mg "_law_sky" = some (.ref (He.ga K "_law_sky"))
  d__law_roomy : FunD K "_law_roomy" "_law_roomy" (defArgs s__law_roomy) (defBody s__law_roomy) (defScope s__law_roomy) [] [] (He.ga K "_law_roomy") (fd 2)
  g__law_roomy : mg "_law_roomy" = some (.ref (He.ga K "_law_roomy"))
  d__law_lists : FunD K "_law_lists" "_law_lists" (defArgs s__law_lists) (defBody s__law_lists) (defScope s__law_lists) [] [] (He.ga K "_law_lists") (fd 3)
  g__law_lists : mg "_law_lists" = some (.ref (He.ga K "_law_lists"))
  d__law_store : FunD K "_law_store" "_law_store" (defArgs s__law_store) (defBody s__law_store) (defScope s__law_store) [] [] (He.ga K "_law_store") (fd 4)
  g__law_store : mg "_law_store" = some (.ref (He.ga K "_law_store"))
  d__law_need : FunD K "_law_need" "_law_need" (defArgs s__law_need) (defBody s__law_need) (defScope s__law_need) [] [] (He.ga K "_law_need") (fd 5)
  g__law_need : mg "_law_need" = some (.ref (He.ga K "_law_need"))
  d__law_worth : FunD K "_law_worth" "_law_worth" (defArgs s__law_worth) (defBody s__law_worth) (defScope s__law_worth) [] [] (He.ga K "_law_worth") (fd 6)
  g__law_worth : mg "_law_worth" = some (.ref (He.ga K "_law_worth"))
  d__law_turn : FunD K "_law_turn" "_law_turn" (defArgs s__law_turn) (defBody s__law_turn) (defScope s__law_turn) [] [] (He.ga K "_law_turn") (fd 7)
  g__law_turn : mg "_law_turn" = some (.ref (He.ga K "_law_turn"))
  d__law_wrong : FunD K "_law_wrong" "_law_wrong" (defArgs s__law_wrong) (defBody s__law_wrong) (defScope s__law_wrong) [] [] (He.ga K "_law_wrong") (fd 8)
  g__law_wrong : mg "_law_wrong" = some (.ref (He.ga K "_law_wrong"))
  d__law_timely : FunD K "_law_timely" "_law_timely" (defArgs s__law_timely) (defBody s__law_timely) (defScope s__law_timely) [] [] (He.ga K "_law_timely") (fd 9)
  g__law_timely : mg "_law_timely" = some (.ref (He.ga K "_law_timely"))
  d__law_greatest : FunD K "_law_greatest" "_law_greatest" (defArgs s__law_greatest) (defBody s__law_greatest) (defScope s__law_greatest) [] [] (He.ga K "_law_greatest") (fd 10)
  g__law_greatest : mg "_law_greatest" = some (.ref (He.ga K "_law_greatest"))
  d_sum_of : FunD K "sum_of" "sum_of" (defArgs s_sum_of) (defBody s_sum_of) (defScope s_sum_of) [] [] (He.ga K "sum_of") (fd 11)
  g_sum_of : mg "sum_of" = some (.ref (He.ga K "sum_of"))
  d_lowest : FunD K "lowest" "lowest" (defArgs s_lowest) (defBody s_lowest) (defScope s_lowest) [] [] (He.ga K "lowest") (fd 12)
  g_lowest : mg "lowest" = some (.ref (He.ga K "lowest"))
  d_end_of : FunD K "end_of" "end_of" (defArgs s_end_of) (defBody s_end_of) (defScope s_end_of) [] [] (He.ga K "end_of") (fd 13)
  g_end_of : mg "end_of" = some (.ref (He.ga K "end_of"))
  d_turning : FunD K "turning" "turning" (defArgs s_turning) (defBody s_turning) (defScope s_turning) [] [] (He.ga K "turning") (fd 14)
  g_turning : mg "turning" = some (.ref (He.ga K "turning"))
  d_follows : FunD K "follows" "follows" (defArgs s_follows) (defBody s_follows) (defScope s_follows) [] [] (He.ga K "follows") (fd 15)
  g_follows : mg "follows" = some (.ref (He.ga K "follows"))
  d_loss : FunD K "loss" "loss" (defArgs s_loss) (defBody s_loss) (defScope s_loss) [] [] (He.ga K "loss") (fd 16)
  g_loss : mg "loss" = some (.ref (He.ga K "loss"))
  d_emptied : FunD K "emptied" "emptied" (defArgs s_emptied) (defBody s_emptied) (defScope s_emptied) [] [] (He.ga K "emptied") (fd 17)
  g_emptied : mg "emptied" = some (.ref (He.ga K "emptied"))
  d_stored_at : FunD K "stored_at" "stored_at" (defArgs s_stored_at) (defBody s_stored_at) (defScope s_stored_at) [] [] (He.ga K "stored_at") (fd 18)
  g_stored_at : mg "stored_at" = some (.ref (He.ga K "stored_at"))
  d_least_needs : FunD K "least_needs" "least_needs" (defArgs s_least_needs) (defBody s_least_needs) (defScope s_least_needs) [] [] (He.ga K "least_needs") (fd 19)
  g_least_needs : mg "least_needs" = some (.ref (He.ga K "least_needs"))
  d_worths_and_needs : FunD K "worths_and_needs" "worths_and_needs" (defArgs s_worths_and_needs) (defBody s_worths_and_needs) (defScope s_worths_and_needs) [] [] (He.ga K "worths_and_needs") (fd 20)
  g_worths_and_needs : mg "worths_and_needs" = some (.ref (He.ga K "worths_and_needs"))
  d_steps : FunD K "steps" "steps" (defArgs s_steps) (defBody s_steps) (defScope s_steps) [] [] (He.ga K "steps") (fd 21)
  g_steps : mg "steps" = some (.ref (He.ga K "steps"))
  d__law_is_whole : FunD K "_law_is_whole" "_law_is_whole" (defArgs s__law_is_whole) (defBody s__law_is_whole) (defScope s__law_is_whole) [] [] (He.ga K "_law_is_whole") (fd 22)
  g__law_is_whole : mg "_law_is_whole" = some (.ref (He.ga K "_law_is_whole"))
  d_law : FunD K "law" "law" (defArgs s_law) (defBody s_law) (defScope s_law) [] [] (He.ga K "law") (fd 23)
  g_law : mg "law" = some (.ref (He.ga K "law"))
  n_abs : mg "abs" = none
  n_all : mg "all" = none
  n_bool : mg "bool" = none
  n_enumerate : mg "enumerate" = none
  n_int : mg "int" = none
  n_isinstance : mg "isinstance" = none
  n_len : mg "len" = none
  n_list : mg "list" = none
  n_max : mg "max" = none
  n_min : mg "min" = none
  n_range : mg "range" = none
  n_repr : mg "repr" = none
  n_sorted : mg "sorted" = none
  n_sum : mg "sum" = none
  n_tuple : mg "tuple" = none
section
variable {P : Program} {w : World} {K : PySem.W.Frag} {mg : Str → Option Value} {base : Heap} {fd : Nat → FuncData}
theorem Tx.b__law_draws (T : Tx K mg fd) : Binds K (fd 0) ["_law_script", "_law_count"] [] := T.d__law_draws.bindsN fun _ _ _ _ _ _ us hl => match us, hl with | [_, _], _ => rfl
theorem Tx.b__law_sky (T : Tx K mg fd) : Binds K (fd 1) ["_law_draws_here", "_law_most"] [] := T.d__law_sky.bindsN fun _ _ _ _ _ _ us hl => match us, hl with | [_, _], _ => rfl
theorem Tx.b__law_roomy (T : Tx K mg fd) : Binds K (fd 2) ["_law_sky_here", "_law_capacity"] [] := T.d__law_roomy.bindsN fun _ _ _ _ _ _ us hl => match us, hl with | [_, _], _ => rfl
theorem Tx.b__law_lists (T : Tx K mg fd) : Binds K (fd 3) ["_law_sky_here"] [] := T.d__law_lists.bindsN fun _ _ _ _ _ _ us hl => match us, hl with | [_], _ => rfl
theorem Tx.b__law_store (T : Tx K mg fd) : Binds K (fd 4) ["_law_sky_here", "_law_names", "_law_time"] [] := T.d__law_store.bindsN fun _ _ _ _ _ _ us hl => match us, hl with | [_, _, _], _ => rfl
theorem Tx.b__law_need (T : Tx K mg fd) : Binds K (fd 5) ["_law_sky_here", "_law_names"] [] := T.d__law_need.bindsN fun _ _ _ _ _ _ us hl => match us, hl with | [_, _], _ => rfl
theorem Tx.b__law_worth (T : Tx K mg fd) : Binds K (fd 6) ["_law_sky_here", "_law_names"] [] := T.d__law_worth.bindsN fun _ _ _ _ _ _ us hl => match us, hl with | [_, _], _ => rfl
theorem Tx.b__law_turn (T : Tx K mg fd) : Binds K (fd 7) ["_law_sky_here", "_law_first", "_law_second"] [] := T.d__law_turn.bindsN fun _ _ _ _ _ _ us hl => match us, hl with | [_, _, _], _ => rfl
theorem Tx.b__law_wrong (T : Tx K mg fd) : Binds K (fd 8) ["_law_sky_here", "_law_names"] [] := T.d__law_wrong.bindsN fun _ _ _ _ _ _ us hl => match us, hl with | [_, _], _ => rfl
theorem Tx.b__law_timely (T : Tx K mg fd) : Binds K (fd 9) ["_law_sky_here"] [] := T.d__law_timely.bindsN fun _ _ _ _ _ _ us hl => match us, hl with | [_], _ => rfl
theorem Tx.b__law_greatest (T : Tx K mg fd) : Binds K (fd 10) ["_law_rows", "_law_capacity"] [] := T.d__law_greatest.bindsN fun _ _ _ _ _ _ us hl => match us, hl with | [_, _], _ => rfl
theorem Tx.b_sum_of (T : Tx K mg fd) : Binds K (fd 11) ["sky", "wishes"] [] := T.d_sum_of.bindsN fun _ _ _ _ _ _ us hl => match us, hl with | [_, _], _ => rfl
theorem Tx.b_lowest (T : Tx K mg fd) : Binds K (fd 12) ["pairs"] [] := T.d_lowest.bindsN fun _ _ _ _ _ _ us hl => match us, hl with | [_], _ => rfl
theorem Tx.b_end_of (T : Tx K mg fd) : Binds K (fd 13) ["sky", "look"] [] := T.d_end_of.bindsN fun _ _ _ _ _ _ us hl => match us, hl with | [_, _], _ => rfl
theorem Tx.b_turning (T : Tx K mg fd) : Binds K (fd 14) ["sky", "first", "second"] [] := T.d_turning.bindsN fun _ _ _ _ _ _ us hl => match us, hl with | [_, _, _], _ => rfl
theorem Tx.b_follows (T : Tx K mg fd) : Binds K (fd 15) ["sky", "first", "second"] [] := T.d_follows.bindsN fun _ _ _ _ _ _ us hl => match us, hl with | [_, _, _], _ => rfl
theorem Tx.b_loss (T : Tx K mg fd) : Binds K (fd 16) ["ears", "since", "until"] [] := T.d_loss.bindsN fun _ _ _ _ _ _ us hl => match us, hl with | [_, _, _], _ => rfl
theorem Tx.b_stored_at (T : Tx K mg fd) : Binds K (fd 18) ["sky", "look", "amount", "time"] [] := T.d_stored_at.bindsN fun _ _ _ _ _ _ us hl => match us, hl with | [_, _, _, _], _ => rfl
theorem Tx.b_least_needs (T : Tx K mg fd) : Binds K (fd 19) ["sky"] [] := T.d_least_needs.bindsN fun _ _ _ _ _ _ us hl => match us, hl with | [_], _ => rfl
theorem Tx.b_worths_and_needs (T : Tx K mg fd) : Binds K (fd 20) ["sky"] [] := T.d_worths_and_needs.bindsN fun _ _ _ _ _ _ us hl => match us, hl with | [_], _ => rfl
theorem Tx.b_steps (T : Tx K mg fd) : Binds K (fd 21) ["sky"] [] := T.d_steps.bindsN fun _ _ _ _ _ _ us hl => match us, hl with | [_], _ => rfl
theorem Tx.b__law_is_whole (T : Tx K mg fd) : Binds K (fd 22) ["_law_value"] [] := T.d__law_is_whole.bindsN fun _ _ _ _ _ _ us hl => match us, hl with | [_], _ => rfl
theorem Tx.kb_emptied_2 (T : Tx K mg fd) : KBn K (fd 17) ["sky", "amount", "since", "until"] 2 ["since", "until"] (fun us ws => us ++ ws) (fun vs zs => vs ++ zs) := kb_of T.d_emptied 2 ["since", "until"] fun _ _ _ _ _ _ us ws h1 h2 => match us, ws, h1, h2 with | [_, _], [_, _], _, _ => rfl
/-! _law_draws -/
def F__law_draws : FS := (sSeq (sSetO 2 (lLc (iSeq (fV 0)) [3] (gNm 3) gYes (fV 3)))
    (sSeq (sSetO 4 (lDisp aNil))
    (sSeq (sFor (iRng1 (fV 1)) (gNm 5) (sSeq (sSet 6 (fC (.int 0)))
    (sSeq (sIf (gT (f2 gtD (f1 lenD (fVp 2)) (fC (.int 0)))) (sSeq (sSet 7 (f2 modD (f1 intD (fV 5)) (f1 lenD (fVp 2))))
    (sIf (gT (f2 geD (f2 ixD (fVp 2) (fV 7)) (f2 powD (fC (.int 10)) (fC (.int 18))))) (sSeq (sSet 6 (f2 modD (f1 intD (f2 ixD (fVp 2) (fV 7))) (fC (.int 1000))))
    (sPut 2 (fV 7) (f2 divD (f2 ixD (fVp 2) (fV 7)) (fC (.int 1000))))) (sSeq (sSet 8 (f2 modD (f1 intD (f2 addD (f2 addD (f2 mulD (f2 ixD (fVp 2) (fV 7)) (fC (.int 48271))) (f2 mulD (fV 5) (fC (.int 69621)))) (fC (.int 11)))) (fC (.int 2147483647))))
    (sSeq (sSet 8 (f2 modD (f1 intD (f2 addD (f2 mulD (fV 8) (fC (.int 16807))) (fV 7))) (fC (.int 2147483629))))
    (sSet 6 (f2 modD (f1 intD (f2 divD (fV 8) (fC (.int 7)))) (fC (.int 1000)))))))) sNext)
    (sApp 4 (fV 6)))))
    (sRet (fV 4)))))
def R__law_draws : List D → Option D := runP 9 F__law_draws
theorem sc__law_draws : FnScope ["_law_script", "_law_count", "_law_rests", "_law_cell", "_law_draws_here", "_law_k", "_law_value", "_law_at", "_law_mixed"] ["_law_script", "_law_count"] (defScope s__law_draws) := ⟨rfl, rfl, rfl, by decide +kernel, rfl, by decide +kernel, by decide +kernel⟩
theorem B__law_draws (T : Tx K mg fd) : BodyOk P w K mg base 0 ["_law_script", "_law_count", "_law_rests", "_law_cell", "_law_draws_here", "_law_k", "_law_value", "_law_at", "_law_mixed"] "_law_draws" (defScope s__law_draws) (He.ga K "_law_draws") (defBody s__law_draws) F__law_draws := by
  intro cv A out s H E pl hr
  unfold F__law_draws
  exact (ss_cons (ss_lcO (i := 2) (own := [("_law_cell", 3)]) pl rfl rfl (sw_true rfl rfl rfl (by decide +kernel)) (si_seq (se_var 0)) (blkOk_by (by kernel_rfl)) (by decide) (fun _ _ _ _ _ pl => (sg_name (i := 3) pl.nd rfl (by first | exact Or.inl rfl | exact Or.inr rfl))) (fun _ _ _ _ _ pl => sts_nil) (fun _ _ _ _ _ pl => se_any (se_var 3)))
    (ss_cons (ss_setO (i := 4) pl.nd rfl (by first | exact Or.inl rfl | exact Or.inr rfl) (SL.sl_list (k := 0) sa_nil))
    (ss_cons (ss_for pl.own pl.calm (si_range1 (by rfl) T.n_range (se_var 1)) (sg_name (i := 5) pl.nd rfl (by first | exact Or.inl rfl | exact Or.inr rfl)) (ss_cons (ss_set (i := 6) pl.nd rfl (by first | exact Or.inl rfl | exact Or.inr rfl) se_int)
    (ss_cons (ss_if (st_cmp op_gt o_gt (se_callB1 call_lenA c_len (by rfl) T.n_len (sp_var 2)) se_int (nomark _)) (ss_cons (ss_set (i := 7) pl.nd rfl (by first | exact Or.inl rfl | exact Or.inr rfl) (se_op2 op_modN o_mod (se_callT1 call_int1 c_int (by rfl) T.n_int (sp_of (se_var 5))) (se_callB1 call_lenA c_len (by rfl) T.n_len (sp_var 2))))
    (ss_one (ss_if (st_cmp op_ge o_ge (se_ixp (sp_var 2) (sp_of (se_var 7))) (se_op2 op_pow o_pow se_int se_int) (nomark _)) (ss_cons (ss_set (i := 6) pl.nd rfl (by first | exact Or.inl rfl | exact Or.inr rfl) (se_op2 op_modN o_mod (se_callT1 call_int1 c_int (by rfl) T.n_int (sp_of (se_ixp (sp_var 2) (sp_of (se_var 7))))) se_int))
    (ss_one (ss_put 2 (se_op2 op_fdivN o_div (se_ixp (sp_var 2) (sp_of (se_var 7))) se_int) (se_var 7)))) (ss_cons (ss_set (i := 8) pl.nd rfl (by first | exact Or.inl rfl | exact Or.inr rfl) (se_op2 op_modN o_mod (se_callT1 call_int1 c_int (by rfl) T.n_int (sp_of (se_op2 op_addD o_add (se_op2 op_addD o_add (se_op2 op_mul o_mul (se_ixp (sp_var 2) (sp_of (se_var 7))) se_int) (se_op2 op_mul o_mul (se_var 5) se_int)) se_int))) se_int))
    (ss_cons (ss_set (i := 8) pl.nd rfl (by first | exact Or.inl rfl | exact Or.inr rfl) (se_op2 op_modN o_mod (se_callT1 call_int1 c_int (by rfl) T.n_int (sp_of (se_op2 op_addD o_add (se_op2 op_mul o_mul (se_var 8) se_int) (se_var 7)))) se_int))
    (ss_one (ss_set (i := 6) pl.nd rfl (by first | exact Or.inl rfl | exact Or.inr rfl) (se_op2 op_modN o_mod (se_callT1 call_int1 c_int (by rfl) T.n_int (sp_of (se_op2 op_fdivN o_div (se_var 8) se_int))) se_int)))))))) ss_nil)
    (ss_one (ss_app (pe_bm PySem.F.plainAttrs_list PySem.F.slot_list_append PySem.F.type_list_append mt_append (pv 4) (pa_cons (se_var 6) pa_nil)))))))
    (ss_one (ss_ret (se_var 4))))))
theorem O__law_draws (T : Tx K mg fd) : FnG P w K mg base CX0 1 (He.ga K "_law_draws") (fd 0) ["_law_script", "_law_count"] (spP K 2 R__law_draws) := FnG.pure T.d__law_draws sc__law_draws (B__law_draws T)
/-! _law_sky -/
def F__law_sky : FS := (sSeq (sSet 2 (f2 addD (fC (.int 1)) (f2 modD (f1 intD (f2 ixD (fV 0) (fC (.int 0)))) (fC (.int 4)))))
    (sSeq (sSet 3 (fL (lLc (iRng1 (fV 2)) [4] (gNm 4) gYes (f2 modD (f1 intD (f2 ixD (fV 0) (f2 addD (fC (.int 1)) (fV 4)))) (fC (.int 10))))))
    (sSeq (sSetO 5 (lDisp aNil))
    (sSeq (sSet 6 (fC (.int 0)))
    (sSeq (sFor (iRng1 (f2 modD (f1 intD (f2 ixD (fV 0) (fC (.int 9)))) (fC (.int 3)))) (gNm 4) (sSeq (sSet 7 (f2 addD (fV 6) (f2 modD (f1 intD (f2 ixD (fV 0) (f2 addD (fC (.int 10)) (f2 mulD (fC (.int 3)) (fV 4))))) (fC (.int 6)))))
    (sSeq (sSet 6 (f2 addD (f2 addD (fV 7) (fC (.int 1))) (f2 modD (f1 intD (f2 ixD (fV 0) (f2 addD (fC (.int 11)) (f2 mulD (fC (.int 3)) (fV 4))))) (fC (.int 5)))))
    (sApp 5 (fTup (aCons (fV 7) (aCons (fV 6) (aCons (f2 addD (fC (.int 1)) (f2 modD (f1 intD (f2 ixD (fV 0) (f2 addD (fC (.int 12)) (f2 mulD (fC (.int 3)) (fV 4))))) (fC (.int 3)))) aNil))))))))
    (sSeq (sSetO 8 (lDisp aNil))
    (sSeq (sSet 9 (fC (.int 0)))
    (sSeq (sFor (iRng1 (f2 modD (f1 intD (f2 ixD (fV 0) (fC (.int 16)))) (f2 addD (fV 1) (fC (.int 1))))) (gNm 4) (sSeq (sSet 9 (f2 addD (fV 9) (f2 modD (f1 intD (f2 ixD (fV 0) (f2 addD (fC (.int 20)) (f2 mulD (fC (.int 5)) (fV 4))))) (fC (.int 4)))))
    (sSeq (sSet 10 (f2 subD (f2 modD (f1 intD (f2 ixD (fV 0) (f2 addD (fC (.int 23)) (f2 mulD (fC (.int 5)) (fV 4))))) (fC (.int 61))) (fC (.int 30))))
    (sApp 8 (fTup (aCons (f2 modD (f1 intD (f2 ixD (fV 0) (f2 addD (fC (.int 21)) (f2 mulD (fC (.int 5)) (fV 4))))) (fV 2)) (aCons (fV 9) (aCons (f2 addD (fC (.int 1)) (f2 modD (f1 intD (f2 ixD (fV 0) (f2 addD (fC (.int 22)) (f2 mulD (fC (.int 5)) (fV 4))))) (fC (.int 3)))) (aCons (fV 10) (aCons (f2 addD (fC (.int 1)) (f2 modD (f1 intD (f2 ixD (fV 0) (f2 addD (fC (.int 24)) (f2 mulD (fC (.int 5)) (fV 4))))) (fC (.int 4)))) aNil))))))))))
    (sRet (fTup (aCons (fV 8) (aCons (fV 3) (aCons (fV 5) (aCons (f2 addD (fC (.int 2)) (f2 modD (f1 intD (f2 ixD (fV 0) (fC (.int 7)))) (fC (.int 7)))) (aCons (f2 addD (fC (.int 1)) (f2 modD (f1 intD (f2 ixD (fV 0) (fC (.int 8)))) (fC (.int 30)))) aNil)))))))))))))))
def R__law_sky : List D → Option D := runP 11 F__law_sky
theorem sc__law_sky : FnScope ["_law_draws_here", "_law_most", "_law_wishes", "_law_worths", "_law_k", "_law_ears", "_law_since", "_law_first", "_law_looks", "_law_start", "_law_angle"] ["_law_draws_here", "_law_most"] (defScope s__law_sky) := ⟨rfl, rfl, rfl, by decide +kernel, rfl, by decide +kernel, by decide +kernel⟩
theorem B__law_sky (T : Tx K mg fd) : BodyOk P w K mg base 0 ["_law_draws_here", "_law_most", "_law_wishes", "_law_worths", "_law_k", "_law_ears", "_law_since", "_law_first", "_law_looks", "_law_start", "_law_angle"] "_law_sky" (defScope s__law_sky) (He.ga K "_law_sky") (defBody s__law_sky) F__law_sky := by
  intro cv A out s H E pl hr
  unfold F__law_sky
  exact (ss_cons (ss_set (i := 2) pl.nd rfl (by first | exact Or.inl rfl | exact Or.inr rfl) (se_op2 op_addD o_add se_int (se_op2 op_modN o_mod (se_callT1 call_int1 c_int (by rfl) T.n_int (sp_of (se_ix (se_var 0) se_int))) se_int)))
    (ss_cons (ss_lc (i := 3) (own := [("_law_k", 4)]) pl rfl rfl (sw_true rfl rfl rfl (by decide +kernel)) (si_range1 (by rfl) T.n_range (se_var 2)) (blkOk_by (by kernel_rfl)) (by decide) (fun _ _ _ _ _ pl => (sg_name (i := 4) pl.nd rfl (by first | exact Or.inl rfl | exact Or.inr rfl))) (fun _ _ _ _ _ pl => sts_nil) (fun _ _ _ _ _ pl => se_any (se_op2 op_modN o_mod (se_callT1 call_int1 c_int (by rfl) T.n_int (sp_of (se_ix (se_var 0) (se_op2 op_addD o_add se_int (se_var 4))))) se_int)))
    (ss_cons (ss_setO (i := 5) pl.nd rfl (by first | exact Or.inl rfl | exact Or.inr rfl) (SL.sl_list (k := 0) sa_nil))
    (ss_cons (ss_set (i := 6) pl.nd rfl (by first | exact Or.inl rfl | exact Or.inr rfl) se_int)
    (ss_cons (ss_for pl.own pl.calm (si_range1 (by rfl) T.n_range (se_op2 op_modN o_mod (se_callT1 call_int1 c_int (by rfl) T.n_int (sp_of (se_ix (se_var 0) se_int))) se_int)) (sg_name (i := 4) pl.nd rfl (by first | exact Or.inl rfl | exact Or.inr rfl)) (ss_cons (ss_set (i := 7) pl.nd rfl (by first | exact Or.inl rfl | exact Or.inr rfl) (se_op2 op_addD o_add (se_var 6) (se_op2 op_modN o_mod (se_callT1 call_int1 c_int (by rfl) T.n_int (sp_of (se_ix (se_var 0) (se_op2 op_addD o_add se_int (se_op2 op_mul o_mul se_int (se_var 4)))))) se_int)))
    (ss_cons (ss_set (i := 6) pl.nd rfl (by first | exact Or.inl rfl | exact Or.inr rfl) (se_op2 op_addD o_add (se_op2 op_addD o_add (se_var 7) se_int) (se_op2 op_modN o_mod (se_callT1 call_int1 c_int (by rfl) T.n_int (sp_of (se_ix (se_var 0) (se_op2 op_addD o_add se_int (se_op2 op_mul o_mul se_int (se_var 4)))))) se_int)))
    (ss_one (ss_app (pe_bm PySem.F.plainAttrs_list PySem.F.slot_list_append PySem.F.type_list_append mt_append (pv 5) (pa_cons (se_tup (sa_cons (se_var 7) (sa_cons (se_var 6) (sa_cons (se_op2 op_addD o_add se_int (se_op2 op_modN o_mod (se_callT1 call_int1 c_int (by rfl) T.n_int (sp_of (se_ix (se_var 0) (se_op2 op_addD o_add se_int (se_op2 op_mul o_mul se_int (se_var 4)))))) se_int)) sa_nil)))) pa_nil)))))))
    (ss_cons (ss_setO (i := 8) pl.nd rfl (by first | exact Or.inl rfl | exact Or.inr rfl) (SL.sl_list (k := 0) sa_nil))
    (ss_cons (ss_set (i := 9) pl.nd rfl (by first | exact Or.inl rfl | exact Or.inr rfl) se_int)
    (ss_cons (ss_for pl.own pl.calm (si_range1 (by rfl) T.n_range (se_op2 op_modN o_mod (se_callT1 call_int1 c_int (by rfl) T.n_int (sp_of (se_ix (se_var 0) se_int))) (se_op2 op_addD o_add (se_var 1) se_int))) (sg_name (i := 4) pl.nd rfl (by first | exact Or.inl rfl | exact Or.inr rfl)) (ss_cons (ss_set (i := 9) pl.nd rfl (by first | exact Or.inl rfl | exact Or.inr rfl) (se_op2 op_addD o_add (se_var 9) (se_op2 op_modN o_mod (se_callT1 call_int1 c_int (by rfl) T.n_int (sp_of (se_ix (se_var 0) (se_op2 op_addD o_add se_int (se_op2 op_mul o_mul se_int (se_var 4)))))) se_int)))
    (ss_cons (ss_set (i := 10) pl.nd rfl (by first | exact Or.inl rfl | exact Or.inr rfl) (se_op2 op_sub o_sub (se_op2 op_modN o_mod (se_callT1 call_int1 c_int (by rfl) T.n_int (sp_of (se_ix (se_var 0) (se_op2 op_addD o_add se_int (se_op2 op_mul o_mul se_int (se_var 4)))))) se_int) se_int))
    (ss_one (ss_app (pe_bm PySem.F.plainAttrs_list PySem.F.slot_list_append PySem.F.type_list_append mt_append (pv 8) (pa_cons (se_tup (sa_cons (se_op2 op_modN o_mod (se_callT1 call_int1 c_int (by rfl) T.n_int (sp_of (se_ix (se_var 0) (se_op2 op_addD o_add se_int (se_op2 op_mul o_mul se_int (se_var 4)))))) (se_var 2)) (sa_cons (se_var 9) (sa_cons (se_op2 op_addD o_add se_int (se_op2 op_modN o_mod (se_callT1 call_int1 c_int (by rfl) T.n_int (sp_of (se_ix (se_var 0) (se_op2 op_addD o_add se_int (se_op2 op_mul o_mul se_int (se_var 4)))))) se_int)) (sa_cons (se_var 10) (sa_cons (se_op2 op_addD o_add se_int (se_op2 op_modN o_mod (se_callT1 call_int1 c_int (by rfl) T.n_int (sp_of (se_ix (se_var 0) (se_op2 op_addD o_add se_int (se_op2 op_mul o_mul se_int (se_var 4)))))) se_int)) sa_nil)))))) pa_nil)))))))
    (ss_one (ss_ret (se_tup (sa_cons (se_var 8) (sa_cons (se_var 3) (sa_cons (se_var 5) (sa_cons (se_op2 op_addD o_add se_int (se_op2 op_modN o_mod (se_callT1 call_int1 c_int (by rfl) T.n_int (sp_of (se_ix (se_var 0) se_int))) se_int)) (sa_cons (se_op2 op_addD o_add se_int (se_op2 op_modN o_mod (se_callT1 call_int1 c_int (by rfl) T.n_int (sp_of (se_ix (se_var 0) se_int))) se_int)) sa_nil))))))))))))))))
theorem O__law_sky (T : Tx K mg fd) : FnG P w K mg base CX0 1 (He.ga K "_law_sky") (fd 1) ["_law_draws_here", "_law_most"] (spP K 2 R__law_sky) := FnG.pure T.d__law_sky sc__law_sky (B__law_sky T)
/-! _law_roomy -/
def F__law_roomy : FS := (sRet (fTup (aCons (f2 ixD (fV 0) (fC (.int 0))) (aCons (f2 ixD (fV 0) (fC (.int 1))) (aCons (f2 ixD (fV 0) (fC (.int 2))) (aCons (fV 1) (aCons (f2 ixD (fV 0) (fC (.int 4))) aNil)))))))
def R__law_roomy : List D → Option D := runP 2 F__law_roomy
theorem sc__law_roomy : FnScope ["_law_sky_here", "_law_capacity"] ["_law_sky_here", "_law_capacity"] (defScope s__law_roomy) := ⟨rfl, rfl, rfl, by decide +kernel, rfl, by decide +kernel, by decide +kernel⟩
theorem B__law_roomy (T : Tx K mg fd) : BodyOk P w K mg base 0 ["_law_sky_here", "_law_capacity"] "_law_roomy" (defScope s__law_roomy) (He.ga K "_law_roomy") (defBody s__law_roomy) F__law_roomy := by
  intro cv A out s H E pl hr
  unfold F__law_roomy
  exact (ss_one (ss_ret (se_tup (sa_cons (se_ix (se_var 0) se_int) (sa_cons (se_ix (se_var 0) se_int) (sa_cons (se_ix (se_var 0) se_int) (sa_cons (se_var 1) (sa_cons (se_ix (se_var 0) se_int) sa_nil))))))))
theorem O__law_roomy (T : Tx K mg fd) : FnG P w K mg base CX0 1 (He.ga K "_law_roomy") (fd 2) ["_law_sky_here", "_law_capacity"] (spP K 2 R__law_roomy) := FnG.pure T.d__law_roomy sc__law_roomy (B__law_roomy T)
/-! _law_lists -/
def F__law_lists : FS := (sSeq (sSet 1 (fL (lDisp (aCons (fL (lDisp aNil)) aNil))))
    (sSeq (sFor (iRng1 (f1 lenD (f2 ixD (fV 0) (fC (.int 0))))) (gNm 2) (sSet 1 (f2 addD (fV 1) (fL (lLc (iSeq (fV 1)) [3] (gNm 3) gYes (f2 addD (fV 3) (fL (lDisp (aCons (fV 2) aNil)))))))))
    (sRet (fV 1))))
def R__law_lists : List D → Option D := runP 4 F__law_lists
theorem sc__law_lists : FnScope ["_law_sky_here", "_law_found", "_law_name", "_law_names"] ["_law_sky_here"] (defScope s__law_lists) := ⟨rfl, rfl, rfl, by decide +kernel, rfl, by decide +kernel, by decide +kernel⟩
theorem B__law_lists (T : Tx K mg fd) : BodyOk P w K mg base 0 ["_law_sky_here", "_law_found", "_law_name", "_law_names"] "_law_lists" (defScope s__law_lists) (He.ga K "_law_lists") (defBody s__law_lists) F__law_lists := by
  intro cv A out s H E pl hr
  unfold F__law_lists
  exact (ss_cons (ss_set (i := 1) pl.nd rfl (by first | exact Or.inl rfl | exact Or.inr rfl) (se_of_new (SL.sl_list (k := 0) (sa_cons (se_of_new (SL.sl_list (k := 0) sa_nil)) sa_nil))))
    (ss_cons (ss_for pl.own pl.calm (si_range1 (by rfl) T.n_range (se_callB1 call_lenA c_len (by rfl) T.n_len (sp_of (se_ix (se_var 0) se_int)))) (sg_name (i := 2) pl.nd rfl (by first | exact Or.inl rfl | exact Or.inr rfl)) (ss_one (ss_set (i := 1) pl.nd rfl (by first | exact Or.inl rfl | exact Or.inr rfl) (se_op2 op_addD o_add (se_var 1) (se_of_new (sl_lc (own := [("_law_names", 3)]) pl (si_seq (se_var 1)) (blkOk_by (by kernel_rfl)) (by decide) (fun _ _ _ _ _ pl => (sg_name (i := 3) pl.nd rfl (by first | exact Or.inl rfl | exact Or.inr rfl))) (fun _ _ _ _ _ pl => sts_nil) (fun _ _ _ _ _ pl => se_any (se_op2 op_addD o_add (se_var 3) (se_of_new (SL.sl_list (k := 0) (sa_cons (se_var 2) sa_nil)))))))))))
    (ss_one (ss_ret (se_var 1)))))
theorem O__law_lists (T : Tx K mg fd) : FnG P w K mg base CX0 1 (He.ga K "_law_lists") (fd 3) ["_law_sky_here"] (spP K 1 R__law_lists) := FnG.pure T.d__law_lists sc__law_lists (B__law_lists T)
/-! _law_store -/
def F__law_store : FS := (sSeq (sSet 3 (fC (.int 0)))
    (sSeq (sFor (iRng1 (f2 addD (fV 2) (fC (.int 1)))) (gNm 4) (sSeq (sFor (iSeq (f2 ixD (fV 0) (fC (.int 2)))) (gTp 3 (gsCons (gNm 5) (gsCons (gNm 6) (gsCons (gNm 7) gsNil)))) (sIf (gT (fChain leD ltD (fV 5) (f2 subD (fV 4) (fC (.int 1))) (fV 6))) (sSet 3 (f2 max2D (fC (.int 0)) (f2 subD (fV 3) (fV 7)))) sNext))
    (sFor (iSeq (fV 1)) (gNm 8) (sSeq (sAsg (f2 ixD (f2 ixD (fV 0) (fC (.int 0))) (fV 8)) (gTp 5 (gsCons (gNm 9) (gsCons (gNm 10) (gsCons (gNm 11) (gsCons (gNm 12) (gsCons (gNm 13) gsNil)))))))
    (sIf (gT (f2 eqD (f2 addD (fV 10) (fV 11)) (fV 4))) (sSet 3 (f2 addD (fV 3) (fV 13))) sNext)))))
    (sRet (fV 3))))
def R__law_store : List D → Option D := runP 14 F__law_store
theorem sc__law_store : FnScope ["_law_sky_here", "_law_names", "_law_time", "_law_store_here", "_law_now", "_law_first", "_law_last", "_law_rate", "_law_name", "_law_wish", "_law_start", "_law_length", "_law_angle", "_law_size"] ["_law_sky_here", "_law_names", "_law_time"] (defScope s__law_store) := ⟨rfl, rfl, rfl, by decide +kernel, rfl, by decide +kernel, by decide +kernel⟩
theorem B__law_store (T : Tx K mg fd) : BodyOk P w K mg base 0 ["_law_sky_here", "_law_names", "_law_time", "_law_store_here", "_law_now", "_law_first", "_law_last", "_law_rate", "_law_name", "_law_wish", "_law_start", "_law_length", "_law_angle", "_law_size"] "_law_store" (defScope s__law_store) (He.ga K "_law_store") (defBody s__law_store) F__law_store := by
  intro cv A out s H E pl hr
  unfold F__law_store
  exact (ss_cons (ss_set (i := 3) pl.nd rfl (by first | exact Or.inl rfl | exact Or.inr rfl) se_int)
    (ss_cons (ss_for pl.own pl.calm (si_range1 (by rfl) T.n_range (se_op2 op_addD o_add (se_var 2) se_int)) (sg_name (i := 4) pl.nd rfl (by first | exact Or.inl rfl | exact Or.inr rfl)) (ss_cons (ss_for pl.own pl.calm (si_seq (se_ix (se_var 0) se_int)) (sg_tup pl.calm (sgs_cons (sg_name (i := 5) pl.nd rfl (by first | exact Or.inl rfl | exact Or.inr rfl)) (sgs_cons (sg_name (i := 6) pl.nd rfl (by first | exact Or.inl rfl | exact Or.inr rfl)) (sgs_cons (sg_name (i := 7) pl.nd rfl (by first | exact Or.inl rfl | exact Or.inr rfl)) sgs_nil)))) (ss_one (ss_if (st_chain op_le o_le op_lt o_lt (se_var 5) (se_op2 op_sub o_sub (se_var 4) se_int) (se_var 6)) (ss_one (ss_set (i := 3) pl.nd rfl (by first | exact Or.inl rfl | exact Or.inr rfl) (se_callB2 (call_max2 pl.calm) c_max2 (by rfl) T.n_max se_int (se_op2 op_sub o_sub (se_var 3) (se_var 7))))) ss_nil)))
    (ss_one (ss_for pl.own pl.calm (si_seq (se_var 1)) (sg_name (i := 8) pl.nd rfl (by first | exact Or.inl rfl | exact Or.inr rfl)) (ss_cons (ss_asg (se_ix (se_ix (se_var 0) se_int) (se_var 8)) (sg_tup pl.calm (sgs_cons (sg_name (i := 9) pl.nd rfl (by first | exact Or.inl rfl | exact Or.inr rfl)) (sgs_cons (sg_name (i := 10) pl.nd rfl (by first | exact Or.inl rfl | exact Or.inr rfl)) (sgs_cons (sg_name (i := 11) pl.nd rfl (by first | exact Or.inl rfl | exact Or.inr rfl)) (sgs_cons (sg_name (i := 12) pl.nd rfl (by first | exact Or.inl rfl | exact Or.inr rfl)) (sgs_cons (sg_name (i := 13) pl.nd rfl (by first | exact Or.inl rfl | exact Or.inr rfl)) sgs_nil)))))))
    (ss_one (ss_if (st_cmp (op_eqD (hu64 pl)) o_eq (se_op2 op_addD o_add (se_var 10) (se_var 11)) (se_var 4) (nomark _)) (ss_one (ss_set (i := 3) pl.nd rfl (by first | exact Or.inl rfl | exact Or.inr rfl) (se_op2 op_addD o_add (se_var 3) (se_var 13)))) ss_nil)))))))
    (ss_one (ss_ret (se_var 3)))))
theorem O__law_store (T : Tx K mg fd) : FnG P w K mg base CX0 1 (He.ga K "_law_store") (fd 4) ["_law_sky_here", "_law_names", "_law_time"] (spP K 3 R__law_store) := FnG.pure T.d__law_store sc__law_store (B__law_store T)
/-! _law_need -/
def F__law_need : FS := (sSeq (sSet 2 (fC (.int 0)))
    (sSeq (sFor (iRng1 (f1 lenD (fV 1))) (gNm 3) (sSeq (sSet 4 (f2 ixD (f2 ixD (fV 0) (fC (.int 0))) (f2 ixD (fV 1) (fV 3))))
    (sSet 2 (f2 max2D (fV 2) (f2 addD (fCall R__law_store (aCons (fV 0) (aCons (fCut (fV 1) oNone (oSome (fV 3))) (aCons (f2 ixD (fV 4) (fC (.int 1))) aNil)))) (f2 ixD (fV 4) (fC (.int 4))))))))
    (sRet (fV 2))))
def R__law_need : List D → Option D := runP 5 F__law_need
theorem sc__law_need : FnScope ["_law_sky_here", "_law_names", "_law_need_here", "_law_place", "_law_look"] ["_law_sky_here", "_law_names"] (defScope s__law_need) := ⟨rfl, rfl, rfl, by decide +kernel, rfl, by decide +kernel, by decide +kernel⟩
theorem B__law_need (T : Tx K mg fd) : BodyOk P w K mg base 1 ["_law_sky_here", "_law_names", "_law_need_here", "_law_place", "_law_look"] "_law_need" (defScope s__law_need) (He.ga K "_law_need") (defBody s__law_need) F__law_need := by
  intro cv A out s H E pl hr
  unfold F__law_need
  exact (ss_cons (ss_set (i := 2) pl.nd rfl (by first | exact Or.inl rfl | exact Or.inr rfl) se_int)
    (ss_cons (ss_for pl.own pl.calm (si_range1 (by rfl) T.n_range (se_callB1 call_lenA c_len (by rfl) T.n_len (sp_of (se_var 1)))) (sg_name (i := 3) pl.nd rfl (by first | exact Or.inl rfl | exact Or.inr rfl)) (ss_cons (ss_set (i := 4) pl.nd rfl (by first | exact Or.inl rfl | exact Or.inr rfl) (se_ix (se_ix (se_var 0) se_int) (se_ix (se_var 1) (se_var 3))))
    (ss_one (ss_set (i := 2) pl.nd rfl (by first | exact Or.inl rfl | exact Or.inr rfl) (se_callB2 (call_max2 pl.calm) c_max2 (by rfl) T.n_max (se_var 2) (se_op2 op_addD o_add (se_call ((O__law_store T).up (by decide)) pl hr (by rfl) T.g__law_store T.d__law_store.kp T.b__law_store (sa_cons (se_var 0) (sa_cons (se_cut (sp_of (se_var 1)) so_none (so_some (se_var 3))) (sa_cons (se_ix (se_var 4) se_int) sa_nil))) (aCons_len (aCons_len (aCons_len aNil_len)))) (se_ix (se_var 4) se_int)))))))
    (ss_one (ss_ret (se_var 2)))))
theorem O__law_need (T : Tx K mg fd) : FnG P w K mg base CX0 2 (He.ga K "_law_need") (fd 5) ["_law_sky_here", "_law_names"] (spP K 2 R__law_need) := FnG.pure T.d__law_need sc__law_need (B__law_need T)
/-! _law_worth -/
def F__law_worth : FS := (sSeq (sSet 2 (fL (lLc (iSeq (fV 1)) [3] (gNm 3) gYes (f2 ixD (f2 ixD (f2 ixD (fV 0) (fC (.int 0))) (fV 3)) (fC (.int 0))))))
    (sRet (f1 sumD (fL (lLc (iRng1 (f1 lenD (f2 ixD (fV 0) (fC (.int 1))))) [4] (gNm 4) (gT (f2 inD (fV 4) (fV 2))) (f2 ixD (f2 ixD (fV 0) (fC (.int 1))) (fV 4)))))))
def R__law_worth : List D → Option D := runP 5 F__law_worth
theorem sc__law_worth : FnScope ["_law_sky_here", "_law_names", "_law_wishes", "_law_name", "_law_wish"] ["_law_sky_here", "_law_names"] (defScope s__law_worth) := ⟨rfl, rfl, rfl, by decide +kernel, rfl, by decide +kernel, by decide +kernel⟩
theorem B__law_worth (T : Tx K mg fd) : BodyOk P w K mg base 0 ["_law_sky_here", "_law_names", "_law_wishes", "_law_name", "_law_wish"] "_law_worth" (defScope s__law_worth) (He.ga K "_law_worth") (defBody s__law_worth) F__law_worth := by
  intro cv A out s H E pl hr
  unfold F__law_worth
  exact (ss_cons (ss_set (i := 2) pl.nd rfl (by first | exact Or.inl rfl | exact Or.inr rfl) (se_of_new (sl_lc (own := [("_law_name", 3)]) pl (si_seq (se_var 1)) (blkOk_by (by kernel_rfl)) (by decide) (fun _ _ _ _ _ pl => (sg_name (i := 3) pl.nd rfl (by first | exact Or.inl rfl | exact Or.inr rfl))) (fun _ _ _ _ _ pl => sts_nil) (fun _ _ _ _ _ pl => se_any (se_ix (se_ix (se_ix (se_var 0) se_int) (se_var 3)) se_int)))))
    (ss_one (ss_ret (se_callB1 (cr_sum pl.calm) c_sum (by rfl) T.n_sum (sp_of (se_of_new (sl_lc (own := [("_law_wish", 4)]) pl (si_range1 (by rfl) T.n_range (se_callB1 call_lenA c_len (by rfl) T.n_len (sp_of (se_ix (se_var 0) se_int)))) (blkOk_by (by kernel_rfl)) (by decide) (fun _ _ _ _ _ pl => (sg_name (i := 4) pl.nd rfl (by first | exact Or.inl rfl | exact Or.inr rfl))) (fun _ _ _ _ _ pl => (sts_one (st_cmp (op_inB (hu65 pl)) o_in (se_var 4) (se_var 2) (by rfl)))) (fun _ _ _ _ _ pl => se_any (se_ix (se_ix (se_var 0) se_int) (se_var 4))))))))))
theorem O__law_worth (T : Tx K mg fd) : FnG P w K mg base CX0 1 (He.ga K "_law_worth") (fd 6) ["_law_sky_here", "_law_names"] (spP K 2 R__law_worth) := FnG.pure T.d__law_worth sc__law_worth (B__law_worth T)
/-! _law_turn -/
def F__law_turn : FS := (sSeq (sSet 3 (fC (.int 0)))
    (sSeq (sFor (iRng1 (fC (.int 200))) (gNm 4) (sSeq (sIf (gT (f2 geD (f2 mulD (fV 3) (f2 ixD (fV 0) (fC (.int 4)))) (f1 absD (f2 subD (f2 ixD (f2 ixD (f2 ixD (fV 0) (fC (.int 0))) (fV 2)) (fC (.int 3))) (f2 ixD (f2 ixD (f2 ixD (fV 0) (fC (.int 0))) (fV 1)) (fC (.int 3))))))) sBrk sNext)
    (sSet 3 (f2 addD (fV 3) (fC (.int 1))))))
    (sRet (fV 3))))
def R__law_turn : List D → Option D := runP 5 F__law_turn
theorem sc__law_turn : FnScope ["_law_sky_here", "_law_first", "_law_second", "_law_ticks", "_law_turn_here"] ["_law_sky_here", "_law_first", "_law_second"] (defScope s__law_turn) := ⟨rfl, rfl, rfl, by decide +kernel, rfl, by decide +kernel, by decide +kernel⟩
theorem B__law_turn (T : Tx K mg fd) : BodyOk P w K mg base 0 ["_law_sky_here", "_law_first", "_law_second", "_law_ticks", "_law_turn_here"] "_law_turn" (defScope s__law_turn) (He.ga K "_law_turn") (defBody s__law_turn) F__law_turn := by
  intro cv A out s H E pl hr
  unfold F__law_turn
  exact (ss_cons (ss_set (i := 3) pl.nd rfl (by first | exact Or.inl rfl | exact Or.inr rfl) se_int)
    (ss_cons (ss_for pl.own pl.calm (si_range1 (by rfl) T.n_range se_int) (sg_name (i := 4) pl.nd rfl (by first | exact Or.inl rfl | exact Or.inr rfl)) (ss_cons (ss_if (st_cmp op_ge o_ge (se_op2 op_mul o_mul (se_var 3) (se_ix (se_var 0) se_int)) (se_callB1 call_abs c_abs (by rfl) T.n_abs (sp_of (se_op2 op_sub o_sub (se_ix (se_ix (se_ix (se_var 0) se_int) (se_var 2)) se_int) (se_ix (se_ix (se_ix (se_var 0) se_int) (se_var 1)) se_int)))) (nomark _)) (ss_one ss_break) ss_nil)
    (ss_one (ss_set (i := 3) pl.nd rfl (by first | exact Or.inl rfl | exact Or.inr rfl) (se_op2 op_addD o_add (se_var 3) se_int)))))
    (ss_one (ss_ret (se_var 3)))))
theorem O__law_turn (T : Tx K mg fd) : FnG P w K mg base CX0 1 (He.ga K "_law_turn") (fd 7) ["_law_sky_here", "_law_first", "_law_second"] (spP K 3 R__law_turn) := FnG.pure T.d__law_turn sc__law_turn (B__law_turn T)
/-! _law_wrong -/
def F__law_wrong : FS := (sSeq (sFor (iRng1 (f1 lenD (fV 1))) (gNm 2) (sSeq (sSet 3 (f2 ixD (f2 ixD (fV 0) (fC (.int 0))) (f2 ixD (fV 1) (fV 2))))
    (sSeq (sIf (gAnd (gT (f2 gtD (fV 2) (fC (.int 0)))) (gT (f2 leD (f2 ixD (fV 1) (fV 2)) (f2 ixD (fV 1) (f2 subD (fV 2) (fC (.int 1))))))) (sRet (fTup (aCons (fC (.str "order")) (aCons (fV 2) aNil)))) sNext)
    (sSeq (sIf (gT (f2 inD (f2 ixD (fV 3) (fC (.int 0))) (fL (lLc (iSeq (fCut (fV 1) oNone (oSome (fV 2)))) [4] (gNm 4) gYes (f2 ixD (f2 ixD (f2 ixD (fV 0) (fC (.int 0))) (fV 4)) (fC (.int 0))))))) (sRet (fTup (aCons (fC (.str "wish")) (aCons (fV 2) aNil)))) sNext)
    (sSeq (sIf (gT (f2 gtD (fV 2) (fC (.int 0)))) (sSeq (sSet 5 (f2 ixD (f2 ixD (fV 0) (fC (.int 0))) (f2 ixD (fV 1) (f2 subD (fV 2) (fC (.int 1))))))
    (sIf (gT (f2 ltD (f2 ixD (fV 3) (fC (.int 1))) (f2 addD (f2 addD (f2 ixD (fV 5) (fC (.int 1))) (f2 ixD (fV 5) (fC (.int 2)))) (fCall R__law_turn (aCons (fV 0) (aCons (f2 ixD (fV 1) (f2 subD (fV 2) (fC (.int 1)))) (aCons (f2 ixD (fV 1) (fV 2)) aNil))))))) (sRet (fTup (aCons (fC (.str "turning")) (aCons (fV 2) aNil)))) sNext)) sNext)
    (sIf (gT (f2 gtD (f2 addD (fCall R__law_store (aCons (fV 0) (aCons (fCut (fV 1) oNone (oSome (fV 2))) (aCons (f2 ixD (fV 3) (fC (.int 1))) aNil)))) (f2 ixD (fV 3) (fC (.int 4)))) (f2 ixD (fV 0) (fC (.int 3))))) (sRet (fTup (aCons (fC (.str "room")) (aCons (fV 2) aNil)))) sNext))))))
    (sRet (fC .none)))
def R__law_wrong : List D → Option D := runP 6 F__law_wrong
theorem sc__law_wrong : FnScope ["_law_sky_here", "_law_names", "_law_place", "_law_look", "_law_name", "_law_before"] ["_law_sky_here", "_law_names"] (defScope s__law_wrong) := ⟨rfl, rfl, rfl, by decide +kernel, rfl, by decide +kernel, by decide +kernel⟩
theorem B__law_wrong (T : Tx K mg fd) : BodyOk P w K mg base 1 ["_law_sky_here", "_law_names", "_law_place", "_law_look", "_law_name", "_law_before"] "_law_wrong" (defScope s__law_wrong) (He.ga K "_law_wrong") (defBody s__law_wrong) F__law_wrong := by
  intro cv A out s H E pl hr
  unfold F__law_wrong
  exact (ss_cons (ss_for pl.own pl.calm (si_range1 (by rfl) T.n_range (se_callB1 call_lenA c_len (by rfl) T.n_len (sp_of (se_var 1)))) (sg_name (i := 2) pl.nd rfl (by first | exact Or.inl rfl | exact Or.inr rfl)) (ss_cons (ss_set (i := 3) pl.nd rfl (by first | exact Or.inl rfl | exact Or.inr rfl) (se_ix (se_ix (se_var 0) se_int) (se_ix (se_var 1) (se_var 2))))
    (ss_cons (ss_if (st_bool (sw_and (st_cmp op_gt o_gt (se_var 2) se_int (nomark _)) (sw_and1 (st_cmp op_le o_le (se_ix (se_var 1) (se_var 2)) (se_ix (se_var 1) (se_op2 op_sub o_sub (se_var 2) se_int)) (nomark _))))) (ss_one (ss_ret (se_tup (sa_cons se_str (sa_cons (se_var 2) sa_nil))))) ss_nil)
    (ss_cons (ss_if (st_cmp (op_inB (hu65 pl)) o_in (se_ix (se_var 3) se_int) (se_of_new (sl_lc (own := [("_law_name", 4)]) pl (si_seq (se_cut (sp_of (se_var 1)) so_none (so_some (se_var 2)))) (blkOk_by (by kernel_rfl)) (by decide) (fun _ _ _ _ _ pl => (sg_name (i := 4) pl.nd rfl (by first | exact Or.inl rfl | exact Or.inr rfl))) (fun _ _ _ _ _ pl => sts_nil) (fun _ _ _ _ _ pl => se_any (se_ix (se_ix (se_ix (se_var 0) se_int) (se_var 4)) se_int)))) (by rfl)) (ss_one (ss_ret (se_tup (sa_cons se_str (sa_cons (se_var 2) sa_nil))))) ss_nil)
    (ss_cons (ss_if (st_cmp op_gt o_gt (se_var 2) se_int (nomark _)) (ss_cons (ss_set (i := 5) pl.nd rfl (by first | exact Or.inl rfl | exact Or.inr rfl) (se_ix (se_ix (se_var 0) se_int) (se_ix (se_var 1) (se_op2 op_sub o_sub (se_var 2) se_int))))
    (ss_one (ss_if (st_cmp op_lt o_lt (se_ix (se_var 3) se_int) (se_op2 op_addD o_add (se_op2 op_addD o_add (se_ix (se_var 5) se_int) (se_ix (se_var 5) se_int)) (se_call ((O__law_turn T).up (by decide)) pl hr (by rfl) T.g__law_turn T.d__law_turn.kp T.b__law_turn (sa_cons (se_var 0) (sa_cons (se_ix (se_var 1) (se_op2 op_sub o_sub (se_var 2) se_int)) (sa_cons (se_ix (se_var 1) (se_var 2)) sa_nil))) (aCons_len (aCons_len (aCons_len aNil_len))))) (nomark _)) (ss_one (ss_ret (se_tup (sa_cons se_str (sa_cons (se_var 2) sa_nil))))) ss_nil))) ss_nil)
    (ss_one (ss_if (st_cmp op_gt o_gt (se_op2 op_addD o_add (se_call ((O__law_store T).up (by decide)) pl hr (by rfl) T.g__law_store T.d__law_store.kp T.b__law_store (sa_cons (se_var 0) (sa_cons (se_cut (sp_of (se_var 1)) so_none (so_some (se_var 2))) (sa_cons (se_ix (se_var 3) se_int) sa_nil))) (aCons_len (aCons_len (aCons_len aNil_len)))) (se_ix (se_var 3) se_int)) (se_ix (se_var 0) se_int) (nomark _)) (ss_one (ss_ret (se_tup (sa_cons se_str (sa_cons (se_var 2) sa_nil))))) ss_nil)))))))
    (ss_one (ss_ret se_none)))
theorem O__law_wrong (T : Tx K mg fd) : FnG P w K mg base CX0 2 (He.ga K "_law_wrong") (fd 8) ["_law_sky_here", "_law_names"] (spP K 2 R__law_wrong) := FnG.pure T.d__law_wrong sc__law_wrong (B__law_wrong T)
/-! _law_timely -/
def _law_timely_c1 (c__law_need : List D → Option D) (c__law_worth : List D → Option D) : FA := (lLc (iSeq (fV 2)) [3] (gNm 3) gYes (fTup (aCons (fV 3) (aCons (fCall c__law_need (aCons (fV 0) (aCons (fV 3) aNil))) (aCons (fCall c__law_worth (aCons (fV 0) (aCons (fV 3) aNil))) aNil)))))
def _law_timely_c2 (c__law_lists : List D → Option D) (c__law_wrong : List D → Option D) : FA := (lLc (iSeq (fCall c__law_lists (aCons (fV 0) aNil))) [3] (gNm 3) (gT (f2 isD (fCall c__law_wrong (aCons (fV 1) (aCons (fV 3) aNil))) (fC .none))) (fV 3))
def F__law_timely (c__law_roomy : List D → Option D) (c__law_lists : List D → Option D) (c__law_wrong : List D → Option D) (c__law_need : List D → Option D) (c__law_worth : List D → Option D) : FS := (sT (sSet 1 (fCall c__law_roomy (aCons (fV 0) (aCons (fC (.int 1000)) aNil))))
    (sT (sSet 2 (fL (_law_timely_c2 c__law_lists c__law_wrong)))
    (sRet (fL (_law_timely_c1 c__law_need c__law_worth)))))
def R__law_timely : List D → Option D := runP 4 (F__law_timely R__law_roomy R__law_lists R__law_wrong R__law_need R__law_worth)
theorem sc__law_timely : FnScope ["_law_sky_here", "_law_roomy_here", "_law_rows", "_law_names"] ["_law_sky_here"] (defScope s__law_timely) := ⟨rfl, rfl, rfl, by decide +kernel, rfl, by decide +kernel, by decide +kernel⟩
theorem B__law_timely (T : Tx K mg fd) : BodyOk P w K mg base 2 ["_law_sky_here", "_law_roomy_here", "_law_rows", "_law_names"] "_law_timely" (defScope s__law_timely) (He.ga K "_law_timely") (defBody s__law_timely) (F__law_timely R__law_roomy R__law_lists R__law_wrong R__law_need R__law_worth) := by
  intro cv A out s H E pl hr
  unfold F__law_timely _law_timely_c2 _law_timely_c1
  exact (ss_then (ss_set (i := 1) pl.nd rfl (by first | exact Or.inl rfl | exact Or.inr rfl) (se_call ((O__law_roomy T).up (by decide)) pl hr (by rfl) T.g__law_roomy T.d__law_roomy.kp T.b__law_roomy (sa_cons (se_var 0) (sa_cons se_int sa_nil)) (aCons_len (aCons_len aNil_len))))
    (ss_then (ss_lc (i := 2) (own := [("_law_names", 3)]) pl rfl rfl (sw_true rfl rfl rfl (by decide +kernel)) (si_seq (se_call ((O__law_lists T).up (by decide)) pl hr (by rfl) T.g__law_lists T.d__law_lists.kp T.b__law_lists (sa_cons (se_var 0) sa_nil) (aCons_len aNil_len))) (blkOk_by (by kernel_rfl)) (by decide) (fun _ _ _ _ _ pl => (sg_name (i := 3) pl.nd rfl (by first | exact Or.inl rfl | exact Or.inr rfl))) (fun _ _ _ _ _ pl => (sts_one (st_cmp op_isN o_is (se_call ((O__law_wrong T).up (by decide)) pl hr (by rfl) T.g__law_wrong T.d__law_wrong.kp T.b__law_wrong (sa_cons (se_var 1) (sa_cons (se_var 3) sa_nil)) (aCons_len (aCons_len aNil_len))) se_none (nomark _)))) (fun _ _ _ _ _ pl => se_any (se_var 3)))
    (ss_one (ss_ret (se_of_new (sl_lc (own := [("_law_names", 3)]) pl (si_seq (se_var 2)) (blkOk_by (by kernel_rfl)) (by decide) (fun _ _ _ _ _ pl => (sg_name (i := 3) pl.nd rfl (by first | exact Or.inl rfl | exact Or.inr rfl))) (fun _ _ _ _ _ pl => sts_nil) (fun _ _ _ _ _ pl => se_any (se_tup (sa_cons (se_var 3) (sa_cons (se_call ((O__law_need T).up (by decide)) pl hr (by rfl) T.g__law_need T.d__law_need.kp T.b__law_need (sa_cons (se_var 0) (sa_cons (se_var 3) sa_nil)) (aCons_len (aCons_len aNil_len))) (sa_cons (se_call ((O__law_worth T).up (by decide)) pl hr (by rfl) T.g__law_worth T.d__law_worth.kp T.b__law_worth (sa_cons (se_var 0) (sa_cons (se_var 3) sa_nil)) (aCons_len (aCons_len aNil_len))) sa_nil)))))))))))
theorem O__law_timely (T : Tx K mg fd) : FnG P w K mg base CX0 3 (He.ga K "_law_timely") (fd 9) ["_law_sky_here"] (spP K 1 R__law_timely) := FnG.pure T.d__law_timely sc__law_timely (B__law_timely T)
/-! _law_greatest -/
def _law_greatest_c1 : FA := (lLc (iSeq (fV 0)) [2, 3, 4] (gTp 3 (gsCons (gNm 2) (gsCons (gNm 3) (gsCons (gNm 4) gsNil)))) (gT (f2 leD (fV 3) (fV 1))) (fV 4))
def F__law_greatest : FS := (sRet (f1 maxD (fL (_law_greatest_c1))))
def R__law_greatest : List D → Option D := runP 5 F__law_greatest
theorem sc__law_greatest : FnScope ["_law_rows", "_law_capacity", "_law_names", "_law_need_here", "_law_worth_here"] ["_law_rows", "_law_capacity"] (defScope s__law_greatest) := ⟨rfl, rfl, rfl, by decide +kernel, rfl, by decide +kernel, by decide +kernel⟩
theorem B__law_greatest (T : Tx K mg fd) : BodyOk P w K mg base 0 ["_law_rows", "_law_capacity", "_law_names", "_law_need_here", "_law_worth_here"] "_law_greatest" (defScope s__law_greatest) (He.ga K "_law_greatest") (defBody s__law_greatest) F__law_greatest := by
  intro cv A out s H E pl hr
  unfold F__law_greatest _law_greatest_c1
  exact (ss_one (ss_ret (se_callB1 (cr_max pl.calm) c_max (by rfl) T.n_max (sp_of (se_of_new (sl_lc (own := [("_law_names", 2), ("_law_need_here", 3), ("_law_worth_here", 4)]) pl (si_seq (se_var 0)) (blkOk_by (by kernel_rfl)) (by decide) (fun _ _ _ _ _ pl => (sg_tup pl.calm (sgs_cons (sg_name (i := 2) pl.nd rfl (by first | exact Or.inl rfl | exact Or.inr rfl)) (sgs_cons (sg_name (i := 3) pl.nd rfl (by first | exact Or.inl rfl | exact Or.inr rfl)) (sgs_cons (sg_name (i := 4) pl.nd rfl (by first | exact Or.inl rfl | exact Or.inr rfl)) sgs_nil))))) (fun _ _ _ _ _ pl => (sts_one (st_cmp op_le o_le (se_var 3) (se_var 1) (nomark _)))) (fun _ _ _ _ _ pl => se_any (se_var 4))))))))
theorem O__law_greatest (T : Tx K mg fd) : FnG P w K mg base CX0 1 (He.ga K "_law_greatest") (fd 10) ["_law_rows", "_law_capacity"] (spP K 2 R__law_greatest) := FnG.pure T.d__law_greatest sc__law_greatest (B__law_greatest T)
/-! sum_of -/
def sum_of_c1 : FA := (lLc (iSeq (fV 1)) [2] (gNm 2) gYes (f2 ixD (f2 ixD (fV 0) (fC (.int 1))) (fV 2)))
def F_sum_of : FS := (sRet (f1 sumD (fL (sum_of_c1))))
def R_sum_of : List D → Option D := runP 3 F_sum_of
theorem sc_sum_of : FnScope ["sky", "wishes", "wish"] ["sky", "wishes"] (defScope s_sum_of) := ⟨rfl, rfl, rfl, by decide +kernel, rfl, by decide +kernel, by decide +kernel⟩
theorem B_sum_of (T : Tx K mg fd) : BodyOk P w K mg base 0 ["sky", "wishes", "wish"] "sum_of" (defScope s_sum_of) (He.ga K "sum_of") (defBody s_sum_of) F_sum_of := by
  intro cv A out s H E pl hr
  unfold F_sum_of sum_of_c1
  exact (ss_one (ss_ret (se_callB1 (cr_sum pl.calm) c_sum (by rfl) T.n_sum (sp_of (se_of_new (sl_lc (own := [("wish", 2)]) pl (si_seq (se_var 1)) (blkOk_by (by kernel_rfl)) (by decide) (fun _ _ _ _ _ pl => (sg_name (i := 2) pl.nd rfl (by first | exact Or.inl rfl | exact Or.inr rfl))) (fun _ _ _ _ _ pl => sts_nil) (fun _ _ _ _ _ pl => se_any (se_ix (se_ix (se_var 0) se_int) (se_var 2)))))))))
theorem O_sum_of (T : Tx K mg fd) : FnG P w K mg base CX0 1 (He.ga K "sum_of") (fd 11) ["sky", "wishes"] (spP K 2 R_sum_of) := FnG.pure T.d_sum_of sc_sum_of (B_sum_of T)
/-! lowest -/
def lowest_b1 : FS := (sIf (gOr (gNot (gTru (fVp 1))) (gT (f2 ltD (fV 3) (f2 ixD (f2 ixD (fVp 1) (f1 negD (fC (.int 1)))) (fC (.int 1)))))) (sApp 1 (fTup (aCons (fV 2) (aCons (fV 3) aNil)))) sNext)
def F_lowest : FS := (sT (sSetO 1 (lDisp aNil))
    (sT (sForW [2, 3] (iSeq (fL (l1 sortX (fV 0)))) (gTp 2 (gsCons (gNm 2) (gsCons (gNm 3) gsNil))) (lowest_b1))
    (sRet (fV 1))))
def R_lowest : List D → Option D := runP 4 F_lowest
theorem sc_lowest : FnScope ["pairs", "found", "level", "need"] ["pairs"] (defScope s_lowest) := ⟨rfl, rfl, rfl, by decide +kernel, rfl, by decide +kernel, by decide +kernel⟩
theorem B_lowest (T : Tx K mg fd) : BodyOk P w K mg base 0 ["pairs", "found", "level", "need"] "lowest" (defScope s_lowest) (He.ga K "lowest") (defBody s_lowest) F_lowest := by
  intro cv A out s H E pl hr
  unfold F_lowest lowest_b1
  exact (ss_then (ss_setO (i := 1) pl.nd rfl (by first | exact Or.inl rfl | exact Or.inr rfl) (SL.sl_list (k := 0) sa_nil))
    (ss_then (ss_forW [2, 3] pl.own pl.calm (si_seq (se_of_new (sl_callB1 (cr_sortX pl) c_sortX (by rfl) T.n_sorted (sp_of (se_var 0))))) (sg_tup pl.calm (sgs_cons (sg_name (i := 2) pl.nd rfl (by first | exact Or.inl rfl | exact Or.inr rfl)) (sgs_cons (sg_name (i := 3) pl.nd rfl (by first | exact Or.inl rfl | exact Or.inr rfl)) sgs_nil))) (ss_one (ss_if (st_bool (sw_or (st_not (st_tru (sp_var 1))) (sw_or1 (st_cmp op_lt o_lt (se_var 3) (se_ix (se_ixp (sp_var 1) (sp_of (se_op1 un_neg o_neg (sp_of se_int)))) se_int) (nomark _))))) (ss_one (ss_app (pe_bm PySem.F.plainAttrs_list PySem.F.slot_list_append PySem.F.type_list_append mt_append (pv 1) (pa_cons (se_tup (sa_cons (se_var 2) (sa_cons (se_var 3) sa_nil))) pa_nil)))) ss_nil)))
    (ss_one (ss_ret (se_var 1)))))
theorem O_lowest (T : Tx K mg fd) : FnG P w K mg base CX0 1 (He.ga K "lowest") (fd 12) ["pairs"] (spP K 1 R_lowest) := FnG.pure T.d_lowest sc_lowest (B_lowest T)
/-! end_of -/
def F_end_of : FS := (sSeq (sAsg (f2 ixD (f2 ixD (fV 0) (fC (.int 0))) (fV 1)) (gTp 5 (gsCons (gNm 2) (gsCons (gNm 3) (gsCons (gNm 4) (gsCons (gNm 5) (gsCons (gNm 6) gsNil)))))))
    (sRet (f2 addD (fV 3) (fV 4))))
def R_end_of : List D → Option D := runP 7 F_end_of
theorem sc_end_of : FnScope ["sky", "look", "wish", "start", "length", "angle", "size"] ["sky", "look"] (defScope s_end_of) := ⟨rfl, rfl, rfl, by decide +kernel, rfl, by decide +kernel, by decide +kernel⟩
theorem B_end_of (T : Tx K mg fd) : BodyOk P w K mg base 0 ["sky", "look", "wish", "start", "length", "angle", "size"] "end_of" (defScope s_end_of) (He.ga K "end_of") (defBody s_end_of) F_end_of := by
  intro cv A out s H E pl hr
  unfold F_end_of
  exact (ss_cons (ss_asg (se_ix (se_ix (se_var 0) se_int) (se_var 1)) (sg_tup pl.calm (sgs_cons (sg_name (i := 2) pl.nd rfl (by first | exact Or.inl rfl | exact Or.inr rfl)) (sgs_cons (sg_name (i := 3) pl.nd rfl (by first | exact Or.inl rfl | exact Or.inr rfl)) (sgs_cons (sg_name (i := 4) pl.nd rfl (by first | exact Or.inl rfl | exact Or.inr rfl)) (sgs_cons (sg_name (i := 5) pl.nd rfl (by first | exact Or.inl rfl | exact Or.inr rfl)) (sgs_cons (sg_name (i := 6) pl.nd rfl (by first | exact Or.inl rfl | exact Or.inr rfl)) sgs_nil)))))))
    (ss_one (ss_ret (se_op2 op_addD o_add (se_var 3) (se_var 4)))))
theorem O_end_of (T : Tx K mg fd) : FnG P w K mg base CX0 1 (He.ga K "end_of") (fd 13) ["sky", "look"] (spP K 2 R_end_of) := FnG.pure T.d_end_of sc_end_of (B_end_of T)
/-! turning -/
def F_turning : FS := (sRet (f1 negD (f2 divD (f1 negD (f1 absD (f2 subD (f2 ixD (f2 ixD (f2 ixD (fV 0) (fC (.int 0))) (fV 2)) (fC (.int 3))) (f2 ixD (f2 ixD (f2 ixD (fV 0) (fC (.int 0))) (fV 1)) (fC (.int 3)))))) (f2 ixD (fV 0) (fC (.int 4))))))
def R_turning : List D → Option D := runP 3 F_turning
theorem sc_turning : FnScope ["sky", "first", "second"] ["sky", "first", "second"] (defScope s_turning) := ⟨rfl, rfl, rfl, by decide +kernel, rfl, by decide +kernel, by decide +kernel⟩
theorem B_turning (T : Tx K mg fd) : BodyOk P w K mg base 0 ["sky", "first", "second"] "turning" (defScope s_turning) (He.ga K "turning") (defBody s_turning) F_turning := by
  intro cv A out s H E pl hr
  unfold F_turning
  exact (ss_one (ss_ret (se_op1 un_neg o_neg (sp_of (se_op2 op_fdivN o_div (se_op1 un_neg o_neg (sp_of (se_callB1 call_abs c_abs (by rfl) T.n_abs (sp_of (se_op2 op_sub o_sub (se_ix (se_ix (se_ix (se_var 0) se_int) (se_var 2)) se_int) (se_ix (se_ix (se_ix (se_var 0) se_int) (se_var 1)) se_int)))))) (se_ix (se_var 0) se_int))))))
theorem O_turning (T : Tx K mg fd) : FnG P w K mg base CX0 1 (He.ga K "turning") (fd 14) ["sky", "first", "second"] (spP K 3 R_turning) := FnG.pure T.d_turning sc_turning (B_turning T)
/-! follows -/
def F_follows : FS := (sRet (f2 geD (f2 ixD (f2 ixD (f2 ixD (fV 0) (fC (.int 0))) (fV 2)) (fC (.int 1))) (f2 addD (fCall R_end_of (aCons (fV 0) (aCons (fV 1) aNil))) (fCall R_turning (aCons (fV 0) (aCons (fV 1) (aCons (fV 2) aNil)))))))
def R_follows : List D → Option D := runP 3 F_follows
theorem sc_follows : FnScope ["sky", "first", "second"] ["sky", "first", "second"] (defScope s_follows) := ⟨rfl, rfl, rfl, by decide +kernel, rfl, by decide +kernel, by decide +kernel⟩
theorem B_follows (T : Tx K mg fd) : BodyOk P w K mg base 1 ["sky", "first", "second"] "follows" (defScope s_follows) (He.ga K "follows") (defBody s_follows) F_follows := by
  intro cv A out s H E pl hr
  unfold F_follows
  exact (ss_one (ss_ret (se_cmp op_ge o_ge (se_ix (se_ix (se_ix (se_var 0) se_int) (se_var 2)) se_int) (se_op2 op_addD o_add (se_call ((O_end_of T).up (by decide)) pl hr (by rfl) T.g_end_of T.d_end_of.kp T.b_end_of (sa_cons (se_var 0) (sa_cons (se_var 1) sa_nil)) (aCons_len (aCons_len aNil_len))) (se_call ((O_turning T).up (by decide)) pl hr (by rfl) T.g_turning T.d_turning.kp T.b_turning (sa_cons (se_var 0) (sa_cons (se_var 1) (sa_cons (se_var 2) sa_nil))) (aCons_len (aCons_len (aCons_len aNil_len))))) (nomark _))))
theorem O_follows (T : Tx K mg fd) : FnG P w K mg base CX0 2 (He.ga K "follows") (fd 15) ["sky", "first", "second"] (spP K 3 R_follows) := FnG.pure T.d_follows sc_follows (B_follows T)
/-! loss -/
def F_loss : FS := (sSeq (sSet 3 (fC (.int 0)))
    (sSeq (sFor (iSeq (fV 0)) (gTp 3 (gsCons (gNm 4) (gsCons (gNm 5) (gsCons (gNm 6) gsNil)))) (sAug 3 iaddD (f2 mulD (fV 6) (f2 max2D (fC (.int 0)) (f2 subD (f2 min2D (fV 2) (fV 5)) (f2 max2D (fV 1) (fV 4)))))))
    (sRet (fV 3))))
def R_loss : List D → Option D := runP 7 F_loss
theorem sc_loss : FnScope ["ears", "since", "until", "found", "first", "last", "rate"] ["ears", "since", "until"] (defScope s_loss) := ⟨rfl, rfl, rfl, by decide +kernel, rfl, by decide +kernel, by decide +kernel⟩
theorem B_loss (T : Tx K mg fd) : BodyOk P w K mg base 0 ["ears", "since", "until", "found", "first", "last", "rate"] "loss" (defScope s_loss) (He.ga K "loss") (defBody s_loss) F_loss := by
  intro cv A out s H E pl hr
  unfold F_loss
  exact (ss_cons (ss_set (i := 3) pl.nd rfl (by first | exact Or.inl rfl | exact Or.inr rfl) se_int)
    (ss_cons (ss_for pl.own pl.calm (si_seq (se_var 0)) (sg_tup pl.calm (sgs_cons (sg_name (i := 4) pl.nd rfl (by first | exact Or.inl rfl | exact Or.inr rfl)) (sgs_cons (sg_name (i := 5) pl.nd rfl (by first | exact Or.inl rfl | exact Or.inr rfl)) (sgs_cons (sg_name (i := 6) pl.nd rfl (by first | exact Or.inl rfl | exact Or.inr rfl)) sgs_nil)))) (ss_one (ss_aug (i := 3) pl.nd rfl (by first | exact Or.inl rfl | exact Or.inr rfl) (se_op2 op_mul o_mul (se_var 6) (se_callB2 (call_max2 pl.calm) c_max2 (by rfl) T.n_max se_int (se_op2 op_sub o_sub (se_callB2 (call_min2 pl.calm) c_min2 (by rfl) T.n_min (se_var 2) (se_var 5)) (se_callB2 (call_max2 pl.calm) c_max2 (by rfl) T.n_max (se_var 1) (se_var 4))))) ip_add o_iadd)))
    (ss_one (ss_ret (se_var 3)))))
theorem O_loss (T : Tx K mg fd) : FnG P w K mg base CX0 1 (He.ga K "loss") (fd 16) ["ears", "since", "until"] (spP K 3 R_loss) := FnG.pure T.d_loss sc_loss (B_loss T)
/-! emptied -/
def F_emptied : FS := (sRet (f2 max2D (fC (.int 0)) (f2 subD (fV 1) (fCall R_loss (aCons (f2 ixD (fV 0) (fC (.int 2))) (aCons (fV 2) (aCons (fV 3) aNil)))))))
def R_emptied : List D → Option D := runP 4 F_emptied
theorem sc_emptied : FnScope ["sky", "amount", "since", "until"] ["sky", "amount", "since", "until"] (defScope s_emptied) := ⟨rfl, rfl, rfl, by decide +kernel, rfl, by decide +kernel, by decide +kernel⟩
theorem B_emptied (T : Tx K mg fd) : BodyOk P w K mg base 1 ["sky", "amount", "since", "until"] "emptied" (defScope s_emptied) (He.ga K "emptied") (defBody s_emptied) F_emptied := by
  intro cv A out s H E pl hr
  unfold F_emptied
  exact (ss_one (ss_ret (se_callB2 (call_max2 pl.calm) c_max2 (by rfl) T.n_max se_int (se_op2 op_sub o_sub (se_var 1) (se_call ((O_loss T).up (by decide)) pl hr (by rfl) T.g_loss T.d_loss.kp T.b_loss (sa_cons (se_ix (se_var 0) se_int) (sa_cons (se_var 2) (sa_cons (se_var 3) sa_nil))) (aCons_len (aCons_len (aCons_len aNil_len))))))))
theorem O_emptied (T : Tx K mg fd) : FnG P w K mg base CX0 2 (He.ga K "emptied") (fd 17) ["sky", "amount", "since", "until"] (spP K 4 R_emptied) := FnG.pure T.d_emptied sc_emptied (B_emptied T)
/-! stored_at -/
def F_stored_at : FS := (sSeq (sIf (gT (f2 isD (fV 1) (fC .none))) (sRet (fC (.int 0))) sNext)
    (sRet (fCall R_emptied (aApp (aCons (fV 0) (aCons (fV 2) aNil)) (aCons (fCall R_end_of (aCons (fV 0) (aCons (fV 1) aNil))) (aCons (fV 3) aNil))))))
def R_stored_at : List D → Option D := runP 4 F_stored_at
theorem sc_stored_at : FnScope ["sky", "look", "amount", "time"] ["sky", "look", "amount", "time"] (defScope s_stored_at) := ⟨rfl, rfl, rfl, by decide +kernel, rfl, by decide +kernel, by decide +kernel⟩
theorem B_stored_at (T : Tx K mg fd) : BodyOk P w K mg base 2 ["sky", "look", "amount", "time"] "stored_at" (defScope s_stored_at) (He.ga K "stored_at") (defBody s_stored_at) F_stored_at := by
  intro cv A out s H E pl hr
  unfold F_stored_at
  exact (ss_cons (ss_if (st_cmp op_isN o_is (se_var 1) se_none (nomark _)) (ss_one (ss_ret se_int)) ss_nil)
    (ss_one (ss_ret (se_ofCall (pe_callKA ((O_emptied T).up (by decide)) hr pl.guards (by rfl) T.g_emptied T.d_emptied.kp T.kb_emptied_2 pass0 (sa_cons (se_var 0) (sa_cons (se_var 2) sa_nil)) (sk_cons (se_call ((O_end_of T).up (by decide)) pl hr (by rfl) T.g_end_of T.d_end_of.kp T.b_end_of (sa_cons (se_var 0) (sa_cons (se_var 1) sa_nil)) (aCons_len (aCons_len aNil_len))) (sk_cons (se_var 3) sk_nil)) (aCons_len (aCons_len aNil_len)) (aCons_len (aCons_len aNil_len))) (aApp_len (aCons_len (aCons_len aNil_len)) (aCons_len (aCons_len aNil_len)))))))
theorem O_stored_at (T : Tx K mg fd) : FnG P w K mg base CX0 3 (He.ga K "stored_at") (fd 18) ["sky", "look", "amount", "time"] (spP K 4 R_stored_at) := FnG.pure T.d_stored_at sc_stored_at (B_stored_at T)
/-! least_needs -/
def least_needs_c1 : FA := (lLc (iSeq (fV 11)) [6, 13] (gTp 2 (gsCons (gNm 6) (gsCons (gNm 13) gsNil))) gYes (fV 13))
def least_needs_b1 : FS := (sT (sSet 18 (f1 minD (fL (least_needs_c1))))
    (sDput 17 (fV 10) (f2 min2D (fDgetOr 17 (fV 10) (fV 18)) (fV 18))))
def least_needs_b2 (c_stored_at : List D → Option D) (c_lowest : List D → Option D) : FS := (sT (sSet 15 (f2 max2D (fV 13) (f2 addD (fCall c_stored_at (aCons (fV 0) (aCons (fV 9) (aCons (fV 14) (aCons (fV 4) aNil))))) (fV 7))))
    (sT (sSet 12 (f2 addD (fCall c_stored_at (aCons (fV 0) (aCons (fV 9) (aCons (fV 14) (aCons (f2 addD (fV 4) (fV 5)) aNil))))) (fV 7)))
    (sT (sSet 16 (fTup (aCons (fV 2) (aCons (f1 tupD (fL (l1 sortX (f2 addD (fV 10) (fTup (aCons (fV 3) aNil)))))) aNil))))
    (sDput 1 (fV 16) (fCall c_lowest (aCons (f2 addD (fDgetOr 1 (fV 16) (fL (lDisp aNil))) (fL (lDisp (aCons (fTup (aCons (fV 12) (aCons (fV 15) aNil))) aNil)))) aNil))))))
def least_needs_c2 : FA := (lLc (iSeq (fV 11)) [12, 13] (gTp 2 (gsCons (gNm 12) (gsCons (gNm 13) gsNil))) gYes (fTup (aCons (fV 9) (aCons (fV 10) (aCons (fV 12) (aCons (fV 13) aNil))))))
def least_needs_b3 (c_follows : List D → Option D) : FS := (sIf (gAnd (gT (f2 notInD (fV 3) (fV 10))) (gTru (fCall c_follows (aCons (fV 0) (aCons (fV 9) (aCons (fV 2) aNil)))))) (sExt 8 (least_needs_c2)) sNext)
def least_needs_b4 (c_follows : List D → Option D) (c_stored_at : List D → Option D) (c_lowest : List D → Option D) : FS := (sT (sSetO 8 (lDisp (aCons (fTup (aCons (fC .none) (aCons (fTup aNil) (aCons (fC (.int 0)) (aCons (fC (.int 0)) aNil))))) aNil)))
    (sT (sForD itemsD 1 [9, 10, 11] (gTp 2 (gsCons (gTp 2 (gsCons (gNm 9) (gsCons (gNm 10) gsNil))) (gsCons (gNm 11) gsNil))) (least_needs_b3 c_follows))
    (sForW [9, 10, 12, 13, 14, 15, 16] (iSeq (fV 8)) (gTp 4 (gsCons (gNm 9) (gsCons (gNm 10) (gsCons (gNm 14) (gsCons (gNm 13) gsNil))))) (least_needs_b2 c_stored_at c_lowest))))
def F_least_needs (c_follows : List D → Option D) (c_stored_at : List D → Option D) (c_lowest : List D → Option D) : FS := (sT (sSetD 1 dNil)
    (sT (sForW [2, 3, 4, 5, 6, 7, 8, 9, 10, 11, 12, 13, 14, 15, 16] (iEnumD (f2 ixD (fV 0) (fC (.int 0)))) (gTp 2 (gsCons (gNm 2) (gsCons (gTp 5 (gsCons (gNm 3) (gsCons (gNm 4) (gsCons (gNm 5) (gsCons (gNm 6) (gsCons (gNm 7) gsNil)))))) gsNil))) (least_needs_b4 c_follows c_stored_at c_lowest))
    (sT (sSetD 17 (dOne (fTup aNil) (fC (.int 0))))
    (sT (sForW [6, 10, 11, 18] (iDItems (fV 1)) (gTp 2 (gsCons (gTp 2 (gsCons (gNm 6) (gsCons (gNm 10) gsNil))) (gsCons (gNm 11) gsNil))) (least_needs_b1))
    (sRet (fV 17))))))
def R_least_needs : List D → Option D := runP 19 (F_least_needs R_follows R_stored_at R_lowest)
theorem sc_least_needs : FnScope ["sky", "rows", "look", "wish", "start", "length", "_", "size", "beginnings", "last", "wishes", "pairs", "level", "need", "amount", "higher", "key", "found", "least"] ["sky"] (defScope s_least_needs) := ⟨rfl, rfl, rfl, by decide +kernel, rfl, by decide +kernel, by decide +kernel⟩
theorem B_least_needs (T : Tx K mg fd) : BodyOk P w K mg base 3 ["sky", "rows", "look", "wish", "start", "length", "_", "size", "beginnings", "last", "wishes", "pairs", "level", "need", "amount", "higher", "key", "found", "least"] "least_needs" (defScope s_least_needs) (He.ga K "least_needs") (defBody s_least_needs) (F_least_needs R_follows R_stored_at R_lowest) := by
  intro cv A out s H E pl hr
  unfold F_least_needs least_needs_b4 least_needs_b3 least_needs_c2 least_needs_b2 least_needs_b1 least_needs_c1
  exact (ss_then (ss_setD (i := 1) pl.nd rfl (by first | exact Or.inl rfl | exact Or.inr rfl) sd_nil)
    (ss_then (ss_forW [2, 3, 4, 5, 6, 7, 8, 9, 10, 11, 12, 13, 14, 15, 16] pl.own pl.calm (si_enum (by rfl) T.n_enumerate (se_ix (se_var 0) se_int)) (sg_tup pl.calm (sgs_cons (sg_name (i := 2) pl.nd rfl (by first | exact Or.inl rfl | exact Or.inr rfl)) (sgs_cons (sg_tup pl.calm (sgs_cons (sg_name (i := 3) pl.nd rfl (by first | exact Or.inl rfl | exact Or.inr rfl)) (sgs_cons (sg_name (i := 4) pl.nd rfl (by first | exact Or.inl rfl | exact Or.inr rfl)) (sgs_cons (sg_name (i := 5) pl.nd rfl (by first | exact Or.inl rfl | exact Or.inr rfl)) (sgs_cons (sg_name (i := 6) pl.nd rfl (by first | exact Or.inl rfl | exact Or.inr rfl)) (sgs_cons (sg_name (i := 7) pl.nd rfl (by first | exact Or.inl rfl | exact Or.inr rfl)) sgs_nil)))))) sgs_nil))) (ss_then (ss_setO (i := 8) pl.nd rfl (by first | exact Or.inl rfl | exact Or.inr rfl) (SL.sl_list (k := 0) (sa_cons (se_tup (sa_cons se_none (sa_cons (se_tup sa_nil) (sa_cons se_int (sa_cons se_int sa_nil))))) sa_nil)))
    (ss_then (ss_forD 1 [9, 10, 11] pl.own pl.calm (pi_ownItems 1) th_items (by decide) (sg_tup pl.calm (sgs_cons (sg_tup pl.calm (sgs_cons (sg_name (i := 9) pl.nd rfl (by first | exact Or.inl rfl | exact Or.inr rfl)) (sgs_cons (sg_name (i := 10) pl.nd rfl (by first | exact Or.inl rfl | exact Or.inr rfl)) sgs_nil))) (sgs_cons (sg_name (i := 11) pl.nd rfl (by first | exact Or.inl rfl | exact Or.inr rfl)) sgs_nil))) (ss_one (ss_if (st_bool (sw_and (st_cmp (op_notInB (hu65 pl)) o_notIn (se_var 3) (se_var 10) (by rfl)) (sw_and1 (st_tru (sp_of (se_call ((O_follows T).up (by decide)) pl hr (by rfl) T.g_follows T.d_follows.kp T.b_follows (sa_cons (se_var 0) (sa_cons (se_var 9) (sa_cons (se_var 2) sa_nil))) (aCons_len (aCons_len (aCons_len aNil_len))))))))) (ss_one (ss_ext (pe_bm PySem.F.plainAttrs_list PySem.F.slot_list_extend PySem.F.type_list_extend mt_extend (pv 8) (pa_cons (sl_lc (own := [("level", 12), ("need", 13)]) pl (si_seq (se_var 11)) (blkOk_by (by kernel_rfl)) (by decide) (fun _ _ _ _ _ pl => (sg_tup pl.calm (sgs_cons (sg_name (i := 12) pl.nd rfl (by first | exact Or.inl rfl | exact Or.inr rfl)) (sgs_cons (sg_name (i := 13) pl.nd rfl (by first | exact Or.inl rfl | exact Or.inr rfl)) sgs_nil)))) (fun _ _ _ _ _ pl => sts_nil) (fun _ _ _ _ _ pl => se_any (se_tup (sa_cons (se_var 9) (sa_cons (se_var 10) (sa_cons (se_var 12) (sa_cons (se_var 13) sa_nil))))))) pa_nil)))) ss_nil)))
    (ss_one (ss_forW [9, 10, 12, 13, 14, 15, 16] pl.own pl.calm (si_seq (se_var 8)) (sg_tup pl.calm (sgs_cons (sg_name (i := 9) pl.nd rfl (by first | exact Or.inl rfl | exact Or.inr rfl)) (sgs_cons (sg_name (i := 10) pl.nd rfl (by first | exact Or.inl rfl | exact Or.inr rfl)) (sgs_cons (sg_name (i := 14) pl.nd rfl (by first | exact Or.inl rfl | exact Or.inr rfl)) (sgs_cons (sg_name (i := 13) pl.nd rfl (by first | exact Or.inl rfl | exact Or.inr rfl)) sgs_nil))))) (ss_then (ss_set (i := 15) pl.nd rfl (by first | exact Or.inl rfl | exact Or.inr rfl) (se_callB2 (call_max2 pl.calm) c_max2 (by rfl) T.n_max (se_var 13) (se_op2 op_addD o_add (se_call ((O_stored_at T).up (by decide)) pl hr (by rfl) T.g_stored_at T.d_stored_at.kp T.b_stored_at (sa_cons (se_var 0) (sa_cons (se_var 9) (sa_cons (se_var 14) (sa_cons (se_var 4) sa_nil)))) (aCons_len (aCons_len (aCons_len (aCons_len aNil_len))))) (se_var 7))))
    (ss_then (ss_set (i := 12) pl.nd rfl (by first | exact Or.inl rfl | exact Or.inr rfl) (se_op2 op_addD o_add (se_call ((O_stored_at T).up (by decide)) pl hr (by rfl) T.g_stored_at T.d_stored_at.kp T.b_stored_at (sa_cons (se_var 0) (sa_cons (se_var 9) (sa_cons (se_var 14) (sa_cons (se_op2 op_addD o_add (se_var 4) (se_var 5)) sa_nil)))) (aCons_len (aCons_len (aCons_len (aCons_len aNil_len))))) (se_var 7)))
    (ss_then (ss_set (i := 16) pl.nd rfl (by first | exact Or.inl rfl | exact Or.inr rfl) (se_tup (sa_cons (se_var 2) (sa_cons (se_callT1 call_tuple_of c_tup (by rfl) T.n_tuple (sp_of (se_of_new (sl_callB1 (cr_sortX pl) c_sortX (by rfl) T.n_sorted (sp_of (se_op2 op_addD o_add (se_var 10) (se_tup (sa_cons (se_var 3) sa_nil)))))))) sa_nil))))
    (ss_one (ss_dput pl 1 (se_call ((O_lowest T).up (by decide)) pl hr (by rfl) T.g_lowest T.d_lowest.kp T.b_lowest (sa_cons (se_op2 op_addD o_add (se_dgetOr pl 1 (se_var 16) (se_of_new (SL.sl_list (k := 0) sa_nil))) (se_of_new (SL.sl_list (k := 0) (sa_cons (se_tup (sa_cons (se_var 12) (sa_cons (se_var 15) sa_nil))) sa_nil)))) sa_nil) (aCons_len aNil_len)) (se_var 16)))))))))))
    (ss_then (ss_setD (i := 17) pl.nd rfl (by first | exact Or.inl rfl | exact Or.inr rfl) (sd_one pl (se_tup sa_nil) se_int))
    (ss_then (ss_forW [6, 10, 11, 18] pl.own pl.calm (si_ditems (se_var 1)) (sg_tup pl.calm (sgs_cons (sg_tup pl.calm (sgs_cons (sg_name (i := 6) pl.nd rfl (by first | exact Or.inl rfl | exact Or.inr rfl)) (sgs_cons (sg_name (i := 10) pl.nd rfl (by first | exact Or.inl rfl | exact Or.inr rfl)) sgs_nil))) (sgs_cons (sg_name (i := 11) pl.nd rfl (by first | exact Or.inl rfl | exact Or.inr rfl)) sgs_nil))) (ss_then (ss_set (i := 18) pl.nd rfl (by first | exact Or.inl rfl | exact Or.inr rfl) (se_callB1 (cr_min pl.calm) c_min (by rfl) T.n_min (sp_of (se_of_new (sl_lc (own := [("_", 6), ("need", 13)]) pl (si_seq (se_var 11)) (blkOk_by (by kernel_rfl)) (by decide) (fun _ _ _ _ _ pl => (sg_tup pl.calm (sgs_cons (sg_name (i := 6) pl.nd rfl (by first | exact Or.inl rfl | exact Or.inr rfl)) (sgs_cons (sg_name (i := 13) pl.nd rfl (by first | exact Or.inl rfl | exact Or.inr rfl)) sgs_nil)))) (fun _ _ _ _ _ pl => sts_nil) (fun _ _ _ _ _ pl => se_any (se_var 13)))))))
    (ss_one (ss_dput pl 17 (se_callB2 (call_min2 pl.calm) c_min2 (by rfl) T.n_min (se_dgetOr pl 17 (se_var 10) (se_var 18)) (se_var 18)) (se_var 10)))))
    (ss_one (ss_ret (se_var 17)))))))
theorem O_least_needs (T : Tx K mg fd) : FnG P w K mg base CX0 4 (He.ga K "least_needs") (fd 19) ["sky"] (spP K 1 R_least_needs) := FnG.pure T.d_least_needs sc_least_needs (B_least_needs T)
/-! worths_and_needs -/
def worths_and_needs_c1 (c_least_needs : List D → Option D) (c_sum_of : List D → Option D) : FA := (lLc (iDItems (fCall c_least_needs (aCons (fV 0) aNil))) [1, 2] (gTp 2 (gsCons (gNm 1) (gsCons (gNm 2) gsNil))) gYes (fTup (aCons (fCall c_sum_of (aCons (fV 0) (aCons (fV 1) aNil))) (aCons (f2 max2D (fC (.int 1)) (fV 2)) aNil))))
def F_worths_and_needs (c_least_needs : List D → Option D) (c_sum_of : List D → Option D) : FS := (sRet (fL (worths_and_needs_c1 c_least_needs c_sum_of)))
def R_worths_and_needs : List D → Option D := runP 3 (F_worths_and_needs R_least_needs R_sum_of)
theorem sc_worths_and_needs : FnScope ["sky", "wishes", "need"] ["sky"] (defScope s_worths_and_needs) := ⟨rfl, rfl, rfl, by decide +kernel, rfl, by decide +kernel, by decide +kernel⟩
theorem B_worths_and_needs (T : Tx K mg fd) : BodyOk P w K mg base 4 ["sky", "wishes", "need"] "worths_and_needs" (defScope s_worths_and_needs) (He.ga K "worths_and_needs") (defBody s_worths_and_needs) (F_worths_and_needs R_least_needs R_sum_of) := by
  intro cv A out s H E pl hr
  unfold F_worths_and_needs worths_and_needs_c1
  exact (ss_one (ss_ret (se_of_new (sl_lc (own := [("wishes", 1), ("need", 2)]) pl (si_ditems (se_call ((O_least_needs T).up (by decide)) pl hr (by rfl) T.g_least_needs T.d_least_needs.kp T.b_least_needs (sa_cons (se_var 0) sa_nil) (aCons_len aNil_len))) (blkOk_by (by kernel_rfl)) (by decide) (fun _ _ _ _ _ pl => (sg_tup pl.calm (sgs_cons (sg_name (i := 1) pl.nd rfl (by first | exact Or.inl rfl | exact Or.inr rfl)) (sgs_cons (sg_name (i := 2) pl.nd rfl (by first | exact Or.inl rfl | exact Or.inr rfl)) sgs_nil)))) (fun _ _ _ _ _ pl => sts_nil) (fun _ _ _ _ _ pl => se_any (se_tup (sa_cons (se_call ((O_sum_of T).up (by decide)) pl hr (by rfl) T.g_sum_of T.d_sum_of.kp T.b_sum_of (sa_cons (se_var 0) (sa_cons (se_var 1) sa_nil)) (aCons_len (aCons_len aNil_len))) (sa_cons (se_callB2 (call_max2 pl.calm) c_max2 (by rfl) T.n_max se_int (se_var 2)) sa_nil))))))))
theorem O_worths_and_needs (T : Tx K mg fd) : FnG P w K mg base CX0 5 (He.ga K "worths_and_needs") (fd 20) ["sky"] (spP K 1 R_worths_and_needs) := FnG.pure T.d_worths_and_needs sc_worths_and_needs (B_worths_and_needs T)
/-! steps -/
def steps_b1 : FS := (sIf (gOr (gNot (gTru (fVp 1))) (gT (f2 gtD (fV 2) (f2 ixD (f2 ixD (fVp 1) (f1 negD (fC (.int 1)))) (fC (.int 1)))))) (sApp 1 (fTup (aCons (fV 3) (aCons (fV 2) aNil)))) sNext)
def F_steps (c_worths_and_needs : List D → Option D) : FS := (sT (sSetO 1 (lDisp aNil))
    (sT (sForW [2, 3] (iSeq (fL (lKey rowB rowK (fCall c_worths_and_needs (aCons (fV 0) aNil))))) (gTp 2 (gsCons (gNm 2) (gsCons (gNm 3) gsNil))) (steps_b1))
    (sRetO 1)))
def R_steps : List D → Option (List D) := runO 4 (F_steps R_worths_and_needs)
theorem sc_steps : FnScope ["sky", "found", "worth", "need"] ["sky"] (defScope s_steps) := ⟨rfl, rfl, rfl, by decide +kernel, rfl, by decide +kernel, by decide +kernel⟩
theorem B_steps [TBL] (T : Tx K mg fd) (hT : tabP "steps" K ∈ TBL.T) (hu : ∀ z ∈ TBL.T, z.1 = (tabP "steps" K).1 → z.2 = (tabP "steps" K).2) (TB : LamX.TabB base mg (He.cT K ("steps", none)).1 (He.cT K ("steps", none)).2) : BodyOkT P w K mg base 5 ["sky", "found", "worth", "need"] "steps" (defScope s_steps) (He.ga K "steps") (.ref (He.codeOf K ("steps", none))) (defBody s_steps) (F_steps R_worths_and_needs) := by
  intro A out s H E pl hr
  unfold F_steps steps_b1
  exact (ss_then (ss_setO (i := 1) pl.nd rfl (by first | exact Or.inl rfl | exact Or.inr rfl) (SL.sl_list (k := 0) sa_nil))
    (ss_then (ss_forW [2, 3] pl.own pl.calm (si_seq (se_of_new (sl_sortLam (x := "row") pl hr (by rfl) T.n_sorted (sp_of (se_call ((O_worths_and_needs T).up (by decide)) pl hr (by rfl) T.g_worths_and_needs T.d_worths_and_needs.kp T.b_worths_and_needs (sa_cons (se_var 0) sa_nil) (aCons_len aNil_len))) rows_good (rows_body (by rfl) (by rfl) (by decide)) TB (by rfl) (by rfl) hT hu (by rfl) (no_free (by rfl)) (by rfl) (by rfl) (by rfl) (no_cell (by rfl)) (by rfl) (fun _ _ _ _ _ _ => by rfl)))) (sg_tup pl.calm (sgs_cons (sg_name (i := 2) pl.nd rfl (by first | exact Or.inl rfl | exact Or.inr rfl)) (sgs_cons (sg_name (i := 3) pl.nd rfl (by first | exact Or.inl rfl | exact Or.inr rfl)) sgs_nil))) (ss_one (ss_if (st_bool (sw_or (st_not (st_tru (sp_var 1))) (sw_or1 (st_cmp op_gt o_gt (se_var 2) (se_ix (se_ixp (sp_var 1) (sp_of (se_op1 un_neg o_neg (sp_of se_int)))) se_int) (nomark _))))) (ss_one (ss_app (pe_bm PySem.F.plainAttrs_list PySem.F.slot_list_append PySem.F.type_list_append mt_append (pv 1) (pa_cons (se_tup (sa_cons (se_var 3) (sa_cons (se_var 2) sa_nil))) pa_nil)))) ss_nil)))
    (ss_one (ss_retO 1))))
theorem O_steps [TBL] (T : Tx K mg fd) (hT : tabP "steps" K ∈ TBL.T) (hu : ∀ z ∈ TBL.T, z.1 = (tabP "steps" K).1 → z.2 = (tabP "steps" K).2) (TB : LamX.TabB base mg (He.cT K ("steps", none)).1 (He.cT K ("steps", none)).2) : FnG P w K mg base CX0 6 (He.ga K "steps") (fd 21) ["sky"] (spOL K 1 R_steps) := FnG.ownT (p0 := ("steps", none)) T.d_steps rfl sc_steps (B_steps T hT hu TB)
/-! _law_is_whole -/
def F__law_is_whole : FS := (sRet (fAnd (f1 (isiD "int") (fV 0)) (fNot (f1 (isiD "bool") (fV 0)))))
def R__law_is_whole : List D → Option D := runP 1 F__law_is_whole
theorem sc__law_is_whole : FnScope ["_law_value"] ["_law_value"] (defScope s__law_is_whole) := ⟨rfl, rfl, rfl, by decide +kernel, rfl, by decide +kernel, by decide +kernel⟩
theorem B__law_is_whole (T : Tx K mg fd) : BodyOk P w K mg base 0 ["_law_value"] "_law_is_whole" (defScope s__law_is_whole) (He.ga K "_law_is_whole") (defBody s__law_is_whole) F__law_is_whole := by
  intro cv A out s H E pl hr
  unfold F__law_is_whole
  exact (ss_one (ss_ret (se_and (se_isi (T := "int") (by rfl) T.n_isinstance (by rfl) T.n_int (sp_of (se_var 0))) (se_one (se_not (se_isi (T := "bool") (by rfl) T.n_isinstance (by rfl) T.n_bool (sp_of (se_var 0))))))))
theorem O__law_is_whole (T : Tx K mg fd) : FnG P w K mg base CX0 1 (He.ga K "_law_is_whole") (fd 22) ["_law_value"] (spP K 1 R__law_is_whole) := FnG.pure T.d__law_is_whole sc__law_is_whole (B__law_is_whole T)
/-! law -/
def law_c1 (c__law_is_whole : List D → Option D) : FA := (lLcP 9 [10] (gNm 10) gYes (fAnd (fCall c__law_is_whole (aCons (f2 ixD (fV 10) (fC (.int 0))) aNil)) (fCall c__law_is_whole (aCons (f2 ixD (fV 10) (fC (.int 1))) aNil))))
def law_b1 (c_steps : List D → Option (List D)) (c__law_is_whole : List D → Option D) : FS := (sT (sSetO 9 (lCall c_steps (aCons (fV 2) aNil)))
    (sT (sIf (gOr (gNot (gTru (f1 (isiD "list") (fVp 9)))) (gT (f2 neD (fVp 9) (fVp 5)))) (sRet (fC (.bool false))) sNext)
    (sT (sIf (gNot (gTru (f1 allD (fL (law_c1 c__law_is_whole))))) (sRet (fC (.bool false))) sNext)
    (sClr 9))))
def law_b2 (c__law_greatest : List D → Option D) : FS := (sT (sSet 7 (fCall c__law_greatest (aCons (fV 4) (aCons (fV 6) aNil))))
    (sIf (gOr (gT (f2 eqD (f1 lenD (fVp 5)) (fC (.int 0)))) (gT (f2 gtD (fV 7) (f2 ixD (f2 ixD (fVp 5) (f1 negD (fC (.int 1)))) (fC (.int 1)))))) (sApp 5 (fTup (aCons (fV 6) (aCons (fV 7) aNil)))) sNext))
def F_law (c__law_draws : List D → Option D) (c__law_sky : List D → Option D) (c__law_timely : List D → Option D) (c__law_greatest : List D → Option D) (c_steps : List D → Option (List D)) (c__law_is_whole : List D → Option D) : FS := (sT (sSet 1 (fCall c__law_draws (aCons (fV 0) (aCons (fC (.int 60)) aNil))))
    (sT (sSet 2 (fCall c__law_sky (aCons (fV 1) (aCons (fC (.int 6)) aNil))))
    (sT (sSet 3 (f1 reprX (fV 2)))
    (sT (sSet 4 (fCall c__law_timely (aCons (fV 2) aNil)))
    (sT (sSetO 5 (lDisp aNil))
    (sT (sForW [6, 7] (iRng2 (fC (.int 1)) (fC (.int 26))) (gNm 6) (law_b2 c__law_greatest))
    (sT (sForW [8, 9] (iRng1 (fC (.int 2))) (gNm 8) (law_b1 c_steps c__law_is_whole))
    (sRet (f2 eqD (f1 reprX (fV 2)) (fV 3))))))))))
def R_law : List D → Option D := runP 11 (F_law R__law_draws R__law_sky R__law_timely R__law_greatest R_steps R__law_is_whole)
theorem sc_law : FnScope ["_law_script", "_law_draws_here", "_law_sky_here", "_law_kept", "_law_rows", "_law_due", "_law_capacity", "_law_worth_here", "_law_turn_here", "_law_told", "_law_row"] ["_law_script"] (defScope s_law) := ⟨rfl, rfl, rfl, by decide +kernel, rfl, by decide +kernel, by decide +kernel⟩
theorem B_law [TBL] (T : Tx K mg fd) (hT : tabP "steps" K ∈ TBL.T) (hu : ∀ z ∈ TBL.T, z.1 = (tabP "steps" K).1 → z.2 = (tabP "steps" K).2) (TB : LamX.TabB base mg (He.cT K ("steps", none)).1 (He.cT K ("steps", none)).2) : BodyOkT P w K mg base 6 ["_law_script", "_law_draws_here", "_law_sky_here", "_law_kept", "_law_rows", "_law_due", "_law_capacity", "_law_worth_here", "_law_turn_here", "_law_told", "_law_row"] "law" (defScope s_law) (He.ga K "law") (.ref (He.codeOf K ("law", none))) (defBody s_law) (F_law R__law_draws R__law_sky R__law_timely R__law_greatest R_steps R__law_is_whole) := by
  intro A out s H E pl hr
  unfold F_law law_b2 law_b1 law_c1
  exact (ss_then (ss_set (i := 1) pl.nd rfl (by first | exact Or.inl rfl | exact Or.inr rfl) (se_call ((O__law_draws T).up (by decide)) pl hr (by rfl) T.g__law_draws T.d__law_draws.kp T.b__law_draws (sa_cons (se_var 0) (sa_cons se_int sa_nil)) (aCons_len (aCons_len aNil_len))))
    (ss_then (ss_set (i := 2) pl.nd rfl (by first | exact Or.inl rfl | exact Or.inr rfl) (se_call ((O__law_sky T).up (by decide)) pl hr (by rfl) T.g__law_sky T.d__law_sky.kp T.b__law_sky (sa_cons (se_var 1) (sa_cons se_int sa_nil)) (aCons_len (aCons_len aNil_len))))
    (ss_then (ss_set (i := 3) pl.nd rfl (by first | exact Or.inl rfl | exact Or.inr rfl) (se_callB1 (cr_reprX pl) c_reprX (by rfl) T.n_repr (sp_of (se_var 2))))
    (ss_then (ss_set (i := 4) pl.nd rfl (by first | exact Or.inl rfl | exact Or.inr rfl) (se_call ((O__law_timely T).up (by decide)) pl hr (by rfl) T.g__law_timely T.d__law_timely.kp T.b__law_timely (sa_cons (se_var 2) sa_nil) (aCons_len aNil_len)))
    (ss_then (ss_setO (i := 5) pl.nd rfl (by first | exact Or.inl rfl | exact Or.inr rfl) (SL.sl_list (k := 0) sa_nil))
    (ss_then (ss_forW [6, 7] pl.own pl.calm (si_range2 (by rfl) T.n_range se_int se_int) (sg_name (i := 6) pl.nd rfl (by first | exact Or.inl rfl | exact Or.inr rfl)) (ss_then (ss_set (i := 7) pl.nd rfl (by first | exact Or.inl rfl | exact Or.inr rfl) (se_call ((O__law_greatest T).up (by decide)) pl hr (by rfl) T.g__law_greatest T.d__law_greatest.kp T.b__law_greatest (sa_cons (se_var 4) (sa_cons (se_var 6) sa_nil)) (aCons_len (aCons_len aNil_len))))
    (ss_one (ss_if (st_bool (sw_or (st_cmp (op_eqD (hu64 pl)) o_eq (se_callB1 call_lenA c_len (by rfl) T.n_len (sp_var 5)) se_int (nomark _)) (sw_or1 (st_cmp op_gt o_gt (se_var 7) (se_ix (se_ixp (sp_var 5) (sp_of (se_op1 un_neg o_neg (sp_of se_int)))) se_int) (nomark _))))) (ss_one (ss_app (pe_bm PySem.F.plainAttrs_list PySem.F.slot_list_append PySem.F.type_list_append mt_append (pv 5) (pa_cons (se_tup (sa_cons (se_var 6) (sa_cons (se_var 7) sa_nil))) pa_nil)))) ss_nil))))
    (ss_then (ss_forW [8, 9] pl.own pl.calm (si_range1 (by rfl) T.n_range se_int) (sg_name (i := 8) pl.nd rfl (by first | exact Or.inl rfl | exact Or.inr rfl)) (ss_then (ss_setO (i := 9) pl.nd rfl (by first | exact Or.inl rfl | exact Or.inr rfl) (sl_callT ((O_steps T hT hu TB).up (by decide)) pl hr (by rfl) T.g_steps T.d_steps.kp T.b_steps (sa_cons (se_var 2) sa_nil) (aCons_len aNil_len)))
    (ss_then (ss_if (st_bool (sw_or (st_not (st_tru (sp_of (se_isi (T := "list") (by rfl) T.n_isinstance (by rfl) T.n_list (sp_var 9))))) (sw_or1 (st_cmpp (op_neD (hu64 pl)) o_ne (sp_var 9) (sp_var 5) (nomark _))))) (ss_one (ss_ret se_bool)) ss_nil)
    (ss_then (ss_if (st_not (st_tru (sp_of (se_callB1 (cr_all pl.calm) c_all (by rfl) T.n_all (sp_of (se_of_new (sl_lcP (own := [("_law_row", 10)]) (s := 9) pl (pi_own rfl (by first | exact Or.inl rfl | exact Or.inr (Or.inl rfl) | exact Or.inr (Or.inr rfl))) (blkOk_by (by kernel_rfl)) (by decide) (by decide) (fun _ _ _ _ _ pl => (sg_name (i := 10) pl.nd rfl (by first | exact Or.inl rfl | exact Or.inr rfl))) (fun _ _ _ _ _ pl => sts_nil) (fun _ _ _ _ _ pl => se_any (se_and (se_call ((O__law_is_whole T).up (by decide)) pl hr (by rfl) T.g__law_is_whole T.d__law_is_whole.kp T.b__law_is_whole (sa_cons (se_ix (se_var 10) se_int) sa_nil) (aCons_len aNil_len)) (se_one (se_call ((O__law_is_whole T).up (by decide)) pl hr (by rfl) T.g__law_is_whole T.d__law_is_whole.kp T.b__law_is_whole (sa_cons (se_ix (se_var 10) se_int) sa_nil) (aCons_len aNil_len)))))))))))) (ss_one (ss_ret se_bool)) ss_nil)
    (ss_one (ss_clear (pe_bm0 PySem.F.plainAttrs_list PySem.F.slot_list_clear PySem.F.type_list_clear mt_clear (pv 9))))))))
    (ss_one (ss_ret (se_cmp (op_eqD (hu64 pl)) o_eq (se_callB1 (cr_reprX pl) c_reprX (by rfl) T.n_repr (sp_of (se_var 2))) (se_var 3) (nomark _)))))))))))
theorem O_law [TBL] (T : Tx K mg fd) (hT : tabP "steps" K ∈ TBL.T) (hu : ∀ z ∈ TBL.T, z.1 = (tabP "steps" K).1 → z.2 = (tabP "steps" K).2) (TB : LamX.TabB base mg (He.cT K ("steps", none)).1 (He.cT K ("steps", none)).2) : FnG P w K mg base CX0 7 (He.ga K "law") (fd 23) ["_law_script"] (spPL K 1 R_law) := FnG.pureT (p0 := ("law", none)) T.d_law rfl sc_law (B_law T hT hu TB)
end
end K50
namespace K50
open PySem PySem.Spec PyProof.Rows L2 SL Sk
theorem eq_st : R_steps = Sk.R_stepsO := rfl
theorem eq_tm : R__law_timely = Sk.R__law_timely := rfl
theorem eq_sky : R__law_sky = Sk.R__law_sky := rfl
theorem eq_lg : R__law_greatest = Sk.R__law_greatest := rfl
theorem eq_whole : R__law_is_whole = Sk.R__law_is_whole := rfl
abbrev En (sc dr SD kp RW : D) (due : List D) (c6 c7 c8 c9 c10 : Option Cell) : Ev := [some (.val sc), some (.val dr), some (.val SD), some (.val kp), some (.val RW), some (.own due), c6, c7, c8, c9, c10]
theorem b2_ev (LG : List D → Option D) (sc dr SD kp RW : D) (fs : List (Int × Int)) (c w : Int) (h : LG [RW, .int c] = some (.int w)) (hl : fs.length ≤ 100000) :
    sW [6, 7] (law_b2 LG) (En sc dr SD kp RW (fs.map Sk.prD) (some (.val (.int c))) none none none none) = some (.nx (En sc dr SD kp RW ((rec1 fs (c, w)).map Sk.prD) none none none none none)) := by
  have hz2 : (fs.map Sk.prD).length < sizeLine := by rw [List.length_map]; exact small_len (by omega)
  rw [sW_r]
  unfold law_b2
  rw [sT_nx (r1 := En sc dr SD kp RW (fs.map Sk.prD) (some (.val (.int c))) (some (.val (.int w))) none none none) (by simp [h])]
  unfold rec1
  cases e : fs.getLast? with
  | none =>
    have : fs = [] := by
      rcases List.eq_nil_or_concat fs with h | ⟨ys, y, rfl⟩
      · exact h
      · rw [List.concat_eq_append, List.getLast?_concat] at e
        cases e
    subst this
    have hz0 : (0 : Nat) < sizeLine := by decide
    simp [Sk.prD, hz0]
  | some z =>
    have ne : ¬ ((fs.map Sk.prD).length : Int) = 0 := fun y => by
      cases fs with
      | nil => cases e
      | cons a b => simp at y; omega
    have t : lenD (.list (fs.map Sk.prD)) = some (.int ((fs.map Sk.prD).length : Int)) := rfl
    have t2 : eqD (.int ((fs.map Sk.prD).length : Int)) (.int 0) = some (.bool false) := by
      rw [eqD_i]
      exact congrArg (fun b => some (PyData.bool b)) (decide_eq_false ne)
    have ix := last_ix e
    have ix2 : ixD (Sk.prD z) (.int 1) = some (.int z.2) := rfl
    show _ = some (Out.nx (En sc dr SD kp RW ((if z.2 < w then fs ++ [(c, w)] else fs).map Sk.prD) none none none none none))
    by_cases cc : z.2 < w
    · rw [if_pos cc, List.map_append]
      have e2 : [(c, w)].map Sk.prD = [.tuple [.int c, .int w]] := rfl
      rw [e2]
      generalize ((fs.map Sk.prD).length : Int) = n at t t2
      generalize fs.map Sk.prD = FL at *
      generalize Sk.prD z = Z at *
      simp [t, t2, ix, ix2, cc, hz2]
    · rw [if_neg cc]
      generalize ((fs.map Sk.prD).length : Int) = n at t t2
      generalize fs.map Sk.prD = FL at *
      generalize Sk.prD z = Z at *
      simp [t, t2, ix, ix2, cc]
theorem due_loop (LG : List D → Option D) (sc dr SD kp RW : D) (g : Int → Int) (M : Nat) (hM : M ≤ 1000) (h : ∀ c : Int, 1 ≤ c → LG [RW, .int c] = some (.int (g c))) :
    loopF (gNm 6) (sW [6, 7] (law_b2 LG)) (rngL 1 M) (En sc dr SD kp RW [] none none none none none) = some (.nx (En sc dr SD kp RW ((recs (capsL g M)).map Sk.prD) none none none none none)) := by
  have e : rngL 1 M = (List.range M).map fun (i : Nat) => (.int ((i : Int) + 1) : D) := by
    unfold rngL
    refine List.map_congr_left fun i _ => ?_
    rw [Int.add_comm]
  have hh := (loop_count (A := gNm 6) (body := sW [6, 7] (law_b2 LG)) (fun (i : Nat) => (.int ((i : Int) + 1) : D)) (fun fs : List (Int × Int) => En sc dr SD kp RW (fs.map Sk.prD) none none none none none) (fun fs i => rec1 fs ((i : Int) + 1, g ((i : Int) + 1))) (fun k c => c.length ≤ k) (xs := List.range M) (b := []) 0 (Nat.le_refl _) fun k c i hk hm hc => by
    rw [List.length_range] at hk
    refine ⟨.inl ?_, by have := rec1_len c ((i : Int) + 1, g ((i : Int) + 1)); omega⟩
    exact b2_ev LG sc dr SD kp RW c _ _ (h _ (by omega)) (by omega)).1
  rw [e]
  unfold recs capsL
  rw [List.foldl_map]
  exact hh
theorem c1_ev (IW : List D → Option D) (hw : ∀ u : Int, IW [.int u] = some (.bool true)) (sc dr SD kp RW : D) (due : List D) (fs : List (Int × Int)) (c8 : Option Cell) (hl : fs.length ≤ 10000) :
    law_c1 IW (En sc dr SD kp RW due none none c8 (some (.own (fs.map Sk.prD))) none) = some (fs.map fun _ => .bool true, En sc dr SD kp RW due none none c8 (some (.own (fs.map Sk.prD))) none) := by
  unfold law_c1
  refine (lcP_run1 Sk.prD (fun _ => .bool true) (xs := fs) (w := En sc dr SD kp RW due none none c8 none none) rfl rfl (fun x hx => ?_) (by omega)).trans rfl
  simp [lcTurn, Sk.prD, hw]
theorem b1_ev (ST : List D → Option (List D)) (IW : List D → Option D) (hw : ∀ u : Int, IW [.int u] = some (.bool true)) (sc dr SD kp RW : D) (fs : List (Int × Int)) (k : D) (h : ST [SD] = some (fs.map Sk.prD)) (hl : fs.length ≤ 10000) :
    sW [8, 9] (law_b1 ST IW) (En sc dr SD kp RW (fs.map Sk.prD) none none (some (.val k)) none none) = some (.nx (En sc dr SD kp RW (fs.map Sk.prD) none none none none none)) := by
  have il : isiD "list" (.list (fs.map Sk.prD)) = some (.bool true) := rfl
  have sh : Sh 2 (.list (fs.map Sk.prD)) := Sh.list (n := 1) fun d hd => by
    obtain ⟨x, _, rfl⟩ := List.mem_map.mp hd
    exact Sh.tuple (n := 0) fun e he => by
      simp only [List.mem_cons, List.not_mem_nil, or_false] at he
      rcases he with rfl | rfl <;> exact Sh.int 0 _
  have ne := neD_self sh.shp
  have c1 := c1_ev IW hw sc dr SD kp RW (fs.map Sk.prD) fs (some (.val k)) hl
  have al : allD (.list (fs.map fun _ => (.bool true : D))) = some (.bool true) := by
    have := all_bools (fs.map fun _ => true)
    rw [List.map_map] at this
    refine Eq.trans ?_ (this.trans ?_)
    · rfl
    · simp
  rw [sW_r]
  unfold law_b1
  generalize (fs.map fun _ => (.bool true : D)) = TL at *
  generalize fs.map Sk.prD = FL at *
  rw [sT_nx (r1 := En sc dr SD kp RW FL none none (some (.val k)) (some (.own FL)) none) (by simp [h]),
    sT_nx (r1 := En sc dr SD kp RW FL none none (some (.val k)) (some (.own FL)) none) (by simp [il, ne]),
    sT_nx (r1 := En sc dr SD kp RW FL none none (some (.val k)) (some (.own FL)) none) (by simp [c1, al])]
  simp
theorem law_ev (Dr CS TM LG IW : List D → Option D) (ST : List D → Option (List D)) (sc dr SD kp RW : D) (fs : List (Int × Int)) (h1 : Dr [sc, .int 60] = some dr) (h2 : CS [dr, .int 6] = some SD) (h3 : reprX SD = some kp) (q1 : eqD kp kp = some (.bool true)) (h4 : TM [SD] = some RW)
    (l1 : loopF (gNm 6) (sW [6, 7] (law_b2 LG)) (rngL 1 25) (En sc dr SD kp RW [] none none none none none) = some (.nx (En sc dr SD kp RW (fs.map Sk.prD) none none none none none)))
    (l2 : ∀ k : D, sW [8, 9] (law_b1 ST IW) (En sc dr SD kp RW (fs.map Sk.prD) none none (some (.val k)) none none) = some (.nx (En sc dr SD kp RW (fs.map Sk.prD) none none none none none))) :
    endP (F_law Dr CS TM LG ST IW (startE 11 [sc])) = some (.bool true) := by
  have hk := okR_of (i := 1) (by decide) (by decide)
  have hk2 := okR_of (i := 26) (by decide) (by decide)
  have hk3 := okR_of (i := 2) (by decide) (by decide)
  have lp := (loop_each (A := gNm 8) (body := sW [8, 9] (law_b1 ST IW)) (fun (j : D) => j) (fun _ : Unit => En sc dr SD kp RW (fs.map Sk.prD) none none none none none) (fun _ _ => ()) (fun _ => True) (xs := rngL 0 2) (b := ()) trivial fun _ j hj _ => ⟨.inl (l2 j), trivial⟩).1
  rw [List.map_id'] at lp
  unfold F_law
  generalize fs.map Sk.prD = FL at *
  rw [sT_nx (r1 := [some (.val sc), some (.val dr), none, none, none, none, none, none, none, none, none]) (by simp [startE, h1]),
    sT_nx (r1 := [some (.val sc), some (.val dr), some (.val SD), none, none, none, none, none, none, none, none]) (by simp [h2]),
    sT_nx (r1 := [some (.val sc), some (.val dr), some (.val SD), some (.val kp), none, none, none, none, none, none, none]) (by simp [h3]),
    sT_nx (r1 := [some (.val sc), some (.val dr), some (.val SD), some (.val kp), some (.val RW), none, none, none, none, none, none]) (by simp [h4]),
    sT_nx (r1 := En sc dr SD kp RW [] none none none none none) (by simp),
    sT_nx (r1 := En sc dr SD kp RW FL none none none none none) (forW_go (ds := rngL 1 25) (r0 := En sc dr SD kp RW [] none none none none none) (by simp [SL.iRng2, hk, hk2]) (by simp) l1),
    sT_nx (r1 := En sc dr SD kp RW FL none none none none none) (forW_go (ds := rngL 0 2) (r0 := En sc dr SD kp RW FL none none none none none) (by simp [SL.iRng1, hk3]) (by simp) lp)]
  simp [h3, q1]
theorem sizes_le4 {S : Sky} (h : ∀ x ∈ S.looks, x.z ≤ 4) : sizes S ≤ 4 * S.looks.length := by
  have : ∀ n, n ≤ S.looks.length → sumTo (fun i => (S.lk i).z) n ≤ 4 * (n : Int) := fun n => by
    induction n with
    | zero => intro _; exact Int.le_refl _
    | succ n ih =>
      intro hn
      have a := ih (by omega)
      have b := h _ (lk_mem (show n < S.looks.length by omega))
      show sumTo _ n + (S.lk n).z ≤ _
      omega
  exact this _ (Nat.le_refl _)
theorem law_true (ns : List Int) (hns : ns.length ≤ 63) : R_law [.list (ns.map .int)] = some (.bool true) := by
  obtain ⟨ds, h1, hl, hb⟩ := SL.draws_ok ns (by omega) 60 (by decide)
  have ix : ∀ i : Nat, i < 60 → ixD (.list (ds.map .int)) (.int i) = some (.int (ds.getD i 0)) := fun i hi => Rg.ix_at i (by omega)
  obtain ⟨S, h2, ok, bd, _, _⟩ := sky_ok (.list (ds.map .int)) (fun i => ds.getD i 0) 6 (by decide) (fun i hi => ix i (by omega))
  rw [← eq_sky] at h2
  have F := fit_of ok
  have many := ok.many
  have rs := sky_sw (by decide) ok
  have rp := rs.reprX (by decide) rfl (Nat.le_trans (sky_sh S).2 (by decide))
  have wl := ok.wl1
  have hw : ∀ x ∈ S.looks, S.has x.w := fun x hx => ⟨(ok.looks x hx).w0, (ok.looks x hx).w1⟩
  have tm := tm_ok F ok.looks ok.t1 many (by omega) hw
  rw [← eq_tm] at tm
  have tl := tl_len many
  have sz := sizes_le4 fun x hx => (bd x hx).2.2.2.2
  have hM : ∀ x ∈ wnL S, x.2 ≤ (25 : Nat) := fun x hx => by
    obtain ⟨p, hp, _, e⟩ := wn_from F hx
    have pl := ((mem_tl F).mp hp).plan
    have s0 : 0 ≤ sizes S := by
      have := asc_sum (f := fun i => (S.lk i).z) (m := S.looks.length) (fun i hi => F.z0 _ (lk_mem hi)) 0 [] rfl .nil S.looks.length (Nat.le_refl _) fun i hi => (by cases hi)
      simpa [sizes] using this
    have nd := ((plan_need S (sizes S) s0 p).mp pl).2
    have nd' : ndOf S p ≤ sizes S := nd
    rw [← e]
    unfold mx
    split <;> omega
  have st := (steps_ok F (by omega) hw).1
  rw [stepsZ_caps F 25 hM] at st
  have len : (recs (capsL (fun c => maxI (grZ S c)) 25)).length ≤ 10000 := by
    have := (List.Nodup.length_le_of_subset ((recs_inv (capsL (fun c => maxI (grZ S c)) 25)).asc.imp fun h e => by rw [e] at h; exact Int.lt_irrefl _ h) fun x hx => by
      obtain ⟨a, b, e, _⟩ := ((recs_inv (capsL (fun c => maxI (grZ S c)) 25)).mem x).mp hx
      show x ∈ capsL (fun c => maxI (grZ S c)) 25
      rw [e]; simp)
    have cl : (capsL (fun c => maxI (grZ S c)) 25).length = 25 := by unfold capsL; rw [List.length_map, List.length_range]
    omega
  unfold R_law runP
  refine law_ev R__law_draws R__law_sky R__law_timely R__law_greatest R__law_is_whole R_steps (.list (ns.map .int)) (.list (ds.map .int)) (skyD S) (.str (skyD S).shown) _ (recs (capsL (fun c => maxI (grZ S c)) 25)) h1 h2 rp (eqD_self (Sh.str 0 rs.st).shp) tm ?_ fun k => ?_
  · exact due_loop _ _ _ _ _ _ _ 25 (by decide) fun c hc => by rw [eq_lg]; exact lg_ok (by omega) c (by omega)
  · exact b1_ev R_steps R__law_is_whole (fun u => by rw [eq_whole]; exact whole_ok u) _ _ _ _ _ _ k (by rw [eq_st]; exact st) len
end K50
namespace K50
open PySem PySem.Spec PyProof.Rows L2 SL
def fa : List He.Fa := [.glo "_law_draws", .glo "_law_sky", .glo "_law_roomy", .glo "_law_lists", .glo "_law_store", .glo "_law_need", .glo "_law_worth", .glo "_law_turn", .glo "_law_wrong", .glo "_law_timely", .glo "_law_greatest", .glo "sum_of", .glo "lowest", .glo "end_of", .glo "turning", .glo "follows", .glo "loss", .glo "emptied", .glo "stored_at", .glo "least_needs", .glo "worths_and_needs", .glo "steps", .glo "_law_is_whole", .glo "law", .free "abs", .free "all", .free "bool", .free "enumerate", .free "int", .free "isinstance", .free "len", .free "list", .free "max", .free "min", .free "range", .free "repr", .free "sorted", .free "sum", .free "tuple"]
def fn : List He.DefD := [⟨("_law_draws", none), "_law_draws", "_law_draws", defArgs s__law_draws, defBody s__law_draws, defScope s__law_draws, [], []⟩, ⟨("_law_sky", none), "_law_sky", "_law_sky", defArgs s__law_sky, defBody s__law_sky, defScope s__law_sky, [], []⟩, ⟨("_law_roomy", none), "_law_roomy", "_law_roomy", defArgs s__law_roomy, defBody s__law_roomy, defScope s__law_roomy, [], []⟩, ⟨("_law_lists", none), "_law_lists", "_law_lists", defArgs s__law_lists, defBody s__law_lists, defScope s__law_lists, [], []⟩, ⟨("_law_store", none), "_law_store", "_law_store", defArgs s__law_store, defBody s__law_store, defScope s__law_store, [], []⟩, ⟨("_law_need", none), "_law_need", "_law_need", defArgs s__law_need, defBody s__law_need, defScope s__law_need, [], []⟩, ⟨("_law_worth", none), "_law_worth", "_law_worth", defArgs s__law_worth, defBody s__law_worth, defScope s__law_worth, [], []⟩, ⟨("_law_turn", none), "_law_turn", "_law_turn", defArgs s__law_turn, defBody s__law_turn, defScope s__law_turn, [], []⟩, ⟨("_law_wrong", none), "_law_wrong", "_law_wrong", defArgs s__law_wrong, defBody s__law_wrong, defScope s__law_wrong, [], []⟩, ⟨("_law_timely", none), "_law_timely", "_law_timely", defArgs s__law_timely, defBody s__law_timely, defScope s__law_timely, [], []⟩, ⟨("_law_greatest", none), "_law_greatest", "_law_greatest", defArgs s__law_greatest, defBody s__law_greatest, defScope s__law_greatest, [], []⟩, ⟨("sum_of", none), "sum_of", "sum_of", defArgs s_sum_of, defBody s_sum_of, defScope s_sum_of, [], []⟩, ⟨("lowest", none), "lowest", "lowest", defArgs s_lowest, defBody s_lowest, defScope s_lowest, [], []⟩, ⟨("end_of", none), "end_of", "end_of", defArgs s_end_of, defBody s_end_of, defScope s_end_of, [], []⟩, ⟨("turning", none), "turning", "turning", defArgs s_turning, defBody s_turning, defScope s_turning, [], []⟩, ⟨("follows", none), "follows", "follows", defArgs s_follows, defBody s_follows, defScope s_follows, [], []⟩, ⟨("loss", none), "loss", "loss", defArgs s_loss, defBody s_loss, defScope s_loss, [], []⟩, ⟨("emptied", none), "emptied", "emptied", defArgs s_emptied, defBody s_emptied, defScope s_emptied, [], []⟩, ⟨("stored_at", none), "stored_at", "stored_at", defArgs s_stored_at, defBody s_stored_at, defScope s_stored_at, [], []⟩, ⟨("least_needs", none), "least_needs", "least_needs", defArgs s_least_needs, defBody s_least_needs, defScope s_least_needs, [], []⟩, ⟨("worths_and_needs", none), "worths_and_needs", "worths_and_needs", defArgs s_worths_and_needs, defBody s_worths_and_needs, defScope s_worths_and_needs, [], []⟩, ⟨("steps", none), "steps", "steps", defArgs s_steps, defBody s_steps, defScope s_steps, [], []⟩, ⟨("_law_is_whole", none), "_law_is_whole", "_law_is_whole", defArgs s__law_is_whole, defBody s__law_is_whole, defScope s__law_is_whole, [], []⟩, ⟨("law", none), "law", "law", defArgs s_law, defBody s_law, defScope s_law, [], []⟩]
def ex : List (PySem.W.Frag → Bool) := []
abbrev Rw : PySem.W.OpenRow := PySem.W.OpenLaw.row Row
abbrev hk : PySem.W.Hook := He.hookX 4 fa fn [] [("steps", none)] (exAll ex)
def ob (s : PySem.W.SharedT) : He.AlX := He.obsX 4 fa fn [] [("steps", none)] (exAll ex) (HandSHeadRun.getT s)
theorem ob_eq (s : PySem.W.SharedT) : ob s = hk.obs s.abs := He.obsX_eq (HandSHeadRun.getT_eq s)
theorem run (w : World) : HandSHeadRun.RunEq Rw (PySem.W.view Rw.prog [27]) hk ob 3000 ["end_of", "turning", "loss", "emptied", "follows", "stored_at", "lowest", "least_needs", "sum_of", "worths_and_needs", "steps", "_law_draws", "_law_sky", "_law_turn", "_law_store", "_law_wrong", "_law_lists", "_law_worth", "_law_roomy", "_law_need", "_law_timely", "_law_greatest", "_law_is_whole"] w := by
  intro os
  kernel_rfl
theorem facts {K : PySem.W.Frag} {h : Heap} {mg : Str → Option Value} (X : K.In h) (G : h.Ns mainGlobals mg) (c : SaysB ex fa fn K) : ∃ fd : Nat → FuncData, Tx K mg fd := by
  obtain ⟨f0, D0⟩ := c.d.def_ 0 rfl
  obtain ⟨f1, D1⟩ := c.d.def_ 1 rfl
  obtain ⟨f2, D2⟩ := c.d.def_ 2 rfl
  obtain ⟨f3, D3⟩ := c.d.def_ 3 rfl
  obtain ⟨f4, D4⟩ := c.d.def_ 4 rfl
  obtain ⟨f5, D5⟩ := c.d.def_ 5 rfl
  obtain ⟨f6, D6⟩ := c.d.def_ 6 rfl
  obtain ⟨f7, D7⟩ := c.d.def_ 7 rfl
  obtain ⟨f8, D8⟩ := c.d.def_ 8 rfl
  obtain ⟨f9, D9⟩ := c.d.def_ 9 rfl
  obtain ⟨f10, D10⟩ := c.d.def_ 10 rfl
  obtain ⟨f11, D11⟩ := c.d.def_ 11 rfl
  obtain ⟨f12, D12⟩ := c.d.def_ 12 rfl
  obtain ⟨f13, D13⟩ := c.d.def_ 13 rfl
  obtain ⟨f14, D14⟩ := c.d.def_ 14 rfl
  obtain ⟨f15, D15⟩ := c.d.def_ 15 rfl
  obtain ⟨f16, D16⟩ := c.d.def_ 16 rfl
  obtain ⟨f17, D17⟩ := c.d.def_ 17 rfl
  obtain ⟨f18, D18⟩ := c.d.def_ 18 rfl
  obtain ⟨f19, D19⟩ := c.d.def_ 19 rfl
  obtain ⟨f20, D20⟩ := c.d.def_ 20 rfl
  obtain ⟨f21, D21⟩ := c.d.def_ 21 rfl
  obtain ⟨f22, D22⟩ := c.d.def_ 22 rfl
  obtain ⟨f23, D23⟩ := c.d.def_ 23 rfl
  refine ⟨fun i => [f0, f1, f2, f3, f4, f5, f6, f7, f8, f9, f10, f11, f12, f13, f14, f15, f16, f17, f18, f19, f20, f21, f22, f23].getD i f0, ?_⟩
  exact ⟨D0,
    He.glo_ok X G (c.d.fact 0 (f := .glo "_law_draws") rfl),
    D1,
    He.glo_ok X G (c.d.fact 1 (f := .glo "_law_sky") rfl),
    D2,
    He.glo_ok X G (c.d.fact 2 (f := .glo "_law_roomy") rfl),
    D3,
    He.glo_ok X G (c.d.fact 3 (f := .glo "_law_lists") rfl),
    D4,
    He.glo_ok X G (c.d.fact 4 (f := .glo "_law_store") rfl),
    D5,
    He.glo_ok X G (c.d.fact 5 (f := .glo "_law_need") rfl),
    D6,
    He.glo_ok X G (c.d.fact 6 (f := .glo "_law_worth") rfl),
    D7,
    He.glo_ok X G (c.d.fact 7 (f := .glo "_law_turn") rfl),
    D8,
    He.glo_ok X G (c.d.fact 8 (f := .glo "_law_wrong") rfl),
    D9,
    He.glo_ok X G (c.d.fact 9 (f := .glo "_law_timely") rfl),
    D10,
    He.glo_ok X G (c.d.fact 10 (f := .glo "_law_greatest") rfl),
    D11,
    He.glo_ok X G (c.d.fact 11 (f := .glo "sum_of") rfl),
    D12,
    He.glo_ok X G (c.d.fact 12 (f := .glo "lowest") rfl),
    D13,
    He.glo_ok X G (c.d.fact 13 (f := .glo "end_of") rfl),
    D14,
    He.glo_ok X G (c.d.fact 14 (f := .glo "turning") rfl),
    D15,
    He.glo_ok X G (c.d.fact 15 (f := .glo "follows") rfl),
    D16,
    He.glo_ok X G (c.d.fact 16 (f := .glo "loss") rfl),
    D17,
    He.glo_ok X G (c.d.fact 17 (f := .glo "emptied") rfl),
    D18,
    He.glo_ok X G (c.d.fact 18 (f := .glo "stored_at") rfl),
    D19,
    He.glo_ok X G (c.d.fact 19 (f := .glo "least_needs") rfl),
    D20,
    He.glo_ok X G (c.d.fact 20 (f := .glo "worths_and_needs") rfl),
    D21,
    He.glo_ok X G (c.d.fact 21 (f := .glo "steps") rfl),
    D22,
    He.glo_ok X G (c.d.fact 22 (f := .glo "_law_is_whole") rfl),
    D23,
    He.glo_ok X G (c.d.fact 23 (f := .glo "law") rfl),
    He.free_ok X G (c.d.fact 24 (f := .free "abs") rfl),
    He.free_ok X G (c.d.fact 25 (f := .free "all") rfl),
    He.free_ok X G (c.d.fact 26 (f := .free "bool") rfl),
    He.free_ok X G (c.d.fact 27 (f := .free "enumerate") rfl),
    He.free_ok X G (c.d.fact 28 (f := .free "int") rfl),
    He.free_ok X G (c.d.fact 29 (f := .free "isinstance") rfl),
    He.free_ok X G (c.d.fact 30 (f := .free "len") rfl),
    He.free_ok X G (c.d.fact 31 (f := .free "list") rfl),
    He.free_ok X G (c.d.fact 32 (f := .free "max") rfl),
    He.free_ok X G (c.d.fact 33 (f := .free "min") rfl),
    He.free_ok X G (c.d.fact 34 (f := .free "range") rfl),
    He.free_ok X G (c.d.fact 35 (f := .free "repr") rfl),
    He.free_ok X G (c.d.fact 36 (f := .free "sorted") rfl),
    He.free_ok X G (c.d.fact 37 (f := .free "sum") rfl),
    He.free_ok X G (c.d.fact 38 (f := .free "tuple") rfl)⟩
end K50
open PySem PySem.W PySem.Calls PyProof.Rows
set_option maxHeartbeats 0 in
theorem PySem.Challenge.cw_skypasses_k50_steps_of_worths_holds : PySem.Challenge.rw_skypasses_k50_steps_of_worths.Holds := by
  w_on; o_law
  refine HandSHeadRun.head_any (r := OpenLaw.row PySem.Challenge.rw_skypasses_k50_steps_of_worths) (q := view (OpenLaw.row PySem.Challenge.rw_skypasses_k50_steps_of_worths).prog [27]) (H := K50.hk) (ob := K50.ob) (M := 3000) (loose := ["end_of", "turning", "loss", "emptied", "follows", "stored_at", "lowest", "least_needs", "sum_of", "worths_and_needs", "steps", "_law_draws", "_law_sky", "_law_turn", "_law_store", "_law_wrong", "_law_lists", "_law_worth", "_law_roomy", "_law_need", "_law_timely", "_law_greatest", "_law_is_whole"]) (d := HandSHeadRun.topDef (OpenLaw.row PySem.Challenge.rw_skypasses_k50_steps_of_worths).prog 27) (kwd := []) K50.ob_eq
    (by kernel_rfl) (fun s => by kernel_rfl) K50.run (by kernel_rfl) (by kernel_rfl) (by kernel_rfl) (by rfl) (by first | assumption | decide +kernel) (by decide +kernel) ⟨rfl, rfl, rfl, rfl, rfl, by decide +kernel⟩ ?hw ?hc
  case hw => w_witness2
  case hc =>
    refine SL.walkT (l := PySem.Challenge.rw_skypasses_k50_steps_of_worths) (n := 63) (k := 7) (x := "_law_script") (fn := K50.R_law) rfl (by decide) (by kernel_rfl) ⟨rfl, by decide, by decide⟩ ?F (fun ns h => K50.law_true ns h)
    intro w mg fa h Y G hmg0
    obtain ⟨K, KX, c⟩ := Y
    have hmg : mg ("law" : PySem.Str) = some (.ref fa) := by
      have e : (HandSHeadRun.topDef (OpenLaw.row PySem.Challenge.rw_skypasses_k50_steps_of_worths).prog 27).name = ("law" : PySem.Str) := by kernel_rfl
      rw [← e]
      exact hmg0
    obtain ⟨fd, T⟩ := K50.facts KX G (SL.saysB_of c)
    have e := hmg.symm.trans T.g_law
    cases e
    exact ⟨K, fd 23, [He.cT K ("steps", none)], ⟨[SL.tabP "steps" K]⟩, KX, fun s v => T.d_law.bindsA (ps := ["_law_script"]) (fun _ _ _ _ _ _ us hl => match us, hl with | [_], _ => rfl) s [v] rfl, fun p hp => by rw [List.mem_singleton.mp hp]; exact c.empty _ (List.mem_singleton.mpr rfl), fun p hp => by rw [List.mem_singleton.mp hp]; exact c.out _ (List.mem_singleton.mpr rfl), fun p hp => by rw [List.mem_singleton.mp hp]; exact PySem.W.codeHd_of_K KX (c.hd _ (List.mem_singleton.mpr rfl)), rfl, fun base _ _ TB => @K50.O_law _ _ _ _ _ _ ⟨[SL.tabP "steps" K]⟩ T (List.mem_singleton.mpr rfl) SL.one_tab (TB _ (List.mem_singleton.mpr rfl))⟩
