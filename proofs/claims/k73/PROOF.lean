import PyProof.Rows.All
import Wide.All
import OpenK.AllK
import Wide.FinOn
import HandS.ForMost
import KE.KDictKeyed
import KE.KDictWalk
import PyProof.ReprReads
import HandS.TupAny
import HandS.Wide
import HandS.Deep
import HandS.Style
import HandS.IsInst
import HandS.SortInts
import HandS.Defaults
import HandS.Ends
import HandS.HeadEnd
import HandS.HeadHook1
import HandS.HeadHook2
import HandS.Head0
import HandS.Head1
import HandS.Head2
import HandS.Head3
import HandS.Gcd
import HandS.HeadWalk
import PyProof.ReprRoads
import PyProof.ReprText
import PyProof.FitsInt
import HandS.Iter
import KE.KDictDisplayH
import KE.SortData
import KE.DataCmp
import KE.GoesNewDict
import HandS.Conv
import HandS.FStr
import HandS.Text
import HandS.ListItems
import HandS.ExcValue
import KE.KDictItemsList
import HandS.RaiseMore
import HandS.SetFor
import KE.KRevSl
import KE.DataMinMax
import HandS.SortKw
import HandS.Finally
import HandS.TupLen
import KE.KDictSum
import PySem.Challenge.RW_skypasses_k73_lines_of_wishes
set_option Elab.async false
set_option linter.all false
set_option maxRecDepth 100000
set_option maxHeartbeats 4000000
/-! A layer of plain values over the hand layer: each expression and statement is read as a function of an environment of plain data. -/
namespace SL
open PySem PySem.Spec PyProof.Rows L2
abbrev D := PyData
/-! ### dicts whose keys are tuples -/
mutual
/-- data as a key: None, numbers, tuples of such -/
def toNK : D → Option NestedKey
  | .none => some .none
  | .int i => some (.num i)
  | .tuple ds => (toNKs ds).map .tup
  | _ => none
def toNKs : List D → Option (List NestedKey)
  | [] => some []
  | d :: ds => (toNK d).bind fun k => (toNKs ds).map fun ks => k :: ks
end
mutual
/-- the hash of a key without texts -/
def hash0 : NestedKey → Int
  | .none => reduceHash 0xFCA86420
  | .num i => hashInt i
  | .text _ => 0
  | .tup ks => reduceHash (Builtin.Tuple.tupleHashOf (hashes0 ks))
def hashes0 : List NestedKey → List Int
  | [] => []
  | k :: ks => hash0 k :: hashes0 ks
end
mutual
theorem hash_eq (w : World) : ∀ (d : D) (k : NestedKey), toNK d = some k → k.hash w = hash0 k
  | .none, k, h => by simp only [toNK] at h; cases h; simp only [NestedKey.hash, hash0]
  | .int i, k, h => by simp only [toNK] at h; cases h; simp only [NestedKey.hash, hash0]
  | .tuple ds, k, h => by
    simp only [toNK] at h
    obtain ⟨ks, h1, h2⟩ := Option.map_eq_some_iff.mp h
    cases h2
    simp only [NestedKey.hash, hash0, hashes_eq w ds ks h1]
  | .bool _, k, h => by simp [toNK] at h
  | .str _, k, h => by simp [toNK] at h
  | .list _, k, h => by simp [toNK] at h
  | .dict _, k, h => by simp [toNK] at h
theorem hashes_eq (w : World) : ∀ (ds : List D) (ks : List NestedKey), toNKs ds = some ks → NestedKey.hashes w ks = hashes0 ks
  | [], ks, h => by simp only [toNKs] at h; cases h; simp only [NestedKey.hashes, hashes0]
  | d :: ds, ks, h => by
    simp only [toNKs] at h
    obtain ⟨k, h1, h2⟩ := Option.bind_eq_some_iff.mp h
    obtain ⟨ls, h3, h4⟩ := Option.map_eq_some_iff.mp h2
    cases h4
    simp only [NestedKey.hashes, hashes0, hash_eq w d k h1, hashes_eq w ds ls h3]
end
/-- data that may be a key -/
def nkey (d : D) : Option NestedKey := (toNK d).bind fun k => if k.depth ≤ 8 then some k else none
theorem nkey_some {d : D} {k : NestedKey} (h : nkey d = some k) : toNK d = some k ∧ k.depth ≤ 8 := by
  unfold nkey at h
  obtain ⟨j, h1, h2⟩ := Option.bind_eq_some_iff.mp h
  split at h2
  · cases h2; exact ⟨h1, by assumption⟩
  · cases h2
abbrev KE3 := NestedKey × Addr × V
def entry0 (x : NestedKey × Addr × Value) : DictEntry := ⟨hash0 x.1, .ref x.2.1, x.2.2⟩
def E3 (a : KE3) (b : NestedKey × Addr × Value) : Prop := a.1 = b.1 ∧ a.2.1 = b.2.1 ∧ RelV a.2.2 b.2.2
/-- the object o is a dict with these entries -/
def DicS (p : Addr) (o : Obj) (ks : List KE3) : Prop := ks.length ≤ sizeLine ∧ (p == sysModules) = false ∧ ∃ (xs : List (NestedKey × Addr × Value)) (es : Array DictEntry) (ep : Nat),
  Paired E3 ks xs ∧ o.ExactDict ∧ o.data = .dict es ep ∧ es.toList = xs.map entry0 ∧ (xs.map (·.1)).Nodup
def DicO (p : Addr) (o : Obj) (ks : List KE3) : HO := .ext fun h => h.get? p = some o ∧ DicS p o ks
mutual
inductive Dp (K : PySem.W.Frag) (H : Hp) : V → D → Prop
  | non : Dp K H .non .none
  | bl (b : Bool) : Dp K H (.bl b) (.bool b)
  | int (i : Int) : Dp K H (.int i) (.int i)
  | str (x : Str) : Dp K H (.str x) (.str x)
  | lst {a : Addr} {xs : List V} {ds : List D} : SqL K H a xs → DpAll K H xs ds → Dp K H (.ref a) (.list ds)
  | tup {a : Addr} {xs : List V} {ds : List D} : SqT K H a xs → DpAll K H xs ds → Dp K H (.ref a) (.tuple ds)
  | dic {a : Addr} {o : Obj} {ks : List KE3} {kds : List (D × D)} : H a = some (DicO a o ks) → DpKs K H ks kds → Dp K H (.ref a) (.dict kds)
inductive DpAll (K : PySem.W.Frag) (H : Hp) : List V → List D → Prop
  | nil : DpAll K H [] []
  | cons {v : V} {vs : List V} {d : D} {ds : List D} : Dp K H v d → DpAll K H vs ds → DpAll K H (v :: vs) (d :: ds)
inductive DpKs (K : PySem.W.Frag) (H : Hp) : List KE3 → List (D × D) → Prop
  | nil : DpKs K H [] []
  | cons {k : NestedKey} {a : Addr} {v : V} {kd vd : D} {ks : List KE3} {kds : List (D × D)} : nkey kd = some k → Dp K H (.ref a) kd → Dp K H v vd → DpKs K H ks kds → DpKs K H ((k, a, v) :: ks) ((kd, vd) :: kds)
end
mutual
theorem Dp.toL {K : PySem.W.Frag} {H : Hp} : ∀ {d : D} {v : V}, Dp K H v d → d.hasDict = false → L2.Dp K H v d
  | _, _, .non, _ => .non
  | _, _, .bl b, _ => .bl b
  | _, _, .int i, _ => .int i
  | _, _, .str x, _ => .str x
  | _, _, .lst h t, n => .lst h (DpAll.toL t (by simpa only [PyData.hasDict] using n))
  | _, _, .tup h t, n => .tup h (DpAll.toL t (by simpa only [PyData.hasDict] using n))
  | _, _, .dic _ _, n => by simp only [PyData.hasDict] at n; cases n
theorem DpAll.toL {K : PySem.W.Frag} {H : Hp} : ∀ {ds : List D} {vs : List V}, DpAll K H vs ds → PyData.hasDictAll ds = false → L2.DpAll K H vs ds
  | _, _, .nil, _ => .nil
  | _, _, .cons h t, n => by
    simp only [PyData.hasDictAll, Bool.or_eq_false_iff] at n
    exact .cons (Dp.toL h n.1) (DpAll.toL t n.2)
end
theorem Dp.ofL_all {K : PySem.W.Frag} {H : Hp} {v : V} {d : D} (h : L2.Dp K H v d) : Dp K H v d := by
  induction h using L2.Dp.rec (motive_2 := fun vs ds _ => DpAll K H vs ds) with
  | non => exact .non
  | bl b => exact .bl b
  | int i => exact .int i
  | str x => exact .str x
  | lst a _ ih => exact .lst a ih
  | tup a _ ih => exact .tup a ih
  | nil => exact .nil
  | cons _ _ h t => exact .cons h t
theorem Dp.ofL {K : PySem.W.Frag} {H : Hp} {v : V} {d : D} (h : L2.Dp K H v d) : Dp K H v d := Dp.ofL_all h
/-! values whose lists are all new: no list of theirs is one that P tells -/
mutual
inductive DpN (K : PySem.W.Frag) (P G : Hp) : V → D → Prop
  | non : DpN K P G .non .none
  | bl (b : Bool) : DpN K P G (.bl b) (.bool b)
  | int (i : Int) : DpN K P G (.int i) (.int i)
  | str (x : Str) : DpN K P G (.str x) (.str x)
  | lst {a : Addr} {xs : List V} {ds : List D} : G a = some (.lst xs) → P a = none → DpNAll K P G xs ds → DpN K P G (.ref a) (.list ds)
  | tup {a : Addr} {xs : List V} {ds : List D} : SqT K G a xs → DpNAll K P G xs ds → DpN K P G (.ref a) (.tuple ds)
inductive DpNAll (K : PySem.W.Frag) (P G : Hp) : List V → List D → Prop
  | nil : DpNAll K P G [] []
  | cons {v : V} {vs : List V} {d : D} {ds : List D} : DpN K P G v d → DpNAll K P G vs ds → DpNAll K P G (v :: vs) (d :: ds)
end
mutual
theorem DpN.dp {K : PySem.W.Frag} {P G : Hp} : ∀ {d : D} {v : V}, DpN K P G v d → Dp K G v d
  | _, _, .non => .non
  | _, _, .bl b => .bl b
  | _, _, .int i => .int i
  | _, _, .str x => .str x
  | _, _, .lst h _ t => .lst (.inl (.inl h)) (DpNAll.dp t)
  | _, _, .tup h t => .tup h (DpNAll.dp t)
theorem DpNAll.dp {K : PySem.W.Frag} {P G : Hp} : ∀ {ds : List D} {vs : List V}, DpNAll K P G vs ds → DpAll K G vs ds
  | _, _, .nil => .nil
  | _, _, .cons h t => .cons (DpN.dp h) (DpNAll.dp t)
end
/-- its entries, in the heap -/
inductive Cell where
  | val (d : D)
  | own (ds : List D)
  | loan (k : Nat) (ds : List D)
  | ownD (kds : List (D × D))
  | tag (n : Nat)
  | fre (d : D)
  | ownF (ds : List D)
abbrev Ev := List (Option Cell)
def Cell.isOwn : Cell → Bool
  | .val _ => false
  | .tag _ => false
  | .fre _ => false
  | _ => true
/-- what stays fixed while a body runs: what must not change, what was known at the start, the lists that may be changed -/
structure Ctx where
  P : Hp
  G0 : Hp
  M : List Addr
  L : Nat → Option Addr := fun _ => none
def CellOk (K : PySem.W.Frag) (C : Ctx) (G H : Hp) (v : V) : Cell → Prop
  | .val d => Dp K G v d
  | .own ds => ∃ p vs, v = .ref p ∧ (C.P p = none ∧ p ∉ C.M) ∧ G p = none ∧ H p = some (.lst vs) ∧ DpAll K G vs ds
  | .loan k ds => ∃ p vs, v = .ref p ∧ C.M[k]? = some p ∧ G p = none ∧ H p = some (.lst vs) ∧ DpAll K G vs ds
  | .ownD kds => ∃ p o ks, v = .ref p ∧ (C.P p = none ∧ p ∉ C.M) ∧ G p = none ∧ H p = some (DicO p o ks) ∧ DpKs K G ks kds
  | .tag n => ∃ p, v = .ref p ∧ C.L n = some p
  | .fre d => DpN K C.P G v d
  | .ownF ds => ∃ p vs, v = .ref p ∧ (C.P p = none ∧ p ∉ C.M) ∧ G p = none ∧ H p = some (.lst vs) ∧ DpNAll K C.P G vs ds
structure Ok (K : PySem.W.Frag) (C : Ctx) (G H : Hp) (σ : L2.St) (r : Ev) : Prop where
  sub : Same G H
  g0 : Same C.G0 G
  gnew : ∀ a o, G a = some o → C.G0 a = some o ∨ C.P a = none
  prot : ∀ a o, C.P a = some o → a ∉ C.M → H a = some o
  mreal : ∀ a, a ∈ C.M → H a ≠ none ∧ G a = none
  len : r.length = σ.length
  cell : ∀ (i : Nat) (c : Cell), r[i]? = some (some c) → ∃ v, σ[i]? = some (some v) ∧ CellOk K C G H v c
  dis : ∀ (i j : Nat) (c c' : Cell), r[i]? = some (some c) → r[j]? = some (some c') → c.isOwn = true → c'.isOwn = true → σ[i]? = σ[j]? → i = j
section
variable {K : PySem.W.Frag} {C : Ctx} {G H G' H' : Hp} {σ : L2.St} {r r' : Ev}
theorem SqL.mono {a : Addr} {xs : List V} (s : Same G G') (h : SqL K G a xs) : SqL K G' a xs := s.seq h
theorem SqT.mono {a : Addr} {xs : List V} (s : Same G G') (h : SqT K G a xs) : SqT K G' a xs := by
  rcases h with h | h
  · rcases h with h | ⟨o, h⟩
    · exact .inl (.inl (s _ _ h))
    · exact .inl (.inr ⟨o, s _ _ h⟩)
  · exact .inr h
mutual
theorem Dp.mono (s : Same G G') : ∀ {d : D} {v : V}, Dp K G v d → Dp K G' v d
  | _, _, .non => .non
  | _, _, .bl b => .bl b
  | _, _, .int i => .int i
  | _, _, .str x => .str x
  | _, _, .lst h t => .lst (SqL.mono s h) (DpAll.mono s t)
  | _, _, .tup h t => .tup (SqT.mono s h) (DpAll.mono s t)
  | _, _, .dic h t => .dic (s _ _ h) (DpKs.mono s t)
theorem DpAll.mono (s : Same G G') : ∀ {ds : List D} {vs : List V}, DpAll K G vs ds → DpAll K G' vs ds
  | _, _, .nil => .nil
  | _, _, .cons h t => .cons (Dp.mono s h) (DpAll.mono s t)
theorem DpKs.mono (s : Same G G') : ∀ {kds : List (D × D)} {ks : List KE3}, DpKs K G ks kds → DpKs K G' ks kds
  | _, _, .nil => .nil
  | _, _, .cons e a b t => .cons e (Dp.mono s a) (Dp.mono s b) (DpKs.mono s t)
end
mutual
theorem DpN.imp {P P' : Hp} (s : Same G G') (hp : ∀ a, G a ≠ none → P a = none → P' a = none) : ∀ {d : D} {v : V}, DpN K P G v d → DpN K P' G' v d
  | _, _, .non => .non
  | _, _, .bl b => .bl b
  | _, _, .int i => .int i
  | _, _, .str x => .str x
  | _, _, .lst h n t => .lst (s _ _ h) (hp _ (by rw [h]; exact fun z => nomatch z) n) (DpNAll.imp s hp t)
  | _, _, .tup h t => .tup (SqT.mono s h) (DpNAll.imp s hp t)
theorem DpNAll.imp {P P' : Hp} (s : Same G G') (hp : ∀ a, G a ≠ none → P a = none → P' a = none) : ∀ {ds : List D} {vs : List V}, DpNAll K P G vs ds → DpNAll K P' G' vs ds
  | _, _, .nil => .nil
  | _, _, .cons h t => .cons (DpN.imp s hp h) (DpNAll.imp s hp t)
end
theorem DpN.mono {P : Hp} (s : Same G G') {d : D} {v : V} (h : DpN K P G v d) : DpN K P G' v d := DpN.imp s (fun _ _ z => z) h
theorem DpNAll.mono {P : Hp} (s : Same G G') {ds : List D} {vs : List V} (h : DpNAll K P G vs ds) : DpNAll K P G' vs ds := DpNAll.imp s (fun _ _ z => z) h
theorem DpNAll.append {P : Hp} : ∀ {ds es : List D} {vs ws : List V}, DpNAll K P G vs ds → DpNAll K P G ws es → DpNAll K P G (vs ++ ws) (ds ++ es)
  | _, _, _, _, .nil, h => h
  | _, _, _, _, .cons h t, q => .cons h (DpNAll.append t q)
theorem DpNAll.get {P : Hp} : ∀ {ds : List D} {vs : List V} {i : Nat} {d : D}, DpNAll K P G vs ds → ds[i]? = some d → ∃ v, vs[i]? = some v ∧ DpN K P G v d
  | _, _, i, _, .nil, e => by simp at e
  | _, _, 0, _, .cons h _, e => by simp at e; subst e; exact ⟨_, rfl, h⟩
  | _, _, i + 1, _, .cons _ t, e => by
    obtain ⟨v, h1, h2⟩ := DpNAll.get (i := i) t (by simpa using e)
    exact ⟨v, by simpa using h1, h2⟩
theorem DpKs.length : ∀ {kds : List (D × D)} {ks : List KE3}, DpKs K G ks kds → ks.length = kds.length
  | _, _, .nil => rfl
  | _, _, .cons _ _ _ t => by rw [List.length_cons, List.length_cons, DpKs.length t]
theorem DpAll.length : ∀ {ds : List D} {vs : List V}, DpAll K G vs ds → vs.length = ds.length
  | _, _, .nil => rfl
  | _, _, .cons _ t => by rw [List.length_cons, List.length_cons, DpAll.length t]
theorem DpAll.get : ∀ {ds : List D} {vs : List V} {i : Nat} {d : D}, DpAll K G vs ds → ds[i]? = some d → ∃ v, vs[i]? = some v ∧ Dp K G v d
  | _, _, i, _, .nil, e => by simp at e
  | _, _, 0, _, .cons h _, e => by simp at e; subst e; exact ⟨_, rfl, h⟩
  | _, _, i + 1, _, .cons _ t, e => by
    obtain ⟨v, h1, h2⟩ := DpAll.get (i := i) t (by simpa using e)
    exact ⟨v, by simpa using h1, h2⟩
theorem DpAll.append : ∀ {ds es : List D} {vs ws : List V}, DpAll K G vs ds → DpAll K G ws es → DpAll K G (vs ++ ws) (ds ++ es)
  | _, _, _, _, .nil, h => h
  | _, _, _, _, .cons h t, q => .cons h (DpAll.append t q)
theorem DpAll.set {d : D} {v : V} (h : Dp K G v d) : ∀ {ds : List D} {vs : List V} (i : Nat), DpAll K G vs ds → DpAll K G (vs.set i v) (ds.set i d)
  | _, _, _, .nil => .nil
  | _, _, 0, .cons _ t => .cons h t
  | _, _, i + 1, .cons q t => .cons q (DpAll.set h i t)
theorem DpAll.take : ∀ {ds : List D} {vs : List V} (n : Nat), DpAll K G vs ds → DpAll K G (vs.take n) (ds.take n)
  | _, _, 0, _ => .nil
  | _, _, _ + 1, .nil => .nil
  | _, _, n + 1, .cons h t => .cons h (DpAll.take n t)
theorem DpAll.drop : ∀ {ds : List D} {vs : List V} (n : Nat), DpAll K G vs ds → DpAll K G (vs.drop n) (ds.drop n)
  | _, _, 0, h => h
  | _, _, _ + 1, .nil => .nil
  | _, _, n + 1, .cons _ t => DpAll.drop n t
theorem DpAll.reverse : ∀ {ds : List D} {vs : List V}, DpAll K G vs ds → DpAll K G vs.reverse ds.reverse
  | _, _, .nil => .nil
  | _, _, .cons h t => by
    rw [List.reverse_cons, List.reverse_cons]
    exact DpAll.append (DpAll.reverse t) (.cons h .nil)
theorem CellOk.step {v : V} {c : Cell} (h : CellOk K C G H v c) (s : Same G G') (k : ∀ p o, H p = some o → G p = none → (C.P p = none ∨ p ∈ C.M) → H' p = some o ∧ G' p = none) : CellOk K C G' H' v c := by
  cases c with
  | val d => exact Dp.mono s h
  | own ds =>
    obtain ⟨p, vs, rfl, h1, h2, h3, h4⟩ := h
    obtain ⟨k1, k2⟩ := k p _ h3 h2 (.inl h1.1)
    exact ⟨p, vs, rfl, h1, k2, k1, DpAll.mono s h4⟩
  | loan m ds =>
    obtain ⟨p, vs, rfl, h1, h2, h3, h4⟩ := h
    obtain ⟨k1, k2⟩ := k p _ h3 h2 (.inr (List.mem_of_getElem? h1))
    exact ⟨p, vs, rfl, h1, k2, k1, DpAll.mono s h4⟩
  | ownD kds =>
    obtain ⟨p, o, ks, rfl, h1, h2, h3, h4⟩ := h
    obtain ⟨k1, k2⟩ := k p _ h3 h2 (.inl h1.1)
    exact ⟨p, o, ks, rfl, h1, k2, k1, DpKs.mono s h4⟩
  | tag n => exact h
  | fre d => exact DpN.mono s h
  | ownF ds =>
    obtain ⟨p, vs, rfl, h1, h2, h3, h4⟩ := h
    obtain ⟨k1, k2⟩ := k p _ h3 h2 (.inl h1.1)
    exact ⟨p, vs, rfl, h1, k2, k1, DpNAll.mono s h4⟩
/-- nothing that stood has changed; what is newly known is new -/
theorem Ok.calm (ok : Ok K C G H σ r) (s : Same G G') (k : Same H H') (s' : Same G' H') (n : ∀ a o, G' a = some o → G a = some o ∨ H a = none) : Ok K C G' H' σ r where
  sub := s'
  g0 := ok.g0.trans s
  gnew := fun a o e => by
    rcases n a o e with e | e
    · exact ok.gnew a o e
    · cases q : C.P a with
      | none => exact .inr rfl
      | some u =>
        by_cases hm : a ∈ C.M
        · exact absurd e (ok.mreal a hm).1
        · rw [ok.prot a u q hm] at e; cases e
  prot := fun a o e hm => k _ _ (ok.prot a o e hm)
  mreal := fun a hm => by
    obtain ⟨h1, h2⟩ := ok.mreal a hm
    refine ⟨fun e => h1 (k.free e), ?_⟩
    cases q : G' a with
    | none => rfl
    | some u =>
      rcases n a u q with e | e
      · rw [h2] at e; cases e
      · exact absurd e h1
  len := ok.len
  cell := fun i c e => by
    obtain ⟨v, e1, h⟩ := ok.cell i c e
    refine ⟨v, e1, h.step s fun p vs h3 h2 _ => ⟨k _ _ h3, ?_⟩⟩
    cases q : G' p with
    | none => rfl
    | some u =>
      rcases n p u q with e | e
      · rw [h2] at e; cases e
      · rw [h3] at e; cases e
  dis := ok.dis
theorem Ok.fresh {p : Addr} (ok : Ok K C G H σ r) (n : H p = none) : C.P p = none ∧ p ∉ C.M ∧ G p = none := by
  have hm : p ∉ C.M := fun hm => (ok.mreal p hm).1 n
  refine ⟨?_, hm, ok.sub.free n⟩
  cases q : C.P p with
  | none => rfl
  | some u => rw [ok.prot p u q hm] at n; cases n
/-- a new thing, known at once -/
theorem Ok.laid {p : Addr} {o : HO} (ok : Ok K C G H σ r) (n : H p = none) : Ok K C (upd G p o) (upd H p o) σ r := by
  have ng := (ok.fresh n).2.2
  refine ok.calm (fun a u e => ?_) (fun a u e => ?_) (fun a u e => ?_) fun a u e => ?_
  · rw [upd_ne (ne_of_none e ng)]; exact e
  · rw [upd_ne (ne_of_none e n)]; exact e
  · by_cases h : a = p
    · subst h; rw [upd_same] at e ⊢; exact e
    · rw [upd_ne h] at e ⊢; exact ok.sub _ _ e
  · by_cases h : a = p
    · subst h; exact .inr n
    · rw [upd_ne h] at e; exact .inl e
/-- a new thing, not yet known -/
theorem Ok.made {p : Addr} {o : HO} (ok : Ok K C G H σ r) (n : H p = none) : Ok K C G (upd H p o) σ r := by
  refine ok.calm (fun a u e => e) (fun a u e => ?_) (fun a u e => ?_) fun a u e => .inl e
  · rw [upd_ne (ne_of_none e n)]; exact e
  · have e' := ok.sub _ _ e
    rw [upd_ne (ne_of_none e' n)]; exact e'
theorem same_laid {p : Addr} {o : HO} (n : G p = none) : Same G (upd G p o) := fun a u e => by rw [upd_ne (ne_of_none e n)]; exact e
end
end SL
namespace SL
open PySem PySem.Spec PyProof.Rows L2
/-! ### readings -/
abbrev FE := Ev → Option (D × Ev)
abbrev FA := Ev → Option (List D × Ev)
abbrev FT := Ev → Option (Bool × Ev)
/-- an expression: pu says that nothing that stood is changed -/
def tE (K : PySem.W.Frag) (pu : Bool) (f : FE) : TE := fun σ H Q => ∃ C G r d r', Ok K C G H σ r ∧ f r = some (d, r') ∧
  ∀ v G' H', Ok K C G' H' σ r' → Same G G' → (pu = true → Same H H') → Dp K G' v d → Q v H'
def tA (K : PySem.W.Frag) (pu : Bool) (f : FA) : TA := fun σ H Q => ∃ C G r d r', Ok K C G H σ r ∧ f r = some (d, r') ∧
  ∀ v G' H', Ok K C G' H' σ r' → Same G G' → (pu = true → Same H H') → DpAll K G' v d → Q v H'
def tT (K : PySem.W.Frag) (pu : Bool) (f : FT) : TT := fun σ H Q => ∃ C G r b r', Ok K C G H σ r ∧ f r = some (b, r') ∧
  ∀ G' H', Ok K C G' H' σ r' → Same G G' → (pu = true → Same H H') → Q b H'
/-- what may be looked at: a thing whose parts are known -/
def Pk (K : PySem.W.Frag) (G H : Hp) (v : V) (d : D) : Prop := Dp K G v d ∨ ∃ p vs ds, v = .ref p ∧ d = .list ds ∧ H p = some (.lst vs) ∧ DpAll K G vs ds
def tP (K : PySem.W.Frag) (pu : Bool) (f : FE) : TE := fun σ H Q => ∃ C G r d r', Ok K C G H σ r ∧ f r = some (d, r') ∧
  ∀ v G' H', Ok K C G' H' σ r' → Same G G' → (pu = true → Same H H') → Pk K G' H' v d → Q v H'
/-- a new list that only the one who asks for it knows -/
def NewX (K : PySem.W.Frag) (C : Ctx) (G H : Hp) (σ : L2.St) (r : Ev) (p : Addr) (o : HO) : Prop :=
  C.P p = none ∧ p ∉ C.M ∧ G p = none ∧ H p = some o ∧ ∀ (i : Nat) (c : Cell), r[i]? = some (some c) → c.isOwn = true → σ[i]? ≠ some (some (.ref p))
def New (K : PySem.W.Frag) (C : Ctx) (G H : Hp) (σ : L2.St) (r : Ev) (p : Addr) (vs : List V) : Prop := NewX K C G H σ r p (.lst vs)
def tL (K : PySem.W.Frag) (pu : Bool) (f : FA) : TE := fun σ H Q => ∃ C G r d r', Ok K C G H σ r ∧ f r = some (d, r') ∧
  ∀ p vs G' H', Ok K C G' H' σ r' → Same G G' → (pu = true → Same H H') → New K C G' H' σ r' p vs → DpAll K G' vs d → Q (.ref p) H'
abbrev SE (X : Cx) (pu : Bool) (e : Expr) (f : FE) : Prop := PE X e (tE X.K pu f)
abbrev SP (X : Cx) (pu : Bool) (e : Expr) (f : FE) : Prop := PE X e (tP X.K pu f)
abbrev SL (X : Cx) (pu : Bool) (e : Expr) (f : FA) : Prop := PE X e (tL X.K pu f)
abbrev ST (X : Cx) (pu : Bool) (e : Expr) (f : FT) : Prop := PT X e (tT X.K pu f)
abbrev SA (X : Cx) (pu : Bool) (es : List Expr) (f : FA) : Prop := PA X es (tA X.K pu f)
theorem PE.weak {X : Cx} {e : Expr} {t t' : TE} (h : PE X e t) (w : ∀ σ H Q, t' σ H Q → t σ H Q) : PE X e t' := ⟨fun pins s σ H Q I q => h.run pins s σ H Q I (w σ H Q q)⟩
theorem PT.weak {X : Cx} {e : Expr} {t t' : TT} (h : PT X e t) (w : ∀ σ H Q, t' σ H Q → t σ H Q) : PT X e t' := ⟨fun pins s σ H Q I q => h.run pins s σ H Q I (w σ H Q q)⟩
theorem PA.weak {X : Cx} {e : List Expr} {t t' : TA} (h : PA X e t) (w : ∀ σ H Q, t' σ H Q → t σ H Q) : PA X e t' := ⟨fun pos pins s σ H Q I q => h.run pos pins s σ H Q I (w σ H Q q)⟩
section
variable {K : PySem.W.Frag} {C : Ctx} {G H G' H' : Hp} {σ : L2.St} {r r' : Ev}
theorem Pk.of {v : V} {d : D} (h : Dp K G v d) : Pk K G H v d := .inl h
theorem Pk.list {v : V} {ds : List D} (s : Same G H) (h : Pk K G H v (.list ds)) : ∃ p vs, v = .ref p ∧ SqL K H p vs ∧ DpAll K G vs ds := by
  rcases h with h | ⟨p, vs, ds', rfl, e, h1, h2⟩
  · cases h with
    | lst a b => exact ⟨_, _, rfl, SqL.mono s a, b⟩
  · cases e
    exact ⟨p, vs, rfl, .inl (.inl h1), h2⟩
theorem Pk.tuple {v : V} {ds : List D} (s : Same G H) (h : Pk K G H v (.tuple ds)) : ∃ p vs, v = .ref p ∧ SqT K H p vs ∧ DpAll K G vs ds := by
  rcases h with h | ⟨p, vs, ds', rfl, e, h1, h2⟩
  · cases h with
    | tup a b => exact ⟨_, _, rfl, SqT.mono s a, b⟩
  · cases e
theorem Pk.int {v : V} {i : Int} (h : Pk K G H v (.int i)) : v = .int i := by
  rcases h with h | ⟨p, vs, ds', rfl, e, h1, h2⟩
  · cases h; rfl
  · cases e
theorem Pk.bool {v : V} {i : Bool} (h : Pk K G H v (.bool i)) : v = .bl i := by
  rcases h with h | ⟨p, vs, ds', rfl, e, h1, h2⟩
  · cases h; rfl
  · cases e
theorem Pk.str {v : V} {i : Str} (h : Pk K G H v (.str i)) : v = .str i := by
  rcases h with h | ⟨p, vs, ds', rfl, e, h1, h2⟩
  · cases h; rfl
  · cases e
theorem Pk.none {v : V} (h : Pk K G H v .none) : v = .non := by
  rcases h with h | ⟨p, vs, ds', rfl, e, h1, h2⟩
  · cases h; rfl
  · cases e
theorem Pk.full {v : V} {d : D} (s : Same G H) (h : Pk K G H v d) : Dp K H v d := by
  rcases h with h | ⟨p, vs, ds', rfl, rfl, h1, h2⟩
  · exact Dp.mono s h
  · exact .lst (.inl (.inl h1)) (DpAll.mono s h2)
theorem Pk.step {v : V} {d : D} (h : Pk K G H v d) (s : Same G G') (k : Same H H') : Pk K G' H' v d := by
  rcases h with h | ⟨p, vs, ds', rfl, rfl, h1, h2⟩
  · exact .inl (Dp.mono s h)
  · exact .inr ⟨p, vs, ds', rfl, rfl, k _ _ h1, DpAll.mono s h2⟩
theorem NewX.freeze {p : Addr} {o : HO} (ok : Ok K C G H σ r) (n : NewX K C G H σ r p o) : Ok K C (upd G p o) H σ r where
  sub := fun a u e => by
    by_cases h : a = p
    · subst h; rw [upd_same] at e; cases e; exact n.2.2.2.1
    · rw [upd_ne h] at e; exact ok.sub _ _ e
  g0 := ok.g0.trans (same_laid n.2.2.1)
  gnew := fun a o e => by
    by_cases h : a = p
    · subst h; exact .inr n.1
    · rw [upd_ne h] at e; exact ok.gnew _ _ e
  prot := ok.prot
  mreal := fun a hm => by
    obtain ⟨h1, h2⟩ := ok.mreal a hm
    refine ⟨h1, ?_⟩
    rw [upd_ne (show a ≠ p from fun e => n.2.1 (by rw [← e]; exact hm))]
    exact h2
  len := ok.len
  cell := fun i c e => by
    obtain ⟨v, e1, h⟩ := ok.cell i c e
    refine ⟨v, e1, ?_⟩
    cases c with
    | val d => exact Dp.mono (same_laid n.2.2.1) h
    | own ds =>
      obtain ⟨q, ws, rfl, h1, h2, h3, h4⟩ := h
      have hq : q ≠ p := fun z => n.2.2.2.2 i _ e rfl (by rw [e1, z])
      exact ⟨q, ws, rfl, h1, by rw [upd_ne hq]; exact h2, h3, DpAll.mono (same_laid n.2.2.1) h4⟩
    | loan m ds =>
      obtain ⟨q, ws, rfl, h1, h2, h3, h4⟩ := h
      have hq : q ≠ p := fun z => n.2.2.2.2 i _ e rfl (by rw [e1, z])
      exact ⟨q, ws, rfl, h1, by rw [upd_ne hq]; exact h2, h3, DpAll.mono (same_laid n.2.2.1) h4⟩
    | ownD kds =>
      obtain ⟨q, ob, ks, rfl, h1, h2, h3, h4⟩ := h
      have hq : q ≠ p := fun z => n.2.2.2.2 i _ e rfl (by rw [e1, z])
      exact ⟨q, ob, ks, rfl, h1, by rw [upd_ne hq]; exact h2, h3, DpKs.mono (same_laid n.2.2.1) h4⟩
    | tag m => exact h
    | fre d => exact DpN.mono (same_laid n.2.2.1) h
    | ownF ds =>
      obtain ⟨q, ws, rfl, h1, h2, h3, h4⟩ := h
      have hq : q ≠ p := fun z => n.2.2.2.2 i _ e rfl (by rw [e1, z])
      exact ⟨q, ws, rfl, h1, by rw [upd_ne hq]; exact h2, h3, DpNAll.mono (same_laid n.2.2.1) h4⟩
  dis := ok.dis
theorem New.freeze {p : Addr} {vs : List V} (ok : Ok K C G H σ r) (n : New K C G H σ r p vs) : Ok K C (upd G p (.lst vs)) H σ r := NewX.freeze ok n
theorem Ok.ne_of_fresh {p : Addr} (ok : Ok K C G H σ r) (n : H p = Option.none) {i : Nat} {c : Cell} (e : r[i]? = some (some c)) (o : c.isOwn = true) : σ[i]? ≠ some (some (.ref p)) := by
  obtain ⟨v, e1, h⟩ := ok.cell i c e
  intro z
  rw [e1] at z; cases z
  cases c with
  | val d => cases o
  | own ds =>
    obtain ⟨q, ws, e2, h1, h2, h3, h4⟩ := h
    cases e2
    rw [h3] at n; cases n
  | loan m ds =>
    obtain ⟨q, ws, e2, h1, h2, h3, h4⟩ := h
    cases e2
    rw [h3] at n; cases n
  | ownD kds =>
    obtain ⟨q, ob, ks, e2, h1, h2, h3, h4⟩ := h
    cases e2
    rw [h3] at n; cases n
  | tag m => cases o
  | fre d => cases o
  | ownF ds =>
    obtain ⟨q, ws, e2, h1, h2, h3, h4⟩ := h
    cases e2
    rw [h3] at n; cases n
/-- a list just made -/
theorem Ok.newX {p : Addr} {o : HO} (ok : Ok K C G H σ r) (n : H p = Option.none) : Ok K C G (upd H p o) σ r ∧ NewX K C G (upd H p o) σ r p o :=
  ⟨ok.made n, (ok.fresh n).1, (ok.fresh n).2.1, (ok.fresh n).2.2, upd_same, fun i c e o => ok.ne_of_fresh n e o⟩
theorem Ok.newList {p : Addr} {vs : List V} (ok : Ok K C G H σ r) (n : H p = Option.none) : Ok K C G (upd H p (.lst vs)) σ r ∧ New K C G (upd H p (.lst vs)) σ r p vs := ok.newX n
end
section
variable {X : Cx} {e a b : Expr} {es : List Expr} {f fa fb : FE} {g : FA} {pu p q : Bool} {pos : Pos}
theorem se_imp (h : SE X true e f) : SE X pu e f := PE.weak h fun σ H Q ⟨C, G, r, d, r', ok, hf, k⟩ => ⟨C, G, r, d, r', ok, hf, fun v G' H' o s m x => k v G' H' o s (fun _ => m rfl) x⟩
theorem sp_of (h : SE X pu e f) : SP X pu e f := PE.weak h fun σ H Q ⟨C, G, r, d, r', ok, hf, k⟩ => ⟨C, G, r, d, r', ok, hf, fun v G' H' o s m x => k v G' H' o s m (.inl x)⟩
def fL (g : FA) : FE := fun r => (g r).map fun p => (.list p.1, p.2)
@[simp] theorem fL_r (g : FA) (r : Ev) : fL g r = (g r).map fun p => (.list p.1, p.2) := rfl
theorem se_of_new (h : SL X pu e g) : SE X pu e (fL g) := PE.weak h fun σ H Q ⟨C, G, r, d, r', ok, hf, k⟩ => by
  unfold fL at hf
  cases hg : g r with
  | none => rw [hg] at hf; cases hf
  | some z =>
    obtain ⟨ds, r1⟩ := z
    rw [hg] at hf
    cases hf
    refine ⟨C, G, r, ds, r1, ok, hg, fun p vs G' H' o s m n x => ?_⟩
    refine k _ (upd G' p (.lst vs)) H' (n.freeze o) (s.trans (same_laid n.2.2.1)) m (.lst (.inl (.inl upd_same)) (DpAll.mono (same_laid n.2.2.1) x))
/-! ### constants and names -/
def fC (d : D) : FE := fun r => some (d, r)
@[simp] theorem fC_r (d : D) (r : Ev) : fC d r = some (d, r) := rfl
theorem se_int {i : Int} {j} : SE X true (.Constant (.int i) j pos) (fC (.int i)) := PE.weak pe_int fun σ H Q ⟨C, G, r, d, r', ok, hf, k⟩ => by cases hf; exact k _ G H ok (Same.refl _) (fun _ => Same.refl _) (.int i)
theorem se_bool {i : Bool} {j} : SE X true (.Constant (.bool i) j pos) (fC (.bool i)) := PE.weak pe_bl fun σ H Q ⟨C, G, r, d, r', ok, hf, k⟩ => by cases hf; exact k _ G H ok (Same.refl _) (fun _ => Same.refl _) (.bl i)
theorem se_none {j} : SE X true (.Constant .none j pos) (fC .none) := PE.weak pe_non fun σ H Q ⟨C, G, r, d, r', ok, hf, k⟩ => by cases hf; exact k _ G H ok (Same.refl _) (fun _ => Same.refl _) .non
theorem se_str {x : Str} {j} : SE X true (.Constant (.str x) j pos) (fC (.str x)) := PE.weak pe_str fun σ H Q ⟨C, G, r, d, r', ok, hf, k⟩ => by cases hf; exact k _ G H ok (Same.refl _) (fun _ => Same.refl _) (.str x)
/-- a constant of the module -/
theorem se_glob {x : Str} {v : V} {u : Value} {d : D} (hg : Gl X x) (hm : X.mg x = some u) (rv : RelV v u) (hd : ∀ G, Dp X.K G v d) (hdb : (x == ("__debug__" : Str)) = false := by decide) : SE X true (.Name x pos) (fC d) :=
  PE.weak (pe_glob hg hm rv hdb) fun σ H Q ⟨C, G, r, d, r', ok, hf, k⟩ => by cases hf; exact k _ G H ok (Same.refl _) (fun _ => Same.refl _) (hd G)
def fV (i : Nat) : FE := fun r => match r[i]? with
  | some (some (.val d)) => some (d, r)
  | some (some (.own ds)) => some (.list ds, r.set i (some (.val (.list ds))))
  | some (some (.ownD kds)) => some (.dict kds, r.set i (some (.val (.dict kds))))
  | some (some (.fre d)) => some (d, r)
  | some (some (.ownF ds)) => some (.list ds, r.set i (some (.fre (.list ds))))
  | _ => none
@[simp] theorem fV_r (i : Nat) (r : Ev) : fV i r = match r[i]? with
  | some (some (.val d)) => some (d, r)
  | some (some (.own ds)) => some (.list ds, r.set i (some (.val (.list ds))))
  | some (some (.ownD kds)) => some (.dict kds, r.set i (some (.val (.dict kds))))
  | some (some (.fre d)) => some (d, r)
  | some (some (.ownF ds)) => some (.list ds, r.set i (some (.fre (.list ds))))
  | _ => none := rfl
/-- looked at, not handed on -/
def fVp (i : Nat) : FE := fun r => match r[i]? with
  | some (some (.val d)) => some (d, r)
  | some (some (.own ds)) => some (.list ds, r)
  | some (some (.loan _ ds)) => some (.list ds, r)
  | some (some (.fre d)) => some (d, r)
  | some (some (.ownF ds)) => some (.list ds, r)
  | _ => none
@[simp] theorem fVp_r (i : Nat) (r : Ev) : fVp i r = match r[i]? with
  | some (some (.val d)) => some (d, r)
  | some (some (.own ds)) => some (.list ds, r)
  | some (some (.loan _ ds)) => some (.list ds, r)
  | some (some (.fre d)) => some (d, r)
  | some (some (.ownF ds)) => some (.list ds, r)
  | _ => none := rfl
theorem Ok.freezeC {K : PySem.W.Frag} {C : Ctx} {G H : Hp} {σ : L2.St} {r : Ev} {i : Nat} {c0 : Cell} {dd : D} {p : Addr} {ob : HO} (ok : Ok K C G H σ r) (e : r[i]? = some (some c0)) (oc : c0.isOwn = true) (e1 : σ[i]? = some (some (.ref p))) (h1 : C.P p = none ∧ p ∉ C.M) (h2 : G p = none)
    (h3 : H p = some ob) (dp : Dp K (upd G p ob) (.ref p) dd) (cc : Cell) (occ : cc.isOwn = false) (hcc : CellOk K C (upd G p ob) H (.ref p) cc) : Ok K C (upd G p ob) H σ (r.set i (some cc)) ∧ Same G (upd G p ob) ∧ Dp K (upd G p ob) (.ref p) dd := by
  have sm : Same G (upd G p ob) := same_laid h2
  have hi : i < r.length := (List.getElem?_eq_some_iff.mp e).1
  refine ⟨⟨fun a u q => ?_, ok.g0.trans sm, fun a o q => ?_, ok.prot, fun a hm => ?_, by rw [List.length_set]; exact ok.len, fun j c q => ?_, fun j k c c' q1 q2 o1 o2 => ?_⟩, sm, dp⟩
  · by_cases h : a = p
    · subst h; rw [upd_same] at q; cases q; exact h3
    · rw [upd_ne h] at q; exact ok.sub _ _ q
  · by_cases h : a = p
    · subst h; exact .inr h1.1
    · rw [upd_ne h] at q; exact ok.gnew _ _ q
  · obtain ⟨m1, m2⟩ := ok.mreal a hm
    refine ⟨m1, ?_⟩
    by_cases h : a = p
    · subst h; exact absurd hm h1.2
    · rw [upd_ne h]; exact m2
  · by_cases h : j = i
    · subst h
      rw [List.getElem?_set_self hi] at q
      cases q
      exact ⟨_, e1, hcc⟩
    · rw [List.getElem?_set_ne (Ne.symm h)] at q
      obtain ⟨v, e2, hc⟩ := ok.cell j c q
      refine ⟨v, e2, ?_⟩
      cases c with
      | val d => exact Dp.mono sm hc
      | own es =>
        obtain ⟨x, ws, rfl, g1, g2, g3, g4⟩ := hc
        have hx : x ≠ p := fun z => h (ok.dis j i _ _ q e rfl oc (by rw [e2, e1, z]))
        exact ⟨x, ws, rfl, g1, by rw [upd_ne hx]; exact g2, g3, DpAll.mono sm g4⟩
      | loan m es =>
        obtain ⟨x, ws, rfl, g1, g2, g3, g4⟩ := hc
        have hx : x ≠ p := fun z => h (ok.dis j i _ _ q e rfl oc (by rw [e2, e1, z]))
        exact ⟨x, ws, rfl, g1, by rw [upd_ne hx]; exact g2, g3, DpAll.mono sm g4⟩
      | ownD kds' =>
        obtain ⟨x, ob, ks, rfl, g1, g2, g3, g4⟩ := hc
        have hx : x ≠ p := fun z => h (ok.dis j i _ _ q e rfl oc (by rw [e2, e1, z]))
        exact ⟨x, ob, ks, rfl, g1, by rw [upd_ne hx]; exact g2, g3, DpKs.mono sm g4⟩
      | tag m => exact hc
      | fre d => exact DpN.mono sm hc
      | ownF es =>
        obtain ⟨x, ws, rfl, g1, g2, g3, g4⟩ := hc
        have hx : x ≠ p := fun z => h (ok.dis j i _ _ q e rfl oc (by rw [e2, e1, z]))
        exact ⟨x, ws, rfl, g1, by rw [upd_ne hx]; exact g2, g3, DpNAll.mono sm g4⟩
  · have n : ∀ (x : Nat) (c : Cell), (r.set i (some cc))[x]? = some (some c) → c.isOwn = true → r[x]? = some (some c) := fun x c q o => by
      by_cases h : x = i
      · subst h
        rw [List.getElem?_set_self hi] at q
        cases q; rw [occ] at o; cases o
      · rw [List.getElem?_set_ne (Ne.symm h)] at q; exact q
    exact ok.dis j k c c' (n j c q1 o1) (n k c' q2 o2) o1 o2
theorem Ok.freezeX {K : PySem.W.Frag} {C : Ctx} {G H : Hp} {σ : L2.St} {r : Ev} {i : Nat} {c0 : Cell} {dd : D} {p : Addr} {ob : HO} (ok : Ok K C G H σ r) (e : r[i]? = some (some c0)) (oc : c0.isOwn = true) (e1 : σ[i]? = some (some (.ref p))) (h1 : C.P p = none ∧ p ∉ C.M) (h2 : G p = none)
    (h3 : H p = some ob) (dp : Dp K (upd G p ob) (.ref p) dd) : Ok K C (upd G p ob) H σ (r.set i (some (.val dd))) ∧ Same G (upd G p ob) ∧ Dp K (upd G p ob) (.ref p) dd := ok.freezeC e oc e1 h1 h2 h3 dp (.val dd) rfl dp
theorem Ok.freeze {K : PySem.W.Frag} {C : Ctx} {G H : Hp} {σ : L2.St} {r : Ev} {i : Nat} {ds : List D} {p : Addr} {vs : List V} (ok : Ok K C G H σ r) (e : r[i]? = some (some (.own ds))) (e1 : σ[i]? = some (some (.ref p))) (h1 : C.P p = none ∧ p ∉ C.M) (h2 : G p = none)
    (h3 : H p = some (.lst vs)) (h4 : DpAll K G vs ds) : Ok K C (upd G p (.lst vs)) H σ (r.set i (some (.val (.list ds)))) ∧ Same G (upd G p (.lst vs)) ∧ Dp K (upd G p (.lst vs)) (.ref p) (.list ds) :=
  ok.freezeX e rfl e1 h1 h2 h3 (.lst (.inl (.inl upd_same)) (DpAll.mono (same_laid h2) h4))
theorem Ok.freezeD {K : PySem.W.Frag} {C : Ctx} {G H : Hp} {σ : L2.St} {r : Ev} {i : Nat} {kds : List (D × D)} {p : Addr} {o : Obj} {ks : List KE3} (ok : Ok K C G H σ r) (e : r[i]? = some (some (.ownD kds))) (e1 : σ[i]? = some (some (.ref p))) (h1 : C.P p = none ∧ p ∉ C.M) (h2 : G p = none)
    (h3 : H p = some (DicO p o ks)) (h4 : DpKs K G ks kds) : Ok K C (upd G p (DicO p o ks)) H σ (r.set i (some (.val (.dict kds)))) ∧ Same G (upd G p (DicO p o ks)) ∧ Dp K (upd G p (DicO p o ks)) (.ref p) (.dict kds) :=
  ok.freezeX e rfl e1 h1 h2 h3 (.dic upd_same (DpKs.mono (same_laid h2) h4))
theorem Ok.freezeF {K : PySem.W.Frag} {C : Ctx} {G H : Hp} {σ : L2.St} {r : Ev} {i : Nat} {ds : List D} {p : Addr} {vs : List V} (ok : Ok K C G H σ r) (e : r[i]? = some (some (.ownF ds))) (e1 : σ[i]? = some (some (.ref p))) (h1 : C.P p = none ∧ p ∉ C.M) (h2 : G p = none)
    (h3 : H p = some (.lst vs)) (h4 : DpNAll K C.P G vs ds) : Ok K C (upd G p (.lst vs)) H σ (r.set i (some (.fre (.list ds)))) ∧ Same G (upd G p (.lst vs)) ∧ DpN K C.P (upd G p (.lst vs)) (.ref p) (.list ds) := by
  have dn : DpN K C.P (upd G p (.lst vs)) (.ref p) (.list ds) := .lst upd_same h1.1 (DpNAll.mono (same_laid h2) h4)
  obtain ⟨a, b, _⟩ := ok.freezeC (dd := .list ds) e rfl e1 h1 h2 h3 dn.dp (.fre (.list ds)) rfl dn
  exact ⟨a, b, dn⟩
end
end SL
namespace SL
open PySem PySem.Spec PyProof.Rows L2
section
variable {X : Cx} {e a b : Expr} {es : List Expr} {f fa fb : FE} {g : FA} {pu p q : Bool} {pos : Pos}
theorem se_var (i : Nat) {x : Str} (hN : X.N[i]? = some x := by rfl) (hv : Vis X.env.scope x := by first | exact Or.inl rfl | exact Or.inr (Or.inl rfl) | exact Or.inr (Or.inr rfl)) (hd : (x == ("__debug__" : Str)) = false := by decide)
    (hcd : (x == ("__classdict__" : Str)) = false := by decide) : SE X true (.Name x pos) (fV i) := PE.weak (pe_var hN hv hd hcd) fun σ H Q ⟨C, G, r, d, r', ok, hf, k⟩ => by
  unfold fV at hf
  split at hf
  · rename_i d' e
    cases hf
    obtain ⟨v, e1, h⟩ := ok.cell i _ e
    exact ⟨v, e1, k v G H ok (Same.refl _) (fun _ => Same.refl _) h⟩
  · rename_i ds e
    cases hf
    obtain ⟨v, e1, p, vs, rfl, h1, h2, h3, h4⟩ := ok.cell i _ e
    obtain ⟨o1, o2, o3⟩ := ok.freeze e e1 h1 h2 h3 h4
    exact ⟨_, e1, k _ _ H o1 o2 (fun _ => Same.refl _) o3⟩
  · rename_i kds e
    cases hf
    obtain ⟨v, e1, p, o, ks, rfl, h1, h2, h3, h4⟩ := ok.cell i _ e
    obtain ⟨o1, o2, o3⟩ := ok.freezeD e e1 h1 h2 h3 h4
    exact ⟨_, e1, k _ _ H o1 o2 (fun _ => Same.refl _) o3⟩
  · rename_i d' e
    cases hf
    obtain ⟨v, e1, h⟩ := ok.cell i _ e
    exact ⟨v, e1, k v G H ok (Same.refl _) (fun _ => Same.refl _) (DpN.dp h)⟩
  · rename_i ds e
    cases hf
    obtain ⟨v, e1, p, vs, rfl, h1, h2, h3, h4⟩ := ok.cell i _ e
    obtain ⟨o1, o2, o3⟩ := ok.freezeF e e1 h1 h2 h3 h4
    exact ⟨_, e1, k _ _ H o1 o2 (fun _ => Same.refl _) o3.dp⟩
  · cases hf
theorem sp_var (i : Nat) {x : Str} (hN : X.N[i]? = some x := by rfl) (hv : Vis X.env.scope x := by first | exact Or.inl rfl | exact Or.inr (Or.inl rfl) | exact Or.inr (Or.inr rfl)) (hd : (x == ("__debug__" : Str)) = false := by decide)
    (hcd : (x == ("__classdict__" : Str)) = false := by decide) : SP X true (.Name x pos) (fVp i) := PE.weak (pe_var hN hv hd hcd) fun σ H Q ⟨C, G, r, d, r', ok, hf, k⟩ => by
  unfold fVp at hf
  split at hf
  · rename_i d' e
    cases hf
    obtain ⟨v, e1, h⟩ := ok.cell i _ e
    exact ⟨v, e1, k v G H ok (Same.refl _) (fun _ => Same.refl _) (.inl h)⟩
  · rename_i ds e
    cases hf
    obtain ⟨v, e1, p, vs, rfl, h1, h2, h3, h4⟩ := ok.cell i _ e
    exact ⟨_, e1, k _ G H ok (Same.refl _) (fun _ => Same.refl _) (.inr ⟨p, vs, ds, rfl, rfl, h3, h4⟩)⟩
  · rename_i m ds e
    cases hf
    obtain ⟨v, e1, p, vs, rfl, h1, h2, h3, h4⟩ := ok.cell i _ e
    exact ⟨_, e1, k _ G H ok (Same.refl _) (fun _ => Same.refl _) (.inr ⟨p, vs, ds, rfl, rfl, h3, h4⟩)⟩
  · rename_i d' e
    cases hf
    obtain ⟨v, e1, h⟩ := ok.cell i _ e
    exact ⟨v, e1, k v G H ok (Same.refl _) (fun _ => Same.refl _) (.inl (DpN.dp h))⟩
  · rename_i ds e
    cases hf
    obtain ⟨v, e1, p, vs, rfl, h1, h2, h3, h4⟩ := ok.cell i _ e
    exact ⟨_, e1, k _ G H ok (Same.refl _) (fun _ => Same.refl _) (.inr ⟨p, vs, ds, rfl, rfl, h3, h4.dp⟩)⟩
  · cases hf
/-! ### rules by values -/
/-- what an operation may hand back: d, at a heap that is as before but for new things -/
def Back (K : PySem.W.Frag) (G H : Hp) (d : D) (Q : VK) : Prop := ∀ v G' H', Same G G' → Same H H' → Same G' H' → (∀ a o, G' a = some o → G a = some o ∨ H a = none) → Dp K G' v d → Q v H'
theorem Back.val {K : PySem.W.Frag} {G H : Hp} {d : D} {Q : VK} {v : V} (s : Same G H) (h : Back K G H d Q) (x : Dp K G v d) : Q v H := h v G H (Same.refl _) (Same.refl _) s (fun _ _ e => .inl e) x
theorem Back.lst {K : PySem.W.Frag} {G H : Hp} {ds : List D} {Q : VK} {p : Addr} {vs : List V} (s : Same G H) (h : Back K G H (.list ds) Q) (n : H p = none) (x : DpAll K G vs ds) : Q (.ref p) (upd H p (.lst vs)) := by
  have ng := s.free n
  refine h _ (upd G p (.lst vs)) _ (same_laid ng) (same_laid n) (fun a u e => ?_) (fun a u e => ?_) (.lst (.inl (.inl upd_same)) (DpAll.mono (same_laid ng) x))
  · by_cases h : a = p
    · subst h; rw [upd_same] at e ⊢; exact e
    · rw [upd_ne h] at e ⊢; exact s _ _ e
  · by_cases h : a = p
    · subst h; exact .inr n
    · rw [upd_ne h] at e; exact .inl e
theorem Back.tup {K : PySem.W.Frag} {G H : Hp} {ds : List D} {Q : VK} {p : Addr} {vs : List V} (s : Same G H) (h : Back K G H (.tuple ds) Q) (n : H p = none) (x : DpAll K G vs ds) : Q (.ref p) (upd H p (.tup vs)) := by
  have ng := s.free n
  refine h _ (upd G p (.tup vs)) _ (same_laid ng) (same_laid n) (fun a u e => ?_) (fun a u e => ?_) (.tup (.inl (.inl upd_same)) (DpAll.mono (same_laid ng) x))
  · by_cases h : a = p
    · subst h; rw [upd_same] at e ⊢; exact e
    · rw [upd_ne h] at e ⊢; exact s _ _ e
  · by_cases h : a = p
    · subst h; exact .inr n
    · rw [upd_ne h] at e; exact .inl e
/-- from what a caller knows to Back -/
theorem Ok.back {K : PySem.W.Frag} {C : Ctx} {G H : Hp} {σ : L2.St} {r : Ev} {d : D} {Q : VK} (ok : Ok K C G H σ r) (k : ∀ v G' H', Ok K C G' H' σ r → Same G G' → Same H H' → Dp K G' v d → Q v H') : Back K G H d Q :=
  fun v G' H' s m s' n x => k v G' H' (ok.calm s m s' n) s m x
def Op1 (K : PySem.W.Frag) (r : V → Hp → VK → Prop) (g : D → Option D) : Prop := ∀ G H x dx dz Q, Same G H → Pk K G H x dx → g dx = some dz → Back K G H dz Q → r x H Q
def Op2 (K : PySem.W.Frag) (r : R2) (g : D → D → Option D) : Prop := ∀ G H x y dx dy dz Q, Same G H → Pk K G H x dx → Pk K G H y dy → g dx dy = some dz → Back K G H dz Q → r x y H Q
def f1 (g : D → Option D) (a : FE) : FE := fun r => (a r).bind fun x => (g x.1).map fun z => (z, x.2)
@[simp] theorem f1_r (g : D → Option D) (a : FE) (r : Ev) : f1 g a r = (a r).bind fun x => (g x.1).map fun z => (z, x.2) := rfl
def f2 (g : D → D → Option D) (a b : FE) : FE := fun r => (a r).bind fun x => (b x.2).bind fun y => (g x.1 y.1).map fun z => (z, y.2)
@[simp] theorem f2_r (g : D → D → Option D) (a b : FE) (r : Ev) : f2 g a b r = (a r).bind fun x => (b x.2).bind fun y => (g x.1 y.1).map fun z => (z, y.2) := rfl
theorem f1_some {g : D → Option D} {a : FE} {r r' : Ev} {d : D} (h : f1 g a r = some (d, r')) : ∃ x, a r = some (x, r') ∧ g x = some d := by
  unfold f1 at h
  obtain ⟨⟨x, r1⟩, h1, h2⟩ := Option.bind_eq_some_iff.mp h
  obtain ⟨z, h3, h4⟩ := Option.map_eq_some_iff.mp h2
  cases h4
  exact ⟨x, h1, h3⟩
theorem f2_some {g : D → D → Option D} {a b : FE} {r r' : Ev} {d : D} (h : f2 g a b r = some (d, r')) : ∃ x r1 y, a r = some (x, r1) ∧ b r1 = some (y, r') ∧ g x y = some d := by
  unfold f2 at h
  obtain ⟨⟨x, r1⟩, h1, h2⟩ := Option.bind_eq_some_iff.mp h
  obtain ⟨⟨y, r2⟩, h3, h4⟩ := Option.bind_eq_some_iff.mp h2
  obtain ⟨z, h5, h6⟩ := Option.map_eq_some_iff.mp h4
  cases h6
  exact ⟨x, r1, y, h1, h3, h5⟩
theorem Op2.or {K : PySem.W.Frag} {r r' : R2} {g : D → D → Option D} (h : ∀ dx dy dz, g dx dy = some dz → (∀ G H x y Q, Same G H → Pk K G H x dx → Pk K G H y dy → Back K G H dz Q → r x y H Q) ∨ (∀ G H x y Q, Same G H → Pk K G H x dx → Pk K G H y dy → Back K G H dz Q → r' x y H Q)) :
    Op2 K (fun x y H Q => r x y H Q ∨ r' x y H Q) g := fun G H x y dx dy dz Q s hx hy e bk => by
  rcases h dx dy dz e with h | h
  · exact .inl (h G H x y Q s hx hy bk)
  · exact .inr (h G H x y Q s hx hy bk)
theorem and1 {p q : Bool} (h : (p && q) = true) : p = true := (Bool.and_eq_true_iff.mp h).1
theorem and2 {p q : Bool} (h : (p && q) = true) : q = true := (Bool.and_eq_true_iff.mp h).2
/-- the reading of two values: each handed on -/
theorem t_op2 {r : R2} {g : D → D → Option D} (o : Op2 X.K r g) {σ : L2.St} {H : Hp} {Q : VK} (h : tE X.K (p && q) (f2 g fa fb) σ H Q) : tOp r (tE X.K p fa) (tE X.K q fb) σ H Q := by
  obtain ⟨C, G, r0, d, r', ok, hf, k⟩ := h
  obtain ⟨x, r1, y, h1, h2, h3⟩ := f2_some hf
  refine ⟨C, G, r0, x, r1, ok, h1, fun v G1 H1 ok1 s1 m1 x1 => ⟨C, G1, r1, y, r', ok1, h2, fun w G2 H2 ok2 s2 m2 x2 => ?_⟩⟩
  refine o G2 H2 v w x y d Q ok2.sub (.inl (Dp.mono s2 x1)) (.inl x2) h3 (ok2.back fun v3 G3 H3 ok3 s3 m3 x3 => ?_)
  exact k v3 G3 H3 ok3 ((s1.trans s2).trans s3) (fun m => ((m1 (and1 m)).trans (m2 (and2 m))).trans m3) x3
/-- .. the first one only looked at -/
theorem t_op2p {r : R2} {g : D → D → Option D} (o : Op2 X.K r g) {σ : L2.St} {H : Hp} {Q : VK} (h : tE X.K p (f2 g fa fb) σ H Q) : tOp r (tP X.K p fa) (tP X.K true fb) σ H Q := by
  obtain ⟨C, G, r0, d, r', ok, hf, k⟩ := h
  obtain ⟨x, r1, y, h1, h2, h3⟩ := f2_some hf
  refine ⟨C, G, r0, x, r1, ok, h1, fun v G1 H1 ok1 s1 m1 x1 => ⟨C, G1, r1, y, r', ok1, h2, fun w G2 H2 ok2 s2 m2 x2 => ?_⟩⟩
  refine o G2 H2 v w x y d Q ok2.sub (x1.step s2 (m2 rfl)) x2 h3 (ok2.back fun v3 G3 H3 ok3 s3 m3 x3 => ?_)
  exact k v3 G3 H3 ok3 ((s1.trans s2).trans s3) (fun m => ((m1 m).trans (m2 rfl)).trans m3) x3
theorem t_op1 {r : V → Hp → VK → Prop} {g : D → Option D} (o : Op1 X.K r g) {σ : L2.St} {H : Hp} {Q : VK} (h : tE X.K p (f1 g fa) σ H Q) : tUn r (tP X.K p fa) σ H Q := by
  obtain ⟨C, G, r0, d, r', ok, hf, k⟩ := h
  obtain ⟨x, h1, h3⟩ := f1_some hf
  refine ⟨C, G, r0, x, r', ok, h1, fun v G1 H1 ok1 s1 m1 x1 => ?_⟩
  refine o G1 H1 v x d Q ok1.sub x1 h3 (ok1.back fun v3 G3 H3 ok3 s3 m3 x3 => ?_)
  exact k v3 G3 H3 ok3 (s1.trans s3) (fun m => (m1 m).trans m3) x3
/-- two values -/
theorem se_op2 {op : Operator} {r : R2} {g : D → D → Option D} (ho : OpR X (binaryOp op) r) (o : Op2 X.K r g) (ha : SE X p a fa) (hb : SE X q b fb) : SE X (p && q) (.BinOp a op b pos) (f2 g fa fb) :=
  PE.weak (pe_op ho ha hb) fun σ H Q h => t_op2 o h
theorem se_op2p {op : Operator} {r : R2} {g : D → D → Option D} (ho : OpR X (binaryOp op) r) (o : Op2 X.K r g) (ha : SP X p a fa) (hb : SP X true b fb) : SE X p (.BinOp a op b pos) (f2 g fa fb) :=
  PE.weak (pe_op ho ha hb) fun σ H Q h => t_op2p o h
theorem se_op1 {op : UnaryOp} {r : V → Hp → VK → Prop} {g : D → Option D} (ho : UnR X (unaryOp op) r) (o : Op1 X.K r g) (ha : SP X p a fa) : SE X p (.UnaryOp op a pos) (f1 g fa) :=
  PE.weak (pe_un ho ha) fun σ H Q h => t_op1 o h
/-- comparisons: as a value, as a test -/
theorem se_cmp {op : CmpOp} {r : R2} {g : D → D → Option D} (ho : OpR X (compareOp op) r) (o : Op2 X.K r g) (ha : SE X p a fa) (hb : SE X q b fb) (hm : behindInMarks op b = false) : SE X (p && q) (.Compare a [op] [b] pos) (f2 g fa fb) :=
  PE.weak (pe_cmpR ho ha hb hm) fun σ H Q h => t_op2 o h
theorem se_cmpp {op : CmpOp} {r : R2} {g : D → D → Option D} (ho : OpR X (compareOp op) r) (o : Op2 X.K r g) (ha : SP X p a fa) (hb : SP X true b fb) (hm : behindInMarks op b = false) : SE X p (.Compare a [op] [b] pos) (f2 g fa fb) :=
  PE.weak (pe_cmpR ho ha hb hm) fun σ H Q h => t_op2p o h
/-- a test that a value answers -/
def gT (f : FE) : FT := fun r => match f r with
  | some (.bool b, r') => some (b, r')
  | _ => none
@[simp] theorem gT_r (f : FE) (r : Ev) : gT f r = match f r with
  | some (.bool b, r') => some (b, r')
  | _ => none := rfl
theorem gT_some {f : FE} {r r' : Ev} {b : Bool} (h : gT f r = some (b, r')) : f r = some (.bool b, r') := by
  unfold gT at h
  split at h
  · rename_i e; cases h; exact e
  · cases h
theorem t_bool {t : TE} {σ : L2.St} {H : Hp} {Q : Bool → Hp → Prop} (w : ∀ Q' : VK, tE X.K p f σ H Q' → t σ H Q') (h : tT X.K p (gT f) σ H Q) : t σ H (fun x H1 => ∃ c, x = .bl c ∧ Q c H1) := by
  obtain ⟨C, G, r0, d, r', ok, hf, k⟩ := h
  refine w _ ⟨C, G, r0, _, r', ok, gT_some hf, fun v G1 H1 ok1 s1 m1 x1 => ?_⟩
  cases x1
  exact ⟨d, rfl, k G1 H1 ok1 s1 m1⟩
theorem st_cmp {op : CmpOp} {r : R2} {g : D → D → Option D} (ho : OpR X (compareOp op) r) (o : Op2 X.K r g) (ha : SE X p a fa) (hb : SE X q b fb) (hm : behindInMarks op b = false) : ST X (p && q) (.Compare a [op] [b] pos) (gT (f2 g fa fb)) :=
  PT.weak (pt_cmpR ho ha hb hm) fun σ H Q h => t_bool (fun Q' => t_op2 o) h
theorem st_cmpp {op : CmpOp} {r : R2} {g : D → D → Option D} (ho : OpR X (compareOp op) r) (o : Op2 X.K r g) (ha : SP X p a fa) (hb : SP X true b fb) (hm : behindInMarks op b = false) : ST X p (.Compare a [op] [b] pos) (gT (f2 g fa fb)) :=
  PT.weak (pt_cmpR ho ha hb hm) fun σ H Q h => t_bool (fun Q' => t_op2p o) h
/-- any other expression whose value is a bool -/
theorem st_val (h : SE X p e f) (he : ∀ whole, isTrue e X.env whole = (do let v ← whole; standAt e.pos; holding [v] (truthy v)) := by intro _; rfl) : ST X p e (gT f) :=
  PT.weak (pt_val h he) fun σ H Q h => t_bool (fun Q' q => q) h
/-- not -/
def gNot (f : FT) : FT := fun r => (f r).map fun x => (!x.1, x.2)
@[simp] theorem gNot_r (f : FT) (r : Ev) : gNot f r = (f r).map fun x => (!x.1, x.2) := rfl
theorem st_not {fT : FT} (h : ST X p e fT) : ST X p (.UnaryOp .Not e pos) (gNot fT) := PT.weak (pt_not h) fun σ H Q ⟨C, G, r, d, r', ok, hf, k⟩ => by
  unfold gNot at hf
  obtain ⟨⟨c, r1⟩, h1, h2⟩ := Option.map_eq_some_iff.mp hf
  cases h2
  exact ⟨C, G, r, c, _, ok, h1, fun G' H' o s m => k G' H' o s m⟩
def gAnd (f g : FT) : FT := fun r => (f r).bind fun x => if x.1 = true then g x.2 else some (false, x.2)
@[simp] theorem gAnd_r (f g : FT) (r : Ev) : gAnd f g r = (f r).bind fun x => if x.1 = true then g x.2 else some (false, x.2) := rfl
def gOr (f g : FT) : FT := fun r => (f r).bind fun x => if x.1 = true then some (true, x.2) else g x.2
@[simp] theorem gOr_r (f g : FT) (r : Ev) : gOr f g r = (f r).bind fun x => if x.1 = true then some (true, x.2) else g x.2 := rfl
structure SW (X : Cx) (pu : Bool) (e : Expr) (f : FT) : Prop where
  w : PW X e (tT X.K pu f)
theorem PW.weak {X : Cx} {e : Expr} {t t' : TT} (h : PW X e t) (w : ∀ σ H Q, t' σ H Q → t σ H Q) : PW X e t' := ⟨fun wh pins s σ H Q I q => h.run wh pins s σ H Q I (w σ H Q q)⟩
theorem st_bool {f : FT} (h : SW X p e f) : ST X p e f := h.w.pt
section
variable {fT gT' : FT} {rest : List Expr}
theorem sw_and1 (h : ST X p a fT) : SW X p (.BoolOp .And [a] pos) fT := ⟨pw_and1 h⟩
theorem sw_or1 (h : ST X p a fT) : SW X p (.BoolOp .Or [a] pos) fT := ⟨pw_or1 h⟩
theorem sw_and (ha : ST X p a fT) (hb : SW X q (.BoolOp .And (b :: rest) pos) gT') : SW X (p && q) (.BoolOp .And (a :: b :: rest) pos) (gAnd fT gT') := ⟨PW.weak (pw_and ha hb.w) fun σ H Q ⟨C, G, r, d, r', ok, hf, k⟩ => by
  unfold gAnd at hf
  obtain ⟨⟨c, r1⟩, h1, h2⟩ := Option.bind_eq_some_iff.mp hf
  refine ⟨C, G, r, c, r1, ok, h1, fun G1 H1 o1 s1 m1 => ?_⟩
  cases c with
  | true =>
    rw [if_pos rfl] at h2 ⊢
    exact ⟨C, G1, r1, d, r', o1, h2, fun G2 H2 o2 s2 m2 => k G2 H2 o2 (s1.trans s2) fun m => (m1 (and1 m)).trans (m2 (and2 m))⟩
  | false =>
    rw [if_neg Bool.false_ne_true] at h2 ⊢
    cases h2
    exact k G1 H1 o1 s1 fun m => m1 (and1 m)⟩
theorem sw_or (ha : ST X p a fT) (hb : SW X q (.BoolOp .Or (b :: rest) pos) gT') : SW X (p && q) (.BoolOp .Or (a :: b :: rest) pos) (gOr fT gT') := ⟨PW.weak (pw_or ha hb.w) fun σ H Q ⟨C, G, r, d, r', ok, hf, k⟩ => by
  unfold gOr at hf
  obtain ⟨⟨c, r1⟩, h1, h2⟩ := Option.bind_eq_some_iff.mp hf
  refine ⟨C, G, r, c, r1, ok, h1, fun G1 H1 o1 s1 m1 => ?_⟩
  cases c with
  | true =>
    rw [if_pos rfl] at h2 ⊢
    cases h2
    exact k G1 H1 o1 s1 fun m => m1 (and1 m)
  | false =>
    rw [if_neg Bool.false_ne_true] at h2 ⊢
    exact ⟨C, G1, r1, d, r', o1, h2, fun G2 H2 o2 s2 m2 => k G2 H2 o2 (s1.trans s2) fun m => (m1 (and1 m)).trans (m2 (and2 m))⟩⟩
end
/-- and, or, not as values that are bools -/
def fAnd (a b : FE) : FE := fun r => (gT a r).bind fun x => if x.1 = true then b x.2 else some (.bool false, x.2)
@[simp] theorem fAnd_r (a b : FE) (r : Ev) : fAnd a b r = (gT a r).bind fun x => if x.1 = true then b x.2 else some (.bool false, x.2) := rfl
def fOr (a b : FE) : FE := fun r => (gT a r).bind fun x => if x.1 = true then some (.bool true, x.2) else b x.2
@[simp] theorem fOr_r (a b : FE) (r : Ev) : fOr a b r = (gT a r).bind fun x => if x.1 = true then some (.bool true, x.2) else b x.2 := rfl
def fNot (a : FE) : FE := fun r => (gT a r).map fun x => (.bool (!x.1), x.2)
@[simp] theorem fNot_r (a : FE) (r : Ev) : fNot a r = (gT a r).map fun x => (.bool (!x.1), x.2) := rfl
theorem se_one {op} (h : SE X p a fa) : SE X p (.BoolOp op [a] pos) fa := pe_one h
theorem se_and {rest : List Expr} (ha : SE X p a fa) (hb : SE X q (.BoolOp .And (b :: rest) pos) fb) : SE X (p && q) (.BoolOp .And (a :: b :: rest) pos) (fAnd fa fb) := PE.weak (pe_and ha hb) fun σ H Q ⟨C, G, r, d, r', ok, hf, k⟩ => by
  unfold fAnd at hf
  obtain ⟨⟨c, r1⟩, h1, h2⟩ := Option.bind_eq_some_iff.mp hf
  refine ⟨C, G, r, _, r1, ok, gT_some h1, fun v G1 H1 o1 s1 m1 x1 => ?_⟩
  cases x1
  refine ⟨c, rfl, ?_⟩
  cases c with
  | true =>
    rw [if_pos rfl] at h2 ⊢
    exact ⟨C, G1, r1, d, r', o1, h2, fun v2 G2 H2 o2 s2 m2 x2 => k v2 G2 H2 o2 (s1.trans s2) (fun m => (m1 (and1 m)).trans (m2 (and2 m))) x2⟩
  | false =>
    rw [if_neg Bool.false_ne_true] at h2 ⊢
    cases h2
    exact k _ G1 H1 o1 s1 (fun m => m1 (and1 m)) (.bl _)
theorem se_or {rest : List Expr} (ha : SE X p a fa) (hb : SE X q (.BoolOp .Or (b :: rest) pos) fb) : SE X (p && q) (.BoolOp .Or (a :: b :: rest) pos) (fOr fa fb) := PE.weak (pe_or ha hb) fun σ H Q ⟨C, G, r, d, r', ok, hf, k⟩ => by
  unfold fOr at hf
  obtain ⟨⟨c, r1⟩, h1, h2⟩ := Option.bind_eq_some_iff.mp hf
  refine ⟨C, G, r, _, r1, ok, gT_some h1, fun v G1 H1 o1 s1 m1 x1 => ?_⟩
  cases x1
  refine ⟨c, rfl, ?_⟩
  cases c with
  | true =>
    rw [if_pos rfl] at h2 ⊢
    cases h2
    exact k _ G1 H1 o1 s1 (fun m => m1 (and1 m)) (.bl _)
  | false =>
    rw [if_neg Bool.false_ne_true] at h2 ⊢
    exact ⟨C, G1, r1, d, r', o1, h2, fun v2 G2 H2 o2 s2 m2 x2 => k v2 G2 H2 o2 (s1.trans s2) (fun m => (m1 (and1 m)).trans (m2 (and2 m))) x2⟩
theorem se_not (ha : SE X p a fa) : SE X p (.UnaryOp .Not a pos) (fNot fa) := PE.weak (pe_not ha) fun σ H Q ⟨C, G, r, d, r', ok, hf, k⟩ => by
  unfold fNot at hf
  obtain ⟨⟨c, r1⟩, h1, h2⟩ := Option.map_eq_some_iff.mp hf
  cases h2
  refine ⟨C, G, r, _, _, ok, gT_some h1, fun v G1 H1 o1 s1 m1 x1 => ?_⟩
  cases x1
  exact ⟨c, rfl, k _ G1 H1 o1 s1 m1 (.bl _)⟩
/-- a if t else b -/
def fIf (t : FT) (a b : FE) : FE := fun r => (t r).bind fun x => if x.1 = true then a x.2 else b x.2
@[simp] theorem fIf_r (t : FT) (a b : FE) (r : Ev) : fIf t a b r = (t r).bind fun x => if x.1 = true then a x.2 else b x.2 := rfl
theorem se_if {t : Expr} {ft : FT} {s : Bool} (ht : ST X s t ft) (ha : SE X p a fa) (hb : SE X q b fb) : SE X (s && (p && q)) (.IfExp t a b pos) (fIf ft fa fb) := PE.weak (pe_ifExp ht ha hb) fun σ H Q ⟨C, G, r, d, r', ok, hf, k⟩ => by
  unfold fIf at hf
  obtain ⟨⟨c, r1⟩, h1, h2⟩ := Option.bind_eq_some_iff.mp hf
  refine ⟨C, G, r, c, r1, ok, h1, fun G1 H1 o1 s1 m1 => ?_⟩
  cases c with
  | true =>
    rw [if_pos rfl] at h2 ⊢
    exact ⟨C, G1, r1, d, r', o1, h2, fun v2 G2 H2 o2 s2 m2 x2 => k v2 G2 H2 o2 (s1.trans s2) (fun m => (m1 (and1 m)).trans (m2 (and1 (and2 m)))) x2⟩
  | false =>
    rw [if_neg Bool.false_ne_true] at h2 ⊢
    exact ⟨C, G1, r1, d, r', o1, h2, fun v2 G2 H2 o2 s2 m2 x2 => k v2 G2 H2 o2 (s1.trans s2) (fun m => (m1 (and1 m)).trans (m2 (and2 (and2 m)))) x2⟩
/-! ### lists of arguments, displays -/
def aNil : FA := fun r => some ([], r)
@[simp] theorem aNil_r (r : Ev) : aNil r = some ([], r) := rfl
def aCons (a : FE) (g : FA) : FA := fun r => (a r).bind fun x => (g x.2).map fun y => (x.1 :: y.1, y.2)
@[simp] theorem aCons_r (a : FE) (g : FA) (r : Ev) : aCons a g r = (a r).bind fun x => (g x.2).map fun y => (x.1 :: y.1, y.2) := rfl
theorem aCons_some {a : FE} {g : FA} {r r' : Ev} {ds : List D} (h : aCons a g r = some (ds, r')) : ∃ x r1 xs, a r = some (x, r1) ∧ g r1 = some (xs, r') ∧ ds = x :: xs := by
  unfold aCons at h
  obtain ⟨⟨x, r1⟩, h1, h2⟩ := Option.bind_eq_some_iff.mp h
  obtain ⟨⟨xs, r2⟩, h3, h4⟩ := Option.map_eq_some_iff.mp h2
  cases h4
  exact ⟨x, r1, xs, h1, h3, rfl⟩
theorem sa_nil : SA X true [] aNil := PA.weak pa_nil fun σ H Q ⟨C, G, r, d, r', ok, hf, k⟩ => by
  cases hf
  exact k [] G H ok (Same.refl _) (fun _ => Same.refl _) .nil
theorem sa_cons (ha : SE X p e f) (hr : SA X q es g) (hs : starEach (e :: es) X.env = (false, eval e X.env) :: starEach es X.env := by rfl) : SA X (p && q) (e :: es) (aCons f g) := PA.weak (pa_cons ha hr hs) fun σ H Q ⟨C, G, r, d, r', ok, hf, k⟩ => by
  obtain ⟨x, r1, xs, h1, h2, rfl⟩ := aCons_some hf
  exact ⟨C, G, r, x, r1, ok, h1, fun v G1 H1 o1 s1 m1 x1 => ⟨C, G1, r1, xs, r', o1, h2, fun vs G2 H2 o2 s2 m2 x2 => k _ G2 H2 o2 (s1.trans s2) (fun m => (m1 (and1 m)).trans (m2 (and2 m))) (.cons (Dp.mono s2 x1) x2)⟩⟩
def fTup (g : FA) : FE := fun r => (g r).bind fun x => if x.1.length ≤ 1000 then some (.tuple x.1, x.2) else none
@[simp] theorem fTup_r (g : FA) (r : Ev) : fTup g r = (g r).bind fun x => if x.1.length ≤ 1000 then some (.tuple x.1, x.2) else none := rfl
theorem se_tup {k : Nat} (h : SA X p es g) : SE X p (.Tuple es k pos) (fTup g) := PE.weak (pe_tup h) fun σ H Q ⟨C, G, r, d, r', ok, hf, k⟩ => by
  unfold fTup at hf
  obtain ⟨⟨xs, r1⟩, h1, h2⟩ := Option.bind_eq_some_iff.mp hf
  split at h2
  · rename_i hz
    cases h2
    refine ⟨C, G, r, xs, _, ok, h1, fun vs G1 H1 o1 s1 m1 x1 => ⟨by rw [DpAll.length x1]; exact Nat.le_of_lt (small1000 hz), fun p hp => ?_⟩⟩
    exact Back.tup o1.sub (o1.back fun v3 G3 H3 ok3 s3 m3 x3 => k v3 G3 H3 ok3 (s1.trans s3) (fun m => (m1 m).trans m3) x3) hp x1
  · cases h2
def lDisp (g : FA) : FA := fun r => (g r).bind fun x => if x.1.length ≤ 1000 then some x else none
@[simp] theorem lDisp_r (g : FA) (r : Ev) : lDisp g r = (g r).bind fun x => if x.1.length ≤ 1000 then some x else none := rfl
theorem sl_list {k : Nat} (h : SA X p es g) : SL X p (.List es pos) (lDisp g) := PE.weak (pe_lst h) fun σ H Q ⟨C, G, r, d, r', ok, hf, k⟩ => by
  unfold lDisp at hf
  obtain ⟨⟨xs, r1⟩, h1, h2⟩ := Option.bind_eq_some_iff.mp hf
  split at h2
  · rename_i hz
    cases h2
    refine ⟨C, G, r, _, _, ok, h1, fun vs G1 H1 o1 s1 m1 x1 => ⟨by rw [DpAll.length x1]; exact Nat.le_of_lt (small1000 hz), fun p hp => ?_⟩⟩
    obtain ⟨o2, n⟩ := o1.newList (vs := vs) hp
    exact k p vs G1 _ o2 s1 (fun m => (m1 m).trans (same_laid hp)) n x1
  · cases h2
end
end SL
namespace SL
open PySem PySem.Spec PyProof.Rows L2
/-! ### operations on data -/
def isSmall (i : Int) : Bool := decide (-(2 ^ 64) < i) && decide (i < 2 ^ 64)
def addD : D → D → Option D
  | .int i, .int j => some (.int (i + j))
  | .str x, .str y => if x.length + y.length ≤ sizeLine then some (.str (x ++ y)) else none
  | .list xs, .list ys => if xs.length + ys.length ≤ sizeLine then some (.list (xs ++ ys)) else none
  | .tuple xs, .tuple ys => if xs.length + ys.length ≤ sizeLine then some (.tuple (xs ++ ys)) else none
  | _, _ => none
def subD : D → D → Option D
  | .int i, .int j => some (.int (i - j))
  | _, _ => none
def mulD : D → D → Option D
  | .int i, .int j => if isSmall i = true ∨ isSmall j = true then some (.int (i * j)) else none
  | _, _ => none
def divD : D → D → Option D
  | .int i, .int j => if j ≠ 0 ∧ j.natAbs < 1073741824 then some (.int (i.fdiv j)) else none
  | _, _ => none
def modD : D → D → Option D
  | .int i, .int j => if j ≠ 0 then some (.int (i.fmod j)) else none
  | _, _ => none
def powD : D → D → Option D
  | .int i, .int j => if 0 ≤ j ∧ j ≤ 1000000 ∧ i.natAbs < 2 ^ 64 then some (.int (i ^ j.toNat)) else none
  | _, _ => none
def negD : D → Option D
  | .int i => some (.int (-i))
  | _ => none
def ltD : D → D → Option D
  | .int i, .int j => some (.bool (decide (i < j)))
  | _, _ => none
def leD : D → D → Option D
  | .int i, .int j => some (.bool (decide (i ≤ j)))
  | _, _ => none
def gtD : D → D → Option D
  | .int i, .int j => some (.bool (decide (j < i)))
  | _, _ => none
def geD : D → D → Option D
  | .int i, .int j => some (.bool (decide (j ≤ i)))
  | _, _ => none
/-- data that == may be asked of -/
def shp (d : D) : Bool := SeqAt.shaped d
theorem shp_nd {d : D} (h : shp d = true) : d.hasDict = false := PyData.hasDict_of_canLay d (SeqAt.canLay_of_shaped h)
def eqD (x y : D) : Option D := if shp x = true ∧ shp y = true then some (.bool (PyData.eqv x y)) else none
def neD (x y : D) : Option D := if shp x = true ∧ shp y = true then some (.bool (!PyData.eqv x y)) else none
def isNoneD (x : D) : Bool := match x with
  | .none => true
  | _ => false
/-- is, is not: of None -/
def isD (x y : D) : Option D := match y with
  | .none => some (.bool (isNoneD x))
  | _ => none
def isNotD (x y : D) : Option D := match y with
  | .none => some (.bool (!isNoneD x))
  | _ => none
def inD (x y : D) : Option D := match y with
  | .list ds => if shp x = true ∧ shp y = true then some (.bool (ds.any fun z => PyData.eqv z x)) else none
  | .tuple ds => if shp x = true ∧ shp y = true then some (.bool (ds.any fun z => PyData.eqv z x)) else none
  | _ => none
def notInD (x y : D) : Option D := match y with
  | .list ds => if shp x = true ∧ shp y = true then some (.bool (!ds.any fun z => PyData.eqv z x)) else none
  | .tuple ds => if shp x = true ∧ shp y = true then some (.bool (!ds.any fun z => PyData.eqv z x)) else none
  | _ => none
def ixD (x y : D) : Option D := match x, y with
  | .list ds, .int i => atI ds i
  | .tuple ds, .int i => atI ds i
  | _, _ => none
section
variable {X : Cx} {K : PySem.W.Frag} {G H : Hp}
/-! ### their rules -/
theorem Pk.tupD {v : V} {ds : List D} (h : Pk K G H v (.tuple ds)) : Dp K G v (.tuple ds) := by
  rcases h with h | ⟨p, vs, ds', rfl, e, h1, h2⟩
  · exact h
  · cases e
theorem small_ok {i : Int} (h : isSmall i = true) : -(2 ^ 64) < i ∧ i < 2 ^ 64 := ⟨of_decide_eq_true (Bool.and_eq_true_iff.mp h).1, of_decide_eq_true (Bool.and_eq_true_iff.mp h).2⟩
/-- list + list, whatever they are -/
def rCatL (K : PySem.W.Frag) : R2 := fun x y H Q => ∃ l b xs zs, x = .ref l ∧ y = .ref b ∧ SqL K H l xs ∧ SqL K H b zs ∧ xs.length + zs.length ≤ sizeLine ∧ ∀ p, H p = none → Q (.ref p) (upd H p (.lst (xs ++ zs)))
theorem cat_anyL {A : Around} {prog : Program} {w : World} {E : Value → Shared → Prop} {s : Shared} {l b : Addr} {xs ys : List Value} {Q : Value → Shared → Prop} (h1 : PlainL s.heap l xs.toArray) (h2 : PlainL s.heap b ys.toArray) (hz : xs.length + ys.length ≤ sizeLine)
    (h : Q (.ref s.heap.objs.size) { s with heap := s.heap.push { cls := .type "list", data := .seq (xs ++ ys).toArray } }) : wpAny (model prog w) A (binaryOp .Add (.ref l) (.ref b)) Q E s := by
  obtain ⟨⟨c1, d1, t1, k1⟩, n1, g1, g2, g3, g4⟩ := h1
  obtain ⟨⟨c2, d2, t2, k2⟩, n2, e1, e2, e3, e4⟩ := h2
  simp only at g2 g3 g4 e2 e3 e4
  subst g2 g3 g4 e2 e3 e4
  have e : xs.toArray ++ ys.toArray = (xs ++ ys).toArray := by simp
  rw [← e] at h
  exact concat_meets ⟨_, g1, rfl⟩ ⟨_, e1, rfl⟩ noFill_list_add seq_list_add F.slot_list_add F.entry_list_add (F.args_list_add_2 _ _)
    (list_addW l b xs.toArray ys.toArray n1 n2 none none k1 k2 (by simpa using hz)) ⟨g1, e1, h⟩
theorem op_catL : OpR X (binaryOp .Add) (rCatL X.K) := by
  intro pins s σ H x y v u Q I rx ry h
  obtain ⟨l, b, xs, zs, rfl, rfl, hH, hB, hz, q⟩ := h
  cases rx; cases ry
  obtain ⟨its, r, pl, z⟩ := I.list hH
  obtain ⟨its2, r2, pl2, z2⟩ := I.list hB
  have lx := r.length
  have ly := r2.length
  refine cat_anyL pl pl2 (by omega) ?_
  exact ⟨.ref _, _, I.lnew (t' := s.toks) (r.append r2) (by rw [List.length_append]; omega), rfl, q _ I.fresh⟩
/-- a + b -/
def rAddD (K : PySem.W.Frag) : R2 := fun x y H Q => (∃ i j, x = .int i ∧ y = .int j ∧ Q (.int (i + j)) H) ∨ (∃ i j, x = .str i ∧ y = .str j ∧ i.length + j.length ≤ sizeLine ∧ Q (.str (i ++ j)) H) ∨ rCatL K x y H Q ∨ rCatA K x y H Q
theorem op_addD : OpR X (binaryOp .Add) (rAddD X.K) := OpR.or op_add (OpR.or op_add_str (OpR.or op_catL op_catA))
theorem o_add : Op2 K (rAddD K) addD := fun G H x y dx dy dz Q s hx hy e bk => by
  unfold addD at e
  split at e
  · cases e; exact .inl ⟨_, _, hx.int, hy.int, bk.val s (.int _)⟩
  · split at e
    · cases e; exact .inr (.inl ⟨_, _, hx.str, hy.str, by assumption, bk.val s (.str _)⟩)
    · cases e
  · split at e
    · rename_i hz
      cases e
      obtain ⟨p, vs, rfl, h1, h2⟩ := hx.list s
      obtain ⟨q, ws, rfl, h3, h4⟩ := hy.list s
      exact .inr (.inr (.inl ⟨p, q, vs, ws, rfl, rfl, h1, h3, by rw [DpAll.length h2, DpAll.length h4]; exact hz, fun a na => Back.lst s bk na (DpAll.append h2 h4)⟩))
    · cases e
  · split at e
    · rename_i hz
      cases e
      obtain ⟨p, vs, rfl, h1, h2⟩ := hx.tuple s
      obtain ⟨q, ws, rfl, h3, h4⟩ := hy.tuple s
      refine .inr (.inr (.inr ⟨p, q, vs, ws, rfl, rfl, h1, h3, by rw [DpAll.length h2, DpAll.length h4]; exact hz, fun z => ?_, fun _ z => ?_, fun _ _ a na => Back.tup s bk na (DpAll.append h2 h4)⟩))
      · subst z
        have e0 := DpAll.length h2
        rename_i xs _
        cases xs with
        | nil => exact bk.val s hy.tupD
        | cons _ _ => cases e0
      · subst z
        have e0 := DpAll.length h4
        rename_i ys _
        cases ys with
        | nil => rw [List.append_nil] at bk; exact bk.val s hx.tupD
        | cons _ _ => cases e0
    · cases e
  · cases e
theorem o_sub : Op2 K (rI0 fun i j => .int (i - j)) subD := fun G H x y dx dy dz Q s hx hy e bk => by
  unfold subD at e
  split at e
  · cases e; exact ⟨_, _, hx.int, hy.int, bk.val s (.int _)⟩
  · cases e
/-- a * b: numbers; a list so many times -/
theorem o_mul : Op2 K (rI CMul fun i j => .int (i * j)) mulD := fun G H x y dx dy dz Q s hx hy e bk => by
  unfold mulD at e
  split at e
  · split at e
    · rename_i h
      cases e
      exact ⟨_, _, hx.int, hy.int, h.elim (fun h => .inl (small_ok h)) (fun h => .inr (small_ok h)), bk.val s (.int _)⟩
    · cases e
  · cases e
theorem o_div : Op2 K (rI CDivN fun i j => .int (i.fdiv j)) divD := fun G H x y dx dy dz Q s hx hy e bk => by
  unfold divD at e
  split at e
  · split at e
    · rename_i h
      cases e
      exact ⟨_, _, hx.int, hy.int, h, bk.val s (.int _)⟩
    · cases e
  · cases e
theorem o_mod : Op2 K (rI (fun _ j => j ≠ 0) fun i j => .int (i.fmod j)) modD := fun G H x y dx dy dz Q s hx hy e bk => by
  unfold modD at e
  split at e
  · split at e
    · rename_i h
      cases e
      exact ⟨_, _, hx.int, hy.int, h, bk.val s (.int _)⟩
    · cases e
  · cases e
theorem o_pow : Op2 K (rI CPow fun i j => .int (i ^ j.toNat)) powD := fun G H x y dx dy dz Q s hx hy e bk => by
  unfold powD at e
  split at e
  · split at e
    · rename_i h
      cases e
      exact ⟨_, _, hx.int, hy.int, h, bk.val s (.int _)⟩
    · cases e
  · cases e
theorem o_neg : Op1 K (rU fun i => .int (-i)) negD := fun G H x dx dz Q s hx e bk => by
  unfold negD at e
  split at e
  · cases e; exact ⟨_, hx.int, bk.val s (.int _)⟩
  · cases e
theorem o_lt : Op2 K (rI0 fun i j => .bl (decide (i < j))) ltD := fun G H x y dx dy dz Q s hx hy e bk => by
  unfold ltD at e
  split at e
  · cases e; exact ⟨_, _, hx.int, hy.int, bk.val s (.bl _)⟩
  · cases e
theorem o_le : Op2 K (rI0 fun i j => .bl (decide (i ≤ j))) leD := fun G H x y dx dy dz Q s hx hy e bk => by
  unfold leD at e
  split at e
  · cases e; exact ⟨_, _, hx.int, hy.int, bk.val s (.bl _)⟩
  · cases e
theorem o_gt : Op2 K (rI0 fun i j => .bl (decide (j < i))) gtD := fun G H x y dx dy dz Q s hx hy e bk => by
  unfold gtD at e
  split at e
  · cases e; exact ⟨_, _, hx.int, hy.int, bk.val s (.bl _)⟩
  · cases e
theorem o_ge : Op2 K (rI0 fun i j => .bl (decide (j ≤ i))) geD := fun G H x y dx dy dz Q s hx hy e bk => by
  unfold geD at e
  split at e
  · cases e; exact ⟨_, _, hx.int, hy.int, bk.val s (.bl _)⟩
  · cases e
theorem o_eq : Op2 K (rEqD K) eqD := fun G H x y dx dy dz Q s hx hy e bk => by
  unfold eqD at e
  split at e
  · rename_i h
    cases e
    exact ⟨_, _, (hx.full s).toL (shp_nd h.1), (hy.full s).toL (shp_nd h.2), h.1, h.2, bk.val s (.bl _)⟩
  · cases e
theorem o_ne : Op2 K (rNeD K) neD := fun G H x y dx dy dz Q s hx hy e bk => by
  unfold neD at e
  split at e
  · rename_i h
    cases e
    exact ⟨_, _, (hx.full s).toL (shp_nd h.1), (hy.full s).toL (shp_nd h.2), h.1, h.2, bk.val s (.bl _)⟩
  · cases e
theorem Pk.isNone {v : V} {d : D} (h : Pk K G H v d) : decide (v = .non) = isNoneD d := by
  rcases h with h | ⟨p, vs, ds', rfl, rfl, h1, h2⟩
  · cases h <;> rfl
  · rfl
theorem o_is : Op2 K (fun x y H Q => y = .non ∧ Q (.bl (decide (x = .non))) H) isD := fun G H x y dx dy dz Q s hx hy e bk => by
  unfold isD at e
  split at e
  · cases e
    refine ⟨hy.none, ?_⟩
    rw [hx.isNone]
    exact bk.val s (.bl _)
  · cases e
theorem o_isNot : Op2 K (fun x y H Q => y = .non ∧ Q (.bl (!decide (x = .non))) H) isNotD := fun G H x y dx dy dz Q s hx hy e bk => by
  unfold isNotD at e
  split at e
  · cases e
    refine ⟨hy.none, ?_⟩
    rw [hx.isNone]
    exact bk.val s (.bl _)
  · cases e
end
end SL
namespace SL
open PySem PySem.Spec PyProof.Rows L2
section
variable {X : Cx} {K : PySem.W.Frag} {G H : Hp}
/-- x in y, not in: a list or a tuple of data -/
def rInB (K : PySem.W.Frag) (neg : Bool) : R2 := fun x y H Q => ∃ d ds, Dp K H x d ∧ (Dp K H y (.list ds) ∧ shp (.list ds) = true ∨ Dp K H y (.tuple ds) ∧ shp (.tuple ds) = true) ∧ shp d = true ∧ Q (.bl (if neg then !ds.any fun z => PyData.eqv z d else ds.any fun z => PyData.eqv z d)) H
theorem op_inB (hu : X.A.units + 65 < cLine) : OpR X (compareOp .In) (rInB X.K false) := by
  rintro pins s σ H x y v u Q I rx ry ⟨d, ds, hd, he, sd, q⟩
  obtain ⟨as, r1⟩ := L2.Dp.reads I d x v (hd.toL (shp_nd sd)) rx
  rcases he with ⟨he, se⟩ | ⟨he, se⟩
  · obtain ⟨bs, r2⟩ := L2.Dp.reads I (.list ds) y u (he.toL (shp_nd se)) ry
    exact SeqAt.in_list_reads r2 r1 (SeqAt.canLay_of_shaped se) (SeqAt.canLay_of_shaped sd) (room_in_shaped sd hu) ⟨.bl _, H, I, rfl, q⟩
  · obtain ⟨bs, r2⟩ := L2.Dp.reads I (.tuple ds) y u (he.toL (shp_nd se)) ry
    exact SeqAt.in_tuple_reads r2 r1 (SeqAt.canLay_of_shaped se) (SeqAt.canLay_of_shaped sd) (room_in_shaped sd hu) ⟨.bl _, H, I, rfl, q⟩
theorem op_notInB (hu : X.A.units + 65 < cLine) : OpR X (compareOp .NotIn) (rInB X.K true) := by
  rintro pins s σ H x y v u Q I rx ry ⟨d, ds, hd, he, sd, q⟩
  obtain ⟨as, r1⟩ := L2.Dp.reads I d x v (hd.toL (shp_nd sd)) rx
  rcases he with ⟨he, se⟩ | ⟨he, se⟩
  · obtain ⟨bs, r2⟩ := L2.Dp.reads I (.list ds) y u (he.toL (shp_nd se)) ry
    exact SeqAt.notIn_list_reads r2 r1 (SeqAt.canLay_of_shaped se) (SeqAt.canLay_of_shaped sd) (room_in_shaped sd hu) ⟨.bl _, H, I, rfl, q⟩
  · obtain ⟨bs, r2⟩ := L2.Dp.reads I (.tuple ds) y u (he.toL (shp_nd se)) ry
    exact SeqAt.notIn_tuple_reads r2 r1 (SeqAt.canLay_of_shaped se) (SeqAt.canLay_of_shaped sd) (room_in_shaped sd hu) ⟨.bl _, H, I, rfl, q⟩
theorem o_in : Op2 K (rInB K false) inD := fun G H x y dx dy dz Q s hx hy e bk => by
  unfold inD at e
  split at e
  · split at e
    · rename_i h
      cases e
      exact ⟨_, _, hx.full s, .inl ⟨hy.full s, h.2⟩, h.1, bk.val s (.bl _)⟩
    · cases e
  · split at e
    · rename_i h
      cases e
      exact ⟨_, _, hx.full s, .inr ⟨hy.full s, h.2⟩, h.1, bk.val s (.bl _)⟩
    · cases e
  · cases e
theorem o_notIn : Op2 K (rInB K true) notInD := fun G H x y dx dy dz Q s hx hy e bk => by
  unfold notInD at e
  split at e
  · split at e
    · rename_i h
      cases e
      exact ⟨_, _, hx.full s, .inl ⟨hy.full s, h.2⟩, h.1, bk.val s (.bl _)⟩
    · cases e
  · split at e
    · rename_i h
      cases e
      exact ⟨_, _, hx.full s, .inr ⟨hy.full s, h.2⟩, h.1, bk.val s (.bl _)⟩
    · cases e
  · cases e
/-! ### subscripts -/
theorem DpAll.atI {ds : List D} {vs : List V} {i : Int} {d : D} (h : DpAll K G vs ds) (e : L2.atI ds i = some d) : ∃ v, L2.atI vs i = some v ∧ Dp K G v d := by
  unfold L2.atI at e ⊢
  rw [DpAll.length h]
  obtain ⟨j, h1, h2⟩ := Option.bind_eq_some_iff.mp e
  obtain ⟨v, h3, h4⟩ := DpAll.get h h2
  exact ⟨v, by rw [h1]; exact h3, h4⟩
theorem o_ix : Op2 K (fun x y H Q => rIxL K x y H Q ∨ rIxT K x y H Q) ixD := fun G H x y dx dy dz Q s hx hy e bk => by
  unfold ixD at e
  split at e
  · obtain ⟨p, vs, rfl, h1, h2⟩ := hx.list s
    obtain ⟨v, h3, h4⟩ := DpAll.atI h2 e
    exact .inl ⟨p, vs, _, v, rfl, hy.int, h1, h3, bk.val s h4⟩
  · obtain ⟨p, vs, rfl, h1, h2⟩ := hx.tuple s
    obtain ⟨v, h3, h4⟩ := DpAll.atI h2 e
    exact .inr ⟨p, vs, _, v, rfl, hy.int, h1, h3, bk.val s h4⟩
  · cases e
theorem ix_lt : IxR X (fun x y H Q => rIxL X.K x y H Q ∨ rIxT X.K x y H Q) := ix_list.or ix_tup
variable {e a b : Expr} {es : List Expr} {f fa fb : FE} {g : FA} {pu p q : Bool} {pos : Pos}
theorem se_ix (ha : SE X p a fa) (hb : SE X q b fb) (hs : PlainIx b := by exact fun _ _ => rfl) : SE X (p && q) (.Subscript a b pos) (f2 ixD fa fb) := PE.weak (pe_ix ix_lt ha hb hs) fun σ H Q h => t_op2 o_ix h
theorem se_ixp (ha : SP X p a fa) (hb : SP X true b fb) (hs : PlainIx b := by exact fun _ _ => rfl) : SE X p (.Subscript a b pos) (f2 ixD fa fb) := PE.weak (pe_ix ix_lt ha hb hs) fun σ H Q h => t_op2p o_ix h
/-! ### slices of lists and tuples -/
def cutD (xs : List D) (lo hi : Option Int) : List D := (xs.drop (HT.sIx xs.length 0 lo)).take (HT.sIx xs.length xs.length hi - HT.sIx xs.length 0 lo)
theorem DpAll.cut {ds : List D} {vs : List V} {lo hi : Option Int} (h : DpAll K G vs ds) : DpAll K G (cutV vs lo hi) (cutD ds lo hi) := by
  unfold cutV cutD
  rw [DpAll.length h]
  exact DpAll.take _ (DpAll.drop _ h)
/-- an end of a slice -/
abbrev FO := Ev → Option (Option Int × Ev)
def tO (K : PySem.W.Frag) (f : FO) : TO := fun σ H Q => ∃ C G r d r', Ok K C G H σ r ∧ f r = some (d, r') ∧ ∀ G' H', Ok K C G' H' σ r' → Same G G' → Same H H' → Q d H'
abbrev SO (X : Cx) (e : Option Expr) (f : FO) : Prop := PO X e (tO X.K f)
theorem PO.weak {X : Cx} {e : Option Expr} {t t' : TO} (h : PO X e t) (w : ∀ σ H Q, t' σ H Q → t σ H Q) : PO X e t' := ⟨fun pins s σ H Q I q => h.run pins s σ H Q I (w σ H Q q)⟩
def oNone : FO := fun r => some (none, r)
@[simp] theorem oNone_r (r : Ev) : oNone r = some (none, r) := rfl
def oSome (f : FE) : FO := fun r => match f r with
  | some (.int i, r') => some (some i, r')
  | _ => none
@[simp] theorem oSome_r (f : FE) (r : Ev) : oSome f r = match f r with
  | some (.int i, r') => some (some i, r')
  | _ => none := rfl
theorem so_none : SO X none oNone := PO.weak po_none fun σ H Q ⟨C, G, r, d, r', ok, hf, k⟩ => by
  cases hf
  exact k G H ok (Same.refl _) (Same.refl _)
theorem so_some (h : SE X true e f) : SO X (some e) (oSome f) := PO.weak (po_some h) fun σ H Q ⟨C, G, r, d, r', ok, hf, k⟩ => by
  unfold oSome at hf
  split at hf
  · rename_i i r1 h1
    cases hf
    refine ⟨C, G, r, _, _, ok, h1, fun v G1 H1 o1 s1 m1 x1 => ?_⟩
    cases x1
    exact ⟨i, rfl, k G1 H1 o1 s1 (m1 rfl)⟩
  · cases hf
/-- a slice of a list: a new list -/
def lCut (f : FE) (lo hi : FO) : FA := fun r => match f r with
  | some (.list ds, r1) => (lo r1).bind fun x => (hi x.2).map fun y => (cutD ds x.1 y.1, y.2)
  | _ => none
@[simp] theorem lCut_r (f : FE) (lo hi : FO) (r : Ev) : lCut f lo hi r = match f r with
  | some (.list ds, r1) => (lo r1).bind fun x => (hi x.2).map fun y => (cutD ds x.1 y.1, y.2)
  | _ => none := rfl
variable {lo hi : Option Expr} {fl fh : FO} {p2 : Pos}
theorem sl_cut (ha : SP X p a fa) (hl : SO X lo fl) (hh : SO X hi fh) : SL X p (.Subscript a (.Slice lo hi none p2) pos) (lCut fa fl fh) := PE.weak (pe_slice L2.sl_list ha hl hh) fun σ H Q ⟨C, G, r, d, r', ok, hf, k⟩ => by
  unfold lCut at hf
  split at hf
  · rename_i ds r1 h1
    obtain ⟨⟨x, r2⟩, h2, h3⟩ := Option.bind_eq_some_iff.mp hf
    obtain ⟨⟨y, r3⟩, h4, h5⟩ := Option.map_eq_some_iff.mp h3
    cases h5
    refine ⟨C, G, r, _, _, ok, h1, fun v G1 H1 o1 s1 m1 x1 => ⟨C, G1, r1, _, _, o1, h2, fun G2 H2 o2 s2 m2 => ⟨C, G2, r2, _, _, o2, h4, fun G3 H3 o3 s3 m3 => ?_⟩⟩⟩
    obtain ⟨q, vs, rfl, h6, h7⟩ := ((x1.step s2 m2).step s3 m3).list o3.sub
    refine ⟨q, vs, rfl, h6, fun c hc => ?_⟩
    obtain ⟨o4, n4⟩ := o3.newList (vs := cutV vs x y) hc
    exact k c _ G3 _ o4 ((s1.trans s2).trans s3) (fun m => ((m1 m).trans (m2.trans m3)).trans (same_laid hc)) n4 (DpAll.cut h7)
  · cases hf
/-- a slice of a list or a tuple, as a value -/
@[simp] def cutAny (d : D) (lo hi : Option Int) : Option D := match d with
  | .list ds => some (.list (cutD ds lo hi))
  | .tuple ds => some (.tuple (cutD ds lo hi))
  | _ => none
def fCut (f : FE) (lo hi : FO) : FE := fun r => (f r).bind fun z => (lo z.2).bind fun x => (hi x.2).bind fun y => (cutAny z.1 x.1 y.1).map fun d => (d, y.2)
@[simp] theorem fCut_r (f : FE) (lo hi : FO) (r : Ev) : fCut f lo hi r = (f r).bind fun z => (lo z.2).bind fun x => (hi x.2).bind fun y => (cutAny z.1 x.1 y.1).map fun d => (d, y.2) := rfl
theorem se_cut (ha : SP X p a fa) (hl : SO X lo fl) (hh : SO X hi fh) : SE X p (.Subscript a (.Slice lo hi none p2) pos) (fCut fa fl fh) := PE.weak (pe_slice (L2.sl_list.or sl_tupA) ha hl hh) fun σ H Q ⟨C, G, r, d, r', ok, hf, k⟩ => by
  unfold fCut at hf
  obtain ⟨⟨z, r1⟩, h1, h0⟩ := Option.bind_eq_some_iff.mp hf
  obtain ⟨⟨x, r2⟩, h2, h3⟩ := Option.bind_eq_some_iff.mp h0
  obtain ⟨⟨y, r3⟩, h4, h5⟩ := Option.bind_eq_some_iff.mp h3
  obtain ⟨d', h6, h7⟩ := Option.map_eq_some_iff.mp h5
  cases h7
  refine ⟨C, G, r, _, _, ok, h1, fun v G1 H1 o1 s1 m1 x1 => ⟨C, G1, r1, _, _, o1, h2, fun G2 H2 o2 s2 m2 => ⟨C, G2, r2, _, _, o2, h4, fun G3 H3 o3 s3 m3 => ?_⟩⟩⟩
  have pk := (x1.step s2 m2).step s3 m3
  have bk : Back X.K G3 H3 d Q := o3.back fun v4 G4 H4 o4 s4 m4 x4 => k v4 G4 H4 o4 (((s1.trans s2).trans s3).trans s4) (fun m => ((m1 m).trans (m2.trans m3)).trans m4) x4
  cases z with
  | list ds =>
    cases h6
    obtain ⟨q, vs, rfl, h8, h9⟩ := pk.list o3.sub
    exact .inl ⟨q, vs, rfl, h8, fun c hc => Back.lst o3.sub bk hc (DpAll.cut h9)⟩
  | tuple ds =>
    cases h6
    obtain ⟨q, vs, rfl, h8, h9⟩ := pk.tuple o3.sub
    refine .inr ⟨q, vs, rfl, h8, fun hw => ?_, fun _ c hc => Back.tup o3.sub bk hc (DpAll.cut h9)⟩
    have e : cutD ds x y = ds := by
      rw [DpAll.length h9] at hw
      unfold cutD
      rw [hw.1, hw.2]
      simp
    rw [e] at bk
    exact bk.val o3.sub pk.tupD
  | none => cases h6
  | bool => cases h6
  | int => cases h6
  | str => cases h6
  | dict => cases h6
end
end SL
namespace SL
open PySem PySem.Spec PyProof.Rows L2
def intsOf : List D → Option (List Int)
  | [] => some []
  | .int i :: r => (intsOf r).map (i :: ·)
  | _ => none
def boolsOf : List D → Option (List Bool)
  | [] => some []
  | .bool i :: r => (boolsOf r).map (i :: ·)
  | _ => none
theorem intsOf_eq : ∀ {ds : List D} {ns : List Int}, intsOf ds = some ns → ds = ns.map .int
  | [], ns, h => by cases h; rfl
  | .int i :: r, ns, h => by
    obtain ⟨ms, h1, h2⟩ := Option.map_eq_some_iff.mp (show (intsOf r).map (i :: ·) = some ns from h)
    subst h2
    rw [intsOf_eq h1]; rfl
  | .none :: r, ns, h => by cases h
  | .bool _ :: r, ns, h => by cases h
  | .str _ :: r, ns, h => by cases h
  | .list _ :: r, ns, h => by cases h
  | .tuple _ :: r, ns, h => by cases h
  | .dict _ :: r, ns, h => by cases h
theorem boolsOf_eq : ∀ {ds : List D} {ns : List Bool}, boolsOf ds = some ns → ds = ns.map .bool
  | [], ns, h => by cases h; rfl
  | .bool i :: r, ns, h => by
    obtain ⟨ms, h1, h2⟩ := Option.map_eq_some_iff.mp (show (boolsOf r).map (i :: ·) = some ns from h)
    subst h2
    rw [boolsOf_eq h1]; rfl
  | .none :: r, ns, h => by cases h
  | .int _ :: r, ns, h => by cases h
  | .str _ :: r, ns, h => by cases h
  | .list _ :: r, ns, h => by cases h
  | .tuple _ :: r, ns, h => by cases h
  | .dict _ :: r, ns, h => by cases h
@[simp] theorem intsOf_map : ∀ ns : List Int, intsOf (ns.map .int) = some ns
  | [] => rfl
  | i :: r => by
    show (intsOf (r.map .int)).map (i :: ·) = _
    rw [intsOf_map r]; rfl
@[simp] theorem boolsOf_map : ∀ ns : List Bool, boolsOf (ns.map .bool) = some ns
  | [] => rfl
  | i :: r => by
    show (boolsOf (r.map .bool)).map (i :: ·) = _
    rw [boolsOf_map r]; rfl
/-- the greatest, the least one of some numbers -/
def maxI : List Int → Int
  | [] => 0
  | [x] => x
  | x :: y :: r => max x (maxI (y :: r))
def minI : List Int → Int
  | [] => 0
  | [x] => x
  | x :: y :: r => min x (minI (y :: r))
theorem maxI_spec : ∀ {ns : List Int}, ns ≠ [] → maxI ns ∈ ns ∧ ∀ y ∈ ns, y ≤ maxI ns
  | [], h => absurd rfl h
  | [x], _ => by simp [maxI]
  | x :: y :: r, _ => by
    obtain ⟨h1, h2⟩ := maxI_spec (ns := y :: r) (by simp)
    unfold maxI
    refine ⟨?_, fun z hz => ?_⟩
    · rcases Int.le_total x (maxI (y :: r)) with h | h
      · rw [Int.max_eq_right h]; exact List.mem_cons_of_mem _ h1
      · rw [Int.max_eq_left h]; exact List.mem_cons_self
    · rcases List.mem_cons.mp hz with rfl | hz
      · exact Int.le_max_left _ _
      · exact Int.le_trans (h2 z hz) (Int.le_max_right _ _)
theorem minI_spec : ∀ {ns : List Int}, ns ≠ [] → minI ns ∈ ns ∧ ∀ y ∈ ns, minI ns ≤ y
  | [], h => absurd rfl h
  | [x], _ => by simp [minI]
  | x :: y :: r, _ => by
    obtain ⟨h1, h2⟩ := minI_spec (ns := y :: r) (by simp)
    unfold minI
    refine ⟨?_, fun z hz => ?_⟩
    · rcases Int.le_total x (minI (y :: r)) with h | h
      · rw [Int.min_eq_left h]; exact List.mem_cons_self
      · rw [Int.min_eq_right h]; exact List.mem_cons_of_mem _ h1
    · rcases List.mem_cons.mp hz with rfl | hz
      · exact Int.min_le_left _ _
      · exact Int.le_trans (Int.min_le_right _ _) (h2 z hz)
theorem max_one {ns : List Int} {m : Int} (h : m ∈ ns) (k : ∀ y ∈ ns, y ≤ m) : m = maxI ns := by
  have hn : ns ≠ [] := fun e => by rw [e] at h; cases h
  obtain ⟨h1, h2⟩ := maxI_spec hn
  exact Int.le_antisymm (h2 m h) (k _ h1)
theorem min_one {ns : List Int} {m : Int} (h : m ∈ ns) (k : ∀ y ∈ ns, m ≤ y) : m = minI ns := by
  have hn : ns ≠ [] := fun e => by rw [e] at h; cases h
  obtain ⟨h1, h2⟩ := minI_spec hn
  exact Int.le_antisymm (k _ h1) (h2 m h)
/-- numbers in their order -/
def insI (x : Int) : List Int → List Int
  | [] => [x]
  | y :: r => if x ≤ y then x :: y :: r else y :: insI x r
def sortI : List Int → List Int
  | [] => []
  | x :: r => insI x (sortI r)
theorem insI_perm (x : Int) : ∀ l : List Int, (insI x l).Perm (x :: l)
  | [] => .refl _
  | y :: r => by
    unfold insI
    split
    · exact .refl _
    · exact (List.Perm.cons y (insI_perm x r)).trans (List.Perm.swap x y r)
theorem sortI_perm : ∀ l : List Int, (sortI l).Perm l
  | [] => .refl _
  | x :: r => (insI_perm x (sortI r)).trans (List.Perm.cons x (sortI_perm r))
theorem insI_sorted (x : Int) : ∀ {l : List Int}, l.Pairwise (· ≤ ·) → (insI x l).Pairwise (· ≤ ·)
  | [], _ => List.pairwise_singleton _ _
  | y :: r, h => by
    obtain ⟨h1, h2⟩ := List.pairwise_cons.mp h
    unfold insI
    split
    · rename_i hx
      exact List.pairwise_cons.mpr ⟨fun z hz => (List.mem_cons.mp hz).elim (fun e => by rw [e]; exact hx) fun hz => Int.le_trans hx (h1 z hz), h⟩
    · rename_i hx
      refine List.pairwise_cons.mpr ⟨fun z hz => ?_, insI_sorted x h2⟩
      rcases List.mem_cons.mp ((insI_perm x r).mem_iff.mp hz) with e | hz
      · rw [e]; omega
      · exact h1 z hz
theorem sortI_sorted : ∀ l : List Int, (sortI l).Pairwise (· ≤ ·)
  | [] => .nil
  | x :: r => insI_sorted x (sortI_sorted r)
theorem sorted_one : ∀ {a b : List Int}, a.Perm b → a.Pairwise (· ≤ ·) → b.Pairwise (· ≤ ·) → a = b
  | [], b, p, _, _ => by rw [p.nil_eq]
  | x :: r, [], p, _, _ => by exact absurd p.length_eq (by simp)
  | x :: r, y :: t, p, ha, hb => by
    obtain ⟨h1, h2⟩ := List.pairwise_cons.mp ha
    obtain ⟨h3, h4⟩ := List.pairwise_cons.mp hb
    have hx : x ∈ y :: t := p.mem_iff.mp List.mem_cons_self
    have hy : y ∈ x :: r := p.mem_iff.mpr List.mem_cons_self
    have e : x = y := by
      rcases List.mem_cons.mp hx with e | hx
      · exact e
      · rcases List.mem_cons.mp hy with e | hy
        · exact e.symm
        · exact Int.le_antisymm (h1 y hy) (h3 x hx)
    subst e
    rw [sorted_one (List.Perm.cons_inv p) h2 h4]
def lenD : D → Option D
  | .list ds => some (.int ds.length)
  | .tuple ds => some (.int ds.length)
  | .str x => if x.length ≤ sizeLine then some (.int x.length) else none
  | _ => none
def intD : D → Option D
  | .int i => some (.int i)
  | .bool b => some (.int (if b then 1 else 0))
  | _ => none
def absD : D → Option D
  | .int i => some (.int (if i < 0 then -i else i))
  | _ => none
def sumD : D → Option D
  | .list ds => (intsOf ds).map fun ns => .int ns.sum
  | _ => none
def maxD : D → Option D
  | .list ds => (intsOf ds).bind fun ns => if ns = [] then none else some (.int (maxI ns))
  | _ => none
def minD : D → Option D
  | .list ds => (intsOf ds).bind fun ns => if ns = [] then none else some (.int (minI ns))
  | _ => none
def allD : D → Option D
  | .list ds => (boolsOf ds).map fun ns => .bool (ns.all id)
  | _ => none
def anyD : D → Option D
  | .list ds => (boolsOf ds).map fun ns => .bool (ns.any id)
  | _ => none
def max2D : D → D → Option D
  | .int i, .int j => some (.int (if j > i then j else i))
  | _, _ => none
def min2D : D → D → Option D
  | .int i, .int j => some (.int (if j < i then j else i))
  | _, _ => none
/-- tuple(x) -/
def tupD : D → Option D
  | .list ds => some (.tuple ds)
  | .tuple ds => some (.tuple ds)
  | _ => none
def strD : D → Option D
  | .int i => if i.natAbs.log2 < 1920 then some (.str (toString i)) else none
  | _ => none
def listI : D → Option (List D)
  | .list ds => some ds
  | .tuple ds => some ds
  | _ => none
def sortedI : D → Option (List D)
  | .list ds => (intsOf ds).map fun ns => (sortI ns).map .int
  | _ => none
def tyOf : D → String
  | .none => "NoneType"
  | .bool _ => "bool"
  | .int _ => "int"
  | .str _ => "str"
  | .list _ => "list"
  | .tuple _ => "tuple"
  | .dict _ => "dict"
def isiD (T : String) (d : D) : Option D := match d with
  | .dict _ => none
  | d => (kitB (tyOf d) T).map .bool
section
variable {X : Cx} {K : PySem.W.Frag} {G H : Hp}
def Call1 (K : PySem.W.Frag) (r : List V → Hp → VK → Prop) (g : D → Option D) : Prop := ∀ G H x dx dz Q, Same G H → Pk K G H x dx → g dx = some dz → Back K G H dz Q → r [x] H Q
def Call1L (K : PySem.W.Frag) (r : List V → Hp → VK → Prop) (g : D → Option (List D)) : Prop := ∀ G H x dx ds (Q : VK), Same G H → Pk K G H x dx → g dx = some ds → (∀ p vs, H p = none → DpAll K G vs ds → Q (.ref p) (upd H p (.lst vs))) → r [x] H Q
def Call2 (K : PySem.W.Frag) (r : List V → Hp → VK → Prop) (g : D → D → Option D) : Prop := ∀ G H x y dx dy dz Q, Same G H → Dp K G x dx → Dp K G y dy → g dx dy = some dz → Back K G H dz Q → r [x, y] H Q
theorem DpAll.ints : ∀ {ns : List Int} {vs : List V}, DpAll K G vs (ns.map .int) → vs = ns.map V.int
  | [], _, .nil => rfl
  | n :: r, _, .cons h t => by cases h; rw [DpAll.ints t]; rfl
theorem DpAll.bools : ∀ {ns : List Bool} {vs : List V}, DpAll K G vs (ns.map .bool) → vs = ns.map V.bl
  | [], _, .nil => rfl
  | n :: r, _, .cons h t => by cases h; rw [DpAll.bools t]; rfl
theorem DpAll.ofInts : ∀ (ns : List Int), DpAll K G (ns.map V.int) (ns.map .int)
  | [] => .nil
  | n :: r => .cons (.int n) (DpAll.ofInts r)
theorem Pk.ints {v : V} {ns : List Int} (s : Same G H) (h : Pk K G H v (.list (ns.map .int))) : ∃ p, v = .ref p ∧ SqL K H p (ns.map V.int) := by
  obtain ⟨p, vs, e, h1, h2⟩ := h.list s
  rw [DpAll.ints h2] at h1
  exact ⟨p, e, h1⟩
theorem Pk.bools {v : V} {ns : List Bool} (s : Same G H) (h : Pk K G H v (.list (ns.map .bool))) : ∃ p, v = .ref p ∧ SqL K H p (ns.map V.bl) := by
  obtain ⟨p, vs, e, h1, h2⟩ := h.list s
  rw [DpAll.bools h2] at h1
  exact ⟨p, e, h1⟩
theorem c_len : Call1 K (fun xs H Q => (∃ p ys, xs = [.ref p] ∧ (SqL K H p ys ∨ SqT K H p ys) ∧ Q (.int ys.length) H) ∨ ∃ z, xs = [.str z] ∧ z.length ≤ sizeLine ∧ Q (.int z.length) H) lenD := fun G H x dx dz Q s hx e bk => by
  unfold lenD at e
  split at e
  · cases e
    obtain ⟨p, vs, rfl, h1, h2⟩ := hx.list s
    refine .inl ⟨p, vs, rfl, .inl h1, ?_⟩
    rw [DpAll.length h2]
    exact bk.val s (.int _)
  · cases e
    obtain ⟨p, vs, rfl, h1, h2⟩ := hx.tuple s
    refine .inl ⟨p, vs, rfl, .inr h1, ?_⟩
    rw [DpAll.length h2]
    exact bk.val s (.int _)
  · split at e
    · rename_i h
      cases e
      exact .inr ⟨_, by rw [hx.str], h, bk.val s (.int _)⟩
    · cases e
  · cases e
theorem c_int : Call1 K (fun xs H Q => (∃ i, xs = [.int i] ∧ Q (.int i) H) ∨ ∃ k, xs = [.bl k] ∧ Q (.int (if k then 1 else 0)) H) intD := fun G H x dx dz Q s hx e bk => by
  unfold intD at e
  split at e
  · cases e; exact .inl ⟨_, by rw [hx.int], bk.val s (.int _)⟩
  · cases e; exact .inr ⟨_, by rw [hx.bool], bk.val s (.int _)⟩
  · cases e
theorem c_abs : Call1 K (fun xs H Q => ∃ i, xs = [.int i] ∧ Q (.int (if i < 0 then -i else i)) H) absD := fun G H x dx dz Q s hx e bk => by
  unfold absD at e
  split at e
  · cases e; exact ⟨_, by rw [hx.int], bk.val s (.int _)⟩
  · cases e
theorem c_sum : Call1 K (rSum K) sumD := fun G H x dx dz Q s hx e bk => by
  unfold sumD at e
  split at e
  · obtain ⟨ns, h1, h2⟩ := Option.map_eq_some_iff.mp e
    rw [intsOf_eq h1] at hx
    subst h2
    obtain ⟨p, rfl, h⟩ := hx.ints s
    exact ⟨p, ns, rfl, h, bk.val s (.int _)⟩
  · cases e
theorem c_max : Call1 K (rMax K) maxD := fun G H x dx dz Q s hx e bk => by
  unfold maxD at e
  split at e
  · obtain ⟨ns, h1, h2⟩ := Option.bind_eq_some_iff.mp e
    rw [intsOf_eq h1] at hx
    split at h2
    · cases h2
    · rename_i hn
      cases h2
      obtain ⟨p, rfl, h⟩ := hx.ints s
      exact ⟨p, ns, rfl, h, List.length_pos_iff.mpr hn, fun m h1 h2 => by rw [max_one h1 h2]; exact bk.val s (.int _)⟩
  · cases e
theorem c_min : Call1 K (rMin K) minD := fun G H x dx dz Q s hx e bk => by
  unfold minD at e
  split at e
  · obtain ⟨ns, h1, h2⟩ := Option.bind_eq_some_iff.mp e
    rw [intsOf_eq h1] at hx
    split at h2
    · cases h2
    · rename_i hn
      cases h2
      obtain ⟨p, rfl, h⟩ := hx.ints s
      exact ⟨p, ns, rfl, h, List.length_pos_iff.mpr hn, fun m h1 h2 => by rw [min_one h1 h2]; exact bk.val s (.int _)⟩
  · cases e
theorem c_all : Call1 K (rAll K) allD := fun G H x dx dz Q s hx e bk => by
  unfold allD at e
  split at e
  · obtain ⟨ns, h1, h2⟩ := Option.map_eq_some_iff.mp e
    rw [boolsOf_eq h1] at hx
    subst h2
    obtain ⟨p, rfl, h⟩ := hx.bools s
    exact ⟨p, ns, rfl, h, bk.val s (.bl _)⟩
  · cases e
theorem c_any : Call1 K (rAny K) anyD := fun G H x dx dz Q s hx e bk => by
  unfold anyD at e
  split at e
  · obtain ⟨ns, h1, h2⟩ := Option.map_eq_some_iff.mp e
    rw [boolsOf_eq h1] at hx
    subst h2
    obtain ⟨p, rfl, h⟩ := hx.bools s
    exact ⟨p, ns, rfl, h, bk.val s (.bl _)⟩
  · cases e
theorem c_tup : Call1 K (fun xs H Q => ∃ p ys, xs = [.ref p] ∧ ((SqL K H p ys ∧ ∀ l, H l = none → Q (.ref l) (upd H l (.tup ys))) ∨ (SqT K H p ys ∧ Q (.ref p) H))) tupD := fun G H x dx dz Q s hx e bk => by
  unfold tupD at e
  split at e
  · cases e
    obtain ⟨p, vs, rfl, h1, h2⟩ := hx.list s
    exact ⟨p, vs, rfl, .inl ⟨h1, fun l hl => Back.tup s bk hl h2⟩⟩
  · cases e
    obtain ⟨p, vs, rfl, h1, h2⟩ := hx.tuple s
    exact ⟨p, vs, rfl, .inr ⟨h1, bk.val s hx.tupD⟩⟩
  · cases e
theorem c_str : Call1 K (fun xs H Q => ∃ i, xs = [.int i] ∧ i.natAbs.log2 < 1920 ∧ Q (.str (toString i)) H) strD := fun G H x dx dz Q s hx e bk => by
  unfold strD at e
  split at e
  · split at e
    · rename_i h
      cases e; exact ⟨_, by rw [hx.int], h, bk.val s (.str _)⟩
    · cases e
  · cases e
theorem c_list : Call1L K (fun xs H Q => ∃ p ys, xs = [.ref p] ∧ (SqL K H p ys ∨ SqT K H p ys) ∧ ∀ l, H l = none → Q (.ref l) (upd H l (.lst ys))) listI := fun G H x dx ds Q s hx e bk => by
  unfold listI at e
  split at e
  · cases e
    obtain ⟨p, vs, rfl, h1, h2⟩ := hx.list s
    exact ⟨p, vs, rfl, .inl h1, fun l hl => bk l vs hl h2⟩
  · cases e
    obtain ⟨p, vs, rfl, h1, h2⟩ := hx.tuple s
    exact ⟨p, vs, rfl, .inr h1, fun l hl => bk l vs hl h2⟩
  · cases e
theorem c_sorted : Call1L K (rSortedI K) sortedI := fun G H x dx ds Q s hx e bk => by
  unfold sortedI at e
  split at e
  · obtain ⟨ns, h1, h2⟩ := Option.map_eq_some_iff.mp e
    rw [intsOf_eq h1] at hx
    subst h2
    obtain ⟨p, rfl, h⟩ := hx.ints s
    refine ⟨p, ns, rfl, h, fun ns' l h3 h4 h5 => ?_⟩
    have e2 : ns' = sortI ns := sorted_one (h3.trans (sortI_perm ns).symm) h4 (sortI_sorted ns)
    subst e2
    exact bk l _ h5 (DpAll.ofInts _)
  · cases e
theorem c_max2 : Call2 K (fun xs H Q => ∃ i j, xs = [.int i, .int j] ∧ Q (.int (if j > i then j else i)) H) max2D := fun G H x y dx dy dz Q s hx hy e bk => by
  unfold max2D at e
  split at e
  · cases e; cases hx; cases hy; exact ⟨_, _, rfl, bk.val s (.int _)⟩
  · cases e
theorem c_min2 : Call2 K (fun xs H Q => ∃ i j, xs = [.int i, .int j] ∧ Q (.int (if j < i then j else i)) H) min2D := fun G H x y dx dy dz Q s hx hy e bk => by
  unfold min2D at e
  split at e
  · cases e; cases hx; cases hy; exact ⟨_, _, rfl, bk.val s (.int _)⟩
  · cases e
theorem isi_kit {T : String} {d x : D} (h : isiD T d = some x) : (∀ kds, d ≠ .dict kds) ∧ (kitB (tyOf d) T).map .bool = some x := by
  cases d with
  | dict k => cases h
  | none => exact ⟨fun _ z => (nomatch z), h⟩
  | bool => exact ⟨fun _ z => (nomatch z), h⟩
  | int => exact ⟨fun _ z => (nomatch z), h⟩
  | str => exact ⟨fun _ z => (nomatch z), h⟩
  | list => exact ⟨fun _ z => (nomatch z), h⟩
  | tuple => exact ⟨fun _ z => (nomatch z), h⟩
theorem Dp.tyX {v : V} {d : D} (h : Dp K H v d) (nd : ∀ kds, d ≠ .dict kds) : TyX K H v (.type (tyOf d)) := by
  cases h with
  | dic _ _ => exact absurd rfl (nd _)
  | non => exact .base .non
  | bl b => exact .base (.bl b)
  | int i => exact .base (.int i)
  | str x => exact .base (.str x)
  | lst a _ =>
    rcases a with (a | ⟨o, a⟩) | ⟨o, its, n, h1, h2, _⟩
    · exact .base (.lst a)
    · exact .base (.frz a)
    · exact .kList h1 h2
  | tup a _ =>
    rcases a with (a | ⟨o, a⟩) | ⟨o, its, n, h1, h2, _⟩
    · exact .base (.tup a)
    · exact .fTuple a
    · exact .kTuple h1 h2
end
section
variable {X : Cx} {e a b : Expr} {es : List Expr} {f fa fb : FE} {g : FA} {pu p q : Bool} {pos pp : Pos} {x : Str}
theorem t_call1 {r : List V → Hp → VK → Prop} {g : D → Option D} (o : Call1 X.K r g) {σ : L2.St} {H : Hp} {Q : VK} (h : tE X.K p (f1 g fa) σ H Q) : tCB r (tCons (tP X.K p fa) tNil) σ H Q := by
  obtain ⟨C, G, r0, d, r', ok, hf, k⟩ := h
  obtain ⟨x, h1, h3⟩ := f1_some hf
  refine ⟨C, G, r0, x, r', ok, h1, fun v G1 H1 ok1 s1 m1 x1 => ?_⟩
  refine o G1 H1 v x d Q ok1.sub x1 h3 (ok1.back fun v3 G3 H3 ok3 s3 m3 x3 => ?_)
  exact k v3 G3 H3 ok3 (s1.trans s3) (fun m => (m1 m).trans m3) x3
theorem t_call2 {r : List V → Hp → VK → Prop} {g : D → D → Option D} (o : Call2 X.K r g) {σ : L2.St} {H : Hp} {Q : VK} (h : tE X.K (p && q) (f2 g fa fb) σ H Q) : tCB r (tCons (tE X.K p fa) (tCons (tE X.K q fb) tNil)) σ H Q := by
  obtain ⟨C, G, r0, d, r', ok, hf, k⟩ := h
  obtain ⟨x, r1, y, h1, h2, h3⟩ := f2_some hf
  refine ⟨C, G, r0, x, r1, ok, h1, fun v G1 H1 ok1 s1 m1 x1 => ⟨C, G1, r1, y, r', ok1, h2, fun w G2 H2 ok2 s2 m2 x2 => ?_⟩⟩
  refine o G2 H2 v w x y d Q ok2.sub (Dp.mono s2 x1) x2 h3 (ok2.back fun v3 G3 H3 ok3 s3 m3 x3 => ?_)
  exact k v3 G3 H3 ok3 ((s1.trans s2).trans s3) (fun m => ((m1 (and1 m)).trans (m2 (and2 m))).trans m3) x3
def l1 (g : D → Option (List D)) (a : FE) : FA := fun r => (a r).bind fun x => (g x.1).map fun z => (z, x.2)
@[simp] theorem l1_r (g : D → Option (List D)) (a : FE) (r : Ev) : l1 g a r = (a r).bind fun x => (g x.1).map fun z => (z, x.2) := rfl
theorem t_call1L {r : List V → Hp → VK → Prop} {g : D → Option (List D)} (o : Call1L X.K r g) {σ : L2.St} {H : Hp} {Q : VK} (h : tL X.K p (l1 g fa) σ H Q) : tCB r (tCons (tP X.K p fa) tNil) σ H Q := by
  obtain ⟨C, G, r0, d, r', ok, hf, k⟩ := h
  unfold l1 at hf
  obtain ⟨⟨x, r1⟩, h1, h2⟩ := Option.bind_eq_some_iff.mp hf
  obtain ⟨z, h3, h4⟩ := Option.map_eq_some_iff.mp h2
  cases h4
  refine ⟨C, G, r0, x, r1, ok, h1, fun v G1 H1 ok1 s1 m1 x1 => ?_⟩
  refine o G1 H1 v x _ Q ok1.sub x1 h3 fun l vs hl hd => ?_
  obtain ⟨o4, n4⟩ := ok1.newList (vs := vs) hl
  exact k l vs G1 _ o4 s1 (fun m => (m1 m).trans (same_laid hl)) n4 hd
variable {id T : String}
theorem se_callB1 {r : List V → Hp → VK → Prop} {g : D → Option D} (hc : CallR X (.builtin id) r) (o : Call1 X.K r g) (hg : Gl X x) (hm : X.mg x = none) (ha : SP X p a fa) (hv : bootBuiltins x = some (.builtin id) := by decide +kernel) (hn : x ≠ "__name__" := by decide) (hdb : (x == ("__debug__" : Str)) = false := by decide)
    (he : starEach [a] X.env = (false, eval a X.env) :: starEach [] X.env := by rfl) (hpl : (backTo pos (starEach [] X.env)).any (·.1) = false := by rfl) : SE X p (.Call (.Name x pp) [a] [] pos) (f1 g fa) :=
  PE.weak (pe_callB hc hg hm hv (pa_cons ha pa_nil he) hn hdb he hpl) fun σ H Q h => t_call1 o h
theorem se_callT1 {r : List V → Hp → VK → Prop} {g : D → Option D} (hc : CallR X (.type T) r) (o : Call1 X.K r g) (hg : Gl X x) (hm : X.mg x = none) (ha : SP X p a fa) (hv : bootBuiltins x = some (.type T) := by decide +kernel) (hn : x ≠ "__name__" := by decide) (hdb : (x == ("__debug__" : Str)) = false := by decide)
    (he : starEach [a] X.env = (false, eval a X.env) :: starEach [] X.env := by rfl) (hpl : (backTo pos (starEach [] X.env)).any (·.1) = false := by rfl) : SE X p (.Call (.Name x pp) [a] [] pos) (f1 g fa) :=
  PE.weak (pe_callTy hc hg hm hv (pa_cons ha pa_nil he) hn hdb he hpl) fun σ H Q h => t_call1 o h
theorem sl_callB1 {r : List V → Hp → VK → Prop} {g : D → Option (List D)} (hc : CallR X (.builtin id) r) (o : Call1L X.K r g) (hg : Gl X x) (hm : X.mg x = none) (ha : SP X p a fa) (hv : bootBuiltins x = some (.builtin id) := by decide +kernel) (hn : x ≠ "__name__" := by decide) (hdb : (x == ("__debug__" : Str)) = false := by decide)
    (he : starEach [a] X.env = (false, eval a X.env) :: starEach [] X.env := by rfl) (hpl : (backTo pos (starEach [] X.env)).any (·.1) = false := by rfl) : SL X p (.Call (.Name x pp) [a] [] pos) (l1 g fa) :=
  PE.weak (pe_callB hc hg hm hv (pa_cons ha pa_nil he) hn hdb he hpl) fun σ H Q h => t_call1L o h
theorem sl_callT1 {r : List V → Hp → VK → Prop} {g : D → Option (List D)} (hc : CallR X (.type T) r) (o : Call1L X.K r g) (hg : Gl X x) (hm : X.mg x = none) (ha : SP X p a fa) (hv : bootBuiltins x = some (.type T) := by decide +kernel) (hn : x ≠ "__name__" := by decide) (hdb : (x == ("__debug__" : Str)) = false := by decide)
    (he : starEach [a] X.env = (false, eval a X.env) :: starEach [] X.env := by rfl) (hpl : (backTo pos (starEach [] X.env)).any (·.1) = false := by rfl) : SL X p (.Call (.Name x pp) [a] [] pos) (l1 g fa) :=
  PE.weak (pe_callTy hc hg hm hv (pa_cons ha pa_nil he) hn hdb he hpl) fun σ H Q h => t_call1L o h
theorem se_callB2 {r : List V → Hp → VK → Prop} {g : D → D → Option D} (hc : CallR X (.builtin id) r) (o : Call2 X.K r g) (hg : Gl X x) (hm : X.mg x = none) (ha : SE X p a fa) (hb : SE X q b fb) (hv : bootBuiltins x = some (.builtin id) := by decide +kernel) (hn : x ≠ "__name__" := by decide) (hdb : (x == ("__debug__" : Str)) = false := by decide)
    (he : starEach [a, b] X.env = (false, eval a X.env) :: starEach [b] X.env := by rfl) (he2 : starEach [b] X.env = (false, eval b X.env) :: starEach [] X.env := by rfl) (hpl : (backTo pos (starEach [b] X.env)).any (·.1) = false := by rfl) : SE X (p && q) (.Call (.Name x pp) [a, b] [] pos) (f2 g fa fb) :=
  PE.weak (pe_callB hc hg hm hv (pa_cons ha (pa_cons hb pa_nil he2) he) hn hdb he hpl) fun σ H Q h => t_call2 o h
/-- isinstance(x, T), T a built-in type -/
theorem se_isi {y : Str} {py : Pos} (hg : Gl X "isinstance") (hm : X.mg "isinstance" = none) (hgT : Gl X y) (hmT : X.mg y = none) (ha : SP X p a fa) (hvT : bootBuiltins y = some (.type T) := by decide +kernel) (hnT : y ≠ "__name__" := by decide) (hdT : (y == ("__debug__" : Str)) = false := by decide)
    (he : starEach [a, .Name y py] X.env = (false, eval a X.env) :: starEach [.Name y py] X.env := by rfl) (he2 : starEach [.Name y py] X.env = (false, eval (.Name y py) X.env) :: starEach [] X.env := by rfl) (hpl : (backTo pos (starEach [.Name y py] X.env)).any (·.1) = false := by rfl) :
    SE X p (.Call (.Name "isinstance" pp) [a, .Name y py] [] pos) (f1 (isiD T) fa) :=
  PE.weak (pe_callB call_isi hg hm (by decide +kernel) (pa_cons ha (pa_cons (pe_bltn (v := .ty T) hgT hmT hvT rfl hnT hdT) pa_nil he2) he) (by decide) (by decide) he hpl) fun σ H Q ⟨C, G, r0, d, r', ok, hf, k⟩ => by
    obtain ⟨x, h1, h3⟩ := f1_some hf
    obtain ⟨nd, h3⟩ := isi_kit h3
    obtain ⟨bb, h4, h5⟩ := Option.map_eq_some_iff.mp h3
    subst h5
    refine ⟨C, G, r0, x, r', ok, h1, fun v G1 H1 ok1 s1 m1 x1 => ?_⟩
    exact ⟨v, .ty T, _, _, bb, rfl, .ty T, Dp.tyX (x1.full ok1.sub) nd, kit_ty h4, k _ G1 H1 ok1 s1 m1 (.bl _)⟩
end
end SL
namespace SL
open PySem PySem.Spec PyProof.Rows L2
/-! ### statements -/
inductive Out where
  | nx (r : Ev) | bk (r : Ev) | ct (r : Ev)
  | rt (d : D) (r : Ev)
  | rtO (ds : List D) (r : Ev)
  | rtN (d : D) (r : Ev)
abbrev FS := Ev → Option Out
def OutOk (K : PySem.W.Frag) (C : Ctx) (G : Hp) (E : Ends) : Out → Prop
  | .nx r => ∀ σ' G' H', Ok K C G' H' σ' r → Same G G' → E.nx σ' H'
  | .bk r => ∀ σ' G' H', Ok K C G' H' σ' r → Same G G' → E.bk σ' H'
  | .ct r => ∀ σ' G' H', Ok K C G' H' σ' r → Same G G' → E.ct σ' H'
  | .rt d r => ∀ v σ' G' H', Ok K C G' H' σ' r → Same G G' → Dp K G' v d → E.rt v H'
  | .rtO ds r => ∀ p vs σ' G' H', Ok K C G' H' σ' r → Same G G' → C.P p = none → p ∉ C.M → G' p = none → H' p = some (.lst vs) → DpAll K G' vs ds → E.rt (.ref p) H'
  | .rtN d r => ∀ v σ' G' H', Ok K C G' H' σ' r → Same G G' → DpN K C.P G' v d → E.rt v H'
theorem OutOk.mono {K : PySem.W.Frag} {C : Ctx} {G G' : Hp} {E : Ends} {o : Out} (s : Same G G') (h : OutOk K C G E o) : OutOk K C G' E o := by
  cases o with
  | nx r => exact fun σ' G2 H2 ok s2 => h σ' G2 H2 ok (s.trans s2)
  | bk r => exact fun σ' G2 H2 ok s2 => h σ' G2 H2 ok (s.trans s2)
  | ct r => exact fun σ' G2 H2 ok s2 => h σ' G2 H2 ok (s.trans s2)
  | rt d r => exact fun v σ' G2 H2 ok s2 => h v σ' G2 H2 ok (s.trans s2)
  | rtO ds r => exact fun p vs σ' G2 H2 ok s2 => h p vs σ' G2 H2 ok (s.trans s2)
  | rtN d r => exact fun v σ' G2 H2 ok s2 => h v σ' G2 H2 ok (s.trans s2)
def tS (K : PySem.W.Frag) (F : FS) : TS := fun E σ H => ∃ C G r o, Ok K C G H σ r ∧ F r = some o ∧ OutOk K C G E o
abbrev SS (X : Cx) (st : Stmt) (F : FS) : Prop := PS X st (tS X.K F)
abbrev SSs (X : Cx) (st : List Stmt) (F : FS) : Prop := PSs X st (tS X.K F)
theorem PS.weak {X : Cx} {e : Stmt} {t t' : TS} (h : PS X e t) (w : ∀ E σ H, t' E σ H → t E σ H) : PS X e t' := ⟨fun pins s σ H E I q => h.run pins s σ H E I (w E σ H q)⟩
theorem PSs.weak {X : Cx} {e : List Stmt} {t t' : TS} (h : PSs X e t) (w : ∀ E σ H, t' E σ H → t E σ H) : PSs X e t' := ⟨fun pins s σ H E I q => h.run pins s σ H E I (w E σ H q)⟩
def sNext : FS := fun r => some (.nx r)
@[simp] theorem sNext_r (r : Ev) : sNext r = some (.nx r) := rfl
def sSeq (F F' : FS) : FS := fun r => match F r with
  | some (.nx r1) => F' r1
  | o => o
@[simp] theorem sSeq_r (F F' : FS) (r : Ev) : sSeq F F' r = match F r with
  | some (.nx r1) => F' r1
  | o => o := rfl
def sDrop (f : FE) : FS := fun r => (f r).map fun x => .nx x.2
@[simp] theorem sDrop_r (f : FE) (r : Ev) : sDrop f r = (f r).map fun x => .nx x.2 := rfl
def sRet (f : FE) : FS := fun r => (f r).map fun x => .rt x.1 x.2
@[simp] theorem sRet_r (f : FE) (r : Ev) : sRet f r = (f r).map fun x => .rt x.1 x.2 := rfl
def sRetN : FS := fun r => some (.rt .none r)
@[simp] theorem sRetN_r (r : Ev) : sRetN r = some (.rt .none r) := rfl
def sRetL (g : FA) : FS := fun r => (g r).map fun x => .rtO x.1 x.2
@[simp] theorem sRetL_r (g : FA) (r : Ev) : sRetL g r = (g r).map fun x => .rtO x.1 x.2 := rfl
/-- return of a list of one's own -/
def sRetO (i : Nat) : FS := fun r => match r[i]? with
  | some (some (.own ds)) => some (.rtO ds (r.set i none))
  | _ => none
@[simp] theorem sRetO_r (i : Nat) (r : Ev) : sRetO i r = match r[i]? with
  | some (some (.own ds)) => some (.rtO ds (r.set i none))
  | _ => none := rfl
def sIf (t : FT) (F F' : FS) : FS := fun r => (t r).bind fun x => if x.1 = true then F x.2 else F' x.2
@[simp] theorem sIf_r (t : FT) (F F' : FS) (r : Ev) : sIf t F F' r = (t r).bind fun x => if x.1 = true then F x.2 else F' x.2 := rfl
def sBrk : FS := fun r => some (.bk r)
@[simp] theorem sBrk_r (r : Ev) : sBrk r = some (.bk r) := rfl
def sCnt : FS := fun r => some (.ct r)
@[simp] theorem sCnt_r (r : Ev) : sCnt r = some (.ct r) := rfl
section
variable {K : PySem.W.Frag} {C : Ctx} {G H G' H' : Hp} {σ : L2.St} {r r' : Ev}
/-- a slot is set -/
theorem Ok.set (ok : Ok K C G H σ r) {i : Nat} {v : V} {c : Cell} (h : CellOk K C G H v c) (d : c.isOwn = true → ∀ (j : Nat) (c' : Cell), r[j]? = some (some c') → c'.isOwn = true → j ≠ i → σ[j]? ≠ some (some v)) : Ok K C G H (σ.set i (some v)) (r.set i (some c)) where
  sub := ok.sub
  g0 := ok.g0
  gnew := ok.gnew
  prot := ok.prot
  mreal := ok.mreal
  len := by rw [List.length_set, List.length_set]; exact ok.len
  cell := fun j c' e => by
    by_cases hj : j = i
    · subst hj
      have hlt : j < r.length := by
        have := (List.getElem?_eq_some_iff.mp e).1
        rwa [List.length_set] at this
      rw [List.getElem?_set_self hlt] at e
      cases e
      exact ⟨v, by rw [List.getElem?_set_self (by rw [← ok.len]; exact hlt)], h⟩
    · rw [List.getElem?_set_ne (Ne.symm hj)] at e ⊢
      exact ok.cell j c' e
  dis := fun j k c1 c2 e1 e2 o1 o2 e => by
    have get : ∀ {x : Nat} {c' : Cell}, x ≠ i → (r.set i (some c))[x]? = some (some c') → r[x]? = some (some c') ∧ (σ.set i (some v))[x]? = σ[x]? := fun {x c'} hx q => by
      rw [List.getElem?_set_ne (Ne.symm hx)] at q
      exact ⟨q, List.getElem?_set_ne (Ne.symm hx)⟩
    have self : ∀ {c' : Cell}, (r.set i (some c))[i]? = some (some c') → c' = c ∧ (σ.set i (some v))[i]? = some (some v) := fun {c'} q => by
      have hlt : i < r.length := by
        have := (List.getElem?_eq_some_iff.mp q).1
        rwa [List.length_set] at this
      rw [List.getElem?_set_self hlt] at q
      cases q
      exact ⟨rfl, List.getElem?_set_self (by rw [← ok.len]; exact hlt)⟩
    by_cases hj : j = i
    · by_cases hk : k = i
      · rw [hj, hk]
      · subst hj
        obtain ⟨rfl, s1⟩ := self e1
        obtain ⟨g2, s2⟩ := get hk e2
        rw [s1, s2] at e
        exact absurd e.symm (d o1 k c2 g2 o2 hk)
    · by_cases hk : k = i
      · subst hk
        obtain ⟨rfl, s1⟩ := self e2
        obtain ⟨g2, s2⟩ := get hj e1
        rw [s1, s2] at e
        exact absurd e (d o2 j c1 g2 o1 hj)
      · obtain ⟨g1, s1⟩ := get hj e1
        obtain ⟨g2, s2⟩ := get hk e2
        rw [s1, s2] at e
        exact ok.dis j k c1 c2 g1 g2 o1 o2 e
theorem Ok.setV (ok : Ok K C G H σ r) {i : Nat} {v : V} {d : D} (h : Dp K G v d) : Ok K C G H (σ.set i (some v)) (r.set i (some (.val d))) := ok.set (c := .val d) h (fun z => by cases z)
theorem Ok.setO (ok : Ok K C G H σ r) {i : Nat} {p : Addr} {vs : List V} {ds : List D} (n : New K C G H σ r p vs) (h : DpAll K G vs ds) : Ok K C G H (σ.set i (some (.ref p))) (r.set i (some (.own ds))) :=
  ok.set (c := .own ds) ⟨p, vs, rfl, ⟨n.1, n.2.1⟩, n.2.2.1, n.2.2.2.1, h⟩ fun _ j c' e o _ => n.2.2.2.2 j c' e o
/-- a slot is forgotten -/
theorem Ok.drop (ok : Ok K C G H σ r) (i : Nat) : Ok K C G H σ (r.set i none) where
  sub := ok.sub
  g0 := ok.g0
  gnew := ok.gnew
  prot := ok.prot
  mreal := ok.mreal
  len := by rw [List.length_set]; exact ok.len
  cell := fun j c' e => by
    by_cases hj : j = i
    · subst hj
      have hlt : j < r.length := by
        have := (List.getElem?_eq_some_iff.mp e).1
        rwa [List.length_set] at this
      rw [List.getElem?_set_self hlt] at e
      cases e
    · rw [List.getElem?_set_ne (Ne.symm hj)] at e
      exact ok.cell j c' e
  dis := fun j k c1 c2 e1 e2 o1 o2 e => by
    have get : ∀ {x : Nat} {c' : Cell}, (r.set i none)[x]? = some (some c') → r[x]? = some (some c') := fun {x c'} q => by
      by_cases hx : x = i
      · subst hx
        have hlt : x < r.length := by
          have := (List.getElem?_eq_some_iff.mp q).1
          rwa [List.length_set] at this
        rw [List.getElem?_set_self hlt] at q
        cases q
      · rwa [List.getElem?_set_ne (Ne.symm hx)] at q
    exact ok.dis j k c1 c2 (get e1) (get e2) o1 o2 e
/-- the list of a slot is written -/
theorem Ok.write (ok : Ok K C G H σ r) {i : Nat} {c c' : Cell} {p : Addr} {ob ob' : HO} (e : r[i]? = some (some c)) (ho : c.isOwn = true) (e1 : σ[i]? = some (some (.ref p))) (hG : G p = none) (hH : H p = some ob) (hP : C.P p = none ∨ p ∈ C.M)
    (hc' : CellOk K C G (upd H p ob') (.ref p) c') (ho' : c'.isOwn = true) : Ok K C G (upd H p ob') σ (r.set i (some c')) where
  sub := fun a u q => by
    have : a ≠ p := ne_of_none q hG
    rw [upd_ne this]; exact ok.sub _ _ q
  g0 := ok.g0
  gnew := ok.gnew
  prot := fun a o q hm => by
    have : a ≠ p := fun z => by
      subst z
      rcases hP with h | h
      · rw [h] at q; cases q
      · exact hm h
    rw [upd_ne this]; exact ok.prot a o q hm
  mreal := fun a hm => by
    obtain ⟨h1, h2⟩ := ok.mreal a hm
    refine ⟨?_, h2⟩
    by_cases z : a = p
    · subst z; rw [upd_same]; intro w; cases w
    · rw [upd_ne z]; exact h1
  len := by rw [List.length_set]; exact ok.len
  cell := fun j c2 q => by
    have hi : i < r.length := (List.getElem?_eq_some_iff.mp e).1
    by_cases hj : j = i
    · subst hj
      rw [List.getElem?_set_self hi] at q
      cases q
      exact ⟨_, e1, hc'⟩
    · rw [List.getElem?_set_ne (Ne.symm hj)] at q
      obtain ⟨v, e2, hc⟩ := ok.cell j c2 q
      refine ⟨v, e2, ?_⟩
      cases c2 with
      | val d => exact hc
      | own es =>
        obtain ⟨x, ws, rfl, g1, g2, g3, g4⟩ := hc
        have hx : x ≠ p := fun z => hj (ok.dis j i _ _ q e rfl ho (by rw [e2, e1, z]))
        exact ⟨x, ws, rfl, g1, g2, by rw [upd_ne hx]; exact g3, g4⟩
      | loan m es =>
        obtain ⟨x, ws, rfl, g1, g2, g3, g4⟩ := hc
        have hx : x ≠ p := fun z => hj (ok.dis j i _ _ q e rfl ho (by rw [e2, e1, z]))
        exact ⟨x, ws, rfl, g1, g2, by rw [upd_ne hx]; exact g3, g4⟩
      | ownD kds' =>
        obtain ⟨x, ob2, ks, rfl, g1, g2, g3, g4⟩ := hc
        have hx : x ≠ p := fun z => hj (ok.dis j i _ _ q e rfl ho (by rw [e2, e1, z]))
        exact ⟨x, ob2, ks, rfl, g1, g2, by rw [upd_ne hx]; exact g3, g4⟩
      | tag m => exact hc
      | fre d => exact hc
      | ownF es =>
        obtain ⟨x, ws, rfl, g1, g2, g3, g4⟩ := hc
        have hx : x ≠ p := fun z => hj (ok.dis j i _ _ q e rfl ho (by rw [e2, e1, z]))
        exact ⟨x, ws, rfl, g1, g2, by rw [upd_ne hx]; exact g3, g4⟩
  dis := fun j k c1 c2 q1 q2 o1 o2 => by
    have hi : i < r.length := (List.getElem?_eq_some_iff.mp e).1
    have get : ∀ {x : Nat} {c2 : Cell}, (r.set i (some c'))[x]? = some (some c2) → ∃ c3, r[x]? = some (some c3) ∧ (c2.isOwn = true → c3.isOwn = true) := fun {x c2} q => by
      by_cases hx : x = i
      · subst hx
        exact ⟨c, e, fun _ => ho⟩
      · rw [List.getElem?_set_ne (Ne.symm hx)] at q
        exact ⟨c2, q, fun z => z⟩
    obtain ⟨d1, g1, w1⟩ := get q1
    obtain ⟨d2, g2, w2⟩ := get q2
    exact ok.dis j k d1 d2 g1 g2 (w1 o1) (w2 o2)
end
section
variable {X : Cx} {e a b : Expr} {es : List Expr} {f fa fb : FE} {g : FA} {pu p q : Bool} {pos pp : Pos} {x : Str} {st : Stmt} {sts : List Stmt} {F F' : FS}
theorem ss_nil : SSs X [] sNext := PSs.weak pss_nil fun E σ H ⟨C, G, r, o, ok, hf, k⟩ => by cases hf; exact k σ G H ok (Same.refl _)
theorem ss_one (h : SS X st F) : SSs X [st] F := pss_one h
theorem ss_cons (h1 : SS X st F) (h2 : SSs X sts F') : SSs X (st :: sts) (sSeq F F') := PSs.weak (pss_cons h1 h2) fun E σ H ⟨C, G, r, o, ok, hf, k⟩ => by
  unfold sSeq at hf
  split at hf
  · rename_i r1 h1
    refine ⟨C, G, r, _, ok, h1, fun σ' G' H' ok' s => ⟨C, G', r1, o, ok', hf, k.mono s⟩⟩
  · refine ⟨C, G, r, o, ok, hf, ?_⟩
    cases o with
    | nx r1 => rename_i h; exact absurd hf (h r1)
    | bk => exact k
    | ct => exact k
    | rt => exact k
    | rtO => exact k
    | rtN => exact k
theorem ss_pass : SS X (.Pass pos) sNext := PS.weak ps_pass fun E σ H ⟨C, G, r, o, ok, hf, k⟩ => by cases hf; exact k σ G H ok (Same.refl _)
theorem ss_break : SS X (.Break pos) sBrk := PS.weak ps_break fun E σ H ⟨C, G, r, o, ok, hf, k⟩ => by cases hf; exact k σ G H ok (Same.refl _)
theorem ss_continue : SS X (.Continue pos) sCnt := PS.weak ps_continue fun E σ H ⟨C, G, r, o, ok, hf, k⟩ => by cases hf; exact k σ G H ok (Same.refl _)
theorem ss_expr (h : SE X p e f) (hs : swapsWith e none pos.line X.env = pure false := by rfl) : SS X (.Expr e pos) (sDrop f) := PS.weak (ps_expr h hs) fun E σ H ⟨C, G, r, o, ok, hf, k⟩ => by
  unfold sDrop at hf
  obtain ⟨⟨d, r1⟩, h1, h2⟩ := Option.map_eq_some_iff.mp hf
  cases h2
  exact ⟨C, G, r, d, r1, ok, h1, fun v G' H' o' s m x => k σ G' H' o' s⟩
theorem ss_ret (h : SE X p e f) : SS X (.Return (some e) pos) (sRet f) := PS.weak (ps_ret h) fun E σ H ⟨C, G, r, o, ok, hf, k⟩ => by
  unfold sRet at hf
  obtain ⟨⟨d, r1⟩, h1, h2⟩ := Option.map_eq_some_iff.mp hf
  cases h2
  exact ⟨C, G, r, d, r1, ok, h1, fun v G' H' o' s m x => k v σ G' H' o' s x⟩
theorem ss_retN : SS X (.Return none pos) sRetN := PS.weak ps_retN fun E σ H ⟨C, G, r, o, ok, hf, k⟩ => by cases hf; exact k _ σ G H ok (Same.refl _) .non
theorem ss_retL (h : SL X p e g) : SS X (.Return (some e) pos) (sRetL g) := PS.weak (ps_ret h) fun E σ H ⟨C, G, r, o, ok, hf, k⟩ => by
  unfold sRetL at hf
  obtain ⟨⟨d, r1⟩, h1, h2⟩ := Option.map_eq_some_iff.mp hf
  cases h2
  exact ⟨C, G, r, d, r1, ok, h1, fun l vs G' H' o' s m n x => k l vs σ G' H' o' s n.1 n.2.1 n.2.2.1 n.2.2.2.1 x⟩
theorem ss_retO (i : Nat) {py : Pos} (hN : X.N[i]? = some x := by rfl) (hv : Vis X.env.scope x := by first | exact Or.inl rfl | exact Or.inr (Or.inl rfl) | exact Or.inr (Or.inr rfl)) (hd : (x == ("__debug__" : Str)) = false := by decide)
    (hcd : (x == ("__classdict__" : Str)) = false := by decide) : SS X (.Return (some (.Name x py)) pos) (sRetO i) := PS.weak (ps_ret (pe_var hN hv hd hcd)) fun E σ H ⟨C, G, r, o, ok, hf, k⟩ => by
  unfold sRetO at hf
  split at hf
  · rename_i ds e
    cases hf
    obtain ⟨v, e1, l, vs, rfl, h1, h2, h3, h4⟩ := ok.cell i _ e
    exact ⟨_, e1, k l vs σ G H (ok.drop i) (Same.refl _) h1.1 h1.2 h2 h3 h4⟩
  · cases hf
theorem ss_if {c : Expr} {t : FT} {as bs : List Stmt} (hc : ST X p c t) (ha : SSs X as F) (hb : SSs X bs F') : SS X (.If c as bs pos) (sIf t F F') := PS.weak (ps_if hc ha hb) fun E σ H ⟨C, G, r, o, ok, hf, k⟩ => by
  unfold sIf at hf
  obtain ⟨⟨c, r1⟩, h1, h2⟩ := Option.bind_eq_some_iff.mp hf
  refine ⟨C, G, r, c, r1, ok, h1, fun G' H' o' s m => ?_⟩
  cases c with
  | true => rw [if_pos rfl] at h2 ⊢; exact ⟨C, G', r1, o, o', h2, k.mono s⟩
  | false => rw [if_neg Bool.false_ne_true] at h2 ⊢; exact ⟨C, G', r1, o, o', h2, k.mono s⟩
/-! ### stores -/
def sSet (i : Nat) (f : FE) : FS := fun r => (f r).map fun x => .nx (x.2.set i (some (.val x.1)))
@[simp] theorem sSet_r (i : Nat) (f : FE) (r : Ev) : sSet i f r = (f r).map fun x => .nx (x.2.set i (some (.val x.1))) := rfl
def sSetO (i : Nat) (g : FA) : FS := fun r => (g r).map fun x => .nx (x.2.set i (some (.own x.1)))
@[simp] theorem sSetO_r (i : Nat) (g : FA) (r : Ev) : sSetO i g r = (g r).map fun x => .nx (x.2.set i (some (.own x.1))) := rfl
section
variable {i : Nat} {px : Pos} (hN : X.N.Nodup) (hi : X.N[i]? = some x) (hx : Loc X.env.scope x)
include hN hi hx
theorem ss_set (he : SE X p e f) (hf : X.fn x = true ∨ X.env.scope.names.lookup x = some .local := by first | exact .inl rfl | exact .inr rfl | assumption) (hs : swapsWith e (some (.Name x px)) pos.line X.env = pure false := by rfl) : SS X (.Assign [.Name x px] e pos) (sSet i f) :=
  PS.weak (ps_set hN hi hx he hs hf) fun E σ H ⟨C, G, r, o, ok, hf, k⟩ => by
    unfold sSet at hf
    obtain ⟨⟨d, r1⟩, h1, h2⟩ := Option.map_eq_some_iff.mp hf
    cases h2
    exact ⟨C, G, r, d, r1, ok, h1, fun v G' H' o' s m x => k _ G' H' (o'.setV x) s⟩
theorem ss_setO (he : SL X p e g) (hf : X.fn x = true ∨ X.env.scope.names.lookup x = some .local := by first | exact .inl rfl | exact .inr rfl | assumption) (hs : swapsWith e (some (.Name x px)) pos.line X.env = pure false := by rfl) : SS X (.Assign [.Name x px] e pos) (sSetO i g) :=
  PS.weak (ps_set hN hi hx he hs hf) fun E σ H ⟨C, G, r, o, ok, hf, k⟩ => by
    unfold sSetO at hf
    obtain ⟨⟨d, r1⟩, h1, h2⟩ := Option.map_eq_some_iff.mp hf
    cases h2
    exact ⟨C, G, r, d, r1, ok, h1, fun l vs G' H' o' s m n x => k _ G' H' (o'.setO n x) s⟩
end
/-! ### targets -/
def Wp (L : List Nat) (σ σ' : L2.St) : Prop := ∀ vs : List Nat, (∀ i ∈ L, i ∈ vs) → wipe σ' vs = wipe σ vs
abbrev FG := D → Ev → Option Ev
abbrev FGs := List D → Ev → Option Ev
def tG (K : PySem.W.Frag) (A : FG) (L : List Nat) : TG := fun v σ H Q => ∃ C G r d r', Ok K C G H σ r ∧ Dp K G v d ∧ A d r = some r' ∧ ∀ σ', Ok K C G H σ' r' → Wp L σ σ' → Q σ' H
def tGs (K : PySem.W.Frag) (A : FGs) (L : List Nat) : TGs := fun v σ H Q => ∃ C G r d r', Ok K C G H σ r ∧ DpAll K G v d ∧ A d r = some r' ∧ ∀ σ', Ok K C G H σ' r' → Wp L σ σ' → Q σ' H
abbrev SG (X : Cx) (tg : Expr) (A : FG) (L : List Nat) : Prop := PG X tg (tG X.K A L)
abbrev SGs (X : Cx) (tg : List Expr) (A : FGs) (L : List Nat) : Prop := PGs X tg (tGs X.K A L)
theorem PG.weak {e : Expr} {t t' : TG} (h : PG X e t) (w : ∀ v σ H Q, t' v σ H Q → t v σ H Q) : PG X e t' := ⟨fun pins s σ H v u Q I rv q => h.run pins s σ H v u Q I rv (w v σ H Q q)⟩
theorem PGs.weak {e : List Expr} {t t' : TGs} (h : PGs X e t) (w : ∀ v σ H Q, t' v σ H Q → t v σ H Q) : PGs X e t' := ⟨fun pins s σ H v u Q I rv q => h.run pins s σ H v u Q I rv (w v σ H Q q)⟩
theorem wipe_set {σ : L2.St} {i : Nat} {v : Option V} : ∀ {vs : List Nat}, i ∈ vs → wipe (σ.set i v) vs = wipe σ vs
  | [], h => by cases h
  | j :: vs, h => by
    unfold wipe
    by_cases hi : i ∈ vs
    · rw [wipe_set hi]
    · rcases List.mem_cons.mp h with e | h
      · subst e
        have : ∀ (vs : List Nat), i ∉ vs → wipe (σ.set i v) vs = (wipe σ vs).set i v := by
          intro vs
          induction vs with
          | nil => intro _; rfl
          | cons k ks ih =>
            intro hk
            rw [List.mem_cons, not_or] at hk
            unfold wipe
            rw [ih hk.2, List.set_comm _ _ hk.1]
        rw [this vs hi, List.set_set]
      · exact absurd h hi
theorem Wp.refl (σ : L2.St) : Wp [] σ σ := fun _ _ => rfl
theorem Wp.trans {L L' : List Nat} {σ σ' σ'' : L2.St} (a : Wp L σ σ') (b : Wp L' σ' σ'') : Wp (L ++ L') σ σ'' := fun vs h => (b vs fun i hi => h i (List.mem_append_right _ hi)).trans (a vs fun i hi => h i (List.mem_append_left _ hi))
def gNm (i : Nat) : FG := fun d r => some (r.set i (some (.val d)))
@[simp] theorem gNm_r (i : Nat) (d : D) (r : Ev) : gNm i d r = some (r.set i (some (.val d))) := rfl
def gsNil : FGs := fun ds r => match ds with
  | [] => some r
  | _ => none
@[simp] theorem gsNil_r (ds : List D) (r : Ev) : gsNil ds r = match ds with
  | [] => some r
  | _ => none := rfl
def gsCons (A : FG) (B : FGs) : FGs := fun ds r => match ds with
  | d :: ds => (A d r).bind fun r1 => B ds r1
  | _ => none
@[simp] theorem gsCons_r (A : FG) (B : FGs) (ds : List D) (r : Ev) : gsCons A B ds r = match ds with
  | d :: ds => (A d r).bind fun r1 => B ds r1
  | _ => none := rfl
def gTp (n : Nat) (B : FGs) : FG := fun d r => match d with
  | .tuple ds => if ds.length = n then B ds r else none
  | _ => none
@[simp] theorem gTp_r (n : Nat) (B : FGs) (d : D) (r : Ev) : gTp n B d r = match d with
  | .tuple ds => if ds.length = n then B ds r else none
  | _ => none := rfl
theorem sg_name {i : Nat} (hN : X.N.Nodup) (hi : X.N[i]? = some x) (hx : Loc X.env.scope x) (hf : X.fn x = true ∨ X.env.scope.names.lookup x = some .local := by first | exact .inl rfl | exact .inr rfl | assumption) : SG X (.Name x pos) (gNm i) [i] :=
  PG.weak (pg_name hN hi hx hf) fun v σ H Q ⟨C, G, r, d, r', ok, hd, hA, k⟩ => by
    cases hA
    exact k _ (ok.setV hd) fun vs h => wipe_set (h i List.mem_cons_self)
theorem sgs_nil : SGs X [] gsNil [] := PGs.weak pgs_nil fun v σ H Q ⟨C, G, r, d, r', ok, hd, hA, k⟩ => by
  cases hd with
  | nil => cases hA; exact ⟨rfl, k σ ok (Wp.refl σ)⟩
  | cons h t => cases hA
theorem sgs_cons {A : FG} {B : FGs} {L L' : List Nat} (h1 : SG X e A L) (h2 : SGs X es B L') (hs : (assignEach (e :: es) X.env).map (·.2) = assign e X.env :: (assignEach es X.env).map (·.2) := by rfl) : SGs X (e :: es) (gsCons A B) (L ++ L') :=
  PGs.weak (pgs_cons h1 h2 hs) fun v σ H Q ⟨C, G, r, d, r', ok, hd, hA, k⟩ => by
    cases hd with
    | nil => cases hA
    | cons h t =>
      obtain ⟨r1, h3, h4⟩ := Option.bind_eq_some_iff.mp (show (A _ r).bind _ = some r' from hA)
      exact ⟨_, _, rfl, C, G, r, _, r1, ok, h, h3, fun σ1 ok1 w1 => ⟨C, G, r1, _, r', ok1, t, h4, fun σ2 ok2 w2 => k σ2 ok2 (w1.trans w2)⟩⟩
theorem sg_tup {k n : Nat} {B : FGs} {L : List Nat} (hc : X.calm = true) (h : SGs X es B L) (hn : (assignEach es X.env).length = n := by rfl) (hst : (assignEach es X.env).findIdx? (·.1) = none := by rfl) : SG X (.Tuple es k pos) (gTp n B) L :=
  PG.weak (pg_tup hc h hn hst) fun v σ H Q ⟨C, G, r, d, r', ok, hd, hA, kk⟩ => by
    unfold gTp at hA
    split at hA
    · split at hA
      · rename_i hl
        cases hd with
        | tup ht ha => exact ⟨_, _, rfl, SqT.mono ok.sub ht, by rw [DpAll.length ha]; exact hl, C, G, r, _, r', ok, ha, hA, kk⟩
      · cases hA
    · cases hA
/-- a, b, .. = e -/
def sAsg (f : FE) (A : FG) : FS := fun r => (f r).bind fun x => (A x.1 x.2).map .nx
@[simp] theorem sAsg_r (f : FE) (A : FG) (r : Ev) : sAsg f A r = (f r).bind fun x => (A x.1 x.2).map .nx := rfl
theorem ss_asg {tg : Expr} {A : FG} {L : List Nat} (he : SE X p e f) (hg : SG X tg A L) (hs : swapsWithSole [tg] e pos.line X.env = pure false := by rfl) (hw : swappedStores [tg] e X.env = pure none := by rfl) (h1 : (assignEach [tg] X.env).map (·.2) = [assign tg X.env] := by rfl) :
    SS X (.Assign [tg] e pos) (sAsg f A) := PS.weak (ps_asg he hg hs hw h1) fun E σ H ⟨C, G, r, o, ok, hf, k⟩ => by
  unfold sAsg at hf
  obtain ⟨⟨d, r1⟩, h1, h2⟩ := Option.bind_eq_some_iff.mp hf
  obtain ⟨r2, h3, h4⟩ := Option.map_eq_some_iff.mp h2
  cases h4
  exact ⟨C, G, r, d, r1, ok, h1, fun v G' H' o' s m x => ⟨C, G', r1, d, r2, o', x, h3, fun σ' ok' _ => k σ' G' H' ok' s⟩⟩
end
end SL
namespace SL
open PySem PySem.Spec PyProof.Rows L2
/-! ### what is walked -/
/-- the turns of an iterator: the data ds, one by one, while what is known stays -/
def Turns (K : PySem.W.Frag) (J : It) (ds : List D) (G1 : Hp) : Prop := ∀ i G2 H2, Same G1 G2 → Same G2 H2 →
  (∀ d, ds[i]? = some d → J.go i H2 ∧ ∀ x H3, J.yld i H2 x H3 → Same H2 H3 ∧ ∃ G3, Same G2 G3 ∧ Same G3 H3 ∧ (∀ a o, G3 a = some o → G2 a = some o ∨ H2 a = none) ∧ Dp K G3 x d) ∧ (ds.length ≤ i → J.stop i H2)
def tI (K : PySem.W.Frag) (src : FA) : TI := fun σ H R => ∃ C G r ds r', Ok K C G H σ r ∧ src r = some (ds, r') ∧ ∀ J G' H', Ok K C G' H' σ r' → Same G G' → Turns K J ds G' → R J H'
abbrev SI (X : Cx) (tg iter : Expr) (src : FA) : Prop := PI X tg iter (tI X.K src)
theorem PI.weak {X : Cx} {tg e : Expr} {t t' : TI} (h : PI X tg e t) (w : ∀ σ H R, t' σ H R → t σ H R) : PI X tg e t' := ⟨fun pins s σ H R I q => h.run pins s σ H R I (w σ H R q)⟩
@[simp] def seqD : D → Option (List D)
  | .list ds => some ds
  | .tuple ds => some ds
  | _ => none
def iSeq (f : FE) : FA := fun r => (f r).bind fun x => (seqD x.1).map fun ds => (ds, x.2)
@[simp] theorem iSeq_r (f : FE) (r : Ev) : iSeq f r = (f r).bind fun x => (seqD x.1).map fun ds => (ds, x.2) := rfl
def rngL (lo : Int) (n : Nat) : List D := (List.range n).map fun (i : Nat) => .int (lo + i)
def okR (i : Int) : Bool := decide (-(2 ^ 62) ≤ i) && decide (i < 2 ^ 62)
def iRng1 (f : FE) : FA := fun r => match f r with
  | some (.int j, r') => if okR j = true then some (rngL 0 j.toNat, r') else none
  | _ => none
def iRng2 (f g : FE) : FA := fun r => match f r with
  | some (.int i, r1) => (match g r1 with
    | some (.int j, r') => if okR i = true ∧ okR j = true then some (rngL i (j - i).toNat, r') else none
    | _ => none)
  | _ => none
section
variable {K : PySem.W.Frag} {G H : Hp}
theorem okR_ok {i : Int} (h : okR i = true) : -(2 ^ 62) ≤ i ∧ i < 2 ^ 62 := ⟨of_decide_eq_true (Bool.and_eq_true_iff.mp h).1, of_decide_eq_true (Bool.and_eq_true_iff.mp h).2⟩
theorem turns_list {a : Addr} {vs : List V} {ds : List D} (h1 : SqL K G a vs) (h2 : DpAll K G vs ds) : Turns K (Itl K a) ds G := fun i G2 H2 s1 s2 => by
  have q : SqL K H2 a vs := SqL.mono s2 (SqL.mono s1 h1)
  refine ⟨fun d e => ?_, fun h => ⟨vs, q, by rw [DpAll.length h2]; exact h⟩⟩
  obtain ⟨v, e1, dv⟩ := DpAll.get h2 e
  refine ⟨⟨vs, v, q, e1⟩, fun x H3 ⟨eH, y⟩ => ?_⟩
  subst eH
  rw [y vs q] at e1
  cases e1
  exact ⟨Same.refl _, G2, Same.refl _, s2, fun a o z => .inl z, Dp.mono s1 dv⟩
theorem turns_tup {a : Addr} {vs : List V} {ds : List D} (h1 : SqT K G a vs) (h2 : DpAll K G vs ds) : Turns K (Itt K a) ds G := fun i G2 H2 s1 s2 => by
  have q : SqT K H2 a vs := SqT.mono s2 (SqT.mono s1 h1)
  refine ⟨fun d e => ?_, fun h => ⟨vs, q, by rw [DpAll.length h2]; exact h⟩⟩
  obtain ⟨v, e1, dv⟩ := DpAll.get h2 e
  refine ⟨⟨vs, v, q, e1⟩, fun x H3 ⟨eH, y⟩ => ?_⟩
  subst eH
  rw [y vs q] at e1
  cases e1
  exact ⟨Same.refl _, G2, Same.refl _, s2, fun a o z => .inl z, Dp.mono s1 dv⟩
theorem rngL_length (lo : Int) (n : Nat) : (rngL lo n).length = n := by unfold rngL; rw [List.length_map, List.length_range]
theorem rngL_get {lo : Int} {n i : Nat} {d : D} (h : (rngL lo n)[i]? = some d) : i < n ∧ d = .int (lo + i) := by
  have hl : i < n := by
    have := (List.getElem?_eq_some_iff.mp h).1
    rwa [rngL_length] at this
  unfold rngL at h
  rw [List.getElem?_map, List.getElem?_range hl] at h
  cases h
  exact ⟨hl, rfl⟩
theorem turns_rng (lo : Int) (n : Nat) : Turns K (Itr lo n) (rngL lo n) G := fun i G2 H2 s1 s2 => by
  refine ⟨fun d e => ?_, fun h => by rw [rngL_length] at h; exact h⟩
  obtain ⟨hl, rfl⟩ := rngL_get e
  refine ⟨hl, fun x H3 ⟨eH, y⟩ => ?_⟩
  subst eH y
  exact ⟨Same.refl _, G2, Same.refl _, s2, fun a o z => .inl z, .int _⟩
end
section
variable {X : Cx} {tg e a b : Expr} {f fa fb : FE} {g : FA} {pu p q : Bool} {pos pp : Pos}
/-- a walk over a list or a tuple -/
theorem pi_any {l : Expr} {tl : TE} (hl : PE X l tl) : PI X tg l (fun σ H R => tl σ H fun x H1 => (∃ a, x = .ref a ∧ (∃ xs, SqL X.K H1 a xs) ∧ R (Itl X.K a) H1) ∨ (∃ a, x = .ref a ∧ (∃ xs, SqT X.K H1 a xs) ∧ R (Itt X.K a) H1)) := by
  refine ⟨fun pins s σ H R I h => ?_⟩
  refine thn (hl.run pins s σ H _ I h) fun v s1 ⟨x, H1, I1, r1, q1⟩ => ?_
  have hd : ∀ b ∈ [s1.heap.objs.size], FpOk X pins H1 b := fun b hb => by
    have e : b = s1.heap.objs.size := by simpa using hb
    subst e
    exact I1.fpOk (Nat.le_refl _) (I1.hok.fresh (Nat.le_refl _))
  rcases q1 with ⟨a, e, ⟨xs, hq⟩, q⟩ | ⟨a, e, ⟨xs, hq⟩, q⟩
  · subst e
    cases r1
    obtain ⟨its, rv, p, hz⟩ := I1.list hq
    exact wpAny_pyIter_list p.isList ⟨s1.heap.objs.size, [s1.heap.objs.size], _, _, H1, rfl, I1.kept (t' := s1.toks) fun b o e => Heap.get?_push_of_some _ e, turn_list a _, ⟨_, Heap.get?_push_size _ rfl, rfl, rfl⟩, hd, q⟩
  · subst e
    cases r1
    obtain ⟨its, rv, p, hz⟩ := I1.tuple hq
    exact wpAny_pyIter_tuple (show s1.heap.IsTuple a its.toArray from p) ⟨s1.heap.objs.size, [s1.heap.objs.size], _, _, H1, rfl, I1.kept (t' := s1.toks) fun b o e => Heap.get?_push_of_some _ e, turn_tuple a _, ⟨_, Heap.get?_push_size _ rfl, rfl, rfl⟩, hd, q⟩
theorem si_seq (h : SE X p e f) : SI X tg e (iSeq f) := PI.weak (pi_any h) fun σ H R ⟨C, G, r, ds, r', ok, hf, k⟩ => by
  unfold iSeq at hf
  obtain ⟨⟨d, r1⟩, h1, h2⟩ := Option.bind_eq_some_iff.mp hf
  obtain ⟨ds', h3, h4⟩ := Option.map_eq_some_iff.mp h2
  cases h4
  refine ⟨C, G, r, d, _, ok, h1, fun v G1 H1 o1 s1 m1 x1 => ?_⟩
  cases x1 with
  | lst ha hb => cases h3; exact .inl ⟨_, rfl, ⟨_, SqL.mono o1.sub ha⟩, k _ G1 H1 o1 s1 (turns_list ha hb)⟩
  | tup ha hb => cases h3; exact .inr ⟨_, rfl, ⟨_, SqT.mono o1.sub ha⟩, k _ G1 H1 o1 s1 (turns_tup ha hb)⟩
  | non => cases h3
  | bl => cases h3
  | int => cases h3
  | str => cases h3
  | dic => cases h3
theorem si_range1 (hg : Gl X "range") (hm : X.mg "range" = none) (ha : SE X p a f) (hs : starEach [a] X.env = [(false, eval a X.env)] := by rfl) : SI X tg (.Call (.Name "range" pp) [a] [] pos) (iRng1 f) :=
  PI.weak (pi_range1 hg hm (pa_cons ha pa_nil hs) hs) fun σ H R ⟨C, G, r, ds, r', ok, hf, k⟩ => by
    unfold iRng1 at hf
    split at hf
    · rename_i j r1 h1
      split at hf
      · rename_i hj
        cases hf
        obtain ⟨j1, j2⟩ := okR_ok hj
        refine ⟨C, G, r, _, _, ok, h1, fun v G1 H1 o1 s1 m1 x1 => ?_⟩
        cases x1
        exact ⟨j, rfl, j1, j2, k _ G1 H1 o1 s1 (turns_rng 0 j.toNat)⟩
      · cases hf
    · cases hf
theorem si_range2 (hg : Gl X "range") (hm : X.mg "range" = none) (ha : SE X p a fa) (hb : SE X q b fb) (hs : starEach [a, b] X.env = [(false, eval a X.env), (false, eval b X.env)] := by rfl) (hs2 : starEach [b] X.env = [(false, eval b X.env)] := by rfl) :
    SI X tg (.Call (.Name "range" pp) [a, b] [] pos) (iRng2 fa fb) :=
  PI.weak (pi_range2 hg hm (pa_cons ha (pa_cons hb pa_nil hs2) (by rw [hs, hs2])) hs hs2) fun σ H R ⟨C, G, r, ds, r', ok, hf, k⟩ => by
    unfold iRng2 at hf
    split at hf
    · rename_i i r1 h1
      split at hf
      · rename_i j r2 h2
        split at hf
        · rename_i hj
          cases hf
          obtain ⟨i1, i2⟩ := okR_ok hj.1
          obtain ⟨j1, j2⟩ := okR_ok hj.2
          refine ⟨C, G, r, _, _, ok, h1, fun v G1 H1 o1 s1 m1 x1 => ⟨C, G1, r1, _, _, o1, h2, fun w G2 H2 o2 s2 m2 x2 => ?_⟩⟩
          cases x1; cases x2
          exact ⟨i, j, rfl, ⟨i1, i2, j1, j2⟩, k _ G2 H2 o2 (s1.trans s2) (turns_rng i (j - i).toNat)⟩
        · cases hf
      · cases hf
    · cases hf
/-! ### for -/
def loopF (A : FG) (body : FS) : List D → FS
  | [], r => some (.nx r)
  | d :: ds, r => (A d r).bind fun r1 => match body r1 with
    | some (.nx r2) => loopF A body ds r2
    | some (.ct r2) => loopF A body ds r2
    | some (.bk r2) => some (.nx r2)
    | o => o
def sFor (src : FA) (A : FG) (body : FS) : FS := fun r => (src r).bind fun x => loopF A body x.1 x.2
theorem ss_for {iter : Expr} {body : List Stmt} {src : FA} {A : FG} {L : List Nat} {F : FS} (hp : PassesOwn (model X.prog X.w) X.A X.env X.xe) (hc : X.calm = true) (hi : SI X tg iter src) (hg : SG X tg A L) (hb : SSs X body F)
    (hs : ∀ x, foldedSetIterable iter X.env x = pure x := by intro _; rfl) : SS X (.For tg iter body [] pos) (sFor src A F) := PS.weak (ps_for hp hc hi hg hb hs) fun E σ H ⟨C, G, r, o, ok, hf, k⟩ => by
  unfold sFor at hf
  obtain ⟨⟨ds, r1⟩, h1, h2⟩ := Option.bind_eq_some_iff.mp hf
  refine ⟨C, G, r, ds, r1, ok, h1, fun J G1 H1 o1 s1 tn => ?_⟩
  refine ⟨fun i m σ H => ∃ G' r', Ok X.K C G' H σ r' ∧ Same G1 G' ∧ m = ds.length - i ∧ i ≤ ds.length ∧ loopF A F (ds.drop i) r' = some o, ⟨_, G1, r1, o1, Same.refl _, rfl, Nat.zero_le _, h2⟩, ?_⟩
  rintro i m σ H ⟨G', r', ok', sg, rfl, hi, hl⟩
  obtain ⟨go, stop⟩ := tn i G' H sg ok'.sub
  have km : OutOk X.K C G' E o := k.mono (s1.trans sg)
  by_cases hlt : i < ds.length
  · refine .inr ?_
    have e : ds.drop i = ds[i] :: ds.drop (i + 1) := List.drop_eq_getElem_cons hlt
    rw [e] at hl
    obtain ⟨g1, g2⟩ := go ds[i] (List.getElem?_eq_getElem hlt)
    refine ⟨g1, fun σ H => ∃ G' r', Ok X.K C G' H σ r' ∧ Same G1 G' ∧ loopF A F (ds.drop (i + 1)) r' = some o, fun σ' H' ⟨G2, r2, a1, a2, a3⟩ => ⟨_, Nat.sub_lt_sub_left hlt (Nat.lt_succ_self i), G2, r2, a1, a2, rfl, hlt, a3⟩, fun x H3 y => ?_⟩
    obtain ⟨m3, G3, s3, s3', n3, dx⟩ := g2 x H3 y
    have ok3 : Ok X.K C G3 H3 σ r' := ok'.calm s3 m3 s3' n3
    obtain ⟨r2, h3, h4⟩ := Option.bind_eq_some_iff.mp (show (A ds[i] r').bind _ = some o from hl)
    refine ⟨C, G3, r', _, r2, ok3, dx, h3, fun σ2 ok4 _ => ?_⟩
    have sg3 := sg.trans s3
    cases hb : F r2 with
    | none => rw [hb] at h4; cases h4
    | some o2 =>
      rw [hb] at h4
      refine ⟨C, G3, r2, o2, ok4, hb, ?_⟩
      cases o2 with
      | nx r3 => exact fun σ' G4 H4 ok5 s5 => ⟨G4, r3, ok5, sg3.trans s5, h4⟩
      | ct r3 => exact fun σ' G4 H4 ok5 s5 => ⟨G4, r3, ok5, sg3.trans s5, h4⟩
      | bk r3 => cases h4; exact OutOk.mono s3 km
      | rt d r3 => cases h4; exact OutOk.mono s3 km
      | rtO d r3 => cases h4; exact OutOk.mono s3 km
      | rtN d r3 => cases h4; exact OutOk.mono s3 km
  · have e : ds.length = i := by omega
    refine .inl ⟨stop (by omega), ?_⟩
    rw [← e, List.drop_length] at hl
    cases hl
    exact km σ G' H ok' (Same.refl _)
end
end SL
namespace SL
open PySem PySem.Spec PyProof.Rows L2
/-! ### comprehensions -/
@[simp] def wipeE (r : Ev) : List Nat → Ev
  | [] => r
  | v :: vs => (wipeE r vs).set v none
/-- the slots of the block's own names are again what they were -/
def backE (r0 r : Ev) : List Nat → Ev
  | [] => r
  | v :: vs => match r0[v]? with
    | some (some (.val d)) => (backE r0 r vs).set v (some (.val d))
    | _ => (backE r0 r vs).set v none
def lcF (vs : List Nat) (A : FG) (t : FT) (f : FE) : List D → Ev → Option (List D × Ev)
  | [], r => some ([], wipeE r vs)
  | d :: ds, r => (A d (wipeE r vs)).bind fun r1 => (t r1).bind fun b => if b.1 = true then (f b.2).bind fun y => (lcF vs A t f ds y.2).map fun z => (y.1 :: z.1, z.2) else lcF vs A t f ds b.2
def lLc (src : FA) (vs : List Nat) (A : FG) (t : FT) (f : FE) : FA := fun r => (src r).bind fun x => (lcF vs A t f x.1 x.2).bind fun z => if z.1.length < sizeLine then some (z.1, backE x.2 z.2 vs) else none
def gYes : FT := fun r => some (true, r)
@[simp] theorem gYes_r (r : Ev) : gYes r = some (true, r) := rfl
section
variable {K : PySem.W.Frag} {C : Ctx} {G H G' H' : Hp} {σ σ' : L2.St} {r r' r0 : Ev}
theorem wipeE_length (r : Ev) : ∀ vs : List Nat, (wipeE r vs).length = r.length
  | [] => rfl
  | v :: vs => by unfold wipeE; rw [List.length_set, wipeE_length r vs]
theorem wipeE_get (i : Nat) (vs : List Nat) : (wipeE r vs)[i]? = if i ∈ vs then r[i]?.map fun _ => none else r[i]? := by
  induction vs with
  | nil => simp
  | cons v vs ih =>
    simp only [wipeE, List.getElem?_set, wipeE_length, ih, List.mem_cons]
    by_cases e : v = i
    · subst e
      by_cases l : v < r.length <;> simp [l]
    · simp [e, Ne.symm e]
theorem wipeE_some {i : Nat} {c : Cell} {vs : List Nat} (h : (wipeE r vs)[i]? = some (some c)) : r[i]? = some (some c) ∧ i ∉ vs := by
  rw [wipeE_get] at h
  by_cases m : i ∈ vs
  · simp [m] at h
  · exact ⟨by simpa [m] using h, m⟩
theorem wipe_off {i : Nat} {vs : List Nat} (h : i ∉ vs) : (wipe σ vs)[i]? = σ[i]? := by
  induction vs with
  | nil => rfl
  | cons v vs ih => simp only [wipe, List.getElem?_set, if_neg (fun z : v = i => h (z ▸ List.mem_cons_self)), ih fun z => h (List.mem_cons_of_mem _ z)]
/-- only the slots change, and only such as nobody knows -/
theorem Ok.slots (ok : Ok K C G H σ r) (hl : r'.length = σ'.length) (h : ∀ (i : Nat) (c : Cell), r'[i]? = some (some c) → (r[i]? = some (some c) ∧ σ'[i]? = σ[i]?) ∨ (c.isOwn = false ∧ ∃ v, σ'[i]? = some (some v) ∧ CellOk K C G H v c)) : Ok K C G H σ' r' where
  sub := ok.sub
  g0 := ok.g0
  gnew := ok.gnew
  prot := ok.prot
  mreal := ok.mreal
  len := hl
  cell := fun i c e => by
    rcases h i c e with ⟨e1, e2⟩ | ⟨_, v, e1, e2⟩
    · obtain ⟨v, e3, h3⟩ := ok.cell i c e1
      exact ⟨v, by rw [e2]; exact e3, h3⟩
    · exact ⟨v, e1, e2⟩
  dis := fun i j c c' e1 e2 o1 o2 e => by
    rcases h i c e1 with ⟨a1, a2⟩ | ⟨a1, _⟩
    · rcases h j c' e2 with ⟨b1, b2⟩ | ⟨b1, _⟩
      · exact ok.dis i j c c' a1 b1 o1 o2 (by rw [← a2, ← b2]; exact e)
      · rw [o2] at b1; cases b1
    · rw [o1] at a1; cases a1
theorem Ok.wipe (ok : Ok K C G H σ r) (vs : List Nat) : Ok K C G H (L2.wipe σ vs) (wipeE r vs) := ok.slots (by rw [wipeE_length, L2.wipe_length]; exact ok.len) fun i c e => by
  obtain ⟨e1, e2⟩ := wipeE_some e
  exact .inl ⟨e1, wipe_off e2⟩
theorem backE_length (r0 r : Ev) : ∀ vs : List Nat, (backE r0 r vs).length = r.length
  | [] => rfl
  | v :: vs => by
    unfold backE
    split <;> rw [List.length_set, backE_length r0 r vs]
theorem backE_some {i : Nat} {c : Cell} : ∀ {vs : List Nat}, (backE r0 r vs)[i]? = some (some c) → (i ∉ vs ∧ r[i]? = some (some c)) ∨ (i ∈ vs ∧ c.isOwn = false ∧ r0[i]? = some (some c))
  | [], h => .inl ⟨by simp, h⟩
  | v :: vs, h => by
    have go : ∀ {x : Option Cell}, ((backE r0 r vs).set v x)[i]? = some (some c) → (x = none ∨ ∃ d, x = some (.val d) ∧ r0[v]? = some (some (.val d))) → (i ∉ v :: vs ∧ r[i]? = some (some c)) ∨ (i ∈ v :: vs ∧ c.isOwn = false ∧ r0[i]? = some (some c)) := fun {x} h hx => by
      rw [List.getElem?_set] at h
      by_cases hi : v = i
      · subst hi
        by_cases l : v < (backE r0 r vs).length
        · rcases hx with rfl | ⟨d, rfl, e⟩ <;> simp [l] at h
          subst h
          exact .inr ⟨List.mem_cons_self, rfl, e⟩
        · simp [l] at h
      · rw [if_neg hi] at h
        exact (backE_some h).imp (fun q => ⟨fun z => (List.mem_cons.mp z).elim (fun z => hi z.symm) q.1, q.2⟩) fun q => ⟨List.mem_cons_of_mem _ q.1, q.2⟩
    unfold backE at h
    split at h
    · rename_i d e
      exact go h (.inr ⟨d, rfl, e⟩)
    · exact go h (.inl rfl)
theorem Ok.back0 {G1 H1 : Hp} {vs : List Nat} (ok0 : Ok K C G1 H1 σ r0) (s : Same G1 G) (ok : Ok K C G H (L2.wipe σ vs) r) : Ok K C G H σ (backE r0 r vs) := ok.slots (by rw [backE_length, ok.len, L2.wipe_length]) fun i c e => by
  rcases backE_some e with ⟨a, b⟩ | ⟨a, b, d⟩
  · exact .inl ⟨b, (wipe_off a).symm⟩
  · refine .inr ⟨b, ?_⟩
    obtain ⟨v, e1, h⟩ := ok0.cell i c d
    refine ⟨v, e1, ?_⟩
    cases c with
    | val d => exact Dp.mono s h
    | own => cases b
    | loan => cases b
    | ownD => cases b
    | tag m => exact h
    | fre d => exact DpN.mono s h
    | ownF => cases b
/-- a list that is being made is kept from all -/
def Ctx.holdX (C : Ctx) (p : Addr) (o : HO) : Ctx := { C with P := upd C.P p o }
abbrev Ctx.hold (C : Ctx) (p : Addr) (xs : List V) : Ctx := C.holdX p (.lst xs)
theorem Ok.holdX {p : Addr} {ho : HO} (ok : Ok K C G H σ r) (n : NewX K C G H σ r p ho) : Ok K (C.holdX p ho) G H σ r where
  sub := ok.sub
  g0 := ok.g0
  gnew := fun a o e => by
    have : a ≠ p := ne_of_none e n.2.2.1
    rcases ok.gnew a o e with h | h
    · exact .inl h
    · exact .inr (by show upd C.P p _ a = none; rw [upd_ne this]; exact h)
  prot := fun a o e hm => by
    by_cases z : a = p
    · subst z
      have e' : upd C.P a ho a = some o := e
      rw [upd_same] at e'
      cases e'
      exact n.2.2.2.1
    · have e' : upd C.P p ho a = some o := e
      rw [upd_ne z] at e'
      exact ok.prot a o e' hm
  mreal := ok.mreal
  len := ok.len
  cell := fun i c e => by
    obtain ⟨v, e1, h⟩ := ok.cell i c e
    refine ⟨v, e1, ?_⟩
    cases c with
    | val d => exact h
    | own ds =>
      obtain ⟨q, ws, rfl, h1, h2, h3, h4⟩ := h
      have hq : q ≠ p := fun z => n.2.2.2.2 i _ e rfl (by rw [e1, z])
      exact ⟨q, ws, rfl, ⟨by show upd C.P p _ q = none; rw [upd_ne hq]; exact h1.1, h1.2⟩, h2, h3, h4⟩
    | loan m ds =>
      obtain ⟨q, ws, rfl, h1, h2, h3, h4⟩ := h
      exact ⟨q, ws, rfl, h1, h2, h3, h4⟩
    | ownD kds =>
      obtain ⟨q, ob, ks, rfl, h1, h2, h3, h4⟩ := h
      have hq : q ≠ p := fun z => n.2.2.2.2 i _ e rfl (by rw [e1, z])
      exact ⟨q, ob, ks, rfl, ⟨by show upd C.P p _ q = none; rw [upd_ne hq]; exact h1.1, h1.2⟩, h2, h3, h4⟩
    | tag m => exact h
    | fre d => exact DpN.imp (Same.refl _) (fun a ha hn => by show upd C.P p _ a = none; rw [upd_ne (fun z => by subst z; exact ha n.2.2.1)]; exact hn) h
    | ownF ds =>
      obtain ⟨q, ws, rfl, h1, h2, h3, h4⟩ := h
      have hq : q ≠ p := fun z => n.2.2.2.2 i _ e rfl (by rw [e1, z])
      exact ⟨q, ws, rfl, ⟨by show upd C.P p _ q = none; rw [upd_ne hq]; exact h1.1, h1.2⟩, h2, h3, DpNAll.imp (Same.refl _) (fun a ha hn => by show upd C.P p _ a = none; rw [upd_ne (fun z => by subst z; exact ha n.2.2.1)]; exact hn) h4⟩
  dis := ok.dis
theorem Ok.hold {p : Addr} {xs : List V} (ok : Ok K C G H σ r) (n : New K C G H σ r p xs) : Ok K (C.hold p xs) G H σ r := ok.holdX n
theorem Ok.unholdX {p : Addr} {ho : HO} (ok : Ok K (C.holdX p ho) G H σ r) (hP : C.P p = none) (hM : p ∉ C.M) (h0 : C.G0 p = none) : Ok K C G H σ r ∧ NewX K C G H σ r p ho := by
  have hp : (C.holdX p ho).P p = some ho := upd_same
  have hH : H p = some ho := ok.prot p _ hp hM
  have hG : G p = none := by
    cases q : G p with
    | none => rfl
    | some u =>
      rcases ok.gnew p u q with h | h
      · have h' : C.G0 p = some u := h
        rw [h0] at h'; cases h'
      · rw [hp] at h; cases h
  refine ⟨⟨ok.sub, ok.g0, fun a o e => ?_, fun a o e hm => ?_, ok.mreal, ok.len, fun i c e => ?_, ok.dis⟩, hP, hM, hG, hH, fun i c e o z => ?_⟩
  · rcases ok.gnew a o e with h | h
    · exact .inl h
    · by_cases z : a = p
      · subst z; rw [hG] at e; cases e
      · have h' : upd C.P p ho a = none := h
        rw [upd_ne z] at h'
        exact .inr h'
  · have z : a ≠ p := fun z => by subst z; rw [hP] at e; cases e
    exact ok.prot a o (by show upd C.P p _ a = some o; rw [upd_ne z]; exact e) hm
  · obtain ⟨v, e1, h⟩ := ok.cell i c e
    refine ⟨v, e1, ?_⟩
    cases c with
    | val d => exact h
    | own ds =>
      obtain ⟨q, ws, rfl, h1, h2, h3, h4⟩ := h
      have hq : q ≠ p := fun z => by subst z; rw [hp] at h1; cases h1.1
      have h1' : upd C.P p ho q = none := h1.1
      rw [upd_ne hq] at h1'
      exact ⟨q, ws, rfl, ⟨h1', h1.2⟩, h2, h3, h4⟩
    | loan m ds =>
      obtain ⟨q, ws, rfl, h1, h2, h3, h4⟩ := h
      exact ⟨q, ws, rfl, h1, h2, h3, h4⟩
    | ownD kds =>
      obtain ⟨q, ob, ks, rfl, h1, h2, h3, h4⟩ := h
      have hq : q ≠ p := fun z => by subst z; rw [hp] at h1; cases h1.1
      have h1' : upd C.P p ho q = none := h1.1
      rw [upd_ne hq] at h1'
      exact ⟨q, ob, ks, rfl, ⟨h1', h1.2⟩, h2, h3, h4⟩
    | tag m => exact h
    | fre d => exact DpN.imp (Same.refl _) (fun a ha hn => by
        have hn' : upd C.P p ho a = none := hn
        rw [upd_ne (fun z => by subst z; exact ha hG)] at hn'
        exact hn') h
    | ownF ds =>
      obtain ⟨q, ws, rfl, h1, h2, h3, h4⟩ := h
      have hq : q ≠ p := fun z => by subst z; rw [hp] at h1; cases h1.1
      have h1' : upd C.P p ho q = none := h1.1
      rw [upd_ne hq] at h1'
      exact ⟨q, ws, rfl, ⟨h1', h1.2⟩, h2, h3, DpNAll.imp (Same.refl _) (fun a ha hn => by
        have hn' : upd C.P p ho a = none := hn
        rw [upd_ne (fun z => by subst z; exact ha hG)] at hn'
        exact hn') h4⟩
  · obtain ⟨v, e1, h⟩ := ok.cell i c e
    rw [e1] at z; cases z
    cases c with
    | val d => cases o
    | own ds =>
      obtain ⟨q, ws, e2, h1, h2, h3, h4⟩ := h
      cases e2
      rw [hp] at h1; cases h1.1
    | loan m ds =>
      obtain ⟨q, ws, e2, h1, h2, h3, h4⟩ := h
      cases e2
      exact hM (List.mem_of_getElem? h1)
    | ownD kds =>
      obtain ⟨q, ob, ks, e2, h1, h2, h3, h4⟩ := h
      cases e2
      rw [hp] at h1; cases h1.1
    | tag m => cases o
    | fre d => cases o
    | ownF ds =>
      obtain ⟨q, ws, e2, h1, h2, h3, h4⟩ := h
      cases e2
      rw [hp] at h1; cases h1.1
theorem Ok.unhold {p : Addr} {xs : List V} (ok : Ok K (C.hold p xs) G H σ r) (hP : C.P p = none) (hM : p ∉ C.M) (h0 : C.G0 p = none) : Ok K C G H σ r ∧ New K C G H σ r p xs := ok.unholdX hP hM h0
/-- the list that is being made grows -/
theorem NewX.grow {p : Addr} {ho ho' : HO} (n : NewX K C G H σ r p ho) (ok : Ok K C G H σ r) : Ok K C G (upd H p ho') σ r ∧ NewX K C G (upd H p ho') σ r p ho' := by
  refine ⟨⟨fun a u e => ?_, ok.g0, ok.gnew, fun a o e hm => ?_, fun a hm => ?_, ok.len, fun i c e => ?_, ok.dis⟩, n.1, n.2.1, n.2.2.1, upd_same, n.2.2.2.2⟩
  · rw [upd_ne (ne_of_none e n.2.2.1)]; exact ok.sub _ _ e
  · have z : a ≠ p := fun z => by subst z; rw [n.1] at e; cases e
    rw [upd_ne z]; exact ok.prot a o e hm
  · have z : a ≠ p := fun z => by subst z; exact n.2.1 hm
    rw [upd_ne z]; exact ok.mreal a hm
  · obtain ⟨v, e1, h⟩ := ok.cell i c e
    refine ⟨v, e1, ?_⟩
    cases c with
    | val d => exact h
    | own ds =>
      obtain ⟨q, ws, rfl, h1, h2, h3, h4⟩ := h
      have hq : q ≠ p := fun z => n.2.2.2.2 i _ e rfl (by rw [e1, z])
      exact ⟨q, ws, rfl, h1, h2, by rw [upd_ne hq]; exact h3, h4⟩
    | loan m ds =>
      obtain ⟨q, ws, rfl, h1, h2, h3, h4⟩ := h
      have hq : q ≠ p := fun z => n.2.2.2.2 i _ e rfl (by rw [e1, z])
      exact ⟨q, ws, rfl, h1, h2, by rw [upd_ne hq]; exact h3, h4⟩
    | ownD kds =>
      obtain ⟨q, ob, ks, rfl, h1, h2, h3, h4⟩ := h
      have hq : q ≠ p := fun z => n.2.2.2.2 i _ e rfl (by rw [e1, z])
      exact ⟨q, ob, ks, rfl, h1, h2, by rw [upd_ne hq]; exact h3, h4⟩
    | tag m => exact h
    | fre d => exact h
    | ownF ds =>
      obtain ⟨q, ws, rfl, h1, h2, h3, h4⟩ := h
      have hq : q ≠ p := fun z => n.2.2.2.2 i _ e rfl (by rw [e1, z])
      exact ⟨q, ws, rfl, h1, h2, by rw [upd_ne hq]; exact h3, h4⟩
theorem New.grow {p : Addr} {xs ys : List V} (n : New K C G H σ r p xs) (ok : Ok K C G H σ r) : Ok K C G (upd H p (.lst ys)) σ r ∧ New K C G (upd H p (.lst ys)) σ r p ys := NewX.grow n ok
end
/-- what is asked of the place where code runs -/
structure Pl (X : Cx) : Prop where
  calm : X.calm = true
  nd : X.N.Nodup
  units : X.A.units + 100 < cLine
  guards : X.A.guards = some []
  own : PassesOwn (model X.prog X.w) X.A X.env X.xe
theorem Pl.blk {X : Cx} (pl : Pl X) {s : Shared} {H : Hp} {scope : Scope} {ce : PySem.Env} {fp : List Addr} : Pl (X.blk s H scope ce fp) := ⟨pl.calm, pl.nd, pl.units, pl.guards, PassesOwn.never⟩
section
variable {X : Cx} {tg e elt iter : Expr} {ifs : List Expr} {scope : Scope} {own : List (Str × Nat)} {src : FA} {A : FG} {L : List Nat} {t : FT} {f : FE} {pos spos : Pos} {p : Bool}
abbrev STs (X : Cx) (ifs : List Expr) (f : FT) : Prop := PTs X ifs (tT X.K false f)
theorem PTs.weak {ifs : List Expr} {t t' : TT} (h : PTs X ifs t) (w : ∀ σ H Q, t' σ H Q → t σ H Q) : PTs X ifs t' := ⟨fun pins s σ H Q I q => h.run pins s σ H Q I (w σ H Q q)⟩
theorem sts_nil : STs X [] gYes := PTs.weak pts_nil fun σ H Q ⟨C, G, r, d, r', ok, hf, k⟩ => by cases hf; exact k G H ok (Same.refl _) (fun m => by cases m)
theorem st_imp {t : FT} (h : ST X true e t) : ST X p e t := PT.weak h fun σ H Q ⟨C, G, r, d, r', ok, hf, k⟩ => ⟨C, G, r, d, r', ok, hf, fun G' H' o s m => k G' H' o s (fun _ => m rfl)⟩
theorem st_any {t : FT} (h : ST X p e t) : ST X false e t := PT.weak h fun σ H Q ⟨C, G, r, d, r', ok, hf, k⟩ => ⟨C, G, r, d, r', ok, hf, fun G' H' o s m => k G' H' o s (fun q => by cases q)⟩
theorem se_any {f : FE} (h : SE X p e f) : SE X false e f := PE.weak h fun σ H Q ⟨C, G, r, d, r', ok, hf, k⟩ => ⟨C, G, r, d, r', ok, hf, fun v G' H' o s m x => k v G' H' o s (fun q => by cases q) x⟩
theorem sts_one {c : Expr} (h : ST X p c t) : STs X [c] t := pts_one (st_any h)
/-- the reading of a comprehension -/
theorem t_lc {vs : List Nat} (hL : ∀ i ∈ L, i ∈ vs) {σ : L2.St} {H : Hp} {Q : VK} (h : tL X.K false (lLc src vs A t f) σ H Q) : tLc (tI X.K src) (tG X.K A L) (tT X.K false t) (tE X.K false f) vs σ H Q := by
  obtain ⟨C, G, r, ds', r', ok, hf, k⟩ := h
  unfold lLc at hf
  obtain ⟨⟨ds, r0⟩, h1, h2⟩ := Option.bind_eq_some_iff.mp hf
  obtain ⟨⟨zs, rz⟩, h3, h4⟩ := Option.bind_eq_some_iff.mp h2
  split at h4
  · rename_i hz
    cases h4
    refine ⟨C, G, r, ds, r0, ok, h1, fun J G1 H1 o1 s1 tn => fun d hd => ?_⟩
    obtain ⟨oD, nD⟩ := o1.newList (vs := []) hd
    have f1 : C.P d = none := (o1.fresh hd).1
    have f2 : d ∉ C.M := (o1.fresh hd).2.1
    have f3 : C.G0 d = none := by
      cases q : C.G0 d with
      | none => rfl
      | some u => rw [o1.sub _ _ (o1.g0 _ _ q)] at hd; cases hd
    -- what holds between two turns
    refine ⟨fun i m H => ∃ G' r' acc us, Ok X.K (C.hold d us) G' H (wipe σ vs) (wipeE r' vs) ∧ Same G1 G' ∧ DpAll X.K G' us acc ∧ m = ds.length - i ∧ i ≤ ds.length ∧ ∃ ys, lcF vs A t f (ds.drop i) r' = some (ys, rz) ∧ acc ++ ys = zs,
      ⟨_, G1, r0, [], [], (oD.hold nD).wipe vs, Same.refl _, .nil, rfl, Nat.zero_le _, zs, h3, rfl⟩, ?_⟩
    rintro i m H ⟨G', r', acc, us, ok', sg, hu, rfl, hi, ys, hy, hz'⟩
    obtain ⟨go, stop⟩ := tn i G' H sg ok'.sub
    by_cases hlt : i < ds.length
    · refine .inr ?_
      have e : ds.drop i = ds[i] :: ds.drop (i + 1) := List.drop_eq_getElem_cons hlt
      rw [e] at hy
      obtain ⟨g1, g2⟩ := go ds[i] (List.getElem?_eq_getElem hlt)
      refine ⟨g1, fun H => ∃ G' r' acc us, Ok X.K (C.hold d us) G' H (wipe σ vs) (wipeE r' vs) ∧ Same G1 G' ∧ DpAll X.K G' us acc ∧ ∃ ys, lcF vs A t f (ds.drop (i + 1)) r' = some (ys, rz) ∧ acc ++ ys = zs, fun H' ⟨G2, r2, a, u, q1, q2, q3, q4⟩ => ⟨_, Nat.sub_lt_sub_left hlt (Nat.lt_succ_self i), G2, r2, a, u, q1, q2, q3, rfl, hlt, q4⟩, fun x H3 y => ?_⟩
      obtain ⟨m3, G3, s3, s3', n3, dx⟩ := g2 x H3 y
      have ok3 := ok'.calm s3 m3 s3' n3
      obtain ⟨r2, h5, h6⟩ := Option.bind_eq_some_iff.mp (show (A ds[i] (wipeE r' vs)).bind _ = some (ys, rz) from hy)
      obtain ⟨⟨b, r3⟩, h7, h8⟩ := Option.bind_eq_some_iff.mp h6
      refine ⟨_, G3, _, _, r2, ok3, dx, h5, fun σ2 ok4 w4 => ?_⟩
      have wv : wipe σ2 vs = wipe σ vs := by
        rw [w4 vs hL]
        have : ∀ (ws : List Nat), (∀ i ∈ ws, i ∈ vs) → wipe (wipe σ ws) vs = wipe σ vs := by
          intro ws
          induction ws with
          | nil => intro _; rfl
          | cons j js ih =>
            intro hj
            show wipe ((wipe σ js).set j none) vs = _
            rw [wipe_set (hj j List.mem_cons_self), ih fun i hi => hj i (List.mem_cons_of_mem _ hi)]
        exact this vs fun i hi => hi
      refine ⟨wv, _, G3, r2, b, r3, ok4, h7, fun G5 H5 ok5 s5 _ => ?_⟩
      cases b with
      | false =>
        rw [if_neg Bool.false_ne_true] at h8 ⊢
        have w5 := ok5.wipe vs
        rw [wv] at w5
        exact ⟨G5, r3, acc, us, w5, (sg.trans s3).trans s5, DpAll.mono (s3.trans s5) hu, ys, h8, hz'⟩
      | true =>
        rw [if_pos rfl] at h8 ⊢
        obtain ⟨⟨y1, r4⟩, h9, h10⟩ := Option.bind_eq_some_iff.mp h8
        obtain ⟨⟨ys2, rz2⟩, h11, h12⟩ := Option.map_eq_some_iff.mp h10
        cases h12
        refine ⟨_, G5, r3, y1, r4, ok5, h9, fun v G6 H6 ok6 s6 _ x6 => ?_⟩
        obtain ⟨ok7, n7⟩ := ok6.unhold f1 f2 f3
        have hl : us.length < sizeLine := by
          rw [DpAll.length hu]
          have : acc.length ≤ zs.length := by rw [← hz', List.length_append]; omega
          exact Nat.lt_of_le_of_lt this hz
        refine ⟨us, n7.2.2.2.1, hl, ?_⟩
        obtain ⟨ok8, n8⟩ := n7.grow ok7 (ys := us ++ [v])
        have w9 := (ok8.hold n8).wipe vs
        rw [wv] at w9
        refine ⟨G6, r4, acc ++ [y1], us ++ [v], w9, ((sg.trans s3).trans s5).trans s6, DpAll.append (DpAll.mono ((s3.trans s5).trans s6) hu) (.cons x6 .nil), ys2, h11, ?_⟩
        rw [List.append_assoc]
        exact hz'
    · have e : ds.length = i := by omega
      refine .inl ⟨stop (by omega), ?_⟩
      rw [← e, List.drop_length] at hy
      cases hy
      rw [List.append_nil] at hz'
      subst hz'
      obtain ⟨ok7, n7⟩ := ok'.unhold f1 f2 f3
      have ok8 := Ok.back0 o1 sg ok7
      refine k d us G' H ok8 (s1.trans sg) (fun m => by cases m) ⟨f1, f2, n7.2.2.1, n7.2.2.2.1, fun j c e o z => ?_⟩ hu
      have : (C.hold d us).P d = some (.lst us) := upd_same
      obtain ⟨v, e1, hc⟩ := ok8.cell j c e
      rw [e1] at z; cases z
      have hj : j ∉ vs := fun hj => by
        rcases backE_some e with ⟨a, b⟩ | ⟨a, b, _⟩
        · exact a hj
        · rw [o] at b; cases b
      rcases backE_some e with ⟨a, b⟩ | ⟨a, _⟩
      · exact n7.2.2.2.2 j c b o (by rw [wipe_off hj]; exact e1)
      · exact hj a
  · cases h4
theorem sl_lc (pl : Pl X) (hi : SI X tg iter src) (ok : BlkOk X.N X.env.scope scope own) (hL : ∀ i ∈ L, i ∈ own.map (·.2))
    (hg : ∀ (s : Shared) (H : Hp) (C : Addr) (cl : List (Str × Addr)) (fp : List Addr), Pl (X.blk s H scope (compEnvC scope cl C X.env) fp) → SG (X.blk s H scope (compEnvC scope cl C X.env) fp) tg A L) (ht : ∀ (s : Shared) (H : Hp) (C : Addr) (cl : List (Str × Addr)) (fp : List Addr), Pl (X.blk s H scope (compEnvC scope cl C X.env) fp) → STs (X.blk s H scope (compEnvC scope cl C X.env) fp) ifs t)
    (he : ∀ (s : Shared) (H : Hp) (C : Addr) (cl : List (Str × Addr)) (fp : List Addr), Pl (X.blk s H scope (compEnvC scope cl C X.env) fp) → SE (X.blk s H scope (compEnvC scope cl C X.env) fp) false elt f) (hs : ∀ x, foldedSetIterable iter X.env x = pure x := by intro _; rfl) :
    SL X false (.ListComp elt [⟨tg, iter, ifs, 0⟩] scope pos) (lLc src (own.map (·.2)) A t f) := PE.weak (pe_lc pl.calm pl.nd hi ok (fun s H C cl fp => hg s H C cl fp pl.blk) (fun s H C cl fp => ht s H C cl fp pl.blk) (fun s H C cl fp => he s H C cl fp pl.blk) hs) fun σ H Q h => t_lc hL h
/-- x = [..] -/
theorem ss_lcO {i : Nat} {y : Str} {py : Pos} (pl : Pl X) (hy : X.N[i]? = some y) (hyl : X.env.scope.names.lookup y = some .local) (hsw : swapsWith (.ListComp elt [⟨tg, iter, ifs, 0⟩] scope pos) (some (.Name y py)) spos.line X.env = pure true) (hi : SI X tg iter src) (ok : BlkOk X.N X.env.scope scope own) (hL : ∀ i ∈ L, i ∈ own.map (·.2))
    (hg : ∀ (s : Shared) (H : Hp) (C : Addr) (cl : List (Str × Addr)) (fp : List Addr), Pl (X.blk s H scope (compEnvC scope cl C X.env) fp) → SG (X.blk s H scope (compEnvC scope cl C X.env) fp) tg A L) (ht : ∀ (s : Shared) (H : Hp) (C : Addr) (cl : List (Str × Addr)) (fp : List Addr), Pl (X.blk s H scope (compEnvC scope cl C X.env) fp) → STs (X.blk s H scope (compEnvC scope cl C X.env) fp) ifs t)
    (he : ∀ (s : Shared) (H : Hp) (C : Addr) (cl : List (Str × Addr)) (fp : List Addr), Pl (X.blk s H scope (compEnvC scope cl C X.env) fp) → SE (X.blk s H scope (compEnvC scope cl C X.env) fp) false elt f) (hs : ∀ x, foldedSetIterable iter X.env x = pure x := by intro _; rfl) :
    SS X (.Assign [.Name y py] (.ListComp elt [⟨tg, iter, ifs, 0⟩] scope pos) spos) (sSetO i (lLc src (own.map (·.2)) A t f)) := PS.weak (ps_setLc pl.calm pl.nd hy hyl hsw hi ok (fun s H C cl fp => hg s H C cl fp pl.blk) (fun s H C cl fp => ht s H C cl fp pl.blk) (fun s H C cl fp => he s H C cl fp pl.blk) hs) fun E σ H ⟨C, G, r, o, okk, hf, k⟩ => by
  unfold sSetO at hf
  obtain ⟨⟨d, r1⟩, h1, h2⟩ := Option.map_eq_some_iff.mp hf
  cases h2
  exact t_lc hL ⟨C, G, r, d, r1, okk, h1, fun l vs G' H' o' s m n x => k _ G' H' (o'.setO n x) s⟩
theorem ss_lc {i : Nat} {y : Str} {py : Pos} (pl : Pl X) (hy : X.N[i]? = some y) (hyl : X.env.scope.names.lookup y = some .local) (hsw : swapsWith (.ListComp elt [⟨tg, iter, ifs, 0⟩] scope pos) (some (.Name y py)) spos.line X.env = pure true) (hi : SI X tg iter src) (ok : BlkOk X.N X.env.scope scope own) (hL : ∀ i ∈ L, i ∈ own.map (·.2))
    (hg : ∀ (s : Shared) (H : Hp) (C : Addr) (cl : List (Str × Addr)) (fp : List Addr), Pl (X.blk s H scope (compEnvC scope cl C X.env) fp) → SG (X.blk s H scope (compEnvC scope cl C X.env) fp) tg A L) (ht : ∀ (s : Shared) (H : Hp) (C : Addr) (cl : List (Str × Addr)) (fp : List Addr), Pl (X.blk s H scope (compEnvC scope cl C X.env) fp) → STs (X.blk s H scope (compEnvC scope cl C X.env) fp) ifs t)
    (he : ∀ (s : Shared) (H : Hp) (C : Addr) (cl : List (Str × Addr)) (fp : List Addr), Pl (X.blk s H scope (compEnvC scope cl C X.env) fp) → SE (X.blk s H scope (compEnvC scope cl C X.env) fp) false elt f) (hs : ∀ x, foldedSetIterable iter X.env x = pure x := by intro _; rfl) :
    SS X (.Assign [.Name y py] (.ListComp elt [⟨tg, iter, ifs, 0⟩] scope pos) spos) (sSet i (fL (lLc src (own.map (·.2)) A t f))) := PS.weak (ps_setLc pl.calm pl.nd hy hyl hsw hi ok (fun s H C cl fp => hg s H C cl fp pl.blk) (fun s H C cl fp => ht s H C cl fp pl.blk) (fun s H C cl fp => he s H C cl fp pl.blk) hs) fun E σ H ⟨C, G, r, o, okk, hf, k⟩ => by
  unfold sSet fL at hf
  obtain ⟨⟨d, r1⟩, h1, h2⟩ := Option.map_eq_some_iff.mp hf
  cases h2
  obtain ⟨⟨ds, r2⟩, h3, h4⟩ := Option.map_eq_some_iff.mp h1
  cases h4
  exact t_lc hL ⟨C, G, r, ds, _, okk, h3, fun l vs G' H' o' s m n x => k _ (upd G' l (.lst vs)) H' ((n.freeze o').setV (.lst (.inl (.inl upd_same)) (DpAll.mono (same_laid n.2.2.1) x))) (s.trans (same_laid n.2.2.1))⟩
end
end SL
namespace SL
open PySem PySem.Spec PyProof.Rows L2
/-! ### the list of a slot is changed -/
/-- the list in a slot, and the slot with another list -/
@[simp] def listAt (i : Nat) (r : Ev) : Option (List D × (List D → Ev)) := match r[i]? with
  | some (some (.own ds)) => some (ds, fun es => r.set i (some (.own es)))
  | some (some (.loan k ds)) => some (ds, fun es => r.set i (some (.loan k es)))
  | _ => none
theorem Ok.listAt {K : PySem.W.Frag} {C : Ctx} {G H : Hp} {σ : L2.St} {r : Ev} {i : Nat} {ds : List D} {put : List D → Ev} (ok : Ok K C G H σ r) (h : listAt i r = some (ds, put)) : ∃ p vs, σ[i]? = some (some (.ref p)) ∧ G p = none ∧ H p = some (.lst vs) ∧ DpAll K G vs ds ∧
    ∀ vs' es, DpAll K G vs' es → Ok K C G (upd H p (.lst vs')) σ (put es) := by
  unfold SL.listAt at h
  split at h
  · rename_i d0 e
    cases h
    obtain ⟨v, e1, p, vs, rfl, h1, h2, h3, h4⟩ := ok.cell i _ e
    exact ⟨p, vs, e1, h2, h3, h4, fun vs' es hd => ok.write e rfl e1 h2 h3 (.inl h1.1) ⟨p, vs', rfl, h1, h2, upd_same, hd⟩ rfl⟩
  · rename_i k d0 e
    cases h
    obtain ⟨v, e1, p, vs, rfl, h1, h2, h3, h4⟩ := ok.cell i _ e
    exact ⟨p, vs, e1, h2, h3, h4, fun vs' es hd => ok.write e rfl e1 h2 h3 (.inr (List.mem_of_getElem? h1)) ⟨p, vs', rfl, h1, h2, upd_same, hd⟩ rfl⟩
  · cases h
section
variable {X : Cx} {e a b : Expr} {es : List Expr} {f fa fb : FE} {g : FA} {pu p q : Bool} {pos pp : Pos} {x : Str} {F F' : FS}
/-- x.append(e) -/
def sApp (i : Nat) (f : FE) : FS := fun r => (listAt i r).bind fun _ => (f r).bind fun y => (listAt i y.2).bind fun z => if z.1.length < sizeLine then some (.nx (z.2 (z.1 ++ [y.1]))) else none
@[simp] theorem sApp_r (i : Nat) (f : FE) (r : Ev) : sApp i f r = (listAt i r).bind fun _ => (f r).bind fun y => (listAt i y.2).bind fun z => if z.1.length < sizeLine then some (.nx (z.2 (z.1 ++ [y.1]))) else none := rfl
theorem ss_app {i : Nat} {px pa : Pos} (hcall : PE X (.Call (.Attribute (.Name x px) "append" pa) [e] [] pp) (tBM X.K "list" rAppend (tVar i) (tCons (tE X.K p f) tNil)))
    (hs : swapsWith (.Call (.Attribute (.Name x px) "append" pa) [e] [] pp) none pos.line X.env = pure false := by rfl) : SS X (.Expr (.Call (.Attribute (.Name x px) "append" pa) [e] [] pp) pos) (sApp i f) :=
  PS.weak (ps_expr hcall hs) fun E σ H ⟨C, G, r, o, ok, hf, k⟩ => by
    unfold sApp at hf
    obtain ⟨⟨d0, p0⟩, h0, hf⟩ := Option.bind_eq_some_iff.mp hf
    obtain ⟨⟨d, r1⟩, h1, hf⟩ := Option.bind_eq_some_iff.mp hf
    obtain ⟨⟨ds, put⟩, h2, hf⟩ := Option.bind_eq_some_iff.mp hf
    split at hf
    · rename_i hz
      cases hf
      obtain ⟨l, vs, e1, _, e2, _, _⟩ := ok.listAt h0
      refine ⟨_, e1, .inl ⟨rfl, _, .inl (.inl e2)⟩, C, G, r, d, r1, ok, h1, fun v G1 H1 o1 s1 m1 x1 => ?_⟩
      obtain ⟨l', vs', e1', _, e2', e3', k'⟩ := o1.listAt h2
      rw [e1] at e1'
      cases e1'
      exact ⟨l, vs', v, rfl, rfl, e2', by rw [DpAll.length e3']; exact hz, k σ G1 _ (k' _ _ (DpAll.append e3' (.cons x1 .nil))) s1⟩
    · cases hf
/-- x[i] = e -/
def sPut (i : Nat) (fi f : FE) : FS := fun r => (f r).bind fun y => (listAt i y.2).bind fun _ => match fi y.2 with
  | some (.int k, r2) => (listAt i r2).bind fun z => (ixN z.1.length k).map fun j => .nx (z.2 (z.1.set j y.1))
  | _ => none
@[simp] theorem sPut_r (i : Nat) (fi f : FE) (r : Ev) : sPut i fi f r = (f r).bind fun y => (listAt i y.2).bind fun _ => match fi y.2 with
  | some (.int k, r2) => (listAt i r2).bind fun z => (ixN z.1.length k).map fun j => .nx (z.2 (z.1.set j y.1))
  | _ => none := rfl
theorem ss_put (i : Nat) {px pa : Pos} {ix : Expr} {fi : FE} (he : SE X p e f) (hi : SE X q ix fi) (hN : X.N[i]? = some x := by rfl) (hv : Vis X.env.scope x := by first | exact Or.inl rfl | exact Or.inr (Or.inl rfl) | exact Or.inr (Or.inr rfl)) (hd : (x == ("__debug__" : Str)) = false := by decide) (hcd : (x == ("__classdict__" : Str)) = false := by decide)
    (ha : ∀ v, assign (.Subscript (.Name x px) ix pa) X.env v = (do
      let ov ← holding [v] (eval (.Name x px) X.env)
      let iv ← holding [v, ov] (eval ix X.env)
      standAt pa
      holding [v, ov, iv] (setItem ov iv v)
      release [v, ov, iv] []) := by intro _; rfl)
    (hs : swapsWithSole [.Subscript (.Name x px) ix pa] e pos.line X.env = pure false := by rfl) (hw : swappedStores [.Subscript (.Name x px) ix pa] e X.env = pure none := by rfl) (h1 : (assignEach [.Subscript (.Name x px) ix pa] X.env).map (·.2) = [assign (.Subscript (.Name x px) ix pa) X.env] := by rfl) :
    SS X (.Assign [.Subscript (.Name x px) ix pa] e pos) (sPut i fi f) :=
  PS.weak (ps_asg he (pg_sub (pe_var hN hv hd hcd) hi set_list ha) hs hw h1) fun E σ H ⟨C, G, r, o, ok, hf, k⟩ => by
    unfold sPut at hf
    obtain ⟨⟨d, r1⟩, h1, hf⟩ := Option.bind_eq_some_iff.mp hf
    obtain ⟨⟨d0, p0⟩, h0, hf⟩ := Option.bind_eq_some_iff.mp hf
    split at hf
    · rename_i kk r2 h2
      obtain ⟨⟨ds, put⟩, h3, hf⟩ := Option.bind_eq_some_iff.mp hf
      obtain ⟨j, h4, h5⟩ := Option.map_eq_some_iff.mp hf
      cases h5
      refine ⟨C, G, r, d, r1, ok, h1, fun v G1 H1 o1 s1 m1 x1 => ?_⟩
      obtain ⟨l, vs, e1, _, e2, _, _⟩ := o1.listAt h0
      refine ⟨_, e1, C, G1, r1, _, r2, o1, h2, fun w G2 H2 o2 s2 m2 x2 => ?_⟩
      cases x2
      obtain ⟨l', vs', e1', _, e2', e3', k'⟩ := o2.listAt h3
      rw [e1] at e1'
      cases e1'
      exact ⟨l, vs', kk, j, rfl, rfl, e2', by rw [DpAll.length e3']; exact h4, k σ G2 _ (k' _ _ (DpAll.set (Dp.mono s2 x1) j e3')) (s1.trans s2)⟩
    · cases hf
/-- x += e -/
def sAug (i : Nat) (g : D → D → Option D) (f : FE) : FS := fun r => match r[i]? with
  | some (some (.val d)) => (f r).bind fun y => (g d y.1).map fun z => .nx (y.2.set i (some (.val z)))
  | _ => none
@[simp] theorem sAug_r (i : Nat) (g : D → D → Option D) (f : FE) (r : Ev) : sAug i g f r = match r[i]? with
  | some (some (.val d)) => (f r).bind fun y => (g d y.1).map fun z => .nx (y.2.set i (some (.val z)))
  | _ => none := rfl
theorem ss_aug {i : Nat} {op : Operator} {ti : TIp} {g : D → D → Option D} {px : Pos} (hN : X.N.Nodup) (hi : X.N[i]? = some x) (hx : Loc X.env.scope x) (he : SE X p e f) (ho : PIp X op ti) (o : Op2 X.K ti g) (hf : X.fn x = true ∨ X.env.scope.names.lookup x = some .local := by first | exact .inl rfl | exact .inr rfl | assumption) :
    SS X (.AugAssign (.Name x px) op e pos) (sAug i g f) := PS.weak (ps_aug hN hi hx he ho hf) fun E σ H ⟨C, G, r, oo, ok, hf, k⟩ => by
  unfold sAug at hf
  split at hf
  · rename_i d e0
    obtain ⟨⟨y, r1⟩, h1, h2⟩ := Option.bind_eq_some_iff.mp hf
    obtain ⟨z, h3, h4⟩ := Option.map_eq_some_iff.mp h2
    cases h4
    obtain ⟨v, e1, hv⟩ := ok.cell i _ e0
    refine ⟨v, e1, C, G, r, y, r1, ok, h1, fun w G1 H1 o1 s1 m1 x1 => ?_⟩
    refine o G1 H1 v w d y z _ o1.sub (.inl (Dp.mono s1 hv)) (.inl x1) h3 (o1.back fun v3 G3 H3 o3 s3 m3 x3 => ?_)
    exact k _ G3 H3 (o3.setV x3) (s1.trans s3)
  · cases hf
@[simp] def iaddD : D → D → Option D
  | .int i, .int j => some (.int (i + j))
  | _, _ => none
theorem o_iadd {K : PySem.W.Frag} : Op2 K (rI0 fun i j => .int (i + j)) iaddD := fun G H x y dx dy dz Q s hx hy e bk => by
  unfold iaddD at e
  split at e
  · cases e; exact ⟨_, _, hx.int, hy.int, bk.val s (.int _)⟩
  · cases e
end
/-! ### what a def promises -/
/-- a value for data -/
def spP (K : PySem.W.Frag) (n : Nat) (fn : List D → Option D) : Sp := fun vs H Q E => ∃ G ds d, Same G H ∧ DpAll K G vs ds ∧ vs.length = n ∧ fn ds = some d ∧ Back K G H d Q
/-- a new list for data -/
def BackO (K : PySem.W.Frag) (G H : Hp) (ds : List D) (Q : VK) : Prop := ∀ p vs G' H', Same G G' → Same H H' → Same G' H' → (∀ a o, G' a = some o → G a = some o ∨ H a = none) → H p = none → G' p = none → H' p = some (.lst vs) → DpAll K G' vs ds → Q (.ref p) H'
def spO (K : PySem.W.Frag) (n : Nat) (fn : List D → Option (List D)) : Sp := fun vs H Q E => ∃ G ds d, Same G H ∧ DpAll K G vs ds ∧ vs.length = n ∧ fn ds = some d ∧ BackO K G H d Q
/-- a value, where the first argument's list is changed -/
def BackM (K : PySem.W.Frag) (G H : Hp) (p : Addr) (d : D) (xs : List D) (Q : VK) : Prop := ∀ v G' H' us, Same G G' → (∀ a o, a ≠ p → H a = some o → H' a = some o) → Same G' H' → (∀ a o, G' a = some o → G a = some o ∨ H a = none) → H' p = some (.lst us) → DpAll K G' us xs → Dp K G' v d → Q v H'
def spM (K : PySem.W.Frag) (n : Nat) (fn : List D → List D → Option (D × List D)) : Sp := fun vs H Q E => ∃ G p us xs ws ds d xs', vs = .ref p :: ws ∧ Same G H ∧ G p = none ∧ H p = some (.lst us) ∧ DpAll K G us xs ∧ DpAll K G ws ds ∧ ws.length = n ∧ fn xs ds = some (d, xs') ∧ BackM K G H p d xs' Q
structure FnG (P : Program) (w : World) (K : PySem.W.Frag) (mg : Str → Option Value) (base : Heap) (CX : CXT) (k : Nat) (f : Addr) (fd : FuncData) (ps : List Str) (sp : Sp) : Prop where
  len : ∀ vs H Q E, sp vs H Q E → vs.length = ps.length
  run : ∀ (A : Around) (out : List PySem.Env) (s : Shared) (H : Hp) (as : Args) (us : List Value) (vs : List V) (Q : VK) (E : XK), Room k A → A.guards = some [] → Env0 P w K mg base A out s H →
    BindsTo s fd as (ps.zip us) → Vals vs us → sp vs H Q E → codeAny (model P w) A (.call (.ref f) as) (CR CX out P w H s Q E) s
section
variable {P : Program} {w : World} {K : PySem.W.Frag} {mg : Str → Option Value} {base : Heap} {CX : CXT} {k : Nat} {f : Addr} {fd : FuncData} {ps : List Str} {sp sp' : Sp}
theorem FnG.imp (F : FnG P w K mg base CX k f fd ps sp) (h : ∀ vs H Q E, sp' vs H Q E → sp vs H Q E) : FnG P w K mg base CX k f fd ps sp' :=
  ⟨fun vs H Q E q => F.len vs H Q E (h _ _ _ _ q), fun A out s H as us vs Q E hr hg e0 hb rv q => F.run A out s H as us vs Q E hr hg e0 hb rv (h _ _ _ _ q)⟩
theorem FnG.up {j : Nat} (F : FnG P w K mg base CX j f fd ps sp) (h : j ≤ k) : FnG P w K mg base CX k f fd ps sp :=
  ⟨F.len, fun A out s H as us vs Q E hr => F.run A out s H as us vs Q E (hr.mono h)⟩
/-- a def's body keeps its promise -/
theorem FnG.ofD {x qual : Str} {params : Arguments} {body : List Stmt} {scope : Scope} {dvs : List V} {kws : List (Str × V)} {N : List Str} (F : FunD K x qual params body scope dvs kws f fd) (S : FnScope N ps scope) (len : ∀ vs H Q E, sp vs H Q E → vs.length = ps.length)
    (hbody : ∀ (cv : Value) (A : Around) (out : List PySem.Env) (s : Shared) (H : Hp) (vs : List V) (Q : VK) (E : XK), Room k (A.deeper (envOfC qual scope s.heap.objs.size f cv)) → A.guards = some [] → sp vs H Q E →
      ∃ t, PSs (cxOf CX P w K mg base N qual scope f cv A out s H E) body t ∧ t { nx := fun _ H' => Q .non H', rt := Q } (start N vs) H) : FnG P w K mg base CX (k + 1) f fd ps sp := by
  obtain ⟨oc, od, dV, kV, doc, pm, an, cv, ct, osl, rfl, lk, hcd, _, _⟩ := F.ex
  refine ⟨len, ?_⟩
  intro A out s H as us vs Q E hr hg e0 hb rv q
  have hin : K.In s.heap := e0.mod.kin.keeps (fun b o z => (e0.bs b o z).1)
  have hno : s.heap.NoLimit := e0.mod.nolimit.keeps (fun b o z => (e0.bs b o z).1)
  have kinds : ∀ y ∈ ps.zip us, scope.names.lookup y.1 = some .local ∨ (scope.names.lookup y.1 = some .cell ∧ ((cellsFrom (s.heap.objs.size + 1) scope.names []).lookup y.1).isSome = true) := by
    rintro ⟨n, v⟩ hy
    refine (S.par n (List.of_mem_zip hy).1).imp id (fun z => ⟨z, ?_⟩)
    exact PySem.W.cellsFrom_some _ _ _ (.inl z)
  apply codeAny_call_function hr.depth (hin _ _ lk) rfl S.co S.gen rfl (PySem.W.codeRec_of hin hcd)
  apply hb
  apply wpAny_newFunctionEnv_cells S.kind kinds
  rintro env rfl s1 ic
  refine ⟨hno.keeps ic.toInCall.keep, codeAny_func ?_⟩
  obtain ⟨t, ht, hq⟩ := hbody cv A out s H vs Q E (hr.deeper _) hg q
  have I := inv_start (CX := CX) (E := E) S hr.hd e0 (len _ _ _ _ q) rv ic
  apply wpAny_mono (ht.run [] s1 (start N vs) H _ I hq)
  · intro fl s' hs
    cases fl with
    | next =>
      obtain ⟨σ2, H2, J, z⟩ := hs
      exact ⟨.non, H2, J.os, J.bare, J.base, J.hok, rfl, z⟩
    | ret u =>
      obtain ⟨v2, σ2, H2, J, rz, z⟩ := hs
      exact ⟨v2, H2, J.os, J.bare, J.base, J.hok, rz, z⟩
    | brk => exact hs.choose_spec.choose_spec.2.elim
    | cont => exact hs.choose_spec.choose_spec.2.elim
  · exact fun e s' hs => hs
end
section
variable {X : Cx} {CX : CXT} {k : Nat} {f : Addr} {fd : FuncData} {ps : List Str} {sp : Sp} {dvs : List V} {ds : List Value} {E : XK} {x : Str} {p q : Bool} {pp pos : Pos} {e : Expr} {es : List Expr} {t : TA} {g : FA}
theorem run_G {pins : List (Addr × Obj)} {σ : L2.St} {H : Hp} {s : Shared} {Q : VK} {us : List Value} {vs : List V} (F : FnG X.prog X.w X.K X.mg X.base CX k f fd ps sp) (hr : Room k X.A) (hgd : X.A.guards = some []) (hb : Binds X.K fd ps ds) (hd : Vals dvs ds) (hx : Passes CX X E)
    (I : Inv X pins σ H s) (rv : Vals vs us) (h : sp (vs ++ dvs) H Q E) : wpAny (model X.prog X.w) X.A (call (.ref f) us) (EP X pins σ Q) X.xe s := by
  have hl : (us ++ ds).length = ps.length := (Vals.length (rv.append hd)).symm.trans (F.len _ _ _ _ h)
  apply wpAny_call
  apply codeAny_mono (F.run X.A X.stack s H ⟨us, []⟩ (us ++ ds) (vs ++ dvs) Q E hr hgd I.env0 (hb s us I.kIn hl) (rv.append hd) h)
  intro r s' hq
  cases r with
  | error e => exact hx pins σ H s e s' I hq
  | ok fl =>
    cases fl with
    | ret u => exact I.after hq
    | next => cases hq
    | brk => cases hq
    | cont => cases hq
theorem pe_callG (F : FnG X.prog X.w X.K X.mg X.base CX k f fd ps sp) (hr : Room k X.A) (hgd : X.A.guards = some []) (hg : Gl X x) (hm : X.mg x = some (.ref f)) (hk : PySem.W.keepIn X.K (.ref f) = true) (hb : Binds X.K fd ps ds) (hd : Vals dvs ds) (hx : Passes CX X E)
    (ha : PA X (e :: es) t) (hdb : (x == ("__debug__" : Str)) = false := by decide) (he : starEach (e :: es) X.env = (false, eval e X.env) :: starEach es X.env := by rfl) (hpl : (backTo pos (starEach es X.env)).any (·.1) = false := by rfl) :
    PE X (.Call (.Name x pp) (e :: es) [] pos) (tCall sp dvs E t) := by
  constructor
  intro pins s σ H Q I h
  apply wpAny_Call_Name_kw
  apply ld_glob I hg hm _ hdb
  apply PySem.W.callWith_K (h₀ := X.base) I.ok.mod.kin hk _ he hpl
  exact thn (ha.run pos pins s σ H _ I h) fun us s1 ⟨vs, H1, I1, r1, q1⟩ => ⟨I1.kIn, run_G F hr hgd hb hd hx I1 r1 q1⟩
theorem aNil_len : ∀ (r : Ev) (ds : List D) (r' : Ev), aNil r = some (ds, r') → ds.length = 0 := fun r ds r' h => by cases h; rfl
theorem aCons_len {f : FE} {g : FA} {n : Nat} (hg : ∀ (r : Ev) (ds : List D) (r' : Ev), g r = some (ds, r') → ds.length = n) : ∀ (r : Ev) (ds : List D) (r' : Ev), aCons f g r = some (ds, r') → ds.length = n + 1 := fun r ds r' h => by
  obtain ⟨x, r1, xs, h1, h2, rfl⟩ := aCons_some h
  rw [List.length_cons, hg _ _ _ h2]
/-- a call of a def that gives a value for data -/
def fCall (fn : List D → Option D) (g : FA) : FE := fun r => (g r).bind fun x => (fn x.1).map fun d => (d, x.2)
@[simp] theorem fCall_r (fn : List D → Option D) (g : FA) (r : Ev) : fCall fn g r = (g r).bind fun x => (fn x.1).map fun d => (d, x.2) := rfl
theorem se_call {n : Nat} {fn : List D → Option D} (F : FnG X.prog X.w X.K X.mg X.base CX0 k f fd ps (spP X.K n fn)) (pl : Pl X) (hr : Room k X.A) (hg : Gl X x) (hm : X.mg x = some (.ref f)) (hk : PySem.W.keepIn X.K (.ref f) = true) (hb : Binds X.K fd ps []) (ha : SA X p (e :: es) g) (hlen : ∀ r ds r', g r = some (ds, r') → ds.length = n)
    (hdb : (x == ("__debug__" : Str)) = false := by decide) (he : starEach (e :: es) X.env = (false, eval e X.env) :: starEach es X.env := by rfl) (hpl : (backTo pos (starEach es X.env)).any (·.1) = false := by rfl) :
    SE X p (.Call (.Name x pp) (e :: es) [] pos) (fCall fn g) := PE.weak (pe_callG (dvs := []) F hr pl.guards hg hm hk hb .nil pass0 ha hdb he hpl) fun σ H Q ⟨C, G, r, d, r', ok, hf, kk⟩ => by
  unfold fCall at hf
  obtain ⟨⟨ds, r1⟩, h1, h2⟩ := Option.bind_eq_some_iff.mp hf
  obtain ⟨d', h3, h4⟩ := Option.map_eq_some_iff.mp h2
  cases h4
  refine ⟨C, G, r, ds, _, ok, h1, fun vs G1 H1 o1 s1 m1 x1 => ⟨G1, ds, d, o1.sub, by rw [List.append_nil]; exact x1, ?_, h3, o1.back fun v G2 H2 o2 s2 m2 x2 => kk v G2 H2 o2 (s1.trans s2) (fun m => (m1 m).trans m2) x2⟩⟩
  rw [List.append_nil, DpAll.length x1, hlen _ _ _ h1]
end
end SL
namespace SL
open PySem PySem.Spec PyProof.Rows L2
/-! ### from a body to its promise -/
def startE (m : Nat) (ds : List D) : Ev := ds.map (fun d => some (.val d)) ++ List.replicate (m - ds.length) none
def startM (m : Nat) (xs : List D) (ds : List D) : Ev := some (.loan 0 xs) :: (ds.map (fun d => some (.val d)) ++ List.replicate (m - (ds.length + 1)) none)
@[simp] def endP : Option Out → Option D
  | some (.rt d _) => some d
  | some (.rtO ds _) => some (.list ds)
  | some (.nx _) => some .none
  | some (.rtN d _) => some d
  | _ => none
@[simp] def endO : Option Out → Option (List D)
  | some (.rtO ds _) => some ds
  | _ => none
@[simp] def lent (r : Ev) : Option (List D) := match (r[0]? : Option (Option Cell)) with
  | some (some (.loan 0 xs)) => some xs
  | _ => none
@[simp] def endM : Option Out → Option (D × List D)
  | some (.rt d r) => (lent r).map fun xs => (d, xs)
  | some (.rtO ds r) => (lent r).map fun xs => (.list ds, xs)
  | some (.nx r) => (lent r).map fun xs => (.none, xs)
  | _ => none
def runP (m : Nat) (F : FS) (ds : List D) : Option D := endP (F (startE m ds))
def runO (m : Nat) (F : FS) (ds : List D) : Option (List D) := endO (F (startE m ds))
def runM (m : Nat) (F : FS) (xs : List D) (ds : List D) : Option (D × List D) := endM (F (startM m xs ds))
section
variable {K : PySem.W.Frag} {C : Ctx} {G H G' H' : Hp} {σ : L2.St} {r : Ev}
theorem start_get {N : List Str} {ds : List D} {vs : List V} (h : DpAll K G vs ds) {m i : Nat} {c : Cell} (e : (startE m ds)[i]? = some (some c)) : ∃ d v, c = .val d ∧ (L2.start N vs)[i]? = some (some v) ∧ Dp K G v d := by
  unfold startE at e
  by_cases hi : i < ds.length
  · rw [List.getElem?_append_left (by rw [List.length_map]; exact hi), List.getElem?_map] at e
    obtain ⟨d, h1, h2⟩ := Option.map_eq_some_iff.mp e
    obtain ⟨v, h3, h4⟩ := DpAll.get h h1
    cases h2
    refine ⟨d, v, rfl, ?_, h4⟩
    unfold L2.start
    rw [List.getElem?_append_left (by rw [List.length_map, DpAll.length h]; exact hi), List.getElem?_map, h3]
    rfl
  · rw [List.getElem?_append_right (by rw [List.length_map]; omega)] at e
    obtain ⟨h1, h2⟩ := List.getElem?_eq_some_iff.mp e
    rw [List.getElem_replicate] at h2
    cases h2
theorem Ok.start {N : List Str} {ds : List D} {vs : List V} (s : Same G H) (h : DpAll K G vs ds) (hl : ds.length ≤ N.length) : Ok K { P := H, G0 := G, M := [] } G H (L2.start N vs) (startE N.length ds) where
  sub := s
  g0 := Same.refl _
  gnew := fun a o e => .inl e
  prot := fun a o e _ => e
  mreal := fun a hm => by cases hm
  len := by
    unfold startE L2.start
    rw [List.length_append, List.length_map, List.length_replicate, List.length_append, List.length_map, List.length_replicate, DpAll.length h]
  cell := fun i c e => by
    obtain ⟨d, v, rfl, h1, h2⟩ := start_get (N := N) h e
    exact ⟨v, h1, h2⟩
  dis := fun i j c c' e1 _ o1 _ => by
    obtain ⟨d, v, rfl, _⟩ := start_get (N := N) h e1
    cases o1
theorem Ok.startM {N : List Str} {ds xs : List D} {ws us : List V} {p : Addr} (s : Same G H) (h : DpAll K G ws ds) (hl : ds.length + 1 ≤ N.length) (hG : G p = none) (hH : H p = some (.lst us)) (hx : DpAll K G us xs) :
    Ok K { P := H, G0 := G, M := [p] } G H (L2.start N (.ref p :: ws)) (SL.startM N.length xs ds) := by
  have hst : L2.start N (.ref p :: ws) = some (.ref p) :: (ws.map some ++ List.replicate (N.length - (ws.length + 1)) none) := rfl
  have get : ∀ {i : Nat} {c : Cell}, (SL.startM N.length xs ds)[i]? = some (some c) → (i = 0 ∧ c = .loan 0 xs) ∨ ∃ d v, c = .val d ∧ (L2.start N (.ref p :: ws))[i]? = some (some v) ∧ Dp K G v d := fun {i c} e => by
    cases i with
    | zero =>
      have e' : some (some (Cell.loan 0 xs)) = some (some c) := e
      cases e'
      exact .inl ⟨rfl, rfl⟩
    | succ j =>
      have e' : (ds.map (fun d => some (Cell.val d)) ++ List.replicate (N.length - (ds.length + 1)) none)[j]? = some (some c) := e
      by_cases hi : j < ds.length
      · rw [List.getElem?_append_left (by rw [List.length_map]; exact hi), List.getElem?_map] at e'
        obtain ⟨d, h1, h2⟩ := Option.map_eq_some_iff.mp e'
        obtain ⟨v, h3, h4⟩ := DpAll.get h h1
        cases h2
        refine .inr ⟨d, v, rfl, ?_, h4⟩
        rw [hst, List.getElem?_cons_succ, List.getElem?_append_left (by rw [List.length_map, DpAll.length h]; exact hi), List.getElem?_map, h3]
        rfl
      · rw [List.getElem?_append_right (by rw [List.length_map]; omega)] at e'
        obtain ⟨h1, h2⟩ := List.getElem?_eq_some_iff.mp e'
        rw [List.getElem_replicate] at h2
        cases h2
  refine ⟨s, Same.refl _, fun a o e => .inl e, fun a o e _ => e, fun a hm => ?_, ?_, fun i c e => ?_, fun i j c c' e1 e2 o1 o2 _ => ?_⟩
  · obtain rfl : a = p := by simpa using hm
    exact ⟨fun z => (by rw [hH] at z; cases z), hG⟩
  · rw [hst]
    unfold SL.startM
    rw [List.length_cons, List.length_cons, List.length_append, List.length_append, List.length_map, List.length_map, List.length_replicate, List.length_replicate, DpAll.length h]
  · rcases get e with ⟨rfl, rfl⟩ | ⟨d, v, rfl, h1, h2⟩
    · exact ⟨.ref p, rfl, p, us, rfl, rfl, hG, hH, hx⟩
    · exact ⟨v, h1, h2⟩
  · rcases get e1 with ⟨rfl, rfl⟩ | ⟨d, v, rfl, _⟩
    · rcases get e2 with ⟨rfl, rfl⟩ | ⟨d, v, rfl, _⟩
      · rfl
      · cases o2
    · cases o1
end
section
variable {P : Program} {w : World} {K : PySem.W.Frag} {mg : Str → Option Value} {base : Heap} {k : Nat} {f : Addr} {fd : FuncData} {ps : List Str} {x qual : Str} {params : Arguments} {body : List Stmt} {scope : Scope} {dvs : List V} {kws : List (Str × V)} {N : List Str} {F : FS}
/-- the place where a def's body runs -/
abbrev At (P : Program) (w : World) (K : PySem.W.Frag) (mg : Str → Option Value) (base : Heap) (N : List Str) (qual : Str) (scope : Scope) (f : Addr) (cv : Value) (A : Around) (out : List PySem.Env) (s : Shared) (H : Hp) (E : XK) : Cx := (cxOf CX0 P w K mg base N qual scope f cv A out s H E).nox
theorem pl_at {cv : Value} {A : Around} {out : List PySem.Env} {s : Shared} {H : Hp} {E : XK} {j : Nat} (hN : N.Nodup) (hr : Room j (A.deeper (envOfC qual scope s.heap.objs.size f cv))) (hg : A.guards = some []) : Pl (At P w K mg base N qual scope f cv A out s H E) :=
  ⟨rfl, hN, by have := hr.un; show (A.deeper (envOfC qual scope s.heap.objs.size f cv)).units + 100 < cLine; omega, hg, PassesOwn.never⟩
abbrev BodyOk (P : Program) (w : World) (K : PySem.W.Frag) (mg : Str → Option Value) (base : Heap) (k : Nat) (N : List Str) (qual : Str) (scope : Scope) (f : Addr) (body : List Stmt) (F : FS) : Prop :=
  ∀ (cv : Value) (A : Around) (out : List PySem.Env) (s : Shared) (H : Hp) (E : XK), Pl (At P w K mg base N qual scope f cv A out s H E) → Room k (At P w K mg base N qual scope f cv A out s H E).A → SSs (At P w K mg base N qual scope f cv A out s H E) body F
theorem len_ps (S : FnScope N ps scope) : ps.length ≤ N.length := by
  have := congrArg List.length S.pre
  rw [List.length_take] at this
  omega
theorem FnG.pure (DF : FunD K x qual params body scope dvs kws f fd) (S : FnScope N ps scope) (h : BodyOk P w K mg base k N qual scope f body F) : FnG P w K mg base CX0 (k + 1) f fd ps (spP K ps.length (runP N.length F)) := by
  refine FnG.ofD DF S (fun vs H Q E ⟨G, ds, d, _, _, h, _⟩ => h) fun cv A out s H vs Q E hr hg ⟨G, ds, d, s0, h0, hl, hf, bk⟩ => ⟨_, (h cv A out s H E (pl_at S.nd hr hg) hr).nox, ?_⟩
  have hz : ds.length ≤ N.length := by rw [← DpAll.length h0, hl]; exact len_ps S
  unfold runP at hf
  cases hF : F (startE N.length ds) with
  | none => rw [hF] at hf; cases hf
  | some o =>
    rw [hF] at hf
    refine ⟨{ P := H, G0 := G, M := [] }, G, _, o, Ok.start s0 h0 hz, hF, ?_⟩
    have keep : ∀ {H' : Hp} {G' : Hp} {σ' : L2.St} {r : Ev}, Ok K { P := H, G0 := G, M := [] } G' H' σ' r → Same H H' := fun ok a o e => ok.prot a o e (by simp)
    cases o with
    | rt d' r => cases hf; exact fun v σ' G' H' ok s1 hv => bk v G' H' s1 (keep ok) ok.sub ok.gnew hv
    | rtO xs r =>
      cases hf
      intro p vs σ' G' H' ok s1 hP hM hG hH hv
      have sm : Same G' (upd G' p (.lst vs)) := same_laid hG
      refine bk _ (upd G' p (.lst vs)) H' (s1.trans sm) (keep ok) (fun a u e => ?_) (fun a u e => ?_) (.lst (.inl (.inl upd_same)) (DpAll.mono sm hv))
      · by_cases z : a = p
        · subst z; rw [upd_same] at e; cases e; exact hH
        · rw [upd_ne z] at e; exact ok.sub _ _ e
      · by_cases z : a = p
        · subst z; exact .inr hP
        · rw [upd_ne z] at e; exact ok.gnew _ _ e
    | nx r => cases hf; exact fun σ' G' H' ok s1 => bk _ G' H' s1 (keep ok) ok.sub ok.gnew .non
    | rtN d' r => cases hf; exact fun v σ' G' H' ok s1 hv => bk v G' H' s1 (keep ok) ok.sub ok.gnew hv.dp
    | bk => cases hf
    | ct => cases hf
theorem FnG.own (DF : FunD K x qual params body scope dvs kws f fd) (S : FnScope N ps scope) (h : BodyOk P w K mg base k N qual scope f body F) : FnG P w K mg base CX0 (k + 1) f fd ps (spO K ps.length (runO N.length F)) := by
  refine FnG.ofD DF S (fun vs H Q E ⟨G, ds, d, _, _, h, _⟩ => h) fun cv A out s H vs Q E hr hg ⟨G, ds, d, s0, h0, hl, hf, bk⟩ => ⟨_, (h cv A out s H E (pl_at S.nd hr hg) hr).nox, ?_⟩
  have hz : ds.length ≤ N.length := by rw [← DpAll.length h0, hl]; exact len_ps S
  unfold runO at hf
  cases hF : F (startE N.length ds) with
  | none => rw [hF] at hf; cases hf
  | some o =>
    rw [hF] at hf
    refine ⟨{ P := H, G0 := G, M := [] }, G, _, o, Ok.start s0 h0 hz, hF, ?_⟩
    cases o with
    | rtO xs r => cases hf; exact fun p vs σ' G' H' ok s1 hP hM hG hH hv => bk p vs G' H' s1 (fun a o e => ok.prot a o e (by simp)) ok.sub ok.gnew hP hG hH hv
    | rt => cases hf
    | rtN => cases hf
    | nx => cases hf
    | bk => cases hf
    | ct => cases hf
theorem FnG.lend {p0 : Str} (DF : FunD K x qual params body scope dvs kws f fd) (S : FnScope N (p0 :: ps) scope) (h : BodyOk P w K mg base k N qual scope f body F) : FnG P w K mg base CX0 (k + 1) f fd (p0 :: ps) (spM K ps.length (runM N.length F)) := by
  refine FnG.ofD DF S (fun vs H Q E ⟨G, p, us, xs, ws, ds, d, xs', e, _, _, _, _, _, h, _⟩ => by rw [e, List.length_cons, List.length_cons, h]) fun cv A out s H vs Q E hr hg ⟨G, p, us, xs, ws, ds, d, xs', e, s0, hG, hH, hx, h0, hl, hf, bk⟩ => ⟨_, (h cv A out s H E (pl_at S.nd hr hg) hr).nox, ?_⟩
  subst e
  have hz : ds.length + 1 ≤ N.length := by
    have := len_ps S
    rw [List.length_cons] at this
    rw [← DpAll.length h0, hl]
    exact this
  unfold runM at hf
  cases hF : F (startM N.length xs ds) with
  | none => rw [hF] at hf; cases hf
  | some o =>
    rw [hF] at hf
    refine ⟨{ P := H, G0 := G, M := [p] }, G, _, o, Ok.startM s0 h0 hz hG hH hx, hF, ?_⟩
    have keep : ∀ {H' : Hp} {G' : Hp} {σ' : L2.St} {r : Ev}, Ok K { P := H, G0 := G, M := [p] } G' H' σ' r → ∀ a o, a ≠ p → H a = some o → H' a = some o := fun ok a o n e => ok.prot a o e (by simp [n])
    have back : ∀ {H' : Hp} {G' : Hp} {σ' : L2.St} {r : Ev} {zs : List D}, Ok K { P := H, G0 := G, M := [p] } G' H' σ' r → lent r = some zs → ∃ us, H' p = some (.lst us) ∧ DpAll K G' us zs := fun {H' G' σ' r zs} ok h => by
      unfold lent at h
      split at h
      · rename_i ys e
        cases h
        obtain ⟨v, e1, q, vs, rfl, h1, h2, h3, h4⟩ := ok.cell 0 _ e
        have h1' : some p = some q := h1
        cases h1'
        exact ⟨vs, h3, h4⟩
      · cases h
    cases o with
    | rt d' r =>
      obtain ⟨zs, h1, h2⟩ := Option.map_eq_some_iff.mp hf
      cases h2
      intro v σ' G' H' ok s1 hv
      obtain ⟨us', h3, h4⟩ := back ok h1
      exact bk v G' H' us' s1 (keep ok) ok.sub ok.gnew h3 h4 hv
    | rtO ys r =>
      obtain ⟨zs, h1, h2⟩ := Option.map_eq_some_iff.mp hf
      cases h2
      intro q vs σ' G' H' ok s1 hP hM hG' hH' hv
      obtain ⟨us', h3, h4⟩ := back ok h1
      have sm : Same G' (upd G' q (.lst vs)) := same_laid hG'
      refine bk _ (upd G' q (.lst vs)) H' us' (s1.trans sm) (keep ok) (fun a u e => ?_) (fun a u e => ?_) h3 (DpAll.mono sm h4) (.lst (.inl (.inl upd_same)) (DpAll.mono sm hv))
      · by_cases z : a = q
        · subst z; rw [upd_same] at e; cases e; exact hH'
        · rw [upd_ne z] at e; exact ok.sub _ _ e
      · by_cases z : a = q
        · subst z; exact .inr hP
        · rw [upd_ne z] at e; exact ok.gnew _ _ e
    | nx r =>
      obtain ⟨zs, h1, h2⟩ := Option.map_eq_some_iff.mp hf
      cases h2
      intro σ' G' H' ok s1
      obtain ⟨us', h3, h4⟩ := back ok h1
      exact bk _ G' H' us' s1 (keep ok) ok.sub ok.gnew h3 h4 .non
    | rtN => cases hf
    | bk => cases hf
    | ct => cases hf
end
section
variable {X : Cx} {k : Nat} {f : Addr} {fd : FuncData} {ps : List Str} {x : Str} {p q : Bool} {pp pos : Pos} {e : Expr} {es : List Expr} {g : FA} {n : Nat}
/-- a call that gives a new list -/
def lCall (fn : List D → Option (List D)) (g : FA) : FA := fun r => (g r).bind fun x => (fn x.1).map fun d => (d, x.2)
@[simp] theorem lCall_r (fn : List D → Option (List D)) (g : FA) (r : Ev) : lCall fn g r = (g r).bind fun x => (fn x.1).map fun d => (d, x.2) := rfl
theorem sl_call {fn : List D → Option (List D)} (F : FnG X.prog X.w X.K X.mg X.base CX0 k f fd ps (spO X.K n fn)) (pl : Pl X) (hr : Room k X.A) (hg : Gl X x) (hm : X.mg x = some (.ref f)) (hk : PySem.W.keepIn X.K (.ref f) = true) (hb : Binds X.K fd ps []) (ha : SA X p (e :: es) g) (hlen : ∀ r ds r', g r = some (ds, r') → ds.length = n)
    (hdb : (x == ("__debug__" : Str)) = false := by decide) (he : starEach (e :: es) X.env = (false, eval e X.env) :: starEach es X.env := by rfl) (hpl : (backTo pos (starEach es X.env)).any (·.1) = false := by rfl) :
    SL X p (.Call (.Name x pp) (e :: es) [] pos) (lCall fn g) := PE.weak (pe_callG (dvs := []) F hr pl.guards hg hm hk hb .nil pass0 ha hdb he hpl) fun σ H Q ⟨C, G, r, d, r', ok, hf, kk⟩ => by
  unfold lCall at hf
  obtain ⟨⟨ds, r1⟩, h1, h2⟩ := Option.bind_eq_some_iff.mp hf
  obtain ⟨d', h3, h4⟩ := Option.map_eq_some_iff.mp h2
  cases h4
  refine ⟨C, G, r, ds, _, ok, h1, fun vs G1 H1 o1 s1 m1 x1 => ⟨G1, ds, _, o1.sub, by rw [List.append_nil]; exact x1, ?_, h3, fun l ws G2 H2 s2 m2 s2' n2 hl hG2 hH2 hd => ?_⟩⟩
  · rw [List.append_nil, DpAll.length x1, hlen _ _ _ h1]
  · have o2 := o1.calm s2 m2 s2' n2
    exact kk l ws G2 H2 o2 (s1.trans s2) (fun m => (m1 m).trans m2) ⟨(o1.fresh hl).1, (o1.fresh hl).2.1, hG2, hH2, fun i c e o => o1.ne_of_fresh hl e o⟩ hd
/-- a call that changes the list of a slot, its first argument -/
def fCallM (i : Nat) (fn : List D → List D → Option (D × List D)) (g : FA) : FE := fun r => (listAt i r).bind fun _ => (g r).bind fun x => (listAt i x.2).bind fun z => (fn z.1 x.1).map fun d => (d.1, z.2 d.2)
@[simp] theorem fCallM_r (i : Nat) (fn : List D → List D → Option (D × List D)) (g : FA) (r : Ev) : fCallM i fn g r = (listAt i r).bind fun _ => (g r).bind fun x => (listAt i x.2).bind fun z => (fn z.1 x.1).map fun d => (d.1, z.2 d.2) := rfl
theorem se_callM {i : Nat} {y : Str} {py : Pos} {fn : List D → List D → Option (D × List D)} (F : FnG X.prog X.w X.K X.mg X.base CX0 k f fd ps (spM X.K n fn)) (pl : Pl X) (hr : Room k X.A) (hg : Gl X x) (hm : X.mg x = some (.ref f)) (hk : PySem.W.keepIn X.K (.ref f) = true) (hb : Binds X.K fd ps [])
    (hv : PE X (.Name y py) (tVar i)) (ha : SA X p es g) (hlen : ∀ r ds r', g r = some (ds, r') → ds.length = n) (hdb : (x == ("__debug__" : Str)) = false := by decide)
    (he : starEach (.Name y py :: es) X.env = (false, eval (.Name y py) X.env) :: starEach es X.env := by rfl) (hpl : (backTo pos (starEach es X.env)).any (·.1) = false := by rfl) :
    SE X false (.Call (.Name x pp) (.Name y py :: es) [] pos) (fCallM i fn g) := PE.weak (pe_callG (dvs := []) F hr pl.guards hg hm hk hb .nil pass0 (pa_cons hv ha he) hdb he hpl) fun σ H Q ⟨C, G, r, d, r', ok, hf, kk⟩ => by
  unfold fCallM at hf
  obtain ⟨⟨d0, p0⟩, h0, hf⟩ := Option.bind_eq_some_iff.mp hf
  obtain ⟨⟨ds, r1⟩, h1, hf⟩ := Option.bind_eq_some_iff.mp hf
  obtain ⟨⟨xs, put⟩, h2, hf⟩ := Option.bind_eq_some_iff.mp hf
  obtain ⟨⟨d', xs'⟩, h3, h4⟩ := Option.map_eq_some_iff.mp hf
  cases h4
  obtain ⟨l, vs0, e1, _⟩ := ok.listAt h0
  refine ⟨_, e1, C, G, r, ds, r1, ok, h1, fun vs G1 H1 o1 s1 m1 x1 => ?_⟩
  obtain ⟨l', us, e1', hG, hH, hx, _⟩ := o1.listAt h2
  rw [e1] at e1'
  cases e1'
  refine ⟨G1, l, us, xs, vs, ds, _, xs', by rw [List.append_nil], o1.sub, hG, hH, hx, x1, by rw [DpAll.length x1, hlen _ _ _ h1], h3, fun v G2 H2 us' s2 m2 s2' n2 hH2 hx2 hv2 => ?_⟩
  have hG2 : G2 l = none := by
    cases q : G2 l with
    | none => rfl
    | some u =>
      rcases n2 l u q with z | z
      · rw [hG] at z; cases z
      · rw [hH] at z; cases z
  let Hm : Hp := fun a => if a = l then H1 l else H2 a
  have eL : Hm l = some (.lst us) := by show (if l = l then H1 l else H2 l) = _; rw [if_pos rfl]; exact hH
  have eN : ∀ a, a ≠ l → Hm a = H2 a := fun a h => if_neg h
  have o2 : Ok X.K C G2 Hm σ r1 := o1.calm s2 (fun a u e => by
    by_cases z : a = l
    · subst z; rw [eL, ← hH]; exact e
    · rw [eN a z]; exact m2 a u z e) (fun a u e => by
    have z : a ≠ l := fun z => by subst z; rw [hG2] at e; cases e
    rw [eN a z]; exact s2' _ _ e) n2
  obtain ⟨l2, us2, e2, _, _, _, k2⟩ := o2.listAt h2
  rw [e1] at e2
  cases e2
  have eU : upd Hm l (.lst us') = H2 := funext fun a => by
    by_cases z : a = l
    · subst z; rw [upd_same, hH2]
    · rw [upd_ne z, eN a z]
  have o3 := k2 us' xs' hx2
  rw [eU] at o3
  exact kk v G2 H2 o3 (s1.trans s2) (fun m => by cases m) hv2
end
end SL
namespace SL
open PySem PySem.Spec PyProof.Rows L2
/-! ### the law's own call -/
/-- the heap in which the script alone is tracked (where it is no object of the module) -/
def onlyAt (a : Addr) (o : Obj) (xs : List V) (yes : Bool) : Hp := fun b => if b = a ∧ yes = true then some (.frz o (.lst xs)) else none
theorem onlyAt_some {a b : Addr} {o : Obj} {xs : List V} {yes : Bool} {u : HO} (h : onlyAt a o xs yes b = some u) : b = a ∧ yes = true ∧ u = .frz o (.lst xs) := by
  unfold onlyAt at h
  split at h
  · rename_i z; cases h; exact ⟨z.1, z.2, rfl⟩
  · cases h
theorem law_callG {P : Program} {w : World} {K : PySem.W.Frag} {mg mb : Str → Option Value} {k : Nat} {fa a : Addr} {fd : FuncData} {x : Str} {fn : List D → Option D} {s1 : Shared} {vs : List Value} {ns : List Int}
    (KX : K.In s1.heap) (hns : s1.heap.Ns mainGlobals mg) (hb : s1.heap.Ns builtinsNs mb) (hbb : ∀ x : Str, x ≠ "__name__" → mb x = bootBuiltins x) (hlim : s1.heap.NoLimit) (hg : s1.gens = #[])
    (ha : s1.heap.get? a = some { cls := .type "list", data := .seq vs.toArray }) (hi : IntsAre vs ns) (hl : ns.length ≤ sizeLine) (hr : Room k callerA)
    (F : ∀ base : Heap, K.In base → base.Ns mainGlobals mg → FnG P w K mg base CX0 k fa fd [x] (spP K 1 fn)) (hbind : ∀ (s : Shared) (u : Value), BindsTo s fd ⟨[u], []⟩ [(x, u)]) (hfn : fn [.list (ns.map .int)] = some (.bool true)) :
    codeAny (model P w) callerA (.call (.ref fa) ⟨[.ref a], []⟩) (fun r s' => r = .ok (.ret (.bool true)) ∧ OldK s1.heap s'.heap ∧ s'.os = s1.os ∧ AllBare s'.gens) s1 := by
  generalize ho : ({ cls := .type "list", data := .seq vs.toArray } : Obj) = o at ha
  generalize hyes : (K.lookup a).isNone = yes
  generalize hH : onlyAt a o (ns.map V.int) yes = H
  have rv : Vals (ns.map V.int) vs := vals_ints hi
  have hd : ∀ (es : Array DictEntry) (ep : Nat), o.data ≠ .dict es ep := fun es ep => by rw [← ho]; exact fun z => by cases z
  have H1 : ∀ {b : Addr} {u : HO}, H b = some u → b = a ∧ K.lookup a = none ∧ u = .frz o (.lst (ns.map V.int)) := fun {b u} e => by
    rw [← hH] at e
    obtain ⟨e1, e2, e3⟩ := onlyAt_some e
    rw [← hyes] at e2
    exact ⟨e1, Option.isNone_iff_eq_none.mp e2, e3⟩
  have ok : HOk P w H s1.heap := fun b u e => by
    obtain ⟨rfl, _, rfl⟩ := H1 e
    exact ⟨ha, by rw [List.length_map]; exact hl, vs, _, rv, by rw [ha, ← ho]⟩
  have sq : SqL K H a (ns.map V.int) := by
    cases q : K.lookup a with
    | none =>
      refine .inl (.inr ⟨o, ?_⟩)
      rw [← hH]
      exact if_pos ⟨rfl, by rw [← hyes, q]; rfl⟩
    | some o2 =>
      have e2 := KX a o2 q
      rw [ha] at e2
      cases e2
      refine .inr ⟨o, vs.toArray, 0, q, ?_, ?_, ?_, ?_, ?_⟩
      · rw [← ho]
      · rw [← ho]
      · rw [← ho]
      · rw [List.size_toArray, ← Vals.length rv, List.length_map]; exact hl
      · simpa using rv
  have free : ∀ {b : Addr} {u : Obj} {es : Array DictEntry} {ep : Nat}, s1.heap.get? b = some u → u.data = .dict es ep → H b = none := fun {b u es ep} e d => by
    cases q : H b with
    | none => rfl
    | some z =>
      obtain ⟨rfl, _, _⟩ := H1 q
      rw [ha] at e
      cases e
      exact absurd d (hd es ep)
  have nss : ∀ {b : Addr} {m : Str → Option Value}, s1.heap.Ns b m → (hidT s1.heap H).Ns b m := fun {b m} ⟨u, es, ep, e, d, r⟩ => ⟨u, es, ep, hidT_get e (free e d), d, r⟩
  have kin : K.In (hidT s1.heap H) := fun b u e => hidT_get (KX b u e) (by
    cases q : H b with
    | none => rfl
    | some z =>
      obtain ⟨rfl, n, _⟩ := H1 q
      rw [n] at e; cases e)
  have md : Mod K mg (hidT s1.heap H) := ⟨kin, nss hns, ⟨mb, nss hb, hbb⟩, let ⟨mc, z1, z2⟩ := hlim; ⟨mc, nss z1, z2⟩⟩
  have e0 : Env0 P w K mg (hidT s1.heap H) callerA [] s1 H := ⟨rfl, md, fun b u e => of_hidT e, Nat.le_of_eq (hidT_size _ _), trivial, fun b z => (by cases z), ok, .of_eq hg⟩
  have sp : spP K 1 fn [.ref a] H (fun v _ => v = .bl true) (fun _ _ _ => False) := ⟨H, [.list (ns.map .int)], .bool true, Same.refl _, .cons (.lst sq (SL.DpAll.ofInts ns)) .nil, rfl, hfn, fun v G' H' _ _ _ _ hv => by cases hv; rfl⟩
  apply codeAny_mono ((F _ kin (nss hns)).run callerA [] s1 H ⟨[.ref a], []⟩ [.ref a] [.ref a] _ _ hr rfl e0 (hbind s1 (.ref a)) (.cons rfl .nil) sp)
  intro r s' h
  cases r with
  | error e => exact h.elim
  | ok fl =>
    cases fl with
    | next => cases h
    | brk => cases h
    | cont => cases h
    | ret u =>
      obtain ⟨v, H2, os, bare, un, ok2, r2, q⟩ := h
      have q2 : v = .bl true := q
      subst q2
      have r3 : u = Value.bool true := r2
      subst r3
      refine ⟨rfl, OldK.of_keep (fun b u e => ?_), os, bare⟩
      cases q : H b with
      | none => exact un.keep b u e q (fun z => by cases z) (fun z => by cases z)
      | some z =>
        obtain ⟨rfl, n, rfl⟩ := H1 q
        rw [ha] at e
        cases e
        exact (ok2 b _ (un.frzs b _ _ q)).1
/-- the goal behind the head, from the law's def -/
theorem walkG {l : PySem.W.OpenLaw} {n k : Nat} {q : Program} {loose : List Str} {XP : (Str → Option Value) → Heap → Prop} {YP : World → Heap → Prop} {d : DefRec} {x : Str} {fn : List D → Option D}
    (hn : l.most = some n) (hn2 : n ≤ sizeLine) (hdf : d.params.defaults = []) (hr : Room k callerA)
    (F : ∀ (w : World) (mg : Str → Option Value) (fa : Addr) (h : Heap), YP w h → h.Ns mainGlobals mg → mg d.name = some (.ref fa) →
      ∃ (K : PySem.W.Frag) (fd : FuncData), K.In h ∧ (∀ (s : Shared) (u : Value), BindsTo s fd ⟨[u], []⟩ [(x, u)]) ∧
        ∀ base : Heap, K.In base → base.Ns mainGlobals mg → FnG l.prog w K mg base CX0 k fa fd [x] (spP K 1 fn))
    (hfn : ∀ ns : List Int, ns.length ≤ n → fn [.list (ns.map .int)] = some (.bool true)) :
    PySem.W.WalkO q loose XP YP l.row.toRowW d [] (fun f vs => PySem.call f vs) := by
  apply Att.attach_call hn hdf
  intro w s0 s1 mg mb fa o pm cd doc a vs ns G Y ho hd hcd hmg hobj hints hlen hg
  obtain ⟨K, fd, KX, hb, hF⟩ := F w mg fa _ Y G.T.g hmg
  exact law_callG KX G.T.g G.T.b G.T.builtins G.T.nolimit hg hobj hints (Nat.le_trans hlen hn2) hr hF hb (hfn ns hlen)
end SL
namespace SL
open PySem PySem.Spec PyProof.Rows L2
section
variable {X : Cx} {e a b c : Expr} {es : List Expr} {f fa fb fc : FE} {g : FA} {pu p q s : Bool} {pos pp : Pos} {x : Str}
theorem hu64 (pl : Pl X) : X.A.units + 64 < cLine := by have := pl.units; omega
theorem hu65 (pl : Pl X) : X.A.units + 65 < cLine := by have := pl.units; omega
/-- a < b < c -/
def fChain (o o' : D → D → Option D) (a b c : FE) : FE := fun r => (a r).bind fun x => (b x.2).bind fun y => match o x.1 y.1 with
  | some (.bool true) => (c y.2).bind fun z => (o' y.1 z.1).map fun d => (d, z.2)
  | some (.bool false) => some (.bool false, y.2)
  | _ => none
@[simp] theorem fChain_r (o o' : D → D → Option D) (a b c : FE) (r : Ev) : fChain o o' a b c r = (a r).bind fun x => (b x.2).bind fun y => match o x.1 y.1 with
  | some (.bool true) => (c y.2).bind fun z => (o' y.1 z.1).map fun d => (d, z.2)
  | some (.bool false) => some (.bool false, y.2)
  | _ => none := rfl
theorem t_chain {r r' : R2} {g g' : D → D → Option D} (o : Op2 X.K r g) (o' : Op2 X.K r' g') {σ : L2.St} {H : Hp} {Q : VK} (h : tE X.K (p && (q && s)) (fChain g g' fa fb fc) σ H Q) : tChain r r' (tE X.K p fa) (tE X.K q fb) (tE X.K s fc) σ H Q := by
  obtain ⟨C, G, r0, d, rr, ok, hf, k⟩ := h
  unfold fChain at hf
  obtain ⟨⟨x, r1⟩, h1, hf⟩ := Option.bind_eq_some_iff.mp hf
  obtain ⟨⟨y, r2⟩, h2, hf⟩ := Option.bind_eq_some_iff.mp hf
  refine ⟨C, G, r0, x, r1, ok, h1, fun v G1 H1 ok1 s1 m1 x1 => ⟨C, G1, r1, y, r2, ok1, h2, fun w G2 H2 ok2 s2 m2 x2 => ?_⟩⟩
  dsimp only at hf
  split at hf
  · rename_i h3
    obtain ⟨⟨z, r3⟩, h4, hf⟩ := Option.bind_eq_some_iff.mp hf
    obtain ⟨d', h5, h6⟩ := Option.map_eq_some_iff.mp hf
    cases h6
    refine o G2 H2 v w x y _ _ ok2.sub (.inl (Dp.mono s2 x1)) (.inl x2) h3 (ok2.back fun v3 G3 H3 ok3 s3 m3 x3 => ?_)
    cases x3
    refine ⟨true, rfl, ?_⟩
    rw [if_pos rfl]
    refine ⟨C, G3, r2, z, _, ok3, h4, fun v4 G4 H4 ok4 s4 m4 x4 => ?_⟩
    refine o' G4 H4 w v4 y z d Q ok4.sub (.inl (Dp.mono (s3.trans s4) x2)) (.inl x4) h5 (ok4.back fun v5 G5 H5 ok5 s5 m5 x5 => ?_)
    exact k v5 G5 H5 ok5 ((((s1.trans s2).trans s3).trans s4).trans s5) (fun m => ((((m1 (and1 m)).trans (m2 (and1 (and2 m)))).trans m3).trans (m4 (and2 (and2 m)))).trans m5) x5
  · rename_i h3
    cases hf
    refine o G2 H2 v w x y _ _ ok2.sub (.inl (Dp.mono s2 x1)) (.inl x2) h3 (ok2.back fun v3 G3 H3 ok3 s3 m3 x3 => ?_)
    cases x3
    refine ⟨false, rfl, ?_⟩
    rw [if_neg Bool.false_ne_true]
    exact k _ G3 H3 ok3 ((s1.trans s2).trans s3) (fun m => ((m1 (and1 m)).trans (m2 (and1 (and2 m)))).trans m3) (.bl _)
  · cases hf
theorem se_chain {op op' : CmpOp} {r r' : R2} {g g' : D → D → Option D} (ho : OpR X (compareOp op) r) (o : Op2 X.K r g) (ho' : OpR X (compareOp op') r') (o' : Op2 X.K r' g') (ha : SE X p a fa) (hb : SE X q b fb) (hc : SE X s c fc) (hm : lastMarks [op, op'] [b, c] = false := by with_unfolding_all rfl) :
    SE X (p && (q && s)) (.Compare a [op, op'] [b, c] pos) (fChain g g' fa fb fc) := PE.weak (pe_chain ho ho' ha hb hc hm) fun σ H Q h => t_chain o o' h
theorem st_chain {op op' : CmpOp} {r r' : R2} {g g' : D → D → Option D} (ho : OpR X (compareOp op) r) (o : Op2 X.K r g) (ho' : OpR X (compareOp op') r') (o' : Op2 X.K r' g') (ha : SE X p a fa) (hb : SE X q b fb) (hc : SE X s c fc) (hm : lastMarks [op, op'] [b, c] = false := by with_unfolding_all rfl) :
    ST X (p && (q && s)) (.Compare a [op, op'] [b, c] pos) (gT (fChain g g' fa fb fc)) := PT.weak (pt_chain ho ho' ha hb hc hm) fun σ H Q h => t_bool (fun Q' => t_chain o o') h
/-! ### truth of any value -/
def truD : D → Option Bool
  | .none => some false
  | .bool b => some b
  | .int i => some (i != 0)
  | .str x => if x.length ≤ sizeLine then some ((x.length : Int) != 0) else none
  | .list xs => some (!xs.isEmpty)
  | .tuple xs => some (!xs.isEmpty)
  | _ => none
def gTru (f : FE) : FT := fun r => (f r).bind fun x => (truD x.1).map fun b => (b, x.2)
@[simp] theorem gTru_r (f : FE) (r : Ev) : gTru f r = (f r).bind fun x => (truD x.1).map fun b => (b, x.2) := rfl
theorem isEmpty_dp {K : PySem.W.Frag} {G : Hp} {vs : List V} {ds : List D} (h : DpAll K G vs ds) : vs.isEmpty = ds.isEmpty := by
  cases h <;> rfl
theorem tru_pk {K : PySem.W.Frag} {G H : Hp} {v : V} {d : D} {b : Bool} (s : Same G H) (h : Pk K G H v d) (e : truD d = some b) : TruV K v H b := by
  cases d with
  | none => rw [h.none]; cases e; exact rfl
  | bool c => rw [h.bool]; cases e; exact rfl
  | int i => rw [h.int]; cases e; exact rfl
  | str x =>
    rw [h.str]
    unfold truD at e
    dsimp only at e
    split at e
    · rename_i hz; cases e; exact ⟨hz, rfl⟩
    · cases e
  | list xs =>
    obtain ⟨p, vs, rfl, h1, h2⟩ := h.list s
    cases e
    exact .inl ⟨vs, h1, by rw [isEmpty_dp h2]⟩
  | tuple xs =>
    obtain ⟨p, vs, rfl, h1, h2⟩ := h.tuple s
    cases e
    exact .inr (.inl ⟨vs, h1, by rw [isEmpty_dp h2]⟩)
  | dict => cases e
theorem st_tru (h : SP X p e f) (he : ∀ whole, isTrue e X.env whole = (do let v ← whole; standAt e.pos; holding [v] (truthy v)) := by intro _; rfl) : ST X p e (gTru f) :=
  PT.weak (pt_truth h he) fun σ H Q ⟨C, G, r, d, r', ok, hf, k⟩ => by
    unfold gTru at hf
    obtain ⟨⟨x, r1⟩, h1, h2⟩ := Option.bind_eq_some_iff.mp hf
    obtain ⟨b, h3, h4⟩ := Option.map_eq_some_iff.mp h2
    cases h4
    exact ⟨C, G, r, x, _, ok, h1, fun v G1 H1 o1 s1 m1 x1 => ⟨d, tru_pk o1.sub x1 h3, k G1 H1 o1 s1 m1⟩⟩
/-! ### a new list of two -/
def lCat (fa fb : FE) : FA := fun r => match fa r with
  | some (.list xs, r1) => (match fb r1 with
    | some (.list ys, r2) => if xs.length + ys.length ≤ sizeLine then some (xs ++ ys, r2) else none
    | _ => none)
  | _ => none
@[simp] theorem lCat_r (fa fb : FE) (r : Ev) : lCat fa fb r = match fa r with
  | some (.list xs, r1) => (match fb r1 with
    | some (.list ys, r2) => if xs.length + ys.length ≤ sizeLine then some (xs ++ ys, r2) else none
    | _ => none)
  | _ => none := rfl
theorem sl_cat (ha : SE X p a fa) (hb : SE X q b fb) : SL X (p && q) (.BinOp a .Add b pos) (lCat fa fb) := PE.weak (pe_op op_catL ha hb) fun σ H Q ⟨C, G, r, d, r', ok, hf, k⟩ => by
  unfold lCat at hf
  split at hf
  · rename_i xs r1 h1
    split at hf
    · rename_i ys r2 h2
      split at hf
      · rename_i hz
        cases hf
        refine ⟨C, G, r, _, _, ok, h1, fun v G1 H1 o1 s1 m1 x1 => ⟨C, G1, r1, _, _, o1, h2, fun w G2 H2 o2 s2 m2 x2 => ?_⟩⟩
        obtain ⟨l, vs, rfl, h3, h4⟩ := (Pk.of (H := H2) (Dp.mono s2 x1)).list o2.sub
        obtain ⟨l2, ws, rfl, h5, h6⟩ := (Pk.of (H := H2) x2).list o2.sub
        refine ⟨l, l2, vs, ws, rfl, rfl, h3, h5, by rw [DpAll.length h4, DpAll.length h6]; exact hz, fun c hc => ?_⟩
        obtain ⟨o3, n3⟩ := o2.newList (vs := vs ++ ws) hc
        exact k c _ G2 _ o3 (s1.trans s2) (fun m => ((m1 (and1 m)).trans (m2 (and2 m))).trans (same_laid hc)) n3 (DpAll.append h4 h6)
      · cases hf
    · cases hf
  · cases hf
theorem sl_catp (ha : SP X p a fa) (hb : SP X true b fb) : SL X p (.BinOp a .Add b pos) (lCat fa fb) := PE.weak (pe_op op_catL ha hb) fun σ H Q ⟨C, G, r, d, r', ok, hf, k⟩ => by
  unfold lCat at hf
  split at hf
  · rename_i xs r1 h1
    split at hf
    · rename_i ys r2 h2
      split at hf
      · rename_i hz
        cases hf
        refine ⟨C, G, r, _, _, ok, h1, fun v G1 H1 o1 s1 m1 x1 => ⟨C, G1, r1, _, _, o1, h2, fun w G2 H2 o2 s2 m2 x2 => ?_⟩⟩
        obtain ⟨l, vs, rfl, h3, h4⟩ := (x1.step s2 (m2 rfl)).list o2.sub
        obtain ⟨l2, ws, rfl, h5, h6⟩ := x2.list o2.sub
        refine ⟨l, l2, vs, ws, rfl, rfl, h3, h5, by rw [DpAll.length h4, DpAll.length h6]; exact hz, fun c hc => ?_⟩
        obtain ⟨o3, n3⟩ := o2.newList (vs := vs ++ ws) hc
        exact k c _ G2 _ o3 (s1.trans s2) (fun m => ((m1 m).trans (m2 rfl)).trans (same_laid hc)) n3 (DpAll.append h4 h6)
      · cases hf
    · cases hf
  · cases hf
/-- what a function's list call gives, as a value -/
theorem spP_of_spO {K : PySem.W.Frag} {n : Nat} {fn : List D → Option (List D)} : ∀ vs H Q E, spP K n (fun ds => (fn ds).map .list) vs H Q E → spO K n fn vs H Q E := fun vs H Q E ⟨G, ds, d, s0, h0, hl, hf, bk⟩ => by
  obtain ⟨xs, h1, h2⟩ := Option.map_eq_some_iff.mp hf
  subst h2
  refine ⟨G, ds, xs, s0, h0, hl, h1, fun p us G' H' s1 m1 s1' n1 hp hG hH hd => ?_⟩
  refine bk _ (upd G' p (.lst us)) H' (s1.trans (same_laid hG)) m1 (fun a u e => ?_) (fun a u e => ?_) (.lst (.inl (.inl upd_same)) (DpAll.mono (same_laid hG) hd))
  · by_cases z : a = p
    · subst z; rw [upd_same] at e; cases e; exact hH
    · rw [upd_ne z] at e; exact s1' _ _ e
  · by_cases z : a = p
    · subst z; exact .inr hp
    · rw [upd_ne z] at e; exact n1 _ _ e
end
end SL
namespace SL
open PySem PySem.Spec PyProof.Rows L2
theorem call_lenA {X : Cx} : CallR X (.builtin "len") (fun xs H Q => (∃ p ys, xs = [.ref p] ∧ (SqL X.K H p ys ∨ SqT X.K H p ys) ∧ Q (.int ys.length) H) ∨ ∃ z, xs = [.str z] ∧ z.length ≤ sizeLine ∧ Q (.int z.length) H) := CallR.or call_len_seq call_len_str
end SL
/-! Calls with keywords. -/
namespace SL
open PySem PySem.Spec PyProof.Rows L2
section
variable {X : Cx} {CX : CXT} {k n m : Nat} {f : Addr} {fd : FuncData} {ps ks : List Str} {sp : Sp} {E : XK} {x y : Str} {p q : Bool} {pp pos kpos : Pos} {e : Expr} {es : List Expr} {kws : List Keyword} {t tk : TA} {g gk : FA} {h2 : List Value → List Value → List Value} {hV : List V → List V → List V}
theorem run_GN {pins : List (Addr × Obj)} {σ : L2.St} {H : Hp} {s : Shared} {Q : VK} {us ws : List Value} {vs zs : List V} (F : FnG X.prog X.w X.K X.mg X.base CX k f fd ps sp) (hr : Room k X.A) (hgd : X.A.guards = some []) (hb : KBn X.K fd ps n ks h2 hV) (hx : Passes CX X E)
    (I : Inv X pins σ H s) (r : Vals vs us) (rz : Vals zs ws) (l1 : vs.length = n) (l2 : zs.length = ks.length) (h : sp (hV vs zs) H Q E) : wpAny (model X.prog X.w) X.A (call (.ref f) us (ks.zip ws)) (EP X pins σ Q) X.xe s := by
  have r2 := hb.rel r rz
  apply wpAny_call
  apply codeAny_mono (F.run X.A X.stack s H ⟨us, ks.zip ws⟩ (h2 us ws) (hV vs zs) Q E hr hgd I.env0 (hb.to s us ws I.kIn (r.length.symm.trans l1) (rz.length.symm.trans l2)) r2 h)
  intro z s' hq
  cases z with
  | error e => exact hx pins σ H s e s' I hq
  | ok fl =>
    cases fl with
    | ret u => exact I.after hq
    | next => cases hq
    | brk => cases hq
    | cont => cases hq
theorem pe_callGN (F : FnG X.prog X.w X.K X.mg X.base CX k f fd ps sp) (hr : Room k X.A) (hgd : X.A.guards = some []) (hg : Gl X x) (hm : X.mg x = some (.ref f)) (hk : PySem.W.keepIn X.K (.ref f) = true) (hb : KBn X.K fd ps n ks h2 hV) (hx : Passes CX X E)
    (ha : PA X (e :: es) t) (hkw : PK X kws tk) (hall : (backToKw pos (keywordEach kws X.env)).all (·.1.isSome) = true := by rfl) (hks : (backToKw pos (keywordEach kws X.env)).filterMap (·.1) = ks := by rfl)
    (hdb : (x == ("__debug__" : Str)) = false := by decide) (he : starEach (e :: es) X.env = (false, eval e X.env) :: starEach es X.env := by rfl)
    (hpl : ((backTo pos (starEach (e :: es) X.env)).any (·.1) || (backToKw pos (keywordEach kws X.env)).any (·.1.isNone)) = false := by rfl) :
    PE X (.Call (.Name x pp) (e :: es) kws pos) (tCallN n ks.length sp hV E t tk) := by
  constructor
  intro pins s σ H Q I h
  apply wpAny_Call_Name_kw
  apply ld_glob I hg hm _ hdb
  apply PySem.W.callWith_KW (h₀ := X.base) I.ok.mod.kin hk hall _ hpl he
  refine thn (ha.run pos pins s σ H _ I h) fun us s1 ⟨vs, H1, I1, r, qq⟩ => ?_
  refine thn (hkw.run pos pins s1 σ H1 _ I1 qq) fun ws s2 ⟨zs, H2, I2, rz, l1, l2, q2⟩ => ⟨I2.kIn, ?_⟩
  rw [hks]
  exact run_GN F hr hgd hb hx I2 r rz l1 l2 q2
/-- the keywords' values -/
abbrev SK (X : Cx) (pu : Bool) (kws : List Keyword) (g : FA) : Prop := PK X kws (tA X.K pu g)
theorem PK.weak {t t' : TA} (h : PK X kws t) (w : ∀ σ H Q, t' σ H Q → t σ H Q) : PK X kws t' := ⟨fun pos pins s σ H Q I z => h.run pos pins s σ H Q I (w σ H Q z)⟩
theorem sk_nil : SK X true [] aNil := PK.weak pk_nil fun σ H Q ⟨C, G, r, d, r', ok, hf, k⟩ => by
  cases hf
  exact k [] G H ok (Same.refl _) (fun _ => Same.refl _) .nil
theorem sk_cons {nm : Option Str} {f : FE} (ha : SE X p e f) (hr : SK X q kws g) : SK X (p && q) (⟨nm, e, kpos⟩ :: kws) (aCons f g) := PK.weak (pk_cons ha hr) fun σ H Q ⟨C, G, r, d, r', ok, hf, k⟩ => by
  obtain ⟨x, r1, xs, h1, h2, rfl⟩ := aCons_some hf
  exact ⟨C, G, r, x, r1, ok, h1, fun v G1 H1 o1 s1 m1 x1 => ⟨C, G1, r1, xs, r', o1, h2, fun vs G2 H2 o2 s2 m2 x2 => k _ G2 H2 o2 (s1.trans s2) (fun m => (m1 (and1 m)).trans (m2 (and2 m))) (.cons (Dp.mono s2 x1) x2)⟩⟩
/-- the values of two rows, one behind the other -/
def aApp (g gk : FA) : FA := fun r => (g r).bind fun x => (gk x.2).map fun y => (x.1 ++ y.1, y.2)
@[simp] theorem aApp_r (g gk : FA) (r : Ev) : aApp g gk r = (g r).bind fun x => (gk x.2).map fun y => (x.1 ++ y.1, y.2) := rfl
theorem aApp_len (h1 : ∀ (r : Ev) (ds : List D) (r' : Ev), g r = some (ds, r') → ds.length = n) (h2 : ∀ (r : Ev) (ds : List D) (r' : Ev), gk r = some (ds, r') → ds.length = m) : ∀ (r : Ev) (ds : List D) (r' : Ev), aApp g gk r = some (ds, r') → ds.length = n + m := fun r ds r' h => by
  unfold aApp at h
  obtain ⟨⟨a, r1⟩, e1, h⟩ := Option.bind_eq_some_iff.mp h
  obtain ⟨⟨b, r2⟩, e2, h⟩ := Option.map_eq_some_iff.mp h
  cases h
  rw [List.length_append, h1 _ _ _ e1, h2 _ _ _ e2]
theorem DpAll.app {K : PySem.W.Frag} {G : Hp} : ∀ {vs : List V} {ds : List D} {ws : List V} {es : List D}, DpAll K G vs ds → DpAll K G ws es → DpAll K G (vs ++ ws) (ds ++ es)
  | [], [], _, _, .nil, h => h
  | _ :: _, _ :: _, _, _, .cons a b, h => .cons a (DpAll.app b h)
theorem kb_of {K : PySem.W.Frag} {qual : Str} {params : Arguments} {body : List Stmt} {scope : Scope} {kwd : List (Str × V)} (F : FunD K x qual params body scope [] kwd f fd) (n : Nat) (ks : List Str)
    (h : ∀ (kV doc pm : Value) (an : Option Addr) (cdv ct : Value) (us ws : List Value), us.length = n → ws.length = ks.length → bindArgs (PySem.W.fnOf x qual params body scope .none kV doc pm an cdv ct) ⟨us, ks.zip ws⟩ = pure (ps.zip (us ++ ws))) :
    KBn K fd ps n ks (fun us ws => us ++ ws) (fun vs zs => vs ++ zs) := by
  obtain ⟨oc, od, dV, kV, doc, pm, an, cdv, ct, osl, rfl, lk, hcd, hD, hK⟩ := F.ex
  rcases hD with ⟨_, rfl⟩ | ⟨e, _⟩
  · exact ⟨fun s us ws X l1 l2 => BindsTo.of_eq (h kV doc pm an cdv ct us ws l1 l2), fun r1 r2 => r1.append r2⟩
  · exact absurd rfl e
theorem pe_callKA (F : FnG X.prog X.w X.K X.mg X.base CX k f fd ps sp) (hr : Room k X.A) (hgd : X.A.guards = some []) (hg : Gl X x) (hm : X.mg x = some (.ref f)) (hk : PySem.W.keepIn X.K (.ref f) = true) (hb : KBn X.K fd ps n ks (fun us ws => us ++ ws) (fun vs zs => vs ++ zs)) (hx : Passes CX X E)
    (ha : SA X p (e :: es) g) (hkw : SK X q kws gk) (hl1 : ∀ r ds r', g r = some (ds, r') → ds.length = n) (hl2 : ∀ r ds r', gk r = some (ds, r') → ds.length = ks.length) (hall : (backToKw pos (keywordEach kws X.env)).all (·.1.isSome) = true := by rfl) (hks : (backToKw pos (keywordEach kws X.env)).filterMap (·.1) = ks := by rfl)
    (hdb : (x == ("__debug__" : Str)) = false := by decide) (he : starEach (e :: es) X.env = (false, eval e X.env) :: starEach es X.env := by rfl)
    (hpl : ((backTo pos (starEach (e :: es) X.env)).any (·.1) || (backToKw pos (keywordEach kws X.env)).any (·.1.isNone)) = false := by rfl) :
    PE X (.Call (.Name x pp) (e :: es) kws pos) (tCall sp [] E (tA X.K (p && q) (aApp g gk))) := PE.weak (pe_callGN F hr hgd hg hm hk hb hx ha hkw hall hks hdb he hpl) fun σ H Q ⟨C, G, r, d, r', ok, hf, kk⟩ => by
  unfold aApp at hf
  obtain ⟨⟨a, r1⟩, e1, hf⟩ := Option.bind_eq_some_iff.mp hf
  obtain ⟨⟨b, r2⟩, e2, hf⟩ := Option.map_eq_some_iff.mp hf
  cases hf
  refine ⟨C, G, r, a, r1, ok, e1, fun vs G1 H1 o1 s1 m1 x1 => ⟨C, G1, r1, b, _, o1, e2, fun zs G2 H2 o2 s2 m2 x2 => ⟨?_, ?_, ?_⟩⟩⟩
  · rw [DpAll.length x1, hl1 _ _ _ e1]
  · rw [DpAll.length x2, hl2 _ _ _ e2]
  · have := kk (vs ++ zs) G2 H2 o2 (s1.trans s2) (fun z => (m1 (and1 z)).trans (m2 (and2 z))) (DpAll.app (DpAll.mono s2 x1) x2)
    simpa only [List.append_nil] using this
/-- from a call's question to a value for data -/
theorem se_ofCall {fn : List D → Option D} (hc : PE X e (tCall (spP X.K n fn) [] E (tA X.K p g))) (hlen : ∀ r ds r', g r = some (ds, r') → ds.length = n) : SE X p e (fCall fn g) := PE.weak hc fun σ H Q ⟨C, G, r, d, r', ok, hf, kk⟩ => by
  unfold fCall at hf
  obtain ⟨⟨ds, r1⟩, h1, h2⟩ := Option.bind_eq_some_iff.mp hf
  obtain ⟨d', h3, h4⟩ := Option.map_eq_some_iff.mp h2
  cases h4
  refine ⟨C, G, r, ds, _, ok, h1, fun vs G1 H1 o1 s1 m1 x1 => ⟨G1, ds, d, o1.sub, by rw [List.append_nil]; exact x1, ?_, h3, o1.back fun v G2 H2 o2 s2 m2 x2 => kk v G2 H2 o2 (s1.trans s2) (fun m => (m1 m).trans m2) x2⟩⟩
  rw [List.append_nil, DpAll.length x1, hlen _ _ _ h1]
theorem sl_ofCall {fn : List D → Option (List D)} (hc : PE X e (tCall (spO X.K n fn) [] E (tA X.K p g))) (hlen : ∀ r ds r', g r = some (ds, r') → ds.length = n) : SL X p e (lCall fn g) := PE.weak hc fun σ H Q ⟨C, G, r, d, r', ok, hf, kk⟩ => by
  unfold lCall at hf
  obtain ⟨⟨ds, r1⟩, h1, h2⟩ := Option.bind_eq_some_iff.mp hf
  obtain ⟨d', h3, h4⟩ := Option.map_eq_some_iff.mp h2
  cases h4
  refine ⟨C, G, r, ds, _, ok, h1, fun vs G1 H1 o1 s1 m1 x1 => ⟨G1, ds, _, o1.sub, by rw [List.append_nil]; exact x1, ?_, h3, fun l ws G2 H2 s2 m2 s2' n2 hl hG2 hH2 hd => ?_⟩⟩
  · rw [List.append_nil, DpAll.length x1, hlen _ _ _ h1]
  · have o2 := o1.calm s2 m2 s2' n2
    exact kk l ws G2 H2 o2 (s1.trans s2) (fun m => (m1 m).trans m2) ⟨(o1.fresh hl).1, (o1.fresh hl).2.1, hG2, hH2, fun i c e o => o1.ne_of_fresh hl e o⟩ hd
end
end SL
/-! repr; a module's builtin function; a hook that also holds such names. -/
namespace SL
open PySem PySem.Spec PyProof.Rows L2
def okShow (d : D) : Bool := d.showable && !d.hasDict && decide (d.shown.length ≤ sizeLine) && decide (d.depth ≤ 64)
theorem okShow_iff {d : D} : okShow d = true ↔ d.showable = true ∧ d.hasDict = false ∧ d.shown.length ≤ sizeLine ∧ d.depth ≤ 64 := by
  unfold okShow
  rw [Bool.and_eq_true, Bool.and_eq_true, Bool.and_eq_true, decide_eq_true_iff, decide_eq_true_iff, Bool.not_eq_true', and_assoc, and_assoc]
def isSq : D → Bool
  | .list _ => true
  | .tuple _ => true
  | _ => false
def reprD (d : D) : Option D := if isSq d = true ∧ okShow d = true then some (.str d.shown) else none
def rRepr (K : PySem.W.Frag) : List V → Hp → VK → Prop := fun vs H Q => ∃ v d, vs = [v] ∧ Dp K H v d ∧ isSq d = true ∧ okShow d = true ∧ Q (.str d.shown) H
section
variable {X : Cx}
theorem cr_repr (pl : Pl X) : CallR X (.builtin "repr") (rRepr X.K) := by
  intro pins s σ H vs us Q I r h
  obtain ⟨v, d, rfl, hd, hs, ho, q⟩ := h
  obtain ⟨u, rfl, ru⟩ := Vals.one r
  obtain ⟨h1, h2, h3, h4⟩ := okShow_iff.mp ho
  obtain ⟨as, hr⟩ := L2.Dp.reads I d v u (hd.toL h2) ru
  have hu := hu65 pl
  cases d with
  | list ds =>
    cases hd with
    | lst a b =>
      cases ru
      exact repr_of_reads' hr h1 (PyData.noDict_hsm h2) pl.guards (by omega) (fun _ _ e => e) (fun h' u tk hk => ⟨.str _, H, I.kept hk, ⟨_, rfl⟩, q⟩) h3
  | tuple ds =>
    cases hd with
    | tup a b =>
      cases ru
      exact repr_of_reads' hr h1 (PyData.noDict_hsm h2) pl.guards (by omega) (fun _ _ e => e) (fun h' u tk hk => ⟨.str _, H, I.kept hk, ⟨_, rfl⟩, q⟩) h3
  | none => cases hs
  | bool b => cases hs
  | int i => cases hs
  | str t => cases hs
  | dict k => cases hs
theorem c_repr {K : PySem.W.Frag} : Call1 K (rRepr K) reprD := fun G H x dx dz Q s hx e bk => by
  unfold reprD at e
  split at e
  · rename_i h
    cases e
    exact ⟨x, dx, rfl, hx.full s, h.1, h.2, bk.val s (.str _)⟩
  · cases e
def gcdD : D → D → Option D
  | .int a, .int b => some (.int ((Nat.gcd a.natAbs b.natAbs : Nat) : Int))
  | _, _ => none
@[simp] theorem gcdD_i (a b : Int) : gcdD (.int a) (.int b) = some (.int ((Nat.gcd a.natAbs b.natAbs : Nat) : Int)) := rfl
theorem c_gcd {K : PySem.W.Frag} : Call2 K rGcd gcdD := fun G H x y dx dy dz Q s hx hy e bk => by
  unfold gcdD at e
  split at e
  · cases e
    cases hx
    cases hy
    exact ⟨_, _, rfl, bk.val s (.int _)⟩
  · cases e
variable {x : Str} {p q : Bool} {pp pos : Pos} {a b : Expr} {fa fb : FE} {id : String}
theorem se_callBf2 {r : List V → Hp → VK → Prop} {g : D → D → Option D} (hc : CallR X (.builtin id) r) (o : Call2 X.K r g) (hg : Gl X x) (hm : X.mg x = some (.builtin id)) (ha : SE X p a fa) (hb : SE X q b fb) (hdb : (x == ("__debug__" : Str)) = false := by decide)
    (he : starEach [a, b] X.env = (false, eval a X.env) :: starEach [b] X.env := by rfl) (he2 : starEach [b] X.env = (false, eval b X.env) :: starEach [] X.env := by rfl) (hpl : (backTo pos (starEach [b] X.env)).any (·.1) = false := by rfl) : SE X (p && q) (.Call (.Name x pp) [a, b] [] pos) (f2 g fa fb) :=
  PE.weak (pe_callBfun hc hg hm (pa_cons ha (pa_cons hb pa_nil he2) he) hdb he hpl) fun σ H Q h => t_call2 o h
end
/-! ### sizes of what is shown -/
theorem strOk_app (a b : Str) : PyData.strOk (a ++ b) = (PyData.strOk a && PyData.strOk b) := by
  show (Array.all (a.cps ++ b.cps) _) = _
  rw [Array.all_append]
  rfl
theorem strOk_of (s : String) : PyData.strOk (Str.ofString s) = true := by
  unfold PyData.strOk
  rw [Str.ofString_eq_toList]
  rw [List.all_toArray, List.all_map, List.all_eq_true]
  intro c _
  refine decide_eq_true ?_
  have := c.valid
  rcases this with h | h
  · exact Nat.lt_trans h (by decide)
  · exact h.2
theorem strOk_join : ∀ {ts : List Str}, (∀ t ∈ ts, PyData.strOk t = true) → PyData.strOk (Str.join ", " ts) = true
  | [], _ => by show Array.all #[] _ = true; simp
  | [x], h => h x (List.mem_cons_self ..)
  | x :: y :: r, h => by
    show PyData.strOk (x ++ ", " ++ Str.join ", " (y :: r)) = true
    rw [strOk_app, strOk_app, h x (List.mem_cons_self ..), strOk_of, strOk_join fun t ht => h t (List.mem_cons_of_mem _ ht)]
    rfl
structure Sw (n : Nat) (d : D) : Prop where
  ok : d.showable = true
  nd : d.hasDict = false
  len : d.shown.length ≤ n
  st : PyData.strOk d.shown = true
theorem Sw.mono {n m : Nat} {d : D} (h : Sw n d) (k : n ≤ m) : Sw m d := ⟨h.1, h.2, Nat.le_trans h.3 k, h.4⟩
theorem Sw.int {k : Nat} {i : Int} (hk : 0 < k) (hk2 : k ≤ 480) (h : i.natAbs < 10 ^ k) : Sw (k + 1) (.int i) := by
  refine ⟨?_, by simp only [PyData.hasDict], ?_, by rw [PyData.shown_int]; exact strOk_of _⟩
  · simp only [PyData.showable]
    refine decide_eq_true ?_
    by_cases z : i.natAbs = 0
    · rw [z]; decide
    · refine (Nat.log2_lt z).mpr (Nat.lt_of_lt_of_le h (Nat.le_trans (Nat.pow_le_pow_left (show 10 ≤ 2 ^ 4 by decide) k) ?_))
      rw [← Nat.pow_mul]
      exact Nat.pow_le_pow_right (by decide) (by omega)
  · rw [PyData.shown_int, PySem.ofString_length]
    exact int_text_length_le10 hk h
theorem Sw.bool (b : Bool) : Sw 5 (.bool b) := ⟨by simp only [PyData.showable], by simp only [PyData.hasDict], by rw [PyData.shown_bool]; cases b <;> decide, by rw [PyData.shown_bool]; cases b <;> exact strOk_of _⟩
theorem Sw.none : Sw 4 .none := ⟨by simp only [PyData.showable], by simp only [PyData.hasDict], by rw [PyData.shown_none]; decide, by rw [PyData.shown_none]; exact strOk_of _⟩
theorem join_le {n : Nat} : ∀ {ts : List Str}, (∀ t ∈ ts, t.length ≤ n) → (Str.join ", " ts).length ≤ ts.length * (n + 2)
  | [], _ => Nat.le_of_eq (by rw [List.length_nil, Nat.zero_mul]; rfl)
  | x :: r, h => by
    have h1 := join_length_add (x :: r) (List.cons_ne_nil _ _)
    have h2 : ∀ {us : List Str}, (∀ t ∈ us, t.length ≤ n) → piled us ≤ us.length * (n + 2) := fun {us} hu => by
      induction us with
      | nil => exact Nat.zero_le _
      | cons y us ih =>
        rw [piled_cons, List.length_cons, Nat.succ_mul]
        have a := ih fun t ht => hu t (List.mem_cons_of_mem _ ht)
        have b := hu y (List.mem_cons_self ..)
        omega
    have := h2 h
    omega
theorem showAll_of {n : Nat} : ∀ {ds : List D}, (∀ d ∈ ds, Sw n d) → PyData.showableAll ds = true ∧ PyData.hasDictAll ds = false ∧ (∀ t ∈ PyData.shownAll ds, t.length ≤ n) ∧ (∀ t ∈ PyData.shownAll ds, PyData.strOk t = true)
  | [], _ => ⟨by simp only [PyData.showableAll], by simp only [PyData.hasDictAll], fun t ht => (by rw [PyData.shownAll_nil] at ht; cases ht), fun t ht => by rw [PyData.shownAll_nil] at ht; cases ht⟩
  | d :: ds, h => by
    obtain ⟨a, b, c, c2⟩ := showAll_of fun e he => h e (List.mem_cons_of_mem _ he)
    have g := h d (List.mem_cons_self ..)
    refine ⟨by simp only [PyData.showableAll, g.ok, a, Bool.and_self], by simp only [PyData.hasDictAll, g.nd, b, Bool.or_self], fun t ht => ?_, fun t ht => ?_⟩
    · rw [PyData.shownAll_cons] at ht
      rcases List.mem_cons.mp ht with rfl | ht
      · exact g.len
      · exact c t ht
    · rw [PyData.shownAll_cons] at ht
      rcases List.mem_cons.mp ht with rfl | ht
      · exact g.st
      · exact c2 t ht
theorem Sw.list {n : Nat} {ds : List D} (h : ∀ d ∈ ds, Sw n d) : Sw (ds.length * (n + 2) + 2) (.list ds) := by
  obtain ⟨a, b, c, c2⟩ := showAll_of h
  refine ⟨by simp only [PyData.showable, a], by simp only [PyData.hasDict, b], ?_, by rw [PyData.shown_list, strOk_app, strOk_app, strOk_of, strOk_of, strOk_join c2]; rfl⟩
  rw [PyData.shown_list, strLen_append, strLen_append]
  have := join_le c
  rw [PyData.shownAll_length] at this
  have e1 : ((("[" : String) : Str)).length = 1 := rfl
  have e2 : ((("]" : String) : Str)).length = 1 := rfl
  omega
theorem Sw.tuple {n : Nat} {ds : List D} (h : ∀ d ∈ ds, Sw n d) : Sw (ds.length * (n + 2) + 3) (.tuple ds) := by
  obtain ⟨a, b, c, c2⟩ := showAll_of h
  refine ⟨by simp only [PyData.showable, a], by simp only [PyData.hasDict, b], ?_, by rw [PyData.shown_tuple, strOk_app, strOk_app, strOk_of, strOk_of, strOk_join c2]; rfl⟩
  rw [PyData.shown_tuple, strLen_append, strLen_append]
  have := join_le c
  rw [PyData.shownAll_length] at this
  have e1 : ((("(" : String) : Str)).length = 1 := rfl
  have e2 : (((if ds.length == 1 then ",)" else ")" : String) : Str)).length ≤ 2 := by split <;> decide
  omega
theorem Sw.repr {n : Nat} {d : D} (h : Sw n d) (hn : n ≤ sizeLine) (hs : isSq d = true) (hd : d.depth ≤ 64) : reprD d = some (.str d.shown) := by
  unfold reprD
  rw [if_pos ⟨hs, okShow_iff.mpr ⟨h.ok, h.nd, Nat.le_trans h.len hn, hd⟩⟩]
/-! ### a hook with more facts -/
def biB (x : Str) (id : String) (K : PySem.W.Frag) : Bool := match PySem.W.nsIn K mainGlobals x with
  | some (some (.builtin i)) => decide (i = id)
  | _ => false
theorem bi_ok {K : PySem.W.Frag} {h : Heap} {mg : Str → Option Value} (X : K.In h) (G : h.Ns mainGlobals mg) {x : Str} {id : String} (c : biB x id K = true) : mg x = some (.builtin id) := by
  unfold biB at c
  split at c
  · rename_i i e
    rw [← of_decide_eq_true c]
    exact PySem.W.mg_of X G e
  · cases c
abbrev AlB : Type := Bool × He.AlD
def obsB (ex : List (PySem.W.Frag → Bool)) (fa : List He.Fa) (fn : List He.DefD) (K : PySem.W.Frag) : AlB := (ex.all fun e => e K, He.obsD fa fn K)
def valB (fn : List He.DefD) : AlB := (true, He.valD fn)
def SaysB (ex : List (PySem.W.Frag → Bool)) (fa : List He.Fa) (fn : List He.DefD) (K : PySem.W.Frag) : Prop := obsB ex fa fn K = valB fn
def obsBG (n : Nat) (ex : List (PySem.W.Frag → Bool)) (fa : List He.Fa) (fn : List He.DefD) (g : Addr → Option Obj) : AlB := obsB ex fa fn (He.frG g (He.asD g n))
def hookB (n : Nat) (ex : List (PySem.W.Frag → Bool)) (fa : List He.Fa) (fn : List He.DefD) : PySem.W.Hook where
  α := AlB
  obs := fun s => obsBG n ex fa fn s.heap.get?
  val := fun _ => valB fn
  says := fun _ h => ∃ K : PySem.W.Frag, K.In h ∧ SaysB ex fa fn K
  of := fun _ _ e => ⟨_, He.frG_in, e⟩
  keeps := fun _ _ _ ⟨K, hK, c⟩ k => ⟨K, PySem.W.Frag.In.keeps hK k, c⟩
theorem obsBG_eq {n : Nat} {ex : List (PySem.W.Frag → Bool)} {fa : List He.Fa} {fn : List He.DefD} {g : Addr → Option Obj} {s : Shared} (h : ∀ a, g a = s.heap.get? a) : obsBG n ex fa fn g = (hookB n ex fa fn).obs s := by
  have e : g = s.heap.get? := funext h
  rw [e] <;> rfl
section
variable {xs : List (PySem.W.Frag → Bool)} {fa : List He.Fa} {fn : List He.DefD} {K : PySem.W.Frag}
theorem SaysB.d (c : SaysB xs fa fn K) : He.SaysD fa fn K := congrArg (fun z : AlB => z.2) c
theorem SaysB.more (c : SaysB xs fa fn K) (i : Nat) {f : PySem.W.Frag → Bool} (h : xs[i]? = some f := by rfl) : f K = true := List.all_eq_true.mp (congrArg (fun z : AlB => z.1) c) f (List.mem_of_getElem? h)
end
end SL
/-! enumerate, zip, reversed as what is walked. -/
namespace SL
open PySem PySem.Spec PyProof.Rows L2
def enumL : Nat → List D → List D
  | _, [] => []
  | k, d :: ds => .tuple [.int (k : Nat), d] :: enumL (k + 1) ds
theorem enumL_get : ∀ (k : Nat) (ds : List D) (i : Nat), (enumL k ds)[i]? = (ds[i]?).map fun d => .tuple [.int ((k + i : Nat) : Int), d]
  | _, [], _ => rfl
  | k, d :: ds, 0 => rfl
  | k, d :: ds, i + 1 => by
    show (enumL (k + 1) ds)[i]? = (ds[i]?).map _
    rw [enumL_get (k + 1) ds i, show k + 1 + i = k + (i + 1) by omega]
theorem enumL_length : ∀ (k : Nat) (ds : List D), (enumL k ds).length = ds.length
  | _, [] => rfl
  | k, d :: ds => by
    show (enumL (k + 1) ds).length + 1 = ds.length + 1
    rw [enumL_length]
def zipL : List D → List D → List D
  | d :: ds, e :: es => .tuple [d, e] :: zipL ds es
  | _, _ => []
theorem zipL_get : ∀ (ds es : List D) (i : Nat) (x : D), (zipL ds es)[i]? = some x → ∃ d e, ds[i]? = some d ∧ es[i]? = some e ∧ x = .tuple [d, e]
  | [], _, _, _, h => by cases h
  | _ :: _, [], _, _, h => by cases h
  | d :: ds, e :: es, 0, x, h => by cases h; exact ⟨d, e, rfl, rfl, rfl⟩
  | d :: ds, e :: es, i + 1, x, h => zipL_get ds es i x h
theorem zipL_length : ∀ (ds es : List D), (zipL ds es).length = min ds.length es.length
  | [], _ => (Nat.zero_min _).symm
  | _ :: _, [] => (Nat.min_zero _).symm
  | d :: ds, e :: es => by
    show (zipL ds es).length + 1 = _
    rw [zipL_length ds es, List.length_cons, List.length_cons]
    omega
section
variable {K : PySem.W.Frag} {G H : Hp}
theorem new_tup {G2 H2 : Hp} {T : Addr} {vs : List V} {ds : List D} (s2 : Same G2 H2) (n : H2 T = none) (x : DpAll K G2 vs ds) :
    Same H2 (upd H2 T (.tup vs)) ∧ ∃ G3, Same G2 G3 ∧ Same G3 (upd H2 T (.tup vs)) ∧ (∀ a o, G3 a = some o → G2 a = some o ∨ H2 a = none) ∧ Dp K G3 (.ref T) (.tuple ds) := by
  have ng := s2.free n
  refine ⟨same_laid n, upd G2 T (.tup vs), same_laid ng, fun a u e => ?_, fun a u e => ?_, .tup (.inl (.inl upd_same)) (DpAll.mono (same_laid ng) x)⟩
  · by_cases h : a = T
    · subst h; rw [upd_same] at e ⊢; exact e
    · rw [upd_ne h] at e ⊢; exact s2 _ _ e
  · by_cases h : a = T
    · subst h; exact .inr n
    · rw [upd_ne h] at e; exact .inl e
theorem turns_enum {a : Addr} {vs : List V} {ds : List D} (h1 : SqL K G a vs) (h2 : DpAll K G vs ds) : Turns K (Ite K a) (enumL 0 ds) G := fun i G2 H2 s1 s2 => by
  have q : SqL K H2 a vs := SqL.mono s2 (SqL.mono s1 h1)
  refine ⟨fun d e => ?_, fun h => ⟨vs, q, by rw [enumL_length] at h; rw [DpAll.length h2]; exact h⟩⟩
  rw [enumL_get, Nat.zero_add] at e
  obtain ⟨d', e0, rfl⟩ := Option.map_eq_some_iff.mp e
  obtain ⟨v, e1, dv⟩ := DpAll.get h2 e0
  refine ⟨⟨vs, v, q, e1⟩, fun x H3 ⟨T, y, ex, hT, eH, z⟩ => ?_⟩
  subst ex eH
  rw [z vs q] at e1
  cases e1
  exact new_tup s2 hT (.cons (.int _) (.cons (Dp.mono s1 dv) .nil))
theorem turns_zip {a b : Addr} {vs ws : List V} {ds es : List D} (h1 : SqL K G a vs) (h2 : DpAll K G vs ds) (h3 : SqL K G b ws) (h4 : DpAll K G ws es) : Turns K (Itz K a b) (zipL ds es) G := fun i G2 H2 s1 s2 => by
  have q : SqL K H2 a vs := SqL.mono s2 (SqL.mono s1 h1)
  have q' : SqL K H2 b ws := SqL.mono s2 (SqL.mono s1 h3)
  refine ⟨fun d e => ?_, fun h => ⟨vs, ws, q, q', ?_⟩⟩
  · obtain ⟨d1, d2, e0, e0', rfl⟩ := zipL_get ds es i d e
    obtain ⟨v, e1, dv⟩ := DpAll.get h2 e0
    obtain ⟨w, e2, dw⟩ := DpAll.get h4 e0'
    refine ⟨⟨vs, ws, v, w, q, q', e1, e2⟩, fun x H3 ⟨T, y, y', ex, hT, eH, z, z'⟩ => ?_⟩
    subst ex eH
    rw [z vs q] at e1
    cases e1
    rw [z' ws q'] at e2
    cases e2
    exact new_tup s2 hT (.cons (Dp.mono s1 dv) (.cons (Dp.mono s1 dw) .nil))
  · rw [zipL_length] at h
    rw [DpAll.length h2, DpAll.length h4]
    omega
theorem turns_rev {a : Addr} {vs : List V} {ds : List D} (h1 : SqL K G a vs) (h2 : DpAll K G vs ds) : Turns K (Itv K a vs.length) ds.reverse G := fun i G2 H2 s1 s2 => by
  have q : SqL K H2 a vs := SqL.mono s2 (SqL.mono s1 h1)
  have hl := DpAll.length h2
  refine ⟨fun d e => ?_, fun h => by
    rw [List.length_reverse] at h
    show vs.length ≤ i
    omega⟩
  have hi : i < ds.length := by
    have := (List.getElem?_eq_some_iff.mp e).1
    rwa [List.length_reverse] at this
  rw [List.getElem?_reverse hi] at e
  obtain ⟨v, e1, dv⟩ := DpAll.get h2 e
  rw [← hl] at e1
  refine ⟨⟨by omega, vs, v, q, e1⟩, fun x H3 ⟨eH, y⟩ => ?_⟩
  subst eH
  rw [y vs q] at e1
  cases e1
  exact ⟨Same.refl _, G2, Same.refl _, s2, fun a o z => .inl z, Dp.mono s1 dv⟩
end
@[simp] def lstD : D → Option (List D)
  | .list ds => some ds
  | _ => none
def iEnumD (f : FE) : FA := fun r => (f r).bind fun x => (lstD x.1).map fun ds => (enumL 0 ds, x.2)
@[simp] theorem iEnumD_r (f : FE) (r : Ev) : iEnumD f r = (f r).bind fun x => (lstD x.1).map fun ds => (enumL 0 ds, x.2) := rfl
def iRevD (f : FE) : FA := fun r => (f r).bind fun x => (lstD x.1).map fun ds => (ds.reverse, x.2)
@[simp] theorem iRevD_r (f : FE) (r : Ev) : iRevD f r = (f r).bind fun x => (lstD x.1).map fun ds => (ds.reverse, x.2) := rfl
def iZipD (f g : FE) : FA := fun r => (f r).bind fun x => (g x.2).bind fun y => (lstD x.1).bind fun ds => (lstD y.1).map fun es => (zipL ds es, y.2)
@[simp] theorem iZipD_r (f g : FE) (r : Ev) : iZipD f g r = (f r).bind fun x => (g x.2).bind fun y => (lstD x.1).bind fun ds => (lstD y.1).map fun es => (zipL ds es, y.2) := rfl
section
variable {X : Cx} {tg e e2 a b : Expr} {f g : FE} {p q : Bool} {pp pos tpos : Pos} {elts : List Expr} {kk : Nat}
theorem si_enum (hg : Gl X "enumerate") (hm : X.mg "enumerate" = none) (ha : SE X p e f) (hs : starEach [e] X.env = [(false, eval e X.env)] := by rfl) : SI X (.Tuple elts kk tpos) (.Call (.Name "enumerate" pp) [e] [] pos) (iEnumD f) :=
  PI.weak (pi_enum hg hm (pa_cons ha pa_nil hs) hs) fun σ H R ⟨C, G, r, ds, r', ok, hf, k⟩ => by
    unfold iEnumD at hf
    obtain ⟨⟨d, r1⟩, h1, h2⟩ := Option.bind_eq_some_iff.mp hf
    obtain ⟨ds', h3, h4⟩ := Option.map_eq_some_iff.mp h2
    cases h4
    refine ⟨C, G, r, d, _, ok, h1, fun v G1 H1 o1 s1 m1 x1 => ?_⟩
    cases x1 with
    | lst ha hb => cases h3; exact ⟨_, _, rfl, SqL.mono o1.sub ha, k _ G1 H1 o1 s1 (turns_enum ha hb)⟩
    | tup ha hb => cases h3
    | non => cases h3
    | bl => cases h3
    | int => cases h3
    | str => cases h3
    | dic => cases h3
theorem si_rev (hg : Gl X "reversed") (hm : X.mg "reversed" = none) (ha : SE X p e f) (hs : starEach [e] X.env = [(false, eval e X.env)] := by rfl) : SI X tg (.Call (.Name "reversed" pp) [e] [] pos) (iRevD f) :=
  PI.weak (pi_reversed hg hm (pa_cons ha pa_nil hs) hs) fun σ H R ⟨C, G, r, ds, r', ok, hf, k⟩ => by
    unfold iRevD at hf
    obtain ⟨⟨d, r1⟩, h1, h2⟩ := Option.bind_eq_some_iff.mp hf
    obtain ⟨ds', h3, h4⟩ := Option.map_eq_some_iff.mp h2
    cases h4
    refine ⟨C, G, r, d, _, ok, h1, fun v G1 H1 o1 s1 m1 x1 => ?_⟩
    cases x1 with
    | lst ha hb => cases h3; exact ⟨_, _, rfl, SqL.mono o1.sub ha, k _ G1 H1 o1 s1 (turns_rev ha hb)⟩
    | tup ha hb => cases h3
    | non => cases h3
    | bl => cases h3
    | int => cases h3
    | str => cases h3
    | dic => cases h3
theorem si_zip (hg : Gl X "zip") (hm : X.mg "zip" = none) (ha : SE X p e f) (hb : SE X q e2 g) (hs : starEach [e, e2] X.env = (false, eval e X.env) :: starEach [e2] X.env := by rfl) (hs2 : starEach [e2] X.env = (false, eval e2 X.env) :: starEach [] X.env := by rfl) (hpl : (backTo pos (starEach [e2] X.env)).any (·.1) = false := by rfl) :
    SI X (.Tuple elts kk tpos) (.Call (.Name "zip" pp) [e, e2] [] pos) (iZipD f g) :=
  PI.weak (pi_zip hg hm (pa_cons ha (pa_cons hb pa_nil hs2) hs) hs hpl) fun σ H R ⟨C, G, r, ds, r', ok, hf, k⟩ => by
    unfold iZipD at hf
    obtain ⟨⟨d, r1⟩, h1, hf⟩ := Option.bind_eq_some_iff.mp hf
    obtain ⟨⟨d2, r2⟩, h2, hf⟩ := Option.bind_eq_some_iff.mp hf
    obtain ⟨ds', h3, hf⟩ := Option.bind_eq_some_iff.mp hf
    obtain ⟨es', h4, hf⟩ := Option.map_eq_some_iff.mp hf
    cases hf
    refine ⟨C, G, r, d, r1, ok, h1, fun v G1 H1 o1 s1 m1 x1 => ⟨C, G1, r1, d2, _, o1, h2, fun w G2 H2 o2 s2 m2 x2 => ?_⟩⟩
    cases x1 with
    | lst ha hb =>
      cases x2 with
      | lst ha2 hb2 =>
        cases h3; cases h4
        exact ⟨_, _, _, _, rfl, SqL.mono o2.sub (SqL.mono s2 ha), SqL.mono o2.sub ha2, k _ G2 H2 o2 (s1.trans s2) (turns_zip (SqL.mono s2 ha) (DpAll.mono s2 hb) ha2 hb2)⟩
      | tup ha hb => cases h4
      | non => cases h4
      | bl => cases h4
      | int => cases h4
      | str => cases h4
      | dic => cases h4
    | tup ha hb => cases h3
    | non => cases h3
    | bl => cases h3
    | int => cases h3
    | str => cases h3
    | dic => cases h3
end
/-! ### x is True -/
def rIsB (neg : Bool) : R2 := fun x y H Q => ∃ b c, x = .bl b ∧ y = .bl c ∧ Q (.bl (neg != (b == c))) H
theorem op_isB {X : Cx} : OpR X (compareOp .Is) (rIsB false) := by
  intro pins s σ H x y v u Q I rx ry h
  obtain ⟨b, c, rfl, rfl, q⟩ := h
  cases rx
  cases ry
  show wpAny _ _ ((isSame (Value.bool b) (Value.bool c)) >>= fun z => pure (Value.bool z)) _ _ s
  refine wpAny_bind (wpAny_isSame_plain (by cases b <;> cases c <;> rfl) (wpAny_pure (fin_bl I q ?_)))
  cases b <;> cases c <;> rfl
theorem op_isNotB {X : Cx} : OpR X (compareOp .IsNot) (rIsB true) := by
  intro pins s σ H x y v u Q I rx ry h
  obtain ⟨b, c, rfl, rfl, q⟩ := h
  cases rx
  cases ry
  show wpAny _ _ ((isSame (Value.bool b) (Value.bool c)) >>= fun z => pure (Value.bool (!z))) _ _ s
  refine wpAny_bind (wpAny_isSame_plain (by cases b <;> cases c <;> rfl) (wpAny_pure (fin_bl I q ?_)))
  cases b <;> cases c <;> rfl
def isBD (neg : Bool) : D → D → Option D
  | .bool b, .bool c => some (.bool (neg != (b == c)))
  | _, _ => none
@[simp] theorem isBD_b (neg b c : Bool) : isBD neg (.bool b) (.bool c) = some (.bool (neg != (b == c))) := rfl
theorem o_isB {K : PySem.W.Frag} {neg : Bool} : Op2 K (rIsB neg) (isBD neg) := fun G H x y dx dy dz Q s hx hy e bk => by
  unfold isBD at e
  split at e
  · cases e
    exact ⟨_, _, hx.bool, hy.bool, bk.val s (.bl _)⟩
  · cases e
end SL
namespace SL
open PySem PySem.Spec PyProof.Rows L2
/-! ### working out -/
@[simp] theorem addD_i (i j : Int) : addD (.int i) (.int j) = some (.int (i + j)) := rfl
@[simp] theorem subD_i (i j : Int) : subD (.int i) (.int j) = some (.int (i - j)) := rfl
@[simp] theorem ltD_i (i j : Int) : ltD (.int i) (.int j) = some (.bool (decide (i < j))) := rfl
@[simp] theorem leD_i (i j : Int) : leD (.int i) (.int j) = some (.bool (decide (i ≤ j))) := rfl
@[simp] theorem gtD_i (i j : Int) : gtD (.int i) (.int j) = some (.bool (decide (j < i))) := rfl
@[simp] theorem geD_i (i j : Int) : geD (.int i) (.int j) = some (.bool (decide (j ≤ i))) := rfl
@[simp] theorem negD_i (i : Int) : negD (.int i) = some (.int (-i)) := rfl
theorem mulD_r {i j : Int} (h : isSmall j = true) : mulD (.int i) (.int j) = some (.int (i * j)) := by show (if _ then _ else _) = _; rw [if_pos (.inr h)]
theorem mulD_l {i j : Int} (h : isSmall i = true) : mulD (.int i) (.int j) = some (.int (i * j)) := by show (if _ then _ else _) = _; rw [if_pos (.inl h)]
theorem small_of {i : Int} (h1 : -(2 ^ 64) < i) (h2 : i < 2 ^ 64) : isSmall i = true := by
  unfold isSmall
  rw [decide_eq_true h1, decide_eq_true h2]
  rfl
theorem divD_p {i j : Int} (h : 0 < j) (h2 : j < 1073741824) : divD (.int i) (.int j) = some (.int (i / j)) := by
  show (if _ then _ else _) = _
  rw [if_pos ⟨by omega, by omega⟩, Int.fdiv_eq_ediv_of_nonneg _ (Int.le_of_lt h)]
theorem modD_p {i j : Int} (h : 0 < j) : modD (.int i) (.int j) = some (.int (i % j)) := by
  show (if _ then _ else _) = _
  rw [if_pos (by omega), Int.fmod_eq_emod_of_nonneg _ (Int.le_of_lt h)]
@[simp] theorem intD_i (i : Int) : intD (.int i) = some (.int i) := rfl
@[simp] theorem intD_b (b : Bool) : intD (.bool b) = some (.int (if b then 1 else 0)) := rfl
@[simp] theorem lenD_l (ds : List D) : lenD (.list ds) = some (.int ds.length) := rfl
@[simp] theorem lenD_t (ds : List D) : lenD (.tuple ds) = some (.int ds.length) := rfl
@[simp] theorem min2D_i (i j : Int) : min2D (.int i) (.int j) = some (.int (if j < i then j else i)) := rfl
@[simp] theorem max2D_i (i j : Int) : max2D (.int i) (.int j) = some (.int (if j > i then j else i)) := rfl
@[simp] theorem absD_i (i : Int) : absD (.int i) = some (.int (if i < 0 then -i else i)) := rfl
@[simp] theorem truD_b (b : Bool) : truD (.bool b) = some b := rfl
@[simp] theorem truD_l (ds : List D) : truD (.list ds) = some (!ds.isEmpty) := rfl
theorem ixD_l {ds : List D} {i : Int} {d : D} (h : atI ds i = some d) : ixD (.list ds) (.int i) = some d := h
theorem ixD_t {ds : List D} {i : Int} {d : D} (h : atI ds i = some d) : ixD (.tuple ds) (.int i) = some d := h
theorem at_nat {α : Type} {xs : List α} {i : Int} {d : α} (h0 : 0 ≤ i) (h : xs[i.toNat]? = some d) : atI xs i = some d := by
  obtain ⟨k, rfl⟩ := Int.eq_ofNat_of_zero_le h0
  exact atI_nat h
/-- a number at a place of a list of numbers -/
theorem ix_ints {ns : List Int} {i : Int} (h0 : 0 ≤ i) (h1 : i < ns.length) : ixD (.list (ns.map .int)) (.int i) = some (.int (ns.getD i.toNat 0)) := by
  have hl : i.toNat < ns.length := by omega
  exact ixD_l (at_nat h0 (by rw [List.getElem?_map, List.getElem?_eq_getElem hl, List.getD_eq_getElem?_getD, List.getElem?_eq_getElem hl]; rfl))
/-- loops, by what holds between two turns -/
theorem loop_ind {A : FG} {body : FS} (P : Nat → Ev → Prop) : ∀ {items : List D} {r : Ev} (k : Nat), P k r → (∀ i d r, items[i]? = some d → P (k + i) r → ∃ r1 r2, A d r = some r1 ∧ (body r1 = some (.nx r2) ∨ body r1 = some (.ct r2)) ∧ P (k + i + 1) r2) →
    ∃ r', loopF A body items r = some (.nx r') ∧ P (k + items.length) r'
  | [], r, k, h0, _ => ⟨r, rfl, h0⟩
  | d :: ds, r, k, h0, hs => by
    obtain ⟨r1, r2, h1, h2, h3⟩ := hs 0 d r rfl h0
    obtain ⟨r', h4, h5⟩ := loop_ind (A := A) (body := body) P (items := ds) (r := r2) (k + 1) h3 fun i d r e hp => by
      have := hs (i + 1) d r (by simpa using e) (by rw [← Nat.add_assoc, Nat.add_right_comm]; exact hp)
      rw [← Nat.add_assoc, Nat.add_right_comm k i 1] at this
      exact this
    refine ⟨r', ?_, by rw [List.length_cons, Nat.add_comm ds.length 1, ← Nat.add_assoc]; exact h5⟩
    show (A d r).bind _ = _
    rw [h1]
    show (match body r1 with | some (.nx r2) => loopF A body ds r2 | some (.ct r2) => loopF A body ds r2 | some (.bk r2) => some (.nx r2) | o => o) = _
    rcases h2 with h2 | h2 <;> rw [h2] <;> exact h4
theorem loop_all {A : FG} {body : FS} (P : Nat → Ev → Prop) {items : List D} {r : Ev} (h0 : P 0 r) (hs : ∀ i d r, items[i]? = some d → P i r → ∃ r1 r2, A d r = some r1 ∧ (body r1 = some (.nx r2) ∨ body r1 = some (.ct r2)) ∧ P (i + 1) r2) :
    ∃ r', loopF A body items r = some (.nx r') ∧ P items.length r' := by
  have := loop_ind (A := A) (body := body) P (items := items) 0 h0 (by simpa using hs)
  simpa using this
theorem loop_fold {α β : Type} {A : FG} {body : FS} (enc : α → D) (P : β → Ev → Prop) (step : β → α → β) : ∀ {xs : List α} {b : β} {r : Ev}, (∀ b x r, x ∈ xs → P b r → ∃ r1 r2, A (enc x) r = some r1 ∧ (body r1 = some (.nx r2) ∨ body r1 = some (.ct r2)) ∧ P (step b x) r2) → P b r →
    ∃ r', loopF A body (xs.map enc) r = some (.nx r') ∧ P (xs.foldl step b) r'
  | [], b, r, _, h => ⟨r, rfl, h⟩
  | x :: xs, b, r, hs, h => by
    obtain ⟨r1, r2, h1, h2, h3⟩ := hs b x r (List.mem_cons_self ..) h
    obtain ⟨r', h4, h5⟩ := loop_fold enc P step (xs := xs) (fun b y r hy => hs b y r (List.mem_cons_of_mem _ hy)) h3
    refine ⟨r', ?_, h5⟩
    show (A (enc x) r).bind _ = _
    rw [h1]
    show (match body r1 with | some (.nx r2) => loopF A body (xs.map enc) r2 | some (.ct r2) => loopF A body (xs.map enc) r2 | some (.bk r2) => some (.nx r2) | o => o) = _
    rcases h2 with h2 | h2 <;> rw [h2] <;> exact h4
theorem sFor_eq {src : FA} {A : FG} {body : FS} {r r1 : Ev} {ds : List D} (h : src r = some (ds, r1)) : sFor src A body r = loopF A body ds r1 := by unfold sFor; rw [h]; rfl
theorem sSeq_nx {F F' : FS} {r r1 : Ev} (h : F r = some (.nx r1)) : sSeq F F' r = F' r1 := by unfold sSeq; rw [h]
theorem sSeq_rt {F F' : FS} {r r1 : Ev} {d : D} (h : F r = some (.rt d r1)) : sSeq F F' r = some (.rt d r1) := by unfold sSeq; rw [h]
/-- comprehensions: each item by itself -/
theorem lcF_gen {vs : List Nat} {A : FG} {t : FT} {f : FE} {w : Ev} {α : Type} (enc : α → D) (p : α → Bool) (g : α → D) : ∀ {xs : List α} {r : Ev}, wipeE r vs = w → (∀ x ∈ xs, ∃ r1 r2, A (enc x) w = some r1 ∧ t r1 = some (p x, r2) ∧ (p x = true → ∃ r3, f r2 = some (g x, r3) ∧ wipeE r3 vs = w) ∧ (p x = false → wipeE r2 vs = w)) →
    lcF vs A t f (xs.map enc) r = some ((xs.filter p).map g, w)
  | [], r, hw, _ => by
    show some ([], wipeE r vs) = _
    rw [hw]; rfl
  | x :: xs, r, hw, h => by
    obtain ⟨r1, r2, h1, h2, h3, h4⟩ := h x List.mem_cons_self
    have ih : ∀ {r : Ev}, wipeE r vs = w → _ := fun {r} hr => lcF_gen enc p g (xs := xs) (r := r) hr fun e he => h e (List.mem_cons_of_mem _ he)
    show (A (enc x) (wipeE r vs)).bind _ = _
    rw [hw, h1]
    show (t r1).bind _ = _
    rw [h2]
    cases hp : p x with
    | true =>
      obtain ⟨r3, h5, h6⟩ := h3 hp
      refine Eq.trans (b := (f r2).bind fun y => (lcF vs A t f (xs.map enc) y.2).map fun z => (y.1 :: z.1, z.2)) rfl ?_
      rw [h5]
      show (lcF vs A t f (xs.map enc) r3).map _ = _
      rw [ih h6, List.filter_cons_of_pos hp]
      rfl
    | false =>
      refine Eq.trans (b := lcF vs A t f (xs.map enc) r2) rfl ?_
      rw [ih (h4 hp), List.filter_cons_of_neg (by rw [hp]; decide)]
theorem lcF_all {vs : List Nat} {A : FG} {f : FE} {w : Ev} {α : Type} (enc : α → D) (g : α → D) {xs : List α} {r : Ev} (hw : wipeE r vs = w) (h : ∀ x ∈ xs, ∃ r1 r3, A (enc x) w = some r1 ∧ f r1 = some (g x, r3) ∧ wipeE r3 vs = w) :
    lcF vs A gYes f (xs.map enc) r = some (xs.map g, w) := by
  have := lcF_gen (vs := vs) (A := A) (t := gYes) (f := f) (w := w) enc (fun _ => true) g (xs := xs) hw fun x hx => by
    obtain ⟨r1, r3, h1, h2, h3⟩ := h x hx
    exact ⟨r1, r1, h1, rfl, fun _ => ⟨r3, h2, h3⟩, fun z => by cases z⟩
  rw [this]
  congr 2
  rw [List.filter_eq_self.mpr (fun _ _ => rfl)]
theorem lLc_eq {src : FA} {vs : List Nat} {A : FG} {t : FT} {f : FE} {r r0 w : Ev} {ds zs : List D} (h1 : src r = some (ds, r0)) (h2 : lcF vs A t f ds r0 = some (zs, w)) (h3 : zs.length < sizeLine) : lLc src vs A t f r = some (zs, backE r0 w vs) := by
  unfold lLc
  rw [h1]
  show (lcF vs A t f ds r0).bind _ = _
  rw [h2]
  show (if zs.length < sizeLine then _ else _) = _
  rw [if_pos h3]
theorem rngL_map (n : Nat) : rngL 0 n = (List.range n).map (fun (i : Nat) => (.int i : D)) := by
  unfold rngL
  congr 1
  funext i
  rw [Int.zero_add]
theorem small_len {n : Nat} (h : n ≤ 10000000) : n < sizeLine := Nat.lt_of_le_of_lt h (by decide)
/-! ### equality, types -/
theorem shp_i (i : Int) : shp (.int i) = true := by simp [shp, SeqAt.shaped, PyData.canLay0, PyData.depth]
theorem shp_b (b : Bool) : shp (.bool b) = true := by simp [shp, SeqAt.shaped, PyData.canLay0, PyData.depth]
theorem shp_n : shp .none = true := by simp [shp, SeqAt.shaped, PyData.canLay0, PyData.depth]
@[simp] theorem eqD_i (i j : Int) : eqD (.int i) (.int j) = some (.bool (decide (i = j))) := by
  unfold eqD
  rw [if_pos ⟨shp_i i, shp_i j⟩]
  simp only [PyData.eqv, Bool.beq_eq_decide_eq]
@[simp] theorem neD_i (i j : Int) : neD (.int i) (.int j) = some (.bool (!decide (i = j))) := by
  unfold neD
  rw [if_pos ⟨shp_i i, shp_i j⟩]
  simp only [PyData.eqv, Bool.beq_eq_decide_eq]
@[simp] theorem eqD_b (i j : Bool) : eqD (.bool i) (.bool j) = some (.bool (decide (i = j))) := by
  unfold eqD
  rw [if_pos ⟨shp_b i, shp_b j⟩]
  simp only [PyData.eqv]
  cases i <;> cases j <;> rfl
@[simp] theorem neD_b (i j : Bool) : neD (.bool i) (.bool j) = some (.bool (!decide (i = j))) := by
  unfold neD
  rw [if_pos ⟨shp_b i, shp_b j⟩]
  simp only [PyData.eqv]
  cases i <;> cases j <;> rfl
/-- data without texts and dicts, of a depth -/
def lay : D → Bool
  | .none => true
  | .bool _ => true
  | .int _ => true
  | _ => false
theorem canLay_all : ∀ {ds : List D}, (∀ d ∈ ds, d.canLay0 = true) → PyData.canLayAll0 ds = true
  | [], _ => rfl
  | d :: ds, h => by
    unfold PyData.canLayAll0
    rw [h d List.mem_cons_self, canLay_all fun e he => h e (List.mem_cons_of_mem _ he)]
    rfl
theorem depth_all {n : Nat} : ∀ {ds : List D}, (∀ d ∈ ds, d.depth ≤ n) → PyData.depthAll ds ≤ n
  | [], _ => Nat.zero_le _
  | d :: ds, h => by
    unfold PyData.depthAll
    exact Nat.max_le.mpr ⟨h d List.mem_cons_self, depth_all fun e he => h e (List.mem_cons_of_mem _ he)⟩
/-- so deep, no deeper -/
def Sh (n : Nat) (d : D) : Prop := d.canLay0 = true ∧ d.depth ≤ n
theorem Sh.shp {n : Nat} {d : D} (h : Sh n d) (hn : n ≤ 64 := by decide) : shp d = true := by
  unfold SL.shp SeqAt.shaped
  rw [h.1, decide_eq_true (Nat.le_trans h.2 hn)]
  rfl
theorem Sh.int (n : Nat) (i : Int) : Sh n (.int i) := ⟨by simp [PyData.canLay0], by simp [PyData.depth]⟩
theorem Sh.bool (n : Nat) (i : Bool) : Sh n (.bool i) := ⟨by simp [PyData.canLay0], by simp [PyData.depth]⟩
theorem Sh.str (n : Nat) {i : Str} (h : PyData.strOk i = true) : Sh n (.str i) := ⟨by simp only [PyData.canLay0]; exact h, by simp [PyData.depth]⟩
theorem Sh.none (n : Nat) : Sh n .none := ⟨by simp [PyData.canLay0], by simp [PyData.depth]⟩
theorem Sh.list {n : Nat} {ds : List D} (h : ∀ d ∈ ds, Sh n d) : Sh (n + 1) (.list ds) := ⟨by simp only [PyData.canLay0]; exact canLay_all fun d hd => (h d hd).1, by simp only [PyData.depth]; exact Nat.succ_le_succ (depth_all fun d hd => (h d hd).2)⟩
theorem Sh.tuple {n : Nat} {ds : List D} (h : ∀ d ∈ ds, Sh n d) : Sh (n + 1) (.tuple ds) := ⟨by simp only [PyData.canLay0]; exact canLay_all fun d hd => (h d hd).1, by simp only [PyData.depth]; exact Nat.succ_le_succ (depth_all fun d hd => (h d hd).2)⟩
theorem Sh.ints (ns : List Int) : Sh 1 (.list (ns.map .int)) := Sh.list fun d hd => by
  obtain ⟨i, _, rfl⟩ := List.mem_map.mp hd
  exact Sh.int 0 i
theorem Sh.bools (ns : List Bool) : Sh 1 (.list (ns.map .bool)) := Sh.list fun d hd => by
  obtain ⟨i, _, rfl⟩ := List.mem_map.mp hd
  exact Sh.bool 0 i
theorem eqD_self {d : D} (h : shp d = true) : eqD d d = some (.bool true) := by
  unfold eqD
  rw [if_pos ⟨h, h⟩, SeqAt.eqv_refl _ (SeqAt.canLay_of_shaped h)]
theorem neD_self {d : D} (h : shp d = true) : neD d d = some (.bool false) := by
  unfold neD
  rw [if_pos ⟨h, h⟩, SeqAt.eqv_refl _ (SeqAt.canLay_of_shaped h)]
  rfl
@[simp] theorem isi_int_i (i : Int) : isiD "int" (.int i) = some (.bool true) := by
  show (kitB "int" "int").map _ = _
  rw [show kitB "int" "int" = some true by decide +kernel]; rfl
@[simp] theorem isi_bool_i (i : Int) : isiD "bool" (.int i) = some (.bool false) := by
  show (kitB "int" "bool").map _ = _
  rw [show kitB "int" "bool" = some false by decide +kernel]; rfl
@[simp] theorem isi_bool_b (i : Bool) : isiD "bool" (.bool i) = some (.bool true) := by
  show (kitB "bool" "bool").map _ = _
  rw [show kitB "bool" "bool" = some true by decide +kernel]; rfl
@[simp] theorem isi_int_b (i : Bool) : isiD "int" (.bool i) = some (.bool true) := by
  show (kitB "bool" "int").map _ = _
  rw [show kitB "bool" "int" = some true by decide +kernel]; rfl
@[simp] theorem isi_int_l (ds : List D) : isiD "int" (.list ds) = some (.bool false) := by
  show (kitB "list" "int").map _ = _
  rw [show kitB "list" "int" = some false by decide +kernel]; rfl
@[simp] theorem isi_int_t (ds : List D) : isiD "int" (.tuple ds) = some (.bool false) := by
  show (kitB "tuple" "int").map _ = _
  rw [show kitB "tuple" "int" = some false by decide +kernel]; rfl
@[simp] theorem isi_int_s (t : Str) : isiD "int" (.str t) = some (.bool false) := by
  show (kitB "str" "int").map _ = _
  rw [show kitB "str" "int" = some false by decide +kernel]; rfl
@[simp] theorem isi_int_n  : isiD "int" .none = some (.bool false) := by
  show (kitB "NoneType" "int").map _ = _
  rw [show kitB "NoneType" "int" = some false by decide +kernel]; rfl
@[simp] theorem isi_bool_l (ds : List D) : isiD "bool" (.list ds) = some (.bool false) := by
  show (kitB "list" "bool").map _ = _
  rw [show kitB "list" "bool" = some false by decide +kernel]; rfl
@[simp] theorem isi_bool_t (ds : List D) : isiD "bool" (.tuple ds) = some (.bool false) := by
  show (kitB "tuple" "bool").map _ = _
  rw [show kitB "tuple" "bool" = some false by decide +kernel]; rfl
@[simp] theorem isi_bool_s (t : Str) : isiD "bool" (.str t) = some (.bool false) := by
  show (kitB "str" "bool").map _ = _
  rw [show kitB "str" "bool" = some false by decide +kernel]; rfl
@[simp] theorem isi_bool_n  : isiD "bool" .none = some (.bool false) := by
  show (kitB "NoneType" "bool").map _ = _
  rw [show kitB "NoneType" "bool" = some false by decide +kernel]; rfl
@[simp] theorem isi_str_l (ds : List D) : isiD "str" (.list ds) = some (.bool false) := by
  show (kitB "list" "str").map _ = _
  rw [show kitB "list" "str" = some false by decide +kernel]; rfl
@[simp] theorem isi_str_t (ds : List D) : isiD "str" (.tuple ds) = some (.bool false) := by
  show (kitB "tuple" "str").map _ = _
  rw [show kitB "tuple" "str" = some false by decide +kernel]; rfl
@[simp] theorem isi_str_s (t : Str) : isiD "str" (.str t) = some (.bool true) := by
  show (kitB "str" "str").map _ = _
  rw [show kitB "str" "str" = some true by decide +kernel]; rfl
@[simp] theorem isi_str_i (t : Int) : isiD "str" (.int t) = some (.bool false) := by
  show (kitB "int" "str").map _ = _
  rw [show kitB "int" "str" = some false by decide +kernel]; rfl
@[simp] theorem isi_str_b (t : Bool) : isiD "str" (.bool t) = some (.bool false) := by
  show (kitB "bool" "str").map _ = _
  rw [show kitB "bool" "str" = some false by decide +kernel]; rfl
@[simp] theorem isi_str_n  : isiD "str" .none = some (.bool false) := by
  show (kitB "NoneType" "str").map _ = _
  rw [show kitB "NoneType" "str" = some false by decide +kernel]; rfl
@[simp] theorem isi_list_l (ds : List D) : isiD "list" (.list ds) = some (.bool true) := by
  show (kitB "list" "list").map _ = _
  rw [show kitB "list" "list" = some true by decide +kernel]; rfl
@[simp] theorem isi_list_t (ds : List D) : isiD "list" (.tuple ds) = some (.bool false) := by
  show (kitB "tuple" "list").map _ = _
  rw [show kitB "tuple" "list" = some false by decide +kernel]; rfl
@[simp] theorem isi_list_s (t : Str) : isiD "list" (.str t) = some (.bool false) := by
  show (kitB "str" "list").map _ = _
  rw [show kitB "str" "list" = some false by decide +kernel]; rfl
@[simp] theorem isi_list_i (t : Int) : isiD "list" (.int t) = some (.bool false) := by
  show (kitB "int" "list").map _ = _
  rw [show kitB "int" "list" = some false by decide +kernel]; rfl
@[simp] theorem isi_list_b (t : Bool) : isiD "list" (.bool t) = some (.bool false) := by
  show (kitB "bool" "list").map _ = _
  rw [show kitB "bool" "list" = some false by decide +kernel]; rfl
@[simp] theorem isi_list_n  : isiD "list" .none = some (.bool false) := by
  show (kitB "NoneType" "list").map _ = _
  rw [show kitB "NoneType" "list" = some false by decide +kernel]; rfl
@[simp] theorem isi_tuple_l (ds : List D) : isiD "tuple" (.list ds) = some (.bool false) := by
  show (kitB "list" "tuple").map _ = _
  rw [show kitB "list" "tuple" = some false by decide +kernel]; rfl
@[simp] theorem isi_tuple_t (ds : List D) : isiD "tuple" (.tuple ds) = some (.bool true) := by
  show (kitB "tuple" "tuple").map _ = _
  rw [show kitB "tuple" "tuple" = some true by decide +kernel]; rfl
@[simp] theorem isi_tuple_s (t : Str) : isiD "tuple" (.str t) = some (.bool false) := by
  show (kitB "str" "tuple").map _ = _
  rw [show kitB "str" "tuple" = some false by decide +kernel]; rfl
@[simp] theorem isi_tuple_i (t : Int) : isiD "tuple" (.int t) = some (.bool false) := by
  show (kitB "int" "tuple").map _ = _
  rw [show kitB "int" "tuple" = some false by decide +kernel]; rfl
@[simp] theorem isi_tuple_b (t : Bool) : isiD "tuple" (.bool t) = some (.bool false) := by
  show (kitB "bool" "tuple").map _ = _
  rw [show kitB "bool" "tuple" = some false by decide +kernel]; rfl
@[simp] theorem isi_tuple_n  : isiD "tuple" .none = some (.bool false) := by
  show (kitB "NoneType" "tuple").map _ = _
  rw [show kitB "NoneType" "tuple" = some false by decide +kernel]; rfl
theorem okR_of {i : Int} (h1 : -(2 ^ 62) ≤ i) (h2 : i < 2 ^ 62) : okR i = true := by
  unfold okR
  rw [decide_eq_true h1, decide_eq_true h2]
  rfl
theorem allD_true {α : Type} (xs : List α) : allD (.list (xs.map fun _ => .bool true)) = some (.bool true) := by
  have : xs.map (fun _ => (PyData.bool true)) = (xs.map fun _ => true).map .bool := by rw [List.map_map]; rfl
  rw [this]
  show (boolsOf _).map _ = _
  rw [boolsOf_map]
  show some (PyData.bool ((xs.map fun _ => true).all id)) = _
  congr 2
  rw [List.all_eq_true]
  intro x hx
  obtain ⟨_, _, rfl⟩ := List.mem_map.mp hx
  rfl
/-- a loop that may be left -/
theorem loop_brk {A : FG} {body : FS} (P : Nat → Ev → Prop) (Q : Ev → Prop) : ∀ {items : List D} {r : Ev} (k : Nat), P k r → (∀ i d r, items[i]? = some d → P (k + i) r → ∃ r1, A d r = some r1 ∧ ((∃ r2, (body r1 = some (.nx r2) ∨ body r1 = some (.ct r2)) ∧ P (k + i + 1) r2) ∨ ∃ r2, body r1 = some (.bk r2) ∧ Q r2)) →
    ∃ r', loopF A body items r = some (.nx r') ∧ (P (k + items.length) r' ∨ Q r')
  | [], r, k, h0, _ => ⟨r, rfl, .inl h0⟩
  | d :: ds, r, k, h0, hs => by
    obtain ⟨r1, h1, h2⟩ := hs 0 d r rfl h0
    rcases h2 with ⟨r2, h2, h3⟩ | ⟨r2, h2, h3⟩
    · obtain ⟨r', h4, h5⟩ := loop_brk (A := A) (body := body) P Q (items := ds) (r := r2) (k + 1) h3 fun i d r e hp => by
        have := hs (i + 1) d r (by simpa using e) (by rw [← Nat.add_assoc, Nat.add_right_comm]; exact hp)
        rw [← Nat.add_assoc, Nat.add_right_comm k i 1] at this
        exact this
      refine ⟨r', ?_, by rw [List.length_cons, Nat.add_comm ds.length 1, ← Nat.add_assoc]; exact h5⟩
      show (A d r).bind _ = _
      rw [h1]
      show (match body r1 with | some (.nx r2) => loopF A body ds r2 | some (.ct r2) => loopF A body ds r2 | some (.bk r2) => some (.nx r2) | o => o) = _
      rcases h2 with h2 | h2 <;> rw [h2] <;> exact h4
    · refine ⟨r2, ?_, .inr h3⟩
      show (A d r).bind _ = _
      rw [h1]
      show (match body r1 with | some (.nx r2) => loopF A body ds r2 | some (.ct r2) => loopF A body ds r2 | some (.bk r2) => some (.nx r2) | o => o) = _
      rw [h2]
/-! ### items at written places -/
theorem atI_lit {α : Type} (ds : List α) (n : Nat) : atI ds (n : Int) = ds[n]? := by
  unfold atI ixN
  rw [if_pos (by omega)]
  by_cases h : n < ds.length
  · rw [if_pos (by omega)]; rfl
  · rw [if_neg (by omega), List.getElem?_eq_none (by omega)]; rfl
@[simp] theorem ixL_0 (ds : List D) : ixD (.list ds) (.int 0) = ds[0]? := atI_lit ds 0
@[simp] theorem ixT_0 (ds : List D) : ixD (.tuple ds) (.int 0) = ds[0]? := atI_lit ds 0
@[simp] theorem ixL_1 (ds : List D) : ixD (.list ds) (.int 1) = ds[1]? := atI_lit ds 1
@[simp] theorem ixT_1 (ds : List D) : ixD (.tuple ds) (.int 1) = ds[1]? := atI_lit ds 1
@[simp] theorem ixL_2 (ds : List D) : ixD (.list ds) (.int 2) = ds[2]? := atI_lit ds 2
@[simp] theorem ixT_2 (ds : List D) : ixD (.tuple ds) (.int 2) = ds[2]? := atI_lit ds 2
@[simp] theorem ixL_3 (ds : List D) : ixD (.list ds) (.int 3) = ds[3]? := atI_lit ds 3
@[simp] theorem ixT_3 (ds : List D) : ixD (.tuple ds) (.int 3) = ds[3]? := atI_lit ds 3
@[simp] theorem ixL_4 (ds : List D) : ixD (.list ds) (.int 4) = ds[4]? := atI_lit ds 4
@[simp] theorem ixT_4 (ds : List D) : ixD (.tuple ds) (.int 4) = ds[4]? := atI_lit ds 4
@[simp] theorem ixL_5 (ds : List D) : ixD (.list ds) (.int 5) = ds[5]? := atI_lit ds 5
@[simp] theorem ixT_5 (ds : List D) : ixD (.tuple ds) (.int 5) = ds[5]? := atI_lit ds 5
@[simp] theorem ixL_6 (ds : List D) : ixD (.list ds) (.int 6) = ds[6]? := atI_lit ds 6
@[simp] theorem ixT_6 (ds : List D) : ixD (.tuple ds) (.int 6) = ds[6]? := atI_lit ds 6
@[simp] theorem ixL_7 (ds : List D) : ixD (.list ds) (.int 7) = ds[7]? := atI_lit ds 7
@[simp] theorem ixT_7 (ds : List D) : ixD (.tuple ds) (.int 7) = ds[7]? := atI_lit ds 7
@[simp] theorem ixL_8 (ds : List D) : ixD (.list ds) (.int 8) = ds[8]? := atI_lit ds 8
@[simp] theorem ixT_8 (ds : List D) : ixD (.tuple ds) (.int 8) = ds[8]? := atI_lit ds 8
@[simp] theorem ixL_9 (ds : List D) : ixD (.list ds) (.int 9) = ds[9]? := atI_lit ds 9
@[simp] theorem ixT_9 (ds : List D) : ixD (.tuple ds) (.int 9) = ds[9]? := atI_lit ds 9
@[simp] theorem ixL_10 (ds : List D) : ixD (.list ds) (.int 10) = ds[10]? := atI_lit ds 10
@[simp] theorem ixT_10 (ds : List D) : ixD (.tuple ds) (.int 10) = ds[10]? := atI_lit ds 10
@[simp] theorem ixL_11 (ds : List D) : ixD (.list ds) (.int 11) = ds[11]? := atI_lit ds 11
@[simp] theorem ixT_11 (ds : List D) : ixD (.tuple ds) (.int 11) = ds[11]? := atI_lit ds 11
@[simp] theorem ixL_12 (ds : List D) : ixD (.list ds) (.int 12) = ds[12]? := atI_lit ds 12
@[simp] theorem ixT_12 (ds : List D) : ixD (.tuple ds) (.int 12) = ds[12]? := atI_lit ds 12
@[simp] theorem ix_two (a b : D) (c : Prop) [Decidable c] : ixD (.list [a, b]) (.int (if c then 1 else 0)) = some (if c then b else a) := by
  by_cases h : c
  · rw [if_pos h, if_pos h]; rfl
  · rw [if_neg h, if_neg h]; rfl
@[simp] theorem ix_twoB (a b : D) (c : Bool) : ixD (.list [a, b]) (.int (if c then 1 else 0)) = some (if c then b else a) := by
  cases c <;> rfl
/-! ### slices -/
def cutL {α : Type} (xs : List α) (lo hi : Option Int) : List α := (xs.drop (HT.sIx xs.length 0 lo)).take (HT.sIx xs.length xs.length hi - HT.sIx xs.length 0 lo)
theorem cutD_map {α : Type} (f : α → D) (xs : List α) (lo hi : Option Int) : cutD (xs.map f) lo hi = (cutL xs lo hi).map f := by
  unfold cutD cutL
  rw [List.length_map, List.map_take, List.map_drop]
theorem cutL_nat {α : Type} (xs : List α) (i j : Nat) (h : j ≤ xs.length) : cutL xs (some (i : Int)) (some (j : Int)) = (xs.drop i).take (j - i) := by
  unfold cutL
  rw [HT.sIx_nat, HT.sIx_nat]
  by_cases hi : i ≤ xs.length
  · rw [Nat.min_eq_left hi, Nat.min_eq_left h]
  · rw [show min j xs.length - min i xs.length = 0 by omega, show j - i = 0 by omega, List.take_zero, List.take_zero]
theorem mem_cutL {α : Type} {xs : List α} {lo hi : Option Int} {x : α} (h : x ∈ cutL xs lo hi) : x ∈ xs := List.mem_of_mem_drop (List.mem_of_mem_take h)
@[simp] theorem isD_none : isD .none .none = some (.bool true) := rfl
@[simp] theorem isD_int (i : Int) : isD (.int i) .none = some (.bool false) := rfl
@[simp] theorem isD_bool (b : Bool) : isD (.bool b) .none = some (.bool false) := rfl
@[simp] theorem isD_str (b : Str) : isD (.str b) .none = some (.bool false) := rfl
@[simp] theorem isD_list (ds : List D) : isD (.list ds) .none = some (.bool false) := rfl
@[simp] theorem isD_tuple (ds : List D) : isD (.tuple ds) .none = some (.bool false) := rfl
@[simp] theorem isNotD_none : isNotD .none .none = some (.bool false) := rfl
@[simp] theorem isNotD_int (i : Int) : isNotD (.int i) .none = some (.bool true) := rfl
@[simp] theorem isNotD_bool (b : Bool) : isNotD (.bool b) .none = some (.bool true) := rfl
@[simp] theorem isNotD_str (b : Str) : isNotD (.str b) .none = some (.bool true) := rfl
@[simp] theorem isNotD_list (ds : List D) : isNotD (.list ds) .none = some (.bool true) := rfl
@[simp] theorem isNotD_tuple (ds : List D) : isNotD (.tuple ds) .none = some (.bool true) := rfl
end SL
namespace SL
open PySem PySem.Spec PyProof.Rows L2
def drawTurn : FS := (sSeq (sSet 6 (fC (.int 0)))
    (sSeq (sIf (gT (f2 gtD (f1 lenD (fVp 2)) (fC (.int 0)))) (sSeq (sSet 7 (f2 modD (f1 intD (fV 5)) (f1 lenD (fVp 2))))
    (sIf (gT (f2 geD (f2 ixD (fVp 2) (fV 7)) (f2 powD (fC (.int 10)) (fC (.int 18))))) (sSeq (sSet 6 (f2 modD (f1 intD (f2 ixD (fVp 2) (fV 7))) (fC (.int 1000))))
    (sPut 2 (fV 7) (f2 divD (f2 ixD (fVp 2) (fV 7)) (fC (.int 1000))))) (sSeq (sSet 8 (f2 modD (f1 intD (f2 addD (f2 addD (f2 mulD (f2 ixD (fVp 2) (fV 7)) (fC (.int 48271))) (f2 mulD (fV 5) (fC (.int 69621)))) (fC (.int 11)))) (fC (.int 2147483647))))
    (sSeq (sSet 8 (f2 modD (f1 intD (f2 addD (f2 mulD (fV 8) (fC (.int 16807))) (fV 7))) (fC (.int 2147483629))))
    (sSet 6 (f2 modD (f1 intD (f2 divD (fV 8) (fC (.int 7)))) (fC (.int 1000)))))))) sNext)
    (sApp 4 (fV 6))))
def drawF : FS := (sSeq (sSetO 2 (lLc (iSeq (fV 0)) [3] (gNm 3) gYes (fV 3)))
    (sSeq (sSetO 4 (lDisp aNil))
    (sSeq (sFor (iRng1 (fV 1)) (gNm 5) drawTurn)
    (sRet (fV 4)))))
theorem pow_18 : powD (.int 10) (.int 18) = some (.int 1000000000000000000) := by
  simp [powD]
theorem draw_turn (s c : D) (rests ds : List Int) (k : Int) (c6 c7 c8 : Option Cell) (hk : 0 ≤ k) (hd : ds.length < sizeLine) :
    ∃ (rests' : List Int) (v : Int) (c7' c8' : Option Cell), rests'.length = rests.length ∧ 0 ≤ v ∧ v < 1000 ∧
      drawTurn [some (.val s), some (.val c), some (.own (rests.map .int)), none, some (.own (ds.map .int)), some (.val (.int k)), c6, c7, c8] =
        some (.nx [some (.val s), some (.val c), some (.own (rests'.map .int)), none, some (.own ((ds ++ [v]).map .int)), some (.val (.int k)), some (.val (.int v)), c7', c8']) := by
  by_cases h0 : rests = []
  · subst h0
    refine ⟨[], 0, c7, c8, rfl, by decide, by decide, ?_⟩
    unfold drawTurn
    simp [sSeq, sSet, sIf, gT, f2, f1, fVp, fV, fC, sApp, listAt, sNext, hd]
  · have hl : 0 < rests.length := List.length_pos_iff.mpr h0
    have hm1 : 0 ≤ k % (rests.length : Int) := Int.emod_nonneg _ (by omega)
    have hm2 : k % (rests.length : Int) < (rests.length : Int) := Int.emod_lt_of_pos _ (by omega)
    have hix := ix_ints (ns := rests) hm1 hm2
    generalize ha : k % (rests.length : Int) = a at hm1 hm2 hix
    generalize hx : rests.getD a.toNat 0 = x at hix
    have hlen : (0 : Int) < (rests.length : Int) := by omega
    have hb : decide ((0 : Int) < ((rests.map PyData.int).length : Int)) = true := by rw [List.length_map]; exact decide_eq_true hlen
    have hat : k % (((rests.map PyData.int).length : Nat) : Int) = a := by rw [List.length_map]; exact ha
    have hj : ixN rests.length a = some a.toNat := by
      unfold ixN
      rw [if_pos hm1, if_pos hm2]
    by_cases hg : 1000000000000000000 ≤ x
    · refine ⟨rests.set a.toNat (x / 1000), x % 1000, some (.val (.int a)), c8, by rw [List.length_set], Int.emod_nonneg _ (by decide), Int.emod_lt_of_pos _ (by decide), ?_⟩
      unfold drawTurn
      simp [sSeq, sSet, sIf, gT, f2, f1, fVp, fV, fC, sApp, listAt, sNext, sPut, hd, pow_18, modD_p (i := k) hlen, modD_p, divD_p, hl, ha, hix, hg, hj, List.map_set]
    · have e1 := mulD_r (i := x) (j := 48271) (small_of (by decide) (by decide))
      have e2 := mulD_r (i := k) (j := 69621) (small_of (by decide) (by decide))
      have e3 := mulD_r (i := (x * 48271 + k * 69621 + 11) % 2147483647) (j := 16807) (small_of (by decide) (by decide))
      refine ⟨rests, (((x * 48271 + k * 69621 + 11) % 2147483647 * 16807 + a) % 2147483629 / 7) % 1000, some (.val (.int a)), some (.val (.int (((x * 48271 + k * 69621 + 11) % 2147483647 * 16807 + a) % 2147483629))), rfl, Int.emod_nonneg _ (by decide), Int.emod_lt_of_pos _ (by decide), ?_⟩
      unfold drawTurn
      simp [sSeq, sSet, sIf, gT, f2, f1, fVp, fV, fC, sApp, listAt, sNext, sPut, hd, pow_18, modD_p (i := k) hlen, modD_p, divD_p, hl, ha, hix, hg, e1, e2, e3]
theorem draws_ok (ns : List Int) (hn : ns.length ≤ 1000) (c : Nat) (hc : c ≤ 1000) : ∃ ds : List Int, runP 9 drawF [.list (ns.map .int), .int c] = some (.list (ds.map .int)) ∧ ds.length = c ∧ ∀ x ∈ ds, 0 ≤ x ∧ x < 1000 := by
  have h1 : sSetO 2 (lLc (iSeq (fV 0)) [3] (gNm 3) gYes (fV 3)) (startE 9 [.list (ns.map .int), .int c]) = some (.nx [some (.val (.list (ns.map .int))), some (.val (.int c)), some (.own (ns.map .int)), none, none, none, none, none, none]) := by
    unfold sSetO
    rw [lLc_eq (r0 := startE 9 [.list (ns.map .int), .int c]) (ds := ns.map .int) (zs := ns.map .int) (w := startE 9 [.list (ns.map .int), .int c]) ?a ?b ?c]
    · rfl
    · simp [iSeq, fV, startE, seqD]
    · exact lcF_all (fun i => .int i) (fun i => .int i) rfl fun x _ => ⟨_, _, rfl, rfl, rfl⟩
    · rw [List.length_map]; exact small_len (by omega)
  have h2 : iRng1 (fV 1) [some (.val (.list (ns.map .int))), some (.val (.int c)), some (.own (ns.map .int)), none, some (.own []), none, none, none, none] = some (rngL 0 c, [some (.val (.list (ns.map .int))), some (.val (.int c)), some (.own (ns.map .int)), none, some (.own []), none, none, none, none]) := by
    have : okR (c : Int) = true := by
      unfold okR
      rw [decide_eq_true (by omega), decide_eq_true (by omega)]; rfl
    simp [iRng1, fV, this]
  obtain ⟨r', h3, rests, ds, c5, c6, c7, c8, rfl, _, hl, hb⟩ := loop_all (A := gNm 5) (body := drawTurn) (items := rngL 0 c) (r := [some (.val (.list (ns.map .int))), some (.val (.int c)), some (.own (ns.map .int)), none, some (.own []), none, none, none, none])
    (fun i r => ∃ (rests ds : List Int) (c5 c6 c7 c8 : Option Cell), r = [some (.val (.list (ns.map .int))), some (.val (.int c)), some (.own (rests.map .int)), none, some (.own (ds.map .int)), c5, c6, c7, c8] ∧ rests.length = ns.length ∧ ds.length = i ∧ ∀ x ∈ ds, 0 ≤ x ∧ x < 1000)
    ⟨ns, [], none, none, none, none, rfl, rfl, rfl, fun x h => by cases h⟩ fun i d r e ⟨rests, ds, c5, c6, c7, c8, er, h1, h2, h3⟩ => by
      subst er
      obtain ⟨hi, rfl⟩ := rngL_get e
      obtain ⟨rests', v, c7', c8', g1, g2, g3, g4⟩ := draw_turn (.list (ns.map .int)) (.int c) rests ds (0 + i) c6 c7 c8 (by omega) (small_len (by omega))
      refine ⟨_, _, rfl, .inl g4, rests', ds ++ [v], _, _, _, _, rfl, by omega, by rw [List.length_append, h2]; rfl, fun x hx => ?_⟩
      rcases List.mem_append.mp hx with hx | hx
      · exact h3 x hx
      · obtain rfl : x = v := by simpa using hx
        exact ⟨g2, g3⟩
  refine ⟨ds, ?_, by rw [hl, rngL_length], hb⟩
  unfold runP drawF
  rw [sSeq_nx h1, sSeq_nx (r1 := [some (.val (.list (ns.map .int))), some (.val (.int c)), some (.own (ns.map .int)), none, some (.own []), none, none, none, none]) rfl, sSeq_nx (by rw [sFor_eq h2]; exact h3)]
  simp [sRet, fV, endP]
end SL
/-! The ring's functions, program's and law's, in plain numbers. -/
namespace Rg
open PySem PySem.Spec PyProof.Rows L2 SL
def F__law_ring : FS := (sSeq (sSet 1 (f2 addD (fC (.int 3)) (f2 modD (f1 intD (f2 ixD (fV 0) (fC (.int 0)))) (f2 ixD (fL (lDisp (aCons (fC (.int 10)) (aCons (fC (.int 58)) aNil)))) (f2 modD (f1 intD (f2 ixD (fV 0) (fC (.int 1)))) (fC (.int 2)))))))
    (sRet (fV 1)))
def R__law_ring : List D → Option D := runP 2 F__law_ring
def F__law_satellite : FS := (sRet (fTup (aCons (f2 modD (f1 intD (f2 ixD (fV 0) (fC (.int 0)))) (fV 1)) (aCons (f2 modD (f1 intD (f2 ixD (fV 0) (fC (.int 1)))) (fV 1)) (aCons (f2 ixD (fL (lDisp (aCons (fC (.int 0)) (aCons (fC (.int 1)) (aCons (fC (.int 2)) (aCons (fC (.int 5)) (aCons (fC (.int 30)) aNil))))))) (f2 modD (f1 intD (f2 ixD (fV 0) (fC (.int 2)))) (fC (.int 5)))) aNil)))))
def R__law_satellite : List D → Option D := runP 2 F__law_satellite
def F__law_cells : FS := (sSeq (sSet 3 (f2 ixD (fV 1) (fC (.int 0))))
    (sSeq (sSetO 4 (lDisp aNil))
    (sSeq (sFor (iRng1 (fV 2)) (gNm 5) (sSeq (sApp 4 (fV 3))
    (sSeq (sSet 3 (f2 addD (fV 3) (f2 ixD (fV 1) (fC (.int 1)))))
    (sIf (gT (f2 geD (fV 3) (fV 0))) (sSet 3 (f2 subD (fV 3) (fV 0))) sNext))))
    (sRet (fV 4)))))
def R__law_cells : List D → Option D := runP 6 F__law_cells
def F_place_of : FS := (sSeq (sAsg (fV 1) (gTp 3 (gsCons (gNm 3) (gsCons (gNm 4) (gsCons (gNm 5) gsNil)))))
    (sRet (f2 modD (f2 addD (fV 3) (f2 mulD (fV 4) (fV 2))) (fV 0))))
def R_place_of : List D → Option D := runP 6 F_place_of
def F__law_way : FS := (sSeq (sSet 3 (fC (.int 0)))
    (sSeq (sSet 4 (fV 1))
    (sSeq (sSet 5 (fV 1))
    (sSeq (sFor (iRng1 (fV 0)) (gNm 6) (sSeq (sIf (gOr (gT (f2 eqD (fV 4) (fV 2))) (gT (f2 eqD (fV 5) (fV 2)))) sBrk sNext)
    (sSeq (sSet 3 (f2 addD (fV 3) (fC (.int 1))))
    (sSeq (sSet 4 (f2 ixD (fL (lDisp (aCons (f2 addD (fV 4) (fC (.int 1))) (aCons (fC (.int 0)) aNil)))) (f1 intD (f2 eqD (fV 4) (f2 subD (fV 0) (fC (.int 1)))))))
    (sSet 5 (f2 ixD (fL (lDisp (aCons (f2 subD (fV 5) (fC (.int 1))) (aCons (f2 subD (fV 0) (fC (.int 1))) aNil)))) (f1 intD (f2 eqD (fV 5) (fC (.int 0))))))))))
    (sRet (fV 3))))))
def R__law_way : List D → Option D := runP 7 F__law_way
def F__law_seen : FS := (sSeq (sSet 4 (fL (lLc (iRng1 (fV 0)) [5] (gNm 5) gYes (f2 leD (fCall R__law_way (aCons (fV 0) (aCons (fV 5) (aCons (fV 2) aNil)))) (f2 ixD (fV 1) (fC (.int 2)))))))
    (sRet (fL (lLc (iSeq (fCall R__law_cells (aCons (fV 0) (aCons (fV 1) (aCons (fV 3) aNil))))) [5] (gNm 5) gYes (f2 ixD (fV 4) (fV 5))))))
def R__law_seen : List D → Option D := runP 6 F__law_seen
def F_way : FS := (sSeq (sSet 3 (f2 modD (f2 subD (fV 2) (fV 1)) (fV 0)))
    (sRet (f2 min2D (fV 3) (f2 subD (fV 0) (fV 3)))))
def R_way : List D → Option D := runP 4 F_way
def F_sees : FS := (sRet (f2 leD (fCall R_way (aCons (fV 0) (aCons (fCall R_place_of (aCons (fV 0) (aCons (fV 1) (aCons (fV 3) aNil)))) (aCons (fV 2) aNil)))) (f2 ixD (fV 1) (fC (.int 2)))))
def R_sees : List D → Option D := runP 4 F_sees
def cellAt (n a b : Int) (t : Nat) : Int := (a + b * t) % n
def wayZ (n a b : Int) : Int := if n - (b - a) % n < (b - a) % n then n - (b - a) % n else (b - a) % n
theorem place_ok (n a b c t : Int) (hn : 0 < n) (hb : isSmall b = true) : R_place_of [.int n, .tuple [.int a, .int b, .int c], .int t] = some (.int ((a + b * t) % n)) := by
  unfold R_place_of runP F_place_of
  simp [startE, sSeq, sAsg, sRet, fV, f2, gTp, gsCons, gsNil, gNm, mulD_l hb, modD_p hn, endP]
theorem way_ok (n a b : Int) (hn : 0 < n) : R_way [.int n, .int a, .int b] = some (.int (wayZ n a b)) := by
  unfold R_way runP F_way wayZ
  simp [startE, sSeq, sSet, sRet, fV, f2, modD_p hn, endP]
theorem diff_mod {n x y : Int} (hx : 0 ≤ x) (hx2 : x < n) (hy : 0 ≤ y) (hy2 : y < n) : (y - x) % n = if x ≤ y then y - x else y - x + n := by
  split
  · exact Int.emod_eq_of_lt (by omega) (by omega)
  · rw [← Int.add_emod_right, Int.emod_eq_of_lt (by omega) (by omega)]
theorem cell_next {n a b : Int} (hn : 0 < n) (hb : 0 ≤ b) (hb2 : b < n) (t : Nat) : cellAt n a b (t + 1) = if cellAt n a b t + b ≥ n then cellAt n a b t + b - n else cellAt n a b t + b := by
  have h1 := Int.emod_nonneg (a + b * t) (show n ≠ 0 by omega)
  have h2 := Int.emod_lt_of_pos (a + b * t) hn
  unfold cellAt
  have e : (a + b * ((t + 1 : Nat) : Int)) = (a + b * t) + b := by rw [Int.natCast_add, Int.mul_add]; omega
  rw [e, Int.add_emod, Int.emod_eq_of_lt hb hb2]
  generalize (a + b * t) % n = c at h1 h2
  split
  · rw [← Int.sub_emod_right, Int.emod_eq_of_lt (by omega) (by omega)]
  · exact Int.emod_eq_of_lt (by omega) (by omega)
theorem cells_turn (n b : Int) (x y z : D) (cs : List Int) (c : Int) (c5 : Option Cell) (hd : cs.length < sizeLine) :
    (sSeq (sApp 4 (fV 3)) (sSeq (sSet 3 (f2 addD (fV 3) (f2 ixD (fV 1) (fC (.int 1))))) (sIf (gT (f2 geD (fV 3) (fV 0))) (sSet 3 (f2 subD (fV 3) (fV 0))) sNext))) [some (.val (.int n)), some (.val (.tuple [x, .int b, y])), some (.val z), some (.val (.int c)), some (.own (cs.map .int)), c5] =
      some (.nx [some (.val (.int n)), some (.val (.tuple [x, .int b, y])), some (.val z), some (.val (.int (if c + b ≥ n then c + b - n else c + b))), some (.own ((cs ++ [c]).map .int)), c5]) := by
  by_cases h : n ≤ c + b
  · simp [sSeq, sSet, sIf, gT, f2, f1, fVp, fV, fC, sApp, SL.listAt, sNext, hd, ixD, atI, ixN, h]
  · simp [sSeq, sSet, sIf, gT, f2, f1, fVp, fV, fC, sApp, SL.listAt, sNext, hd, ixD, atI, ixN, h]
theorem cells_ok (n a b : Int) (y : D) (hn : 0 < n) (ha : 0 ≤ a) (ha2 : a < n) (hb : 0 ≤ b) (hb2 : b < n) (m : Nat) (hm : m ≤ 1000) : R__law_cells [.int n, .tuple [.int a, .int b, y], .int m] = some (.list (((List.range m).map (cellAt n a b)).map .int)) := by
  have hm2 := okR_of (i := (m : Int)) (by omega) (by omega)
  obtain ⟨r', h3, c5, rfl⟩ := loop_all (A := gNm 5) (body := (sSeq (sApp 4 (fV 3)) (sSeq (sSet 3 (f2 addD (fV 3) (f2 ixD (fV 1) (fC (.int 1))))) (sIf (gT (f2 geD (fV 3) (fV 0))) (sSet 3 (f2 subD (fV 3) (fV 0))) sNext)))) (items := rngL 0 m) (r := [some (.val (.int n)), some (.val (.tuple [.int a, .int b, y])), some (.val (.int m)), some (.val (.int a)), some (.own []), none])
    (fun i r => ∃ (c5 : Option Cell), r = [some (.val (.int n)), some (.val (.tuple [.int a, .int b, y])), some (.val (.int m)), some (.val (.int (cellAt n a b i))), some (.own (((List.range i).map (cellAt n a b)).map .int)), c5])
    ⟨none, by simp [cellAt, Int.emod_eq_of_lt ha ha2]⟩ fun i d r e ⟨c5, er⟩ => by
      subst er
      obtain ⟨hi, rfl⟩ := rngL_get e
      refine ⟨_, _, rfl, .inl (cells_turn n b _ _ _ _ _ _ (small_len (by simp; omega))), some (.val (.int (0 + (i : Int)))), ?_⟩
      rw [cell_next hn hb hb2, List.range_succ, List.map_append (f := cellAt n a b)]
      rfl
  unfold R__law_cells runP F__law_cells
  rw [sSeq_nx (r1 := [some (.val (.int n)), some (.val (.tuple [.int a, .int b, y])), some (.val (.int m)), some (.val (.int a)), none, none]) (by simp [sSet, f2, fV, fC, startE, ixD, atI, ixN]), sSeq_nx (r1 := [some (.val (.int n)), some (.val (.tuple [.int a, .int b, y])), some (.val (.int m)), some (.val (.int a)), some (.own []), none]) rfl,
    sSeq_nx (by rw [sFor_eq (ds := rngL 0 m) (r1 := [some (.val (.int n)), some (.val (.tuple [.int a, .int b, y])), some (.val (.int m)), some (.val (.int a)), some (.own []), none]) (by simp [SL.iRng1, fV, hm2])]; exact h3)]
  simp [sRet, fV, endP, rngL_length]
/-! ### the ways, step by step -/
def upZ (n x : Int) (k : Nat) : Int := if x + k < n then x + k else x + k - n
def downZ (n x : Int) (k : Nat) : Int := if (k : Int) ≤ x then x - k else x - k + n
def wayBody : FS := (sSeq (sIf (gOr (gT (f2 eqD (fV 4) (fV 2))) (gT (f2 eqD (fV 5) (fV 2)))) sBrk sNext)
    (sSeq (sSet 3 (f2 addD (fV 3) (fC (.int 1))))
    (sSeq (sSet 4 (f2 ixD (fL (lDisp (aCons (f2 addD (fV 4) (fC (.int 1))) (aCons (fC (.int 0)) aNil)))) (f1 intD (f2 eqD (fV 4) (f2 subD (fV 0) (fC (.int 1)))))))
    (sSet 5 (f2 ixD (fL (lDisp (aCons (f2 subD (fV 5) (fC (.int 1))) (aCons (f2 subD (fV 0) (fC (.int 1))) aNil)))) (f1 intD (f2 eqD (fV 5) (fC (.int 0)))))))))
theorem way_turn (n x y : Int) (k : Nat) (c6 : Option Cell) (hx : 0 ≤ x) (hx2 : x < n) (hk : (k : Int) < n) (h1 : upZ n x k ≠ y) (h2 : downZ n x k ≠ y) :
    wayBody [some (.val (.int n)), some (.val (.int x)), some (.val (.int y)), some (.val (.int k)), some (.val (.int (upZ n x k))), some (.val (.int (downZ n x k))), c6] =
      some (.nx [some (.val (.int n)), some (.val (.int x)), some (.val (.int y)), some (.val (.int ((k + 1 : Nat) : Int))), some (.val (.int (upZ n x (k + 1)))), some (.val (.int (downZ n x (k + 1)))), c6]) := by
  have e1 : upZ n x (k + 1) = if upZ n x k = n - 1 then 0 else upZ n x k + 1 := by unfold upZ; split <;> split <;> split <;> omega
  have e2 : downZ n x (k + 1) = if downZ n x k = 0 then n - 1 else downZ n x k - 1 := by unfold downZ; split <;> split <;> split <;> omega
  unfold wayBody
  simp [h1, h2, e1, e2]
  simp [apply_ite PyData.int]
theorem way_brk (n x y : Int) (k : Nat) (c6 : Option Cell) (h : upZ n x k = y ∨ downZ n x k = y) :
    wayBody [some (.val (.int n)), some (.val (.int x)), some (.val (.int y)), some (.val (.int k)), some (.val (.int (upZ n x k))), some (.val (.int (downZ n x k))), c6] =
      some (.bk [some (.val (.int n)), some (.val (.int x)), some (.val (.int y)), some (.val (.int k)), some (.val (.int (upZ n x k))), some (.val (.int (downZ n x k))), c6]) := by
  unfold wayBody
  by_cases h1 : upZ n x k = y
  · simp [h1]
  · have h2 := h.resolve_left h1
    simp [h1, h2]
theorem lway_ok (n x y : Int) (hn : 0 < n) (hn2 : n ≤ 1000) (hx : 0 ≤ x) (hx2 : x < n) (hy : 0 ≤ y) (hy2 : y < n) : R__law_way [.int n, .int x, .int y] = some (.int (wayZ n x y)) := by
  obtain ⟨m, rfl⟩ := Int.eq_ofNat_of_zero_le (Int.le_of_lt hn)
  have hm2 := okR_of (i := (m : Int)) (by omega) (by omega)
  obtain ⟨r', h3, h4⟩ := loop_brk (A := gNm 6) (body := wayBody) (items := rngL 0 m) (r := [some (.val (.int m)), some (.val (.int x)), some (.val (.int y)), some (.val (.int 0)), some (.val (.int x)), some (.val (.int x)), none])
    (fun k r => k ≤ m ∧ (∀ j : Nat, j < k → upZ m x j ≠ y ∧ downZ m x j ≠ y) ∧ ∃ (c6 : Option Cell), r = [some (.val (.int m)), some (.val (.int x)), some (.val (.int y)), some (.val (.int k)), some (.val (.int (upZ m x k))), some (.val (.int (downZ m x k))), c6])
    (fun r => ∃ k : Nat, (k : Int) < m ∧ (∀ j : Nat, j < k → upZ m x j ≠ y ∧ downZ m x j ≠ y) ∧ (upZ m x k = y ∨ downZ m x k = y) ∧ ∃ (c6 : Option Cell), r = [some (.val (.int m)), some (.val (.int x)), some (.val (.int y)), some (.val (.int k)), some (.val (.int (upZ m x k))), some (.val (.int (downZ m x k))), c6])
    0 ⟨Nat.zero_le _, fun j hj => absurd hj (Nat.not_lt_zero _), none, by simp [upZ, downZ, hx, hx2]⟩ fun i d r e ⟨hk, hj, c6, er⟩ => by
      subst er
      rw [Nat.zero_add] at *
      obtain ⟨hi, rfl⟩ := rngL_get e
      by_cases h : upZ m x i = y ∨ downZ m x i = y
      · exact ⟨_, rfl, .inr ⟨_, way_brk m x y i _ h, i, by omega, hj, h, _, rfl⟩⟩
      · have h' := not_or.mp h
        refine ⟨_, rfl, .inl ⟨_, .inl (way_turn m x y i _ hx hx2 (by omega) h'.1 h'.2), hi, fun j hj2 => ?_, _, rfl⟩⟩
        by_cases e2 : j = i
        · subst e2; exact h'
        · exact hj j (by omega)
  have hu := diff_mod hx hx2 hy hy2
  have fin : ∃ k : Nat, wayZ m x y = k ∧ ∃ r2, loopF (gNm 6) wayBody (rngL 0 m) [some (.val (.int m)), some (.val (.int x)), some (.val (.int y)), some (.val (.int 0)), some (.val (.int x)), some (.val (.int x)), none] = some (.nx r2) ∧ r2[3]? = some (some (.val (.int k))) := by
    rcases h4 with ⟨h5, h6, c6, rfl⟩ | ⟨k, hk, h6, h7, c6, rfl⟩
    · exfalso
      rw [Nat.zero_add, rngL_length] at h6
      have := (h6 ((y - x) % (m : Int)).toNat (by rw [hu]; split <;> omega)).1
      unfold upZ at this
      rw [hu] at this
      split at this <;> split at this <;> omega
    · refine ⟨k, ?_, _, h3, rfl⟩
      have g1 := h6 ((y - x) % (m : Int)).toNat
      have g2 := h6 (m - (y - x) % (m : Int)).toNat
      unfold wayZ
      rw [hu] at g1 g2 ⊢
      unfold upZ downZ at g1 g2 h7
      by_cases hxy : x ≤ y
      · rw [if_pos hxy] at g1 g2 ⊢
        have k1 : k ≤ (y - x).toNat := by
          refine Nat.le_of_not_lt fun z => (g1 z).1 ?_
          split <;> omega
        have k2 : x < y → k ≤ (m - (y - x)).toNat := fun hlt => by
          refine Nat.le_of_not_lt fun z => (g2 z).2 ?_
          split <;> omega
        rcases h7 with h7 | h7 <;> split at h7 <;> split <;> omega
      · rw [if_neg hxy] at g1 g2 ⊢
        have k1 : k ≤ (y - x + m).toNat := by
          refine Nat.le_of_not_lt fun z => (g1 z).1 ?_
          split <;> omega
        have k2 : k ≤ (m - (y - x + m)).toNat := by
          refine Nat.le_of_not_lt fun z => (g2 z).2 ?_
          split <;> omega
        rcases h7 with h7 | h7 <;> split at h7 <;> split <;> omega
  obtain ⟨k, e1, r2, h5, h6⟩ := fin
  unfold R__law_way runP F__law_way
  rw [sSeq_nx (r1 := [some (.val (.int m)), some (.val (.int x)), some (.val (.int y)), some (.val (.int 0)), none, none, none]) (by simp [startE]), sSeq_nx (r1 := [some (.val (.int m)), some (.val (.int x)), some (.val (.int y)), some (.val (.int 0)), some (.val (.int x)), none, none]) (by simp),
    sSeq_nx (r1 := [some (.val (.int m)), some (.val (.int x)), some (.val (.int y)), some (.val (.int 0)), some (.val (.int x)), some (.val (.int x)), none]) (by simp),
    sSeq_nx (by rw [sFor_eq (ds := rngL 0 m) (r1 := [some (.val (.int m)), some (.val (.int x)), some (.val (.int y)), some (.val (.int 0)), some (.val (.int x)), some (.val (.int x)), none]) (by simp [SL.iRng1, hm2])]; exact h5)]
  simp [h6, e1]
def satD (a b c : Int) : D := .tuple [.int a, .int b, .int c]
theorem cell_in {n a b : Int} (hn : 0 < n) (t : Nat) : 0 ≤ cellAt n a b t ∧ cellAt n a b t < n := ⟨Int.emod_nonneg _ (by omega), Int.emod_lt_of_pos _ hn⟩
theorem sees_ok (n a b c x : Int) (t : Nat) (hn : 0 < n) (hb : isSmall b = true) : R_sees [.int n, satD a b c, .int x, .int t] = some (.bool (decide (wayZ n (cellAt n a b t) x ≤ c))) := by
  unfold R_sees runP F_sees satD
  have h1 := place_ok n a b c t hn hb
  have h2 := way_ok n (cellAt n a b t) x hn
  unfold cellAt at h2 ⊢
  simp [startE, h1, h2]
theorem wayZ_comm {n x y : Int} (hx : 0 ≤ x) (hx2 : x < n) (hy : 0 ≤ y) (hy2 : y < n) : wayZ n x y = wayZ n y x := by
  unfold wayZ
  rw [diff_mod hx hx2 hy hy2, diff_mod hy hy2 hx hx2]
  by_cases h1 : x ≤ y <;> by_cases h2 : y ≤ x
  · simp only [if_pos h1, if_pos h2]; split <;> split <;> omega
  · simp only [if_pos h1, if_neg h2]; split <;> split <;> omega
  · simp only [if_neg h1, if_pos h2]; split <;> split <;> omega
  · simp only [if_neg h1, if_neg h2]; split <;> split <;> omega
theorem t0 (W : List D → Option D) (k m : Nat) (a b c x : Int)  (hw : ∀ j : Nat, j < k → W [.int k, .int j, .int x] = some (.int (wayZ k j x))) :
  lcF [5] (gNm 5) gYes (f2 leD (fCall W (aCons (fV 0) (aCons (fV 5) (aCons (fV 2) aNil)))) (f2 ixD (fV 1) (fC (.int 2)))) ((List.range k).map (fun (i : Nat) => (.int i : D))) [some (.val (.int k)), some (.val (satD a b c)), some (.val (.int x)), some (.val (.int m)), none, none] = some ((List.range k).map fun (j : Nat) => (.bool (decide (wayZ k j x ≤ c)) : D), [some (.val (.int k)), some (.val (satD a b c)), some (.val (.int x)), some (.val (.int m)), none, none]) := by
      refine lcF_all (fun (i : Nat) => (.int i : D)) _ rfl fun j hj => ?_
      have hj2 : j < k := List.mem_range.mp hj
      have h1 := hw j hj2
      exact ⟨_, [some (.val (.int k)), some (.val (satD a b c)), some (.val (.int x)), some (.val (.int m)), none, some (.val (.int j))], rfl, by simp [satD, h1], rfl⟩
theorem t1 (k m : Nat) (a b c x : Int) (hm2 : okR k = true) : SL.iRng1 (fV 0) [some (.val (.int k)), some (.val (satD a b c)), some (.val (.int x)), some (.val (.int m)), none, none] = some (rngL 0 k, [some (.val (.int k)), some (.val (satD a b c)), some (.val (.int x)), some (.val (.int m)), none, none]) := by simp [SL.iRng1, hm2]
theorem t2 (W : List D → Option D) (k m : Nat) (a b c x : Int) (hk : k ≤ 1000)  (hw : ∀ j : Nat, j < k → W [.int k, .int j, .int x] = some (.int (wayZ k j x))) (hm2 : okR k = true) :
  lLc (SL.iRng1 (fV 0)) [5] (gNm 5) gYes (f2 leD (fCall W (aCons (fV 0) (aCons (fV 5) (aCons (fV 2) aNil)))) (f2 ixD (fV 1) (fC (.int 2)))) [some (.val (.int k)), some (.val (satD a b c)), some (.val (.int x)), some (.val (.int m)), none, none] = some ((List.range k).map fun (j : Nat) => (.bool (decide (wayZ k j x ≤ c)) : D), [some (.val (.int k)), some (.val (satD a b c)), some (.val (.int x)), some (.val (.int m)), none, none]) := by
  rw [lLc_eq (t1 k m a b c x hm2) (by rw [rngL_map]; exact t0 W k m a b c x hw) (small_len (by simp; omega))]
  rfl
theorem t3 (k m : Nat) (a b c x : Int) (hk : 0 < (k : Int)) :
  lcF [5] (gNm 5) gYes (f2 ixD (fV 4) (fV 5)) ((List.range m).map fun t => (.int (cellAt k a b t) : D)) [some (.val (.int k)), some (.val (satD a b c)), some (.val (.int x)), some (.val (.int m)), some (.val (.list ((List.range k).map fun (j : Nat) => (.bool (decide (wayZ k j x ≤ c)) : D)))), none] =
    some ((List.range m).map fun t => (.bool (decide (wayZ k (cellAt k a b t) x ≤ c)) : D), [some (.val (.int k)), some (.val (satD a b c)), some (.val (.int x)), some (.val (.int m)), some (.val (.list ((List.range k).map fun (j : Nat) => (.bool (decide (wayZ k j x ≤ c)) : D)))), none]) := by
  refine lcF_all (fun t => (.int (cellAt k a b t) : D)) _ rfl fun t ht => ?_
  obtain ⟨g1, g2⟩ := cell_in (a := a) (b := b) hk t
  obtain ⟨j, hj⟩ := Int.eq_ofNat_of_zero_le g1
  have hix : ixD (.list ((List.range k).map fun (j : Nat) => (.bool (decide (wayZ k j x ≤ c)) : D))) (.int (cellAt k a b t)) = some (.bool (decide (wayZ k (cellAt k a b t) x ≤ c))) := by
    rw [hj]
    refine (atI_lit _ j).trans ?_
    rw [List.getElem?_map, List.getElem?_range (by omega)]
    rfl
  exact ⟨_, [some (.val (.int k)), some (.val (satD a b c)), some (.val (.int x)), some (.val (.int m)), some (.val (.list ((List.range k).map fun (j : Nat) => (.bool (decide (wayZ k j x ≤ c)) : D)))), some (.val (.int (cellAt k a b t)))], rfl, by simp [hix], rfl⟩
theorem t4 (Z : List D → Option D) (k m : Nat) (a b c x : Int) (hk : 0 < (k : Int)) (hm : m ≤ 1000) (hz : Z [.int k, satD a b c, .int m] = some (.list ((List.range m).map fun t => (.int (cellAt k a b t) : D)))) :
  lLc (iSeq (fCall Z (aCons (fV 0) (aCons (fV 1) (aCons (fV 3) aNil))))) [5] (gNm 5) gYes (f2 ixD (fV 4) (fV 5)) [some (.val (.int k)), some (.val (satD a b c)), some (.val (.int x)), some (.val (.int m)), some (.val (.list ((List.range k).map fun (j : Nat) => (.bool (decide (wayZ k j x ≤ c)) : D)))), none] =
    some ((List.range m).map fun t => (.bool (decide (wayZ k (cellAt k a b t) x ≤ c)) : D), [some (.val (.int k)), some (.val (satD a b c)), some (.val (.int x)), some (.val (.int m)), some (.val (.list ((List.range k).map fun (j : Nat) => (.bool (decide (wayZ k j x ≤ c)) : D)))), none]) := by
  rw [lLc_eq (by simp [hz]) (t3 k m a b c x hk) (small_len (by simp; omega))]
  rfl
theorem t5 (W Z : List D → Option D) (k m : Nat) (a b c x : Int) (hk : 0 < (k : Int)) (hk2 : k ≤ 1000) (hm : m ≤ 1000) (hm2 : okR k = true) (hw : ∀ j : Nat, j < k → W [.int k, .int j, .int x] = some (.int (wayZ k j x))) (hz : Z [.int k, satD a b c, .int m] = some (.list ((List.range m).map fun t => (.int (cellAt k a b t) : D)))) :
  endP ((sSeq (sSet 4 (fL (lLc (SL.iRng1 (fV 0)) [5] (gNm 5) gYes (f2 leD (fCall W (aCons (fV 0) (aCons (fV 5) (aCons (fV 2) aNil)))) (f2 ixD (fV 1) (fC (.int 2)))))))
    (sRet (fL (lLc (iSeq (fCall Z (aCons (fV 0) (aCons (fV 1) (aCons (fV 3) aNil))))) [5] (gNm 5) gYes (f2 ixD (fV 4) (fV 5)))))) (startE 6 [.int k, satD a b c, .int x, .int m])) = some (.list ((List.range m).map fun t => (.bool (decide (wayZ k (cellAt k a b t) x ≤ c)) : D))) := by
  have hnear := t2 W k m a b c x hk2 hw hm2
  have hrow := t4 Z k m a b c x hk hm hz
  rw [sSeq_nx (r1 := [some (.val (.int k)), some (.val (satD a b c)), some (.val (.int x)), some (.val (.int m)), some (.val (.list ((List.range k).map fun (j : Nat) => (.bool (decide (wayZ k j x ≤ c)) : D)))), none]) (by
    unfold sSet fL startE
    simp [hnear])]
  unfold sRet fL
  simp [hrow]
theorem seen_ok (n a b c x : Int) (m : Nat) (hm : m ≤ 1000) (hn : 0 < n) (hn2 : n ≤ 1000) (ha : 0 ≤ a) (ha2 : a < n) (hb : 0 ≤ b) (hb2 : b < n) (hx : 0 ≤ x) (hx2 : x < n) :
    R__law_seen [.int n, satD a b c, .int x, .int m] = some (.list ((List.range m).map fun t => (.bool (decide (wayZ n (cellAt n a b t) x ≤ c)) : D))) := by
  obtain ⟨k, rfl⟩ := Int.eq_ofNat_of_zero_le (Int.le_of_lt hn)
  have hm2 := okR_of (i := (k : Int)) (by omega) (by omega)
  have hw : ∀ j : Nat, j < k → R__law_way [.int k, .int j, .int x] = some (.int (wayZ k j x)) := fun j hj2 => lway_ok k j x hn hn2 (by omega) (by omega) hx hx2
  have hcells := cells_ok k a b (.int c) hn ha ha2 hb hb2 m hm
  rw [List.map_map] at hcells
  exact t5 R__law_way R__law_cells k m a b c x hn (by omega) hm hm2 hw hcells
/-! ### the drawn things -/
theorem get_bd {ds : List Int} (hb : ∀ x ∈ ds, 0 ≤ x ∧ x < 1000) (i : Nat) : 0 ≤ ds.getD i 0 ∧ ds.getD i 0 < 1000 := by
  rw [List.getD_eq_getElem?_getD]
  cases h : ds[i]? with
  | none => decide
  | some x => exact hb x (List.mem_of_getElem? h)
theorem ix_at {ds : List Int} (i : Nat) (h : i < ds.length) : ixD (.list (ds.map .int)) (.int (i : Int)) = some (.int (ds.getD i 0)) := by
  have := ix_ints (ns := ds) (i := (i : Int)) (by omega) (by omega)
  simpa using this
theorem ring_ok (ds : List Int) (hl : 2 ≤ ds.length) (hb : ∀ x ∈ ds, 0 ≤ x ∧ x < 1000) : ∃ n : Int, R__law_ring [.list (ds.map .int)] = some (.int n) ∧ 3 ≤ n ∧ n ≤ 60 := by
  have h0 := ix_at (ds := ds) 0 (by omega)
  have h1 := ix_at (ds := ds) 1 (by omega)
  obtain ⟨b0, c0⟩ := get_bd hb 0
  obtain ⟨b1, c1⟩ := get_bd hb 1
  generalize ds.getD 0 0 = x at h0 b0 c0
  generalize ds.getD 1 0 = y at h1 b1 c1
  simp only [Int.natCast_zero, Int.natCast_one] at h0 h1
  have hy : y % 2 = 0 ∨ y % 2 = 1 := by omega
  unfold R__law_ring runP F__law_ring
  generalize PyData.list (ds.map .int) = d at h0 h1
  rcases hy with hy | hy
  · refine ⟨3 + x % 10, ?_, by omega, by omega⟩
    simp [startE, h0, h1, modD_p, hy]
  · refine ⟨3 + x % 58, ?_, by omega, by omega⟩
    simp [startE, h0, h1, modD_p, hy]
theorem sat_ok (ds : List Int) (hl : 3 ≤ ds.length) (hb : ∀ x ∈ ds, 0 ≤ x ∧ x < 1000) (n : Int) (hn : 0 < n) : ∃ a b c : Int, R__law_satellite [.list (ds.map .int), .int n] = some (satD a b c) ∧ (0 ≤ a ∧ a < n) ∧ 0 ≤ b ∧ b < n := by
  have h0 := ix_at (ds := ds) 0 (by omega)
  have h1 := ix_at (ds := ds) 1 (by omega)
  have h2 := ix_at (ds := ds) 2 (by omega)
  generalize ds.getD 0 0 = x at h0
  generalize ds.getD 1 0 = y at h1
  generalize ds.getD 2 0 = z at h2
  have hz : z % 5 = 0 ∨ z % 5 = 1 ∨ z % 5 = 2 ∨ z % 5 = 3 ∨ z % 5 = 4 := by omega
  have hm := fun u : Int => And.intro (Int.emod_nonneg u (show n ≠ 0 by omega)) (Int.emod_lt_of_pos u hn)
  refine ⟨x % n, y % n, if z % 5 = 0 then 0 else if z % 5 = 1 then 1 else if z % 5 = 2 then 2 else if z % 5 = 3 then 5 else 30, ?_, hm x, hm y⟩
  unfold R__law_satellite runP F__law_satellite satD
  simp only [Int.natCast_zero, Int.natCast_one] at h0 h1
  rw [show ((2 : Nat) : Int) = 2 from rfl] at h2
  generalize PyData.list (ds.map .int) = d at h0 h1 h2
  rcases hz with hz | hz | hz | hz | hz <;> simp [startE, h0, h1, h2, modD_p (j := n) hn, modD_p, hz]
/-! ### the law -/
theorem far_ok (n a b : Int) (hn : 0 < n) (f : Int) (t : Nat) : (a + b * (n * f + t)) % n = cellAt n a b t := by
  unfold cellAt
  have : a + b * (n * f + t) = (a + b * t) + n * (b * f) := by
    rw [Int.mul_add, ← Int.mul_assoc, Int.mul_comm b n, Int.mul_assoc]
    omega
  rw [this, Int.add_mul_emod_self_left]
/-- rows of truth values -/
def rowD (f : Nat → Bool) (m : Nat) : D := .list ((List.range m).map fun t => .bool (f t))
theorem row_shp (f : Nat → Bool) (m : Nat) : shp (rowD f m) = true := (Sh.list (n := 0) fun d hd => by
  obtain ⟨t, _, rfl⟩ := List.mem_map.mp hd
  exact Sh.bool 0 _).shp
end Rg
/-! Fleets: periods, who sees what. -/
namespace Rg
open PySem PySem.Spec PyProof.Rows L2 SL
theorem allD_map {α : Type} (xs : List α) (f : α → Bool) : allD (.list (xs.map fun x => .bool (f x))) = some (.bool (xs.all f)) := by
  have : xs.map (fun x => (PyData.bool (f x))) = (xs.map f).map .bool := by rw [List.map_map]; rfl
  rw [this]
  show (boolsOf _).map _ = _
  rw [boolsOf_map]
  show some (PyData.bool ((xs.map f).all id)) = _
  rw [List.all_map]
  rfl
theorem anyD_map {α : Type} (xs : List α) (f : α → Bool) : anyD (.list (xs.map fun x => .bool (f x))) = some (.bool (xs.any f)) := by
  have : xs.map (fun x => (PyData.bool (f x))) = (xs.map f).map .bool := by rw [List.map_map]; rfl
  rw [this]
  show (boolsOf _).map _ = _
  rw [boolsOf_map]
  show some (PyData.bool ((xs.map f).any id)) = _
  rw [List.any_map]
  rfl
/-! ### satellites and fleets -/
abbrev Sat : Type := Int × Int × Int
def sd (s : Sat) : D := satD s.1 s.2.1 s.2.2
def fleetD (fl : List Sat) : D := .list (fl.map sd)
structure OkS (n : Int) (s : Sat) : Prop where
  a0 : 0 ≤ s.1
  a1 : s.1 < n
  b0 : 0 ≤ s.2.1
  b1 : s.2.1 < n
  c0 : 0 ≤ s.2.2
  c1 : s.2.2 ≤ 30
def reachOf (z : Int) : Int := if z % 5 = 0 then 0 else if z % 5 = 1 then 1 else if z % 5 = 2 then 2 else if z % 5 = 3 then 5 else 30
def satOf (n x y z : Int) : Sat := (x % n, y % n, reachOf z)
theorem satOf_ok {n x y z : Int} (hn : 0 < n) : OkS n (satOf n x y z) where
  a0 := Int.emod_nonneg x (by omega)
  a1 := Int.emod_lt_of_pos x hn
  b0 := Int.emod_nonneg y (by omega)
  b1 := Int.emod_lt_of_pos y hn
  c0 := by
    show 0 ≤ reachOf z
    unfold reachOf
    split <;> first | decide | skip
    split <;> first | decide | skip
    split <;> first | decide | skip
    split <;> decide
  c1 := by
    show reachOf z ≤ 30
    unfold reachOf
    split <;> first | decide | skip
    split <;> first | decide | skip
    split <;> first | decide | skip
    split <;> decide
theorem sat_is (ds : List Int) (hl : 3 ≤ ds.length) (n : Int) (hn : 0 < n) : R__law_satellite [.list (ds.map .int), .int n] = some (sd (satOf n (ds.getD 0 0) (ds.getD 1 0) (ds.getD 2 0))) := by
  have h0 := ix_at (ds := ds) 0 (by omega)
  have h1 := ix_at (ds := ds) 1 (by omega)
  have h2 := ix_at (ds := ds) 2 (by omega)
  generalize ds.getD 0 0 = x at h0
  generalize ds.getD 1 0 = y at h1
  generalize ds.getD 2 0 = z at h2
  have hz : z % 5 = 0 ∨ z % 5 = 1 ∨ z % 5 = 2 ∨ z % 5 = 3 ∨ z % 5 = 4 := by omega
  unfold R__law_satellite runP F__law_satellite sd satD satOf reachOf
  simp only [Int.natCast_zero, Int.natCast_one] at h0 h1
  rw [show ((2 : Nat) : Int) = 2 from rfl] at h2
  generalize PyData.list (ds.map .int) = d at h0 h1 h2
  rcases hz with hz | hz | hz | hz | hz <;> simp [startE, h0, h1, h2, modD_p (j := n) hn, modD_p, hz]
def seesZ (n : Int) (s : Sat) (x : Int) (t : Nat) : Bool := decide (wayZ n (cellAt n s.1 s.2.1 t) x ≤ s.2.2)
def anySees (n : Int) (fl : List Sat) (x : Int) (t : Nat) : Bool := fl.any fun s => seesZ n s x t
/-! ### the program's functions -/
def isSeenF (E : List D → Option D) : FS := (sRet (f1 anyD (fL (lLc (iSeq (fV 1)) [4] (gNm 4) gYes (fCall E (aCons (fV 0) (aCons (fV 4) (aCons (fV 2) (aCons (fV 3) aNil)))))))))
theorem seen_lc (E : List D → Option D) (n : Int) (fl : List Sat) (x : Int) (t : Nat) (hl : fl.length ≤ 1000) (he : ∀ s ∈ fl, E [.int n, sd s, .int x, .int t] = some (.bool (seesZ n s x t))) :
    lLc (iSeq (fV 1)) [4] (gNm 4) gYes (fCall E (aCons (fV 0) (aCons (fV 4) (aCons (fV 2) (aCons (fV 3) aNil))))) [some (.val (.int n)), some (.val (fleetD fl)), some (.val (.int x)), some (.val (.int t)), none] =
      some (fl.map fun s => .bool (seesZ n s x t), [some (.val (.int n)), some (.val (fleetD fl)), some (.val (.int x)), some (.val (.int t)), none]) := by
  rw [lLc_eq (ds := fl.map sd) (r0 := [some (.val (.int n)), some (.val (fleetD fl)), some (.val (.int x)), some (.val (.int t)), none]) rfl
    (lcF_all sd (fun s => .bool (seesZ n s x t)) rfl fun s hs => ⟨_, [some (.val (.int n)), some (.val (fleetD fl)), some (.val (.int x)), some (.val (.int t)), some (.val (sd s))], rfl, by simp [he s hs], rfl⟩) (small_len (by simp; omega))]
  rfl
theorem isSeen_ok (E : List D → Option D) (n : Int) (fl : List Sat) (x : Int) (t : Nat) (hl : fl.length ≤ 1000) (he : ∀ s ∈ fl, E [.int n, sd s, .int x, .int t] = some (.bool (seesZ n s x t))) :
    endP (isSeenF E (startE 5 [.int n, fleetD fl, .int x, .int t])) = some (.bool (anySees n fl x t)) := by
  have h := seen_lc E n fl x t hl he
  have h2 := anyD_map fl fun s => seesZ n s x t
  unfold isSeenF startE anySees
  simp [h, h2]
/-! ### periods -/
def ownZ (n b : Nat) : Nat := n / Nat.gcd n b
def perZ (n : Nat) (fl : List Nat) : Nat := fl.foldl (fun f b => f * ownZ n b / Nat.gcd f (ownZ n b)) 1
theorem own_dvd (n b : Nat) : ownZ n b ∣ n := Nat.div_dvd_of_dvd (Nat.gcd_dvd_left n b)
theorem dvd_own {n b t : Nat} (hn : 0 < n) : ownZ n b ∣ t ↔ n ∣ b * t := by
  unfold ownZ
  have g0 : 0 < Nat.gcd n b := Nat.gcd_pos_of_pos_left b hn
  obtain ⟨m, hm⟩ := Nat.gcd_dvd_left n b
  obtain ⟨c, hc⟩ := Nat.gcd_dvd_right n b
  have hco : Nat.Coprime m c := by
    have := Nat.coprime_div_gcd_div_gcd g0
    rwa [Nat.div_eq_of_eq_mul_right g0 hm, Nat.div_eq_of_eq_mul_right g0 hc] at this
  rw [Nat.div_eq_of_eq_mul_right g0 hm]
  generalize Nat.gcd n b = g at *
  subst hm hc
  rw [Nat.mul_assoc]
  constructor
  · intro h
    exact Nat.mul_dvd_mul_left g (Nat.dvd_trans h (Nat.dvd_mul_left t c))
  · intro h
    exact hco.dvd_of_dvd_mul_left (Nat.dvd_of_mul_dvd_mul_left g0 h)
theorem fold_dvd (n : Nat) : ∀ (fl : List Nat) (f t : Nat), (fl.foldl (fun f b => f * ownZ n b / Nat.gcd f (ownZ n b)) f) ∣ t ↔ f ∣ t ∧ ∀ b ∈ fl, ownZ n b ∣ t
  | [], f, t => by simp
  | b :: r, f, t => by
    rw [List.foldl_cons, fold_dvd n r]
    have : f * ownZ n b / Nat.gcd f (ownZ n b) = Nat.lcm f (ownZ n b) := rfl
    rw [this, Nat.lcm_dvd_iff]
    simp only [List.mem_cons, forall_eq_or_imp]
    exact and_assoc
theorem per_dvd {n t : Nat} {fl : List Nat} : perZ n fl ∣ t ↔ ∀ b ∈ fl, ownZ n b ∣ t := by
  unfold perZ
  rw [fold_dvd]
  exact ⟨fun h => h.2, fun h => ⟨Nat.one_dvd _, h⟩⟩
theorem per_dvd_n (n : Nat) (fl : List Nat) : perZ n fl ∣ n := per_dvd.mpr fun b _ => own_dvd n b
theorem per_pos {n : Nat} (hn : 0 < n) (fl : List Nat) : 0 < perZ n fl := Nat.pos_of_dvd_of_pos (per_dvd_n n fl) hn
theorem per_le {n : Nat} (hn : 0 < n) (fl : List Nat) : perZ n fl ≤ n := Nat.le_of_dvd hn (per_dvd_n n fl)
theorem cell_per {n a b : Int} (hn : 0 < n) (hb : 0 ≤ b) (t p : Nat) : cellAt n a b (t + p) = cellAt n a b t ↔ n.toNat ∣ b.toNat * p := by
  obtain ⟨m, rfl⟩ := Int.eq_ofNat_of_zero_le (Int.le_of_lt hn)
  obtain ⟨c, rfl⟩ := Int.eq_ofNat_of_zero_le hb
  unfold cellAt
  rw [Int.toNat_natCast, Int.toNat_natCast]
  have e : (a + (c : Int) * ((t + p : Nat) : Int)) = (a + (c : Int) * t) + ((c * p : Nat) : Int) := by
    rw [Int.natCast_add, Int.mul_add, Int.natCast_mul]
    omega
  rw [e, Int.emod_eq_emod_iff_emod_sub_eq_zero]
  generalize a + (c : Int) * t = u
  rw [show u + ((c * p : Nat) : Int) - u = ((c * p : Nat) : Int) by omega, ← Int.natCast_emod]
  rw [Nat.dvd_iff_mod_eq_zero]
  omega
theorem sees_per {n : Int} (hn : 0 < n) {s : Sat} (hs : OkS n s) (x : Int) (t p : Nat) (h : ownZ n.toNat s.2.1.toNat ∣ p) : seesZ n s x (t + p) = seesZ n s x t := by
  unfold seesZ
  rw [(cell_per hn hs.b0 t p).mpr ((dvd_own (by omega)).mp h)]
abbrev steps (fl : List Sat) : List Nat := fl.map fun s => s.2.1.toNat
def perF (n : Int) (fl : List Sat) : Nat := perZ n.toNat (steps fl)
theorem any_per {n : Int} (hn : 0 < n) {fl : List Sat} (hf : ∀ s ∈ fl, OkS n s) (x : Int) (t : Nat) : anySees n fl x (t + perF n fl) = anySees n fl x t := by
  unfold anySees
  have h : ∀ s ∈ fl, seesZ n s x (t + perF n fl) = seesZ n s x t := fun s hs => sees_per hn (hf s hs) x t _ (per_dvd.mp (Nat.dvd_refl _) _ (List.mem_map.mpr ⟨s, hs, rfl⟩))
  induction fl with
  | nil => rfl
  | cons s r ih =>
    clear ih
    generalize perF n (s :: r) = p at h
    revert h
    generalize s :: r = fl
    intro h
    induction fl with
    | nil => rfl
    | cons s r ih => rw [List.any_cons, List.any_cons, h s (List.mem_cons_self ..), ih fun u hu => h u (List.mem_cons_of_mem _ hu)]
theorem per_rows {n : Int} (hn : 0 < n) {fl : List Sat} (hf : ∀ s ∈ fl, OkS n s) (t : Nat) : (fl.all fun s => decide (cellAt n s.1 s.2.1 t = cellAt n s.1 s.2.1 0)) = decide (perF n fl ∣ t) := by
  rw [Bool.eq_iff_iff, List.all_eq_true, decide_eq_true_iff]
  unfold perF
  rw [per_dvd]
  have e := fun s (hs : s ∈ fl) => (cell_per (a := s.1) (b := s.2.1) hn (hf s hs).b0 0 t)
  simp only [Nat.zero_add] at e
  constructor
  · intro h b hb
    obtain ⟨s, hs, rfl⟩ := List.mem_map.mp hb
    exact (dvd_own (by omega)).mpr ((e s hs).mp (of_decide_eq_true (h s hs)))
  · intro h s hs
    exact decide_eq_true ((e s hs).mpr ((dvd_own (by omega)).mp (h _ (List.mem_map.mpr ⟨s, hs, rfl⟩))))
def perBody : FS := (sSeq (sSet 6 (f2 divD (fV 0) (f2 gcdD (fV 0) (fV 4))))
    (sSet 2 (f2 divD (f2 mulD (fV 2) (fV 6)) (f2 gcdD (fV 2) (fV 6)))))
def perFS : FS := (sSeq (sSet 2 (fC (.int 1)))
    (sSeq (sFor (iSeq (fV 1)) (gTp 3 (gsCons (gNm 3) (gsCons (gNm 4) (gsCons (gNm 5) gsNil)))) perBody)
    (sRet (fV 2))))
theorem per_ev (n f b g o gg z2 z : Int) (F c3 c5 : D) (c6 : Option Cell) (d1 : divD (.int n) (.int g) = some (.int o)) (d2 : divD (.int z2) (.int gg) = some (.int z)) (d3 : mulD (.int f) (.int o) = some (.int z2)) (d4 : gcdD (.int n) (.int b) = some (.int g)) (d5 : gcdD (.int f) (.int o) = some (.int gg)) :
    perBody [some (.val (.int n)), some (.val F), some (.val (.int f)), some (.val c3), some (.val (.int b)), some (.val c5), c6] =
    some (.nx [some (.val (.int n)), some (.val F), some (.val (.int z)), some (.val c3), some (.val (.int b)), some (.val c5), some (.val (.int o))]) := by
  unfold perBody
  simp [d1, d2, d3, d4, d5, -gcdD_i]
theorem pd1 (n b : Nat) (hn : 0 < n) (hn2 : n ≤ 1000) : divD (.int (n : Int)) (.int ((Nat.gcd n b : Nat) : Int)) = some (.int (ownZ n b)) := by
  have g0 : 0 < Nat.gcd n b := Nat.gcd_pos_of_pos_left b hn
  have g1 : Nat.gcd n b ≤ n := Nat.gcd_le_left b hn
  unfold ownZ
  generalize Nat.gcd n b = g at *
  rw [divD_p (by omega) (by omega), ← Int.natCast_ediv]
theorem pd2 (f o : Nat) (hf : 0 < f) (hf2 : f ≤ 1000) : divD (.int ((f * o : Nat) : Int)) (.int ((Nat.gcd f o : Nat) : Int)) = some (.int ((f * o / Nat.gcd f o : Nat) : Int)) := by
  have g2 : 0 < Nat.gcd f o := Nat.gcd_pos_of_pos_left _ hf
  have g3 : Nat.gcd f o ≤ f := Nat.gcd_le_left _ hf
  generalize Nat.gcd f o = g at *
  rw [divD_p (by omega) (by omega), ← Int.natCast_ediv]
theorem pd3 (f o : Nat) (hf2 : f ≤ 1000) : mulD (.int (f : Int)) (.int (o : Int)) = some (.int ((f * o : Nat) : Int)) := by
  rw [mulD_l (small_of (by omega) (by omega)), Int.natCast_mul]
theorem pd4 (n b : Nat) : gcdD (.int (n : Int)) (.int (b : Int)) = some (.int ((Nat.gcd n b : Nat) : Int)) := by rw [gcdD_i, Int.natAbs_natCast, Int.natAbs_natCast]
theorem per_turn (n f b : Nat) (F c3 c5 : D) (c6 : Option Cell) (hn : 0 < n) (hn2 : n ≤ 1000) (hf : 0 < f) (hf2 : f ≤ 1000) : perBody [some (.val (.int n)), some (.val F), some (.val (.int f)), some (.val c3), some (.val (.int b)), some (.val c5), c6] =
    some (.nx [some (.val (.int n)), some (.val F), some (.val (.int ((f * ownZ n b / Nat.gcd f (ownZ n b) : Nat) : Int))), some (.val c3), some (.val (.int b)), some (.val c5), some (.val (.int (ownZ n b)))]) :=
  per_ev _ _ _ _ _ _ _ _ F c3 c5 c6 (pd1 n b hn hn2) (pd2 f (ownZ n b) hf hf2) (pd3 f (ownZ n b) hf2) (pd4 n b) (pd4 f (ownZ n b))
theorem per_ok (n : Int) (fl : List Sat) (hn : 0 < n) (hn2 : n ≤ 1000) (hf : ∀ s ∈ fl, OkS n s) : endP (perFS (startE 7 [.int n, fleetD fl])) = some (.int (perF n fl)) := by
  obtain ⟨m, rfl⟩ := Int.eq_ofNat_of_zero_le (Int.le_of_lt hn)
  obtain ⟨r', h1, c3, c4, c5, c6, rfl, _⟩ := loop_fold (A := gTp 3 (gsCons (gNm 3) (gsCons (gNm 4) (gsCons (gNm 5) gsNil)))) (body := perBody) sd
    (fun (f : Nat) r => ∃ c3 c4 c5 c6 : Option Cell, r = [some (.val (.int m)), some (.val (fleetD fl)), some (.val (.int f)), c3, c4, c5, c6] ∧ (0 < f ∧ f ∣ m))
    (fun f (s : Sat) => f * ownZ m s.2.1.toNat / Nat.gcd f (ownZ m s.2.1.toNat)) (xs := fl) (b := 1) (r := [some (.val (.int m)), some (.val (fleetD fl)), some (.val (.int 1)), none, none, none, none])
    (fun f s r hs ⟨c3, c4, c5, c6, er, f0, f1⟩ => by
      subst er
      have ok := hf s hs
      have hb : ((s.2.1.toNat : Nat) : Int) = s.2.1 := Int.toNat_of_nonneg ok.b0
      have h2 := per_turn m f s.2.1.toNat (fleetD fl) (.int s.1) (.int s.2.2) c6 (by omega) (by omega) f0 (Nat.le_trans (Nat.le_of_dvd (by omega) f1) (by omega))
      refine ⟨[some (.val (.int m)), some (.val (fleetD fl)), some (.val (.int f)), some (.val (.int s.1)), some (.val (.int ((s.2.1.toNat : Nat) : Int))), some (.val (.int s.2.2)), c6], _, ?_, .inl h2, _, _, _, _, rfl, ?_, ?_⟩
      · show gTp 3 _ (satD s.1 s.2.1 s.2.2) _ = _
        rw [hb]
        rfl
      · have e : f * ownZ m s.2.1.toNat / Nat.gcd f (ownZ m s.2.1.toNat) = Nat.lcm f (ownZ m s.2.1.toNat) := rfl
        rw [e]
        exact Nat.lcm_pos f0 (Nat.pos_of_dvd_of_pos (own_dvd _ _) (by omega))
      · have e : f * ownZ m s.2.1.toNat / Nat.gcd f (ownZ m s.2.1.toNat) = Nat.lcm f (ownZ m s.2.1.toNat) := rfl
        rw [e]
        exact Nat.lcm_dvd f1 (own_dvd _ _))
    ⟨none, none, none, none, rfl, by decide, Nat.one_dvd _⟩
  have e : fl.foldl (fun f (s : Sat) => f * ownZ m s.2.1.toNat / Nat.gcd f (ownZ m s.2.1.toNat)) 1 = perF m fl := by
    unfold perF perZ
    rw [List.foldl_map, Int.toNat_natCast]
  rw [e] at h1
  unfold perFS
  rw [sSeq_nx (r1 := [some (.val (.int m)), some (.val (fleetD fl)), some (.val (.int 1)), none, none, none, none]) rfl,
    sSeq_nx (by rw [sFor_eq (ds := fl.map sd) (r1 := [some (.val (.int m)), some (.val (fleetD fl)), some (.val (.int 1)), none, none, none, none]) rfl]; exact h1)]
  simp
/-! ### the fleet as drawn -/
def fleetOf (n : Int) (ds : List Int) (m : Nat) : List Sat := (List.range m).map fun k => satOf n (ds.getD (3 + 3 * k) 0) (ds.getD (4 + 3 * k) 0) (ds.getD (5 + 3 * k) 0)
theorem fleetOf_ok {n : Int} (hn : 0 < n) (ds : List Int) (m : Nat) : ∀ s ∈ fleetOf n ds m, OkS n s := fun s hs => by
  obtain ⟨k, _, rfl⟩ := List.mem_map.mp hs
  exact satOf_ok hn
theorem fleetOf_len (n : Int) (ds : List Int) (m : Nat) : (fleetOf n ds m).length = m := by
  unfold fleetOf
  rw [List.length_map, List.length_range]
theorem cut_any (ds : List Int) (i j : Nat) (h : j ≤ ds.length) : cutAny (.list (ds.map .int)) (some (i : Int)) (some (j : Int)) = some (.list (((ds.drop i).take (j - i)).map .int)) := by
  show some (PyData.list (cutD _ _ _)) = _
  rw [cutD_map, cutL_nat ds i j h]
theorem sat_k (ds : List Int) (n : Int) (hn : 0 < n) (k : Nat) (h : 6 + 3 * k ≤ ds.length) : R__law_satellite [.list (((ds.drop (3 + 3 * k)).take 3).map .int), .int n] = some (sd (satOf n (ds.getD (3 + 3 * k) 0) (ds.getD (4 + 3 * k) 0) (ds.getD (5 + 3 * k) 0))) := by
  rw [sat_is _ (by simp; omega) n hn]
  have e : ∀ j, j < 3 → ((ds.drop (3 + 3 * k)).take 3).getD j 0 = ds.getD (3 + j + 3 * k) 0 := fun j hj => by
    rw [List.getD_eq_getElem?_getD, List.getD_eq_getElem?_getD, List.getElem?_take_of_lt hj, List.getElem?_drop, show 3 + 3 * k + j = 3 + j + 3 * k by omega]
  rw [e 0 (by decide), e 1 (by decide), e 2 (by decide)]
theorem fleet_lc (Sa : List D → Option D) (sc : D) (ds : List Int) (n : Int) (m : Nat) (d2 : Int) (hm : 1 + d2 % 4 = m) (hm4 : m ≤ 4) (hl : 18 ≤ ds.length) (i2 : ixD (.list (ds.map .int)) (.int 2) = some (.int d2)) (cs : List (Option Cell))
    (hs : ∀ k, 6 + 3 * k ≤ ds.length → Sa [.list (((ds.drop (3 + 3 * k)).take 3).map .int), .int n] = some (sd (satOf n (ds.getD (3 + 3 * k) 0) (ds.getD (4 + 3 * k) 0) (ds.getD (5 + 3 * k) 0)))) :
    lLc (SL.iRng1 (f2 addD (fC (.int 1)) (f2 modD (f1 intD (f2 ixD (fV 1) (fC (.int 2)))) (fC (.int 4))))) [4] (gNm 4) gYes (fCall Sa (aCons (fCut (fV 1) (oSome (f2 addD (fC (.int 3)) (f2 mulD (fC (.int 3)) (fV 4)))) (oSome (f2 addD (fC (.int 6)) (f2 mulD (fC (.int 3)) (fV 4))))) (aCons (fV 2) aNil)))
      (some (.val sc) :: some (.val (.list (ds.map .int))) :: some (.val (.int n)) :: none :: none :: cs) =
      some ((fleetOf n ds m).map sd, some (.val sc) :: some (.val (.list (ds.map .int))) :: some (.val (.int n)) :: none :: none :: cs) := by
  have hr := okR_of (i := (m : Int)) (by omega) (by omega)
  rw [lLc_eq (ds := rngL 0 m) (r0 := some (.val sc) :: some (.val (.list (ds.map .int))) :: some (.val (.int n)) :: none :: none :: cs) (zs := (fleetOf n ds m).map sd) (w := some (.val sc) :: some (.val (.list (ds.map .int))) :: some (.val (.int n)) :: none :: none :: cs) ?a ?b ?c]
  · rfl
  case a => simp [SL.iRng1, i2, modD_p, hm, hr]
  case b =>
    rw [rngL_map]
    unfold fleetOf
    rw [List.map_map]
    refine lcF_all (fun (i : Nat) => (.int i : D)) _ rfl fun k hk => ?_
    have hk2 : k < m := List.mem_range.mp hk
    have h1 := cut_any ds (3 + 3 * k) (6 + 3 * k) (by omega)
    rw [show 6 + 3 * k - (3 + 3 * k) = 3 by omega] at h1
    have h2 := hs k (by omega)
    have h3 : mulD (.int 3) (.int (k : Int)) = some (.int (3 * k)) := mulD_l rfl
    have e1 : ((3 + 3 * k : Nat) : Int) = 3 + 3 * (k : Int) := by omega
    have e2 : ((6 + 3 * k : Nat) : Int) = 6 + 3 * (k : Int) := by omega
    rw [e1, e2] at h1
    generalize PyData.list (((ds.drop (3 + 3 * k)).take 3).map .int) = z at h1 h2
    generalize PyData.list (ds.map .int) = dr at h1
    exact ⟨_, some (.val sc) :: some (.val dr) :: some (.val (.int n)) :: none :: some (.val (.int k)) :: cs, rfl, by simp [-cutAny, h3, h1, h2], rfl⟩
  case c => exact small_len (by rw [List.length_map, fleetOf_len]; omega)
theorem sat_sw {n : Int} (hn : n ≤ 1000) {s : Sat} (h : OkS n s) : Sw 24 (sd s) := by
  refine Sw.mono (Sw.tuple (n := 5) (ds := [.int s.1, .int s.2.1, .int s.2.2]) fun d hd => ?_) (show 3 * (5 + 2) + 3 ≤ 24 by decide)
  rcases List.mem_cons.mp hd with rfl | hd
  · exact Sw.int (k := 4) (by decide) (by decide) (by have := h.a0; have := h.a1; omega)
  rcases List.mem_cons.mp hd with rfl | hd
  · exact Sw.int (k := 4) (by decide) (by decide) (by have := h.b0; have := h.b1; omega)
  rw [List.mem_singleton.mp hd]
  exact Sw.int (k := 4) (by decide) (by decide) (by have := h.c0; have := h.c1; omega)
theorem sat_sh (s : Sat) : Sh 1 (sd s) := Sh.tuple (n := 0) fun d hd => by
  rcases List.mem_cons.mp hd with rfl | hd
  · exact Sh.int 0 _
  rcases List.mem_cons.mp hd with rfl | hd
  · exact Sh.int 0 _
  rw [List.mem_singleton.mp hd]
  exact Sh.int 0 _
theorem fleet_sw {n : Int} (hn : n ≤ 1000) {fl : List Sat} (h : ∀ s ∈ fl, OkS n s) : Sw ((fl.map sd).length * (24 + 2) + 2) (fleetD fl) := Sw.list (n := 24) (ds := fl.map sd) fun d hd => by
  obtain ⟨s, hs, rfl⟩ := List.mem_map.mp hd
  exact sat_sw hn (h s hs)
theorem fleet_repr {n : Int} (hn : n ≤ 1000) {fl : List Sat} (hl : fl.length ≤ 4) (h : ∀ s ∈ fl, OkS n s) : reprD (fleetD fl) = some (.str (fleetD fl).shown) := by
  refine (fleet_sw hn h).repr (by rw [List.length_map]; unfold sizeLine; omega) rfl ?_
  exact Nat.le_trans (Sh.list (n := 1) fun d hd => by
      obtain ⟨s, _, rfl⟩ := List.mem_map.mp hd
      exact sat_sh s).2 (by decide)
end Rg
/-! Skies: the law's drawn sky, in plain numbers. -/
namespace Sk
open PySem PySem.Spec PyProof.Rows L2 SL
def F__law_grown : FS := (sSeq (sIf (gT (f2 gtD (f2 modD (f1 intD (fV 1)) (fC (.int 3))) (fC (.int 0)))) (sRet (fV 0)) sNext)
    (sSeq (sSet 2 (f2 addD (fC (.int 1)) (f2 modD (f1 intD (f2 divD (fV 1) (fC (.int 3)))) (fC (.int 6)))))
    (sSeq (sSetO 3 (lDisp aNil))
    (sSeq (sFor (iSeq (f2 ixD (fV 0) (fC (.int 0)))) (gTp 5 (gsCons (gNm 4) (gsCons (gNm 5) (gsCons (gNm 6) (gsCons (gNm 7) (gsCons (gNm 8) gsNil)))))) (sApp 3 (fTup (aCons (fV 4) (aCons (f2 mulD (fV 2) (fV 5)) (aCons (f2 mulD (fV 2) (fV 6)) (aCons (f2 mulD (fC (.int 3)) (fV 7)) (aCons (f2 mulD (fC (.int 7)) (fV 8)) aNil))))))))
    (sSeq (sSet 9 (fL (lLc (iSeq (f2 ixD (fV 0) (fC (.int 2)))) [10, 11, 12] (gTp 3 (gsCons (gNm 10) (gsCons (gNm 11) (gsCons (gNm 12) gsNil)))) gYes (fTup (aCons (f2 mulD (fV 2) (fV 10)) (aCons (f2 mulD (fV 2) (fV 11)) (aCons (f2 mulD (fC (.int 5)) (fV 12)) aNil)))))))
    (sRet (fTup (aCons (fV 3) (aCons (f2 ixD (fV 0) (fC (.int 1))) (aCons (fV 9) (aCons (f2 addD (f2 mulD (fC (.int 3)) (f2 ixD (fV 0) (fC (.int 3)))) (fC (.int 6))) (aCons (f2 ixD (fV 0) (fC (.int 4))) aNil))))))))))))
def R__law_grown : List D → Option D := runP 13 F__law_grown
def F_loss : FS := (sSeq (sSet 3 (fC (.int 0)))
    (sSeq (sFor (iSeq (fV 0)) (gTp 3 (gsCons (gNm 4) (gsCons (gNm 5) (gsCons (gNm 6) gsNil)))) (sAug 3 iaddD (f2 mulD (fV 6) (f2 max2D (fC (.int 0)) (f2 subD (f2 min2D (fV 2) (fV 5)) (f2 max2D (fV 1) (fV 4)))))))
    (sRet (fV 3))))
def R_loss : List D → Option D := runP 7 F_loss
def F_emptied : FS := (sRet (f2 max2D (fC (.int 0)) (f2 subD (fV 1) (fCall R_loss (aCons (f2 ixD (fV 0) (fC (.int 2))) (aCons (fV 2) (aCons (fV 3) aNil)))))))
def R_emptied : List D → Option D := runP 4 F_emptied
def F__law_sky : FS := (sSeq (sSet 2 (f2 addD (fC (.int 1)) (f2 modD (f1 intD (f2 ixD (fV 0) (fC (.int 0)))) (fC (.int 4)))))
    (sSeq (sSet 3 (fL (lLc (SL.iRng1 (fV 2)) [4] (gNm 4) gYes (f2 modD (f1 intD (f2 ixD (fV 0) (f2 addD (fC (.int 1)) (fV 4)))) (fC (.int 10))))))
    (sSeq (sSetO 5 (lDisp aNil))
    (sSeq (sSet 6 (fC (.int 0)))
    (sSeq (sFor (SL.iRng1 (f2 modD (f1 intD (f2 ixD (fV 0) (fC (.int 9)))) (fC (.int 3)))) (gNm 4) (sSeq (sSet 7 (f2 addD (fV 6) (f2 modD (f1 intD (f2 ixD (fV 0) (f2 addD (fC (.int 10)) (f2 mulD (fC (.int 3)) (fV 4))))) (fC (.int 6)))))
    (sSeq (sSet 6 (f2 addD (f2 addD (fV 7) (fC (.int 1))) (f2 modD (f1 intD (f2 ixD (fV 0) (f2 addD (fC (.int 11)) (f2 mulD (fC (.int 3)) (fV 4))))) (fC (.int 5)))))
    (sApp 5 (fTup (aCons (fV 7) (aCons (fV 6) (aCons (f2 addD (fC (.int 1)) (f2 modD (f1 intD (f2 ixD (fV 0) (f2 addD (fC (.int 12)) (f2 mulD (fC (.int 3)) (fV 4))))) (fC (.int 3)))) aNil))))))))
    (sSeq (sSetO 8 (lDisp aNil))
    (sSeq (sSet 9 (fC (.int 0)))
    (sSeq (sFor (SL.iRng1 (f2 modD (f1 intD (f2 ixD (fV 0) (fC (.int 16)))) (f2 addD (fV 1) (fC (.int 1))))) (gNm 4) (sSeq (sSet 9 (f2 addD (fV 9) (f2 modD (f1 intD (f2 ixD (fV 0) (f2 addD (fC (.int 20)) (f2 mulD (fC (.int 5)) (fV 4))))) (fC (.int 4)))))
    (sSeq (sSet 10 (f2 subD (f2 modD (f1 intD (f2 ixD (fV 0) (f2 addD (fC (.int 23)) (f2 mulD (fC (.int 5)) (fV 4))))) (fC (.int 61))) (fC (.int 30))))
    (sApp 8 (fTup (aCons (f2 modD (f1 intD (f2 ixD (fV 0) (f2 addD (fC (.int 21)) (f2 mulD (fC (.int 5)) (fV 4))))) (fV 2)) (aCons (fV 9) (aCons (f2 addD (fC (.int 1)) (f2 modD (f1 intD (f2 ixD (fV 0) (f2 addD (fC (.int 22)) (f2 mulD (fC (.int 5)) (fV 4))))) (fC (.int 3)))) (aCons (fV 10) (aCons (f2 addD (fC (.int 1)) (f2 modD (f1 intD (f2 ixD (fV 0) (f2 addD (fC (.int 24)) (f2 mulD (fC (.int 5)) (fV 4))))) (fC (.int 4)))) aNil))))))))))
    (sRet (fTup (aCons (fV 8) (aCons (fV 3) (aCons (fV 5) (aCons (f2 addD (fC (.int 2)) (f2 modD (f1 intD (f2 ixD (fV 0) (fC (.int 7)))) (fC (.int 7)))) (aCons (f2 addD (fC (.int 1)) (f2 modD (f1 intD (f2 ixD (fV 0) (fC (.int 8)))) (fC (.int 30)))) aNil)))))))))))))))
def R__law_sky : List D → Option D := runP 11 F__law_sky
def F_turning : FS := (sRet (f1 negD (f2 divD (f1 negD (f1 absD (f2 subD (f2 ixD (f2 ixD (f2 ixD (fV 0) (fC (.int 0))) (fV 2)) (fC (.int 3))) (f2 ixD (f2 ixD (f2 ixD (fV 0) (fC (.int 0))) (fV 1)) (fC (.int 3)))))) (f2 ixD (fV 0) (fC (.int 4))))))
def R_turning : List D → Option D := runP 3 F_turning
def F__law_is_whole : FS := (sRet (fAnd (f1 (isiD "int") (fV 0)) (fNot (f1 (isiD "bool") (fV 0)))))
def R__law_is_whole : List D → Option D := runP 1 F__law_is_whole
def F__law_left : FS := (sSeq (sFor (SL.iRng2 (fV 2) (fV 3)) (gNm 4) (sFor (iSeq (f2 ixD (fV 0) (fC (.int 2)))) (gTp 3 (gsCons (gNm 5) (gsCons (gNm 6) (gsCons (gNm 7) gsNil)))) (sIf (gT (fChain leD ltD (fV 5) (fV 4) (fV 6))) (sSet 1 (f2 max2D (fC (.int 0)) (f2 subD (fV 1) (fV 7)))) sNext)))
    (sRet (fV 1)))
def R__law_left : List D → Option D := runP 8 F__law_left
def F_end_of : FS := (sSeq (sAsg (f2 ixD (f2 ixD (fV 0) (fC (.int 0))) (fV 1)) (gTp 5 (gsCons (gNm 2) (gsCons (gNm 3) (gsCons (gNm 4) (gsCons (gNm 5) (gsCons (gNm 6) gsNil)))))))
    (sRet (f2 addD (fV 3) (fV 4))))
def R_end_of : List D → Option D := runP 7 F_end_of
def F__law_turn : FS := (sSeq (sSet 3 (fC (.int 0)))
    (sSeq (sFor (SL.iRng1 (fC (.int 200))) (gNm 4) (sSeq (sIf (gT (f2 geD (f2 mulD (fV 3) (f2 ixD (fV 0) (fC (.int 4)))) (f1 absD (f2 subD (f2 ixD (f2 ixD (f2 ixD (fV 0) (fC (.int 0))) (fV 2)) (fC (.int 3))) (f2 ixD (f2 ixD (f2 ixD (fV 0) (fC (.int 0))) (fV 1)) (fC (.int 3))))))) sBrk sNext)
    (sSet 3 (f2 addD (fV 3) (fC (.int 1))))))
    (sRet (fV 3))))
def R__law_turn : List D → Option D := runP 5 F__law_turn
structure Look where
  w : Int
  s : Int
  l : Int
  a : Int
  z : Int
structure Ear where
  f : Int
  l : Int
  r : Int
def lD (x : Look) : D := .tuple [.int x.w, .int x.s, .int x.l, .int x.a, .int x.z]
def eD (e : Ear) : D := .tuple [.int e.f, .int e.l, .int e.r]
structure Sky where
  looks : List Look
  worths : List Int
  ears : List Ear
  cap : Int
  turn : Int
def skyD (S : Sky) : D := .tuple [.list (S.looks.map lD), .list (S.worths.map .int), .list (S.ears.map eD), .int S.cap, .int S.turn]
structure OkL (n : Int) (x : Look) : Prop where
  w0 : 0 ≤ x.w
  w1 : x.w < n
  s0 : 0 ≤ x.s
  s1 : x.s ≤ 200
  l0 : 1 ≤ x.l
  l1 : x.l ≤ 20
  a0 : -90 ≤ x.a
  a1 : x.a ≤ 90
  z0 : 1 ≤ x.z
  z1 : x.z ≤ 30
structure OkE (e : Ear) : Prop where
  f0 : 0 ≤ e.f
  fl : e.f < e.l
  l1 : e.l ≤ 200
  r0 : 1 ≤ e.r
  r1 : e.r ≤ 30
structure OkSky (most : Nat) (S : Sky) : Prop where
  many : S.looks.length ≤ most
  looks : ∀ x ∈ S.looks, OkL S.worths.length x
  asc : S.looks.Pairwise fun x y => x.s ≤ y.s
  wl0 : 1 ≤ S.worths.length
  wl1 : S.worths.length ≤ 4
  worths : ∀ w ∈ S.worths, 0 ≤ w ∧ w ≤ 9
  el : S.ears.length ≤ 2
  ears : ∀ e ∈ S.ears, OkE e
  apart : S.ears.Pairwise fun x y => x.l ≤ y.f
  c0 : 2 ≤ S.cap
  c1 : S.cap ≤ 30
  t0 : 1 ≤ S.turn
  t1 : S.turn ≤ 30
theorem f1m (i : Int) : isSmall 3 = true ∧ isSmall 5 = true ∧ isSmall 7 = true := ⟨rfl, rfl, rfl⟩
/-! ### the drawn sky -/
def earBody : FS := (sSeq (sSet 7 (f2 addD (fV 6) (f2 modD (f1 intD (f2 ixD (fV 0) (f2 addD (fC (.int 10)) (f2 mulD (fC (.int 3)) (fV 4))))) (fC (.int 6)))))
    (sSeq (sSet 6 (f2 addD (f2 addD (fV 7) (fC (.int 1))) (f2 modD (f1 intD (f2 ixD (fV 0) (f2 addD (fC (.int 11)) (f2 mulD (fC (.int 3)) (fV 4))))) (fC (.int 5)))))
    (sApp 5 (fTup (aCons (fV 7) (aCons (fV 6) (aCons (f2 addD (fC (.int 1)) (f2 modD (f1 intD (f2 ixD (fV 0) (f2 addD (fC (.int 12)) (f2 mulD (fC (.int 3)) (fV 4))))) (fC (.int 3)))) aNil)))))))
theorem ear_turn (dr : D) (c1 c2 c3 c7 c8 c9 c10 : Option Cell) (es : List Ear) (k : Nat) (u x y z : Int) (hl : es.length < sizeLine)
    (h1 : ixD dr (.int (10 + 3 * (k : Int))) = some (.int x)) (h2 : ixD dr (.int (11 + 3 * (k : Int))) = some (.int y)) (h3 : ixD dr (.int (12 + 3 * (k : Int))) = some (.int z)) :
    earBody [some (.val dr), c1, c2, c3, some (.val (.int k)), some (.own (es.map eD)), some (.val (.int u)), c7, c8, c9, c10] =
      some (.nx [some (.val dr), c1, c2, c3, some (.val (.int k)), some (.own ((es ++ [Ear.mk (u + x % 6) (u + x % 6 + 1 + y % 5) (1 + z % 3)]).map eD)), some (.val (.int (u + x % 6 + 1 + y % 5))), some (.val (.int (u + x % 6))), c8, c9, c10]) := by
  have m : mulD (.int 3) (.int (k : Int)) = some (.int (3 * (k : Int))) := mulD_l rfl
  unfold earBody
  simp [m, h1, h2, h3, modD_p, hl, eD]
def lookBody : FS := (sSeq (sSet 9 (f2 addD (fV 9) (f2 modD (f1 intD (f2 ixD (fV 0) (f2 addD (fC (.int 20)) (f2 mulD (fC (.int 5)) (fV 4))))) (fC (.int 4)))))
    (sSeq (sSet 10 (f2 subD (f2 modD (f1 intD (f2 ixD (fV 0) (f2 addD (fC (.int 23)) (f2 mulD (fC (.int 5)) (fV 4))))) (fC (.int 61))) (fC (.int 30))))
    (sApp 8 (fTup (aCons (f2 modD (f1 intD (f2 ixD (fV 0) (f2 addD (fC (.int 21)) (f2 mulD (fC (.int 5)) (fV 4))))) (fV 2)) (aCons (fV 9) (aCons (f2 addD (fC (.int 1)) (f2 modD (f1 intD (f2 ixD (fV 0) (f2 addD (fC (.int 22)) (f2 mulD (fC (.int 5)) (fV 4))))) (fC (.int 3)))) (aCons (fV 10) (aCons (f2 addD (fC (.int 1)) (f2 modD (f1 intD (f2 ixD (fV 0) (f2 addD (fC (.int 24)) (f2 mulD (fC (.int 5)) (fV 4))))) (fC (.int 4)))) aNil)))))))))
theorem look_turn (dr : D) (n : Int) (hn : 0 < n) (c1 c3 c5 c6 c7 c10 : Option Cell) (ls : List Look) (k : Nat) (u x0 x1 x2 x3 x4 : Int) (hl : ls.length < sizeLine)
    (h0 : ixD dr (.int (20 + 5 * (k : Int))) = some (.int x0)) (h1 : ixD dr (.int (21 + 5 * (k : Int))) = some (.int x1)) (h2 : ixD dr (.int (22 + 5 * (k : Int))) = some (.int x2)) (h3 : ixD dr (.int (23 + 5 * (k : Int))) = some (.int x3)) (h4 : ixD dr (.int (24 + 5 * (k : Int))) = some (.int x4)) :
    lookBody [some (.val dr), c1, some (.val (.int n)), c3, some (.val (.int k)), c5, c6, c7, some (.own (ls.map lD)), some (.val (.int u)), c10] =
      some (.nx [some (.val dr), c1, some (.val (.int n)), c3, some (.val (.int k)), c5, c6, c7, some (.own ((ls ++ [Look.mk (x1 % n) (u + x0 % 4) (1 + x2 % 3) (x3 % 61 - 30) (1 + x4 % 4)]).map lD)), some (.val (.int (u + x0 % 4))), some (.val (.int (x3 % 61 - 30)))]) := by
  have m : mulD (.int 5) (.int (k : Int)) = some (.int (5 * (k : Int))) := mulD_l rfl
  unfold lookBody
  simp [m, h0, h1, h2, h3, h4, modD_p, modD_p hn, hl, lD]
theorem ear_loop (dr : D) (v : Nat → Int) (hix : ∀ i : Nat, i < 16 → ixD dr (.int i) = some (.int (v i))) (c1 c2 c3 c8 c9 c10 : Option Cell) (m : Nat) (hm : m ≤ 2) :
    ∃ (es : List Ear) (c4 c6 c7 : Option Cell), loopF (gNm 4) earBody (rngL 0 m) [some (.val dr), c1, c2, c3, none, some (.own []), some (.val (.int 0)), none, c8, c9, c10] = some (.nx [some (.val dr), c1, c2, c3, c4, some (.own (es.map eD)), c6, c7, c8, c9, c10]) ∧
      es.length = m ∧ (∀ e ∈ es, OkE e ∧ e.r ≤ 3 ∧ e.l ≤ 20) ∧ es.Pairwise (fun x y => x.l ≤ y.f) := by
  obtain ⟨r', h3, es, u, c4, c7, rfl, h4, h5, h6, h7, h8, h9⟩ := loop_all (A := gNm 4) (body := earBody) (items := rngL 0 m) (r := [some (.val dr), c1, c2, c3, none, some (.own []), some (.val (.int 0)), none, c8, c9, c10])
    (fun k r => ∃ (es : List Ear) (u : Int) (c4 c7 : Option Cell), r = [some (.val dr), c1, c2, c3, c4, some (.own (es.map eD)), some (.val (.int u)), c7, c8, c9, c10] ∧ es.length = k ∧ 0 ≤ u ∧ u ≤ 10 * k ∧ (∀ e ∈ es, OkE e ∧ e.r ≤ 3 ∧ e.l ≤ 20) ∧ (∀ e ∈ es, e.l ≤ u) ∧ es.Pairwise (fun x y => x.l ≤ y.f))
    ⟨[], 0, none, none, rfl, rfl, by decide, by decide, fun e he => by (cases he), fun e he => by (cases he), List.Pairwise.nil⟩ fun k d r e ⟨es, u, c4, c7, er, h4, h5, h6, h7, h8, h9⟩ => by
      subst er
      obtain ⟨hk, rfl⟩ := rngL_get e
      rw [show (0 : Int) + (k : Int) = k from Int.zero_add _]
      have i1 := hix (10 + 3 * k) (by omega)
      have i2 := hix (11 + 3 * k) (by omega)
      have i3 := hix (12 + 3 * k) (by omega)
      rw [show ((10 + 3 * k : Nat) : Int) = 10 + 3 * (k : Int) by omega] at i1
      rw [show ((11 + 3 * k : Nat) : Int) = 11 + 3 * (k : Int) by omega] at i2
      rw [show ((12 + 3 * k : Nat) : Int) = 12 + 3 * (k : Int) by omega] at i3
      generalize v (10 + 3 * k) = x at i1
      generalize v (11 + 3 * k) = y at i2
      generalize v (12 + 3 * k) = z at i3
      refine ⟨_, _, rfl, .inl (ear_turn dr c1 c2 c3 c7 c8 c9 c10 es k u x y z (small_len (by omega)) i1 i2 i3), es ++ [Ear.mk (u + x % 6) (u + x % 6 + 1 + y % 5) (1 + z % 3)], _, _, _, rfl, ?_, ?_, ?_, ?_, ?_, ?_⟩
      · rw [List.length_append, h4]; rfl
      · omega
      · omega
      · intro e he
        rcases List.mem_append.mp he with he | he
        · exact h7 e he
        · rw [List.mem_singleton.mp he]
          exact ⟨⟨by show 0 ≤ u + x % 6; omega, by show u + x % 6 < u + x % 6 + 1 + y % 5; omega, by show u + x % 6 + 1 + y % 5 ≤ 200; omega, by show 1 ≤ 1 + z % 3; omega, by show 1 + z % 3 ≤ 30; omega⟩, by show 1 + z % 3 ≤ 3; omega, by show u + x % 6 + 1 + y % 5 ≤ 20; omega⟩
      · intro e he
        rcases List.mem_append.mp he with he | he
        · have := h8 e he
          omega
        · rw [List.mem_singleton.mp he]
          exact Int.le_refl _
      · refine List.pairwise_append.mpr ⟨h9, List.pairwise_singleton _ _, fun a ha b hb => ?_⟩
        rw [List.mem_singleton.mp hb]
        have := h8 a ha
        show a.l ≤ u + x % 6
        omega
  rw [rngL_length] at h4
  exact ⟨es, c4, _, c7, h3, h4, h7, h9⟩
theorem look_loop (dr : D) (v : Nat → Int) (n : Int) (hn : 0 < n) (L : Nat) (hix : ∀ i : Nat, i < L → ixD dr (.int i) = some (.int (v i))) (c1 c3 c4 c5 c6 c7 : Option Cell) (m : Nat) (hm : 20 + 5 * m ≤ L) (hm2 : m ≤ 16) :
    ∃ (ls : List Look) (c4' c9 c10 : Option Cell), loopF (gNm 4) lookBody (rngL 0 m) [some (.val dr), c1, some (.val (.int n)), c3, c4, c5, c6, c7, some (.own []), some (.val (.int 0)), none] = some (.nx [some (.val dr), c1, some (.val (.int n)), c3, c4', c5, c6, c7, some (.own (ls.map lD)), c9, c10]) ∧
      ls.length = m ∧ (∀ x ∈ ls, OkL n x ∧ x.s ≤ 3 * m ∧ x.l ≤ 3 ∧ -30 ≤ x.a ∧ x.a ≤ 30 ∧ x.z ≤ 4) ∧ ls.Pairwise (fun x y => x.s ≤ y.s) := by
  obtain ⟨r', h3, ls, u, c4', c10, rfl, h4, h5, h6, h7, h8, h9⟩ := loop_all (A := gNm 4) (body := lookBody) (items := rngL 0 m) (r := [some (.val dr), c1, some (.val (.int n)), c3, c4, c5, c6, c7, some (.own []), some (.val (.int 0)), none])
    (fun k r => ∃ (ls : List Look) (u : Int) (c4' c10 : Option Cell), r = [some (.val dr), c1, some (.val (.int n)), c3, c4', c5, c6, c7, some (.own (ls.map lD)), some (.val (.int u)), c10] ∧ ls.length = k ∧ 0 ≤ u ∧ u ≤ 3 * k ∧ (∀ x ∈ ls, OkL n x ∧ x.l ≤ 3 ∧ -30 ≤ x.a ∧ x.a ≤ 30 ∧ x.z ≤ 4) ∧ (∀ x ∈ ls, x.s ≤ u) ∧ ls.Pairwise (fun x y => x.s ≤ y.s))
    ⟨[], 0, c4, none, rfl, rfl, by decide, by decide, fun e he => by (cases he), fun e he => by (cases he), List.Pairwise.nil⟩ fun k d r e ⟨ls, u, c4', c10, er, h4, h5, h6, h7, h8, h9⟩ => by
      subst er
      obtain ⟨hk, rfl⟩ := rngL_get e
      rw [show (0 : Int) + (k : Int) = k from Int.zero_add _]
      have i0 := hix (20 + 5 * k) (by omega)
      have i1 := hix (21 + 5 * k) (by omega)
      have i2 := hix (22 + 5 * k) (by omega)
      have i3 := hix (23 + 5 * k) (by omega)
      have i4 := hix (24 + 5 * k) (by omega)
      rw [show ((20 + 5 * k : Nat) : Int) = 20 + 5 * (k : Int) by omega] at i0
      rw [show ((21 + 5 * k : Nat) : Int) = 21 + 5 * (k : Int) by omega] at i1
      rw [show ((22 + 5 * k : Nat) : Int) = 22 + 5 * (k : Int) by omega] at i2
      rw [show ((23 + 5 * k : Nat) : Int) = 23 + 5 * (k : Int) by omega] at i3
      rw [show ((24 + 5 * k : Nat) : Int) = 24 + 5 * (k : Int) by omega] at i4
      generalize v (20 + 5 * k) = x0 at i0
      generalize v (21 + 5 * k) = x1 at i1
      generalize v (22 + 5 * k) = x2 at i2
      generalize v (23 + 5 * k) = x3 at i3
      generalize v (24 + 5 * k) = x4 at i4
      have w0 := Int.emod_nonneg x1 (show n ≠ 0 by omega)
      have w1 := Int.emod_lt_of_pos x1 hn
      refine ⟨_, _, rfl, .inl (look_turn dr n hn c1 c3 c5 c6 c7 c10 ls k u x0 x1 x2 x3 x4 (small_len (by omega)) i0 i1 i2 i3 i4), ls ++ [Look.mk (x1 % n) (u + x0 % 4) (1 + x2 % 3) (x3 % 61 - 30) (1 + x4 % 4)], _, _, _, rfl, ?_, ?_, ?_, ?_, ?_, ?_⟩
      · rw [List.length_append, h4]; rfl
      · omega
      · omega
      · intro e he
        rcases List.mem_append.mp he with he | he
        · exact h7 e he
        · rw [List.mem_singleton.mp he]
          exact ⟨⟨w0, w1, by show 0 ≤ u + x0 % 4; omega, by show u + x0 % 4 ≤ 200; omega, by show 1 ≤ 1 + x2 % 3; omega, by show 1 + x2 % 3 ≤ 20; omega, by show -90 ≤ x3 % 61 - 30; omega, by show x3 % 61 - 30 ≤ 90; omega, by show 1 ≤ 1 + x4 % 4; omega, by show 1 + x4 % 4 ≤ 30; omega⟩, by show 1 + x2 % 3 ≤ 3; omega, by show -30 ≤ x3 % 61 - 30; omega, by show x3 % 61 - 30 ≤ 30; omega, by show 1 + x4 % 4 ≤ 4; omega⟩
      · intro e he
        rcases List.mem_append.mp he with he | he
        · have := h8 e he
          omega
        · rw [List.mem_singleton.mp he]
          exact Int.le_refl _
      · refine List.pairwise_append.mpr ⟨h9, List.pairwise_singleton _ _, fun a ha b hb => ?_⟩
        rw [List.mem_singleton.mp hb]
        have := h8 a ha
        show a.s ≤ u + x0 % 4
        omega
  rw [rngL_length] at h4 h6
  exact ⟨ls, c4', _, c10, h3, h4, fun x hx => ⟨(h7 x hx).1, Int.le_trans (h8 x hx) h6, (h7 x hx).2⟩, h9⟩
theorem worths_lc (dr : D) (v : Nat → Int) (hix : ∀ i : Nat, i < 16 → ixD dr (.int i) = some (.int (v i))) (c1 : D) (m : Nat) (hm : m ≤ 4) :
    lLc (SL.iRng1 (fV 2)) [4] (gNm 4) gYes (f2 modD (f1 intD (f2 ixD (fV 0) (f2 addD (fC (.int 1)) (fV 4)))) (fC (.int 10))) [some (.val dr), some (.val c1), some (.val (.int m)), none, none, none, none, none, none, none, none] =
      some (((List.range m).map fun k => v (1 + k) % 10).map .int, [some (.val dr), some (.val c1), some (.val (.int m)), none, none, none, none, none, none, none, none]) := by
  have hr := okR_of (i := (m : Int)) (by omega) (by omega)
  rw [lLc_eq (ds := rngL 0 m) (r0 := [some (.val dr), some (.val c1), some (.val (.int m)), none, none, none, none, none, none, none, none]) (zs := ((List.range m).map fun k => v (1 + k) % 10).map .int) (w := [some (.val dr), some (.val c1), some (.val (.int m)), none, none, none, none, none, none, none, none]) ?a ?b ?c]
  · rfl
  case a => simp [SL.iRng1, hr]
  case b =>
    rw [rngL_map, List.map_map]
    refine lcF_all (fun (i : Nat) => (.int i : D)) _ rfl fun k hk => ?_
    have hk2 : k < m := List.mem_range.mp hk
    have h1 := hix (1 + k) (by omega)
    rw [show ((1 + k : Nat) : Int) = 1 + (k : Int) by omega] at h1
    exact ⟨_, [some (.val dr), some (.val c1), some (.val (.int m)), none, some (.val (.int k)), none, none, none, none, none, none], rfl, by simp [h1, modD_p], rfl⟩
  case c => exact small_len (by simp; omega)
theorem sky_ok (dr : D) (v : Nat → Int) (most : Nat) (hm : most ≤ 16) (hix : ∀ i : Nat, i < 20 + 5 * most → ixD dr (.int i) = some (.int (v i))) :
    ∃ S : Sky, R__law_sky [dr, .int most] = some (skyD S) ∧ OkSky most S ∧ (∀ x ∈ S.looks, x.s ≤ 3 * most ∧ x.l ≤ 3 ∧ -30 ≤ x.a ∧ x.a ≤ 30 ∧ x.z ≤ 4) ∧ (∀ e ∈ S.ears, e.r ≤ 3 ∧ e.l ≤ 20) ∧ S.cap ≤ 8 := by
  have h0 := hix 0 (by omega)
  have h7 := hix 7 (by omega)
  have h8 := hix 8 (by omega)
  have h9 := hix 9 (by omega)
  have h16 := hix 16 (by omega)
  simp only [Int.natCast_zero] at h0
  rw [show ((7 : Nat) : Int) = 7 from rfl] at h7
  rw [show ((8 : Nat) : Int) = 8 from rfl] at h8
  rw [show ((9 : Nat) : Int) = 9 from rfl] at h9
  rw [show ((16 : Nat) : Int) = 16 from rfl] at h16
  obtain ⟨n, en⟩ := Int.eq_ofNat_of_zero_le (show 0 ≤ 1 + v 0 % 4 by omega)
  obtain ⟨me, eme⟩ := Int.eq_ofNat_of_zero_le (show 0 ≤ v 9 % 3 by omega)
  have hp : (0 : Int) < (most : Int) + 1 := by omega
  have hp2 : (most : Int) + 1 < 1073741824 := by omega
  obtain ⟨ml, eml⟩ := Int.eq_ofNat_of_zero_le (Int.emod_nonneg (v 16) (show (most : Int) + 1 ≠ 0 by omega))
  have lml := Int.emod_lt_of_pos (v 16) hp
  have n0 : (0 : Int) < n := by omega
  have lw := worths_lc dr v (fun i hi => hix i (by omega)) (.int most) n (by omega)
  obtain ⟨es, c4, c6, c7, g1, g2, g3, g4⟩ := ear_loop dr v (fun i hi => hix i (by omega)) (some (.val (.int most))) (some (.val (.int n))) (some (.val (.list (((List.range n).map fun k => v (1 + k) % 10).map .int)))) none none none me (by omega)
  obtain ⟨ls, c4', c9, c10, k1, k2, k3, k4⟩ := look_loop dr v n n0 (20 + 5 * most) hix (some (.val (.int most))) (some (.val (.list (((List.range n).map fun k => v (1 + k) % 10).map .int)))) c4 (some (.own (es.map eD))) c6 c7 ml (by omega) (by omega)
  have r1 := okR_of (i := (me : Int)) (by omega) (by omega)
  have r2 := okR_of (i := (ml : Int)) (by omega) (by omega)
  refine ⟨⟨ls, (List.range n).map fun k => v (1 + k) % 10, es, 2 + v 7 % 7, 1 + v 8 % 30⟩, ?_, ?_, ?_, ?_, ?_⟩
  · generalize hW : ((List.range n).map fun k => v (1 + k) % 10) = W at *
    generalize hWD : (PyData.list (W.map .int)) = WD at *
    unfold R__law_sky runP F__law_sky skyD
    rw [sSeq_nx (r1 := [some (.val dr), some (.val (.int most)), some (.val (.int n)), none, none, none, none, none, none, none, none]) (by simp [startE, h0, modD_p, en]),
      sSeq_nx (r1 := [some (.val dr), some (.val (.int most)), some (.val (.int n)), some (.val WD), none, none, none, none, none, none, none]) (by unfold sSet fL; rw [lw]; rw [← hWD]; rfl),
      sSeq_nx (r1 := [some (.val dr), some (.val (.int most)), some (.val (.int n)), some (.val WD), none, some (.own []), none, none, none, none, none]) rfl,
      sSeq_nx (r1 := [some (.val dr), some (.val (.int most)), some (.val (.int n)), some (.val WD), none, some (.own []), some (.val (.int 0)), none, none, none, none]) rfl,
      sSeq_nx (by rw [sFor_eq (ds := rngL 0 me) (r1 := [some (.val dr), some (.val (.int most)), some (.val (.int n)), some (.val WD), none, some (.own []), some (.val (.int 0)), none, none, none, none]) (by simp [SL.iRng1, h9, modD_p, eme, r1])]; exact g1),
      sSeq_nx (r1 := [some (.val dr), some (.val (.int most)), some (.val (.int n)), some (.val WD), c4, some (.own (es.map eD)), c6, c7, some (.own []), none, none]) rfl,
      sSeq_nx (r1 := [some (.val dr), some (.val (.int most)), some (.val (.int n)), some (.val WD), c4, some (.own (es.map eD)), c6, c7, some (.own []), some (.val (.int 0)), none]) rfl,
      sSeq_nx (by rw [sFor_eq (ds := rngL 0 ml) (r1 := [some (.val dr), some (.val (.int most)), some (.val (.int n)), some (.val WD), c4, some (.own (es.map eD)), c6, c7, some (.own []), some (.val (.int 0)), none]) (by simp [SL.iRng1, h16, modD_p hp, eml, r2])]; exact k1)]
    simp [h7, h8, modD_p, hWD]
  · exact {
      many := by show ls.length ≤ most; omega
      looks := fun x hx => by
        have := (k3 x hx).1
        show OkL (((List.range n).map fun k => v (1 + k) % 10).length : Nat) x
        rw [List.length_map, List.length_range]
        exact this
      asc := k4
      wl0 := by show 1 ≤ ((List.range n).map fun k => v (1 + k) % 10).length; rw [List.length_map, List.length_range]; omega
      wl1 := by show ((List.range n).map fun k => v (1 + k) % 10).length ≤ 4; rw [List.length_map, List.length_range]; omega
      worths := fun w hw => by
        obtain ⟨k, _, rfl⟩ := List.mem_map.mp hw
        omega
      el := by show es.length ≤ 2; omega
      ears := fun e he => (g3 e he).1
      apart := g4
      c0 := by show 2 ≤ 2 + v 7 % 7; omega
      c1 := by show 2 + v 7 % 7 ≤ 30; omega
      t0 := by show 1 ≤ 1 + v 8 % 30; omega
      t1 := by show 1 + v 8 % 30 ≤ 30; omega }
  · intro x hx
    obtain ⟨a, b, c⟩ := k3 x hx
    exact ⟨by omega, c⟩
  · exact fun e he => (g3 e he).2
  · show 2 + v 7 % 7 ≤ 8; omega
/-! ### the sky made greater -/
def grow (b : Int) (S : Sky) : Sky := ⟨S.looks.map fun x => ⟨x.w, b * x.s, b * x.l, 3 * x.a, 7 * x.z⟩, S.worths, S.ears.map fun e => ⟨b * e.f, b * e.l, 5 * e.r⟩, 3 * S.cap + 6, S.turn⟩
def gBody : FS := (sApp 3 (fTup (aCons (fV 4) (aCons (f2 mulD (fV 2) (fV 5)) (aCons (f2 mulD (fV 2) (fV 6)) (aCons (f2 mulD (fC (.int 3)) (fV 7)) (aCons (f2 mulD (fC (.int 7)) (fV 8)) aNil)))))))
abbrev gT5 : FG := (gTp 5 (gsCons (gNm 4) (gsCons (gNm 5) (gsCons (gNm 6) (gsCons (gNm 7) (gsCons (gNm 8) gsNil))))))
theorem g_turn (sk dw : D) (b : Int) (hb : isSmall b = true) (x : Look) (ls : List D) (hl2 : ls.length < sizeLine) :
    gBody [some (.val sk), some (.val dw), some (.val (.int b)), some (.own ls), some (.val (.int x.w)), some (.val (.int x.s)), some (.val (.int x.l)), some (.val (.int x.a)), some (.val (.int x.z)), none, none, none, none] =
      some (.nx [some (.val sk), some (.val dw), some (.val (.int b)), some (.own (ls ++ [lD ⟨x.w, b * x.s, b * x.l, 3 * x.a, 7 * x.z⟩])), some (.val (.int x.w)), some (.val (.int x.s)), some (.val (.int x.l)), some (.val (.int x.a)), some (.val (.int x.z)), none, none, none, none]) := by
  have m3 : mulD (.int 3) (.int x.a) = some (.int (3 * x.a)) := mulD_l rfl
  have m7 : mulD (.int 7) (.int x.z) = some (.int (7 * x.z)) := mulD_l rfl
  unfold gBody
  simp [m3, m7, mulD_l hb, hl2, lD]
theorem g_loop (sk dw : D) (b : Int) (hb : isSmall b = true) (S : Sky) (hl : S.looks.length ≤ 1000) :
    ∃ c4 c5 c6 c7 c8 : Option Cell, loopF gT5 gBody (S.looks.map lD) [some (.val sk), some (.val dw), some (.val (.int b)), some (.own []), none, none, none, none, none, none, none, none, none] =
      some (.nx [some (.val sk), some (.val dw), some (.val (.int b)), some (.own ((grow b S).looks.map lD)), c4, c5, c6, c7, c8, none, none, none, none]) := by
  obtain ⟨r', h3, ls, c4, c5, c6, c7, c8, rfl, h4⟩ := loop_all (A := gT5) (body := gBody) (items := S.looks.map lD) (r := [some (.val sk), some (.val dw), some (.val (.int b)), some (.own []), none, none, none, none, none, none, none, none, none])
    (fun k r => ∃ (ls : List D) (c4 c5 c6 c7 c8 : Option Cell), r = [some (.val sk), some (.val dw), some (.val (.int b)), some (.own ls), c4, c5, c6, c7, c8, none, none, none, none] ∧ ls = ((grow b S).looks.map lD).take k)
    ⟨[], none, none, none, none, none, rfl, rfl⟩ fun k d r e ⟨ls, c4, c5, c6, c7, c8, er, h4⟩ => by
      subst er
      rw [List.getElem?_map] at e
      obtain ⟨x, e1, rfl⟩ := Option.map_eq_some_iff.mp e
      have hk : k < S.looks.length := (List.getElem?_eq_some_iff.mp e1).1
      have hl2 : ls.length < sizeLine := small_len (by rw [h4, List.length_take]; omega)
      refine ⟨[some (.val sk), some (.val dw), some (.val (.int b)), some (.own ls), some (.val (.int x.w)), some (.val (.int x.s)), some (.val (.int x.l)), some (.val (.int x.a)), some (.val (.int x.z)), none, none, none, none], _, rfl, .inl (g_turn sk dw b hb x ls hl2), _, _, _, _, _, _, rfl, ?_⟩
      rw [List.take_succ, ← h4]
      congr 1
      rw [List.getElem?_map]
      show _ = (Option.map lD ((S.looks.map _)[k]?)).toList
      rw [List.getElem?_map, e1]
      rfl
  rw [List.length_map] at h4
  rw [List.take_of_length_le (by rw [List.length_map]; show (S.looks.map _).length ≤ _; rw [List.length_map]; exact Nat.le_refl _)] at h4
  subst h4
  exact ⟨c4, c5, c6, c7, c8, h3⟩
theorem g_lc (sk dw : D) (b : Int) (hb : isSmall b = true) (S : Sky) (hl : S.ears.length ≤ 1000) (c3 c4 c5 c6 c7 c8 : Option Cell) (hi : ixD sk (.int 2) = some (.list (S.ears.map eD))) :
    lLc (iSeq (f2 ixD (fV 0) (fC (.int 2)))) [10, 11, 12] (gTp 3 (gsCons (gNm 10) (gsCons (gNm 11) (gsCons (gNm 12) gsNil)))) gYes (fTup (aCons (f2 mulD (fV 2) (fV 10)) (aCons (f2 mulD (fV 2) (fV 11)) (aCons (f2 mulD (fC (.int 5)) (fV 12)) aNil)))) [some (.val sk), some (.val dw), some (.val (.int b)), c3, c4, c5, c6, c7, c8, none, none, none, none] =
      some ((grow b S).ears.map eD, [some (.val sk), some (.val dw), some (.val (.int b)), c3, c4, c5, c6, c7, c8, none, none, none, none]) := by
  rw [lLc_eq (ds := S.ears.map eD) (r0 := [some (.val sk), some (.val dw), some (.val (.int b)), c3, c4, c5, c6, c7, c8, none, none, none, none]) (zs := (grow b S).ears.map eD) (w := [some (.val sk), some (.val dw), some (.val (.int b)), c3, c4, c5, c6, c7, c8, none, none, none, none]) ?a ?b ?c]
  · rfl
  case a => simp [iSeq, hi]
  case b =>
    show _ = some (List.map eD (S.ears.map _), _)
    rw [List.map_map]
    refine lcF_all eD _ rfl fun e he => ?_
    have m5 : mulD (.int 5) (.int e.r) = some (.int (5 * e.r)) := mulD_l rfl
    exact ⟨[some (.val sk), some (.val dw), some (.val (.int b)), c3, c4, c5, c6, c7, c8, none, some (.val (.int e.f)), some (.val (.int e.l)), some (.val (.int e.r))], [some (.val sk), some (.val dw), some (.val (.int b)), c3, c4, c5, c6, c7, c8, none, some (.val (.int e.f)), some (.val (.int e.l)), some (.val (.int e.r))], rfl, by simp [m5, mulD_l hb]; rfl, rfl⟩
  case c => exact small_len (by rw [List.length_map]; show (S.ears.map _).length ≤ _; rw [List.length_map]; omega)
theorem grown_ok {most : Nat} (hm : most ≤ 16) (S : Sky) (dw : Int) (ok : OkSky most S) (h1 : ∀ x ∈ S.looks, x.s ≤ 3 * most ∧ x.l ≤ 3 ∧ -30 ≤ x.a ∧ x.a ≤ 30 ∧ x.z ≤ 4) (h2 : ∀ e ∈ S.ears, e.r ≤ 3 ∧ e.l ≤ 20) (h3 : S.cap ≤ 8) (hs : 18 * most ≤ 200) :
    ∃ T : Sky, R__law_grown [skyD S, .int dw] = some (skyD T) ∧ OkSky most T := by
  by_cases hd : dw % 3 > 0
  · refine ⟨S, ?_, ok⟩
    unfold R__law_grown runP F__law_grown
    simp [startE, modD_p, hd, sSeq]
  · obtain ⟨b, eb⟩ : ∃ b : Int, 1 + dw / 3 % 6 = b := ⟨_, rfl⟩
    have b0 : 1 ≤ b := by omega
    have b1 : b ≤ 6 := by omega
    have hb : isSmall b = true := small_of (by omega) (by omega)
    refine ⟨grow b S, ?_, ?_⟩
    · obtain ⟨c4, c5, c6, c7, c8, g1⟩ := g_loop (skyD S) (.int dw) b hb S (by have := ok.many; omega)
      have i0 : ixD (skyD S) (.int 0) = some (.list (S.looks.map lD)) := rfl
      have i1 : ixD (skyD S) (.int 1) = some (.list (S.worths.map .int)) := rfl
      have i2 : ixD (skyD S) (.int 2) = some (.list (S.ears.map eD)) := rfl
      have i3 : ixD (skyD S) (.int 3) = some (.int S.cap) := rfl
      have i4 : ixD (skyD S) (.int 4) = some (.int S.turn) := rfl
      have g2 := g_lc (skyD S) (.int dw) b hb S (by have := ok.el; omega) (some (.own ((grow b S).looks.map lD))) c4 c5 c6 c7 c8 i2
      have m3 : mulD (.int 3) (.int S.cap) = some (.int (3 * S.cap)) := mulD_l rfl
      have e5 : skyD (grow b S) = .tuple [.list ((grow b S).looks.map lD), .list (S.worths.map .int), .list ((grow b S).ears.map eD), .int (3 * S.cap + 6), .int S.turn] := rfl
      rw [e5]
      have d3 : divD (.int dw) (.int 3) = some (.int (dw / 3)) := divD_p (by decide) (by decide)
      generalize (grow b S).looks.map lD = LL at *
      generalize (grow b S).ears.map eD = EE at *
      generalize hLD : S.looks.map lD = LD at *
      generalize skyD S = SD at *
      unfold R__law_grown runP F__law_grown
      rw [sSeq_nx (r1 := [some (.val SD), some (.val (.int dw)), none, none, none, none, none, none, none, none, none, none, none]) (by simp [startE, modD_p, hd]),
        sSeq_nx (r1 := [some (.val SD), some (.val (.int dw)), some (.val (.int b)), none, none, none, none, none, none, none, none, none, none]) (by simp [d3, modD_p, eb]),
        sSeq_nx (r1 := [some (.val SD), some (.val (.int dw)), some (.val (.int b)), some (.own []), none, none, none, none, none, none, none, none, none]) rfl,
        sSeq_nx (by rw [sFor_eq (ds := LD) (r1 := [some (.val SD), some (.val (.int dw)), some (.val (.int b)), some (.own []), none, none, none, none, none, none, none, none, none]) (by simp [iSeq, i0])]; exact g1),
        sSeq_nx (r1 := [some (.val SD), some (.val (.int dw)), some (.val (.int b)), some (.own LL), c4, c5, c6, c7, c8, some (.val (.list EE)), none, none, none]) (by unfold sSet fL; rw [g2]; rfl)]
      simp [i1, i3, i4, m3]
    · have mulb : ∀ {x u : Int}, 0 ≤ x → x ≤ u → 0 ≤ b * x ∧ b * x ≤ 6 * u := fun {x u} h0 h1 => ⟨Int.mul_nonneg (by omega) h0, Int.le_trans (Int.mul_le_mul_of_nonneg_right b1 h0) (by omega)⟩
      exact {
        many := by show (S.looks.map _).length ≤ most; rw [List.length_map]; exact ok.many
        looks := fun y hy => by
          obtain ⟨x, hx, rfl⟩ := List.mem_map.mp hy
          have o := ok.looks x hx
          obtain ⟨p1, p2, p3, p4, p5⟩ := h1 x hx
          obtain ⟨q1, q2⟩ := mulb o.s0 p1
          obtain ⟨q3, q4⟩ := mulb (Int.le_trans (by decide) o.l0) p2
          have := o.a0; have := o.a1; have := o.z0; have := o.z1; have := o.l0
          have q5 : 1 ≤ b * x.l := Int.le_trans (by omega : 1 ≤ 1 * x.l) (Int.mul_le_mul_of_nonneg_right b0 (by omega))
          exact ⟨o.w0, o.w1, q1, by show b * x.s ≤ 200; omega, q5, by show b * x.l ≤ 20; omega, by show -90 ≤ 3 * x.a; omega, by show 3 * x.a ≤ 90; omega, by show 1 ≤ 7 * x.z; omega, by show 7 * x.z ≤ 30; omega⟩
        asc := by
          show (S.looks.map _).Pairwise _
          rw [List.pairwise_map]
          exact ok.asc.imp fun {x y} h => Int.mul_le_mul_of_nonneg_left h (by omega)
        wl0 := ok.wl0
        wl1 := ok.wl1
        worths := ok.worths
        el := by show (S.ears.map _).length ≤ 2; rw [List.length_map]; exact ok.el
        ears := fun y hy => by
          obtain ⟨x, hx, rfl⟩ := List.mem_map.mp hy
          have o := ok.ears x hx
          obtain ⟨p1, p2⟩ := h2 x hx
          have := o.f0; have := o.fl; have := o.r0
          obtain ⟨q1, q2⟩ := mulb o.f0 (show x.f ≤ 20 by omega)
          obtain ⟨q3, q4⟩ := mulb (show 0 ≤ x.l by omega) p2
          have q5 : b * x.f < b * x.l := Int.mul_lt_mul_of_pos_left o.fl (by omega)
          exact ⟨q1, q5, by show b * x.l ≤ 200; omega, by show 1 ≤ 5 * x.r; omega, by show 5 * x.r ≤ 30; omega⟩
        apart := by
          show (S.ears.map _).Pairwise _
          rw [List.pairwise_map]
          exact ok.apart.imp fun {x y} h => Int.mul_le_mul_of_nonneg_left h (by omega)
        c0 := by have := ok.c0; show 2 ≤ 3 * S.cap + 6; omega
        c1 := by show 3 * S.cap + 6 ≤ 30; omega
        t0 := ok.t0
        t1 := ok.t1 }
end Sk
/-! Turning and stores, in plain numbers. -/
namespace Sk
open PySem PySem.Spec PyProof.Rows L2 SL
theorem sky_i0 (S : Sky) : ixD (skyD S) (.int 0) = some (.list (S.looks.map lD)) := rfl
theorem sky_i1 (S : Sky) : ixD (skyD S) (.int 1) = some (.list (S.worths.map .int)) := rfl
theorem sky_i2 (S : Sky) : ixD (skyD S) (.int 2) = some (.list (S.ears.map eD)) := rfl
theorem sky_i3 (S : Sky) : ixD (skyD S) (.int 3) = some (.int S.cap) := rfl
theorem sky_i4 (S : Sky) : ixD (skyD S) (.int 4) = some (.int S.turn) := rfl
theorem look_ix {S : Sky} {i : Nat} {x : Look} (h : S.looks[i]? = some x) : ixD (.list (S.looks.map lD)) (.int (i : Int)) = some (lD x) := by
  refine (atI_lit _ i).trans ?_
  rw [List.getElem?_map, h]
  rfl
theorem end_ok {S : Sky} {i : Nat} {x : Look} (h : S.looks[i]? = some x) : R_end_of [skyD S, .int i] = some (.int (x.s + x.l)) := by
  have h0 := sky_i0 S
  have h1 := look_ix h
  generalize PyData.list (S.looks.map lD) = LD at h0 h1
  generalize skyD S = SD at h0
  unfold R_end_of runP F_end_of
  rw [sSeq_nx (r1 := [some (.val SD), some (.val (.int i)), some (.val (.int x.w)), some (.val (.int x.s)), some (.val (.int x.l)), some (.val (.int x.a)), some (.val (.int x.z))]) (by
    unfold sAsg
    simp [startE, h0, h1, lD, gTp, gsCons, gsNil, gNm])]
  simp
def dA (a b : Int) : Int := if b - a < 0 then -(b - a) else b - a
def turnZ (t a b : Int) : Int := -((-(dA a b)) / t)
theorem turning_ok {S : Sky} {i j : Nat} {x y : Look} (hx : S.looks[i]? = some x) (hy : S.looks[j]? = some y) (ht : 1 ≤ S.turn) (ht2 : S.turn ≤ 30) : R_turning [skyD S, .int i, .int j] = some (.int (turnZ S.turn x.a y.a)) := by
  have h0 := sky_i0 S
  have h4 := sky_i4 S
  have h1 := look_ix hx
  have h2 := look_ix hy
  have e1 : ixD (lD x) (.int 3) = some (.int x.a) := rfl
  have e2 : ixD (lD y) (.int 3) = some (.int y.a) := rfl
  have dv : ∀ u : Int, divD (.int u) (.int S.turn) = some (.int (u / S.turn)) := fun u => divD_p (by omega) (by omega)
  generalize PyData.list (S.looks.map lD) = LD at h0 h1 h2
  generalize skyD S = SD at h0 h4
  generalize lD x = X at h1 e1
  generalize lD y = Y at h2 e2
  unfold R_turning runP F_turning turnZ dA
  simp [startE, h0, h1, h2, h4, e1, e2, dv]
theorem whole_ok (i : Int) : R__law_is_whole [.int i] = some (.bool true) := by
  unfold R__law_is_whole runP F__law_is_whole
  simp [startE]
/-! ### the law's turning -/
def turnBody : FS := (sSeq (sIf (gT (f2 geD (f2 mulD (fV 3) (f2 ixD (fV 0) (fC (.int 4)))) (f1 absD (f2 subD (f2 ixD (f2 ixD (f2 ixD (fV 0) (fC (.int 0))) (fV 2)) (fC (.int 3))) (f2 ixD (f2 ixD (f2 ixD (fV 0) (fC (.int 0))) (fV 1)) (fC (.int 3))))))) sBrk sNext)
    (sSet 3 (f2 addD (fV 3) (fC (.int 1)))))
theorem turn_ev (SD LD X Y : D) (i j k t kt d a b : Int) (c4 : Option Cell) (h0 : ixD SD (.int 0) = some LD) (h4 : ixD SD (.int 4) = some (.int t)) (h1 : ixD LD (.int i) = some X) (h2 : ixD LD (.int j) = some Y) (e1 : ixD X (.int 3) = some (.int a)) (e2 : ixD Y (.int 3) = some (.int b))
    (m : mulD (.int k) (.int t) = some (.int kt)) (ab : absD (.int (b - a)) = some (.int d)) :
    turnBody [some (.val SD), some (.val (.int i)), some (.val (.int j)), some (.val (.int k)), c4] =
      if d ≤ kt then some (.bk [some (.val SD), some (.val (.int i)), some (.val (.int j)), some (.val (.int k)), c4])
      else some (.nx [some (.val SD), some (.val (.int i)), some (.val (.int j)), some (.val (.int (k + 1))), c4]) := by
  unfold turnBody
  by_cases h : d ≤ kt
  · rw [if_pos h]
    simp [h0, h1, h2, h4, e1, e2, m, ab, -absD_i, h]
  · rw [if_neg h]
    simp [h0, h1, h2, h4, e1, e2, m, ab, -absD_i, h]
theorem turn_step {S : Sky} {i j : Nat} {x y : Look} (hx : S.looks[i]? = some x) (hy : S.looks[j]? = some y) (ht : 1 ≤ S.turn) (ht2 : S.turn ≤ 30) (k : Nat) (c4 : Option Cell) :
    turnBody [some (.val (skyD S)), some (.val (.int i)), some (.val (.int j)), some (.val (.int k)), c4] =
      if dA x.a y.a ≤ (k : Int) * S.turn then some (.bk [some (.val (skyD S)), some (.val (.int i)), some (.val (.int j)), some (.val (.int k)), c4])
      else some (.nx [some (.val (skyD S)), some (.val (.int i)), some (.val (.int j)), some (.val (.int ((k + 1 : Nat) : Int))), c4]) :=
  turn_ev (skyD S) (.list (S.looks.map lD)) (lD x) (lD y) i j k S.turn _ _ x.a y.a c4 (sky_i0 S) (sky_i4 S) (look_ix hx) (look_ix hy) rfl rfl (mulD_r (small_of (by omega) (by omega))) rfl
theorem turnZ_le {t a b : Int} (ht : 1 ≤ t) (k : Nat) : dA a b ≤ (k : Int) * t ↔ turnZ t a b ≤ k := by
  unfold turnZ
  generalize dA a b = d
  rw [show (-(-d / t) ≤ (k : Int)) ↔ (-(k : Int) ≤ -d / t) by omega, Int.le_ediv_iff_mul_le (by omega), Int.neg_mul]
  omega
theorem dA_nonneg (a b : Int) : 0 ≤ dA a b := by unfold dA; split <;> omega
theorem turnZ_nonneg {t a b : Int} (ht : 1 ≤ t) : 0 ≤ turnZ t a b := by
  unfold turnZ
  have := dA_nonneg a b
  have h : -dA a b / t ≤ 0 := by
    have := Int.ediv_le_ediv (show 0 < t by omega) (show -dA a b ≤ 0 by omega)
    rwa [Int.zero_ediv] at this
  omega
theorem lturn_ok {S : Sky} {n : Nat} {i j : Nat} {x y : Look} (hx : S.looks[i]? = some x) (hy : S.looks[j]? = some y) (ox : OkL n x) (oy : OkL n y) (ht : 1 ≤ S.turn) (ht2 : S.turn ≤ 30) : R__law_turn [skyD S, .int i, .int j] = some (.int (turnZ S.turn x.a y.a)) := by
  obtain ⟨z, ez⟩ := Int.eq_ofNat_of_zero_le (turnZ_nonneg (a := x.a) (b := y.a) ht)
  have hd : dA x.a y.a ≤ 180 := by
    have := ox.a0; have := ox.a1; have := oy.a0; have := oy.a1
    unfold dA
    split <;> omega
  have zle := fun k => turnZ_le (a := x.a) (b := y.a) ht k
  rw [ez] at zle ⊢
  have z180 : z ≤ 180 := by
    have := (zle 180).mp (by
      have : (180 : Int) * 1 ≤ 180 * S.turn := Int.mul_le_mul_of_nonneg_left ht (by decide)
      show dA x.a y.a ≤ 180 * S.turn
      omega)
    omega
  obtain ⟨r', h3, h4⟩ := loop_brk (A := gNm 4) (body := turnBody) (items := rngL 0 200) (r := [some (.val (skyD S)), some (.val (.int i)), some (.val (.int j)), some (.val (.int 0)), none])
    (fun k r => k ≤ z ∧ ∃ c4 : Option Cell, r = [some (.val (skyD S)), some (.val (.int i)), some (.val (.int j)), some (.val (.int k)), c4])
    (fun r => ∃ c4 : Option Cell, r = [some (.val (skyD S)), some (.val (.int i)), some (.val (.int j)), some (.val (.int z)), c4])
    0 ⟨Nat.zero_le _, none, rfl⟩ fun k d r e ⟨hk, c4, er⟩ => by
      subst er
      rw [Nat.zero_add] at *
      obtain ⟨hi, rfl⟩ := rngL_get e
      have st := turn_step hx hy ht ht2 k (some (.val (.int (0 + (k : Int)))))
      by_cases h : dA x.a y.a ≤ (k : Int) * S.turn
      · have h2 := (zle k).mp h
        rw [if_pos h] at st
        have : k = z := by omega
        subst this
        exact ⟨_, rfl, .inr ⟨_, st, _, rfl⟩⟩
      · have h2 := mt (zle k).mpr h
        rw [if_neg h] at st
        exact ⟨_, rfl, .inl ⟨_, .inl st, by omega, _, rfl⟩⟩
  have fin : ∃ c4 : Option Cell, r' = [some (.val (skyD S)), some (.val (.int i)), some (.val (.int j)), some (.val (.int z)), c4] := by
    rcases h4 with ⟨h5, _⟩ | h5
    · rw [rngL_length] at h5
      omega
    · exact h5
  obtain ⟨c4, rfl⟩ := fin
  unfold R__law_turn runP F__law_turn
  rw [sSeq_nx (r1 := [some (.val (skyD S)), some (.val (.int i)), some (.val (.int j)), some (.val (.int 0)), none]) (by simp [startE]),
    sSeq_nx (by rw [sFor_eq (ds := rngL 0 200) (r1 := [some (.val (skyD S)), some (.val (.int i)), some (.val (.int j)), some (.val (.int 0)), none]) rfl]; exact h3)]
  simp
/-! ### stores -/
def mx (i j : Int) : Int := if j > i then j else i
def mn (i j : Int) : Int := if j < i then j else i
def oneLoss (since until_ : Int) (e : Ear) : Int := e.r * mx 0 (mn until_ e.l - mx since e.f)
def lossZ (es : List Ear) (since until_ : Int) : Int := es.foldl (fun u e => u + oneLoss since until_ e) 0
def lossBody : FS := (sAug 3 iaddD (f2 mulD (fV 6) (f2 max2D (fC (.int 0)) (f2 subD (f2 min2D (fV 2) (fV 5)) (f2 max2D (fV 1) (fV 4))))))
abbrev gT3 : FG := (gTp 3 (gsCons (gNm 4) (gsCons (gNm 5) (gsCons (gNm 6) gsNil))))
theorem loss_turn (E : D) (since until_ u f l r w1 w2 w3 z : Int) (h1 : min2D (.int until_) (.int l) = some (.int w1)) (h2 : max2D (.int since) (.int f) = some (.int w2)) (h3 : max2D (.int 0) (.int (w1 - w2)) = some (.int w3)) (m : mulD (.int r) (.int w3) = some (.int z)) :
    lossBody [some (.val E), some (.val (.int since)), some (.val (.int until_)), some (.val (.int u)), some (.val (.int f)), some (.val (.int l)), some (.val (.int r))] =
      some (.nx [some (.val E), some (.val (.int since)), some (.val (.int until_)), some (.val (.int (u + z))), some (.val (.int f)), some (.val (.int l)), some (.val (.int r))]) := by
  unfold lossBody
  simp [-max2D_i, -min2D_i, h1, h2, h3, m]
theorem loss_ok (es : List Ear) (ok : ∀ e ∈ es, OkE e) (since until_ : Int) : R_loss [.list (es.map eD), .int since, .int until_] = some (.int (lossZ es since until_)) := by
  obtain ⟨r', h1, c4, c5, c6, rfl⟩ := loop_fold (A := gT3) (body := lossBody) eD
    (fun (u : Int) r => ∃ c4 c5 c6 : Option Cell, r = [some (.val (.list (es.map eD))), some (.val (.int since)), some (.val (.int until_)), some (.val (.int u)), c4, c5, c6])
    (fun u e => u + oneLoss since until_ e) (xs := es) (b := 0) (r := [some (.val (.list (es.map eD))), some (.val (.int since)), some (.val (.int until_)), some (.val (.int 0)), none, none, none])
    (fun u e r he ⟨c4, c5, c6, er⟩ => by
      subst er
      have o := ok e he
      have m : mulD (.int e.r) (.int (mx 0 (mn until_ e.l - mx since e.f))) = some (.int (oneLoss since until_ e)) := mulD_l (small_of (by have := o.r0; omega) (by have := o.r1; omega))
      exact ⟨[some (.val (.list (es.map eD))), some (.val (.int since)), some (.val (.int until_)), some (.val (.int u)), some (.val (.int e.f)), some (.val (.int e.l)), some (.val (.int e.r))], _, rfl, .inl (loss_turn _ since until_ u e.f e.l e.r _ _ _ _ rfl rfl rfl m), _, _, _, rfl⟩)
    ⟨none, none, none, rfl⟩
  unfold R_loss runP F_loss
  rw [sSeq_nx (r1 := [some (.val (.list (es.map eD))), some (.val (.int since)), some (.val (.int until_)), some (.val (.int 0)), none, none, none]) rfl,
    sSeq_nx (by rw [sFor_eq (ds := es.map eD) (r1 := [some (.val (.list (es.map eD))), some (.val (.int since)), some (.val (.int until_)), some (.val (.int 0)), none, none, none]) rfl]; exact h1)]
  simp [lossZ]
theorem emp_ev (R : List D → Option D) (SD E : D) (a since until_ z : Int) (h2 : ixD SD (.int 2) = some E) (hl : R [E, .int since, .int until_] = some (.int z)) :
    endP (sRet (f2 max2D (fC (.int 0)) (f2 subD (fV 1) (fCall R (aCons (f2 ixD (fV 0) (fC (.int 2))) (aCons (fV 2) (aCons (fV 3) aNil)))))) (startE 4 [SD, .int a, .int since, .int until_])) = some (.int (mx 0 (a - z))) := by
  unfold mx
  simp [startE, h2, hl]
theorem emptied_ok (S : Sky) (ok : ∀ e ∈ S.ears, OkE e) (a since until_ : Int) : R_emptied [skyD S, .int a, .int since, .int until_] = some (.int (mx 0 (a - lossZ S.ears since until_))) :=
  emp_ev R_loss (skyD S) _ a since until_ _ (sky_i2 S) (loss_ok S.ears ok since until_)
/-- what is lost in one tick -/
def tickLoss (es : List Ear) (t : Int) : Int := es.foldl (fun u e => u + if e.f ≤ t ∧ t < e.l then e.r else 0) 0
theorem fold_add {α : Type} (g : α → Int) : ∀ (xs : List α) (u : Int), xs.foldl (fun u x => u + g x) u = u + xs.foldl (fun u x => u + g x) 0
  | [], u => (Int.add_zero u).symm
  | x :: xs, u => by
    rw [List.foldl_cons, fold_add g xs, List.foldl_cons, fold_add g xs (0 + g x)]
    omega
theorem fold_sum {α : Type} (g h k : α → Int) : ∀ (xs : List α), (∀ x ∈ xs, g x = h x + k x) → xs.foldl (fun u x => u + g x) 0 = xs.foldl (fun u x => u + h x) 0 + xs.foldl (fun u x => u + k x) 0
  | [], _ => rfl
  | x :: xs, hx => by
    rw [List.foldl_cons, List.foldl_cons, List.foldl_cons, fold_add g, fold_add h, fold_add k, fold_sum g h k xs fun y hy => hx y (List.mem_cons_of_mem _ hy), hx x (List.mem_cons_self ..)]
    omega
theorem fold_zero {α : Type} (g : α → Int) : ∀ (xs : List α), (∀ x ∈ xs, g x = 0) → xs.foldl (fun u x => u + g x) 0 = 0
  | [], _ => rfl
  | x :: xs, hx => by
    rw [List.foldl_cons, fold_add g, fold_zero g xs fun y hy => hx y (List.mem_cons_of_mem _ hy), hx x (List.mem_cons_self ..)]
    rfl
theorem one_step {since t : Int} (h : since ≤ t) (e : Ear) (he : e.f < e.l) : oneLoss since (t + 1) e = oneLoss since t e + if e.f ≤ t ∧ t < e.l then e.r else 0 := by
  unfold oneLoss mx mn
  by_cases h1 : e.f ≤ t ∧ t < e.l
  · rw [if_pos h1]
    have a1 : (if e.l < t + 1 then e.l else t + 1) = t + 1 := if_neg (by omega)
    have a2 : (if e.l < t then e.l else t) = t := if_neg (by omega)
    rw [a1, a2]
    by_cases h2 : e.f > since
    · rw [if_pos h2, if_pos (show t + 1 - e.f > 0 by omega)]
      by_cases h3 : t - e.f > 0
      · rw [if_pos h3, show t + 1 - e.f = (t - e.f) + 1 by omega, Int.mul_add, Int.mul_one]
      · rw [if_neg h3, show t + 1 - e.f = 1 by omega, Int.mul_one, Int.mul_zero, Int.zero_add]
    · rw [if_neg h2, if_pos (show t + 1 - since > 0 by omega)]
      by_cases h3 : t - since > 0
      · rw [if_pos h3, show t + 1 - since = (t - since) + 1 by omega, Int.mul_add, Int.mul_one]
      · rw [if_neg h3, show t + 1 - since = 1 by omega, Int.mul_one, Int.mul_zero, Int.zero_add]
  · rw [if_neg h1, Int.add_zero]
    congr 1
    by_cases h2 : e.l ≤ t
    · have a1 : (if e.l < t + 1 then e.l else t + 1) = e.l := if_pos (by omega)
      have a2 : (if e.l < t then e.l else t) = e.l := by split <;> omega
      rw [a1, a2]
    · have a1 : (if e.l < t + 1 then e.l else t + 1) = t + 1 := if_neg (by omega)
      have a2 : (if e.l < t then e.l else t) = t := if_neg (by omega)
      have a3 : (if e.f > since then e.f else since) = e.f := if_pos (by omega)
      rw [a1, a2, a3, if_neg (by omega), if_neg (by omega)]
/-- the losses of k ticks -/
def sumLoss (es : List Ear) (since : Int) : Nat → Int
  | 0 => 0
  | k + 1 => sumLoss es since k + tickLoss es (since + k)
theorem loss_sum (es : List Ear) (ok : ∀ e ∈ es, OkE e) (since : Int) : ∀ k : Nat, lossZ es since (since + k) = sumLoss es since k
  | 0 => by
    unfold lossZ
    refine fold_zero _ es fun e he => ?_
    unfold oneLoss mx mn
    rw [if_neg (by
      have := (ok e he).fl
      rw [show since + ((0 : Nat) : Int) = since from Int.add_zero _]
      split <;> split <;> omega), Int.mul_zero]
  | k + 1 => by
    rw [show since + ((k + 1 : Nat) : Int) = (since + k) + 1 by omega]
    unfold lossZ
    rw [fold_sum _ (oneLoss since (since + k)) (fun e => if e.f ≤ since + k ∧ since + k < e.l then e.r else 0) es fun e he => one_step (by omega) e (ok e he).fl]
    have ih := loss_sum es ok since k
    unfold lossZ at ih
    rw [ih]
    rfl
theorem sumLoss_add (es : List Ear) (since : Int) (i : Nat) : ∀ j : Nat, sumLoss es since (i + j) = sumLoss es since i + sumLoss es (since + i) j
  | 0 => (Int.add_zero _).symm
  | j + 1 => by
    show sumLoss es since (i + j) + tickLoss es (since + ((i + j : Nat) : Int)) = sumLoss es since i + (sumLoss es (since + i) j + tickLoss es (since + i + j))
    rw [sumLoss_add es since i j, show since + ((i + j : Nat) : Int) = since + i + j by omega, Int.add_assoc]
theorem tick_nonneg {es : List Ear} (ok : ∀ e ∈ es, OkE e) (t : Int) : 0 ≤ tickLoss es t := by
  unfold tickLoss
  induction es with
  | nil => exact Int.le_refl _
  | cons e es ih =>
    rw [List.foldl_cons, fold_add fun e : Ear => if e.f ≤ t ∧ t < e.l then e.r else 0]
    have := ih fun x hx => ok x (List.mem_cons_of_mem _ hx)
    have := (ok e (List.mem_cons_self ..)).r0
    split <;> omega
theorem sum_nonneg {es : List Ear} (ok : ∀ e ∈ es, OkE e) (since : Int) : ∀ k, 0 ≤ sumLoss es since k
  | 0 => Int.le_refl _
  | k + 1 => by
    have := sum_nonneg ok since k
    have := tick_nonneg ok (since + k)
    show 0 ≤ sumLoss es since k + tickLoss es (since + k)
    omega
/-! the law's store -/
def leftIn : FS := (sIf (gT (fChain leD ltD (fV 5) (fV 4) (fV 6))) (sSet 1 (f2 max2D (fC (.int 0)) (f2 subD (fV 1) (fV 7)))) sNext)
abbrev gT3b : FG := (gTp 3 (gsCons (gNm 5) (gsCons (gNm 6) (gsCons (gNm 7) gsNil))))
def leftBody : FS := (sFor (iSeq (f2 ixD (fV 0) (fC (.int 2)))) gT3b leftIn)
theorem left_in (SD since until_ : D) (a t f l r : Int) :
    leftIn [some (.val SD), some (.val (.int a)), some (.val since), some (.val until_), some (.val (.int t)), some (.val (.int f)), some (.val (.int l)), some (.val (.int r))] =
      some (.nx [some (.val SD), some (.val (.int (if f ≤ t ∧ t < l then mx 0 (a - r) else a))), some (.val since), some (.val until_), some (.val (.int t)), some (.val (.int f)), some (.val (.int l)), some (.val (.int r))]) := by
  unfold leftIn mx
  by_cases h1 : f ≤ t
  · by_cases h2 : t < l
    · simp [h1, h2]
    · simp [h1, h2]
  · simp [h1]
theorem left_fold (t : Int) : ∀ (es : List Ear) (_ : ∀ e ∈ es, OkE e) (a u : Int), 0 ≤ u → es.foldl (fun a e => if e.f ≤ t ∧ t < e.l then mx 0 (a - e.r) else a) (mx 0 (a - u)) = mx 0 (a - (u + tickLoss es t))
  | [], _, a, u, _ => by
    show mx 0 (a - u) = mx 0 (a - (u + 0))
    rw [Int.add_zero]
  | e :: es, ok, a, u, hu => by
    have o := ok e (List.mem_cons_self ..)
    have e1 : tickLoss (e :: es) t = (if e.f ≤ t ∧ t < e.l then e.r else 0) + tickLoss es t := by
      unfold tickLoss
      rw [List.foldl_cons, fold_add fun e : Ear => if e.f ≤ t ∧ t < e.l then e.r else 0]
      omega
    rw [List.foldl_cons, e1]
    have hr := o.r0
    by_cases h : e.f ≤ t ∧ t < e.l
    · rw [if_pos h, if_pos h]
      have e2 : mx 0 (mx 0 (a - u) - e.r) = mx 0 (a - (u + e.r)) := by
        unfold mx
        split <;> split <;> split <;> omega
      rw [e2, left_fold t es (fun x hx => ok x (List.mem_cons_of_mem _ hx)) a (u + e.r) (by omega), Int.add_assoc]
    · rw [if_neg h, if_neg h, Int.zero_add]
      exact left_fold t es (fun x hx => ok x (List.mem_cons_of_mem _ hx)) a u hu
theorem left_turn (S : Sky) (ok : ∀ e ∈ S.ears, OkE e) (since until_ : D) (a u t : Int) (hu : 0 ≤ u) (c5 c6 c7 : Option Cell) :
    ∃ c5' c6' c7' : Option Cell, leftBody [some (.val (skyD S)), some (.val (.int (mx 0 (a - u)))), some (.val since), some (.val until_), some (.val (.int t)), c5, c6, c7] =
      some (.nx [some (.val (skyD S)), some (.val (.int (mx 0 (a - (u + tickLoss S.ears t))))), some (.val since), some (.val until_), some (.val (.int t)), c5', c6', c7']) := by
  obtain ⟨r', h1, c5', c6', c7', rfl⟩ := loop_fold (A := gT3b) (body := leftIn) eD
    (fun (b : Int) r => ∃ c5 c6 c7 : Option Cell, r = [some (.val (skyD S)), some (.val (.int b)), some (.val since), some (.val until_), some (.val (.int t)), c5, c6, c7])
    (fun b e => if e.f ≤ t ∧ t < e.l then mx 0 (b - e.r) else b) (xs := S.ears) (b := mx 0 (a - u)) (r := [some (.val (skyD S)), some (.val (.int (mx 0 (a - u)))), some (.val since), some (.val until_), some (.val (.int t)), c5, c6, c7])
    (fun b e r he ⟨c5, c6, c7, er⟩ => by
      subst er
      exact ⟨[some (.val (skyD S)), some (.val (.int b)), some (.val since), some (.val until_), some (.val (.int t)), some (.val (.int e.f)), some (.val (.int e.l)), some (.val (.int e.r))], _, rfl, .inl (left_in _ since until_ b t e.f e.l e.r), _, _, _, rfl⟩)
    ⟨c5, c6, c7, rfl⟩
  rw [left_fold t S.ears ok a u hu] at h1
  refine ⟨c5', c6', c7', ?_⟩
  unfold leftBody
  rw [sFor_eq (ds := S.ears.map eD) (r1 := [some (.val (skyD S)), some (.val (.int (mx 0 (a - u)))), some (.val since), some (.val until_), some (.val (.int t)), c5, c6, c7]) rfl]
  exact h1
theorem left_ok (S : Sky) (ok : ∀ e ∈ S.ears, OkE e) (a since : Int) (k : Nat) (ha : 0 ≤ a) (hs : 0 ≤ since) (hs2 : since ≤ 1000) (hk : k ≤ 1000) :
    R__law_left [skyD S, .int a, .int since, .int (since + k)] = some (.int (mx 0 (a - sumLoss S.ears since k))) := by
  have r1 := okR_of (i := since) (by omega) (by omega)
  have r2 := okR_of (i := since + k) (by omega) (by omega)
  have e0 : mx 0 (a - 0) = a := by unfold mx; split <;> omega
  have e2 : mx 0 a = a := by unfold mx; split <;> omega
  obtain ⟨r', h1, c4, c5, c6, c7, rfl⟩ := loop_all (A := gNm 4) (body := leftBody) (items := rngL since k) (r := [some (.val (skyD S)), some (.val (.int (mx 0 (a - 0)))), some (.val (.int since)), some (.val (.int (since + k))), none, none, none, none])
    (fun i r => ∃ c4 c5 c6 c7 : Option Cell, r = [some (.val (skyD S)), some (.val (.int (mx 0 (a - sumLoss S.ears since i)))), some (.val (.int since)), some (.val (.int (since + k))), c4, c5, c6, c7])
    ⟨none, none, none, none, rfl⟩ fun i d r e ⟨c4, c5, c6, c7, er⟩ => by
      subst er
      obtain ⟨_, rfl⟩ := rngL_get e
      obtain ⟨c5', c6', c7', h⟩ := left_turn S ok (.int since) (.int (since + k)) a (sumLoss S.ears since i) (since + i) (sum_nonneg ok since i) c5 c6 c7
      exact ⟨_, _, rfl, .inl h, _, _, _, _, rfl⟩
  rw [rngL_length] at h1
  unfold R__law_left runP F__law_left
  rw [sSeq_nx (by rw [sFor_eq (ds := rngL since k) (r1 := [some (.val (skyD S)), some (.val (.int (mx 0 (a - 0)))), some (.val (.int since)), some (.val (.int (since + k))), none, none, none, none]) (by
    have e1 : (since + (k : Int) - since).toNat = k := by omega
    simp [SL.iRng2, startE, r1, r2, e1, e2])]; exact h1)]
  simp
/-! ### what is shown -/
theorem look_sw {n : Int} (hn : n ≤ 1000) {x : Look} (h : OkL n x) : Sw 38 (lD x) := by
  refine Sw.mono (Sw.tuple (n := 5) (ds := [.int x.w, .int x.s, .int x.l, .int x.a, .int x.z]) fun d hd => ?_) (show 5 * (5 + 2) + 3 ≤ 38 by decide)
  have := h.w0; have := h.w1; have := h.s0; have := h.s1; have := h.l0; have := h.l1; have := h.a0; have := h.a1; have := h.z0; have := h.z1
  simp only [List.mem_cons, List.not_mem_nil, or_false] at hd
  rcases hd with rfl | rfl | rfl | rfl | rfl <;> exact Sw.int (k := 4) (by decide) (by decide) (by omega)
theorem ear_sw {e : Ear} (h : OkE e) : Sw 24 (eD e) := by
  refine Sw.mono (Sw.tuple (n := 5) (ds := [.int e.f, .int e.l, .int e.r]) fun d hd => ?_) (show 3 * (5 + 2) + 3 ≤ 24 by decide)
  have := h.f0; have := h.fl; have := h.l1; have := h.r0; have := h.r1
  simp only [List.mem_cons, List.not_mem_nil, or_false] at hd
  rcases hd with rfl | rfl | rfl <;> exact Sw.int (k := 4) (by decide) (by decide) (by omega)
theorem sky_sw {most : Nat} (hm : most ≤ 16) {S : Sky} (ok : OkSky most S) : Sw 3600 (skyD S) := by
  refine Sw.mono (Sw.tuple (n := 700) (ds := [.list (S.looks.map lD), .list (S.worths.map .int), .list (S.ears.map eD), .int S.cap, .int S.turn]) fun d hd => ?_) (show 5 * (700 + 2) + 3 ≤ 3600 by decide)
  have := ok.many; have := ok.wl1; have := ok.el
  simp only [List.mem_cons, List.not_mem_nil, or_false] at hd
  rcases hd with rfl | rfl | rfl | rfl | rfl
  · refine Sw.mono (Sw.list (n := 38) fun d hd => ?_) (by rw [List.length_map]; omega)
    obtain ⟨x, hx, rfl⟩ := List.mem_map.mp hd
    exact look_sw (by omega) (ok.looks x hx)
  · refine Sw.mono (Sw.list (n := 5) fun d hd => ?_) (by rw [List.length_map]; omega)
    obtain ⟨x, hx, rfl⟩ := List.mem_map.mp hd
    exact Sw.int (k := 4) (by decide) (by decide) (by have := ok.worths x hx; omega)
  · refine Sw.mono (Sw.list (n := 24) fun d hd => ?_) (by rw [List.length_map]; omega)
    obtain ⟨x, hx, rfl⟩ := List.mem_map.mp hd
    exact ear_sw (ok.ears x hx)
  · exact Sw.mono (Sw.int (k := 4) (by decide) (by decide) (by have := ok.c0; have := ok.c1; omega)) (by decide)
  · exact Sw.mono (Sw.int (k := 4) (by decide) (by decide) (by have := ok.t0; have := ok.t1; omega)) (by decide)
theorem look_sh (x : Look) : Sh 1 (lD x) := Sh.tuple (n := 0) fun d hd => by
  simp only [List.mem_cons, List.not_mem_nil, or_false] at hd
  rcases hd with rfl | rfl | rfl | rfl | rfl <;> exact Sh.int 0 _
theorem ear_sh (e : Ear) : Sh 1 (eD e) := Sh.tuple (n := 0) fun d hd => by
  simp only [List.mem_cons, List.not_mem_nil, or_false] at hd
  rcases hd with rfl | rfl | rfl <;> exact Sh.int 0 _
theorem sky_sh (S : Sky) : Sh 3 (skyD S) := Sh.tuple (n := 2) fun d hd => by
  simp only [List.mem_cons, List.not_mem_nil, or_false] at hd
  rcases hd with rfl | rfl | rfl | rfl | rfl
  · exact Sh.list (n := 1) fun d hd => by
      obtain ⟨x, _, rfl⟩ := List.mem_map.mp hd
      exact look_sh x
  · exact Sh.list (n := 1) fun d hd => by
      obtain ⟨x, _, rfl⟩ := List.mem_map.mp hd
      exact Sh.int 1 _
  · exact Sh.list (n := 1) fun d hd => by
      obtain ⟨x, _, rfl⟩ := List.mem_map.mp hd
      exact ear_sh x
  · exact Sh.int 2 _
  · exact Sh.int 2 _
theorem sky_repr {most : Nat} (hm : most ≤ 16) {S : Sky} (ok : OkSky most S) : reprD (skyD S) = some (.str (skyD S).shown) :=
  (sky_sw hm ok).repr (by decide) rfl (Nat.le_trans (sky_sh S).2 (by decide))
end Sk
/-! What is wrong in a list of names, in plain numbers. -/
namespace Sk
open PySem PySem.Spec PyProof.Rows L2 SL
def F__law_store : FS := (sSeq (sSet 3 (fC (.int 0)))
    (sSeq (sFor (SL.iRng1 (f2 addD (fV 2) (fC (.int 1)))) (gNm 4) (sSeq (sFor (iSeq (f2 ixD (fV 0) (fC (.int 2)))) (gTp 3 (gsCons (gNm 5) (gsCons (gNm 6) (gsCons (gNm 7) gsNil)))) (sIf (gT (fChain leD ltD (fV 5) (f2 subD (fV 4) (fC (.int 1))) (fV 6))) (sSet 3 (f2 max2D (fC (.int 0)) (f2 subD (fV 3) (fV 7)))) sNext))
    (sFor (iSeq (fV 1)) (gNm 8) (sSeq (sAsg (f2 ixD (f2 ixD (fV 0) (fC (.int 0))) (fV 8)) (gTp 5 (gsCons (gNm 9) (gsCons (gNm 10) (gsCons (gNm 11) (gsCons (gNm 12) (gsCons (gNm 13) gsNil)))))))
    (sIf (gT (f2 eqD (f2 addD (fV 10) (fV 11)) (fV 4))) (sSet 3 (f2 addD (fV 3) (fV 13))) sNext)))))
    (sRet (fV 3))))
def R__law_store : List D → Option D := runP 14 F__law_store
def F__law_wrong : FS := (sSeq (sFor (SL.iRng1 (f1 lenD (fV 1))) (gNm 2) (sSeq (sSet 3 (f2 ixD (f2 ixD (fV 0) (fC (.int 0))) (f2 ixD (fV 1) (fV 2))))
    (sSeq (sIf (gAnd (gT (f2 gtD (fV 2) (fC (.int 0)))) (gT (f2 leD (f2 ixD (fV 1) (fV 2)) (f2 ixD (fV 1) (f2 subD (fV 2) (fC (.int 1))))))) (sRet (fTup (aCons (fC (.str "order")) (aCons (fV 2) aNil)))) sNext)
    (sSeq (sIf (gT (f2 inD (f2 ixD (fV 3) (fC (.int 0))) (fL (lLc (iSeq (fCut (fV 1) oNone (oSome (fV 2)))) [4] (gNm 4) gYes (f2 ixD (f2 ixD (f2 ixD (fV 0) (fC (.int 0))) (fV 4)) (fC (.int 0))))))) (sRet (fTup (aCons (fC (.str "wish")) (aCons (fV 2) aNil)))) sNext)
    (sSeq (sIf (gT (f2 gtD (fV 2) (fC (.int 0)))) (sSeq (sSet 5 (f2 ixD (f2 ixD (fV 0) (fC (.int 0))) (f2 ixD (fV 1) (f2 subD (fV 2) (fC (.int 1))))))
    (sIf (gT (f2 ltD (f2 ixD (fV 3) (fC (.int 1))) (f2 addD (f2 addD (f2 ixD (fV 5) (fC (.int 1))) (f2 ixD (fV 5) (fC (.int 2)))) (fCall R__law_turn (aCons (fV 0) (aCons (f2 ixD (fV 1) (f2 subD (fV 2) (fC (.int 1)))) (aCons (f2 ixD (fV 1) (fV 2)) aNil))))))) (sRet (fTup (aCons (fC (.str "turning")) (aCons (fV 2) aNil)))) sNext)) sNext)
    (sIf (gT (f2 gtD (f2 addD (fCall R__law_store (aCons (fV 0) (aCons (fCut (fV 1) oNone (oSome (fV 2))) (aCons (f2 ixD (fV 3) (fC (.int 1))) aNil)))) (f2 ixD (fV 3) (fC (.int 4)))) (f2 ixD (fV 0) (fC (.int 3))))) (sRet (fTup (aCons (fC (.str "room")) (aCons (fV 2) aNil)))) sNext))))))
    (sRet (fC .none)))
def R__law_wrong : List D → Option D := runP 6 F__law_wrong
def F_stored_at : FS := (sSeq (sIf (gT (f2 isD (fV 1) (fC .none))) (sRet (fC (.int 0))) sNext)
    (sRet (fCall R_emptied (aApp (aCons (fV 0) (aCons (fV 2) aNil)) (aCons (fCall R_end_of (aCons (fV 0) (aCons (fV 1) aNil))) (aCons (fV 3) aNil))))))
def R_stored_at : List D → Option D := runP 4 F_stored_at
def F_level_behind : FS := (sSeq (sAsg (f2 ixD (f2 ixD (fV 0) (fC (.int 0))) (fV 3)) (gTp 5 (gsCons (gNm 4) (gsCons (gNm 5) (gsCons (gNm 6) (gsCons (gNm 7) (gsCons (gNm 8) gsNil)))))))
    (sSeq (sIf (gT (f2 gtD (f2 addD (fCall R_stored_at (aCons (fV 0) (aCons (fV 1) (aCons (fV 2) (aCons (fV 5) aNil))))) (fV 8)) (f2 ixD (fV 0) (fC (.int 3))))) (sRet (fC .none)) sNext)
    (sRet (f2 addD (fCall R_stored_at (aCons (fV 0) (aCons (fV 1) (aCons (fV 2) (aCons (f2 addD (fV 5) (fV 6)) aNil))))) (fV 8)))))
def R_level_behind : List D → Option D := runP 9 F_level_behind
def F_follows : FS := (sRet (f2 geD (f2 ixD (f2 ixD (f2 ixD (fV 0) (fC (.int 0))) (fV 2)) (fC (.int 1))) (f2 addD (fCall R_end_of (aCons (fV 0) (aCons (fV 1) aNil))) (fCall R_turning (aCons (fV 0) (aCons (fV 1) (aCons (fV 2) aNil)))))))
def R_follows : List D → Option D := runP 3 F_follows
def F_wrong_in : FS := (sSeq (sSet 2 (fC .none))
    (sSeq (sSet 3 (fC (.int 0)))
    (sSeq (sSetO 4 (lDisp aNil))
    (sSeq (sFor (iEnumD (fV 1)) (gTp 2 (gsCons (gNm 5) (gsCons (gNm 6) gsNil))) (sSeq (sIf (gAnd (gT (f2 isNotD (fV 2) (fC .none))) (gT (f2 leD (fV 6) (fV 2)))) (sRet (fTup (aCons (fC (.str "order")) (aCons (fV 5) aNil)))) sNext)
    (sSeq (sIf (gT (f2 inD (f2 ixD (f2 ixD (f2 ixD (fV 0) (fC (.int 0))) (fV 6)) (fC (.int 0))) (fVp 4))) (sRet (fTup (aCons (fC (.str "wish")) (aCons (fV 5) aNil)))) sNext)
    (sSeq (sIf (gAnd (gT (f2 isNotD (fV 2) (fC .none))) (gNot (gTru (fCall R_follows (aCons (fV 0) (aCons (fV 2) (aCons (fV 6) aNil))))))) (sRet (fTup (aCons (fC (.str "turning")) (aCons (fV 5) aNil)))) sNext)
    (sSeq (sSet 3 (fCall R_level_behind (aCons (fV 0) (aCons (fV 2) (aCons (fV 3) (aCons (fV 6) aNil))))))
    (sSeq (sIf (gT (f2 isD (fV 3) (fC .none))) (sRet (fTup (aCons (fC (.str "room")) (aCons (fV 5) aNil)))) sNext)
    (sSeq (sApp 4 (f2 ixD (f2 ixD (f2 ixD (fV 0) (fC (.int 0))) (fV 6)) (fC (.int 0))))
    (sSet 2 (fV 6)))))))))
    (sRet (fC .none))))))
def R_wrong_in : List D → Option D := runP 7 F_wrong_in
def F_is_plan : FS := (sRet (f2 isD (fCall R_wrong_in (aCons (fV 0) (aCons (fV 1) aNil))) (fC .none)))
def R_is_plan : List D → Option D := runP 2 F_is_plan
def F_worth_of : FS := (sSeq (sSetO 2 (lDisp aNil))
    (sSeq (sFor (iSeq (fV 1)) (gNm 3) (sIf (gT (f2 notInD (f2 ixD (f2 ixD (f2 ixD (fV 0) (fC (.int 0))) (fV 3)) (fC (.int 0))) (fVp 2))) (sApp 2 (f2 ixD (f2 ixD (f2 ixD (fV 0) (fC (.int 0))) (fV 3)) (fC (.int 0)))) sNext))
    (sRet (f1 sumD (fL (lLc (iSeq (fV 2)) [4] (gNm 4) gYes (f2 ixD (f2 ixD (fV 0) (fC (.int 1))) (fV 4))))))))
def R_worth_of : List D → Option D := runP 5 F_worth_of
def F__law_worth : FS := (sSeq (sSet 2 (fL (lLc (iSeq (fV 1)) [3] (gNm 3) gYes (f2 ixD (f2 ixD (f2 ixD (fV 0) (fC (.int 0))) (fV 3)) (fC (.int 0))))))
    (sRet (f1 sumD (fL (lLc (SL.iRng1 (f1 lenD (f2 ixD (fV 0) (fC (.int 1))))) [4] (gNm 4) (gT (f2 inD (fV 4) (fV 2))) (f2 ixD (f2 ixD (fV 0) (fC (.int 1))) (fV 4)))))))
def R__law_worth : List D → Option D := runP 5 F__law_worth
/-! ### a loop that may return -/
theorem loop_first {A : FG} {body : FS} (b : Nat → Option D) (P : Nat → Ev → Prop) : ∀ {items : List D} {r : Ev} (k : Nat), P k r → (∀ i d r, items[i]? = some d → P (k + i) r → ∃ r1, A d r = some r1 ∧ ((b (k + i) = none ∧ ∃ r2, (body r1 = some (.nx r2) ∨ body r1 = some (.ct r2)) ∧ P (k + i + 1) r2) ∨ ∃ dv r2, b (k + i) = some dv ∧ body r1 = some (.rt dv r2))) →
    (((List.range' k items.length).findSome? b = none ∧ ∃ r', loopF A body items r = some (.nx r') ∧ P (k + items.length) r') ∨ ∃ dv r', (List.range' k items.length).findSome? b = some dv ∧ loopF A body items r = some (.rt dv r'))
  | [], r, k, h0, _ => .inl ⟨rfl, r, rfl, h0⟩
  | d :: ds, r, k, h0, hs => by
    have ht : List.range' k (d :: ds).length = k :: List.range' (k + 1) ds.length := rfl
    have hl : loopF A body (d :: ds) r = (A d r).bind fun r1 => match body r1 with | some (.nx r2) => loopF A body ds r2 | some (.ct r2) => loopF A body ds r2 | some (.bk r2) => some (.nx r2) | o => o := rfl
    obtain ⟨r1, h1, h2⟩ := hs 0 d r rfl h0
    rw [ht, List.findSome?_cons, hl, h1]
    rcases h2 with ⟨hb, r2, h2, h3⟩ | ⟨dv, r2, hb, h2⟩
    · rw [Nat.add_zero] at hb
      rw [hb]
      have ih := loop_first (A := A) (body := body) b P (items := ds) (r := r2) (k + 1) h3 fun i d r e hp => by
        have := hs (i + 1) d r (by simpa using e) (by rw [← Nat.add_assoc, Nat.add_right_comm]; exact hp)
        rw [← Nat.add_assoc, Nat.add_right_comm k i 1] at this
        exact this
      have e2 : (match body r1 with | some (.nx r2) => loopF A body ds r2 | some (.ct r2) => loopF A body ds r2 | some (.bk r2) => some (.nx r2) | o => o) = loopF A body ds r2 := by
        rcases h2 with h2 | h2 <;> rw [h2]
      show ((List.range' (k + 1) ds.length).findSome? b = none ∧ ∃ r', (match body r1 with | some (.nx r2) => loopF A body ds r2 | some (.ct r2) => loopF A body ds r2 | some (.bk r2) => some (.nx r2) | o => o) = some (.nx r') ∧ _) ∨ ∃ dv r', _ ∧ (match body r1 with | some (.nx r2) => loopF A body ds r2 | some (.ct r2) => loopF A body ds r2 | some (.bk r2) => some (.nx r2) | o => o) = some (.rt dv r')
      rw [e2]
      rcases ih with ⟨a, r', c, e⟩ | ⟨dv, r', a, c⟩
      · exact .inl ⟨a, r', c, by rw [List.length_cons, Nat.add_comm ds.length 1, ← Nat.add_assoc]; exact e⟩
      · exact .inr ⟨dv, r', a, c⟩
    · rw [Nat.add_zero] at hb
      rw [hb]
      refine .inr ⟨dv, r2, rfl, ?_⟩
      show (match body r1 with | some (.nx r2) => loopF A body ds r2 | some (.ct r2) => loopF A body ds r2 | some (.bk r2) => some (.nx r2) | o => o) = _
      rw [h2]
/-! ### looks by name -/
def Sky.lk (S : Sky) (i : Nat) : Look := S.looks.getD i ⟨0, 0, 1, 0, 1⟩
theorem lk_get {S : Sky} {i : Nat} (h : i < S.looks.length) : S.looks[i]? = some (S.lk i) := by
  unfold Sky.lk
  rw [List.getD_eq_getElem?_getD, List.getElem?_eq_getElem h]
  rfl
theorem lk_mem {S : Sky} {i : Nat} (h : i < S.looks.length) : S.lk i ∈ S.looks := List.mem_of_getElem? (lk_get h)
def Sky.fin (S : Sky) (i : Nat) : Int := (S.lk i).s + (S.lk i).l
def Sky.tz (S : Sky) (i j : Nat) : Int := turnZ S.turn (S.lk i).a (S.lk j).a
def namesD (ns : List Nat) : D := .list (ns.map fun (n : Nat) => .int n)
def lastD : Option Nat → D
  | none => .none
  | some i => .int i
/-- what of a sky the rest needs -/
structure Fit (S : Sky) : Prop where
  t0 : 1 ≤ S.turn
  t1 : S.turn ≤ 1000
  ears : ∀ e ∈ S.ears, OkE e
  s0 : ∀ x ∈ S.looks, 0 ≤ x.s
  s1 : ∀ x ∈ S.looks, x.s ≤ 1000
  l0 : ∀ x ∈ S.looks, 1 ≤ x.l
  z0 : ∀ x ∈ S.looks, 0 ≤ x.z
theorem fol_ev (En T : List D → Option D) (SD LD Y : D) (i j : Int) (e t s : Int) (h0 : ixD SD (.int 0) = some LD) (h1 : ixD LD (.int j) = some Y) (h2 : ixD Y (.int 1) = some (.int s)) (he : En [SD, .int i] = some (.int e)) (ht : T [SD, .int i, .int j] = some (.int t)) :
    endP (sRet (f2 geD (f2 ixD (f2 ixD (f2 ixD (fV 0) (fC (.int 0))) (fV 2)) (fC (.int 1))) (f2 addD (fCall En (aCons (fV 0) (aCons (fV 1) aNil))) (fCall T (aCons (fV 0) (aCons (fV 1) (aCons (fV 2) aNil)))))) (startE 3 [SD, .int i, .int j])) = some (.bool (decide (e + t ≤ s))) := by
  simp [startE, h0, h1, h2, he, ht]
theorem turning_ok2 {S : Sky} {i j : Nat} {x y : Look} (hx : S.looks[i]? = some x) (hy : S.looks[j]? = some y) (ht : 1 ≤ S.turn) (ht2 : S.turn ≤ 1000) : R_turning [skyD S, .int i, .int j] = some (.int (turnZ S.turn x.a y.a)) := by
  have h0 := sky_i0 S
  have h4 := sky_i4 S
  have h1 := look_ix hx
  have h2 := look_ix hy
  have e1 : ixD (lD x) (.int 3) = some (.int x.a) := rfl
  have e2 : ixD (lD y) (.int 3) = some (.int y.a) := rfl
  have dv : ∀ u : Int, divD (.int u) (.int S.turn) = some (.int (u / S.turn)) := fun u => divD_p (by omega) (by omega)
  generalize PyData.list (S.looks.map lD) = LD at h0 h1 h2
  generalize skyD S = SD at h0 h4
  generalize lD x = X at h1 e1
  generalize lD y = Y at h2 e2
  unfold R_turning runP F_turning turnZ dA
  simp [startE, h0, h1, h2, h4, e1, e2, dv]
theorem follows_ok {S : Sky} (F : Fit S) {i j : Nat} (hi : i < S.looks.length) (hj : j < S.looks.length) : R_follows [skyD S, .int i, .int j] = some (.bool (decide (S.fin i + S.tz i j ≤ (S.lk j).s))) :=
  fol_ev R_end_of R_turning (skyD S) _ (lD (S.lk j)) i j _ _ _ (sky_i0 S) (look_ix (lk_get hj)) rfl (end_ok (lk_get hi)) (turning_ok2 (lk_get hi) (lk_get hj) F.t0 F.t1)
def storedZ (S : Sky) (last : Option Nat) (a t : Int) : Int := match last with
  | none => 0
  | some i => mx 0 (a - lossZ S.ears (S.fin i) t)
theorem sto_none (Em En : List D → Option D) (SD : D) (a t : Int) : endP ((sSeq (sIf (gT (f2 isD (fV 1) (fC .none))) (sRet (fC (.int 0))) sNext)
    (sRet (fCall Em (aApp (aCons (fV 0) (aCons (fV 2) aNil)) (aCons (fCall En (aCons (fV 0) (aCons (fV 1) aNil))) (aCons (fV 3) aNil)))))) (startE 4 [SD, .none, .int a, .int t])) = some (.int 0) := by
  simp [startE, sSeq]
theorem sto_some (Em En : List D → Option D) (SD : D) (i a t e z : Int) (he : En [SD, .int i] = some (.int e)) (hm : Em [SD, .int a, .int e, .int t] = some (.int z)) : endP ((sSeq (sIf (gT (f2 isD (fV 1) (fC .none))) (sRet (fC (.int 0))) sNext)
    (sRet (fCall Em (aApp (aCons (fV 0) (aCons (fV 2) aNil)) (aCons (fCall En (aCons (fV 0) (aCons (fV 1) aNil))) (aCons (fV 3) aNil)))))) (startE 4 [SD, .int i, .int a, .int t])) = some (.int z) := by
  simp [startE, sSeq, he, hm]
theorem stored_ok {S : Sky} (F : Fit S) (last : Option Nat) (hl : ∀ i, last = some i → i < S.looks.length) (a t : Int) : R_stored_at [skyD S, lastD last, .int a, .int t] = some (.int (storedZ S last a t)) := by
  cases last with
  | none => exact sto_none R_emptied R_end_of (skyD S) a t
  | some i => exact sto_some R_emptied R_end_of (skyD S) i a t _ _ (end_ok (lk_get (hl i rfl))) (emptied_ok S F.ears a _ t)
def levelZ (S : Sky) (last : Option Nat) (a : Int) (i : Nat) : Option Int := if S.cap < storedZ S last a (S.lk i).s + (S.lk i).z then none else some (storedZ S last a (S.fin i) + (S.lk i).z)
def levD : Option Int → D
  | none => .none
  | some x => .int x
theorem lev_ev (St : List D → Option D) (SD LD L : D) (w s l an z i a c u v : Int) (h0 : ixD SD (.int 0) = some LD) (h3 : ixD SD (.int 3) = some (.int c)) (h1 : ixD LD (.int i) = some (.tuple [.int w, .int s, .int l, .int an, .int z]))
    (hu : St [SD, L, .int a, .int s] = some (.int u)) (hv : St [SD, L, .int a, .int (s + l)] = some (.int v)) :
    endP ((sSeq (sAsg (f2 ixD (f2 ixD (fV 0) (fC (.int 0))) (fV 3)) (gTp 5 (gsCons (gNm 4) (gsCons (gNm 5) (gsCons (gNm 6) (gsCons (gNm 7) (gsCons (gNm 8) gsNil)))))))
    (sSeq (sIf (gT (f2 gtD (f2 addD (fCall St (aCons (fV 0) (aCons (fV 1) (aCons (fV 2) (aCons (fV 5) aNil))))) (fV 8)) (f2 ixD (fV 0) (fC (.int 3))))) (sRet (fC .none)) sNext)
    (sRet (f2 addD (fCall St (aCons (fV 0) (aCons (fV 1) (aCons (fV 2) (aCons (f2 addD (fV 5) (fV 6)) aNil))))) (fV 8))))) (startE 9 [SD, L, .int a, .int i])) = some (levD (if c < u + z then none else some (v + z))) := by
  rw [sSeq_nx (r1 := [some (.val SD), some (.val L), some (.val (.int a)), some (.val (.int i)), some (.val (.int w)), some (.val (.int s)), some (.val (.int l)), some (.val (.int an)), some (.val (.int z))]) (by
    unfold sAsg
    simp [startE, h0, h1, gTp, gsCons, gsNil, gNm])]
  by_cases h : c < u + z
  · simp [sSeq, hu, h3, h, levD]
  · simp [sSeq, hu, hv, h3, h, levD]
theorem level_ok {S : Sky} (F : Fit S) (last : Option Nat) (hl : ∀ i, last = some i → i < S.looks.length) (a : Int) {i : Nat} (hi : i < S.looks.length) : R_level_behind [skyD S, lastD last, .int a, .int i] = some (levD (levelZ S last a i)) :=
  lev_ev R_stored_at (skyD S) _ (lastD last) _ _ _ _ _ i a S.cap _ _ (sky_i0 S) (sky_i3 S) (look_ix (lk_get hi)) (stored_ok F last hl a _) (stored_ok F last hl a _)
/-! ### the law's store -/
def addAt (S : Sky) (p : List Nat) (now : Int) : Int := p.foldl (fun u i => u + if S.fin i = now then (S.lk i).z else 0) 0
def runZ (S : Sky) (p : List Nat) : Nat → Int
  | 0 => 0
  | k + 1 => mx 0 (runZ S p k - tickLoss S.ears ((k : Int) - 1)) + addAt S p k
theorem mx_nonneg (u : Int) : 0 ≤ mx 0 u := by unfold mx; split <;> omega
theorem add_nonneg {S : Sky} (F : Fit S) : ∀ {p : List Nat}, (∀ i ∈ p, i < S.looks.length) → ∀ now, 0 ≤ addAt S p now
  | [], _, _ => Int.le_refl _
  | i :: p, h, now => by
    have := add_nonneg F (fun j hj => h j (List.mem_cons_of_mem _ hj)) now
    have hz := F.z0 _ (lk_mem (h i (List.mem_cons_self ..)))
    unfold addAt at this ⊢
    rw [List.foldl_cons, fold_add fun i : Nat => if S.fin i = now then (S.lk i).z else 0]
    split <;> omega
theorem run_nonneg {S : Sky} (F : Fit S) {p : List Nat} (hp : ∀ i ∈ p, i < S.looks.length) : ∀ k, 0 ≤ runZ S p k
  | 0 => Int.le_refl _
  | k + 1 => by
    have := mx_nonneg (runZ S p k - tickLoss S.ears ((k : Int) - 1))
    have := add_nonneg F hp k
    show 0 ≤ mx 0 (runZ S p k - tickLoss S.ears ((k : Int) - 1)) + addAt S p k
    omega
theorem add_app (S : Sky) (p : List Nat) (i : Nat) (now : Int) : addAt S (p ++ [i]) now = addAt S p now + if S.fin i = now then (S.lk i).z else 0 := by
  unfold addAt
  rw [List.foldl_append]
  rfl
theorem add_zero {S : Sky} {p : List Nat} {now : Int} (h : ∀ i ∈ p, S.fin i ≠ now) : addAt S p now = 0 := fold_zero _ p fun i hi => if_neg (h i hi)
theorem run_empty {S : Sky} (F : Fit S) : ∀ k, runZ S [] k = 0
  | 0 => rfl
  | k + 1 => by
    have := tick_nonneg F.ears ((k : Int) - 1)
    show mx 0 (runZ S [] k - tickLoss S.ears ((k : Int) - 1)) + 0 = 0
    rw [run_empty F k]
    unfold mx
    split <;> omega
theorem run_prefix {S : Sky} {p : List Nat} {i : Nat} : ∀ k : Nat, (k : Int) ≤ S.fin i → runZ S (p ++ [i]) k = runZ S p k
  | 0, _ => rfl
  | k + 1, h => by
    show mx 0 (runZ S (p ++ [i]) k - tickLoss S.ears ((k : Int) - 1)) + addAt S (p ++ [i]) k = mx 0 (runZ S p k - tickLoss S.ears ((k : Int) - 1)) + addAt S p k
    rw [run_prefix k (by omega), add_app, if_neg (by omega), Int.add_zero]
theorem run_on {S : Sky} (F : Fit S) {p : List Nat} (hp : ∀ i ∈ p, i < S.looks.length) {e : Nat} (he : ∀ i ∈ p, S.fin i ≤ e) : ∀ j : Nat, runZ S p (e + 1 + j) = mx 0 (runZ S p (e + 1) - sumLoss S.ears e j)
  | 0 => by
    have := run_nonneg F hp (e + 1)
    show runZ S p (e + 1) = mx 0 (runZ S p (e + 1) - 0)
    unfold mx
    split <;> omega
  | j + 1 => by
    have ih := run_on F hp he j
    have h1 := sum_nonneg F.ears e j
    have h2 := tick_nonneg F.ears ((e : Int) + j)
    show mx 0 (runZ S p (e + 1 + j) - tickLoss S.ears (((e + 1 + j : Nat) : Int) - 1)) + addAt S p ((e + 1 + j : Nat) : Int) = mx 0 (runZ S p (e + 1) - (sumLoss S.ears e j + tickLoss S.ears ((e : Int) + j)))
    rw [ih, add_zero fun i hi => by have := he i hi; omega, show (((e + 1 + j : Nat) : Int) - 1) = (e : Int) + j by omega]
    generalize runZ S p (e + 1) = a
    generalize sumLoss S.ears e j = b at h1
    generalize tickLoss S.ears ((e : Int) + j) = c at h2
    unfold mx
    split <;> split <;> split <;> omega
/-! the law's store, walked -/
def stEar : FS := (sIf (gT (fChain leD ltD (fV 5) (f2 subD (fV 4) (fC (.int 1))) (fV 6))) (sSet 3 (f2 max2D (fC (.int 0)) (f2 subD (fV 3) (fV 7)))) sNext)
def stName : FS := (sSeq (sAsg (f2 ixD (f2 ixD (fV 0) (fC (.int 0))) (fV 8)) (gTp 5 (gsCons (gNm 9) (gsCons (gNm 10) (gsCons (gNm 11) (gsCons (gNm 12) (gsCons (gNm 13) gsNil)))))))
    (sIf (gT (f2 eqD (f2 addD (fV 10) (fV 11)) (fV 4))) (sSet 3 (f2 addD (fV 3) (fV 13))) sNext))
def stBody : FS := (sSeq (sFor (iSeq (f2 ixD (fV 0) (fC (.int 2)))) gT3b stEar)
    (sFor (iSeq (fV 1)) (gNm 8) stName))
theorem st_ear (SD NS T : D) (a now f l r : Int) (c8 c9 c10 c11 c12 c13 : Option Cell) :
    stEar [some (.val SD), some (.val NS), some (.val T), some (.val (.int a)), some (.val (.int now)), some (.val (.int f)), some (.val (.int l)), some (.val (.int r)), c8, c9, c10, c11, c12, c13] =
      some (.nx [some (.val SD), some (.val NS), some (.val T), some (.val (.int (if f ≤ now - 1 ∧ now - 1 < l then mx 0 (a - r) else a))), some (.val (.int now)), some (.val (.int f)), some (.val (.int l)), some (.val (.int r)), c8, c9, c10, c11, c12, c13]) := by
  unfold stEar mx
  by_cases h1 : f ≤ now - 1
  · by_cases h2 : now - 1 < l
    · simp [h1, h2]
    · simp [h1, h2]
  · simp [h1]
theorem st_name (SD NS T LD : D) (a now i w s l an z : Int) (c5 c6 c7 c9 c10 c11 c12 c13 : Option Cell) (h0 : ixD SD (.int 0) = some LD) (h1 : ixD LD (.int i) = some (.tuple [.int w, .int s, .int l, .int an, .int z])) :
    stName [some (.val SD), some (.val NS), some (.val T), some (.val (.int a)), some (.val (.int now)), c5, c6, c7, some (.val (.int i)), c9, c10, c11, c12, c13] =
      some (.nx [some (.val SD), some (.val NS), some (.val T), some (.val (.int (a + if s + l = now then z else 0))), some (.val (.int now)), c5, c6, c7, some (.val (.int i)), some (.val (.int w)), some (.val (.int s)), some (.val (.int l)), some (.val (.int an)), some (.val (.int z))]) := by
  unfold stName
  rw [sSeq_nx (r1 := [some (.val SD), some (.val NS), some (.val T), some (.val (.int a)), some (.val (.int now)), c5, c6, c7, some (.val (.int i)), some (.val (.int w)), some (.val (.int s)), some (.val (.int l)), some (.val (.int an)), some (.val (.int z))]) (by
    unfold sAsg
    simp [h0, h1, gTp, gsCons, gsNil, gNm])]
  by_cases h : s + l = now
  · simp [h]
  · simp [h]
theorem st_turn {S : Sky} (F : Fit S) (p : List Nat) (hp : ∀ i ∈ p, i < S.looks.length) (T : D) (k : Nat) (c5 c6 c7 c8 c9 c10 c11 c12 c13 : Option Cell) :
    ∃ c5' c6' c7' c8' c9' c10' c11' c12' c13' : Option Cell, stBody [some (.val (skyD S)), some (.val (namesD p)), some (.val T), some (.val (.int (runZ S p k))), some (.val (.int k)), c5, c6, c7, c8, c9, c10, c11, c12, c13] =
      some (.nx [some (.val (skyD S)), some (.val (namesD p)), some (.val T), some (.val (.int (runZ S p (k + 1)))), some (.val (.int k)), c5', c6', c7', c8', c9', c10', c11', c12', c13']) := by
  obtain ⟨r', h1, c5', c6', c7', rfl⟩ := loop_fold (A := gT3b) (body := stEar) eD
    (fun (b : Int) r => ∃ c5 c6 c7 : Option Cell, r = [some (.val (skyD S)), some (.val (namesD p)), some (.val T), some (.val (.int b)), some (.val (.int k)), c5, c6, c7, c8, c9, c10, c11, c12, c13])
    (fun b e => if e.f ≤ (k : Int) - 1 ∧ (k : Int) - 1 < e.l then mx 0 (b - e.r) else b) (xs := S.ears) (b := runZ S p k) (r := [some (.val (skyD S)), some (.val (namesD p)), some (.val T), some (.val (.int (runZ S p k))), some (.val (.int k)), c5, c6, c7, c8, c9, c10, c11, c12, c13])
    (fun b e r he ⟨c5, c6, c7, er⟩ => by
      subst er
      exact ⟨[some (.val (skyD S)), some (.val (namesD p)), some (.val T), some (.val (.int b)), some (.val (.int k)), some (.val (.int e.f)), some (.val (.int e.l)), some (.val (.int e.r)), c8, c9, c10, c11, c12, c13], _, rfl, .inl (st_ear _ _ T b k e.f e.l e.r c8 c9 c10 c11 c12 c13), _, _, _, rfl⟩)
    ⟨c5, c6, c7, rfl⟩
  have e0 : runZ S p k = mx 0 (runZ S p k - 0) := by
    have := run_nonneg F hp k
    unfold mx
    split <;> omega
  have e1 := left_fold ((k : Int) - 1) S.ears F.ears (runZ S p k) 0 (Int.le_refl _)
  rw [← e0, Int.zero_add] at e1
  rw [e1] at h1
  obtain ⟨r2, h2, c8', c9', c10', c11', c12', c13', rfl⟩ := loop_fold (A := gNm 8) (body := stName) (fun (n : Nat) => (.int n : D))
    (fun (b : Int) r => ∃ c8 c9 c10 c11 c12 c13 : Option Cell, r = [some (.val (skyD S)), some (.val (namesD p)), some (.val T), some (.val (.int (mx 0 (runZ S p k - tickLoss S.ears ((k : Int) - 1)) + b))), some (.val (.int k)), c5', c6', c7', c8, c9, c10, c11, c12, c13])
    (fun b i => b + if S.fin i = (k : Int) then (S.lk i).z else 0) (xs := p) (b := 0) (r := [some (.val (skyD S)), some (.val (namesD p)), some (.val T), some (.val (.int (mx 0 (runZ S p k - tickLoss S.ears ((k : Int) - 1))))), some (.val (.int k)), c5', c6', c7', c8, c9, c10, c11, c12, c13])
    (fun b i r hi ⟨c8, c9, c10, c11, c12, c13, er⟩ => by
      subst er
      have := st_name (skyD S) (namesD p) T _ (mx 0 (runZ S p k - tickLoss S.ears ((k : Int) - 1)) + b) k i (S.lk i).w (S.lk i).s (S.lk i).l (S.lk i).a (S.lk i).z c5' c6' c7' c9 c10 c11 c12 c13 (sky_i0 S) (look_ix (lk_get (hp i hi)))
      rw [Int.add_assoc] at this
      exact ⟨_, _, rfl, .inl this, _, _, _, _, _, _, rfl⟩)
    ⟨c8, c9, c10, c11, c12, c13, by rw [Int.add_zero]⟩
  refine ⟨c5', c6', c7', c8', c9', c10', c11', c12', c13', ?_⟩
  unfold stBody
  rw [sSeq_nx (by rw [sFor_eq (ds := S.ears.map eD) (r1 := [some (.val (skyD S)), some (.val (namesD p)), some (.val T), some (.val (.int (runZ S p k))), some (.val (.int k)), c5, c6, c7, c8, c9, c10, c11, c12, c13]) rfl]; exact h1),
    sFor_eq (ds := p.map fun (n : Nat) => (.int n : D)) (r1 := [some (.val (skyD S)), some (.val (namesD p)), some (.val T), some (.val (.int (mx 0 (runZ S p k - tickLoss S.ears ((k : Int) - 1))))), some (.val (.int k)), c5', c6', c7', c8, c9, c10, c11, c12, c13]) rfl]
  exact h2
def storeZ (S : Sky) (p : List Nat) (t : Int) : Int := runZ S p (t.toNat + 1)
theorem store_ok {S : Sky} (F : Fit S) (p : List Nat) (hp : ∀ i ∈ p, i < S.looks.length) (t : Int) (h0 : 0 ≤ t) (h1 : t ≤ 100000) : R__law_store [skyD S, namesD p, .int t] = some (.int (storeZ S p t)) := by
  have e : t + 1 = ((t.toNat + 1 : Nat) : Int) := by omega
  have hr := okR_of (i := ((t.toNat + 1 : Nat) : Int)) (by omega) (by omega)
  obtain ⟨r', h3, c4, c5, c6, c7, c8, c9, c10, c11, c12, c13, rfl⟩ := loop_all (A := gNm 4) (body := stBody) (items := rngL 0 (t.toNat + 1)) (r := [some (.val (skyD S)), some (.val (namesD p)), some (.val (.int t)), some (.val (.int 0)), none, none, none, none, none, none, none, none, none, none])
    (fun k r => ∃ c4 c5 c6 c7 c8 c9 c10 c11 c12 c13 : Option Cell, r = [some (.val (skyD S)), some (.val (namesD p)), some (.val (.int t)), some (.val (.int (runZ S p k))), c4, c5, c6, c7, c8, c9, c10, c11, c12, c13])
    ⟨none, none, none, none, none, none, none, none, none, none, rfl⟩ fun k d r e ⟨c4, c5, c6, c7, c8, c9, c10, c11, c12, c13, er⟩ => by
      subst er
      obtain ⟨hk, rfl⟩ := rngL_get e
      rw [show (0 : Int) + (k : Int) = k from Int.zero_add _]
      obtain ⟨c5', c6', c7', c8', c9', c10', c11', c12', c13', h⟩ := st_turn F p hp (.int t) k c5 c6 c7 c8 c9 c10 c11 c12 c13
      exact ⟨_, _, rfl, .inl h, _, _, _, _, _, _, _, _, _, _, rfl⟩
  rw [rngL_length] at h3
  unfold R__law_store runP F__law_store storeZ
  generalize skyD S = SD at h3 ⊢
  generalize namesD p = NS at h3 ⊢
  rw [sSeq_nx (r1 := [some (.val SD), some (.val NS), some (.val (.int t)), some (.val (.int 0)), none, none, none, none, none, none, none, none, none, none]) (by simp [startE]),
    sSeq_nx (by rw [sFor_eq (ds := rngL 0 (t.toNat + 1)) (r1 := [some (.val SD), some (.val NS), some (.val (.int t)), some (.val (.int 0)), none, none, none, none, none, none, none, none, none, none]) (by
      generalize hz : t.toNat + 1 = z at e hr ⊢
      simp [SL.iRng1, e, hr])]; exact h3)]
  simp
/-! ### what is wrong -/
def Sky.ord (_ : Sky) (p : List Nat) (i : Nat) : Bool := match p.getLast? with
  | none => false
  | some j => decide (i ≤ j)
def Sky.trn (S : Sky) (p : List Nat) (i : Nat) : Bool := match p.getLast? with
  | none => false
  | some j => decide ((S.lk i).s < S.fin j + S.tz j i)
def Sky.wsh (S : Sky) (p : List Nat) (i : Nat) : Bool := decide ((S.lk i).w ∈ p.map fun j => (S.lk j).w)
def Sky.rm (S : Sky) (p : List Nat) (i : Nat) : Bool := decide (S.cap < storeZ S p (S.lk i).s + (S.lk i).z)
def kindD (o w t r : Bool) (k : Nat) : Option D := if o then some (.tuple [.str "order", .int k]) else if w then some (.tuple [.str "wish", .int k]) else if t then some (.tuple [.str "turning", .int k]) else if r then some (.tuple [.str "room", .int k]) else none
def Sky.badD (S : Sky) (ns : List Nat) (k : Nat) : Option D := kindD (S.ord (ns.take k) (ns.getD k 0)) (S.wsh (ns.take k) (ns.getD k 0)) (S.trn (ns.take k) (ns.getD k 0)) (S.rm (ns.take k) (ns.getD k 0)) k
def Sky.wrongD (S : Sky) (ns : List Nat) : D := ((List.range' 0 ns.length).findSome? (S.badD ns)).getD .none
/-- a prefix that is right: its last name, and the amount behind it -/
def Vp (S : Sky) (p : List Nat) (last : Option Nat) (a : Int) : Prop := last = p.getLast? ∧ (∀ i ∈ p, i < S.looks.length) ∧ ∀ j, last = some j → (∀ i ∈ p, S.fin i ≤ S.fin j) ∧ a = runZ S p ((S.fin j).toNat + 1)
theorem fin_pos {S : Sky} (F : Fit S) {i : Nat} (hi : i < S.looks.length) : 1 ≤ S.fin i ∧ (S.lk i).s < S.fin i := by
  have := F.s0 _ (lk_mem hi)
  have := F.l0 _ (lk_mem hi)
  unfold Sky.fin
  omega
theorem tz_nonneg {S : Sky} (F : Fit S) (i j : Nat) : 0 ≤ S.tz i j := turnZ_nonneg F.t0
theorem stored_run {S : Sky} (F : Fit S) {p : List Nat} {last : Option Nat} {a : Int} (V : Vp S p last a) {t : Int} (ht0 : 0 ≤ t) (ht : ∀ j, last = some j → S.fin j ≤ t) : storedZ S last a t = runZ S p (t.toNat + 1) := by
  obtain ⟨v1, v2, v3⟩ := V
  cases last with
  | none =>
    cases p with
    | nil => exact (run_empty F _).symm
    | cons x xs => rw [List.getLast?_cons] at v1; cases v1
  | some j =>
    obtain ⟨v4, v5⟩ := v3 j rfl
    have hj : j < S.looks.length := v2 j (List.mem_of_getLast? v1.symm)
    have f1 := (fin_pos F hj).1
    have t1 := ht j rfl
    obtain ⟨e, ee⟩ := Int.eq_ofNat_of_zero_le (show 0 ≤ S.fin j by omega)
    obtain ⟨d, ed⟩ := Int.eq_ofNat_of_zero_le (show 0 ≤ t - S.fin j by omega)
    have et : t = (e : Int) + d := by omega
    have ls := loss_sum S.ears F.ears (e : Int) d
    have ro := run_on F v2 (e := e) (fun i hi => by have := v4 i hi; omega) d
    show mx 0 (a - lossZ S.ears (S.fin j) t) = _
    rw [ee, et, ls, v5, ee, Int.toNat_natCast, show ((e : Int) + d).toNat + 1 = e + 1 + d by omega, ro]
theorem level_run {S : Sky} (F : Fit S) {p : List Nat} {last : Option Nat} {a : Int} (V : Vp S p last a) {i : Nat} (hi : i < S.looks.length) (ht : S.trn p i = false) :
    levelZ S last a i = if S.rm p i then none else some (runZ S (p ++ [i]) ((S.fin i).toNat + 1)) := by
  have f1 := fin_pos F hi
  have s0 := F.s0 _ (lk_mem hi)
  have hs : ∀ j, last = some j → S.fin j ≤ (S.lk i).s := fun j hj => by
    unfold Sky.trn at ht
    rw [← V.1, hj] at ht
    have := of_decide_eq_false ht
    have := tz_nonneg F j i
    omega
  have e1 := stored_run F V s0 hs
  have e2 := stored_run F V (show 0 ≤ S.fin i by omega) fun j hj => by have := hs j hj; omega
  have e3 : runZ S (p ++ [i]) ((S.fin i).toNat + 1) = runZ S p ((S.fin i).toNat + 1) + (S.lk i).z := by
    show mx 0 (runZ S (p ++ [i]) (S.fin i).toNat - _) + addAt S (p ++ [i]) ((S.fin i).toNat : Int) = mx 0 (runZ S p (S.fin i).toNat - _) + addAt S p ((S.fin i).toNat : Int) + (S.lk i).z
    rw [run_prefix _ (by omega), add_app, if_pos (by omega)]
    omega
  unfold levelZ Sky.rm storeZ
  rw [e1, e2, e3]
  by_cases h : S.cap < runZ S p ((S.lk i).s.toNat + 1) + (S.lk i).z
  · rw [if_pos h, decide_eq_true h, if_pos rfl]
  · rw [if_neg h, decide_eq_false h, if_neg (by decide)]
theorem vp_next {S : Sky} (F : Fit S) {p : List Nat} {last : Option Nat} {a : Int} (V : Vp S p last a) {i : Nat} (hi : i < S.looks.length) (ht : S.trn p i = false) : Vp S (p ++ [i]) (some i) (runZ S (p ++ [i]) ((S.fin i).toNat + 1)) := by
  obtain ⟨v1, v2, v3⟩ := V
  refine ⟨by rw [List.getLast?_append]; rfl, fun k hk => ?_, fun j hj => ?_⟩
  · rcases List.mem_append.mp hk with h | h
    · exact v2 k h
    · rw [List.mem_singleton.mp h]; exact hi
  · cases hj
    refine ⟨fun k hk => ?_, rfl⟩
    rcases List.mem_append.mp hk with h | h
    · cases hl : last with
      | none =>
        rw [hl] at v1
        cases p with
        | nil => cases h
        | cons x xs => rw [List.getLast?_cons] at v1; cases v1
      | some j =>
        have := (v3 j hl).1 k h
        have f1 := fin_pos F hi
        unfold Sky.trn at ht
        rw [← v1, hl] at ht
        have := of_decide_eq_false ht
        have := tz_nonneg F j i
        omega
    · rw [List.mem_singleton.mp h]; exact Int.le_refl _
/-! ### lists of numbers -/
theorem in_ints (xs : List Int) (x : Int) : inD (.int x) (.list (xs.map .int)) = some (.bool (decide (x ∈ xs))) := by
  unfold inD
  show (if _ then _ else _) = _
  rw [if_pos ⟨(Sh.int 0 _).shp, (Sh.ints xs).shp⟩]
  congr 2
  rw [Bool.eq_iff_iff, List.any_map, List.any_eq_true, decide_eq_true_iff]
  constructor
  · intro ⟨y, hy, e⟩
    have e2 : PyData.eqv (.int y) (.int x) = true := e
    simp [PyData.eqv] at e2
    subst e2
    exact hy
  · intro h
    exact ⟨x, h, SeqAt.eqv_refl _ (SeqAt.canLay_of_shaped (Sh.int 0 _).shp)⟩
theorem nin_ints (xs : List Int) (x : Int) : notInD (.int x) (.list (xs.map .int)) = some (.bool (!decide (x ∈ xs))) := by
  have h := in_ints xs x
  unfold notInD
  unfold inD at h
  show (if _ then _ else _) = _
  have h2 : (if shp (.int x) = true ∧ shp (.list (xs.map .int)) = true then some (PyData.bool ((xs.map PyData.int).any fun z => PyData.eqv z (.int x))) else none) = some (.bool (decide (x ∈ xs))) := h
  rw [if_pos ⟨(Sh.int 0 _).shp, (Sh.ints xs).shp⟩] at h2 ⊢
  rw [PyData.bool.inj (Option.some.inj h2)]
/-! ### the program's wrong_in -/
def wrongBody (Fo Le : List D → Option D) : FS := (sSeq (sIf (gAnd (gT (f2 isNotD (fV 2) (fC .none))) (gT (f2 leD (fV 6) (fV 2)))) (sRet (fTup (aCons (fC (.str "order")) (aCons (fV 5) aNil)))) sNext)
    (sSeq (sIf (gT (f2 inD (f2 ixD (f2 ixD (f2 ixD (fV 0) (fC (.int 0))) (fV 6)) (fC (.int 0))) (fVp 4))) (sRet (fTup (aCons (fC (.str "wish")) (aCons (fV 5) aNil)))) sNext)
    (sSeq (sIf (gAnd (gT (f2 isNotD (fV 2) (fC .none))) (gNot (gTru (fCall Fo (aCons (fV 0) (aCons (fV 2) (aCons (fV 6) aNil))))))) (sRet (fTup (aCons (fC (.str "turning")) (aCons (fV 5) aNil)))) sNext)
    (sSeq (sSet 3 (fCall Le (aCons (fV 0) (aCons (fV 2) (aCons (fV 3) (aCons (fV 6) aNil))))))
    (sSeq (sIf (gT (f2 isD (fV 3) (fC .none))) (sRet (fTup (aCons (fC (.str "room")) (aCons (fV 5) aNil)))) sNext)
    (sSeq (sApp 4 (f2 ixD (f2 ixD (f2 ixD (fV 0) (fC (.int 0))) (fV 6)) (fC (.int 0))))
    (sSet 2 (fV 6))))))))
theorem wrong_tail (Fo Le : List D → Option D) (SD NS LD X L : D) (i w a : Int) (k : Nat) (seen : List Int) (wb t : Bool) (lev : Option Int) (hl : seen.length < sizeLine)
    (h0 : ixD SD (.int 0) = some LD) (h1 : ixD LD (.int i) = some X) (h2 : ixD X (.int 0) = some (.int w)) (hw : inD (.int w) (.list (seen.map .int)) = some (.bool wb))
    (ht : ∀ r : Ev, r = [some (.val SD), some (.val NS), some (.val L), some (.val (.int a)), some (.own (seen.map .int)), some (.val (.int k)), some (.val (.int i))] → (gAnd (gT (f2 isNotD (fV 2) (fC .none))) (gNot (gTru (fCall Fo (aCons (fV 0) (aCons (fV 2) (aCons (fV 6) aNil))))))) r = some (t, r))
    (hv : Le [SD, L, .int a, .int i] = some (levD lev)) :
    ∃ r2, (sSeq (sIf (gT (f2 inD (f2 ixD (f2 ixD (f2 ixD (fV 0) (fC (.int 0))) (fV 6)) (fC (.int 0))) (fVp 4))) (sRet (fTup (aCons (fC (.str "wish")) (aCons (fV 5) aNil)))) sNext)
    (sSeq (sIf (gAnd (gT (f2 isNotD (fV 2) (fC .none))) (gNot (gTru (fCall Fo (aCons (fV 0) (aCons (fV 2) (aCons (fV 6) aNil))))))) (sRet (fTup (aCons (fC (.str "turning")) (aCons (fV 5) aNil)))) sNext)
    (sSeq (sSet 3 (fCall Le (aCons (fV 0) (aCons (fV 2) (aCons (fV 3) (aCons (fV 6) aNil))))))
    (sSeq (sIf (gT (f2 isD (fV 3) (fC .none))) (sRet (fTup (aCons (fC (.str "room")) (aCons (fV 5) aNil)))) sNext)
    (sSeq (sApp 4 (f2 ixD (f2 ixD (f2 ixD (fV 0) (fC (.int 0))) (fV 6)) (fC (.int 0))))
    (sSet 2 (fV 6))))))) [some (.val SD), some (.val NS), some (.val L), some (.val (.int a)), some (.own (seen.map .int)), some (.val (.int k)), some (.val (.int i))] =
      match kindD false wb t (lev.isNone) k with
      | some dv => some (.rt dv r2)
      | none => some (.nx [some (.val SD), some (.val NS), some (.val (.int i)), some (.val (levD lev)), some (.own ((seen ++ [w]).map .int)), some (.val (.int k)), some (.val (.int i))]) := by
  cases wb
  · rw [sSeq_nx (r1 := [some (.val SD), some (.val NS), some (.val L), some (.val (.int a)), some (.own (seen.map .int)), some (.val (.int k)), some (.val (.int i))]) (by simp [h0, h1, h2, hw])]
    have ht2 := ht _ rfl
    cases t
    · rw [sSeq_nx (r1 := [some (.val SD), some (.val NS), some (.val L), some (.val (.int a)), some (.own (seen.map .int)), some (.val (.int k)), some (.val (.int i))]) (by unfold sIf; rw [ht2]; rfl),
        sSeq_nx (r1 := [some (.val SD), some (.val NS), some (.val L), some (.val (levD lev)), some (.own (seen.map .int)), some (.val (.int k)), some (.val (.int i))]) (by simp [hv])]
      cases lev with
      | none => exact ⟨_, by rw [sSeq_rt (d := .tuple [.str "room", .int k]) (r1 := [some (.val SD), some (.val NS), some (.val L), some (.val .none), some (.own (seen.map .int)), some (.val (.int k)), some (.val (.int i))]) (by simp [levD])]; rfl⟩
      | some v =>
        refine ⟨[], ?_⟩
        rw [sSeq_nx (r1 := [some (.val SD), some (.val NS), some (.val L), some (.val (.int v)), some (.own (seen.map .int)), some (.val (.int k)), some (.val (.int i))]) (by simp [levD]),
          sSeq_nx (r1 := [some (.val SD), some (.val NS), some (.val L), some (.val (.int v)), some (.own ((seen ++ [w]).map .int)), some (.val (.int k)), some (.val (.int i))]) (by simp [h0, h1, h2, hl])]
        rfl
    · exact ⟨_, by rw [sSeq_rt (d := .tuple [.str "turning", .int k]) (r1 := [some (.val SD), some (.val NS), some (.val L), some (.val (.int a)), some (.own (seen.map .int)), some (.val (.int k)), some (.val (.int i))]) (by unfold sIf; rw [ht2]; rfl)]; rfl⟩
  · exact ⟨_, by rw [sSeq_rt (d := .tuple [.str "wish", .int k]) (r1 := [some (.val SD), some (.val NS), some (.val L), some (.val (.int a)), some (.own (seen.map .int)), some (.val (.int k)), some (.val (.int i))]) (by simp [h0, h1, h2, hw])]; rfl⟩
theorem wrong_turn {S : Sky} (F : Fit S) (ns p : List Nat) (last : Option Nat) (a : Int) (i k : Nat) (hi : i < S.looks.length) (hk : p.length ≤ 1000) (V : Vp S p last a) :
    (kindD (S.ord p i) (S.wsh p i) (S.trn p i) (S.rm p i) k = none ∧ ∃ a', Vp S (p ++ [i]) (some i) a' ∧ wrongBody R_follows R_level_behind [some (.val (skyD S)), some (.val (namesD ns)), some (.val (lastD last)), some (.val (.int a)), some (.own ((p.map fun j => (S.lk j).w).map .int)), some (.val (.int k)), some (.val (.int i))] =
      some (.nx [some (.val (skyD S)), some (.val (namesD ns)), some (.val (lastD (some i))), some (.val (.int a')), some (.own (((p ++ [i]).map fun j => (S.lk j).w).map .int)), some (.val (.int k)), some (.val (.int i))])) ∨
    ∃ dv r2, kindD (S.ord p i) (S.wsh p i) (S.trn p i) (S.rm p i) k = some dv ∧ wrongBody R_follows R_level_behind [some (.val (skyD S)), some (.val (namesD ns)), some (.val (lastD last)), some (.val (.int a)), some (.own ((p.map fun j => (S.lk j).w).map .int)), some (.val (.int k)), some (.val (.int i))] = some (.rt dv r2) := by
  have hlast : ∀ j, last = some j → j < S.looks.length := fun j hj => V.2.1 j (List.mem_of_getLast? (V.1.symm.trans hj))
  have hord : (gAnd (gT (f2 isNotD (fV 2) (fC .none))) (gT (f2 leD (fV 6) (fV 2)))) [some (.val (skyD S)), some (.val (namesD ns)), some (.val (lastD last)), some (.val (.int a)), some (.own ((p.map fun j => (S.lk j).w).map .int)), some (.val (.int k)), some (.val (.int i))] = some (S.ord p i, [some (.val (skyD S)), some (.val (namesD ns)), some (.val (lastD last)), some (.val (.int a)), some (.own ((p.map fun j => (S.lk j).w).map .int)), some (.val (.int k)), some (.val (.int i))]) := by
    unfold Sky.ord
    rw [← V.1]
    generalize skyD S = SD
    cases last with
    | none => simp [lastD]
    | some j => simp [lastD]
  unfold wrongBody
  cases ho : S.ord p i
  · rw [ho] at hord
    rw [sSeq_nx (r1 := [some (.val (skyD S)), some (.val (namesD ns)), some (.val (lastD last)), some (.val (.int a)), some (.own ((p.map fun j => (S.lk j).w).map .int)), some (.val (.int k)), some (.val (.int i))]) (by unfold sIf; rw [hord]; rfl)]
    have htrn : ∀ r : Ev, r = [some (.val (skyD S)), some (.val (namesD ns)), some (.val (lastD last)), some (.val (.int a)), some (.own ((p.map fun j => (S.lk j).w).map .int)), some (.val (.int k)), some (.val (.int i))] → (gAnd (gT (f2 isNotD (fV 2) (fC .none))) (gNot (gTru (fCall R_follows (aCons (fV 0) (aCons (fV 2) (aCons (fV 6) aNil))))))) r = some (S.trn p i, r) := fun r er => by
      subst er
      unfold Sky.trn
      rw [← V.1]
      cases hl : last with
      | none =>
        generalize skyD S = SD
        simp [lastD]
      | some j =>
        have hf := follows_ok F (hlast j hl) hi
        have e : decide ((S.lk i).s < S.fin j + S.tz j i) = !decide (S.fin j + S.tz j i ≤ (S.lk i).s) := by
          rw [Bool.eq_iff_iff]
          simp
        show _ = some (decide ((S.lk i).s < S.fin j + S.tz j i), _)
        rw [e]
        generalize decide (S.fin j + S.tz j i ≤ (S.lk i).s) = b at hf
        generalize skyD S = SD at hf
        simp [lastD, hf]
    have hlev := level_ok F last hlast a hi
    obtain ⟨r2, h⟩ := wrong_tail R_follows R_level_behind (skyD S) (namesD ns) _ (lD (S.lk i)) (lastD last) i (S.lk i).w a k (p.map fun j => (S.lk j).w) (S.wsh p i) (S.trn p i) _ (small_len (by rw [List.length_map]; omega)) (sky_i0 S) (look_ix (lk_get hi)) rfl (in_ints _ _) htrn hlev
    have ek : kindD false (S.wsh p i) (S.trn p i) (levelZ S last a i).isNone k = kindD false (S.wsh p i) (S.trn p i) (S.rm p i) k := by
      cases ht : S.trn p i
      · rw [level_run F V hi ht]
        cases S.rm p i <;> rfl
      · unfold kindD
        cases S.wsh p i <;> rfl
    rw [ek] at h
    cases hkd : kindD false (S.wsh p i) (S.trn p i) (S.rm p i) k with
    | some dv =>
      rw [hkd] at h
      exact .inr ⟨dv, r2, rfl, h⟩
    | none =>
      rw [hkd] at h
      have ht : S.trn p i = false := by
        unfold kindD at hkd
        cases hz : S.trn p i
        · rfl
        · rw [hz] at hkd
          cases hy : S.wsh p i <;> rw [hy] at hkd <;> cases hkd
      have hr : S.rm p i = false := by
        unfold kindD at hkd
        cases hz : S.rm p i
        · rfl
        · rw [hz] at hkd
          cases hy : S.wsh p i <;> rw [hy, ht] at hkd <;> cases hkd
      have hl := level_run F V hi ht
      rw [hr, if_neg (by decide)] at hl
      rw [hl] at h
      refine .inl ⟨rfl, _, vp_next F V hi ht, ?_⟩
      rw [List.map_append]
      exact h
  · rw [ho] at hord
    exact .inr ⟨.tuple [.str "order", .int k], [some (.val (skyD S)), some (.val (namesD ns)), some (.val (lastD last)), some (.val (.int a)), some (.own ((p.map fun j => (S.lk j).w).map .int)), some (.val (.int k)), some (.val (.int i))], rfl, by
      rw [sSeq_rt (d := .tuple [.str "order", .int k]) (r1 := [some (.val (skyD S)), some (.val (namesD ns)), some (.val (lastD last)), some (.val (.int a)), some (.own ((p.map fun j => (S.lk j).w).map .int)), some (.val (.int k)), some (.val (.int i))]) (by unfold sIf; rw [hord]; rfl)]⟩
theorem take_get (ns : List Nat) (k : Nat) (h : k < ns.length) : ns.take (k + 1) = ns.take k ++ [ns.getD k 0] := by
  rw [List.take_succ, List.getD_eq_getElem?_getD, List.getElem?_eq_getElem h]
  rfl
theorem vp_zero (S : Sky) : Vp S [] none 0 := ⟨rfl, fun i hi => (by cases hi), fun j hj => (by cases hj)⟩
theorem wrong_ok {S : Sky} (F : Fit S) (ns : List Nat) (hn : ∀ i ∈ ns, i < S.looks.length) (hl : ns.length ≤ 1000) : R_wrong_in [skyD S, namesD ns] = some (S.wrongD ns) := by
  have hlp := loop_first (A := gTp 2 (gsCons (gNm 5) (gsCons (gNm 6) gsNil))) (body := wrongBody R_follows R_level_behind) (S.badD ns)
    (fun k r => ∃ (last : Option Nat) (a : Int) (c5 c6 : Option Cell), r = [some (.val (skyD S)), some (.val (namesD ns)), some (.val (lastD last)), some (.val (.int a)), some (.own (((ns.take k).map fun j => (S.lk j).w).map .int)), c5, c6] ∧ Vp S (ns.take k) last a)
    (items := enumL 0 (ns.map fun (n : Nat) => (.int n : D))) (r := [some (.val (skyD S)), some (.val (namesD ns)), some (.val .none), some (.val (.int 0)), some (.own []), none, none]) 0
    ⟨none, 0, none, none, rfl, vp_zero S⟩ fun k d r e ⟨last, a, c5, c6, er, V⟩ => by
      subst er
      rw [Nat.zero_add] at *
      rw [enumL_get, Nat.zero_add, List.getElem?_map] at e
      obtain ⟨d', e0, rfl⟩ := Option.map_eq_some_iff.mp e
      obtain ⟨i, e1, rfl⟩ := Option.map_eq_some_iff.mp e0
      have hk : k < ns.length := (List.getElem?_eq_some_iff.mp e1).1
      have ei : ns.getD k 0 = i := by rw [List.getD_eq_getElem?_getD, e1]; rfl
      have hi : i < S.looks.length := hn i (List.mem_of_getElem? e1)
      refine ⟨[some (.val (skyD S)), some (.val (namesD ns)), some (.val (lastD last)), some (.val (.int a)), some (.own (((ns.take k).map fun j => (S.lk j).w).map .int)), some (.val (.int k)), some (.val (.int i))], rfl, ?_⟩
      have ht := take_get ns k hk
      rw [ei] at ht
      unfold Sky.badD
      rw [ei]
      rcases wrong_turn F ns (ns.take k) last a i k hi (by rw [List.length_take]; omega) V with ⟨h1, a', V', h2⟩ | ⟨dv, r2, h1, h2⟩
      · rw [← ht] at h2 V'
        exact .inl ⟨h1, _, .inl h2, some i, a', _, _, rfl, V'⟩
      · exact .inr ⟨dv, r2, h1, h2⟩
  have hlen : (enumL 0 (ns.map fun (n : Nat) => (.int n : D))).length = ns.length := by rw [enumL_length, List.length_map]
  rw [hlen] at hlp
  unfold R_wrong_in runP F_wrong_in Sky.wrongD
  rw [sSeq_nx (r1 := [some (.val (skyD S)), some (.val (namesD ns)), some (.val .none), none, none, none, none]) rfl,
    sSeq_nx (r1 := [some (.val (skyD S)), some (.val (namesD ns)), some (.val .none), some (.val (.int 0)), none, none, none]) rfl,
    sSeq_nx (r1 := [some (.val (skyD S)), some (.val (namesD ns)), some (.val .none), some (.val (.int 0)), some (.own []), none, none]) rfl]
  rcases hlp with ⟨h1, r', h2, _⟩ | ⟨dv, r', h1, h2⟩
  · rw [h1, sSeq_nx (r1 := r') (by rw [sFor_eq (ds := enumL 0 (ns.map fun (n : Nat) => (.int n : D))) (r1 := [some (.val (skyD S)), some (.val (namesD ns)), some (.val .none), some (.val (.int 0)), some (.own []), none, none]) rfl]; exact h2)]
    rfl
  · rw [h1, sSeq_rt (d := dv) (r1 := r') (by rw [sFor_eq (ds := enumL 0 (ns.map fun (n : Nat) => (.int n : D))) (r1 := [some (.val (skyD S)), some (.val (namesD ns)), some (.val .none), some (.val (.int 0)), some (.own []), none, none]) rfl]; exact h2)]
    rfl
/-! ### the law's wrong -/
def lwBody (T St : List D → Option D) : FS := (sSeq (sSet 3 (f2 ixD (f2 ixD (fV 0) (fC (.int 0))) (f2 ixD (fV 1) (fV 2))))
    (sSeq (sIf (gAnd (gT (f2 gtD (fV 2) (fC (.int 0)))) (gT (f2 leD (f2 ixD (fV 1) (fV 2)) (f2 ixD (fV 1) (f2 subD (fV 2) (fC (.int 1))))))) (sRet (fTup (aCons (fC (.str "order")) (aCons (fV 2) aNil)))) sNext)
    (sSeq (sIf (gT (f2 inD (f2 ixD (fV 3) (fC (.int 0))) (fL (lLc (iSeq (fCut (fV 1) oNone (oSome (fV 2)))) [4] (gNm 4) gYes (f2 ixD (f2 ixD (f2 ixD (fV 0) (fC (.int 0))) (fV 4)) (fC (.int 0))))))) (sRet (fTup (aCons (fC (.str "wish")) (aCons (fV 2) aNil)))) sNext)
    (sSeq (sIf (gT (f2 gtD (fV 2) (fC (.int 0)))) (sSeq (sSet 5 (f2 ixD (f2 ixD (fV 0) (fC (.int 0))) (f2 ixD (fV 1) (f2 subD (fV 2) (fC (.int 1))))))
    (sIf (gT (f2 ltD (f2 ixD (fV 3) (fC (.int 1))) (f2 addD (f2 addD (f2 ixD (fV 5) (fC (.int 1))) (f2 ixD (fV 5) (fC (.int 2)))) (fCall T (aCons (fV 0) (aCons (f2 ixD (fV 1) (f2 subD (fV 2) (fC (.int 1)))) (aCons (f2 ixD (fV 1) (fV 2)) aNil))))))) (sRet (fTup (aCons (fC (.str "turning")) (aCons (fV 2) aNil)))) sNext)) sNext)
    (sIf (gT (f2 gtD (f2 addD (fCall St (aCons (fV 0) (aCons (fCut (fV 1) oNone (oSome (fV 2))) (aCons (f2 ixD (fV 3) (fC (.int 1))) aNil)))) (f2 ixD (fV 3) (fC (.int 4)))) (f2 ixD (fV 0) (fC (.int 3))))) (sRet (fTup (aCons (fC (.str "room")) (aCons (fV 2) aNil)))) sNext)))))
theorem lw_lc (SD NS LD X : D) (k : Nat) (c5 : Option Cell) (p : List Nat) (f : Nat → Int) (g : Nat → D) (h0 : ixD SD (.int 0) = some LD) (hc : cutAny NS none (some (k : Int)) = some (.list (p.map fun (n : Nat) => (.int n : D)))) (hg : ∀ j ∈ p, ixD LD (.int (j : Int)) = some (g j) ∧ ixD (g j) (.int 0) = some (.int (f j))) (hl : p.length ≤ 1000) :
    lLc (iSeq (fCut (fV 1) oNone (oSome (fV 2)))) [4] (gNm 4) gYes (f2 ixD (f2 ixD (f2 ixD (fV 0) (fC (.int 0))) (fV 4)) (fC (.int 0))) [some (.val SD), some (.val NS), some (.val (.int k)), some (.val X), none, c5] =
      some ((p.map f).map .int, [some (.val SD), some (.val NS), some (.val (.int k)), some (.val X), none, c5]) := by
  rw [lLc_eq (ds := p.map fun (n : Nat) => (.int n : D)) (r0 := [some (.val SD), some (.val NS), some (.val (.int k)), some (.val X), none, c5]) (zs := (p.map f).map .int) (w := [some (.val SD), some (.val NS), some (.val (.int k)), some (.val X), none, c5]) ?a ?b ?c]
  · rfl
  case a => simp [-cutAny, hc]
  case b =>
    rw [List.map_map]
    refine lcF_all (fun (n : Nat) => (.int n : D)) _ rfl fun j hj => ?_
    obtain ⟨g1, g2⟩ := hg j hj
    exact ⟨_, [some (.val SD), some (.val NS), some (.val (.int k)), some (.val X), some (.val (.int j)), c5], rfl, by simp [h0, g1, g2], rfl⟩
  case c => exact small_len (by simp; omega)
theorem lw_tail (T St : List D → Option D) (SD NS LD X PD : D) (k : Nat) (w s z c u : Int) (c5 : Option Cell) (p : List Nat) (f : Nat → Int) (g : Nat → D) (wb t : Bool) (h0 : ixD SD (.int 0) = some LD) (h3 : ixD SD (.int 3) = some (.int c)) (x0 : ixD X (.int 0) = some (.int w)) (x1 : ixD X (.int 1) = some (.int s)) (x4 : ixD X (.int 4) = some (.int z))
    (hc : cutAny NS none (some (k : Int)) = some PD) (eP : PD = .list (p.map fun (n : Nat) => (.int n : D))) (hg : ∀ j ∈ p, ixD LD (.int (j : Int)) = some (g j) ∧ ixD (g j) (.int 0) = some (.int (f j))) (hl : p.length ≤ 1000)
    (hw : inD (.int w) (.list ((p.map f).map .int)) = some (.bool wb)) (hs : St [SD, PD, .int s] = some (.int u))
    (ht : ∃ r2 : Ev, (sIf (gT (f2 gtD (fV 2) (fC (.int 0)))) (sSeq (sSet 5 (f2 ixD (f2 ixD (fV 0) (fC (.int 0))) (f2 ixD (fV 1) (f2 subD (fV 2) (fC (.int 1))))))
    (sIf (gT (f2 ltD (f2 ixD (fV 3) (fC (.int 1))) (f2 addD (f2 addD (f2 ixD (fV 5) (fC (.int 1))) (f2 ixD (fV 5) (fC (.int 2)))) (fCall T (aCons (fV 0) (aCons (f2 ixD (fV 1) (f2 subD (fV 2) (fC (.int 1)))) (aCons (f2 ixD (fV 1) (fV 2)) aNil))))))) (sRet (fTup (aCons (fC (.str "turning")) (aCons (fV 2) aNil)))) sNext)) sNext) [some (.val SD), some (.val NS), some (.val (.int k)), some (.val X), none, c5] =
      (if t then some (.rt (.tuple [.str "turning", .int k]) r2) else some (.nx r2)) ∧ ∃ c5', r2 = [some (.val SD), some (.val NS), some (.val (.int k)), some (.val X), none, c5']) :
    ∃ c5' : Option Cell, (sSeq (sIf (gT (f2 inD (f2 ixD (fV 3) (fC (.int 0))) (fL (lLc (iSeq (fCut (fV 1) oNone (oSome (fV 2)))) [4] (gNm 4) gYes (f2 ixD (f2 ixD (f2 ixD (fV 0) (fC (.int 0))) (fV 4)) (fC (.int 0))))))) (sRet (fTup (aCons (fC (.str "wish")) (aCons (fV 2) aNil)))) sNext)
    (sSeq (sIf (gT (f2 gtD (fV 2) (fC (.int 0)))) (sSeq (sSet 5 (f2 ixD (f2 ixD (fV 0) (fC (.int 0))) (f2 ixD (fV 1) (f2 subD (fV 2) (fC (.int 1))))))
    (sIf (gT (f2 ltD (f2 ixD (fV 3) (fC (.int 1))) (f2 addD (f2 addD (f2 ixD (fV 5) (fC (.int 1))) (f2 ixD (fV 5) (fC (.int 2)))) (fCall T (aCons (fV 0) (aCons (f2 ixD (fV 1) (f2 subD (fV 2) (fC (.int 1)))) (aCons (f2 ixD (fV 1) (fV 2)) aNil))))))) (sRet (fTup (aCons (fC (.str "turning")) (aCons (fV 2) aNil)))) sNext)) sNext)
    (sIf (gT (f2 gtD (f2 addD (fCall St (aCons (fV 0) (aCons (fCut (fV 1) oNone (oSome (fV 2))) (aCons (f2 ixD (fV 3) (fC (.int 1))) aNil)))) (f2 ixD (fV 3) (fC (.int 4)))) (f2 ixD (fV 0) (fC (.int 3))))) (sRet (fTup (aCons (fC (.str "room")) (aCons (fV 2) aNil)))) sNext))) [some (.val SD), some (.val NS), some (.val (.int k)), some (.val X), none, c5] =
      match kindD false wb t (decide (c < u + z)) k with
      | some dv => some (.rt dv [some (.val SD), some (.val NS), some (.val (.int k)), some (.val X), none, c5'])
      | none => some (.nx [some (.val SD), some (.val NS), some (.val (.int k)), some (.val X), none, c5']) := by
  have lc := lw_lc SD NS LD X k c5 p f g h0 (by rw [hc, eP]) hg hl
  generalize (p.map f).map PyData.int = ws at lc hw
  cases wb
  · rw [sSeq_nx (r1 := [some (.val SD), some (.val NS), some (.val (.int k)), some (.val X), none, c5]) (by simp [lc, x0, hw])]
    obtain ⟨r2, ht1, c5', rfl⟩ := ht
    refine ⟨c5', ?_⟩
    cases t
    · rw [sSeq_nx ht1]
      by_cases hd : c < u + z
      · rw [decide_eq_true hd]
        simp [-cutAny, hc, x1, x4, hs, h3, hd, kindD]
      · rw [decide_eq_false hd]
        simp [-cutAny, hc, x1, x4, hs, h3, hd, kindD]
    · rw [sSeq_rt ht1]
      rfl
  · refine ⟨c5, ?_⟩
    rw [sSeq_rt (d := .tuple [.str "wish", .int k]) (r1 := [some (.val SD), some (.val NS), some (.val (.int k)), some (.val X), none, c5]) (by simp [lc, x0, hw])]
    rfl
theorem names_ix (ns : List Nat) (k : Nat) (h : k < ns.length) : ixD (namesD ns) (.int (k : Int)) = some (.int ((ns.getD k 0 : Nat) : Int)) := by
  refine (atI_lit _ k).trans ?_
  rw [List.getElem?_map, List.getD_eq_getElem?_getD, List.getElem?_eq_getElem h]
  rfl
theorem names_cut (ns : List Nat) (k : Nat) (h : k ≤ ns.length) : cutAny (namesD ns) none (some (k : Int)) = some (namesD (ns.take k)) := by
  show some (PyData.list (cutD _ _ _)) = _
  rw [cutD_map]
  have : cutL ns none (some (k : Int)) = ns.take k := by
    unfold cutL
    rw [HT.sIx_nat, HT.sIx_none, List.drop_zero, Nat.sub_zero, Nat.min_eq_left h]
  rw [this]
  rfl
theorem take_last (ns : List Nat) (k : Nat) (h : k < ns.length) : (ns.take (k + 1)).getLast? = some (ns.getD k 0) := by
  rw [take_get ns k h, List.getLast?_append]
  rfl
theorem trn_zero (T : List D → Option D) (SD NS X : D) (c5 : Option Cell) (F1 : FS) : (sIf (gT (f2 gtD (fV 2) (fC (.int 0)))) F1 sNext) [some (.val SD), some (.val NS), some (.val (.int 0)), some (.val X), none, c5] = some (.nx [some (.val SD), some (.val NS), some (.val (.int 0)), some (.val X), none, c5]) := by
  simp
theorem trn_succ (T : List D → Option D) (SD NS LD X Y : D) (k i j : Nat) (s bs bl z : Int) (c5 : Option Cell) (h0 : ixD SD (.int 0) = some LD) (n1 : ixD NS (.int (k : Int)) = some (.int j)) (n2 : ixD NS (.int ((k : Int) + 1)) = some (.int i)) (hy : ixD LD (.int (j : Int)) = some Y) (x1 : ixD X (.int 1) = some (.int s)) (y1 : ixD Y (.int 1) = some (.int bs)) (y2 : ixD Y (.int 2) = some (.int bl)) (ht : T [SD, .int j, .int i] = some (.int z)) :
    (sIf (gT (f2 gtD (fV 2) (fC (.int 0)))) (sSeq (sSet 5 (f2 ixD (f2 ixD (fV 0) (fC (.int 0))) (f2 ixD (fV 1) (f2 subD (fV 2) (fC (.int 1))))))
    (sIf (gT (f2 ltD (f2 ixD (fV 3) (fC (.int 1))) (f2 addD (f2 addD (f2 ixD (fV 5) (fC (.int 1))) (f2 ixD (fV 5) (fC (.int 2)))) (fCall T (aCons (fV 0) (aCons (f2 ixD (fV 1) (f2 subD (fV 2) (fC (.int 1)))) (aCons (f2 ixD (fV 1) (fV 2)) aNil))))))) (sRet (fTup (aCons (fC (.str "turning")) (aCons (fV 2) aNil)))) sNext)) sNext) [some (.val SD), some (.val NS), some (.val (.int ((k : Int) + 1))), some (.val X), none, c5] =
      if decide (s < bs + bl + z) then some (.rt (.tuple [.str "turning", .int ((k : Int) + 1)]) [some (.val SD), some (.val NS), some (.val (.int ((k : Int) + 1))), some (.val X), none, some (.val Y)]) else some (.nx [some (.val SD), some (.val NS), some (.val (.int ((k : Int) + 1))), some (.val X), none, some (.val Y)]) := by
  have e1 : (0 : Int) < (k : Int) + 1 := by omega
  have e2 : (k : Int) + 1 - 1 = k := by omega
  by_cases h : s < bs + bl + z
  · rw [decide_eq_true h]
    simp [e1, e2, h0, n1, n2, hy, x1, y1, y2, ht, h]
  · rw [decide_eq_false h]
    simp [e1, e2, h0, n1, n2, hy, x1, y1, y2, ht, h]
theorem lw_ord (SD NS X : D) (k i : Nat) (c5 : Option Cell) (ns : List Nat) (S : Sky) (hk : k < ns.length) (ei : ns.getD k 0 = i) (eN : NS = namesD ns) :
    (gAnd (gT (f2 gtD (fV 2) (fC (.int 0)))) (gT (f2 leD (f2 ixD (fV 1) (fV 2)) (f2 ixD (fV 1) (f2 subD (fV 2) (fC (.int 1))))))) [some (.val SD), some (.val NS), some (.val (.int k)), some (.val X), none, c5] =
      some (S.ord (ns.take k) i, [some (.val SD), some (.val NS), some (.val (.int k)), some (.val X), none, c5]) := by
  have n2 := names_ix ns k hk
  rw [ei, ← eN] at n2
  unfold Sky.ord
  cases k with
  | zero => simp
  | succ j =>
    have n1 := names_ix ns j (by omega)
    rw [← eN] at n1
    rw [take_last ns j (by omega)]
    rw [show ((j + 1 : Nat) : Int) = (j : Int) + 1 from rfl] at n2 ⊢
    have e1 : (0 : Int) < (j : Int) + 1 := by omega
    have e2 : (j : Int) + 1 - 1 = j := by omega
    generalize ns.getD j 0 = b at n1 ⊢
    simp [e1, e2, n1, n2]
theorem lw_turn {S : Sky} {most : Nat} (F : Fit S) (ok : ∀ x ∈ S.looks, OkL most x) (ht30 : S.turn ≤ 30) (ns : List Nat) (hn : ∀ i ∈ ns, i < S.looks.length) (hl : ns.length ≤ 1000) (k : Nat) (hk : k < ns.length) (c3 c5 : Option Cell) :
    (S.badD ns k = none ∧ ∃ c3' c5' : Option Cell, lwBody R__law_turn R__law_store [some (.val (skyD S)), some (.val (namesD ns)), some (.val (.int k)), c3, none, c5] = some (.nx [some (.val (skyD S)), some (.val (namesD ns)), some (.val (.int k)), c3', none, c5'])) ∨
    ∃ dv r2, S.badD ns k = some dv ∧ lwBody R__law_turn R__law_store [some (.val (skyD S)), some (.val (namesD ns)), some (.val (.int k)), c3, none, c5] = some (.rt dv r2) := by
  obtain ⟨i, ei⟩ : ∃ i, ns.getD k 0 = i := ⟨_, rfl⟩
  have hi : i < S.looks.length := by
    rw [← ei, List.getD_eq_getElem?_getD, List.getElem?_eq_getElem hk]
    exact hn _ (List.getElem_mem hk)
  have hp : ∀ j ∈ ns.take k, j < S.looks.length := fun j hj => hn j (List.mem_of_mem_take hj)
  have n2 := names_ix ns k hk
  rw [ei] at n2
  have s0 := F.s0 _ (lk_mem hi)
  have s1 := F.s1 _ (lk_mem hi)
  have hst := store_ok F (ns.take k) hp (S.lk i).s s0 (by omega)
  have hcut := names_cut ns k (by omega)
  have hord := lw_ord (skyD S) (namesD ns) (lD (S.lk i)) k i c5 ns S hk ei rfl
  unfold Sky.badD
  rw [ei]
  unfold lwBody
  rw [sSeq_nx (r1 := [some (.val (skyD S)), some (.val (namesD ns)), some (.val (.int k)), some (.val (lD (S.lk i))), none, c5]) (by
    have h0 := sky_i0 S
    have h1 := look_ix (lk_get hi)
    generalize PyData.list (S.looks.map lD) = LD at h0 h1
    generalize skyD S = SD at h0 ⊢
    generalize namesD ns = NS at n2 ⊢
    generalize lD (S.lk i) = X at h1 ⊢
    simp [h0, h1, n2])]
  cases ho : S.ord (ns.take k) i
  · rw [ho] at hord
    rw [sSeq_nx (r1 := [some (.val (skyD S)), some (.val (namesD ns)), some (.val (.int k)), some (.val (lD (S.lk i))), none, c5]) (by unfold sIf; rw [hord]; rfl)]
    have htr : ∃ r2 : Ev, (sIf (gT (f2 gtD (fV 2) (fC (.int 0)))) (sSeq (sSet 5 (f2 ixD (f2 ixD (fV 0) (fC (.int 0))) (f2 ixD (fV 1) (f2 subD (fV 2) (fC (.int 1))))))
      (sIf (gT (f2 ltD (f2 ixD (fV 3) (fC (.int 1))) (f2 addD (f2 addD (f2 ixD (fV 5) (fC (.int 1))) (f2 ixD (fV 5) (fC (.int 2)))) (fCall R__law_turn (aCons (fV 0) (aCons (f2 ixD (fV 1) (f2 subD (fV 2) (fC (.int 1)))) (aCons (f2 ixD (fV 1) (fV 2)) aNil))))))) (sRet (fTup (aCons (fC (.str "turning")) (aCons (fV 2) aNil)))) sNext)) sNext) [some (.val (skyD S)), some (.val (namesD ns)), some (.val (.int k)), some (.val (lD (S.lk i))), none, c5] =
        (if S.trn (ns.take k) i then some (.rt (.tuple [.str "turning", .int k]) r2) else some (.nx r2)) ∧ ∃ c5', r2 = [some (.val (skyD S)), some (.val (namesD ns)), some (.val (.int k)), some (.val (lD (S.lk i))), none, c5'] := by
      cases k with
      | zero =>
        refine ⟨_, ?_, c5, rfl⟩
        show _ = (if (false = true) then some (Out.rt _ _) else some (Out.nx _))
        exact trn_zero R__law_turn _ _ _ c5 _
      | succ j =>
        have n1 := names_ix ns j (by omega)
        obtain ⟨b, eb⟩ : ∃ b, ns.getD j 0 = b := ⟨_, rfl⟩
        have hb : b < S.looks.length := by
          rw [← eb, List.getD_eq_getElem?_getD, List.getElem?_eq_getElem (show j < ns.length by omega)]
          exact hn _ (List.getElem_mem (by omega))
        rw [eb] at n1
        have lt := lturn_ok (lk_get hb) (lk_get hi) (ok _ (lk_mem hb)) (ok _ (lk_mem hi)) F.t0 ht30
        have := trn_succ R__law_turn (skyD S) (namesD ns) _ (lD (S.lk i)) (lD (S.lk b)) j i b _ _ _ _ c5 (sky_i0 S) n1 n2 (look_ix (lk_get hb)) rfl rfl rfl lt
        refine ⟨_, ?_, some (.val (lD (S.lk b))), rfl⟩
        have et : S.trn (ns.take (j + 1)) i = decide ((S.lk i).s < (S.lk b).s + (S.lk b).l + turnZ S.turn (S.lk b).a (S.lk i).a) := by
          unfold Sky.trn
          rw [take_last ns j (by omega), eb]
          rfl
        rw [et]
        exact this
    obtain ⟨c5', h⟩ := lw_tail R__law_turn R__law_store (skyD S) (namesD ns) _ (lD (S.lk i)) _ k (S.lk i).w (S.lk i).s (S.lk i).z S.cap _ c5 (ns.take k) (fun j => (S.lk j).w) (fun j => lD (S.lk j)) (S.wsh (ns.take k) i) (S.trn (ns.take k) i) (sky_i0 S) (sky_i3 S) rfl rfl rfl hcut rfl (fun j hj => ⟨look_ix (lk_get (hp j hj)), rfl⟩) (by rw [List.length_take]; omega) (in_ints _ _) hst htr
    have er : S.rm (ns.take k) i = decide (S.cap < storeZ S (ns.take k) (S.lk i).s + (S.lk i).z) := rfl
    rw [← er] at h
    cases hkd : kindD false (S.wsh (ns.take k) i) (S.trn (ns.take k) i) (S.rm (ns.take k) i) k with
    | some dv =>
      rw [hkd] at h
      exact .inr ⟨dv, _, rfl, h⟩
    | none =>
      rw [hkd] at h
      exact .inl ⟨rfl, _, c5', h⟩
  · rw [ho] at hord
    exact .inr ⟨.tuple [.str "order", .int k], [some (.val (skyD S)), some (.val (namesD ns)), some (.val (.int k)), some (.val (lD (S.lk i))), none, c5], rfl, by
      rw [sSeq_rt (d := .tuple [.str "order", .int k]) (r1 := [some (.val (skyD S)), some (.val (namesD ns)), some (.val (.int k)), some (.val (lD (S.lk i))), none, c5]) (by unfold sIf; rw [hord]; rfl)]⟩
theorem lwrong_ok {S : Sky} {most : Nat} (F : Fit S) (ok : ∀ x ∈ S.looks, OkL most x) (ht30 : S.turn ≤ 30) (ns : List Nat) (hn : ∀ i ∈ ns, i < S.looks.length) (hl : ns.length ≤ 1000) : R__law_wrong [skyD S, namesD ns] = some (S.wrongD ns) := by
  have hr := okR_of (i := (ns.length : Int)) (by omega) (by omega)
  have hlp := loop_first (A := gNm 2) (body := lwBody R__law_turn R__law_store) (S.badD ns)
    (fun k r => ∃ (c2 c3 c5 : Option Cell), r = [some (.val (skyD S)), some (.val (namesD ns)), c2, c3, none, c5])
    (items := rngL 0 ns.length) (r := [some (.val (skyD S)), some (.val (namesD ns)), none, none, none, none]) 0
    ⟨none, none, none, rfl⟩ fun k d r e ⟨c2, c3, c5, er⟩ => by
      subst er
      rw [Nat.zero_add] at *
      obtain ⟨hk, rfl⟩ := rngL_get e
      rw [show (0 : Int) + (k : Int) = k from Int.zero_add _]
      refine ⟨_, rfl, ?_⟩
      rcases lw_turn F ok ht30 ns hn hl k hk c3 c5 with ⟨h1, c3', c5', h2⟩ | ⟨dv, r2, h1, h2⟩
      · exact .inl ⟨h1, _, .inl h2, _, _, _, rfl⟩
      · exact .inr ⟨dv, r2, h1, h2⟩
  rw [rngL_length] at hlp
  have e5 : lenD (namesD ns) = some (.int ns.length) := by
    show some (PyData.int _) = _
    rw [List.length_map]
  have src : SL.iRng1 (f1 lenD (fV 1)) (startE 6 [skyD S, namesD ns]) = some (rngL 0 ns.length, [some (.val (skyD S)), some (.val (namesD ns)), none, none, none, none]) := by
    show SL.iRng1 (f1 lenD (fV 1)) [some (.val (skyD S)), some (.val (namesD ns)), none, none, none, none] = _
    generalize skyD S = SD
    generalize namesD ns = NS at e5 ⊢
    simp [SL.iRng1, e5, hr]
  unfold R__law_wrong runP F__law_wrong Sky.wrongD
  rcases hlp with ⟨h1, r', h2, _⟩ | ⟨dv, r', h1, h2⟩
  · rw [h1, sSeq_nx (r1 := r') (by rw [sFor_eq (ds := rngL 0 ns.length) (r1 := [some (.val (skyD S)), some (.val (namesD ns)), none, none, none, none]) src]; exact h2)]
    rfl
  · rw [h1, sSeq_rt (d := dv) (r1 := r') (by rw [sFor_eq (ds := rngL 0 ns.length) (r1 := [some (.val (skyD S)), some (.val (namesD ns)), none, none, none, none]) src]; exact h2)]
    rfl
theorem wrong_form (S : Sky) (ns : List Nat) : S.wrongD ns = .none ∨ ∃ w k, S.wrongD ns = .tuple [.str w, .int k] ∧ PyData.strOk w = true := by
  unfold Sky.wrongD
  cases h : (List.range' 0 ns.length).findSome? (S.badD ns) with
  | none => exact .inl rfl
  | some dv =>
    right
    obtain ⟨k, _, hk⟩ := List.exists_of_findSome?_eq_some h
    unfold Sky.badD kindD at hk
    split at hk
    · cases hk; exact ⟨_, _, rfl, strOk_of _⟩
    · split at hk
      · cases hk; exact ⟨_, _, rfl, strOk_of _⟩
      · split at hk
        · cases hk; exact ⟨_, _, rfl, strOk_of _⟩
        · split at hk
          · cases hk; exact ⟨_, _, rfl, strOk_of _⟩
          · cases hk
end Sk
/-! Plans and worths. -/
namespace Sk
open PySem PySem.Spec PyProof.Rows L2 SL
theorem fit_of {most : Nat} {S : Sky} (ok : OkSky most S) : Fit S where
  t0 := ok.t0
  t1 := Int.le_trans ok.t1 (by decide)
  ears := ok.ears
  s0 := fun x hx => (ok.looks x hx).s0
  s1 := fun x hx => Int.le_trans (ok.looks x hx).s1 (by decide)
  l0 := fun x hx => (ok.looks x hx).l0
  z0 := fun x hx => Int.le_trans (by decide) (ok.looks x hx).z0
def isN (d : D) : Bool := match d with
  | .none => true
  | _ => false
theorem plan_ev (W : List D → Option D) (SD NS d : D) (h : W [SD, NS] = some d) (hd : d = .none ∨ ∃ w k, d = .tuple [.str w, .int k]) : endP (sRet (f2 isD (fCall W (aCons (fV 0) (aCons (fV 1) aNil))) (fC .none)) (startE 2 [SD, NS])) = some (.bool (isN d)) := by
  rcases hd with rfl | ⟨w, k, rfl⟩
  · simp [startE, h, isN]
  · simp [startE, h, isN]
theorem plan_ok {S : Sky} (F : Fit S) (ns : List Nat) (hn : ∀ i ∈ ns, i < S.looks.length) (hl : ns.length ≤ 1000) : R_is_plan [skyD S, namesD ns] = some (.bool (isN (S.wrongD ns))) :=
  plan_ev R_wrong_in (skyD S) (namesD ns) _ (wrong_ok F ns hn hl) (by
    rcases wrong_form S ns with h | ⟨w, k, h, _⟩
    · exact .inl h
    · exact .inr ⟨w, k, h⟩)
/-! ### worths -/
theorem sum_ints (ns : List Int) : sumD (.list (ns.map .int)) = some (.int ns.sum) := by
  show (intsOf _).map _ = _
  rw [intsOf_map]
  rfl
def Sky.wo (S : Sky) (w : Int) : Int := S.worths.getD w.toNat 0
theorem wo_ix {S : Sky} {w : Int} (h0 : 0 ≤ w) (h1 : w < S.worths.length) : ixD (.list (S.worths.map .int)) (.int w) = some (.int (S.wo w)) := by
  obtain ⟨k, rfl⟩ := Int.eq_ofNat_of_zero_le h0
  exact Rg.ix_at k (by omega)
def addW (ws : List Int) (w : Int) : List Int := if w ∈ ws then ws else ws ++ [w]
def wishesOf (S : Sky) (ns : List Nat) : List Int := ns.foldl (fun ws i => addW ws (S.lk i).w) []
theorem addW_mem (ws : List Int) (w x : Int) : x ∈ addW ws w ↔ x ∈ ws ∨ x = w := by
  unfold addW
  split
  · rename_i h
    exact ⟨.inl, fun z => z.elim id fun e => e ▸ h⟩
  · rw [List.mem_append, List.mem_singleton]
theorem addW_nodup {ws : List Int} {w : Int} (h : ws.Nodup) : (addW ws w).Nodup := by
  unfold addW
  split
  · exact h
  · rename_i hw
    refine List.nodup_append.mpr ⟨h, List.pairwise_singleton _ _, fun a ha b hb => ?_⟩
    rw [List.mem_singleton.mp hb]
    intro e
    exact hw (e ▸ ha)
theorem wishes_fold (S : Sky) : ∀ (ns : List Nat) (ws : List Int), ws.Nodup → (ns.foldl (fun ws i => addW ws (S.lk i).w) ws).Nodup ∧ ∀ x, x ∈ ns.foldl (fun ws i => addW ws (S.lk i).w) ws ↔ x ∈ ws ∨ x ∈ ns.map fun i => (S.lk i).w
  | [], ws, h => ⟨h, fun x => by simp⟩
  | i :: ns, ws, h => by
    obtain ⟨a, b⟩ := wishes_fold S ns (addW ws (S.lk i).w) (addW_nodup h)
    refine ⟨a, fun x => ?_⟩
    rw [List.foldl_cons, b x, addW_mem, List.map_cons, List.mem_cons]
    exact or_assoc
theorem perm_sum {a b : List Int} (h : a.Perm b) : a.sum = b.sum := by
  induction h with
  | nil => rfl
  | cons x _ ih => rw [List.sum_cons, List.sum_cons, ih]
  | swap x y l => simp only [List.sum_cons]; omega
  | trans _ _ h1 h2 => rw [h1, h2]
def worthZ (S : Sky) (ns : List Nat) : Int := ((wishesOf S ns).map S.wo).sum
def lawWishes (S : Sky) (ns : List Nat) : List Nat := (List.range S.worths.length).filter fun k => decide ((k : Int) ∈ ns.map fun i => (S.lk i).w)
theorem worth_same {S : Sky} (hw : ∀ x ∈ S.looks, 0 ≤ x.w ∧ x.w < S.worths.length) (ns : List Nat) (hn : ∀ i ∈ ns, i < S.looks.length) : ((lawWishes S ns).map fun (k : Nat) => S.wo k).sum = worthZ S ns := by
  obtain ⟨a, b⟩ := wishes_fold S ns [] List.Pairwise.nil
  have p : ((lawWishes S ns).map fun (k : Nat) => (k : Int)).Perm (wishesOf S ns) := by
    show List.Perm _ (ns.foldl (fun ws i => addW ws (S.lk i).w) [])
    rw [List.perm_ext_iff_of_nodup ?_ a]
    · intro x
      rw [b x]
      unfold lawWishes
      constructor
      · intro h
        obtain ⟨k, hk, rfl⟩ := List.mem_map.mp h
        exact .inr (of_decide_eq_true (List.mem_filter.mp hk).2)
      · intro h
        rcases h with h | h
        · cases h
        · obtain ⟨i, hi, rfl⟩ := List.mem_map.mp h
          obtain ⟨w0, w1⟩ := hw _ (lk_mem (hn i hi))
          obtain ⟨k, ek⟩ := Int.eq_ofNat_of_zero_le w0
          refine List.mem_map.mpr ⟨k, List.mem_filter.mpr ⟨List.mem_range.mpr (by omega), decide_eq_true ?_⟩, ek.symm⟩
          rw [← ek]
          exact List.mem_map.mpr ⟨i, hi, rfl⟩
    · unfold lawWishes
      refine List.pairwise_map.mpr ((List.nodup_range.filter _).imp fun {x y} h e => h (by omega))
  have := perm_sum (p.map S.wo)
  rw [List.map_map] at this
  exact this
theorem wo_turn (SD NS LD X : D) (i w : Int) (ws : List Int) (h0 : ixD SD (.int 0) = some LD) (h1 : ixD LD (.int i) = some X) (h2 : ixD X (.int 0) = some (.int w)) (hl : ws.length < sizeLine) (c4 : Option Cell) :
    (sIf (gT (f2 notInD (f2 ixD (f2 ixD (f2 ixD (fV 0) (fC (.int 0))) (fV 3)) (fC (.int 0))) (fVp 2))) (sApp 2 (f2 ixD (f2 ixD (f2 ixD (fV 0) (fC (.int 0))) (fV 3)) (fC (.int 0)))) sNext) [some (.val SD), some (.val NS), some (.own (ws.map .int)), some (.val (.int i)), c4] =
      some (.nx [some (.val SD), some (.val NS), some (.own ((addW ws w).map .int)), some (.val (.int i)), c4]) := by
  have h3 := nin_ints ws w
  unfold addW
  by_cases h : w ∈ ws
  · rw [decide_eq_true h] at h3
    rw [if_pos h]
    generalize ws.map PyData.int = wd at h3 ⊢
    simp [h0, h1, h2, h3]
  · rw [decide_eq_false h] at h3
    rw [if_neg h, List.map_append]
    have hl2 : (ws.map PyData.int).length < sizeLine := by rw [List.length_map]; exact hl
    generalize ws.map PyData.int = wd at h3 hl2 ⊢
    simp [h0, h1, h2, h3, hl2]
theorem wo_lc (SD NS WD : D) (c3 : Option Cell) (ws : List Int) (f : Int → Int) (h1 : ixD SD (.int 1) = some WD) (hf : ∀ w ∈ ws, ixD WD (.int w) = some (.int (f w))) (hl : ws.length ≤ 1000) :
    lLc (iSeq (fV 2)) [4] (gNm 4) gYes (f2 ixD (f2 ixD (fV 0) (fC (.int 1))) (fV 4)) [some (.val SD), some (.val NS), some (.own (ws.map .int)), c3, none] =
      some ((ws.map f).map .int, [some (.val SD), some (.val NS), some (.val (.list (ws.map .int))), c3, none]) := by
  rw [lLc_eq (ds := ws.map .int) (r0 := [some (.val SD), some (.val NS), some (.val (.list (ws.map .int))), c3, none]) (zs := (ws.map f).map .int) (w := [some (.val SD), some (.val NS), some (.val (.list (ws.map .int))), c3, none]) rfl ?b ?c]
  · rfl
  case b =>
    rw [List.map_map]
    exact lcF_all (fun (w : Int) => (.int w : D)) _ rfl fun w hw => ⟨_, [some (.val SD), some (.val NS), some (.val (.list (ws.map .int))), c3, some (.val (.int w))], rfl, by simp [h1, hf w hw], rfl⟩
  case c => exact small_len (by simp; omega)
theorem wishes_len (S : Sky) : ∀ (ns : List Nat) (ws : List Int), (ns.foldl (fun ws i => addW ws (S.lk i).w) ws).length ≤ ws.length + ns.length
  | [], ws => Nat.le_refl _
  | i :: ns, ws => by
    have := wishes_len S ns (addW ws (S.lk i).w)
    have h2 : (addW ws (S.lk i).w).length ≤ ws.length + 1 := by
      unfold addW
      split
      · omega
      · rw [List.length_append]; exact Nat.le_refl _
    rw [List.foldl_cons, List.length_cons]
    omega
theorem worth_ok {S : Sky} (hw : ∀ x ∈ S.looks, 0 ≤ x.w ∧ x.w < S.worths.length) (ns : List Nat) (hn : ∀ i ∈ ns, i < S.looks.length) (hl : ns.length ≤ 1000) : R_worth_of [skyD S, namesD ns] = some (.int (worthZ S ns)) := by
  obtain ⟨r', h1, c3, rfl⟩ := loop_all (A := gNm 3) (body := sIf (gT (f2 notInD (f2 ixD (f2 ixD (f2 ixD (fV 0) (fC (.int 0))) (fV 3)) (fC (.int 0))) (fVp 2))) (sApp 2 (f2 ixD (f2 ixD (f2 ixD (fV 0) (fC (.int 0))) (fV 3)) (fC (.int 0)))) sNext) (items := ns.map fun (n : Nat) => (.int n : D))
    (r := [some (.val (skyD S)), some (.val (namesD ns)), some (.own []), none, none])
    (fun k r => ∃ c3 : Option Cell, r = [some (.val (skyD S)), some (.val (namesD ns)), some (.own ((wishesOf S (ns.take k)).map .int)), c3, none])
    ⟨none, rfl⟩ fun k d r e ⟨c3, er⟩ => by
      subst er
      rw [List.getElem?_map] at e
      obtain ⟨i, e1, rfl⟩ := Option.map_eq_some_iff.mp e
      have hk : k < ns.length := (List.getElem?_eq_some_iff.mp e1).1
      have ei : ns.getD k 0 = i := by rw [List.getD_eq_getElem?_getD, e1]; rfl
      have hi : i < S.looks.length := hn i (List.mem_of_getElem? e1)
      have hlen := wishes_len S (ns.take k) []
      rw [List.length_take] at hlen
      have et : wishesOf S (ns.take (k + 1)) = addW (wishesOf S (ns.take k)) (S.lk i).w := by
        unfold wishesOf
        rw [take_get ns k hk, ei, List.foldl_append]
        rfl
      rw [et]
      exact ⟨_, _, rfl, .inl (wo_turn (skyD S) (namesD ns) _ (lD (S.lk i)) i (S.lk i).w _ (sky_i0 S) (look_ix (lk_get hi)) rfl (small_len (by unfold wishesOf; simp at hlen; omega)) none), _, rfl⟩
  rw [List.length_map, List.take_length] at h1
  have hlen := wishes_len S ns []
  simp at hlen
  have mem := (wishes_fold S ns [] List.Pairwise.nil).2
  have lc := wo_lc (skyD S) (namesD ns) _ c3 (wishesOf S ns) S.wo (sky_i1 S) (fun w hw2 => by
    rcases (mem w).mp hw2 with h | h
    · cases h
    · obtain ⟨i, hi, rfl⟩ := List.mem_map.mp h
      obtain ⟨w0, w1⟩ := hw _ (lk_mem (hn i hi))
      exact wo_ix w0 w1) (by unfold wishesOf; omega)
  have sm := sum_ints ((wishesOf S ns).map S.wo)
  unfold R_worth_of runP F_worth_of worthZ
  rw [sSeq_nx (r1 := [some (.val (skyD S)), some (.val (namesD ns)), some (.own []), none, none]) rfl,
    sSeq_nx (by rw [sFor_eq (ds := ns.map fun (n : Nat) => (.int n : D)) (r1 := [some (.val (skyD S)), some (.val (namesD ns)), some (.own []), none, none]) rfl]; exact h1)]
  generalize ((wishesOf S ns).map S.wo).map PyData.int = zs at lc sm
  generalize ((wishesOf S ns).map S.wo).sum = z at sm
  simp [lc, sm]
theorem lwo_lc1 (SD NS LD : D) (p : List Nat) (f : Nat → Int) (g : Nat → D) (h0 : ixD SD (.int 0) = some LD) (eN : NS = .list (p.map fun (n : Nat) => (.int n : D))) (hg : ∀ j ∈ p, ixD LD (.int (j : Int)) = some (g j) ∧ ixD (g j) (.int 0) = some (.int (f j))) (hl : p.length ≤ 1000) :
    lLc (iSeq (fV 1)) [3] (gNm 3) gYes (f2 ixD (f2 ixD (f2 ixD (fV 0) (fC (.int 0))) (fV 3)) (fC (.int 0))) [some (.val SD), some (.val NS), none, none, none] =
      some ((p.map f).map .int, [some (.val SD), some (.val NS), none, none, none]) := by
  rw [lLc_eq (ds := p.map fun (n : Nat) => (.int n : D)) (r0 := [some (.val SD), some (.val NS), none, none, none]) (zs := (p.map f).map .int) (w := [some (.val SD), some (.val NS), none, none, none]) (by rw [eN]; rfl) ?b ?c]
  · rfl
  case b =>
    rw [List.map_map]
    refine lcF_all (fun (n : Nat) => (.int n : D)) _ rfl fun j hj => ?_
    obtain ⟨g1, g2⟩ := hg j hj
    exact ⟨_, [some (.val SD), some (.val NS), none, some (.val (.int j)), none], rfl, by simp [h0, g1, g2], rfl⟩
  case c => exact small_len (by simp; omega)
theorem lwo_lc2 (SD NS WD : D) (ws : List Int) (m : Nat) (f : Nat → Int) (hm : m ≤ 1000) (h1 : ixD SD (.int 1) = some WD) (h2 : lenD WD = some (.int m)) (hf : ∀ k : Nat, k < m → ixD WD (.int (k : Int)) = some (.int (f k))) :
    lLc (SL.iRng1 (f1 lenD (f2 ixD (fV 0) (fC (.int 1))))) [4] (gNm 4) (gT (f2 inD (fV 4) (fV 2))) (f2 ixD (f2 ixD (fV 0) (fC (.int 1))) (fV 4)) [some (.val SD), some (.val NS), some (.val (.list (ws.map .int))), none, none] =
      some ((((List.range m).filter fun (k : Nat) => decide ((k : Int) ∈ ws)).map f).map .int, [some (.val SD), some (.val NS), some (.val (.list (ws.map .int))), none, none]) := by
  have hr := okR_of (i := (m : Int)) (by omega) (by omega)
  rw [lLc_eq (ds := rngL 0 m) (r0 := [some (.val SD), some (.val NS), some (.val (.list (ws.map .int))), none, none]) (zs := (((List.range m).filter fun (k : Nat) => decide ((k : Int) ∈ ws)).map f).map .int) (w := [some (.val SD), some (.val NS), some (.val (.list (ws.map .int))), none, none]) ?a ?b ?c]
  · rfl
  case a => simp [SL.iRng1, h1, h2, hr]
  case b =>
    rw [rngL_map, List.map_map]
    refine lcF_gen (fun (i : Nat) => (.int i : D)) (fun (k : Nat) => decide ((k : Int) ∈ ws)) _ rfl fun k hk => ?_
    have hk2 : k < m := List.mem_range.mp hk
    have hin := in_ints ws (k : Int)
    generalize PyData.list (ws.map .int) = wd at hin
    refine ⟨[some (.val SD), some (.val NS), some (.val wd), none, some (.val (.int k))], [some (.val SD), some (.val NS), some (.val wd), none, some (.val (.int k))], rfl, ?_, fun _ => ⟨[some (.val SD), some (.val NS), some (.val wd), none, some (.val (.int k))], by simp [h1, hf k hk2], rfl⟩, fun _ => rfl⟩
    generalize decide ((k : Int) ∈ ws) = b at hin
    simp [hin]
  case c =>
    refine small_len ?_
    have := List.length_filter_le (fun (k : Nat) => decide ((k : Int) ∈ ws)) (List.range m)
    rw [List.length_range] at this
    rw [List.length_map, List.length_map]
    omega
theorem lworth_ev (SD NS : D) (ws zs : List D) (z : Int) (F1 F2 : FA) (l1 : F1 [some (.val SD), some (.val NS), none, none, none] = some (ws, [some (.val SD), some (.val NS), none, none, none]))
    (l2 : F2 [some (.val SD), some (.val NS), some (.val (.list ws)), none, none] = some (zs, [some (.val SD), some (.val NS), some (.val (.list ws)), none, none])) (sm : sumD (.list zs) = some (.int z)) :
    endP ((sSeq (sSet 2 (fL F1)) (sRet (f1 sumD (fL F2)))) (startE 5 [SD, NS])) = some (.int z) := by
  rw [sSeq_nx (r1 := [some (.val SD), some (.val NS), some (.val (.list ws)), none, none]) (by unfold sSet fL startE; simp [l1])]
  simp [l2, sm]
theorem lworth_ok {S : Sky} (hw : ∀ x ∈ S.looks, 0 ≤ x.w ∧ x.w < S.worths.length) (hm : S.worths.length ≤ 1000) (ns : List Nat) (hn : ∀ i ∈ ns, i < S.looks.length) (hl : ns.length ≤ 1000) : R__law_worth [skyD S, namesD ns] = some (.int (worthZ S ns)) := by
  have l1 := lwo_lc1 (skyD S) (namesD ns) _ ns (fun j => (S.lk j).w) (fun j => lD (S.lk j)) (sky_i0 S) rfl (fun j hj => ⟨look_ix (lk_get (hn j hj)), rfl⟩) hl
  have e5 : lenD (.list (S.worths.map .int)) = some (.int S.worths.length) := by
    show some (PyData.int _) = _
    rw [List.length_map]
  have l2 := lwo_lc2 (skyD S) (namesD ns) _ (ns.map fun j => (S.lk j).w) S.worths.length (fun k => S.wo k) hm (sky_i1 S) e5 (fun k hk => wo_ix (by omega) (by omega))
  have sm := sum_ints ((lawWishes S ns).map fun (k : Nat) => S.wo k)
  rw [worth_same hw ns hn] at sm
  exact lworth_ev (skyD S) (namesD ns) _ _ _ _ _ l1 l2 sm
end Sk
/-! Parts of plans are plans; all ascending lists; levels. -/
namespace Sk
open PySem PySem.Spec PyProof.Rows L2 SL
theorem dA_tri (a b c : Int) : dA a c ≤ dA a b + dA b c := by
  unfold dA
  split <;> split <;> split <;> omega
theorem turn_tri {t : Int} (ht : 1 ≤ t) (a b c : Int) : turnZ t a c ≤ turnZ t a b + turnZ t b c := by
  obtain ⟨p, ep⟩ := Int.eq_ofNat_of_zero_le (turnZ_nonneg (a := a) (b := b) ht)
  obtain ⟨q, eq⟩ := Int.eq_ofNat_of_zero_le (turnZ_nonneg (a := b) (b := c) ht)
  have h1 := (turnZ_le (a := a) (b := b) ht p).mpr (by omega)
  have h2 := (turnZ_le (a := b) (b := c) ht q).mpr (by omega)
  have h3 := dA_tri a b c
  have h4 : ((p + q : Nat) : Int) * t = (p : Int) * t + (q : Int) * t := by rw [Int.natCast_add, Int.add_mul]
  have := (turnZ_le (a := a) (b := c) ht (p + q)).mp (by omega)
  omega
theorem tz_tri {S : Sky} (F : Fit S) (i j k : Nat) : S.tz i k ≤ S.tz i j + S.tz j k := turn_tri F.t0 _ _ _
theorem mx_mono {a b : Int} (h : a ≤ b) : mx 0 a ≤ mx 0 b := by
  unfold mx
  split <;> split <;> omega
theorem addAt_cons (S : Sky) (i : Nat) (p : List Nat) (now : Int) : addAt S (i :: p) now = (if S.fin i = now then (S.lk i).z else 0) + addAt S p now := by
  unfold addAt
  rw [List.foldl_cons, fold_add fun i : Nat => if S.fin i = now then (S.lk i).z else 0]
  omega
theorem addAt_sub {S : Sky} (F : Fit S) {q p : List Nat} (h : q.Sublist p) (hp : ∀ i ∈ p, i < S.looks.length) (now : Int) : addAt S q now ≤ addAt S p now := by
  induction h with
  | slnil => exact Int.le_refl _
  | cons a _ ih =>
    have := ih fun i hi => hp i (List.mem_cons_of_mem _ hi)
    have hz := F.z0 _ (lk_mem (hp a (List.mem_cons_self ..)))
    rw [addAt_cons]
    split <;> omega
  | cons_cons a _ ih =>
    have := ih fun i hi => hp i (List.mem_cons_of_mem _ hi)
    rw [addAt_cons, addAt_cons]
    omega
theorem run_sub {S : Sky} (F : Fit S) {q p : List Nat} (h : q.Sublist p) (hp : ∀ i ∈ p, i < S.looks.length) : ∀ k, runZ S q k ≤ runZ S p k
  | 0 => Int.le_refl _
  | k + 1 => by
    have a := run_sub F h hp k
    have b := addAt_sub F h hp k
    have c := mx_mono (show runZ S q k - tickLoss S.ears ((k : Int) - 1) ≤ runZ S p k - tickLoss S.ears ((k : Int) - 1) by omega)
    show mx 0 (runZ S q k - tickLoss S.ears ((k : Int) - 1)) + addAt S q k ≤ mx 0 (runZ S p k - tickLoss S.ears ((k : Int) - 1)) + addAt S p k
    omega
/-- a look can come behind a list -/
structure Good (S : Sky) (p : List Nat) (i : Nat) : Prop where
  o : S.ord p i = false
  w : S.wsh p i = false
  t : S.trn p i = false
  r : S.rm p i = false
inductive PlanP (S : Sky) : List Nat → Prop
  | nil : PlanP S []
  | snoc {p : List Nat} {i : Nat} : PlanP S p → Good S p i → PlanP S (p ++ [i])
theorem PlanP.split {S : Sky} {ns : List Nat} (h : PlanP S ns) : ∀ {p : List Nat} {i : Nat}, ns = p ++ [i] → PlanP S p ∧ Good S p i := by
  cases h with
  | nil => intro p i e; exact absurd e (by simp)
  | snoc a b =>
    intro p i e
    obtain ⟨rfl, e2⟩ := List.append_inj' e rfl
    cases e2
    exact ⟨a, b⟩
theorem last_snoc (p : List Nat) (x : Nat) : (p ++ [x]).getLast? = some x := by
  rw [List.getLast?_append]
  rfl
theorem ord_lt {S : Sky} {ns : List Nat} (h : PlanP S ns) : ∀ i, S.ord ns i = false → ∀ y ∈ ns, y < i := by
  induction h with
  | nil => intro i _ y hy; cases hy
  | @snoc p x _ g ih =>
    intro i hi y hy
    have hx : x < i := by
      unfold Sky.ord at hi
      rw [last_snoc] at hi
      have := of_decide_eq_false hi
      omega
    rcases List.mem_append.mp hy with h | h
    · have := ih x g.o y h
      omega
    · rw [List.mem_singleton.mp h]; exact hx
theorem trn_all {S : Sky} (F : Fit S) {ns : List Nat} (h : PlanP S ns) : (∀ i ∈ ns, i < S.looks.length) → ∀ i, S.trn ns i = false → ∀ y ∈ ns, S.fin y + S.tz y i ≤ (S.lk i).s := by
  induction h with
  | nil => intro _ i _ y hy; cases hy
  | @snoc p x _ g ih =>
    intro hp i hi y hy
    have hx : S.fin x + S.tz x i ≤ (S.lk i).s := by
      unfold Sky.trn at hi
      rw [last_snoc] at hi
      have := of_decide_eq_false hi
      omega
    rcases List.mem_append.mp hy with h | h
    · have h1 := ih (fun j hj => hp j (List.mem_append_left _ hj)) x g.t y h
      have h2 := tz_tri F y x i
      have h3 := (fin_pos F (hp x (List.mem_append_right _ (List.mem_singleton.mpr rfl)))).2
      omega
    · rw [List.mem_singleton.mp h]; exact hx
theorem good_sub {S : Sky} (F : Fit S) {p q : List Nat} {i : Nat} (hp : PlanP S p) (hl : ∀ j ∈ p, j < S.looks.length) (g : Good S p i) (h : q.Sublist p) : Good S q i where
  o := by
    unfold Sky.ord
    cases e : q.getLast? with
    | none => rfl
    | some y =>
      have := ord_lt hp i g.o y (h.subset (List.mem_of_getLast? e))
      exact decide_eq_false (by omega)
  w := by
    have := of_decide_eq_false g.w
    refine decide_eq_false fun z => this ?_
    obtain ⟨j, hj, e⟩ := List.mem_map.mp z
    exact List.mem_map.mpr ⟨j, h.subset hj, e⟩
  t := by
    unfold Sky.trn
    cases e : q.getLast? with
    | none => rfl
    | some y =>
      have := trn_all F hp hl i g.t y (h.subset (List.mem_of_getLast? e))
      exact decide_eq_false (by omega)
  r := by
    have a := of_decide_eq_false g.r
    have b := run_sub F h hl ((S.lk i).s.toNat + 1)
    refine decide_eq_false ?_
    unfold storeZ at a ⊢
    omega
theorem plan_sub {S : Sky} (F : Fit S) {p : List Nat} (hp : PlanP S p) : (∀ j ∈ p, j < S.looks.length) → ∀ {q : List Nat}, q.Sublist p → PlanP S q := by
  induction hp with
  | nil => intro _ q h; rw [List.sublist_nil.mp h]; exact .nil
  | @snoc p x hp g ih =>
    intro hl q h
    have hl2 : ∀ j ∈ p, j < S.looks.length := fun j hj => hl j (List.mem_append_left _ hj)
    obtain ⟨q1, q2, rfl, h1, h2⟩ := List.sublist_append_iff.mp h
    cases h2 with
    | cons _ h2 => rw [List.sublist_nil.mp h2, List.append_nil]; exact ih hl2 h1
    | cons_cons _ h2 => rw [List.sublist_nil.mp h2]; exact .snoc (ih hl2 h1) (good_sub F hp hl2 g h1)
/-! ### plans and wrongD -/
theorem kind_none {o w t r : Bool} {k : Nat} : kindD o w t r k = none ↔ o = false ∧ w = false ∧ t = false ∧ r = false := by
  unfold kindD
  cases o <;> cases w <;> cases t <;> cases r <;> simp
theorem bad_prefix (S : Sky) (p : List Nat) (i k : Nat) (h : k < p.length) : S.badD (p ++ [i]) k = S.badD p k := by
  unfold Sky.badD
  rw [List.take_append_of_le_length (by omega), List.getD_eq_getElem?_getD, List.getElem?_append_left h, ← List.getD_eq_getElem?_getD]
theorem bad_last (S : Sky) (p : List Nat) (i : Nat) : S.badD (p ++ [i]) p.length = kindD (S.ord p i) (S.wsh p i) (S.trn p i) (S.rm p i) p.length := by
  unfold Sky.badD
  rw [List.take_left, List.getD_eq_getElem?_getD, List.getElem?_append_right (Nat.le_refl _), Nat.sub_self]
  rfl
theorem wrong_none {S : Sky} {ns : List Nat} : S.wrongD ns = .none ↔ ∀ k, k < ns.length → S.badD ns k = none := by
  unfold Sky.wrongD
  constructor
  · intro h k hk
    cases e : (List.range' 0 ns.length).findSome? (S.badD ns) with
    | none => exact List.findSome?_eq_none_iff.mp e k (List.mem_range'_1.mpr ⟨Nat.zero_le _, by omega⟩)
    | some dv =>
      rw [e] at h
      obtain ⟨j, _, hj⟩ := List.exists_of_findSome?_eq_some e
      have hd : dv = .none := h
      subst hd
      unfold Sky.badD kindD at hj
      split at hj
      · cases hj
      · split at hj
        · cases hj
        · split at hj
          · cases hj
          · split at hj <;> cases hj
  · intro h
    rw [List.findSome?_eq_none_iff.mpr fun k hk => h k (by have := List.mem_range'_1.mp hk; omega)]
    rfl
theorem plan_iff (S : Sky) : ∀ (n : Nat) (ns : List Nat), ns.length = n → ((∀ k, k < ns.length → S.badD ns k = none) ↔ PlanP S ns)
  | 0, ns, h => by
    rw [List.length_eq_zero_iff.mp h]
    exact ⟨fun _ => .nil, fun _ k hk => absurd hk (Nat.not_lt_zero _)⟩
  | n + 1, ns, h => by
    rcases List.eq_nil_or_concat ns with rfl | ⟨p, i, rfl⟩
    · cases h
    · rw [List.concat_eq_append] at h ⊢
      rw [List.length_append, List.length_singleton] at h
      have hp : p.length = n := by omega
      have ih := plan_iff S n p hp
      have bl := bad_last S p i
      rw [List.length_append, List.length_singleton]
      constructor
      · intro z
        have g := z p.length (by omega)
        rw [bl] at g
        obtain ⟨a, b, c, d⟩ := kind_none.mp g
        exact .snoc (ih.mp fun k hk => by rw [← bad_prefix S p i k hk]; exact z k (by omega)) ⟨a, b, c, d⟩
      · intro z k hk
        obtain ⟨z1, g⟩ := z.split rfl
        by_cases e : k = p.length
        · rw [e, bl]
          exact kind_none.mpr ⟨g.o, g.w, g.t, g.r⟩
        · rw [bad_prefix S p i k (by omega)]
          exact ih.mpr z1 k (by omega)
theorem isN_plan {S : Sky} {ns : List Nat} : isN (S.wrongD ns) = true ↔ PlanP S ns := by
  rw [← plan_iff S _ ns rfl, ← wrong_none]
  constructor
  · intro h
    cases e : S.wrongD ns <;> rw [e] at h <;> first | rfl | cases h
  · intro h
    rw [h]
    rfl
/-! ### all ascending lists -/
def lst : Nat → List (List Nat)
  | 0 => [[]]
  | k + 1 => lst k ++ (lst k).map fun p => p ++ [k]
theorem lst_lt : ∀ (n : Nat) (p : List Nat), p ∈ lst n → (∀ i ∈ p, i < n) ∧ p.length ≤ n
  | 0, p, h => by
    rw [List.mem_singleton.mp h]
    exact ⟨fun i hi => (by cases hi), Nat.le_refl _⟩
  | n + 1, p, h => by
    rcases List.mem_append.mp h with h | h
    · obtain ⟨a, b⟩ := lst_lt n p h
      exact ⟨fun i hi => by have := a i hi; omega, by omega⟩
    · obtain ⟨q, hq, rfl⟩ := List.mem_map.mp h
      obtain ⟨a, b⟩ := lst_lt n q hq
      refine ⟨fun i hi => ?_, by rw [List.length_append, List.length_singleton]; omega⟩
      rcases List.mem_append.mp hi with hi | hi
      · have := a i hi; omega
      · rw [List.mem_singleton.mp hi]; exact Nat.lt_succ_self _
theorem lst_sub : ∀ (n : Nat) {p q : List Nat}, p ∈ lst n → q.Sublist p → q ∈ lst n
  | 0, p, q, h, hs => by
    rw [List.mem_singleton.mp h] at hs
    rw [List.sublist_nil.mp hs]
    exact List.mem_singleton.mpr rfl
  | n + 1, p, q, h, hs => by
    rcases List.mem_append.mp h with h | h
    · exact List.mem_append_left _ (lst_sub n h hs)
    · obtain ⟨p', hp, rfl⟩ := List.mem_map.mp h
      obtain ⟨q1, q2, rfl, h1, h2⟩ := List.sublist_append_iff.mp hs
      have a := lst_sub n hp h1
      cases h2 with
      | cons _ h2 => rw [List.sublist_nil.mp h2, List.append_nil]; exact List.mem_append_left _ a
      | cons_cons _ h2 => rw [List.sublist_nil.mp h2]; exact List.mem_append_right _ (List.mem_map.mpr ⟨q1, a, rfl⟩)
theorem lst_len : ∀ n, (lst n).length = 2 ^ n
  | 0 => rfl
  | n + 1 => by
    show (lst n ++ (lst n).map _).length = _
    rw [List.length_append, List.length_map, lst_len n, Nat.pow_succ]
    omega
theorem cut_out_sub (p : List Nat) (k : Nat) : (p.take k ++ p.drop (k + 1)).Sublist p := by
  have h : (p.drop (k + 1)).Sublist (p.drop k) := by
    rw [← List.drop_drop]
    exact List.drop_sublist _ _
  have := List.Sublist.append (List.Sublist.refl (p.take k)) h
  rwa [List.take_append_drop] at this
/-! ### lists in lists -/
theorem eqv_names : ∀ (a b : List Nat), PyData.eqvAll (a.map fun (n : Nat) => (.int n : D)) (b.map fun (n : Nat) => (.int n : D)) = decide (a = b)
  | [], [] => rfl
  | x :: xs, y :: ys => by
    show (PyData.eqv (.int (x : Int)) (.int (y : Int)) && PyData.eqvAll _ _) = _
    rw [eqv_names xs ys]
    have e : PyData.eqv (.int (x : Int)) (.int (y : Int)) = decide (x = y) := by
      simp only [PyData.eqv]
      rw [Bool.eq_iff_iff, beq_iff_eq, decide_eq_true_iff]
      omega
    rw [e, Bool.eq_iff_iff, Bool.and_eq_true, decide_eq_true_iff, decide_eq_true_iff, decide_eq_true_iff, List.cons.injEq]
  | [], y :: ys => by simp [PyData.eqvAll]
  | x :: xs, [] => by simp [PyData.eqvAll]
def plistD (Ls : List (List Nat)) : D := .list (Ls.map namesD)
theorem nsh (ns : List Nat) : Sh 1 (namesD ns) := Sh.list (n := 0) fun d hd => by
  obtain ⟨i, _, rfl⟩ := List.mem_map.mp hd
  exact Sh.int 0 _
theorem plist_sh (Ls : List (List Nat)) : Sh 2 (plistD Ls) := Sh.list (n := 1) fun d hd => by
  obtain ⟨ns, _, rfl⟩ := List.mem_map.mp hd
  exact nsh ns
theorem any_names (Ls : List (List Nat)) (a : List Nat) : ((Ls.map namesD).any fun z => PyData.eqv z (namesD a)) = decide (a ∈ Ls) := by
  rw [Bool.eq_iff_iff, List.any_map, List.any_eq_true, decide_eq_true_iff]
  have e : ∀ b, PyData.eqv (namesD b) (namesD a) = decide (b = a) := fun b => by
    show PyData.eqv (.list _) (.list _) = _
    rw [← eqv_names b a]
    simp only [PyData.eqv]
  constructor
  · intro ⟨b, hb, h⟩
    have h2 : PyData.eqv (namesD b) (namesD a) = true := h
    rw [e] at h2
    rw [← of_decide_eq_true h2]
    exact hb
  · intro h
    exact ⟨a, h, by show PyData.eqv (namesD a) (namesD a) = true; rw [e]; exact decide_eq_true rfl⟩
theorem in_plist (Ls : List (List Nat)) (a : List Nat) : inD (namesD a) (plistD Ls) = some (.bool (decide (a ∈ Ls))) := by
  unfold inD plistD
  show (if _ then _ else _) = _
  rw [if_pos ⟨(nsh a).shp, (plist_sh Ls).shp⟩, any_names]
theorem nin_plist (Ls : List (List Nat)) (a : List Nat) : notInD (namesD a) (plistD Ls) = some (.bool (!decide (a ∈ Ls))) := by
  unfold notInD plistD
  show (if _ then _ else _) = _
  rw [if_pos ⟨(nsh a).shp, (plist_sh Ls).shp⟩, any_names]
/-! ### levels -/
def lvl (S : Sky) (ns : List Nat) (k : Nat) : Int := runZ S (ns.take (k + 1)) ((S.fin (ns.getD k 0)).toNat + 1)
theorem run_down {S : Sky} (F : Fit S) {p : List Nat} (hp : ∀ i ∈ p, i < S.looks.length) {e f : Nat} (he : ∀ i ∈ p, S.fin i ≤ e) (hf : e ≤ f) : runZ S p (f + 1) ≤ runZ S p (e + 1) := by
  have h := run_on F hp he (f - e)
  rw [show e + 1 + (f - e) = f + 1 by omega] at h
  have a := sum_nonneg F.ears e (f - e)
  have b := run_nonneg F hp (e + 1)
  rw [h]
  unfold mx
  split <;> omega
theorem lvl_cap {S : Sky} (F : Fit S) {p : List Nat} {i : Nat} (hp : PlanP S p) (hl : ∀ j ∈ p, j < S.looks.length) (hi : i < S.looks.length) (g : Good S p i) : runZ S (p ++ [i]) ((S.fin i).toNat + 1) ≤ S.cap := by
  have s0 := F.s0 _ (lk_mem hi)
  have f1 := fin_pos F hi
  have e3 : runZ S (p ++ [i]) ((S.fin i).toNat + 1) = runZ S p ((S.fin i).toNat + 1) + (S.lk i).z := by
    show mx 0 (runZ S (p ++ [i]) (S.fin i).toNat - _) + addAt S (p ++ [i]) ((S.fin i).toNat : Int) = mx 0 (runZ S p (S.fin i).toNat - _) + addAt S p ((S.fin i).toNat : Int) + (S.lk i).z
    rw [run_prefix _ (by omega), add_app, if_pos (by omega)]
    omega
  have ta := trn_all F hp hl i g.t
  have d := run_down F hl (e := (S.lk i).s.toNat) (f := (S.fin i).toNat) (fun j hj => by
    have := ta j hj
    have := tz_nonneg F j i
    omega) (by omega)
  have r := of_decide_eq_false g.r
  unfold storeZ at r
  omega
end Sk
/-! Timely lists and needs. -/
namespace Sk
open PySem PySem.Spec PyProof.Rows L2 SL
def F_with_capacity : FS := (sSeq (sAsg (fV 0) (gTp 5 (gsCons (gNm 2) (gsCons (gNm 3) (gsCons (gNm 4) (gsCons (gNm 5) (gsCons (gNm 6) gsNil)))))))
    (sRet (fTup (aCons (fV 2) (aCons (fV 3) (aCons (fV 4) (aCons (fV 1) (aCons (fV 6) aNil))))))))
def R_with_capacity : List D → Option D := runP 7 F_with_capacity
def F_plenty : FS := (sRet (fCall R_with_capacity (aCons (fV 0) (aCons (f2 addD (fC (.int 1)) (f1 sumD (fL (lLc (iSeq (f2 ixD (fV 0) (fC (.int 0)))) [1] (gNm 1) gYes (f2 ixD (fV 1) (fC (.int 4))))))) aNil))))
def R_plenty : List D → Option D := runP 2 F_plenty
def F_is_timely : FS := (sRet (f2 isD (fCall R_wrong_in (aCons (fCall R_plenty (aCons (fV 0) aNil)) (aCons (fV 1) aNil))) (fC .none)))
def R_is_timely : List D → Option D := runP 2 F_is_timely
def F_need_of : FS := (sSeq (sSet 2 (fC (.int 0)))
    (sSeq (sSet 3 (fC .none))
    (sSeq (sSet 4 (fC (.int 0)))
    (sSeq (sFor (iSeq (fV 1)) (gNm 5) (sSeq (sAsg (f2 ixD (f2 ixD (fV 0) (fC (.int 0))) (fV 5)) (gTp 5 (gsCons (gNm 6) (gsCons (gNm 7) (gsCons (gNm 8) (gsCons (gNm 6) (gsCons (gNm 9) gsNil)))))))
    (sSeq (sSet 2 (f2 max2D (fV 2) (f2 addD (fCall R_stored_at (aCons (fV 0) (aCons (fV 3) (aCons (fV 4) (aCons (fV 7) aNil))))) (fV 9))))
    (sSeq (sSet 4 (f2 addD (fCall R_stored_at (aCons (fV 0) (aCons (fV 3) (aCons (fV 4) (aCons (f2 addD (fV 7) (fV 8)) aNil))))) (fV 9)))
    (sSet 3 (fV 5))))))
    (sRet (fV 2))))))
def R_need_of : List D → Option D := runP 10 F_need_of
def F__law_need : FS := (sSeq (sSet 2 (fC (.int 0)))
    (sSeq (sFor (SL.iRng1 (f1 lenD (fV 1))) (gNm 3) (sSeq (sSet 4 (f2 ixD (f2 ixD (fV 0) (fC (.int 0))) (f2 ixD (fV 1) (fV 3))))
    (sSet 2 (f2 max2D (fV 2) (f2 addD (fCall R__law_store (aCons (fV 0) (aCons (fCut (fV 1) oNone (oSome (fV 3))) (aCons (f2 ixD (fV 4) (fC (.int 1))) aNil)))) (f2 ixD (fV 4) (fC (.int 4))))))))
    (sRet (fV 2))))
def R__law_need : List D → Option D := runP 5 F__law_need
def Sky.withC (S : Sky) (c : Int) : Sky := ⟨S.looks, S.worths, S.ears, c, S.turn⟩
theorem withC_fit {S : Sky} (F : Fit S) (c : Int) : Fit (S.withC c) := ⟨F.t0, F.t1, F.ears, F.s0, F.s1, F.l0, F.z0⟩
theorem withC_run (S : Sky) (c : Int) (p : List Nat) : ∀ k, runZ (S.withC c) p k = runZ S p k
  | 0 => rfl
  | k + 1 => by
    show mx 0 (runZ (S.withC c) p k - tickLoss S.ears ((k : Int) - 1)) + addAt S p k = _
    rw [withC_run S c p k]
    rfl
/-- the three things that do not ask for room -/
def Sky.tim (S : Sky) (ns : List Nat) (k : Nat) : Bool := !(S.ord (ns.take k) (ns.getD k 0)) && (!(S.wsh (ns.take k) (ns.getD k 0)) && !(S.trn (ns.take k) (ns.getD k 0)))
def Sky.timely (S : Sky) (ns : List Nat) : Bool := decide (∀ k, k < ns.length → S.tim ns k = true)
/-! sums -/
def sumTo (f : Nat → Int) : Nat → Int
  | 0 => 0
  | n + 1 => sumTo f n + f n
theorem sumTo_mono {f : Nat → Int} {m : Nat} (h : ∀ i, i < m → 0 ≤ f i) : ∀ n, n ≤ m → ∀ k, k ≤ n → sumTo f k ≤ sumTo f n
  | 0, _, k, hk => by rw [Nat.le_zero.mp hk]; exact Int.le_refl _
  | n + 1, hn, k, hk => by
    by_cases e : k = n + 1
    · rw [e]; exact Int.le_refl _
    · have a := sumTo_mono h n (by omega) k (by omega)
      have b := h n (by omega)
      show sumTo f k ≤ sumTo f n + f n
      omega
theorem asc_sum {f : Nat → Int} {m : Nat} (h : ∀ i, i < m → 0 ≤ f i) : ∀ (len : Nat) (ns : List Nat), ns.length = len → ns.Pairwise (· < ·) → ∀ n, n ≤ m → (∀ i ∈ ns, i < n) → (ns.map f).sum ≤ sumTo f n
  | 0, ns, hl, _, n, hn, _ => by
    rw [List.length_eq_zero_iff.mp hl]
    exact sumTo_mono h n hn 0 (Nat.zero_le _)
  | len + 1, ns, hl, hp, n, hn, hi => by
    rcases List.eq_nil_or_concat ns with rfl | ⟨p, i, rfl⟩
    · cases hl
    · rw [List.concat_eq_append] at hl hp hi ⊢
      rw [List.length_append, List.length_singleton] at hl
      obtain ⟨h1, _, h3⟩ := List.pairwise_append.mp hp
      have i1 : i < n := hi i (List.mem_append_right _ (List.mem_singleton.mpr rfl))
      have ih := asc_sum h len p (by omega) h1 i (by omega) fun j hj => h3 j hj i (List.mem_singleton.mpr rfl)
      have mo := sumTo_mono h n hn (i + 1) (by omega)
      rw [List.map_append, List.sum_append]
      show _ + (f i + 0) ≤ _
      have e : sumTo f (i + 1) = sumTo f i + f i := rfl
      omega
def accZ (S : Sky) (p : List Nat) (k : Nat) : Int := (p.map fun i => if S.fin i < (k : Int) then (S.lk i).z else 0).sum
theorem acc_succ (S : Sky) : ∀ (p : List Nat) (k : Nat), accZ S p (k + 1) = accZ S p k + addAt S p k
  | [], _ => rfl
  | i :: p, k => by
    have ih := acc_succ S p k
    unfold accZ at ih ⊢
    rw [List.map_cons, List.map_cons, List.sum_cons, List.sum_cons, ih, addAt_cons]
    by_cases h : S.fin i < (k : Int)
    · rw [if_pos h, if_pos (by omega), if_neg (by omega)]; omega
    · by_cases h2 : S.fin i = (k : Int)
      · rw [if_neg h, if_pos (by omega), if_pos h2]; omega
      · rw [if_neg h, if_neg (by omega), if_neg h2]; omega
theorem run_acc {S : Sky} (F : Fit S) {p : List Nat} (hp : ∀ i ∈ p, i < S.looks.length) : ∀ k, runZ S p k ≤ accZ S p k
  | 0 => by
    have : accZ S p 0 = 0 := by
      unfold accZ
      induction p with
      | nil => rfl
      | cons i p ih =>
        rw [List.map_cons, List.sum_cons, ih fun j hj => hp j (List.mem_cons_of_mem _ hj), if_neg]
        · rfl
        · have := (fin_pos F (hp i (List.mem_cons_self ..))).1
          omega
    rw [this]
    exact Int.le_refl _
  | k + 1 => by
    have a := run_acc F hp k
    have b := run_nonneg F hp k
    have c := tick_nonneg F.ears ((k : Int) - 1)
    rw [acc_succ]
    show mx 0 (runZ S p k - tickLoss S.ears ((k : Int) - 1)) + addAt S p k ≤ _
    have : mx 0 (runZ S p k - tickLoss S.ears ((k : Int) - 1)) ≤ runZ S p k := by
      unfold mx
      split <;> omega
    omega
theorem acc_sum {S : Sky} (F : Fit S) : ∀ {p : List Nat}, (∀ i ∈ p, i < S.looks.length) → ∀ k, accZ S p k ≤ (p.map fun i => (S.lk i).z).sum
  | [], _, _ => Int.le_refl _
  | i :: p, h, k => by
    have ih := acc_sum F (fun j hj => h j (List.mem_cons_of_mem _ hj)) k
    have hz := F.z0 _ (lk_mem (h i (List.mem_cons_self ..)))
    unfold accZ at ih ⊢
    rw [List.map_cons, List.map_cons, List.sum_cons, List.sum_cons]
    split <;> omega
def sizes (S : Sky) : Int := sumTo (fun i => (S.lk i).z) S.looks.length
theorem tim_asc {S : Sky} : ∀ (len : Nat) (ns : List Nat), ns.length = len → (∀ k, k < ns.length → S.ord (ns.take k) (ns.getD k 0) = false) → ns.Pairwise (· < ·)
  | 0, ns, hl, _ => by rw [List.length_eq_zero_iff.mp hl]; exact List.Pairwise.nil
  | len + 1, ns, hl, h => by
    rcases List.eq_nil_or_concat ns with rfl | ⟨p, i, rfl⟩
    · cases hl
    · rw [List.concat_eq_append] at hl h ⊢
      rw [List.length_append, List.length_singleton] at hl
      have hp := tim_asc (S := S) len p (by omega) fun k hk => by
        have := h k (by rw [List.length_append]; omega)
        rwa [List.take_append_of_le_length (by omega), List.getD_eq_getElem?_getD, List.getElem?_append_left hk, ← List.getD_eq_getElem?_getD] at this
      have hi := h p.length (by rw [List.length_append, List.length_singleton]; omega)
      rw [List.take_left, List.getD_eq_getElem?_getD, List.getElem?_append_right (Nat.le_refl _), Nat.sub_self] at hi
      refine List.pairwise_append.mpr ⟨hp, List.pairwise_singleton _ _, fun a ha b hb => ?_⟩
      rw [List.mem_singleton.mp hb]
      have hi2 : S.ord p i = false := hi
      unfold Sky.ord at hi2
      cases e : p.getLast? with
      | none =>
        rw [List.getLast?_eq_none_iff.mp e] at ha
        cases ha
      | some j =>
        rw [e] at hi2
        have hj := of_decide_eq_false hi2
        rcases List.eq_nil_or_concat p with rfl | ⟨q, x, rfl⟩
        · cases ha
        · rw [List.concat_eq_append] at e ha hp
          rw [last_snoc] at e
          cases e
          obtain ⟨_, _, h3⟩ := List.pairwise_append.mp hp
          rcases List.mem_append.mp ha with ha | ha
          · have := h3 a ha j (List.mem_singleton.mpr rfl)
            omega
          · rw [List.mem_singleton.mp ha]; omega
theorem room_free {S : Sky} (F : Fit S) {ns : List Nat} (hn : ∀ i ∈ ns, i < S.looks.length) (h : ∀ k, k < ns.length → S.ord (ns.take k) (ns.getD k 0) = false) (k : Nat) (hk : k < ns.length) : storeZ S (ns.take k) (S.lk (ns.getD k 0)).s + (S.lk (ns.getD k 0)).z ≤ sizes S := by
  have hp : ∀ i ∈ ns.take k, i < S.looks.length := fun i hi => hn i (List.mem_of_mem_take hi)
  have a := run_acc F hp ((S.lk (ns.getD k 0)).s.toNat + 1)
  have b := acc_sum F hp ((S.lk (ns.getD k 0)).s.toNat + 1)
  have asc := tim_asc _ ns rfl h
  have asc2 := asc.sublist (List.take_sublist (k + 1) ns)
  have c := asc_sum (f := fun i => (S.lk i).z) (m := S.looks.length) (fun i hi => F.z0 _ (lk_mem hi)) _ (ns.take (k + 1)) rfl asc2 S.looks.length (Nat.le_refl _) fun i hi => hn i (List.mem_of_mem_take hi)
  rw [take_get ns k hk, List.map_append, List.sum_append] at c
  have d : ([ns.getD k 0].map fun i => (S.lk i).z).sum = (S.lk (ns.getD k 0)).z := by
    show (S.lk (ns.getD k 0)).z + 0 = _
    omega
  rw [d] at c
  unfold storeZ sizes
  omega
theorem tim_iff {S : Sky} {ns : List Nat} {k : Nat} : S.tim ns k = true ↔ S.ord (ns.take k) (ns.getD k 0) = false ∧ S.wsh (ns.take k) (ns.getD k 0) = false ∧ S.trn (ns.take k) (ns.getD k 0) = false := by
  unfold Sky.tim
  cases S.ord (ns.take k) (ns.getD k 0) <;> cases S.wsh (ns.take k) (ns.getD k 0) <;> cases S.trn (ns.take k) (ns.getD k 0) <;> simp
theorem timely_wrong {S : Sky} (F : Fit S) (c : Int) (hc : sizes S ≤ c) (ns : List Nat) (hn : ∀ i ∈ ns, i < S.looks.length) : isN ((S.withC c).wrongD ns) = S.timely ns := by
  rw [Bool.eq_iff_iff, isN_plan, ← plan_iff _ _ ns rfl]
  unfold Sky.timely
  rw [decide_eq_true_iff]
  constructor
  · intro h k hk
    obtain ⟨a, b, d, _⟩ := kind_none.mp (h k hk)
    exact tim_iff.mpr ⟨a, b, d⟩
  · intro h k hk
    have ho : ∀ k, k < ns.length → S.ord (ns.take k) (ns.getD k 0) = false := fun k hk => (tim_iff.mp (h k hk)).1
    obtain ⟨a, b, d⟩ := tim_iff.mp (h k hk)
    refine kind_none.mpr ⟨a, b, d, ?_⟩
    have rf := room_free F hn ho k hk
    unfold storeZ at rf
    refine decide_eq_false ?_
    show ¬ c < runZ (S.withC c) (ns.take k) ((S.lk (ns.getD k 0)).s.toNat + 1) + (S.lk (ns.getD k 0)).z
    rw [withC_run]
    omega
theorem with_ok (S : Sky) (c : Int) : R_with_capacity [skyD S, .int c] = some (skyD (S.withC c)) := by
  unfold R_with_capacity runP F_with_capacity
  rw [sSeq_nx (r1 := [some (.val (skyD S)), some (.val (.int c)), some (.val (.list (S.looks.map lD))), some (.val (.list (S.worths.map .int))), some (.val (.list (S.ears.map eD))), some (.val (.int S.cap)), some (.val (.int S.turn))]) rfl]
  rfl
theorem sizes_sum (S : Sky) : (S.looks.map fun x => x.z).sum = sizes S := by
  have h : ∀ (n : Nat), n ≤ S.looks.length → ((S.looks.take n).map fun x => x.z).sum = sumTo (fun i => (S.lk i).z) n := fun n => by
    induction n with
    | zero => intro _; rfl
    | succ n ih =>
      intro hn
      have e : S.looks.take (n + 1) = S.looks.take n ++ [S.lk n] := by
        rw [List.take_succ, lk_get (by omega)]
        rfl
      rw [e, List.map_append, List.sum_append, ih (by omega)]
      show _ + ((S.lk n).z + 0) = sumTo _ n + (S.lk n).z
      omega
  have := h S.looks.length (Nat.le_refl _)
  rwa [List.take_length] at this
theorem plenty_ev (Wc : List D → Option D) (SD : D) (F1 : FA) (zs : List D) (z : Int) (d : D) (l1 : F1 [some (.val SD), none] = some (zs, [some (.val SD), none])) (sm : sumD (.list zs) = some (.int z)) (h : Wc [SD, .int (1 + z)] = some d) :
    endP (sRet (fCall Wc (aCons (fV 0) (aCons (f2 addD (fC (.int 1)) (f1 sumD (fL F1))) aNil))) (startE 2 [SD])) = some d := by
  unfold startE
  simp [l1, sm, h]
theorem plenty_ok (S : Sky) (hl : S.looks.length ≤ 1000) : R_plenty [skyD S] = some (skyD (S.withC (1 + sizes S))) := by
  have lc : lLc (iSeq (f2 ixD (fV 0) (fC (.int 0)))) [1] (gNm 1) gYes (f2 ixD (fV 1) (fC (.int 4))) [some (.val (skyD S)), none] = some ((S.looks.map fun x => x.z).map .int, [some (.val (skyD S)), none]) := by
    rw [lLc_eq (ds := S.looks.map lD) (r0 := [some (.val (skyD S)), none]) (zs := (S.looks.map fun x => x.z).map .int) (w := [some (.val (skyD S)), none]) rfl ?b ?c]
    · rfl
    case b =>
      rw [List.map_map]
      exact lcF_all lD _ rfl fun x _ => ⟨_, [some (.val (skyD S)), some (.val (lD x))], rfl, rfl, rfl⟩
    case c => exact small_len (by simp; omega)
  have sm := sum_ints (S.looks.map fun x => x.z)
  rw [sizes_sum] at sm
  exact plenty_ev R_with_capacity (skyD S) _ _ _ _ lc sm (with_ok S _)
theorem timely_ev (W Pl : List D → Option D) (SD NS P d : D) (hp : Pl [SD] = some P) (h : W [P, NS] = some d) (hd : d = .none ∨ ∃ w k, d = .tuple [.str w, .int k]) : endP (sRet (f2 isD (fCall W (aCons (fCall Pl (aCons (fV 0) aNil)) (aCons (fV 1) aNil))) (fC .none)) (startE 2 [SD, NS])) = some (.bool (isN d)) := by
  rcases hd with rfl | ⟨w, k, rfl⟩
  · simp [startE, hp, h, isN]
  · simp [startE, hp, h, isN]
theorem timely_ok {S : Sky} (F : Fit S) (ns : List Nat) (hn : ∀ i ∈ ns, i < S.looks.length) (hl : ns.length ≤ 1000) (hk : S.looks.length ≤ 1000) : R_is_timely [skyD S, namesD ns] = some (.bool (S.timely ns)) := by
  have h := timely_ev R_wrong_in R_plenty (skyD S) (namesD ns) _ _ (plenty_ok S hk) (wrong_ok (withC_fit F _) ns hn hl) (by
    rcases wrong_form (S.withC (1 + sizes S)) ns with h | ⟨w, k, h, _⟩
    · exact .inl h
    · exact .inr ⟨w, k, h⟩)
  rw [timely_wrong F _ (by omega) ns hn] at h
  exact h
/-! needs -/
def needZ (S : Sky) (ns : List Nat) : Nat → Int
  | 0 => 0
  | k + 1 => mx (needZ S ns k) (storeZ S (ns.take k) (S.lk (ns.getD k 0)).s + (S.lk (ns.getD k 0)).z)
def needBody (St : List D → Option D) : FS := (sSeq (sAsg (f2 ixD (f2 ixD (fV 0) (fC (.int 0))) (fV 5)) (gTp 5 (gsCons (gNm 6) (gsCons (gNm 7) (gsCons (gNm 8) (gsCons (gNm 6) (gsCons (gNm 9) gsNil)))))))
    (sSeq (sSet 2 (f2 max2D (fV 2) (f2 addD (fCall St (aCons (fV 0) (aCons (fV 3) (aCons (fV 4) (aCons (fV 7) aNil))))) (fV 9))))
    (sSeq (sSet 4 (f2 addD (fCall St (aCons (fV 0) (aCons (fV 3) (aCons (fV 4) (aCons (f2 addD (fV 7) (fV 8)) aNil))))) (fV 9)))
    (sSet 3 (fV 5)))))
theorem need_ev (St : List D → Option D) (SD NS LD L : D) (nd a i w s l an z u v nd2 : Int) (c6 c7 c8 c9 : Option Cell) (h0 : ixD SD (.int 0) = some LD) (h1 : ixD LD (.int i) = some (.tuple [.int w, .int s, .int l, .int an, .int z])) (hu : St [SD, L, .int a, .int s] = some (.int u)) (hv : St [SD, L, .int a, .int (s + l)] = some (.int v)) (hm : max2D (.int nd) (.int (u + z)) = some (.int nd2)) :
    needBody St [some (.val SD), some (.val NS), some (.val (.int nd)), some (.val L), some (.val (.int a)), some (.val (.int i)), c6, c7, c8, c9] =
      some (.nx [some (.val SD), some (.val NS), some (.val (.int nd2)), some (.val (.int i)), some (.val (.int (v + z))), some (.val (.int i)), some (.val (.int an)), some (.val (.int s)), some (.val (.int l)), some (.val (.int z))]) := by
  unfold needBody
  rw [sSeq_nx (r1 := [some (.val SD), some (.val NS), some (.val (.int nd)), some (.val L), some (.val (.int a)), some (.val (.int i)), some (.val (.int an)), some (.val (.int s)), some (.val (.int l)), some (.val (.int z))]) (by
    unfold sAsg
    simp [h0, h1, gTp, gsCons, gsNil, gNm]),
    sSeq_nx (r1 := [some (.val SD), some (.val NS), some (.val (.int nd2)), some (.val L), some (.val (.int a)), some (.val (.int i)), some (.val (.int an)), some (.val (.int s)), some (.val (.int l)), some (.val (.int z))]) (by simp [-max2D_i, hu, hm]),
    sSeq_nx (r1 := [some (.val SD), some (.val NS), some (.val (.int nd2)), some (.val L), some (.val (.int (v + z))), some (.val (.int i)), some (.val (.int an)), some (.val (.int s)), some (.val (.int l)), some (.val (.int z))]) (by simp [hv])]
  simp
theorem need_ok {S : Sky} (F : Fit S) (ns : List Nat) (hn : ∀ i ∈ ns, i < S.looks.length) (ht : ∀ k, k < ns.length → S.trn (ns.take k) (ns.getD k 0) = false) : R_need_of [skyD S, namesD ns] = some (.int (needZ S ns ns.length)) := by
  obtain ⟨r', h1, last, a, c5, c6, c7, c8, c9, rfl, _⟩ := loop_all (A := gNm 5) (body := needBody R_stored_at) (items := ns.map fun (n : Nat) => (.int n : D)) (r := [some (.val (skyD S)), some (.val (namesD ns)), some (.val (.int 0)), some (.val .none), some (.val (.int 0)), none, none, none, none, none])
    (fun k r => ∃ (last : Option Nat) (a : Int) (c5 c6 c7 c8 c9 : Option Cell), r = [some (.val (skyD S)), some (.val (namesD ns)), some (.val (.int (needZ S ns k))), some (.val (lastD last)), some (.val (.int a)), c5, c6, c7, c8, c9] ∧ Vp S (ns.take k) last a)
    ⟨none, 0, none, none, none, none, none, rfl, vp_zero S⟩ fun k d r e ⟨last, a, c5, c6, c7, c8, c9, er, V⟩ => by
      subst er
      rw [List.getElem?_map] at e
      obtain ⟨i, e1, rfl⟩ := Option.map_eq_some_iff.mp e
      have hk : k < ns.length := (List.getElem?_eq_some_iff.mp e1).1
      have ei : ns.getD k 0 = i := by rw [List.getD_eq_getElem?_getD, e1]; rfl
      have hi : i < S.looks.length := hn i (List.mem_of_getElem? e1)
      have t := ht k hk
      rw [ei] at t
      have hg := take_get ns k hk
      rw [ei] at hg
      have s0 := F.s0 _ (lk_mem hi)
      have f1 := fin_pos F hi
      have hs : ∀ j, last = some j → S.fin j ≤ (S.lk i).s := fun j hj => by
        unfold Sky.trn at t
        rw [← V.1, hj] at t
        have := of_decide_eq_false t
        have := tz_nonneg F j i
        omega
      have q1 := stored_run F V s0 hs
      have q2 := stored_run F V (show 0 ≤ S.fin i by omega) fun j hj => by have := hs j hj; omega
      have hlast : ∀ j, last = some j → j < S.looks.length := fun j hj => V.2.1 j (List.mem_of_getLast? (V.1.symm.trans hj))
      have u := stored_ok F last hlast a (S.lk i).s
      have v := stored_ok F last hlast a (S.fin i)
      rw [q1] at u
      rw [q2] at v
      have V2 := vp_next F V hi t
      have e3 : runZ S (ns.take k ++ [i]) ((S.fin i).toNat + 1) = runZ S (ns.take k) ((S.fin i).toNat + 1) + (S.lk i).z := by
        show mx 0 (runZ S (ns.take k ++ [i]) (S.fin i).toNat - _) + addAt S (ns.take k ++ [i]) ((S.fin i).toNat : Int) = mx 0 (runZ S (ns.take k) (S.fin i).toNat - _) + addAt S (ns.take k) ((S.fin i).toNat : Int) + (S.lk i).z
        rw [run_prefix _ (by omega), add_app, if_pos (by omega)]
        omega
      rw [e3, ← hg] at V2
      have en : needZ S ns (k + 1) = mx (needZ S ns k) (runZ S (ns.take k) ((S.lk i).s.toNat + 1) + (S.lk i).z) := by
        show mx (needZ S ns k) (storeZ S (ns.take k) (S.lk (ns.getD k 0)).s + (S.lk (ns.getD k 0)).z) = _
        rw [ei]
        rfl
      have ev := need_ev R_stored_at (skyD S) (namesD ns) _ (lastD last) (needZ S ns k) a i (S.lk i).w (S.lk i).s (S.lk i).l (S.lk i).a (S.lk i).z _ _ _ c6 c7 c8 c9 (sky_i0 S) (look_ix (lk_get hi)) u v rfl
      have en2 : needZ S ns (k + 1) = if runZ S (ns.take k) ((S.lk i).s.toNat + 1) + (S.lk i).z > needZ S ns k then runZ S (ns.take k) ((S.lk i).s.toNat + 1) + (S.lk i).z else needZ S ns k := en
      rw [← en2] at ev
      exact ⟨_, _, rfl, .inl ev, some i, _, some (.val (.int i)), some (.val (.int (S.lk i).a)), some (.val (.int (S.lk i).s)), some (.val (.int (S.lk i).l)), some (.val (.int (S.lk i).z)), rfl, V2⟩
  rw [List.length_map] at h1
  unfold R_need_of runP F_need_of
  rw [sSeq_nx (r1 := [some (.val (skyD S)), some (.val (namesD ns)), some (.val (.int 0)), none, none, none, none, none, none, none]) rfl,
    sSeq_nx (r1 := [some (.val (skyD S)), some (.val (namesD ns)), some (.val (.int 0)), some (.val .none), none, none, none, none, none, none]) rfl,
    sSeq_nx (r1 := [some (.val (skyD S)), some (.val (namesD ns)), some (.val (.int 0)), some (.val .none), some (.val (.int 0)), none, none, none, none, none]) rfl,
    sSeq_nx (by rw [sFor_eq (ds := ns.map fun (n : Nat) => (.int n : D)) (r1 := [some (.val (skyD S)), some (.val (namesD ns)), some (.val (.int 0)), some (.val .none), some (.val (.int 0)), none, none, none, none, none]) rfl]; exact h1)]
  rfl
end Sk
/-! Long skies. -/
namespace Sk
open PySem PySem.Spec PyProof.Rows L2 SL
def F__law_long_sky : FS := (sSeq (sSet 1 (f2 addD (fC (.int 1)) (f2 modD (f1 intD (f2 ixD (fV 0) (fC (.int 0)))) (fC (.int 6)))))
    (sSeq (sSet 2 (fL (lLc (SL.iRng1 (fV 1)) [3] (gNm 3) gYes (f2 modD (f1 intD (f2 ixD (fV 0) (f2 addD (fC (.int 1)) (fV 3)))) (fC (.int 100))))))
    (sSeq (sSetO 4 (lDisp aNil))
    (sSeq (sSet 5 (fC (.int 0)))
    (sSeq (sFor (SL.iRng1 (f2 modD (f1 intD (f2 ixD (fV 0) (fC (.int 9)))) (fC (.int 5)))) (gNm 3) (sSeq (sSet 6 (f2 addD (fV 5) (f2 modD (f1 intD (f2 ixD (fV 0) (f2 addD (fC (.int 70)) (f2 mulD (fC (.int 3)) (fV 3))))) (fC (.int 12)))))
    (sSeq (sSet 5 (f2 addD (f2 addD (fV 6) (fC (.int 1))) (f2 modD (f1 intD (f2 ixD (fV 0) (f2 addD (fC (.int 71)) (f2 mulD (fC (.int 3)) (fV 3))))) (fC (.int 20)))))
    (sApp 4 (fTup (aCons (fV 6) (aCons (fV 5) (aCons (f2 ixD (fL (lDisp (aCons (fC (.int 1)) (aCons (fC (.int 1)) (aCons (fC (.int 2)) (aCons (fC (.int 7)) (aCons (fC (.int 30)) aNil))))))) (f2 modD (f1 intD (f2 ixD (fV 0) (f2 addD (fC (.int 72)) (f2 mulD (fC (.int 3)) (fV 3))))) (fC (.int 5)))) aNil))))))))
    (sSeq (sSetO 7 (lDisp aNil))
    (sSeq (sSet 8 (f2 modD (f1 intD (f2 ixD (fV 0) (fC (.int 10)))) (fC (.int 3))))
    (sSeq (sFor (SL.iRng1 (f2 modD (f1 intD (f2 ixD (fV 0) (fC (.int 16)))) (fC (.int 17)))) (gNm 3) (sSeq (sSet 8 (f2 min2D (fC (.int 180)) (f2 addD (fV 8) (f2 ixD (fL (lDisp (aCons (fC (.int 0)) (aCons (fC (.int 1)) (aCons (fC (.int 2)) (aCons (fC (.int 3)) (aCons (fC (.int 5)) (aCons (fC (.int 8)) aNil)))))))) (f2 modD (f1 intD (f2 ixD (fV 0) (f2 addD (fC (.int 90)) (f2 mulD (fC (.int 5)) (fV 3))))) (fC (.int 6)))))))
    (sApp 7 (fTup (aCons (f2 modD (f1 intD (f2 ixD (fV 0) (f2 addD (fC (.int 91)) (f2 mulD (fC (.int 5)) (fV 3))))) (fV 1)) (aCons (fV 8) (aCons (f2 ixD (fL (lDisp (aCons (fC (.int 1)) (aCons (fC (.int 2)) (aCons (fC (.int 3)) (aCons (fC (.int 7)) (aCons (fC (.int 20)) aNil))))))) (f2 modD (f1 intD (f2 ixD (fV 0) (f2 addD (fC (.int 92)) (f2 mulD (fC (.int 5)) (fV 3))))) (fC (.int 5)))) (aCons (f2 subD (f2 modD (f1 intD (f2 ixD (fV 0) (f2 addD (fC (.int 93)) (f2 mulD (fC (.int 5)) (fV 3))))) (fC (.int 181))) (fC (.int 90))) (aCons (f2 ixD (fL (lDisp (aCons (fC (.int 1)) (aCons (fC (.int 2)) (aCons (fC (.int 3)) (aCons (fC (.int 5)) (aCons (fC (.int 9)) (aCons (fC (.int 30)) aNil)))))))) (f2 modD (f1 intD (f2 ixD (fV 0) (f2 addD (fC (.int 94)) (f2 mulD (fC (.int 5)) (fV 3))))) (fC (.int 6)))) aNil)))))))))
    (sRet (fTup (aCons (fV 7) (aCons (fV 2) (aCons (fV 4) (aCons (f2 ixD (fL (lDisp (aCons (fC (.int 1)) (aCons (fC (.int 4)) (aCons (fC (.int 9)) (aCons (fC (.int 30)) (aCons (fC (.int 30)) (aCons (fC (.int 12)) aNil)))))))) (f2 modD (f1 intD (f2 ixD (fV 0) (fC (.int 7)))) (fC (.int 6)))) (aCons (f2 ixD (fL (lDisp (aCons (fC (.int 1)) (aCons (fC (.int 90)) (aCons (fC (.int 30)) (aCons (fC (.int 9)) (aCons (fC (.int 45)) aNil))))))) (f2 modD (f1 intD (f2 ixD (fV 0) (fC (.int 8)))) (fC (.int 5)))) aNil)))))))))))))))
def R__law_long_sky : List D → Option D := runP 9 F__law_long_sky
theorem pick5 (a b c d e r : Int) (h0 : 0 ≤ r) (h1 : r < 5) : ∃ x, ixD (.list [.int a, .int b, .int c, .int d, .int e]) (.int r) = some (.int x) ∧ (x = a ∨ x = b ∨ x = c ∨ x = d ∨ x = e) := by
  have : r = 0 ∨ r = 1 ∨ r = 2 ∨ r = 3 ∨ r = 4 := by omega
  rcases this with rfl | rfl | rfl | rfl | rfl
  · exact ⟨a, rfl, .inl rfl⟩
  · exact ⟨b, rfl, .inr (.inl rfl)⟩
  · exact ⟨c, rfl, .inr (.inr (.inl rfl))⟩
  · exact ⟨d, rfl, .inr (.inr (.inr (.inl rfl)))⟩
  · exact ⟨e, rfl, .inr (.inr (.inr (.inr rfl)))⟩
theorem pick6 (a b c d e f r : Int) (h0 : 0 ≤ r) (h1 : r < 6) : ∃ x, ixD (.list [.int a, .int b, .int c, .int d, .int e, .int f]) (.int r) = some (.int x) ∧ (x = a ∨ x = b ∨ x = c ∨ x = d ∨ x = e ∨ x = f) := by
  have : r = 0 ∨ r = 1 ∨ r = 2 ∨ r = 3 ∨ r = 4 ∨ r = 5 := by omega
  rcases this with rfl | rfl | rfl | rfl | rfl | rfl
  · exact ⟨a, rfl, .inl rfl⟩
  · exact ⟨b, rfl, .inr (.inl rfl)⟩
  · exact ⟨c, rfl, .inr (.inr (.inl rfl))⟩
  · exact ⟨d, rfl, .inr (.inr (.inr (.inl rfl)))⟩
  · exact ⟨e, rfl, .inr (.inr (.inr (.inr (.inl rfl))))⟩
  · exact ⟨f, rfl, .inr (.inr (.inr (.inr (.inr rfl))))⟩
def longEar : FS := (sSeq (sSet 6 (f2 addD (fV 5) (f2 modD (f1 intD (f2 ixD (fV 0) (f2 addD (fC (.int 70)) (f2 mulD (fC (.int 3)) (fV 3))))) (fC (.int 12)))))
    (sSeq (sSet 5 (f2 addD (f2 addD (fV 6) (fC (.int 1))) (f2 modD (f1 intD (f2 ixD (fV 0) (f2 addD (fC (.int 71)) (f2 mulD (fC (.int 3)) (fV 3))))) (fC (.int 20)))))
    (sApp 4 (fTup (aCons (fV 6) (aCons (fV 5) (aCons (f2 ixD (fL (lDisp (aCons (fC (.int 1)) (aCons (fC (.int 1)) (aCons (fC (.int 2)) (aCons (fC (.int 7)) (aCons (fC (.int 30)) aNil))))))) (f2 modD (f1 intD (f2 ixD (fV 0) (f2 addD (fC (.int 72)) (f2 mulD (fC (.int 3)) (fV 3))))) (fC (.int 5)))) aNil)))))))
def longLook : FS := (sSeq (sSet 8 (f2 min2D (fC (.int 180)) (f2 addD (fV 8) (f2 ixD (fL (lDisp (aCons (fC (.int 0)) (aCons (fC (.int 1)) (aCons (fC (.int 2)) (aCons (fC (.int 3)) (aCons (fC (.int 5)) (aCons (fC (.int 8)) aNil)))))))) (f2 modD (f1 intD (f2 ixD (fV 0) (f2 addD (fC (.int 90)) (f2 mulD (fC (.int 5)) (fV 3))))) (fC (.int 6)))))))
    (sApp 7 (fTup (aCons (f2 modD (f1 intD (f2 ixD (fV 0) (f2 addD (fC (.int 91)) (f2 mulD (fC (.int 5)) (fV 3))))) (fV 1)) (aCons (fV 8) (aCons (f2 ixD (fL (lDisp (aCons (fC (.int 1)) (aCons (fC (.int 2)) (aCons (fC (.int 3)) (aCons (fC (.int 7)) (aCons (fC (.int 20)) aNil))))))) (f2 modD (f1 intD (f2 ixD (fV 0) (f2 addD (fC (.int 92)) (f2 mulD (fC (.int 5)) (fV 3))))) (fC (.int 5)))) (aCons (f2 subD (f2 modD (f1 intD (f2 ixD (fV 0) (f2 addD (fC (.int 93)) (f2 mulD (fC (.int 5)) (fV 3))))) (fC (.int 181))) (fC (.int 90))) (aCons (f2 ixD (fL (lDisp (aCons (fC (.int 1)) (aCons (fC (.int 2)) (aCons (fC (.int 3)) (aCons (fC (.int 5)) (aCons (fC (.int 9)) (aCons (fC (.int 30)) aNil)))))))) (f2 modD (f1 intD (f2 ixD (fV 0) (f2 addD (fC (.int 94)) (f2 mulD (fC (.int 5)) (fV 3))))) (fC (.int 6)))) aNil))))))))
theorem le_turn (dr : D) (c1 c2 c6 c7 c8 : Option Cell) (es : List Ear) (k : Nat) (u x y z q : Int) (hl : es.length < sizeLine)
    (h1 : ixD dr (.int (70 + 3 * (k : Int))) = some (.int x)) (h2 : ixD dr (.int (71 + 3 * (k : Int))) = some (.int y)) (h3 : ixD dr (.int (72 + 3 * (k : Int))) = some (.int z)) (hq : ixD (.list [.int 1, .int 1, .int 2, .int 7, .int 30]) (.int (z % 5)) = some (.int q)) :
    longEar [some (.val dr), c1, c2, some (.val (.int k)), some (.own (es.map eD)), some (.val (.int u)), c6, c7, c8] =
      some (.nx [some (.val dr), c1, c2, some (.val (.int k)), some (.own ((es ++ [Ear.mk (u + x % 12) (u + x % 12 + 1 + y % 20) q]).map eD)), some (.val (.int (u + x % 12 + 1 + y % 20))), some (.val (.int (u + x % 12))), c7, c8]) := by
  have m : mulD (.int 3) (.int (k : Int)) = some (.int (3 * (k : Int))) := mulD_l rfl
  unfold longEar
  simp [m, h1, h2, h3, hq, modD_p, hl, eD]
theorem ll_turn (dr : D) (n : Int) (hn : 0 < n) (c2 c4 c5 c6 : Option Cell) (ls : List Look) (k : Nat) (u x0 x1 x2 x3 x4 q0 q2 q4 u2 : Int) (hl : ls.length < sizeLine)
    (h0 : ixD dr (.int (90 + 5 * (k : Int))) = some (.int x0)) (h1 : ixD dr (.int (91 + 5 * (k : Int))) = some (.int x1)) (h2 : ixD dr (.int (92 + 5 * (k : Int))) = some (.int x2)) (h3 : ixD dr (.int (93 + 5 * (k : Int))) = some (.int x3)) (h4 : ixD dr (.int (94 + 5 * (k : Int))) = some (.int x4))
    (p0 : ixD (.list [.int 0, .int 1, .int 2, .int 3, .int 5, .int 8]) (.int (x0 % 6)) = some (.int q0)) (p2 : ixD (.list [.int 1, .int 2, .int 3, .int 7, .int 20]) (.int (x2 % 5)) = some (.int q2)) (p4 : ixD (.list [.int 1, .int 2, .int 3, .int 5, .int 9, .int 30]) (.int (x4 % 6)) = some (.int q4)) (hm : min2D (.int 180) (.int (u + q0)) = some (.int u2)) :
    longLook [some (.val dr), some (.val (.int n)), c2, some (.val (.int k)), c4, c5, c6, some (.own (ls.map lD)), some (.val (.int u))] =
      some (.nx [some (.val dr), some (.val (.int n)), c2, some (.val (.int k)), c4, c5, c6, some (.own ((ls ++ [Look.mk (x1 % n) u2 q2 (x3 % 181 - 90) q4]).map lD)), some (.val (.int u2))]) := by
  have m : mulD (.int 5) (.int (k : Int)) = some (.int (5 * (k : Int))) := mulD_l rfl
  unfold longLook
  rw [sSeq_nx (r1 := [some (.val dr), some (.val (.int n)), c2, some (.val (.int k)), c4, c5, c6, some (.own (ls.map lD)), some (.val (.int u2))]) (by simp [-min2D_i, m, h0, modD_p, p0, hm])]
  simp [m, h1, h2, h3, h4, modD_p, modD_p hn, p2, p4, hl, lD]
structure OkLong (S : Sky) : Prop where
  many : S.looks.length ≤ 16
  looks : ∀ x ∈ S.looks, OkL S.worths.length x
  wl0 : 1 ≤ S.worths.length
  wl1 : S.worths.length ≤ 6
  worths : ∀ w ∈ S.worths, 0 ≤ w ∧ w ≤ 99
  el : S.ears.length ≤ 4
  ears : ∀ e ∈ S.ears, OkE e
  c0 : 1 ≤ S.cap
  c1 : S.cap ≤ 30
  t0 : 1 ≤ S.turn
  t1 : S.turn ≤ 90
theorem fit_long {S : Sky} (ok : OkLong S) : Fit S where
  t0 := ok.t0
  t1 := Int.le_trans ok.t1 (by decide)
  ears := ok.ears
  s0 := fun x hx => (ok.looks x hx).s0
  s1 := fun x hx => Int.le_trans (ok.looks x hx).s1 (by decide)
  l0 := fun x hx => (ok.looks x hx).l0
  z0 := fun x hx => Int.le_trans (by decide) (ok.looks x hx).z0
theorem le_loop (dr : D) (v : Nat → Int) (hix : ∀ i : Nat, i < 200 → ixD dr (.int i) = some (.int (v i))) (c1 c2 c7 c8 : Option Cell) (m : Nat) (hm : m ≤ 4) :
    ∃ (es : List Ear) (c4 c6 c5 : Option Cell), loopF (gNm 3) longEar (rngL 0 m) [some (.val dr), c1, c2, none, some (.own []), some (.val (.int 0)), none, c7, c8] = some (.nx [some (.val dr), c1, c2, c4, some (.own (es.map eD)), c5, c6, c7, c8]) ∧
      es.length = m ∧ (∀ e ∈ es, OkE e) := by
  obtain ⟨r', h3, es, u, c4, c6, rfl, h4, h5, h6, h7⟩ := loop_all (A := gNm 3) (body := longEar) (items := rngL 0 m) (r := [some (.val dr), c1, c2, none, some (.own []), some (.val (.int 0)), none, c7, c8])
    (fun k r => ∃ (es : List Ear) (u : Int) (c4 c6 : Option Cell), r = [some (.val dr), c1, c2, c4, some (.own (es.map eD)), some (.val (.int u)), c6, c7, c8] ∧ es.length = k ∧ 0 ≤ u ∧ u ≤ 40 * k ∧ (∀ e ∈ es, OkE e))
    ⟨[], 0, none, none, rfl, rfl, by decide, by decide, fun e he => by (cases he)⟩ fun k d r e ⟨es, u, c4, c6, er, h4, h5, h6, h7⟩ => by
      subst er
      obtain ⟨hk, rfl⟩ := rngL_get e
      rw [show (0 : Int) + (k : Int) = k from Int.zero_add _]
      have i1 := hix (70 + 3 * k) (by omega)
      have i2 := hix (71 + 3 * k) (by omega)
      have i3 := hix (72 + 3 * k) (by omega)
      rw [show ((70 + 3 * k : Nat) : Int) = 70 + 3 * (k : Int) by omega] at i1
      rw [show ((71 + 3 * k : Nat) : Int) = 71 + 3 * (k : Int) by omega] at i2
      rw [show ((72 + 3 * k : Nat) : Int) = 72 + 3 * (k : Int) by omega] at i3
      generalize v (70 + 3 * k) = x at i1
      generalize v (71 + 3 * k) = y at i2
      generalize v (72 + 3 * k) = z at i3
      obtain ⟨q, hq, hq2⟩ := pick5 1 1 2 7 30 (z % 5) (by omega) (by omega)
      refine ⟨_, _, rfl, .inl (le_turn dr c1 c2 c6 c7 c8 es k u x y z q (small_len (by omega)) i1 i2 i3 hq), es ++ [Ear.mk (u + x % 12) (u + x % 12 + 1 + y % 20) q], _, _, _, rfl, ?_, ?_, ?_, ?_⟩
      · rw [List.length_append, h4]; rfl
      · omega
      · omega
      · intro e he
        rcases List.mem_append.mp he with he | he
        · exact h7 e he
        · rw [List.mem_singleton.mp he]
          exact ⟨by show 0 ≤ u + x % 12; omega, by show u + x % 12 < u + x % 12 + 1 + y % 20; omega, by show u + x % 12 + 1 + y % 20 ≤ 200; omega, by show 1 ≤ q; omega, by show q ≤ 30; omega⟩
  rw [rngL_length] at h4
  exact ⟨es, c4, c6, _, h3, h4, h7⟩
theorem ll_loop (dr : D) (v : Nat → Int) (n : Int) (hn : 0 < n) (hix : ∀ i : Nat, i < 200 → ixD dr (.int i) = some (.int (v i))) (c2 c3 c4 c5 c6 : Option Cell) (u0 : Int) (hu0 : 0 ≤ u0) (hu1 : u0 ≤ 180) (m : Nat) (hm : m ≤ 16) :
    ∃ (ls : List Look) (c3' c8 : Option Cell), loopF (gNm 3) longLook (rngL 0 m) [some (.val dr), some (.val (.int n)), c2, c3, c4, c5, c6, some (.own []), some (.val (.int u0))] = some (.nx [some (.val dr), some (.val (.int n)), c2, c3', c4, c5, c6, some (.own (ls.map lD)), c8]) ∧
      ls.length = m ∧ (∀ x ∈ ls, OkL n x) := by
  obtain ⟨r', h3, ls, u, c3', rfl, h4, h5, h6, h7⟩ := loop_all (A := gNm 3) (body := longLook) (items := rngL 0 m) (r := [some (.val dr), some (.val (.int n)), c2, c3, c4, c5, c6, some (.own []), some (.val (.int u0))])
    (fun k r => ∃ (ls : List Look) (u : Int) (c3' : Option Cell), r = [some (.val dr), some (.val (.int n)), c2, c3', c4, c5, c6, some (.own (ls.map lD)), some (.val (.int u))] ∧ ls.length = k ∧ 0 ≤ u ∧ u ≤ 180 ∧ (∀ x ∈ ls, OkL n x))
    ⟨[], u0, c3, rfl, rfl, hu0, hu1, fun e he => by (cases he)⟩ fun k d r e ⟨ls, u, c3', er, h4, h5, h6, h7⟩ => by
      subst er
      obtain ⟨hk, rfl⟩ := rngL_get e
      rw [show (0 : Int) + (k : Int) = k from Int.zero_add _]
      have i0 := hix (90 + 5 * k) (by omega)
      have i1 := hix (91 + 5 * k) (by omega)
      have i2 := hix (92 + 5 * k) (by omega)
      have i3 := hix (93 + 5 * k) (by omega)
      have i4 := hix (94 + 5 * k) (by omega)
      rw [show ((90 + 5 * k : Nat) : Int) = 90 + 5 * (k : Int) by omega] at i0
      rw [show ((91 + 5 * k : Nat) : Int) = 91 + 5 * (k : Int) by omega] at i1
      rw [show ((92 + 5 * k : Nat) : Int) = 92 + 5 * (k : Int) by omega] at i2
      rw [show ((93 + 5 * k : Nat) : Int) = 93 + 5 * (k : Int) by omega] at i3
      rw [show ((94 + 5 * k : Nat) : Int) = 94 + 5 * (k : Int) by omega] at i4
      generalize v (90 + 5 * k) = x0 at i0
      generalize v (91 + 5 * k) = x1 at i1
      generalize v (92 + 5 * k) = x2 at i2
      generalize v (93 + 5 * k) = x3 at i3
      generalize v (94 + 5 * k) = x4 at i4
      have w0 := Int.emod_nonneg x1 (show n ≠ 0 by omega)
      have w1 := Int.emod_lt_of_pos x1 hn
      obtain ⟨q0, p0, b0⟩ := pick6 0 1 2 3 5 8 (x0 % 6) (by omega) (by omega)
      obtain ⟨q2, p2, b2⟩ := pick5 1 2 3 7 20 (x2 % 5) (by omega) (by omega)
      obtain ⟨q4, p4, b4⟩ := pick6 1 2 3 5 9 30 (x4 % 6) (by omega) (by omega)
      have hm : min2D (.int 180) (.int (u + q0)) = some (.int (if u + q0 < 180 then u + q0 else 180)) := by simp
      refine ⟨_, _, rfl, .inl (ll_turn dr n hn c2 c4 c5 c6 ls k u x0 x1 x2 x3 x4 q0 q2 q4 _ (small_len (by omega)) i0 i1 i2 i3 i4 p0 p2 p4 hm), ls ++ [Look.mk (x1 % n) (if u + q0 < 180 then u + q0 else 180) q2 (x3 % 181 - 90) q4], _, _, rfl, ?_, ?_, ?_, ?_⟩
      · rw [List.length_append, h4]; rfl
      · split <;> omega
      · split <;> omega
      · intro e he
        rcases List.mem_append.mp he with he | he
        · exact h7 e he
        · rw [List.mem_singleton.mp he]
          exact ⟨w0, w1, by show 0 ≤ (if u + q0 < 180 then u + q0 else 180); split <;> omega, by show (if u + q0 < 180 then u + q0 else 180) ≤ 200; split <;> omega, by show 1 ≤ q2; omega, by show q2 ≤ 20; omega, by show -90 ≤ x3 % 181 - 90; omega, by show x3 % 181 - 90 ≤ 90; omega, by show 1 ≤ q4; omega, by show q4 ≤ 30; omega⟩
  rw [rngL_length] at h4
  exact ⟨ls, c3', _, h3, h4, h7⟩
theorem lworths_lc (dr : D) (v : Nat → Int) (hix : ∀ i : Nat, i < 200 → ixD dr (.int i) = some (.int (v i))) (m : Nat) (hm : m ≤ 6) :
    lLc (SL.iRng1 (fV 1)) [3] (gNm 3) gYes (f2 modD (f1 intD (f2 ixD (fV 0) (f2 addD (fC (.int 1)) (fV 3)))) (fC (.int 100))) [some (.val dr), some (.val (.int m)), none, none, none, none, none, none, none] =
      some (((List.range m).map fun k => v (1 + k) % 100).map .int, [some (.val dr), some (.val (.int m)), none, none, none, none, none, none, none]) := by
  have hr := okR_of (i := (m : Int)) (by omega) (by omega)
  rw [lLc_eq (ds := rngL 0 m) (r0 := [some (.val dr), some (.val (.int m)), none, none, none, none, none, none, none]) (zs := ((List.range m).map fun k => v (1 + k) % 100).map .int) (w := [some (.val dr), some (.val (.int m)), none, none, none, none, none, none, none]) ?a ?b ?c]
  · rfl
  case a => simp [SL.iRng1, hr]
  case b =>
    rw [rngL_map, List.map_map]
    refine lcF_all (fun (i : Nat) => (.int i : D)) _ rfl fun k hk => ?_
    have hk2 : k < m := List.mem_range.mp hk
    have h1 := hix (1 + k) (by omega)
    rw [show ((1 + k : Nat) : Int) = 1 + (k : Int) by omega] at h1
    exact ⟨_, [some (.val dr), some (.val (.int m)), none, some (.val (.int k)), none, none, none, none, none], rfl, by simp [h1, modD_p], rfl⟩
  case c => exact small_len (by simp; omega)
theorem long_ok (dr : D) (v : Nat → Int) (hix : ∀ i : Nat, i < 200 → ixD dr (.int i) = some (.int (v i))) :
    ∃ S : Sky, R__law_long_sky [dr] = some (skyD S) ∧ OkLong S := by
  have h0 := hix 0 (by omega)
  have h7 := hix 7 (by omega)
  have h8 := hix 8 (by omega)
  have h9 := hix 9 (by omega)
  have h10 := hix 10 (by omega)
  have h16 := hix 16 (by omega)
  simp only [Int.natCast_zero] at h0
  rw [show ((7 : Nat) : Int) = 7 from rfl] at h7
  rw [show ((8 : Nat) : Int) = 8 from rfl] at h8
  rw [show ((9 : Nat) : Int) = 9 from rfl] at h9
  rw [show ((10 : Nat) : Int) = 10 from rfl] at h10
  rw [show ((16 : Nat) : Int) = 16 from rfl] at h16
  obtain ⟨n, en⟩ := Int.eq_ofNat_of_zero_le (show 0 ≤ 1 + v 0 % 6 by omega)
  obtain ⟨me, eme⟩ := Int.eq_ofNat_of_zero_le (show 0 ≤ v 9 % 5 by omega)
  obtain ⟨ml, eml⟩ := Int.eq_ofNat_of_zero_le (show 0 ≤ v 16 % 17 by omega)
  have n0 : (0 : Int) < n := by omega
  have lw := lworths_lc dr v hix n (by omega)
  obtain ⟨qc, pc, bc⟩ := pick6 1 4 9 30 30 12 (v 7 % 6) (by omega) (by omega)
  obtain ⟨qt, pt, bt⟩ := pick5 1 90 30 9 45 (v 8 % 5) (by omega) (by omega)
  obtain ⟨es, c4, c6, c5, g1, g2, g3⟩ := le_loop dr v hix (some (.val (.int n))) (some (.val (.list (((List.range n).map fun k => v (1 + k) % 100).map .int)))) none none me (by omega)
  obtain ⟨ls, c3', c8, k1, k2, k3⟩ := ll_loop dr v n n0 hix (some (.val (.list (((List.range n).map fun k => v (1 + k) % 100).map .int)))) c4 (some (.own (es.map eD))) c5 c6 (v 10 % 3) (by omega) (by omega) ml (by omega)
  have r1 := okR_of (i := (me : Int)) (by omega) (by omega)
  have r2 := okR_of (i := (ml : Int)) (by omega) (by omega)
  refine ⟨⟨ls, (List.range n).map fun k => v (1 + k) % 100, es, qc, qt⟩, ?_, ?_⟩
  · generalize hW : ((List.range n).map fun k => v (1 + k) % 100) = W at *
    generalize hWD : (PyData.list (W.map .int)) = WD at *
    unfold R__law_long_sky runP F__law_long_sky skyD
    rw [sSeq_nx (r1 := [some (.val dr), some (.val (.int n)), none, none, none, none, none, none, none]) (by simp [startE, h0, modD_p, en]),
      sSeq_nx (r1 := [some (.val dr), some (.val (.int n)), some (.val WD), none, none, none, none, none, none]) (by unfold sSet fL; rw [lw]; rw [← hWD]; rfl),
      sSeq_nx (r1 := [some (.val dr), some (.val (.int n)), some (.val WD), none, some (.own []), none, none, none, none]) rfl,
      sSeq_nx (r1 := [some (.val dr), some (.val (.int n)), some (.val WD), none, some (.own []), some (.val (.int 0)), none, none, none]) rfl,
      sSeq_nx (by rw [sFor_eq (ds := rngL 0 me) (r1 := [some (.val dr), some (.val (.int n)), some (.val WD), none, some (.own []), some (.val (.int 0)), none, none, none]) (by simp [SL.iRng1, h9, modD_p, eme, r1])]; exact g1),
      sSeq_nx (r1 := [some (.val dr), some (.val (.int n)), some (.val WD), c4, some (.own (es.map eD)), c5, c6, some (.own []), none]) rfl,
      sSeq_nx (r1 := [some (.val dr), some (.val (.int n)), some (.val WD), c4, some (.own (es.map eD)), c5, c6, some (.own []), some (.val (.int (v 10 % 3)))]) (by simp [h10, modD_p]),
      sSeq_nx (by rw [sFor_eq (ds := rngL 0 ml) (r1 := [some (.val dr), some (.val (.int n)), some (.val WD), c4, some (.own (es.map eD)), c5, c6, some (.own []), some (.val (.int (v 10 % 3)))]) (by simp [SL.iRng1, h16, modD_p, eml, r2])]; exact k1)]
    simp [h7, h8, modD_p, hWD, pc, pt]
  · exact {
      many := by show ls.length ≤ 16; omega
      looks := fun x hx => by
        have := k3 x hx
        show OkL (((List.range n).map fun k => v (1 + k) % 100).length : Nat) x
        rw [List.length_map, List.length_range]
        exact this
      wl0 := by show 1 ≤ ((List.range n).map fun k => v (1 + k) % 100).length; rw [List.length_map, List.length_range]; omega
      wl1 := by show ((List.range n).map fun k => v (1 + k) % 100).length ≤ 6; rw [List.length_map, List.length_range]; omega
      worths := fun w hw => by
        obtain ⟨k, _, rfl⟩ := List.mem_map.mp hw
        omega
      el := by show es.length ≤ 4; omega
      ears := g3
      c0 := by show 1 ≤ qc; omega
      c1 := by show qc ≤ 30; omega
      t0 := by show 1 ≤ qt; omega
      t1 := by show qt ≤ 90; omega }
theorem long_sw {S : Sky} (ok : OkLong S) : Sw 3600 (skyD S) := by
  refine Sw.mono (Sw.tuple (n := 700) (ds := [.list (S.looks.map lD), .list (S.worths.map .int), .list (S.ears.map eD), .int S.cap, .int S.turn]) fun d hd => ?_) (show 5 * (700 + 2) + 3 ≤ 3600 by decide)
  have := ok.many; have := ok.wl1; have := ok.el
  simp only [List.mem_cons, List.not_mem_nil, or_false] at hd
  rcases hd with rfl | rfl | rfl | rfl | rfl
  · refine Sw.mono (Sw.list (n := 38) fun d hd => ?_) (by rw [List.length_map]; omega)
    obtain ⟨x, hx, rfl⟩ := List.mem_map.mp hd
    exact look_sw (by omega) (ok.looks x hx)
  · refine Sw.mono (Sw.list (n := 5) fun d hd => ?_) (by rw [List.length_map]; omega)
    obtain ⟨x, hx, rfl⟩ := List.mem_map.mp hd
    exact Sw.int (k := 4) (by decide) (by decide) (by have := ok.worths x hx; omega)
  · refine Sw.mono (Sw.list (n := 24) fun d hd => ?_) (by rw [List.length_map]; omega)
    obtain ⟨x, hx, rfl⟩ := List.mem_map.mp hd
    exact ear_sw (ok.ears x hx)
  · exact Sw.mono (Sw.int (k := 4) (by decide) (by decide) (by have := ok.c0; have := ok.c1; omega)) (by decide)
  · exact Sw.mono (Sw.int (k := 4) (by decide) (by decide) (by have := ok.t0; have := ok.t1; omega)) (by decide)
theorem long_repr {S : Sky} (ok : OkLong S) : reprD (skyD S) = some (.str (skyD S).shown) :=
  (long_sw ok).repr (by decide) rfl (Nat.le_trans (sky_sh S).2 (by decide))
end Sk
/-! Needs and plans; parts of timely lists; lists of names. -/
namespace Sk
open PySem PySem.Spec PyProof.Rows L2 SL
theorem names_add (a b : List Nat) (h : a.length + b.length ≤ 1000) : addD (namesD a) (namesD b) = some (namesD (a ++ b)) := by
  show (if _ then _ else _) = _
  rw [if_pos (by rw [List.length_map, List.length_map]; unfold sizeLine; omega), ← List.map_append]
  rfl
theorem plist_add (a b : List (List Nat)) (h : a.length + b.length ≤ 1000) : addD (plistD a) (plistD b) = some (plistD (a ++ b)) := by
  show (if _ then _ else _) = _
  rw [if_pos (by rw [List.length_map, List.length_map]; unfold sizeLine; omega), ← List.map_append]
  rfl
theorem names_cutb (ns : List Nat) (lo hi : Option Int) : cutAny (namesD ns) lo hi = some (namesD (cutL ns lo hi)) := by
  show some (PyData.list (cutD _ _ _)) = _
  rw [cutD_map]
  rfl
theorem cut_lo (ns : List Nat) (k : Nat) (h : k ≤ ns.length) : cutL ns none (some (k : Int)) = ns.take k := by
  unfold cutL
  rw [HT.sIx_nat, HT.sIx_none, List.drop_zero, Nat.sub_zero, Nat.min_eq_left h]
theorem cut_hi (ns : List Nat) (k : Nat) (h : k ≤ ns.length) : cutL ns (some (k : Int)) none = ns.drop k := by
  unfold cutL
  rw [HT.sIx_nat, HT.sIx_none, Nat.min_eq_left h]
  exact List.take_of_length_le (by rw [List.length_drop]; exact Nat.le_refl _)
theorem names_len (ns : List Nat) : lenD (namesD ns) = some (.int ns.length) := by
  show some (PyData.int _) = _
  rw [List.length_map]
theorem names_nil : namesD [] = .list [] := rfl
theorem withC_store (S : Sky) (c : Int) (p : List Nat) (t : Int) : storeZ (S.withC c) p t = storeZ S p t := withC_run S c p _
theorem need_le {S : Sky} {ns : List Nat} {c : Int} (hc : 0 ≤ c) : ∀ k, needZ S ns k ≤ c ↔ ∀ j, j < k → storeZ S (ns.take j) (S.lk (ns.getD j 0)).s + (S.lk (ns.getD j 0)).z ≤ c
  | 0 => ⟨fun _ j hj => absurd hj (Nat.not_lt_zero _), fun _ => hc⟩
  | k + 1 => by
    have ih := need_le (S := S) (ns := ns) hc k
    have e : needZ S ns (k + 1) = mx (needZ S ns k) (storeZ S (ns.take k) (S.lk (ns.getD k 0)).s + (S.lk (ns.getD k 0)).z) := rfl
    rw [e]
    constructor
    · intro h j hj
      unfold mx at h
      have h1 : needZ S ns k ≤ c ∧ storeZ S (ns.take k) (S.lk (ns.getD k 0)).s + (S.lk (ns.getD k 0)).z ≤ c := by
        split at h <;> constructor <;> omega
      by_cases z : j = k
      · subst z; exact h1.2
      · exact ih.mp h1.1 j (by omega)
    · intro h
      have h1 := ih.mpr fun j hj => h j (by omega)
      have h2 := h k (by omega)
      unfold mx
      split <;> assumption
theorem need_nonneg (S : Sky) (ns : List Nat) : ∀ k, 0 ≤ needZ S ns k
  | 0 => Int.le_refl _
  | k + 1 => by
    have := need_nonneg S ns k
    show 0 ≤ mx _ _
    unfold mx
    split <;> omega
/-- a plan is a timely list whose need is not above the room -/
theorem plan_need (S : Sky) (c : Int) (hc : 0 ≤ c) (ns : List Nat) : PlanP (S.withC c) ns ↔ S.timely ns = true ∧ needZ S ns ns.length ≤ c := by
  rw [← plan_iff _ _ ns rfl, need_le hc]
  unfold Sky.timely
  rw [decide_eq_true_iff]
  have e : ∀ k, (S.withC c).badD ns k = none ↔ S.tim ns k = true ∧ storeZ S (ns.take k) (S.lk (ns.getD k 0)).s + (S.lk (ns.getD k 0)).z ≤ c := fun k => by
    have r : (S.withC c).rm (ns.take k) (ns.getD k 0) = false ↔ storeZ S (ns.take k) (S.lk (ns.getD k 0)).s + (S.lk (ns.getD k 0)).z ≤ c := by
      unfold Sky.rm
      rw [withC_store, decide_eq_false_iff_not]
      show ¬ (c < storeZ S (ns.take k) (S.lk (ns.getD k 0)).s + (S.lk (ns.getD k 0)).z) ↔ _
      omega
    rw [tim_iff, ← r]
    refine kind_none.trans ?_
    constructor
    · intro ⟨a, b, d, f⟩; exact ⟨⟨a, b, d⟩, f⟩
    · intro ⟨⟨a, b, d⟩, f⟩; exact ⟨a, b, d, f⟩
  constructor
  · intro h
    exact ⟨fun k hk => ((e k).mp (h k hk)).1, fun k hk => ((e k).mp (h k hk)).2⟩
  · intro ⟨h1, h2⟩ k hk
    exact (e k).mpr ⟨h1 k hk, h2 k hk⟩
theorem plan_need2 (S : Sky) (hc : 0 ≤ S.cap) (ns : List Nat) : PlanP S ns ↔ S.timely ns = true ∧ needZ S ns ns.length ≤ S.cap := plan_need S S.cap hc ns
theorem timely_part {S : Sky} (F : Fit S) {p q : List Nat} (hp : S.timely p = true) (hl : ∀ j ∈ p, j < S.looks.length) (h : q.Sublist p) : S.timely q = true ∧ needZ S q q.length ≤ needZ S p p.length := by
  have n0 := need_nonneg S p p.length
  have a := (plan_need S (needZ S p p.length) n0 p).mpr ⟨hp, Int.le_refl _⟩
  exact (plan_need S _ n0 q).mp (plan_sub (withC_fit F _) a hl h)
theorem timely_nil (S : Sky) : S.timely [] = true := decide_eq_true fun k hk => absurd hk (Nat.not_lt_zero _)
theorem timely_one (S : Sky) (i : Nat) : S.timely [i] = true := decide_eq_true fun k hk => by
  have e : k = 0 := by simp at hk; omega
  subst e
  exact tim_iff.mpr ⟨rfl, decide_eq_false (by simp), rfl⟩
/-! the little sky -/
def twoS (s a b cap : Int) : Sky := ⟨[⟨0, s, 1, 0, 2⟩, ⟨1, s + 3, 2, 0, 3⟩], [a, b], [], cap, 1⟩
theorem two_fit {s : Int} (h0 : 0 ≤ s) (h1 : s ≤ 900) (a b cap : Int) : Fit (twoS s a b cap) where
  t0 := by show (1 : Int) ≤ 1; decide
  t1 := by show (1 : Int) ≤ 1000; decide
  ears := fun e he => by cases he
  s0 := fun x hx => by
    rcases List.mem_cons.mp hx with rfl | hx
    · exact h0
    · rcases List.mem_cons.mp hx with rfl | hx
      · show 0 ≤ s + 3; omega
      · cases hx
  s1 := fun x hx => by
    rcases List.mem_cons.mp hx with rfl | hx
    · show s ≤ 1000; omega
    · rcases List.mem_cons.mp hx with rfl | hx
      · show s + 3 ≤ 1000; omega
      · cases hx
  l0 := fun x hx => by
    rcases List.mem_cons.mp hx with rfl | hx
    · show (1 : Int) ≤ 1; decide
    · rcases List.mem_cons.mp hx with rfl | hx
      · show (1 : Int) ≤ 2; decide
      · cases hx
  z0 := fun x hx => by
    rcases List.mem_cons.mp hx with rfl | hx
    · show (0 : Int) ≤ 2; decide
    · rcases List.mem_cons.mp hx with rfl | hx
      · show (0 : Int) ≤ 3; decide
      · cases hx
theorem run_no_ears {S : Sky} (F : Fit S) (he : S.ears = []) {p : List Nat} (hp : ∀ i ∈ p, i < S.looks.length) : ∀ k, runZ S p k = accZ S p k
  | 0 => by
    have : accZ S p 0 = 0 := by
      unfold accZ
      induction p with
      | nil => rfl
      | cons i p ih =>
        rw [List.map_cons, List.sum_cons, ih fun j hj => hp j (List.mem_cons_of_mem _ hj), if_neg]
        · rfl
        · have := (fin_pos F (hp i (List.mem_cons_self ..))).1
          omega
    rw [this]
    rfl
  | k + 1 => by
    have a := run_no_ears F he hp k
    have b := run_nonneg F hp k
    rw [acc_succ, ← a]
    show mx 0 (runZ S p k - tickLoss S.ears ((k : Int) - 1)) + addAt S p k = _
    have c : tickLoss S.ears ((k : Int) - 1) = 0 := by rw [he]; rfl
    rw [c]
    unfold mx
    split <;> omega
theorem two_store {s : Int} (h0 : 0 ≤ s) (h1 : s ≤ 900) (a b cap : Int) : storeZ (twoS s a b cap) [0] (s + 3) = 2 ∧ ∀ t, storeZ (twoS s a b cap) [] t = 0 := by
  have F := two_fit h0 h1 a b cap
  constructor
  · unfold storeZ
    rw [run_no_ears F rfl (fun i hi => by rw [List.mem_singleton.mp hi]; show 0 < 2; decide)]
    show (if (s + 1 : Int) < (((s + 3).toNat + 1 : Nat) : Int) then (2 : Int) else 0) + 0 = 2
    rw [if_pos (by omega)]
    rfl
  · intro t
    unfold storeZ
    rw [run_no_ears F rfl (fun i hi => by cases hi)]
    rfl
theorem two_need {s : Int} (h0 : 0 ≤ s) (h1 : s ≤ 900) (a b cap : Int) : needZ (twoS s a b cap) [] 0 = 0 ∧ needZ (twoS s a b cap) [0] 1 = 2 ∧ needZ (twoS s a b cap) [1] 1 = 3 ∧ needZ (twoS s a b cap) [0, 1] 2 = 5 := by
  obtain ⟨e1, e2⟩ := two_store h0 h1 a b cap
  refine ⟨rfl, ?_, ?_, ?_⟩
  · show mx 0 (storeZ (twoS s a b cap) [] s + 2) = 2
    rw [e2]; rfl
  · show mx 0 (storeZ (twoS s a b cap) [] (s + 3) + 3) = 3
    rw [e2]; rfl
  · show mx (mx 0 (storeZ (twoS s a b cap) [] s + 2)) (storeZ (twoS s a b cap) [0] (s + 3) + 3) = 5
    rw [e2, e1]; rfl
theorem two_timely (s a b cap : Int) : (twoS s a b cap).timely [0, 1] = true := decide_eq_true fun k hk => by
  have e : k = 0 ∨ k = 1 := by simp at hk; omega
  rcases e with rfl | rfl
  · exact tim_iff.mpr ⟨rfl, decide_eq_false (by simp), rfl⟩
  · refine tim_iff.mpr ⟨rfl, decide_eq_false ?_, decide_eq_false ?_⟩
    · show ¬ ((1 : Int) ∈ [(0 : Int)])
      decide
    · show ¬ (s + 3 < s + 1 + turnZ 1 0 0)
      have : turnZ 1 0 0 = 0 := rfl
      omega
end Sk
/-! A comprehension over a list of one's own, which stays one's own. -/
namespace SL
open PySem PySem.Spec PyProof.Rows L2
def lLcP (i : Nat) (vs : List Nat) (A : FG) (t : FT) (f : FE) : FA := fun r => match r[i]? with
  | some (some (.own ds)) => (lcF vs A t f ds (r.set i none)).bind fun z => if z.1.length < sizeLine then some (z.1, (backE (r.set i none) z.2 vs).set i (some (.own ds))) else none
  | _ => none
def tIP (K : PySem.W.Frag) (i : Nat) : TI := fun σ H R => ∃ p vs0, σ[i]? = some (some (.ref p)) ∧ H p = some (.lst vs0) ∧ R (Itl K p) H
section
variable {X : Cx} {tg e elt iter : Expr} {ifs : List Expr} {scope : Scope} {own : List (Str × Nat)} {src : FA} {A : FG} {L : List Nat} {t : FT} {f : FE} {pos spos : Pos} {p : Bool}
theorem t_lcP {s : Nat} {vs : List Nat} (hsv : s ∉ vs) (hL : ∀ i ∈ L, i ∈ vs) {σ : L2.St} {H : Hp} {Q : VK} (h : tL X.K false (lLcP s vs A t f) σ H Q) : tLc (tIP X.K s) (tG X.K A L) (tT X.K false t) (tE X.K false f) vs σ H Q := by
  obtain ⟨C0, G1, r, ds', r', ok0, hf, k⟩ := h
  unfold lLcP at hf
  split at hf
  case h_2 => cases hf
  case h_1 ds er =>
    obtain ⟨v0, es, l, vs0, rfl, h1, h2, h3, h4⟩ := ok0.cell s _ er
    obtain ⟨⟨zs, rz⟩, h5, h6⟩ := Option.bind_eq_some_iff.mp hf
    split at h6
    case isFalse => cases h6
    case isTrue hz =>
    cases h6
    have od := ok0.drop s
    have nl : New X.K C0 G1 H σ (r.set s none) l vs0 := ⟨h1.1, h1.2, h2, h3, fun j c ej o z => by
      by_cases e : s = j
      · subst e
        have hlt : s < r.length := (List.getElem?_eq_some_iff.mp er).1
        rw [List.getElem?_set_self hlt] at ej
        cases ej
      · rw [List.getElem?_set_ne e] at ej
        exact e (ok0.dis s j _ c er ej rfl o (by rw [es, z]))⟩
    have o1 := od.hold nl
    refine ⟨l, vs0, es, h3, fun d hd => ?_⟩
    have hld : l ≠ d := fun z => by rw [z, hd] at h3; cases h3
    obtain ⟨oD, nD⟩ := o1.newList (vs := []) hd
    have f1 : (C0.hold l vs0).P d = none := (o1.fresh hd).1
    have f2 : d ∉ (C0.hold l vs0).M := (o1.fresh hd).2.1
    have f3 : (C0.hold l vs0).G0 d = none := by
      cases q : (C0.hold l vs0).G0 d with
      | none => rfl
      | some u => rw [o1.sub _ _ (o1.g0 _ _ q)] at hd; cases hd
    have f0 : C0.G0 l = none := by
      cases q : C0.G0 l with
      | none => rfl
      | some u => rw [ok0.g0 _ _ q] at h2; cases h2
    have pl0 : ∀ us : List V, ((C0.hold l vs0).hold d us).P l = some (.lst vs0) := fun us => by
      show upd (upd C0.P l (.lst vs0)) d (.lst us) l = _
      rw [upd_ne hld, upd_same]
    refine ⟨fun i m H => ∃ G' r' acc us, Ok X.K ((C0.hold l vs0).hold d us) G' H (wipe σ vs) (wipeE r' vs) ∧ Same G1 G' ∧ DpAll X.K G' us acc ∧ m = ds.length - i ∧ i ≤ ds.length ∧ ∃ ys, lcF vs A t f (ds.drop i) r' = some (ys, rz) ∧ acc ++ ys = zs,
      ⟨_, G1, r.set s none, [], [], (oD.hold nD).wipe vs, Same.refl _, .nil, rfl, Nat.zero_le _, zs, h5, rfl⟩, ?_⟩
    rintro i m H ⟨G', r', acc, us, ok', sg, hu, rfl, hi, ys, hy, hz'⟩
    have q : SqL X.K H l vs0 := .inl (.inl (ok'.prot l _ (pl0 us) h1.2))
    by_cases hlt : i < ds.length
    · refine .inr ?_
      have e : ds.drop i = ds[i] :: ds.drop (i + 1) := List.drop_eq_getElem_cons hlt
      rw [e] at hy
      obtain ⟨v, e1, dv⟩ := DpAll.get h4 (List.getElem?_eq_getElem hlt)
      refine ⟨⟨vs0, v, q, e1⟩, fun H => ∃ G' r' acc us, Ok X.K ((C0.hold l vs0).hold d us) G' H (wipe σ vs) (wipeE r' vs) ∧ Same G1 G' ∧ DpAll X.K G' us acc ∧ ∃ ys, lcF vs A t f (ds.drop (i + 1)) r' = some (ys, rz) ∧ acc ++ ys = zs, fun H' ⟨G2, r2, a, u, q1, q2, q3, q4⟩ => ⟨_, Nat.sub_lt_sub_left hlt (Nat.lt_succ_self i), G2, r2, a, u, q1, q2, q3, rfl, hlt, q4⟩, fun x H3 ⟨eH, y⟩ => ?_⟩
      subst eH
      rw [y vs0 q] at e1
      cases e1
      have dx := Dp.mono sg dv
      obtain ⟨r2, h5, h6⟩ := Option.bind_eq_some_iff.mp (show (A ds[i] (wipeE r' vs)).bind _ = some (ys, rz) from hy)
      obtain ⟨⟨b, r3⟩, h7, h8⟩ := Option.bind_eq_some_iff.mp h6
      refine ⟨_, G', _, _, r2, ok', dx, h5, fun σ2 ok4 w4 => ?_⟩
      have wv : wipe σ2 vs = wipe σ vs := by
        rw [w4 vs hL]
        have : ∀ (ws : List Nat), (∀ i ∈ ws, i ∈ vs) → wipe (wipe σ ws) vs = wipe σ vs := by
          intro ws
          induction ws with
          | nil => intro _; rfl
          | cons j js ih =>
            intro hj
            show wipe ((wipe σ js).set j none) vs = _
            rw [wipe_set (hj j List.mem_cons_self), ih fun i hi => hj i (List.mem_cons_of_mem _ hi)]
        exact this vs fun i hi => hi
      refine ⟨wv, _, G', r2, b, r3, ok4, h7, fun G5 H5 ok5 s5 _ => ?_⟩
      cases b with
      | false =>
        rw [if_neg Bool.false_ne_true] at h8 ⊢
        have w5 := ok5.wipe vs
        rw [wv] at w5
        exact ⟨G5, r3, acc, us, w5, sg.trans s5, DpAll.mono s5 hu, ys, h8, hz'⟩
      | true =>
        rw [if_pos rfl] at h8 ⊢
        obtain ⟨⟨y1, r4⟩, h9, h10⟩ := Option.bind_eq_some_iff.mp h8
        obtain ⟨⟨ys2, rz2⟩, h11, h12⟩ := Option.map_eq_some_iff.mp h10
        cases h12
        refine ⟨_, G5, r3, y1, r4, ok5, h9, fun v G6 H6 ok6 s6 _ x6 => ?_⟩
        obtain ⟨ok7, n7⟩ := ok6.unhold f1 f2 f3
        have hl : us.length < sizeLine := by
          rw [DpAll.length hu]
          have : acc.length ≤ zs.length := by rw [← hz', List.length_append]; omega
          exact Nat.lt_of_le_of_lt this hz
        refine ⟨us, n7.2.2.2.1, hl, ?_⟩
        obtain ⟨ok8, n8⟩ := n7.grow ok7 (ys := us ++ [v])
        have w9 := (ok8.hold n8).wipe vs
        rw [wv] at w9
        refine ⟨G6, r4, acc ++ [y1], us ++ [v], w9, (sg.trans s5).trans s6, DpAll.append (DpAll.mono (s5.trans s6) hu) (.cons x6 .nil), ys2, h11, ?_⟩
        rw [List.append_assoc]
        exact hz'
    · have e : ds.length = i := by omega
      refine .inl ⟨⟨vs0, q, by rw [DpAll.length h4]; omega⟩, ?_⟩
      rw [← e, List.drop_length] at hy
      cases hy
      rw [List.append_nil] at hz'
      subst hz'
      obtain ⟨ok7, n7⟩ := ok'.unhold f1 f2 f3
      have ok8 := Ok.back0 o1 sg ok7
      obtain ⟨ok9, n9⟩ := ok8.unhold h1.1 h1.2 f0
      have ok10 := ok9.setO (i := s) n9 (DpAll.mono sg h4)
      have eσ : σ.set s (some (.ref l)) = σ := by
        have hlt2 : s < σ.length := (List.getElem?_eq_some_iff.mp es).1
        have : σ[s] = some (.ref l) := by
          have := List.getElem?_eq_getElem hlt2
          rw [es] at this
          exact (Option.some.inj this).symm
        rw [← this]
        exact List.set_getElem_self hlt2
      rw [eσ] at ok10
      have cP : C0.P d = none := by
        have f1' : upd C0.P l (.lst vs0) d = none := f1
        rwa [upd_ne (Ne.symm hld)] at f1'
      refine k d us G' H ok10 sg (fun m => by cases m) ⟨cP, f2, n7.2.2.1, n7.2.2.2.1, fun j c e o z => ?_⟩ hu
      by_cases ej : s = j
      · subst ej
        rw [es] at z
        cases z
        exact hld rfl
      · rw [List.getElem?_set_ne ej] at e
        obtain ⟨v, e1, hc⟩ := ok8.cell j c e
        rw [e1] at z; cases z
        have hj : j ∉ vs := fun hj => by
          rcases backE_some e with ⟨a, b⟩ | ⟨a, b, _⟩
          · exact a hj
          · rw [o] at b; cases b
        rcases backE_some e with ⟨a, b⟩ | ⟨a, _⟩
        · exact n7.2.2.2.2 j c b o (by rw [wipe_off hj]; exact e1)
        · exact hj a
theorem pi_own {y : Str} {py : Pos} {s : Nat} (hN : X.N[s]? = some y) (hv : Vis X.env.scope y) (hd : (y == ("__debug__" : Str)) = false := by decide) (hcd : (y == ("__classdict__" : Str)) = false := by decide) : PI X tg (.Name y py) (tIP X.K s) :=
  PI.weak (pi_any (pe_var hN hv hd hcd)) fun σ H R ⟨p, vs0, e, h, r⟩ => ⟨_, e, .inl ⟨p, rfl, ⟨vs0, .inl (.inl h)⟩, r⟩⟩
theorem sl_lcP {y : Str} {py : Pos} {s : Nat} (pl : Pl X) (hi : PI X tg (.Name y py) (tIP X.K s)) (ok : BlkOk X.N X.env.scope scope own) (hsv : s ∉ own.map (·.2)) (hL : ∀ i ∈ L, i ∈ own.map (·.2))
    (hg : ∀ (s : Shared) (H : Hp) (C : Addr) (cl : List (Str × Addr)) (fp : List Addr), Pl (X.blk s H scope (compEnvC scope cl C X.env) fp) → SG (X.blk s H scope (compEnvC scope cl C X.env) fp) tg A L) (ht : ∀ (s : Shared) (H : Hp) (C : Addr) (cl : List (Str × Addr)) (fp : List Addr), Pl (X.blk s H scope (compEnvC scope cl C X.env) fp) → STs (X.blk s H scope (compEnvC scope cl C X.env) fp) ifs t)
    (he : ∀ (s : Shared) (H : Hp) (C : Addr) (cl : List (Str × Addr)) (fp : List Addr), Pl (X.blk s H scope (compEnvC scope cl C X.env) fp) → SE (X.blk s H scope (compEnvC scope cl C X.env) fp) false elt f) (hs : ∀ x, foldedSetIterable (.Name y py) X.env x = pure x := by intro _; rfl) :
    SL X false (.ListComp elt [⟨tg, .Name y py, ifs, 0⟩] scope pos) (lLcP s (own.map (·.2)) A t f) := PE.weak (pe_lc pl.calm pl.nd hi ok (fun s H C cl fp => hg s H C cl fp pl.blk) (fun s H C cl fp => ht s H C cl fp pl.blk) (fun s H C cl fp => he s H C cl fp pl.blk) hs) fun σ H Q h => t_lcP hsv hL h
/-- the reading when each turn leaves all as it was -/
theorem lLcP_eq {s : Nat} {vs : List Nat} {r w : Ev} {ds zs : List D} (h1 : r[s]? = some (some (.own ds))) (h2 : lcF vs A t f ds (r.set s none) = some (zs, w)) (h3 : zs.length < sizeLine) : lLcP s vs A t f r = some (zs, (backE (r.set s none) w vs).set s (some (.own ds))) := by
  unfold lLcP
  rw [h1]
  show (lcF vs A t f ds (r.set s none)).bind _ = _
  rw [h2]
  show (if zs.length < sizeLine then _ else _) = _
  rw [if_pos h3]
end
/-! a, b = e1, e2 -/
def sPar (i j : Nat) (g : FA) : FS := fun r => match g r with
  | some ([x, y], r1) => some (.nx ((r1.set i (some (.val x))).set j (some (.val y))))
  | _ => none
@[simp] theorem sPar_r (i j : Nat) (g : FA) (r : Ev) : sPar i j g r = match g r with
  | some ([x, y], r1) => some (.nx ((r1.set i (some (.val x))).set j (some (.val y))))
  | _ => none := rfl
section
variable {X : Cx}
theorem ss_par {i j : Nat} {x y : Str} {a b : Expr} {g : FA} {p : Bool} {px py pt pos : Pos} {kt : _} {k2 : _} {pt2 : Pos} (pl : Pl X) (hi : X.N[i]? = some x) (hj : X.N[j]? = some y) (hij : i ≠ j)
    (hx : X.env.scope.names.lookup x = some .local) (hy : X.env.scope.names.lookup y = some .local) (ha : SA X p [a, b] g)
    (hw : swappedStores [.Tuple [.Name x px, .Name y py] kt pt] (.Tuple [a, b] k2 pt2) X.env = pure (some [x, y]))
    (hs : swapsWithSole [.Tuple [.Name x px, .Name y py] kt pt] (.Tuple [a, b] k2 pt2) pos.line X.env = pure false := by rfl) :
    SS X (.Assign [.Tuple [.Name x px, .Name y py] kt pt] (.Tuple [a, b] k2 pt2) pos) (sPar i j g) :=
  PS.weak (ps_par pl.calm pl.nd hi hj hij hx hy ha hw hs) fun E σ H ⟨C, G, r, o, ok, hf, k⟩ => by
    unfold sPar at hf
    split at hf
    · rename_i d1 d2 r1 e
      cases hf
      refine ⟨C, G, r, _, r1, ok, e, fun vs G' H' o' s m xs => ?_⟩
      cases xs with
      | cons h1 t =>
        cases t with
        | cons h2 t2 =>
          cases t2
          exact ⟨_, _, rfl, k _ G' H' ((o'.setV h1).setV h2) s⟩
    · cases hf
end
end SL
/-! Dicts whose keys are tuples: own ones, and as values. -/
namespace SL
open PySem PySem.Spec PyProof.Rows L2
/-! ### the heap's side -/
section
variable {X : Cx} {pins : List (Addr × Obj)} {σ : L2.St} {H : Hp} {s : Shared}
mutual
theorem Dp.nested (I : Inv X pins σ H s) : ∀ (d : D) (v : V) (u : Value) (k : NestedKey), Dp X.K H v d → RelV v u → toNK d = some k → NestedIs s.heap k u
  | .none, _, _, _, h, r, e => by
    cases h
    obtain rfl : _ = Value.none := r
    simp only [toNK] at e; cases e
    exact .none
  | .int i, _, _, _, h, r, e => by
    cases h
    obtain ⟨t, rfl⟩ : ∃ t, _ = Value.int i t := r
    simp only [toNK] at e; cases e
    exact .int i t
  | .tuple ds, _, _, _, h, r, e => by
    cases h with
    | tup hs ha =>
      obtain rfl : _ = Value.ref _ := r
      simp only [toNK] at e
      obtain ⟨ks, h1, h2⟩ := Option.map_eq_some_iff.mp e
      cases h2
      obtain ⟨its, rv, ⟨o, g, c, n, hd⟩, hz⟩ := I.tuple hs
      exact .tup g c hd (by rw [List.toList_toArray]; exact DpAll.nested I ds _ its ks ha rv h1)
  | .bool _, _, _, _, _, _, e => by simp [toNK] at e
  | .str _, _, _, _, _, _, e => by simp [toNK] at e
  | .list _, _, _, _, _, _, e => by simp [toNK] at e
  | .dict _, _, _, _, _, _, e => by simp [toNK] at e
theorem DpAll.nested (I : Inv X pins σ H s) : ∀ (ds : List D) (vs : List V) (us : List Value) (ks : List NestedKey), DpAll X.K H vs ds → Vals vs us → toNKs ds = some ks → NestedAll s.heap ks us
  | [], _, _, _, h, r, e => by
    cases h
    cases r
    simp only [toNKs] at e; cases e
    exact .nil
  | d :: ds, _, _, _, h, r, e => by
    cases h with
    | cons h1 t =>
      cases r with
      | cons r1 rt =>
        simp only [toNKs] at e
        obtain ⟨k, e1, e2⟩ := Option.bind_eq_some_iff.mp e
        obtain ⟨ls, e3, e4⟩ := Option.map_eq_some_iff.mp e2
        cases e4
        exact .cons (Dp.nested I d _ _ k h1 r1 e1) (DpAll.nested I ds _ _ ls t rt e3)
end
theorem nk_is (I : Inv X pins σ H s) {a : Addr} {d : D} {k : NestedKey} (h : Dp X.K H (.ref a) d) (e : nkey d = some k) : (nestedKind X.prog X.w).is s.heap k a :=
  ⟨Dp.nested I d _ _ k h rfl (nkey_some e).1, (nkey_some e).2⟩
theorem key_ref {K : PySem.W.Frag} {v : V} {d : D} {ds : List D} (h : Dp K H v d) (e : d = .tuple ds) : ∃ a, v = .ref a := by
  subst e
  cases h with
  | tup a b => exact ⟨_, rfl⟩
theorem ents (w : World) {P : Program} {K : PySem.W.Frag} : ∀ {ks : List KE3} {kds : List (D × D)} {xs : List (NestedKey × Addr × Value)}, DpKs K H ks kds → Paired E3 ks xs → xs.map entry0 = xs.map (entryOfKey (nestedKind P w))
  | _, _, _, .nil, .nil => rfl
  | _, _, _, .cons e a b t, .cons r rs => by
    rw [List.map_cons, List.map_cons, ents w t rs]
    congr 1
    unfold entry0 entryOfKey
    have h := hash_eq w _ _ (nkey_some e).1
    obtain ⟨r1, r2, r3⟩ := r
    dsimp only at r1 r2 r3
    show DictEntry.mk _ _ _ = DictEntry.mk (NestedKey.hash w _) _ _
    rw [← r1, h]
theorem DicO.at {p : Addr} {o : Obj} {ks : List KE3} (I : Inv X pins σ H s) (h : H p = some (DicO p o ks)) : s.heap.get? p = some o ∧ DicS p o ks := (I.hok p _ h).1
theorem dic_is (I : Inv X pins σ H s) : ∀ {ks : List KE3} {kds : List (D × D)} {xs : List (NestedKey × Addr × Value)}, DpKs X.K H ks kds → Paired E3 ks xs → ∀ x ∈ xs, (nestedKind X.prog X.w).is s.heap x.1 x.2.1
  | _, _, _, .nil, .nil, x, hx => nomatch hx
  | _, _, _, .cons e a b t, .cons r rs, x, hx => by
    rcases List.mem_cons.mp hx with rfl | hx
    · obtain ⟨r1, r2, r3⟩ := r
      dsimp only at r1 r2
      rw [← r1, ← r2]
      exact nk_is I a e
    · exact dic_is I t rs x hx
theorem dic_of {p : Addr} {o : Obj} {ks : List KE3} {kds : List (D × D)} (I : Inv X pins σ H s) (h : H p = some (DicO p o ks)) (hk : DpKs X.K H ks kds) :
    ∃ xs, Paired E3 ks xs ∧ s.heap.DictOfH (nestedKind X.prog X.w) p xs := by
  obtain ⟨g, hz, hm, xs, es, ep, pr, ex, hd, he, hn⟩ := DicO.at I h
  exact ⟨xs, pr, o, es, ep, g, ex, hd, by rw [he]; exact ents X.w hk pr, fun x hx => dic_is I hk pr x hx, hn⟩
end
/-! ### look-ups -/
def keyEq (a b : D) : Bool := decide (nkey a = nkey b)
def dFind (kds : List (D × D)) (k : D) : Option D := (kds.find? fun p => keyEq p.1 k).map (·.2)
def dPut (kds : List (D × D)) (k v : D) : List (D × D) := if (dFind kds k).isSome = true then kds.map fun p => if keyEq p.1 k = true then (p.1, v) else p else kds ++ [(k, v)]
theorem dPut_len (kds : List (D × D)) (k v : D) : (dPut kds k v).length ≤ kds.length + 1 := by
  unfold dPut
  split
  · rw [List.length_map]; omega
  · rw [List.length_append]; exact Nat.le_refl _
section
variable {K : PySem.W.Frag} {G H : Hp}
theorem key_dec {a b : D} {k l : NestedKey} (ha : nkey a = some k) (hb : nkey b = some l) : keyEq a b = decide (k = l) := by
  unfold keyEq
  rw [ha, hb]
  by_cases h : k = l
  · rw [decide_eq_true h, h, decide_eq_true rfl]
  · rw [decide_eq_false h, decide_eq_false fun z => h (Option.some.inj z)]
theorem DpKs.find {kd : D} {k : NestedKey} (e : nkey kd = some k) : ∀ {ks : List KE3} {kds : List (D × D)} {xs : List (NestedKey × Addr × Value)}, DpKs K G ks kds → Paired E3 ks xs →
    (dFind kds kd = none ∧ atKey xs k = none) ∨ ∃ vd v a u, dFind kds kd = some vd ∧ Dp K G v vd ∧ atKey xs k = some (a, u) ∧ RelV v u
  | _, _, _, .nil, .nil => .inl ⟨rfl, rfl⟩
  | _, _, _, .cons (k := k') (kd := kd') (vd := vd') e' a b t, .cons (b := x) r rs => by
    obtain ⟨r1, r2, r3⟩ := r
    dsimp only at r1 r2 r3
    have q := key_dec e' e
    unfold dFind atKey
    rw [List.find?_cons, List.find?_cons]
    dsimp only
    rw [q, ← r1]
    cases decide (k' = k) with
    | true => exact .inr ⟨_, _, x.2.1, x.2.2, rfl, b, rfl, r3⟩
    | false => exact DpKs.find e t rs
/-- the entries behind a store -/
def ksPut (ks : List KE3) (k : NestedKey) (a : Addr) (v : V) (old : Bool) : List KE3 := if old = true then ks.map fun x => if x.1 = k then (x.1, x.2.1, v) else x else ks ++ [(k, a, v)]
theorem DpKs.append {K : PySem.W.Frag} : ∀ {ks : List KE3} {kds : List (D × D)} {ls : List KE3} {lds : List (D × D)}, DpKs K G ks kds → DpKs K G ls lds → DpKs K G (ks ++ ls) (kds ++ lds)
  | _, _, _, _, .nil, h => h
  | _, _, _, _, .cons e a b t, h => .cons e a b (DpKs.append t h)
theorem Paired.app {α β : Type} {R : α → β → Prop} : ∀ {xs : List α} {ys : List β} {us : List α} {vs : List β}, Paired R xs ys → Paired R us vs → Paired R (xs ++ us) (ys ++ vs)
  | _, _, _, _, .nil, h => h
  | _, _, _, _, .cons r t, h => .cons r (Paired.app t h)
theorem DpKs.map {kd vd : D} {k : NestedKey} {v : V} (e : nkey kd = some k) (hv : Dp K G v vd) : ∀ {ks : List KE3} {kds : List (D × D)}, DpKs K G ks kds → DpKs K G (ks.map fun x => if x.1 = k then (x.1, x.2.1, v) else x) (kds.map fun p => if keyEq p.1 kd = true then (p.1, vd) else p)
  | _, _, .nil => .nil
  | _, _, .cons (k := k') e' a b t => by
    rw [List.map_cons, List.map_cons]
    have q := key_dec e' e
    dsimp only
    rw [q]
    by_cases h : k' = k
    · rw [if_pos h, decide_eq_true h, if_pos rfl]
      exact .cons e' a hv (DpKs.map e hv t)
    · rw [if_neg h, decide_eq_false h, if_neg Bool.false_ne_true]
      exact .cons e' a b (DpKs.map e hv t)
theorem pair_map {k : NestedKey} {v : V} {u : Value} (r : RelV v u) : ∀ {ks : List KE3} {xs : List (NestedKey × Addr × Value)}, Paired E3 ks xs → Paired E3 (ks.map fun x => if x.1 = k then (x.1, x.2.1, v) else x) (xs.map (putAt k u))
  | _, _, .nil => .nil
  | _, _, .cons (a := x) (b := y) q t => by
    rw [List.map_cons, List.map_cons]
    refine .cons ?_ (pair_map r t)
    obtain ⟨q1, q2, q3⟩ := q
    unfold putAt
    by_cases h : x.1 = k
    · rw [if_pos h, if_pos (by rw [← q1]; exact h)]
      exact ⟨q1, q2, r⟩
    · rw [if_neg h, if_neg (by rw [← q1]; exact h)]
      exact ⟨q1, q2, q3⟩
theorem DpKs.put {kd vd : D} {k : NestedKey} {v : V} {a : Addr} {u : Value} {ks : List KE3} {kds : List (D × D)} {xs : List (NestedKey × Addr × Value)} (e : nkey kd = some k) (hk : Dp K G (.ref a) kd) (hv : Dp K G v vd) (r : RelV v u) (h : DpKs K G ks kds) (pr : Paired E3 ks xs) :
    ∃ ks', DpKs K G ks' (dPut kds kd vd) ∧ Paired E3 ks' (storedH xs k a u) := by
  unfold dPut
  rcases DpKs.find e h pr with ⟨h1, h2⟩ | ⟨vd', v', a', u', h1, h2, h3, h4⟩
  · rw [h1, storedH_new h2]
    exact ⟨_, DpKs.append h (.cons e hk hv .nil), Paired.app pr (.cons ⟨rfl, rfl, r⟩ .nil)⟩
  · rw [h1, storedH_old h3]
    exact ⟨_, DpKs.map e hv h, pair_map r pr⟩
end
/-- the dict in a slot: one's own, or a value -/
@[simp] def dictAt (i : Nat) (r : Ev) : Option (List (D × D)) := match r[i]? with
  | some (some (.ownD kds)) => some kds
  | some (some (.val (.dict kds))) => some kds
  | _ => none
@[simp] def dictOwn (i : Nat) (r : Ev) : Option (List (D × D)) := match r[i]? with
  | some (some (.ownD kds)) => some kds
  | _ => none
theorem Ok.dictAt {K : PySem.W.Frag} {C : Ctx} {G H : Hp} {σ : L2.St} {r : Ev} {i : Nat} {kds : List (D × D)} (ok : Ok K C G H σ r) (h : dictAt i r = some kds) : ∃ p o ks, σ[i]? = some (some (.ref p)) ∧ H p = some (DicO p o ks) ∧ DpKs K G ks kds := by
  unfold SL.dictAt at h
  split at h
  · rename_i k e
    cases h
    obtain ⟨v, e1, p, o, ks, rfl, h1, h2, h3, h4⟩ := ok.cell i _ e
    exact ⟨p, o, ks, e1, h3, h4⟩
  · rename_i k e
    cases h
    obtain ⟨v, e1, hv⟩ := ok.cell i _ e
    cases hv with
    | dic a b => exact ⟨_, _, _, e1, ok.sub _ _ a, b⟩
  · cases h
theorem Ok.dictOwn {K : PySem.W.Frag} {C : Ctx} {G H : Hp} {σ : L2.St} {r : Ev} {i : Nat} {kds : List (D × D)} (ok : Ok K C G H σ r) (h : dictOwn i r = some kds) : ∃ p o ks, σ[i]? = some (some (.ref p)) ∧ G p = none ∧ H p = some (DicO p o ks) ∧ DpKs K G ks kds ∧
    ∀ o' ks' kds', DpKs K G ks' kds' → Ok K C G (upd H p (DicO p o' ks')) σ (r.set i (some (.ownD kds'))) := by
  unfold SL.dictOwn at h
  split at h
  · rename_i k e
    cases h
    obtain ⟨v, e1, p, o, ks, rfl, h1, h2, h3, h4⟩ := ok.cell i _ e
    exact ⟨p, o, ks, e1, h2, h3, h4, fun o' ks' kds' hk => ok.write e rfl e1 h2 h3 (.inl h1.1) ⟨p, o', ks', rfl, h1, h2, upd_same, hk⟩ rfl⟩
  · cases h
theorem dict_own {i : Nat} {r : Ev} {kds : List (D × D)} (h : dictOwn i r = some kds) : dictAt i r = some kds := by
  unfold dictOwn at h
  split at h
  · rename_i k e
    cases h
    unfold dictAt
    rw [e]
  · cases h
/-! ### operations -/
section
variable {X : Cx} {pins : List (Addr × Obj)} {σ : L2.St} {H : Hp} {s : Shared} {A : Around} {E : Value → Shared → Prop}
/-- p holds these entries -/
def IsDic (K : PySem.W.Frag) (G H : Hp) (p : Addr) (kds : List (D × D)) : Prop := ∃ o ks, H p = some (DicO p o ks) ∧ DpKs K G ks kds
theorem nroom (hu : A.units + 100 < cLine) : (nestedKind X.prog X.w).room A.in1 := by show A.in1.units + 8 < cLine; rw [Around.in1_units]; omega
theorem q_getItem {p b : Addr} {kds : List (D × D)} {kd vd : D} {k : NestedKey} {Q : Value → Shared → Prop} (hu : A.units + 100 < cLine) (I : Inv X pins σ H s) {G : Hp} (sg : Same G H) (h : IsDic X.K G H p kds) (hk : Dp X.K G (.ref b) kd) (e : nkey kd = some k) (hf : dFind kds kd = some vd)
    (q : ∀ v w' s', Inv X pins σ H s' → RelV v w' → Dp X.K G v vd → Q w' s') : wpAny (model X.prog X.w) A (getItem (.ref p) (.ref b)) Q E s := by
  obtain ⟨o, ks, h1, h2⟩ := h
  obtain ⟨xs, pr, hx⟩ := dic_of I h1 (DpKs.mono sg h2)
  rcases DpKs.find e h2 pr with ⟨f1, _⟩ | ⟨vd', v', a', u', f1, f2, f3, f4⟩
  · rw [hf] at f1; cases f1
  · rw [hf] at f1; cases f1
    exact wpAny_getItem_heap (nroom hu) (nk_is I (Dp.mono sg hk) e) hx f3 (q v' u' _ (I.tok _) f4 f2)
theorem q_in {p b : Addr} {kds : List (D × D)} {kd : D} {k : NestedKey} {Q : Value → Shared → Prop} (hu : A.units + 100 < cLine) (I : Inv X pins σ H s) {G : Hp} (sg : Same G H) (h : IsDic X.K G H p kds) (hk : Dp X.K G (.ref b) kd) (e : nkey kd = some k)
    (q : ∀ s', Inv X pins σ H s' → Q (.bool (dFind kds kd).isSome) s') : wpAny (model X.prog X.w) A (compareOp .In (.ref b) (.ref p)) Q E s := by
  obtain ⟨o, ks, h1, h2⟩ := h
  obtain ⟨g, hz, hm, _⟩ := DicO.at I h1
  obtain ⟨xs, pr, hx⟩ := dic_of I h1 (DpKs.mono sg h2)
  have es : (atKey xs k).isSome = (dFind kds kd).isSome := by
    rcases DpKs.find e h2 pr with ⟨f1, f2⟩ | ⟨vd', v', a', u', f1, f2, f3, f4⟩
    · rw [f1, f2]; rfl
    · rw [f1, f3]; rfl
  refine wpAny_in_heap (nroom hu) (nk_is I (Dp.mono sg hk) e) hm hx ?_
  rw [es]
  exact q _ (I.tok _)
theorem q_notIn {p b : Addr} {kds : List (D × D)} {kd : D} {k : NestedKey} {Q : Value → Shared → Prop} (hu : A.units + 100 < cLine) (I : Inv X pins σ H s) {G : Hp} (sg : Same G H) (h : IsDic X.K G H p kds) (hk : Dp X.K G (.ref b) kd) (e : nkey kd = some k)
    (q : ∀ s', Inv X pins σ H s' → Q (.bool (!(dFind kds kd).isSome)) s') : wpAny (model X.prog X.w) A (compareOp .NotIn (.ref b) (.ref p)) Q E s := by
  obtain ⟨o, ks, h1, h2⟩ := h
  obtain ⟨g, hz, hm, _⟩ := DicO.at I h1
  obtain ⟨xs, pr, hx⟩ := dic_of I h1 (DpKs.mono sg h2)
  have es : (atKey xs k).isSome = (dFind kds kd).isSome := by
    rcases DpKs.find e h2 pr with ⟨f1, f2⟩ | ⟨vd', v', a', u', f1, f2, f3, f4⟩
    · rw [f1, f2]; rfl
    · rw [f1, f3]; rfl
  refine wpAny_notIn_heap (nroom hu) (nk_is I (Dp.mono sg hk) e) hm hx ?_
  rw [es]
  exact q _ (I.tok _)
theorem q_getOr {p b : Addr} {kds : List (D × D)} {kd vd : D} {k : NestedKey} {v : V} {w : Value} {Q : Value → Shared → Prop} (hu : A.units + 100 < cLine) (I : Inv X pins σ H s) {G : Hp} (sg : Same G H) (h : IsDic X.K G H p kds) (hk : Dp X.K G (.ref b) kd) (e : nkey kd = some k) (hv : Dp X.K G v vd) (rv : RelV v w)
    (q : ∀ v w' s', Inv X pins σ H s' → RelV v w' → Dp X.K G v ((dFind kds kd).getD vd) → Q w' s') : wpAny (model X.prog X.w) A (call (.builtin "dict.get") [.ref p, .ref b, w]) Q E s := by
  obtain ⟨o, ks, h1, h2⟩ := h
  obtain ⟨g, hz, hm, _⟩ := DicO.at I h1
  obtain ⟨xs, pr, hx⟩ := dic_of I h1 (DpKs.mono sg h2)
  refine call_meetsIn PySem.F.slot_dict_get hx.typeIs PySem.F.entry_dict_get (PySem.F.args_dict_get_3 _ _ _) (meetsH_dict_get_default (nestedKind X.prog X.w) p b hm w) ⟨nroom hu, k, xs, nk_is I (Dp.mono sg hk) e, hx, ?_⟩
  rcases DpKs.find e h2 pr with ⟨f1, f2⟩ | ⟨vd', v', a', u', f1, f2, f3, f4⟩
  · rw [f2]
    exact q v w _ (I.tok _) rv (by rw [f1]; exact hv)
  · rw [f3]
    exact q v' u' _ (I.tok _) f4 (by rw [f1]; exact f2)
theorem dic_back {P : Program} {w : World} {p : Addr} {h' : Heap} {ks : List KE3} {kds : List (D × D)} {xs : List (NestedKey × Addr × Value)} {K : PySem.W.Frag} {G : Hp} (hk : DpKs K G ks kds) (pr : Paired E3 ks xs) (hx : h'.DictOfH (nestedKind P w) p xs) (hz : ks.length ≤ sizeLine) (hm : (p == sysModules) = false) :
    ∃ o, h'.get? p = some o ∧ DicS p o ks := by
  obtain ⟨o, es, ep, g, ex, hd, he, _, hn⟩ := hx
  exact ⟨o, g, hz, hm, xs, es, ep, pr, ex, hd, by rw [he]; exact (ents w hk pr).symm, hn⟩
theorem dic_ok {P : Program} {w : World} {p : Addr} {h' : Heap} {o : Obj} {ks : List KE3} (g : h'.get? p = some o) (ds : DicS p o ks) : ObjOk P w H h' p (DicO p o ks) :=
  ⟨⟨g, ds⟩, ⟨o, g⟩, fun h1 h2 f k => ⟨k _ f.1, f.2⟩⟩
theorem q_setItem {p b : Addr} {o : Obj} {ks : List KE3} {G : Hp} {kds : List (D × D)} {kd vd : D} {k : NestedKey} {v : V} {u : Value} {Q : Unit → Shared → Prop} (hu : A.units + 100 < cLine) (I : Inv X pins σ H s) (h1 : H p = some (DicO p o ks)) (sg : Same G H) (h2 : DpKs X.K G ks kds) (hk : Dp X.K G (.ref b) kd) (e : nkey kd = some k) (hv : Dp X.K G v vd) (rv : RelV v u)
    (hl : kds.length < sizeLine) (q : ∀ o' ks' s', DpKs X.K G ks' (dPut kds kd vd) → Inv X pins σ (upd H p (DicO p o' ks')) s' → Q () s') : wpAny (model X.prog X.w) A (setItem (.ref p) (.ref b) u) Q E s := by
  obtain ⟨g, hz, hm, _⟩ := DicO.at I h1
  obtain ⟨xs, pr, hx⟩ := dic_of I h1 (DpKs.mono sg h2)
  have lx : ks.length = xs.length := Paired.length pr
  refine wpAny_setItem_heap (hsz := by omega) (nroom hu) (nk_is I (Dp.mono sg hk) e) hx fun h' hx' hs => ?_
  obtain ⟨ks', d1, d2⟩ := DpKs.put e hk hv rv h2 pr
  have lk := DpKs.length d1
  have lp := dPut_len kds kd vd
  obtain ⟨o', g', ds'⟩ := dic_back d1 d2 hx' (by omega) hm
  refine q o' ks' _ d1 ?_
  exact I.write (x := p) (e := p) (by rw [h1]; exact True.intro) (.inl rfl) (fun b' q' hb z => (hs.2 b' hb).trans z) ⟨o', g'⟩ (dic_ok g' ds')
end
end SL
/-! Expressions and statements over dicts. -/
namespace SL
open PySem PySem.Spec PyProof.Rows L2
/-- what an expression leaves behind -/
def Got (K : PySem.W.Frag) (C : Ctx) (σ : L2.St) (G H : Hp) (p : Bool) (d : D) (r' : Ev) (v : V) (H1 : Hp) : Prop := ∃ G1, Ok K C G1 H1 σ r' ∧ Same G G1 ∧ (p = true → Same H H1) ∧ Dp K G1 v d
section
variable {X : Cx} {e a b : Expr} {es : List Expr} {f fa fb fk fx : FE} {g : FA} {p q : Bool} {pos pp py : Pos} {y : Str}
theorem se_got (h : SE X p e f) {pins : List (Addr × Obj)} {s : Shared} {σ : L2.St} {C : Ctx} {G H : Hp} {r r' : Ev} {d : D} (I : Inv X pins σ H s) (ok : Ok X.K C G H σ r) (hf : f r = some (d, r')) :
    wpAny (model X.prog X.w) X.A (eval e X.env) (EP X pins σ (Got X.K C σ G H p d r')) X.xe s :=
  h.run pins s σ H _ I ⟨C, G, r, d, r', ok, hf, fun v G' H' o' s' m x => ⟨G', o', s', m, x⟩⟩
/-- a tuple that is a key -/
def tkey (d : D) : Option NestedKey := match d with
  | .tuple ds => nkey (.tuple ds)
  | _ => none
theorem tkey_ref {K : PySem.W.Frag} {G : Hp} {d : D} {k : NestedKey} {v : V} (h : tkey d = some k) (x : Dp K G v d) : ∃ b, v = .ref b ∧ nkey d = some k := by
  unfold tkey at h
  split at h
  · obtain ⟨b, e⟩ := key_ref x rfl
    exact ⟨b, e, h⟩
  · cases h
/-- d[k] -/
def fDget (i : Nat) (fk : FE) : FE := fun r => (dictAt i r).bind fun _ => (fk r).bind fun x => (dictAt i x.2).bind fun kds => (tkey x.1).bind fun _ => (dFind kds x.1).map fun d => (d, x.2)
@[simp] theorem fDget_r (i : Nat) (fk : FE) (r : Ev) : fDget i fk r = (dictAt i r).bind fun _ => (fk r).bind fun x => (dictAt i x.2).bind fun kds => (tkey x.1).bind fun _ => (dFind kds x.1).map fun d => (d, x.2) := rfl
theorem se_dget (pl : Pl X) (i : Nat) (hk : SE X p a fk) (hN : X.N[i]? = some y := by rfl) (hv : Vis X.env.scope y := by first | exact Or.inl rfl | exact Or.inr (Or.inl rfl) | exact Or.inr (Or.inr rfl)) (hd : (y == ("__debug__" : Str)) = false := by decide)
    (hcd : (y == ("__classdict__" : Str)) = false := by decide) (hs : NoSl a := by exact fun _ _ => rfl) : SE X p (.Subscript (.Name y py) a pos) (fDget i fk) := ⟨fun pins s σ H Q I ⟨C, G, r, d, r', ok, hf, kk⟩ => by
  unfold fDget at hf
  obtain ⟨kds0, h0, hf⟩ := Option.bind_eq_some_iff.mp hf
  obtain ⟨⟨x, r1⟩, h1, hf⟩ := Option.bind_eq_some_iff.mp hf
  obtain ⟨kds, h2, hf⟩ := Option.bind_eq_some_iff.mp hf
  obtain ⟨k, h3, hf⟩ := Option.bind_eq_some_iff.mp hf
  obtain ⟨d', h4, h5⟩ := Option.map_eq_some_iff.mp hf
  cases h5
  obtain ⟨l, o0, ks0, e1, _, _⟩ := ok.dictAt h0
  refine subD_of PySem.F.slot_dict_getitem.lookup hs (thn ((pe_var hN hv hd hcd).run pins s σ H (fun x H1 => x = .ref l ∧ H1 = H) I ⟨_, e1, rfl, rfl⟩) fun u s1 ⟨x', H1, I1, rx, ex, eH⟩ => ?_)
  subst ex eH
  obtain rfl : u = Value.ref l := rx
  refine thn (se_got hk I1 ok h1) fun iv s2 ⟨v, H2, I2, ry, G2, o2, s2', m2, x2⟩ => ?_
  obtain ⟨l', o, ks, e2, h6, h7⟩ := o2.dictAt h2
  rw [e1] at e2; cases e2
  obtain ⟨b, rfl, e3⟩ := tkey_ref h3 x2
  obtain rfl : iv = Value.ref b := ry
  refine ⟨⟨o, (DicO.at I2 h6).1, (DicO.at I2 h6).2.2.2.choose_spec.choose_spec.choose_spec.2.1.1⟩, ?_⟩
  exact q_getItem pl.units I2 o2.sub ⟨o, ks, h6, h7⟩ x2 e3 h4 fun v' w' s3 I3 r3 x3 => ⟨v', H2, I3, r3, kk v' G2 H2 o2 s2' m2 x3⟩⟩
/-- k in d -/
def fDin (neg : Bool) (i : Nat) (fk : FE) : FE := fun r => (fk r).bind fun x => (dictAt i x.2).bind fun kds => (tkey x.1).map fun _ => (.bool (neg != (dFind kds x.1).isSome), x.2)
@[simp] theorem fDin_r (neg : Bool) (i : Nat) (fk : FE) (r : Ev) : fDin neg i fk r = (fk r).bind fun x => (dictAt i x.2).bind fun kds => (tkey x.1).map fun _ => (.bool (neg != (dFind kds x.1).isSome), x.2) := rfl
def tDin (K : PySem.W.Frag) (p : Bool) (neg : Bool) (i : Nat) (fk : FE) : TE := tE K p (fDin neg i fk)
theorem sc_din (pl : Pl X) (i : Nat) (hk : SE X p a fk) (hN : X.N[i]? = some y := by rfl) (hv : Vis X.env.scope y := by first | exact Or.inl rfl | exact Or.inr (Or.inl rfl) | exact Or.inr (Or.inr rfl)) (hd : (y == ("__debug__" : Str)) = false := by decide)
    (hcd : (y == ("__classdict__" : Str)) = false := by decide) : PC X .In a (.Name y py) (tE X.K p (fDin false i fk)) := ⟨fun pins s σ H Q I ⟨C, G, r, d, r', ok, hf, kk⟩ => by
  unfold fDin at hf
  obtain ⟨⟨x, r1⟩, h1, hf⟩ := Option.bind_eq_some_iff.mp hf
  obtain ⟨kds, h2, hf⟩ := Option.bind_eq_some_iff.mp hf
  obtain ⟨k, h3, h5⟩ := Option.map_eq_some_iff.mp hf
  cases h5
  refine thn (se_got hk I ok h1) fun iv s1 ⟨v, H1, I1, ry, G1, o1, s1', m1, x1⟩ => ?_
  obtain ⟨l, o, ks, e2, h6, h7⟩ := o1.dictAt h2
  refine thn ((pe_var hN hv hd hcd).run pins s1 σ H1 (fun x H2 => x = .ref l ∧ H2 = H1) I1 ⟨_, e2, rfl, rfl⟩) fun u s2 ⟨x', H2, I2, rx, ex, eH⟩ => ?_
  subst ex eH
  obtain rfl : u = Value.ref l := rx
  obtain ⟨b, rfl, e3⟩ := tkey_ref h3 x1
  obtain rfl : iv = Value.ref b := ry
  exact q_in pl.units I2 o1.sub ⟨o, ks, h6, h7⟩ x1 e3 fun s3 I3 => ⟨.bl _, H2, I3, rfl, kk _ G1 H2 o1 s1' m1 (by rw [Bool.false_bne]; exact .bl _)⟩⟩
theorem sc_dnotin (pl : Pl X) (i : Nat) (hk : SE X p a fk) (hN : X.N[i]? = some y := by rfl) (hv : Vis X.env.scope y := by first | exact Or.inl rfl | exact Or.inr (Or.inl rfl) | exact Or.inr (Or.inr rfl)) (hd : (y == ("__debug__" : Str)) = false := by decide)
    (hcd : (y == ("__classdict__" : Str)) = false := by decide) : PC X .NotIn a (.Name y py) (tE X.K p (fDin true i fk)) := ⟨fun pins s σ H Q I ⟨C, G, r, d, r', ok, hf, kk⟩ => by
  unfold fDin at hf
  obtain ⟨⟨x, r1⟩, h1, hf⟩ := Option.bind_eq_some_iff.mp hf
  obtain ⟨kds, h2, hf⟩ := Option.bind_eq_some_iff.mp hf
  obtain ⟨k, h3, h5⟩ := Option.map_eq_some_iff.mp hf
  cases h5
  refine thn (se_got hk I ok h1) fun iv s1 ⟨v, H1, I1, ry, G1, o1, s1', m1, x1⟩ => ?_
  obtain ⟨l, o, ks, e2, h6, h7⟩ := o1.dictAt h2
  refine thn ((pe_var hN hv hd hcd).run pins s1 σ H1 (fun x H2 => x = .ref l ∧ H2 = H1) I1 ⟨_, e2, rfl, rfl⟩) fun u s2 ⟨x', H2, I2, rx, ex, eH⟩ => ?_
  subst ex eH
  obtain rfl : u = Value.ref l := rx
  obtain ⟨b, rfl, e3⟩ := tkey_ref h3 x1
  obtain rfl : iv = Value.ref b := ry
  exact q_notIn pl.units I2 o1.sub ⟨o, ks, h6, h7⟩ x1 e3 fun s3 I3 => ⟨.bl _, H2, I3, rfl, kk _ G1 H2 o1 s1' m1 (by rw [Bool.true_bne]; exact .bl _)⟩⟩
theorem se_din {op : CmpOp} {neg : Bool} {i : Nat} (h : PC X op a (.Name y py) (tE X.K p (fDin neg i fk))) (hm : behindInMarks op (.Name y py) = false := by rfl) : SE X p (.Compare a [op] [.Name y py] pos) (fDin neg i fk) := pe_cmp h hm
theorem st_din {op : CmpOp} {neg : Bool} {i : Nat} (h : PC X op a (.Name y py) (tE X.K p (fDin neg i fk))) (hm : behindInMarks op (.Name y py) = false := by rfl) : ST X p (.Compare a [op] [.Name y py] pos) (gT (fDin neg i fk)) := PT.weak (pt_cmp h hm) fun σ H Q h => t_bool (fun Q' q => q) h
/-- d.get(k, x) -/
def fDgetOr (i : Nat) (fk fx : FE) : FE := fun r => (dictAt i r).bind fun _ => (fk r).bind fun x => (fx x.2).bind fun y => (dictAt i y.2).bind fun kds => (tkey x.1).map fun _ => ((dFind kds x.1).getD y.1, y.2)
@[simp] theorem fDgetOr_r (i : Nat) (fk fx : FE) (r : Ev) : fDgetOr i fk fx r = (dictAt i r).bind fun _ => (fk r).bind fun x => (fx x.2).bind fun y => (dictAt i y.2).bind fun kds => (tkey x.1).map fun _ => ((dFind kds x.1).getD y.1, y.2) := rfl
theorem se_dgetOr {apos cpos : Pos} (pl : Pl X) (i : Nat) (hk : SE X p a fk) (hx : SE X q b fx) (hN : X.N[i]? = some y := by rfl) (hv : Vis X.env.scope y := by first | exact Or.inl rfl | exact Or.inr (Or.inl rfl) | exact Or.inr (Or.inr rfl)) (hd : (y == ("__debug__" : Str)) = false := by decide)
    (hcd : (y == ("__classdict__" : Str)) = false := by decide) (m : M2 X (.Name y py) "get" apos a b cpos := by exact ⟨rfl, rfl, rfl, rfl⟩) : SE X (p && q) (.Call (.Attribute (.Name y py) "get" apos) [a, b] [] cpos) (fDgetOr i fk fx) := ⟨fun pins s σ H Q I ⟨C, G, r, d, r', ok, hf, kk⟩ => by
  unfold fDgetOr at hf
  obtain ⟨kds0, h0, hf⟩ := Option.bind_eq_some_iff.mp hf
  obtain ⟨⟨x, r1⟩, h1, hf⟩ := Option.bind_eq_some_iff.mp hf
  obtain ⟨⟨z, r2⟩, hz, hf⟩ := Option.bind_eq_some_iff.mp hf
  obtain ⟨kds, h2, hf⟩ := Option.bind_eq_some_iff.mp hf
  obtain ⟨k, h3, h5⟩ := Option.map_eq_some_iff.mp hf
  cases h5
  obtain ⟨l, o0, ks0, e1, e0, _⟩ := ok.dictAt h0
  refine wpAny_Call_method m.base m.few m.line PySem.F.plainAttrs_dict PySem.F.slot_dict_get PySem.F.type_dict_get (thn ((pe_var hN hv hd hcd).run pins s σ H (fun x H1 => x = .ref l ∧ H1 = H) I ⟨_, e1, rfl, rfl⟩) fun u s1 ⟨x', H1, I1, rx, ex, eH⟩ => ?_)
  subst ex eH
  obtain rfl : u = Value.ref l := rx
  obtain ⟨g, _, _, _, _, _, _, ed, _⟩ := DicO.at I1 e0
  refine ⟨⟨o0, g, ed.1⟩, fun b' q' => by cases q'; exact ⟨o0, g, ed.2.1⟩, ?_⟩
  rw [m.trees]
  refine Calls.callWith_builtin rfl (Calls.evalArgs_plain (Calls.spliced_cons (thn (se_got hk I1 ok h1) fun iv s2 ⟨v, H2, I2, ry, G2, o2, s2', m2, x2⟩ =>
    Calls.spliced_cons (thn (se_got hx I2 o2 hz) fun fv s3 ⟨v3, H3, I3, rz, G3, o3, s3', m3, x3⟩ => Calls.spliced_nil ?_))))
  obtain ⟨l', o, ks, e2, h6, h7⟩ := o3.dictAt h2
  rw [e1] at e2; cases e2
  obtain ⟨b', rfl, e3⟩ := tkey_ref h3 x2
  obtain rfl : iv = Value.ref b' := ry
  exact q_getOr pl.units I3 o3.sub ⟨o, ks, h6, h7⟩ (Dp.mono s3' x2) e3 x3 rz fun v' w' s4 I4 r4 x4 => ⟨v', H3, I4, r4, kk v' G3 H3 o3 (s2'.trans s3') (fun mm => (m2 (and1 mm)).trans (m3 (and2 mm))) x4⟩⟩
/-- d[k] = e -/
def sDput (i : Nat) (fk f : FE) : FS := fun r => (f r).bind fun y => (dictOwn i y.2).bind fun _ => (fk y.2).bind fun x => (dictOwn i x.2).bind fun kds => (tkey x.1).bind fun _ => if kds.length < sizeLine then some (.nx (x.2.set i (some (.ownD (dPut kds x.1 y.1))))) else none
@[simp] theorem sDput_r (i : Nat) (fk f : FE) (r : Ev) : sDput i fk f r = (f r).bind fun y => (dictOwn i y.2).bind fun _ => (fk y.2).bind fun x => (dictOwn i x.2).bind fun kds => (tkey x.1).bind fun _ => if kds.length < sizeLine then some (.nx (x.2.set i (some (.ownD (dPut kds x.1 y.1))))) else none := rfl
theorem ss_dput {pos' : Pos} (pl : Pl X) (i : Nat) (he : SE X p e f) (hk : SE X q a fk) (hN : X.N[i]? = some y := by rfl) (hv : Vis X.env.scope y := by first | exact Or.inl rfl | exact Or.inr (Or.inl rfl) | exact Or.inr (Or.inr rfl)) (hd : (y == ("__debug__" : Str)) = false := by decide)
    (hcd : (y == ("__classdict__" : Str)) = false := by decide) (hs : swapsWith e (some (.Subscript (.Name y py) a pos')) pos.line X.env = pure false := by rfl) : SS X (.Assign [.Subscript (.Name y py) a pos'] e pos) (sDput i fk f) := ⟨fun pins s σ H E I ⟨C, G, r, oo, ok, hf, kk⟩ => by
  unfold sDput at hf
  obtain ⟨⟨yd, r1⟩, h1, hf⟩ := Option.bind_eq_some_iff.mp hf
  obtain ⟨kds0, h0, hf⟩ := Option.bind_eq_some_iff.mp hf
  obtain ⟨⟨x, r2⟩, h2, hf⟩ := Option.bind_eq_some_iff.mp hf
  obtain ⟨kds, h3, hf⟩ := Option.bind_eq_some_iff.mp hf
  obtain ⟨k, h4, hf⟩ := Option.bind_eq_some_iff.mp hf
  split at hf
  · rename_i hl
    cases hf
    refine wpAny_Assign_Subscript (thn (se_got he I ok h1) fun ev s1 ⟨v1, H1, I1, rv, G1, o1, s1', m1, x1⟩ => ?_) hs
    obtain ⟨l, ob0, ks0, e1, _⟩ := o1.dictOwn h0
    refine thn ((pe_var hN hv hd hcd).run pins s1 σ H1 (fun x H2 => x = .ref l ∧ H2 = H1) I1 ⟨_, e1, rfl, rfl⟩) fun u s2 ⟨x', H2, I2, rx, ex, eH⟩ => ?_
    subst ex eH
    obtain rfl : u = Value.ref l := rx
    refine thn (se_got hk I2 o1 h2) fun iv s3 ⟨v3, H3, I3, ry, G3, o3, s3', m3, x3⟩ => ?_
    obtain ⟨l', ob, ks, e2, hg, h6, h7, put⟩ := o3.dictOwn h3
    rw [e1] at e2; cases e2
    obtain ⟨b', rfl, e3⟩ := tkey_ref h4 x3
    obtain rfl : iv = Value.ref b' := ry
    exact q_setItem pl.units I3 h6 o3.sub h7 x3 e3 (Dp.mono s3' x1) rv hl fun o' ks' s4 d4 I4 => ⟨σ, _, I4, kk σ G3 _ (put o' ks' _ d4) (s1'.trans s3')⟩
  · cases hf⟩
/-! ### new dicts -/
abbrev FDc := Ev → Option (List (D × D) × Ev)
def tDc (K : PySem.W.Frag) (pu : Bool) (f : FDc) : TE := fun σ H Q => ∃ C G r d r', Ok K C G H σ r ∧ f r = some (d, r') ∧
  ∀ p o ks G' H', Ok K C G' H' σ r' → Same G G' → (pu = true → Same H H') → NewX K C G' H' σ r' p (DicO p o ks) → DpKs K G' ks d → Q (.ref p) H'
abbrev SDc (X : Cx) (pu : Bool) (e : Expr) (f : FDc) : Prop := PE X e (tDc X.K pu f)
def fDc (g : FDc) : FE := fun r => (g r).map fun p => (.dict p.1, p.2)
@[simp] theorem fDc_r (g : FDc) (r : Ev) : fDc g r = (g r).map fun p => (.dict p.1, p.2) := rfl
theorem se_of_dc {gd : FDc} (h : SDc X p e gd) : SE X p e (fDc gd) := PE.weak h fun σ H Q ⟨C, G, r, d, r', ok, hf, k⟩ => by
  unfold fDc at hf
  obtain ⟨⟨ds, r1⟩, hg, h2⟩ := Option.map_eq_some_iff.mp hf
  cases h2
  exact ⟨C, G, r, ds, r1, ok, hg, fun p o ks G' H' ok' s m n x => k _ (upd G' p (DicO p o ks)) H' (n.freeze ok') (s.trans (same_laid n.2.2.1)) m (.dic upd_same (DpKs.mono (same_laid n.2.2.1) x))⟩
def sSetD (i : Nat) (g : FDc) : FS := fun r => (g r).map fun x => .nx (x.2.set i (some (.ownD x.1)))
@[simp] theorem sSetD_r (i : Nat) (g : FDc) (r : Ev) : sSetD i g r = (g r).map fun x => .nx (x.2.set i (some (.ownD x.1))) := rfl
theorem Ok.setD {K : PySem.W.Frag} {C : Ctx} {G H : Hp} {σ : L2.St} {r : Ev} {i : Nat} {pp : Addr} {o : Obj} {ks : List KE3} {kds : List (D × D)} (ok : Ok K C G H σ r) (n : NewX K C G H σ r pp (DicO pp o ks)) (h : DpKs K G ks kds) : Ok K C G H (σ.set i (some (.ref pp))) (r.set i (some (.ownD kds))) :=
  ok.set (c := .ownD kds) ⟨pp, o, ks, rfl, ⟨n.1, n.2.1⟩, n.2.2.1, n.2.2.2.1, h⟩ fun _ j c' e o _ => n.2.2.2.2 j c' e o
theorem ss_setD {i : Nat} {gd : FDc} {x : Str} {px : Pos} (hN : X.N.Nodup) (hi : X.N[i]? = some x) (hx : Loc X.env.scope x) (he : SDc X p e gd) (hf : X.fn x = true ∨ X.env.scope.names.lookup x = some .local := by first | exact .inl rfl | exact .inr rfl | assumption) (hs : swapsWith e (some (.Name x px)) pos.line X.env = pure false := by rfl) :
    SS X (.Assign [.Name x px] e pos) (sSetD i gd) := PS.weak (ps_set hN hi hx he hs hf) fun E σ H ⟨C, G, r, o, ok, hf, k⟩ => by
  unfold sSetD at hf
  obtain ⟨⟨d, r1⟩, h1, h2⟩ := Option.map_eq_some_iff.mp hf
  cases h2
  exact ⟨C, G, r, d, r1, ok, h1, fun l ob ks G' H' o' s m n x => k _ G' H' (o'.setD n x) s⟩
theorem dicS_nil {a : Addr} (h : (a == sysModules) = false) : DicS a { cls := .type "dict", data := .dict #[] } [] := ⟨Nat.zero_le _, h, [], #[], 0, .nil, ⟨rfl, rfl, rfl⟩, rfl, rfl, List.nodup_nil⟩
/-- {} -/
def dNil : FDc := fun r => some ([], r)
@[simp] theorem dNil_r (r : Ev) : dNil r = some ([], r) := rfl
theorem sd_nil : SDc X true (.Dict [] [] pos) dNil := ⟨fun pins s σ H Q I ⟨C, G, r, d, r', ok, hf, kk⟩ => by
  cases hf
  have hn := I.hok.fresh (Nat.le_refl s.heap.objs.size)
  have hm : (s.heap.objs.size == sysModules) = false := beq_eq_false_iff_ne.mpr (Ne.symm (Nat.ne_of_lt I.big))
  obtain ⟨o1, n1⟩ := ok.newX (o := DicO s.heap.objs.size { cls := .type "dict", data := .dict #[] } []) hn
  exact wpAny_Dict_empty ⟨.ref s.heap.objs.size, _, I.laid (a := s.heap.objs.size) (o := DicO s.heap.objs.size { cls := .type "dict", data := .dict #[] } []) (t' := s.toks) (fun _ _ q => Heap.get?_push_of_some _ q) (Nat.le_refl _) (dic_ok (Heap.get?_push_size _ rfl) (dicS_nil hm)), rfl,
    kk _ _ _ G _ o1 (Same.refl _) (fun _ => same_laid hn) n1 .nil⟩⟩
/-- {k: v} -/
def dOne (fk f : FE) : FDc := fun r => (fk r).bind fun x => (f x.2).bind fun y => (tkey x.1).map fun _ => ([(x.1, y.1)], y.2)
@[simp] theorem dOne_r (fk f : FE) (r : Ev) : dOne fk f r = (fk r).bind fun x => (f x.2).bind fun y => (tkey x.1).map fun _ => ([(x.1, y.1)], y.2) := rfl
end
end SL
/-! Walks over dicts; a dict written with one pair. -/
namespace SL
open PySem PySem.Spec PyProof.Rows L2
section
variable {X : Cx} {e a b : Expr} {es : List Expr} {f fa fb fk fx : FE} {g : FA} {p q : Bool} {pos pp py : Pos} {y : Str}
theorem dict_pairsH {prog : Program} {w : World} {A : Around} {E : Value → Shared → Prop} {s : Shared} {env : PySem.Env} {keys : List (Option Expr)} {values : List Expr} {pairs : List (Sem Value × Sem Value)} {Q : Value → Shared → Prop} (hu : (nestedKind prog w).room A)
    (hshape : (evalEachOpt keys env).zip ((evalEach values env).map fun v => do let x ← v; standAt pos; pure x) = pairs.map fun p => (some p.1, p.2)) (h0 : pairs ≠ []) (hlen : pairs.length ≤ 15)
    (h : wpAny (model prog w) A (evalPairs pairs) (fun vs s₁ => ∃ ps, CarriesH (nestedKind prog w) s₁.heap vs ps ∧ s₁.heap.DictOfH (nestedKind prog w) s.heap.objs.size [] ∧
      ∀ h' tk, h'.DictOfH (nestedKind prog w) s.heap.objs.size (storedAllH [] ps) → Heap.SameBut s.heap.objs.size s₁.heap h' → Q (.ref s.heap.objs.size) { s₁ with heap := h', toks := tk }) E
      { s with heap := s.heap.push { cls := .type "dict", data := .dict #[] } }) :
    wpAny (model prog w) A (eval (.Dict keys values pos) env) Q E s := by
  rw [arm_eval_Dict, hshape, dictDisplay_pairs pairs h0 (by omega)]
  exact wpAny_bind (wpAny_standAt (wpAny_bind (wpAny_subDictH (knd := nestedKind prog w) (Q := fun d s' => wpAny (model prog w) A (pure (Value.ref d)) Q E s') hu hlen
    (wpAny_mono h (fun vs s₁ h₁ => by obtain ⟨ps, hc, hm, hq⟩ := h₁; exact ⟨ps, hc, hm, fun h' tk a b => wpAny_pure (hq h' tk a b)⟩) fun _ _ e => e))))
theorem sd_one (pl : Pl X) (hk : SE X p a fk) (hv : SE X q b f) : SDc X (p && q) (.Dict [some a] [b] pos) (dOne fk f) := ⟨fun pins s σ H Q I ⟨C, G, r, d, r', ok, hf, kk⟩ => by
  unfold dOne at hf
  obtain ⟨⟨x, r1⟩, h1, hf⟩ := Option.bind_eq_some_iff.mp hf
  obtain ⟨⟨z, r2⟩, h2, hf⟩ := Option.bind_eq_some_iff.mp hf
  obtain ⟨k, h3, h5⟩ := Option.map_eq_some_iff.mp hf
  cases h5
  have hn := I.hok.fresh (Nat.le_refl s.heap.objs.size)
  have hm : (s.heap.objs.size == sysModules) = false := beq_eq_false_iff_ne.mpr (Ne.symm (Nat.ne_of_lt I.big))
  obtain ⟨o1, n1⟩ := ok.newX (o := DicO s.heap.objs.size { cls := .type "dict", data := .dict #[] } []) hn
  have I1 := I.laid (a := s.heap.objs.size) (o := DicO s.heap.objs.size { cls := .type "dict", data := .dict #[] } []) (t' := s.toks) (fun _ _ q => Heap.get?_push_of_some _ q) (Nat.le_refl _) (dic_ok (Heap.get?_push_size _ rfl) (dicS_nil hm))
  have f0 : C.G0 s.heap.objs.size = none := by
    cases z : C.G0 s.heap.objs.size with
    | none => rfl
    | some u => rw [ok.sub _ _ (ok.g0 _ _ z)] at hn; cases hn
  have oh := o1.holdX n1
  refine dict_pairsH (pairs := [(eval a X.env, do let x ← eval b X.env; standAt pos; pure x)]) (by show X.A.units + 8 < cLine; have := pl.units; omega) (by rfl) (by intro z; cases z) (by rw [List.length_singleton]; decide) ?_
  refine evalPairs_cons (thn (se_got hk I1 oh h1) fun u s1 ⟨v, H1, I2, ru, G1, o2, s1', m1, x1⟩ => wpAny_bind (thn (se_got hv I2 o2 h2) fun w2 s2 ⟨v2, H2, I3, rw2, G2, o3, s2', m2, x2⟩ => wpAny_bind (wpAny_standAt (wpAny_pure (evalPairs_nil ?_)))))
  obtain ⟨bb, rfl, e3⟩ := tkey_ref h3 x1
  obtain rfl : u = Value.ref bb := ru
  obtain ⟨o4, n4⟩ := o3.unholdX n1.1 n1.2.1 f0
  have kx := nk_is I3 (Dp.mono (s2'.trans o3.sub) x1) e3
  obtain ⟨xs, pr, hx⟩ := dic_of I3 n4.2.2.2.1 DpKs.nil
  cases pr
  refine ⟨[(k, bb, w2)], ⟨rfl, rfl, kx, trivial⟩, hx, fun h' tk hx' hs => ?_⟩
  have dk : DpKs X.K G2 [(k, bb, v2)] [(x, z)] := .cons e3 (Dp.mono s2' x1) x2 .nil
  obtain ⟨ob, g', ds'⟩ := dic_back dk (Paired.cons ⟨rfl, rfl, rw2⟩ .nil) hx' (by show 1 ≤ sizeLine; decide) hm
  have mu : Mut (H2 s.heap.objs.size) := by rw [n4.2.2.2.1]; exact True.intro
  have I5 := I3.write (x := s.heap.objs.size) (e := s.heap.objs.size) (t' := tk) mu (.inl rfl) (fun b' q' hb z => (hs.2 b' hb).trans z) ⟨ob, g'⟩ (dic_ok g' ds')
  obtain ⟨o6, n6⟩ := n4.grow o4 (ho' := DicO s.heap.objs.size ob [(k, bb, v2)])
  exact ⟨.ref s.heap.objs.size, _, I5, rfl, kk _ _ _ G2 _ o6 (s1'.trans s2') (fun mm => by
    intro a' u' e'
    have ne : a' ≠ s.heap.objs.size := ne_of_none e' hn
    rw [upd_ne ne]
    exact (m2 (and2 mm)) _ _ ((m1 (and1 mm)) _ _ (by rw [upd_ne ne]; exact e'))) n6 dk⟩⟩
end
end SL
/-! Walks over dicts: keys, items; over one's own dict. -/
namespace SL
open PySem PySem.Spec PyProof.Rows L2
def Itq (p : Addr) (o : Obj) (ks : List KE3) : It :=
  ⟨fun i H => H p = some (DicO p o ks) ∧ i < ks.length, fun i H x H' => H' = H ∧ ∃ k a v, ks[i]? = some (k, a, v) ∧ x = .ref a, fun i H => H p = some (DicO p o ks) ∧ ks.length ≤ i⟩
def Itqi (p : Addr) (o : Obj) (ks : List KE3) : It :=
  ⟨fun i H => H p = some (DicO p o ks) ∧ i < ks.length, fun i H x H' => ∃ T k a v, ks[i]? = some (k, a, v) ∧ x = .ref T ∧ H T = none ∧ H' = upd H T (.tup [.ref a, v]), fun i H => H p = some (DicO p o ks) ∧ ks.length ≤ i⟩
theorem e3_nth {ks : List KE3} {xs : List (NestedKey × Addr × Value)} (pr : Paired E3 ks xs) : ∀ (i : Nat) (h : i < ks.length) (h' : i < xs.length), E3 ks[i] xs[i] := by
  induction pr with
  | nil => exact fun i h => absurd h (Nat.not_lt_zero _)
  | cons r _ ih =>
    rintro (_ | j) h h'
    · exact r
    · exact ih j (Nat.lt_of_succ_lt_succ h) (Nat.lt_of_succ_lt_succ h')
/-- the entries of a dict of ours, by place -/
theorem dic_at {p : Addr} {o : Obj} {ks : List KE3} {es : Array DictEntry} {ep : Nat} (h : DicS p o ks) (hd : o.data = .dict es ep) : es.size = ks.length ∧ ∀ (i : Nat) (hi : i < es.size), ∃ k a v, ks[i]? = some (k, a, v) ∧ es[i].key = Value.ref a ∧ RelV v es[i].val := by
  obtain ⟨_, _, xs, es', ep', pr, rest⟩ := h
  obtain ⟨hd', he⟩ := rest.2
  cases hd.symm.trans hd'
  replace he := he.1
  clear rest
  have hz : es.size = xs.length := by simpa using congrArg List.length he
  refine ⟨hz.trans (Paired.length pr).symm, fun i hi => ?_⟩
  have hx : i < xs.length := hz ▸ hi
  have hk : i < ks.length := by rw [Paired.length pr]; exact hx
  have key : E3 ks[i] xs[i] := e3_nth pr i hk hx
  have en : es[i] = entry0 xs[i] := by
    have q := congrArg (fun l => l[i]?) he
    simpa [hi, hx] using q
  refine ⟨ks[i].1, ks[i].2.1, ks[i].2.2, List.getElem?_eq_getElem hk, ?_, ?_⟩
  · rw [en, key.2.1]; rfl
  · rw [en]; exact key.2.2
theorem dic_ents {p : Addr} {o : Obj} {ks : List KE3} {es : Array DictEntry} {ep : Nat} (h : DicS p o ks) (hd : o.data = .dict es ep) : es.size = ks.length ∧ ∀ (i : Nat) (k : NestedKey) (a : Addr) (v : V), ks[i]? = some (k, a, v) → ∃ en : DictEntry, es[i]? = some en ∧ en.key = Value.ref a ∧ RelV v en.val := by
  obtain ⟨sz, at1⟩ := dic_at h hd
  refine ⟨sz, fun i k a v q => ?_⟩
  have hi : i < es.size := sz ▸ (List.getElem?_eq_some_iff.mp q).1
  obtain ⟨k', a', v', q', z⟩ := at1 i hi
  cases q.symm.trans q'
  exact ⟨es[i], Array.getElem?_eq_getElem hi, z⟩
section
variable {P : Program} {w : World} {K : PySem.W.Frag} {tg : Expr} {d : Addr} {o : Obj} {es : Array DictEntry} {ep : Nat}
/-- a walk that the library tells as GoesN, over one record I, serves here; B is what stands still outside the record -/
theorem turn_of {J : It} {I : Addr} {fp : List Addr} {n : Nat} {Y : Nat → Heap → Value → Heap → Prop} {U : Nat → Heap → Prop} {B : Heap → Prop}
    (held : ∀ i h, U i h → ∃ r, h.get? I = some r ∧ (∀ v, r.data ≠ .cell v) ∧ ∀ h', h'.get? I = some r → U i h')
    (own : ∀ (A : Around) i (s : Shared) (Q E : Value → Shared → Prop), U i s.heap → Q (.ref I) s → wpAny (model P w) A (pyIter (.ref I)) Q E s)
    (G : ∀ A : Around, A.handled = none → GoesN P w A tg I fp [I] n Y (fun i h => U i h ∧ B h))
    (there : ∀ {X : Cx} {pins σ H s}, Inv X pins σ H s → ∀ i, (J.go i H → i < n ∧ B s.heap) ∧ (J.stop i H → n ≤ i ∧ B s.heap))
    (gives : ∀ {X : Cx} {pins σ H s}, X.prog = P → X.w = w → Inv X pins σ H s → FpOk X pins H I → ∀ i v h' tk, J.go i H → Y i s.heap v h' → U (i + 1) h' → (∀ b r, b ∉ [I] → s.heap.get? b = some r → h'.get? b = some r) →
      ∃ x H', Inv X pins σ H' { s with heap := h', toks := tk } ∧ RelV x v ∧ J.yld i H x H' ∧ H' I = none) :
    Turn P w K tg J [I] I (fun i h => i ≤ n ∧ U i h) := by
  constructor
  case mem => exact List.mem_singleton.mpr rfl
  case obj =>
    rintro i h ⟨_, u⟩ b hb
    cases List.mem_singleton.mp hb
    exact (held i h u).imp fun r q => ⟨q.1, q.2.1⟩
  case keep =>
    rintro i h h' ⟨le, u⟩ k
    obtain ⟨r, q1, _, q3⟩ := held i h u
    exact ⟨le, q3 h' (k I (List.mem_singleton.mpr rfl) r q1)⟩
  case self => exact fun A i s Q E u q => own A i s Q E u.2 q
  case item =>
    intro X eP eW _ hc i pins s σ H E iv fo ⟨_, u⟩ g
    obtain ⟨lt, bs⟩ := (there iv i).1 g
    refine (G X.A (iv.ok.hd hc)).goes i s _ E lt ⟨u, bs⟩ fun v h' tk y st kp _ => ?_
    obtain ⟨x, H', a1, a2, a3, a4⟩ := gives eP eW iv (fo I (List.mem_singleton.mpr rfl)) i v h' tk g y st.1 kp
    exact ⟨x, H', a1, a2, a3, ⟨lt, st.1⟩, fun b hb => by cases List.mem_singleton.mp hb; exact a4⟩
  case done =>
    intro X _ _ _ hc i pins s σ H E iv fo ⟨le, u⟩ g
    obtain ⟨ge, bs⟩ := (there iv i).2 g
    cases Nat.le_antisymm le ge
    exact (G X.A (iv.ok.hd hc)).stops s _ E ⟨u, bs⟩ fun h' tk kp _ => iv.turnedL kp fo
theorem raw_there {X : Cx} {pins σ H s} {ks : List KE3} (hod : o.data = .dict es ep) (iv : Inv X pins σ H s) (h : H d = some (DicO d o ks)) : s.heap.DictRaw d es ep ∧ es.size = ks.length ∧ ∀ (i : Nat) (hi : i < es.size), ∃ k a v, ks[i]? = some (k, a, v) ∧ es[i].key = Value.ref a ∧ RelV v es[i].val := by
  obtain ⟨at1, sh⟩ := DicO.at iv h
  have ents := dic_at sh hod
  obtain ⟨_, _, _, _, _, _, ex, _⟩ := sh
  exact ⟨⟨o, at1, ex, hod⟩, ents⟩
theorem turn_qkeys {ks : List KE3} {it : Addr} (hne : d ≠ it) (hod : o.data = .dict es ep) : Turn P w K tg (Itq d o ks) [it] it (fun i h => i ≤ es.size ∧ h.IsKeyIter it d i es.size ep) := by
  refine turn_of (B := fun h => h.DictRaw d es ep) ?_ (fun A i s Q E u q => wpAny_pyIter_keyiter u q) (fun A hh => (Goes.ofWalks (Walks.rawKeys hh it d hne es ep) fun i v s Q E st q => ?_).toN) ?_ ?_
  · rintro i h ⟨r, q1, q2, q3⟩
    exact ⟨r, q1, fun v z => Data.noConfusion (q3.symm.trans z), fun h' q => ⟨r, q, q2, q3⟩⟩
  · obtain ⟨r, q1, q2, q3⟩ := st.1
    exact letGo_of_cls q1 q2 q3 (by decide) q
  · intro X pins σ H s iv i
    exact ⟨fun g => let z := raw_there hod iv g.1; ⟨z.2.1 ▸ g.2, z.1⟩, fun g => let z := raw_there hod iv g.1; ⟨z.2.1 ▸ g.2, z.1⟩⟩
  · rintro X pins σ H s rfl rfl iv fo i v h' tk g ⟨hi, rfl⟩ _ kp
    obtain ⟨k, a, u, e1, e2, _⟩ := (raw_there hod iv g.1).2.2 i hi
    exact ⟨.ref a, H, iv.turnedL kp (fun b hb => by cases List.mem_singleton.mp hb; exact fo), e2, ⟨rfl, k, a, u, e1, rfl⟩, fo.1⟩
theorem turn_qitems {ks : List KE3} {elts : List Expr} {kk : Nat} {tpos : Pos} {it : Addr} (hne : d ≠ it) (hod : o.data = .dict es ep) :
    Turn P w K (.Tuple elts kk tpos) (Itqi d o ks) [it] it (fun i h => i ≤ es.size ∧ ∃ ok ov, IsItemIter h it d i es.size ep ok ov) := by
  refine turn_of (B := fun h => h.DictRaw d es ep) ?_ (fun A i s Q E u q => wpAny_pyIter_itemiter u.choose_spec.choose_spec q) (fun A hh => GoesN.rawItems hh it d hne es ep) ?_ ?_
  · rintro i h ⟨ok, ov, r⟩
    exact ⟨_, r, fun v => nofun, fun h' q => ⟨ok, ov, q⟩⟩
  · intro X pins σ H s iv i
    exact ⟨fun g => let z := raw_there hod iv g.1; ⟨z.2.1 ▸ g.2, z.1⟩, fun g => let z := raw_there hod iv g.1; ⟨z.2.1 ▸ g.2, z.1⟩⟩
  · rintro X pins σ H s rfl rfl iv fo i v h' tk g ⟨T, hi, rfl, hT, r, q1, q2, cp, q3⟩ ⟨ok, ov, nx⟩ kp
    obtain ⟨k, a, u, e1, e2, e3⟩ := (raw_there hod iv g.1).2.2 i hi
    have fr : H T = none := iv.hok.fresh hT
    have fo' : ∀ b ∈ [it], FpOk X pins H b := fun b hb => by cases List.mem_singleton.mp hb; exact fo
    refine ⟨.ref T, _, iv.turnedNew (ob := .tup [.ref a, u]) kp fo' hT ⟨(show 2 ≤ sizeLine by decide), [es[i].key, es[i].val], .cons e2 (.cons e3 .nil), ⟨r, q1, q2, cp, q3⟩⟩, rfl, ⟨T, k, a, u, e1, rfl, fr, rfl⟩, ?_⟩
    by_cases z : it = T
    · subst z
      cases Option.some.inj (nx.symm.trans q1)
      exact absurd q2 (by simp)
    · rw [upd_ne z]; exact fo.1
end
theorem dicS_obj {p : Addr} {o : Obj} {ks : List KE3} (h : DicS p o ks) : o.ExactDict ∧ (p == sysModules) = false ∧ ∃ es ep, o.data = .dict es ep := by
  obtain ⟨_, hm, xs, es, ep, _, ex, hd, _⟩ := h
  exact ⟨ex, hm, es, ep, hd⟩
section
variable {X : Cx} {tg e : Expr} {td : TE} {apos cpos : Pos}
def iQKeys (td : TE) : TI := fun σ H R => td σ H fun x H1 => ∃ d o ks, x = .ref d ∧ H1 d = some (DicO d o ks) ∧ R (Itq d o ks) H1
def iQItems (td : TE) : TI := fun σ H R => td σ H fun x H1 => ∃ d o ks, x = .ref d ∧ H1 d = some (DicO d o ks) ∧ R (Itqi d o ks) H1
theorem pi_qkeys (he : PE X e td) : PI X tg e (iQKeys td) := by
  constructor
  intro pins s σ H R iv h
  refine thn (he.run pins s σ H _ iv h) ?_
  rintro u s1 ⟨_, H1, iv1, rx, d, o, ks, rfl, hd, q⟩
  cases rx
  obtain ⟨at1, sh⟩ := DicO.at iv1 hd
  obtain ⟨ex, nm, es, ep, data⟩ := dicS_obj sh
  exact iter_keys nm at1 ex data (pi_one (tk := s1.toks) iv1 _ (turn_qkeys (Nat.ne_of_lt (Heap.lt_size at1)) data) ⟨Nat.zero_le _, _, Heap.get?_push_size _ rfl, rfl, rfl⟩ q)
theorem pi_qitems {elts : List Expr} {kk : Nat} {tpos : Pos} (he : PE X e td) (hbase : attributeBase e "items" X.env (eval e X.env) = eval e X.env := by rfl) (hline : (apos.endLine == cpos.line) = true := by rfl) :
    PI X (.Tuple elts kk tpos) (.Call (.Attribute e "items" apos) [] [] cpos) (iQItems td) := by
  constructor
  intro pins s σ H R iv h
  refine wpAny_Call_method (T := "dict") (id := "dict.items") hbase rfl hline F.plainAttrs_dict F.slot_dict_items F.type_dict_items (thn (he.run pins s σ H _ iv h) ?_)
  rintro _ s1 ⟨_, H1, iv1, rx, d, o, ks, rfl, hd, q⟩
  cases rx
  obtain ⟨at1, sh⟩ := DicO.at iv1 hd
  obtain ⟨ex, nm, es, ep, data⟩ := dicS_obj sh
  refine ⟨⟨o, at1, ex.1⟩, fun _ z => by cases z; exact ⟨o, at1, ex.2.1⟩, method_meetsIn F.slot_dict_items F.entry_dict_items rfl (PySem.evalArgs_none ⟨rfl, ⟨o, at1, ex.1⟩, F.args_dict_items_1 _, _, meets_dict_items_raw d nm, ⟨es, ep, o, at1, ex, data⟩, ?_⟩)⟩
  exact wpAny_pyIter_items_raw (d := d) ⟨_, Heap.get?_push_size _ rfl, rfl, rfl⟩ ⟨o, Heap.get?_push_of_some _ at1, ex, data⟩
    (pi_one (tk := s1.toks) (iv1.kept (t' := s1.toks) fun _ _ => Heap.get?_push_of_some _) _ (turn_qitems (Nat.ne_of_lt (Heap.lt_size (Heap.get?_push_of_some _ at1))) data) ⟨Nat.zero_le _, Value.none, Value.none, Heap.get?_push_size _ rfl⟩ q)
end
theorem DpKs.get {K : PySem.W.Frag} {G : Hp} : ∀ {ks : List KE3} {kds : List (D × D)} {i : Nat} {kd vd : D}, DpKs K G ks kds → kds[i]? = some (kd, vd) → ∃ k a v, ks[i]? = some (k, a, v) ∧ Dp K G (.ref a) kd ∧ Dp K G v vd
  | _, _, i, _, _, .nil, e => by simp at e
  | _, _, 0, _, _, .cons _ a b _, e => by simp at e; obtain ⟨rfl, rfl⟩ := e; exact ⟨_, _, _, rfl, a, b⟩
  | _, _, i + 1, _, _, .cons _ _ _ t, e => by
    obtain ⟨k, a, v, h1, h2⟩ := DpKs.get (i := i) t (by simpa using e)
    exact ⟨k, a, v, by simpa using h1, h2⟩
section
variable {K : PySem.W.Frag} {G H : Hp}
theorem turns_qkeys {p : Addr} {o : Obj} {ks : List KE3} {kds : List (D × D)} (h1 : G p = some (DicO p o ks)) (h2 : DpKs K G ks kds) : Turns K (Itq p o ks) (kds.map (·.1)) G := fun i G2 H2 s1 s2 => by
  have q : H2 p = some (DicO p o ks) := s2 _ _ (s1 _ _ h1)
  have hl := DpKs.length h2
  refine ⟨fun d e => ?_, fun h => ⟨q, by rw [List.length_map] at h; omega⟩⟩
  rw [List.getElem?_map] at e
  obtain ⟨⟨kd, vd⟩, e1, rfl⟩ := Option.map_eq_some_iff.mp e
  obtain ⟨k, a, v, e2, dk, dv⟩ := DpKs.get h2 e1
  refine ⟨⟨q, (List.getElem?_eq_some_iff.mp e2).1⟩, fun x H3 ⟨eH, k', a', v', e3, ex⟩ => ?_⟩
  subst eH ex
  rw [e2] at e3
  cases e3
  exact ⟨Same.refl _, G2, Same.refl _, s2, fun a o z => .inl z, Dp.mono s1 dk⟩
theorem turns_qitems {p : Addr} {o : Obj} {ks : List KE3} {kds : List (D × D)} (h1 : G p = some (DicO p o ks)) (h2 : DpKs K G ks kds) : Turns K (Itqi p o ks) (kds.map fun x => .tuple [x.1, x.2]) G := fun i G2 H2 s1 s2 => by
  have q : H2 p = some (DicO p o ks) := s2 _ _ (s1 _ _ h1)
  have hl := DpKs.length h2
  refine ⟨fun d e => ?_, fun h => ⟨q, by rw [List.length_map] at h; omega⟩⟩
  rw [List.getElem?_map] at e
  obtain ⟨⟨kd, vd⟩, e1, rfl⟩ := Option.map_eq_some_iff.mp e
  obtain ⟨k, a, v, e2, dk, dv⟩ := DpKs.get h2 e1
  refine ⟨⟨q, (List.getElem?_eq_some_iff.mp e2).1⟩, fun x H3 ⟨T, k', a', v', e3, ex, hT, eH⟩ => ?_⟩
  subst ex eH
  rw [e2] at e3
  cases e3
  exact new_tup s2 hT (.cons (Dp.mono s1 dk) (.cons (Dp.mono s1 dv) .nil))
end
@[simp] def dicD : D → Option (List (D × D))
  | .dict kds => some kds
  | _ => none
/-- for k in d, d a value -/
def iDKeys (f : FE) : FA := fun r => (f r).bind fun x => (dicD x.1).map fun kds => (kds.map (·.1), x.2)
@[simp] theorem iDKeys_r (f : FE) (r : Ev) : iDKeys f r = (f r).bind fun x => (dicD x.1).map fun kds => (kds.map (·.1), x.2) := rfl
def iDItems (f : FE) : FA := fun r => (f r).bind fun x => (dicD x.1).map fun kds => (kds.map (fun z => .tuple [z.1, z.2]), x.2)
@[simp] theorem iDItems_r (f : FE) (r : Ev) : iDItems f r = (f r).bind fun x => (dicD x.1).map fun kds => (kds.map (fun z => .tuple [z.1, z.2]), x.2) := rfl
section
variable {X : Cx} {tg e : Expr} {f : FE} {p : Bool} {apos cpos : Pos}
theorem dp_dict {K : PySem.W.Frag} {G : Hp} {v : V} {d : D} {kds : List (D × D)} (h : Dp K G v d) (e : dicD d = some kds) : ∃ a o ks, v = .ref a ∧ G a = some (DicO a o ks) ∧ DpKs K G ks kds := by
  cases h with
  | dic a b => cases e; exact ⟨_, _, _, rfl, a, b⟩
  | non => cases e
  | bl => cases e
  | int => cases e
  | str => cases e
  | lst => cases e
  | tup => cases e
theorem si_dkeys (h : SE X p e f) : SI X tg e (iDKeys f) := PI.weak (pi_qkeys h) fun σ H R ⟨C, G, r, ds, r', ok, hf, k⟩ => by
  unfold iDKeys at hf
  obtain ⟨⟨d, r1⟩, h1, h2⟩ := Option.bind_eq_some_iff.mp hf
  obtain ⟨ds', h3, h4⟩ := Option.map_eq_some_iff.mp h2
  cases h4
  refine ⟨C, G, r, d, _, ok, h1, fun v G1 H1 o1 s1 m1 x1 => ?_⟩
  obtain ⟨a, o, ks, rfl, g1, g2⟩ := dp_dict x1 h3
  exact ⟨a, o, ks, rfl, o1.sub _ _ g1, k _ G1 H1 o1 s1 (turns_qkeys g1 g2)⟩
theorem si_ditems {elts : List Expr} {kk : Nat} {tpos : Pos} (h : SE X p e f) (hbase : attributeBase e "items" X.env (eval e X.env) = eval e X.env := by rfl) (hline : (apos.endLine == cpos.line) = true := by rfl) :
    SI X (.Tuple elts kk tpos) (.Call (.Attribute e "items" apos) [] [] cpos) (iDItems f) := PI.weak (pi_qitems h hbase hline) fun σ H R ⟨C, G, r, ds, r', ok, hf, k⟩ => by
  unfold iDItems at hf
  obtain ⟨⟨d, r1⟩, h1, h2⟩ := Option.bind_eq_some_iff.mp hf
  obtain ⟨ds', h3, h4⟩ := Option.map_eq_some_iff.mp h2
  cases h4
  refine ⟨C, G, r, d, _, ok, h1, fun v G1 H1 o1 s1 m1 x1 => ?_⟩
  obtain ⟨a, o, ks, rfl, g1, g2⟩ := dp_dict x1 h3
  exact ⟨a, o, ks, rfl, o1.sub _ _ g1, k _ G1 H1 o1 s1 (turns_qitems g1 g2)⟩
end
/-! ### slots that are forgotten -/
theorem Ok.forget {K : PySem.W.Frag} {C : Ctx} {G H : Hp} {σ : L2.St} {r : Ev} (ok : Ok K C G H σ r) : ∀ J : List Nat, Ok K C G H σ (wipeE r J)
  | [] => ok
  | v :: vs => (Ok.forget ok vs).drop v
def srcW (J : List Nat) (src : FA) : FA := fun r => (src r).map fun x => (x.1, wipeE x.2 J)
@[simp] theorem srcW_r (J : List Nat) (src : FA) (r : Ev) : srcW J src r = (src r).map fun x => (x.1, wipeE x.2 J) := rfl
@[simp] def wipeO (J : List Nat) : Option Out → Option Out
  | some (.nx r) => some (.nx (wipeE r J))
  | some (.ct r) => some (.ct (wipeE r J))
  | some (.bk r) => some (.bk (wipeE r J))
  | o => o
def sW (J : List Nat) (F : FS) : FS := fun r => wipeO J (F r)
@[simp] theorem sW_r (J : List Nat) (F : FS) (r : Ev) : sW J F r = wipeO J (F r) := rfl
section
variable {X : Cx} {tg iter : Expr} {src : FA} {body : List Stmt} {F : FS}
theorem si_w (J : List Nat) (h : SI X tg iter src) : SI X tg iter (srcW J src) := PI.weak h fun σ H R ⟨C, G, r, ds, r', ok, hf, k⟩ => by
  unfold srcW at hf
  obtain ⟨⟨d, r1⟩, h1, h2⟩ := Option.map_eq_some_iff.mp hf
  cases h2
  exact ⟨C, G, r, _, r1, ok, h1, fun J' G' H' o s t => k J' G' H' (o.forget J) s t⟩
theorem ss_w (J : List Nat) (h : SSs X body F) : SSs X body (sW J F) := PSs.weak h fun E σ H ⟨C, G, r, o, ok, hf, k⟩ => by
  unfold sW at hf
  cases hF : F r with
  | none => rw [hF] at hf; cases hf
  | some o1 =>
    rw [hF] at hf
    refine ⟨C, G, r, o1, ok, hF, ?_⟩
    cases o1 with
    | nx r1 => cases hf; exact fun σ' G' H' ok' s => k σ' G' H' (ok'.forget J) s
    | bk r1 => cases hf; exact fun σ' G' H' ok' s => k σ' G' H' (ok'.forget J) s
    | ct r1 => cases hf; exact fun σ' G' H' ok' s => k σ' G' H' (ok'.forget J) s
    | rt d r1 => cases hf; exact k
    | rtO ds r1 => cases hf; exact k
    | rtN ds r1 => cases hf; exact k
/-- for, with the slots J forgotten ahead of each turn and behind the last one -/
def sForW (J : List Nat) (src : FA) (A : FG) (body : FS) : FS := sFor (srcW J src) A (sW J body)
theorem sForW_r (J : List Nat) (src : FA) (A : FG) (body : FS) (r : Ev) : sForW J src A body r = (src r).bind fun x => loopF A (sW J body) x.1 (wipeE x.2 J) := by
  unfold sForW sFor srcW
  cases src r with
  | none => rfl
  | some x => rfl
theorem ss_forW {A : FG} {L : List Nat} {pos : Pos} (J : List Nat) (hp : PassesOwn (model X.prog X.w) X.A X.env X.xe) (hc : X.calm = true) (hi : SI X tg iter src) (hg : SG X tg A L) (hb : SSs X body F)
    (hs : ∀ x, foldedSetIterable iter X.env x = pure x := by intro _; rfl) : SS X (.For tg iter body [] pos) (sForW J src A F) := ss_for hp hc (si_w J hi) hg (ss_w J hb) hs
/-! ### while -/
def whileF (t : FT) (F : FS) : Nat → FS
  | 0, _ => none
  | n + 1, r => (t r).bind fun x => if x.1 = true then (match F x.2 with
    | some (.nx r2) => whileF t F n r2
    | some (.ct r2) => whileF t F n r2
    | some (.bk r2) => some (.nx r2)
    | o => o) else some (.nx x.2)
def bigF : Nat := 1000000000
def sWhile (J : List Nat) (t : FT) (F : FS) : FS := fun r => whileF t (sW J F) bigF (wipeE r J)
theorem ss_while0 {c : Expr} {t : FT} {p : Bool} {pos : Pos} (n : Nat) (hp : PassesOwn (model X.prog X.w) X.A X.env X.xe) (hc : ST X p c t) (hb : SSs X body F) : SS X (.While c body [] pos) (whileF t F n) := PS.weak (ps_while hp hc hb) fun E σ H ⟨C, G, r, o, ok, hf, k⟩ => by
  refine ⟨fun m σ H => ∃ G' r', Ok X.K C G' H σ r' ∧ Same G G' ∧ whileF t F m r' = some o, ⟨n, G, r, ok, Same.refl _, hf⟩, ?_⟩
  rintro m σ H ⟨G', r', ok', sg, hl⟩
  cases m with
  | zero => cases hl
  | succ m =>
    obtain ⟨⟨b, r1⟩, h1, h2⟩ := Option.bind_eq_some_iff.mp (show (t r').bind _ = some o from hl)
    refine ⟨C, G', r', b, r1, ok', h1, fun G1 H1 o1 s1 m1 => ?_⟩
    have km : OutOk X.K C G1 E o := k.mono (sg.trans s1)
    cases b with
    | false =>
      rw [if_neg Bool.false_ne_true] at h2
      show (if false = true then _ else _)
      rw [if_neg Bool.false_ne_true]
      cases h2
      exact km σ G1 H1 o1 (Same.refl _)
    | true =>
      rw [if_pos rfl] at h2
      show (if true = true then _ else _)
      rw [if_pos rfl]
      refine ⟨fun σ H => ∃ G' r', Ok X.K C G' H σ r' ∧ Same G G' ∧ whileF t F m r' = some o, fun σ' H' q => ⟨m, Nat.lt_succ_self m, q⟩, ?_⟩
      cases hb2 : F r1 with
      | none => rw [hb2] at h2; cases h2
      | some o2 =>
        rw [hb2] at h2
        refine ⟨C, G1, r1, o2, o1, hb2, ?_⟩
        cases o2 with
        | nx r3 => exact fun σ' G4 H4 ok5 s5 => ⟨G4, r3, ok5, (sg.trans s1).trans s5, h2⟩
        | ct r3 => exact fun σ' G4 H4 ok5 s5 => ⟨G4, r3, ok5, (sg.trans s1).trans s5, h2⟩
        | bk r3 => cases h2; exact km
        | rt d r3 => cases h2; exact km
        | rtO d r3 => cases h2; exact km
        | rtN d r3 => cases h2; exact km
theorem ss_while {c : Expr} {t : FT} {p : Bool} {pos : Pos} (J : List Nat) (hp : PassesOwn (model X.prog X.w) X.A X.env X.xe) (hc : ST X p c t) (hb : SSs X body F) : SS X (.While c body [] pos) (sWhile J t F) := PS.weak (ss_while0 bigF hp hc (ss_w J hb)) fun E σ H ⟨C, G, r, o, ok, hf, k⟩ =>
  ⟨C, G, wipeE r J, o, ok.forget J, hf, k⟩
end
/-! ### one's own dict is walked: it is not to be used meanwhile -/
def itemsD (kds : List (D × D)) : List D := kds.map fun z => .tuple [z.1, z.2]
def keysD (kds : List (D × D)) : List D := kds.map (·.1)
@[simp] def untag1 (n : Nat) : Option Cell → Option Cell
  | some (.tag m) => if m = n then none else some (.tag m)
  | c => c
def untag (n : Nat) (r : Ev) : Ev := r.map (untag1 n)
@[simp] theorem untag_cons (n : Nat) (c : Option Cell) (r : Ev) : untag n (c :: r) = untag1 n c :: untag n r := rfl
@[simp] theorem untag_nil (n : Nat) : untag n [] = [] := rfl
@[simp] def backD (i : Nat) (kds : List (D × D)) : Option Out → Option Out
  | some (.nx r) => match r[i]? with
    | some (some (.tag m)) => if m = i then some (.nx ((untag i r).set i (some (.ownD kds)))) else none
    | _ => none
  | some (.rt d r) => some (.rt d (untag i r))
  | _ => none
def sForD (g : List (D × D) → List D) (i : Nat) (J : List Nat) (A : FG) (F : FS) : FS := fun r => match r[i]? with
  | some (some (.ownD kds)) => backD i kds (loopF A (sW J F) (g kds) ((untag i (wipeE r J)).set i (some (.tag i))))
  | _ => none
theorem untag_some {n i : Nat} {r : Ev} {c : Cell} (h : (untag n r)[i]? = some (some c)) : r[i]? = some (some c) ∧ c ≠ .tag n := by
  unfold untag at h
  rw [List.getElem?_map] at h
  obtain ⟨x, h1, h2⟩ := Option.map_eq_some_iff.mp h
  cases x with
  | none => cases h2
  | some y =>
    cases y with
    | tag m =>
      have h3 : (if m = n then none else some (Cell.tag m)) = some c := h2
      by_cases hm : m = n
      · rw [if_pos hm] at h3; cases h3
      · rw [if_neg hm] at h3; cases h3; exact ⟨h1, fun z => by cases z; exact hm rfl⟩
    | val d => cases h2; exact ⟨h1, fun z => by cases z⟩
    | own d => cases h2; exact ⟨h1, fun z => by cases z⟩
    | loan d e => cases h2; exact ⟨h1, fun z => by cases z⟩
    | ownD d => cases h2; exact ⟨h1, fun z => by cases z⟩
    | fre d => cases h2; exact ⟨h1, fun z => by cases z⟩
    | ownF d => cases h2; exact ⟨h1, fun z => by cases z⟩
theorem untag_len (n : Nat) (r : Ev) : (untag n r).length = r.length := List.length_map _
section
variable {K : PySem.W.Frag} {C : Ctx} {G H : Hp} {σ : L2.St} {r : Ev}
def Ctx.lab (C : Ctx) (n : Nat) (o : Option Addr) : Ctx := { C with L := fun m => if m = n then o else C.L m }
/-- fewer slots are known -/
theorem Ok.less {r' : Ev} (ok : Ok K C G H σ r) (hl : r'.length = r.length) (h : ∀ (i : Nat) (c : Cell), r'[i]? = some (some c) → r[i]? = some (some c)) : Ok K C G H σ r' :=
  ⟨ok.sub, ok.g0, ok.gnew, ok.prot, ok.mreal, by rw [hl]; exact ok.len, fun i c e => ok.cell i c (h i c e), fun i j c c' e1 e2 => ok.dis i j c c' (h i c e1) (h j c' e2)⟩
theorem Ok.untag (ok : Ok K C G H σ r) (n : Nat) : Ok K C G H σ (untag n r) := ok.less (untag_len n r) fun i c e => (untag_some e).1
theorem CellOk.lab {v : V} {c : Cell} (n : Nat) (o : Option Addr) (h : CellOk K C G H v c) (hc : c ≠ .tag n) : CellOk K (C.lab n o) G H v c := by
  cases c with
  | val d => exact h
  | own ds => exact h
  | loan k ds => exact h
  | ownD ds => exact h
  | fre d => exact h
  | ownF ds => exact h
  | tag m =>
    obtain ⟨p, h1, h2⟩ := h
    exact ⟨p, h1, by show (if m = n then o else C.L m) = some p; rw [if_neg fun z => hc (by rw [z])]; exact h2⟩
theorem Ok.lab (ok : Ok K C G H σ r) (n : Nat) (o : Option Addr) : Ok K (C.lab n o) G H σ (SL.untag n r) :=
  let ok' := ok.untag n
  ⟨ok'.sub, ok'.g0, ok'.gnew, ok'.prot, ok'.mreal, ok'.len, fun i c e => by
    obtain ⟨v, e1, h⟩ := ok'.cell i c e
    exact ⟨v, e1, h.lab n o (untag_some e).2⟩, ok'.dis⟩
theorem Ok.setT {n i : Nat} {p : Addr} (ok : Ok K C G H σ r) (e : σ[i]? = some (some (.ref p))) (hL : C.L n = some p) (hi : ∀ c, r[i]? = some (some c) → c.isOwn = false) : Ok K C G H σ (r.set i (some (.tag n))) :=
  ⟨ok.sub, ok.g0, ok.gnew, ok.prot, ok.mreal, by rw [List.length_set]; exact ok.len, fun j c q => by
    by_cases hj : j = i
    · subst hj
      have hlt : j < r.length := by
        have := (List.getElem?_eq_some_iff.mp q).1
        rwa [List.length_set] at this
      rw [List.getElem?_set_self hlt] at q
      cases q
      exact ⟨_, e, p, rfl, hL⟩
    · rw [List.getElem?_set_ne (Ne.symm hj)] at q
      exact ok.cell j c q, fun j k c c' q1 q2 o1 o2 => by
    have get : ∀ {x : Nat} {c2 : Cell}, (r.set i (some (.tag n)))[x]? = some (some c2) → c2.isOwn = true → r[x]? = some (some c2) := fun {x c2} q o => by
      by_cases hx : x = i
      · subst hx
        have hlt : x < r.length := by
          have := (List.getElem?_eq_some_iff.mp q).1
          rwa [List.length_set] at this
        rw [List.getElem?_set_self hlt] at q
        cases q; cases o
      · rwa [List.getElem?_set_ne (Ne.symm hx)] at q
    exact ok.dis j k c c' (get q1 o1) (get q2 o2) o1 o2⟩
end
def tIO (i : Nat) (mk : Addr → Obj → List KE3 → It) : TI := fun σ H R => ∃ p o ks, σ[i]? = some (some (.ref p)) ∧ H p = some (DicO p o ks) ∧ R (mk p o ks) H
section
variable {X : Cx} {tg iter : Expr} {body : List Stmt} {F : FS} {y : Str} {py apos cpos : Pos}
theorem pi_ownItems {elts : List Expr} {kk : Nat} {tpos : Pos} (i : Nat) (hN : X.N[i]? = some y := by rfl) (hv : Vis X.env.scope y := by first | exact Or.inl rfl | exact Or.inr (Or.inl rfl) | exact Or.inr (Or.inr rfl)) (hd : (y == ("__debug__" : Str)) = false := by decide)
    (hcd : (y == ("__classdict__" : Str)) = false := by decide) (hbase : attributeBase (.Name y py) "items" X.env (eval (.Name y py) X.env) = eval (.Name y py) X.env := by rfl) (hline : (apos.endLine == cpos.line) = true := by rfl) :
    PI X (.Tuple elts kk tpos) (.Call (.Attribute (.Name y py) "items" apos) [] [] cpos) (tIO i Itqi) := PI.weak (pi_qitems (pe_var hN hv hd hcd) hbase hline) fun σ H R ⟨p, o, ks, e, h, q⟩ => ⟨_, e, p, o, ks, rfl, h, q⟩
theorem pi_ownKeys (i : Nat) (hN : X.N[i]? = some y := by rfl) (hv : Vis X.env.scope y := by first | exact Or.inl rfl | exact Or.inr (Or.inl rfl) | exact Or.inr (Or.inr rfl)) (hd : (y == ("__debug__" : Str)) = false := by decide)
    (hcd : (y == ("__classdict__" : Str)) = false := by decide) : PI X tg (.Name y py) (tIO i Itq) := PI.weak (pi_qkeys (pe_var hN hv hd hcd)) fun σ H R ⟨p, o, ks, e, h, q⟩ => ⟨_, e, p, o, ks, rfl, h, q⟩
/-- a walk over a dict that is held -/
def TurnsH (K : PySem.W.Frag) (mk : Addr → Obj → List KE3 → It) (g : List (D × D) → List D) : Prop := ∀ (p : Addr) (o : Obj) (ks : List KE3) (kds : List (D × D)) (G : Hp), DpKs K G ks kds → ∀ (i : Nat) (G2 H2 : Hp), Same G G2 → Same G2 H2 → H2 p = some (DicO p o ks) →
  (∀ d, (g kds)[i]? = some d → (mk p o ks).go i H2 ∧ ∀ x H3, (mk p o ks).yld i H2 x H3 → Same H2 H3 ∧ ∃ G3, Same G2 G3 ∧ Same G3 H3 ∧ (∀ a o, G3 a = some o → G2 a = some o ∨ H2 a = none) ∧ Dp K G3 x d) ∧ ((g kds).length ≤ i → (mk p o ks).stop i H2)
theorem th_keys {K : PySem.W.Frag} : TurnsH K Itq keysD := fun p o ks kds G h2 i G2 H2 s1 s2 q => by
  have hl := DpKs.length h2
  unfold keysD
  refine ⟨fun d e => ?_, fun h => ⟨q, by rw [List.length_map] at h; omega⟩⟩
  rw [List.getElem?_map] at e
  obtain ⟨⟨kd, vd⟩, e1, rfl⟩ := Option.map_eq_some_iff.mp e
  obtain ⟨k, a, v, e2, dk, dv⟩ := DpKs.get h2 e1
  refine ⟨⟨q, (List.getElem?_eq_some_iff.mp e2).1⟩, fun x H3 ⟨eH, k', a', v', e3, ex⟩ => ?_⟩
  subst eH ex
  rw [e2] at e3
  cases e3
  exact ⟨Same.refl _, G2, Same.refl _, s2, fun a o z => .inl z, Dp.mono s1 dk⟩
theorem th_items {K : PySem.W.Frag} : TurnsH K Itqi itemsD := fun p o ks kds G h2 i G2 H2 s1 s2 q => by
  have hl := DpKs.length h2
  unfold itemsD
  refine ⟨fun d e => ?_, fun h => ⟨q, by rw [List.length_map] at h; omega⟩⟩
  rw [List.getElem?_map] at e
  obtain ⟨⟨kd, vd⟩, e1, rfl⟩ := Option.map_eq_some_iff.mp e
  obtain ⟨k, a, v, e2, dk, dv⟩ := DpKs.get h2 e1
  refine ⟨⟨q, (List.getElem?_eq_some_iff.mp e2).1⟩, fun x H3 ⟨T, k', a', v', e3, ex, hT, eH⟩ => ?_⟩
  subst ex eH
  rw [e2] at e3
  cases e3
  exact new_tup s2 hT (.cons (Dp.mono s1 dk) (.cons (Dp.mono s1 dv) .nil))
theorem ss_forD {A : FG} {L : List Nat} {pos : Pos} {mk : Addr → Obj → List KE3 → It} {g : List (D × D) → List D} (s : Nat) (J : List Nat) (hp : PassesOwn (model X.prog X.w) X.A X.env X.xe) (hc : X.calm = true) (hi : PI X tg iter (tIO s mk)) (th : TurnsH X.K mk g) (hsJ : s ∉ J) (hg : SG X tg A L) (hb0 : SSs X body F)
    (hs : ∀ x, foldedSetIterable iter X.env x = pure x := by intro _; rfl) : SS X (.For tg iter body [] pos) (sForD g s J A F) := PS.weak (ps_for hp hc hi hg (ss_w J hb0) hs) fun E σ H ⟨C, G, r, oo, ok, hf, k⟩ => by
  unfold sForD at hf
  split at hf
  case h_2 => cases hf
  case h_1 kds er =>
    obtain ⟨v0, es, p, ob, ks, rfl, h1, h2, h3, h4⟩ := ok.cell s _ er
    obtain ⟨CL, eCL⟩ : ∃ CL, C.lab s (some p) = CL := ⟨_, rfl⟩
    have f0 : C.G0 p = none := by
      cases q : C.G0 p with
      | none => rfl
      | some u => rw [ok.g0 _ _ q] at h2; cases h2
    have odrop := ((ok.forget J).drop s).lab s (some p)
    have nl : NewX X.K (C.lab s (some p)) G H σ (untag s ((wipeE r J).set s none)) p (DicO p ob ks) := ⟨h1.1, h1.2, h2, h3, fun j c ej o' z => by
      have ej1 := (untag_some ej).1
      by_cases e : s = j
      · subst e
        have hlt : s < (wipeE r J).length := by
          have := (List.getElem?_eq_some_iff.mp ej1).1
          rwa [List.length_set] at this
        rw [List.getElem?_set_self hlt] at ej1
        cases ej1
      · rw [List.getElem?_set_ne e] at ej1
        exact e (ok.dis s j _ c er (wipeE_some ej1).1 rfl o' (by rw [es, z]))⟩
    have o1 := odrop.holdX nl
    have eset : (untag s ((wipeE r J).set s none)).set s (some (.tag s)) = (untag s (wipeE r J)).set s (some (.tag s)) := by
      unfold untag
      rw [List.map_set, List.set_set]
    have o2 := o1.setT (n := s) es (by show (if s = s then some p else C.L s) = some p; rw [if_pos rfl]) (fun c ec => by
      have ec1 := (untag_some ec).1
      have hlt : s < (wipeE r J).length := by
        have := (List.getElem?_eq_some_iff.mp ec1).1
        rwa [List.length_set] at this
      rw [List.getElem?_set_self hlt] at ec1
      cases ec1)
    rw [eset] at o2
    cases hl : loopF A (sW J F) (g kds) ((untag s (wipeE r J)).set s (some (.tag s))) with
    | none => rw [hl] at hf; cases hf
    | some o1' =>
    rw [hl] at hf
    -- from the loop's world back
    have back : ∀ {G' H' : Hp} {σ' : L2.St} {r' : Ev}, Ok X.K ((C.lab s (some p)).holdX p (DicO p ob ks)) G' H' σ' r' → Ok X.K C G' H' σ' (untag s r') ∧ NewX X.K C G' H' σ' (untag s r') p (DicO p ob ks) := fun {G' H' σ' r'} okk => by
      obtain ⟨q1, q2⟩ := okk.unholdX h1.1 h1.2 f0
      have q3 := q1.lab s (C.L s)
      have eC : (C.lab s (some p)).lab s (C.L s) = C := by
        unfold Ctx.lab
        congr 1
        funext m
        by_cases hm : m = s
        · subst hm; simp
        · simp [hm]
      rw [eC] at q3
      exact ⟨q3, q2.1, q2.2.1, q2.2.2.1, q2.2.2.2.1, fun j c ej o' z => q2.2.2.2.2 j c (untag_some ej).1 o' z⟩
    have km : ∀ G', Same G G' → OutOk X.K ((C.lab s (some p)).holdX p (DicO p ob ks)) G' E o1' := fun G' sg => by
      cases o1' with
      | nx r3 =>
        unfold backD at hf
        dsimp only at hf
        split at hf
        · rename_i m em
          split at hf
          case isFalse => cases hf
          case isTrue hms =>
          cases hf
          intro σ' G4 H4 okk s4
          obtain ⟨q3, n3⟩ := back okk
          obtain ⟨v, e1, p', rfl, hL⟩ := okk.cell s _ em
          have hm : (Ctx.lab C s (some p)).L m = some p' := hL
          have hpp : m = s → p' = p := fun z => by
            have hL' : (if m = s then some p else C.L m) = some p' := hm
            rw [if_pos z] at hL'
            exact (Option.some.inj hL').symm
          have := hpp hms
          subst this
          have q5 := q3.setD (i := s) n3 (DpKs.mono (sg.trans s4) h4)
          have eσ : σ'.set s (some (.ref p')) = σ' := by
            have hlt2 : s < σ'.length := (List.getElem?_eq_some_iff.mp e1).1
            have : σ'[s] = some (.ref p') := by
              have := List.getElem?_eq_getElem hlt2
              rw [e1] at this
              exact (Option.some.inj this).symm
            rw [← this]
            exact List.set_getElem_self hlt2
          rw [eσ] at q5
          exact k σ' G4 H4 q5 (sg.trans s4)
        · cases hf
      | rt d r3 =>
        cases hf
        intro v σ' G4 H4 okk s4 hv
        exact k v σ' G4 H4 (back okk).1 (sg.trans s4) hv
      | bk r3 => cases hf
      | ct r3 => cases hf
      | rtO d r3 => cases hf
      | rtN d r3 => cases hf
    refine ⟨p, ob, ks, es, h3, ?_⟩
    refine ⟨fun n m σ H => ∃ G' r', Ok X.K ((C.lab s (some p)).holdX p (DicO p ob ks)) G' H σ r' ∧ Same G G' ∧ m = (g kds).length - n ∧ n ≤ (g kds).length ∧ loopF A (sW J F) ((g kds).drop n) r' = some o1', ⟨_, G, _, o2, Same.refl _, rfl, Nat.zero_le _, hl⟩, ?_⟩
    rintro n m σ H ⟨G', r', ok', sg, rfl, hn, hlp⟩
    have hpH : H p = some (DicO p ob ks) := ok'.prot p _ upd_same h1.2
    obtain ⟨go, stop⟩ := th p ob ks kds G h4 n G' H sg ok'.sub hpH
    by_cases hlt : n < (g kds).length
    · refine .inr ?_
      have e : (g kds).drop n = (g kds)[n] :: (g kds).drop (n + 1) := List.drop_eq_getElem_cons hlt
      rw [e] at hlp
      obtain ⟨g1, g2⟩ := go (g kds)[n] (List.getElem?_eq_getElem hlt)
      refine ⟨g1, fun σ H => ∃ G' r', Ok X.K ((C.lab s (some p)).holdX p (DicO p ob ks)) G' H σ r' ∧ Same G G' ∧ loopF A (sW J F) ((g kds).drop (n + 1)) r' = some o1', fun σ' H' ⟨G2, r2, a1, a2, a3⟩ => ⟨_, Nat.sub_lt_sub_left hlt (Nat.lt_succ_self n), G2, r2, a1, a2, rfl, hlt, a3⟩, fun x H3 yy => ?_⟩
      obtain ⟨m3, G3, s3, s3', n3, dx⟩ := g2 x H3 yy
      have ok3 := ok'.calm s3 m3 s3' n3
      obtain ⟨r2, h5, h6⟩ := Option.bind_eq_some_iff.mp (show (A (g kds)[n] r').bind _ = some o1' from hlp)
      refine ⟨_, G3, r', _, r2, ok3, dx, h5, fun σ2 ok4 _ => ?_⟩
      have sg3 := sg.trans s3
      cases hb : sW J F r2 with
      | none => rw [hb] at h6; cases h6
      | some ob2 =>
        rw [hb] at h6
        refine ⟨_, G3, r2, ob2, ok4, hb, ?_⟩
        cases ob2 with
        | nx r3 => exact fun σ' G4 H4 ok5 s5 => ⟨G4, r3, ok5, sg3.trans s5, h6⟩
        | ct r3 => exact fun σ' G4 H4 ok5 s5 => ⟨G4, r3, ok5, sg3.trans s5, h6⟩
        | bk r3 => cases h6; exact km G3 sg3
        | rt d r3 => cases h6; exact km G3 sg3
        | rtO d r3 => cases h6; exact km G3 sg3
        | rtN d r3 => cases h6; exact km G3 sg3
    · have e : (g kds).length = n := by omega
      refine .inl ⟨stop (by omega), ?_⟩
      rw [← e, List.drop_length] at hlp
      cases hlp
      exact km G' sg σ G' H ok' (Same.refl _)
end
end SL
/-! Sorting of data; extend; dicts that are lent; working out. -/
namespace SL
open PySem PySem.Spec PyProof.Rows L2
/-! ### sorted -/
def alikeB (ds : List D) : Bool := ds.all fun d => ds.all fun d' => W.alike d d'
def sortB (ds : List D) : Bool := (ds.all fun d => match d with | .tuple (_ :: _) => true | _ => false) || ds.all fun d => match d with | .none => false | .tuple _ => false | _ => true
def okSort (ds : List D) : Bool := alikeB ds && sortB ds && decide (ds.length ≤ sizeLine) && ds.all fun d => decide (d.depth ≤ 64)
def srt (ds : List D) : List D := ds.mergeSort (W.dataLe false id)
@[simp] def sortX : D → Option (List D)
  | .list ds => if okSort ds = true then some (srt ds) else none
  | .tuple ds => if okSort ds = true then some (srt ds) else none
  | _ => none
theorem okSort_iff {ds : List D} : okSort ds = true ↔ W.AllAlike ds ∧ W.Sortable ds ∧ ds.length ≤ sizeLine ∧ ∀ d ∈ ds, d.depth ≤ 64 := by
  unfold okSort alikeB sortB W.AllAlike W.Sortable
  rw [Bool.and_eq_true, Bool.and_eq_true, Bool.and_eq_true, decide_eq_true_iff, List.all_eq_true, List.all_eq_true, Bool.or_eq_true, List.all_eq_true, List.all_eq_true, and_assoc, and_assoc]
  refine and_congr ?_ (and_congr ?_ (and_congr Iff.rfl ?_))
  · exact ⟨fun h d hd d' hd' => List.all_eq_true.mp (h d hd) d' hd', fun h d hd => List.all_eq_true.mpr fun d' hd' => h d hd d' hd'⟩
  · refine or_congr ?_ ?_
    · refine ⟨fun h d hd => ?_, fun h d hd => ?_⟩
      · have := h d hd
        split at this
        · exact ⟨_, _, rfl⟩
        · cases this
      · obtain ⟨x, r, rfl⟩ := h d hd
        rfl
    · refine ⟨fun h d hd => ?_, fun h d hd => ?_⟩
      · have := h d hd
        cases d with
        | none => cases this
        | tuple xs => cases this
        | bool b => exact ⟨fun z => (nomatch z), fun _ z => (nomatch z)⟩
        | int b => exact ⟨fun z => (nomatch z), fun _ z => (nomatch z)⟩
        | str b => exact ⟨fun z => (nomatch z), fun _ z => (nomatch z)⟩
        | list b => exact ⟨fun z => (nomatch z), fun _ z => (nomatch z)⟩
        | dict b => exact ⟨fun z => (nomatch z), fun _ z => (nomatch z)⟩
      · obtain ⟨h1, h2⟩ := h d hd
        cases d with
        | none => exact absurd rfl h1
        | tuple xs => exact absurd rfl (h2 xs)
        | _ => rfl
  · exact ⟨fun h d hd => of_decide_eq_true (h d hd), fun h d hd => decide_eq_true (h d hd)⟩
mutual
theorem alike_nd : ∀ d : D, W.alike d d = true → d.hasDict = false
  | .none, _ => by simp only [PyData.hasDict]
  | .bool _, _ => by simp only [PyData.hasDict]
  | .int _, _ => by simp only [PyData.hasDict]
  | .str _, _ => by simp only [PyData.hasDict]
  | .list xs, h => by simp only [PyData.hasDict]; exact alikes_nd xs (by simpa only [W.alike] using h)
  | .tuple xs, h => by simp only [PyData.hasDict]; exact alikes_nd xs (by simpa only [W.alike] using h)
  | .dict _, h => by simp [W.alike] at h
theorem alikes_nd : ∀ ds : List D, W.alikeAll ds ds = true → PyData.hasDictAll ds = false
  | [], _ => by simp only [PyData.hasDictAll]
  | d :: ds, h => by
    simp only [W.alikeAll, Bool.and_eq_true] at h
    simp only [PyData.hasDictAll, alike_nd d h.1, alikes_nd ds h.2, Bool.or_self]
end
section
variable {prog : Program} {w : World} {A : Around} {E : Value → Shared → Prop} {s : Shared}
open PySem.W PySem.Calls in
/-- sorted(r): r's items are told by coll; the list that is made stands where the heap then ended -/
theorem sorted_any {β : Type} {r : Addr} {bs : List β} {enc : β → PyData} {R : Value → β → Prop} {Q : Value → Shared → Prop}
    (coll : ∀ (T : List Value → Shared → Prop) (E' : Value → Shared → Prop), (∀ (h1 : Heap) (tk : Nat) (vs : List Value), (∀ b o, s.heap.get? b = some o → h1.get? b = some o) → EachIs R vs bs → EachIs (fun v b => ∃ as, Reads s.heap v (enc b) as) vs bs → T vs { s with heap := h1, toks := tk }) → wpAny (model prog w) A.in1 (collect (.ref r)) T E' s)
    (alike : AllAlike (bs.map enc)) (able : Sortable (bs.map enc)) (few : bs.length ≤ sizeLine) (deep : ∀ b, b ∈ bs → A.units + 2 + (enc b).depth < cLine)
    (fin : ∀ (h1 : Heap) (tk : Nat) (vs out : List Value), (∀ b o, s.heap.get? b = some o → h1.get? b = some o) → out.length = bs.length → EachIs R out (bs.mergeSort (dataLe false enc)) → Q (.ref h1.objs.size) { s with heap := sortedHeap (h1.push (seqObj "list" vs.toArray 0)) h1.objs.size vs out.toArray, toks := tk }) :
    wpAny (model prog w) A (call (.builtin "sorted") [.ref r]) Q E s := by
  -- the sort of the new list, on its own
  have sort : ∀ (B : Around) (h1 : Heap) (tk : Nat) (vs : List Value), B.units ≤ A.units + 2 → (∀ b o, s.heap.get? b = some o → h1.get? b = some o) → EachIs R vs bs → EachIs (fun v b => ∃ as, Reads s.heap v (enc b) as) vs bs → ∀ E' : Value → Shared → Prop,
      wpAny (model prog w) B (Builtin.«list.sort» ⟨[.ref h1.objs.size], []⟩) (fun f s' => f = .done (.ret .none) ∧ Q (.ref h1.objs.size) s') E' { s with heap := h1.push (seqObj "list" vs.toArray 0), toks := tk } := fun B h1 tk vs hB old is rd E' => by
    have at1 : (h1.push (seqObj "list" vs.toArray 0)).get? h1.objs.size = some (seqObj "list" vs.toArray 0) := Heap.get?_push_size _ rfl
    have rd2 := rd.mono fun _ _ ⟨as, x⟩ => (⟨as, PyProof.Rows.Reads.keeps (fun b o hb => sortingHeap_old (vs := vs) (Nat.ne_of_lt (Heap.lt_size (old _ _ hb))) (Heap.get?_push_of_some (seqObj "list" vs.toArray 0) (old _ _ hb))) x⟩ : ∃ as, Reads _ _ _ as)
    refine list_sort_vals at1 (SortsAt.data (each_map (R := fun v d => ∃ as, Reads _ v d as) enc rd2) alike able fun d hd => ?_) (by rw [is.length]; exact few) ⟨rfl, fin h1 tk vs _ old (by rw [sortVals_length false rfl]; exact is.length) (sortVals_data false is rd2 alike)⟩
    obtain ⟨b, hb, rfl⟩ := List.mem_map.mp hd
    have := deep b hb
    omega
  refine call_function_entry_kw kind_sorted plain_sorted entry_sorted (args_sorted1 _) ?_
  unfold Builtin.«sorted»
  refine wpAny_bind (m := checkCount "sorted" 1 1 _) (wpAny_pure (wpAny_bind (coll _ _ fun h1 tk vs old is rd => wpAny_bind (wpAny_newList ?_ (by rw [is.length]; exact few)))))
  refine wpAny_bind (wpAny_holding (wpAny_call_entry_kw slot_list_sort ⟨_, Heap.get?_push_size _ rfl, rfl⟩ entry_list_sort (wpAny_mono (sort _ h1 tk vs ?_ old is rd _) (fun f s' ⟨e, q⟩ => by subst e; exact ⟨.none, rfl, wpAny_pure ⟨.ref h1.objs.size, rfl, q⟩⟩) fun _ _ e => e) (args_list_sort _)))
  simp only [Around.in1_units]
  omega
end
def rSortX (K : PySem.W.Frag) : List V → Hp → VK → Prop := fun xs H Q => ∃ p ys ds G, xs = [.ref p] ∧ (SqL K H p ys ∨ SqT K H p ys) ∧ Same G H ∧ DpAll K G ys ds ∧ okSort ds = true ∧ ∀ l zs, H l = none → DpAll K G zs (srt ds) → Q (.ref l) (upd H l (.lst zs))
theorem each_dp {K : PySem.W.Frag} {G : Hp} : ∀ {ys : List V} {ds : List D} {us : List Value}, DpAll K G ys ds → Vals ys us → W.EachIs (fun v d => ∃ x, RelV x v ∧ Dp K G x d) us ds
  | _, _, _, .nil, .nil => .nil
  | _, _, _, .cons h t, .cons r rs => .cons ⟨_, r, h⟩ (each_dp t rs)
theorem dp_each {K : PySem.W.Frag} {G : Hp} : ∀ {ds : List D} {us : List Value}, W.EachIs (fun v d => ∃ x, RelV x v ∧ Dp K G x d) us ds → ∃ zs, DpAll K G zs ds ∧ Vals zs us
  | _, _, .nil => ⟨[], .nil, .nil⟩
  | _, _, .cons ⟨x, r, h⟩ t => by
    obtain ⟨zs, h1, h2⟩ := dp_each t
    exact ⟨x :: zs, .cons h h1, .cons r h2⟩
section
variable {X : Cx}
theorem cr_sortX (pl : Pl X) : CallR X (.builtin "sorted") (rSortX X.K) := fun pins s σ H vs us Q I r ⟨a, ys, ds, G, evs, hs, sg, hd, ho, q⟩ => by
  subst evs
  obtain ⟨oa, os, oz, od⟩ := okSort_iff.mp ho
  rw [Vals.ref1 r]
  have hun := pl.units
  -- the items, read
  have rd : ∀ (ys : List V) (ds : List D) (its : List Value), DpAll X.K G ys ds → Vals ys its → (∀ d ∈ ds, W.alike d d = true) → W.EachIs (fun v b => ∃ as, Reads s.heap v (id b) as) its ds := by
    intro ys ds its h rv
    induction rv generalizing ds with
    | nil => cases h; exact fun _ => .nil
    | cons r1 _ ih =>
      cases h with
      | cons h1 h2 => exact fun al => .cons (L2.Dp.reads I _ _ _ ((Dp.mono sg h1).toL (alike_nd _ (al _ List.mem_cons_self))) r1) (ih _ h2 fun d hd => al d (List.mem_cons_of_mem _ hd))
  -- they stand in a list or in a tuple
  obtain ⟨its, T, o, n, rv, hT, ho1, hc, hdt, hz⟩ : ∃ (its : List Value) (T : String) (o : Obj) (n : Nat), Vals ys its ∧ (T = "list" ∨ T = "tuple") ∧ s.heap.get? a = some o ∧ o.cls = .type T ∧ o.data = .seq its.toArray n ∧ ys.length ≤ sizeLine := by
    rcases hs with hs | hs
    · obtain ⟨its, rv, hl, hz⟩ := I.list hs
      obtain ⟨o, h1, h2, n, h3⟩ := hl.isList
      exact ⟨its, "list", o, n, rv, .inl rfl, h1, h2, h3, hz⟩
    · obtain ⟨its, rv, hl, hz⟩ := I.tuple hs
      obtain ⟨o, h1, h2, n, h3⟩ := (show s.heap.IsTuple a its.toArray from hl)
      exact ⟨its, "tuple", o, n, rv, .inr rfl, h1, h2, h3, hz⟩
  have len : its.toArray.size ≤ sizeLine := by rw [List.size_toArray, ← Vals.length rv]; exact hz
  refine sorted_any (R := fun v d => ∃ x, RelV x v ∧ Dp X.K G x d) (enc := id) (bs := ds) (fun T E' k => wpAny_collect_seq (hsz := len) a hT ho1 hc hdt fun h1 old => k h1 s.toks its old (each_dp hd rv) (rd ys ds its hd rv fun d hd => oa d hd d hd)) (by rw [List.map_id]; exact oa) (by rw [List.map_id]; exact os) oz (fun b hb => ?_) fun h1 tk vs out old ol eo => ?_
  · have := od b hb
    show X.A.units + 2 + b.depth < cLine
    omega
  · obtain ⟨zs, z1, z2⟩ := dp_each eo
    have at1 : (h1.push (seqObj "list" vs.toArray 0)).get? h1.objs.size = some (seqObj "list" vs.toArray 0) := Heap.get?_push_size _ rfl
    obtain ⟨ep, at2⟩ := PyProof.Rows.sortedHeap_at (out := out.toArray) at1
    have I1 := I.kept (t' := tk) old
    refine ⟨.ref _, upd H h1.objs.size (.lst zs), I1.laid (t' := tk) (fun b o2 e2 => ?_) (Nat.le_refl _) ⟨by rw [Vals.length z2, ol]; exact oz, out, ep, z2, at2⟩, rfl, q _ _ (I1.hok.fresh (Nat.le_refl _)) z1⟩
    have lt := Heap.lt_size e2
    rw [PyProof.Rows.sortedHeap_old (Nat.ne_of_lt lt) (by rw [Heap.size_push]; exact Nat.lt_succ_of_lt lt)]
    exact Heap.get?_push_of_some _ e2
theorem c_sortX {K : PySem.W.Frag} : Call1L K (rSortX K) sortX := fun G H x dx ds Q s hx e bk => by
  unfold sortX at e
  split at e
  · split at e
    · rename_i ho
      cases e
      obtain ⟨p, vs, rfl, h1, h2⟩ := hx.list s
      exact ⟨p, vs, _, G, rfl, .inl h1, s, h2, ho, fun l zs hl hz => bk l zs hl hz⟩
    · cases e
  · split at e
    · rename_i ho
      cases e
      obtain ⟨p, vs, rfl, h1, h2⟩ := hx.tuple s
      exact ⟨p, vs, _, G, rfl, .inr h1, s, h2, ho, fun l zs hl hz => bk l zs hl hz⟩
    · cases e
  · cases e
/-! ### extend by a new list -/
def sExt (i : Nat) (g : FA) : FS := fun r => (listAt i r).bind fun _ => (g r).bind fun y => (listAt i y.2).bind fun z => if z.1.length + y.1.length ≤ sizeLine then some (.nx (z.2 (z.1 ++ y.1))) else none
@[simp] theorem sExt_r (i : Nat) (g : FA) (r : Ev) : sExt i g r = (listAt i r).bind fun _ => (g r).bind fun y => (listAt i y.2).bind fun z => if z.1.length + y.1.length ≤ sizeLine then some (.nx (z.2 (z.1 ++ y.1))) else none := rfl
theorem ss_ext {i : Nat} {px pa pp pos : Pos} {x : Str} {e : Expr} {g : FA} {p : Bool} (hcall : PE X (.Call (.Attribute (.Name x px) "extend" pa) [e] [] pp) (tBM X.K "list" rExtend (tVar i) (tCons (tL X.K p g) tNil)))
    (hs : swapsWith (.Call (.Attribute (.Name x px) "extend" pa) [e] [] pp) none pos.line X.env = pure false := by rfl) : SS X (.Expr (.Call (.Attribute (.Name x px) "extend" pa) [e] [] pp) pos) (sExt i g) :=
  PS.weak (ps_expr hcall hs) fun E σ H ⟨C, G, r, o, ok, hf, k⟩ => by
    unfold sExt at hf
    obtain ⟨⟨d0, p0⟩, h0, hf⟩ := Option.bind_eq_some_iff.mp hf
    obtain ⟨⟨d, r1⟩, h1, hf⟩ := Option.bind_eq_some_iff.mp hf
    obtain ⟨⟨ds, put⟩, h2, hf⟩ := Option.bind_eq_some_iff.mp hf
    split at hf
    · rename_i hz
      cases hf
      obtain ⟨l, vs, e1, _, e2, _, _⟩ := ok.listAt h0
      refine ⟨_, e1, .inl ⟨rfl, _, .inl (.inl e2)⟩, C, G, r, d, r1, ok, h1, fun b zs G1 H1 o1 s1 m1 n1 x1 => ?_⟩
      obtain ⟨l', vs', e1', _, e2', e3', k'⟩ := o1.listAt h2
      rw [e1] at e1'
      cases e1'
      exact ⟨l, b, vs', zs, rfl, rfl, e2', n1.2.2.2.1, by rw [DpAll.length e3', DpAll.length x1]; exact hz, k σ G1 _ (k' _ _ (DpAll.append e3' x1)) s1⟩
    · cases hf
end
end SL
/-! Dicts that are lent to a call; working out of programs. -/
namespace SL
open PySem PySem.Spec PyProof.Rows L2
section
variable {K : PySem.W.Frag} {G H : Hp}
/-- what is known without p -/
def era (G : Hp) (p : Addr) : Hp := fun a => if a = p then none else G a
theorem era_ne {p a : Addr} (h : a ≠ p) : era G p a = G a := by unfold era; rw [if_neg h]
theorem era_eq {p : Addr} : era G p p = none := by unfold era; rw [if_pos rfl]
theorem SqL.era {p a : Addr} {xs : List V} {o : Obj} {ks : List KE3} (hp : G p = some (DicO p o ks)) (h : SqL K G a xs) : SqL K (era G p) a xs := by
  by_cases z : a = p
  · subst z
    rcases h with (h | ⟨o', h⟩) | h
    · rw [hp] at h; cases h
    · rw [hp] at h; cases h
    · exact .inr h
  · rcases h with (h | ⟨o', h⟩) | h
    · exact .inl (.inl (by rw [era_ne z]; exact h))
    · exact .inl (.inr ⟨o', by rw [era_ne z]; exact h⟩)
    · exact .inr h
theorem SqT.era {p a : Addr} {xs : List V} {o : Obj} {ks : List KE3} (hp : G p = some (DicO p o ks)) (h : SqT K G a xs) : SqT K (era G p) a xs := by
  by_cases z : a = p
  · subst z
    rcases h with (h | ⟨o', h⟩) | h
    · rw [hp] at h; cases h
    · rw [hp] at h; cases h
    · exact .inr h
  · rcases h with (h | ⟨o', h⟩) | h
    · exact .inl (.inl (by rw [era_ne z]; exact h))
    · exact .inl (.inr ⟨o', by rw [era_ne z]; exact h⟩)
    · exact .inr h
mutual
theorem Dp.era {p : Addr} {o : Obj} {ks : List KE3} (hp : G p = some (DicO p o ks)) : ∀ {d : D} {v : V}, Dp K G v d → d.hasDict = false → Dp K (era G p) v d
  | _, _, .non, _ => .non
  | _, _, .bl b, _ => .bl b
  | _, _, .int i, _ => .int i
  | _, _, .str x, _ => .str x
  | _, _, .lst h t, n => .lst (SqL.era hp h) (DpAll.era hp t (by simpa only [PyData.hasDict] using n))
  | _, _, .tup h t, n => .tup (SqT.era hp h) (DpAll.era hp t (by simpa only [PyData.hasDict] using n))
  | _, _, .dic _ _, n => by simp only [PyData.hasDict] at n; cases n
theorem DpAll.era {p : Addr} {o : Obj} {ks : List KE3} (hp : G p = some (DicO p o ks)) : ∀ {ds : List D} {vs : List V}, DpAll K G vs ds → PyData.hasDictAll ds = false → DpAll K (era G p) vs ds
  | _, _, .nil, _ => .nil
  | _, _, .cons h t, n => by
    simp only [PyData.hasDictAll, Bool.or_eq_false_iff] at n
    exact .cons (Dp.era hp h n.1) (DpAll.era hp t n.2)
end
end
/-- arguments, one of them the dict of slot i -/
def Lent (K : PySem.W.Frag) (G H : Hp) (σ : L2.St) (r : Ev) (i : Nat) (vs : List V) (ds : List D) : Prop := ∃ p o ks kds, r[i]? = some (some (.ownD kds)) ∧ σ[i]? = some (some (.ref p)) ∧ G p = none ∧ H p = some (DicO p o ks) ∧ DpKs K G ks kds ∧ DpAll K (upd G p (DicO p o ks)) vs ds
def tAL (K : PySem.W.Frag) (pu : Bool) (i : Nat) (f : FA) : TA := fun σ H Q => ∃ C G r d r', Ok K C G H σ r ∧ f r = some (d, r') ∧
  ∀ vs G' H', Ok K C G' H' σ r' → Same G G' → (pu = true → Same H H') → Lent K G' H' σ r' i vs d → Q vs H'
abbrev SAL (X : Cx) (pu : Bool) (i : Nat) (es : List Expr) (f : FA) : Prop := PA X es (tAL X.K pu i f)
def aLend (i : Nat) (g : FA) : FA := fun r => (dictOwn i r).bind fun _ => (g r).bind fun y => (dictOwn i y.2).map fun kds => (.dict kds :: y.1, y.2)
@[simp] theorem aLend_r (i : Nat) (g : FA) (r : Ev) : aLend i g r = (dictOwn i r).bind fun _ => (g r).bind fun y => (dictOwn i y.2).map fun kds => (.dict kds :: y.1, y.2) := rfl
/-- the result has no dict in it -/
def fCallL (fn : List D → Option D) (g : FA) : FE := fun r => (g r).bind fun x => (fn x.1).bind fun d => if d.hasDict = true then none else some (d, x.2)
@[simp] theorem fCallL_r (fn : List D → Option D) (g : FA) (r : Ev) : fCallL fn g r = (g r).bind fun x => (fn x.1).bind fun d => if d.hasDict = true then none else some (d, x.2) := rfl
section
variable {X : Cx} {e : Expr} {es : List Expr} {f : FE} {g : FA} {p q : Bool} {pos pp py : Pos} {x y : Str} {k : Nat} {fa : Addr} {fd : FuncData} {ps : List Str} {n : Nat}
theorem sal_here (i : Nat) (hr : SA X p es g) (hN : X.N[i]? = some y := by rfl) (hv : Vis X.env.scope y := by first | exact Or.inl rfl | exact Or.inr (Or.inl rfl) | exact Or.inr (Or.inr rfl)) (hd : (y == ("__debug__" : Str)) = false := by decide)
    (hcd : (y == ("__classdict__" : Str)) = false := by decide) (hs : starEach (.Name y py :: es) X.env = (false, eval (.Name y py) X.env) :: starEach es X.env := by rfl) : SAL X p i (.Name y py :: es) (aLend i g) := PA.weak (pa_cons (pe_var hN hv hd hcd) hr hs) fun σ H Q ⟨C, G, r, d, r', ok, hf, k⟩ => by
  unfold aLend at hf
  obtain ⟨kd0, h0, hf⟩ := Option.bind_eq_some_iff.mp hf
  obtain ⟨⟨ds, r1⟩, h1, hf⟩ := Option.bind_eq_some_iff.mp hf
  obtain ⟨kds, h2, h3⟩ := Option.map_eq_some_iff.mp hf
  cases h3
  obtain ⟨l, o0, ks0, e1, _⟩ := ok.dictOwn h0
  refine ⟨_, e1, C, G, r, ds, r1, ok, h1, fun vs G1 H1 o1 s1 m1 x1 => ?_⟩
  obtain ⟨l', o, ks, e2, hg, hh, hk, _⟩ := o1.dictOwn h2
  rw [e1] at e2; cases e2
  have er : r1[i]? = some (some (.ownD kds)) := by
    unfold dictOwn at h2
    split at h2
    · rename_i k' e'; cases h2; exact e'
    · cases h2
  exact k _ G1 H1 o1 s1 m1 ⟨l, o, ks, kds, er, e1, hg, hh, hk, .cons (.dic upd_same (DpKs.mono (same_laid hg) hk)) (DpAll.mono (same_laid hg) x1)⟩
theorem sal_cons {i : Nat} (ha : SE X p e f) (hr : SAL X q i es g) (hs : starEach (e :: es) X.env = (false, eval e X.env) :: starEach es X.env := by rfl) : SAL X (p && q) i (e :: es) (aCons f g) := PA.weak (pa_cons ha hr hs) fun σ H Q ⟨C, G, r, d, r', ok, hf, k⟩ => by
  obtain ⟨x, r1, xs, h1, h2, rfl⟩ := aCons_some hf
  exact ⟨C, G, r, x, r1, ok, h1, fun v G1 H1 o1 s1 m1 x1 => ⟨C, G1, r1, xs, r', o1, h2, fun vs G2 H2 o2 s2 m2 ⟨p', o, ks, kds, a1, a2, a3, a4, a5, a6⟩ => k _ G2 H2 o2 (s1.trans s2) (fun m => (m1 (and1 m)).trans (m2 (and2 m))) ⟨p', o, ks, kds, a1, a2, a3, a4, a5, .cons (Dp.mono (s2.trans (same_laid a3)) x1) a6⟩⟩⟩
theorem aLend_len {i m : Nat} {g : FA} (hg : ∀ (r : Ev) (ds : List D) (r' : Ev), g r = some (ds, r') → ds.length = m) : ∀ (r : Ev) (ds : List D) (r' : Ev), aLend i g r = some (ds, r') → ds.length = m + 1 := fun r ds r' h => by
  unfold aLend at h
  obtain ⟨kd0, h0, h⟩ := Option.bind_eq_some_iff.mp h
  obtain ⟨⟨xs, r1⟩, h1, h⟩ := Option.bind_eq_some_iff.mp h
  obtain ⟨kds, h2, h3⟩ := Option.map_eq_some_iff.mp h
  cases h3
  rw [List.length_cons, hg _ _ _ h1]
theorem t_callL {i : Nat} {fn : List D → Option D} (hlen : ∀ r ds r', g r = some (ds, r') → ds.length = n) {σ : L2.St} {H : Hp} {Q : VK} {E : XK} (h : tE X.K p (fCallL fn g) σ H Q) : True → tCall (spP X.K n fn) [] E (tAL X.K p i g) σ H Q := fun _ => by
  obtain ⟨C, G, r, d, r', ok, hf, kk⟩ := h
  unfold fCallL at hf
  obtain ⟨⟨ds, r1⟩, h1, h2⟩ := Option.bind_eq_some_iff.mp hf
  obtain ⟨d', h3, h4⟩ := Option.bind_eq_some_iff.mp h2
  split at h4
  · cases h4
  · rename_i hnd
    cases h4
    refine ⟨C, G, r, ds, _, ok, h1, fun vs G1 H1 o1 s1 m1 ⟨p', o, ks, kds, a1, a2, a3, a4, a5, a6⟩ => ?_⟩
    have sg : Same (upd G1 p' (DicO p' o ks)) H1 := fun a u ea => by
      by_cases z : a = p'
      · subst z; rw [upd_same] at ea; cases ea; exact a4
      · rw [upd_ne z] at ea; exact o1.sub _ _ ea
    refine ⟨upd G1 p' (DicO p' o ks), ds, d, sg, by rw [List.append_nil]; exact a6, ?_, h3, fun v G2 H2 s2 m2 s2' n2 x2 => ?_⟩
    · rw [List.append_nil, DpAll.length a6, hlen _ _ _ h1]
    · have g2 : G2 p' = some (DicO p' o ks) := s2 _ _ upd_same
      have sA : Same G1 (era G2 p') := fun a u ea => by
        have z : a ≠ p' := ne_of_none ea a3
        rw [era_ne z]
        exact s2 _ _ (by rw [upd_ne z]; exact ea)
      have sB : Same (era G2 p') H2 := fun a u ea => by
        by_cases z : a = p'
        · subst z; rw [era_eq] at ea; cases ea
        · rw [era_ne z] at ea; exact s2' _ _ ea
      have o2 := o1.calm sA m2 sB fun a u ea => by
        by_cases z : a = p'
        · subst z; rw [era_eq] at ea; cases ea
        · rw [era_ne z] at ea
          rcases n2 a u ea with h | h
          · rw [upd_ne z] at h; exact .inl h
          · exact .inr h
      exact kk v (era G2 p') H2 o2 (s1.trans sA) (fun m => (m1 m).trans m2) (Dp.era g2 x2 (by simpa using hnd))
theorem se_callL {i : Nat} {fn : List D → Option D} (F : FnG X.prog X.w X.K X.mg X.base CX0 k fa fd ps (spP X.K n fn)) (pl : Pl X) (hr : Room k X.A) (hg : Gl X x) (hm : X.mg x = some (.ref fa)) (hk : PySem.W.keepIn X.K (.ref fa) = true) (hb : Binds X.K fd ps []) (ha : SAL X p i (e :: es) g) (hlen : ∀ r ds r', g r = some (ds, r') → ds.length = n)
    (hdb : (x == ("__debug__" : Str)) = false := by decide) (he : starEach (e :: es) X.env = (false, eval e X.env) :: starEach es X.env := by rfl) (hpl : (backTo pos (starEach es X.env)).any (·.1) = false := by rfl) :
    SE X p (.Call (.Name x pp) (e :: es) [] pos) (fCallL fn g) := PE.weak (pe_callG (dvs := []) F hr pl.guards hg hm hk hb .nil pass0 ha hdb he hpl) fun σ H Q h => t_callL hlen h trivial
end
/-! ### working out -/
/-- what follows an end of a statement -/
def thenK (o : Option Out) (F : FS) : Option Out := match o with
  | some (.nx r) => F r
  | o => o
def sT (F F' : FS) : FS := fun r => thenK (F r) F'
@[simp] theorem sT_r (F F' : FS) (r : Ev) : sT F F' r = thenK (F r) F' := rfl
theorem sT_eq (F F' : FS) : sT F F' = sSeq F F' := rfl
theorem ss_then {X : Cx} {st : Stmt} {sts : List Stmt} {F F' : FS} (h1 : SS X st F) (h2 : SSs X sts F') : SSs X (st :: sts) (sT F F') := ss_cons h1 h2
@[simp] theorem thenK_none (F : FS) : thenK none F = none := rfl
@[simp] theorem thenK_nx (r : Ev) (F : FS) : thenK (some (.nx r)) F = F r := rfl
@[simp] theorem thenK_rt (d : D) (r : Ev) (F : FS) : thenK (some (.rt d r)) F = some (.rt d r) := rfl
@[simp] theorem thenK_rtO (d : List D) (r : Ev) (F : FS) : thenK (some (.rtO d r)) F = some (.rtO d r) := rfl
@[simp] theorem thenK_rtN (d : D) (r : Ev) (F : FS) : thenK (some (.rtN d r)) F = some (.rtN d r) := rfl
@[simp] theorem thenK_bk (r : Ev) (F : FS) : thenK (some (.bk r)) F = some (.bk r) := rfl
@[simp] theorem thenK_ct (r : Ev) (F : FS) : thenK (some (.ct r)) F = some (.ct r) := rfl
@[simp] theorem thenK_ite (c : Prop) [Decidable c] (a b : Option Out) (F : FS) : thenK (if c then a else b) F = if c then thenK a F else thenK b F := by split <;> rfl
theorem thenK_bind {α : Type} (o : Option α) (g : α → Option Out) (F : FS) : thenK (o.bind g) F = o.bind fun x => thenK (g x) F := by cases o <;> rfl
/-- a loop, turn by turn -/
theorem loop_each {α β : Type} {A : FG} {body : FS} (enc : α → D) (E : β → Ev) (step : β → α → β) (P : β → Prop) : ∀ {xs : List α} {b : β}, P b → (∀ b x, x ∈ xs → P b → ((A (enc x) (E b)).bind body = some (.nx (E (step b x))) ∨ (A (enc x) (E b)).bind body = some (.ct (E (step b x)))) ∧ P (step b x)) →
    loopF A body (xs.map enc) (E b) = some (.nx (E (xs.foldl step b))) ∧ P (xs.foldl step b)
  | [], b, h, _ => ⟨rfl, h⟩
  | x :: xs, b, h, hs => by
    obtain ⟨h1, h2⟩ := hs b x (List.mem_cons_self ..) h
    have ih := loop_each enc E step P (xs := xs) h2 fun b y hy => hs b y (List.mem_cons_of_mem _ hy)
    refine ⟨?_, ih.2⟩
    rw [List.foldl_cons, ← ih.1]
    show (A (enc x) (E b)).bind _ = _
    cases hA : A (enc x) (E b) with
    | none => rw [hA] at h1; rcases h1 with h1 | h1 <;> cases h1
    | some r1 =>
      rw [hA] at h1
      show (match body r1 with | some (.nx r2) => loopF A body (xs.map enc) r2 | some (.ct r2) => loopF A body (xs.map enc) r2 | some (.bk r2) => some (.nx r2) | o => o) = _
      rcases h1 with h1 | h1
      · have h1' : body r1 = some (.nx (E (step b x))) := h1
        rw [h1']
      · have h1' : body r1 = some (.ct (E (step b x))) := h1
        rw [h1']
def tryF {α β : Type} (step : β → α → β ⊕ D) : β → List α → β ⊕ D
  | b, [] => .inl b
  | b, x :: xs => match step b x with
    | .inl b' => tryF step b' xs
    | .inr d => .inr d
/-- .. that may hand back a value -/
theorem loop_try {α β : Type} {A : FG} {body : FS} (enc : α → D) (E : β → Ev) (step : β → α → β ⊕ D) (P : β → Prop) : ∀ {xs : List α} {b : β}, P b →
    (∀ b x, x ∈ xs → P b → match step b x with
      | .inl b' => ((A (enc x) (E b)).bind body = some (.nx (E b')) ∨ (A (enc x) (E b)).bind body = some (.ct (E b'))) ∧ P b'
      | .inr d => ∃ r, (A (enc x) (E b)).bind body = some (.rt d r)) →
    (∃ b', tryF step b xs = .inl b' ∧ loopF A body (xs.map enc) (E b) = some (.nx (E b')) ∧ P b') ∨ ∃ d r, tryF step b xs = .inr d ∧ loopF A body (xs.map enc) (E b) = some (.rt d r)
  | [], b, h, _ => .inl ⟨b, rfl, rfl, h⟩
  | x :: xs, b, h, hs => by
    have h0 := hs b x (List.mem_cons_self ..) h
    have hl : loopF A body (enc x :: xs.map enc) (E b) = (A (enc x) (E b)).bind fun r1 => (match body r1 with | some (.nx r2) => loopF A body (xs.map enc) r2 | some (.ct r2) => loopF A body (xs.map enc) r2 | some (.bk r2) => some (.nx r2) | o => o) := rfl
    rw [List.map_cons, hl]
    unfold tryF
    cases hst : step b x with
    | inl b' =>
      rw [hst] at h0
      show (∃ b'', tryF step b' xs = .inl b'' ∧ _) ∨ ∃ d r, tryF step b' xs = .inr d ∧ _
      obtain ⟨h1, h2⟩ := h0
      have ih := loop_try enc E step P (xs := xs) h2 fun b y hy => hs b y (List.mem_cons_of_mem _ hy)
      cases hA : A (enc x) (E b) with
      | none => rw [hA] at h1; rcases h1 with h1 | h1 <;> cases h1
      | some r1 =>
        rw [hA] at h1
        have e : (some r1 : Option Ev).bind (fun r1 => (match body r1 with | some (.nx r2) => loopF A body (xs.map enc) r2 | some (.ct r2) => loopF A body (xs.map enc) r2 | some (.bk r2) => some (.nx r2) | o => o)) = loopF A body (xs.map enc) (E b') := by
          rcases h1 with h1 | h1
          · have h1' : body r1 = some (.nx (E b')) := h1
            show (match body r1 with | some (.nx r2) => loopF A body (xs.map enc) r2 | some (.ct r2) => loopF A body (xs.map enc) r2 | some (.bk r2) => some (.nx r2) | o => o) = _
            rw [h1']
          · have h1' : body r1 = some (.ct (E b')) := h1
            show (match body r1 with | some (.nx r2) => loopF A body (xs.map enc) r2 | some (.ct r2) => loopF A body (xs.map enc) r2 | some (.bk r2) => some (.nx r2) | o => o) = _
            rw [h1']
        rw [e]
        exact ih
    | inr d =>
      rw [hst] at h0
      obtain ⟨r, h1⟩ := h0
      refine .inr ⟨d, r, rfl, ?_⟩
      · cases hA : A (enc x) (E b) with
        | none => rw [hA] at h1; cases h1
        | some r1 =>
          rw [hA] at h1
          have h1' : body r1 = some (.rt d r) := h1
          show (match body r1 with | some (.nx r2) => loopF A body (xs.map enc) r2 | some (.ct r2) => loopF A body (xs.map enc) r2 | some (.bk r2) => some (.nx r2) | o => o) = _
          rw [h1']
end SL
/-! list(d); look-ups in dicts that calls give. -/
namespace SL
open PySem PySem.Spec PyProof.Rows L2
def listKD : D → Option (List D)
  | .dict kds => some (kds.map (·.1))
  | _ => none
@[simp] theorem listKD_d (kds : List (D × D)) : listKD (.dict kds) = some (kds.map (·.1)) := rfl
def rListD (K : PySem.W.Frag) : List V → Hp → VK → Prop := fun xs H Q => ∃ p o ks, xs = [.ref p] ∧ H p = some (DicO p o ks) ∧ ∀ l, H l = none → Q (.ref l) (upd H l (.lst (ks.map fun x => .ref x.2.1)))
theorem keys_vals {ks : List KE3} {es : Array DictEntry} {n : Nat} {acc : Array Value} (h : ∀ (i : Nat) (k : NestedKey) (a : Addr) (v : V), ks[i]? = some (k, a, v) → ∃ en : DictEntry, es[i]? = some en ∧ en.key = Value.ref a ∧ RelV v en.val) (hz : es.size = ks.length) (hl : acc.size = es.size) (hp : ∀ i v, acc[i]? = some v → ∃ hi : i < es.size, v = es[i].key) :
    Vals (ks.map fun x => .ref x.2.1) acc.toList := by
  have go : ∀ (m : Nat) (js : List KE3) (us : List Value), js = ks.drop m → us = acc.toList.drop m → Vals (js.map fun x => .ref x.2.1) us := by
    intro m js
    induction js generalizing m with
    | nil =>
      intro us h1 h2
      have : ks.length ≤ m := by
        have := congrArg List.length h1
        rw [List.length_drop] at this
        simp at this
        omega
      rw [h2, List.drop_eq_nil_of_le (by rw [Array.length_toList]; omega)]
      exact .nil
    | cons j js ih =>
      intro us h1 h2
      have hm : m < ks.length := by
        have := congrArg List.length h1
        rw [List.length_drop, List.length_cons] at this
        omega
      rw [List.drop_eq_getElem_cons hm] at h1
      injection h1 with h3 h4
      have hm2 : m < acc.toList.length := by rw [Array.length_toList]; omega
      rw [List.drop_eq_getElem_cons hm2] at h2
      subst h2
      refine .cons ?_ (ih (m + 1) _ h4 rfl)
      have e1 : acc[m]? = some acc.toList[m] := by
        rw [← Array.getElem?_toList, List.getElem?_eq_getElem hm2]
      obtain ⟨hi, e2⟩ := hp m _ e1
      obtain ⟨k, a, v⟩ := j
      obtain ⟨en, e3, e4, _⟩ := h m k a v (by rw [List.getElem?_eq_getElem hm, ← h3])
      rw [Array.getElem?_eq_getElem hi] at e3
      have e5 : es[m] = en := Option.some.inj e3
      show acc.toList[m] = Value.ref a
      rw [e2, e5, e4]
  exact go 0 ks acc.toList rfl rfl
section
variable {X : Cx} {a b : Expr} {fk fd : FE} {p q : Bool} {pos : Pos}
theorem call_list_dict (pl : Pl X) : CallR X (.type "list") (rListD X.K) := by
  intro pins s σ H vs us Q I r h
  obtain ⟨d, o, ks, rfl, hd, q⟩ := h
  rw [Vals.ref1 r]
  obtain ⟨hgd, hs⟩ := DicO.at I hd
  obtain ⟨hx, hm, es, ep, hdt⟩ := dicS_obj hs
  obtain ⟨hz, hent⟩ := dic_ents hs hdt
  have hl : ks.length ≤ sizeLine := hs.1
  refine PySem.W.kdl_call (KdlSrc.rawDict (es := es) (ep := ep) hm) (I.ok.hd pl.calm) ⟨o, hgd, hx, hdt⟩ (by omega) fun h' tk acc c hk hS hacc => ?_
  have rv := keys_vals (n := 0) hent hz hacc.1 hacc.2
  exact ⟨.ref s.heap.objs.size, _, I.laid (t' := tk) hk (Nat.le_refl _) (show ObjOk X.prog X.w _ h' _ (.lst (ks.map fun x => .ref x.2.1)) from ⟨by rw [List.length_map]; exact hl, acc.toList, c, rv, by rw [Array.toArray_toList]; exact hS⟩), rfl, q _ (I.hok.fresh (Nat.le_refl _))⟩
theorem keys_dp {K : PySem.W.Frag} {G : Hp} : ∀ {ks : List KE3} {kds : List (D × D)}, DpKs K G ks kds → DpAll K G (ks.map fun x => .ref x.2.1) (kds.map (·.1))
  | _, _, .nil => .nil
  | _, _, .cons _ a _ t => .cons a (keys_dp t)
theorem c_list_dict {K : PySem.W.Frag} : Call1L K (rListD K) listKD := fun G H x dx ds Q s hx e bk => by
  unfold listKD at e
  split at e
  · cases e
    rcases hx with hx | ⟨p', vs', ds', _, e', _⟩
    · cases hx with
      | dic a b => exact ⟨_, _, _, rfl, s _ _ a, fun l hl => bk l _ hl (keys_dp b)⟩
    · cases e'
  · cases e
/-- f(..)[k] -/
def fDgetE (fd fk : FE) : FE := fun r => (fd r).bind fun y => (fk y.2).bind fun x => (dicD y.1).bind fun kds => (tkey x.1).bind fun _ => (dFind kds x.1).map fun d => (d, x.2)
@[simp] theorem fDgetE_r (fd fk : FE) (r : Ev) : fDgetE fd fk r = (fd r).bind fun y => (fk y.2).bind fun x => (dicD y.1).bind fun kds => (tkey x.1).bind fun _ => (dFind kds x.1).map fun d => (d, x.2) := rfl
theorem se_dgetE (pl : Pl X) (hd : SE X p b fd) (hk : SE X q a fk) (hs : NoSl a := by exact fun _ _ => rfl) : SE X (p && q) (.Subscript b a pos) (fDgetE fd fk) := ⟨fun pins s σ H Q I ⟨C, G, r, d, r', ok, hf, kk⟩ => by
  unfold fDgetE at hf
  obtain ⟨⟨z, r0⟩, h0, hf⟩ := Option.bind_eq_some_iff.mp hf
  obtain ⟨⟨x, r1⟩, h1, hf⟩ := Option.bind_eq_some_iff.mp hf
  obtain ⟨kds, h2, hf⟩ := Option.bind_eq_some_iff.mp hf
  obtain ⟨k, h3, hf⟩ := Option.bind_eq_some_iff.mp hf
  obtain ⟨d', h4, h5⟩ := Option.map_eq_some_iff.mp hf
  cases h5
  refine subD_of PySem.F.slot_dict_getitem.lookup hs (thn (se_got hd I ok h0) fun u s1 ⟨v0, H1, I1, rx, G1, o1, s1', m1, x1⟩ => thn (se_got hk I1 o1 h1) fun iv s2 ⟨v, H2, I2, ry, G2, o2, s2', m2, x2⟩ => ?_)
  obtain ⟨l, o, ks, rfl, h6, h7⟩ := dp_dict x1 h2
  obtain rfl : u = Value.ref l := rx
  have h6' := o2.sub _ _ (s2' _ _ h6)
  obtain ⟨bb, rfl, e3⟩ := tkey_ref h3 x2
  obtain rfl : iv = Value.ref bb := ry
  refine ⟨⟨o, (DicO.at I2 h6').1, (dicS_obj (DicO.at I2 h6').2).1.1⟩, ?_⟩
  exact q_getItem pl.units I2 o2.sub ⟨o, ks, h6', DpKs.mono s2' h7⟩ x2 e3 h4 fun v' w' s3 I3 r3 x3 => ⟨v', H2, I3, r3, kk v' G2 H2 o2 (s1'.trans s2') (fun m => (m1 (and1 m)).trans (m2 (and2 m))) x3⟩⟩
def fDinE (neg : Bool) (fk fd : FE) : FE := fun r => (fk r).bind fun x => (fd x.2).bind fun y => (dicD y.1).bind fun kds => (tkey x.1).map fun _ => (.bool (neg != (dFind kds x.1).isSome), y.2)
@[simp] theorem fDinE_r (neg : Bool) (fk fd : FE) (r : Ev) : fDinE neg fk fd r = (fk r).bind fun x => (fd x.2).bind fun y => (dicD y.1).bind fun kds => (tkey x.1).map fun _ => (.bool (neg != (dFind kds x.1).isSome), y.2) := rfl
theorem sc_dinE (pl : Pl X) (hk : SE X p a fk) (hd : SE X q b fd) : PC X .In a b (tE X.K (p && q) (fDinE false fk fd)) := ⟨fun pins s σ H Q I ⟨C, G, r, d, r', ok, hf, kk⟩ => by
  unfold fDinE at hf
  obtain ⟨⟨x, r1⟩, h1, hf⟩ := Option.bind_eq_some_iff.mp hf
  obtain ⟨⟨z, r2⟩, h0, hf⟩ := Option.bind_eq_some_iff.mp hf
  obtain ⟨kds, h2, hf⟩ := Option.bind_eq_some_iff.mp hf
  obtain ⟨k, h3, h5⟩ := Option.map_eq_some_iff.mp hf
  cases h5
  refine thn (se_got hk I ok h1) fun iv s1 ⟨v, H1, I1, ry, G1, o1, s1', m1, x1⟩ => thn (se_got hd I1 o1 h0) fun u s2 ⟨v2, H2, I2, rx, G2, o2, s2', m2, x2⟩ => ?_
  obtain ⟨l, o, ks, rfl, h6, h7⟩ := dp_dict x2 h2
  obtain rfl : u = Value.ref l := rx
  obtain ⟨bb, rfl, e3⟩ := tkey_ref h3 x1
  obtain rfl : iv = Value.ref bb := ry
  exact q_in pl.units I2 o2.sub ⟨o, ks, o2.sub _ _ h6, h7⟩ (Dp.mono s2' x1) e3 fun s3 I3 => ⟨.bl _, H2, I3, rfl, kk _ G2 H2 o2 (s1'.trans s2') (fun m => (m1 (and1 m)).trans (m2 (and2 m))) (by rw [Bool.false_bne]; exact .bl _)⟩⟩
theorem sc_dnotinE (pl : Pl X) (hk : SE X p a fk) (hd : SE X q b fd) : PC X .NotIn a b (tE X.K (p && q) (fDinE true fk fd)) := ⟨fun pins s σ H Q I ⟨C, G, r, d, r', ok, hf, kk⟩ => by
  unfold fDinE at hf
  obtain ⟨⟨x, r1⟩, h1, hf⟩ := Option.bind_eq_some_iff.mp hf
  obtain ⟨⟨z, r2⟩, h0, hf⟩ := Option.bind_eq_some_iff.mp hf
  obtain ⟨kds, h2, hf⟩ := Option.bind_eq_some_iff.mp hf
  obtain ⟨k, h3, h5⟩ := Option.map_eq_some_iff.mp hf
  cases h5
  refine thn (se_got hk I ok h1) fun iv s1 ⟨v, H1, I1, ry, G1, o1, s1', m1, x1⟩ => thn (se_got hd I1 o1 h0) fun u s2 ⟨v2, H2, I2, rx, G2, o2, s2', m2, x2⟩ => ?_
  obtain ⟨l, o, ks, rfl, h6, h7⟩ := dp_dict x2 h2
  obtain rfl : u = Value.ref l := rx
  obtain ⟨bb, rfl, e3⟩ := tkey_ref h3 x1
  obtain rfl : iv = Value.ref bb := ry
  exact q_notIn pl.units I2 o2.sub ⟨o, ks, o2.sub _ _ h6, h7⟩ (Dp.mono s2' x1) e3 fun s3 I3 => ⟨.bl _, H2, I3, rfl, kk _ G2 H2 o2 (s1'.trans s2') (fun m => (m1 (and1 m)).trans (m2 (and2 m))) (by rw [Bool.true_bne]; exact .bl _)⟩⟩
theorem se_dinE {op : CmpOp} {neg : Bool} (h : PC X op a b (tE X.K p (fDinE neg fk fd))) (hm : behindInMarks op b = false := by rfl) : SE X p (.Compare a [op] [b] pos) (fDinE neg fk fd) := pe_cmp h hm
theorem st_dinE {op : CmpOp} {neg : Bool} (h : PC X op a b (tE X.K p (fDinE neg fk fd))) (hm : behindInMarks op b = false := by rfl) : ST X p (.Compare a [op] [b] pos) (gT (fDinE neg fk fd)) := PT.weak (pt_cmp h hm) fun σ H Q h => t_bool (fun Q' q => q) h
end
end SL
/-! Dicts over plain keys; sorting of numbers. -/
namespace Sk
open PySem PySem.Spec PyProof.Rows L2 SL
section
variable {α β : Type} [DecidableEq α]
def aFind (l : List (α × β)) (k : α) : Option β := (l.find? fun p => decide (p.1 = k)).map (·.2)
def aPut (l : List (α × β)) (k : α) (v : β) : List (α × β) := if (aFind l k).isSome = true then l.map fun p => if p.1 = k then (p.1, v) else p else l ++ [(k, v)]
theorem aFind_nil (k : α) : aFind ([] : List (α × β)) k = none := rfl
theorem aFind_cons (p : α × β) (l : List (α × β)) (k : α) : aFind (p :: l) k = if p.1 = k then some p.2 else aFind l k := by
  unfold aFind
  rw [List.find?_cons]
  by_cases h : p.1 = k
  · rw [if_pos h, decide_eq_true h]; rfl
  · rw [if_neg h, decide_eq_false h]
theorem aFind_app (l m : List (α × β)) (k : α) : aFind (l ++ m) k = (aFind l k).or (aFind m k) := by
  unfold aFind
  rw [List.find?_append]
  cases l.find? fun p => decide (p.1 = k) <;> rfl
theorem aFind_map (l : List (α × β)) (k k' : α) (v : β) : aFind (l.map fun p => if p.1 = k then (p.1, v) else p) k' = if k' = k then (aFind l k').map fun _ => v else aFind l k' := by
  induction l with
  | nil => rw [List.map_nil, aFind_nil]; split <;> rfl
  | cons p l ih =>
    rw [List.map_cons, aFind_cons, aFind_cons, ih]
    by_cases h : p.1 = k
    · rw [if_pos h]
      dsimp only
      by_cases h2 : p.1 = k'
      · rw [if_pos h2, if_pos h2, if_pos (by rw [← h2, h])]; rfl
      · rw [if_neg h2, if_neg h2]
    · rw [if_neg h]
      by_cases h2 : p.1 = k'
      · rw [if_pos h2, if_neg (by rw [← h2]; exact h), if_pos h2]
      · rw [if_neg h2, if_neg h2]
theorem aFind_same (l : List (α × β)) (k : α) (v : β) : aFind (aPut l k v) k = some v := by
  unfold aPut
  split
  · rename_i h
    rw [aFind_map, if_pos rfl]
    obtain ⟨x, hx⟩ := Option.isSome_iff_exists.mp h
    rw [hx]
    rfl
  · rename_i h
    have e : aFind l k = none := by cases hh : aFind l k with
      | none => rfl
      | some x => rw [hh] at h; exact absurd rfl h
    rw [aFind_app, e, aFind_cons, if_pos rfl]
    rfl
theorem aFind_ne (l : List (α × β)) {k k' : α} (v : β) (h : k' ≠ k) : aFind (aPut l k v) k' = aFind l k' := by
  unfold aPut
  split
  · rw [aFind_map, if_neg h]
  · rw [aFind_app, aFind_cons, if_neg (fun e => h e.symm), aFind_nil, Option.or_none]
theorem mem_put {l : List (α × β)} {k : α} {v : β} {e : α × β} (h : e ∈ aPut l k v) : e ∈ l ∨ e = (k, v) := by
  unfold aPut at h
  split at h
  · obtain ⟨p, hp, rfl⟩ := List.mem_map.mp h
    by_cases z : p.1 = k
    · rw [if_pos z]; exact .inr (by rw [z])
    · rw [if_neg z]; exact .inl hp
  · rcases List.mem_append.mp h with h | h
    · exact .inl h
    · exact .inr (List.mem_singleton.mp h)
theorem aFind_mem {l : List (α × β)} {k : α} {v : β} (h : aFind l k = some v) : (k, v) ∈ l := by
  unfold aFind at h
  obtain ⟨p, h1, rfl⟩ := Option.map_eq_some_iff.mp h
  have h2 := List.find?_some h1
  have h3 := List.mem_of_find?_eq_some h1
  rw [← of_decide_eq_true h2]
  exact h3
theorem keys_put (l : List (α × β)) (k : α) (v : β) : (aPut l k v).map (·.1) = if (aFind l k).isSome = true then l.map (·.1) else l.map (·.1) ++ [k] := by
  unfold aPut
  split
  · rw [List.map_map]
    refine List.map_congr_left fun p _ => ?_
    show (if p.1 = k then (p.1, v) else p).1 = p.1
    split <;> rfl
  · rw [List.map_append]
    rfl
theorem aFind_none {l : List (α × β)} {k : α} : aFind l k = none ↔ k ∉ l.map (·.1) := by
  unfold aFind
  rw [Option.map_eq_none_iff, List.find?_eq_none]
  constructor
  · intro h hk
    obtain ⟨p, hp, e⟩ := List.mem_map.mp hk
    exact h p hp (decide_eq_true e)
  · intro h p hp e
    exact h (List.mem_map.mpr ⟨p, hp, of_decide_eq_true e⟩)
theorem aFind_some {l : List (α × β)} {k : α} : (aFind l k).isSome = true ↔ k ∈ l.map (·.1) := by
  constructor
  · intro h
    by_cases z : k ∈ l.map (·.1)
    · exact z
    · rw [aFind_none.mpr z] at h; cases h
  · intro h
    cases e : aFind l k with
    | none => exact absurd h (aFind_none.mp e)
    | some v => rfl
theorem nodup_put {l : List (α × β)} {k : α} {v : β} (h : (l.map (·.1)).Nodup) : ((aPut l k v).map (·.1)).Nodup := by
  rw [keys_put]
  split
  · exact h
  · rename_i z
    refine List.nodup_append.mpr ⟨h, List.pairwise_singleton _ _, fun a ha b hb => ?_⟩
    rw [List.mem_singleton.mp hb]
    intro e
    subst e
    exact z (aFind_some.mpr ha)
theorem mem_find {l : List (α × β)} {k : α} {v : β} (h : (l.map (·.1)).Nodup) (hm : (k, v) ∈ l) : aFind l k = some v := by
  induction l with
  | nil => cases hm
  | cons p l ih =>
    rw [List.map_cons, List.nodup_cons] at h
    rw [aFind_cons]
    rcases List.mem_cons.mp hm with rfl | hm
    · rw [if_pos rfl]
    · rw [if_neg, ih h.2 hm]
      intro e
      exact h.1 (List.mem_map.mpr ⟨(k, v), hm, e.symm⟩)
theorem put_len (l : List (α × β)) (k : α) (v : β) : (aPut l k v).length ≤ l.length + 1 := by
  unfold aPut
  split
  · rw [List.length_map]; omega
  · rw [List.length_append]; exact Nat.le_refl _
theorem mem_keys_put {l : List (α × β)} {k k' : α} {v : β} : k' ∈ (aPut l k v).map (·.1) ↔ k' ∈ l.map (·.1) ∨ k' = k := by
  rw [keys_put]
  split
  · rename_i h
    exact ⟨.inl, fun z => z.elim id fun e => e ▸ aFind_some.mp h⟩
  · rw [List.mem_append, List.mem_singleton]
/-- keys as data -/
structure KEnc (enc : α → D) where
  nk : α → NestedKey
  ok : ∀ a, tkey (enc a) = some (nk a)
  inj : ∀ a b, nk a = nk b → a = b
variable {enc : α → D}
theorem KEnc.key (E : KEnc enc) (a : α) : nkey (enc a) = some (E.nk a) := by
  have h := E.ok a
  unfold tkey at h
  split at h
  · rename_i e; rw [e]; exact h
  · cases h
theorem KEnc.eq (E : KEnc enc) (a b : α) : keyEq (enc a) (enc b) = decide (a = b) := by
  rw [key_dec (E.key a) (E.key b), Bool.eq_iff_iff, decide_eq_true_iff, decide_eq_true_iff]
  exact ⟨E.inj a b, fun h => by rw [h]⟩
theorem enc_find (E : KEnc enc) (f : β → D) (l : List (α × β)) (k : α) : dFind (l.map fun p => (enc p.1, f p.2)) (enc k) = (aFind l k).map f := by
  induction l with
  | nil => rfl
  | cons p l ih =>
    rw [aFind_cons]
    unfold dFind at ih ⊢
    rw [List.map_cons, List.find?_cons, E.eq]
    by_cases h : p.1 = k
    · rw [if_pos h, decide_eq_true h]; rfl
    · rw [if_neg h, decide_eq_false h]; exact ih
theorem enc_put (E : KEnc enc) (f : β → D) (l : List (α × β)) (k : α) (v : β) : dPut (l.map fun p => (enc p.1, f p.2)) (enc k) (f v) = (aPut l k v).map fun p => (enc p.1, f p.2) := by
  unfold dPut aPut
  rw [enc_find E, Option.isSome_map]
  split
  · rw [List.map_map, List.map_map]
    refine List.map_congr_left fun p _ => ?_
    show (if keyEq (enc p.1) (enc k) = true then (enc p.1, f v) else (enc p.1, f p.2)) = (enc (if p.1 = k then (p.1, v) else p).1, f (if p.1 = k then (p.1, v) else p).2)
    rw [E.eq]
    by_cases h : p.1 = k
    · rw [if_pos h, decide_eq_true h, if_pos rfl]
    · rw [if_neg h, decide_eq_false h, if_neg Bool.false_ne_true]
  · rw [List.map_append]; rfl
end
/-! tuples of numbers -/
def wsD (ws : List Int) : D := .tuple (ws.map .int)
def rkD (k : Nat × List Int) : D := .tuple [.int k.1, wsD k.2]
theorem toNKs_ints : ∀ (ws : List Int), toNKs (ws.map .int) = some (ws.map .num)
  | [] => rfl
  | w :: ws => by
    rw [List.map_cons, toNKs, toNKs_ints ws]
    rfl
theorem nk_num_inj : ∀ {a b : List Int}, a.map NestedKey.num = b.map NestedKey.num → a = b
  | [], [], _ => rfl
  | x :: xs, y :: ys, h => by
    rw [List.map_cons, List.map_cons] at h
    injection h with h1 h2
    injection h1 with h1
    rw [h1, nk_num_inj h2]
  | [], y :: ys, h => by cases h
  | x :: xs, [], h => by cases h
theorem depths_num : ∀ (ws : List Int), NestedKey.depthAll (ws.map .num) ≤ 1
  | [] => by simp [NestedKey.depthAll]
  | w :: ws => by
    have := depths_num ws
    simp only [List.map_cons, NestedKey.depthAll, NestedKey.depth]
    omega
def wsK : KEnc wsD where
  nk ws := .tup (ws.map .num)
  ok ws := by
    show nkey (.tuple (ws.map .int)) = _
    unfold nkey
    rw [toNK, toNKs_ints]
    have := depths_num ws
    exact if_pos (show NestedKey.depth (.tup (ws.map .num)) ≤ 8 by simp only [NestedKey.depth]; omega)
  inj a b h := by
    injection h with h
    exact nk_num_inj h
def rkK : KEnc rkD where
  nk k := .tup [.num k.1, .tup (k.2.map .num)]
  ok k := by
    show nkey (.tuple [.int k.1, .tuple (k.2.map .int)]) = _
    unfold nkey
    simp only [toNK, toNKs, toNKs_ints]
    have := depths_num k.2
    exact if_pos (show NestedKey.depth (.tup [.num k.1, .tup (k.2.map .num)]) ≤ 8 by simp only [NestedKey.depth, NestedKey.depthAll]; omega)
  inj a b h := by
    injection h with h
    injection h with h1 h2
    injection h1 with h1
    injection h2 with h2
    injection h2 with h2
    have := nk_num_inj h2
    obtain ⟨a1, a2⟩ := a
    obtain ⟨b1, b2⟩ := b
    dsimp only at h1 this
    rw [this, Int.ofNat_inj.mp h1]
/-! sorting -/
def sortI (ws : List Int) : List Int := ws.mergeSort fun a b => decide (a ≤ b)
theorem sortI_perm (ws : List Int) : (sortI ws).Perm ws := List.mergeSort_perm ws _
theorem sortI_sorted (ws : List Int) : (sortI ws).Pairwise fun a b => a ≤ b := by
  have := List.pairwise_mergeSort (le := fun a b : Int => decide (a ≤ b)) (fun a b c h1 h2 => by
    have := of_decide_eq_true h1; have := of_decide_eq_true h2
    exact decide_eq_true (by omega)) (fun a b => by
    by_cases h : a ≤ b
    · simp [h]
    · simp [h]; omega) ws
  exact this.imp fun h => of_decide_eq_true h
theorem sorted_eq : ∀ {a b : List Int}, a.Perm b → (a.Pairwise fun x y => x ≤ y) → (b.Pairwise fun x y => x ≤ y) → a = b
  | [], b, h, _, _ => (List.Perm.nil_eq h)
  | x :: xs, [], h, _, _ => absurd h.symm (by intro z; exact absurd (List.Perm.nil_eq z) (by simp))
  | x :: xs, y :: ys, h, h1, h2 => by
    rw [List.pairwise_cons] at h1 h2
    have e : x = y := by
      have a1 : x ∈ y :: ys := h.subset (List.mem_cons_self ..)
      have a2 : y ∈ x :: xs := h.symm.subset (List.mem_cons_self ..)
      rcases List.mem_cons.mp a1 with r | r
      · exact r
      · rcases List.mem_cons.mp a2 with s | s
        · exact s.symm
        · have := h2.1 x r; have := h1.1 y s
          omega
    subst e
    rw [sorted_eq (List.perm_cons x |>.mp h) h1.2 h2.2]
theorem sortI_eq {a b : List Int} (h : a.Perm b) : sortI a = sortI b := sorted_eq ((sortI_perm a).trans (h.trans (sortI_perm b).symm)) (sortI_sorted a) (sortI_sorted b)
theorem dataLe_int (a b : Int) : W.dataLe false id (.int a) (.int b) = decide (a ≤ b) := by
  show (!W.dataLt (.int b) (.int a)) = _
  rw [W.dataLt_int, W.not_lt_int]
theorem sort_ints (ws : List Int) (h : ws.length ≤ 1000) : sortX (.tuple (ws.map .int)) = some ((sortI ws).map .int) ∧ sortX (.list (ws.map .int)) = some ((sortI ws).map .int) := by
  have ho : okSort (ws.map .int) = true := by
    rw [okSort_iff]
    refine ⟨fun d hd d' hd' => ?_, .inr fun d hd => ?_, by rw [List.length_map]; unfold sizeLine; omega, fun d hd => ?_⟩
    · obtain ⟨a, _, rfl⟩ := List.mem_map.mp hd
      obtain ⟨b, _, rfl⟩ := List.mem_map.mp hd'
      simp [W.alike]
    · obtain ⟨a, _, rfl⟩ := List.mem_map.mp hd
      exact ⟨fun z => (nomatch z), fun _ z => (nomatch z)⟩
    · obtain ⟨a, _, rfl⟩ := List.mem_map.mp hd
      simp [PyData.depth]
  have hs : srt (ws.map .int) = (sortI ws).map .int := by
    unfold srt sortI
    exact (List.map_mergeSort (fun a _ b _ => (dataLe_int a b).symm)).symm
  constructor
  · show (if _ then _ else _) = _
    rw [if_pos ho, hs]
  · show (if _ then _ else _) = _
    rw [if_pos ho, hs]
end Sk
/-! The sets of wishes that plans have: plain mathematics. -/
namespace Sk
open PySem PySem.Spec PyProof.Rows L2 SL
abbrev Rows := List ((Nat × List Int) × (Int × List Nat))
structure Beg where
  last : Option Nat
  ws : List Int
  amt : Int
  p : List Nat
def Sky.wi (S : Sky) (i : Nat) : Int := (S.lk i).w
def setOf (S : Sky) (p : List Nat) : List Int := sortI (p.map S.wi)
theorem set_nil (S : Sky) : setOf S [] = [] := by
  unfold setOf sortI
  rw [List.map_nil, List.mergeSort_nil]
def okB (S : Sky) (i : Nat) (e : (Nat × List Int) × (Int × List Nat)) : Bool := !decide (S.wi i ∈ e.1.2) && decide (S.fin e.1.1 + S.tz e.1.1 i ≤ (S.lk i).s)
def begOf (e : (Nat × List Int) × (Int × List Nat)) : Beg := ⟨some e.1.1, e.1.2, e.2.1, e.2.2⟩
def beg0 : Beg := ⟨none, [], 0, []⟩
def begs (S : Sky) (i : Nat) (rows : Rows) : List Beg := beg0 :: (rows.filter (okB S i)).map begOf
def keyB (S : Sky) (i : Nat) (b : Beg) : Nat × List Int := (i, sortI (b.ws ++ [S.wi i]))
def lowerB (rows : Rows) (k : Nat × List Int) (v : Int) : Bool := match aFind rows k with
  | none => true
  | some u => decide (v < u.1)
def putB (S : Sky) (i : Nat) (rows : Rows) (b : Beg) : Rows := match levelZ S b.last b.amt i with
  | none => rows
  | some v => if lowerB rows (keyB S i b) v = true then aPut rows (keyB S i b) (v, b.p ++ [i]) else rows
def stepR (S : Sky) (rows : Rows) (i : Nat) : Rows := (begs S i rows).foldl (putB S i) rows
def reachZ (S : Sky) (m : Nat) : Rows := (List.range m).foldl (stepR S) []
theorem reach_succ (S : Sky) (m : Nat) : reachZ S (m + 1) = stepR S (reachZ S m) m := by
  unfold reachZ
  rw [List.range_succ, List.foldl_append]
  rfl
/-! levels -/
theorem stored_mono {S : Sky} {last : Option Nat} {a b t : Int} (h : a ≤ b) : storedZ S last a t ≤ storedZ S last b t := by
  unfold storedZ
  cases last with
  | none => exact Int.le_refl _
  | some i => exact mx_mono (by omega)
theorem level_mono {S : Sky} {last : Option Nat} {a b v : Int} {i : Nat} (h : a ≤ b) (hb : levelZ S last b i = some v) : ∃ u, levelZ S last a i = some u ∧ u ≤ v := by
  unfold levelZ at hb ⊢
  have m1 := stored_mono (S := S) (last := last) (t := (S.lk i).s) h
  have m2 := stored_mono (S := S) (last := last) (t := S.fin i) h
  split at hb
  · cases hb
  · cases hb
    rw [if_neg (by omega)]
    exact ⟨_, rfl, by omega⟩
def runB (S : Sky) (p : List Nat) (l : Nat) : Int := runZ S p ((S.fin l).toNat + 1)
theorem plan_vp {S : Sky} (F : Fit S) {p : List Nat} (hp : PlanP S p) : (∀ j ∈ p, j < S.looks.length) → Vp S p p.getLast? (match p.getLast? with | none => 0 | some l => runB S p l) := by
  induction hp with
  | nil => intro _; exact vp_zero S
  | @snoc p i hp g ih =>
    intro h
    rw [last_snoc]
    have ih := ih fun j hj => h j (List.mem_append_left _ hj)
    exact vp_next F ih (h i (List.mem_append_right _ (List.mem_singleton.mpr rfl))) g.t
theorem plan_vp_last {S : Sky} (F : Fit S) {p : List Nat} (hp : PlanP S p) (h : ∀ j ∈ p, j < S.looks.length) {l : Nat} (e : p.getLast? = some l) : Vp S p (some l) (runB S p l) := by
  have := plan_vp F hp h
  rw [e] at this
  exact this
theorem plan_wishes {S : Sky} {p : List Nat} (hp : PlanP S p) : (p.map S.wi).Nodup := by
  induction hp with
  | nil => exact List.Pairwise.nil
  | @snoc p i hp g ih =>
    rw [List.map_append]
    refine List.nodup_append.mpr ⟨ih, List.pairwise_singleton _ _, fun a ha b hb => ?_⟩
    rw [List.mem_singleton.mp hb]
    intro e
    subst e
    exact of_decide_eq_false g.w ha
theorem set_snoc (S : Sky) (p : List Nat) (i : Nat) : sortI (setOf S p ++ [S.wi i]) = setOf S (p ++ [i]) := by
  unfold setOf
  refine sortI_eq ?_
  rw [List.map_append]
  exact (sortI_perm _).append_right _
theorem mem_set {S : Sky} {p : List Nat} {w : Int} : w ∈ setOf S p ↔ w ∈ p.map S.wi := (sortI_perm _).mem_iff
/-- what a beginning is -/
structure BegOk (S : Sky) (m : Nat) (b : Beg) : Prop where
  plan : PlanP S b.p
  lt : ∀ j ∈ b.p, j < m
  vp : Vp S b.p b.last b.amt
  ws : b.ws = setOf S b.p
  o : S.ord b.p m = false
  w : S.wsh b.p m = false
  t : S.trn b.p m = false
structure EntOk (S : Sky) (m : Nat) (e : (Nat × List Int) × (Int × List Nat)) : Prop where
  plan : PlanP S e.2.2
  lt : ∀ j ∈ e.2.2, j < m
  last : e.2.2.getLast? = some e.1.1
  ws : e.1.2 = setOf S e.2.2
  lev : e.2.1 = runB S e.2.2 e.1.1
structure RInv (S : Sky) (m : Nat) (rows : Rows) : Prop where
  ent : ∀ e ∈ rows, EntOk S m e
  low : ∀ p, PlanP S p → (∀ j ∈ p, j < m) → ∀ l, p.getLast? = some l → ∃ v q, aFind rows (l, setOf S p) = some (v, q) ∧ v ≤ runB S p l
  nodup : (rows.map (·.1)).Nodup
  len : rows.length + 1 ≤ 2 ^ m
theorem ent_lt {S : Sky} {m : Nat} {e : (Nat × List Int) × (Int × List Nat)} (h : EntOk S m e) : e.1.1 < m := h.lt _ (List.mem_of_getLast? h.last)
theorem beg_ok {S : Sky} (F : Fit S) {m : Nat} (hm : m < S.looks.length) {e : (Nat × List Int) × (Int × List Nat)} (h : EntOk S m e) (hb : okB S m e = true) : BegOk S m (begOf e) := by
  unfold okB at hb
  rw [Bool.and_eq_true, Bool.not_eq_true', decide_eq_false_iff_not, decide_eq_true_iff] at hb
  have hlt : ∀ j ∈ e.2.2, j < S.looks.length := fun j hj => Nat.lt_trans (h.lt j hj) hm
  have v := plan_vp_last F h.plan hlt h.last
  rw [← h.lev] at v
  refine ⟨h.plan, h.lt, v, h.ws, ?_, ?_, ?_⟩
  · show S.ord e.2.2 m = false
    unfold Sky.ord
    rw [h.last]
    exact decide_eq_false (by have := ent_lt h; omega)
  · refine decide_eq_false fun z => hb.1 ?_
    rw [h.ws, mem_set]
    exact z
  · show S.trn e.2.2 m = false
    unfold Sky.trn
    rw [h.last]
    exact decide_eq_false (by omega)
theorem beg0_ok (S : Sky) (m : Nat) : BegOk S m beg0 := ⟨.nil, fun j hj => (by cases hj), vp_zero S, (set_nil S).symm, rfl, decide_eq_false (by show ¬ _ ∈ ([] : List Int); simp), rfl⟩
theorem beg_good {S : Sky} (F : Fit S) {m : Nat} (hm : m < S.looks.length) {b : Beg} (h : BegOk S m b) {v : Int} (hv : levelZ S b.last b.amt m = some v) : EntOk S (m + 1) (keyB S m b, (v, b.p ++ [m])) := by
  rw [level_run F h.vp hm h.t] at hv
  split at hv
  · cases hv
  · rename_i hr
    cases hv
    exact {
      plan := .snoc h.plan ⟨h.o, h.w, h.t, by cases e : S.rm b.p m with | false => rfl | true => exact absurd e hr⟩
      lt := fun j hj => by
        rcases List.mem_append.mp hj with hj | hj
        · have := h.lt j hj; omega
        · rw [List.mem_singleton.mp hj]; omega
      last := last_snoc _ _
      ws := by
        show sortI (b.ws ++ [S.wi m]) = _
        rw [h.ws, set_snoc]
      lev := rfl }
theorem put_ent {S : Sky} (F : Fit S) {m : Nat} (hm : m < S.looks.length) {b : Beg} (h : BegOk S m b) {rows : Rows} (hr : ∀ e ∈ rows, EntOk S (m + 1) e) : ∀ e ∈ putB S m rows b, EntOk S (m + 1) e := by
  unfold putB
  cases hv : levelZ S b.last b.amt m with
  | none => exact hr
  | some v =>
    dsimp only
    split
    · intro e he
      rcases mem_put he with he | rfl
      · exact hr e he
      · exact beg_good F hm h hv
    · exact hr
theorem put_nodup {S : Sky} {m : Nat} {b : Beg} {rows : Rows} (hr : (rows.map (·.1)).Nodup) : ((putB S m rows b).map (·.1)).Nodup := by
  unfold putB
  split
  · exact hr
  · split
    · exact nodup_put hr
    · exact hr
theorem put_len2 {S : Sky} {m : Nat} {b : Beg} {rows : Rows} : (putB S m rows b).length ≤ rows.length + 1 := by
  unfold putB
  split
  · omega
  · split
    · exact put_len _ _ _
    · omega
theorem put_other {S : Sky} {m : Nat} {b : Beg} {rows : Rows} {k : Nat × List Int} (h : k.1 ≠ m) : aFind (putB S m rows b) k = aFind rows k := by
  unfold putB
  split
  · rfl
  · split
    · exact aFind_ne _ _ fun e => h (by rw [e]; rfl)
    · rfl
/-- the level at a key never rises -/
theorem put_down {S : Sky} {m : Nat} {b : Beg} {rows : Rows} {k : Nat × List Int} {u : Int} {q : List Nat} (h : aFind rows k = some (u, q)) : ∃ u' q', aFind (putB S m rows b) k = some (u', q') ∧ u' ≤ u := by
  unfold putB
  split
  · exact ⟨u, q, h, Int.le_refl _⟩
  · rename_i v _
    split
    · rename_i hl
      by_cases e : k = keyB S m b
      · subst e
        refine ⟨v, _, aFind_same _ _ _, ?_⟩
        unfold lowerB at hl
        rw [h] at hl
        have := of_decide_eq_true hl
        dsimp only at this
        omega
      · exact ⟨u, q, by rw [aFind_ne _ _ e, h], Int.le_refl _⟩
    · exact ⟨u, q, h, Int.le_refl _⟩
theorem put_here {S : Sky} {m : Nat} {b : Beg} {rows : Rows} {v : Int} (hv : levelZ S b.last b.amt m = some v) : ∃ u q, aFind (putB S m rows b) (keyB S m b) = some (u, q) ∧ u ≤ v := by
  unfold putB
  rw [hv]
  dsimp only
  split
  · exact ⟨v, _, aFind_same _ _ _, Int.le_refl _⟩
  · rename_i hl
    unfold lowerB at hl
    cases e : aFind rows (keyB S m b) with
    | none => rw [e] at hl; exact absurd rfl hl
    | some u =>
      rw [e] at hl
      exact ⟨u.1, u.2, rfl, by
        have := of_decide_eq_false (p := v < u.1) (by cases z : decide (v < u.1) with | false => rfl | true => exact absurd z hl)
        omega⟩
theorem fold_down {S : Sky} {m : Nat} : ∀ {bs : List Beg} {rows : Rows} {k : Nat × List Int} {u : Int} {q : List Nat}, aFind rows k = some (u, q) → ∃ u' q', aFind (bs.foldl (putB S m) rows) k = some (u', q') ∧ u' ≤ u
  | [], _, _, u, q, h => ⟨u, q, h, Int.le_refl _⟩
  | b :: bs, rows, k, u, q, h => by
    obtain ⟨u1, q1, h1, l1⟩ := put_down (S := S) (m := m) (b := b) h
    obtain ⟨u2, q2, h2, l2⟩ := fold_down (S := S) (m := m) (bs := bs) h1
    exact ⟨u2, q2, h2, by omega⟩
theorem fold_here {S : Sky} {m : Nat} {b : Beg} {v : Int} (hv : levelZ S b.last b.amt m = some v) : ∀ {bs : List Beg} {rows : Rows}, b ∈ bs → ∃ u q, aFind (bs.foldl (putB S m) rows) (keyB S m b) = some (u, q) ∧ u ≤ v
  | b' :: bs, rows, h => by
    rw [List.foldl_cons]
    rcases List.mem_cons.mp h with rfl | h
    · obtain ⟨u, q, h1, l1⟩ := put_here (S := S) (m := m) (rows := rows) hv
      obtain ⟨u2, q2, h2, l2⟩ := fold_down (S := S) (m := m) (bs := bs) h1
      exact ⟨u2, q2, h2, by omega⟩
    · exact fold_here hv h
theorem fold_other {S : Sky} {m : Nat} {k : Nat × List Int} (hk : k.1 ≠ m) : ∀ {bs : List Beg} {rows : Rows}, aFind (bs.foldl (putB S m) rows) k = aFind rows k
  | [], _ => rfl
  | b :: bs, rows => by rw [List.foldl_cons, fold_other hk, put_other hk]
theorem fold_ent {S : Sky} (F : Fit S) {m : Nat} (hm : m < S.looks.length) : ∀ {bs : List Beg} {rows : Rows}, (∀ b ∈ bs, BegOk S m b) → (∀ e ∈ rows, EntOk S (m + 1) e) → ∀ e ∈ bs.foldl (putB S m) rows, EntOk S (m + 1) e
  | [], _, _, h => h
  | b :: bs, rows, hb, h => fold_ent F hm (bs := bs) (fun b' h' => hb b' (List.mem_cons_of_mem _ h')) (put_ent F hm (hb b (List.mem_cons_self ..)) h)
theorem fold_nodup {S : Sky} {m : Nat} : ∀ {bs : List Beg} {rows : Rows}, (rows.map (·.1)).Nodup → ((bs.foldl (putB S m) rows).map (·.1)).Nodup
  | [], _, h => h
  | b :: bs, rows, h => fold_nodup (bs := bs) (put_nodup h)
theorem fold_len {S : Sky} {m : Nat} : ∀ {bs : List Beg} {rows : Rows}, (bs.foldl (putB S m) rows).length ≤ rows.length + bs.length
  | [], _ => Nat.le_refl _
  | b :: bs, rows => by
    have := fold_len (S := S) (m := m) (bs := bs) (rows := putB S m rows b)
    have := put_len2 (S := S) (m := m) (b := b) (rows := rows)
    rw [List.foldl_cons, List.length_cons]
    omega
theorem begs_ok {S : Sky} (F : Fit S) {m : Nat} (hm : m < S.looks.length) {rows : Rows} (h : ∀ e ∈ rows, EntOk S m e) : ∀ b ∈ begs S m rows, BegOk S m b := fun b hb => by
  rcases List.mem_cons.mp hb with rfl | hb
  · exact beg0_ok S m
  · obtain ⟨e, he, rfl⟩ := List.mem_map.mp hb
    obtain ⟨h1, h2⟩ := List.mem_filter.mp he
    exact beg_ok F hm (h e h1) h2
theorem ent_up {S : Sky} {m : Nat} {e : (Nat × List Int) × (Int × List Nat)} (h : EntOk S m e) : EntOk S (m + 1) e := ⟨h.plan, fun j hj => Nat.lt_succ_of_lt (h.lt j hj), h.last, h.ws, h.lev⟩
theorem rinv {S : Sky} (F : Fit S) : ∀ m, m ≤ S.looks.length → RInv S m (reachZ S m)
  | 0, _ => ⟨fun e he => (by cases he), fun p _ h l e => absurd (h l (List.mem_of_getLast? e)) (Nat.not_lt_zero _), List.Pairwise.nil, Nat.le_refl _⟩
  | m + 1, hm => by
    have I := rinv F m (by omega)
    have hm' : m < S.looks.length := by omega
    have hb := begs_ok F hm' I.ent
    rw [reach_succ]
    refine ⟨fold_ent F hm' hb fun e he => ent_up (I.ent e he), ?_, fold_nodup I.nodup, ?_⟩
    · intro p hp hlt l hl
      by_cases e : l = m
      · subst e
        cases hp with
        | nil => cases hl
        | @snoc q i hq g =>
          rw [last_snoc] at hl
          cases hl
          have hql : ∀ j ∈ q, j < l := fun j hj => ord_lt hq l g.o j hj
          have hql2 : ∀ j ∈ q, j < S.looks.length := fun j hj => Nat.lt_trans (hql j hj) hm'
          have lv : ∃ b ∈ begs S l (reachZ S l), b.ws = setOf S q ∧ ∃ u, levelZ S b.last b.amt l = some u ∧ u ≤ runB S (q ++ [l]) l := by
            cases eq : q.getLast? with
            | none =>
              have eq2 := List.getLast?_eq_none_iff.mp eq
              subst eq2
              refine ⟨beg0, List.mem_cons_self .., (set_nil S).symm, _, ?_, Int.le_refl _⟩
              have := level_run F (vp_zero S) hm' g.t
              rw [if_neg (by rw [g.r]; exact Bool.false_ne_true)] at this
              exact this
            | some l' =>
              obtain ⟨v, q', h1, h2⟩ := I.low q hq hql l' eq
              have hmem := aFind_mem h1
              have en := I.ent _ hmem
              have hok : okB S l ((l', setOf S q), (v, q')) = true := by
                unfold okB
                rw [Bool.and_eq_true, Bool.not_eq_true', decide_eq_false_iff_not, decide_eq_true_iff]
                constructor
                · intro z
                  exact of_decide_eq_false g.w (mem_set.mp z)
                · have := g.t
                  unfold Sky.trn at this
                  rw [eq] at this
                  have := of_decide_eq_false this
                  show S.fin l' + S.tz l' l ≤ _
                  omega
              refine ⟨begOf ((l', setOf S q), (v, q')), List.mem_cons_of_mem _ (List.mem_map.mpr ⟨_, List.mem_filter.mpr ⟨hmem, hok⟩, rfl⟩), rfl, ?_⟩
              have := level_run F (plan_vp_last F hq hql2 eq) hm' g.t
              rw [if_neg (by rw [g.r]; exact Bool.false_ne_true)] at this
              exact level_mono h2 this
          obtain ⟨b, hb1, hb2, u, hu, hle⟩ := lv
          obtain ⟨u2, q2, h3, h4⟩ := fold_here (S := S) (m := l) hu (rows := reachZ S l) hb1
          refine ⟨u2, q2, ?_, by omega⟩
          have ek : keyB S l b = (l, setOf S (q ++ [l])) := by
            unfold keyB
            rw [hb2, set_snoc]
          rw [← ek]
          exact h3
      · have hlt2 : ∀ j ∈ p, j < m := by
          intro j hj
          have h1 := hlt l (List.mem_of_getLast? hl)
          cases hp with
          | nil => cases hj
          | @snoc q i hq g =>
            rw [last_snoc] at hl
            cases hl
            rcases List.mem_append.mp hj with hj | hj
            · have := ord_lt hq l g.o j hj
              omega
            · rw [List.mem_singleton.mp hj]; omega
        obtain ⟨v, q, h1, h2⟩ := I.low p hp hlt2 l hl
        exact ⟨v, q, by unfold stepR; rw [fold_other (k := (l, setOf S p)) e, h1], h2⟩
    · have a := fold_len (S := S) (m := m) (bs := begs S m (reachZ S m)) (rows := reachZ S m)
      have b : (begs S m (reachZ S m)).length ≤ (reachZ S m).length + 1 := by
        unfold begs
        rw [List.length_cons, List.length_map]
        have := List.length_filter_le (okB S m) (reachZ S m)
        omega
      have c := I.len
      rw [Nat.pow_succ]
      show (stepR S (reachZ S m) m).length + 1 ≤ _
      unfold stepR
      omega
/-! sets and plans -/
def addS (f : List (List Int × List Nat)) (e : (Nat × List Int) × (Int × List Nat)) : List (List Int × List Nat) := if (aFind f e.1.2).isSome = true then f else aPut f e.1.2 e.2.2
def setsZ (S : Sky) : List (List Int × List Nat) := (reachZ S S.looks.length).foldl addS [([], [])]
theorem adds_mem : ∀ {es : Rows} {f : List (List Int × List Nat)} {k : List Int}, k ∈ (es.foldl addS f).map (·.1) ↔ k ∈ f.map (·.1) ∨ ∃ e ∈ es, e.1.2 = k
  | [], f, k => by simp
  | e :: es, f, k => by
    rw [List.foldl_cons, adds_mem]
    unfold addS
    split
    · rename_i h
      have h2 := aFind_some.mp h
      constructor
      · intro z
        rcases z with z | ⟨e', h1, h3⟩
        · exact .inl z
        · exact .inr ⟨e', List.mem_cons_of_mem _ h1, h3⟩
      · intro z
        rcases z with z | ⟨e', h1, h3⟩
        · exact .inl z
        · rcases List.mem_cons.mp h1 with rfl | h1
          · exact .inl (h3 ▸ h2)
          · exact .inr ⟨e', h1, h3⟩
    · rw [mem_keys_put]
      constructor
      · intro z
        rcases z with (z | z) | ⟨e', h1, h3⟩
        · exact .inl z
        · exact .inr ⟨e, List.mem_cons_self .., z.symm⟩
        · exact .inr ⟨e', List.mem_cons_of_mem _ h1, h3⟩
      · intro z
        rcases z with z | ⟨e', h1, h3⟩
        · exact .inl (.inl z)
        · rcases List.mem_cons.mp h1 with rfl | h1
          · exact .inl (.inr h3.symm)
          · exact .inr ⟨e', h1, h3⟩
theorem adds_nodup : ∀ {es : Rows} {f : List (List Int × List Nat)}, (f.map (·.1)).Nodup → ((es.foldl addS f).map (·.1)).Nodup
  | [], _, h => h
  | e :: es, f, h => by
    rw [List.foldl_cons]
    refine adds_nodup ?_
    unfold addS
    split
    · exact h
    · exact nodup_put h
theorem adds_len : ∀ {es : Rows} {f : List (List Int × List Nat)}, (es.foldl addS f).length ≤ f.length + es.length
  | [], _ => Nat.le_refl _
  | e :: es, f => by
    have := adds_len (es := es) (f := addS f e)
    have h2 : (addS f e).length ≤ f.length + 1 := by
      unfold addS
      split
      · omega
      · exact put_len _ _ _
    rw [List.foldl_cons, List.length_cons]
    omega
theorem adds_val {S : Sky} : ∀ {es : Rows} {f : List (List Int × List Nat)}, (∀ e ∈ es, EntOk S S.looks.length e) → (∀ x ∈ f, PlanP S x.2 ∧ (∀ j ∈ x.2, j < S.looks.length) ∧ x.1 = setOf S x.2) → ∀ x ∈ es.foldl addS f, PlanP S x.2 ∧ (∀ j ∈ x.2, j < S.looks.length) ∧ x.1 = setOf S x.2
  | [], _, _, h => h
  | e :: es, f, he, h => by
    rw [List.foldl_cons]
    refine adds_val (fun e' h' => he e' (List.mem_cons_of_mem _ h')) ?_
    unfold addS
    split
    · exact h
    · intro x hx
      rcases mem_put hx with hx | rfl
      · exact h x hx
      · have := he e (List.mem_cons_self ..)
        exact ⟨this.plan, this.lt, this.ws⟩
/-- the sets are those of the plans -/
theorem sets_iff {S : Sky} (F : Fit S) (ws : List Int) : ws ∈ (setsZ S).map (·.1) ↔ ∃ p, PlanP S p ∧ (∀ j ∈ p, j < S.looks.length) ∧ setOf S p = ws := by
  have I := rinv F S.looks.length (Nat.le_refl _)
  unfold setsZ
  rw [adds_mem]
  constructor
  · intro h
    rcases h with h | ⟨e, he, h⟩
    · have h2 : ws = [] := List.mem_singleton.mp h
      exact ⟨[], .nil, fun j hj => (by cases hj), by rw [h2, set_nil]⟩
    · have en := I.ent e he
      exact ⟨e.2.2, en.plan, en.lt, by rw [← h, en.ws]⟩
  · intro ⟨p, hp, hl, h⟩
    cases e : p.getLast? with
    | none =>
      rw [List.getLast?_eq_none_iff.mp e] at h
      exact .inl (by rw [← h, set_nil]; exact List.mem_singleton.mpr rfl)
    | some l =>
      obtain ⟨v, q, h1, _⟩ := I.low p hp hl l e
      exact .inr ⟨_, aFind_mem h1, h⟩
theorem sets_nodup (S : Sky) : ((setsZ S).map (·.1)).Nodup := adds_nodup (List.pairwise_singleton _ _)
theorem sets_val {S : Sky} (F : Fit S) : ∀ x ∈ setsZ S, PlanP S x.2 ∧ (∀ j ∈ x.2, j < S.looks.length) ∧ x.1 = setOf S x.2 :=
  adds_val (rinv F S.looks.length (Nat.le_refl _)).ent fun x hx => by
    rw [List.mem_singleton.mp hx]
    exact ⟨.nil, fun j hj => (by cases hj), (set_nil S).symm⟩
theorem sets_len {S : Sky} (F : Fit S) : (setsZ S).length ≤ 2 ^ S.looks.length := by
  have I := rinv F S.looks.length (Nat.le_refl _)
  have h : (setsZ S).length ≤ [(([] : List Int), ([] : List Nat))].length + (reachZ S S.looks.length).length := adds_len
  have := I.len
  simp only [List.length_singleton] at h
  omega
/-! worths -/
def sumW (S : Sky) (ws : List Int) : Int := (ws.map S.wo).sum
theorem worth_set {S : Sky} {p : List Nat} (hp : PlanP S p) : worthZ S p = sumW S (setOf S p) := by
  unfold worthZ sumW
  refine perm_sum (List.Perm.map _ ?_)
  obtain ⟨a, b⟩ := wishes_fold S p [] List.Pairwise.nil
  have h1 : (wishesOf S p).Perm (p.map S.wi) := by
    show List.Perm (p.foldl (fun ws i => addW ws (S.lk i).w) []) _
    rw [List.perm_ext_iff_of_nodup a (plan_wishes hp)]
    intro x
    rw [b x]
    constructor
    · intro h; rcases h with h | h
      · cases h
      · exact h
    · exact .inr
  exact h1.trans (sortI_perm _).symm
end Sk
/-! The sets of wishes that plans have: what the program's functions compute. -/
namespace Sk
open PySem PySem.Spec PyProof.Rows L2 SL
def sum_of_c1 : FA := (lLc (iSeq (fV 1)) [2] (gNm 2) gYes (f2 ixD (f2 ixD (fV 0) (fC (.int 1))) (fV 2)))
def F_sum_of : FS := (sRet (f1 sumD (fL (sum_of_c1))))
def R_sum_of : List D → Option D := runP 3 F_sum_of
def reached_b1 (c_level_behind : List D → Option D) : FS := (sT (sSet 8 (fCall c_level_behind (aCons (fV 0) (aCons (fV 6) (aCons (fV 10) (aCons (fV 2) aNil))))))
    (sT (sSet 11 (fTup (aCons (fV 2) (aCons (f1 tupD (fL (l1 sortX (f2 addD (fV 7) (fTup (aCons (fV 3) aNil)))))) aNil))))
    (sIf (gAnd (gT (f2 isNotD (fV 8) (fC .none))) (gOr (gT (fDin true 1 (fV 11))) (gT (f2 ltD (fV 8) (f2 ixD (fDget 1 (fV 11)) (fC (.int 0))))))) (sDput 1 (fV 11) (fTup (aCons (fV 8) (aCons (f2 addD (fV 9) (fL (lDisp (aCons (fV 2) aNil)))) aNil)))) sNext)))
def reached_b2 (c_follows : List D → Option D) : FS := (sIf (gAnd (gT (f2 notInD (fV 3) (fV 7))) (gTru (fCall c_follows (aCons (fV 0) (aCons (fV 6) (aCons (fV 2) aNil)))))) (sApp 5 (fTup (aCons (fV 6) (aCons (fV 7) (aCons (fV 8) (aCons (fV 9) aNil)))))) sNext)
def reached_b3 (c_follows : List D → Option D) (c_level_behind : List D → Option D) : FS := (sT (sSetO 5 (lDisp (aCons (fTup (aCons (fC .none) (aCons (fTup aNil) (aCons (fC (.int 0)) (aCons (fL (lDisp aNil)) aNil))))) aNil)))
    (sT (sForD itemsD 1 [6, 7, 8, 9] (gTp 2 (gsCons (gTp 2 (gsCons (gNm 6) (gsCons (gNm 7) gsNil))) (gsCons (gTp 2 (gsCons (gNm 8) (gsCons (gNm 9) gsNil))) gsNil))) (reached_b2 c_follows))
    (sForW [6, 7, 8, 9, 10, 11] (iSeq (fV 5)) (gTp 4 (gsCons (gNm 6) (gsCons (gNm 7) (gsCons (gNm 10) (gsCons (gNm 9) gsNil))))) (reached_b1 c_level_behind))))
def F_reached (c_follows : List D → Option D) (c_level_behind : List D → Option D) : FS := (sT (sSetD 1 dNil)
    (sT (sForW [2, 3, 4, 5, 6, 7, 8, 9, 10, 11] (iEnumD (f2 ixD (fV 0) (fC (.int 0)))) (gTp 2 (gsCons (gNm 2) (gsCons (gTp 5 (gsCons (gNm 3) (gsCons (gNm 4) (gsCons (gNm 4) (gsCons (gNm 4) (gsCons (gNm 4) gsNil)))))) gsNil))) (reached_b3 c_follows c_level_behind))
    (sRet (fV 1))))
def R_reached : List D → Option D := runP 12 (F_reached R_follows R_level_behind)
def plans_by_set_b1 : FS := (sIf (gT (fDin true 1 (fV 3))) (sDput 1 (fV 3) (fV 4)) sNext)
def F_plans_by_set (c_reached : List D → Option D) : FS := (sT (sSetD 1 (dOne (fTup aNil) (fL (lDisp aNil))))
    (sT (sForW [2, 3, 4] (iDItems (fCall c_reached (aCons (fV 0) aNil))) (gTp 2 (gsCons (gTp 2 (gsCons (gNm 2) (gsCons (gNm 3) gsNil))) (gsCons (gTp 2 (gsCons (gNm 2) (gsCons (gNm 4) gsNil))) gsNil))) (plans_by_set_b1))
    (sRet (fV 1))))
def R_plans_by_set : List D → Option D := runP 5 (F_plans_by_set R_reached)
def F_sets_had (c_plans_by_set : List D → Option D) : FS := (sRet (fL (l1 listKD (fCall c_plans_by_set (aCons (fV 0) aNil)))))
def R_sets_had : List D → Option D := runP 1 (F_sets_had R_plans_by_set)
def greatest_worth_c1 (c_sets_had : List D → Option D) (c_sum_of : List D → Option D) : FA := (lLc (iSeq (fCall c_sets_had (aCons (fV 0) aNil))) [1] (gNm 1) gYes (fCall c_sum_of (aCons (fV 0) (aCons (fV 1) aNil))))
def F_greatest_worth (c_sets_had : List D → Option D) (c_sum_of : List D → Option D) : FS := (sRet (f1 maxD (fL (greatest_worth_c1 c_sets_had c_sum_of))))
def R_greatest_worth : List D → Option D := runP 2 (F_greatest_worth R_sets_had R_sum_of)
/-- a loop whose turns are counted -/
theorem loop_count {α β : Type} {A : FG} {body : FS} (enc : α → D) (E : β → Ev) (step : β → α → β) (P : Nat → β → Prop) : ∀ {xs : List α} {b : β} (n : Nat), P n b → (∀ k b x, k < n + xs.length → x ∈ xs → P k b → ((A (enc x) (E b)).bind body = some (.nx (E (step b x))) ∨ (A (enc x) (E b)).bind body = some (.ct (E (step b x)))) ∧ P (k + 1) (step b x)) →
    loopF A body (xs.map enc) (E b) = some (.nx (E (xs.foldl step b))) ∧ P (n + xs.length) (xs.foldl step b)
  | [], b, n, h, _ => ⟨rfl, h⟩
  | x :: xs, b, n, h, hs => by
    obtain ⟨h1, h2⟩ := hs n b x (by rw [List.length_cons]; omega) (List.mem_cons_self ..) h
    have ih := loop_count enc E step P (xs := xs) (n + 1) h2 fun k b y hk hy => hs k b y (by rw [List.length_cons]; omega) (List.mem_cons_of_mem _ hy)
    refine ⟨?_, by rw [List.length_cons, List.foldl_cons, show n + (xs.length + 1) = n + 1 + xs.length by omega]; exact ih.2⟩
    rw [List.foldl_cons, ← ih.1]
    show (A (enc x) (E b)).bind _ = _
    cases hA : A (enc x) (E b) with
    | none => rw [hA] at h1; rcases h1 with h1 | h1 <;> cases h1
    | some r1 =>
      rw [hA] at h1
      show (match body r1 with | some (.nx r2) => loopF A body (xs.map enc) r2 | some (.ct r2) => loopF A body (xs.map enc) r2 | some (.bk r2) => some (.nx r2) | o => o) = _
      rcases h1 with h1 | h1
      · have h1' : body r1 = some (.nx (E (step b x))) := h1
        rw [h1']
      · have h1' : body r1 = some (.ct (E (step b x))) := h1
        rw [h1']
theorem enum_map {α : Type} (f : α → D) (xs : List α) (d : α) : enumL 0 (xs.map f) = (List.range xs.length).map fun (k : Nat) => .tuple [.int k, f (xs.getD k d)] := by
  refine List.ext_getElem? fun i => ?_
  rw [enumL_get, Nat.zero_add, List.getElem?_map, List.getElem?_map]
  by_cases h : i < xs.length
  · rw [List.getElem?_eq_getElem h, List.getElem?_range h]
    show some _ = some (PyData.tuple [PyData.int i, f (xs.getD i d)])
    rw [List.getD_eq_getElem?_getD, List.getElem?_eq_getElem h]
    rfl
  · rw [List.getElem?_eq_none (by omega), List.getElem?_eq_none (by rw [List.length_range]; omega)]
    rfl
def rvD (v : Int × List Nat) : D := .tuple [.int v.1, namesD v.2]
def rowE (e : (Nat × List Int) × (Int × List Nat)) : D × D := (rkD e.1, rvD e.2)
def begD (b : Beg) : D := .tuple [lastD b.last, wsD b.ws, .int b.amt, namesD b.p]
theorem nin_ws (ws : List Int) (x : Int) : notInD (.int x) (wsD ws) = some (.bool (!decide (x ∈ ws))) := by
  have h := nin_ints ws x
  unfold notInD at h ⊢
  unfold wsD
  have s2 : shp (.tuple (ws.map .int)) = true := (Sh.tuple (n := 0) fun d hd => by
    obtain ⟨i, _, rfl⟩ := List.mem_map.mp hd
    exact Sh.int 0 _ : Sh 1 _).shp
  show (if _ then _ else _) = _
  have h2 : (if shp (.int x) = true ∧ shp (.list (ws.map .int)) = true then some (PyData.bool (!(ws.map PyData.int).any fun z => PyData.eqv z (.int x))) else none) = some (.bool (!decide (x ∈ ws))) := h
  rw [if_pos ⟨(Sh.int 0 _).shp, (Sh.ints ws).shp⟩] at h2
  rw [if_pos ⟨(Sh.int 0 _).shp, s2⟩]
  exact h2
theorem ws_add (ws : List Int) (w : Int) (h : ws.length ≤ 1000) : addD (wsD ws) (.tuple [.int w]) = some (wsD (ws ++ [w])) := by
  unfold wsD
  show (if _ then _ else _) = _
  rw [if_pos (by rw [List.length_map]; show ws.length + 1 ≤ _; unfold sizeLine; omega), List.map_append]
  rfl
abbrev A4 : FG := (gTp 2 (gsCons (gTp 2 (gsCons (gNm 6) (gsCons (gNm 7) gsNil))) (gsCons (gTp 2 (gsCons (gNm 8) (gsCons (gNm 9) gsNil))) gsNil)))
theorem rb2_ev (FO : List D → Option D) (SD WS LV NS : D) (l i : Nat) (w : Int) (c4 : Option Cell) (bs : List D) (hl : bs.length < sizeLine) (n f : Bool) (h1 : notInD (.int w) WS = some (.bool n)) (h2 : FO [SD, .int l, .int i] = some (.bool f)) :
    (A4 (.tuple [.tuple [.int l, WS], .tuple [LV, NS]]) [some (.val SD), some (.tag 1), some (.val (.int i)), some (.val (.int w)), c4, some (.own bs), none, none, none, none, none, none]).bind (sW [6, 7, 8, 9] (reached_b2 FO)) =
      some (.nx [some (.val SD), some (.tag 1), some (.val (.int i)), some (.val (.int w)), c4, some (.own (if (n && f) = true then bs ++ [.tuple [.int l, WS, LV, NS]] else bs)), none, none, none, none, none, none]) := by
  unfold reached_b2
  cases n <;> cases f <;> simp [h1, h2, hl]
abbrev A4b : FG := (gTp 4 (gsCons (gNm 6) (gsCons (gNm 7) (gsCons (gNm 10) (gsCons (gNm 9) gsNil)))))
theorem tup_list (ds : List D) : tupD (.list ds) = some (.tuple ds) := rfl
def lowF : Option D → Int → Bool
  | some (.tuple (.int u :: _)), v => decide (v < u)
  | _, _ => true
def resB (lev : Option Int) (ds : List (D × D)) (fd : Option D) (k n : D) : List (D × D) := match lev with
  | none => ds
  | some v => if lowF fd v = true then dPut ds k (.tuple [.int v, n]) else ds
theorem rb1_ev (LB : List D → Option D) (SD L WS AM NS BL W2 N2 : D) (ss : List D) (ds : List (D × D)) (i : Nat) (w : Int) (c4 : Option Cell) (lev : Option Int) (nk : NestedKey) (fd : Option D) (hl : ds.length < sizeLine)
    (h1 : LB [SD, L, AM, .int i] = some (levD lev)) (h2 : addD WS (.tuple [.int w]) = some W2) (h3 : sortX W2 = some ss) (h4 : tkey (.tuple [.int i, .tuple ss]) = some nk) (h5 : dFind ds (.tuple [.int i, .tuple ss]) = fd) (h5' : fd = none ∨ ∃ u x, fd = some (.tuple [.int u, x])) (h6 : addD NS (.list [.int i]) = some N2) :
    (A4b (.tuple [L, WS, AM, NS]) [some (.val SD), some (.ownD ds), some (.val (.int i)), some (.val (.int w)), c4, some (.val BL), none, none, none, none, none, none]).bind (sW [6, 7, 8, 9, 10, 11] (reached_b1 LB)) =
      some (.nx [some (.val SD), some (.ownD (resB lev ds fd (.tuple [.int i, .tuple ss]) N2)), some (.val (.int i)), some (.val (.int w)), c4, some (.val BL), none, none, none, none, none, none]) := by
  unfold reached_b1
  cases lev with
  | none => simp [-sortX, tup_list, h1, h2, h3, levD, resB]
  | some v =>
    rcases h5' with rfl | ⟨u, x, rfl⟩
    · simp [-sortX, tup_list, h1, h2, h3, h4, h5, h6, hl, levD, lowF, resB]
    · by_cases hv : v < u <;> simp [-sortX, tup_list, h1, h2, h3, h4, h5, h6, hl, levD, lowF, hv, resB]
theorem plan_len {S : Sky} {p : List Nat} (hp : PlanP S p) : ∀ m, (∀ j ∈ p, j < m) → p.length ≤ m := by
  induction hp with
  | nil => intro m _; exact Nat.zero_le _
  | @snoc q i hq g ih =>
    intro m h
    have hi := h i (List.mem_append_right _ (List.mem_singleton.mpr rfl))
    have := ih i fun j hj => ord_lt hq i g.o j hj
    rw [List.length_append, List.length_singleton]
    omega
theorem set_len {S : Sky} {p : List Nat} : (setOf S p).length = p.length := by
  unfold setOf
  rw [(sortI_perm _).length_eq, List.length_map]
def stepB (S : Sky) (i : Nat) (bs : List Beg) (e : (Nat × List Int) × (Int × List Nat)) : List Beg := if okB S i e = true then bs ++ [begOf e] else bs
theorem stepB_fold (S : Sky) (i : Nat) : ∀ (rows : Rows) (bs : List Beg), rows.foldl (stepB S i) bs = bs ++ (rows.filter (okB S i)).map begOf
  | [], bs => (List.append_nil bs).symm
  | e :: rows, bs => by
    rw [List.foldl_cons, stepB_fold S i rows, List.filter_cons]
    unfold stepB
    split
    · rw [List.map_cons, List.append_assoc]; rfl
    · rfl
theorem rb2_loop {S : Sky} (F : Fit S) (i : Nat) (hi : i < S.looks.length) (c4 : Option Cell) (rows : Rows) (hr : ∀ e ∈ rows, EntOk S i e) (hl : rows.length ≤ 1000000) :
    loopF A4 (sW [6, 7, 8, 9] (reached_b2 R_follows)) (itemsD (rows.map rowE)) [some (.val (skyD S)), some (.tag 1), some (.val (.int i)), some (.val (.int (S.wi i))), c4, some (.own ([beg0].map begD)), none, none, none, none, none, none] =
      some (.nx [some (.val (skyD S)), some (.tag 1), some (.val (.int i)), some (.val (.int (S.wi i))), c4, some (.own ((begs S i rows).map begD)), none, none, none, none, none, none]) := by
  have h := (loop_count (A := A4) (body := sW [6, 7, 8, 9] (reached_b2 R_follows)) (fun e : (Nat × List Int) × (Int × List Nat) => .tuple [rkD e.1, rvD e.2])
    (fun bs : List Beg => [some (.val (skyD S)), some (.tag 1), some (.val (.int i)), some (.val (.int (S.wi i))), c4, some (.own (bs.map begD)), none, none, none, none, none, none]) (stepB S i) (fun k bs => bs.length ≤ k + 1) (xs := rows) (b := [beg0]) 0 (Nat.le_refl _) fun k bs e hk he hb => by
      have en := hr e he
      have hlt := ent_lt en
      have nw := nin_ws e.1.2 (S.wi i)
      have fo := follows_ok F (i := e.1.1) (j := i) (by omega) hi
      constructor
      · left
        have ev := rb2_ev R_follows (skyD S) (wsD e.1.2) (.int e.2.1) (namesD e.2.2) e.1.1 i (S.wi i) c4 (bs.map begD) (by rw [List.length_map]; exact small_len (by omega)) _ _ nw fo
        refine ev.trans ?_
        have e1 : (if (!decide (S.wi i ∈ e.1.2) && decide (S.fin e.1.1 + S.tz e.1.1 i ≤ (S.lk i).s)) = true then bs.map begD ++ [.tuple [.int e.1.1, wsD e.1.2, .int e.2.1, namesD e.2.2]] else bs.map begD) = (stepB S i bs e).map begD := by
          unfold stepB
          show _ = (if okB S i e = true then bs ++ [begOf e] else bs).map begD
          unfold okB
          split
          · rw [List.map_append]; rfl
          · rfl
        rw [e1]
      · unfold stepB
        split
        · rw [List.length_append, List.length_singleton]; omega
        · omega).1
  rw [stepB_fold] at h
  unfold itemsD
  rw [List.map_map]
  exact h
theorem rb1_loop {S : Sky} (F : Fit S) (i : Nat) (hi : i < S.looks.length) (hi2 : i ≤ 900) (c4 : Option Cell) (BL : D) (rows : Rows) (bs : List Beg) (hb : ∀ b ∈ bs, BegOk S i b) (hl : rows.length + bs.length ≤ 1000000) :
    loopF A4b (sW [6, 7, 8, 9, 10, 11] (reached_b1 R_level_behind)) (bs.map begD) [some (.val (skyD S)), some (.ownD (rows.map rowE)), some (.val (.int i)), some (.val (.int (S.wi i))), c4, some (.val BL), none, none, none, none, none, none] =
      some (.nx [some (.val (skyD S)), some (.ownD ((bs.foldl (putB S i) rows).map rowE)), some (.val (.int i)), some (.val (.int (S.wi i))), c4, some (.val BL), none, none, none, none, none, none]) := by
  refine (loop_count (A := A4b) (body := sW [6, 7, 8, 9, 10, 11] (reached_b1 R_level_behind)) begD
    (fun rows : Rows => [some (.val (skyD S)), some (.ownD (rows.map rowE)), some (.val (.int i)), some (.val (.int (S.wi i))), c4, some (.val BL), none, none, none, none, none, none]) (putB S i) (fun k rs => rs.length ≤ rows.length + k) (xs := bs) (b := rows) 0 (Nat.le_refl _) fun k rs b hk hbb hrs => ?_).1
  have ok := hb b hbb
  have pl := plan_len ok.plan i ok.lt
  have wl : b.ws.length ≤ 900 := by rw [ok.ws, set_len]; omega
  refine ⟨.inl ?_, ?_⟩
  · have lv := level_ok F b.last (fun j hj => ok.vp.2.1 j (by have h := ok.vp.1; rw [hj] at h; exact List.mem_of_getLast? h.symm)) b.amt hi
    have ad := ws_add b.ws (S.wi i) (by omega)
    have so := (sort_ints (b.ws ++ [S.wi i]) (by rw [List.length_append, List.length_singleton]; omega)).1
    have tk := rkK.ok (keyB S i b)
    have fi := enc_find rkK rvD rs (keyB S i b)
    have na := names_add b.p [i] (by rw [List.length_singleton]; omega)
    have ev := rb1_ev R_level_behind (skyD S) (lastD b.last) (wsD b.ws) (.int b.amt) (namesD b.p) BL (wsD (b.ws ++ [S.wi i])) (namesD (b.p ++ [i])) ((sortI (b.ws ++ [S.wi i])).map .int) (rs.map rowE) i (S.wi i) c4 (levelZ S b.last b.amt i) _ ((aFind rs (keyB S i b)).map rvD)
      (by rw [List.length_map]; exact small_len (by omega)) lv ad so tk fi (by
        cases aFind rs (keyB S i b) with
        | none => exact .inl rfl
        | some v => exact .inr ⟨_, _, rfl⟩) na
    refine ev.trans ?_
    have e1 : resB (levelZ S b.last b.amt i) (rs.map rowE) ((aFind rs (keyB S i b)).map rvD) (.tuple [.int i, .tuple ((sortI (b.ws ++ [S.wi i])).map .int)]) (namesD (b.p ++ [i])) = (putB S i rs b).map rowE := by
      unfold resB
      unfold putB
      cases levelZ S b.last b.amt i with
      | none => rfl
      | some v =>
        dsimp only
        have e2 : lowF ((aFind rs (keyB S i b)).map rvD) v = lowerB rs (keyB S i b) v := by
          unfold lowerB
          cases aFind rs (keyB S i b) with
          | none => rfl
          | some u => rfl
        rw [e2]
        split
        · exact enc_put rkK rvD rs (keyB S i b) (v, b.p ++ [i])
        · rfl
    rw [e1]
  · have := put_len2 (S := S) (m := i) (b := b) (rows := rs)
    omega
abbrev A2 : FG := (gTp 2 (gsCons (gNm 2) (gsCons (gTp 5 (gsCons (gNm 3) (gsCons (gNm 4) (gsCons (gNm 4) (gsCons (gNm 4) (gsCons (gNm 4) gsNil)))))) gsNil)))
theorem rb3_ev (FO LB : List D → Option D) (SD WD SL2 LN AN ZN : D) (i : Nat) (ds ds2 : List (D × D)) (bs : List D)
    (h1 : loopF A4 (sW [6, 7, 8, 9] (reached_b2 FO)) (itemsD ds) [some (.val SD), some (.tag 1), some (.val (.int i)), some (.val WD), some (.val ZN), some (.own [.tuple [.none, .tuple [], .int 0, .list []]]), none, none, none, none, none, none] = some (.nx [some (.val SD), some (.tag 1), some (.val (.int i)), some (.val WD), some (.val ZN), some (.own bs), none, none, none, none, none, none]))
    (h2 : loopF A4b (sW [6, 7, 8, 9, 10, 11] (reached_b1 LB)) bs [some (.val SD), some (.ownD ds), some (.val (.int i)), some (.val WD), some (.val ZN), some (.val (.list bs)), none, none, none, none, none, none] = some (.nx [some (.val SD), some (.ownD ds2), some (.val (.int i)), some (.val WD), some (.val ZN), some (.val (.list bs)), none, none, none, none, none, none])) :
    (A2 (.tuple [.int i, .tuple [WD, SL2, LN, AN, ZN]]) [some (.val SD), some (.ownD ds), none, none, none, none, none, none, none, none, none, none]).bind (sW [2, 3, 4, 5, 6, 7, 8, 9, 10, 11] (reached_b3 FO LB)) =
      some (.nx [some (.val SD), some (.ownD ds2), none, none, none, none, none, none, none, none, none, none]) := by
  unfold reached_b3
  simp [sForD, sForW_r, h1, h2]
theorem rows_len {S : Sky} (F : Fit S) (hl : S.looks.length ≤ 16) (m : Nat) (hm : m ≤ S.looks.length) : (reachZ S m).length ≤ 65536 := by
  have := (rinv F m hm).len
  have h2 : 2 ^ m ≤ 2 ^ 16 := Nat.pow_le_pow_right (by decide) (by omega)
  omega
theorem begs_len (S : Sky) (i : Nat) (rows : Rows) : (begs S i rows).length ≤ rows.length + 1 := by
  unfold begs
  rw [List.length_cons, List.length_map]
  have := List.length_filter_le (okB S i) rows
  omega
theorem reached_ok {S : Sky} (F : Fit S) (hl : S.looks.length ≤ 16) : R_reached [skyD S] = some (.dict ((reachZ S S.looks.length).map rowE)) := by
  obtain ⟨r', h1, rfl⟩ := loop_all (A := A2) (body := sW [2, 3, 4, 5, 6, 7, 8, 9, 10, 11] (reached_b3 R_follows R_level_behind)) (items := enumL 0 (S.looks.map lD)) (r := [some (.val (skyD S)), some (.ownD []), none, none, none, none, none, none, none, none, none, none])
    (fun k r => r = [some (.val (skyD S)), some (.ownD ((reachZ S k).map rowE)), none, none, none, none, none, none, none, none, none, none]) rfl fun k d r e er => by
      subst er
      rw [enumL_get, Nat.zero_add, List.getElem?_map] at e
      obtain ⟨y, e1, rfl⟩ := Option.map_eq_some_iff.mp e
      obtain ⟨x, e2, rfl⟩ := Option.map_eq_some_iff.mp e1
      have hk : k < S.looks.length := (List.getElem?_eq_some_iff.mp e2).1
      have ex : S.lk k = x := by
        unfold Sky.lk
        rw [List.getD_eq_getElem?_getD, e2]
        rfl
      have I := rinv F k (by omega)
      have hlen := rows_len F hl k (by omega)
      have bl := begs_len S k (reachZ S k)
      have ew : S.wi k = x.w := by unfold Sky.wi; rw [ex]
      have l1 := rb2_loop F k hk (some (.val (.int x.z))) (reachZ S k) I.ent (by omega)
      have l2 := rb1_loop F k hk (by omega) (some (.val (.int x.z))) (.list ((begs S k (reachZ S k)).map begD)) (reachZ S k) (begs S k (reachZ S k)) (begs_ok F hk I.ent) (by omega)
      rw [ew] at l1 l2
      have ev := rb3_ev R_follows R_level_behind (skyD S) (.int x.w) (.int x.s) (.int x.l) (.int x.a) (.int x.z) k _ _ _ l1 l2
      exact ⟨_, _, rfl, .inl (by rw [reach_succ]; exact ev), rfl⟩
  rw [enumL_length, List.length_map] at h1
  have h0 := sky_i0 S
  generalize (reachZ S S.looks.length).map rowE = RS at h1 ⊢
  generalize S.looks.map lD = LD at h0 h1
  unfold R_reached runP F_reached
  generalize skyD S = SD at h0 h1 ⊢
  simp [startE, sForW_r, h0, h1]
/-! plans_by_set .. -/
def psE (x : List Int × List Nat) : D × D := (wsD x.1, namesD x.2)
abbrev A3 : FG := (gTp 2 (gsCons (gTp 2 (gsCons (gNm 2) (gsCons (gNm 3) gsNil))) (gsCons (gTp 2 (gsCons (gNm 2) (gsCons (gNm 4) gsNil))) gsNil)))
theorem pb_ev (SD I WS LV NS : D) (ds : List (D × D)) (nk : NestedKey) (fd : Option D) (hl : ds.length < sizeLine) (h1 : tkey WS = some nk) (h2 : dFind ds WS = fd) :
    (A3 (.tuple [.tuple [I, WS], .tuple [LV, NS]]) [some (.val SD), some (.ownD ds), none, none, none]).bind (sW [2, 3, 4] plans_by_set_b1) = some (.nx [some (.val SD), some (.ownD (if fd.isSome = true then ds else dPut ds WS NS)), none, none, none]) := by
  unfold plans_by_set_b1
  cases fd <;> simp [h1, h2, hl]
theorem plans_ok {S : Sky} (F : Fit S) (hl : S.looks.length ≤ 16) : R_plans_by_set [skyD S] = some (.dict ((setsZ S).map psE)) := by
  have hlen := rows_len F hl S.looks.length (Nat.le_refl _)
  have h1 := (loop_count (A := A3) (body := sW [2, 3, 4] plans_by_set_b1) (fun e : (Nat × List Int) × (Int × List Nat) => .tuple [rkD e.1, rvD e.2])
    (fun f : List (List Int × List Nat) => [some (.val (skyD S)), some (.ownD (f.map psE)), none, none, none]) addS (fun k f => f.length ≤ 1 + k) (xs := reachZ S S.looks.length) (b := [([], [])]) 0 (Nat.le_refl _) fun k f e hk he hf => by
      have fi := enc_find wsK namesD f e.1.2
      refine ⟨.inl ?_, ?_⟩
      · refine (pb_ev (skyD S) (.int e.1.1) (wsD e.1.2) (.int e.2.1) (namesD e.2.2) (f.map psE) _ _ (by rw [List.length_map]; exact small_len (by omega)) (wsK.ok e.1.2) fi).trans ?_
        have e1 : (if ((aFind f e.1.2).map namesD).isSome = true then f.map psE else dPut (f.map psE) (wsD e.1.2) (namesD e.2.2)) = (addS f e).map psE := by
          unfold addS
          rw [Option.isSome_map]
          split
          · rfl
          · exact enc_put wsK namesD f e.1.2 e.2.2
        rw [e1]
      · unfold addS
        split
        · omega
        · have := put_len f e.1.2 e.2.2
          omega).1
  have h2 := reached_ok F hl
  have e1 : ((reachZ S S.looks.length).map rowE).map (fun z => (.tuple [z.1, z.2] : D)) = (reachZ S S.looks.length).map fun e => .tuple [rkD e.1, rvD e.2] := by
    rw [List.map_map]
    rfl
  rw [← e1] at h1
  have e2 : [(([] : List Int), ([] : List Nat))].map psE = [(.tuple [], .list [])] := rfl
  rw [e2] at h1
  have e3 : (reachZ S S.looks.length).foldl addS [([], [])] = setsZ S := rfl
  rw [e3] at h1
  have tk : tkey (.tuple []) = some (wsK.nk []) := wsK.ok []
  unfold R_plans_by_set runP F_plans_by_set
  generalize (setsZ S).map psE = PS at h1 ⊢
  generalize (reachZ S S.looks.length).map rowE = RS at h1 h2
  generalize skyD S = SD at h1 h2 ⊢
  generalize R_reached = R at h2 ⊢
  simp [startE, sForW_r, h1, h2, tk]
def hadZ (S : Sky) : List (List Int) := (setsZ S).map (·.1)
theorem had_ev (PB : List D → Option D) (SD : D) (kds : List (D × D)) (h : PB [SD] = some (.dict kds)) : endP (F_sets_had PB (startE 1 [SD])) = some (.list (kds.map (·.1))) := by
  unfold F_sets_had
  simp [startE, h]
theorem had_ok {S : Sky} (F : Fit S) (hl : S.looks.length ≤ 16) : R_sets_had [skyD S] = some (.list ((hadZ S).map wsD)) := by
  have h := had_ev R_plans_by_set _ _ (plans_ok F hl)
  have e : ((setsZ S).map psE).map (·.1) = (hadZ S).map wsD := by
    unfold hadZ
    rw [List.map_map, List.map_map]
    rfl
  rw [e] at h
  exact h
theorem sum_lc (SD WD : D) (ws : List Int) (f : Int → Int) (h1 : ixD SD (.int 1) = some WD) (hf : ∀ w ∈ ws, ixD WD (.int w) = some (.int (f w))) (hl : ws.length ≤ 1000) :
    sum_of_c1 [some (.val SD), some (.val (wsD ws)), none] = some ((ws.map f).map .int, [some (.val SD), some (.val (wsD ws)), none]) := by
  unfold sum_of_c1
  rw [lLc_eq (ds := ws.map .int) (r0 := [some (.val SD), some (.val (wsD ws)), none]) (zs := (ws.map f).map .int) (w := [some (.val SD), some (.val (wsD ws)), none]) rfl ?b ?c]
  · rfl
  case b =>
    rw [List.map_map]
    exact lcF_all (fun (w : Int) => (.int w : D)) _ rfl fun w hw => ⟨_, [some (.val SD), some (.val (wsD ws)), some (.val (.int w))], rfl, by simp [h1, hf w hw], rfl⟩
  case c => exact small_len (by simp; omega)
def Sky.has (S : Sky) (w : Int) : Prop := 0 ≤ w ∧ w < S.worths.length
theorem sum_ok {S : Sky} (ws : List Int) (hw : ∀ w ∈ ws, S.has w) (hl : ws.length ≤ 1000) : R_sum_of [skyD S, wsD ws] = some (.int (sumW S ws)) := by
  have lc := sum_lc (skyD S) _ ws S.wo (sky_i1 S) (fun w h => wo_ix (hw w h).1 (hw w h).2) hl
  have sm := sum_ints (ws.map S.wo)
  unfold R_sum_of runP F_sum_of sumW
  generalize (ws.map S.wo).map PyData.int = zs at lc sm
  simp [startE, lc, sm]
theorem had_in {S : Sky} (F : Fit S) (hw : ∀ x ∈ S.looks, S.has x.w) {ws : List Int} (h : ws ∈ hadZ S) : (∀ w ∈ ws, S.has w) ∧ ws.length ≤ S.looks.length := by
  obtain ⟨p, hp, hl, rfl⟩ := (sets_iff F ws).mp h
  constructor
  · intro w hw2
    obtain ⟨i, hi, rfl⟩ := List.mem_map.mp (mem_set.mp hw2)
    exact hw _ (lk_mem (hl i hi))
  · rw [set_len]
    exact plan_len hp _ hl
theorem had_len {S : Sky} (F : Fit S) (hl : S.looks.length ≤ 16) : (hadZ S).length ≤ 65536 := by
  unfold hadZ
  rw [List.length_map]
  have h2 : 2 ^ S.looks.length ≤ 2 ^ 16 := Nat.pow_le_pow_right (by decide) (by omega)
  have := sets_len F
  omega
theorem gw_lc (SH SU : List D → Option D) (SD : D) (hs : List (List Int)) (f : List Int → Int) (h1 : SH [SD] = some (.list (hs.map wsD))) (hf : ∀ w ∈ hs, SU [SD, wsD w] = some (.int (f w))) (hl : hs.length ≤ 100000) :
    greatest_worth_c1 SH SU [some (.val SD), none] = some ((hs.map f).map .int, [some (.val SD), none]) := by
  unfold greatest_worth_c1
  rw [lLc_eq (ds := hs.map wsD) (r0 := [some (.val SD), none]) (zs := (hs.map f).map .int) (w := [some (.val SD), none]) (by simp [iSeq, h1]) ?b ?c]
  · rfl
  case b =>
    rw [List.map_map]
    exact lcF_all wsD _ rfl fun w hw => ⟨_, [some (.val SD), some (.val (wsD w))], rfl, by simp [hf w hw], rfl⟩
  case c => exact small_len (by simp; omega)
theorem max_ints {ns : List Int} (h : ns ≠ []) : maxD (.list (ns.map .int)) = some (.int (maxI ns)) := by
  show (intsOf _).bind _ = _
  rw [intsOf_map]
  show (if _ then _ else _) = _
  rw [if_neg h]
theorem min_ints {ns : List Int} (h : ns ≠ []) : minD (.list (ns.map .int)) = some (.int (minI ns)) := by
  show (intsOf _).bind _ = _
  rw [intsOf_map]
  show (if _ then _ else _) = _
  rw [if_neg h]
theorem maxI_eq {a b : List Int} (ha : a ≠ []) (hb : b ≠ []) (h : ∀ x, x ∈ a ↔ x ∈ b) : maxI a = maxI b := by
  obtain ⟨a1, a2⟩ := maxI_spec ha
  obtain ⟨b1, b2⟩ := maxI_spec hb
  have := b2 _ ((h _).mp a1)
  have := a2 _ ((h _).mpr b1)
  omega
def bestZ (S : Sky) : Int := maxI ((hadZ S).map (sumW S))
theorem had_nil {S : Sky} (F : Fit S) : [] ∈ hadZ S := (sets_iff F []).mpr ⟨[], .nil, fun j hj => (by cases hj), set_nil S⟩
theorem had_ne {S : Sky} (F : Fit S) {β : Type} (f : List Int → β) : (hadZ S).map f ≠ [] := fun e => by
  have := had_nil F
  rw [List.map_eq_nil_iff.mp e] at this
  cases this
theorem gw_ok {S : Sky} (F : Fit S) (hl : S.looks.length ≤ 16) (hw : ∀ x ∈ S.looks, S.has x.w) : R_greatest_worth [skyD S] = some (.int (bestZ S)) := by
  have lc := gw_lc R_sets_had R_sum_of (skyD S) (hadZ S) (sumW S) (had_ok F hl) (fun w h => sum_ok w (had_in F hw h).1 (by have := (had_in F hw h).2; omega)) (by have := had_len F hl; omega)
  have mx := max_ints (had_ne F (sumW S))
  unfold R_greatest_worth runP F_greatest_worth bestZ
  generalize ((hadZ S).map (sumW S)).map PyData.int = zs at lc mx
  generalize R_sets_had = R1 at *
  generalize R_sum_of = R2 at *
  simp [startE, lc, mx]
end Sk
/-! Plans on the law's side; close skies. -/
namespace Sk
open PySem PySem.Spec PyProof.Rows L2 SL
/-- one turn of a comprehension -/
def lcTurn (vs : List Nat) (A : FG) (t : FT) (f : FE) (d : D) (w : Ev) : Option (Option D × Ev) := (A d w).bind fun r1 => (t r1).bind fun y => if y.1 = true then (f y.2).map fun z => (some z.1, wipeE z.2 vs) else some (none, wipeE y.2 vs)
theorem lc_run {src : FA} {vs : List Nat} {A : FG} {t : FT} {f : FE} {r r0 w : Ev} {α : Type} (enc : α → D) (p : α → Bool) (g : α → D) {xs : List α} (h1 : src r = some (xs.map enc, r0)) (hw : wipeE r0 vs = w) (h : ∀ x ∈ xs, lcTurn vs A t f (enc x) w = some (if p x = true then some (g x) else none, w)) (hl : xs.length ≤ 10000000) :
    lLc src vs A t f r = some ((xs.filter p).map g, backE r0 w vs) := by
  refine lLc_eq h1 (lcF_gen enc p g hw fun x hx => ?_) (small_len (by rw [List.length_map]; have := List.length_filter_le p xs; omega))
  have h2 := h x hx
  unfold lcTurn at h2
  obtain ⟨r1, a1, h2⟩ := Option.bind_eq_some_iff.mp h2
  obtain ⟨⟨b, r2⟩, a2, h2⟩ := Option.bind_eq_some_iff.mp h2
  dsimp only at h2
  split at h2
  · rename_i hb
    obtain ⟨⟨z, r3⟩, a3, h3⟩ := Option.map_eq_some_iff.mp h2
    injection h3 with h4 h5
    have hp : p x = true := by
      by_cases hp : p x = true
      · exact hp
      · rw [if_neg hp] at h4; cases h4
    rw [if_pos hp] at h4
    dsimp only at h4 h5
    injection h4 with h4
    subst h4
    exact ⟨r1, r2, a1, by rw [a2]; have hb' : b = true := hb; rw [hb', hp], fun _ => ⟨r3, a3, h5⟩, fun z => by rw [hp] at z; cases z⟩
  · rename_i hb
    injection h2 with h3
    injection h3 with h4 h5
    have hp : p x = false := by
      cases e : p x with
      | false => rfl
      | true => rw [e, if_pos rfl] at h4; cases h4
    have hb' : b = false := by
      cases b with
      | false => rfl
      | true => exact absurd rfl hb
    exact ⟨r1, r2, a1, by rw [a2, hb', hp], fun z => (by rw [hp] at z; cases z), fun _ => h5⟩
theorem lc_run1 {src : FA} {vs : List Nat} {A : FG} {t : FT} {f : FE} {r r0 w : Ev} {α : Type} (enc : α → D) (g : α → D) {xs : List α} (h1 : src r = some (xs.map enc, r0)) (hw : wipeE r0 vs = w) (h : ∀ x ∈ xs, lcTurn vs A t f (enc x) w = some (some (g x), w)) (hl : xs.length ≤ 10000000) :
    lLc src vs A t f r = some (xs.map g, backE r0 w vs) := by
  have := lc_run enc (fun _ => true) g h1 hw (fun x hx => by rw [h x hx]; rfl) hl
  rwa [List.filter_eq_self.mpr fun _ _ => rfl] at this
def _law_close_sky_c1 : FA := (lLc (iRng1 (f1 lenD (fV 1))) [11] (gNm 11) gYes (f2 addD (fTup (aCons (f2 modD (f1 intD (f2 addD (f2 ixD (f2 ixD (fV 1) (fV 11)) (fC (.int 0))) (fV 11))) (fC (.int 6))) aNil)) (fCut (f2 ixD (fV 1) (fV 11)) (oSome (fC (.int 1))) oNone)))
def _law_close_sky_c2 : FA := (lLc (iRng1 (fC (.int 6))) [11] (gNm 11) gYes (f2 modD (f1 intD (f2 ixD (fV 0) (f2 addD (fC (.int 53)) (fV 11)))) (fC (.int 10))))
def _law_close_sky_c3 : FA := (lLc (iSeq (fV 1)) [6, 7, 8, 9, 10] (gTp 5 (gsCons (gNm 6) (gsCons (gNm 7) (gsCons (gNm 8) (gsCons (gNm 9) (gsCons (gNm 10) gsNil)))))) gYes (fTup (aCons (fV 6) (aCons (f2 divD (fV 7) (fC (.int 2))) (aCons (fV 8) (aCons (fV 9) (aCons (fV 10) aNil)))))))
def F__law_close_sky (c__law_sky : List D → Option D) : FS := (sT (sAsg (fCall c__law_sky (aCons (fV 0) (aCons (fC (.int 6)) aNil))) (gTp 5 (gsCons (gNm 1) (gsCons (gNm 2) (gsCons (gNm 3) (gsCons (gNm 4) (gsCons (gNm 5) gsNil)))))))
    (sT (sIf (gT (f2 eqD (f2 modD (f1 intD (f2 ixD (fV 0) (fC (.int 50)))) (fC (.int 2))) (fC (.int 0)))) (sSet 1 (fL (_law_close_sky_c3))) sNext)
    (sT (sIf (gT (f2 eqD (f2 modD (f1 intD (f2 ixD (fV 0) (fC (.int 52)))) (fC (.int 3))) (fC (.int 0)))) (sT (sSet 2 (fL (_law_close_sky_c2)))
    (sSet 1 (fL (_law_close_sky_c1)))) sNext)
    (sRet (fTup (aCons (fV 1) (aCons (fV 2) (aCons (fV 3) (aCons (f2 addD (fC (.int 2)) (f2 modD (f1 intD (f2 ixD (fV 0) (fC (.int 51)))) (fC (.int 5)))) (aCons (fV 5) aNil))))))))))
def R__law_close_sky : List D → Option D := runP 12 (F__law_close_sky R__law_sky)
def F__law_lists : FS := (sSeq (sSet 1 (fL (lDisp (aCons (fL (lDisp aNil)) aNil))))
    (sSeq (sFor (iRng1 (f1 lenD (f2 ixD (fV 0) (fC (.int 0))))) (gNm 2) (sSet 1 (f2 addD (fV 1) (fL (lLc (iSeq (fV 1)) [3] (gNm 3) gYes (f2 addD (fV 3) (fL (lDisp (aCons (fV 2) aNil)))))))))
    (sRet (fV 1))))
def R__law_lists : List D → Option D := runP 4 F__law_lists
theorem li_lc (SD PD : D) (k : Nat) (ls : List (List Nat)) (eP : PD = plistD ls) (hl : ls.length ≤ 500) (hk : ∀ p ∈ ls, p.length ≤ 500) :
    lLc (iSeq (fV 1)) [3] (gNm 3) gYes (f2 addD (fV 3) (fL (lDisp (aCons (fV 2) aNil)))) [some (.val SD), some (.val PD), some (.val (.int k)), none] =
      some ((ls.map fun p => p ++ [k]).map namesD, [some (.val SD), some (.val PD), some (.val (.int k)), none]) := by
  rw [List.map_map]
  refine (lc_run1 namesD _ (r0 := [some (.val SD), some (.val PD), some (.val (.int k)), none]) (by rw [eP]; rfl) rfl (fun p hp => ?_) (by omega)).trans rfl
  have h := names_add p [k] (by have := hk p hp; simp; omega)
  have e : namesD [k] = .list [.int k] := rfl
  rw [e] at h
  show _ = some (some (namesD (p ++ [k])), _)
  generalize namesD (p ++ [k]) = z at h ⊢
  generalize namesD p = y at h ⊢
  simp [lcTurn, h]
def liBody : FS := (sSet 1 (f2 addD (fV 1) (fL (lLc (iSeq (fV 1)) [3] (gNm 3) gYes (f2 addD (fV 3) (fL (lDisp (aCons (fV 2) aNil))))))))
theorem li_ok (S : Sky) (hn : S.looks.length ≤ 6) : R__law_lists [skyD S] = some (plistD (lst S.looks.length)) := by
  have pw : ∀ k, k ≤ 6 → (lst k).length ≤ 64 := fun k hk => by
    rw [lst_len]
    exact Nat.pow_le_pow_right (by decide) hk
  obtain ⟨r', h1, c2, rfl⟩ := loop_all (A := gNm 2) (body := liBody) (items := rngL 0 S.looks.length) (r := [some (.val (skyD S)), some (.val (plistD (lst 0))), none, none])
    (fun k r => ∃ c2 : Option Cell, r = [some (.val (skyD S)), some (.val (plistD (lst k))), c2, none])
    ⟨none, rfl⟩ fun k d r e ⟨c2, er⟩ => by
      subst er
      obtain ⟨hk, rfl⟩ := rngL_get e
      rw [show (0 : Int) + (k : Int) = k from Int.zero_add _]
      have hl := pw k (by omega)
      have lc := li_lc (skyD S) (plistD (lst k)) k (lst k) rfl (by omega) fun p hp => by have := (lst_lt k p hp).2; omega
      have ad := plist_add (lst k) ((lst k).map fun p => p ++ [k]) (by rw [List.length_map]; omega)
      refine ⟨_, [some (.val (skyD S)), some (.val (plistD (lst (k + 1)))), some (.val (.int k)), none], rfl, .inl ?_, _, rfl⟩
      have e2 : plistD ((lst k).map fun p => p ++ [k]) = .list (((lst k).map fun p => p ++ [k]).map namesD) := rfl
      have e3 : plistD (lst k ++ (lst k).map fun p => p ++ [k]) = plistD (lst (k + 1)) := rfl
      rw [e2, e3] at ad
      generalize ((lst k).map fun p => p ++ [k]).map namesD = zs at lc ad
      generalize plistD (lst (k + 1)) = z at ad ⊢
      generalize plistD (lst k) = y at lc ad ⊢
      generalize skyD S = SD at lc ⊢
      unfold liBody
      simp [lc, ad]
  rw [rngL_length] at h1
  have e5 : lenD (.list (S.looks.map lD)) = some (.int S.looks.length) := by
    show some (PyData.int _) = _
    rw [List.length_map]
  have hr := okR_of (i := (S.looks.length : Int)) (by omega) (by omega)
  have h0 := sky_i0 S
  unfold R__law_lists runP F__law_lists
  rw [sSeq_nx (r1 := [some (.val (skyD S)), some (.val (plistD (lst 0))), none, none]) rfl,
    sSeq_nx (by rw [sFor_eq (ds := rngL 0 S.looks.length) (r1 := [some (.val (skyD S)), some (.val (plistD (lst 0))), none, none]) (by
      generalize plistD (lst 0) = y
      generalize PyData.list (S.looks.map lD) = LD at h0 e5
      generalize skyD S = SD at h0 ⊢
      simp [SL.iRng1, h0, e5, hr])]; exact h1)]
  simp
/-! all plans -/
theorem plan_asc {S : Sky} {p : List Nat} (hp : PlanP S p) : p.Pairwise (· < ·) := by
  induction hp with
  | nil => exact List.Pairwise.nil
  | @snoc q i hq g ih =>
    refine List.pairwise_append.mpr ⟨ih, List.pairwise_singleton _ _, fun a ha b hb => ?_⟩
    rw [List.mem_singleton.mp hb]
    exact ord_lt hq i g.o a ha
theorem asc_lst : ∀ (n : Nat) {p : List Nat}, p.Pairwise (· < ·) → (∀ j ∈ p, j < n) → p ∈ lst n
  | 0, p, _, h => by
    cases p with
    | nil => exact List.mem_singleton.mpr rfl
    | cons a as => exact absurd (h a (List.mem_cons_self ..)) (Nat.not_lt_zero _)
  | n + 1, p, hp, h => by
    rcases List.eq_nil_or_concat p with rfl | ⟨q, i, rfl⟩
    · exact List.mem_append_left _ (asc_lst n List.Pairwise.nil fun j hj => (by cases hj))
    · rw [List.concat_eq_append] at hp h ⊢
      obtain ⟨h1, _, h3⟩ := List.pairwise_append.mp hp
      have hi := h i (List.mem_append_right _ (List.mem_singleton.mpr rfl))
      have hq : ∀ j ∈ q, j < i := fun j hj => h3 j hj i (List.mem_singleton.mpr rfl)
      by_cases e : i = n
      · subst e
        exact List.mem_append_right _ (List.mem_map.mpr ⟨q, asc_lst i h1 hq, rfl⟩)
      · refine List.mem_append_left _ (asc_lst n hp fun j hj => ?_)
        rcases List.mem_append.mp hj with hj | hj
        · have := hq j hj; omega
        · rw [List.mem_singleton.mp hj]; omega
def plansL (S : Sky) : List (List Nat) := (lst S.looks.length).filter fun p => isN (S.wrongD p)
theorem mem_plans {S : Sky} {p : List Nat} : p ∈ plansL S ↔ PlanP S p ∧ ∀ j ∈ p, j < S.looks.length := by
  unfold plansL
  rw [List.mem_filter, isN_plan]
  exact ⟨fun h => ⟨h.2, (lst_lt _ p h.1).1⟩, fun h => ⟨asc_lst _ (plan_asc h.1) h.2, h.1⟩⟩
theorem plans_len {S : Sky} (h : S.looks.length ≤ 6) : (plansL S).length ≤ 64 := by
  unfold plansL
  have := List.length_filter_le (fun p => isN (S.wrongD p)) (lst S.looks.length)
  have h2 : 2 ^ S.looks.length ≤ 2 ^ 6 := Nat.pow_le_pow_right (by decide) h
  rw [lst_len] at this
  omega
theorem plans_nil (S : Sky) : [] ∈ plansL S := mem_plans.mpr ⟨.nil, fun j hj => (by cases hj)⟩
/-- a thing said of the worths and sets of plans is said of the sets had -/
theorem plans_sets {S : Sky} (F : Fit S) {β : Type} (f : List Int → β) (Q : List Int → Prop) (y : β) : (∃ p ∈ plansL S, Q (setOf S p) ∧ f (setOf S p) = y) ↔ ∃ ws ∈ hadZ S, Q ws ∧ f ws = y := by
  constructor
  · intro ⟨p, hp, h1, h2⟩
    obtain ⟨a, b⟩ := mem_plans.mp hp
    exact ⟨setOf S p, (sets_iff F _).mpr ⟨p, a, b, rfl⟩, h1, h2⟩
  · intro ⟨ws, hw, h1, h2⟩
    obtain ⟨p, a, b, rfl⟩ := (sets_iff F ws).mp hw
    exact ⟨p, mem_plans.mpr ⟨a, b⟩, h1, h2⟩
theorem best_plans {S : Sky} (F : Fit S) : maxI ((plansL S).map (worthZ S)) = bestZ S := by
  refine maxI_eq (fun e => ?_) (had_ne F _) fun x => ?_
  · have := plans_nil S
    rw [List.map_eq_nil_iff.mp e] at this
    cases this
  · rw [List.mem_map, List.mem_map]
    constructor
    · intro ⟨p, hp, h⟩
      obtain ⟨a, b⟩ := mem_plans.mp hp
      exact ⟨setOf S p, (sets_iff F _).mpr ⟨p, a, b, rfl⟩, by rw [← worth_set a]; exact h⟩
    · intro ⟨ws, hw, h⟩
      obtain ⟨p, a, b, rfl⟩ := (sets_iff F ws).mp hw
      exact ⟨p, mem_plans.mpr ⟨a, b⟩, by rw [worth_set a]; exact h⟩
/-! close skies -/
def half (x : Look) : Look := ⟨x.w, x.s / 2, x.l, x.a, x.z⟩
def shift6 (ls : List Look) (k : Nat) : Look := ⟨((ls.getD k ⟨0, 0, 1, 0, 1⟩).w + k) % 6, (ls.getD k ⟨0, 0, 1, 0, 1⟩).s, (ls.getD k ⟨0, 0, 1, 0, 1⟩).l, (ls.getD k ⟨0, 0, 1, 0, 1⟩).a, (ls.getD k ⟨0, 0, 1, 0, 1⟩).z⟩
theorem close_c3 (dr WD ED CD TD : D) (ls : List Look) (hl : ls.length ≤ 1000) :
    _law_close_sky_c3 [some (.val dr), some (.val (.list (ls.map lD))), some (.val WD), some (.val ED), some (.val CD), some (.val TD), none, none, none, none, none, none] =
      some ((ls.map half).map lD, [some (.val dr), some (.val (.list (ls.map lD))), some (.val WD), some (.val ED), some (.val CD), some (.val TD), none, none, none, none, none, none]) := by
  unfold _law_close_sky_c3
  rw [List.map_map]
  refine (lc_run1 lD _ (r0 := [some (.val dr), some (.val (.list (ls.map lD))), some (.val WD), some (.val ED), some (.val CD), some (.val TD), none, none, none, none, none, none]) rfl rfl (fun x _ => ?_) (by omega)).trans rfl
  have d2 : divD (.int x.s) (.int 2) = some (.int (x.s / 2)) := divD_p (by decide) (by decide)
  generalize PyData.list (ls.map lD) = LD
  simp [lcTurn, lD, half, d2]
theorem close_c2 (dr LD WD ED CD TD : D) (v : Nat → Int) (hix : ∀ i : Nat, i < 60 → ixD dr (.int i) = some (.int (v i))) :
    _law_close_sky_c2 [some (.val dr), some (.val LD), some (.val WD), some (.val ED), some (.val CD), some (.val TD), none, none, none, none, none, none] =
      some (((List.range 6).map fun k => v (53 + k) % 10).map .int, [some (.val dr), some (.val LD), some (.val WD), some (.val ED), some (.val CD), some (.val TD), none, none, none, none, none, none]) := by
  have hr := okR_of (i := (6 : Int)) (by omega) (by omega)
  unfold _law_close_sky_c2
  rw [List.map_map]
  refine (lc_run1 (fun (i : Nat) => (.int i : D)) _ (xs := List.range 6) (r0 := [some (.val dr), some (.val LD), some (.val WD), some (.val ED), some (.val CD), some (.val TD), none, none, none, none, none, none]) (by rw [← rngL_map]; simp [SL.iRng1, hr]) rfl (fun k hk => ?_) (by decide)).trans rfl
  have h := hix (53 + k) (by have := List.mem_range.mp hk; omega)
  rw [show ((53 + k : Nat) : Int) = 53 + (k : Int) by omega] at h
  simp [lcTurn, h, modD_p]
theorem close_c1 (dr WD ED CD TD : D) (ls : List Look) (hl : ls.length ≤ 1000) :
    _law_close_sky_c1 [some (.val dr), some (.val (.list (ls.map lD))), some (.val WD), some (.val ED), some (.val CD), some (.val TD), none, none, none, none, none, none] =
      some (((List.range ls.length).map (shift6 ls)).map lD, [some (.val dr), some (.val (.list (ls.map lD))), some (.val WD), some (.val ED), some (.val CD), some (.val TD), none, none, none, none, none, none]) := by
  have hr := okR_of (i := (ls.length : Int)) (by omega) (by omega)
  have e5 : lenD (.list (ls.map lD)) = some (.int ls.length) := by
    show some (PyData.int _) = _
    rw [List.length_map]
  unfold _law_close_sky_c1
  rw [List.map_map]
  refine (lc_run1 (fun (i : Nat) => (.int i : D)) _ (xs := List.range ls.length) (r0 := [some (.val dr), some (.val (.list (ls.map lD))), some (.val WD), some (.val ED), some (.val CD), some (.val TD), none, none, none, none, none, none]) (by
      rw [← rngL_map]
      generalize PyData.list (ls.map lD) = LD at e5
      simp [SL.iRng1, e5, hr]) rfl (fun k hk => ?_) (by rw [List.length_range]; omega)).trans rfl
  have hk2 := List.mem_range.mp hk
  have h1 : ixD (.list (ls.map lD)) (.int (k : Int)) = some (lD (ls.getD k ⟨0, 0, 1, 0, 1⟩)) := look_ix (S := ⟨ls, [], [], 0, 0⟩) (by
    show ls[k]? = _
    rw [List.getD_eq_getElem?_getD, List.getElem?_eq_getElem hk2]
    rfl)
  generalize PyData.list (ls.map lD) = LD at h1
  show _ = some (some (lD (shift6 ls k)), _)
  unfold shift6
  generalize ls.getD k ⟨0, 0, 1, 0, 1⟩ = x at h1 ⊢
  have hc : cutAny (lD x) (some 1) none = some (.tuple [.int x.s, .int x.l, .int x.a, .int x.z]) := rfl
  have h0 : ixD (lD x) (.int 0) = some (.int x.w) := rfl
  have e : lD ⟨(x.w + k) % 6, x.s, x.l, x.a, x.z⟩ = .tuple [.int ((x.w + k) % 6), .int x.s, .int x.l, .int x.a, .int x.z] := rfl
  have ad : addD (.tuple [.int ((x.w + k) % 6)]) (.tuple [.int x.s, .int x.l, .int x.a, .int x.z]) = some (.tuple [.int ((x.w + k) % 6), .int x.s, .int x.l, .int x.a, .int x.z]) := rfl
  show _ = some (some (lD ⟨(x.w + k) % 6, x.s, x.l, x.a, x.z⟩), _)
  rw [e]
  generalize lD x = XD at *
  simp [-cutAny, lcTurn, h1, hc, h0, ad, modD_p]
theorem close_t1 (C1 C2 : FA) (dr WD ED CD TD : D) (l1 l2 w2 : List D) (z : Int) (h52 : ixD dr (.int 52) = some (.int z)) (q : z % 3 = 0)
    (c2 : C2 [some (.val dr), some (.val (.list l1)), some (.val WD), some (.val ED), some (.val CD), some (.val TD), none, none, none, none, none, none] = some (w2, [some (.val dr), some (.val (.list l1)), some (.val WD), some (.val ED), some (.val CD), some (.val TD), none, none, none, none, none, none]))
    (c1 : C1 [some (.val dr), some (.val (.list l1)), some (.val (.list w2)), some (.val ED), some (.val CD), some (.val TD), none, none, none, none, none, none] = some (l2, [some (.val dr), some (.val (.list l1)), some (.val (.list w2)), some (.val ED), some (.val CD), some (.val TD), none, none, none, none, none, none])) :
  (sIf (gT (f2 eqD (f2 modD (f1 intD (f2 ixD (fV 0) (fC (.int 52)))) (fC (.int 3))) (fC (.int 0)))) (sT (sSet 2 (fL C2)) (sSet 1 (fL C1))) sNext) [some (.val dr), some (.val (.list l1)), some (.val WD), some (.val ED), some (.val CD), some (.val TD), none, none, none, none, none, none] =
   some (.nx [some (.val dr), some (.val (.list l2)), some (.val (.list w2)), some (.val ED), some (.val CD), some (.val TD), none, none, none, none, none, none]) := by
  simp [h52, q, c2, c1, modD_p]
theorem sT_nx {F F' : FS} {r r1 : Ev} (h : F r = some (.nx r1)) : sT F F' r = F' r1 := by
  unfold sT
  rw [h]
  rfl
theorem close_t2 (C1 C2 : FA) (dr L1 WD ED CD TD : D) (z : Int) (h52 : ixD dr (.int 52) = some (.int z)) (q : ¬ z % 3 = 0) :
  (sIf (gT (f2 eqD (f2 modD (f1 intD (f2 ixD (fV 0) (fC (.int 52)))) (fC (.int 3))) (fC (.int 0)))) (sT (sSet 2 (fL C2)) (sSet 1 (fL C1))) sNext) [some (.val dr), some (.val L1), some (.val WD), some (.val ED), some (.val CD), some (.val TD), none, none, none, none, none, none] =
   some (.nx [some (.val dr), some (.val L1), some (.val WD), some (.val ED), some (.val CD), some (.val TD), none, none, none, none, none, none]) := by
  simp [h52, q, modD_p]
theorem close_t3 (C3 : FA) (dr WD ED CD TD : D) (l0 l1 : List D) (x : Int) (h50 : ixD dr (.int 50) = some (.int x))
    (e1 : x % 2 = 0 → C3 [some (.val dr), some (.val (.list l0)), some (.val WD), some (.val ED), some (.val CD), some (.val TD), none, none, none, none, none, none] = some (l1, [some (.val dr), some (.val (.list l0)), some (.val WD), some (.val ED), some (.val CD), some (.val TD), none, none, none, none, none, none]))
    (e1' : ¬ x % 2 = 0 → l1 = l0) :
  (sIf (gT (f2 eqD (f2 modD (f1 intD (f2 ixD (fV 0) (fC (.int 50)))) (fC (.int 2))) (fC (.int 0)))) (sSet 1 (fL C3)) sNext) [some (.val dr), some (.val (.list l0)), some (.val WD), some (.val ED), some (.val CD), some (.val TD), none, none, none, none, none, none] =
   some (.nx [some (.val dr), some (.val (.list l1)), some (.val WD), some (.val ED), some (.val CD), some (.val TD), none, none, none, none, none, none]) := by
  by_cases p : x % 2 = 0
  · simp [h50, p, modD_p, e1 p]
  · rw [e1' p]
    simp [h50, p, modD_p]
theorem close_ev (R : List D → Option D) (dr WD ED CD TD : D) (l0 l1 l2 : List D) (w2 : List D) (x y z : Int) (h1 : R [dr, .int 6] = some (.tuple [.list l0, WD, ED, CD, TD])) (h50 : ixD dr (.int 50) = some (.int x)) (h51 : ixD dr (.int 51) = some (.int y)) (h52 : ixD dr (.int 52) = some (.int z))
    (e1 : x % 2 = 0 → _law_close_sky_c3 [some (.val dr), some (.val (.list l0)), some (.val WD), some (.val ED), some (.val CD), some (.val TD), none, none, none, none, none, none] = some (l1, [some (.val dr), some (.val (.list l0)), some (.val WD), some (.val ED), some (.val CD), some (.val TD), none, none, none, none, none, none]))
    (e1' : ¬ x % 2 = 0 → l1 = l0)
    (e2 : z % 3 = 0 → _law_close_sky_c2 [some (.val dr), some (.val (.list l1)), some (.val WD), some (.val ED), some (.val CD), some (.val TD), none, none, none, none, none, none] = some (w2, [some (.val dr), some (.val (.list l1)), some (.val WD), some (.val ED), some (.val CD), some (.val TD), none, none, none, none, none, none]))
    (e2' : ¬ z % 3 = 0 → .list w2 = WD ∧ l2 = l1)
    (e3 : z % 3 = 0 → _law_close_sky_c1 [some (.val dr), some (.val (.list l1)), some (.val (.list w2)), some (.val ED), some (.val CD), some (.val TD), none, none, none, none, none, none] = some (l2, [some (.val dr), some (.val (.list l1)), some (.val (.list w2)), some (.val ED), some (.val CD), some (.val TD), none, none, none, none, none, none])) :
    endP (F__law_close_sky R (startE 12 [dr])) = some (.tuple [.list l2, .list w2, ED, .int (2 + y % 5), TD]) := by
  unfold F__law_close_sky
  rw [sT_nx (r1 := [some (.val dr), some (.val (.list l0)), some (.val WD), some (.val ED), some (.val CD), some (.val TD), none, none, none, none, none, none]) (by simp [startE, h1]),
    sT_nx (close_t3 _ dr WD ED CD TD l0 l1 x h50 e1 e1')]
  by_cases q : z % 3 = 0
  · rw [sT_nx (close_t1 _ _ dr WD ED CD TD l1 l2 w2 z h52 q (e2 q) (e3 q))]
    simp [h51, modD_p]
  · obtain ⟨q1, rfl⟩ := e2' q
    rw [sT_nx (close_t2 _ _ dr (.list l2) WD ED CD TD z h52 q)]
    simp [h51, modD_p, q1]
theorem close_ok (dr : D) (v : Nat → Int) (hix : ∀ i : Nat, i < 60 → ixD dr (.int i) = some (.int (v i))) :
    ∃ S : Sky, R__law_close_sky [dr] = some (skyD S) ∧ OkLong S ∧ S.looks.length ≤ 6 ∧ S.turn ≤ 30 ∧ ∀ w ∈ S.worths, w ≤ 9 := by
  obtain ⟨S, h1, ok, _, _, _⟩ := sky_ok dr v 6 (by decide) fun i hi => hix i (by omega)
  have h50 := hix 50 (by omega)
  have h51 := hix 51 (by omega)
  have h52 := hix 52 (by omega)
  rw [show ((50 : Nat) : Int) = 50 from rfl] at h50
  rw [show ((51 : Nat) : Int) = 51 from rfl] at h51
  rw [show ((52 : Nat) : Int) = 52 from rfl] at h52
  have many := ok.many
  obtain ⟨L1, e1⟩ : ∃ L1, L1 = if v 50 % 2 = 0 then S.looks.map half else S.looks := ⟨_, rfl⟩
  have l1 : L1.length = S.looks.length := by rw [e1]; split; rw [List.length_map]; rfl
  have o1 : ∀ x ∈ L1, OkL S.worths.length x := fun x hx => by
    rw [e1] at hx
    split at hx
    · obtain ⟨y, hy, rfl⟩ := List.mem_map.mp hx
      have o := ok.looks y hy
      have := o.s0; have := o.s1
      exact ⟨o.w0, o.w1, by show 0 ≤ y.s / 2; omega, by show y.s / 2 ≤ 200; omega, o.l0, o.l1, o.a0, o.a1, o.z0, o.z1⟩
    · exact ok.looks x hx
  refine ⟨⟨if v 52 % 3 = 0 then (List.range L1.length).map (shift6 L1) else L1, if v 52 % 3 = 0 then (List.range 6).map fun k => v (53 + k) % 10 else S.worths, S.ears, 2 + v 51 % 5, S.turn⟩, ?_, ?_, ?_, ok.t1, ?_⟩
  · unfold R__law_close_sky runP
    refine (fun R (h1 : R [dr, .int 6] = some (skyD S)) => ?_ : ∀ R : List D → Option D, R [dr, .int 6] = some (skyD S) → endP (F__law_close_sky R (startE 12 [dr])) = _) R__law_sky h1
    refine close_ev R dr (.list (S.worths.map .int)) (.list (S.ears.map eD)) (.int S.cap) (.int S.turn) (S.looks.map lD) (L1.map lD) ((if v 52 % 3 = 0 then (List.range L1.length).map (shift6 L1) else L1).map lD) ((if v 52 % 3 = 0 then (List.range 6).map fun k => v (53 + k) % 10 else S.worths).map .int) (v 50) (v 51) (v 52) h1 h50 h51 h52 ?_ ?_ ?_ ?_ ?_
    · intro p
      rw [if_pos p] at e1
      rw [e1]
      exact close_c3 dr _ _ _ _ S.looks (by omega)
    · intro p
      rw [if_neg p] at e1
      rw [e1]
    · intro q
      rw [if_pos q]
      exact close_c2 dr _ _ _ _ _ v hix
    · intro q
      rw [if_neg q, if_neg q]
      exact ⟨rfl, rfl⟩
    · intro q
      rw [if_pos q, if_pos q]
      exact close_c1 dr _ _ _ _ L1 (by omega)
  · exact {
      many := by
        show (if v 52 % 3 = 0 then (List.range L1.length).map (shift6 L1) else L1).length ≤ 16
        split
        · rw [List.length_map, List.length_range]; omega
        · omega
      looks := fun x hx => by
        have hx' : x ∈ (if v 52 % 3 = 0 then (List.range L1.length).map (shift6 L1) else L1) := hx
        show OkL ((if v 52 % 3 = 0 then (List.range 6).map fun k => v (53 + k) % 10 else S.worths).length : Nat) x
        split at hx'
        · rename_i q
          rw [if_pos q, List.length_map, List.length_range]
          obtain ⟨k, hk, rfl⟩ := List.mem_map.mp hx'
          have hk2 := List.mem_range.mp hk
          have hm : L1.getD k ⟨0, 0, 1, 0, 1⟩ ∈ L1 := by
            rw [List.getD_eq_getElem?_getD, List.getElem?_eq_getElem hk2]
            exact List.getElem_mem hk2
          have o := o1 _ hm
          exact ⟨by show 0 ≤ ((L1.getD k ⟨0, 0, 1, 0, 1⟩).w + k) % 6; omega, by show ((L1.getD k ⟨0, 0, 1, 0, 1⟩).w + k) % 6 < 6; omega, o.s0, o.s1, o.l0, o.l1, o.a0, o.a1, o.z0, o.z1⟩
        · rename_i q
          rw [if_neg q]
          exact o1 x hx'
      wl0 := by
        show 1 ≤ (if v 52 % 3 = 0 then (List.range 6).map fun k => v (53 + k) % 10 else S.worths).length
        split
        · rw [List.length_map, List.length_range]; decide
        · exact ok.wl0
      wl1 := by
        show (if v 52 % 3 = 0 then (List.range 6).map fun k => v (53 + k) % 10 else S.worths).length ≤ 6
        split
        · rw [List.length_map, List.length_range]; decide
        · have := ok.wl1; omega
      worths := fun w hw => by
        have hw' : w ∈ (if v 52 % 3 = 0 then (List.range 6).map fun k => v (53 + k) % 10 else S.worths) := hw
        split at hw'
        · obtain ⟨k, _, rfl⟩ := List.mem_map.mp hw'
          omega
        · have := ok.worths w hw'; omega
      el := by show S.ears.length ≤ 4; have := ok.el; omega
      ears := ok.ears
      c0 := by show 1 ≤ 2 + v 51 % 5; omega
      c1 := by show 2 + v 51 % 5 ≤ 30; omega
      t0 := ok.t0
      t1 := by show S.turn ≤ 90; have := ok.t1; omega }
  · show (if v 52 % 3 = 0 then (List.range L1.length).map (shift6 L1) else L1).length ≤ 6
    split
    · rw [List.length_map, List.length_range]; omega
    · omega
  · intro w hw
    have hw' : w ∈ (if v 52 % 3 = 0 then (List.range 6).map fun k => v (53 + k) % 10 else S.worths) := hw
    split at hw'
    · obtain ⟨k, _, rfl⟩ := List.mem_map.mp hw'
      omega
    · have := ok.worths w hw'; omega
theorem in_ws (ws : List Int) (x : Int) : inD (.int x) (wsD ws) = some (.bool (decide (x ∈ ws))) := by
  have h := nin_ws ws x
  unfold notInD wsD at h
  unfold inD wsD
  have s2 : shp (.tuple (ws.map .int)) = true := (Sh.tuple (n := 0) fun d hd => by
    obtain ⟨i, _, rfl⟩ := List.mem_map.mp hd
    exact Sh.int 0 _ : Sh 1 _).shp
  have h' : (if shp (.int x) = true ∧ shp (.tuple (ws.map .int)) = true then some (PyData.bool (!(ws.map PyData.int).any fun z => PyData.eqv z (.int x))) else none) = some (.bool (!decide (x ∈ ws))) := h
  rw [if_pos ⟨(Sh.int 0 _).shp, s2⟩] at h'
  show (if _ then _ else _) = _
  rw [if_pos ⟨(Sh.int 0 _).shp, s2⟩]
  have e := PyData.bool.inj (Option.some.inj h')
  have e2 : ((ws.map PyData.int).any fun z => PyData.eqv z (.int x)) = decide (x ∈ ws) := by
    cases a : ((ws.map PyData.int).any fun z => PyData.eqv z (.int x)) <;> cases b : decide (x ∈ ws) <;> rw [a, b] at e <;> first | rfl | cases e
  rw [e2]
theorem all_bools (bs : List Bool) : allD (.list (bs.map .bool)) = some (.bool (bs.all id)) := by
  show (boolsOf _).map _ = _
  rw [boolsOf_map]
  rfl
theorem any_bools (bs : List Bool) : anyD (.list (bs.map .bool)) = some (.bool (bs.any id)) := by
  show (boolsOf _).map _ = _
  rw [boolsOf_map]
  rfl
theorem filter_len {α : Type} (q : α → Bool) : ∀ (xs : List α), (xs.filter q).length = xs.length ↔ ∀ x ∈ xs, q x = true
  | [] => by simp
  | x :: xs => by
    have ih := filter_len q xs
    have h := List.length_filter_le q xs
    rw [List.filter_cons]
    cases e : q x with
    | true =>
      rw [if_pos rfl, List.length_cons, List.length_cons]
      constructor
      · intro z y hy
        rcases List.mem_cons.mp hy with rfl | hy
        · exact e
        · exact ih.mp (by omega) y hy
      · intro z
        have := ih.mpr fun y hy => z y (List.mem_cons_of_mem _ hy)
        omega
    | false =>
      rw [if_neg Bool.false_ne_true, List.length_cons]
      constructor
      · intro z; omega
      · intro z; rw [z x (List.mem_cons_self ..)] at e; cases e
theorem mem_wi {S : Sky} {p : List Nat} {w : Int} : w ∈ p.map (fun j => (S.lk j).w) ↔ w ∈ setOf S p := mem_set.symm
end Sk
/-! Constants of the module. -/
namespace SL
open PySem PySem.Spec PyProof.Rows L2
def all2 {α β : Type} (f : α → β → Bool) : List α → List β → Bool
  | [], [] => true
  | x :: xs, y :: ys => f x y && all2 f xs ys
  | _, _ => false
def isTupT : Value → Bool
  | .type t => decide (t = "tuple")
  | _ => false
def dvB (K : PySem.W.Frag) : Nat → D → Value → Bool
  | 0, _, _ => false
  | _ + 1, .none, .none => true
  | _ + 1, .int i, .int j _ => decide (i = j)
  | _ + 1, .str i, .str j _ => decide (i = j)
  | n + 1, .tuple ds, .ref a => match K.lookup a with
    | some o => match o.data with
      | .seq its _ => isTupT o.cls && (decide (its.size ≤ sizeLine) && all2 (dvB K n) ds its.toList)
      | _ => false
    | none => false
  | _, _, _ => false
theorem all2_ok {K : PySem.W.Frag} {f : D → Value → Bool} (hf : ∀ d u, f d u = true → ∃ v, RelV v u ∧ ∀ G, Dp K G v d) : ∀ {ds : List D} {us : List Value}, all2 f ds us = true → ∃ vs, Vals vs us ∧ ∀ G, DpAll K G vs ds
  | [], [], _ => ⟨[], .nil, fun _ => .nil⟩
  | d :: ds, u :: us, h => by
    unfold all2 at h
    rw [Bool.and_eq_true] at h
    obtain ⟨v, h1, h2⟩ := hf d u h.1
    obtain ⟨vs, h3, h4⟩ := all2_ok hf h.2
    exact ⟨v :: vs, .cons h1 h3, fun G => .cons (h2 G) (h4 G)⟩
  | [], _ :: _, h => by cases h
  | _ :: _, [], h => by cases h
theorem dv_ok {K : PySem.W.Frag} : ∀ (n : Nat) (d : D) (u : Value), dvB K n d u = true → ∃ v, RelV v u ∧ ∀ G, Dp K G v d
  | 0, _, _, h => by simp [dvB] at h
  | n + 1, d, u, h => by
    unfold dvB at h
    split at h
    · rename_i e; cases e
    · exact ⟨.non, rfl, fun _ => .non⟩
    · rename_i i j _ _
      have e := of_decide_eq_true h
      subst e
      exact ⟨.int _, ⟨_, rfl⟩, fun _ => .int _⟩
    · have e := of_decide_eq_true h
      subst e
      exact ⟨.str _, ⟨_, rfl⟩, fun _ => .str _⟩
    · rename_i m ds a e
      cases e
      split at h
      · rename_i o ho
        split at h
        · rename_i its k hd
          rw [Bool.and_eq_true, Bool.and_eq_true] at h
          obtain ⟨h1, h2, h3⟩ := h
          obtain ⟨vs, h4, h5⟩ := all2_ok (fun d u => dv_ok n d u) h3
          refine ⟨.ref a, rfl, fun G => .tup (.inr ⟨o, its, k, ho, ?_, hd, of_decide_eq_true h2, h4⟩) (h5 G)⟩
          unfold isTupT at h1
          split at h1
          · rename_i t e
            rw [e, of_decide_eq_true h1]
          · cases h1
        · cases h
      · cases h
    · cases h
def conB (x : Str) (d : D) (K : PySem.W.Frag) : Bool := match PySem.W.nsIn K mainGlobals x with
  | some (some u) => dvB K 4 d u
  | _ => false
def Con (K : PySem.W.Frag) (mg : Str → Option Value) (x : Str) (d : D) : Prop := ∃ u v, mg x = some u ∧ RelV v u ∧ ∀ G, Dp K G v d
theorem con_ok {K : PySem.W.Frag} {h : Heap} {mg : Str → Option Value} (X : K.In h) (G : h.Ns mainGlobals mg) {x : Str} {d : D} (c : conB x d K = true) : Con K mg x d := by
  unfold conB at c
  split at c
  · rename_i u e
    obtain ⟨v, h1, h2⟩ := dv_ok 4 d u c
    exact ⟨u, v, PySem.W.mg_of X G e, h1, h2⟩
  · cases c
theorem se_con {X : Cx} {pos : Pos} {x : Str} {d : D} (c : Con X.K X.mg x d) (hg : Gl X x) (hdb : (x == ("__debug__" : Str)) = false := by decide) : SE X true (.Name x pos) (fC d) := ⟨fun pins s σ H Q I h => by
  obtain ⟨u, v, h1, h2, h3⟩ := c
  exact (se_glob (pos := pos) hg h1 h2 h3 hdb).run pins s σ H Q I h⟩
end SL
/-! list(range(n)); clear. -/
namespace SL
open PySem PySem.Spec PyProof.Rows L2
def lRng1 (f : FE) : FA := fun r => match f r with
  | some (.int n, r1) => if okR n = true ∧ n.toNat ≤ 16777216 then some (rngL 0 n.toNat, r1) else none
  | _ => none
@[simp] theorem lRng1_r (f : FE) (r : Ev) : lRng1 f r = match f r with
  | some (.int n, r1) => if okR n = true ∧ n.toNat ≤ 16777216 then some (rngL 0 n.toNat, r1) else none
  | _ => none := rfl
theorem dp_ints {K : PySem.W.Frag} {G : Hp} : ∀ (is : List Nat), DpAll K G (is.map fun i => V.int (0 + (i : Nat))) (is.map fun (i : Nat) => .int (0 + i))
  | [] => .nil
  | i :: is => .cons (.int _) (dp_ints is)
theorem sl_rng1 {X : Cx} {a : Expr} {fa : FE} {p : Bool} {pos cpos pp pr : Pos} (hc : X.calm = true) (hgl : Gl X "list") (hml : X.mg "list" = none) (hgr : Gl X "range") (hmr : X.mg "range" = none) (ha : SE X p a fa)
    (na : starEach [a] X.env = (false, eval a X.env) :: starEach [] X.env := by rfl) (nb : starEach [.Call (.Name "range" pr) [a] [] cpos] X.env = (false, eval (.Call (.Name "range" pr) [a] [] cpos) X.env) :: starEach [] X.env := by rfl) :
    SL X p (.Call (.Name "list" pp) [.Call (.Name "range" pr) [a] [] cpos] [] pos) (lRng1 fa) := PE.weak (pe_listRg hc hgl hml (prg_1 hgr hmr ha na) nb) fun σ H Q ⟨C, G, r, ds, r', ok, hf, k⟩ => by
  unfold lRng1 at hf
  split at hf
  · rename_i n r1 e
    split at hf
    · rename_i hn
      cases hf
      refine ⟨C, G, r, _, _, ok, e, fun v G1 H1 o1 s1 m1 x1 => ?_⟩
      cases x1
      obtain ⟨b1, b2⟩ := okR_ok hn.1
      refine ⟨n, rfl, ⟨by decide, by decide, b1, b2, by rw [Int.sub_zero]; exact hn.2⟩, fun q hq => ?_⟩
      obtain ⟨o4, n4⟩ := o1.newList (vs := rgV 0 n) hq
      refine k q (rgV 0 n) G1 _ o4 s1 (fun m => (m1 m).trans (same_laid hq)) n4 ?_
      unfold rgV rngL
      rw [Int.sub_zero]
      exact dp_ints _
    · cases hf
  · cases hf
/-! a, b = [..], n with a a list of one's own -/
def sParO (i j : Nat) (g : FA) (c : Int) : FS := fun r => (g r).map fun x => .nx ((x.2.set i (some (.own x.1))).set j (some (.val (.int c))))
@[simp] theorem sParO_r (i j : Nat) (g : FA) (c : Int) (r : Ev) : sParO i j g c r = (g r).map fun x => .nx ((x.2.set i (some (.own x.1))).set j (some (.val (.int c)))) := rfl
theorem ss_parO {X : Cx} {i j : Nat} {x y : Str} {a : Expr} {c : Int} {tc : _} {g : FA} {p : Bool} {px py pt pos pc : Pos} {kt : _} {k2 : _} {pt2 : Pos} (pl : Pl X) (hi : X.N[i]? = some x) (hj : X.N[j]? = some y) (hij : i ≠ j)
    (hx : X.env.scope.names.lookup x = some .local) (hy : X.env.scope.names.lookup y = some .local) (ha : SL X p a g) (na : starEach [a, .Constant (.int c) tc pc] X.env = (false, eval a X.env) :: starEach [.Constant (.int c) tc pc] X.env := by rfl) (nb : starEach [.Constant (.int c) tc pc] X.env = (false, eval (.Constant (.int c) tc pc) X.env) :: starEach [] X.env := by rfl)
    (hw : swappedStores [.Tuple [.Name x px, .Name y py] kt pt] (.Tuple [a, .Constant (.int c) tc pc] k2 pt2) X.env = pure (some [x, y]))
    (hs : swapsWithSole [.Tuple [.Name x px, .Name y py] kt pt] (.Tuple [a, .Constant (.int c) tc pc] k2 pt2) pos.line X.env = pure false := by rfl) :
    SS X (.Assign [.Tuple [.Name x px, .Name y py] kt pt] (.Tuple [a, .Constant (.int c) tc pc] k2 pt2) pos) (sParO i j g c) :=
  PS.weak (ps_par pl.calm pl.nd hi hj hij hx hy (pa_cons ha (pa_cons pe_int pa_nil nb) na) hw hs) fun E σ H ⟨C, G, r, o, ok, hf, k⟩ => by
    unfold sParO at hf
    obtain ⟨⟨d, r1⟩, h1, h2⟩ := Option.map_eq_some_iff.mp hf
    cases h2
    exact ⟨C, G, r, d, r1, ok, h1, fun q vs G' H' o' s m n xs => ⟨_, _, rfl, k _ G' H' ((o'.setO n xs).setV (.int c)) s⟩⟩
end SL
/-! sep.join(list of texts); f-strings of texts and ints. -/
namespace SL
open PySem PySem.Spec PyProof.Rows L2
def strsOf : List D → Option (List Str)
  | [] => some []
  | .str s :: r => (strsOf r).map (s :: ·)
  | _ :: _ => none
theorem strsOf_eq : ∀ {ds : List D} {ys : List Str}, strsOf ds = some ys → ds = ys.map .str
  | [], ys, h => by cases h; rfl
  | .str s :: r, ys, h => by
    obtain ⟨zs, h1, h2⟩ := Option.map_eq_some_iff.mp h
    subst h2
    rw [strsOf_eq h1]; rfl
theorem strsOf_map : ∀ ys : List Str, strsOf (ys.map .str) = some ys
  | [] => rfl
  | s :: r => by show (strsOf (r.map .str)).map (s :: ·) = _; rw [strsOf_map r]; rfl
theorem DpAll.strs {K : PySem.W.Frag} {G : Hp} : ∀ {ns : List Str} {vs : List V}, DpAll K G vs (ns.map .str) → vs = ns.map V.str
  | [], _, .nil => rfl
  | n :: r, _, .cons h t => by cases h; rw [DpAll.strs t]; rfl
def joinB (a : Str) (ys : List Str) : Prop := (ys.map (·.length)).sum + ys.length * a.length ≤ 16777216
instance (a : Str) (ys : List Str) : Decidable (joinB a ys) := inferInstanceAs (Decidable (_ ≤ _))
def joinD : D → D → Option D
  | .str a, .list ds => (strsOf ds).bind fun ys => if joinB a ys then some (.str (Txt.join a ys)) else none
  | _, _ => none
section
variable {X : Cx} {e o : Expr} {es : List Expr} {f fo fe : FE} {g : FA} {pu p q : Bool} {pos apos : Pos}
theorem se_join (ho : SE X p o fo) (he : SP X q e fe) (hs : starEach [e] X.env = [(false, eval e X.env)] := by rfl) (hbase : attributeBase o "join" X.env (eval o X.env) = eval o X.env := by rfl) (hline : (apos.endLine == pos.line) = true := by rfl) :
    SE X (p && q) (.Call (.Attribute o "join" apos) [e] [] pos) (f2 joinD fo fe) :=
  PE.weak (pe_join ho he hs hbase hline) fun σ H Q h => by
    obtain ⟨C, G, r0, d, r', ok, hf, k⟩ := h
    obtain ⟨x, r1, y, h1, h2, h3⟩ := f2_some hf
    unfold joinD at h3
    split at h3
    · rename_i a ds
      obtain ⟨ys, h4, h5⟩ := Option.bind_eq_some_iff.mp h3
      split at h5
      · rename_i hz
        cases h5
        refine ⟨C, G, r0, _, r1, ok, h1, fun v G1 H1 ok1 s1 m1 x1 => ?_⟩
        have hv : v = .str a := by cases x1; rfl
        refine ⟨⟨a, hv⟩, C, G1, r1, _, r', ok1, h2, fun w G2 H2 ok2 s2 m2 x2 => ?_⟩
        rw [strsOf_eq h4] at x2
        obtain ⟨l, vs, rfl, g1, g2⟩ := x2.list ok2.sub
        rw [DpAll.strs g2] at g1
        exact ⟨a, l, ys, hv, rfl, .inl g1, hz, k _ G2 H2 ok2 (s1.trans s2) (fun m => (m1 (and1 m)).trans (m2 (and2 m))) (.str _)⟩
      · cases h5
    · cases h3
/-! f-strings -/
def fmtD : D → Option D
  | .str y => if y.length ≤ sizeLine then some (.str y) else none
  | .int i => if i.natAbs.log2 < 1920 then some (.str (toString i)) else none
  | _ => none
theorem se_fmt (he : SE X p e f) : SE X p (.FormattedValue e (-1) none pos) (f1 fmtD f) := PE.weak (pe_fmt he) fun σ H Q h => by
  obtain ⟨C, G, r0, d, r', ok, hf, k⟩ := h
  obtain ⟨x, h1, h3⟩ := f1_some hf
  refine ⟨C, G, r0, x, r', ok, h1, fun v G1 H1 ok1 s1 m1 x1 => ?_⟩
  unfold fmtD at h3
  split at h3
  · split at h3
    · rename_i hz
      cases h3
      cases x1
      exact .inl ⟨_, rfl, hz, k _ G1 H1 ok1 s1 m1 (.str _)⟩
    · cases h3
  · split at h3
    · rename_i hz
      cases h3
      cases x1
      exact .inr ⟨_, rfl, hz, k _ G1 H1 ok1 s1 m1 (.str _)⟩
    · cases h3
  · cases h3
def jsD : Str → List D → Option Str
  | acc, [] => some acc
  | acc, .str y :: r => if (acc ++ y).length ≤ sizeLine then jsD (acc ++ y) r else none
  | _, _ => none
def fJs (g : FA) : FE := fun r => (g r).bind fun x => (jsD Str.empty x.1).map fun s => (.str s, x.2)
@[simp] theorem fJs_r (g : FA) (r : Ev) : fJs g r = (g r).bind fun x => (jsD Str.empty x.1).map fun s => (.str s, x.2) := rfl
def tJ (K : PySem.W.Frag) (pu : Bool) (acc : Str) (g : FA) (σ : L2.St) (H : Hp) (Q : Str → Hp → Prop) : Prop := ∃ C G r ds r' s, Ok K C G H σ r ∧ g r = some (ds, r') ∧ jsD acc ds = some s ∧ ∀ G' H', Ok K C G' H' σ r' → Same G G' → (pu = true → Same H H') → Q s H'
def SJ (X : Cx) (pu : Bool) (es : List Expr) (g : FA) : Prop := ∃ ts, PJ X es ts ∧ ∀ acc σ H Q, tJ X.K pu acc g σ H Q → tJs ts acc σ H Q
theorem sj_nil : SJ X true [] aNil := ⟨[], .nil, fun acc σ H Q ⟨C, G, r, ds, r', s, ok, hf, hj, k⟩ => by
  cases hf
  cases hj
  exact k G H ok (Same.refl _) fun _ => Same.refl _⟩
theorem sj_cons (h : SE X p e f) (r : SJ X q es g) : SJ X (p && q) (e :: es) (aCons f g) := by
  obtain ⟨ts, hp, hw⟩ := r
  refine ⟨_, .cons h hp, fun acc σ H Q ⟨C, G, r, ds, r', s, ok, hf, hj, k⟩ => ?_⟩
  obtain ⟨d, r1, ds', e1, e2, rfl⟩ : ∃ d r1 ds', f r = some (d, r1) ∧ g r1 = some (ds', r') ∧ ds = d :: ds' := by
    unfold aCons at hf
    obtain ⟨⟨d, r1⟩, h1, h2⟩ := Option.bind_eq_some_iff.mp hf
    obtain ⟨⟨ds', r2⟩, h3, h4⟩ := Option.map_eq_some_iff.mp h2
    cases h4
    exact ⟨d, r1, ds', h1, h3, rfl⟩
  refine ⟨C, G, r, d, r1, ok, e1, fun v G1 H1 ok1 s1 m1 x1 => ?_⟩
  cases d with
  | str y =>
    cases x1
    unfold jsD at hj
    split at hj
    · rename_i hz
      exact ⟨y, rfl, hz, hw _ _ _ _ ⟨C, G1, r1, ds', r', s, ok1, e2, hj, fun G2 H2 ok2 s2 m2 => k G2 H2 ok2 (s1.trans s2) fun m => (m1 (and1 m)).trans (m2 (and2 m))⟩⟩
    · cases hj
  | _ => cases hj
theorem se_js {v1 v2 : Expr} {rest : List Expr} (h : SJ X p (v1 :: v2 :: rest) g) : SE X p (.JoinedStr (v1 :: v2 :: rest) pos) (fJs g) := by
  obtain ⟨ts, hp, hw⟩ := h
  refine PE.weak (pe_joined hp) fun σ H Q ⟨C, G, r, d, r', ok, hf, k⟩ => ?_
  unfold fJs at hf
  obtain ⟨⟨ds, r1⟩, h1, h2⟩ := Option.bind_eq_some_iff.mp hf
  obtain ⟨s, h3, h4⟩ := Option.map_eq_some_iff.mp h2
  cases h4
  exact hw _ _ _ _ ⟨C, G, r, ds, r1, s, ok, h1, h3, fun G2 H2 ok2 s2 m2 => k _ G2 H2 ok2 s2 m2 (.str _)⟩
end
end SL
/-! list(d.items()), d a dict of one's own that stays: the view is an object of ours, list takes it. -/
namespace SL
open PySem PySem.Spec PyProof.Rows L2
/-! ### objects laid over a heap -/
def over (F H : Hp) : Hp := fun b => (F b).or (H b)
theorem over_new {F H : Hp} {b : Addr} {u : HO} (e : F b = some u) : over F H b = some u := by unfold over; rw [e]; rfl
theorem over_old {F H : Hp} {b : Addr} (e : F b = none) : over F H b = H b := by unfold over; rw [e]; rfl
theorem over_upd {F H : Hp} {a : Addr} {u : HO} : over (upd F a u) H = upd (over F H) a u := by
  funext b
  by_cases z : b = a
  · subst z; rw [upd_same]; exact over_new upd_same
  · rw [upd_ne z]; unfold over; rw [upd_ne z]
theorem over_up {F H : Hp} (h : ∀ b u, H b = some u → F b = none) : Same H (over F H) := fun b u e => (over_old (h b u e)).trans e
theorem over_mono {F G H : Hp} (s : Same G H) : Same (over F G) (over F H) := fun b u e => by
  cases z : F b with
  | none => rw [over_old z] at e ⊢; exact s b u e
  | some y => rw [over_new z] at e ⊢; exact e
theorem inv_over {X : Cx} {pins : List (Addr × Obj)} {σ : L2.St} {H F : Hp} {s : Shared} {h' : Heap} {tk : Nat} (iv : Inv X pins σ H s) (old : ∀ b u, s.heap.get? b = some u → h'.get? b = some u) (new : ∀ b u, F b = some u → s.heap.objs.size ≤ b ∧ ObjOk X.prog X.w (over F H) h' b u) :
    Inv X pins σ (over F H) { s with heap := h', toks := tk } := by
  have off : ∀ b, b < s.heap.objs.size → F b = none := fun b lt => by
    cases z : F b with
    | none => rfl
    | some y => exact absurd (new b y z).1 (Nat.not_le.mpr lt)
  have up : Same H (over F H) := over_up fun b u e => by
    cases z : F b with
    | none => rfl
    | some y => rw [iv.hok.fresh (new b y z).1] at e; cases e
  refine iv.call' (ch := []) rfl { keep := ?_, slot := ?_, free := ?_, there := ?_, tups := fun b xs => up b _, frzs := fun b o u => up b _, tbls := ?_ } ?_ iv.bare nofun
  · intro b u e _ _ _; exact old b u e
  · intro b u e _ _ _; exact ⟨u.slots, old b u e⟩
  · intro b u e n _; rw [over_old (off b (Heap.lt_size e))]; exact n
  · intro b u e _; exact ⟨u, old b u e⟩
  · intro b ps e; exact ⟨#[], by simpa using up b _ e⟩
  · intro b u e
    cases z : F b with
    | some y => rw [over_new z] at e; cases e; exact (new b _ z).2
    | none => rw [over_old z] at e; exact (iv.hok b u e).stay (fun c v _ => old c v) (fun c => up c _) fun c xs => up c _
/-! ### the view -/
def VwO (v d : Addr) : HO := .ext fun h => h.IsItemsView v d
def tView (te : TE) : TE := fun σ H Q => te σ H fun x H1 => ∃ d o ks, x = .ref d ∧ H1 d = some (DicO d o ks) ∧ ∀ v, H1 v = none → Q (.ref v) (upd H1 v (VwO v d))
theorem vw_ok {P : Program} {w : World} {H : Hp} {h : Heap} {v d : Addr} (q : h.IsItemsView v d) : ObjOk P w H h v (VwO v d) := by
  refine ⟨q, q.imp fun o e => e.1, ?_⟩
  rintro h1 h2 ⟨o, e, r⟩ k
  exact ⟨o, k o e, r⟩
section
variable {X : Cx} {e : Expr} {te : TE} {apos cpos : Pos}
theorem pe_view (he : PE X e te) (hbase : attributeBase e "items" X.env (eval e X.env) = eval e X.env := by rfl) (hline : (apos.endLine == cpos.line) = true := by rfl) : PE X (.Call (.Attribute e "items" apos) [] [] cpos) (tView te) := by
  constructor
  intro pins s σ H Q iv h
  refine wpAny_Call_method (T := "dict") (id := "dict.items") hbase rfl hline F.plainAttrs_dict F.slot_dict_items F.type_dict_items (thn (he.run pins s σ H _ iv h) ?_)
  rintro _ s1 ⟨_, H1, iv1, rx, d, o, ks, rfl, hd, q⟩
  cases rx
  obtain ⟨at1, sh⟩ := DicO.at iv1 hd
  obtain ⟨ex, nm, es, ep, data⟩ := dicS_obj sh
  refine ⟨⟨o, at1, ex.1⟩, fun _ z => by cases z; exact ⟨o, at1, ex.2.1⟩, method_meetsIn F.slot_dict_items F.entry_dict_items rfl (PySem.evalArgs_none ⟨rfl, ⟨o, at1, ex.1⟩, F.args_dict_items_1 _, _, meets_dict_items_raw d nm, ⟨es, ep, o, at1, ex, data⟩, ?_⟩)⟩
  exact ⟨.ref _, _, iv1.laid (t' := s1.toks) (fun b u => Heap.get?_push_of_some _) (Nat.le_refl _) (vw_ok ⟨_, Heap.get?_push_size _ rfl, rfl, rfl⟩), rfl, q _ (iv1.hok.fresh (Nat.le_refl _))⟩
end
/-! ### list takes it -/
def tupsAt (ts : List Addr) (ks : List KE3) : Hp := fun b => (ks[ts.idxOf b]?).map fun z => .tup [.ref z.2.1, z.2.2]
theorem tupsAt_off {ts : List Addr} {ks : List KE3} {b : Addr} (hl : ts.length = ks.length) (h : b ∉ ts) : tupsAt ts ks b = none := by
  unfold tupsAt
  rw [List.idxOf_eq_length h, List.getElem?_eq_none (Nat.le_of_eq hl.symm)]
  rfl
theorem tupsAt_on {ts : List Addr} {ks : List KE3} (nd : ts.Nodup) (i : Nat) (h : i < ts.length) (h' : i < ks.length) : tupsAt ts ks ts[i] = some (.tup [.ref ks[i].2.1, ks[i].2.2]) := by
  unfold tupsAt
  rw [nd.idxOf_getElem i h, List.getElem?_eq_getElem h']
  rfl
theorem tupsAt_is {ts : List Addr} {ks : List KE3} {b : Addr} {u : HO} (hl : ts.length = ks.length) (h : tupsAt ts ks b = some u) : ∃ (j : Nat) (k : NestedKey) (a : Addr) (v : V), ts[j]? = some b ∧ ks[j]? = some (k, a, v) ∧ u = .tup [.ref a, v] := by
  obtain ⟨⟨k, a, v⟩, e, rfl⟩ := Option.map_eq_some_iff.mp h
  have lt : ts.idxOf b < ts.length := hl ▸ (List.getElem?_eq_some_iff.mp e).1
  exact ⟨_, k, a, v, by rw [List.getElem?_eq_getElem lt, List.getElem_idxOf], e, rfl⟩
def rListV : List V → Hp → VK → Prop := fun xs H Q => ∃ v d o ks, xs = [.ref v] ∧ H v = some (VwO v d) ∧ H d = some (DicO d o ks) ∧
  ∀ (l : Addr) (ts : List Addr), ts.Nodup → ts.length = ks.length → H l = none → (∀ t ∈ ts, H t = none) → l ∉ ts → Q (.ref l) (upd (over (tupsAt ts ks) H) l (.lst (ts.map V.ref)))
theorem refs_vals (ts : List Addr) : Vals (ts.map V.ref) (ts.map Value.ref) := by
  induction ts with
  | nil => exact .nil
  | cons t ts ih => exact .cons rfl ih
theorem cr_listV {X : Cx} (hc : X.calm = true) : CallR X (.type "list") rListV := by
  rintro pins s σ H _ us Q iv r ⟨v, d, o, ks, rfl, hv, hd, q⟩
  rw [Vals.ref1 r]
  obtain ⟨_, sh⟩ := DicO.at iv hd
  obtain ⟨_, _, es, ep, data⟩ := dicS_obj sh
  obtain ⟨raw, sz, at1⟩ := raw_there data iv hd
  have lim : ks.length ≤ sizeLine := sh.1
  refine PySem.W.dil_call (es := es) (ep := ep) (iv.ok.hd hc) (iv.hok _ _ hv).1 raw (sz ▸ lim) fun h' tk acc c ts old at2 hl g ea => ?_
  have hl' : ts.length = ks.length := hl.trans sz
  have nd : ts.Nodup := g.rise.imp fun lt => Nat.ne_of_lt lt
  refine ⟨.ref _, _, ?_, rfl, q s.heap.objs.size ts nd hl' (iv.hok.fresh (Nat.le_refl _)) (fun t ht => iv.hok.fresh (Nat.le_of_lt (g.above t ht))) fun z => Nat.lt_irrefl _ (g.above _ z)⟩
  rw [← over_upd]
  refine inv_over iv old fun b u e => ?_
  by_cases z : b = s.heap.objs.size
  · subst z
    rw [upd_same] at e
    cases e
    refine ⟨Nat.le_refl _, by rw [List.length_map, hl']; exact lim, acc.toList, c, ea ▸ refs_vals ts, ?_⟩
    simpa using at2
  · rw [upd_ne z] at e
    obtain ⟨j, k, a, x, e1, e2, rfl⟩ := tupsAt_is hl' e
    obtain ⟨hj, e3⟩ := g.pairs j b e1
    obtain ⟨_, _, _, e4, e5, e6⟩ := at1 j hj
    cases e2.symm.trans e4
    exact ⟨Nat.le_of_lt (g.above b (List.mem_of_getElem? e1)), (show 2 ≤ sizeLine by decide), [es[j].key, es[j].val], .cons e5 (.cons e6 .nil), _, e3, rfl, _, rfl⟩
def lItemsO (i : Nat) : FA := fun r => match r[i]? with
  | some (some (.ownD kds)) => some (kds.map (fun z => .tuple [z.1, z.2]), r)
  | _ => none
@[simp] theorem lItemsO_r (i : Nat) (r : Ev) : lItemsO i r = match r[i]? with
  | some (some (.ownD kds)) => some (kds.map (fun z => .tuple [z.1, z.2]), r)
  | _ => none := rfl
theorem items_dp {K : PySem.W.Frag} {G G' : Hp} (s : Same G G') {ks : List KE3} {kds : List (D × D)} (h : DpKs K G ks kds) : ∀ ts : List Addr, ts.length = ks.length → (∀ (i : Nat) (h : i < ts.length) (h' : i < ks.length), G' ts[i] = some (.tup [.ref ks[i].2.1, ks[i].2.2])) → DpAll K G' (ts.map V.ref) (kds.map fun z => .tuple [z.1, z.2]) := by
  intro ts hl at1
  match ks, kds, h, ts, hl with
  | _, _, .nil, [], _ => exact .nil
  | _, _, .cons _ a b r, t :: ts, hl =>
    refine .cons (.tup (.inl (.inl (at1 0 (Nat.zero_lt_succ _) (Nat.zero_lt_succ _)))) (.cons (Dp.mono s a) (.cons (Dp.mono s b) .nil))) (items_dp s r ts (Nat.succ.inj hl) fun i h h' => ?_)
    exact at1 (i + 1) (Nat.succ_lt_succ h) (Nat.succ_lt_succ h')
section
variable {X : Cx} {y : Str} {py p apos cpos pos : Pos}
theorem sl_ownItems (pl : Pl X) (i : Nat) (hg : Gl X "list") (hm : X.mg "list" = none) (hN : X.N[i]? = some y := by rfl) (hv : Vis X.env.scope y := by first | exact Or.inl rfl | exact Or.inr (Or.inl rfl) | exact Or.inr (Or.inr rfl)) (hd : (y == ("__debug__" : Str)) = false := by decide)
    (hcd : (y == ("__classdict__" : Str)) = false := by decide) (hbase : attributeBase (.Name y py) "items" X.env (eval (.Name y py) X.env) = eval (.Name y py) X.env := by rfl) (hline : (apos.endLine == cpos.line) = true := by rfl)
    (hs : starEach [.Call (.Attribute (.Name y py) "items" apos) [] [] cpos] X.env = (false, eval (.Call (.Attribute (.Name y py) "items" apos) [] [] cpos) X.env) :: starEach [] X.env := by rfl) :
    SL X true (.Call (.Name "list" p) [.Call (.Attribute (.Name y py) "items" apos) [] [] cpos] [] pos) (lItemsO i) := PE.weak (pe_callTy (cr_listV pl.calm) hg hm (by decide +kernel) (pa_cons (pe_view (pe_var hN hv hd hcd) hbase hline) pa_nil hs) (he := hs)) fun σ H Q ⟨C, G, r, ds, r', ok, hf, k⟩ => by
  unfold lItemsO at hf
  split at hf
  case h_2 => cases hf
  case h_1 kds er =>
    cases hf
    obtain ⟨v0, es, a, ob, ks, rfl, h1, h2, h3, h4⟩ := ok.cell i _ er
    refine ⟨_, es, a, ob, ks, rfl, h3, fun v nv => ⟨v, a, ob, ks, rfl, upd_same, (upd_ne fun z => by rw [z, nv] at h3; cases h3).trans h3, fun l ts nd hl nl nts nlt => ?_⟩⟩
    have s1 := same_laid (o := VwO v a) nv
    have ok1 := ok.calm (Same.refl G) s1 (ok.sub.trans s1) fun b o z => .inl z
    have free : ∀ b u, (upd H v (VwO v a)) b = some u → tupsAt ts ks b = none := fun b u z => tupsAt_off hl fun m => by rw [nts b m] at z; cases z
    have sg : Same G (over (tupsAt ts ks) G) := over_up fun b u z => free b u (ok1.sub b u z)
    have sh := over_up free
    have ok2 := ok1.calm sg sh (over_mono ok1.sub) fun b o z => by
      by_cases m : b ∈ ts
      · exact .inr (nts b m)
      · rw [over_old (tupsAt_off hl m)] at z; exact .inl z
    have nl2 : over (tupsAt ts ks) (upd H v (VwO v a)) l = none := (over_old (tupsAt_off hl nlt)).trans nl
    obtain ⟨ok3, n⟩ := ok2.newList (vs := ts.map V.ref) nl2
    exact k l (ts.map V.ref) _ _ ok3 sg (fun _ => (s1.trans sh).trans (same_laid nl2)) n (items_dp sg h4 ts hl fun i h h' => over_new (tupsAt_on nd i h h'))
end
end SL
/-! a, b, c, d, e = x, [], [], m, n: b and c lists of one's own. -/
namespace SL
open PySem PySem.Spec PyProof.Rows L2
def sPar5 (i1 i2 i3 i4 i5 : Nat) (f : FE) (c d : Int) : FS := fun r => (f r).map fun x => .nx (((((x.2.set i1 (some (.val x.1))).set i2 (some (.own []))).set i3 (some (.own []))).set i4 (some (.val (.int c)))).set i5 (some (.val (.int d))))
@[simp] theorem sPar5_r (i1 i2 i3 i4 i5 : Nat) (f : FE) (c d : Int) (r : Ev) : sPar5 i1 i2 i3 i4 i5 f c d r = (f r).map fun x => .nx (((((x.2.set i1 (some (.val x.1))).set i2 (some (.own []))).set i3 (some (.own []))).set i4 (some (.val (.int c)))).set i5 (some (.val (.int d)))) := rfl
theorem New.keep {K : PySem.W.Frag} {C : Ctx} {G H : Hp} {σ : L2.St} {r : Ev} {p q : Addr} {vs : List V} {o : HO} (n : New K C G H σ r p vs) (hq : H q = none) : New K C G (upd H q o) σ r p vs :=
  ⟨n.1, n.2.1, n.2.2.1, by rw [upd_ne (ne_of_none n.2.2.2.1 hq)]; exact n.2.2.2.1, n.2.2.2.2⟩
theorem New.set {K : PySem.W.Frag} {C : Ctx} {G H : Hp} {σ : L2.St} {r : Ev} {p : Addr} {vs : List V} {i : Nat} {v : V} {c : Cell} (n : New K C G H σ r p vs) (h : v ≠ .ref p) (hl : r.length = σ.length) : New K C G H (σ.set i (some v)) (r.set i (some c)) p vs :=
  ⟨n.1, n.2.1, n.2.2.1, n.2.2.2.1, fun j c' e o z => by
    by_cases hj : j = i
    · subst hj
      have hlt : j < r.length := by
        have := (List.getElem?_eq_some_iff.mp e).1
        rwa [List.length_set] at this
      rw [List.getElem?_set_self (by omega)] at z
      exact h (Option.some.inj (Option.some.inj z))
    · rw [List.getElem?_set_ne (Ne.symm hj)] at e z
      exact n.2.2.2.2 j c' e o z⟩
theorem New.setVal {K : PySem.W.Frag} {C : Ctx} {G H : Hp} {σ : L2.St} {r : Ev} {p : Addr} {vs : List V} {i : Nat} {v : V} {d : D} (n : New K C G H σ r p vs) : New K C G H (σ.set i (some v)) (r.set i (some (.val d))) p vs :=
  ⟨n.1, n.2.1, n.2.2.1, n.2.2.2.1, fun j c' e o z => by
    by_cases hj : j = i
    · subst hj
      have hlt : j < r.length := by
        have := (List.getElem?_eq_some_iff.mp e).1
        rwa [List.length_set] at this
      rw [List.getElem?_set_self hlt] at e
      cases e
      cases o
    · rw [List.getElem?_set_ne (Ne.symm hj)] at e z
      exact n.2.2.2.2 j c' e o z⟩
section
variable {X : Cx} {i1 i2 i3 i4 i5 : Nat} {x1 x2 x3 x4 x5 : Str} {e : Expr} {c4 c5 : Int} {t4 t5 : _} {f : FE} {p : Bool} {p1 p2 p3 p4 p5 pt q2 q3 q4 q5 pt2 pos : Pos} {kt k2 : _}
theorem ss_par5 (pl : Pl X) (h1 : X.N[i1]? = some x1) (h2 : X.N[i2]? = some x2) (h3 : X.N[i3]? = some x3) (h4 : X.N[i4]? = some x4) (h5 : X.N[i5]? = some x5) (l1 : Loc X.env.scope x1) (l2 : Loc X.env.scope x2) (l3 : Loc X.env.scope x3) (l4 : Loc X.env.scope x4) (l5 : Loc X.env.scope x5)
    (f1 : X.fn x1 = true ∨ X.env.scope.names.lookup x1 = some .local) (f2 : X.fn x2 = true ∨ X.env.scope.names.lookup x2 = some .local) (f3 : X.fn x3 = true ∨ X.env.scope.names.lookup x3 = some .local) (f4 : X.fn x4 = true ∨ X.env.scope.names.lookup x4 = some .local) (f5 : X.fn x5 = true ∨ X.env.scope.names.lookup x5 = some .local)
    (he : SE X p e f) (na : starEach [e, .List [] q2, .List [] q3, .Constant (.int c4) t4 q4, .Constant (.int c5) t5 q5] X.env = (false, eval e X.env) :: starEach [.List [] q2, .List [] q3, .Constant (.int c4) t4 q4, .Constant (.int c5) t5 q5] X.env := by rfl)
    (hs : swapsWithSole [(.Tuple [.Name x1 p1, .Name x2 p2, .Name x3 p3, .Name x4 p4, .Name x5 p5] kt pt)] (.Tuple [e, .List [] q2, .List [] q3, .Constant (.int c4) t4 q4, .Constant (.int c5) t5 q5] k2 pt2) pos.line X.env = pure false := by rfl) (hw : swappedStores [(.Tuple [.Name x1 p1, .Name x2 p2, .Name x3 p3, .Name x4 p4, .Name x5 p5] kt pt)] (.Tuple [e, .List [] q2, .List [] q3, .Constant (.int c4) t4 q4, .Constant (.int c5) t5 q5] k2 pt2) X.env = pure none := by rfl) :
    SS X (.Assign [.Tuple [.Name x1 p1, .Name x2 p2, .Name x3 p3, .Name x4 p4, .Name x5 p5] kt pt] (.Tuple [e, .List [] q2, .List [] q3, .Constant (.int c4) t4 q4, .Constant (.int c5) t5 q5] k2 pt2) pos) (sPar5 i1 i2 i3 i4 i5 f c4 c5) :=
  PS.weak (ps_asg (pe_tup (pa_cons he (pa_cons (pe_lst pa_nil) (pa_cons (pe_lst pa_nil) (pa_cons pe_int (pa_cons pe_int pa_nil)))) na)) (pg_tup pl.calm (pgs_cons (pg_name pl.nd h1 l1 f1) (pgs_cons (pg_name pl.nd h2 l2 f2) (pgs_cons (pg_name pl.nd h3 l3 f3) (pgs_cons (pg_name pl.nd h4 l4 f4) (pgs_cons (pg_name pl.nd h5 l5 f5) pgs_nil)))))) hs hw) fun E σ H ⟨C, G, r, o, ok, hf, k⟩ => by
    unfold sPar5 at hf
    obtain ⟨⟨d, r1⟩, g1, g2⟩ := Option.map_eq_some_iff.mp hf
    cases g2
    refine ⟨C, G, r, d, r1, ok, g1, fun v G1 H1 ok1 s1 m1 x1 => ?_⟩
    refine ⟨by decide, fun a2 n2 => ?_⟩
    obtain ⟨ok2, w2⟩ := ok1.newList (vs := []) n2
    refine ⟨by decide, fun a3 n3 => ?_⟩
    obtain ⟨ok3, w3⟩ := ok2.newList (vs := []) n3
    have w2 := w2.keep (o := .lst []) n3
    have d23 : V.ref a2 ≠ .ref a3 := fun z => by
      cases z
      rw [upd_same] at n3
      cases n3
    refine ⟨by show 5 ≤ sizeLine; decide, fun a5 n5 => ?_⟩
    have ok4 := ok3.made (o := .tup [v, .ref a2, .ref a3, .int c4, .int c5]) n5
    have w2 := w2.keep (o := .tup [v, .ref a2, .ref a3, .int c4, .int c5]) n5
    have w3 := w3.keep (o := .tup [v, .ref a2, .ref a3, .int c4, .int c5]) n5
    refine ⟨a5, _, rfl, .inl (.inl upd_same), rfl, v, _, rfl, .ref a2, _, rfl, .ref a3, _, rfl, .int c4, _, rfl, .int c5, _, rfl, rfl, ?_⟩
    have o1 := ok4.setV (i := i1) x1
    have o2 := o1.setO (i := i2) (w2.setVal (i := i1) (v := v) (d := d)) .nil
    have o3 := o2.setO (i := i3) ((w3.setVal (i := i1) (v := v) (d := d)).set (i := i2) d23 o1.len) .nil
    have o4 := o3.setV (i := i4) (.int c4)
    have o5 := o4.setV (i := i5) (.int c5)
    exact k _ G1 _ o5 s1
end
end SL
/-! A list of one's own whose parts are dicts of one's own: made, filled, walked while it is filled, handed back as lists. -/
namespace SL
open PySem PySem.Spec PyProof.Rows L2
abbrev LS := List (List (D × D))
def noOwn (r : Ev) : Bool := r.all fun c => match c with
  | some c => !c.isOwn
  | none => true
theorem noOwn_at {r : Ev} {i : Nat} {c : Cell} (h : noOwn r = true) (e : r[i]? = some (some c)) : c.isOwn = false := by
  unfold noOwn at h
  have := List.all_eq_true.mp h _ (List.mem_of_getElem? e)
  simpa using this
theorem noOwn_set {r : Ev} (i : Nat) (h : noOwn r = true) : noOwn (r.set i none) = true := by
  unfold noOwn at h ⊢
  rw [List.all_eq_true] at h ⊢
  intro x hx
  rcases List.mem_or_eq_of_mem_set hx with hx | rfl
  · exact h x hx
  · rfl
def Ctx.fix (C : Ctx) (S : List Addr) (H0 : Hp) : Ctx := { C with P := fun a => if a ∈ S then H0 a else C.P a }
section
variable {K : PySem.W.Frag} {C : Ctx} {G H H0 G' H' : Hp} {σ σ' : L2.St} {r r' : Ev} {S : List Addr}
theorem Ok.fix (ok : Ok K C G H σ r) (no : noOwn r = true) (hS : ∀ a ∈ S, C.P a = none ∧ a ∉ C.M ∧ G a = none) : Ok K (C.fix S H) G H σ r where
  sub := ok.sub
  g0 := ok.g0
  gnew := fun a o e => by
    rcases ok.gnew a o e with h | h
    · exact .inl h
    · by_cases hs : a ∈ S
      · rw [(hS a hs).2.2] at e; cases e
      · refine .inr ?_
        show (if a ∈ S then H a else C.P a) = none
        rw [if_neg hs]; exact h
  prot := fun a o e hm => by
    have e : (if a ∈ S then H a else C.P a) = some o := e
    by_cases hs : a ∈ S
    · rw [if_pos hs] at e; exact e
    · rw [if_neg hs] at e; exact ok.prot a o e hm
  mreal := ok.mreal
  len := ok.len
  cell := fun i c e => by
    obtain ⟨v, e1, h⟩ := ok.cell i c e
    refine ⟨v, e1, ?_⟩
    have z := noOwn_at no e
    cases c with
    | val d => exact h
    | tag n => exact h
    | own ds => cases z
    | loan k ds => cases z
    | ownD kds => cases z
    | fre d => exact DpN.imp (Same.refl _) (fun a ha hn => by
        show (if a ∈ S then H a else C.P a) = none
        by_cases hs : a ∈ S
        · exact absurd (hS a hs).2.2 ha
        · rw [if_neg hs]; exact hn) h
    | ownF ds => cases z
  dis := ok.dis
theorem Ok.unfix (ok : Ok K (C.fix S H0) G H σ r) (no : noOwn r = true) (hS : ∀ a ∈ S, C.P a = none ∧ a ∉ C.M ∧ C.G0 a = none ∧ H0 a ≠ none) : Ok K C G H σ r ∧ ∀ a ∈ S, G a = none ∧ H a = H0 a := by
  have key : ∀ a ∈ S, G a = none ∧ H a = H0 a := fun a ha => by
    obtain ⟨h1, h2, h3, h4⟩ := hS a ha
    obtain ⟨o, e⟩ := Option.ne_none_iff_exists'.mp h4
    have e' : (C.fix S H0).P a = some o := by
      show (if a ∈ S then H0 a else C.P a) = some o
      rw [if_pos ha]; exact e
    refine ⟨?_, by rw [e]; exact ok.prot a o e' h2⟩
    cases q : G a with
    | none => rfl
    | some u =>
      rcases ok.gnew a u q with z | z
      · rw [show C.G0 a = some u from z] at h3; cases h3
      · rw [e'] at z; cases z
  refine ⟨⟨ok.sub, ok.g0, fun a o e => ?_, fun a o e hm => ?_, ok.mreal, ok.len, fun i c e => ?_, ok.dis⟩, key⟩
  · by_cases hs : a ∈ S
    · exact .inr (hS a hs).1
    · rcases ok.gnew a o e with h | h
      · exact .inl h
      · refine .inr ?_
        have h : (if a ∈ S then H0 a else C.P a) = none := h
        rw [if_neg hs] at h; exact h
  · have hs : a ∉ S := fun hs => by rw [(hS a hs).1] at e; cases e
    refine ok.prot a o ?_ hm
    show (if a ∈ S then H0 a else C.P a) = some o
    rw [if_neg hs]; exact e
  · obtain ⟨v, e1, h⟩ := ok.cell i c e
    refine ⟨v, e1, ?_⟩
    have z := noOwn_at no e
    cases c with
    | val d => exact h
    | tag n => exact h
    | own ds => cases z
    | loan k ds => cases z
    | ownD kds => cases z
    | fre d => exact DpN.imp (Same.refl _) (fun a ha hn => by
        have hn : (if a ∈ S then H0 a else C.P a) = none := hn
        by_cases hs : a ∈ S
        · exact (hS a hs).1
        · rw [if_neg hs] at hn; exact hn) h
    | ownF ds => cases z
theorem newX_no {p : Addr} {o : HO} (no : noOwn r = true) (h1 : C.P p = none) (h2 : p ∉ C.M) (h3 : G p = none) (h4 : H p = some o) : NewX K C G H σ r p o :=
  ⟨h1, h2, h3, h4, fun i c e o => by rw [noOwn_at no e] at o; cases o⟩
theorem Ok.setNone (ok : Ok K C G H σ r) (i : Nat) (v : Option V) : Ok K C G H (σ.set i v) (r.set i none) := by
  refine ok.slots (by rw [List.length_set, List.length_set]; exact ok.len) fun j c e => .inl ?_
  by_cases hj : j = i
  · subst hj
    by_cases hl : j < r.length
    · rw [List.getElem?_set_self hl] at e; cases e
    · rw [List.getElem?_eq_none (by rw [List.length_set]; omega)] at e; cases e
  · rw [List.getElem?_set_ne (Ne.symm hj)] at e
    exact ⟨e, List.getElem?_set_ne (Ne.symm hj)⟩
/-- p is a list of one's own, its parts the dicts qs of one's own, which hold ls -/
structure LD (K : PySem.W.Frag) (C : Ctx) (G H : Hp) (σ : L2.St) (r : Ev) (p : Addr) (qs : List Addr) (ls : LS) : Prop where
  ok : Ok K C G H σ r
  no : noOwn r = true
  nd : (p :: qs).Nodup
  fr : ∀ a ∈ p :: qs, C.P a = none ∧ a ∉ C.M ∧ G a = none
  lst : H p = some (.lst (qs.map V.ref))
  len : qs.length = ls.length
  dic : ∀ (j : Nat) (q : Addr) (kds : List (D × D)), qs[j]? = some q → ls[j]? = some kds → IsDic K G H q kds
variable {p : Addr} {qs : List Addr} {ls : LS}
theorem LD.real (l : LD K C G H σ r p qs ls) : ∀ a ∈ p :: qs, C.P a = none ∧ a ∉ C.M ∧ C.G0 a = none ∧ H a ≠ none := fun a ha => by
  obtain ⟨h1, h2, h3⟩ := l.fr a ha
  refine ⟨h1, h2, ?_, ?_⟩
  · cases q : C.G0 a with
    | none => rfl
    | some u => rw [l.ok.g0 _ _ q] at h3; cases h3
  · rcases List.mem_cons.mp ha with rfl | ha
    · rw [l.lst]; exact fun z => by cases z
    · obtain ⟨j, hj, rfl⟩ := List.getElem_of_mem ha
      obtain ⟨o, ks, e, _⟩ := l.dic j qs[j] (ls[j]'(by rw [← l.len]; exact hj)) (List.getElem?_eq_getElem hj) (List.getElem?_eq_getElem _)
      rw [e]; exact fun z => by cases z
theorem LD.hold (l : LD K C G H σ r p qs ls) : Ok K (C.fix (p :: qs) H) G H σ r := l.ok.fix l.no l.fr
theorem IsDic.step {q : Addr} {kds : List (D × D)} (h : IsDic K G H q kds) (s : Same G G') (e : H' q = H q) : IsDic K G' H' q kds := by
  obtain ⟨o, ks, h1, h2⟩ := h
  exact ⟨o, ks, by rw [e]; exact h1, DpKs.mono s h2⟩
theorem LD.after (l : LD K C G H σ r p qs ls) (o : Ok K (C.fix (p :: qs) H) G' H' σ' r') (no : noOwn r' = true) (s : Same G G') : LD K C G' H' σ' r' p qs ls ∧ ∀ a ∈ p :: qs, H' a = H a := by
  obtain ⟨ok, k⟩ := o.unfix no l.real
  refine ⟨⟨ok, no, l.nd, fun a ha => ⟨(l.fr a ha).1, (l.fr a ha).2.1, (k a ha).1⟩, by rw [(k p List.mem_cons_self).2]; exact l.lst, l.len, fun j q kds e1 e2 => (l.dic j q kds e1 e2).step s (k q (List.mem_cons_of_mem _ (List.mem_of_getElem? e1))).2⟩, fun a ha => (k a ha).2⟩
theorem LD.calm (l : LD K C G H σ r p qs ls) (s : Same G G') (k : Same H H') (s' : Same G' H') (n : ∀ a o, G' a = some o → G a = some o ∨ H a = none) : LD K C G' H' σ r p qs ls ∧ ∀ a ∈ p :: qs, H' a = H a := by
  have hh : ∀ a ∈ p :: qs, H' a = H a := fun a ha => by
    obtain ⟨o, e⟩ := Option.ne_none_iff_exists'.mp (l.real a ha).2.2.2
    rw [e]; exact k _ _ e
  refine ⟨⟨l.ok.calm s k s' n, l.no, l.nd, fun a ha => ⟨(l.fr a ha).1, (l.fr a ha).2.1, ?_⟩, by rw [hh p List.mem_cons_self]; exact l.lst, l.len, fun j q kds e1 e2 => (l.dic j q kds e1 e2).step s (hh q (List.mem_cons_of_mem _ (List.mem_of_getElem? e1)))⟩, hh⟩
  cases q : G' a with
  | none => rfl
  | some u =>
    rcases n a u q with z | z
    · rw [(l.fr a ha).2.2] at z; cases z
    · exact absurd z (l.real a ha).2.2.2
theorem nodup_ix {qs : List Addr} {i j : Nat} {q : Addr} (nd : qs.Nodup) (h1 : qs[i]? = some q) (h2 : qs[j]? = some q) : i = j := by
  obtain ⟨hi, e1⟩ := List.getElem?_eq_some_iff.mp h1
  obtain ⟨hj, e2⟩ := List.getElem?_eq_some_iff.mp h2
  exact (List.getElem_inj nd).mp (e1.trans e2.symm)
theorem LD.write {j : Nat} {q : Addr} {o' : Obj} {ks' : List KE3} {kds' : List (D × D)} (l : LD K C G H σ r p qs ls) (hq : qs[j]? = some q) (hk : DpKs K G ks' kds') : LD K C G (upd H q (DicO q o' ks')) σ r p qs (ls.set j kds') := by
  have nd := List.nodup_cons.mp l.nd
  have hm := List.mem_of_getElem? hq
  have hjl : j < ls.length := by rw [← l.len]; exact (List.getElem?_eq_some_iff.mp hq).1
  have hpq : p ≠ q := fun e => nd.1 (by rw [e]; exact hm)
  obtain ⟨f1, f2, f3⟩ := l.fr q (List.mem_cons_of_mem _ hm)
  obtain ⟨o, ks, e, _⟩ := l.dic j q ls[j] hq (List.getElem?_eq_getElem hjl)
  refine ⟨((newX_no (σ := σ) (K := K) l.no f1 f2 f3 e).grow l.ok).1, l.no, l.nd, l.fr, by rw [upd_ne hpq]; exact l.lst, by rw [List.length_set]; exact l.len, fun j' q' kds e1 e2 => ?_⟩
  by_cases hj : j' = j
  · subst hj
    rw [hq] at e1; cases e1
    rw [List.getElem?_set_self hjl] at e2; cases e2
    exact ⟨o', ks', upd_same, hk⟩
  · rw [List.getElem?_set_ne (Ne.symm hj)] at e2
    obtain ⟨o2, ks2, a, b⟩ := l.dic j' q' kds e1 e2
    exact ⟨o2, ks2, by rw [upd_ne fun z => hj (nodup_ix nd.2 (by rw [← z]; exact e1) hq)]; exact a, b⟩
theorem LD.add {q : Addr} {o : Obj} (l : LD K C G H σ r p qs ls) (n : H q = none) : LD K C G (upd (upd H q (DicO q o [])) p (.lst ((qs ++ [q]).map V.ref))) σ r p (qs ++ [q]) (ls ++ [[]]) := by
  have hqn : ∀ a ∈ p :: qs, a ≠ q := fun a ha e => (l.real a ha).2.2.2 (by rw [e]; exact n)
  have hpq := hqn p List.mem_cons_self
  obtain ⟨f1, f2, f3⟩ := l.fr p List.mem_cons_self
  obtain ⟨g1, g2, g3⟩ := l.ok.fresh n
  refine ⟨((newX_no (σ := σ) (K := K) (G := G) (o := .lst (qs.map V.ref)) l.no f1 f2 f3 (by rw [upd_ne hpq]; exact l.lst)).grow (l.ok.made n)).1, l.no, ?_, fun a ha => ?_, upd_same, by rw [List.length_append, List.length_append, l.len]; rfl, fun j q' kds e1 e2 => ?_⟩
  · have nd := List.nodup_cons.mp l.nd
    rw [List.nodup_cons, List.nodup_append]
    refine ⟨?_, nd.2, by simp, fun a ha b hb => ?_⟩
    · intro hm
      rcases List.mem_append.mp hm with hm | hm
      · exact nd.1 hm
      · exact hpq (by simpa using hm)
    · have e : b = q := by simpa using hb
      rw [e]
      exact hqn a (List.mem_cons_of_mem _ ha)
  · rcases List.mem_cons.mp ha with rfl | ha
    · exact ⟨f1, f2, f3⟩
    · rcases List.mem_append.mp ha with ha | ha
      · exact l.fr a (List.mem_cons_of_mem _ ha)
      · have e : a = q := by simpa using ha
        rw [e]; exact ⟨g1, g2, g3⟩
  · by_cases hj : j < qs.length
    · rw [List.getElem?_append_left hj] at e1
      rw [List.getElem?_append_left (by rw [← l.len]; exact hj)] at e2
      have hm := List.mem_cons_of_mem p (List.mem_of_getElem? e1)
      obtain ⟨o2, ks2, a, b⟩ := l.dic j q' kds e1 e2
      have hqp : q' ≠ p := fun e => (List.nodup_cons.mp l.nd).1 (by rw [← e]; exact List.mem_of_getElem? e1)
      exact ⟨o2, ks2, by rw [upd_ne hqp, upd_ne (hqn q' hm)]; exact a, b⟩
    · rw [List.getElem?_append_right (by omega)] at e1
      rw [List.getElem?_append_right (by rw [← l.len]; omega), ← l.len] at e2
      have hz : j - qs.length = 0 := by
        have := (List.getElem?_eq_some_iff.mp e1).1
        simp at this
        omega
      rw [hz] at e1 e2
      simp at e1 e2
      subst e1 e2
      exact ⟨o, [], by rw [upd_ne (Ne.symm hpq), upd_same], .nil⟩
end
/-! ### plain functions -/
abbrev FL := Ev → LS → Option (Ev × LS)
def putL (J : List Nat) (ls : LS) (i k : D) : Option LS := match i with
  | .int (.ofNat n) => (ls[n]?).bind fun kds => (tkey k).bind fun _ => if n ∉ J ∧ kds.length < sizeLine then some (ls.set n (dPut kds k (.bool true))) else none
  | _ => none
def putD (J : List Nat) (fi fk : FE) : FL := fun r ls => (fi r).bind fun x => (fk x.2).bind fun y => if noOwn x.2 = true ∧ noOwn y.2 = true then (putL J ls x.1 y.1).map fun ls' => (y.2, ls') else none
def loopD (A : FG) (B : FL) : List D → FL
  | [], r, ls => some (r, ls)
  | d :: ds, r, ls => (A d r).bind fun r1 => if noOwn r1 = true then (B r1 ls).bind fun z => loopD A B ds z.1 z.2 else none
def forD (src : FA) (A : FG) (B : FL) : FL := fun r ls => (src r).bind fun x => if noOwn x.2 = true then loopD A B x.1 x.2 ls else none
def walkD (iY : Nat) (A : FG) (B : Nat → FL) : Nat → Nat → FL
  | 0, _, r, ls => some (r, ls)
  | n + 1, j, r, ls => if iY < r.length then (loopD A (B j) ((ls.getD j []).map (·.1)) (r.set iY none) ls).bind fun z => walkD iY A B n (j + 1) z.1 z.2 else none
def eachD (iY : Nat) (A : FG) (B : Nat → FL) : FL := fun r ls => walkD iY A B ls.length 0 r ls
/-- a statement that fills the dicts; those at J stay -/
def tD (K : PySem.W.Frag) (iL : Nat) (J : List Nat) (B : FL) : TS := fun E σ H => ∃ C G r p qs ls r' ls', LD K C G H σ r p qs ls ∧ σ[iL]? = some (some (.ref p)) ∧ B r ls = some (r', ls') ∧
  ∀ σ' G' H', LD K C G' H' σ' r' p qs ls' → σ'[iL]? = some (some (.ref p)) → Same G G' → (∀ j ∈ J, ∀ q, qs[j]? = some q → H' q = H q) → E.nx σ' H'
section
variable {X : Cx} {ix key iter tg tgS : Expr} {fi fk : FE} {J L : List Nat} {iL iY : Nat} {p1 p2 : Bool} {y yl ys : Str} {py px pos pos' pc : Pos} {src : FA} {A : FG} {B : FL} {body : List Stmt}
theorem ps_putD {j0} (pl : Pl X) (iL : Nat) (J : List Nat) (hi : SE X p1 ix fi) (hk : SE X p2 key fk) (hN : X.N[iL]? = some y := by rfl) (hv : Vis X.env.scope y := by first | exact Or.inl rfl | exact Or.inr (Or.inl rfl) | exact Or.inr (Or.inr rfl)) (hd : (y == ("__debug__" : Str)) = false := by decide)
    (hcd : (y == ("__classdict__" : Str)) = false := by decide) (hs2 : PlainIx ix := by exact fun _ _ => rfl) (hs : swapsWith (.Constant (.bool true) j0 pc) (some (.Subscript (.Subscript (.Name y py) ix px) key pos')) pos.line X.env = pure false := by rfl) :
    PS X (.Assign [.Subscript (.Subscript (.Name y py) ix px) key pos'] (.Constant (.bool true) j0 pc) pos) (tD X.K iL J (putD J fi fk)) := ⟨fun pins s σ H E I ⟨C, G, r, p, qs, ls, r', ls', l, e, hB, kk⟩ => by
  unfold putD at hB
  obtain ⟨⟨x, r1⟩, h1, hB⟩ := Option.bind_eq_some_iff.mp hB
  obtain ⟨⟨yd, r2⟩, h2, hB⟩ := Option.bind_eq_some_iff.mp hB
  split at hB
  case isFalse => cases hB
  case isTrue hno =>
  obtain ⟨ls2, h3, h4⟩ := Option.map_eq_some_iff.mp hB
  cases h4
  unfold putL at h3
  split at h3
  case h_2 => cases h3
  case h_1 n hx0 =>
  have hx0 : x = .int (Int.ofNat n) := hx0
  subst hx0
  obtain ⟨kds, h5, h3⟩ := Option.bind_eq_some_iff.mp h3
  obtain ⟨k, h6, h3⟩ := Option.bind_eq_some_iff.mp h3
  split at h3
  case isFalse => cases h3
  case isTrue hJ =>
  cases h3
  refine wpAny_Assign_Subscript (thn (pe_bl.run pins s σ H (fun x H1 => x = .bl true ∧ H1 = H) I ⟨rfl, rfl⟩) fun ev s1 ⟨v1, H1, I1, rv, ev1, eH⟩ => ?_) hs
  subst ev1 eH
  have hnl : n < ls.length := (List.getElem?_eq_some_iff.mp h5).1
  have hq : qs[n]? = some (qs[n]'(by rw [l.len]; exact hnl)) := List.getElem?_eq_getElem _
  generalize (qs[n]'(by rw [l.len]; exact hnl)) = q at hq
  refine thn ((pe_ix ix_list (pe_var hN hv hd hcd) hi hs2).run pins s1 σ H1 (fun v H2 => v = .ref q ∧ ∃ G2, LD X.K C G2 H2 σ r1 p qs ls ∧ Same G G2 ∧ ∀ a ∈ p :: qs, H2 a = H1 a) I1 ⟨_, e, C.fix (p :: qs) H1, G, r, _, r1, l.hold, h1, fun w G2 H2 o2 s2 m2 x2 => ?_⟩) fun u s2 ⟨x', H2, I2, rx, ⟨ex, G2, l2, s2', f2⟩⟩ => ?_
  · cases x2
    obtain ⟨l2, f2⟩ := l.after o2 hno.1 s2
    refine ⟨p, _, _, .ref q, rfl, rfl, .inl (.inl l2.lst), ?_, rfl, G2, l2, s2, f2⟩
    unfold atI ixN
    rw [List.length_map, if_pos (show 0 ≤ Int.ofNat n from Int.natCast_nonneg n), if_pos (show Int.ofNat n < (qs.length : Int) by rw [l.len]; exact Int.ofNat_lt.mpr hnl)]
    show (qs.map V.ref)[n]? = _
    rw [List.getElem?_map, hq]
    rfl
  subst ex
  obtain rfl : u = Value.ref q := rx
  refine thn (se_got hk I2 l2.hold h2) fun iv s3 ⟨v3, H3, I3, ry, G3, o3, s3', m3, x3⟩ => ?_
  obtain ⟨l3, f3⟩ := l2.after o3 hno.2 s3'
  obtain ⟨o, ks, h7, h8⟩ := l3.dic n q kds hq h5
  obtain ⟨b', rfl, e3⟩ := tkey_ref h6 x3
  obtain rfl : iv = Value.ref b' := ry
  refine q_setItem pl.units I3 h7 l3.ok.sub h8 x3 e3 (.bl true) rv hJ.2 fun o' ks' s4 d4 I4 => ⟨σ, _, I4, kk σ G3 _ (l3.write hq d4) e (s2'.trans s3') fun j hj q' hq' => ?_⟩
  have hm := List.mem_cons_of_mem p (List.mem_of_getElem? hq')
  rw [upd_ne (fun z => hJ.1 (by rw [← nodup_ix (List.nodup_cons.mp l.nd).2 (by rw [← z]; exact hq') hq]; exact hj)), f3 q' hm, f2 q' hm]⟩
theorem st_at {L : List Nat} {i : Nat} {σ σ' : L2.St} (w : Wp L σ σ') (h : i ∉ L) : σ'[i]? = σ[i]? := by
  have := congrArg (fun s => s[i]?) (w L fun j hj => hj)
  rwa [wipe_off h, wipe_off h] at this
theorem loopD_cons {ds : List D} {r r' : Ev} {ls ls' : LS} {i : Nat} (hlt : i < ds.length) (h : loopD A B (ds.drop i) r ls = some (r', ls')) : ∃ r1 r2 ls2, A ds[i] r = some r1 ∧ noOwn r1 = true ∧ B r1 ls = some (r2, ls2) ∧ loopD A B (ds.drop (i + 1)) r2 ls2 = some (r', ls') := by
  rw [List.drop_eq_getElem_cons hlt] at h
  unfold loopD at h
  obtain ⟨r1, h1, h2⟩ := Option.bind_eq_some_iff.mp h
  split at h2
  case isFalse => cases h2
  case isTrue hno =>
  obtain ⟨⟨r2, ls2⟩, h3, h4⟩ := Option.bind_eq_some_iff.mp h2
  exact ⟨r1, r2, ls2, h1, hno, h3, h4⟩
theorem ps_forD (pl : Pl X) (hi : SI X tg iter src) (hg : SG X tg A L) (hL : iL ∉ L) (hb : PSs X body (tD X.K iL J B)) (hs : ∀ x, foldedSetIterable iter X.env x = pure x := by intro _; rfl) :
    PS X (.For tg iter body [] pos) (tD X.K iL J (forD src A B)) := PS.weak (ps_for pl.own pl.calm hi hg hb hs) fun E σ H ⟨C, G, r, p, qs, ls, r', ls', l, e, hB, kk⟩ => by
  unfold forD at hB
  obtain ⟨⟨ds, r1⟩, h1, h2⟩ := Option.bind_eq_some_iff.mp hB
  split at h2
  case isFalse => cases h2
  case isTrue hno =>
  refine ⟨C.fix (p :: qs) H, G, r, ds, r1, l.hold, h1, fun Jt G1 H1 o1 s1 tn => ?_⟩
  obtain ⟨l1, f1⟩ := l.after o1 hno s1
  refine ⟨fun i m σ H2 => ∃ G' r2 ls2, LD X.K C G' H2 σ r2 p qs ls2 ∧ σ[iL]? = some (some (.ref p)) ∧ Same G1 G' ∧ (∀ j ∈ J, ∀ q, qs[j]? = some q → H2 q = H q) ∧ m = ds.length - i ∧ i ≤ ds.length ∧ loopD A B (ds.drop i) r2 ls2 = some (r', ls'),
    ⟨_, G1, r1, ls, l1, e, Same.refl _, fun j _ q hq => f1 q (List.mem_cons_of_mem _ (List.mem_of_getElem? hq)), rfl, Nat.zero_le _, h2⟩, ?_⟩
  rintro i m σ2 H2 ⟨G', r2, ls2, l2, e2, sg, hJ, rfl, hi, hl⟩
  obtain ⟨go, stop⟩ := tn i G' H2 sg l2.ok.sub
  by_cases hlt : i < ds.length
  · refine .inr ?_
    obtain ⟨r3, r4, ls4, a1, a2, a3, a4⟩ := loopD_cons hlt hl
    obtain ⟨g1, g2⟩ := go ds[i] (List.getElem?_eq_getElem hlt)
    refine ⟨g1, fun σ H2 => ∃ G' r2 ls2, LD X.K C G' H2 σ r2 p qs ls2 ∧ σ[iL]? = some (some (.ref p)) ∧ Same G1 G' ∧ (∀ j ∈ J, ∀ q, qs[j]? = some q → H2 q = H q) ∧ loopD A B (ds.drop (i + 1)) r2 ls2 = some (r', ls'),
      fun σ' H' ⟨G2, r2, ls2, b1, b2, b3, b4, b5⟩ => ⟨_, Nat.sub_lt_sub_left hlt (Nat.lt_succ_self i), G2, r2, ls2, b1, b2, b3, b4, rfl, hlt, b5⟩, fun x H3 yy => ?_⟩
    obtain ⟨m3, G3, s3, s3', n3, dx⟩ := g2 x H3 yy
    obtain ⟨l3, f3⟩ := l2.calm s3 m3 s3' n3
    refine ⟨C, G3, r2, _, r3, l3.ok, dx, a1, fun σ4 ok4 w4 => ?_⟩
    have l4 : LD X.K C G3 H3 σ4 r3 p qs ls2 := { l3 with ok := ok4, no := a2 }
    refine ⟨C, G3, r3, p, qs, ls2, r4, ls4, l4, by rw [st_at w4 hL]; exact e2, a3, fun σ5 G5 H5 l5 e5 s5 j5 => ⟨G5, r4, ls4, l5, e5, (sg.trans s3).trans s5, fun j hj q hq => ?_, a4⟩⟩
    rw [j5 j hj q hq, f3 q (List.mem_cons_of_mem _ (List.mem_of_getElem? hq)), hJ j hj q hq]
  · have e0 : ds.length = i := by omega
    refine .inl ⟨stop (by omega), ?_⟩
    rw [← e0, List.drop_length] at hl
    cases hl
    exact kk σ2 G' H2 l2 e2 (s1.trans sg) hJ
theorem ps_walkD {B : Nat → FL} {pa pb pd pe pf : Pos} (pl : Pl X) (iL iY : Nat) (hne : iL ≠ iY) (hg : SG X tgS A L) (hL : iL ∉ L) (hb : ∀ j, PSs X body (tD X.K iL [j] (B j))) (hN : X.N[iL]? = some ys := by rfl) (hv : Vis X.env.scope ys := by first | exact Or.inl rfl | exact Or.inr (Or.inl rfl) | exact Or.inr (Or.inr rfl)) (hd : (ys == ("__debug__" : Str)) = false := by decide)
    (hcd : (ys == ("__classdict__" : Str)) = false := by decide) (hN2 : X.N[iY]? = some yl := by rfl) (hv2 : Vis X.env.scope yl := by first | exact Or.inl rfl | exact Or.inr (Or.inl rfl) | exact Or.inr (Or.inr rfl)) (hd2 : (yl == ("__debug__" : Str)) = false := by decide)
    (hcd2 : (yl == ("__classdict__" : Str)) = false := by decide) (hx : Loc X.env.scope yl := by first | exact Or.inl rfl | exact Or.inr rfl) (hf : X.fn yl = true ∨ X.env.scope.names.lookup yl = some .local := by first | exact .inl rfl | exact .inr rfl)
    (hs : ∀ x, foldedSetIterable (.Name ys pb) X.env x = pure x := by intro _; rfl) (hs2 : ∀ x, foldedSetIterable (.Name yl pd) X.env x = pure x := by intro _; rfl) :
    PS X (.For (.Name yl pa) (.Name ys pb) [.For tgS (.Name yl pd) body [] pe] [] pf) (tD X.K iL [] (eachD iY A B)) := by
  have hb' : PSs X body (fun E σ H => ∃ j, tD X.K iL [j] (B j) E σ H) := ⟨fun pins s σ H E I ⟨j, q⟩ => (hb j).run pins s σ H E I q⟩
  refine PS.weak (ps_for pl.own pl.calm (pi_any (pe_var hN hv hd hcd)) (pg_name pl.nd hN2 hx hf) (pss_one (ps_for pl.own pl.calm (pi_qkeys (pe_var hN2 hv2 hd2 hcd2)) hg hb' hs2)) hs) fun E σ H ⟨C, G, r, p, qs, ls, r', ls', l, e, hB, kk⟩ => ?_
  unfold eachD at hB
  rw [← l.len] at hB
  refine ⟨_, e, .inl ⟨p, rfl, ⟨_, .inl (.inl l.lst)⟩, fun i m σ H2 => ∃ G' r2 ls2, LD X.K C G' H2 σ r2 p qs ls2 ∧ σ[iL]? = some (some (.ref p)) ∧ Same G G' ∧ m = qs.length - i ∧ i ≤ qs.length ∧ walkD iY A B (qs.length - i) i r2 ls2 = some (r', ls'),
    ⟨_, G, r, ls, l, e, Same.refl _, rfl, Nat.zero_le _, hB⟩, ?_⟩⟩
  rintro i m σ2 H2 ⟨G2, r2, ls2, l2, e2, sg, rfl, hi, hw⟩
  have sq : SqL X.K H2 p (qs.map V.ref) := .inl (.inl l2.lst)
  by_cases hlt : i < qs.length
  · refine .inr ?_
    have hqi : qs[i]? = some qs[i] := List.getElem?_eq_getElem hlt
    generalize qs[i] = q at hqi
    have hgo : (qs.map V.ref)[i]? = some (.ref q) := by rw [List.getElem?_map, hqi]; rfl
    have en : qs.length - i = (qs.length - (i + 1)) + 1 := by omega
    rw [en] at hw
    unfold walkD at hw
    split at hw
    case isFalse => cases hw
    case isTrue hiY =>
    obtain ⟨⟨r3, ls3⟩, h3, h4⟩ := Option.bind_eq_some_iff.mp hw
    refine ⟨⟨_, _, sq, hgo⟩, fun σ H2 => ∃ G' r2 ls2, LD X.K C G' H2 σ r2 p qs ls2 ∧ σ[iL]? = some (some (.ref p)) ∧ Same G G' ∧ walkD iY A B (qs.length - (i + 1)) (i + 1) r2 ls2 = some (r', ls'),
      fun σ' H' ⟨G5, r5, ls5, b1, b2, b3, b4⟩ => ⟨_, Nat.sub_lt_sub_left hlt (Nat.lt_succ_self i), G5, r5, ls5, b1, b2, b3, rfl, hlt, b4⟩, fun x H3 ⟨eH, yy⟩ => ?_⟩
    subst eH
    have ex := yy _ sq
    rw [hgo] at ex
    cases ex
    have hil : i < ls2.length := by rw [← l2.len]; exact hlt
    obtain ⟨kds, hkds⟩ : ∃ kds, ls2[i]? = some kds := ⟨_, List.getElem?_eq_getElem hil⟩
    have eget : ls2.getD i [] = kds := by rw [List.getD_eq_getElem?_getD, hkds]; rfl
    rw [eget] at h3
    obtain ⟨o, ks, h5, h6⟩ := l2.dic i q kds hqi hkds
    have hlen := DpKs.length h6
    have l3 : LD X.K C G2 H3 (σ2.set iY (some (.ref q))) (r2.set iY none) p qs ls2 := { l2 with ok := l2.ok.setNone iY _, no := noOwn_set iY l2.no }
    have e3 : (σ2.set iY (some (.ref q)))[iL]? = some (some (.ref p)) := by rw [List.getElem?_set_ne (Ne.symm hne)]; exact e2
    have eY : (σ2.set iY (some (.ref q)))[iY]? = some (some (V.ref q)) := by rw [List.getElem?_set_self (by rw [← l2.ok.len]; exact hiY)]
    refine ⟨_, eY, q, o, ks, rfl, h5, fun n m σ H4 => ∃ G' r5 ls5, LD X.K C G' H4 σ r5 p qs ls5 ∧ σ[iL]? = some (some (.ref p)) ∧ Same G2 G' ∧ H4 q = some (DicO q o ks) ∧ m = (kds.map (·.1)).length - n ∧ n ≤ (kds.map (·.1)).length ∧ loopD A (B i) ((kds.map (·.1)).drop n) r5 ls5 = some (r3, ls3),
      ⟨_, G2, _, ls2, l3, e3, Same.refl _, h5, rfl, Nat.zero_le _, h3⟩, ?_⟩
    rintro n m σ4 H4 ⟨G4, r4, ls4, l4, e4, sg4, hq4, rfl, hn, hl⟩
    by_cases hlt2 : n < (kds.map (·.1)).length
    · refine .inr ?_
      obtain ⟨r5, r6, ls6, a1, a2, a3, a4⟩ := loopD_cons hlt2 hl
      have hnk : n < kds.length := by rw [List.length_map] at hlt2; exact hlt2
      have hkd : kds[n]? = some (kds[n].1, kds[n].2) := List.getElem?_eq_getElem hnk
      rw [List.getElem_map] at a1
      obtain ⟨k, a, v, c1, c2, c3⟩ := DpKs.get h6 hkd
      refine ⟨⟨hq4, by rw [hlen]; exact hnk⟩, fun σ H4 => ∃ G' r5 ls5, LD X.K C G' H4 σ r5 p qs ls5 ∧ σ[iL]? = some (some (.ref p)) ∧ Same G2 G' ∧ H4 q = some (DicO q o ks) ∧ loopD A (B i) ((kds.map (·.1)).drop (n + 1)) r5 ls5 = some (r3, ls3),
        fun σ' H' ⟨G5, r5, ls5, b1, b2, b3, b4, b5⟩ => ⟨_, Nat.sub_lt_sub_left hlt2 (Nat.lt_succ_self n), G5, r5, ls5, b1, b2, b3, b4, rfl, hlt2, b5⟩, fun x H5 ⟨eH, k', a', v', d1, d2⟩ => ?_⟩
      subst eH d2
      rw [c1] at d1
      cases d1
      refine ⟨C, G4, r4, _, r5, l4.ok, Dp.mono sg4 c2, a1, fun σ6 ok6 w6 => ?_⟩
      have l6 : LD X.K C G4 H5 σ6 r5 p qs ls4 := { l4 with ok := ok6, no := a2 }
      refine ⟨i, C, G4, r5, p, qs, ls4, r6, ls6, l6, by rw [st_at w6 hL]; exact e4, a3, fun σ7 G7 H7 l7 e7 s7 j7 => ⟨G7, r6, ls6, l7, e7, sg4.trans s7, ?_, a4⟩⟩
      rw [j7 i List.mem_cons_self q hqi]; exact hq4
    · have e0 : (kds.map (·.1)).length = n := by omega
      refine .inl ⟨⟨hq4, by rw [hlen]; rw [List.length_map] at e0; omega⟩, ?_⟩
      rw [← e0, List.drop_length] at hl
      cases hl
      exact ⟨G4, _, _, l4, e4, sg.trans sg4, h4⟩
  · have e0 : qs.length = i := by omega
    refine .inl ⟨⟨_, sq, by rw [List.length_map]; omega⟩, ?_⟩
    rw [← e0, Nat.sub_self] at hw
    cases hw
    exact kk σ2 G2 H2 l2 e2 sg fun j hj => by cases hj
end
/-! ### the list is made; it is handed back -/
def tDNew : TE := fun _ H Q => ∀ p o, H p = none → Q (.ref p) (upd H p (DicO p o []))
def tN (K : PySem.W.Frag) (iL : Nat) (src : FA) : TS := fun E σ H => ∃ C G r ds r1, Ok K C G H σ r ∧ src r = some (ds, r1) ∧ noOwn r1 = true ∧ iL < r1.length ∧ ds.length < sizeLine ∧
  ∀ σ' p qs G' H', LD K C G' H' σ' (r1.set iL none) p qs (List.replicate ds.length []) → σ'[iL]? = some (some (.ref p)) → Same G G' → E.nx σ' H'
def tRD (K : PySem.W.Frag) (iL iY : Nat) : TS := fun E σ H => ∃ C G r p qs ls, LD K C G H σ r p qs ls ∧ σ[iL]? = some (some (.ref p)) ∧ iY < r.length ∧ ls.length < sizeLine ∧
  ∀ v G' H', Ok K C G' H' σ r → Same G G' → Dp K G' v (.list (ls.map fun kds => .list (kds.map (·.1)))) → E.rt v H'
theorem pe_dnew {X : Cx} {pos : Pos} : PE X (.Dict [] [] pos) tDNew := ⟨fun pins s σ H Q I hq => by
  have hn := I.hok.fresh (Nat.le_refl s.heap.objs.size)
  have hm : (s.heap.objs.size == sysModules) = false := beq_eq_false_iff_ne.mpr (Ne.symm (Nat.ne_of_lt I.big))
  exact wpAny_Dict_empty ⟨.ref s.heap.objs.size, _, I.laid (a := s.heap.objs.size) (o := DicO s.heap.objs.size { cls := .type "dict", data := .dict #[] } []) (t' := s.toks) (fun _ _ q => Heap.get?_push_of_some _ q) (Nat.le_refl _) (dic_ok (Heap.get?_push_size _ rfl) (dicS_nil hm)), rfl, hq _ _ hn⟩⟩
theorem pe_listD {X : Cx} {y : Str} {py pp pos : Pos} (pl : Pl X) (iY : Nat) (hg : Gl X "list") (hm : X.mg "list" = none) (hN : X.N[iY]? = some y := by rfl) (hv : Vis X.env.scope y := by first | exact Or.inl rfl | exact Or.inr (Or.inl rfl) | exact Or.inr (Or.inr rfl)) (hd : (y == ("__debug__" : Str)) = false := by decide)
    (hcd : (y == ("__classdict__" : Str)) = false := by decide) (he : starEach [.Name y py] X.env = (false, eval (.Name y py) X.env) :: starEach [] X.env := by rfl) (hpl : (backTo pos (starEach [] X.env)).any (·.1) = false := by rfl) :
    PE X (.Call (.Name "list" pp) [.Name y py] [] pos) (tCB (rListD X.K) (tCons (tVar iY) tNil)) := pe_callTy (call_list_dict pl) hg hm (by decide +kernel) (pa_cons (pe_var hN hv hd hcd) pa_nil he) (by decide) (by decide) he hpl
section
variable {X : Cx} {iter : Expr} {iL iY iN : Nat} {yl ys nn : Str} {src : FA} {scope : Scope}
theorem wipe_one {σ : L2.St} {i : Nat} {v : Option V} : wipe ((wipe σ [i]).set i v) [i] = wipe σ [i] := by simp [wipe, List.set_set]
theorem ps_makeD {py pd pn pos spos : Pos} (pl : Pl X) (hy : X.N[iL]? = some ys) (hyl : X.env.scope.names.lookup ys = some .local) (hsw : swapsWith (.ListComp (.Dict [] [] pd) [⟨.Name nn pn, iter, [], 0⟩] scope pos) (some (.Name ys py)) spos.line X.env = pure true) (hi : SI X (.Name nn pn) iter src)
    (okb : BlkOk X.N X.env.scope scope [(nn, iN)]) (hg : ∀ (s : Shared) (H : Hp) (C : Addr) (cl : List (Str × Addr)) (fp : List Addr), Pl (X.blk s H scope (compEnvC scope cl C X.env) fp) → PG (X.blk s H scope (compEnvC scope cl C X.env) fp) (.Name nn pn) (gName iN)) (hs : ∀ x, foldedSetIterable iter X.env x = pure x := by intro _; rfl) :
    PS X (.Assign [.Name ys py] (.ListComp (.Dict [] [] pd) [⟨.Name nn pn, iter, [], 0⟩] scope pos) spos) (tN X.K iL src) := PS.weak (ps_setLc pl.calm pl.nd hy hyl hsw hi okb (fun s H C cl fp => hg s H C cl fp pl.blk) (fun _ _ _ _ _ => pts_nil) (fun _ _ _ _ _ => pe_dnew) hs) fun E σ H ⟨C, G, r, ds, r1, ok, h1, no, hlL, hlt, k⟩ => by
  refine ⟨C, G, r, ds, r1, ok, h1, fun J G1 H1 o1 s1 tn => fun d hd => ?_⟩
  obtain ⟨f1, f2, f3⟩ := o1.fresh hd
  have l0 : LD X.K C G1 (upd H1 d (.lst [])) σ r1 d [] [] := ⟨o1.made hd, no, by simp, fun a ha => by
    have e : a = d := by simpa using ha
    rw [e]; exact ⟨f1, f2, f3⟩, upd_same, rfl, fun j q kds e => by simp at e⟩
  refine ⟨fun i m H => ∃ G' qs, LD X.K C G' H σ r1 d qs (List.replicate i []) ∧ Same G1 G' ∧ m = ds.length - i ∧ i ≤ ds.length, ⟨_, G1, [], l0, Same.refl _, rfl, Nat.zero_le _⟩, ?_⟩
  rintro i m H2 ⟨G', qs, l, sg, rfl, hi⟩
  obtain ⟨go, stop⟩ := tn i G' H2 sg l.ok.sub
  by_cases hlt2 : i < ds.length
  · refine .inr ?_
    obtain ⟨g1, g2⟩ := go ds[i] (List.getElem?_eq_getElem hlt2)
    refine ⟨g1, fun H => ∃ G' qs, LD X.K C G' H σ r1 d qs (List.replicate (i + 1) []) ∧ Same G1 G', fun H' ⟨G2, qs2, a, b⟩ => ⟨_, Nat.sub_lt_sub_left hlt2 (Nat.lt_succ_self i), G2, qs2, a, b, rfl, hlt2⟩, fun x H3 y => ?_⟩
    obtain ⟨m3, G3, s3, s3', n3, dx⟩ := g2 x H3 y
    obtain ⟨l3, f3⟩ := l.calm s3 m3 s3' n3
    refine ⟨wipe_one, ?_⟩
    unfold tYes
    simp only [↓reduceIte]
    intro q o hq
    have hdq : d ≠ q := fun e => (l3.real d List.mem_cons_self).2.2.2 (by rw [e]; exact hq)
    refine ⟨qs.map V.ref, by rw [upd_ne hdq]; exact l3.lst, ?_, G3, qs ++ [q], ?_, sg.trans s3⟩
    · rw [List.length_map, l3.len, List.length_replicate]; omega
    · have := l3.add (o := o) hq
      rw [List.map_append] at this
      rw [List.replicate_succ']
      exact this
  · have e0 : ds.length = i := by omega
    refine .inl ⟨stop (by omega), ?_⟩
    subst e0
    refine k (σ.set iL (some (.ref d))) d qs G' H2 { l with ok := l.ok.setNone iL _, no := noOwn_set iL l.no } ?_ (s1.trans sg)
    rw [List.getElem?_set_self (by rw [← l.ok.len]; exact hlL)]
theorem ps_retD {elt : Expr} {pa pb pos spos : Pos} (pl : Pl X) (iL iY : Nat) (hN : X.N[iL]? = some ys) (okb : BlkOk X.N X.env.scope scope [(yl, iY)]) (hg : ∀ (s : Shared) (H : Hp) (C : Addr) (cl : List (Str × Addr)) (fp : List Addr), Pl (X.blk s H scope (compEnvC scope cl C X.env) fp) → PG (X.blk s H scope (compEnvC scope cl C X.env) fp) (.Name yl pa) (gName iY))
    (he : ∀ (s : Shared) (H : Hp) (C : Addr) (cl : List (Str × Addr)) (fp : List Addr), Pl (X.blk s H scope (compEnvC scope cl C X.env) fp) → PE (X.blk s H scope (compEnvC scope cl C X.env) fp) elt (tCB (rListD X.K) (tCons (tVar iY) tNil)))
    (hv : Vis X.env.scope ys := by first | exact Or.inl rfl | exact Or.inr (Or.inl rfl) | exact Or.inr (Or.inr rfl)) (hd : (ys == ("__debug__" : Str)) = false := by decide) (hcd : (ys == ("__classdict__" : Str)) = false := by decide) (hs : ∀ x, foldedSetIterable (.Name ys pb) X.env x = pure x := by intro _; rfl) :
    PS X (.Return (some (.ListComp elt [⟨.Name yl pa, .Name ys pb, [], 0⟩] scope pos)) spos) (tRD X.K iL iY) := PS.weak (ps_ret (pe_lc pl.calm pl.nd (pi_any (pe_var hN hv hd hcd)) okb (fun s H C cl fp => hg s H C cl fp pl.blk) (fun _ _ _ _ _ => pts_nil) (fun s H C cl fp => he s H C cl fp pl.blk) hs)) fun E σ H ⟨C, G, r, p, qs, ls, l, e, hlY, hz, k⟩ => by
  refine ⟨_, e, .inl ⟨p, rfl, ⟨_, .inl (.inl l.lst)⟩, fun d hd => ?_⟩⟩
  obtain ⟨f1, f2, f3⟩ := l.ok.fresh hd
  have hnd : ∀ a ∈ p :: qs, a ≠ d := fun a ha z => (l.real a ha).2.2.2 (by rw [z]; exact hd)
  have move : ∀ {G1 H1 G' H' : Hp}, LD X.K C G1 H1 σ r p qs ls → Ok X.K C G' H' σ r → Same G1 G' → (∀ a ∈ p :: qs, H' a = H1 a ∧ G' a = none) → LD X.K C G' H' σ r p qs ls := fun {G1 H1 G' H'} l1 ok s h => ⟨ok, l1.no, l1.nd, fun a ha => ⟨(l1.fr a ha).1, (l1.fr a ha).2.1, (h a ha).2⟩, by rw [(h p List.mem_cons_self).1]; exact l1.lst, l1.len, fun j q kds e1 e2 => (l1.dic j q kds e1 e2).step s (h q (List.mem_cons_of_mem _ (List.mem_of_getElem? e1))).1⟩
  have l0 : LD X.K C G (upd H d (.lst [])) σ r p qs ls := move l (l.ok.made hd) (Same.refl _) fun a ha => ⟨upd_ne (hnd a ha), (l.fr a ha).2.2⟩
  refine ⟨fun i m H => ∃ G' acc, LD X.K C G' H σ r p qs ls ∧ Same G G' ∧ H d = some (.lst acc) ∧ G' d = none ∧ DpAll X.K G' acc ((ls.take i).map fun kds => .list (kds.map (·.1))) ∧ m = ls.length - i ∧ i ≤ ls.length, ⟨_, G, [], l0, Same.refl _, upd_same, f3, by rw [List.take_zero]; exact .nil, rfl, Nat.zero_le _⟩, ?_⟩
  rintro i m H2 ⟨G', acc, l2, sg, hdl, hdg, hacc, rfl, hi⟩
  have sq : SqL X.K H2 p (qs.map V.ref) := .inl (.inl l2.lst)
  have hal := DpAll.length hacc
  by_cases hlt : i < ls.length
  · refine .inr ?_
    have hqi : qs[i]? = some (qs[i]'(by rw [l2.len]; exact hlt)) := List.getElem?_eq_getElem _
    generalize (qs[i]'(by rw [l2.len]; exact hlt)) = q at hqi
    have hki : ls[i]? = some ls[i] := List.getElem?_eq_getElem hlt
    have hgo : (qs.map V.ref)[i]? = some (.ref q) := by rw [List.getElem?_map, hqi]; rfl
    refine ⟨⟨_, _, sq, hgo⟩, fun H => ∃ G' acc, LD X.K C G' H σ r p qs ls ∧ Same G G' ∧ H d = some (.lst acc) ∧ G' d = none ∧ DpAll X.K G' acc ((ls.take (i + 1)).map fun kds => .list (kds.map (·.1))), fun H' ⟨G2, a2, b1, b2, b3, b4, b5⟩ => ⟨_, Nat.sub_lt_sub_left hlt (Nat.lt_succ_self i), G2, a2, b1, b2, b3, b4, b5, rfl, hlt⟩, fun x H3 ⟨eH, yy⟩ => ?_⟩
    subst eH
    have ex := yy _ sq
    rw [hgo] at ex
    cases ex
    refine ⟨wipe_one, ?_⟩
    unfold tYes
    simp only [↓reduceIte]
    obtain ⟨o, ks, h5, h6⟩ := l2.dic i q ls[i] hqi hki
    refine ⟨.ref q, ?_, q, o, ks, rfl, h5, fun t ht => ?_⟩
    · show ((σ.set iY none).set iY (some (V.ref q)))[iY]? = _
      rw [List.getElem?_set_self (by rw [List.length_set, ← l2.ok.len]; exact hlY)]
    · have htd : d ≠ t := fun z => by rw [← z, hdl] at ht; cases ht
      have hnt : ∀ a ∈ p :: qs, a ≠ t := fun a ha z => (l2.real a ha).2.2.2 (by rw [z]; exact ht)
      have hgt : G' t = none := l2.ok.sub.free ht
      have sl := same_laid (o := HO.lst (ks.map fun x => V.ref x.2.1)) hgt
      have ol := l2.ok.laid (o := .lst (ks.map fun x => V.ref x.2.1)) ht
      have hd1 : upd H3 t (.lst (ks.map fun x => V.ref x.2.1)) d = some (.lst acc) := by rw [upd_ne htd]; exact hdl
      have hd2 : upd G' t (.lst (ks.map fun x => V.ref x.2.1)) d = none := by rw [upd_ne htd]; exact hdg
      have og := ((newX_no (σ := σ) (K := X.K) l2.no f1 f2 hd2 hd1).grow (ho' := .lst (acc ++ [.ref t])) ol).1
      refine ⟨acc, hd1, by rw [hal, List.length_map, List.length_take]; omega, _, acc ++ [.ref t], move l2 og sl fun a ha => ⟨by rw [upd_ne (hnd a ha), upd_ne (hnt a ha)], by rw [upd_ne (hnt a ha)]; exact (l2.fr a ha).2.2⟩, sg.trans sl, upd_same, hd2, ?_⟩
      rw [List.take_succ, hki, Option.toList_some, List.map_append]
      exact DpAll.append (DpAll.mono sl hacc) (.cons (.lst (.inl (.inl upd_same)) (DpAll.mono sl (keys_dp h6))) .nil)
  · have e0 : ls.length = i := by omega
    refine .inl ⟨⟨_, sq, by rw [List.length_map, l2.len]; omega⟩, ?_⟩
    rw [← e0, List.take_length] at hacc
    have sd := same_laid (o := HO.lst acc) hdg
    exact k _ (upd G' d (.lst acc)) H2 (NewX.freeze l2.ok (newX_no l2.no f1 f2 hdg hdl)) (sg.trans sd) (.lst (.inl (.inl upd_same)) (DpAll.mono sd hacc))
/-- the four statements -/
def sGrown (iL iY : Nat) (src : FA) (F2 F3 : FL) : FS := fun r => (src r).bind fun x => if noOwn x.2 = true ∧ iL < x.2.length ∧ x.1.length < sizeLine then
  (F2 (x.2.set iL none) (List.replicate x.1.length [])).bind fun y => (F3 y.1 y.2).bind fun z => if iY < z.1.length ∧ z.2.length < sizeLine then some (.rt (.list (z.2.map fun kds => .list (kds.map (·.1)))) z.1) else none else none
theorem ss_grown {s1 s2 s3 s4 : Stmt} {F2 F3 : FL} (h1 : PS X s1 (tN X.K iL src)) (h2 : PS X s2 (tD X.K iL [] F2)) (h3 : PS X s3 (tD X.K iL [] F3)) (h4 : PS X s4 (tRD X.K iL iY)) : SSs X [s1, s2, s3, s4] (sGrown iL iY src F2 F3) :=
  PSs.weak (pss_cons h1 (pss_cons h2 (pss_cons h3 (pss_one h4)))) fun E σ H ⟨C, G, r, o, ok, hf, k⟩ => by
    unfold sGrown at hf
    obtain ⟨⟨ds, r1⟩, a1, hf⟩ := Option.bind_eq_some_iff.mp hf
    split at hf
    case isFalse => cases hf
    case isTrue hc =>
    obtain ⟨⟨r2, ls2⟩, a2, hf⟩ := Option.bind_eq_some_iff.mp hf
    obtain ⟨⟨r3, ls3⟩, a3, hf⟩ := Option.bind_eq_some_iff.mp hf
    split at hf
    case isFalse => cases hf
    case isTrue hc2 =>
    cases hf
    refine ⟨C, G, r, ds, r1, ok, a1, hc.1, hc.2.1, hc.2.2, fun σ1 p qs G1 H1 l1 e1 g1 => ?_⟩
    refine ⟨C, G1, _, p, qs, _, r2, ls2, l1, e1, a2, fun σ2 G2 H2 l2 e2 g2 _ => ?_⟩
    refine ⟨C, G2, r2, p, qs, ls2, r3, ls3, l2, e2, a3, fun σ3 G3 H3 l3 e3 g3 _ => ?_⟩
    exact ⟨C, G3, r3, p, qs, ls3, l3, e3, hc2.1, hc2.2, fun v G4 H4 o4 g4 x4 => k v σ3 G4 H4 o4 (((g1.trans g2).trans g3).trans g4) x4⟩
end
/-! ### a def that calls itself: no depth left -/
section
variable {P : Program} {w : World} {K : PySem.W.Frag} {mg : Str → Option Value} {base : Heap} {k n : Nat} {f : Addr} {fd : FuncData} {ps : List Str}
theorem fn_neverP : FnG P w K mg base CX0 k f fd ps (spP K n fun _ => none) := ⟨fun vs H Q E ⟨G, ds, d, _, _, _, h, _⟩ => (nomatch h), fun A out s H as us vs Q E _ _ _ _ _ ⟨G, ds, d, _, _, _, h, _⟩ => (nomatch h)⟩
theorem fn_neverO : FnG P w K mg base CX0 k f fd ps (spO K n fun _ => none) := ⟨fun vs H Q E ⟨G, ds, d, _, _, _, h, _⟩ => (nomatch h), fun A out s H as us vs Q E _ _ _ _ _ ⟨G, ds, d, _, _, _, h, _⟩ => (nomatch h)⟩
end
end SL
/-! repr of numbers, texts, truths and None too. -/
namespace SL
open PySem PySem.Spec PyProof.Rows L2
def isRp : D → Bool
  | .list _ => true
  | .tuple _ => true
  | .int i => decide (i.natAbs.log2 < 1920)
  | .bool _ => true
  | .none => true
  | .str _ => true
  | .dict _ => false
def reprX (d : D) : Option D := if isRp d = true ∧ okShow d = true then some (.str d.shown) else none
def rReprX (K : PySem.W.Frag) : List V → Hp → VK → Prop := fun vs H Q => ∃ v d, vs = [v] ∧ Dp K H v d ∧ isRp d = true ∧ okShow d = true ∧ Q (.str d.shown) H
theorem cr_reprX {X : Cx} (pl : Pl X) : CallR X (.builtin "repr") (rReprX X.K) := by
  intro pins s σ H vs us Q I r h
  obtain ⟨v, d, rfl, hd, hs, ho, q⟩ := h
  cases d with
  | list ds => exact cr_repr pl pins s σ H [v] us Q I r ⟨v, _, rfl, hd, rfl, ho, q⟩
  | tuple ds => exact cr_repr pl pins s σ H [v] us Q I r ⟨v, _, rfl, hd, rfl, ho, q⟩
  | dict k => cases hs
  | int i =>
    obtain ⟨u, rfl, ru⟩ := Vals.one r
    cases hd
    obtain ⟨t, rfl⟩ : ∃ t, u = Value.int i t := ru
    rw [PyData.shown_int] at q
    exact PySem.P.repr_of_int (of_decide_eq_true hs) ⟨.str _, H, I.tok _, ⟨_, rfl⟩, q⟩
  | bool b =>
    obtain ⟨u, rfl, ru⟩ := Vals.one r
    cases hd
    obtain rfl : u = Value.bool b := ru
    rw [PyData.shown_bool] at q
    refine PySem.P.repr_of_bool ⟨.str _, H, I.tok _, ⟨_, rfl⟩, ?_⟩
    cases b <;> exact q
  | none =>
    obtain ⟨u, rfl, ru⟩ := Vals.one r
    cases hd
    obtain rfl : u = Value.none := ru
    rw [PyData.shown_none] at q
    exact PySem.P.repr_of_none ⟨.str _, H, I.tok _, ⟨_, rfl⟩, q⟩
  | str x =>
    obtain ⟨u, rfl, ru⟩ := Vals.one r
    cases hd
    obtain ⟨t, rfl⟩ : ∃ t, u = Value.str x t := ru
    have hl := (okShow_iff.mp ho).2.2.1
    rw [PyData.shown_str] at q hl
    exact PySem.P.repr_of_str ⟨.str _, H, I.tok _, ⟨_, rfl⟩, q⟩ hl
theorem c_reprX {K : PySem.W.Frag} : Call1 K (rReprX K) reprX := fun G H x dx dz Q s hx e bk => by
  unfold reprX at e
  split at e
  · rename_i h
    cases e
    exact ⟨x, dx, rfl, hx.full s, h.1, h.2, bk.val s (.str _)⟩
  · cases e
theorem Sw.reprX {n : Nat} {d : D} (h : Sw n d) (hn : n ≤ sizeLine) (hs : isRp d = true) (hd : d.depth ≤ 64) : reprX d = some (.str d.shown) := by
  unfold SL.reprX
  have ho : okShow d = true := okShow_iff.mpr ⟨h.1, h.2, Nat.le_trans h.3 hn, hd⟩
  rw [if_pos ⟨hs, ho⟩]
theorem isRp_int {i : Int} (h : i.natAbs < 2 ^ 64) : isRp (.int i) = true := by
  refine decide_eq_true ?_
  by_cases z : i.natAbs = 0
  · rw [z]; decide
  · have := (Nat.log2_lt z).mpr h
    omega
end SL
/-! xs.count(k), xs a list of numbers. -/
namespace SL
open PySem PySem.Spec PyProof.Rows L2
def countD : D → D → Option D
  | .list ds, .int k => (intsOf ds).map fun ns => .int (ns.count k : Nat)
  | _, _ => none
section
variable {X : Cx} {a b : Expr} {fa fb : FE} {p q : Bool} {apos cpos : Pos}
theorem se_lcount (ha : SE X p a fa) (hb : SE X q b fb) (hbase : attributeBase a "count" X.env (eval a X.env) = eval a X.env := by rfl)
    (hfew : ((backTo cpos (starEach [b] X.env)).all (fun x => !x.1) && (backToKw cpos (keywordEach [] X.env)).all (fun x => x.1.isSome) && decide ([b].length + ([] : List Keyword).length + (if ([] : List Keyword).isEmpty then 0 else 1) < 30)) = true := by rfl) (hline : (apos.endLine == cpos.line) = true := by rfl)
    (hs : starEach [b] X.env = (false, eval b X.env) :: starEach [] X.env := by rfl) :
    SE X (p && q) (.Call (.Attribute a "count" apos) [b] [] cpos) (f2 countD fa fb) := PE.weak (pe_bm PySem.F.plainAttrs_list PySem.F.slot_list_count PySem.F.type_list_count mt_lcount ha (pa_cons hb pa_nil hs) hbase hfew hline hs) fun σ H Q ⟨C, G, r0, d, r', ok, hf, k⟩ => by
  obtain ⟨x, r1, y, h1, h2, h3⟩ := f2_some hf
  refine ⟨C, G, r0, x, r1, ok, h1, fun v G1 H1 ok1 s1 m1 x1 => ?_⟩
  unfold countD at h3
  split at h3
  case h_2 => cases h3
  case h_1 ds i =>
  obtain ⟨ns, h4, h5⟩ := Option.map_eq_some_iff.mp h3
  cases h5
  rw [intsOf_eq h4] at x1
  obtain ⟨l, rfl, hl⟩ := (Pk.of (H := H1) x1).ints ok1.sub
  refine ⟨.inl ⟨rfl, _, hl⟩, C, G1, r1, _, r', ok1, h2, fun w G2 H2 ok2 s2 m2 x2 => ?_⟩
  cases x2
  obtain ⟨l', e', hl'⟩ := (Pk.of (H := H2) (Dp.mono s2 x1)).ints ok2.sub
  cases e'
  exact ⟨l, ns, i, rfl, rfl, hl', k _ G2 H2 ok2 (s1.trans s2) (fun m => (m1 (and1 m)).trans (m2 (and2 m))) (.int _)⟩
end
end SL
/-! x <= y of any alike data. -/
namespace SL
open PySem PySem.Spec PyProof.Rows L2
def cmpOk (x y : D) : Bool := W.alike x y && (decide (x.depth ≤ 64) && (!x.hasDict && (!y.hasDict && !isNoneD x)))
def leX (x y : D) : Option D := if cmpOk x y = true then some (.bool (!W.dataLt y x)) else none
def rLeX (K : PySem.W.Frag) : R2 := fun x y H Q => ∃ d e, L2.Dp K H x d ∧ L2.Dp K H y e ∧ W.alike d e = true ∧ d ≠ .none ∧ d.depth ≤ 64 ∧ Q (.bl (!W.dataLt e d)) H
section
variable {X : Cx} {K : PySem.W.Frag}
theorem op_leX (pl : Pl X) : OpR X (compareOp .LtE) (rLeX X.K) := by
  intro pins s σ H x y v u Q I rx ry h
  obtain ⟨d, e, hd, he, al, hn, hz, q⟩ := h
  obtain ⟨as, r1⟩ := L2.Dp.reads I d x v hd rx
  obtain ⟨bs, r2⟩ := L2.Dp.reads I e y u he ry
  have hu := hu65 pl
  exact W.le_data r1 r2 al hn (by omega) ⟨.bl _, H, I, rfl, q⟩
theorem o_leX : Op2 K (rLeX K) leX := fun G H x y dx dy dz Q s hx hy e bk => by
  unfold leX at e
  split at e
  · rename_i h
    unfold cmpOk at h
    simp only [Bool.and_eq_true, decide_eq_true_eq, Bool.not_eq_true'] at h
    obtain ⟨h1, h2, h3, h4, h5⟩ := h
    cases e
    exact ⟨_, _, (hx.full s).toL h3, (hy.full s).toL h4, h1, (fun z => by rw [z] at h5; cases h5), h2, bk.val s (.bl _)⟩
  · cases e
end
end SL
/-! x[::-1]. -/
namespace SL
open PySem PySem.Spec PyProof.Rows L2
section
variable {prog : Program} {w : World} {A : Around} {E : Value → Shared → Prop} {s : Shared}
/-- the places that a walk back over n things takes -/
theorem back_len (n : Nat) : Builtin.Slice.slicePlaces ((n : Int) - 1) (-1) (-1) = n := by
  simp only [Builtin.Slice.slicePlaces]
  by_cases z : n = 0
  · subst z; rfl
  · rw [if_neg (by omega), if_pos (by omega), Int.neg_neg, Int.ediv_one]
    omega
theorem back_vals (xs : Array Value) : (List.range xs.size).filterMap (fun (m : Nat) => xs[((xs.size : Int) - 1 + (m : Int) * (-1)).toNat]?) = xs.toList.reverse := by
  apply List.ext_getElem?
  intro i
  have e : ∀ l : List Nat, (∀ m ∈ l, m < xs.size) → l.filterMap (fun (m : Nat) => xs[((xs.size : Int) - 1 + (m : Int) * (-1)).toNat]?) = l.map (fun m => xs[xs.size - 1 - m]!) := by
    intro l hl
    induction l with
    | nil => rfl
    | cons m l ih =>
      have lt := hl m List.mem_cons_self
      have at1 : ((xs.size : Int) - 1 + (m : Int) * (-1)).toNat = xs.size - 1 - m := by omega
      have lt2 : xs.size - 1 - m < xs.size := by omega
      rw [List.filterMap_cons, at1, ih fun k hk => hl k (List.mem_cons_of_mem _ hk)]
      simp [lt2]
  rw [e _ fun m hm => List.mem_range.mp hm, List.getElem?_map]
  by_cases lt : i < xs.size
  · have lt2 : xs.size - 1 - i < xs.size := by omega
    simp [lt, lt2, List.getElem?_reverse]
  · simp [Nat.le_of_not_lt lt]
theorem back_slice {sl : Addr} {os : Obj} {tk : Tok} {n : Nat} {Q : Int × Int × Nat → Shared → Prop} (at1 : s.heap.get? sl = some os) (data : os.data = .fields #[.none, .none, .int (-1) tk]) (q : Q ((n : Int) - 1, -1, n) s) :
    wpAny (model prog w) A (Builtin.Slice.sliceApplied (.ref sl) (pure (n : Int)))
      Q E s := by
  have end1 : wpAny (model prog w) A (pure ((n : Int) - 1, (-1 : Int), Builtin.Slice.slicePlaces ((n : Int) - 1) (-1) (-1))) Q E s := wpAny_pure (by rw [back_len]; exact q)
  simp only [Builtin.Slice.sliceApplied, Builtin.Slice.sliceFields]
  exact wpAny_bind (wpAny_bind (wpAny_field at1 data (x := .none) rfl (wpAny_bind (wpAny_field at1 data (x := .none) rfl (wpAny_bind (wpAny_field at1 data (x := .int (-1) tk) rfl (wpAny_pure
    (wpAny_bind (HT.slicePart_ (.int _ tk) (wpAny_bind (HT.slicePart_ .none (wpAny_bind (HT.slicePart_ .none (wpAny_bind (wpAny_pure end1)))))))))))))))
theorem back_tuple {t sl : Addr} {items : Array Value} {vk : Value} {Q : Value → Shared → Prop} (ht : IsTup s.heap t items) (hs : s.heap.IsSliceOf sl .none .none vk) (pk : IsPart vk (some (-1))) (sz : items.size ≤ sizeLine)
    (q : Q (.ref s.heap.objs.size) { s with heap := s.heap.push { cls := .type "tuple", data := .seq items.toList.reverse.toArray } }) : wpAny (model prog w) A (getItem (.ref t) (.ref sl)) Q E s := by
  cases pk
  rename_i tk
  obtain ⟨os, at1, cls, data⟩ := hs
  refine wpAny_getItem_slot ht.typeIs (by decide) PyProof.Rows.slot_tuple_getitem (wpAny_call_entry PyProof.Rows.slot_tuple_getitem ht.typeIs entry_tuple_getitem ?_ (args_tuple_getitem _ _))
  show wpAny _ _ (Builtin.Tuple.tupleItemsOf (.ref t) >>= _) _ _ s
  refine wpAny_bind (tupleItemsOf_ ht (wpAny_bind (wpAny_typeOf ⟨os, at1, cls⟩ ?_)))
  rw [if_pos (by decide)]
  refine wpAny_bind (back_slice at1 data ?_)
  show wpAny _ _ (if (((items.size : Int) - 1) == 0 && (-1 : Int) == 1 && items.size == items.size) = true then _ else _) _ _ s
  rw [if_neg (by simp), back_vals]
  exact wpAny_bind (m := Builtin.Tuple.tupleExact _) (wpAny_newObj_type (wpAny_pure ⟨_, rfl, q⟩) (by simpa [sizeOk] using sz))
end
section
variable {X : Cx} {e st : Expr} {te : TE} {ts : TO} {pos p2 : Pos}
def rRevA (K : PySem.W.Frag) : V → Hp → VK → Prop := fun x H Q => (∃ a xs, x = .ref a ∧ SqT K H a xs ∧ ∀ p, H p = none → Q (.ref p) (upd H p (.tup xs.reverse))) ∨ (∃ a xs, x = .ref a ∧ SqL K H a xs ∧ ∀ p, H p = none → Q (.ref p) (upd H p (.lst xs.reverse)))
theorem vals_rev {xs : List V} {us : List Value} (r : Vals xs us) : Vals xs.reverse us.reverse := by
  induction r with
  | nil => exact .nil
  | cons h _ ih => simpa using ih.append (.cons h .nil)
theorem pe_rev (he : PE X e te) (hs : PO X (some st) ts) : PE X (.Subscript e (.Slice none none (some st) p2) pos) (fun σ H Q => te σ H fun x H1 => ts σ H1 fun k H2 => k = some (-1) ∧ rRevA X.K x H2 Q) := by
  constructor
  intro pins s σ H Q iv h
  refine Subscript_ (thn (he.run pins s σ H _ iv h) ?_)
  rintro v s1 ⟨x, H1, iv1, r1, q1⟩
  refine wpAny_Slice ((evalPart_none X.env).symm ▸ wpAny_pure (wpAny_pure (thn (hs.run pins s1 σ H1 _ iv1 q1) ?_)))
  rintro vk s2 ⟨_, H2, iv2, pk, rfl, q2⟩
  obtain ⟨s3, e3⟩ : ∃ s3 : Shared, s3 = { s2 with heap := s2.heap.push { cls := .type "slice", data := .fields #[.none, .none, vk] } } := ⟨_, rfl⟩
  have sl : s3.heap.IsSliceOf s2.heap.objs.size .none .none vk := e3 ▸ Heap.IsSliceOf.new s2.heap .none .none vk
  have iv3 : Inv X pins σ H2 s3 := e3 ▸ iv2.kept (t' := s2.toks) fun b u => Heap.get?_push_of_some _
  suffices goal : wpAny (model X.prog X.w) X.A (subscriptTail e (.Slice none none (some st) p2) v (.ref s2.heap.objs.size)) (EP X pins σ Q) X.xe s3 from e3 ▸ goal
  rcases q2 with ⟨a, xs, rfl, hx, q⟩ | ⟨a, xs, rfl, hx, q⟩ <;> cases r1
  · obtain ⟨its, r, tup, lim⟩ := iv3.tuple hx
    refine tail_any (ops := [.ref a, .ref s2.heap.objs.size]) (T := "tuple") tup.typeIs PyProof.Rows.slot_tuple_getitem.lookup (back_tuple tup sl pk (by simpa [Vals.length r] using lim) ⟨.ref _, _, iv3.laid (t' := s3.toks) (o := .tup xs.reverse) (fun b u => Heap.get?_push_of_some _) (Nat.le_refl _) ⟨?_, _, vals_rev r, IsTup.new _ _⟩, rfl, q _ (iv3.hok.fresh (Nat.le_refl _))⟩) (by with_unfolding_all rfl)
    simpa using lim
  · obtain ⟨its, r, lst, lim⟩ := iv3.list hx
    refine tail_any (ops := [.ref a, .ref s2.heap.objs.size]) (T := "list") lst.isList.typeIs list_getitem_lookup (wpAny_getItem_list_slice lst.isList sl .none .none pk (by decide) (W.krv_pick _ ▸ ⟨.ref _, _, iv3.laid (t' := s3.toks) (o := .lst xs.reverse) (fun b u => Heap.get?_push_of_some _) (Nat.le_refl _) ⟨?_, _, 0, vals_rev r, Heap.get?_push_size _ rfl⟩, rfl, q _ (iv3.hok.fresh (Nat.le_refl _))⟩) (by simpa [Vals.length r] using lim)) (by with_unfolding_all rfl)
    simpa using lim
end
/-- x[::-1] -/
def revD : D → Option D
  | .list ds => some (.list ds.reverse)
  | .tuple ds => some (.tuple ds.reverse)
  | _ => none
def fRev (f : FE) : FE := f1 revD f
@[simp] theorem fRev_r (f : FE) (r : Ev) : fRev f r = (f r).bind fun x => (revD x.1).map fun z => (z, x.2) := rfl
@[simp] theorem revD_l (ds : List D) : revD (.list ds) = some (.list ds.reverse) := rfl
@[simp] theorem revD_t (ds : List D) : revD (.tuple ds) = some (.tuple ds.reverse) := rfl
section
variable {X : Cx} {e : Expr} {f : FE} {p : Bool} {pos p2 p3 p4 : Pos}
theorem se_rev {j0} (he : SP X p e f) : SE X p (.Subscript e (.Slice none none (some (.UnaryOp .USub (.Constant (.int 1) j0 p3) p4)) p2) pos) (fRev f) := by
  have hst : SO X (some (.UnaryOp .USub (.Constant (.int 1) j0 p3) p4)) (oSome (f1 negD (fC (.int 1)))) := so_some (se_op1 un_neg o_neg (sp_of se_int))
  refine PE.weak (pe_rev he hst) fun σ H Q ⟨C, G, r, d, r', ok, hf, k⟩ => ?_
  obtain ⟨x, h1, h3⟩ := f1_some hf
  refine ⟨C, G, r, x, r', ok, h1, fun v G1 H1 o1 s1 m1 x1 => ⟨C, G1, r', _, r', o1, rfl, fun G2 H2 o2 s2 m2 => ⟨rfl, ?_⟩⟩⟩
  have pk := x1.step s2 m2
  have bk : Back X.K G2 H2 d Q := o2.back fun v4 G4 H4 o4 s4 m4 x4 => k v4 G4 H4 o4 ((s1.trans s2).trans s4) (fun m => ((m1 m).trans m2).trans m4) x4
  cases x with
  | list ds =>
    cases h3
    obtain ⟨q, vs, rfl, h8, h9⟩ := pk.list o2.sub
    exact .inr ⟨q, vs, rfl, h8, fun c hc => Back.lst o2.sub bk hc (DpAll.reverse h9)⟩
  | tuple ds =>
    cases h3
    obtain ⟨q, vs, rfl, h8, h9⟩ := pk.tuple o2.sub
    exact .inl ⟨q, vs, rfl, h8, fun c hc => Back.tup o2.sub bk hc (DpAll.reverse h9)⟩
  | none => cases h3
  | bool => cases h3
  | int => cases h3
  | str => cases h3
  | dict => cases h3
end
end SL
namespace SL
open PySem PySem.Spec PyProof.Rows L2
/-! tuple(range(n)) -/
def fTupRg (f : FE) : FE := fun r => match f r with
  | some (.int n, r1) => if okR n = true ∧ n.toNat ≤ 16777216 then some (.tuple (rngL 0 n.toNat), r1) else none
  | _ => none
@[simp] theorem fTupRg_r (f : FE) (r : Ev) : fTupRg f r = match f r with
  | some (.int n, r1) => if okR n = true ∧ n.toNat ≤ 16777216 then some (.tuple (rngL 0 n.toNat), r1) else none
  | _ => none := rfl
theorem se_tupRg {X : Cx} {a : Expr} {fa : FE} {p : Bool} {pos cpos pp pr : Pos} (hc : X.calm = true) (hgl : Gl X "tuple") (hml : X.mg "tuple" = none) (hgr : Gl X "range") (hmr : X.mg "range" = none) (ha : SE X p a fa)
    (na : starEach [a] X.env = (false, eval a X.env) :: starEach [] X.env := by rfl) (nb : starEach [.Call (.Name "range" pr) [a] [] cpos] X.env = (false, eval (.Call (.Name "range" pr) [a] [] cpos) X.env) :: starEach [] X.env := by rfl) :
    SE X p (.Call (.Name "tuple" pp) [.Call (.Name "range" pr) [a] [] cpos] [] pos) (fTupRg fa) := PE.weak (pe_tupRg hc hgl hml (prg_1 hgr hmr ha na) nb) fun σ H Q ⟨C, G, r, ds, r', ok, hf, k⟩ => by
  unfold fTupRg at hf
  split at hf
  · rename_i n r1 e
    split at hf
    · rename_i hn
      cases hf
      refine ⟨C, G, r, _, _, ok, e, fun v G1 H1 o1 s1 m1 x1 => ?_⟩
      cases x1
      obtain ⟨b1, b2⟩ := okR_ok hn.1
      have dp : ∀ G : Hp, DpAll X.K G (rgV 0 n) (rngL 0 n.toNat) := fun G => by
        unfold rgV rngL
        rw [Int.sub_zero]
        exact dp_ints _
      have bk : Back X.K G1 H1 (.tuple (rngL 0 n.toNat)) Q := o1.back fun v4 G4 H4 o4 s4 m4 x4 => k v4 G4 H4 o4 (s1.trans s4) (fun m => (m1 m).trans m4) x4
      exact ⟨n, rfl, ⟨by decide, by decide, b1, b2, by rw [Int.sub_zero]; exact hn.2⟩, fun q hq => Back.tup o1.sub bk hq (dp G1)⟩
    · cases hf
  · cases hf
end SL
/-! Calls that leave the defaults of keyword-only parameters. -/
namespace SL
open PySem PySem.Spec PyProof.Rows L2
/-- the def at f has these keyword-only defaults -/
def KwdD (K : PySem.W.Frag) (f : Addr) (qs : List (Str × D)) : Prop := ∃ (oc : Value) (od : Option Addr) (fd : FuncData) (osl : Array (Option Value)) (T : Addr), K.lookup f = some ⟨oc, od, .func fd, osl⟩ ∧ fd.kwdefaults = .ref T ∧
  ∀ q ∈ qs, ∃ u v, PySem.W.nsIn K T q.1 = some (some u) ∧ RelV v u ∧ ∀ G, Dp K G v q.2
def dv2B (K : PySem.W.Frag) : D → Value → Bool
  | .bool b, .bool c => decide (b = c)
  | d, u => dvB K 4 d u
theorem dv2_ok {K : PySem.W.Frag} {d : D} {u : Value} (h : dv2B K d u = true) : ∃ v, RelV v u ∧ ∀ G, Dp K G v d := by
  unfold dv2B at h
  split at h
  · have e := of_decide_eq_true h
    subst e
    exact ⟨.bl _, rfl, fun _ => .bl _⟩
  · exact dv_ok 4 _ _ h
def kwqB (K : PySem.W.Frag) (T : Addr) (q : Str × D) : Bool := match PySem.W.nsIn K T q.1 with
  | some (some u) => dv2B K q.2 u
  | _ => false
def kwfB (x : Str) (qs : List (Str × D)) (K : PySem.W.Frag) : Bool := match K.lookup (He.ga K x) with
  | some ⟨_, _, .func fd, _⟩ => match fd.kwdefaults with
    | .ref T => qs.all (kwqB K T)
    | _ => false
  | _ => false
theorem kwf_ok {K : PySem.W.Frag} {x : Str} {qs : List (Str × D)} (c : kwfB x qs K = true) : KwdD K (He.ga K x) qs := by
  unfold kwfB at c
  split at c
  · rename_i oc od fd osl hl
    split at c
    · rename_i T hT
      refine ⟨oc, od, fd, osl, T, hl, hT, fun q hq => ?_⟩
      have := List.all_eq_true.mp c q hq
      unfold kwqB at this
      split at this
      · rename_i u e
        obtain ⟨v, h1, h2⟩ := dv2_ok this
        exact ⟨u, v, e, h1, h2⟩
      · cases this
    · cases c
  · cases c
theorem kwd_data {K : PySem.W.Frag} {T : Addr} : ∀ {qs : List (Str × D)}, (∀ q ∈ qs, ∃ u v, PySem.W.nsIn K T q.1 = some (some u) ∧ RelV v u ∧ ∀ G, Dp K G v q.2) →
    ∃ (us : List Value) (vs : List V), us.length = qs.length ∧ Vals vs us ∧ (∀ G, DpAll K G vs (qs.map (·.2))) ∧ ∀ q ∈ (qs.map (·.1)).zip us, PySem.W.nsIn K T q.1 = some (some q.2)
  | [], _ => ⟨[], [], rfl, .nil, fun _ => .nil, fun q hq => by cases hq⟩
  | m :: ms, h => by
    obtain ⟨u, v, e1, e2, e3⟩ := h m List.mem_cons_self
    obtain ⟨us, vs, l, r, d, a⟩ := kwd_data (qs := ms) fun q hq => h q (List.mem_cons_of_mem _ hq)
    refine ⟨u :: us, v :: vs, congrArg Nat.succ l, .cons e2 r, fun G => .cons (e3 G) (d G), fun q hq => ?_⟩
    rcases List.mem_cons.mp (show q ∈ (m.1, u) :: (ms.map (·.1)).zip us from hq) with e | hq
    · rw [e]; exact e1
    · exact a q hq
/-- a call that leaves all keyword-only parameters to their defaults -/
def BindsD (K : PySem.W.Frag) (fd : FuncData) (ps : List Str) (ds : List D) : Prop := ∃ (us : List Value) (vs : List V), Vals vs us ∧ (∀ G, DpAll K G vs ds) ∧ Binds K fd ps us
theorem binds_kwd {K : PySem.W.Frag} {x qual : Str} {params : Arguments} {body : List Stmt} {scope : Scope} {f : Addr} {fd : FuncData} {ps : List Str} {kws : List (Str × V)} {qs : List (Str × D)} (F : FunD K x qual params body scope [] kws f fd) (c : KwdD K f qs) (n : Nat) (hn : n + qs.length = ps.length)
    (h : ∀ (T : Addr) (doc pm : Value) (an : Option Addr) (cdv ct : Value) (us ks : List Value), us.length = n → ks.length = qs.length →
      KwChain T ((qs.map (·.1)).zip ks) (bindArgs (PySem.W.fnOf x qual params body scope .none (.ref T) doc pm an cdv ct) ⟨us, []⟩) (ps.zip (us ++ ks))) : BindsD K fd ps (qs.map (·.2)) := by
  obtain ⟨oc, od, dV, kV, doc, pm, an, cdv, ct, osl, rfl, lk, hcd, hD, hK⟩ := F.ex
  obtain ⟨oc', od', fd', osl', T, lk', hT, hq⟩ := c
  rw [lk] at lk'
  cases lk'
  have hT' : kV = .ref T := hT
  subst hT'
  rcases hD with ⟨_, rfl⟩ | ⟨e, _⟩
  · obtain ⟨us, vs, l, r, d, a⟩ := kwd_data hq
    refine ⟨us, vs, r, d, fun s us' X hlen => ?_⟩
    have l2 : us'.length = n := by
      rw [List.length_append, l] at hlen
      omega
    exact BindsTo.of_looks fun M => KwChain.looks X a (h T doc pm an cdv ct us' us l2 l)
  · exact absurd rfl e
section
variable {X : Cx} {k : Nat} {f : Addr} {fd : FuncData} {ps : List Str} {x : Str} {p q : Bool} {pp pos : Pos} {e : Expr} {es : List Expr} {g : FA} {n : Nat} {dds : List D}
def aDef (g : FA) (dds : List D) : FA := fun r => (g r).map fun x => (x.1 ++ dds, x.2)
@[simp] theorem aDef_r (g : FA) (dds : List D) (r : Ev) : aDef g dds r = (g r).map fun x => (x.1 ++ dds, x.2) := rfl
theorem se_callD {fn : List D → Option D} (F : FnG X.prog X.w X.K X.mg X.base CX0 k f fd ps (spP X.K n fn)) (pl : Pl X) (hr : Room k X.A) (hg : Gl X x) (hm : X.mg x = some (.ref f)) (hk : PySem.W.keepIn X.K (.ref f) = true) (hb : BindsD X.K fd ps dds) (ha : SA X p (e :: es) g) {m : Nat} (hlen : ∀ r ds r', g r = some (ds, r') → ds.length = m) (hmn : m + dds.length = n)
    (hdb : (x == ("__debug__" : Str)) = false := by decide) (he : starEach (e :: es) X.env = (false, eval e X.env) :: starEach es X.env := by rfl) (hpl : (backTo pos (starEach es X.env)).any (·.1) = false := by rfl) :
    SE X p (.Call (.Name x pp) (e :: es) [] pos) (fCall fn (aDef g dds)) := by
  obtain ⟨us, ws, hv, hd, hb⟩ := hb
  exact PE.weak (pe_callG (dvs := ws) F hr pl.guards hg hm hk hb hv pass0 ha hdb he hpl) fun σ H Q ⟨C, G, r, d, r', ok, hf, kk⟩ => by
    unfold fCall aDef at hf
    obtain ⟨⟨ds, r1⟩, h1, h2⟩ := Option.bind_eq_some_iff.mp hf
    obtain ⟨⟨ds0, r0⟩, h0, h5⟩ := Option.map_eq_some_iff.mp h1
    cases h5
    obtain ⟨d', h3, h4⟩ := Option.map_eq_some_iff.mp h2
    cases h4
    refine ⟨C, G, r, ds0, _, ok, h0, fun vs G1 H1 o1 s1 m1 x1 => ⟨G1, ds0 ++ dds, d, o1.sub, DpAll.append x1 (hd G1), ?_, h3, o1.back fun v G2 H2 o2 s2 m2 x2 => kk v G2 H2 o2 (s1.trans s2) (fun m => (m1 m).trans m2) x2⟩⟩
    rw [List.length_append, DpAll.length x1, hlen _ _ _ h0, DpAll.length (hd G1)]
    exact hmn
theorem sl_callD {fn : List D → Option (List D)} (F : FnG X.prog X.w X.K X.mg X.base CX0 k f fd ps (spO X.K n fn)) (pl : Pl X) (hr : Room k X.A) (hg : Gl X x) (hm : X.mg x = some (.ref f)) (hk : PySem.W.keepIn X.K (.ref f) = true) (hb : BindsD X.K fd ps dds) (ha : SA X p (e :: es) g) {m : Nat} (hlen : ∀ r ds r', g r = some (ds, r') → ds.length = m) (hmn : m + dds.length = n)
    (hdb : (x == ("__debug__" : Str)) = false := by decide) (he : starEach (e :: es) X.env = (false, eval e X.env) :: starEach es X.env := by rfl) (hpl : (backTo pos (starEach es X.env)).any (·.1) = false := by rfl) :
    SL X p (.Call (.Name x pp) (e :: es) [] pos) (lCall fn (aDef g dds)) := by
  obtain ⟨us, ws, hv, hd, hb⟩ := hb
  exact PE.weak (pe_callG (dvs := ws) F hr pl.guards hg hm hk hb hv pass0 ha hdb he hpl) fun σ H Q ⟨C, G, r, d, r', ok, hf, kk⟩ => by
    unfold lCall aDef at hf
    obtain ⟨⟨ds, r1⟩, h1, h2⟩ := Option.bind_eq_some_iff.mp hf
    obtain ⟨⟨ds0, r0⟩, h0, h5⟩ := Option.map_eq_some_iff.mp h1
    cases h5
    obtain ⟨d', h3, h4⟩ := Option.map_eq_some_iff.mp h2
    cases h4
    refine ⟨C, G, r, ds0, _, ok, h0, fun vs G1 H1 o1 s1 m1 x1 => ⟨G1, ds0 ++ dds, _, o1.sub, DpAll.append x1 (hd G1), ?_, h3, fun l ws' G2 H2 s2 m2 s2' n2 hl hG2 hH2 hdd => ?_⟩⟩
    · rw [List.length_append, DpAll.length x1, hlen _ _ _ h0, DpAll.length (hd G1)]
      exact hmn
    · have o2 := o1.calm s2 m2 s2' n2
      exact kk l ws' G2 H2 o2 (s1.trans s2) (fun m => (m1 m).trans m2) ⟨(o1.fresh hl).1, (o1.fresh hl).2.1, hG2, hH2, fun i c e o => o1.ne_of_fresh hl e o⟩ hdd
end
end SL
/-! max, min with default=; xs.clear(). -/
namespace SL
open PySem PySem.Spec PyProof.Rows L2
def maxDf : D → D → Option D
  | .list ds, z => (intsOf ds).map fun ns => if ns = [] then z else .int (maxI ns)
  | _, _ => none
def minDf : D → D → Option D
  | .list ds, z => (intsOf ds).map fun ns => if ns = [] then z else .int (minI ns)
  | _, _ => none
def rMaxK (K : PySem.W.Frag) : List V → List V → Hp → VK → Prop := fun vs zs H Q => ∃ (a : Addr) (ns : List Int) (z : V), vs = [V.ref a] ∧ zs = [z] ∧ SqL K H a (ns.map V.int) ∧ Q (if ns = [] then z else .int (maxI ns)) H
def rMinK (K : PySem.W.Frag) : List V → List V → Hp → VK → Prop := fun vs zs H Q => ∃ (a : Addr) (ns : List Int) (z : V), vs = [V.ref a] ∧ zs = [z] ∧ SqL K H a (ns.map V.int) ∧ Q (if ns = [] then z else .int (minI ns)) H
theorem foldl_maxI : ∀ (ns : List Int) (n : Int), ns.foldl max n = maxI (n :: ns)
  | [], n => rfl
  | m :: ns, n => by
    rw [List.foldl_cons, foldl_maxI ns (max n m)]
    cases ns with
    | nil => rfl
    | cons k r =>
      show max (max n m) (maxI (k :: r)) = max n (max m (maxI (k :: r)))
      exact Int.max_assoc ..
theorem foldl_minI : ∀ (ns : List Int) (n : Int), ns.foldl min n = minI (n :: ns)
  | [], n => rfl
  | m :: ns, n => by
    rw [List.foldl_cons, foldl_minI ns (min n m)]
    cases ns with
    | nil => rfl
    | cons k r =>
      show min (min n m) (minI (k :: r)) = min n (min m (minI (k :: r)))
      exact Int.min_assoc ..
theorem depth_intsM : ∀ xs : List Int, PyData.depthAll (xs.map .int) = 0
  | [] => by simp only [List.map_nil, PyData.depthAll]
  | x :: xs => by simp only [List.map_cons, PyData.depthAll, PyData.depth, depth_intsM xs]; rfl
theorem dp_intsM {K : PySem.W.Frag} {H : Hp} : ∀ ns : List Int, L2.DpAll K H (ns.map V.int) (ns.map .int)
  | [] => .nil
  | n :: r => .cons (.int n) (dp_intsM r)
section
variable {X : Cx}
theorem ints_read {pins : List (Addr × Obj)} {σ : L2.St} {H : Hp} {s : Shared} {a : Addr} {ns : List Int} (iv : Inv X pins σ H s) (hs : SqL X.K H a (ns.map V.int)) : ∃ its : List Value, PlainL s.heap a its.toArray ∧ ∃ as, ReadsAll s.heap its (ns.map PyData.int) as := by
  obtain ⟨its, rv, lst, _⟩ := iv.list hs
  exact ⟨its, lst, L2.Dp.readsAll iv (ns.map .int) (ns.map V.int) its (dp_intsM ns) rv⟩
theorem cr_maxK (pl : Pl X) : CallRK X (.builtin "max") [Str.ofString "default"] (rMaxK X.K) := by
  rintro pins s σ H _ _ us ws Q I r rz ⟨a, ns, z, rfl, rfl, hs, q⟩
  rw [Vals.ref1 r]
  cases rz with
  | cons e1 rz =>
  cases rz
  obtain ⟨its, hl, as, hr⟩ := ints_read I hs
  have hun := pl.units
  refine W.max_list_default (I.ok.hd pl.calm) hl.isList hr ?_ (by rw [depth_intsM]; omega) (fun e h' tk hk => ⟨z, H, I.kept hk, e1, ?_⟩) fun y ys i v h' tk bs e hi hv hk => ?_
  · refine ⟨fun x hx y hy => ?_, fun x hx => ?_⟩
    · obtain ⟨i, _, rfl⟩ := List.mem_map.mp hx
      obtain ⟨j, _, rfl⟩ := List.mem_map.mp hy
      rfl
    · obtain ⟨i, _, rfl⟩ := List.mem_map.mp hx
      exact fun z => nomatch z
  · rw [if_pos (List.map_eq_nil_iff.mp e)] at q
    exact q
  · cases ns with
    | nil => cases e
    | cons n ms =>
      rw [List.map_cons] at e
      cases e
      rw [W.maxD_ints, foldl_maxI] at hv
      rw [if_neg (by simp)] at q
      cases hv
      exact ⟨.int (maxI (n :: ms)), H, I.kept hk, ⟨_, rfl⟩, q⟩
theorem cr_minK (pl : Pl X) : CallRK X (.builtin "min") [Str.ofString "default"] (rMinK X.K) := by
  rintro pins s σ H _ _ us ws Q I r rz ⟨a, ns, z, rfl, rfl, hs, q⟩
  rw [Vals.ref1 r]
  cases rz with
  | cons e1 rz =>
  cases rz
  obtain ⟨its, hl, as, hr⟩ := ints_read I hs
  have hun := pl.units
  refine W.min_list_default (I.ok.hd pl.calm) hl.isList hr ?_ (by rw [depth_intsM]; omega) (fun e h' tk hk => ⟨z, H, I.kept hk, e1, ?_⟩) fun y ys i v h' tk bs e hi hv hk => ?_
  · refine ⟨fun x hx y hy => ?_, fun x hx => ?_⟩
    · obtain ⟨i, _, rfl⟩ := List.mem_map.mp hx
      obtain ⟨j, _, rfl⟩ := List.mem_map.mp hy
      rfl
    · obtain ⟨i, _, rfl⟩ := List.mem_map.mp hx
      exact fun z => nomatch z
  · rw [if_pos (List.map_eq_nil_iff.mp e)] at q
    exact q
  · cases ns with
    | nil => cases e
    | cons n ms =>
      rw [List.map_cons] at e
      cases e
      rw [W.minD_ints, foldl_minI] at hv
      rw [if_neg (by simp)] at q
      cases hv
      exact ⟨.int (minI (n :: ms)), H, I.kept hk, ⟨_, rfl⟩, q⟩
/-- f(e, default=z) -/
def Call2K (K : PySem.W.Frag) (r : List V → List V → Hp → VK → Prop) (g : D → D → Option D) : Prop := ∀ G H x y dx dy dz Q, Same G H → Pk K G H x dx → Dp K G y dy → g dx dy = some dz → Back K G H dz Q → r [x] [y] H Q
theorem c_maxK {K : PySem.W.Frag} : Call2K K (rMaxK K) maxDf := fun G H x y dx dy dz Q s hx hy e bk => by
  unfold maxDf at e
  split at e
  · obtain ⟨ns, h1, h2⟩ := Option.map_eq_some_iff.mp e
    cases h2
    rw [intsOf_eq h1] at hx
    obtain ⟨p, rfl, h⟩ := hx.ints s
    refine ⟨p, ns, y, rfl, rfl, h, ?_⟩
    by_cases hn : ns = []
    · rw [if_pos hn] at bk ⊢; exact bk.val s hy
    · rw [if_neg hn] at bk ⊢; exact bk.val s (.int _)
  · cases e
theorem c_minK {K : PySem.W.Frag} : Call2K K (rMinK K) minDf := fun G H x y dx dy dz Q s hx hy e bk => by
  unfold minDf at e
  split at e
  · obtain ⟨ns, h1, h2⟩ := Option.map_eq_some_iff.mp e
    cases h2
    rw [intsOf_eq h1] at hx
    obtain ⟨p, rfl, h⟩ := hx.ints s
    refine ⟨p, ns, y, rfl, rfl, h, ?_⟩
    by_cases hn : ns = []
    · rw [if_pos hn] at bk ⊢; exact bk.val s hy
    · rw [if_neg hn] at bk ⊢; exact bk.val s (.int _)
  · cases e
theorem se_call2K {x : Str} {id : String} {ks : List Str} {pp pos kpos : Pos} {a b : Expr} {fa fb : FE} {p : Bool} {nm : Option Str} {r : List V → List V → Hp → VK → Prop} {g : D → D → Option D} (hc : CallRK X (.builtin id) ks r) (o : Call2K X.K r g) (hg : Gl X x) (hm : X.mg x = none) (ha : SP X p a fa) (hb : SE X true b fb) (hv : bootBuiltins x = some (.builtin id) := by decide +kernel)
    (he0 : starEach [a] X.env = (false, eval a X.env) :: starEach [] X.env := by rfl) (hn : x ≠ "__name__" := by decide) (hdb : (x == ("__debug__" : Str)) = false := by decide)
    (he : backTo pos (starEach [a] X.env) = (false, eval a X.env) :: backTo pos (starEach [] X.env) := by rfl) (hpl : (backTo pos (starEach [a] X.env)).any (·.1) = false := by rfl)
    (hall : (backToKw pos (keywordEach [⟨nm, b, kpos⟩] X.env)).all (·.1.isSome) = true := by rfl) (hnone : (backToKw pos (keywordEach [⟨nm, b, kpos⟩] X.env)).any (·.1.isNone) = false := by rfl) (hks : (backToKw pos (keywordEach [⟨nm, b, kpos⟩] X.env)).filterMap (·.1) = ks := by rfl) :
    SE X p (.Call (.Name x pp) [a] [⟨nm, b, kpos⟩] pos) (f2 g fa fb) :=
  PE.weak (pe_callBK hc hg hm hv (pa_cons ha pa_nil he0) (pk_cons hb pk_nil) hn hdb he hpl hall hnone hks) fun σ H Q ⟨C, G, r0, d, r', ok, hf, k⟩ => by
    obtain ⟨x, r1, y, h1, h2, h3⟩ := f2_some hf
    refine ⟨C, G, r0, x, r1, ok, h1, fun v G1 H1 ok1 s1 m1 x1 => ⟨C, G1, r1, y, r', ok1, h2, fun w G2 H2 ok2 s2 m2 x2 => ?_⟩⟩
    refine o G2 H2 v w x y d Q ok2.sub (x1.step s2 (m2 rfl)) x2 h3 (ok2.back fun v3 G3 H3 ok3 s3 m3 x3 => ?_)
    exact k v3 G3 H3 ok3 ((s1.trans s2).trans s3) (fun m => ((m1 m).trans (m2 rfl)).trans m3) x3
end
end SL
/-! Values whose lists are all new: expressions, statements, promises. -/
namespace SL
open PySem PySem.Spec PyProof.Rows L2
mutual
/-- data without a list -/
def flatD : D → Bool
  | .list _ => false
  | .dict _ => false
  | .tuple ds => flatAll ds
  | _ => true
def flatAll : List D → Bool
  | [] => true
  | d :: ds => flatD d && flatAll ds
end
mutual
theorem flat_n {K : PySem.W.Frag} {P G : Hp} : ∀ {d : D} {v : V}, flatD d = true → Dp K G v d → DpN K P G v d
  | _, _, _, .non => .non
  | _, _, _, .bl b => .bl b
  | _, _, _, .int i => .int i
  | _, _, _, .str x => .str x
  | _, _, h, .tup a t => .tup a (flatAll_n (by simpa only [flatD] using h) t)
  | _, _, h, .lst _ _ => by simp only [flatD] at h; cases h
  | _, _, h, .dic _ _ => by simp only [flatD] at h; cases h
theorem flatAll_n {K : PySem.W.Frag} {P G : Hp} : ∀ {ds : List D} {vs : List V}, flatAll ds = true → DpAll K G vs ds → DpNAll K P G vs ds
  | _, _, _, .nil => .nil
  | _, _, h, .cons a t => by
    simp only [flatAll, Bool.and_eq_true] at h
    exact .cons (flat_n h.1 a) (flatAll_n h.2 t)
end
@[simp] theorem flatD_int (i : Int) : flatD (.int i) = true := by simp only [flatD]
@[simp] theorem flatD_none : flatD .none = true := by simp only [flatD]
@[simp] theorem flatD_bool (b : Bool) : flatD (.bool b) = true := by simp only [flatD]
@[simp] theorem flatD_str (b : Str) : flatD (.str b) = true := by simp only [flatD]
@[simp] theorem flatAll_nil : flatAll [] = true := by simp only [flatAll]
@[simp] theorem flatAll_cons (d : D) (ds : List D) : flatAll (d :: ds) = (flatD d && flatAll ds) := by simp only [flatAll]
theorem flatAll_of {ds : List D} (h : ∀ d ∈ ds, flatD d = true) : flatAll ds = true := by
  induction ds with
  | nil => simp
  | cons d ds ih =>
    rw [flatAll_cons, h d List.mem_cons_self, ih fun e he => h e (List.mem_cons_of_mem _ he)]
    rfl
theorem flatAll_ints {α : Type} (f : α → Int) (xs : List α) : flatAll (xs.map fun x => (.int (f x) : D)) = true := flatAll_of fun d hd => by
  obtain ⟨x, _, rfl⟩ := List.mem_map.mp hd
  simp
theorem DpNAll.length {K : PySem.W.Frag} {P G : Hp} {ds : List D} {vs : List V} (h : DpNAll K P G vs ds) : vs.length = ds.length := DpAll.length h.dp
theorem DpNAll.atI {K : PySem.W.Frag} {P G : Hp} {ds : List D} {vs : List V} {i : Int} {d : D} (h : DpNAll K P G vs ds) (e : L2.atI ds i = some d) : ∃ v, L2.atI vs i = some v ∧ DpN K P G v d := by
  unfold L2.atI at e ⊢
  rw [h.length]
  obtain ⟨j, h1, h2⟩ := Option.bind_eq_some_iff.mp e
  obtain ⟨v, h3, h4⟩ := DpNAll.get h h2
  exact ⟨v, by rw [h1]; exact h3, h4⟩
def tEN (K : PySem.W.Frag) (pu : Bool) (f : FE) : TE := fun σ H Q => ∃ C G r d r', Ok K C G H σ r ∧ f r = some (d, r') ∧
  ∀ v G' H', Ok K C G' H' σ r' → Same G G' → (pu = true → Same H H') → DpN K C.P G' v d → Q v H'
def tLN (K : PySem.W.Frag) (pu : Bool) (f : FA) : TE := fun σ H Q => ∃ C G r d r', Ok K C G H σ r ∧ f r = some (d, r') ∧
  ∀ p vs G' H', Ok K C G' H' σ r' → Same G G' → (pu = true → Same H H') → New K C G' H' σ r' p vs → DpNAll K C.P G' vs d → Q (.ref p) H'
def tAN (K : PySem.W.Frag) (pu : Bool) (f : FA) : TA := fun σ H Q => ∃ C G r d r', Ok K C G H σ r ∧ f r = some (d, r') ∧
  ∀ v G' H', Ok K C G' H' σ r' → Same G G' → (pu = true → Same H H') → DpNAll K C.P G' v d → Q v H'
abbrev SEN (X : Cx) (pu : Bool) (e : Expr) (f : FE) : Prop := PE X e (tEN X.K pu f)
abbrev SLN (X : Cx) (pu : Bool) (e : Expr) (f : FA) : Prop := PE X e (tLN X.K pu f)
abbrev SAN (X : Cx) (pu : Bool) (es : List Expr) (f : FA) : Prop := PA X es (tAN X.K pu f)
/-- a name that holds such a value -/
def fVN (i : Nat) : FE := fun r => match r[i]? with
  | some (some (.fre d)) => some (d, r)
  | some (some (.ownF ds)) => some (.list ds, r.set i (some (.fre (.list ds))))
  | _ => none
@[simp] theorem fVN_r (i : Nat) (r : Ev) : fVN i r = match r[i]? with
  | some (some (.fre d)) => some (d, r)
  | some (some (.ownF ds)) => some (.list ds, r.set i (some (.fre (.list ds))))
  | _ => none := rfl
def fFl (f : FE) : FE := fun r => (f r).bind fun x => if flatD x.1 = true then some x else none
@[simp] theorem fFl_r (f : FE) (r : Ev) : fFl f r = (f r).bind fun x => if flatD x.1 = true then some x else none := rfl
def lFl (g : FA) : FA := fun r => (g r).bind fun x => if flatAll x.1 = true then some x else none
@[simp] theorem lFl_r (g : FA) (r : Ev) : lFl g r = (g r).bind fun x => if flatAll x.1 = true then some x else none := rfl
section
variable {X : Cx} {e a b : Expr} {es : List Expr} {f fa fb : FE} {g : FA} {pu p q : Bool} {pos pp : Pos} {x : Str}
theorem se_ofN (h : SEN X p e f) : SE X p e f := PE.weak h fun σ H Q ⟨C, G, r, d, r', ok, hf, k⟩ => ⟨C, G, r, d, r', ok, hf, fun v G' H' o s m x => k v G' H' o s m x.dp⟩
theorem sen_any (h : SEN X p e f) : SEN X false e f := PE.weak h fun σ H Q ⟨C, G, r, d, r', ok, hf, k⟩ => ⟨C, G, r, d, r', ok, hf, fun v G' H' o s m x => k v G' H' o s (fun q => by cases q) x⟩
theorem sen_var (i : Nat) (hN : X.N[i]? = some x := by rfl) (hv : Vis X.env.scope x := by first | exact Or.inl rfl | exact Or.inr (Or.inl rfl) | exact Or.inr (Or.inr rfl)) (hd : (x == ("__debug__" : Str)) = false := by decide)
    (hcd : (x == ("__classdict__" : Str)) = false := by decide) : SEN X true (.Name x pos) (fVN i) := PE.weak (pe_var hN hv hd hcd) fun σ H Q ⟨C, G, r, d, r', ok, hf, k⟩ => by
  unfold fVN at hf
  split at hf
  · rename_i d' e
    cases hf
    obtain ⟨v, e1, h⟩ := ok.cell i _ e
    exact ⟨v, e1, k v G H ok (Same.refl _) (fun _ => Same.refl _) h⟩
  · rename_i ds e
    cases hf
    obtain ⟨v, e1, p, vs, rfl, h1, h2, h3, h4⟩ := ok.cell i _ e
    obtain ⟨o1, o2, o3⟩ := ok.freezeF e e1 h1 h2 h3 h4
    exact ⟨_, e1, k _ _ H o1 o2 (fun _ => Same.refl _) o3⟩
  · cases hf
theorem sen_flat (h : SE X p e f) : SEN X p e (fFl f) := PE.weak h fun σ H Q ⟨C, G, r, d, r', ok, hf, k⟩ => by
  unfold fFl at hf
  obtain ⟨⟨d1, r1⟩, h1, h2⟩ := Option.bind_eq_some_iff.mp hf
  split at h2
  · rename_i hz
    cases h2
    exact ⟨C, G, r, d, r', ok, h1, fun v G' H' o s m x => k v G' H' o s m (flat_n hz x)⟩
  · cases h2
theorem sen_new (h : SLN X p e g) : SEN X p e (fL g) := PE.weak h fun σ H Q ⟨C, G, r, d, r', ok, hf, k⟩ => by
  unfold fL at hf
  obtain ⟨⟨ds, r1⟩, h1, h2⟩ := Option.map_eq_some_iff.mp hf
  cases h2
  exact ⟨C, G, r, ds, r1, ok, h1, fun p vs G' H' o s m n x => k _ (upd G' p (.lst vs)) H' (n.freeze o) (s.trans (same_laid n.2.2.1)) m (.lst upd_same n.1 (DpNAll.mono (same_laid n.2.2.1) x))⟩
theorem sln_flat (h : SL X p e g) : SLN X p e (lFl g) := PE.weak h fun σ H Q ⟨C, G, r, d, r', ok, hf, k⟩ => by
  unfold lFl at hf
  obtain ⟨⟨d1, r1⟩, h1, h2⟩ := Option.bind_eq_some_iff.mp hf
  split at h2
  · rename_i hz
    cases h2
    exact ⟨C, G, r, d, r', ok, h1, fun v vs G' H' o s m n x => k v vs G' H' o s m n (flatAll_n hz x)⟩
  · cases h2
theorem san_nil : SAN X true [] aNil := PA.weak pa_nil fun σ H Q ⟨C, G, r, d, r', ok, hf, k⟩ => by
  cases hf
  exact k [] G H ok (Same.refl _) (fun _ => Same.refl _) .nil
theorem san_cons (ha : SEN X p e f) (hr : SAN X q es g) (hs : starEach (e :: es) X.env = (false, eval e X.env) :: starEach es X.env := by rfl) : SAN X (p && q) (e :: es) (aCons f g) := PA.weak (pa_cons ha hr hs) fun σ H Q ⟨C, G, r, d, r', ok, hf, k⟩ => by
  obtain ⟨x, r1, xs, h1, h2, rfl⟩ := aCons_some hf
  exact ⟨C, G, r, x, r1, ok, h1, fun v G1 H1 o1 s1 m1 x1 => ⟨C, G1, r1, xs, r', o1, h2, fun vs G2 H2 o2 s2 m2 x2 => k _ G2 H2 o2 (s1.trans s2) (fun m => (m1 (and1 m)).trans (m2 (and2 m))) (.cons (DpN.mono s2 x1) x2)⟩⟩
theorem sen_tup {k : Nat} (h : SAN X p es g) : SEN X p (.Tuple es k pos) (fTup g) := PE.weak (pe_tup h) fun σ H Q ⟨C, G, r, d, r', ok, hf, k⟩ => by
  unfold fTup at hf
  obtain ⟨⟨xs, r1⟩, h1, h2⟩ := Option.bind_eq_some_iff.mp hf
  split at h2
  · rename_i hz
    cases h2
    refine ⟨C, G, r, xs, _, ok, h1, fun vs G1 H1 o1 s1 m1 x1 => ⟨by rw [x1.length]; exact Nat.le_of_lt (small1000 hz), fun p hp => ?_⟩⟩
    have ng := (o1.fresh hp).2.2
    exact k _ (upd G1 p (.tup vs)) _ (o1.laid hp) (s1.trans (same_laid ng)) (fun m => (m1 m).trans (same_laid hp)) (.tup (.inl (.inl upd_same)) (DpNAll.mono (same_laid ng) x1))
  · cases h2
theorem sln_disp {k : Nat} (h : SAN X p es g) : SLN X p (.List es pos) (lDisp g) := PE.weak (pe_lst h) fun σ H Q ⟨C, G, r, d, r', ok, hf, k⟩ => by
  unfold lDisp at hf
  obtain ⟨⟨xs, r1⟩, h1, h2⟩ := Option.bind_eq_some_iff.mp hf
  split at h2
  · rename_i hz
    cases h2
    refine ⟨C, G, r, _, _, ok, h1, fun vs G1 H1 o1 s1 m1 x1 => ⟨by rw [x1.length]; exact Nat.le_of_lt (small1000 hz), fun p hp => ?_⟩⟩
    obtain ⟨o2, n⟩ := o1.newList (vs := vs) hp
    exact k p vs G1 _ o2 s1 (fun m => (m1 m).trans (same_laid hp)) n x1
  · cases h2
theorem sln_cat (ha : SEN X p a fa) (hb : SEN X q b fb) : SLN X (p && q) (.BinOp a .Add b pos) (lCat fa fb) := PE.weak (pe_op op_catL ha hb) fun σ H Q ⟨C, G, r, d, r', ok, hf, k⟩ => by
  unfold lCat at hf
  split at hf
  · rename_i xs r1 h1
    split at hf
    · rename_i ys r2 h2
      split at hf
      · rename_i hz
        cases hf
        refine ⟨C, G, r, _, _, ok, h1, fun v G1 H1 o1 s1 m1 x1 => ⟨C, G1, r1, _, _, o1, h2, fun w G2 H2 o2 s2 m2 x2 => ?_⟩⟩
        have x1 := DpN.mono s2 x1
        cases x1 with
        | lst a1 b1 c1 =>
          cases x2 with
          | lst a2 b2 c2 =>
            refine ⟨_, _, _, _, rfl, rfl, .inl (.inl (o2.sub _ _ a1)), .inl (.inl (o2.sub _ _ a2)), by rw [c1.length, c2.length]; exact hz, fun c hc => ?_⟩
            obtain ⟨o3, n3⟩ := o2.newList hc
            exact k c _ G2 _ o3 (s1.trans s2) (fun m => ((m1 (and1 m)).trans (m2 (and2 m))).trans (same_laid hc)) n3 (DpNAll.append c1 c2)
      · cases hf
    · cases hf
  · cases hf
theorem sen_ix (ha : SEN X p a fa) (hb : SE X q b fb) (hs : PlainIx b := by exact fun _ _ => rfl) : SEN X (p && q) (.Subscript a b pos) (f2 ixD fa fb) := PE.weak (pe_ix ix_lt ha hb hs) fun σ H Q ⟨C, G, r0, d, r', ok, hf, k⟩ => by
  obtain ⟨x, r1, y, h1, h2, h3⟩ := f2_some hf
  refine ⟨C, G, r0, x, r1, ok, h1, fun v G1 H1 ok1 s1 m1 x1 => ⟨C, G1, r1, y, r', ok1, h2, fun w G2 H2 ok2 s2 m2 x2 => ?_⟩⟩
  have x1 := DpN.mono s2 x1
  have kk := fun v3 (h : DpN X.K C.P G2 v3 d) => k v3 G2 H2 ok2 (s1.trans s2) (fun m => (m1 (and1 m)).trans (m2 (and2 m))) h
  unfold ixD at h3
  split at h3
  · cases x1 with
    | lst a1 b1 c1 =>
      cases x2
      obtain ⟨v, h4, h5⟩ := c1.atI h3
      exact .inl ⟨_, _, _, v, rfl, rfl, .inl (.inl (ok2.sub _ _ a1)), h4, kk v h5⟩
  · cases x1 with
    | tup a1 c1 =>
      cases x2
      obtain ⟨v, h4, h5⟩ := c1.atI h3
      exact .inr ⟨_, _, _, v, rfl, rfl, SqT.mono ok2.sub a1, h4, kk v h5⟩
  · cases h3
end
/-! ### promises -/
/-- a value whose lists are all new -/
def BackN (K : PySem.W.Frag) (G H : Hp) (d : D) (Q : VK) : Prop := ∀ v G' H', Same G G' → Same H H' → Same G' H' → (∀ a o, G' a = some o → G a = some o ∨ H a = none) → DpN K H G' v d → Q v H'
def spN (K : PySem.W.Frag) (n : Nat) (fn : List D → Option D) : Sp := fun vs H Q E => ∃ G ds d, Same G H ∧ DpAll K G vs ds ∧ vs.length = n ∧ fn ds = some d ∧ BackN K G H d Q
@[simp] def endN : Option Out → Option D
  | some (.rtN d _) => some d
  | _ => none
def runN (m : Nat) (F : FS) (ds : List D) : Option D := endN (F (startE m ds))
section
variable {P : Program} {w : World} {K : PySem.W.Frag} {mg : Str → Option Value} {base : Heap} {k : Nat} {f : Addr} {fd : FuncData} {ps : List Str} {x qual : Str} {params : Arguments} {body : List Stmt} {scope : Scope} {dvs : List V} {kws : List (Str × V)} {N : List Str} {F : FS}
theorem FnG.new (DF : FunD K x qual params body scope dvs kws f fd) (S : FnScope N ps scope) (h : BodyOk P w K mg base k N qual scope f body F) : FnG P w K mg base CX0 (k + 1) f fd ps (spN K ps.length (runN N.length F)) := by
  refine FnG.ofD DF S (fun vs H Q E ⟨G, ds, d, _, _, h, _⟩ => h) fun cv A out s H vs Q E hr hg ⟨G, ds, d, s0, h0, hl, hf, bk⟩ => ⟨_, (h cv A out s H E (pl_at S.nd hr hg) hr).nox, ?_⟩
  have hz : ds.length ≤ N.length := by rw [← DpAll.length h0, hl]; exact len_ps S
  unfold runN at hf
  cases hF : F (startE N.length ds) with
  | none => rw [hF] at hf; cases hf
  | some o =>
    rw [hF] at hf
    refine ⟨{ P := H, G0 := G, M := [] }, G, _, o, Ok.start s0 h0 hz, hF, ?_⟩
    cases o with
    | rtN d' r => cases hf; exact fun v σ' G' H' ok s1 hv => bk v G' H' s1 (fun a o e => ok.prot a o e (by simp)) ok.sub ok.gnew hv
    | rt => cases hf
    | rtO => cases hf
    | nx => cases hf
    | bk => cases hf
    | ct => cases hf
theorem spN_P {n : Nat} {fn : List D → Option D} (vs : List V) (H : Hp) (Q : VK) (E : XK) (h : spP K n fn vs H Q E) : spN K n fn vs H Q E := by
  obtain ⟨G, ds, d, a, b, c, e, bk⟩ := h
  exact ⟨G, ds, d, a, b, c, e, fun v G' H' s m s' n hv => bk v G' H' s m s' n hv.dp⟩
/-- such a def as any def that gives a value -/
theorem FnG.asP {CX : CXT} {n : Nat} {fn : List D → Option D} (h : FnG P w K mg base CX k f fd ps (spN K n fn)) : FnG P w K mg base CX k f fd ps (spP K n fn) := h.imp spN_P
end
section
variable {X : Cx} {k : Nat} {f : Addr} {fd : FuncData} {ps : List Str} {x : Str} {p q : Bool} {pp pos : Pos} {e : Expr} {es : List Expr} {g : FA} {n : Nat} {E : XK}
theorem Ok.old {K : PySem.W.Frag} {C : Ctx} {G H : Hp} {σ : L2.St} {r : Ev} (ok : Ok K C G H σ r) {a : Addr} (h : H a = none) : C.P a = none := (ok.fresh h).1
theorem sen_ofCall {fn : List D → Option D} (hc : PE X e (tCall (spN X.K n fn) [] E (tA X.K p g))) (hlen : ∀ r ds r', g r = some (ds, r') → ds.length = n) : SEN X p e (fCall fn g) := PE.weak hc fun σ H Q ⟨C, G, r, d, r', ok, hf, kk⟩ => by
  unfold fCall at hf
  obtain ⟨⟨ds, r1⟩, h1, h2⟩ := Option.bind_eq_some_iff.mp hf
  obtain ⟨d', h3, h4⟩ := Option.map_eq_some_iff.mp h2
  cases h4
  refine ⟨C, G, r, ds, _, ok, h1, fun vs G1 H1 o1 s1 m1 x1 => ⟨G1, ds, d, o1.sub, by rw [List.append_nil]; exact x1, ?_, h3, fun v G2 H2 s2 m2 s2' n2 x2 => kk v G2 H2 (o1.calm s2 m2 s2' n2) (s1.trans s2) (fun m => (m1 m).trans m2) (DpN.imp (Same.refl _) (fun a _ z => o1.old z) x2)⟩⟩
  rw [List.append_nil, DpAll.length x1, hlen _ _ _ h1]
theorem sen_call {fn : List D → Option D} (F : FnG X.prog X.w X.K X.mg X.base CX0 k f fd ps (spN X.K n fn)) (pl : Pl X) (hr : Room k X.A) (hg : Gl X x) (hm : X.mg x = some (.ref f)) (hk : PySem.W.keepIn X.K (.ref f) = true) (hb : Binds X.K fd ps []) (ha : SA X p (e :: es) g) (hlen : ∀ r ds r', g r = some (ds, r') → ds.length = n)
    (hdb : (x == ("__debug__" : Str)) = false := by decide) (he : starEach (e :: es) X.env = (false, eval e X.env) :: starEach es X.env := by rfl) (hpl : (backTo pos (starEach es X.env)).any (·.1) = false := by rfl) :
    SEN X p (.Call (.Name x pp) (e :: es) [] pos) (fCall fn g) := sen_ofCall (pe_callG (dvs := []) F hr pl.guards hg hm hk hb .nil pass0 ha hdb he hpl) hlen
end
/-! ### statements -/
def sSetF (i : Nat) (f : FE) : FS := fun r => (f r).map fun x => .nx (x.2.set i (some (.fre x.1)))
@[simp] theorem sSetF_r (i : Nat) (f : FE) (r : Ev) : sSetF i f r = (f r).map fun x => .nx (x.2.set i (some (.fre x.1))) := rfl
def sSetOF (i : Nat) (g : FA) : FS := fun r => (g r).map fun x => .nx (x.2.set i (some (.ownF x.1)))
@[simp] theorem sSetOF_r (i : Nat) (g : FA) (r : Ev) : sSetOF i g r = (g r).map fun x => .nx (x.2.set i (some (.ownF x.1))) := rfl
def sRetF (f : FE) : FS := fun r => (f r).map fun x => .rtN x.1 x.2
@[simp] theorem sRetF_r (f : FE) (r : Ev) : sRetF f r = (f r).map fun x => .rtN x.1 x.2 := rfl
@[simp] def frAt (i : Nat) (r : Ev) : Option (List D) := match r[i]? with
  | some (some (.ownF ds)) => some ds
  | _ => none
def sAppF (i : Nat) (f : FE) : FS := fun r => (frAt i r).bind fun _ => (f r).bind fun y => (frAt i y.2).bind fun z => if z.length < sizeLine then some (.nx (y.2.set i (some (.ownF (z ++ [y.1]))))) else none
@[simp] theorem sAppF_r (i : Nat) (f : FE) (r : Ev) : sAppF i f r = (frAt i r).bind fun _ => (f r).bind fun y => (frAt i y.2).bind fun z => if z.length < sizeLine then some (.nx (y.2.set i (some (.ownF (z ++ [y.1]))))) else none := rfl
def gNmF (i : Nat) : FG := fun d r => some (r.set i (some (.fre d)))
@[simp] theorem gNmF_r (i : Nat) (d : D) (r : Ev) : gNmF i d r = some (r.set i (some (.fre d))) := rfl
section
variable {K : PySem.W.Frag} {C : Ctx} {G H : Hp} {σ : L2.St} {r : Ev}
theorem Ok.setF (ok : Ok K C G H σ r) {i : Nat} {v : V} {d : D} (h : DpN K C.P G v d) : Ok K C G H (σ.set i (some v)) (r.set i (some (.fre d))) := ok.set (c := .fre d) h (fun z => by cases z)
theorem Ok.setOF (ok : Ok K C G H σ r) {i : Nat} {p : Addr} {vs : List V} {ds : List D} (n : New K C G H σ r p vs) (h : DpNAll K C.P G vs ds) : Ok K C G H (σ.set i (some (.ref p))) (r.set i (some (.ownF ds))) :=
  ok.set (c := .ownF ds) ⟨p, vs, rfl, ⟨n.1, n.2.1⟩, n.2.2.1, n.2.2.2.1, h⟩ fun _ j c' e o _ => n.2.2.2.2 j c' e o
theorem Ok.frAt {i : Nat} {ds : List D} (ok : Ok K C G H σ r) (h : frAt i r = some ds) : ∃ p vs, σ[i]? = some (some (.ref p)) ∧ G p = none ∧ H p = some (.lst vs) ∧ DpNAll K C.P G vs ds ∧
    ∀ vs' es, DpNAll K C.P G vs' es → Ok K C G (upd H p (.lst vs')) σ (r.set i (some (.ownF es))) := by
  unfold SL.frAt at h
  split at h
  · rename_i d0 e
    cases h
    obtain ⟨v, e1, p, vs, rfl, h1, h2, h3, h4⟩ := ok.cell i _ e
    exact ⟨p, vs, e1, h2, h3, h4, fun vs' es hd => ok.write e rfl e1 h2 h3 (.inl h1.1) ⟨p, vs', rfl, h1, h2, upd_same, hd⟩ rfl⟩
  · cases h
end
section
variable {X : Cx} {e a b : Expr} {es : List Expr} {f fa fb : FE} {g : FA} {pu p q : Bool} {pos pp : Pos} {x : Str} {F F' : FS}
theorem ss_setF {i : Nat} {px : Pos} (hN : X.N.Nodup) (hi : X.N[i]? = some x) (hx : Loc X.env.scope x) (he : SEN X p e f) (hf : X.fn x = true ∨ X.env.scope.names.lookup x = some .local := by first | exact .inl rfl | exact .inr rfl | assumption) (hs : swapsWith e (some (.Name x px)) pos.line X.env = pure false := by rfl) : SS X (.Assign [.Name x px] e pos) (sSetF i f) :=
  PS.weak (ps_set hN hi hx he hs hf) fun E σ H ⟨C, G, r, o, ok, hf, k⟩ => by
    unfold sSetF at hf
    obtain ⟨⟨d, r1⟩, h1, h2⟩ := Option.map_eq_some_iff.mp hf
    cases h2
    exact ⟨C, G, r, d, r1, ok, h1, fun v G' H' o' s m x => k _ G' H' (o'.setF x) s⟩
theorem ss_setOF {i : Nat} {px : Pos} (hN : X.N.Nodup) (hi : X.N[i]? = some x) (hx : Loc X.env.scope x) (he : SLN X p e g) (hf : X.fn x = true ∨ X.env.scope.names.lookup x = some .local := by first | exact .inl rfl | exact .inr rfl | assumption) (hs : swapsWith e (some (.Name x px)) pos.line X.env = pure false := by rfl) : SS X (.Assign [.Name x px] e pos) (sSetOF i g) :=
  PS.weak (ps_set hN hi hx he hs hf) fun E σ H ⟨C, G, r, o, ok, hf, k⟩ => by
    unfold sSetOF at hf
    obtain ⟨⟨d, r1⟩, h1, h2⟩ := Option.map_eq_some_iff.mp hf
    cases h2
    exact ⟨C, G, r, d, r1, ok, h1, fun l vs G' H' o' s m n x => k _ G' H' (o'.setOF n x) s⟩
theorem ss_retF (h : SEN X p e f) : SS X (.Return (some e) pos) (sRetF f) := PS.weak (ps_ret h) fun E σ H ⟨C, G, r, o, ok, hf, k⟩ => by
  unfold sRetF at hf
  obtain ⟨⟨d, r1⟩, h1, h2⟩ := Option.map_eq_some_iff.mp hf
  cases h2
  exact ⟨C, G, r, d, r1, ok, h1, fun v G' H' o' s m x => k v σ G' H' o' s x⟩
theorem ss_appF {i : Nat} {px pa : Pos} (hcall : PE X (.Call (.Attribute (.Name x px) "append" pa) [e] [] pp) (tBM X.K "list" rAppend (tVar i) (tCons (tEN X.K p f) tNil)))
    (hs : swapsWith (.Call (.Attribute (.Name x px) "append" pa) [e] [] pp) none pos.line X.env = pure false := by rfl) : SS X (.Expr (.Call (.Attribute (.Name x px) "append" pa) [e] [] pp) pos) (sAppF i f) :=
  PS.weak (ps_expr hcall hs) fun E σ H ⟨C, G, r, o, ok, hf, k⟩ => by
    unfold sAppF at hf
    obtain ⟨d0, h0, hf⟩ := Option.bind_eq_some_iff.mp hf
    obtain ⟨⟨d, r1⟩, h1, hf⟩ := Option.bind_eq_some_iff.mp hf
    obtain ⟨ds, h2, hf⟩ := Option.bind_eq_some_iff.mp hf
    split at hf
    · rename_i hz
      cases hf
      obtain ⟨l, vs, e1, _, e2, _, _⟩ := ok.frAt h0
      refine ⟨_, e1, .inl ⟨rfl, _, .inl (.inl e2)⟩, C, G, r, d, r1, ok, h1, fun v G1 H1 o1 s1 m1 x1 => ?_⟩
      obtain ⟨l', vs', e1', _, e2', e3', k'⟩ := o1.frAt h2
      rw [e1] at e1'
      cases e1'
      exact ⟨l, vs', v, rfl, rfl, e2', by rw [e3'.length]; exact hz, k σ G1 _ (k' _ _ (DpNAll.append e3' (.cons x1 .nil))) s1⟩
    · cases hf
/-- what is walked: items whose lists are all new -/
def TurnsN (K : PySem.W.Frag) (P : Hp) (J : It) (ds : List D) (G1 : Hp) : Prop := ∀ i G2 H2, Same G1 G2 → Same G2 H2 →
  (∀ d, ds[i]? = some d → J.go i H2 ∧ ∀ x H3, J.yld i H2 x H3 → Same H2 H3 ∧ ∃ G3, Same G2 G3 ∧ Same G3 H3 ∧ (∀ a o, G3 a = some o → G2 a = some o ∨ H2 a = none) ∧ DpN K P G3 x d) ∧ (ds.length ≤ i → J.stop i H2)
def tIN (K : PySem.W.Frag) (src : FA) : TI := fun σ H R => ∃ C G r ds r', Ok K C G H σ r ∧ src r = some (ds, r') ∧ ∀ J G' H', Ok K C G' H' σ r' → Same G G' → TurnsN K C.P J ds G' → R J H'
abbrev SIN (X : Cx) (tg iter : Expr) (src : FA) : Prop := PI X tg iter (tIN X.K src)
theorem turns_listN {K : PySem.W.Frag} {P G : Hp} {a : Addr} {vs : List V} {ds : List D} (h1 : SqL K G a vs) (h2 : DpNAll K P G vs ds) : TurnsN K P (Itl K a) ds G := fun i G2 H2 s1 s2 => by
  have q : SqL K H2 a vs := SqL.mono s2 (SqL.mono s1 h1)
  refine ⟨fun d e => ?_, fun h => ⟨vs, q, by rw [h2.length]; exact h⟩⟩
  obtain ⟨v, e1, dv⟩ := DpNAll.get h2 e
  refine ⟨⟨vs, v, q, e1⟩, fun x H3 ⟨eH, y⟩ => ?_⟩
  subst eH
  rw [y vs q] at e1
  cases e1
  exact ⟨Same.refl _, G2, Same.refl _, s2, fun a o z => .inl z, DpN.mono s1 dv⟩
@[simp] def seqL : D → Option (List D)
  | .list ds => some ds
  | _ => none
def iSeqN (f : FE) : FA := fun r => (f r).bind fun x => (seqL x.1).map fun ds => (ds, x.2)
@[simp] theorem iSeqN_r (f : FE) (r : Ev) : iSeqN f r = (f r).bind fun x => (seqL x.1).map fun ds => (ds, x.2) := rfl
theorem sin_seq {tg : Expr} (h : SEN X p e f) : SIN X tg e (iSeqN f) := PI.weak (pi_any h) fun σ H R ⟨C, G, r, ds, r', ok, hf, k⟩ => by
  unfold iSeqN at hf
  obtain ⟨⟨d, r1⟩, h1, h2⟩ := Option.bind_eq_some_iff.mp hf
  obtain ⟨ds', h3, h4⟩ := Option.map_eq_some_iff.mp h2
  cases h4
  refine ⟨C, G, r, d, _, ok, h1, fun v G1 H1 o1 s1 m1 x1 => ?_⟩
  cases x1 with
  | lst ha hb hc => cases h3; exact .inl ⟨_, rfl, ⟨_, .inl (.inl (o1.sub _ _ ha))⟩, k _ G1 H1 o1 s1 (turns_listN (.inl (.inl ha)) hc)⟩
  | tup ha hb => cases h3
  | non => cases h3
  | bl => cases h3
  | int => cases h3
  | str => cases h3
/-- a target that is a name -/
def tGN (K : PySem.W.Frag) (A : FG) (L : List Nat) : TG := fun v σ H Q => ∃ C G r d r', Ok K C G H σ r ∧ DpN K C.P G v d ∧ A d r = some r' ∧ ∀ σ', Ok K C G H σ' r' → Wp L σ σ' → Q σ' H
abbrev SGN (X : Cx) (tg : Expr) (A : FG) (L : List Nat) : Prop := PG X tg (tGN X.K A L)
theorem sgn_name {i : Nat} (hN : X.N.Nodup) (hi : X.N[i]? = some x) (hx : Loc X.env.scope x) (hf : X.fn x = true ∨ X.env.scope.names.lookup x = some .local := by first | exact .inl rfl | exact .inr rfl | assumption) : SGN X (.Name x pos) (gNmF i) [i] :=
  PG.weak (pg_name hN hi hx hf) fun v σ H Q ⟨C, G, r, d, r', ok, hd, hA, k⟩ => by
    cases hA
    exact k _ (ok.setF hd) fun vs h => wipe_set (h i List.mem_cons_self)
theorem sin_w {tg iter : Expr} {src : FA} (J : List Nat) (h : SIN X tg iter src) : SIN X tg iter (srcW J src) := PI.weak h fun σ H R ⟨C, G, r, ds, r', ok, hf, k⟩ => by
  unfold srcW at hf
  obtain ⟨⟨d, r1⟩, h1, h2⟩ := Option.map_eq_some_iff.mp hf
  cases h2
  exact ⟨C, G, r, _, r1, ok, h1, fun J' G' H' o s t => k J' G' H' (o.forget J) s t⟩
theorem ss_forF {tg iter : Expr} {body : List Stmt} {src : FA} {A : FG} {L : List Nat} (J : List Nat) (hp : PassesOwn (model X.prog X.w) X.A X.env X.xe) (hc : X.calm = true) (hi : SIN X tg iter src) (hg : SGN X tg A L) (hb : SSs X body F)
    (hs : ∀ x, foldedSetIterable iter X.env x = pure x := by intro _; rfl) : SS X (.For tg iter body [] pos) (sForW J src A F) := PS.weak (ps_for hp hc (sin_w J hi) hg (ss_w J hb) hs) fun E σ H ⟨C, G, r, o, ok, hf, k⟩ => by
  unfold sForW sFor at hf
  obtain ⟨⟨ds, r1⟩, h1, h2⟩ := Option.bind_eq_some_iff.mp hf
  refine ⟨C, G, r, ds, r1, ok, h1, fun J' G1 H1 o1 s1 tn => ?_⟩
  refine ⟨fun i m σ H => ∃ G' r', Ok X.K C G' H σ r' ∧ Same G1 G' ∧ m = ds.length - i ∧ i ≤ ds.length ∧ loopF A (sW J F) (ds.drop i) r' = some o, ⟨_, G1, r1, o1, Same.refl _, rfl, Nat.zero_le _, h2⟩, ?_⟩
  rintro i m σ H ⟨G', r', ok', sg, rfl, hi, hl⟩
  obtain ⟨go, stop⟩ := tn i G' H sg ok'.sub
  have km : OutOk X.K C G' E o := k.mono (s1.trans sg)
  by_cases hlt : i < ds.length
  · refine .inr ?_
    have e : ds.drop i = ds[i] :: ds.drop (i + 1) := List.drop_eq_getElem_cons hlt
    rw [e] at hl
    obtain ⟨g1, g2⟩ := go ds[i] (List.getElem?_eq_getElem hlt)
    refine ⟨g1, fun σ H => ∃ G' r', Ok X.K C G' H σ r' ∧ Same G1 G' ∧ loopF A (sW J F) (ds.drop (i + 1)) r' = some o, fun σ' H' ⟨G2, r2, a1, a2, a3⟩ => ⟨_, Nat.sub_lt_sub_left hlt (Nat.lt_succ_self i), G2, r2, a1, a2, rfl, hlt, a3⟩, fun x H3 y => ?_⟩
    obtain ⟨m3, G3, s3, s3', n3, dx⟩ := g2 x H3 y
    have ok3 : Ok X.K C G3 H3 σ r' := ok'.calm s3 m3 s3' n3
    obtain ⟨r2, h3, h4⟩ := Option.bind_eq_some_iff.mp (show (A ds[i] r').bind _ = some o from hl)
    refine ⟨C, G3, r', _, r2, ok3, dx, h3, fun σ2 ok4 _ => ?_⟩
    have sg3 := sg.trans s3
    cases hb : sW J F r2 with
    | none => rw [hb] at h4; cases h4
    | some o2 =>
      rw [hb] at h4
      refine ⟨C, G3, r2, o2, ok4, hb, ?_⟩
      cases o2 with
      | nx r3 => exact fun σ' G4 H4 ok5 s5 => ⟨G4, r3, ok5, sg3.trans s5, h4⟩
      | ct r3 => exact fun σ' G4 H4 ok5 s5 => ⟨G4, r3, ok5, sg3.trans s5, h4⟩
      | bk r3 => cases h4; exact OutOk.mono s3 km
      | rt d r3 => cases h4; exact OutOk.mono s3 km
      | rtO d r3 => cases h4; exact OutOk.mono s3 km
      | rtN d r3 => cases h4; exact OutOk.mono s3 km
  · have e : ds.length = i := by omega
    refine .inl ⟨stop (by omega), ?_⟩
    rw [← e, List.drop_length] at hl
    cases hl
    exact km σ G' H ok' (Same.refl _)
end
/-! ### comprehensions whose items are such values -/
theorem unP {K : PySem.W.Frag} {C : Ctx} {G : Hp} {p : Addr} {xs : List V} {v : V} {d : D} (hG : G p = none) (h : DpN K (C.hold p xs).P G v d) : DpN K C.P G v d := DpN.imp (Same.refl _) (fun a ha hn => by
  have hn' : upd C.P p (.lst xs) a = none := hn
  rw [upd_ne (fun z => by subst z; exact ha hG)] at hn'
  exact hn') h
theorem inP {K : PySem.W.Frag} {C : Ctx} {G : Hp} {p : Addr} {xs : List V} {v : V} {d : D} (hG : G p = none) (h : DpN K C.P G v d) : DpN K (C.hold p xs).P G v d := DpN.imp (Same.refl _) (fun a ha hn => by
  show upd C.P p (.lst xs) a = none
  rw [upd_ne (fun z => by subst z; exact ha hG)]
  exact hn) h
section
variable {X : Cx} {tg e elt iter : Expr} {ifs : List Expr} {scope : Scope} {own : List (Str × Nat)} {src : FA} {A : FG} {L : List Nat} {t : FT} {f : FE} {pos spos : Pos} {p : Bool}
/-- the reading of a comprehension -/
theorem t_lcN {vs : List Nat} (hL : ∀ i ∈ L, i ∈ vs) {σ : L2.St} {H : Hp} {Q : VK} (h : tLN X.K false (lLc src vs A t f) σ H Q) : tLc (tI X.K src) (tG X.K A L) (tT X.K false t) (tEN X.K false f) vs σ H Q := by
  obtain ⟨C, G, r, ds', r', ok, hf, k⟩ := h
  unfold lLc at hf
  obtain ⟨⟨ds, r0⟩, h1, h2⟩ := Option.bind_eq_some_iff.mp hf
  obtain ⟨⟨zs, rz⟩, h3, h4⟩ := Option.bind_eq_some_iff.mp h2
  split at h4
  · rename_i hz
    cases h4
    refine ⟨C, G, r, ds, r0, ok, h1, fun J G1 H1 o1 s1 tn => fun d hd => ?_⟩
    obtain ⟨oD, nD⟩ := o1.newList (vs := []) hd
    have f1 : C.P d = none := (o1.fresh hd).1
    have f2 : d ∉ C.M := (o1.fresh hd).2.1
    have f3 : C.G0 d = none := by
      cases q : C.G0 d with
      | none => rfl
      | some u => rw [o1.sub _ _ (o1.g0 _ _ q)] at hd; cases hd
    -- what holds between two turns
    refine ⟨fun i m H => ∃ G' r' acc us, Ok X.K (C.hold d us) G' H (wipe σ vs) (wipeE r' vs) ∧ Same G1 G' ∧ DpNAll X.K C.P G' us acc ∧ m = ds.length - i ∧ i ≤ ds.length ∧ ∃ ys, lcF vs A t f (ds.drop i) r' = some (ys, rz) ∧ acc ++ ys = zs,
      ⟨_, G1, r0, [], [], (oD.hold nD).wipe vs, Same.refl _, .nil, rfl, Nat.zero_le _, zs, h3, rfl⟩, ?_⟩
    rintro i m H ⟨G', r', acc, us, ok', sg, hu, rfl, hi, ys, hy, hz'⟩
    obtain ⟨go, stop⟩ := tn i G' H sg ok'.sub
    by_cases hlt : i < ds.length
    · refine .inr ?_
      have e : ds.drop i = ds[i] :: ds.drop (i + 1) := List.drop_eq_getElem_cons hlt
      rw [e] at hy
      obtain ⟨g1, g2⟩ := go ds[i] (List.getElem?_eq_getElem hlt)
      refine ⟨g1, fun H => ∃ G' r' acc us, Ok X.K (C.hold d us) G' H (wipe σ vs) (wipeE r' vs) ∧ Same G1 G' ∧ DpNAll X.K C.P G' us acc ∧ ∃ ys, lcF vs A t f (ds.drop (i + 1)) r' = some (ys, rz) ∧ acc ++ ys = zs, fun H' ⟨G2, r2, a, u, q1, q2, q3, q4⟩ => ⟨_, Nat.sub_lt_sub_left hlt (Nat.lt_succ_self i), G2, r2, a, u, q1, q2, q3, rfl, hlt, q4⟩, fun x H3 y => ?_⟩
      obtain ⟨m3, G3, s3, s3', n3, dx⟩ := g2 x H3 y
      have ok3 := ok'.calm s3 m3 s3' n3
      obtain ⟨r2, h5, h6⟩ := Option.bind_eq_some_iff.mp (show (A ds[i] (wipeE r' vs)).bind _ = some (ys, rz) from hy)
      obtain ⟨⟨b, r3⟩, h7, h8⟩ := Option.bind_eq_some_iff.mp h6
      refine ⟨_, G3, _, _, r2, ok3, dx, h5, fun σ2 ok4 w4 => ?_⟩
      have wv : wipe σ2 vs = wipe σ vs := by
        rw [w4 vs hL]
        have : ∀ (ws : List Nat), (∀ i ∈ ws, i ∈ vs) → wipe (wipe σ ws) vs = wipe σ vs := by
          intro ws
          induction ws with
          | nil => intro _; rfl
          | cons j js ih =>
            intro hj
            show wipe ((wipe σ js).set j none) vs = _
            rw [wipe_set (hj j List.mem_cons_self), ih fun i hi => hj i (List.mem_cons_of_mem _ hi)]
        exact this vs fun i hi => hi
      refine ⟨wv, _, G3, r2, b, r3, ok4, h7, fun G5 H5 ok5 s5 _ => ?_⟩
      cases b with
      | false =>
        rw [if_neg Bool.false_ne_true] at h8 ⊢
        have w5 := ok5.wipe vs
        rw [wv] at w5
        exact ⟨G5, r3, acc, us, w5, (sg.trans s3).trans s5, DpNAll.mono (s3.trans s5) hu, ys, h8, hz'⟩
      | true =>
        rw [if_pos rfl] at h8 ⊢
        obtain ⟨⟨y1, r4⟩, h9, h10⟩ := Option.bind_eq_some_iff.mp h8
        obtain ⟨⟨ys2, rz2⟩, h11, h12⟩ := Option.map_eq_some_iff.mp h10
        cases h12
        refine ⟨_, G5, r3, y1, r4, ok5, h9, fun v G6 H6 ok6 s6 _ x6 => ?_⟩
        obtain ⟨ok7, n7⟩ := ok6.unhold f1 f2 f3
        have hl : us.length < sizeLine := by
          rw [hu.length]
          have : acc.length ≤ zs.length := by rw [← hz', List.length_append]; omega
          exact Nat.lt_of_le_of_lt this hz
        refine ⟨us, n7.2.2.2.1, hl, ?_⟩
        obtain ⟨ok8, n8⟩ := n7.grow ok7 (ys := us ++ [v])
        have w9 := (ok8.hold n8).wipe vs
        rw [wv] at w9
        refine ⟨G6, r4, acc ++ [y1], us ++ [v], w9, ((sg.trans s3).trans s5).trans s6, DpNAll.append (DpNAll.mono ((s3.trans s5).trans s6) hu) (.cons (unP n7.2.2.1 x6) .nil), ys2, h11, ?_⟩
        rw [List.append_assoc]
        exact hz'
    · have e : ds.length = i := by omega
      refine .inl ⟨stop (by omega), ?_⟩
      rw [← e, List.drop_length] at hy
      cases hy
      rw [List.append_nil] at hz'
      subst hz'
      obtain ⟨ok7, n7⟩ := ok'.unhold f1 f2 f3
      have ok8 := Ok.back0 o1 sg ok7
      refine k d us G' H ok8 (s1.trans sg) (fun m => by cases m) ⟨f1, f2, n7.2.2.1, n7.2.2.2.1, fun j c e o z => ?_⟩ hu
      have : (C.hold d us).P d = some (.lst us) := upd_same
      obtain ⟨v, e1, hc⟩ := ok8.cell j c e
      rw [e1] at z; cases z
      have hj : j ∉ vs := fun hj => by
        rcases backE_some e with ⟨a, b⟩ | ⟨a, b, _⟩
        · exact a hj
        · rw [o] at b; cases b
      rcases backE_some e with ⟨a, b⟩ | ⟨a, _⟩
      · exact n7.2.2.2.2 j c b o (by rw [wipe_off hj]; exact e1)
      · exact hj a
  · cases h4
/-- the reading of a comprehension -/
theorem t_lcNN {vs : List Nat} (hL : ∀ i ∈ L, i ∈ vs) {σ : L2.St} {H : Hp} {Q : VK} (h : tLN X.K false (lLc src vs A t f) σ H Q) : tLc (tIN X.K src) (tGN X.K A L) (tT X.K false t) (tEN X.K false f) vs σ H Q := by
  obtain ⟨C, G, r, ds', r', ok, hf, k⟩ := h
  unfold lLc at hf
  obtain ⟨⟨ds, r0⟩, h1, h2⟩ := Option.bind_eq_some_iff.mp hf
  obtain ⟨⟨zs, rz⟩, h3, h4⟩ := Option.bind_eq_some_iff.mp h2
  split at h4
  · rename_i hz
    cases h4
    refine ⟨C, G, r, ds, r0, ok, h1, fun J G1 H1 o1 s1 tn => fun d hd => ?_⟩
    obtain ⟨oD, nD⟩ := o1.newList (vs := []) hd
    have f1 : C.P d = none := (o1.fresh hd).1
    have f2 : d ∉ C.M := (o1.fresh hd).2.1
    have f3 : C.G0 d = none := by
      cases q : C.G0 d with
      | none => rfl
      | some u => rw [o1.sub _ _ (o1.g0 _ _ q)] at hd; cases hd
    -- what holds between two turns
    refine ⟨fun i m H => ∃ G' r' acc us, Ok X.K (C.hold d us) G' H (wipe σ vs) (wipeE r' vs) ∧ Same G1 G' ∧ DpNAll X.K C.P G' us acc ∧ m = ds.length - i ∧ i ≤ ds.length ∧ ∃ ys, lcF vs A t f (ds.drop i) r' = some (ys, rz) ∧ acc ++ ys = zs,
      ⟨_, G1, r0, [], [], (oD.hold nD).wipe vs, Same.refl _, .nil, rfl, Nat.zero_le _, zs, h3, rfl⟩, ?_⟩
    rintro i m H ⟨G', r', acc, us, ok', sg, hu, rfl, hi, ys, hy, hz'⟩
    obtain ⟨go, stop⟩ := tn i G' H sg ok'.sub
    by_cases hlt : i < ds.length
    · refine .inr ?_
      have e : ds.drop i = ds[i] :: ds.drop (i + 1) := List.drop_eq_getElem_cons hlt
      rw [e] at hy
      obtain ⟨g1, g2⟩ := go ds[i] (List.getElem?_eq_getElem hlt)
      refine ⟨g1, fun H => ∃ G' r' acc us, Ok X.K (C.hold d us) G' H (wipe σ vs) (wipeE r' vs) ∧ Same G1 G' ∧ DpNAll X.K C.P G' us acc ∧ ∃ ys, lcF vs A t f (ds.drop (i + 1)) r' = some (ys, rz) ∧ acc ++ ys = zs, fun H' ⟨G2, r2, a, u, q1, q2, q3, q4⟩ => ⟨_, Nat.sub_lt_sub_left hlt (Nat.lt_succ_self i), G2, r2, a, u, q1, q2, q3, rfl, hlt, q4⟩, fun x H3 y => ?_⟩
      obtain ⟨m3, G3, s3, s3', n3, dx⟩ := g2 x H3 y
      have ok3 := ok'.calm s3 m3 s3' n3
      obtain ⟨r2, h5, h6⟩ := Option.bind_eq_some_iff.mp (show (A ds[i] (wipeE r' vs)).bind _ = some (ys, rz) from hy)
      obtain ⟨⟨b, r3⟩, h7, h8⟩ := Option.bind_eq_some_iff.mp h6
      refine ⟨_, G3, _, _, r2, ok3, inP (ok3.unhold f1 f2 f3).2.2.2.1 dx, h5, fun σ2 ok4 w4 => ?_⟩
      have wv : wipe σ2 vs = wipe σ vs := by
        rw [w4 vs hL]
        have : ∀ (ws : List Nat), (∀ i ∈ ws, i ∈ vs) → wipe (wipe σ ws) vs = wipe σ vs := by
          intro ws
          induction ws with
          | nil => intro _; rfl
          | cons j js ih =>
            intro hj
            show wipe ((wipe σ js).set j none) vs = _
            rw [wipe_set (hj j List.mem_cons_self), ih fun i hi => hj i (List.mem_cons_of_mem _ hi)]
        exact this vs fun i hi => hi
      refine ⟨wv, _, G3, r2, b, r3, ok4, h7, fun G5 H5 ok5 s5 _ => ?_⟩
      cases b with
      | false =>
        rw [if_neg Bool.false_ne_true] at h8 ⊢
        have w5 := ok5.wipe vs
        rw [wv] at w5
        exact ⟨G5, r3, acc, us, w5, (sg.trans s3).trans s5, DpNAll.mono (s3.trans s5) hu, ys, h8, hz'⟩
      | true =>
        rw [if_pos rfl] at h8 ⊢
        obtain ⟨⟨y1, r4⟩, h9, h10⟩ := Option.bind_eq_some_iff.mp h8
        obtain ⟨⟨ys2, rz2⟩, h11, h12⟩ := Option.map_eq_some_iff.mp h10
        cases h12
        refine ⟨_, G5, r3, y1, r4, ok5, h9, fun v G6 H6 ok6 s6 _ x6 => ?_⟩
        obtain ⟨ok7, n7⟩ := ok6.unhold f1 f2 f3
        have hl : us.length < sizeLine := by
          rw [hu.length]
          have : acc.length ≤ zs.length := by rw [← hz', List.length_append]; omega
          exact Nat.lt_of_le_of_lt this hz
        refine ⟨us, n7.2.2.2.1, hl, ?_⟩
        obtain ⟨ok8, n8⟩ := n7.grow ok7 (ys := us ++ [v])
        have w9 := (ok8.hold n8).wipe vs
        rw [wv] at w9
        refine ⟨G6, r4, acc ++ [y1], us ++ [v], w9, ((sg.trans s3).trans s5).trans s6, DpNAll.append (DpNAll.mono ((s3.trans s5).trans s6) hu) (.cons (unP n7.2.2.1 x6) .nil), ys2, h11, ?_⟩
        rw [List.append_assoc]
        exact hz'
    · have e : ds.length = i := by omega
      refine .inl ⟨stop (by omega), ?_⟩
      rw [← e, List.drop_length] at hy
      cases hy
      rw [List.append_nil] at hz'
      subst hz'
      obtain ⟨ok7, n7⟩ := ok'.unhold f1 f2 f3
      have ok8 := Ok.back0 o1 sg ok7
      refine k d us G' H ok8 (s1.trans sg) (fun m => by cases m) ⟨f1, f2, n7.2.2.1, n7.2.2.2.1, fun j c e o z => ?_⟩ hu
      have : (C.hold d us).P d = some (.lst us) := upd_same
      obtain ⟨v, e1, hc⟩ := ok8.cell j c e
      rw [e1] at z; cases z
      have hj : j ∉ vs := fun hj => by
        rcases backE_some e with ⟨a, b⟩ | ⟨a, b, _⟩
        · exact a hj
        · rw [o] at b; cases b
      rcases backE_some e with ⟨a, b⟩ | ⟨a, _⟩
      · exact n7.2.2.2.2 j c b o (by rw [wipe_off hj]; exact e1)
      · exact hj a
  · cases h4
theorem sln_lc (pl : Pl X) (hi : SI X tg iter src) (ok : BlkOk X.N X.env.scope scope own) (hL : ∀ i ∈ L, i ∈ own.map (·.2))
    (hg : ∀ (s : Shared) (H : Hp) (C : Addr) (cl : List (Str × Addr)) (fp : List Addr), Pl (X.blk s H scope (compEnvC scope cl C X.env) fp) → SG (X.blk s H scope (compEnvC scope cl C X.env) fp) tg A L) (ht : ∀ (s : Shared) (H : Hp) (C : Addr) (cl : List (Str × Addr)) (fp : List Addr), Pl (X.blk s H scope (compEnvC scope cl C X.env) fp) → STs (X.blk s H scope (compEnvC scope cl C X.env) fp) ifs t)
    (he : ∀ (s : Shared) (H : Hp) (C : Addr) (cl : List (Str × Addr)) (fp : List Addr), Pl (X.blk s H scope (compEnvC scope cl C X.env) fp) → SEN (X.blk s H scope (compEnvC scope cl C X.env) fp) false elt f) (hs : ∀ x, foldedSetIterable iter X.env x = pure x := by intro _; rfl) :
    SLN X false (.ListComp elt [⟨tg, iter, ifs, 0⟩] scope pos) (lLc src (own.map (·.2)) A t f) := PE.weak (pe_lc pl.calm pl.nd hi ok (fun s H C cl fp => hg s H C cl fp pl.blk) (fun s H C cl fp => ht s H C cl fp pl.blk) (fun s H C cl fp => he s H C cl fp pl.blk) hs) fun σ H Q h => t_lcN hL h
theorem sln_lcN (pl : Pl X) (hi : SIN X tg iter src) (ok : BlkOk X.N X.env.scope scope own) (hL : ∀ i ∈ L, i ∈ own.map (·.2))
    (hg : ∀ (s : Shared) (H : Hp) (C : Addr) (cl : List (Str × Addr)) (fp : List Addr), Pl (X.blk s H scope (compEnvC scope cl C X.env) fp) → SGN (X.blk s H scope (compEnvC scope cl C X.env) fp) tg A L) (ht : ∀ (s : Shared) (H : Hp) (C : Addr) (cl : List (Str × Addr)) (fp : List Addr), Pl (X.blk s H scope (compEnvC scope cl C X.env) fp) → STs (X.blk s H scope (compEnvC scope cl C X.env) fp) ifs t)
    (he : ∀ (s : Shared) (H : Hp) (C : Addr) (cl : List (Str × Addr)) (fp : List Addr), Pl (X.blk s H scope (compEnvC scope cl C X.env) fp) → SEN (X.blk s H scope (compEnvC scope cl C X.env) fp) false elt f) (hs : ∀ x, foldedSetIterable iter X.env x = pure x := by intro _; rfl) :
    SLN X false (.ListComp elt [⟨tg, iter, ifs, 0⟩] scope pos) (lLc src (own.map (·.2)) A t f) := PE.weak (pe_lc pl.calm pl.nd hi ok (fun s H C cl fp => hg s H C cl fp pl.blk) (fun s H C cl fp => ht s H C cl fp pl.blk) (fun s H C cl fp => he s H C cl fp pl.blk) hs) fun σ H Q h => t_lcNN hL h
theorem ss_lcF {i : Nat} {y : Str} {py : Pos} (pl : Pl X) (hy : X.N[i]? = some y) (hyl : X.env.scope.names.lookup y = some .local) (hsw : swapsWith (.ListComp elt [⟨tg, iter, ifs, 0⟩] scope pos) (some (.Name y py)) spos.line X.env = pure true) (hi : SI X tg iter src) (ok : BlkOk X.N X.env.scope scope own) (hL : ∀ i ∈ L, i ∈ own.map (·.2))
    (hg : ∀ (s : Shared) (H : Hp) (C : Addr) (cl : List (Str × Addr)) (fp : List Addr), Pl (X.blk s H scope (compEnvC scope cl C X.env) fp) → SG (X.blk s H scope (compEnvC scope cl C X.env) fp) tg A L) (ht : ∀ (s : Shared) (H : Hp) (C : Addr) (cl : List (Str × Addr)) (fp : List Addr), Pl (X.blk s H scope (compEnvC scope cl C X.env) fp) → STs (X.blk s H scope (compEnvC scope cl C X.env) fp) ifs t)
    (he : ∀ (s : Shared) (H : Hp) (C : Addr) (cl : List (Str × Addr)) (fp : List Addr), Pl (X.blk s H scope (compEnvC scope cl C X.env) fp) → SEN (X.blk s H scope (compEnvC scope cl C X.env) fp) false elt f) (hs : ∀ x, foldedSetIterable iter X.env x = pure x := by intro _; rfl) :
    SS X (.Assign [.Name y py] (.ListComp elt [⟨tg, iter, ifs, 0⟩] scope pos) spos) (sSetF i (fL (lLc src (own.map (·.2)) A t f))) := PS.weak (ps_setLc pl.calm pl.nd hy hyl hsw hi ok (fun s H C cl fp => hg s H C cl fp pl.blk) (fun s H C cl fp => ht s H C cl fp pl.blk) (fun s H C cl fp => he s H C cl fp pl.blk) hs) fun E σ H ⟨C, G, r, o, okk, hf, k⟩ => by
  unfold sSetF fL at hf
  obtain ⟨⟨d, r1⟩, h1, h2⟩ := Option.map_eq_some_iff.mp hf
  cases h2
  obtain ⟨⟨ds, r2⟩, h3, h4⟩ := Option.map_eq_some_iff.mp h1
  cases h4
  exact t_lcN hL ⟨C, G, r, ds, _, okk, h3, fun l vs G' H' o' s m n x => k _ (upd G' l (.lst vs)) H' ((n.freeze o').setF (.lst upd_same n.1 (DpNAll.mono (same_laid n.2.2.1) x))) (s.trans (same_laid n.2.2.1))⟩
end
/-! ### sorted -/
def rSortN (K : PySem.W.Frag) (P : Hp) : List V → Hp → VK → Prop := fun xs H Q => ∃ p ys ds G, xs = [.ref p] ∧ SqL K H p ys ∧ Same G H ∧ DpNAll K P G ys ds ∧ okSort ds = true ∧ ∀ l zs, H l = none → DpNAll K P G zs (srt ds) → Q (.ref l) (upd H l (.lst zs))
theorem each_dpN {K : PySem.W.Frag} {P G : Hp} : ∀ {ys : List V} {ds : List D} {us : List Value}, DpNAll K P G ys ds → Vals ys us → W.EachIs (fun v d => ∃ x, RelV x v ∧ DpN K P G x d) us ds
  | _, _, _, .nil, .nil => .nil
  | _, _, _, .cons h t, .cons r rs => .cons ⟨_, r, h⟩ (each_dpN t rs)
theorem dpN_each {K : PySem.W.Frag} {P G : Hp} : ∀ {ds : List D} {us : List Value}, W.EachIs (fun v d => ∃ x, RelV x v ∧ DpN K P G x d) us ds → ∃ zs, DpNAll K P G zs ds ∧ Vals zs us
  | _, _, .nil => ⟨[], .nil, .nil⟩
  | _, _, .cons ⟨x, r, h⟩ t => by
    obtain ⟨zs, h1, h2⟩ := dpN_each t
    exact ⟨x :: zs, .cons h h1, .cons r h2⟩
section
variable {X : Cx} {a : Expr} {fa : FE} {p : Bool} {pp pos : Pos} {x : Str}
theorem cr_sortN (pl : Pl X) {P : Hp} : CallR X (.builtin "sorted") (rSortN X.K P) := by
  intro pins s σ H vs us Q I r h
  obtain ⟨a, ys, ds, G, rfl, hs, sg, hd, ho, q⟩ := h
  obtain ⟨oa, os, oz, od⟩ := okSort_iff.mp ho
  rw [Vals.ref1 r]
  have hun := pl.units
  have fin : ∀ its : List Value, Vals ys its → ∀ out : List Value, out.length = ds.length → W.EachIs (fun v d => ∃ x, RelV x v ∧ DpN X.K P G x d) out (ds.mergeSort (W.dataLe false id)) → (EP X pins σ Q) (.ref (s.heap.objs.size + 1)) { s with heap := sortedAll s.heap its (List.toArray out) } := fun its rv out ol eo => by
    obtain ⟨zs, h1, h2⟩ := dpN_each eo
    obtain ⟨ep, he'⟩ := PyProof.Rows.sortedAll_at s.heap its out.toArray
    have hlen : zs.length ≤ sizeLine := by rw [Vals.length h2, ol]; exact oz
    exact ⟨.ref _, upd H (s.heap.objs.size + 1) (.lst zs), I.laid (t' := s.toks) (fun _ _ => PyProof.Rows.sortedAll_old) (Nat.le_succ _) ⟨hlen, out, ep, h2, he'⟩, rfl, q _ _ (I.hok.fresh (Nat.le_succ _)) h1⟩
  have er : ∀ its : List Value, Vals ys its → W.EachIs (fun v b => ∃ as, Reads s.heap v (id b) as) its ds := fun its rv => by
    have go : ∀ (ys : List V) (ds : List D) (its : List Value), DpAll X.K G ys ds → Vals ys its → (∀ d ∈ ds, W.alike d d = true) → W.EachIs (fun v b => ∃ as, Reads s.heap v (id b) as) its ds := by
      intro ys ds its hd rv
      induction rv generalizing ds with
      | nil => cases hd; exact fun _ => .nil
      | cons r1 _ ih =>
        cases hd with
        | cons hh tt =>
          intro ha
          refine .cons ?_ (ih _ tt fun d hd => ha d (List.mem_cons_of_mem _ hd))
          exact L2.Dp.reads I _ _ _ ((Dp.mono sg hh).toL (alike_nd _ (ha _ (List.mem_cons_self ..)))) r1
    exact go ys ds its hd.dp rv fun d hd => oa d hd d hd
  have oa' : W.AllAlike (ds.map id) := by rw [List.map_id]; exact oa
  have os' : W.Sortable (ds.map id) := by rw [List.map_id]; exact os
  have hu : ∀ b, b ∈ ds → X.A.units + 2 + (id b : PyData).depth < cLine := fun b hb => by
    have := od b hb
    show X.A.units + 2 + b.depth < cLine
    omega
  obtain ⟨its, rv, hl, hz⟩ := I.list hs
  exact W.sorted_data hl.isList (each_dpN hd rv) (er its rv) oa' os' oz hu (fin its rv)
@[simp] def sortL : D → Option (List D)
  | .list ds => if okSort ds = true then some (srt ds) else none
  | _ => none
theorem sln_sorted (pl : Pl X) (hg : Gl X "sorted") (hm : X.mg "sorted" = none) (ha : SEN X p a fa)
    (he : starEach [a] X.env = (false, eval a X.env) :: starEach [] X.env := by rfl) (hpl : (backTo pos (starEach [] X.env)).any (·.1) = false := by rfl) : SLN X p (.Call (.Name "sorted" pp) [a] [] pos) (l1 sortL fa) :=
  ⟨fun pins s σ H Q I ⟨C, G, r0, d, r', ok, hf, k⟩ => by
    refine (pe_callB (cr_sortN pl (P := C.P)) hg hm (by decide +kernel) (pa_cons ha pa_nil he) (by decide) (by decide) he hpl).run pins s σ H Q I ?_
    unfold l1 at hf
    obtain ⟨⟨x, r1⟩, h1, h2⟩ := Option.bind_eq_some_iff.mp hf
    obtain ⟨z, h3, h4⟩ := Option.map_eq_some_iff.mp h2
    cases h4
    refine ⟨C, G, r0, x, r1, ok, h1, fun v G1 H1 ok1 s1 m1 x1 => ?_⟩
    cases x1 with
    | lst a1 b1 c1 =>
      rename_i av vs ds
      have h3' : (if okSort ds = true then some (srt ds) else none) = some d := h3
      split at h3'
      · rename_i ho
        cases h3'
        refine ⟨_, _, _, G1, rfl, .inl (.inl (ok1.sub _ _ a1)), ok1.sub, c1, ho, fun l zs hl hz => ?_⟩
        obtain ⟨o4, n4⟩ := ok1.newList (vs := zs) hl
        exact k l zs G1 _ o4 s1 (fun m => (m1 m).trans (same_laid hl)) n4 hz
      · cases h3'
    | tup => cases h3
    | non => cases h3
    | bl => cases h3
    | int => cases h3
    | str => cases h3⟩
end
/-- xs, k = [..], c -/
def sParOF (i j : Nat) (g : FA) (c : Int) : FS := fun r => (g r).map fun x => .nx ((x.2.set i (some (.ownF x.1))).set j (some (.val (.int c))))
@[simp] theorem sParOF_r (i j : Nat) (g : FA) (c : Int) (r : Ev) : sParOF i j g c r = (g r).map fun x => .nx ((x.2.set i (some (.ownF x.1))).set j (some (.val (.int c)))) := rfl
theorem ss_parOF {X : Cx} {i j : Nat} {x y : Str} {a : Expr} {c : Int} {tc : _} {g : FA} {p : Bool} {px py pt pos pc : Pos} {kt : _} {k2 : _} {pt2 : Pos} (pl : Pl X) (hi : X.N[i]? = some x) (hj : X.N[j]? = some y) (hij : i ≠ j)
    (hx : X.env.scope.names.lookup x = some .local) (hy : X.env.scope.names.lookup y = some .local) (ha : SLN X p a g) (na : starEach [a, .Constant (.int c) tc pc] X.env = (false, eval a X.env) :: starEach [.Constant (.int c) tc pc] X.env := by rfl) (nb : starEach [.Constant (.int c) tc pc] X.env = (false, eval (.Constant (.int c) tc pc) X.env) :: starEach [] X.env := by rfl)
    (hw : swappedStores [.Tuple [.Name x px, .Name y py] kt pt] (.Tuple [a, .Constant (.int c) tc pc] k2 pt2) X.env = pure (some [x, y]))
    (hs : swapsWithSole [.Tuple [.Name x px, .Name y py] kt pt] (.Tuple [a, .Constant (.int c) tc pc] k2 pt2) pos.line X.env = pure false := by rfl) :
    SS X (.Assign [.Tuple [.Name x px, .Name y py] kt pt] (.Tuple [a, .Constant (.int c) tc pc] k2 pt2) pos) (sParOF i j g c) :=
  PS.weak (ps_par pl.calm pl.nd hi hj hij hx hy (pa_cons ha (pa_cons pe_int pa_nil nb) na) hw hs) fun E σ H ⟨C, G, r, o, ok, hf, k⟩ => by
    unfold sParOF at hf
    obtain ⟨⟨d, r1⟩, h1, h2⟩ := Option.map_eq_some_iff.mp hf
    cases h2
    exact ⟨C, G, r, d, r1, ok, h1, fun q vs G' H' o' s m n xs => ⟨_, _, rfl, k _ G' H' ((o'.setOF n xs).setV (.int c)) s⟩⟩
end SL
/-! A value whose lists are all new is looked at, and its lists are changed; then nothing of it is used any more. -/
namespace SL
open PySem PySem.Spec PyProof.Rows L2
/-- all is known -/
def toV : Option Cell → Option Cell
  | some (.val d) => some (.val d)
  | some (.own ds) => some (.val (.list ds))
  | some (.loan _ ds) => some (.val (.list ds))
  | some (.ownD kds) => some (.val (.dict kds))
  | some (.fre d) => some (.val d)
  | some (.ownF ds) => some (.val (.list ds))
  | _ => none
@[simp] theorem toV_none : toV none = none := rfl
@[simp] theorem toV_val (d : D) : toV (some (.val d)) = some (.val d) := rfl
@[simp] theorem toV_own (d : List D) : toV (some (.own d)) = some (.val (.list d)) := rfl
@[simp] theorem toV_loan (k : Nat) (d : List D) : toV (some (.loan k d)) = some (.val (.list d)) := rfl
@[simp] theorem toV_ownD (d : List (D × D)) : toV (some (.ownD d)) = some (.val (.dict d)) := rfl
@[simp] theorem toV_fre (d : D) : toV (some (.fre d)) = some (.val d) := rfl
@[simp] theorem toV_ownF (d : List D) : toV (some (.ownF d)) = some (.val (.list d)) := rfl
@[simp] theorem toV_tag (n : Nat) : toV (some (.tag n)) = none := rfl
def allV (r : Ev) : Ev := r.map toV
@[simp] theorem allV_nil : allV [] = [] := rfl
@[simp] theorem allV_cons (c : Option Cell) (r : Ev) : allV (c :: r) = toV c :: allV r := rfl
section
variable {K : PySem.W.Frag} {C : Ctx} {G H H0 G1 G' H' : Hp} {σ σ' : L2.St} {r r' : Ev}
def ctx0 (H0 : Hp) : Ctx := { P := H0, G0 := H0, M := [] }
theorem toV_some {c : Option Cell} {c' : Cell} (h : toV c = some c') : ∃ d, c' = .val d := by
  cases c with
  | none => cases h
  | some c => cases c <;> first | (cases h; exact ⟨_, rfl⟩) | cases h
theorem Ok.all (ok : Ok K C G H σ r) : Ok K (ctx0 H) H H σ (allV r) where
  sub := Same.refl _
  g0 := Same.refl _
  gnew := fun a o e => .inl e
  prot := fun a o e _ => e
  mreal := fun a hm => by cases hm
  len := by unfold allV; rw [List.length_map]; exact ok.len
  cell := fun i c' e => by
    unfold allV at e
    rw [List.getElem?_map] at e
    obtain ⟨c, e1, e2⟩ := Option.map_eq_some_iff.mp e
    cases c with
    | none => cases e2
    | some c =>
      obtain ⟨v, e3, h⟩ := ok.cell i c e1
      refine ⟨v, e3, ?_⟩
      cases c with
      | val d => cases e2; exact Dp.mono ok.sub h
      | own ds =>
        cases e2
        obtain ⟨p, vs, rfl, h1, h2, h3, h4⟩ := h
        exact Dp.lst (.inl (.inl h3)) (DpAll.mono ok.sub h4)
      | loan k ds =>
        cases e2
        obtain ⟨p, vs, rfl, h1, h2, h3, h4⟩ := h
        exact Dp.lst (.inl (.inl h3)) (DpAll.mono ok.sub h4)
      | ownD kds =>
        cases e2
        obtain ⟨p, o, ks, rfl, h1, h2, h3, h4⟩ := h
        exact Dp.dic h3 (DpKs.mono ok.sub h4)
      | tag n => cases e2
      | fre d => cases e2; exact Dp.mono ok.sub (DpN.dp h)
      | ownF ds =>
        cases e2
        obtain ⟨p, vs, rfl, h1, h2, h3, h4⟩ := h
        exact Dp.lst (.inl (.inl h3)) (DpAll.mono ok.sub h4.dp)
  dis := fun i j c c' e1 _ o1 _ => by
    unfold allV at e1
    rw [List.getElem?_map] at e1
    obtain ⟨c0, _, e2⟩ := Option.map_eq_some_iff.mp e1
    obtain ⟨d, rfl⟩ := toV_some e2
    cases o1
/-- the slots' reading is taken up again -/
theorem Ok.again (ok : Ok K C G H σ r) (no : ∀ (i : Nat) (c : Cell), r[i]? = some (some c) → c.isOwn = false ∧ ∀ n, c ≠ .tag n) (ok' : Ok K C G' H' σ r') (s : Same G G') : Ok K C G' H' σ r where
  sub := ok'.sub
  g0 := ok'.g0
  gnew := ok'.gnew
  prot := ok'.prot
  mreal := ok'.mreal
  len := ok.len
  cell := fun i c e => by
    obtain ⟨v, e1, h⟩ := ok.cell i c e
    refine ⟨v, e1, ?_⟩
    obtain ⟨n1, n2⟩ := no i c e
    cases c with
    | val d => exact Dp.mono s h
    | fre d => exact DpN.mono s h
    | own => cases n1
    | loan => cases n1
    | ownD => cases n1
    | ownF => cases n1
    | tag n => exact absurd rfl (n2 n)
  dis := fun i j c c' e1 _ o1 _ => by rw [(no i c e1).1] at o1; cases o1
theorem allV_no (r : Ev) (i : Nat) (d : D) : ∀ (j : Nat) (c : Cell), ((allV r).set i (some (.fre d)))[j]? = some (some c) → c.isOwn = false ∧ ∀ n, c ≠ .tag n := fun j c e => by
  by_cases hj : j = i
  · subst hj
    have hlt : j < (allV r).length := by
      have := (List.getElem?_eq_some_iff.mp e).1
      rwa [List.length_set] at this
    rw [List.getElem?_set_self hlt] at e
    cases e
    exact ⟨rfl, fun n z => by cases z⟩
  · rw [List.getElem?_set_ne (Ne.symm hj)] at e
    unfold allV at e
    rw [List.getElem?_map] at e
    obtain ⟨c0, _, e2⟩ := Option.map_eq_some_iff.mp e
    obtain ⟨d', rfl⟩ := toV_some e2
    exact ⟨rfl, fun n z => by cases z⟩
theorem wipeE_none {J : List Nat} {j : Nat} {c : Cell} (h : (wipeE r J)[j]? = some (some c)) : r[j]? = some (some c) ∧ j ∉ J := wipeE_some h
/-- the end: what stood stands, but for the slots J -/
theorem Ok.out (ok : Ok K C G H0 σ r) (m : Same H0 H) (J : List Nat) (hl : σ'.length = σ.length) (hs : ∀ j, j ∉ J → σ'[j]? = σ[j]?) : Ok K C G H σ' (wipeE r J) := by
  have o1 : Ok K C G H σ r := ok.calm (Same.refl _) m (fun a o e => m _ _ (ok.sub _ _ e)) fun a o e => .inl e
  refine o1.slots (by rw [wipeE_length, hl]; exact ok.len) fun i c e => .inl ?_
  obtain ⟨a, b⟩ := wipeE_some e
  exact ⟨a, hs i b⟩
end
/-! ### the reading -/
/-- what follows the making: from the slots as they were, and the value -/
abbrev RT := Ev → D → Option Out
def sReg (i : Nat) (f : FE) (T : RT) : FS := fun r => (f (allV r)).bind fun x => T r x.1
@[simp] theorem sReg_r (i : Nat) (f : FE) (T : RT) (r : Ev) : sReg i f T r = (f (allV r)).bind fun x => T r x.1 := rfl
/-- nothing is changed yet -/
def tReg (K : PySem.W.Frag) (i : Nat) (T : RT) : TS := fun E σ H => ∃ C G r d v H0 σ0 G1 o, Ok K C G H0 σ0 r ∧ Ok K (ctx0 H0) G1 H σ ((allV r).set i (some (.fre d))) ∧ σ = σ0.set i (some v) ∧ i < σ0.length ∧ DpN K H0 G1 v d ∧ T r d = some o ∧ OutOk K C G E o
/-- how the lists stand behind some changes -/
structure Dty (K : PySem.W.Frag) (H0 G1 H : Hp) (n : Nat) : Prop where
  old : Same H0 H
  lst : ∀ a vs, G1 a = some (.lst vs) → H0 a = none → ∃ ex, H a = some (.lst (vs ++ ex)) ∧ ex.length ≤ n
  tup : ∀ a xs, SqT K G1 a xs → SqT K H a xs
/-- some have been changed; J: the slots that are stored meanwhile -/
def tDty (K : PySem.W.Frag) (i : Nat) (J : List Nat) (m : Nat) (T : RT) : TS := fun E σ H => ∃ C G r d v H0 σ0 G1 o n, Ok K C G H0 σ0 r ∧ Same G H0 ∧ Dty K H0 G1 H n ∧ n + m ≤ 3000000 ∧ σ.length = σ0.length ∧ (∀ j, j ∉ J → σ[j]? = σ0[j]?) ∧ σ[i]? = some (some v) ∧ DpN K H0 G1 v d ∧ T r d = some o ∧ OutOk K C G E o
abbrev SRs (X : Cx) (st : List Stmt) (i : Nat) (T : RT) : Prop := PSs X st (tReg X.K i T)
abbrev SDs (X : Cx) (st : List Stmt) (i : Nat) (J : List Nat) (m : Nat) (T : RT) : Prop := PSs X st (tDty X.K i J m T)
def rEnd (J : List Nat) (F : FS) : RT := fun r _ => F (wipeE r J)
@[simp] theorem rEnd_r (J : List Nat) (F : FS) (r : Ev) (d : D) : rEnd J F r d = F (wipeE r J) := rfl
def rChk (i : Nat) (t : FT) (c : D) (T : RT) : RT := fun r d => (t ((allV r).set i (some (.fre d)))).bind fun x => if x.1 = true then some (.rt c (wipeE r [i])) else T r d
@[simp] theorem rChk_r (i : Nat) (t : FT) (c : D) (T : RT) (r : Ev) (d : D) : rChk i t c T r d = (t ((allV r).set i (some (.fre d)))).bind fun x => if x.1 = true then some (.rt c (wipeE r [i])) else T r d := rfl
def rIf (i : Nat) (t : FT) (T T' : RT) : RT := fun r d => (t ((allV r).set i (some (.fre d)))).bind fun x => if x.1 = true then T r d else T' r d
@[simp] theorem rIf_r (i : Nat) (t : FT) (T T' : RT) (r : Ev) (d : D) : rIf i t T T' r d = (t ((allV r).set i (some (.fre d)))).bind fun x => if x.1 = true then T r d else T' r d := rfl
/-- the length of a list that is changed, at a place: [] itself, [k] its part -/
def lnAt (k : Option Int) (d : D) : Option Nat := match k, d with
  | none, .list ds => some ds.length
  | some k, .list ds => (L2.atI ds k).bind fun x => match x with
    | .list es => some es.length
    | _ => none
  | some k, .tuple ds => (L2.atI ds k).bind fun x => match x with
    | .list es => some es.length
    | _ => none
  | _, _ => none
def rApp (k : Option Int) (T : RT) : RT := fun r d => (lnAt k d).bind fun n => if n ≤ 1000000 then T r d else none
@[simp] theorem rApp_r (k : Option Int) (T : RT) (r : Ev) (d : D) : rApp k T r d = (lnAt k d).bind fun n => if n ≤ 1000000 then T r d else none := rfl
def isInt : D → Bool
  | .int _ => true
  | _ => false
/-- lists of numbers -/
def rowsB : D → Bool
  | .list ds => decide (ds.length ≤ 1000000) && ds.all fun x => match x with
    | .list es => es.all isInt && decide (es.length ≤ 1000000)
    | _ => false
  | _ => false
def rEach (i2 : Nat) (T : RT) : RT := fun r d => if rowsB d = true ∧ i2 < r.length then T r d else none
@[simp] theorem rEach_r (i2 : Nat) (T : RT) (r : Ev) (d : D) : rEach i2 T r d = if rowsB d = true ∧ i2 < r.length then T r d else none := rfl
section
variable {X : Cx} {e a b c : Expr} {es : List Expr} {f fa fb : FE} {g : FA} {pu p q : Bool} {pos pp : Pos} {x : Str} {F F' : FS} {i : Nat} {T T' : RT} {rest sts : List Stmt} {t : FT} {J : List Nat} {m : Nat}
/-- the value is made -/
theorem ss_reg {px : Pos} (hN : X.N.Nodup) (hi : X.N[i]? = some x) (hx : Loc X.env.scope x) (he : SEN X p e f) (hr : SRs X rest i T) (hf : X.fn x = true ∨ X.env.scope.names.lookup x = some .local := by first | exact .inl rfl | exact .inr rfl | assumption) (hs : swapsWith e (some (.Name x px)) pos.line X.env = pure false := by rfl) :
    SSs X (.Assign [.Name x px] e pos :: rest) (sReg i f T) := ⟨fun pins s σ H E I ⟨C, G, r, o, ok, hF, k⟩ => by
  refine (pss_cons (ps_set hN hi hx he hs hf) hr).run pins s σ H E I ?_
  unfold sReg at hF
  obtain ⟨⟨d, r1⟩, h1, h2⟩ := Option.bind_eq_some_iff.mp hF
  refine ⟨ctx0 H, H, allV r, d, r1, ok.all, h1, fun v G' H' o' s' m x => ?_⟩
  have hh : i < σ.length := by
    rw [I.len]
    exact (List.getElem?_eq_some_iff.mp hi).1
  have o2 : Ok X.K (ctx0 H) G' H' σ (allV r) := ok.all.again (fun j c e => by
    unfold allV at e
    rw [List.getElem?_map] at e
    obtain ⟨c0, _, e2⟩ := Option.map_eq_some_iff.mp e
    obtain ⟨d', rfl⟩ := toV_some e2
    exact ⟨rfl, fun n z => by cases z⟩) o' s'
  exact ⟨C, G, r, d, v, H, σ, G', o, ok, o2.setF x, rfl, hh, x, h2, k⟩⟩
theorem keepC {K : PySem.W.Frag} {H0 G1 H : Hp} {σ : L2.St} {r : Ev} (ok : Ok K (ctx0 H0) G1 H σ r) : Same H0 H := fun a o e => ok.prot a o e (fun h => by cases h)
/-- the block goes on -/
theorem sr_end (hi : i ∈ J) (h : SSs X rest F) : SRs X rest i (rEnd J F) := PSs.weak h fun E σ H ⟨C, G, r, d, v, H0, σ0, G1, o, ok, ok1, eσ, hlt, dn, hT, k⟩ => by
  subst eσ
  exact ⟨C, G, _, o, ok.out (keepC ok1) J (List.length_set ..) fun j hj => List.getElem?_set_ne (fun z => hj (by rw [← z]; exact hi)), hT, k⟩
theorem sd_end (h : SSs X rest F) : SDs X rest i J m (rEnd J F) := PSs.weak h fun E σ H ⟨C, G, r, d, v, H0, σ0, G1, o, n, ok, sg, dt, _, hl, hj, ev, dn, hT, k⟩ =>
  ⟨C, G, _, o, ok.out dt.old J hl hj, hT, k⟩
/-- a test, behind which False may be handed back -/
theorem sr_chk {tc : TE} {cd : D} {cv : V} {rp : Pos} (hc : ST X p c t) (hr : SRs X rest i T) (he : PE X e tc) (ht : ∀ σ H Q, Q cv H → tc σ H Q) (hd : ∀ G, Dp X.K G cv cd) : SRs X (.If c [.Return (some e) rp] [] pos :: rest) i (rChk i t cd T) :=
  PSs.weak (pss_cons (ps_if hc (pss_one (ps_ret he)) pss_nil) hr) fun E σ H ⟨C, G, r, d, v, H0, σ0, G1, o, ok, ok1, eσ, hlt, dn, hT, k⟩ => by
    unfold rChk at hT
    obtain ⟨⟨bb, r1⟩, h1, h2⟩ := Option.bind_eq_some_iff.mp hT
    refine ⟨_, G1, _, bb, r1, ok1, h1, fun G' H' o' s m => ?_⟩
    have o2 := ok1.again (allV_no r i d) o' s
    cases bb with
    | true =>
      show (if true = true then _ else _)
      rw [if_pos rfl] at h2 ⊢
      cases h2
      refine ht _ _ _ ?_
      subst eσ
      exact k cv (σ0.set i (some v)) G H' (ok.out (keepC o2) [i] (List.length_set ..) fun j hj => List.getElem?_set_ne (fun z => hj (by rw [← z]; exact List.mem_cons_self))) (Same.refl _) (hd G)
    | false =>
      show (if false = true then _ else _)
      rw [if_neg Bool.false_ne_true] at h2 ⊢
      exact ⟨C, G, r, d, v, H0, σ0, G', o, ok, o2, eσ, hlt, DpN.mono s dn, h2, k⟩
/-- two ways -/
theorem sr_if {sb : List Stmt} (hc : ST X p c t) (ha : SRs X sts i T) (hb : SRs X sb i T') : SRs X [.If c sts sb pos] i (rIf i t T T') :=
  PSs.weak (pss_one (ps_if hc ha hb)) fun E σ H ⟨C, G, r, d, v, H0, σ0, G1, o, ok, ok1, eσ, hlt, dn, hT, k⟩ => by
    unfold rIf at hT
    obtain ⟨⟨bb, r1⟩, h1, h2⟩ := Option.bind_eq_some_iff.mp hT
    refine ⟨_, G1, _, bb, r1, ok1, h1, fun G' H' o' s m => ?_⟩
    have o2 := ok1.again (allV_no r i d) o' s
    cases bb with
    | true =>
      show (if true = true then _ else _)
      rw [if_pos rfl] at h2 ⊢
      exact ⟨C, G, r, d, v, H0, σ0, G', o, ok, o2, eσ, hlt, DpN.mono s dn, h2, k⟩
    | false =>
      show (if false = true then _ else _)
      rw [if_neg Bool.false_ne_true] at h2 ⊢
      exact ⟨C, G, r, d, v, H0, σ0, G', o, ok, o2, eσ, hlt, DpN.mono s dn, h2, k⟩
/-- from here on it may be changed -/
theorem sr_dty (hi : i ∈ J) (hm : m ≤ 1000000) (h : SDs X rest i J m T) : SRs X rest i T := PSs.weak h fun E σ H ⟨C, G, r, d, v, H0, σ0, G1, o, ok, ok1, eσ, hlt, dn, hT, k⟩ => by
  subst eσ
  refine ⟨C, G, r, d, v, H0, σ0, G1, o, 0, ok, ok.sub, ⟨keepC ok1, fun a vs e _ => ⟨[], by rw [List.append_nil]; exact ok1.sub _ _ e, Nat.le_refl _⟩, fun a xs h => SqT.mono ok1.sub h⟩, by omega, List.length_set .., fun j hj => List.getElem?_set_ne (fun z => hj (by rw [← z]; exact hi)), List.getElem?_set_self hlt, dn, hT, k⟩
theorem SqT.upd {K : PySem.W.Frag} {H : Hp} {a b : Addr} {xs ys zs : List V} (h : SqT K H a xs) (e : H b = some (.lst ys)) : SqT K (upd H b (.lst zs)) a xs := by
  rcases h with h | h
  · refine .inl ?_
    rcases h with h | ⟨o, h⟩
    · exact .inl (by rw [upd_ne (fun z => by subst z; rw [e] at h; cases h)]; exact h)
    · exact .inr ⟨o, by rw [upd_ne (fun z => by subst z; rw [e] at h; cases h)]; exact h⟩
  · exact .inr h
theorem Dty.app {K : PySem.W.Frag} {H0 G1 H : Hp} {n : Nat} (dt : Dty K H0 G1 H n) {a : Addr} {vs ex : List V} (y : V) (h0 : H0 a = none) (hG : G1 a = some (.lst vs)) (h : H a = some (.lst (vs ++ ex))) (he : ex.length ≤ n) : Dty K H0 G1 (upd H a (.lst (vs ++ ex ++ [y]))) (n + 1) where
  old := fun b o e => by rw [upd_ne (ne_of_none e h0)]; exact dt.old _ _ e
  lst := fun b ws e nb => by
    by_cases hb : b = a
    · subst hb
      rw [hG] at e
      cases e
      exact ⟨ex ++ [y], by rw [upd_same, List.append_assoc], by rw [List.length_append, List.length_singleton]; omega⟩
    · obtain ⟨ex', h1, h2⟩ := dt.lst b ws e nb
      exact ⟨ex', by rw [upd_ne hb]; exact h1, by omega⟩
  tup := fun b xs hb => SqT.upd (dt.tup b xs hb) h
/-- what lnAt speaks of -/
theorem at_list {K : PySem.W.Frag} {H0 G1 H : Hp} {n k : Nat} {v : V} {d : D} {ki : Int} (dt : Dty K H0 G1 H n) (dn : DpN K H0 G1 v d) (k0 : 0 ≤ ki) (hl : lnAt (some ki) d = some k) : ∃ a xs w b vs, v = .ref a ∧ (SqL K H a xs ∨ SqT K H a xs) ∧ L2.atI xs ki = some w ∧ w = .ref b ∧ G1 b = some (.lst vs) ∧ H0 b = none ∧ vs.length = k := by
  have fin : ∀ (ds : List D) (vs : List V), DpNAll K H0 G1 vs ds → ((L2.atI ds ki).bind fun x => match x with
      | .list es => some es.length
      | _ => none) = some k → ∃ w b us, L2.atI vs ki = some w ∧ w = .ref b ∧ G1 b = some (.lst us) ∧ H0 b = none ∧ us.length = k := fun ds vs hd h => by
    obtain ⟨x, h1, h2⟩ := Option.bind_eq_some_iff.mp h
    obtain ⟨w, h3, h4⟩ := hd.atI h1
    cases h4 with
    | lst a b c => cases h2; exact ⟨_, _, _, h3, rfl, a, b, c.length⟩
    | tup => cases h2
    | non => cases h2
    | bl => cases h2
    | int => cases h2
    | str => cases h2
  cases dn with
  | lst a1 b1 c1 =>
    obtain ⟨w, b, us, h1, h2, h3, h4, h5⟩ := fin _ _ c1 hl
    obtain ⟨ex, e1, _⟩ := dt.lst _ _ a1 b1
    refine ⟨_, _, w, b, us, rfl, .inl (.inl (.inl e1)), ?_, h2, h3, h4, h5⟩
    have hk := h1
    unfold L2.atI at h1 ⊢
    obtain ⟨j, g1, g2⟩ := Option.bind_eq_some_iff.mp h1
    have hj : j < _ := (List.getElem?_eq_some_iff.mp g2).1
    have n1 : ∀ (l j : Nat), ixN l ki = some j → ∀ l', l ≤ l' → ixN l' ki = some j := fun l j hh l' hl' => by
      unfold ixN at hh ⊢
      rw [if_pos k0] at hh ⊢
      by_cases z : ki < l
      · rw [if_pos z] at hh
        rw [if_pos (by omega)]
        exact hh
      · rw [if_neg z] at hh; cases hh
    rw [n1 _ _ g1 _ (by rw [List.length_append]; omega)]
    show (_ : List V)[j]? = _
    rw [List.getElem?_append_left hj]
    exact g2
  | tup a1 c1 =>
    obtain ⟨w, b, us, h1, h2, h3, h4, h5⟩ := fin _ _ c1 hl
    exact ⟨_, _, w, b, us, rfl, .inr (dt.tup _ _ a1), h1, h2, h3, h4, h5⟩
  | non => cases hl
  | bl => cases hl
  | int => cases hl
  | str => cases hl
theorem len_ok {K : PySem.W.Frag} {H0 G1 H : Hp} {n m k : Nat} {vs ex : List V} (hk : k ≤ 1000000) (hn : n + (m + 1) ≤ 3000000) (hv : vs.length = k) (he : ex.length ≤ n) : (vs ++ ex).length < sizeLine := by
  rw [List.length_append, sizeLine_eq]
  omega
/-- told.append(c) -/
theorem sd_app0 {pa : Pos} {c : Int} {j : _} {cp : Pos} {nm : Expr} (hcall : PE X (.Call (.Attribute nm "append" pa) [.Constant (.int c) j cp] [] pp) (tBM X.K "list" rAppend (tVar i) (tCons (tC (.int c)) tNil)))
    (hr : SDs X rest i J m T) (hs : swapsWith (.Call (.Attribute nm "append" pa) [.Constant (.int c) j cp] [] pp) none pos.line X.env = pure false := by rfl) :
    SDs X (.Expr (.Call (.Attribute nm "append" pa) [.Constant (.int c) j cp] [] pp) pos :: rest) i J (m + 1) (rApp none T) :=
  PSs.weak (pss_cons (ps_expr hcall hs) hr) fun E σ H ⟨C, G, r, d, v, H0, σ0, G1, o, n, ok, sg, dt, hn, hl, hj, ev, dn, hT, k⟩ => by
    unfold rApp at hT
    obtain ⟨q, h1, h2⟩ := Option.bind_eq_some_iff.mp hT
    split at h2
    · rename_i hq
      cases dn with
      | lst a1 b1 c1 =>
        cases h1
        obtain ⟨ex, e1, e2⟩ := dt.lst _ _ a1 b1
        have c2 := c1.length
        refine ⟨_, ev, .inl ⟨rfl, _, .inl (.inl e1)⟩, _, _, _, rfl, rfl, e1, len_ok (K := X.K) (H0 := H0) (G1 := G1) (H := H) hq hn c2 e2, ?_⟩
        exact ⟨C, G, r, _, _, H0, σ0, G1, o, n + 1, ok, sg, dt.app _ b1 a1 e1 e2, by omega, hl, hj, ev, .lst a1 b1 c1, h2, k⟩
      | tup => cases h1
      | non => cases h1
      | bl => cases h1
      | int => cases h1
      | str => cases h1
    · cases h2
/-- told.append([]) -/
theorem sd_appE {pa : Pos} {kk : Pos} {nm : Expr} (hcall : PE X (.Call (.Attribute nm "append" pa) [.List [] kk] [] pp) (tBM X.K "list" rAppend (tVar i) (tCons (fun σ H Q => tNil σ H fun vs H1 => vs.length ≤ sizeLine ∧ ∀ p, H1 p = none → Q (.ref p) (upd H1 p (.lst vs))) tNil)))
    (hr : SDs X rest i J m T) (hs : swapsWith (.Call (.Attribute nm "append" pa) [.List [] kk] [] pp) none pos.line X.env = pure false := by rfl) :
    SDs X (.Expr (.Call (.Attribute nm "append" pa) [.List [] kk] [] pp) pos :: rest) i J (m + 1) (rApp none T) :=
  PSs.weak (pss_cons (ps_expr hcall hs) hr) fun E σ H ⟨C, G, r, d, v, H0, σ0, G1, o, n, ok, sg, dt, hn, hl, hj, ev, dn, hT, k⟩ => by
    unfold rApp at hT
    obtain ⟨q, h1, h2⟩ := Option.bind_eq_some_iff.mp hT
    split at h2
    · rename_i hq
      cases dn with
      | lst a1 b1 c1 =>
        cases h1
        obtain ⟨ex, e1, e2⟩ := dt.lst _ _ a1 b1
        have c2 := c1.length
        refine ⟨_, ev, .inl ⟨rfl, _, .inl (.inl e1)⟩, (by show 0 ≤ sizeLine; omega), fun p hp => ?_⟩
        have hne : ∀ b u, H b = some u → b ≠ p := fun b u e => ne_of_none e hp
        have dt2 : Dty X.K H0 G1 (upd H p (.lst [])) n := ⟨fun b u e => by rw [upd_ne (hne b u (dt.old _ _ e))]; exact dt.old _ _ e, fun b ws e nb => by
          obtain ⟨ex', g1, g2⟩ := dt.lst b ws e nb
          exact ⟨ex', by rw [upd_ne (hne b _ g1)]; exact g1, g2⟩, fun b xs hb => SqT.mono (same_laid hp) (dt.tup b xs hb)⟩
        obtain ⟨ex, e1, e2⟩ := dt2.lst _ _ a1 b1
        refine ⟨_, _, _, rfl, rfl, e1, len_ok (K := X.K) (H0 := H0) (G1 := G1) (H := H) hq hn c2 e2, ?_⟩
        exact ⟨C, G, r, _, _, H0, σ0, G1, o, n + 1, ok, sg, dt2.app _ b1 a1 e1 e2, by omega, hl, hj, ev, .lst a1 b1 c1, h2, k⟩
      | tup => cases h1
      | non => cases h1
      | bl => cases h1
      | int => cases h1
      | str => cases h1
    · cases h2
/-- told[k].append(c) -/
theorem sd_appK {pa sp : Pos} {ki : Int} {c : Int} {j j2 : _} {cp cp2 : Pos} {nm : Expr} (k0 : 0 ≤ ki) (hcall : PE X (.Call (.Attribute (.Subscript nm (.Constant (.int ki) j2 cp2) sp) "append" pa) [.Constant (.int c) j cp] [] pp) (tBM X.K "list" rAppend (tOp (fun x y H Q => rIxL X.K x y H Q ∨ rIxT X.K x y H Q) (tVar i) (tC (.int ki))) (tCons (tC (.int c)) tNil)))
    (hr : SDs X rest i J m T) (hs : swapsWith (.Call (.Attribute (.Subscript nm (.Constant (.int ki) j2 cp2) sp) "append" pa) [.Constant (.int c) j cp] [] pp) none pos.line X.env = pure false := by rfl) :
    SDs X (.Expr (.Call (.Attribute (.Subscript nm (.Constant (.int ki) j2 cp2) sp) "append" pa) [.Constant (.int c) j cp] [] pp) pos :: rest) i J (m + 1) (rApp (some ki) T) :=
  PSs.weak (pss_cons (ps_expr hcall hs) hr) fun E σ H ⟨C, G, r, d, v, H0, σ0, G1, o, n, ok, sg, dt, hn, hl, hj, ev, dn, hT, k⟩ => by
    unfold rApp at hT
    obtain ⟨q, h1, h2⟩ := Option.bind_eq_some_iff.mp hT
    split at h2
    · rename_i hq
      obtain ⟨a, xs, w, b, vs, rfl, hx, hw, rfl, hG, h0, hlen⟩ := at_list dt dn k0 h1
      obtain ⟨ex, e1, e2⟩ := dt.lst _ _ hG h0
      refine ⟨_, ev, ?_⟩
      have fin : tyV X.K "list" (.ref b) H ∧ tCons (tC (.int c)) tNil σ H fun xs H2 => rAppend (.ref b) xs H2 fun _ H' => tDty X.K i J m T E σ H' := by
        refine ⟨.inl ⟨rfl, _, .inl (.inl e1)⟩, _, _, _, rfl, rfl, e1, len_ok (K := X.K) (H0 := H0) (G1 := G1) (H := H) hq hn hlen e2, ?_⟩
        exact ⟨C, G, r, d, _, H0, σ0, G1, o, n + 1, ok, sg, dt.app _ h0 hG e1 e2, by omega, hl, hj, ev, dn, h2, k⟩
      rcases hx with hx | hx
      · exact .inl ⟨a, xs, ki, _, rfl, rfl, hx, hw, fin⟩
      · exact .inr ⟨a, xs, ki, _, rfl, rfl, hx, hw, fin⟩
    · cases h2
theorem ints_refs {K : PySem.W.Frag} {P G : Hp} : ∀ {ds : List D} {vs : List V}, DpNAll K P G vs ds → ds.all isInt = true → ∀ v ∈ vs, ∃ z, v = .int z
  | _, _, .nil, _, v, h => by cases h
  | _, _, .cons a t, hi, v, h => by
    rw [List.all_cons, Bool.and_eq_true] at hi
    rcases List.mem_cons.mp h with rfl | h
    · cases a with
      | int z => exact ⟨z, rfl⟩
      | _ => cases hi.1
    · exact ints_refs t hi.2 v h
/-- for x in told: x.append(c) -/
theorem sr_each {y : Str} {i2 : Nat} {py pa tp ip lp : Pos} {c : Int} {j : _} {cp : Pos} (hp : PassesOwn (model X.prog X.w) X.A X.env X.xe) (hc : X.calm = true) (hv : PE X (.Name x ip) (tVar i)) (hN : X.N.Nodup) (hi2 : X.N[i2]? = some y) (hx : Loc X.env.scope y) (hf : X.fn y = true ∨ X.env.scope.names.lookup y = some .local)
    (hcall : PE X (.Call (.Attribute (.Name y py) "append" pa) [.Constant (.int c) j cp] [] pp) (tBM X.K "list" rAppend (tVar i2) (tCons (tC (.int c)) tNil)))
    (hne : i ≠ i2) (hiJ : i ∈ J) (h2J : i2 ∈ J) (hm : m ≤ 1000000) (hr : SDs X rest i J m T) (hs : swapsWith (.Call (.Attribute (.Name y py) "append" pa) [.Constant (.int c) j cp] [] pp) none pos.line X.env = pure false := by rfl)
    (hfold : ∀ x', foldedSetIterable (.Name x ip) X.env x' = pure x' := by intro _; rfl) :
    SRs X (.For (.Name y tp) (.Name x ip) [.Expr (.Call (.Attribute (.Name y py) "append" pa) [.Constant (.int c) j cp] [] pp) pos] [] lp :: rest) i (rEach i2 T) :=
  PSs.weak (pss_cons (ps_for hp hc (pi_list hv) (pg_name (pos := tp) hN hi2 hx hf) (pss_one (ps_expr hcall hs)) hfold) hr) fun E σ H ⟨C, G, r, d, v, H0, σ0, G1, o, ok, ok1, eσ, hlt, dn, hT, k⟩ => by
    unfold rEach at hT
    split at hT
    · rename_i hb
      obtain ⟨hb, hi2l⟩ := hb
      rw [ok.len] at hi2l
      cases dn with
      | lst a1 b1 c1 =>
        rename_i a vs ds
        have hb : (decide (ds.length ≤ 1000000) && ds.all fun x => match x with
          | .list es => es.all isInt && decide (es.length ≤ 1000000)
          | _ => false) = true := hb
        rw [Bool.and_eq_true, decide_eq_true_iff, List.all_eq_true] at hb
        obtain ⟨hln, hrows⟩ := hb
        have hlv := c1.length
        have row : ∀ n (hn : n < vs.length), ∃ b us, vs[n] = .ref b ∧ G1 b = some (.lst us) ∧ H0 b = none ∧ us.length ≤ 1000000 ∧ b ≠ a := fun n hn => by
          obtain ⟨w, e1, e2⟩ := c1.get (i := n) (List.getElem?_eq_getElem (by omega))
          have hd := hrows ds[n] (List.getElem_mem (by omega))
          rw [List.getElem?_eq_getElem hn] at e1
          cases e1
          generalize ds[n]'(by omega) = dd at *
          generalize hw : vs[n] = w at *
          cases e2 with
          | lst a2 b2 c2 =>
            rename_i b us es
            rw [Bool.and_eq_true, decide_eq_true_iff] at hd
            refine ⟨b, us, rfl, a2, b2, by rw [c2.length]; exact hd.2, fun z => ?_⟩
            subst z
            rw [a1] at a2
            cases a2
            obtain ⟨z, hz⟩ := ints_refs c2 hd.1 (.ref b) (by rw [← hw]; exact List.getElem_mem hn)
            cases hz
          | _ => cases hd
        have hσi : σ[i]? = some (some (.ref a)) := by rw [eσ]; exact List.getElem?_set_self hlt
        refine ⟨_, hσi, a, rfl, ⟨vs, .inl (.inl (ok1.sub _ _ a1))⟩, ?_⟩
        refine ⟨fun n q σ' H' => n ≤ vs.length ∧ q = vs.length - n ∧ Dty X.K H0 G1 H' n ∧ H' a = some (.lst vs) ∧ σ'.length = σ0.length ∧ (∀ j, j ∉ J → σ'[j]? = σ0[j]?) ∧ σ'[i]? = some (some (.ref a)), ⟨_, Nat.zero_le _, rfl, ⟨keepC ok1, fun b ws e _ => ⟨[], by rw [List.append_nil]; exact ok1.sub _ _ e, Nat.le_refl _⟩, fun b xs h => SqT.mono ok1.sub h⟩, ok1.sub _ _ a1, by rw [eσ, List.length_set], fun j hj => by rw [eσ]; exact List.getElem?_set_ne (fun z => hj (by rw [← z]; exact hiJ)), hσi⟩, ?_⟩
        rintro n q σ' H' ⟨hn, rfl, dt, ha, hl, hj, hi'⟩
        by_cases hlt2 : n < vs.length
        · refine .inr ⟨⟨vs, vs[n], .inl (.inl ha), List.getElem?_eq_getElem hlt2⟩, fun σ2 H2 => n + 1 ≤ vs.length ∧ Dty X.K H0 G1 H2 (n + 1) ∧ H2 a = some (.lst vs) ∧ σ2.length = σ0.length ∧ (∀ j, j ∉ J → σ2[j]? = σ0[j]?) ∧ σ2[i]? = some (some (.ref a)), fun σ2 H2 ⟨q1, q2, q3, q4, q5, q6⟩ => ⟨_, Nat.sub_lt_sub_left hlt2 (Nat.lt_succ_self n), q1, rfl, q2, q3, q4, q5, q6⟩, fun x H3 ⟨eH, yy⟩ => ?_⟩
          subst eH
          have hx2 := yy vs (.inl (.inl ha))
          rw [List.getElem?_eq_getElem hlt2] at hx2
          cases hx2
          obtain ⟨b, us, e1, e2, e3, e4, e5⟩ := row n hlt2
          rw [e1]
          obtain ⟨ex, e6, e7⟩ := dt.lst _ _ e2 e3
          have hli : i2 < σ'.length := by omega
          refine ⟨.ref b, List.getElem?_set_self hli, .inl ⟨rfl, _, .inl (.inl e6)⟩, _, _, _, rfl, rfl, e6, len_ok (K := X.K) (H0 := H0) (G1 := G1) (H := H0) (m := 0) e4 (n := n) (by omega) rfl e7, ?_⟩
          exact ⟨hlt2, dt.app _ e3 e2 e6 e7, by rw [upd_ne (Ne.symm e5)]; exact ha, by rw [List.length_set]; exact hl, fun j hj' => by rw [List.getElem?_set_ne (fun z => hj' (by rw [← z]; exact h2J))]; exact hj j hj', by rw [List.getElem?_set_ne (Ne.symm hne)]; exact hi'⟩
        · refine .inl ⟨⟨vs, .inl (.inl ha), by omega⟩, ?_⟩
          exact ⟨C, G, r, _, _, H0, σ0, G1, o, n, ok, ok.sub, dt, by omega, hl, hj, hi', .lst a1 b1 c1, hT, k⟩
      | tup => cases hb
      | non => cases hb
      | bl => cases hb
      | int => cases hb
      | str => cases hb
    · cases hT
def rIfM (i : Nat) (t : FT) (T : RT) (J : List Nat) (F : FS) : RT := fun r d => (t ((allV r).set i (some (.fre d)))).bind fun x => if x.1 = true then thenK (T r d) F else F (wipeE r J)
@[simp] theorem rIfM_r (i : Nat) (t : FT) (T : RT) (J : List Nat) (F : FS) (r : Ev) (d : D) : rIfM i t T J F r d = (t ((allV r).set i (some (.fre d)))).bind fun x => if x.1 = true then thenK (T r d) F else F (wipeE r J) := rfl
/-- if t: it is changed; then the block goes on -/
theorem sr_ifm (hi : i ∈ J) (hc : ST X p c t) (ha : SRs X sts i T) (hb : SSs X rest F) : SRs X (.If c sts [] pos :: rest) i (rIfM i t T J F) :=
  PSs.weak (pss_cons (ps_if hc ha pss_nil) hb) fun E σ H ⟨C, G, r, d, v, H0, σ0, G1, o, ok, ok1, eσ, hlt, dn, hT, k⟩ => by
    unfold rIfM at hT
    obtain ⟨⟨bb, r1⟩, h1, h2⟩ := Option.bind_eq_some_iff.mp hT
    refine ⟨_, G1, _, bb, r1, ok1, h1, fun G' H' o' s m => ?_⟩
    have o2 := ok1.again (allV_no r i d) o' s
    cases bb with
    | true =>
      show (if true = true then _ else _)
      rw [if_pos rfl] at h2 ⊢
      cases hq : T r d with
      | none => rw [hq] at h2; cases h2
      | some o2' =>
        rw [hq] at h2
        refine ⟨C, G, r, d, v, H0, σ0, G', o2', ok, o2, eσ, hlt, DpN.mono s dn, hq, ?_⟩
        cases o2' with
        | nx r1 => exact fun σ' G2 H2 ok2 s2 => ⟨C, G2, r1, o, ok2, h2, k.mono s2⟩
        | bk => cases h2; exact k
        | ct => cases h2; exact k
        | rt => cases h2; exact k
        | rtO => cases h2; exact k
        | rtN => cases h2; exact k
    | false =>
      show (if false = true then _ else _)
      rw [if_neg Bool.false_ne_true] at h2 ⊢
      subst eσ
      exact ⟨C, G, _, o, ok.out (keepC o2) J (List.length_set ..) fun j hj => List.getElem?_set_ne (fun z => hj (by rw [← z]; exact hi)), h2, k⟩
end
theorem fn_neverN {P : Program} {w : World} {K : PySem.W.Frag} {mg : Str → Option Value} {base : Heap} {k n : Nat} {f : Addr} {fd : FuncData} {ps : List Str} : FnG P w K mg base CX0 k f fd ps (spN K n fun _ => none) := ⟨fun vs H Q E ⟨G, ds, d, _, _, _, h, _⟩ => (nomatch h), fun A out s H as us vs Q E _ _ _ _ _ ⟨G, ds, d, _, _, _, h, _⟩ => (nomatch h)⟩
end SL
/-! x = l.pop() -/
namespace SL
open PySem PySem.Spec PyProof.Rows L2
section
variable {X : Cx} {e a b : Expr} {es : List Expr} {f fa fb : FE} {g : FA} {pu p q : Bool} {pos pp : Pos} {x : Str} {F F' : FS}
def sPop (i j : Nat) : FS := fun r => (listAt j r).bind fun z => z.1[z.1.length - 1]?.map fun d => .nx ((z.2 z.1.dropLast).set i (some (.val d)))
@[simp] theorem sPop_r (i j : Nat) (r : Ev) : sPop i j r = (listAt j r).bind fun z => z.1[z.1.length - 1]?.map fun d => .nx ((z.2 z.1.dropLast).set i (some (.val d))) := rfl
theorem DpAll.dropLast {K : PySem.W.Frag} {G : Hp} : ∀ {vs : List V} {ds : List D}, DpAll K G vs ds → DpAll K G vs.dropLast ds.dropLast
  | _, _, .nil => .nil
  | _, _, .cons a .nil => .nil
  | _, _, .cons a (.cons b t) => by
    rw [List.dropLast_cons₂, List.dropLast_cons₂]
    exact .cons a (DpAll.dropLast (.cons b t))
theorem ss_pop {i j : Nat} {px pa : Pos} {nm : Expr} (hN : X.N.Nodup) (hi : X.N[i]? = some x) (hx : Loc X.env.scope x)
    (hcall : PE X (.Call (.Attribute nm "pop" pa) [] [] pp) (tBM0 X.K "list" rPop (tVar j)))
    (hf : X.fn x = true ∨ X.env.scope.names.lookup x = some .local := by first | exact .inl rfl | exact .inr rfl | assumption)
    (hs : swapsWith (.Call (.Attribute nm "pop" pa) [] [] pp) (some (.Name x px)) pos.line X.env = pure false := by rfl) : SS X (.Assign [.Name x px] (.Call (.Attribute nm "pop" pa) [] [] pp) pos) (sPop i j) :=
  PS.weak (ps_set hN hi hx hcall hs hf) fun E σ H ⟨C, G, r, o, ok, hf, k⟩ => by
    unfold sPop at hf
    obtain ⟨⟨ds, put⟩, h1, hf⟩ := Option.bind_eq_some_iff.mp hf
    obtain ⟨d, h2, h3⟩ := Option.map_eq_some_iff.mp hf
    cases h3
    obtain ⟨l, vs, e1, _, e2, e3, kk⟩ := ok.listAt h1
    have hl := DpAll.length e3
    obtain ⟨y, hy, dy⟩ := DpAll.get e3 h2
    refine ⟨_, e1, .inl ⟨rfl, _, .inl (.inl e2)⟩, l, vs, y, rfl, rfl, e2, by rw [hl]; exact hy, ?_⟩
    exact k _ G _ ((kk _ _ (DpAll.dropLast e3)).setV dy) (Same.refl _)
end
end SL
/-! sorted(d): the keys of a dict -/
namespace SL
open PySem PySem.Spec PyProof.Rows L2
def sortKD : D → Option (List D)
  | .dict kds => if okSort (kds.map (·.1)) = true then some (srt (kds.map (·.1))) else none
  | _ => none
@[simp] theorem sortKD_d (kds : List (D × D)) : sortKD (.dict kds) = if okSort (kds.map (·.1)) = true then some (srt (kds.map (·.1))) else none := rfl
def rSortK (K : PySem.W.Frag) : List V → Hp → VK → Prop := fun xs H Q => ∃ p o ks kds G, xs = [.ref p] ∧ H p = some (DicO p o ks) ∧ Same G H ∧ DpKs K G ks kds ∧ okSort (kds.map (·.1)) = true ∧ ∀ l zs, H l = none → DpAll K G zs (srt (kds.map (·.1))) → Q (.ref l) (upd H l (.lst zs))
section
variable {X : Cx}
open PySem.W in
theorem cr_sortK (pl : Pl X) : CallR X (.builtin "sorted") (rSortK X.K) := by
  intro pins s σ H vs us Q I r h
  obtain ⟨a, o, ks, kds, G, rfl, hd, sg, hk, ho, q⟩ := h
  obtain ⟨oa, os, oz, od⟩ := okSort_iff.mp ho
  rw [Vals.ref1 r]
  have hun := pl.units
  obtain ⟨hgd, hs⟩ := DicO.at I hd
  obtain ⟨hx, hm, es, ep, hdt⟩ := dicS_obj hs
  obtain ⟨hz, hent⟩ := dic_ents hs hdt
  have hl : ks.length ≤ sizeLine := hs.1
  have hp := keys_dp hk
  generalize kds.map (·.1) = ds at *
  have go : ∀ (ys : List V) (ds : List D) (its : List Value), DpAll X.K G ys ds → Vals ys its → (∀ d ∈ ds, W.alike d d = true) → W.EachIs (fun v b => ∃ as, Reads s.heap v (id b) as) its ds := by
    intro ys ds its hd rv
    induction rv generalizing ds with
    | nil => cases hd; exact fun _ => .nil
    | cons r1 _ ih =>
      cases hd with
      | cons hh tt =>
        intro ha
        refine .cons ?_ (ih _ tt fun d hd => ha d (List.mem_cons_of_mem _ hd))
        exact L2.Dp.reads I _ _ _ ((Dp.mono sg hh).toL (alike_nd _ (ha _ (List.mem_cons_self ..)))) r1
  refine sorted_any (R := fun v d => ∃ x, RelV x v ∧ Dp X.K G x d) (enc := id) (bs := ds) (fun T E' k => kdu_collect (KdlSrc.rawDict (es := es) (ep := ep) hm) (I.ok.hd pl.calm) ⟨o, hgd, hx, hdt⟩ (by omega) fun h1 tk acc old its => ?_) (by rw [List.map_id]; exact oa) (by rw [List.map_id]; exact os) oz (fun b hb => ?_) fun h1 tk vs out old ol eo => ?_
  · have rv := keys_vals (n := 0) hent hz its.1 its.2
    exact k h1 tk acc.toList old (each_dp hp rv) (go _ _ _ hp rv fun d hd => oa d hd d hd)
  · have := od b hb
    show X.A.units + 2 + b.depth < cLine
    omega
  · obtain ⟨zs, z1, z2⟩ := dp_each eo
    have at1 : (h1.push (seqObj "list" vs.toArray 0)).get? h1.objs.size = some (seqObj "list" vs.toArray 0) := Heap.get?_push_size _ rfl
    obtain ⟨ep2, at2⟩ := PyProof.Rows.sortedHeap_at (out := out.toArray) at1
    have I1 := I.kept (t' := tk) old
    refine ⟨.ref _, upd H h1.objs.size (.lst zs), I1.laid (t' := tk) (fun b o2 e2 => ?_) (Nat.le_refl _) ⟨by rw [Vals.length z2, ol]; exact oz, out, ep2, z2, at2⟩, rfl, q _ _ (I1.hok.fresh (Nat.le_refl _)) z1⟩
    have lt := Heap.lt_size e2
    rw [PyProof.Rows.sortedHeap_old (Nat.ne_of_lt lt) (by rw [Heap.size_push]; exact Nat.lt_succ_of_lt lt)]
    exact Heap.get?_push_of_some _ e2
theorem c_sortK {K : PySem.W.Frag} : Call1L K (rSortK K) sortKD := fun G H x dx ds Q s hx e bk => by
  unfold sortKD at e
  split at e
  · rename_i kds
    split at e
    · rename_i ho
      cases e
      rcases hx with hx | ⟨p', vs', ds', _, e', _⟩
      · cases hx with
        | dic a b => exact ⟨_, _, _, kds, G, rfl, s _ _ a, s, b, ho, fun l zs hl hz => bk l zs hl hz⟩
      · cases e'
    · cases e
  · cases e
end
/-! len of a dict -/
def lenKD : D → Option D
  | .dict kds => some (.int kds.length)
  | _ => none
@[simp] theorem lenKD_d (kds : List (D × D)) : lenKD (.dict kds) = some (.int kds.length) := rfl
def rLenK (K : PySem.W.Frag) : List V → Hp → VK → Prop := fun xs H Q => ∃ p o ks kds G, xs = [.ref p] ∧ H p = some (DicO p o ks) ∧ Same G H ∧ DpKs K G ks kds ∧ Q (.int (kds.length : Int)) H
theorem dpks_length {K : PySem.W.Frag} {G : Hp} : ∀ {ks : List KE3} {kds : List (D × D)}, DpKs K G ks kds → ks.length = kds.length
  | _, _, .nil => rfl
  | _, _, .cons _ _ _ t => by rw [List.length_cons, List.length_cons, dpks_length t]
section
variable {X : Cx}
theorem cr_lenK (pl : Pl X) : CallR X (.builtin "len") (rLenK X.K) := by
  intro pins s σ H vs us Q I r h
  obtain ⟨a, o, ks, kds, G, rfl, hd, sg, hk, q⟩ := h
  rw [Vals.ref1 r]
  obtain ⟨hgd, hs⟩ := DicO.at I hd
  have hm : (a == sysModules) = false := hs.2.1
  have hz : ks.length ≤ sizeLine := hs.1
  obtain ⟨xs, pr, hx⟩ := dic_of I hd (DpKs.mono sg hk)
  have e1 : ks.length = xs.length := Paired.length pr
  have e2 := dpks_length hk
  refine PySem.call_len_dictH hm hx (by rw [← e1]; rw [sizeLine_eq] at hz; omega) ?_
  rw [← e1, e2]
  exact ⟨.int _, H, I.tok _, ⟨_, rfl⟩, q⟩
theorem c_lenK {K : PySem.W.Frag} : Call1 K (rLenK K) lenKD := fun G H x dx dz Q s hx e bk => by
  unfold lenKD at e
  split at e
  · rename_i kds
    cases e
    rcases hx with hx | ⟨p', vs', ds', _, e', _⟩
    · cases hx with
      | dic a b => exact ⟨_, _, _, kds, G, rfl, s _ _ a, s, b, bk.val s (.int _)⟩
    · cases e'
  · cases e
end
end SL
namespace K73
open PySem PySem.Spec PyProof.Rows L2 SL
abbrev Row := PySem.Challenge.rw_skypasses_k73_lines_of_wishes
def top (i : Nat) : Stmt := PySem.Challenge.pw_skypasses_k73_lines_of_wishes.main.body.getD i (.Pass ⟨0, 0, 0, 0⟩)
abbrev s__law_draws : Stmt := top 17
abbrev s__law_sky : Stmt := top 18
abbrev s__law_close_sky : Stmt := top 24
abbrev s_loss : Stmt := top 3
abbrev s_emptied : Stmt := top 4
abbrev s_end_of : Stmt := top 1
abbrev s_stored_at : Stmt := top 6
abbrev s_level_behind : Stmt := top 7
abbrev s_turning : Stmt := top 2
abbrev s_follows : Stmt := top 5
abbrev s_reached : Stmt := top 9
abbrev s_plans_by_set : Stmt := top 10
abbrev s_sets_had : Stmt := top 11
abbrev s_sum_of : Stmt := top 12
abbrev s_line_of : Stmt := top 14
abbrev s_threshold : Stmt := top 15
abbrev s__law_lists : Stmt := top 22
abbrev s__law_store : Stmt := top 20
abbrev s__law_turn : Stmt := top 19
abbrev s__law_wrong : Stmt := top 21
abbrev s__law_worth : Stmt := top 23
abbrev s__law_is_whole : Stmt := top 25
abbrev s_law : Stmt := top 26
structure Tx (K : PySem.W.Frag) (mg : Str → Option Value) (fd : Nat → FuncData) : Prop where
  d__law_draws : FunD K "_law_draws" "_law_draws" (defArgs s__law_draws) (defBody s__law_draws) (defScope s__law_draws) [] [] (He.ga K "_law_draws") (fd 0)
  g__law_draws : mg "_law_draws" = some (.ref (He.ga K "_law_draws"))
  d__law_sky : FunD K "_law_sky" "_law_sky" (defArgs s__law_sky) (defBody s__law_sky) (defScope s__law_sky) [] [] (He.ga K "_law_sky") (fd 1)
  g__law_sky : mg "_law_sky" = some (.ref (He.ga K "_law_sky"))
  d__law_close_sky : FunD K "_law_close_sky" "_law_close_sky" (defArgs s__law_close_sky) (defBody s__law_close_sky) (defScope s__law_close_sky) [] [] (He.ga K "_law_close_sky") (fd 2)
  g__law_close_sky : mg "_law_close_sky" = some (.ref (He.ga K "_law_close_sky"))
  d_loss : FunD K "loss" "loss" (defArgs s_loss) (defBody s_loss) (defScope s_loss) [] [] (He.ga K "loss") (fd 3)
  g_loss : mg "loss" = some (.ref (He.ga K "loss"))
  d_emptied : FunD K "emptied" "emptied" (defArgs s_emptied) (defBody s_emptied) (defScope s_emptied) [] [] (He.ga K "emptied") (fd 4)
  g_emptied : mg "emptied" = some (.ref (He.ga K "emptied"))
  d_end_of : FunD K "end_of" "end_of" (defArgs s_end_of) (defBody s_end_of) (defScope s_end_of) [] [] (He.ga K "end_of") (fd 5)
  g_end_of : mg "end_of" = some (.ref (He.ga K "end_of"))
  d_stored_at : FunD K "stored_at" "stored_at" (defArgs s_stored_at) (defBody s_stored_at) (defScope s_stored_at) [] [] (He.ga K "stored_at") (fd 6)
  g_stored_at : mg "stored_at" = some (.ref (He.ga K "stored_at"))
  d_level_behind : FunD K "level_behind" "level_behind" (defArgs s_level_behind) (defBody s_level_behind) (defScope s_level_behind) [] [] (He.ga K "level_behind") (fd 7)
  g_level_behind : mg "level_behind" = some (.ref (He.ga K "level_behind"))
  d_turning : FunD K "turning" "turning" (defArgs s_turning) (defBody s_turning) (defScope s_turning) [] [] (He.ga K "turning") (fd 8)
  g_turning : mg "turning" = some (.ref (He.ga K "turning"))
  d_follows : FunD K "follows" "follows" (defArgs s_follows) (defBody s_follows) (defScope s_follows) [] [] (He.ga K "follows") (fd 9)
  g_follows : mg "follows" = some (.ref (He.ga K "follows"))
  d_reached : FunD K "reached" "reached" (defArgs s_reached) (defBody s_reached) (defScope s_reached) [] [] (He.ga K "reached") (fd 10)
  g_reached : mg "reached" = some (.ref (He.ga K "reached"))
  d_plans_by_set : FunD K "plans_by_set" "plans_by_set" (defArgs s_plans_by_set) (defBody s_plans_by_set) (defScope s_plans_by_set) [] [] (He.ga K "plans_by_set") (fd 11)
  g_plans_by_set : mg "plans_by_set" = some (.ref (He.ga K "plans_by_set"))
  d_sets_had : FunD K "sets_had" "sets_had" (defArgs s_sets_had) (defBody s_sets_had) (defScope s_sets_had) [] [] (He.ga K "sets_had") (fd 12)
  g_sets_had : mg "sets_had" = some (.ref (He.ga K "sets_had"))
  d_sum_of : FunD K "sum_of" "sum_of" (defArgs s_sum_of) (defBody s_sum_of) (defScope s_sum_of) [] [] (He.ga K "sum_of") (fd 13)
  g_sum_of : mg "sum_of" = some (.ref (He.ga K "sum_of"))
  d_line_of : FunD K "line_of" "line_of" (defArgs s_line_of) (defBody s_line_of) (defScope s_line_of) [] [] (He.ga K "line_of") (fd 14)
  g_line_of : mg "line_of" = some (.ref (He.ga K "line_of"))
  d_threshold : FunD K "threshold" "threshold" (defArgs s_threshold) (defBody s_threshold) (defScope s_threshold) [] [] (He.ga K "threshold") (fd 15)
  g_threshold : mg "threshold" = some (.ref (He.ga K "threshold"))
  d__law_lists : FunD K "_law_lists" "_law_lists" (defArgs s__law_lists) (defBody s__law_lists) (defScope s__law_lists) [] [] (He.ga K "_law_lists") (fd 16)
  g__law_lists : mg "_law_lists" = some (.ref (He.ga K "_law_lists"))
  d__law_store : FunD K "_law_store" "_law_store" (defArgs s__law_store) (defBody s__law_store) (defScope s__law_store) [] [] (He.ga K "_law_store") (fd 17)
  g__law_store : mg "_law_store" = some (.ref (He.ga K "_law_store"))
  d__law_turn : FunD K "_law_turn" "_law_turn" (defArgs s__law_turn) (defBody s__law_turn) (defScope s__law_turn) [] [] (He.ga K "_law_turn") (fd 18)
  g__law_turn : mg "_law_turn" = some (.ref (He.ga K "_law_turn"))
  d__law_wrong : FunD K "_law_wrong" "_law_wrong" (defArgs s__law_wrong) (defBody s__law_wrong) (defScope s__law_wrong) [] [] (He.ga K "_law_wrong") (fd 19)
  g__law_wrong : mg "_law_wrong" = some (.ref (He.ga K "_law_wrong"))
  d__law_worth : FunD K "_law_worth" "_law_worth" (defArgs s__law_worth) (defBody s__law_worth) (defScope s__law_worth) [] [] (He.ga K "_law_worth") (fd 20)
  g__law_worth : mg "_law_worth" = some (.ref (He.ga K "_law_worth"))
  d__law_is_whole : FunD K "_law_is_whole" "_law_is_whole" (defArgs s__law_is_whole) (defBody s__law_is_whole) (defScope s__law_is_whole) [] [] (He.ga K "_law_is_whole") (fd 21)
  g__law_is_whole : mg "_law_is_whole" = some (.ref (He.ga K "_law_is_whole"))
  d_law : FunD K "law" "law" (defArgs s_law) (defBody s_law) (defScope s_law) [] [] (He.ga K "law") (fd 22)
  g_law : mg "law" = some (.ref (He.ga K "law"))
  n_abs : mg "abs" = none
  n_bool : mg "bool" = none
  n_enumerate : mg "enumerate" = none
  n_int : mg "int" = none
  n_isinstance : mg "isinstance" = none
  n_len : mg "len" = none
  n_list : mg "list" = none
  n_max : mg "max" = none
  n_min : mg "min" = none
  n_range : mg "range" = none
  n_repr : mg "repr" = none
  n_sorted : mg "sorted" = none
  n_sum : mg "sum" = none
  n_tuple : mg "tuple" = none
section
variable {P : Program} {w : World} {K : PySem.W.Frag} {mg : Str → Option Value} {base : Heap} {fd : Nat → FuncData}
theorem Tx.b__law_draws (T : Tx K mg fd) : Binds K (fd 0) ["_law_script", "_law_count"] [] := T.d__law_draws.bindsN fun _ _ _ _ _ _ us hl => match us, hl with | [_, _], _ => rfl
theorem Tx.b__law_sky (T : Tx K mg fd) : Binds K (fd 1) ["_law_draws_here", "_law_most"] [] := T.d__law_sky.bindsN fun _ _ _ _ _ _ us hl => match us, hl with | [_, _], _ => rfl
theorem Tx.b__law_close_sky (T : Tx K mg fd) : Binds K (fd 2) ["_law_draws_here"] [] := T.d__law_close_sky.bindsN fun _ _ _ _ _ _ us hl => match us, hl with | [_], _ => rfl
theorem Tx.b_loss (T : Tx K mg fd) : Binds K (fd 3) ["ears", "since", "until"] [] := T.d_loss.bindsN fun _ _ _ _ _ _ us hl => match us, hl with | [_, _, _], _ => rfl
theorem Tx.b_end_of (T : Tx K mg fd) : Binds K (fd 5) ["sky", "look"] [] := T.d_end_of.bindsN fun _ _ _ _ _ _ us hl => match us, hl with | [_, _], _ => rfl
theorem Tx.b_stored_at (T : Tx K mg fd) : Binds K (fd 6) ["sky", "look", "amount", "time"] [] := T.d_stored_at.bindsN fun _ _ _ _ _ _ us hl => match us, hl with | [_, _, _, _], _ => rfl
theorem Tx.b_level_behind (T : Tx K mg fd) : Binds K (fd 7) ["sky", "last", "amount", "look"] [] := T.d_level_behind.bindsN fun _ _ _ _ _ _ us hl => match us, hl with | [_, _, _, _], _ => rfl
theorem Tx.b_turning (T : Tx K mg fd) : Binds K (fd 8) ["sky", "first", "second"] [] := T.d_turning.bindsN fun _ _ _ _ _ _ us hl => match us, hl with | [_, _, _], _ => rfl
theorem Tx.b_follows (T : Tx K mg fd) : Binds K (fd 9) ["sky", "first", "second"] [] := T.d_follows.bindsN fun _ _ _ _ _ _ us hl => match us, hl with | [_, _, _], _ => rfl
theorem Tx.b_reached (T : Tx K mg fd) : Binds K (fd 10) ["sky"] [] := T.d_reached.bindsN fun _ _ _ _ _ _ us hl => match us, hl with | [_], _ => rfl
theorem Tx.b_plans_by_set (T : Tx K mg fd) : Binds K (fd 11) ["sky"] [] := T.d_plans_by_set.bindsN fun _ _ _ _ _ _ us hl => match us, hl with | [_], _ => rfl
theorem Tx.b_sets_had (T : Tx K mg fd) : Binds K (fd 12) ["sky"] [] := T.d_sets_had.bindsN fun _ _ _ _ _ _ us hl => match us, hl with | [_], _ => rfl
theorem Tx.b_sum_of (T : Tx K mg fd) : Binds K (fd 13) ["sky", "wishes"] [] := T.d_sum_of.bindsN fun _ _ _ _ _ _ us hl => match us, hl with | [_, _], _ => rfl
theorem Tx.b_line_of (T : Tx K mg fd) : Binds K (fd 14) ["sky", "wish"] [] := T.d_line_of.bindsN fun _ _ _ _ _ _ us hl => match us, hl with | [_, _], _ => rfl
theorem Tx.b_threshold (T : Tx K mg fd) : Binds K (fd 15) ["sky", "wish"] [] := T.d_threshold.bindsN fun _ _ _ _ _ _ us hl => match us, hl with | [_, _], _ => rfl
theorem Tx.b__law_lists (T : Tx K mg fd) : Binds K (fd 16) ["_law_sky_here"] [] := T.d__law_lists.bindsN fun _ _ _ _ _ _ us hl => match us, hl with | [_], _ => rfl
theorem Tx.b__law_store (T : Tx K mg fd) : Binds K (fd 17) ["_law_sky_here", "_law_names", "_law_time"] [] := T.d__law_store.bindsN fun _ _ _ _ _ _ us hl => match us, hl with | [_, _, _], _ => rfl
theorem Tx.b__law_turn (T : Tx K mg fd) : Binds K (fd 18) ["_law_sky_here", "_law_first", "_law_second"] [] := T.d__law_turn.bindsN fun _ _ _ _ _ _ us hl => match us, hl with | [_, _, _], _ => rfl
theorem Tx.b__law_wrong (T : Tx K mg fd) : Binds K (fd 19) ["_law_sky_here", "_law_names"] [] := T.d__law_wrong.bindsN fun _ _ _ _ _ _ us hl => match us, hl with | [_, _], _ => rfl
theorem Tx.b__law_worth (T : Tx K mg fd) : Binds K (fd 20) ["_law_sky_here", "_law_names"] [] := T.d__law_worth.bindsN fun _ _ _ _ _ _ us hl => match us, hl with | [_, _], _ => rfl
theorem Tx.b__law_is_whole (T : Tx K mg fd) : Binds K (fd 21) ["_law_value"] [] := T.d__law_is_whole.bindsN fun _ _ _ _ _ _ us hl => match us, hl with | [_], _ => rfl
theorem Tx.b_law (T : Tx K mg fd) : Binds K (fd 22) ["_law_script"] [] := T.d_law.bindsN fun _ _ _ _ _ _ us hl => match us, hl with | [_], _ => rfl
theorem Tx.kb_emptied_2 (T : Tx K mg fd) : KBn K (fd 4) ["sky", "amount", "since", "until"] 2 ["since", "until"] (fun us ws => us ++ ws) (fun vs zs => vs ++ zs) := kb_of T.d_emptied 2 ["since", "until"] fun _ _ _ _ _ _ us ws h1 h2 => match us, ws, h1, h2 with | [_, _], [_, _], _, _ => rfl
/-! _law_draws -/
def F__law_draws : FS := (sSeq (sSetO 2 (lLc (iSeq (fV 0)) [3] (gNm 3) gYes (fV 3)))
    (sSeq (sSetO 4 (lDisp aNil))
    (sSeq (sFor (iRng1 (fV 1)) (gNm 5) (sSeq (sSet 6 (fC (.int 0)))
    (sSeq (sIf (gT (f2 gtD (f1 lenD (fVp 2)) (fC (.int 0)))) (sSeq (sSet 7 (f2 modD (f1 intD (fV 5)) (f1 lenD (fVp 2))))
    (sIf (gT (f2 geD (f2 ixD (fVp 2) (fV 7)) (f2 powD (fC (.int 10)) (fC (.int 18))))) (sSeq (sSet 6 (f2 modD (f1 intD (f2 ixD (fVp 2) (fV 7))) (fC (.int 1000))))
    (sPut 2 (fV 7) (f2 divD (f2 ixD (fVp 2) (fV 7)) (fC (.int 1000))))) (sSeq (sSet 8 (f2 modD (f1 intD (f2 addD (f2 addD (f2 mulD (f2 ixD (fVp 2) (fV 7)) (fC (.int 48271))) (f2 mulD (fV 5) (fC (.int 69621)))) (fC (.int 11)))) (fC (.int 2147483647))))
    (sSeq (sSet 8 (f2 modD (f1 intD (f2 addD (f2 mulD (fV 8) (fC (.int 16807))) (fV 7))) (fC (.int 2147483629))))
    (sSet 6 (f2 modD (f1 intD (f2 divD (fV 8) (fC (.int 7)))) (fC (.int 1000)))))))) sNext)
    (sApp 4 (fV 6)))))
    (sRet (fV 4)))))
def R__law_draws : List D → Option D := runP 9 F__law_draws
theorem sc__law_draws : FnScope ["_law_script", "_law_count", "_law_rests", "_law_cell", "_law_draws_here", "_law_k", "_law_value", "_law_at", "_law_mixed"] ["_law_script", "_law_count"] (defScope s__law_draws) := ⟨rfl, rfl, rfl, by decide +kernel, rfl, by decide +kernel, by decide +kernel⟩
theorem B__law_draws (T : Tx K mg fd) : BodyOk P w K mg base 0 ["_law_script", "_law_count", "_law_rests", "_law_cell", "_law_draws_here", "_law_k", "_law_value", "_law_at", "_law_mixed"] "_law_draws" (defScope s__law_draws) (He.ga K "_law_draws") (defBody s__law_draws) F__law_draws := by
  intro cv A out s H E pl hr
  unfold F__law_draws
  exact (ss_cons (ss_lcO (i := 2) (own := [("_law_cell", 3)]) pl rfl rfl (sw_true rfl rfl rfl (by decide +kernel)) (si_seq (se_var 0)) (blkOk_by (by kernel_rfl)) (by decide) (fun _ _ _ _ _ pl => (sg_name (i := 3) pl.nd rfl (by first | exact Or.inl rfl | exact Or.inr rfl))) (fun _ _ _ _ _ pl => sts_nil) (fun _ _ _ _ _ pl => se_any (se_var 3)))
    (ss_cons (ss_setO (i := 4) pl.nd rfl (by first | exact Or.inl rfl | exact Or.inr rfl) (SL.sl_list (k := 0) sa_nil))
    (ss_cons (ss_for pl.own pl.calm (si_range1 (by rfl) T.n_range (se_var 1)) (sg_name (i := 5) pl.nd rfl (by first | exact Or.inl rfl | exact Or.inr rfl)) (ss_cons (ss_set (i := 6) pl.nd rfl (by first | exact Or.inl rfl | exact Or.inr rfl) se_int)
    (ss_cons (ss_if (st_cmp op_gt o_gt (se_callB1 call_lenA c_len (by rfl) T.n_len (sp_var 2)) se_int (nomark _)) (ss_cons (ss_set (i := 7) pl.nd rfl (by first | exact Or.inl rfl | exact Or.inr rfl) (se_op2 op_modN o_mod (se_callT1 call_int1 c_int (by rfl) T.n_int (sp_of (se_var 5))) (se_callB1 call_lenA c_len (by rfl) T.n_len (sp_var 2))))
    (ss_one (ss_if (st_cmp op_ge o_ge (se_ixp (sp_var 2) (sp_of (se_var 7))) (se_op2 op_pow o_pow se_int se_int) (nomark _)) (ss_cons (ss_set (i := 6) pl.nd rfl (by first | exact Or.inl rfl | exact Or.inr rfl) (se_op2 op_modN o_mod (se_callT1 call_int1 c_int (by rfl) T.n_int (sp_of (se_ixp (sp_var 2) (sp_of (se_var 7))))) se_int))
    (ss_one (ss_put 2 (se_op2 op_fdivN o_div (se_ixp (sp_var 2) (sp_of (se_var 7))) se_int) (se_var 7)))) (ss_cons (ss_set (i := 8) pl.nd rfl (by first | exact Or.inl rfl | exact Or.inr rfl) (se_op2 op_modN o_mod (se_callT1 call_int1 c_int (by rfl) T.n_int (sp_of (se_op2 op_addD o_add (se_op2 op_addD o_add (se_op2 op_mul o_mul (se_ixp (sp_var 2) (sp_of (se_var 7))) se_int) (se_op2 op_mul o_mul (se_var 5) se_int)) se_int))) se_int))
    (ss_cons (ss_set (i := 8) pl.nd rfl (by first | exact Or.inl rfl | exact Or.inr rfl) (se_op2 op_modN o_mod (se_callT1 call_int1 c_int (by rfl) T.n_int (sp_of (se_op2 op_addD o_add (se_op2 op_mul o_mul (se_var 8) se_int) (se_var 7)))) se_int))
    (ss_one (ss_set (i := 6) pl.nd rfl (by first | exact Or.inl rfl | exact Or.inr rfl) (se_op2 op_modN o_mod (se_callT1 call_int1 c_int (by rfl) T.n_int (sp_of (se_op2 op_fdivN o_div (se_var 8) se_int))) se_int)))))))) ss_nil)
    (ss_one (ss_app (pe_bm PySem.F.plainAttrs_list PySem.F.slot_list_append PySem.F.type_list_append mt_append (pv 4) (pa_cons (se_var 6) pa_nil)))))))
    (ss_one (ss_ret (se_var 4))))))
theorem O__law_draws (T : Tx K mg fd) : FnG P w K mg base CX0 1 (He.ga K "_law_draws") (fd 0) ["_law_script", "_law_count"] (spP K 2 R__law_draws) := FnG.pure T.d__law_draws sc__law_draws (B__law_draws T)
/-! _law_sky -/
def F__law_sky : FS := (sSeq (sSet 2 (f2 addD (fC (.int 1)) (f2 modD (f1 intD (f2 ixD (fV 0) (fC (.int 0)))) (fC (.int 4)))))
    (sSeq (sSet 3 (fL (lLc (iRng1 (fV 2)) [4] (gNm 4) gYes (f2 modD (f1 intD (f2 ixD (fV 0) (f2 addD (fC (.int 1)) (fV 4)))) (fC (.int 10))))))
    (sSeq (sSetO 5 (lDisp aNil))
    (sSeq (sSet 6 (fC (.int 0)))
    (sSeq (sFor (iRng1 (f2 modD (f1 intD (f2 ixD (fV 0) (fC (.int 9)))) (fC (.int 3)))) (gNm 4) (sSeq (sSet 7 (f2 addD (fV 6) (f2 modD (f1 intD (f2 ixD (fV 0) (f2 addD (fC (.int 10)) (f2 mulD (fC (.int 3)) (fV 4))))) (fC (.int 6)))))
    (sSeq (sSet 6 (f2 addD (f2 addD (fV 7) (fC (.int 1))) (f2 modD (f1 intD (f2 ixD (fV 0) (f2 addD (fC (.int 11)) (f2 mulD (fC (.int 3)) (fV 4))))) (fC (.int 5)))))
    (sApp 5 (fTup (aCons (fV 7) (aCons (fV 6) (aCons (f2 addD (fC (.int 1)) (f2 modD (f1 intD (f2 ixD (fV 0) (f2 addD (fC (.int 12)) (f2 mulD (fC (.int 3)) (fV 4))))) (fC (.int 3)))) aNil))))))))
    (sSeq (sSetO 8 (lDisp aNil))
    (sSeq (sSet 9 (fC (.int 0)))
    (sSeq (sFor (iRng1 (f2 modD (f1 intD (f2 ixD (fV 0) (fC (.int 16)))) (f2 addD (fV 1) (fC (.int 1))))) (gNm 4) (sSeq (sSet 9 (f2 addD (fV 9) (f2 modD (f1 intD (f2 ixD (fV 0) (f2 addD (fC (.int 20)) (f2 mulD (fC (.int 5)) (fV 4))))) (fC (.int 4)))))
    (sSeq (sSet 10 (f2 subD (f2 modD (f1 intD (f2 ixD (fV 0) (f2 addD (fC (.int 23)) (f2 mulD (fC (.int 5)) (fV 4))))) (fC (.int 61))) (fC (.int 30))))
    (sApp 8 (fTup (aCons (f2 modD (f1 intD (f2 ixD (fV 0) (f2 addD (fC (.int 21)) (f2 mulD (fC (.int 5)) (fV 4))))) (fV 2)) (aCons (fV 9) (aCons (f2 addD (fC (.int 1)) (f2 modD (f1 intD (f2 ixD (fV 0) (f2 addD (fC (.int 22)) (f2 mulD (fC (.int 5)) (fV 4))))) (fC (.int 3)))) (aCons (fV 10) (aCons (f2 addD (fC (.int 1)) (f2 modD (f1 intD (f2 ixD (fV 0) (f2 addD (fC (.int 24)) (f2 mulD (fC (.int 5)) (fV 4))))) (fC (.int 4)))) aNil))))))))))
    (sRet (fTup (aCons (fV 8) (aCons (fV 3) (aCons (fV 5) (aCons (f2 addD (fC (.int 2)) (f2 modD (f1 intD (f2 ixD (fV 0) (fC (.int 7)))) (fC (.int 7)))) (aCons (f2 addD (fC (.int 1)) (f2 modD (f1 intD (f2 ixD (fV 0) (fC (.int 8)))) (fC (.int 30)))) aNil)))))))))))))))
def R__law_sky : List D → Option D := runP 11 F__law_sky
theorem sc__law_sky : FnScope ["_law_draws_here", "_law_most", "_law_wishes", "_law_worths", "_law_k", "_law_ears", "_law_since", "_law_first", "_law_looks", "_law_start", "_law_angle"] ["_law_draws_here", "_law_most"] (defScope s__law_sky) := ⟨rfl, rfl, rfl, by decide +kernel, rfl, by decide +kernel, by decide +kernel⟩
theorem B__law_sky (T : Tx K mg fd) : BodyOk P w K mg base 0 ["_law_draws_here", "_law_most", "_law_wishes", "_law_worths", "_law_k", "_law_ears", "_law_since", "_law_first", "_law_looks", "_law_start", "_law_angle"] "_law_sky" (defScope s__law_sky) (He.ga K "_law_sky") (defBody s__law_sky) F__law_sky := by
  intro cv A out s H E pl hr
  unfold F__law_sky
  exact (ss_cons (ss_set (i := 2) pl.nd rfl (by first | exact Or.inl rfl | exact Or.inr rfl) (se_op2 op_addD o_add se_int (se_op2 op_modN o_mod (se_callT1 call_int1 c_int (by rfl) T.n_int (sp_of (se_ix (se_var 0) se_int))) se_int)))
    (ss_cons (ss_lc (i := 3) (own := [("_law_k", 4)]) pl rfl rfl (sw_true rfl rfl rfl (by decide +kernel)) (si_range1 (by rfl) T.n_range (se_var 2)) (blkOk_by (by kernel_rfl)) (by decide) (fun _ _ _ _ _ pl => (sg_name (i := 4) pl.nd rfl (by first | exact Or.inl rfl | exact Or.inr rfl))) (fun _ _ _ _ _ pl => sts_nil) (fun _ _ _ _ _ pl => se_any (se_op2 op_modN o_mod (se_callT1 call_int1 c_int (by rfl) T.n_int (sp_of (se_ix (se_var 0) (se_op2 op_addD o_add se_int (se_var 4))))) se_int)))
    (ss_cons (ss_setO (i := 5) pl.nd rfl (by first | exact Or.inl rfl | exact Or.inr rfl) (SL.sl_list (k := 0) sa_nil))
    (ss_cons (ss_set (i := 6) pl.nd rfl (by first | exact Or.inl rfl | exact Or.inr rfl) se_int)
    (ss_cons (ss_for pl.own pl.calm (si_range1 (by rfl) T.n_range (se_op2 op_modN o_mod (se_callT1 call_int1 c_int (by rfl) T.n_int (sp_of (se_ix (se_var 0) se_int))) se_int)) (sg_name (i := 4) pl.nd rfl (by first | exact Or.inl rfl | exact Or.inr rfl)) (ss_cons (ss_set (i := 7) pl.nd rfl (by first | exact Or.inl rfl | exact Or.inr rfl) (se_op2 op_addD o_add (se_var 6) (se_op2 op_modN o_mod (se_callT1 call_int1 c_int (by rfl) T.n_int (sp_of (se_ix (se_var 0) (se_op2 op_addD o_add se_int (se_op2 op_mul o_mul se_int (se_var 4)))))) se_int)))
    (ss_cons (ss_set (i := 6) pl.nd rfl (by first | exact Or.inl rfl | exact Or.inr rfl) (se_op2 op_addD o_add (se_op2 op_addD o_add (se_var 7) se_int) (se_op2 op_modN o_mod (se_callT1 call_int1 c_int (by rfl) T.n_int (sp_of (se_ix (se_var 0) (se_op2 op_addD o_add se_int (se_op2 op_mul o_mul se_int (se_var 4)))))) se_int)))
    (ss_one (ss_app (pe_bm PySem.F.plainAttrs_list PySem.F.slot_list_append PySem.F.type_list_append mt_append (pv 5) (pa_cons (se_tup (sa_cons (se_var 7) (sa_cons (se_var 6) (sa_cons (se_op2 op_addD o_add se_int (se_op2 op_modN o_mod (se_callT1 call_int1 c_int (by rfl) T.n_int (sp_of (se_ix (se_var 0) (se_op2 op_addD o_add se_int (se_op2 op_mul o_mul se_int (se_var 4)))))) se_int)) sa_nil)))) pa_nil)))))))
    (ss_cons (ss_setO (i := 8) pl.nd rfl (by first | exact Or.inl rfl | exact Or.inr rfl) (SL.sl_list (k := 0) sa_nil))
    (ss_cons (ss_set (i := 9) pl.nd rfl (by first | exact Or.inl rfl | exact Or.inr rfl) se_int)
    (ss_cons (ss_for pl.own pl.calm (si_range1 (by rfl) T.n_range (se_op2 op_modN o_mod (se_callT1 call_int1 c_int (by rfl) T.n_int (sp_of (se_ix (se_var 0) se_int))) (se_op2 op_addD o_add (se_var 1) se_int))) (sg_name (i := 4) pl.nd rfl (by first | exact Or.inl rfl | exact Or.inr rfl)) (ss_cons (ss_set (i := 9) pl.nd rfl (by first | exact Or.inl rfl | exact Or.inr rfl) (se_op2 op_addD o_add (se_var 9) (se_op2 op_modN o_mod (se_callT1 call_int1 c_int (by rfl) T.n_int (sp_of (se_ix (se_var 0) (se_op2 op_addD o_add se_int (se_op2 op_mul o_mul se_int (se_var 4)))))) se_int)))
    (ss_cons (ss_set (i := 10) pl.nd rfl (by first | exact Or.inl rfl | exact Or.inr rfl) (se_op2 op_sub o_sub (se_op2 op_modN o_mod (se_callT1 call_int1 c_int (by rfl) T.n_int (sp_of (se_ix (se_var 0) (se_op2 op_addD o_add se_int (se_op2 op_mul o_mul se_int (se_var 4)))))) se_int) se_int))
    (ss_one (ss_app (pe_bm PySem.F.plainAttrs_list PySem.F.slot_list_append PySem.F.type_list_append mt_append (pv 8) (pa_cons (se_tup (sa_cons (se_op2 op_modN o_mod (se_callT1 call_int1 c_int (by rfl) T.n_int (sp_of (se_ix (se_var 0) (se_op2 op_addD o_add se_int (se_op2 op_mul o_mul se_int (se_var 4)))))) (se_var 2)) (sa_cons (se_var 9) (sa_cons (se_op2 op_addD o_add se_int (se_op2 op_modN o_mod (se_callT1 call_int1 c_int (by rfl) T.n_int (sp_of (se_ix (se_var 0) (se_op2 op_addD o_add se_int (se_op2 op_mul o_mul se_int (se_var 4)))))) se_int)) (sa_cons (se_var 10) (sa_cons (se_op2 op_addD o_add se_int (se_op2 op_modN o_mod (se_callT1 call_int1 c_int (by rfl) T.n_int (sp_of (se_ix (se_var 0) (se_op2 op_addD o_add se_int (se_op2 op_mul o_mul se_int (se_var 4)))))) se_int)) sa_nil)))))) pa_nil)))))))
    (ss_one (ss_ret (se_tup (sa_cons (se_var 8) (sa_cons (se_var 3) (sa_cons (se_var 5) (sa_cons (se_op2 op_addD o_add se_int (se_op2 op_modN o_mod (se_callT1 call_int1 c_int (by rfl) T.n_int (sp_of (se_ix (se_var 0) se_int))) se_int)) (sa_cons (se_op2 op_addD o_add se_int (se_op2 op_modN o_mod (se_callT1 call_int1 c_int (by rfl) T.n_int (sp_of (se_ix (se_var 0) se_int))) se_int)) sa_nil))))))))))))))))
theorem O__law_sky (T : Tx K mg fd) : FnG P w K mg base CX0 1 (He.ga K "_law_sky") (fd 1) ["_law_draws_here", "_law_most"] (spP K 2 R__law_sky) := FnG.pure T.d__law_sky sc__law_sky (B__law_sky T)
/-! _law_close_sky -/
def _law_close_sky_c1 : FA := (lLc (iRng1 (f1 lenD (fV 1))) [11] (gNm 11) gYes (f2 addD (fTup (aCons (f2 modD (f1 intD (f2 addD (f2 ixD (f2 ixD (fV 1) (fV 11)) (fC (.int 0))) (fV 11))) (fC (.int 6))) aNil)) (fCut (f2 ixD (fV 1) (fV 11)) (oSome (fC (.int 1))) oNone)))
def _law_close_sky_c2 : FA := (lLc (iRng1 (fC (.int 6))) [11] (gNm 11) gYes (f2 modD (f1 intD (f2 ixD (fV 0) (f2 addD (fC (.int 53)) (fV 11)))) (fC (.int 10))))
def _law_close_sky_c3 : FA := (lLc (iSeq (fV 1)) [6, 7, 8, 9, 10] (gTp 5 (gsCons (gNm 6) (gsCons (gNm 7) (gsCons (gNm 8) (gsCons (gNm 9) (gsCons (gNm 10) gsNil)))))) gYes (fTup (aCons (fV 6) (aCons (f2 divD (fV 7) (fC (.int 2))) (aCons (fV 8) (aCons (fV 9) (aCons (fV 10) aNil)))))))
def F__law_close_sky (c__law_sky : List D → Option D) : FS := (sT (sAsg (fCall c__law_sky (aCons (fV 0) (aCons (fC (.int 6)) aNil))) (gTp 5 (gsCons (gNm 1) (gsCons (gNm 2) (gsCons (gNm 3) (gsCons (gNm 4) (gsCons (gNm 5) gsNil)))))))
    (sT (sIf (gT (f2 eqD (f2 modD (f1 intD (f2 ixD (fV 0) (fC (.int 50)))) (fC (.int 2))) (fC (.int 0)))) (sSet 1 (fL (_law_close_sky_c3))) sNext)
    (sT (sIf (gT (f2 eqD (f2 modD (f1 intD (f2 ixD (fV 0) (fC (.int 52)))) (fC (.int 3))) (fC (.int 0)))) (sT (sSet 2 (fL (_law_close_sky_c2)))
    (sSet 1 (fL (_law_close_sky_c1)))) sNext)
    (sRet (fTup (aCons (fV 1) (aCons (fV 2) (aCons (fV 3) (aCons (f2 addD (fC (.int 2)) (f2 modD (f1 intD (f2 ixD (fV 0) (fC (.int 51)))) (fC (.int 5)))) (aCons (fV 5) aNil))))))))))
def R__law_close_sky : List D → Option D := runP 12 (F__law_close_sky R__law_sky)
theorem sc__law_close_sky : FnScope ["_law_draws_here", "_law_looks", "_law_worths", "_law_ears", "_law_capacity", "_law_turn_here", "_law_wish", "_law_start", "_law_length", "_law_angle", "_law_size", "_law_k"] ["_law_draws_here"] (defScope s__law_close_sky) := ⟨rfl, rfl, rfl, by decide +kernel, rfl, by decide +kernel, by decide +kernel⟩
theorem B__law_close_sky (T : Tx K mg fd) : BodyOk P w K mg base 1 ["_law_draws_here", "_law_looks", "_law_worths", "_law_ears", "_law_capacity", "_law_turn_here", "_law_wish", "_law_start", "_law_length", "_law_angle", "_law_size", "_law_k"] "_law_close_sky" (defScope s__law_close_sky) (He.ga K "_law_close_sky") (defBody s__law_close_sky) (F__law_close_sky R__law_sky) := by
  intro cv A out s H E pl hr
  unfold F__law_close_sky _law_close_sky_c3 _law_close_sky_c2 _law_close_sky_c1
  exact (ss_then (ss_asg (se_call ((O__law_sky T).up (by decide)) pl hr (by rfl) T.g__law_sky T.d__law_sky.kp T.b__law_sky (sa_cons (se_var 0) (sa_cons se_int sa_nil)) (aCons_len (aCons_len aNil_len))) (sg_tup pl.calm (sgs_cons (sg_name (i := 1) pl.nd rfl (by first | exact Or.inl rfl | exact Or.inr rfl)) (sgs_cons (sg_name (i := 2) pl.nd rfl (by first | exact Or.inl rfl | exact Or.inr rfl)) (sgs_cons (sg_name (i := 3) pl.nd rfl (by first | exact Or.inl rfl | exact Or.inr rfl)) (sgs_cons (sg_name (i := 4) pl.nd rfl (by first | exact Or.inl rfl | exact Or.inr rfl)) (sgs_cons (sg_name (i := 5) pl.nd rfl (by first | exact Or.inl rfl | exact Or.inr rfl)) sgs_nil)))))))
    (ss_then (ss_if (st_cmp (op_eqD (hu64 pl)) o_eq (se_op2 op_modN o_mod (se_callT1 call_int1 c_int (by rfl) T.n_int (sp_of (se_ix (se_var 0) se_int))) se_int) se_int (nomark _)) (ss_one (ss_set (i := 1) pl.nd rfl (by first | exact Or.inl rfl | exact Or.inr rfl) (se_of_new (sl_lc (own := [("_law_wish", 6), ("_law_start", 7), ("_law_length", 8), ("_law_angle", 9), ("_law_size", 10)]) pl (si_seq (se_var 1)) (blkOk_by (by kernel_rfl)) (by decide) (fun _ _ _ _ _ pl => (sg_tup pl.calm (sgs_cons (sg_name (i := 6) pl.nd rfl (by first | exact Or.inl rfl | exact Or.inr rfl)) (sgs_cons (sg_name (i := 7) pl.nd rfl (by first | exact Or.inl rfl | exact Or.inr rfl)) (sgs_cons (sg_name (i := 8) pl.nd rfl (by first | exact Or.inl rfl | exact Or.inr rfl)) (sgs_cons (sg_name (i := 9) pl.nd rfl (by first | exact Or.inl rfl | exact Or.inr rfl)) (sgs_cons (sg_name (i := 10) pl.nd rfl (by first | exact Or.inl rfl | exact Or.inr rfl)) sgs_nil))))))) (fun _ _ _ _ _ pl => sts_nil) (fun _ _ _ _ _ pl => se_any (se_tup (sa_cons (se_var 6) (sa_cons (se_op2 op_fdivN o_div (se_var 7) se_int) (sa_cons (se_var 8) (sa_cons (se_var 9) (sa_cons (se_var 10) sa_nil))))))))))) ss_nil)
    (ss_then (ss_if (st_cmp (op_eqD (hu64 pl)) o_eq (se_op2 op_modN o_mod (se_callT1 call_int1 c_int (by rfl) T.n_int (sp_of (se_ix (se_var 0) se_int))) se_int) se_int (nomark _)) (ss_then (ss_lc (i := 2) (own := [("_law_k", 11)]) pl rfl rfl (sw_true rfl rfl rfl (by decide +kernel)) (si_range1 (by rfl) T.n_range se_int) (blkOk_by (by kernel_rfl)) (by decide) (fun _ _ _ _ _ pl => (sg_name (i := 11) pl.nd rfl (by first | exact Or.inl rfl | exact Or.inr rfl))) (fun _ _ _ _ _ pl => sts_nil) (fun _ _ _ _ _ pl => se_any (se_op2 op_modN o_mod (se_callT1 call_int1 c_int (by rfl) T.n_int (sp_of (se_ix (se_var 0) (se_op2 op_addD o_add se_int (se_var 11))))) se_int)))
    (ss_one (ss_set (i := 1) pl.nd rfl (by first | exact Or.inl rfl | exact Or.inr rfl) (se_of_new (sl_lc (own := [("_law_k", 11)]) pl (si_range1 (by rfl) T.n_range (se_callB1 call_lenA c_len (by rfl) T.n_len (sp_of (se_var 1)))) (blkOk_by (by kernel_rfl)) (by decide) (fun _ _ _ _ _ pl => (sg_name (i := 11) pl.nd rfl (by first | exact Or.inl rfl | exact Or.inr rfl))) (fun _ _ _ _ _ pl => sts_nil) (fun _ _ _ _ _ pl => se_any (se_op2 op_addD o_add (se_tup (sa_cons (se_op2 op_modN o_mod (se_callT1 call_int1 c_int (by rfl) T.n_int (sp_of (se_op2 op_addD o_add (se_ix (se_ix (se_var 1) (se_var 11)) se_int) (se_var 11)))) se_int) sa_nil)) (se_cut (sp_of (se_ix (se_var 1) (se_var 11))) (so_some se_int) so_none)))))))) ss_nil)
    (ss_one (ss_ret (se_tup (sa_cons (se_var 1) (sa_cons (se_var 2) (sa_cons (se_var 3) (sa_cons (se_op2 op_addD o_add se_int (se_op2 op_modN o_mod (se_callT1 call_int1 c_int (by rfl) T.n_int (sp_of (se_ix (se_var 0) se_int))) se_int)) (sa_cons (se_var 5) sa_nil)))))))))))
theorem O__law_close_sky (T : Tx K mg fd) : FnG P w K mg base CX0 2 (He.ga K "_law_close_sky") (fd 2) ["_law_draws_here"] (spP K 1 R__law_close_sky) := FnG.pure T.d__law_close_sky sc__law_close_sky (B__law_close_sky T)
/-! loss -/
def F_loss : FS := (sSeq (sSet 3 (fC (.int 0)))
    (sSeq (sFor (iSeq (fV 0)) (gTp 3 (gsCons (gNm 4) (gsCons (gNm 5) (gsCons (gNm 6) gsNil)))) (sAug 3 iaddD (f2 mulD (fV 6) (f2 max2D (fC (.int 0)) (f2 subD (f2 min2D (fV 2) (fV 5)) (f2 max2D (fV 1) (fV 4)))))))
    (sRet (fV 3))))
def R_loss : List D → Option D := runP 7 F_loss
theorem sc_loss : FnScope ["ears", "since", "until", "found", "first", "last", "rate"] ["ears", "since", "until"] (defScope s_loss) := ⟨rfl, rfl, rfl, by decide +kernel, rfl, by decide +kernel, by decide +kernel⟩
theorem B_loss (T : Tx K mg fd) : BodyOk P w K mg base 0 ["ears", "since", "until", "found", "first", "last", "rate"] "loss" (defScope s_loss) (He.ga K "loss") (defBody s_loss) F_loss := by
  intro cv A out s H E pl hr
  unfold F_loss
  exact (ss_cons (ss_set (i := 3) pl.nd rfl (by first | exact Or.inl rfl | exact Or.inr rfl) se_int)
    (ss_cons (ss_for pl.own pl.calm (si_seq (se_var 0)) (sg_tup pl.calm (sgs_cons (sg_name (i := 4) pl.nd rfl (by first | exact Or.inl rfl | exact Or.inr rfl)) (sgs_cons (sg_name (i := 5) pl.nd rfl (by first | exact Or.inl rfl | exact Or.inr rfl)) (sgs_cons (sg_name (i := 6) pl.nd rfl (by first | exact Or.inl rfl | exact Or.inr rfl)) sgs_nil)))) (ss_one (ss_aug (i := 3) pl.nd rfl (by first | exact Or.inl rfl | exact Or.inr rfl) (se_op2 op_mul o_mul (se_var 6) (se_callB2 (call_max2 pl.calm) c_max2 (by rfl) T.n_max se_int (se_op2 op_sub o_sub (se_callB2 (call_min2 pl.calm) c_min2 (by rfl) T.n_min (se_var 2) (se_var 5)) (se_callB2 (call_max2 pl.calm) c_max2 (by rfl) T.n_max (se_var 1) (se_var 4))))) ip_add o_iadd)))
    (ss_one (ss_ret (se_var 3)))))
theorem O_loss (T : Tx K mg fd) : FnG P w K mg base CX0 1 (He.ga K "loss") (fd 3) ["ears", "since", "until"] (spP K 3 R_loss) := FnG.pure T.d_loss sc_loss (B_loss T)
/-! emptied -/
def F_emptied : FS := (sRet (f2 max2D (fC (.int 0)) (f2 subD (fV 1) (fCall R_loss (aCons (f2 ixD (fV 0) (fC (.int 2))) (aCons (fV 2) (aCons (fV 3) aNil)))))))
def R_emptied : List D → Option D := runP 4 F_emptied
theorem sc_emptied : FnScope ["sky", "amount", "since", "until"] ["sky", "amount", "since", "until"] (defScope s_emptied) := ⟨rfl, rfl, rfl, by decide +kernel, rfl, by decide +kernel, by decide +kernel⟩
theorem B_emptied (T : Tx K mg fd) : BodyOk P w K mg base 1 ["sky", "amount", "since", "until"] "emptied" (defScope s_emptied) (He.ga K "emptied") (defBody s_emptied) F_emptied := by
  intro cv A out s H E pl hr
  unfold F_emptied
  exact (ss_one (ss_ret (se_callB2 (call_max2 pl.calm) c_max2 (by rfl) T.n_max se_int (se_op2 op_sub o_sub (se_var 1) (se_call ((O_loss T).up (by decide)) pl hr (by rfl) T.g_loss T.d_loss.kp T.b_loss (sa_cons (se_ix (se_var 0) se_int) (sa_cons (se_var 2) (sa_cons (se_var 3) sa_nil))) (aCons_len (aCons_len (aCons_len aNil_len))))))))
theorem O_emptied (T : Tx K mg fd) : FnG P w K mg base CX0 2 (He.ga K "emptied") (fd 4) ["sky", "amount", "since", "until"] (spP K 4 R_emptied) := FnG.pure T.d_emptied sc_emptied (B_emptied T)
/-! end_of -/
def F_end_of : FS := (sSeq (sAsg (f2 ixD (f2 ixD (fV 0) (fC (.int 0))) (fV 1)) (gTp 5 (gsCons (gNm 2) (gsCons (gNm 3) (gsCons (gNm 4) (gsCons (gNm 5) (gsCons (gNm 6) gsNil)))))))
    (sRet (f2 addD (fV 3) (fV 4))))
def R_end_of : List D → Option D := runP 7 F_end_of
theorem sc_end_of : FnScope ["sky", "look", "wish", "start", "length", "angle", "size"] ["sky", "look"] (defScope s_end_of) := ⟨rfl, rfl, rfl, by decide +kernel, rfl, by decide +kernel, by decide +kernel⟩
theorem B_end_of (T : Tx K mg fd) : BodyOk P w K mg base 0 ["sky", "look", "wish", "start", "length", "angle", "size"] "end_of" (defScope s_end_of) (He.ga K "end_of") (defBody s_end_of) F_end_of := by
  intro cv A out s H E pl hr
  unfold F_end_of
  exact (ss_cons (ss_asg (se_ix (se_ix (se_var 0) se_int) (se_var 1)) (sg_tup pl.calm (sgs_cons (sg_name (i := 2) pl.nd rfl (by first | exact Or.inl rfl | exact Or.inr rfl)) (sgs_cons (sg_name (i := 3) pl.nd rfl (by first | exact Or.inl rfl | exact Or.inr rfl)) (sgs_cons (sg_name (i := 4) pl.nd rfl (by first | exact Or.inl rfl | exact Or.inr rfl)) (sgs_cons (sg_name (i := 5) pl.nd rfl (by first | exact Or.inl rfl | exact Or.inr rfl)) (sgs_cons (sg_name (i := 6) pl.nd rfl (by first | exact Or.inl rfl | exact Or.inr rfl)) sgs_nil)))))))
    (ss_one (ss_ret (se_op2 op_addD o_add (se_var 3) (se_var 4)))))
theorem O_end_of (T : Tx K mg fd) : FnG P w K mg base CX0 1 (He.ga K "end_of") (fd 5) ["sky", "look"] (spP K 2 R_end_of) := FnG.pure T.d_end_of sc_end_of (B_end_of T)
/-! stored_at -/
def F_stored_at : FS := (sSeq (sIf (gT (f2 isD (fV 1) (fC .none))) (sRet (fC (.int 0))) sNext)
    (sRet (fCall R_emptied (aApp (aCons (fV 0) (aCons (fV 2) aNil)) (aCons (fCall R_end_of (aCons (fV 0) (aCons (fV 1) aNil))) (aCons (fV 3) aNil))))))
def R_stored_at : List D → Option D := runP 4 F_stored_at
theorem sc_stored_at : FnScope ["sky", "look", "amount", "time"] ["sky", "look", "amount", "time"] (defScope s_stored_at) := ⟨rfl, rfl, rfl, by decide +kernel, rfl, by decide +kernel, by decide +kernel⟩
theorem B_stored_at (T : Tx K mg fd) : BodyOk P w K mg base 2 ["sky", "look", "amount", "time"] "stored_at" (defScope s_stored_at) (He.ga K "stored_at") (defBody s_stored_at) F_stored_at := by
  intro cv A out s H E pl hr
  unfold F_stored_at
  exact (ss_cons (ss_if (st_cmp op_isN o_is (se_var 1) se_none (nomark _)) (ss_one (ss_ret se_int)) ss_nil)
    (ss_one (ss_ret (se_ofCall (pe_callKA ((O_emptied T).up (by decide)) hr pl.guards (by rfl) T.g_emptied T.d_emptied.kp T.kb_emptied_2 pass0 (sa_cons (se_var 0) (sa_cons (se_var 2) sa_nil)) (sk_cons (se_call ((O_end_of T).up (by decide)) pl hr (by rfl) T.g_end_of T.d_end_of.kp T.b_end_of (sa_cons (se_var 0) (sa_cons (se_var 1) sa_nil)) (aCons_len (aCons_len aNil_len))) (sk_cons (se_var 3) sk_nil)) (aCons_len (aCons_len aNil_len)) (aCons_len (aCons_len aNil_len))) (aApp_len (aCons_len (aCons_len aNil_len)) (aCons_len (aCons_len aNil_len)))))))
theorem O_stored_at (T : Tx K mg fd) : FnG P w K mg base CX0 3 (He.ga K "stored_at") (fd 6) ["sky", "look", "amount", "time"] (spP K 4 R_stored_at) := FnG.pure T.d_stored_at sc_stored_at (B_stored_at T)
/-! level_behind -/
def F_level_behind : FS := (sSeq (sAsg (f2 ixD (f2 ixD (fV 0) (fC (.int 0))) (fV 3)) (gTp 5 (gsCons (gNm 4) (gsCons (gNm 5) (gsCons (gNm 6) (gsCons (gNm 7) (gsCons (gNm 8) gsNil)))))))
    (sSeq (sIf (gT (f2 gtD (f2 addD (fCall R_stored_at (aCons (fV 0) (aCons (fV 1) (aCons (fV 2) (aCons (fV 5) aNil))))) (fV 8)) (f2 ixD (fV 0) (fC (.int 3))))) (sRet (fC .none)) sNext)
    (sRet (f2 addD (fCall R_stored_at (aCons (fV 0) (aCons (fV 1) (aCons (fV 2) (aCons (f2 addD (fV 5) (fV 6)) aNil))))) (fV 8)))))
def R_level_behind : List D → Option D := runP 9 F_level_behind
theorem sc_level_behind : FnScope ["sky", "last", "amount", "look", "wish", "start", "length", "angle", "size"] ["sky", "last", "amount", "look"] (defScope s_level_behind) := ⟨rfl, rfl, rfl, by decide +kernel, rfl, by decide +kernel, by decide +kernel⟩
theorem B_level_behind (T : Tx K mg fd) : BodyOk P w K mg base 3 ["sky", "last", "amount", "look", "wish", "start", "length", "angle", "size"] "level_behind" (defScope s_level_behind) (He.ga K "level_behind") (defBody s_level_behind) F_level_behind := by
  intro cv A out s H E pl hr
  unfold F_level_behind
  exact (ss_cons (ss_asg (se_ix (se_ix (se_var 0) se_int) (se_var 3)) (sg_tup pl.calm (sgs_cons (sg_name (i := 4) pl.nd rfl (by first | exact Or.inl rfl | exact Or.inr rfl)) (sgs_cons (sg_name (i := 5) pl.nd rfl (by first | exact Or.inl rfl | exact Or.inr rfl)) (sgs_cons (sg_name (i := 6) pl.nd rfl (by first | exact Or.inl rfl | exact Or.inr rfl)) (sgs_cons (sg_name (i := 7) pl.nd rfl (by first | exact Or.inl rfl | exact Or.inr rfl)) (sgs_cons (sg_name (i := 8) pl.nd rfl (by first | exact Or.inl rfl | exact Or.inr rfl)) sgs_nil)))))))
    (ss_cons (ss_if (st_cmp op_gt o_gt (se_op2 op_addD o_add (se_call ((O_stored_at T).up (by decide)) pl hr (by rfl) T.g_stored_at T.d_stored_at.kp T.b_stored_at (sa_cons (se_var 0) (sa_cons (se_var 1) (sa_cons (se_var 2) (sa_cons (se_var 5) sa_nil)))) (aCons_len (aCons_len (aCons_len (aCons_len aNil_len))))) (se_var 8)) (se_ix (se_var 0) se_int) (nomark _)) (ss_one (ss_ret se_none)) ss_nil)
    (ss_one (ss_ret (se_op2 op_addD o_add (se_call ((O_stored_at T).up (by decide)) pl hr (by rfl) T.g_stored_at T.d_stored_at.kp T.b_stored_at (sa_cons (se_var 0) (sa_cons (se_var 1) (sa_cons (se_var 2) (sa_cons (se_op2 op_addD o_add (se_var 5) (se_var 6)) sa_nil)))) (aCons_len (aCons_len (aCons_len (aCons_len aNil_len))))) (se_var 8))))))
theorem O_level_behind (T : Tx K mg fd) : FnG P w K mg base CX0 4 (He.ga K "level_behind") (fd 7) ["sky", "last", "amount", "look"] (spP K 4 R_level_behind) := FnG.pure T.d_level_behind sc_level_behind (B_level_behind T)
/-! turning -/
def F_turning : FS := (sRet (f1 negD (f2 divD (f1 negD (f1 absD (f2 subD (f2 ixD (f2 ixD (f2 ixD (fV 0) (fC (.int 0))) (fV 2)) (fC (.int 3))) (f2 ixD (f2 ixD (f2 ixD (fV 0) (fC (.int 0))) (fV 1)) (fC (.int 3)))))) (f2 ixD (fV 0) (fC (.int 4))))))
def R_turning : List D → Option D := runP 3 F_turning
theorem sc_turning : FnScope ["sky", "first", "second"] ["sky", "first", "second"] (defScope s_turning) := ⟨rfl, rfl, rfl, by decide +kernel, rfl, by decide +kernel, by decide +kernel⟩
theorem B_turning (T : Tx K mg fd) : BodyOk P w K mg base 0 ["sky", "first", "second"] "turning" (defScope s_turning) (He.ga K "turning") (defBody s_turning) F_turning := by
  intro cv A out s H E pl hr
  unfold F_turning
  exact (ss_one (ss_ret (se_op1 un_neg o_neg (sp_of (se_op2 op_fdivN o_div (se_op1 un_neg o_neg (sp_of (se_callB1 call_abs c_abs (by rfl) T.n_abs (sp_of (se_op2 op_sub o_sub (se_ix (se_ix (se_ix (se_var 0) se_int) (se_var 2)) se_int) (se_ix (se_ix (se_ix (se_var 0) se_int) (se_var 1)) se_int)))))) (se_ix (se_var 0) se_int))))))
theorem O_turning (T : Tx K mg fd) : FnG P w K mg base CX0 1 (He.ga K "turning") (fd 8) ["sky", "first", "second"] (spP K 3 R_turning) := FnG.pure T.d_turning sc_turning (B_turning T)
/-! follows -/
def F_follows : FS := (sRet (f2 geD (f2 ixD (f2 ixD (f2 ixD (fV 0) (fC (.int 0))) (fV 2)) (fC (.int 1))) (f2 addD (fCall R_end_of (aCons (fV 0) (aCons (fV 1) aNil))) (fCall R_turning (aCons (fV 0) (aCons (fV 1) (aCons (fV 2) aNil)))))))
def R_follows : List D → Option D := runP 3 F_follows
theorem sc_follows : FnScope ["sky", "first", "second"] ["sky", "first", "second"] (defScope s_follows) := ⟨rfl, rfl, rfl, by decide +kernel, rfl, by decide +kernel, by decide +kernel⟩
theorem B_follows (T : Tx K mg fd) : BodyOk P w K mg base 1 ["sky", "first", "second"] "follows" (defScope s_follows) (He.ga K "follows") (defBody s_follows) F_follows := by
  intro cv A out s H E pl hr
  unfold F_follows
  exact (ss_one (ss_ret (se_cmp op_ge o_ge (se_ix (se_ix (se_ix (se_var 0) se_int) (se_var 2)) se_int) (se_op2 op_addD o_add (se_call ((O_end_of T).up (by decide)) pl hr (by rfl) T.g_end_of T.d_end_of.kp T.b_end_of (sa_cons (se_var 0) (sa_cons (se_var 1) sa_nil)) (aCons_len (aCons_len aNil_len))) (se_call ((O_turning T).up (by decide)) pl hr (by rfl) T.g_turning T.d_turning.kp T.b_turning (sa_cons (se_var 0) (sa_cons (se_var 1) (sa_cons (se_var 2) sa_nil))) (aCons_len (aCons_len (aCons_len aNil_len))))) (nomark _))))
theorem O_follows (T : Tx K mg fd) : FnG P w K mg base CX0 2 (He.ga K "follows") (fd 9) ["sky", "first", "second"] (spP K 3 R_follows) := FnG.pure T.d_follows sc_follows (B_follows T)
/-! reached -/
def reached_b1 (c_level_behind : List D → Option D) : FS := (sT (sSet 8 (fCall c_level_behind (aCons (fV 0) (aCons (fV 6) (aCons (fV 10) (aCons (fV 2) aNil))))))
    (sT (sSet 11 (fTup (aCons (fV 2) (aCons (f1 tupD (fL (l1 sortX (f2 addD (fV 7) (fTup (aCons (fV 3) aNil)))))) aNil))))
    (sIf (gAnd (gT (f2 isNotD (fV 8) (fC .none))) (gOr (gT (fDin true 1 (fV 11))) (gT (f2 ltD (fV 8) (f2 ixD (fDget 1 (fV 11)) (fC (.int 0))))))) (sDput 1 (fV 11) (fTup (aCons (fV 8) (aCons (f2 addD (fV 9) (fL (lDisp (aCons (fV 2) aNil)))) aNil)))) sNext)))
def reached_b2 (c_follows : List D → Option D) : FS := (sIf (gAnd (gT (f2 notInD (fV 3) (fV 7))) (gTru (fCall c_follows (aCons (fV 0) (aCons (fV 6) (aCons (fV 2) aNil)))))) (sApp 5 (fTup (aCons (fV 6) (aCons (fV 7) (aCons (fV 8) (aCons (fV 9) aNil)))))) sNext)
def reached_b3 (c_follows : List D → Option D) (c_level_behind : List D → Option D) : FS := (sT (sSetO 5 (lDisp (aCons (fTup (aCons (fC .none) (aCons (fTup aNil) (aCons (fC (.int 0)) (aCons (fL (lDisp aNil)) aNil))))) aNil)))
    (sT (sForD itemsD 1 [6, 7, 8, 9] (gTp 2 (gsCons (gTp 2 (gsCons (gNm 6) (gsCons (gNm 7) gsNil))) (gsCons (gTp 2 (gsCons (gNm 8) (gsCons (gNm 9) gsNil))) gsNil))) (reached_b2 c_follows))
    (sForW [6, 7, 8, 9, 10, 11] (iSeq (fV 5)) (gTp 4 (gsCons (gNm 6) (gsCons (gNm 7) (gsCons (gNm 10) (gsCons (gNm 9) gsNil))))) (reached_b1 c_level_behind))))
def F_reached (c_follows : List D → Option D) (c_level_behind : List D → Option D) : FS := (sT (sSetD 1 dNil)
    (sT (sForW [2, 3, 4, 5, 6, 7, 8, 9, 10, 11] (iEnumD (f2 ixD (fV 0) (fC (.int 0)))) (gTp 2 (gsCons (gNm 2) (gsCons (gTp 5 (gsCons (gNm 3) (gsCons (gNm 4) (gsCons (gNm 4) (gsCons (gNm 4) (gsCons (gNm 4) gsNil)))))) gsNil))) (reached_b3 c_follows c_level_behind))
    (sRet (fV 1))))
def R_reached : List D → Option D := runP 12 (F_reached R_follows R_level_behind)
theorem sc_reached : FnScope ["sky", "found", "look", "wish", "_", "beginnings", "last", "wishes", "level", "plan", "amount", "key"] ["sky"] (defScope s_reached) := ⟨rfl, rfl, rfl, by decide +kernel, rfl, by decide +kernel, by decide +kernel⟩
theorem B_reached (T : Tx K mg fd) : BodyOk P w K mg base 4 ["sky", "found", "look", "wish", "_", "beginnings", "last", "wishes", "level", "plan", "amount", "key"] "reached" (defScope s_reached) (He.ga K "reached") (defBody s_reached) (F_reached R_follows R_level_behind) := by
  intro cv A out s H E pl hr
  unfold F_reached reached_b3 reached_b2 reached_b1
  exact (ss_then (ss_setD (i := 1) pl.nd rfl (by first | exact Or.inl rfl | exact Or.inr rfl) sd_nil)
    (ss_then (ss_forW [2, 3, 4, 5, 6, 7, 8, 9, 10, 11] pl.own pl.calm (si_enum (by rfl) T.n_enumerate (se_ix (se_var 0) se_int)) (sg_tup pl.calm (sgs_cons (sg_name (i := 2) pl.nd rfl (by first | exact Or.inl rfl | exact Or.inr rfl)) (sgs_cons (sg_tup pl.calm (sgs_cons (sg_name (i := 3) pl.nd rfl (by first | exact Or.inl rfl | exact Or.inr rfl)) (sgs_cons (sg_name (i := 4) pl.nd rfl (by first | exact Or.inl rfl | exact Or.inr rfl)) (sgs_cons (sg_name (i := 4) pl.nd rfl (by first | exact Or.inl rfl | exact Or.inr rfl)) (sgs_cons (sg_name (i := 4) pl.nd rfl (by first | exact Or.inl rfl | exact Or.inr rfl)) (sgs_cons (sg_name (i := 4) pl.nd rfl (by first | exact Or.inl rfl | exact Or.inr rfl)) sgs_nil)))))) sgs_nil))) (ss_then (ss_setO (i := 5) pl.nd rfl (by first | exact Or.inl rfl | exact Or.inr rfl) (SL.sl_list (k := 0) (sa_cons (se_tup (sa_cons se_none (sa_cons (se_tup sa_nil) (sa_cons se_int (sa_cons (se_of_new (SL.sl_list (k := 0) sa_nil)) sa_nil))))) sa_nil)))
    (ss_then (ss_forD 1 [6, 7, 8, 9] pl.own pl.calm (pi_ownItems 1) th_items (by decide) (sg_tup pl.calm (sgs_cons (sg_tup pl.calm (sgs_cons (sg_name (i := 6) pl.nd rfl (by first | exact Or.inl rfl | exact Or.inr rfl)) (sgs_cons (sg_name (i := 7) pl.nd rfl (by first | exact Or.inl rfl | exact Or.inr rfl)) sgs_nil))) (sgs_cons (sg_tup pl.calm (sgs_cons (sg_name (i := 8) pl.nd rfl (by first | exact Or.inl rfl | exact Or.inr rfl)) (sgs_cons (sg_name (i := 9) pl.nd rfl (by first | exact Or.inl rfl | exact Or.inr rfl)) sgs_nil))) sgs_nil))) (ss_one (ss_if (st_bool (sw_and (st_cmp (op_notInB (hu65 pl)) o_notIn (se_var 3) (se_var 7) (by rfl)) (sw_and1 (st_tru (sp_of (se_call ((O_follows T).up (by decide)) pl hr (by rfl) T.g_follows T.d_follows.kp T.b_follows (sa_cons (se_var 0) (sa_cons (se_var 6) (sa_cons (se_var 2) sa_nil))) (aCons_len (aCons_len (aCons_len aNil_len))))))))) (ss_one (ss_app (pe_bm PySem.F.plainAttrs_list PySem.F.slot_list_append PySem.F.type_list_append mt_append (pv 5) (pa_cons (se_tup (sa_cons (se_var 6) (sa_cons (se_var 7) (sa_cons (se_var 8) (sa_cons (se_var 9) sa_nil))))) pa_nil)))) ss_nil)))
    (ss_one (ss_forW [6, 7, 8, 9, 10, 11] pl.own pl.calm (si_seq (se_var 5)) (sg_tup pl.calm (sgs_cons (sg_name (i := 6) pl.nd rfl (by first | exact Or.inl rfl | exact Or.inr rfl)) (sgs_cons (sg_name (i := 7) pl.nd rfl (by first | exact Or.inl rfl | exact Or.inr rfl)) (sgs_cons (sg_name (i := 10) pl.nd rfl (by first | exact Or.inl rfl | exact Or.inr rfl)) (sgs_cons (sg_name (i := 9) pl.nd rfl (by first | exact Or.inl rfl | exact Or.inr rfl)) sgs_nil))))) (ss_then (ss_set (i := 8) pl.nd rfl (by first | exact Or.inl rfl | exact Or.inr rfl) (se_call ((O_level_behind T).up (by decide)) pl hr (by rfl) T.g_level_behind T.d_level_behind.kp T.b_level_behind (sa_cons (se_var 0) (sa_cons (se_var 6) (sa_cons (se_var 10) (sa_cons (se_var 2) sa_nil)))) (aCons_len (aCons_len (aCons_len (aCons_len aNil_len))))))
    (ss_then (ss_set (i := 11) pl.nd rfl (by first | exact Or.inl rfl | exact Or.inr rfl) (se_tup (sa_cons (se_var 2) (sa_cons (se_callT1 call_tuple_of c_tup (by rfl) T.n_tuple (sp_of (se_of_new (sl_callB1 (cr_sortX pl) c_sortX (by rfl) T.n_sorted (sp_of (se_op2 op_addD o_add (se_var 7) (se_tup (sa_cons (se_var 3) sa_nil)))))))) sa_nil))))
    (ss_one (ss_if (st_bool (sw_and (st_cmp op_notN o_isNot (se_var 8) se_none (nomark _)) (sw_and1 (st_bool (sw_or (st_din (sc_dnotin pl 1 (se_var 11))) (sw_or1 (st_cmp op_lt o_lt (se_var 8) (se_ix (se_dget pl 1 (se_var 11)) se_int) (nomark _)))))))) (ss_one (ss_dput pl 1 (se_tup (sa_cons (se_var 8) (sa_cons (se_op2 op_addD o_add (se_var 9) (se_of_new (SL.sl_list (k := 0) (sa_cons (se_var 2) sa_nil)))) sa_nil))) (se_var 11))) ss_nil)))))))))
    (ss_one (ss_ret (se_var 1)))))
theorem O_reached (T : Tx K mg fd) : FnG P w K mg base CX0 5 (He.ga K "reached") (fd 10) ["sky"] (spP K 1 R_reached) := FnG.pure T.d_reached sc_reached (B_reached T)
/-! plans_by_set -/
def plans_by_set_b1 : FS := (sIf (gT (fDin true 1 (fV 3))) (sDput 1 (fV 3) (fV 4)) sNext)
def F_plans_by_set (c_reached : List D → Option D) : FS := (sT (sSetD 1 (dOne (fTup aNil) (fL (lDisp aNil))))
    (sT (sForW [2, 3, 4] (iDItems (fCall c_reached (aCons (fV 0) aNil))) (gTp 2 (gsCons (gTp 2 (gsCons (gNm 2) (gsCons (gNm 3) gsNil))) (gsCons (gTp 2 (gsCons (gNm 2) (gsCons (gNm 4) gsNil))) gsNil))) (plans_by_set_b1))
    (sRet (fV 1))))
def R_plans_by_set : List D → Option D := runP 5 (F_plans_by_set R_reached)
theorem sc_plans_by_set : FnScope ["sky", "found", "_", "wishes", "plan"] ["sky"] (defScope s_plans_by_set) := ⟨rfl, rfl, rfl, by decide +kernel, rfl, by decide +kernel, by decide +kernel⟩
theorem B_plans_by_set (T : Tx K mg fd) : BodyOk P w K mg base 5 ["sky", "found", "_", "wishes", "plan"] "plans_by_set" (defScope s_plans_by_set) (He.ga K "plans_by_set") (defBody s_plans_by_set) (F_plans_by_set R_reached) := by
  intro cv A out s H E pl hr
  unfold F_plans_by_set plans_by_set_b1
  exact (ss_then (ss_setD (i := 1) pl.nd rfl (by first | exact Or.inl rfl | exact Or.inr rfl) (sd_one pl (se_tup sa_nil) (se_of_new (SL.sl_list (k := 0) sa_nil))))
    (ss_then (ss_forW [2, 3, 4] pl.own pl.calm (si_ditems (se_call ((O_reached T).up (by decide)) pl hr (by rfl) T.g_reached T.d_reached.kp T.b_reached (sa_cons (se_var 0) sa_nil) (aCons_len aNil_len))) (sg_tup pl.calm (sgs_cons (sg_tup pl.calm (sgs_cons (sg_name (i := 2) pl.nd rfl (by first | exact Or.inl rfl | exact Or.inr rfl)) (sgs_cons (sg_name (i := 3) pl.nd rfl (by first | exact Or.inl rfl | exact Or.inr rfl)) sgs_nil))) (sgs_cons (sg_tup pl.calm (sgs_cons (sg_name (i := 2) pl.nd rfl (by first | exact Or.inl rfl | exact Or.inr rfl)) (sgs_cons (sg_name (i := 4) pl.nd rfl (by first | exact Or.inl rfl | exact Or.inr rfl)) sgs_nil))) sgs_nil))) (ss_one (ss_if (st_din (sc_dnotin pl 1 (se_var 3))) (ss_one (ss_dput pl 1 (se_var 4) (se_var 3))) ss_nil)))
    (ss_one (ss_ret (se_var 1)))))
theorem O_plans_by_set (T : Tx K mg fd) : FnG P w K mg base CX0 6 (He.ga K "plans_by_set") (fd 11) ["sky"] (spP K 1 R_plans_by_set) := FnG.pure T.d_plans_by_set sc_plans_by_set (B_plans_by_set T)
/-! sets_had -/
def F_sets_had (c_plans_by_set : List D → Option D) : FS := (sRet (fL (l1 listKD (fCall c_plans_by_set (aCons (fV 0) aNil)))))
def R_sets_had : List D → Option D := runP 1 (F_sets_had R_plans_by_set)
theorem sc_sets_had : FnScope ["sky"] ["sky"] (defScope s_sets_had) := ⟨rfl, rfl, rfl, by decide +kernel, rfl, by decide +kernel, by decide +kernel⟩
theorem B_sets_had (T : Tx K mg fd) : BodyOk P w K mg base 6 ["sky"] "sets_had" (defScope s_sets_had) (He.ga K "sets_had") (defBody s_sets_had) (F_sets_had R_plans_by_set) := by
  intro cv A out s H E pl hr
  unfold F_sets_had
  exact (ss_one (ss_ret (se_of_new (sl_callT1 (call_list_dict pl) c_list_dict (by rfl) T.n_list (sp_of (se_call ((O_plans_by_set T).up (by decide)) pl hr (by rfl) T.g_plans_by_set T.d_plans_by_set.kp T.b_plans_by_set (sa_cons (se_var 0) sa_nil) (aCons_len aNil_len)))))))
theorem O_sets_had (T : Tx K mg fd) : FnG P w K mg base CX0 7 (He.ga K "sets_had") (fd 12) ["sky"] (spP K 1 R_sets_had) := FnG.pure T.d_sets_had sc_sets_had (B_sets_had T)
/-! sum_of -/
def sum_of_c1 : FA := (lLc (iSeq (fV 1)) [2] (gNm 2) gYes (f2 ixD (f2 ixD (fV 0) (fC (.int 1))) (fV 2)))
def F_sum_of : FS := (sRet (f1 sumD (fL (sum_of_c1))))
def R_sum_of : List D → Option D := runP 3 F_sum_of
theorem sc_sum_of : FnScope ["sky", "wishes", "wish"] ["sky", "wishes"] (defScope s_sum_of) := ⟨rfl, rfl, rfl, by decide +kernel, rfl, by decide +kernel, by decide +kernel⟩
theorem B_sum_of (T : Tx K mg fd) : BodyOk P w K mg base 0 ["sky", "wishes", "wish"] "sum_of" (defScope s_sum_of) (He.ga K "sum_of") (defBody s_sum_of) F_sum_of := by
  intro cv A out s H E pl hr
  unfold F_sum_of sum_of_c1
  exact (ss_one (ss_ret (se_callB1 (cr_sum pl.calm) c_sum (by rfl) T.n_sum (sp_of (se_of_new (sl_lc (own := [("wish", 2)]) pl (si_seq (se_var 1)) (blkOk_by (by kernel_rfl)) (by decide) (fun _ _ _ _ _ pl => (sg_name (i := 2) pl.nd rfl (by first | exact Or.inl rfl | exact Or.inr rfl))) (fun _ _ _ _ _ pl => sts_nil) (fun _ _ _ _ _ pl => se_any (se_ix (se_ix (se_var 0) se_int) (se_var 2)))))))))
theorem O_sum_of (T : Tx K mg fd) : FnG P w K mg base CX0 1 (He.ga K "sum_of") (fd 13) ["sky", "wishes"] (spP K 2 R_sum_of) := FnG.pure T.d_sum_of sc_sum_of (B_sum_of T)
/-! line_of -/
def line_of_c1 : FA := (lLc (iSeq (fV 4)) [6] (gNm 6) (gT (f2 neD (fV 6) (fV 1))) (fV 6))
def line_of_b1 (c_sum_of : List D → Option D) : FS := (sT (sSet 5 (fCall c_sum_of (aCons (fV 0) (aCons (fL (line_of_c1)) aNil))))
    (sIf (gT (f2 notInD (fV 1) (fV 4))) (sSet 2 (f2 max2D (fV 2) (fV 5))) (sIf (gOr (gT (f2 isD (fV 3) (fC .none))) (gT (f2 gtD (fV 5) (fV 3)))) (sSet 3 (fV 5)) sNext)))
def F_line_of (c_sets_had : List D → Option D) (c_sum_of : List D → Option D) : FS := (sT (sAsg (fTup (aCons (fC (.int 0)) (aCons (fC .none) aNil))) (gTp 2 (gsCons (gNm 2) (gsCons (gNm 3) gsNil))))
    (sT (sForW [4, 5] (iSeq (fCall c_sets_had (aCons (fV 0) aNil))) (gNm 4) (line_of_b1 c_sum_of))
    (sRet (fTup (aCons (fV 2) (aCons (fV 3) aNil))))))
def R_line_of : List D → Option D := runP 7 (F_line_of R_sets_had R_sum_of)
theorem sc_line_of : FnScope ["sky", "wish", "aside", "along", "wishes", "others", "one"] ["sky", "wish"] (defScope s_line_of) := ⟨rfl, rfl, rfl, by decide +kernel, rfl, by decide +kernel, by decide +kernel⟩
theorem B_line_of (T : Tx K mg fd) : BodyOk P w K mg base 7 ["sky", "wish", "aside", "along", "wishes", "others", "one"] "line_of" (defScope s_line_of) (He.ga K "line_of") (defBody s_line_of) (F_line_of R_sets_had R_sum_of) := by
  intro cv A out s H E pl hr
  unfold F_line_of line_of_b1 line_of_c1
  exact (ss_then (ss_asg (se_tup (sa_cons se_int (sa_cons se_none sa_nil))) (sg_tup pl.calm (sgs_cons (sg_name (i := 2) pl.nd rfl (by first | exact Or.inl rfl | exact Or.inr rfl)) (sgs_cons (sg_name (i := 3) pl.nd rfl (by first | exact Or.inl rfl | exact Or.inr rfl)) sgs_nil))))
    (ss_then (ss_forW [4, 5] pl.own pl.calm (si_seq (se_call ((O_sets_had T).up (by decide)) pl hr (by rfl) T.g_sets_had T.d_sets_had.kp T.b_sets_had (sa_cons (se_var 0) sa_nil) (aCons_len aNil_len))) (sg_name (i := 4) pl.nd rfl (by first | exact Or.inl rfl | exact Or.inr rfl)) (ss_then (ss_set (i := 5) pl.nd rfl (by first | exact Or.inl rfl | exact Or.inr rfl) (se_call ((O_sum_of T).up (by decide)) pl hr (by rfl) T.g_sum_of T.d_sum_of.kp T.b_sum_of (sa_cons (se_var 0) (sa_cons (se_of_new (sl_lc (own := [("one", 6)]) pl (si_seq (se_var 4)) (blkOk_by (by kernel_rfl)) (by decide) (fun _ _ _ _ _ pl => (sg_name (i := 6) pl.nd rfl (by first | exact Or.inl rfl | exact Or.inr rfl))) (fun _ _ _ _ _ pl => (sts_one (st_cmp (op_neD (hu64 pl)) o_ne (se_var 6) (se_var 1) (nomark _)))) (fun _ _ _ _ _ pl => se_any (se_var 6)))) sa_nil)) (aCons_len (aCons_len aNil_len))))
    (ss_one (ss_if (st_cmp (op_notInB (hu65 pl)) o_notIn (se_var 1) (se_var 4) (by rfl)) (ss_one (ss_set (i := 2) pl.nd rfl (by first | exact Or.inl rfl | exact Or.inr rfl) (se_callB2 (call_max2 pl.calm) c_max2 (by rfl) T.n_max (se_var 2) (se_var 5)))) (ss_one (ss_if (st_bool (sw_or (st_cmp op_isN o_is (se_var 3) se_none (nomark _)) (sw_or1 (st_cmp op_gt o_gt (se_var 5) (se_var 3) (nomark _))))) (ss_one (ss_set (i := 3) pl.nd rfl (by first | exact Or.inl rfl | exact Or.inr rfl) (se_var 5))) ss_nil))))))
    (ss_one (ss_ret (se_tup (sa_cons (se_var 2) (sa_cons (se_var 3) sa_nil)))))))
theorem O_line_of (T : Tx K mg fd) : FnG P w K mg base CX0 8 (He.ga K "line_of") (fd 14) ["sky", "wish"] (spP K 2 R_line_of) := FnG.pure T.d_line_of sc_line_of (B_line_of T)
/-! threshold -/
def F_threshold (c_line_of : List D → Option D) : FS := (sT (sAsg (fCall c_line_of (aCons (fV 0) (aCons (fV 1) aNil))) (gTp 2 (gsCons (gNm 2) (gsCons (gNm 3) gsNil))))
    (sRet (fIf (gT (f2 isD (fV 3) (fC .none))) (fC .none) (f2 max2D (fC (.int 0)) (f2 subD (fV 2) (fV 3))))))
def R_threshold : List D → Option D := runP 4 (F_threshold R_line_of)
theorem sc_threshold : FnScope ["sky", "wish", "aside", "along"] ["sky", "wish"] (defScope s_threshold) := ⟨rfl, rfl, rfl, by decide +kernel, rfl, by decide +kernel, by decide +kernel⟩
theorem B_threshold (T : Tx K mg fd) : BodyOk P w K mg base 8 ["sky", "wish", "aside", "along"] "threshold" (defScope s_threshold) (He.ga K "threshold") (defBody s_threshold) (F_threshold R_line_of) := by
  intro cv A out s H E pl hr
  unfold F_threshold
  exact (ss_then (ss_asg (se_call ((O_line_of T).up (by decide)) pl hr (by rfl) T.g_line_of T.d_line_of.kp T.b_line_of (sa_cons (se_var 0) (sa_cons (se_var 1) sa_nil)) (aCons_len (aCons_len aNil_len))) (sg_tup pl.calm (sgs_cons (sg_name (i := 2) pl.nd rfl (by first | exact Or.inl rfl | exact Or.inr rfl)) (sgs_cons (sg_name (i := 3) pl.nd rfl (by first | exact Or.inl rfl | exact Or.inr rfl)) sgs_nil))))
    (ss_one (ss_ret (se_if (st_cmp op_isN o_is (se_var 3) se_none (nomark _)) se_none (se_callB2 (call_max2 pl.calm) c_max2 (by rfl) T.n_max se_int (se_op2 op_sub o_sub (se_var 2) (se_var 3)))))))
theorem O_threshold (T : Tx K mg fd) : FnG P w K mg base CX0 9 (He.ga K "threshold") (fd 15) ["sky", "wish"] (spP K 2 R_threshold) := FnG.pure T.d_threshold sc_threshold (B_threshold T)
/-! _law_lists -/
def F__law_lists : FS := (sSeq (sSet 1 (fL (lDisp (aCons (fL (lDisp aNil)) aNil))))
    (sSeq (sFor (iRng1 (f1 lenD (f2 ixD (fV 0) (fC (.int 0))))) (gNm 2) (sSet 1 (f2 addD (fV 1) (fL (lLc (iSeq (fV 1)) [3] (gNm 3) gYes (f2 addD (fV 3) (fL (lDisp (aCons (fV 2) aNil)))))))))
    (sRet (fV 1))))
def R__law_lists : List D → Option D := runP 4 F__law_lists
theorem sc__law_lists : FnScope ["_law_sky_here", "_law_found", "_law_name", "_law_names"] ["_law_sky_here"] (defScope s__law_lists) := ⟨rfl, rfl, rfl, by decide +kernel, rfl, by decide +kernel, by decide +kernel⟩
theorem B__law_lists (T : Tx K mg fd) : BodyOk P w K mg base 0 ["_law_sky_here", "_law_found", "_law_name", "_law_names"] "_law_lists" (defScope s__law_lists) (He.ga K "_law_lists") (defBody s__law_lists) F__law_lists := by
  intro cv A out s H E pl hr
  unfold F__law_lists
  exact (ss_cons (ss_set (i := 1) pl.nd rfl (by first | exact Or.inl rfl | exact Or.inr rfl) (se_of_new (SL.sl_list (k := 0) (sa_cons (se_of_new (SL.sl_list (k := 0) sa_nil)) sa_nil))))
    (ss_cons (ss_for pl.own pl.calm (si_range1 (by rfl) T.n_range (se_callB1 call_lenA c_len (by rfl) T.n_len (sp_of (se_ix (se_var 0) se_int)))) (sg_name (i := 2) pl.nd rfl (by first | exact Or.inl rfl | exact Or.inr rfl)) (ss_one (ss_set (i := 1) pl.nd rfl (by first | exact Or.inl rfl | exact Or.inr rfl) (se_op2 op_addD o_add (se_var 1) (se_of_new (sl_lc (own := [("_law_names", 3)]) pl (si_seq (se_var 1)) (blkOk_by (by kernel_rfl)) (by decide) (fun _ _ _ _ _ pl => (sg_name (i := 3) pl.nd rfl (by first | exact Or.inl rfl | exact Or.inr rfl))) (fun _ _ _ _ _ pl => sts_nil) (fun _ _ _ _ _ pl => se_any (se_op2 op_addD o_add (se_var 3) (se_of_new (SL.sl_list (k := 0) (sa_cons (se_var 2) sa_nil)))))))))))
    (ss_one (ss_ret (se_var 1)))))
theorem O__law_lists (T : Tx K mg fd) : FnG P w K mg base CX0 1 (He.ga K "_law_lists") (fd 16) ["_law_sky_here"] (spP K 1 R__law_lists) := FnG.pure T.d__law_lists sc__law_lists (B__law_lists T)
/-! _law_store -/
def F__law_store : FS := (sSeq (sSet 3 (fC (.int 0)))
    (sSeq (sFor (iRng1 (f2 addD (fV 2) (fC (.int 1)))) (gNm 4) (sSeq (sFor (iSeq (f2 ixD (fV 0) (fC (.int 2)))) (gTp 3 (gsCons (gNm 5) (gsCons (gNm 6) (gsCons (gNm 7) gsNil)))) (sIf (gT (fChain leD ltD (fV 5) (f2 subD (fV 4) (fC (.int 1))) (fV 6))) (sSet 3 (f2 max2D (fC (.int 0)) (f2 subD (fV 3) (fV 7)))) sNext))
    (sFor (iSeq (fV 1)) (gNm 8) (sSeq (sAsg (f2 ixD (f2 ixD (fV 0) (fC (.int 0))) (fV 8)) (gTp 5 (gsCons (gNm 9) (gsCons (gNm 10) (gsCons (gNm 11) (gsCons (gNm 12) (gsCons (gNm 13) gsNil)))))))
    (sIf (gT (f2 eqD (f2 addD (fV 10) (fV 11)) (fV 4))) (sSet 3 (f2 addD (fV 3) (fV 13))) sNext)))))
    (sRet (fV 3))))
def R__law_store : List D → Option D := runP 14 F__law_store
theorem sc__law_store : FnScope ["_law_sky_here", "_law_names", "_law_time", "_law_store_here", "_law_now", "_law_first", "_law_last", "_law_rate", "_law_name", "_law_wish", "_law_start", "_law_length", "_law_angle", "_law_size"] ["_law_sky_here", "_law_names", "_law_time"] (defScope s__law_store) := ⟨rfl, rfl, rfl, by decide +kernel, rfl, by decide +kernel, by decide +kernel⟩
theorem B__law_store (T : Tx K mg fd) : BodyOk P w K mg base 0 ["_law_sky_here", "_law_names", "_law_time", "_law_store_here", "_law_now", "_law_first", "_law_last", "_law_rate", "_law_name", "_law_wish", "_law_start", "_law_length", "_law_angle", "_law_size"] "_law_store" (defScope s__law_store) (He.ga K "_law_store") (defBody s__law_store) F__law_store := by
  intro cv A out s H E pl hr
  unfold F__law_store
  exact (ss_cons (ss_set (i := 3) pl.nd rfl (by first | exact Or.inl rfl | exact Or.inr rfl) se_int)
    (ss_cons (ss_for pl.own pl.calm (si_range1 (by rfl) T.n_range (se_op2 op_addD o_add (se_var 2) se_int)) (sg_name (i := 4) pl.nd rfl (by first | exact Or.inl rfl | exact Or.inr rfl)) (ss_cons (ss_for pl.own pl.calm (si_seq (se_ix (se_var 0) se_int)) (sg_tup pl.calm (sgs_cons (sg_name (i := 5) pl.nd rfl (by first | exact Or.inl rfl | exact Or.inr rfl)) (sgs_cons (sg_name (i := 6) pl.nd rfl (by first | exact Or.inl rfl | exact Or.inr rfl)) (sgs_cons (sg_name (i := 7) pl.nd rfl (by first | exact Or.inl rfl | exact Or.inr rfl)) sgs_nil)))) (ss_one (ss_if (st_chain op_le o_le op_lt o_lt (se_var 5) (se_op2 op_sub o_sub (se_var 4) se_int) (se_var 6)) (ss_one (ss_set (i := 3) pl.nd rfl (by first | exact Or.inl rfl | exact Or.inr rfl) (se_callB2 (call_max2 pl.calm) c_max2 (by rfl) T.n_max se_int (se_op2 op_sub o_sub (se_var 3) (se_var 7))))) ss_nil)))
    (ss_one (ss_for pl.own pl.calm (si_seq (se_var 1)) (sg_name (i := 8) pl.nd rfl (by first | exact Or.inl rfl | exact Or.inr rfl)) (ss_cons (ss_asg (se_ix (se_ix (se_var 0) se_int) (se_var 8)) (sg_tup pl.calm (sgs_cons (sg_name (i := 9) pl.nd rfl (by first | exact Or.inl rfl | exact Or.inr rfl)) (sgs_cons (sg_name (i := 10) pl.nd rfl (by first | exact Or.inl rfl | exact Or.inr rfl)) (sgs_cons (sg_name (i := 11) pl.nd rfl (by first | exact Or.inl rfl | exact Or.inr rfl)) (sgs_cons (sg_name (i := 12) pl.nd rfl (by first | exact Or.inl rfl | exact Or.inr rfl)) (sgs_cons (sg_name (i := 13) pl.nd rfl (by first | exact Or.inl rfl | exact Or.inr rfl)) sgs_nil)))))))
    (ss_one (ss_if (st_cmp (op_eqD (hu64 pl)) o_eq (se_op2 op_addD o_add (se_var 10) (se_var 11)) (se_var 4) (nomark _)) (ss_one (ss_set (i := 3) pl.nd rfl (by first | exact Or.inl rfl | exact Or.inr rfl) (se_op2 op_addD o_add (se_var 3) (se_var 13)))) ss_nil)))))))
    (ss_one (ss_ret (se_var 3)))))
theorem O__law_store (T : Tx K mg fd) : FnG P w K mg base CX0 1 (He.ga K "_law_store") (fd 17) ["_law_sky_here", "_law_names", "_law_time"] (spP K 3 R__law_store) := FnG.pure T.d__law_store sc__law_store (B__law_store T)
/-! _law_turn -/
def F__law_turn : FS := (sSeq (sSet 3 (fC (.int 0)))
    (sSeq (sFor (iRng1 (fC (.int 200))) (gNm 4) (sSeq (sIf (gT (f2 geD (f2 mulD (fV 3) (f2 ixD (fV 0) (fC (.int 4)))) (f1 absD (f2 subD (f2 ixD (f2 ixD (f2 ixD (fV 0) (fC (.int 0))) (fV 2)) (fC (.int 3))) (f2 ixD (f2 ixD (f2 ixD (fV 0) (fC (.int 0))) (fV 1)) (fC (.int 3))))))) sBrk sNext)
    (sSet 3 (f2 addD (fV 3) (fC (.int 1))))))
    (sRet (fV 3))))
def R__law_turn : List D → Option D := runP 5 F__law_turn
theorem sc__law_turn : FnScope ["_law_sky_here", "_law_first", "_law_second", "_law_ticks", "_law_turn_here"] ["_law_sky_here", "_law_first", "_law_second"] (defScope s__law_turn) := ⟨rfl, rfl, rfl, by decide +kernel, rfl, by decide +kernel, by decide +kernel⟩
theorem B__law_turn (T : Tx K mg fd) : BodyOk P w K mg base 0 ["_law_sky_here", "_law_first", "_law_second", "_law_ticks", "_law_turn_here"] "_law_turn" (defScope s__law_turn) (He.ga K "_law_turn") (defBody s__law_turn) F__law_turn := by
  intro cv A out s H E pl hr
  unfold F__law_turn
  exact (ss_cons (ss_set (i := 3) pl.nd rfl (by first | exact Or.inl rfl | exact Or.inr rfl) se_int)
    (ss_cons (ss_for pl.own pl.calm (si_range1 (by rfl) T.n_range se_int) (sg_name (i := 4) pl.nd rfl (by first | exact Or.inl rfl | exact Or.inr rfl)) (ss_cons (ss_if (st_cmp op_ge o_ge (se_op2 op_mul o_mul (se_var 3) (se_ix (se_var 0) se_int)) (se_callB1 call_abs c_abs (by rfl) T.n_abs (sp_of (se_op2 op_sub o_sub (se_ix (se_ix (se_ix (se_var 0) se_int) (se_var 2)) se_int) (se_ix (se_ix (se_ix (se_var 0) se_int) (se_var 1)) se_int)))) (nomark _)) (ss_one ss_break) ss_nil)
    (ss_one (ss_set (i := 3) pl.nd rfl (by first | exact Or.inl rfl | exact Or.inr rfl) (se_op2 op_addD o_add (se_var 3) se_int)))))
    (ss_one (ss_ret (se_var 3)))))
theorem O__law_turn (T : Tx K mg fd) : FnG P w K mg base CX0 1 (He.ga K "_law_turn") (fd 18) ["_law_sky_here", "_law_first", "_law_second"] (spP K 3 R__law_turn) := FnG.pure T.d__law_turn sc__law_turn (B__law_turn T)
/-! _law_wrong -/
def F__law_wrong : FS := (sSeq (sFor (iRng1 (f1 lenD (fV 1))) (gNm 2) (sSeq (sSet 3 (f2 ixD (f2 ixD (fV 0) (fC (.int 0))) (f2 ixD (fV 1) (fV 2))))
    (sSeq (sIf (gAnd (gT (f2 gtD (fV 2) (fC (.int 0)))) (gT (f2 leD (f2 ixD (fV 1) (fV 2)) (f2 ixD (fV 1) (f2 subD (fV 2) (fC (.int 1))))))) (sRet (fTup (aCons (fC (.str "order")) (aCons (fV 2) aNil)))) sNext)
    (sSeq (sIf (gT (f2 inD (f2 ixD (fV 3) (fC (.int 0))) (fL (lLc (iSeq (fCut (fV 1) oNone (oSome (fV 2)))) [4] (gNm 4) gYes (f2 ixD (f2 ixD (f2 ixD (fV 0) (fC (.int 0))) (fV 4)) (fC (.int 0))))))) (sRet (fTup (aCons (fC (.str "wish")) (aCons (fV 2) aNil)))) sNext)
    (sSeq (sIf (gT (f2 gtD (fV 2) (fC (.int 0)))) (sSeq (sSet 5 (f2 ixD (f2 ixD (fV 0) (fC (.int 0))) (f2 ixD (fV 1) (f2 subD (fV 2) (fC (.int 1))))))
    (sIf (gT (f2 ltD (f2 ixD (fV 3) (fC (.int 1))) (f2 addD (f2 addD (f2 ixD (fV 5) (fC (.int 1))) (f2 ixD (fV 5) (fC (.int 2)))) (fCall R__law_turn (aCons (fV 0) (aCons (f2 ixD (fV 1) (f2 subD (fV 2) (fC (.int 1)))) (aCons (f2 ixD (fV 1) (fV 2)) aNil))))))) (sRet (fTup (aCons (fC (.str "turning")) (aCons (fV 2) aNil)))) sNext)) sNext)
    (sIf (gT (f2 gtD (f2 addD (fCall R__law_store (aCons (fV 0) (aCons (fCut (fV 1) oNone (oSome (fV 2))) (aCons (f2 ixD (fV 3) (fC (.int 1))) aNil)))) (f2 ixD (fV 3) (fC (.int 4)))) (f2 ixD (fV 0) (fC (.int 3))))) (sRet (fTup (aCons (fC (.str "room")) (aCons (fV 2) aNil)))) sNext))))))
    (sRet (fC .none)))
def R__law_wrong : List D → Option D := runP 6 F__law_wrong
theorem sc__law_wrong : FnScope ["_law_sky_here", "_law_names", "_law_place", "_law_look", "_law_name", "_law_before"] ["_law_sky_here", "_law_names"] (defScope s__law_wrong) := ⟨rfl, rfl, rfl, by decide +kernel, rfl, by decide +kernel, by decide +kernel⟩
theorem B__law_wrong (T : Tx K mg fd) : BodyOk P w K mg base 1 ["_law_sky_here", "_law_names", "_law_place", "_law_look", "_law_name", "_law_before"] "_law_wrong" (defScope s__law_wrong) (He.ga K "_law_wrong") (defBody s__law_wrong) F__law_wrong := by
  intro cv A out s H E pl hr
  unfold F__law_wrong
  exact (ss_cons (ss_for pl.own pl.calm (si_range1 (by rfl) T.n_range (se_callB1 call_lenA c_len (by rfl) T.n_len (sp_of (se_var 1)))) (sg_name (i := 2) pl.nd rfl (by first | exact Or.inl rfl | exact Or.inr rfl)) (ss_cons (ss_set (i := 3) pl.nd rfl (by first | exact Or.inl rfl | exact Or.inr rfl) (se_ix (se_ix (se_var 0) se_int) (se_ix (se_var 1) (se_var 2))))
    (ss_cons (ss_if (st_bool (sw_and (st_cmp op_gt o_gt (se_var 2) se_int (nomark _)) (sw_and1 (st_cmp op_le o_le (se_ix (se_var 1) (se_var 2)) (se_ix (se_var 1) (se_op2 op_sub o_sub (se_var 2) se_int)) (nomark _))))) (ss_one (ss_ret (se_tup (sa_cons se_str (sa_cons (se_var 2) sa_nil))))) ss_nil)
    (ss_cons (ss_if (st_cmp (op_inB (hu65 pl)) o_in (se_ix (se_var 3) se_int) (se_of_new (sl_lc (own := [("_law_name", 4)]) pl (si_seq (se_cut (sp_of (se_var 1)) so_none (so_some (se_var 2)))) (blkOk_by (by kernel_rfl)) (by decide) (fun _ _ _ _ _ pl => (sg_name (i := 4) pl.nd rfl (by first | exact Or.inl rfl | exact Or.inr rfl))) (fun _ _ _ _ _ pl => sts_nil) (fun _ _ _ _ _ pl => se_any (se_ix (se_ix (se_ix (se_var 0) se_int) (se_var 4)) se_int)))) (by rfl)) (ss_one (ss_ret (se_tup (sa_cons se_str (sa_cons (se_var 2) sa_nil))))) ss_nil)
    (ss_cons (ss_if (st_cmp op_gt o_gt (se_var 2) se_int (nomark _)) (ss_cons (ss_set (i := 5) pl.nd rfl (by first | exact Or.inl rfl | exact Or.inr rfl) (se_ix (se_ix (se_var 0) se_int) (se_ix (se_var 1) (se_op2 op_sub o_sub (se_var 2) se_int))))
    (ss_one (ss_if (st_cmp op_lt o_lt (se_ix (se_var 3) se_int) (se_op2 op_addD o_add (se_op2 op_addD o_add (se_ix (se_var 5) se_int) (se_ix (se_var 5) se_int)) (se_call ((O__law_turn T).up (by decide)) pl hr (by rfl) T.g__law_turn T.d__law_turn.kp T.b__law_turn (sa_cons (se_var 0) (sa_cons (se_ix (se_var 1) (se_op2 op_sub o_sub (se_var 2) se_int)) (sa_cons (se_ix (se_var 1) (se_var 2)) sa_nil))) (aCons_len (aCons_len (aCons_len aNil_len))))) (nomark _)) (ss_one (ss_ret (se_tup (sa_cons se_str (sa_cons (se_var 2) sa_nil))))) ss_nil))) ss_nil)
    (ss_one (ss_if (st_cmp op_gt o_gt (se_op2 op_addD o_add (se_call ((O__law_store T).up (by decide)) pl hr (by rfl) T.g__law_store T.d__law_store.kp T.b__law_store (sa_cons (se_var 0) (sa_cons (se_cut (sp_of (se_var 1)) so_none (so_some (se_var 2))) (sa_cons (se_ix (se_var 3) se_int) sa_nil))) (aCons_len (aCons_len (aCons_len aNil_len)))) (se_ix (se_var 3) se_int)) (se_ix (se_var 0) se_int) (nomark _)) (ss_one (ss_ret (se_tup (sa_cons se_str (sa_cons (se_var 2) sa_nil))))) ss_nil)))))))
    (ss_one (ss_ret se_none)))
theorem O__law_wrong (T : Tx K mg fd) : FnG P w K mg base CX0 2 (He.ga K "_law_wrong") (fd 19) ["_law_sky_here", "_law_names"] (spP K 2 R__law_wrong) := FnG.pure T.d__law_wrong sc__law_wrong (B__law_wrong T)
/-! _law_worth -/
def F__law_worth : FS := (sSeq (sSet 2 (fL (lLc (iSeq (fV 1)) [3] (gNm 3) gYes (f2 ixD (f2 ixD (f2 ixD (fV 0) (fC (.int 0))) (fV 3)) (fC (.int 0))))))
    (sRet (f1 sumD (fL (lLc (iRng1 (f1 lenD (f2 ixD (fV 0) (fC (.int 1))))) [4] (gNm 4) (gT (f2 inD (fV 4) (fV 2))) (f2 ixD (f2 ixD (fV 0) (fC (.int 1))) (fV 4)))))))
def R__law_worth : List D → Option D := runP 5 F__law_worth
theorem sc__law_worth : FnScope ["_law_sky_here", "_law_names", "_law_wishes", "_law_name", "_law_wish"] ["_law_sky_here", "_law_names"] (defScope s__law_worth) := ⟨rfl, rfl, rfl, by decide +kernel, rfl, by decide +kernel, by decide +kernel⟩
theorem B__law_worth (T : Tx K mg fd) : BodyOk P w K mg base 0 ["_law_sky_here", "_law_names", "_law_wishes", "_law_name", "_law_wish"] "_law_worth" (defScope s__law_worth) (He.ga K "_law_worth") (defBody s__law_worth) F__law_worth := by
  intro cv A out s H E pl hr
  unfold F__law_worth
  exact (ss_cons (ss_set (i := 2) pl.nd rfl (by first | exact Or.inl rfl | exact Or.inr rfl) (se_of_new (sl_lc (own := [("_law_name", 3)]) pl (si_seq (se_var 1)) (blkOk_by (by kernel_rfl)) (by decide) (fun _ _ _ _ _ pl => (sg_name (i := 3) pl.nd rfl (by first | exact Or.inl rfl | exact Or.inr rfl))) (fun _ _ _ _ _ pl => sts_nil) (fun _ _ _ _ _ pl => se_any (se_ix (se_ix (se_ix (se_var 0) se_int) (se_var 3)) se_int)))))
    (ss_one (ss_ret (se_callB1 (cr_sum pl.calm) c_sum (by rfl) T.n_sum (sp_of (se_of_new (sl_lc (own := [("_law_wish", 4)]) pl (si_range1 (by rfl) T.n_range (se_callB1 call_lenA c_len (by rfl) T.n_len (sp_of (se_ix (se_var 0) se_int)))) (blkOk_by (by kernel_rfl)) (by decide) (fun _ _ _ _ _ pl => (sg_name (i := 4) pl.nd rfl (by first | exact Or.inl rfl | exact Or.inr rfl))) (fun _ _ _ _ _ pl => (sts_one (st_cmp (op_inB (hu65 pl)) o_in (se_var 4) (se_var 2) (by rfl)))) (fun _ _ _ _ _ pl => se_any (se_ix (se_ix (se_var 0) se_int) (se_var 4))))))))))
theorem O__law_worth (T : Tx K mg fd) : FnG P w K mg base CX0 1 (He.ga K "_law_worth") (fd 20) ["_law_sky_here", "_law_names"] (spP K 2 R__law_worth) := FnG.pure T.d__law_worth sc__law_worth (B__law_worth T)
/-! _law_is_whole -/
def F__law_is_whole : FS := (sRet (fAnd (f1 (isiD "int") (fV 0)) (fNot (f1 (isiD "bool") (fV 0)))))
def R__law_is_whole : List D → Option D := runP 1 F__law_is_whole
theorem sc__law_is_whole : FnScope ["_law_value"] ["_law_value"] (defScope s__law_is_whole) := ⟨rfl, rfl, rfl, by decide +kernel, rfl, by decide +kernel, by decide +kernel⟩
theorem B__law_is_whole (T : Tx K mg fd) : BodyOk P w K mg base 0 ["_law_value"] "_law_is_whole" (defScope s__law_is_whole) (He.ga K "_law_is_whole") (defBody s__law_is_whole) F__law_is_whole := by
  intro cv A out s H E pl hr
  unfold F__law_is_whole
  exact (ss_one (ss_ret (se_and (se_isi (T := "int") (by rfl) T.n_isinstance (by rfl) T.n_int (sp_of (se_var 0))) (se_one (se_not (se_isi (T := "bool") (by rfl) T.n_isinstance (by rfl) T.n_bool (sp_of (se_var 0))))))))
theorem O__law_is_whole (T : Tx K mg fd) : FnG P w K mg base CX0 1 (He.ga K "_law_is_whole") (fd 21) ["_law_value"] (spP K 1 R__law_is_whole) := FnG.pure T.d__law_is_whole sc__law_is_whole (B__law_is_whole T)
/-! law -/
def law_c1 : FA := (lLc (iSeq (fV 5)) [8] (gNm 8) gYes (f2 ixD (f2 ixD (f2 ixD (fV 2) (fC (.int 0))) (fV 8)) (fC (.int 0))))
def law_c2 (c__law_worth : List D → Option D) : FA := (lLc (iSeq (fV 4)) [5] (gNm 5) (gT (f2 inD (fV 6) (fL (law_c1)))) (f2 subD (fCall c__law_worth (aCons (fV 2) (aCons (fV 5) aNil))) (f2 ixD (f2 ixD (fV 2) (fC (.int 1))) (fV 6))))
def law_c3 : FA := (lLc (iSeq (fV 5)) [8] (gNm 8) gYes (f2 ixD (f2 ixD (f2 ixD (fV 2) (fC (.int 0))) (fV 8)) (fC (.int 0))))
def law_c4 (c__law_worth : List D → Option D) : FA := (lLc (iSeq (fV 4)) [5] (gNm 5) (gT (f2 notInD (fV 6) (fL (law_c3)))) (fCall c__law_worth (aCons (fV 2) (aCons (fV 5) aNil))))
def law_b1 (c__law_worth : List D → Option D) (c_line_of : List D → Option D) (c__law_is_whole : List D → Option D) (c_threshold : List D → Option D) : FS := (sT (sSet 7 (f1 maxD (fL (law_c4 c__law_worth))))
    (sT (sSet 9 (fL (law_c2 c__law_worth)))
    (sT (sSet 10 (fCall c_line_of (aCons (fV 2) (aCons (fV 6) aNil))))
    (sT (sIf (gOr (gNot (gTru (f1 (isiD "tuple") (fV 10)))) (gOr (gT (f2 neD (f1 lenD (fV 10)) (fC (.int 2)))) (gOr (gNot (gTru (fCall c__law_is_whole (aCons (f2 ixD (fV 10) (fC (.int 0))) aNil)))) (gT (f2 neD (f2 ixD (fV 10) (fC (.int 0))) (fV 7)))))) (sRet (fC (.bool false))) sNext)
    (sT (sSet 11 (fCall c_threshold (aCons (fV 2) (aCons (fV 6) aNil))))
    (sIf (gT (f2 eqD (f1 lenD (fV 9)) (fC (.int 0)))) (sIf (gOr (gT (f2 isNotD (f2 ixD (fV 10) (fC (.int 1))) (fC .none))) (gT (f2 isNotD (fV 11) (fC .none)))) (sRet (fC (.bool false))) sNext) (sT (sIf (gOr (gNot (gTru (fCall c__law_is_whole (aCons (f2 ixD (fV 10) (fC (.int 1))) aNil)))) (gT (f2 neD (f2 ixD (fV 10) (fC (.int 1))) (f1 maxD (fV 9))))) (sRet (fC (.bool false))) sNext)
    (sIf (gOr (gNot (gTru (fCall c__law_is_whole (aCons (fV 11) aNil)))) (gT (f2 neD (fV 11) (f2 max2D (fC (.int 0)) (f2 subD (fV 7) (f1 maxD (fV 9))))))) (sRet (fC (.bool false))) sNext))))))))
def law_c5 (c__law_lists : List D → Option D) (c__law_wrong : List D → Option D) : FA := (lLc (iSeq (fCall c__law_lists (aCons (fV 2) aNil))) [5] (gNm 5) (gT (f2 isD (fCall c__law_wrong (aCons (fV 2) (aCons (fV 5) aNil))) (fC .none))) (fV 5))
def F_law (c__law_draws : List D → Option D) (c__law_close_sky : List D → Option D) (c__law_lists : List D → Option D) (c__law_wrong : List D → Option D) (c__law_worth : List D → Option D) (c_line_of : List D → Option D) (c__law_is_whole : List D → Option D) (c_threshold : List D → Option D) : FS := (sT (sSet 1 (fCall c__law_draws (aCons (fV 0) (aCons (fC (.int 60)) aNil))))
    (sT (sSet 2 (fCall c__law_close_sky (aCons (fV 1) aNil)))
    (sT (sSet 3 (f1 reprD (fV 2)))
    (sT (sSet 4 (fL (law_c5 c__law_lists c__law_wrong)))
    (sT (sForW [6, 7, 9, 10, 11] (iRng1 (f1 lenD (f2 ixD (fV 2) (fC (.int 1))))) (gNm 6) (law_b1 c__law_worth c_line_of c__law_is_whole c_threshold))
    (sRet (f2 eqD (f1 reprD (fV 2)) (fV 3))))))))
def R_law : List D → Option D := runP 12 (F_law R__law_draws R__law_close_sky R__law_lists R__law_wrong R__law_worth R_line_of R__law_is_whole R_threshold)
theorem sc_law : FnScope ["_law_script", "_law_draws_here", "_law_sky_here", "_law_kept", "_law_plans", "_law_names", "_law_wish", "_law_aside", "_law_name", "_law_others", "_law_told", "_law_least"] ["_law_script"] (defScope s_law) := ⟨rfl, rfl, rfl, by decide +kernel, rfl, by decide +kernel, by decide +kernel⟩
theorem B_law (T : Tx K mg fd) : BodyOk P w K mg base 9 ["_law_script", "_law_draws_here", "_law_sky_here", "_law_kept", "_law_plans", "_law_names", "_law_wish", "_law_aside", "_law_name", "_law_others", "_law_told", "_law_least"] "law" (defScope s_law) (He.ga K "law") (defBody s_law) (F_law R__law_draws R__law_close_sky R__law_lists R__law_wrong R__law_worth R_line_of R__law_is_whole R_threshold) := by
  intro cv A out s H E pl hr
  unfold F_law law_c5 law_b1 law_c4 law_c3 law_c2 law_c1
  exact (ss_then (ss_set (i := 1) pl.nd rfl (by first | exact Or.inl rfl | exact Or.inr rfl) (se_call ((O__law_draws T).up (by decide)) pl hr (by rfl) T.g__law_draws T.d__law_draws.kp T.b__law_draws (sa_cons (se_var 0) (sa_cons se_int sa_nil)) (aCons_len (aCons_len aNil_len))))
    (ss_then (ss_set (i := 2) pl.nd rfl (by first | exact Or.inl rfl | exact Or.inr rfl) (se_call ((O__law_close_sky T).up (by decide)) pl hr (by rfl) T.g__law_close_sky T.d__law_close_sky.kp T.b__law_close_sky (sa_cons (se_var 1) sa_nil) (aCons_len aNil_len)))
    (ss_then (ss_set (i := 3) pl.nd rfl (by first | exact Or.inl rfl | exact Or.inr rfl) (se_callB1 (cr_repr pl) c_repr (by rfl) T.n_repr (sp_of (se_var 2))))
    (ss_then (ss_lc (i := 4) (own := [("_law_names", 5)]) pl rfl rfl (sw_true rfl rfl rfl (by decide +kernel)) (si_seq (se_call ((O__law_lists T).up (by decide)) pl hr (by rfl) T.g__law_lists T.d__law_lists.kp T.b__law_lists (sa_cons (se_var 2) sa_nil) (aCons_len aNil_len))) (blkOk_by (by kernel_rfl)) (by decide) (fun _ _ _ _ _ pl => (sg_name (i := 5) pl.nd rfl (by first | exact Or.inl rfl | exact Or.inr rfl))) (fun _ _ _ _ _ pl => (sts_one (st_cmp op_isN o_is (se_call ((O__law_wrong T).up (by decide)) pl hr (by rfl) T.g__law_wrong T.d__law_wrong.kp T.b__law_wrong (sa_cons (se_var 2) (sa_cons (se_var 5) sa_nil)) (aCons_len (aCons_len aNil_len))) se_none (nomark _)))) (fun _ _ _ _ _ pl => se_any (se_var 5)))
    (ss_then (ss_forW [6, 7, 9, 10, 11] pl.own pl.calm (si_range1 (by rfl) T.n_range (se_callB1 call_lenA c_len (by rfl) T.n_len (sp_of (se_ix (se_var 2) se_int)))) (sg_name (i := 6) pl.nd rfl (by first | exact Or.inl rfl | exact Or.inr rfl)) (ss_then (ss_set (i := 7) pl.nd rfl (by first | exact Or.inl rfl | exact Or.inr rfl) (se_callB1 (cr_max pl.calm) c_max (by rfl) T.n_max (sp_of (se_of_new (sl_lc (own := [("_law_names", 5)]) pl (si_seq (se_var 4)) (blkOk_by (by kernel_rfl)) (by decide) (fun _ _ _ _ _ pl => (sg_name (i := 5) pl.nd rfl (by first | exact Or.inl rfl | exact Or.inr rfl))) (fun _ _ _ _ _ pl => (sts_one (st_cmp (op_notInB (hu65 pl)) o_notIn (se_var 6) (se_of_new (sl_lc (own := [("_law_name", 8)]) pl (si_seq (se_var 5)) (blkOk_by (by kernel_rfl)) (by decide) (fun _ _ _ _ _ pl => (sg_name (i := 8) pl.nd rfl (by first | exact Or.inl rfl | exact Or.inr rfl))) (fun _ _ _ _ _ pl => sts_nil) (fun _ _ _ _ _ pl => se_any (se_ix (se_ix (se_ix (se_var 2) se_int) (se_var 8)) se_int)))) (by rfl)))) (fun _ _ _ _ _ pl => se_any (se_call ((O__law_worth T).up (by decide)) pl hr (by rfl) T.g__law_worth T.d__law_worth.kp T.b__law_worth (sa_cons (se_var 2) (sa_cons (se_var 5) sa_nil)) (aCons_len (aCons_len aNil_len)))))))))
    (ss_then (ss_lc (i := 9) (own := [("_law_names", 5)]) pl rfl rfl (sw_true rfl rfl rfl (by decide +kernel)) (si_seq (se_var 4)) (blkOk_by (by kernel_rfl)) (by decide) (fun _ _ _ _ _ pl => (sg_name (i := 5) pl.nd rfl (by first | exact Or.inl rfl | exact Or.inr rfl))) (fun _ _ _ _ _ pl => (sts_one (st_cmp (op_inB (hu65 pl)) o_in (se_var 6) (se_of_new (sl_lc (own := [("_law_name", 8)]) pl (si_seq (se_var 5)) (blkOk_by (by kernel_rfl)) (by decide) (fun _ _ _ _ _ pl => (sg_name (i := 8) pl.nd rfl (by first | exact Or.inl rfl | exact Or.inr rfl))) (fun _ _ _ _ _ pl => sts_nil) (fun _ _ _ _ _ pl => se_any (se_ix (se_ix (se_ix (se_var 2) se_int) (se_var 8)) se_int)))) (by rfl)))) (fun _ _ _ _ _ pl => se_any (se_op2 op_sub o_sub (se_call ((O__law_worth T).up (by decide)) pl hr (by rfl) T.g__law_worth T.d__law_worth.kp T.b__law_worth (sa_cons (se_var 2) (sa_cons (se_var 5) sa_nil)) (aCons_len (aCons_len aNil_len))) (se_ix (se_ix (se_var 2) se_int) (se_var 6)))))
    (ss_then (ss_set (i := 10) pl.nd rfl (by first | exact Or.inl rfl | exact Or.inr rfl) (se_call ((O_line_of T).up (by decide)) pl hr (by rfl) T.g_line_of T.d_line_of.kp T.b_line_of (sa_cons (se_var 2) (sa_cons (se_var 6) sa_nil)) (aCons_len (aCons_len aNil_len))))
    (ss_then (ss_if (st_bool (sw_or (st_not (st_tru (sp_of (se_isi (T := "tuple") (by rfl) T.n_isinstance (by rfl) T.n_tuple (sp_of (se_var 10)))))) (sw_or (st_cmp (op_neD (hu64 pl)) o_ne (se_callB1 call_lenA c_len (by rfl) T.n_len (sp_of (se_var 10))) se_int (nomark _)) (sw_or (st_not (st_tru (sp_of (se_call ((O__law_is_whole T).up (by decide)) pl hr (by rfl) T.g__law_is_whole T.d__law_is_whole.kp T.b__law_is_whole (sa_cons (se_ix (se_var 10) se_int) sa_nil) (aCons_len aNil_len))))) (sw_or1 (st_cmp (op_neD (hu64 pl)) o_ne (se_ix (se_var 10) se_int) (se_var 7) (nomark _))))))) (ss_one (ss_ret se_bool)) ss_nil)
    (ss_then (ss_set (i := 11) pl.nd rfl (by first | exact Or.inl rfl | exact Or.inr rfl) (se_call ((O_threshold T).up (by decide)) pl hr (by rfl) T.g_threshold T.d_threshold.kp T.b_threshold (sa_cons (se_var 2) (sa_cons (se_var 6) sa_nil)) (aCons_len (aCons_len aNil_len))))
    (ss_one (ss_if (st_cmp (op_eqD (hu64 pl)) o_eq (se_callB1 call_lenA c_len (by rfl) T.n_len (sp_of (se_var 9))) se_int (nomark _)) (ss_one (ss_if (st_bool (sw_or (st_cmp op_notN o_isNot (se_ix (se_var 10) se_int) se_none (nomark _)) (sw_or1 (st_cmp op_notN o_isNot (se_var 11) se_none (nomark _))))) (ss_one (ss_ret se_bool)) ss_nil)) (ss_then (ss_if (st_bool (sw_or (st_not (st_tru (sp_of (se_call ((O__law_is_whole T).up (by decide)) pl hr (by rfl) T.g__law_is_whole T.d__law_is_whole.kp T.b__law_is_whole (sa_cons (se_ix (se_var 10) se_int) sa_nil) (aCons_len aNil_len))))) (sw_or1 (st_cmp (op_neD (hu64 pl)) o_ne (se_ix (se_var 10) se_int) (se_callB1 (cr_max pl.calm) c_max (by rfl) T.n_max (sp_of (se_var 9))) (nomark _))))) (ss_one (ss_ret se_bool)) ss_nil)
    (ss_one (ss_if (st_bool (sw_or (st_not (st_tru (sp_of (se_call ((O__law_is_whole T).up (by decide)) pl hr (by rfl) T.g__law_is_whole T.d__law_is_whole.kp T.b__law_is_whole (sa_cons (se_var 11) sa_nil) (aCons_len aNil_len))))) (sw_or1 (st_cmp (op_neD (hu64 pl)) o_ne (se_var 11) (se_callB2 (call_max2 pl.calm) c_max2 (by rfl) T.n_max se_int (se_op2 op_sub o_sub (se_var 7) (se_callB1 (cr_max pl.calm) c_max (by rfl) T.n_max (sp_of (se_var 9))))) (nomark _))))) (ss_one (ss_ret se_bool)) ss_nil)))))))))))
    (ss_one (ss_ret (se_cmp (op_eqD (hu64 pl)) o_eq (se_callB1 (cr_repr pl) c_repr (by rfl) T.n_repr (sp_of (se_var 2))) (se_var 3) (nomark _)))))))))
theorem O_law (T : Tx K mg fd) : FnG P w K mg base CX0 10 (He.ga K "law") (fd 22) ["_law_script"] (spP K 1 R_law) := FnG.pure T.d_law sc_law (B_law T)
end
end K73
namespace K73
open PySem PySem.Spec PyProof.Rows L2 SL Sk
theorem eq_had : R_sets_had = Sk.R_sets_had := rfl
theorem eq_sum : R_sum_of = Sk.R_sum_of := rfl
theorem eq_close : R__law_close_sky = Sk.R__law_close_sky := rfl
theorem eq_lists : R__law_lists = Sk.R__law_lists := rfl
theorem eq_lwrong : R__law_wrong = Sk.R__law_wrong := rfl
theorem eq_lworth : R__law_worth = Sk.R__law_worth := rfl
theorem eq_whole : R__law_is_whole = Sk.R__law_is_whole := rfl
theorem sum_lcL (SD WD : D) (ws : List Int) (f : Int → Int) (h1 : ixD SD (.int 1) = some WD) (hf : ∀ w ∈ ws, ixD WD (.int w) = some (.int (f w))) (hl : ws.length ≤ 1000) :
    Sk.sum_of_c1 [some (.val SD), some (.val (.list (ws.map .int))), none] = some ((ws.map f).map .int, [some (.val SD), some (.val (.list (ws.map .int))), none]) := by
  unfold Sk.sum_of_c1
  rw [List.map_map]
  refine (lc_run1 (fun (w : Int) => (.int w : D)) _ (r0 := [some (.val SD), some (.val (.list (ws.map .int))), none]) rfl rfl (fun w hw => ?_) (by omega)).trans rfl
  generalize PyData.list (ws.map .int) = L
  simp [lcTurn, h1, hf w hw]
theorem sum_okL {S : Sky} (ws : List Int) (hw : ∀ w ∈ ws, S.has w) (hl : ws.length ≤ 1000) : Sk.R_sum_of [skyD S, .list (ws.map .int)] = some (.int (sumW S ws)) := by
  have lc := sum_lcL (skyD S) _ ws S.wo (sky_i1 S) (fun w h => wo_ix (hw w h).1 (hw w h).2) hl
  have sm := sum_ints (ws.map S.wo)
  unfold Sk.R_sum_of runP Sk.F_sum_of sumW
  generalize (ws.map S.wo).map PyData.int = zs at lc sm
  simp [startE, lc, sm]
/-! line_of -/
def om (b : Option Int) (x : Int) : Option Int := match b with
  | none => some x
  | some y => some (mx y x)
def stepL (w : Int) (o : List Int → Int) (s : Int × Option Int) (ws : List Int) : Int × Option Int := if w ∈ ws then (s.1, om s.2 (o ws)) else (mx s.1 (o ws), s.2)
theorem fold_l (w : Int) (o : List Int → Int) : ∀ (hs : List (List Int)) (a : Int) (b : Option Int), hs.foldl (stepL w o) (a, b) = (((hs.filter fun ws => !decide (w ∈ ws)).map o).foldl mx a, ((hs.filter fun ws => decide (w ∈ ws)).map o).foldl om b)
  | [], a, b => rfl
  | ws :: hs, a, b => by
    rw [List.foldl_cons, List.filter_cons, List.filter_cons]
    unfold stepL
    by_cases h : w ∈ ws
    · rw [if_pos h, decide_eq_true h]
      exact fold_l w o hs a _
    · rw [if_neg h, decide_eq_false h]
      exact fold_l w o hs _ b
theorem fold_mx : ∀ (xs : List Int) (a : Int), a ≤ xs.foldl mx a ∧ (∀ x ∈ xs, x ≤ xs.foldl mx a) ∧ (xs.foldl mx a = a ∨ xs.foldl mx a ∈ xs)
  | [], a => ⟨Int.le_refl _, fun x h => (by cases h), .inl rfl⟩
  | x :: xs, a => by
    obtain ⟨h1, h2, h3⟩ := fold_mx xs (mx a x)
    have hm : a ≤ mx a x ∧ x ≤ mx a x ∧ (mx a x = a ∨ mx a x = x) := by
      unfold mx
      split
      · exact ⟨by omega, Int.le_refl _, .inr rfl⟩
      · exact ⟨Int.le_refl _, by omega, .inl rfl⟩
    rw [List.foldl_cons]
    refine ⟨by omega, fun y hy => ?_, ?_⟩
    · rcases List.mem_cons.mp hy with rfl | hy
      · omega
      · exact h2 y hy
    · rcases h3 with h3 | h3
      · rcases hm.2.2 with e | e
        · exact .inl (by rw [h3, e])
        · exact .inr (by rw [h3, e]; exact List.mem_cons_self ..)
      · exact .inr (List.mem_cons_of_mem _ h3)
theorem fold_max (xs : List Int) (a : Int) : xs.foldl mx a = maxI (a :: xs) := by
  obtain ⟨h1, h2, h3⟩ := fold_mx xs a
  obtain ⟨m1, m2⟩ := maxI_spec (ns := a :: xs) (by simp)
  have l1 : maxI (a :: xs) ≤ xs.foldl mx a := by
    rcases List.mem_cons.mp m1 with e | e
    · omega
    · exact h2 _ e
  have l2 : xs.foldl mx a ≤ maxI (a :: xs) := by
    rcases h3 with e | e
    · rw [e]; exact m2 _ (List.mem_cons_self ..)
    · exact m2 _ (List.mem_cons_of_mem _ e)
  omega
theorem fold_om1 : ∀ (xs : List Int) (a : Int), xs.foldl om (some a) = some (xs.foldl mx a)
  | [], _ => rfl
  | x :: xs, a => by
    rw [List.foldl_cons, List.foldl_cons]
    exact fold_om1 xs _
theorem fold_om (xs : List Int) : xs.foldl om none = if xs = [] then none else some (maxI xs) := by
  cases xs with
  | nil => rfl
  | cons x xs =>
    rw [if_neg (by simp), List.foldl_cons]
    show xs.foldl om (some x) = _
    rw [fold_om1, fold_max]
theorem lo_lc (SD L : D) (ws : List Int) (w a : Int) (b : D) (c5 : Option Cell) (eL : L = wsD ws) (hl : ws.length ≤ 1000) :
    line_of_c1 [some (.val SD), some (.val (.int w)), some (.val (.int a)), some (.val b), some (.val L), c5, none] = some ((ws.filter fun x => !decide (x = w)).map .int, [some (.val SD), some (.val (.int w)), some (.val (.int a)), some (.val b), some (.val L), c5, none]) := by
  unfold line_of_c1
  refine (lc_run (fun (w : Int) => (.int w : D)) (fun x => !decide (x = w)) (fun (w : Int) => (.int w : D)) (r0 := [some (.val SD), some (.val (.int w)), some (.val (.int a)), some (.val b), some (.val L), c5, none]) (by rw [eL]; rfl) rfl (fun x hx => ?_) (by omega)).trans rfl
  by_cases e : x = w <;> simp [lcTurn, e]
theorem lo_ev (SU : List D → Option D) (SD L : D) (zs : List D) (w a o : Int) (b : Option Int) (n : Bool) (lc : line_of_c1 [some (.val SD), some (.val (.int w)), some (.val (.int a)), some (.val (levD b)), some (.val L), none, none] = some (zs, [some (.val SD), some (.val (.int w)), some (.val (.int a)), some (.val (levD b)), some (.val L), none, none]))
    (hs : SU [SD, .list zs] = some (.int o)) (hn : notInD (.int w) L = some (.bool n)) :
    sW [4, 5] (line_of_b1 SU) [some (.val SD), some (.val (.int w)), some (.val (.int a)), some (.val (levD b)), some (.val L), none, none] =
      some (.nx [some (.val SD), some (.val (.int w)), some (.val (.int (if n = true then mx a o else a))), some (.val (levD (if n = true then b else om b o))), none, none, none]) := by
  rw [sW_r]
  unfold line_of_b1
  cases n with
  | true => simp [lc, hs, hn, mx]
  | false =>
    cases b with
    | none => 
      simp only [levD] at lc
      simp [lc, hs, hn, levD, om]
    | some y =>
      simp only [levD] at lc
      by_cases h : o > y
      · simp [lc, hs, hn, levD, om, mx, h]
      · simp [lc, hs, hn, levD, om, mx, h]
def othZ (S : Sky) (w : Int) (ws : List Int) : Int := sumW S (ws.filter fun x => !decide (x = w))
def asideL (S : Sky) (w : Int) : List Int := ((hadZ S).filter fun ws => !decide (w ∈ ws)).map (othZ S w)
def alongL (S : Sky) (w : Int) : List Int := ((hadZ S).filter fun ws => decide (w ∈ ws)).map (othZ S w)
def lineD (S : Sky) (w : Int) : D := .tuple [.int (maxI (0 :: asideL S w)), levD (if alongL S w = [] then none else some (maxI (alongL S w)))]
theorem line_ev (SH SU : List D → Option D) (SD X Y : D) (w : Int) (hs : List D) (h1 : SH [SD] = some (.list hs)) (h2 : loopF (gNm 4) (sW [4, 5] (line_of_b1 SU)) hs [some (.val SD), some (.val (.int w)), some (.val (.int 0)), some (.val .none), none, none, none] = some (.nx [some (.val SD), some (.val (.int w)), some (.val X), some (.val Y), none, none, none])) :
    endP (F_line_of SH SU (startE 7 [SD, .int w])) = some (.tuple [X, Y]) := by
  unfold F_line_of
  rw [sT_nx (r1 := [some (.val SD), some (.val (.int w)), some (.val (.int 0)), some (.val .none), none, none, none]) (by simp [startE])]
  simp [sForW_r, h1, h2]
theorem line_ok {S : Sky} (F : Fit S) (hl : S.looks.length ≤ 16) (hw : ∀ x ∈ S.looks, S.has x.w) (w : Int) : R_line_of [skyD S, .int w] = some (lineD S w) := by
  have lp := (loop_each (A := gNm 4) (body := sW [4, 5] (line_of_b1 Sk.R_sum_of)) wsD (fun s : Int × Option Int => [some (.val (skyD S)), some (.val (.int w)), some (.val (.int s.1)), some (.val (levD s.2)), none, none, none]) (stepL w (othZ S w)) (fun _ => True) (xs := hadZ S) (b := (0, none)) trivial fun s ws hws _ => by
      obtain ⟨i1, i2⟩ := had_in F hw hws
      refine ⟨.inl ?_, trivial⟩
      have fl := List.length_filter_le (fun x => !decide (x = w)) ws
      have h := lo_ev Sk.R_sum_of (skyD S) (wsD ws) _ w s.1 (othZ S w ws) s.2 (!decide (w ∈ ws)) (lo_lc (skyD S) (wsD ws) ws w s.1 (levD s.2) none rfl (by omega)) (sum_okL _ (fun x hx => i1 x (List.mem_filter.mp hx).1) (by omega)) (nin_ws ws w)
      refine Eq.trans h ?_
      unfold stepL
      by_cases e : w ∈ ws
      · rw [if_pos e, decide_eq_true e]; rfl
      · rw [if_neg e, decide_eq_false e]; rfl).1
  rw [fold_l, fold_max, fold_om] at lp
  unfold R_line_of runP
  rw [eq_had, eq_sum]
  exact line_ev _ _ (skyD S) _ _ w _ (had_ok F hl) lp
def thrD (a : Int) (b : Option Int) : D := match b with
  | none => .none
  | some y => .int (mx 0 (a - y))
theorem thr_ev (LO : List D → Option D) (SD : D) (w a : Int) (b : Option Int) (h : LO [SD, .int w] = some (.tuple [.int a, levD b])) : endP (F_threshold LO (startE 4 [SD, .int w])) = some (thrD a b) := by
  unfold F_threshold thrD
  cases b with
  | none => simp only [levD] at h; simp [startE, h]
  | some y => simp only [levD] at h; simp [startE, h, mx]
/-! the law -/
abbrev En (sc dr SD kp PL : D) (c5 c6 c7 c9 c10 c11 : Option Cell) : Ev := [some (.val sc), some (.val dr), some (.val SD), some (.val kp), some (.val PL), c5, c6, c7, none, c9, c10, c11]
theorem c3_ok (sc dr SD kp PL LD : D) (c6 c7 c9 c10 c11 : Option Cell) (p : List Nat) (f : Nat → Int) (g : Nat → D) (h0 : ixD SD (.int 0) = some LD) (hg : ∀ j ∈ p, ixD LD (.int (j : Int)) = some (g j) ∧ ixD (g j) (.int 0) = some (.int (f j))) (hl : p.length ≤ 1000) :
    law_c3 (En sc dr SD kp PL (some (.val (namesD p))) c6 c7 c9 c10 c11) = some ((p.map f).map .int, En sc dr SD kp PL (some (.val (namesD p))) c6 c7 c9 c10 c11) := by
  unfold law_c3
  rw [List.map_map]
  refine (lc_run1 (fun (n : Nat) => (.int n : D)) _ (r0 := En sc dr SD kp PL (some (.val (namesD p))) c6 c7 c9 c10 c11) rfl rfl (fun j hj => ?_) (by omega)).trans rfl
  obtain ⟨g1, g2⟩ := hg j hj
  generalize namesD p = NS
  simp [lcTurn, h0, g1, g2]
theorem c4_ok (LW : List D → Option D) (sc dr SD kp LD : D) (w : Int) (c7 c9 c10 c11 : Option Cell) (ps : List (List Nat)) (f : Nat → Int) (g : Nat → D) (v : List Nat → Int) (h0 : ixD SD (.int 0) = some LD) (hg : ∀ p ∈ ps, (∀ j ∈ p, ixD LD (.int (j : Int)) = some (g j) ∧ ixD (g j) (.int 0) = some (.int (f j))) ∧ p.length ≤ 1000 ∧ LW [SD, namesD p] = some (.int (v p))) (hl : ps.length ≤ 1000) :
    law_c4 LW (En sc dr SD kp (plistD ps) none (some (.val (.int w))) c7 c9 c10 c11) = some (((ps.filter fun p => !decide (w ∈ p.map f)).map v).map .int, En sc dr SD kp (plistD ps) none (some (.val (.int w))) c7 c9 c10 c11) := by
  unfold law_c4
  rw [List.map_map]
  refine (lc_run namesD (fun p => !decide (w ∈ p.map f)) _ (r0 := En sc dr SD kp (plistD ps) none (some (.val (.int w))) c7 c9 c10 c11) rfl rfl (fun p hp => ?_) (by omega)).trans rfl
  have c := c3_ok sc dr SD kp (plistD ps) LD (some (.val (.int w))) c7 c9 c10 c11 p f g h0 (hg p hp).1 (hg p hp).2.1
  have i := nin_ints (p.map f) w
  have s := (hg p hp).2.2
  show _ = some ((if _ then some (PyData.int (v p)) else none), _)
  generalize (p.map f).map PyData.int = zs at c i
  generalize plistD ps = PL at c ⊢
  generalize namesD p = NS at c s ⊢
  generalize decide (w ∈ p.map f) = b at i ⊢
  cases b <;> simp [lcTurn, c, i, s]
theorem c2_ok (LW : List D → Option D) (sc dr SD kp LD WD : D) (w u : Int) (c7 c9 c10 c11 : Option Cell) (ps : List (List Nat)) (f : Nat → Int) (g : Nat → D) (v : List Nat → Int) (h0 : ixD SD (.int 0) = some LD) (h1 : ixD SD (.int 1) = some WD) (h2 : ixD WD (.int w) = some (.int u)) (hg : ∀ p ∈ ps, (∀ j ∈ p, ixD LD (.int (j : Int)) = some (g j) ∧ ixD (g j) (.int 0) = some (.int (f j))) ∧ p.length ≤ 1000 ∧ LW [SD, namesD p] = some (.int (v p))) (hl : ps.length ≤ 1000) :
    law_c2 LW (En sc dr SD kp (plistD ps) none (some (.val (.int w))) c7 c9 c10 c11) = some (((ps.filter fun p => decide (w ∈ p.map f)).map fun p => v p - u).map .int, En sc dr SD kp (plistD ps) none (some (.val (.int w))) c7 c9 c10 c11) := by
  unfold law_c2
  rw [List.map_map]
  refine (lc_run namesD (fun p => decide (w ∈ p.map f)) _ (r0 := En sc dr SD kp (plistD ps) none (some (.val (.int w))) c7 c9 c10 c11) rfl rfl (fun p hp => ?_) (by omega)).trans rfl
  have c := c3_ok sc dr SD kp (plistD ps) LD (some (.val (.int w))) c7 c9 c10 c11 p f g h0 (hg p hp).1 (hg p hp).2.1
  have e : law_c1 = law_c3 := rfl
  rw [e]
  have i := in_ints (p.map f) w
  have s := (hg p hp).2.2
  show _ = some ((if _ then some (PyData.int (v p - u)) else none), _)
  generalize (p.map f).map PyData.int = zs at c i
  generalize plistD ps = PL at c ⊢
  generalize namesD p = NS at c s ⊢
  generalize decide (w ∈ p.map f) = b at i ⊢
  cases b <;> simp [lcTurn, c, i, s, h1, h2]
theorem b1_ev (LW LO IW TH : List D → Option D) (sc dr SD kp PL : D) (w : Int) (A V : List Int) (hA : A ≠ [])
    (c4 : ∀ c7 c9 c10 c11, law_c4 LW (En sc dr SD kp PL none (some (.val (.int w))) c7 c9 c10 c11) = some (A.map .int, En sc dr SD kp PL none (some (.val (.int w))) c7 c9 c10 c11))
    (c2 : ∀ c7 c9 c10 c11, law_c2 LW (En sc dr SD kp PL none (some (.val (.int w))) c7 c9 c10 c11) = some (V.map .int, En sc dr SD kp PL none (some (.val (.int w))) c7 c9 c10 c11))
    (hs : LO [SD, .int w] = some (.tuple [.int (maxI A), levD (if V = [] then none else some (maxI V))])) (ht : TH [SD, .int w] = some (thrD (maxI A) (if V = [] then none else some (maxI V)))) (hw : ∀ u : Int, IW [.int u] = some (.bool true)) :
    ∃ c7 c9 c10 c11, law_b1 LW LO IW TH (En sc dr SD kp PL none (some (.val (.int w))) none none none none) = some (.nx (En sc dr SD kp PL none (some (.val (.int w))) c7 c9 c10 c11)) := by
  have mA := max_ints hA
  have q : ∀ i : Int, neD (.int i) (.int i) = some (.bool false) := fun i => neD_self (Sh.int 0 _).shp
  have l4 := c4 none none none none
  have l2 := c2 (some (.val (.int (maxI A)))) none none none
  by_cases e : V = []
  · rw [if_pos e] at hs ht
    simp only [levD] at hs
    have hs2 : LO [SD, .int w] = some (.tuple [.int (maxI A), .none]) := hs
    have ht2 : TH [SD, .int w] = some .none := ht
    subst e
    refine ⟨some (.val (.int (maxI A))), some (.val (.list [])), some (.val (.tuple [.int (maxI A), .none])), some (.val .none), ?_⟩
    unfold law_b1
    rw [sT_nx (r1 := En sc dr SD kp PL none (some (.val (.int w))) (some (.val (.int (maxI A)))) none none none) (by simp [l4, mA]),
      sT_nx (r1 := En sc dr SD kp PL none (some (.val (.int w))) (some (.val (.int (maxI A)))) (some (.val (.list []))) none none) (by simp [l2]),
      sT_nx (r1 := En sc dr SD kp PL none (some (.val (.int w))) (some (.val (.int (maxI A)))) (some (.val (.list []))) (some (.val (.tuple [.int (maxI A), .none]))) none) (by simp [hs2]),
      sT_nx (r1 := En sc dr SD kp PL none (some (.val (.int w))) (some (.val (.int (maxI A)))) (some (.val (.list []))) (some (.val (.tuple [.int (maxI A), .none]))) none) (by simp [hw, q]),
      sT_nx (r1 := En sc dr SD kp PL none (some (.val (.int w))) (some (.val (.int (maxI A)))) (some (.val (.list []))) (some (.val (.tuple [.int (maxI A), .none]))) (some (.val .none))) (by simp [ht2])]
    simp
  · rw [if_neg e] at hs ht
    simp only [levD] at hs
    have hs2 : LO [SD, .int w] = some (.tuple [.int (maxI A), .int (maxI V)]) := hs
    have ht2 : TH [SD, .int w] = some (.int (mx 0 (maxI A - maxI V))) := ht
    have mV := max_ints e
    have lv : lenD (.list (V.map .int)) = some (.int V.length) := by
      show some (PyData.int _) = _
      rw [List.length_map]
    have ln : ¬ (V.length : Int) = 0 := fun z => e (List.length_eq_zero_iff.mp (by omega))
    generalize eV : PyData.list (V.map .int) = VD at *
    have m2 : max2D (.int 0) (.int (maxI A - maxI V)) = some (.int (mx 0 (maxI A - maxI V))) := rfl
    refine ⟨some (.val (.int (maxI A))), some (.val VD), some (.val (.tuple [.int (maxI A), .int (maxI V)])), some (.val (.int (mx 0 (maxI A - maxI V)))), ?_⟩
    unfold law_b1
    rw [sT_nx (r1 := En sc dr SD kp PL none (some (.val (.int w))) (some (.val (.int (maxI A)))) none none none) (by simp [l4, mA]),
      sT_nx (r1 := En sc dr SD kp PL none (some (.val (.int w))) (some (.val (.int (maxI A)))) (some (.val VD)) none none) (by simp [l2, eV]),
      sT_nx (r1 := En sc dr SD kp PL none (some (.val (.int w))) (some (.val (.int (maxI A)))) (some (.val VD)) (some (.val (.tuple [.int (maxI A), .int (maxI V)]))) none) (by simp [hs2]),
      sT_nx (r1 := En sc dr SD kp PL none (some (.val (.int w))) (some (.val (.int (maxI A)))) (some (.val VD)) (some (.val (.tuple [.int (maxI A), .int (maxI V)]))) none) (by simp [hw, q]),
      sT_nx (r1 := En sc dr SD kp PL none (some (.val (.int w))) (some (.val (.int (maxI A)))) (some (.val VD)) (some (.val (.tuple [.int (maxI A), .int (maxI V)]))) (some (.val (.int (mx 0 (maxI A - maxI V)))))) (by simp [ht2])]
    generalize mx 0 (maxI A - maxI V) = z at *
    simp [-max2D_i, lv, ln, e, hw, mV, q, m2]
theorem c5_ok (LL LW : List D → Option D) (sc dr SD kp : D) (ls : List (List Nat)) (f : List Nat → D) (h1 : LL [SD] = some (plistD ls)) (hf : ∀ p ∈ ls, LW [SD, namesD p] = some (f p) ∧ (f p = .none ∨ ∃ w k, f p = .tuple [.str w, .int k])) (hl : ls.length ≤ 1000) :
    law_c5 LL LW [some (.val sc), some (.val dr), some (.val SD), some (.val kp), none, none, none, none, none, none, none, none] = some ((ls.filter fun p => isN (f p)).map namesD, [some (.val sc), some (.val dr), some (.val SD), some (.val kp), none, none, none, none, none, none, none, none]) := by
  unfold law_c5
  refine (lc_run namesD (fun p => isN (f p)) namesD (r0 := [some (.val sc), some (.val dr), some (.val SD), some (.val kp), none, none, none, none, none, none, none, none]) (by simp [iSeq, h1, plistD]) rfl (fun p hp => ?_) (by omega)).trans rfl
  obtain ⟨a, b⟩ := hf p hp
  generalize namesD p = NS at a ⊢
  rcases b with b | ⟨w, k, b⟩ <;> rw [b] at a ⊢ <;> simp [lcTurn, a, isN]
theorem law_ev (Dr CS LL LR LW LO IW TH : List D → Option D) (sc dr SD kp WD : D) (n : Nat) (hn : n ≤ 1000) (ps : List D) (h1 : Dr [sc, .int 60] = some dr) (h2 : CS [dr] = some SD) (h3 : reprD SD = some kp) (q1 : eqD kp kp = some (.bool true)) (w1 : ixD SD (.int 1) = some WD) (w2 : lenD WD = some (.int n))
    (h5 : law_c5 LL LR [some (.val sc), some (.val dr), some (.val SD), some (.val kp), none, none, none, none, none, none, none, none] = some (ps, [some (.val sc), some (.val dr), some (.val SD), some (.val kp), none, none, none, none, none, none, none, none]))
    (hb : ∀ k : Nat, k < n → ∃ c7 c9 c10 c11, law_b1 LW LO IW TH (En sc dr SD kp (.list ps) none (some (.val (.int k))) none none none none) = some (.nx (En sc dr SD kp (.list ps) none (some (.val (.int k))) c7 c9 c10 c11))) :
    endP (F_law Dr CS LL LR LW LO IW TH (startE 12 [sc])) = some (.bool true) := by
  have lp := (loop_each (A := gNm 6) (body := sW [6, 7, 9, 10, 11] (law_b1 LW LO IW TH)) (fun (j : Nat) => (.int j : D)) (fun _ : Unit => En sc dr SD kp (.list ps) none none none none none none) (fun _ _ => ()) (fun _ => True) (xs := List.range n) (b := ()) trivial fun _ j hj _ => by
      obtain ⟨c7, c9, c10, c11, h⟩ := hb j (List.mem_range.mp hj)
      refine ⟨.inl ?_, trivial⟩
      show sW [6, 7, 9, 10, 11] (law_b1 LW LO IW TH) (En sc dr SD kp (.list ps) none (some (.val (.int j))) none none none none) = _
      rw [sW_r, h]
      rfl).1
  rw [← rngL_map] at lp
  have hr := okR_of (i := (n : Int)) (by omega) (by omega)
  unfold F_law
  rw [sT_nx (r1 := [some (.val sc), some (.val dr), none, none, none, none, none, none, none, none, none, none]) (by simp [startE, h1]),
    sT_nx (r1 := [some (.val sc), some (.val dr), some (.val SD), none, none, none, none, none, none, none, none, none]) (by simp [h2]),
    sT_nx (r1 := [some (.val sc), some (.val dr), some (.val SD), some (.val kp), none, none, none, none, none, none, none, none]) (by simp [h3]),
    sT_nx (r1 := [some (.val sc), some (.val dr), some (.val SD), some (.val kp), some (.val (.list ps)), none, none, none, none, none, none, none]) (by simp [h5]),
    sT_nx (r1 := [some (.val sc), some (.val dr), some (.val SD), some (.val kp), some (.val (.list ps)), none, none, none, none, none, none, none]) (by simp [SL.iRng1, sForW_r, w1, w2, hr, lp])]
  simp [h3, q1]
theorem sum_cons (S : Sky) (x : Int) (ws : List Int) : sumW S (x :: ws) = S.wo x + sumW S ws := rfl
theorem oth_out {S : Sky} {w : Int} {ws : List Int} (h : w ∉ ws) : othZ S w ws = sumW S ws := by
  unfold othZ
  rw [List.filter_eq_self.mpr fun x hx => ?_]
  rw [Bool.not_eq_true', decide_eq_false_iff_not]
  intro e
  exact h (e ▸ hx)
theorem oth_in {S : Sky} {w : Int} : ∀ {ws : List Int}, ws.Nodup → w ∈ ws → othZ S w ws = sumW S ws - S.wo w
  | x :: ws, hn, h => by
    rw [List.nodup_cons] at hn
    rw [sum_cons]
    rcases List.mem_cons.mp h with rfl | h
    · have e : othZ S w (w :: ws) = othZ S w ws := by
        unfold othZ
        rw [List.filter_cons, decide_eq_true rfl]
        rfl
      rw [e, oth_out hn.1]
      omega
    · have hx : ¬ x = w := fun e => hn.1 (e ▸ h)
      have e : othZ S w (x :: ws) = S.wo x + othZ S w ws := by
        unfold othZ
        rw [List.filter_cons, decide_eq_false hx]
        rfl
      have := oth_in (S := S) hn.2 h
      omega
theorem law_true (ns : List Int) (hns : ns.length ≤ 63) : R_law [.list (ns.map .int)] = some (.bool true) := by
  obtain ⟨ds, h1, hl, hb⟩ := SL.draws_ok ns (by omega) 60 (by decide)
  have ix : ∀ i : Nat, i < 60 → ixD (.list (ds.map .int)) (.int i) = some (.int (ds.getD i 0)) := fun i hi => Rg.ix_at i (by omega)
  obtain ⟨S, h2, ok, many, t30, _⟩ := close_ok (.list (ds.map .int)) (fun i => ds.getD i 0) ix
  rw [← eq_close] at h2
  have F := fit_long ok
  have rp := long_repr ok
  have wl := ok.wl1
  have hw : ∀ x ∈ S.looks, S.has x.w := fun x hx => ⟨(ok.looks x hx).w0, (ok.looks x hx).w1⟩
  have pl := plans_len many
  have lenW : lenD (.list (S.worths.map .int)) = some (.int S.worths.length) := by
    show some (PyData.int _) = _
    rw [List.length_map]
  have hpl : ∀ p ∈ plansL S, (∀ i ∈ p, i < S.looks.length) ∧ p.length ≤ 6 := fun p hp => by
    obtain ⟨a, b⟩ := mem_plans.mp hp
    have := plan_len a _ b
    exact ⟨b, by omega⟩
  have hwo : ∀ p ∈ plansL S, R__law_worth [skyD S, namesD p] = some (.int (worthZ S p)) := fun p hp => by
    rw [eq_lworth]
    exact lworth_ok hw (by omega) p (hpl p hp).1 (by have := (hpl p hp).2; omega)
  have hwo2 : ∀ p ∈ plansL S, worthZ S p = sumW S (setOf S p) := fun p hp => worth_set (mem_plans.mp hp).1
  have e5 := c5_ok R__law_lists R__law_wrong (.list (ns.map .int)) (.list (ds.map .int)) (skyD S) (.str (skyD S).shown) (lst S.looks.length) (fun p => S.wrongD p) (by rw [eq_lists]; exact li_ok S many) (fun p hp => by
    obtain ⟨a, b⟩ := lst_lt _ p hp
    refine ⟨by rw [eq_lwrong]; exact lwrong_ok F ok.looks t30 p a (by omega), ?_⟩
    rcases wrong_form S p with h | ⟨w, k, h, _⟩
    · exact .inl h
    · exact .inr ⟨w, k, h⟩) (by rw [lst_len]; have := Nat.pow_le_pow_right (show 0 < 2 by decide) many; omega)
  unfold R_law runP
  refine law_ev _ _ _ _ _ _ _ _ (.list (ns.map .int)) (.list (ds.map .int)) (skyD S) (.str (skyD S).shown) _ S.worths.length (by omega) ((plansL S).map namesD) h1 h2 rp (eqD_self (Sh.str 0 (long_sw ok).st).shp) (sky_i1 S) lenW e5 ?_
  intro k hk
  have hg : ∀ p ∈ plansL S, ∀ j ∈ p, ixD (.list (S.looks.map lD)) (.int (j : Int)) = some (lD (S.lk j)) ∧ ixD (lD (S.lk j)) (.int 0) = some (.int (S.wi j)) := fun p hp j hj => ⟨look_ix (lk_get ((hpl p hp).1 j hj)), rfl⟩
  have lo := line_ok F (by omega) hw (k : Int)
  have hA : (((plansL S).filter fun p => !decide ((k : Int) ∈ p.map S.wi)).map (worthZ S)) ≠ [] := fun e => by
    have h := plans_nil S
    have : worthZ S [] ∈ (((plansL S).filter fun p => !decide ((k : Int) ∈ p.map S.wi)).map (worthZ S)) := List.mem_map.mpr ⟨[], List.mem_filter.mpr ⟨h, by simp⟩, rfl⟩
    rw [e] at this
    cases this
  have hav : ∀ x, x ∈ (0 :: asideL S k) ↔ x ∈ ((plansL S).filter fun p => !decide ((k : Int) ∈ p.map S.wi)).map (worthZ S) := fun x => by
    rw [List.mem_cons, List.mem_map]
    unfold asideL
    rw [List.mem_map]
    constructor
    · intro h
      rcases h with rfl | ⟨ws, hws, e⟩
      · exact ⟨[], List.mem_filter.mpr ⟨plans_nil S, by simp⟩, rfl⟩
      · obtain ⟨a, b⟩ := List.mem_filter.mp hws
        rw [Bool.not_eq_true', decide_eq_false_iff_not] at b
        obtain ⟨p, hp, hq, rfl⟩ := (sets_iff F ws).mp a
        have hm := mem_plans.mpr ⟨hp, hq⟩
        refine ⟨p, List.mem_filter.mpr ⟨hm, ?_⟩, by rw [hwo2 p hm, ← oth_out b]; exact e⟩
        rw [Bool.not_eq_true', decide_eq_false_iff_not]
        exact fun z => b (mem_set.mpr z)
    · intro ⟨p, hp, e⟩
      obtain ⟨a, b⟩ := List.mem_filter.mp hp
      rw [Bool.not_eq_true', decide_eq_false_iff_not] at b
      have b2 : (k : Int) ∉ setOf S p := fun z => b (mem_set.mp z)
      refine .inr ⟨setOf S p, List.mem_filter.mpr ⟨(sets_iff F _).mpr ⟨p, (mem_plans.mp a).1, (mem_plans.mp a).2, rfl⟩, ?_⟩, by rw [oth_out b2, ← hwo2 p a]; exact e⟩
      rw [Bool.not_eq_true', decide_eq_false_iff_not]
      exact b2
  have hlv : ∀ x, x ∈ alongL S k ↔ x ∈ ((plansL S).filter fun p => decide ((k : Int) ∈ p.map S.wi)).map fun p => worthZ S p - S.wo k := fun x => by
    rw [List.mem_map]
    unfold alongL
    rw [List.mem_map]
    constructor
    · intro ⟨ws, hws, e⟩
      obtain ⟨a, b⟩ := List.mem_filter.mp hws
      have b2 := of_decide_eq_true b
      obtain ⟨p, hp, hq, rfl⟩ := (sets_iff F ws).mp a
      have hm := mem_plans.mpr ⟨hp, hq⟩
      have nd : (setOf S p).Nodup := (Sk.sortI_perm _).nodup_iff.mpr (plan_wishes hp)
      refine ⟨p, List.mem_filter.mpr ⟨hm, decide_eq_true (mem_set.mp b2)⟩, by rw [hwo2 p hm, ← oth_in nd b2]; exact e⟩
    · intro ⟨p, hp, e⟩
      obtain ⟨a, b⟩ := List.mem_filter.mp hp
      have b2 : (k : Int) ∈ setOf S p := mem_set.mpr (of_decide_eq_true b)
      have nd : (setOf S p).Nodup := (Sk.sortI_perm _).nodup_iff.mpr (plan_wishes (mem_plans.mp a).1)
      exact ⟨setOf S p, List.mem_filter.mpr ⟨(sets_iff F _).mpr ⟨p, (mem_plans.mp a).1, (mem_plans.mp a).2, rfl⟩, decide_eq_true b2⟩, by rw [oth_in nd b2, ← hwo2 p a]; exact e⟩
  have hne : alongL S k = [] ↔ (((plansL S).filter fun p => decide ((k : Int) ∈ p.map S.wi)).map fun p => worthZ S p - S.wo k) = [] := by
    rw [List.eq_nil_iff_forall_not_mem, List.eq_nil_iff_forall_not_mem]
    exact ⟨fun h x z => h x ((hlv x).mpr z), fun h x z => h x ((hlv x).mp z)⟩
  have eV : (if alongL S k = [] then none else some (maxI (alongL S k))) = if (((plansL S).filter fun p => decide ((k : Int) ∈ p.map S.wi)).map fun p => worthZ S p - S.wo k) = [] then none else some (maxI (((plansL S).filter fun p => decide ((k : Int) ∈ p.map S.wi)).map fun p => worthZ S p - S.wo k)) := by
    by_cases z : alongL S k = []
    · rw [if_pos z, if_pos (hne.mp z)]
    · rw [if_neg z, if_neg (fun y => z (hne.mpr y)), maxI_eq z (fun y => z (hne.mpr y)) hlv]
  unfold lineD at lo
  rw [maxI_eq (by simp) hA hav, eV] at lo
  have th := thr_ev R_line_of (skyD S) k _ _ lo
  refine b1_ev R__law_worth R_line_of R__law_is_whole R_threshold _ _ (skyD S) _ _ k _ _ hA
    (fun c7 c9 c10 c11 => c4_ok R__law_worth _ _ (skyD S) _ _ k c7 c9 c10 c11 (plansL S) S.wi _ (worthZ S) (sky_i0 S) (fun p hp => ⟨hg p hp, by have := (hpl p hp).2; omega, hwo p hp⟩) (by omega))
    (fun c7 c9 c10 c11 => c2_ok R__law_worth _ _ (skyD S) _ _ _ k _ c7 c9 c10 c11 (plansL S) S.wi _ (worthZ S) (sky_i0 S) (sky_i1 S) (wo_ix (by omega) (by omega)) (fun p hp => ⟨hg p hp, by have := (hpl p hp).2; omega, hwo p hp⟩) (by omega))
    lo th (fun u => by rw [eq_whole]; exact whole_ok u)
end K73
namespace K73
open PySem PySem.Spec PyProof.Rows L2 SL
def fa : List He.Fa := [.glo "_law_draws", .glo "_law_sky", .glo "_law_close_sky", .glo "loss", .glo "emptied", .glo "end_of", .glo "stored_at", .glo "level_behind", .glo "turning", .glo "follows", .glo "reached", .glo "plans_by_set", .glo "sets_had", .glo "sum_of", .glo "line_of", .glo "threshold", .glo "_law_lists", .glo "_law_store", .glo "_law_turn", .glo "_law_wrong", .glo "_law_worth", .glo "_law_is_whole", .glo "law", .free "abs", .free "bool", .free "enumerate", .free "int", .free "isinstance", .free "len", .free "list", .free "max", .free "min", .free "range", .free "repr", .free "sorted", .free "sum", .free "tuple"]
def fn : List He.DefD := [⟨("_law_draws", none), "_law_draws", "_law_draws", defArgs s__law_draws, defBody s__law_draws, defScope s__law_draws, [], []⟩, ⟨("_law_sky", none), "_law_sky", "_law_sky", defArgs s__law_sky, defBody s__law_sky, defScope s__law_sky, [], []⟩, ⟨("_law_close_sky", none), "_law_close_sky", "_law_close_sky", defArgs s__law_close_sky, defBody s__law_close_sky, defScope s__law_close_sky, [], []⟩, ⟨("loss", none), "loss", "loss", defArgs s_loss, defBody s_loss, defScope s_loss, [], []⟩, ⟨("emptied", none), "emptied", "emptied", defArgs s_emptied, defBody s_emptied, defScope s_emptied, [], []⟩, ⟨("end_of", none), "end_of", "end_of", defArgs s_end_of, defBody s_end_of, defScope s_end_of, [], []⟩, ⟨("stored_at", none), "stored_at", "stored_at", defArgs s_stored_at, defBody s_stored_at, defScope s_stored_at, [], []⟩, ⟨("level_behind", none), "level_behind", "level_behind", defArgs s_level_behind, defBody s_level_behind, defScope s_level_behind, [], []⟩, ⟨("turning", none), "turning", "turning", defArgs s_turning, defBody s_turning, defScope s_turning, [], []⟩, ⟨("follows", none), "follows", "follows", defArgs s_follows, defBody s_follows, defScope s_follows, [], []⟩, ⟨("reached", none), "reached", "reached", defArgs s_reached, defBody s_reached, defScope s_reached, [], []⟩, ⟨("plans_by_set", none), "plans_by_set", "plans_by_set", defArgs s_plans_by_set, defBody s_plans_by_set, defScope s_plans_by_set, [], []⟩, ⟨("sets_had", none), "sets_had", "sets_had", defArgs s_sets_had, defBody s_sets_had, defScope s_sets_had, [], []⟩, ⟨("sum_of", none), "sum_of", "sum_of", defArgs s_sum_of, defBody s_sum_of, defScope s_sum_of, [], []⟩, ⟨("line_of", none), "line_of", "line_of", defArgs s_line_of, defBody s_line_of, defScope s_line_of, [], []⟩, ⟨("threshold", none), "threshold", "threshold", defArgs s_threshold, defBody s_threshold, defScope s_threshold, [], []⟩, ⟨("_law_lists", none), "_law_lists", "_law_lists", defArgs s__law_lists, defBody s__law_lists, defScope s__law_lists, [], []⟩, ⟨("_law_store", none), "_law_store", "_law_store", defArgs s__law_store, defBody s__law_store, defScope s__law_store, [], []⟩, ⟨("_law_turn", none), "_law_turn", "_law_turn", defArgs s__law_turn, defBody s__law_turn, defScope s__law_turn, [], []⟩, ⟨("_law_wrong", none), "_law_wrong", "_law_wrong", defArgs s__law_wrong, defBody s__law_wrong, defScope s__law_wrong, [], []⟩, ⟨("_law_worth", none), "_law_worth", "_law_worth", defArgs s__law_worth, defBody s__law_worth, defScope s__law_worth, [], []⟩, ⟨("_law_is_whole", none), "_law_is_whole", "_law_is_whole", defArgs s__law_is_whole, defBody s__law_is_whole, defScope s__law_is_whole, [], []⟩, ⟨("law", none), "law", "law", defArgs s_law, defBody s_law, defScope s_law, [], []⟩]
def ex : List (PySem.W.Frag → Bool) := []
abbrev Rw : PySem.W.OpenRow := PySem.W.OpenLaw.row Row
abbrev hk : PySem.W.Hook := hookB 4 ex fa fn
def ob (s : PySem.W.SharedT) : AlB := obsBG 4 ex fa fn (HandSHeadRun.getT s)
theorem ob_eq (s : PySem.W.SharedT) : ob s = hk.obs s.abs := obsBG_eq (HandSHeadRun.getT_eq s)
theorem run (w : World) : HandSHeadRun.RunEq Rw (PySem.W.view Rw.prog [26]) hk ob 3000 ["end_of", "turning", "loss", "emptied", "follows", "stored_at", "level_behind", "reached", "plans_by_set", "sets_had", "sum_of", "line_of", "threshold", "_law_draws", "_law_sky", "_law_turn", "_law_store", "_law_wrong", "_law_lists", "_law_worth", "_law_close_sky", "_law_is_whole"] w := by
  intro os
  kernel_rfl
theorem facts {K : PySem.W.Frag} {h : Heap} {mg : Str → Option Value} (X : K.In h) (G : h.Ns mainGlobals mg) (c : SaysB ex fa fn K) : ∃ fd : Nat → FuncData, Tx K mg fd := by
  obtain ⟨f0, D0⟩ := c.d.def_ 0 rfl
  obtain ⟨f1, D1⟩ := c.d.def_ 1 rfl
  obtain ⟨f2, D2⟩ := c.d.def_ 2 rfl
  obtain ⟨f3, D3⟩ := c.d.def_ 3 rfl
  obtain ⟨f4, D4⟩ := c.d.def_ 4 rfl
  obtain ⟨f5, D5⟩ := c.d.def_ 5 rfl
  obtain ⟨f6, D6⟩ := c.d.def_ 6 rfl
  obtain ⟨f7, D7⟩ := c.d.def_ 7 rfl
  obtain ⟨f8, D8⟩ := c.d.def_ 8 rfl
  obtain ⟨f9, D9⟩ := c.d.def_ 9 rfl
  obtain ⟨f10, D10⟩ := c.d.def_ 10 rfl
  obtain ⟨f11, D11⟩ := c.d.def_ 11 rfl
  obtain ⟨f12, D12⟩ := c.d.def_ 12 rfl
  obtain ⟨f13, D13⟩ := c.d.def_ 13 rfl
  obtain ⟨f14, D14⟩ := c.d.def_ 14 rfl
  obtain ⟨f15, D15⟩ := c.d.def_ 15 rfl
  obtain ⟨f16, D16⟩ := c.d.def_ 16 rfl
  obtain ⟨f17, D17⟩ := c.d.def_ 17 rfl
  obtain ⟨f18, D18⟩ := c.d.def_ 18 rfl
  obtain ⟨f19, D19⟩ := c.d.def_ 19 rfl
  obtain ⟨f20, D20⟩ := c.d.def_ 20 rfl
  obtain ⟨f21, D21⟩ := c.d.def_ 21 rfl
  obtain ⟨f22, D22⟩ := c.d.def_ 22 rfl
  refine ⟨fun i => [f0, f1, f2, f3, f4, f5, f6, f7, f8, f9, f10, f11, f12, f13, f14, f15, f16, f17, f18, f19, f20, f21, f22].getD i f0, ?_⟩
  exact ⟨D0,
    He.glo_ok X G (c.d.fact 0 (f := .glo "_law_draws") rfl),
    D1,
    He.glo_ok X G (c.d.fact 1 (f := .glo "_law_sky") rfl),
    D2,
    He.glo_ok X G (c.d.fact 2 (f := .glo "_law_close_sky") rfl),
    D3,
    He.glo_ok X G (c.d.fact 3 (f := .glo "loss") rfl),
    D4,
    He.glo_ok X G (c.d.fact 4 (f := .glo "emptied") rfl),
    D5,
    He.glo_ok X G (c.d.fact 5 (f := .glo "end_of") rfl),
    D6,
    He.glo_ok X G (c.d.fact 6 (f := .glo "stored_at") rfl),
    D7,
    He.glo_ok X G (c.d.fact 7 (f := .glo "level_behind") rfl),
    D8,
    He.glo_ok X G (c.d.fact 8 (f := .glo "turning") rfl),
    D9,
    He.glo_ok X G (c.d.fact 9 (f := .glo "follows") rfl),
    D10,
    He.glo_ok X G (c.d.fact 10 (f := .glo "reached") rfl),
    D11,
    He.glo_ok X G (c.d.fact 11 (f := .glo "plans_by_set") rfl),
    D12,
    He.glo_ok X G (c.d.fact 12 (f := .glo "sets_had") rfl),
    D13,
    He.glo_ok X G (c.d.fact 13 (f := .glo "sum_of") rfl),
    D14,
    He.glo_ok X G (c.d.fact 14 (f := .glo "line_of") rfl),
    D15,
    He.glo_ok X G (c.d.fact 15 (f := .glo "threshold") rfl),
    D16,
    He.glo_ok X G (c.d.fact 16 (f := .glo "_law_lists") rfl),
    D17,
    He.glo_ok X G (c.d.fact 17 (f := .glo "_law_store") rfl),
    D18,
    He.glo_ok X G (c.d.fact 18 (f := .glo "_law_turn") rfl),
    D19,
    He.glo_ok X G (c.d.fact 19 (f := .glo "_law_wrong") rfl),
    D20,
    He.glo_ok X G (c.d.fact 20 (f := .glo "_law_worth") rfl),
    D21,
    He.glo_ok X G (c.d.fact 21 (f := .glo "_law_is_whole") rfl),
    D22,
    He.glo_ok X G (c.d.fact 22 (f := .glo "law") rfl),
    He.free_ok X G (c.d.fact 23 (f := .free "abs") rfl),
    He.free_ok X G (c.d.fact 24 (f := .free "bool") rfl),
    He.free_ok X G (c.d.fact 25 (f := .free "enumerate") rfl),
    He.free_ok X G (c.d.fact 26 (f := .free "int") rfl),
    He.free_ok X G (c.d.fact 27 (f := .free "isinstance") rfl),
    He.free_ok X G (c.d.fact 28 (f := .free "len") rfl),
    He.free_ok X G (c.d.fact 29 (f := .free "list") rfl),
    He.free_ok X G (c.d.fact 30 (f := .free "max") rfl),
    He.free_ok X G (c.d.fact 31 (f := .free "min") rfl),
    He.free_ok X G (c.d.fact 32 (f := .free "range") rfl),
    He.free_ok X G (c.d.fact 33 (f := .free "repr") rfl),
    He.free_ok X G (c.d.fact 34 (f := .free "sorted") rfl),
    He.free_ok X G (c.d.fact 35 (f := .free "sum") rfl),
    He.free_ok X G (c.d.fact 36 (f := .free "tuple") rfl)⟩
end K73
open PySem PySem.W PySem.Calls PyProof.Rows
set_option maxHeartbeats 0 in
theorem PySem.Challenge.cw_skypasses_k73_lines_of_wishes_holds : PySem.Challenge.rw_skypasses_k73_lines_of_wishes.Holds := by
  w_on; o_law
  refine HandSHeadRun.head_any (r := OpenLaw.row PySem.Challenge.rw_skypasses_k73_lines_of_wishes) (q := view (OpenLaw.row PySem.Challenge.rw_skypasses_k73_lines_of_wishes).prog [26]) (H := K73.hk) (ob := K73.ob) (M := 3000) (loose := ["end_of", "turning", "loss", "emptied", "follows", "stored_at", "level_behind", "reached", "plans_by_set", "sets_had", "sum_of", "line_of", "threshold", "_law_draws", "_law_sky", "_law_turn", "_law_store", "_law_wrong", "_law_lists", "_law_worth", "_law_close_sky", "_law_is_whole"]) (d := HandSHeadRun.topDef (OpenLaw.row PySem.Challenge.rw_skypasses_k73_lines_of_wishes).prog 26) (kwd := []) K73.ob_eq
    (by kernel_rfl) (fun s => by kernel_rfl) K73.run (by kernel_rfl) (by kernel_rfl) (by kernel_rfl) (by rfl) (by first | assumption | decide +kernel) (by decide +kernel) ⟨rfl, rfl, rfl, rfl, rfl, by decide +kernel⟩ ?hw ?hc
  case hw => w_witness2
  case hc =>
    refine SL.walkG (l := PySem.Challenge.rw_skypasses_k73_lines_of_wishes) (n := 63) (k := 10) (x := "_law_script") (fn := K73.R_law) rfl (by decide) (by kernel_rfl) ⟨rfl, by decide, by decide⟩ ?F (fun ns h => K73.law_true ns h)
    intro w mg fa h Y G hmg0
    obtain ⟨K, KX, c⟩ := Y
    have hmg : mg ("law" : PySem.Str) = some (.ref fa) := by
      have e : (HandSHeadRun.topDef (OpenLaw.row PySem.Challenge.rw_skypasses_k73_lines_of_wishes).prog 26).name = ("law" : PySem.Str) := by kernel_rfl
      rw [← e]
      exact hmg0
    obtain ⟨fd, T⟩ := K73.facts KX G c
    have e := hmg.symm.trans T.g_law
    cases e
    exact ⟨K, fd 22, KX, fun s v => T.d_law.bindsA (ps := ["_law_script"]) (fun _ _ _ _ _ _ us hl => match us, hl with | [_], _ => rfl) s [v] rfl, fun base _ _ => K73.O_law T⟩
