import PyProof.Rows.All
import Wide.All
import OpenK.AllK
import HandS.Deep
import HandS.Dict
import HandS.Conv
import KE.KeyNested
import HandS.List
import HandS.Small
import KE.KDictDisplayH
import Wide.FinOn
import HandS.ForExc
import HandS.Comp
import HandS.Iter
import HandS.Walk
import HandS.Zip
import HandS.TupAny
import HandS.TupMul
import HandS.TupLe
import HandS.Flow
import HandS.Text
import HandS.Style
import HandS.IsInst
import HandS.SortInts
import KE.KDictSum
import KE.KDictPairs
import KE.KDictWalk
import HandS.SetFor
import HandS.Strs
import HandS.Star
import HandS.Ends
import KE.GoesEnum
import KE.KDictZip
import HandS.TupLen
import HandS.EndBits
import PySem.Challenge.RW_baylines_k06_whole_who_passes_whom
set_option Elab.async false
set_option linter.all false
set_option maxRecDepth 100000
/-! Dicts whose keys are tuples of ints, None and such tuples. -/
namespace L3
open PySem PySem.Spec PyProof.Rows L2
mutual
/-- plain data as a key -/
def nkOf : PyData → Option NestedKey
  | .none => some .none
  | .int i => some (.num i)
  | .tuple xs => (nksOf xs).map .tup
  | _ => none
def nksOf : List PyData → Option (List NestedKey)
  | [] => some []
  | x :: xs => match nkOf x, nksOf xs with
    | some k, some ks => some (k :: ks)
    | _, _ => none
end
def tkOf : PyData → Option NestedKey
  | .tuple xs => (nksOf xs).bind fun ks => if (NestedKey.tup ks).depth ≤ 8 then some (.tup ks) else none
  | _ => none
mutual
def noTx : NestedKey → Bool
  | .text _ => false
  | .tup ks => noTxs ks
  | _ => true
def noTxs : List NestedKey → Bool
  | [] => true
  | k :: ks => noTx k && noTxs ks
end
mutual
theorem nk_noTx : ∀ {x : PyData} {k : NestedKey}, nkOf x = some k → noTx k = true
  | .none, _, h => by cases h; rfl
  | .int i, _, h => by cases h; rfl
  | .tuple xs, _, h => by
    simp only [nkOf, Option.map_eq_some_iff] at h
    obtain ⟨ks, e, rfl⟩ := h
    simp only [noTx]
    exact nks_noTx e
  | .bool _, _, h => by simp [nkOf] at h
  | .str _, _, h => by simp [nkOf] at h
  | .list _, _, h => by simp [nkOf] at h
  | .dict _, _, h => by simp [nkOf] at h
theorem nks_noTx : ∀ {xs : List PyData} {ks : List NestedKey}, nksOf xs = some ks → noTxs ks = true
  | [], _, h => by cases h; rfl
  | x :: xs, _, h => by
    rw [nksOf] at h
    cases e1 : nkOf x with
    | none => rw [e1] at h; cases h
    | some k =>
      cases e2 : nksOf xs with
      | none => rw [e1, e2] at h; cases h
      | some ks =>
        rw [e1, e2] at h; cases h
        simp only [noTxs, nk_noTx e1, nks_noTx e2, Bool.and_self]
end
theorem tk_noTx {x : PyData} {k : NestedKey} (h : tkOf x = some k) : noTx k = true := by
  cases x <;> simp only [tkOf, reduceCtorEq] at h
  simp only [Option.bind_eq_some_iff, Option.ite_none_right_eq_some, Option.some.injEq] at h
  obtain ⟨ks, e, _, rfl⟩ := h
  simp only [noTx]
  exact nks_noTx e
theorem tk_nk {x : PyData} {k : NestedKey} (h : tkOf x = some k) : nkOf x = some k ∧ k.depth ≤ 8 := by
  cases x <;> simp only [tkOf, reduceCtorEq] at h
  simp only [Option.bind_eq_some_iff, Option.ite_none_right_eq_some, Option.some.injEq] at h
  obtain ⟨ks, e, d, rfl⟩ := h
  exact ⟨by simp [nkOf, e], d⟩
mutual
/-- no text: the world has no say -/
theorem hash_w (w w' : World) : ∀ {k : NestedKey}, noTx k = true → k.hash w = k.hash w'
  | .none, _ => rfl
  | .num _, _ => rfl
  | .text _, h => by cases h
  | .tup ks, h => by
    simp only [noTx] at h
    simp only [NestedKey.hash, hashes_w w w' h]
theorem hashes_w (w w' : World) : ∀ {ks : List NestedKey}, noTxs ks = true → NestedKey.hashes w ks = NestedKey.hashes w' ks
  | [], _ => rfl
  | k :: ks, h => by
    simp only [noTxs, Bool.and_eq_true] at h
    simp only [NestedKey.hashes, hash_w w w' h.1, hashes_w w w' h.2]
end
def tGet {α : Type} (k : NestedKey) : List (NestedKey × α) → Option α
  | [] => none
  | (q, v) :: r => if q = k then some v else tGet k r
def tPut {α : Type} (k : NestedKey) (v : α) : List (NestedKey × α) → List (NestedKey × α)
  | [] => [(k, v)]
  | (q, u) :: r => if q = k then (q, v) :: r else (q, u) :: tPut k v r
theorem tPut_new {α : Type} {k : NestedKey} {v : α} : ∀ {kvs : List (NestedKey × α)}, tGet k kvs = none → tPut k v kvs = kvs ++ [(k, v)]
  | [], _ => rfl
  | (q, u) :: r, e => by
    rw [tGet] at e
    by_cases z : q = k
    · rw [if_pos z] at e; cases e
    · rw [if_neg z] at e
      rw [tPut, if_neg z, tPut_new e]; rfl
theorem tGet_mem {α : Type} {k : NestedKey} : ∀ {kvs : List (NestedKey × α)}, tGet k kvs = none ↔ k ∉ kvs.map (·.1)
  | [] => by simp [tGet]
  | (q, u) :: r => by
    rw [tGet]
    by_cases z : q = k
    · rw [if_pos z]; simp [z]
    · rw [if_neg z, tGet_mem]
      rw [List.map_cons, List.mem_cons, not_or]
      exact ⟨fun h => ⟨fun e => z e.symm, h⟩, fun h => h.2⟩
/-- the entries of such a dict: key, the key's place, its value -/
abbrev TbW := List (NestedKey × Addr × V)
abbrev TR3 (ws : TbW) (xs : List (NestedKey × Addr × Value)) : Prop := Paired (fun p q => p.1 = q.1 ∧ p.2.1 = q.2.1 ∧ RelV p.2.2 q.2.2) ws xs
/-- the dict at a -/
def TD (a : Addr) (ws : TbW) : HO := .ext fun h => ws.length ≤ sizeLine ∧ (a == sysModules) = false ∧ (ws.map (·.1)).Nodup ∧ (∀ p ∈ ws, noTx p.1 = true) ∧
  ∃ xs : List (NestedKey × Addr × Value), TR3 ws xs ∧ ∃ (P : Program) (w : World) (o : Obj) (es : Array DictEntry) (ep : Nat), h.get? a = some o ∧ o.ExactDict ∧ o.data = .dict es ep ∧ es.toList = xs.map (entryOfKey (nestedKind P w))
theorem TR3.keys {ws : TbW} {xs : List (NestedKey × Addr × Value)} (r : TR3 ws xs) : ws.map (·.1) = xs.map (·.1) := by
  induction r with
  | nil => rfl
  | cons h _ ih => simp [h.1, ih]
theorem TR3.ent {ws : TbW} {xs : List (NestedKey × Addr × Value)} (r : TR3 ws xs) (nt : ∀ p ∈ ws, noTx p.1 = true) (P P' : Program) (w w' : World) : xs.map (entryOfKey (nestedKind P w)) = xs.map (entryOfKey (nestedKind P' w')) := by
  induction r with
  | nil => rfl
  | @cons p q ps qs h t ih =>
    have e := hash_w w w' (nt p (by simp))
    rw [List.map_cons, List.map_cons, ih fun p hp => nt p (by simp [hp])]
    congr 1
    show (⟨q.1.hash w, .ref q.2.1, q.2.2⟩ : DictEntry) = ⟨q.1.hash w', .ref q.2.1, q.2.2⟩
    rw [← h.1, e]
section
variable {X : Cx} {pins : List (Addr × PySem.Obj)} {σ : L2.St} {H : Hp} {s : Shared} {a : Addr} {ws : TbW}
theorem td_made (P : Program) (w : World) {H : Hp} {h : Heap} (hl : ws.length ≤ sizeLine) (hm : (a == sysModules) = false) (nd : (ws.map (·.1)).Nodup) (nt : ∀ p ∈ ws, noTx p.1 = true) {xs : List (NestedKey × Addr × Value)} (r : TR3 ws xs)
    {o : PySem.Obj} {es : Array DictEntry} {ep : Nat} (ho : h.get? a = some o) (hx : o.ExactDict) (hd : o.data = .dict es ep) (he : es.toList = xs.map (entryOfKey (nestedKind P w))) (P' : Program) (w' : World) : ObjOk P' w' H h a (TD a ws) := by
  refine ⟨⟨hl, hm, nd, nt, xs, r, P, w, o, es, ep, ho, hx, hd, he⟩, ⟨o, ho⟩, fun h1 h2 z k => ?_⟩
  obtain ⟨b1, b2, b3, b4, xs, b5, P, w, o, es, ep, b6, b7, b8, b9⟩ := z
  exact ⟨b1, b2, b3, b4, xs, b5, P, w, o, es, ep, k _ b6, b7, b8, b9⟩
/-- what the keys are -/
def KeyAt (h : Heap) (p : NestedKey × Addr × V) : Prop := NestedIs h p.1 (.ref p.2.1) ∧ p.1.depth ≤ 8
theorem td_dict (I : Inv X pins σ H s) (e : H a = some (TD a ws)) (hk : ∀ p ∈ ws, KeyAt s.heap p) : ws.length ≤ sizeLine ∧ (a == sysModules) = false ∧ (ws.map (·.1)).Nodup ∧ (∀ p ∈ ws, noTx p.1 = true) ∧
    ∃ xs, TR3 ws xs ∧ s.heap.DictOfH (nestedKind X.prog X.w) a xs := by
  obtain ⟨⟨b1, b2, b3, b4, xs, b5, P, w, o, es, ep, b6, b7, b8, b9⟩, _, _⟩ := (show ObjOk X.prog X.w H s.heap a (TD a ws) from I.hok a _ e)
  refine ⟨b1, b2, b3, b4, xs, b5, o, es, ep, b6, b7, b8, ?_, ?_, ?_⟩
  · rw [b9, b5.ent b4]
  · have all : ∀ {l : TbW} {m : List (NestedKey × Addr × Value)}, TR3 l m → (∀ p ∈ l, KeyAt s.heap p) → ∀ x ∈ m, (nestedKind X.prog X.w).is s.heap x.1 x.2.1 := by
      intro l m q
      induction q with
      | nil => intro _ x hx; exact nomatch hx
      | @cons p q ps qs hq t ih =>
        intro hh x hx
        rcases List.mem_cons.mp hx with e | hx
        · subst e
          have := hh p (by simp)
          rw [← hq.1, ← hq.2.1]
          exact this
        · exact ih (fun p hp => hh p (by simp [hp])) x hx
    exact all b5 hk
  · rw [← b5.keys]; exact b3
/-- what stands at a key -/
theorem TR3.val {xs : List (NestedKey × Addr × Value)} (r : TR3 ws xs) (k : NestedKey) : RelO ((tGet k ws).map (·.2)) ((atKey xs k).map (·.2)) := by
  induction r with
  | nil => exact True.intro
  | @cons p q ps qs h t ih =>
    obtain ⟨h1, _, h2⟩ := h
    by_cases e : p.1 = k
    · have e' : q.1 = k := h1.symm.trans e
      have b : atKey (q :: qs) k = some q.2 := by simp [atKey, List.find?_cons, e']
      rw [b, show p :: ps = (p.1, p.2) :: ps from rfl, tGet, if_pos e]; exact h2
    · have e' : ¬ q.1 = k := fun z => e (h1.trans z)
      have b : atKey (q :: qs) k = atKey qs k := by simp [atKey, List.find?_cons, e']
      rw [b, show p :: ps = (p.1, p.2) :: ps from rfl, tGet, if_neg e]; exact ih
theorem TR3.some_eq {xs : List (NestedKey × Addr × Value)} (r : TR3 ws xs) (k : NestedKey) : (tGet k ws).isSome = (atKey xs k).isSome := by
  have q := (r.val k).isSome_eq
  rw [Option.isSome_map, Option.isSome_map] at q
  exact q
/-- the entry that a store leaves: the key that stood stays in its place -/
def tSet (k : NestedKey) (b : Addr) (v : V) : TbW → TbW
  | [] => [(k, b, v)]
  | (q, c, u) :: r => if q = k then (q, c, v) :: r else (q, c, u) :: tSet k b v r
theorem tSet_keys {k : NestedKey} {b : Addr} {v : V} : ∀ {ws : TbW}, (tSet k b v ws).map (·.1) = if (tGet k ws).isSome then ws.map (·.1) else ws.map (·.1) ++ [k]
  | [] => rfl
  | (q, c, u) :: r => by
    rw [tSet, tGet]
    by_cases z : q = k
    · rw [if_pos z, if_pos z]; simp
    · rw [if_neg z, if_neg z, List.map_cons, tSet_keys (ws := r)]
      split <;> simp
theorem tSet_len {k : NestedKey} {b : Addr} {v : V} : ∀ {ws : TbW}, (tSet k b v ws).length ≤ ws.length + 1
  | [] => by simp [tSet]
  | (q, c, u) :: r => by
    rw [tSet]
    split
    · simp
    · have := tSet_len (k := k) (b := b) (v := v) (ws := r)
      simp only [List.length_cons]; omega
theorem putAt_id {k : NestedKey} {u : Value} : ∀ {xs : List (NestedKey × Addr × Value)}, k ∉ xs.map (·.1) → xs.map (putAt k u) = xs
  | [], _ => rfl
  | x :: xs, h => by
    rw [List.map_cons, List.mem_cons, not_or] at h
    rw [List.map_cons, putAt_id h.2]
    unfold putAt
    rw [if_neg fun e => h.1 e.symm]
theorem TR3.put {xs : List (NestedKey × Addr × Value)} (r : TR3 ws xs) (nd : (ws.map (·.1)).Nodup) (k : NestedKey) {b : Addr} {y : V} {u : Value} (ry : RelV y u) : TR3 (tSet k b y ws) (storedH xs k b u) := by
  unfold storedH
  rw [← r.some_eq]
  induction r with
  | nil => exact .cons ⟨rfl, rfl, ry⟩ .nil
  | @cons p q ps qs h t ih =>
    obtain ⟨h1, h2, h3⟩ := h
    rw [List.map_cons, List.nodup_cons] at nd
    obtain ⟨p1, p2, p3⟩ := p
    obtain ⟨q1, q2, q3⟩ := q
    simp only at h1 h2 h3
    subst h1 h2
    by_cases e : p1 = k
    · subst e
      have g : tGet p1 ((p1, p2, p3) :: ps) = some (p2, p3) := by rw [tGet, if_pos rfl]
      rw [g]
      simp only [Option.isSome_some, if_true, tSet, List.map_cons]
      rw [putAt_id (by rw [← TR3.keys t]; exact nd.1)]
      have e1 : putAt p1 u (p1, p2, q3) = (p1, p2, u) := by simp [putAt]
      rw [e1]
      exact .cons ⟨rfl, rfl, ry⟩ t
    · have g : tGet k ((p1, p2, p3) :: ps) = tGet k ps := by rw [tGet, if_neg e]
      rw [g]
      have ih := ih nd.2
      rw [tSet, if_neg e]
      by_cases z : (tGet k ps).isSome = true
      · rw [if_pos z] at ih ⊢
        rw [List.map_cons]
        have e1 : putAt k u (p1, p2, q3) = (p1, p2, q3) := by simp [putAt, e]
        rw [e1]
        exact .cons ⟨rfl, rfl, h3⟩ ih
      · rw [if_neg z] at ih ⊢
        exact .cons ⟨rfl, rfl, h3⟩ ih
mutual
/-- plain data is a key -/
theorem nk_is (I : Inv X pins σ H s) : ∀ {x : PyData} {k : NestedKey} {v : V} {u : Value}, Dp X.K H v x → nkOf x = some k → RelV v u → NestedIs s.heap k u
  | .none, _, _, _, d, h, r => by cases h; cases d; cases (show _ = Value.none from r); exact .none
  | .int i, _, _, _, d, h, r => by cases h; cases d; obtain ⟨t, rfl⟩ := (show ∃ t, _ = Value.int i t from r); exact .int i t
  | .tuple xs, _, _, _, d, h, r => by
    simp only [nkOf, Option.map_eq_some_iff] at h
    obtain ⟨ks, e, rfl⟩ := h
    cases d with
    | tup h1 h2 =>
      cases (show _ = Value.ref _ from r)
      obtain ⟨its, rv, ⟨o, ho, hc, n, hd⟩, _⟩ := I.tuple h1
      exact .tup ho hc hd (by simpa using nks_is I h2 e rv)
  | .bool _, _, _, _, _, h, _ => by simp [nkOf] at h
  | .str _, _, _, _, _, h, _ => by simp [nkOf] at h
  | .list _, _, _, _, _, h, _ => by simp [nkOf] at h
  | .dict _, _, _, _, _, h, _ => by simp [nkOf] at h
theorem nks_is (I : Inv X pins σ H s) : ∀ {xs : List PyData} {ks : List NestedKey} {vs : List V} {us : List Value}, DpAll X.K H vs xs → nksOf xs = some ks → Vals vs us → NestedAll s.heap ks us
  | [], _, _, _, d, h, r => by cases h; cases d; cases r; exact .nil
  | x :: xs, _, _, _, d, h, r => by
    rw [nksOf] at h
    cases e1 : nkOf x with
    | none => rw [e1] at h; cases h
    | some k =>
      cases e2 : nksOf xs with
      | none => rw [e1, e2] at h; cases h
      | some ks =>
        rw [e1, e2] at h; cases h
        cases d with
        | cons d1 d2 =>
          cases r with
          | cons r1 r2 => exact .cons (nk_is I d1 e1 r1) (nks_is I d2 e2 r2)
end
end
end L3

/-! What is asked of such dicts, and what is stored in them. -/
namespace L3
open PySem PySem.Spec PyProof.Rows L2
def KeyD (K : PySem.W.Frag) (H : Hp) (p : NestedKey × Addr × V) : Prop := ∃ x, Dp K H (.ref p.2.1) x ∧ tkOf x = some p.1
section
variable {X : Cx} {pins : List (Addr × PySem.Obj)} {σ : L2.St} {H : Hp} {s : Shared} {a b : Addr} {ws : TbW} {k : NestedKey} {A : Around} {E : Value → Shared → Prop}
theorem key_at (I : Inv X pins σ H s) {p : NestedKey × Addr × V} (h : KeyD X.K H p) : KeyAt s.heap p := by
  obtain ⟨x, d, e⟩ := h
  obtain ⟨h1, h2⟩ := tk_nk e
  exact ⟨nk_is I d h1 rfl, h2⟩
theorem room_in1 (hu : A.units + 20 < cLine) : (nestedKind X.prog X.w).room A.in1 := by
  show A.in1.units + 8 < cLine
  have : A.in1.units ≤ A.units + 1 := by first | exact Nat.le_refl _ | (show A.units + 1 ≤ A.units + 1; exact Nat.le_refl _)
  omega
theorem t_getItem {Q : Value → Shared → Prop} {c : Addr} {v : V} (hu : A.units + 20 < cLine) (I : Inv X pins σ H s) (e : H a = some (TD a ws)) (hk : ∀ p ∈ ws, KeyD X.K H p) (hb : KeyD X.K H (k, b, v)) (g : tGet k ws = some (c, v)) (h : ∀ w' s', Inv X pins σ H s' → RelV v w' → Q w' s') :
    wpAny (model X.prog X.w) A (getItem (.ref a) (.ref b)) Q E s := by
  obtain ⟨_, _, _, _, xs, r, dd⟩ := td_dict I e fun p hp => key_at I (hk p hp)
  obtain ⟨w', hw, rw'⟩ := RelO.some_of (v := v) (o := (atKey xs k).map (·.2)) (by have := r.val k; rw [g] at this; exact this)
  obtain ⟨p, hp, hp2⟩ := Option.map_eq_some_iff.mp hw
  refine wpAny_getItem_heap (room_in1 (X := X) hu) (key_at I hb) dd hp ?_
  rw [hp2]
  exact h w' _ (I.tok _) rw'
theorem t_in {Q : Value → Shared → Prop} {v : V} (hu : A.units + 20 < cLine) (I : Inv X pins σ H s) (e : H a = some (TD a ws)) (hk : ∀ p ∈ ws, KeyD X.K H p) (hb : KeyD X.K H (k, b, v)) (h : ∀ s', Inv X pins σ H s' → Q (.bool (tGet k ws).isSome) s') :
    wpAny (model X.prog X.w) A (compareOp .In (.ref b) (.ref a)) Q E s := by
  obtain ⟨_, hd, _, _, xs, r, dd⟩ := td_dict I e fun p hp => key_at I (hk p hp)
  refine wpAny_in_heap (room_in1 (X := X) hu) (key_at I hb) hd dd ?_
  rw [← r.some_eq]
  exact h _ (I.tok _)
theorem t_notIn {Q : Value → Shared → Prop} {v : V} (hu : A.units + 20 < cLine) (I : Inv X pins σ H s) (e : H a = some (TD a ws)) (hk : ∀ p ∈ ws, KeyD X.K H p) (hb : KeyD X.K H (k, b, v)) (h : ∀ s', Inv X pins σ H s' → Q (.bool (!(tGet k ws).isSome)) s') :
    wpAny (model X.prog X.w) A (compareOp .NotIn (.ref b) (.ref a)) Q E s := by
  obtain ⟨_, hd, _, _, xs, r, dd⟩ := td_dict I e fun p hp => key_at I (hk p hp)
  refine wpAny_notIn_heap (room_in1 (X := X) hu) (key_at I hb) hd dd ?_
  rw [← r.some_eq]
  exact h _ (I.tok _)
theorem t_write {h' : Heap} {t' : Nat} {ws' : TbW} (I : Inv X pins σ H s) (e : H a = some (TD a ws)) (hs : Heap.SameBut a s.heap h') (he : ∃ q, h'.get? a = some q) (new : ObjOk X.prog X.w (upd H a (TD a ws')) h' a (TD a ws')) :
    Inv X pins σ (upd H a (TD a ws')) { s with heap := h', toks := t' } :=
  d_write I (by rw [e]; exact True.intro) hs he new
theorem t_setItem {Q : Unit → Shared → Prop} {v : V} {r : Value} (hu : A.units + 20 < cLine) (I : Inv X pins σ H s) (e : H a = some (TD a ws)) (hk : ∀ p ∈ ws, KeyD X.K H p) (hb : KeyD X.K H (k, b, v)) (hl : ws.length < sizeLine) (rv : RelV v r)
    (h : ∀ s', Inv X pins σ (upd H a (TD a (tSet k b v ws))) s' → Q () s') :
    wpAny (model X.prog X.w) A (setItem (.ref a) (.ref b) r) Q E s := by
  obtain ⟨hz, hd, nd, nt, xs, rr, dd⟩ := td_dict I e fun p hp => key_at I (hk p hp)
  have hz' : xs.length ≤ sizeLine := by rw [← Paired.length rr]; exact hz
  refine wpAny_setItem_heap (hsz := hz') (room_in1 (X := X) hu) (key_at I hb) dd fun h' dd' hs => h _ ?_
  obtain ⟨q, es, ep, hq, h2, h3, h4, _, h5⟩ := dd'
  have nt' : noTx k = true := by obtain ⟨_, _, e⟩ := hb; exact tk_noTx e
  refine t_write I e hs ⟨q, hq⟩ (td_made X.prog X.w ?_ hd ?_ ?_ (rr.put nd k rv) hq h2 h3 h4 _ _)
  · have := tSet_len (k := k) (b := b) (v := v) (ws := ws); omega
  · rw [tSet_keys]
    by_cases z : (tGet k ws).isSome = true
    · rw [if_pos z]; exact nd
    · rw [if_neg z, List.nodup_append]
      refine ⟨nd, by simp, fun x hx y hy => ?_⟩
      have : y = k := by simpa using hy
      subst this
      have : tGet y ws = none := by cases q : tGet y ws with | none => rfl | some _ => rw [q] at z; simp at z
      exact fun z => tGet_mem.mp this (by rw [← z]; exact hx)
  · have all : ∀ (l : TbW), (∀ p ∈ l, noTx p.1 = true) → ∀ p ∈ tSet k b v l, noTx p.1 = true := by
      intro l
      induction l with
      | nil => intro _ p hp; simp only [tSet, List.mem_singleton] at hp; subst hp; exact nt'
      | cons x l ih =>
        intro hl p hp
        obtain ⟨q, c, u⟩ := x
        rw [tSet] at hp
        by_cases z : q = k
        · rw [if_pos z] at hp
          rcases List.mem_cons.mp hp with rfl | hp
          · exact hl (q, c, u) (by simp)
          · exact hl p (by simp [hp])
        · rw [if_neg z] at hp
          rcases List.mem_cons.mp hp with rfl | hp
          · exact hl (q, c, u) (by simp)
          · exact ih (fun p hp => hl p (by simp [hp])) p hp
    exact all ws nt
theorem t_isD (I : Inv X pins σ H s) (e : H a = some (TD a ws)) (hk : ∀ p ∈ ws, KeyD X.K H p) : s.TypeIs (.ref a) "dict" := by
  obtain ⟨_, _, _, _, xs, r, dd⟩ := td_dict I e fun p hp => key_at I (hk p hp)
  exact dd.typeIs
end
/-! as rules -/
def rTab (K : PySem.W.Frag) : R2 := fun x y H Q => ∃ (a b c : Addr) (ws : TbW) (k : NestedKey) (v : V), x = .ref a ∧ y = .ref b ∧ H a = some (TD a ws) ∧ (∀ p ∈ ws, KeyD K H p) ∧ KeyD K H (k, b, v) ∧ tGet k ws = some (c, v) ∧ Q v H
theorem ix_tab {X : Cx} (hu : X.A.units + 20 < cLine) : IxR X (rTab X.K) := by
  intro value slice pins s σ H x y v u Q I rx ry h hs
  obtain ⟨a, b, c, ws, k, w, rfl, rfl, e, hk, hb, g, q⟩ := h
  cases rx
  cases ry
  have hT := t_isD I e hk
  unfold subscriptTail
  refine wpAny_bind ?_
  rw [getitemInPython_of_ne hT.not_modules]
  refine wpAny_bind (wpAny_specialOf hT PySem.F.slot_dict_getitem.lookup ?_)
  have fin : wpAny (model X.prog X.w) X.A (subscripted slice false (.ref a) (.ref b)) (fun r s₃ => wpAny (model X.prog X.w) X.A (letTemporaryGo value (.ref a) r >>= fun _ => pure r) (EP X pins σ Q) X.xe s₃) X.xe s := by
    rw [hs]
    exact wpAny_operating (wpAny_mono (t_getItem hu I e hk hb g fun w' s3 I3 rw' => (⟨w, H, I3, rw', q⟩ : EP X pins σ Q w' s3)) (fun r s₃ h₃ => wpAny_bind (wpAny_letTemporaryGo (wpAny_pure h₃))) fun _ _ x => x)
  first
    | exact wpAny_pure (wpAny_bind fin)
    | exact wpAny_bind (wpAny_pure (wpAny_bind fin))
    | exact wpAny_bind fin
/-- b: in, not in -/
def rTin (K : PySem.W.Frag) (z : Bool) : R2 := fun y x H Q => ∃ (a b : Addr) (ws : TbW) (k : NestedKey) (v : V), x = .ref a ∧ y = .ref b ∧ H a = some (TD a ws) ∧ (∀ p ∈ ws, KeyD K H p) ∧ KeyD K H (k, b, v) ∧ Q (.bl ((tGet k ws).isSome == z)) H
theorem oc_tin {X : Cx} (hu : X.A.units + 20 < cLine) : OpR X (compareOp .In) (rTin X.K true) := by
  intro pins s σ H x y v u Q I rx ry h
  obtain ⟨a, b, ws, k, w, rfl, rfl, e, hk, hb, q⟩ := h
  cases rx
  cases ry
  exact t_in hu I e hk hb fun s3 I3 => ⟨.bl ((tGet k ws).isSome == true), H, I3, by cases (tGet k ws).isSome <;> rfl, q⟩
theorem oc_tnotin {X : Cx} (hu : X.A.units + 20 < cLine) : OpR X (compareOp .NotIn) (rTin X.K false) := by
  intro pins s σ H x y v u Q I rx ry h
  obtain ⟨a, b, ws, k, w, rfl, rfl, e, hk, hb, q⟩ := h
  cases rx
  cases ry
  exact t_notIn hu I e hk hb fun s3 I3 => ⟨.bl ((tGet k ws).isSome == false), H, I3, by cases (tGet k ws).isSome <;> rfl, q⟩
def rSetT (K : PySem.W.Frag) : TSet := fun o i v H Q => ∃ (a b : Addr) (ws : TbW) (k : NestedKey), o = .ref a ∧ i = .ref b ∧ H a = some (TD a ws) ∧ (∀ p ∈ ws, KeyD K H p) ∧ KeyD K H (k, b, v) ∧ ws.length < sizeLine ∧ Q (upd H a (TD a (tSet k b v ws)))
theorem set_tab {X : Cx} (hu : X.A.units + 20 < cLine) : PSet X (rSetT X.K) := by
  intro pins s σ H o i v ov iv u Q I ro ri rv h
  obtain ⟨a, b, ws, k, rfl, rfl, e, hk, hb, hl, q⟩ := h
  cases ro
  cases ri
  exact t_setItem hu I e hk hb hl rv fun s' I' => ⟨_, I', q⟩
/-! displays -/
theorem td_empty {P : Program} {w : World} {H : Hp} (h : Heap) (hb : sysModules < h.objs.size) : ObjOk P w H (h.push { cls := .type "dict", data := .dict #[] }) h.objs.size (TD h.objs.size []) :=
  td_made P w (ws := []) (Nat.zero_le _) (beq_eq_false_iff_ne.mpr (Ne.symm (Nat.ne_of_lt hb))) List.nodup_nil (fun _ h => nomatch h) .nil (Heap.get?_push_size _ rfl) ⟨rfl, rfl, rfl⟩ rfl rfl P w
def tTNew : TE := fun _ H Q => ∀ p, H p = none → Q (.ref p) (upd H p (TD p []))
theorem pe_tnew {X : Cx} {pos : Pos} : PE X (.Dict [] [] pos) tTNew := ⟨fun pins s σ H Q I h =>
  wpAny_Dict_empty ⟨.ref s.heap.objs.size, _, I.laid (a := s.heap.objs.size) (o := TD s.heap.objs.size []) (t' := s.toks) (fun _ _ q => Heap.get?_push_of_some _ q) (Nat.le_refl _) (td_empty s.heap I.big), rfl, h _ (I.hok.fresh (Nat.le_refl _))⟩⟩
def tTOne (K : PySem.W.Frag) (tk tv : TE) : TE := fun σ H Q => ∀ p, H p = none → tk σ (upd H p (TD p [])) fun x H1 => tv σ H1 fun y H2 => H2 p = some (TD p []) ∧ ∃ (b : Addr) (k : NestedKey), x = .ref b ∧ KeyD K H2 (k, b, y) ∧ Q (.ref p) (upd H2 p (TD p [(k, b, y)]))
theorem pe_tone {X : Cx} {pos : Pos} {e v : Expr} {tk tv : TE} (hu : X.A.units + 20 < cLine) (hk : PE X e tk) (hv : PE X v tv) : PE X (.Dict [some e] [v] pos) (tTOne X.K tk tv) := by
  refine ⟨fun pins s σ H Q I q => ?_⟩
  have hn := I.hok.fresh (Nat.le_refl s.heap.objs.size)
  have I1 := I.laid (a := s.heap.objs.size) (o := TD s.heap.objs.size []) (h' := s.heap.push { cls := .type "dict", data := .dict #[] }) (t' := s.toks) (fun _ _ q => Heap.get?_push_of_some _ q) (Nat.le_refl _) (td_empty s.heap I.big)
  have pps := pps_cons (pos := pos) hk hv pps_nil
  have hrm : (nestedKind X.prog X.w).room X.A := by show X.A.units + 8 < cLine; omega
  have hlen : (pairTrees [some e] [v] X.env pos).length = 1 := pairTrees_length [some e] [v] X.env pos rfl rfl
  have h0 : pairTrees [some e] [v] X.env pos ≠ [] := fun z => by rw [z] at hlen; simp at hlen
  rw [arm_eval_Dict, zip_pairTrees [some e] [v] X.env pos rfl rfl, dictDisplay_pairs _ h0 (by omega)]
  refine wpAny_bind (wpAny_standAt (wpAny_bind (wpAny_subDictH (knd := nestedKind X.prog X.w) (Q := fun d s' => wpAny (model X.prog X.w) X.A (pure (Value.ref d)) (EP X pins σ Q) X.xe s') hrm (by omega) (thn (pps.run pins _ σ _ (fun ps H2 => match ps with
    | [(x, y)] => H2 s.heap.objs.size = some (TD s.heap.objs.size []) ∧ ∃ (b : Addr) (k : NestedKey), x = .ref b ∧ KeyD X.K H2 (k, b, y) ∧ Q (.ref s.heap.objs.size) (upd H2 s.heap.objs.size (TD s.heap.objs.size [(k, b, y)]))
    | _ => False) I1 (q _ hn)) fun vs s2 ⟨ps, H2, I2, rel, pr⟩ => ?_))))
  match ps, pr with
  | [(x, y)], pr =>
    obtain ⟨ea, b, k, rfl, hb, q2⟩ := pr
    cases rel with
    | @cons _ c _ cs h t =>
      cases t
      obtain ⟨c1, c2⟩ := c
      obtain ⟨h1, h2⟩ := h
      cases (show c1 = Value.ref b from h1)
      obtain ⟨hz, hd, nd, nt, xs, rr, dd⟩ := td_dict I2 ea (fun _ h => nomatch h)
      cases rr
      refine ⟨[(k, b, c2)], ⟨rfl, rfl, key_at I2 hb, trivial⟩, dd, fun h' tk' dd' hs => wpAny_pure ⟨.ref s.heap.objs.size, _, ?_, rfl, q2⟩⟩
      have nt' : noTx k = true := by obtain ⟨_, _, e⟩ := hb; exact tk_noTx e
      obtain ⟨o, es, ep, h3, h4, h5, h6, h7, h8⟩ := dd'
      refine t_write I2 ea hs ⟨o, h3⟩ (td_made X.prog X.w ?_ hd ?_ ?_ (xs := [(k, b, c2)]) (.cons ⟨rfl, rfl, h2⟩ .nil) h3 h4 h5 h6 _ _)
      · rw [sizeLine_eq]; simp
      · simp
      · intro p hp
        rw [List.mem_singleton.mp hp]; exact nt'
end L3

/-! Plain values, own lists, a small tree of Python, what it means. -/
namespace L3
open PySem

/-- a key of a dict: an int or a text -/
abbrev Key := L2.Key
/-- what a name may hold: plain data (shared, never changed), a list of its own (k: while a loop walks it), a list or dict of its own with such things in it -/
inductive D where
  | p (d : PyData)
  | l (xs : List PyData)
  | k (xs : List PyData)
  | g (xs : List D)
  | d (kvs : List (Key × D))
  | t (kvs : List (NestedKey × PyData))
  deriving Inhabited
structure Ex where
  cls : Nat
  arg : Option PyData
abbrev Env := List (Option D)
def slot (ρ : Env) (i : Nat) : Option D := (ρ[i]?).join
inductive Res (α : Type) where
  | st | ok (a : α) (ρ : Env) | ex (x : Ex) (ρ : Env)
def Res.bind {α β : Type} (r : Res α) (k : α → Env → Res β) : Res β := match r with
  | .st => .st | .ok a ρ => k a ρ | .ex x ρ => .ex x ρ
def lift {α : Type} (o : Option α) (ρ : Env) : Res α := match o with
  | none => .st | some a => .ok a ρ
/-- what an expression gives: a thing of its own; the thing in slot i, looked at; a list that is looked at -/
inductive T where
  | o (d : D) | r (i : Nat) | q (xs : List PyData)
def D.flat : D → Option PyData
  | .p x => some x
  | .l xs => some (.list xs)
  | .k xs => some (.list xs)
  | .g _ => none
  | .d _ => none
  | .t _ => none
def T.dat (t : T) (ρ : Env) : Option PyData := match t with
  | .o d => d.flat
  | .r i => (slot ρ i).bind D.flat
  | .q xs => some (.list xs)
/-- plain data that may be kept -/
def T.pure : T → Option PyData
  | .o (.p d) => some d
  | _ => none
def pures : List T → Option (List PyData)
  | [] => some []
  | t :: r => match t.pure, pures r with | some x, some xs => some (x :: xs) | _, _ => none
def dats (ρ : Env) : List T → Option (List PyData)
  | [] => some []
  | t :: r => match t.dat ρ, dats ρ r with | some x, some xs => some (x :: xs) | _, _ => none

/-! ### operations on data -/
inductive BOp where | add | sub | mul | fdiv | mod | pow | band | shl
inductive COp where | eq | ne | lt | le | gt | ge | isin | notin | is | isnot
def two64 (i : Int) : Bool := decide (-(2 ^ 64) < i) && decide (i < 2 ^ 64)
def bin : BOp → PyData → PyData → Option D
  | .add, .int i, .int j => some (.p (.int (i + j)))
  | .add, .str x, .str y => if x.length + y.length ≤ sizeLine then some (.p (.str (x ++ y))) else none
  | .add, .list xs, .list ys => if xs.length + ys.length ≤ sizeLine then some (.l (xs ++ ys)) else none
  | .add, .tuple xs, .tuple ys => if xs.length + ys.length ≤ sizeLine then some (.p (.tuple (xs ++ ys))) else none
  | .sub, .int i, .int j => some (.p (.int (i - j)))
  | .mul, .int i, .int j => if two64 i || two64 j then some (.p (.int (i * j))) else none
  | .mul, .tuple xs, .int j => if xs.length * j.toNat ≤ sizeLine && decide (-(2 ^ 62) < j) && decide (j < 2 ^ 62) then some (.p (.tuple (List.replicate j.toNat xs).flatten)) else none
  | .mul, .list xs, .int j => if xs.length * j.toNat ≤ sizeLine && decide (-(2 ^ 62) < j) && decide (j < 2 ^ 62) then some (.l (List.replicate j.toNat xs).flatten) else none
  | .fdiv, .int i, .int j => if decide (0 < j) && decide (j < 1073741824) then some (.p (.int (i / j))) else none
  | .mod, .int i, .int j => if decide (0 < j) then some (.p (.int (i % j))) else none
  | .pow, .int i, .int j => if decide (0 ≤ j) && decide (j ≤ 1000000) && decide (i.natAbs < 2 ^ 64) then some (.p (.int (i ^ j.toNat))) else none
  | .band, .int i, .int j => some (.p (.int (Builtin.bitAnd i j)))
  | .shl, .int i, .int j => if decide (0 ≤ j) && decide (j ≤ 1000000) && decide (i.natAbs < 2 ^ 64) then some (.p (.int (i * 2 ^ j.toNat))) else none
  | _, _, _ => none
mutual
def ltD : PyData → PyData → Option Bool
  | .int i, .int j => some (decide (i < j))
  | .str x, .str y => some (decide (x.cps.toList < y.cps.toList))
  | .tuple xs, .tuple ys => ltAll xs ys
  | _, _ => none
def ltAll : List PyData → List PyData → Option Bool
  | [], [] => some false
  | [], _ :: _ => some true
  | _ :: _, [] => some false
  | x :: xs, y :: ys => if PyData.eqv x y then ltAll xs ys else ltD x y
end
mutual
def leD : PyData → PyData → Option Bool
  | .int i, .int j => some (decide (i ≤ j))
  | .str x, .str y => some (!decide (y.cps.toList < x.cps.toList))
  | .tuple xs, .tuple ys => leAll xs ys
  | _, _ => none
def leAll : List PyData → List PyData → Option Bool
  | [], [] => some true
  | [], _ :: _ => some true
  | _ :: _, [] => some false
  | x :: xs, y :: ys => if PyData.eqv x y then leAll xs ys else leD x y
end
def shp (x : PyData) : Bool := SeqAt.shaped x
def isinD : PyData → PyData → Option Bool
  | x, .list ys => if shp x && shp (.list ys) then some (ys.any fun z => PyData.eqv z x) else none
  | x, .tuple ys => if shp x && shp (.tuple ys) then some (ys.any fun z => PyData.eqv z x) else none
  | .str x, .str y => some (!(Builtin.Str.occurrences y x 0 y.length 1).isEmpty)
  | _, _ => none
def isNone : PyData → Bool
  | .none => true
  | _ => false
def cmpD : COp → PyData → PyData → Option Bool
  | .eq, x, y => if shp x && shp y then some (PyData.eqv x y) else none
  | .ne, x, y => if shp x && shp y then some (!PyData.eqv x y) else none
  | .lt, x, y => if shp x && shp y then ltD x y else none
  | .le, x, y => if shp x && shp y then leD x y else none
  | .gt, .int i, .int j => some (decide (j < i))
  | .ge, .int i, .int j => some (decide (j ≤ i))
  | .isin, x, y => isinD x y
  | .notin, x, y => (isinD x y).map (!·)
  | .is, x, .none => some (isNone x)
  | .isnot, x, .none => some (!isNone x)
  | _, _, _ => none
def truth : PyData → Option Bool
  | .none => some false
  | .bool b => some b
  | .int i => some (i != 0)
  | .str x => if x.length ≤ sizeLine then some ((x.length : Int) != 0) else none
  | .list xs => some (!xs.isEmpty)
  | .tuple xs => some (!xs.isEmpty)
  | .dict _ => none
/-- the place of an index of any sign -/
def ix (n : Nat) (i : Int) : Option Nat := L2.ixN n i
def atD : PyData → PyData → Option PyData
  | .list xs, .int i => (ix xs.length i).bind fun j => xs[j]?
  | .tuple xs, .int i => (ix xs.length i).bind fun j => xs[j]?
  | .str x, .int i => if x.length ≤ sizeLine then (ix x.cps.toList.length i).bind fun j => (x.cps.toList[j]?).map fun c => .str ⟨#[c]⟩ else none
  | _, _ => none
def cut {α : Type} (xs : List α) (lo hi : Option Int) : List α := (xs.drop (HT.sIx xs.length 0 lo)).take (HT.sIx xs.length xs.length hi - HT.sIx xs.length 0 lo)
def slD : PyData → Option Int → Option Int → Option D
  | .list xs, lo, hi => some (.l (cut xs lo hi))
  | .tuple xs, lo, hi => some (.p (.tuple (cut xs lo hi)))
  | .str x, lo, hi => if x.length ≤ sizeLine then some (.p (.str ⟨(cut x.cps.toList lo hi).toArray⟩)) else none
  | _, _, _ => none
/-- the whole from behind -/
def revD : PyData → Option D
  | .list xs => some (.l xs.reverse)
  | .tuple xs => some (.p (.tuple xs.reverse))
  | _ => none
/-! ### sorting -/
def insD (x : PyData) : List PyData → Option (List PyData)
  | [] => some [x]
  | y :: r => match ltD x y with
    | none => none
    | some true => some (x :: y :: r)
    | some false => (insD x r).map (y :: ·)
/-- sorted: stable, by < -/
def sortD : List PyData → Option (List PyData)
  | [] => some []
  | x :: r => (sortD r).bind (insD x)
/-- the items, each once, of the first ones -/
def dedup : List PyData → List PyData
  | [] => []
  | x :: r => x :: (dedup r).filter fun y => !PyData.eqv y x
def items : PyData → Option (List PyData)
  | .list xs => some xs
  | .tuple xs => some xs
  | _ => none
def intsOf : List PyData → Option (List Int)
  | [] => some []
  | .int i :: r => (intsOf r).map (i :: ·)
  | _ => none
def boolsOf : List PyData → Option (List Bool)
  | [] => some []
  | .bool i :: r => (boolsOf r).map (i :: ·)
  | _ => none
def insI (x : Int) : List Int → List Int
  | [] => [x]
  | y :: ys => if x ≤ y then x :: y :: ys else y :: insI x ys
def isort : List Int → List Int
  | [] => []
  | x :: xs => insI x (isort xs)
/-- each once -/
def nubI : List Int → List Int
  | [] => []
  | x :: r => if x ∈ r then nubI r else x :: nubI r
def prD (p : Int × Int) : PyData := .tuple [.int p.1, .int p.2]
def prsOf : List PyData → Option (List (Int × Int))
  | [] => some []
  | .tuple [.int i, .int j] :: r => (prsOf r).map ((i, j) :: ·)
  | _ => none
def pairsOf : PyData → Option (List (Int × Int))
  | .list xs => prsOf xs
  | _ => none
def leP (p q : Int × Int) : Bool := decide (p.1 < q.1 ∨ (p.1 = q.1 ∧ p.2 ≤ q.2))
def insP (x : Int × Int) : List (Int × Int) → List (Int × Int)
  | [] => [x]
  | y :: ys => if leP x y then x :: y :: ys else y :: insP x ys
def psort : List (Int × Int) → List (Int × Int)
  | [] => []
  | x :: xs => insP x (psort xs)
def rangeD (lo : Int) (n : Nat) (c : Int) : List PyData := (List.range n).map fun (i : Nat) => .int (lo + (i : Int) * c)
def small62 (i : Int) : Bool := decide (-(2 ^ 62) ≤ i) && decide (i < 2 ^ 62)
inductive Ty where | int | bool | str | tup | lst
def isTy : Ty → PyData → Bool
  | .int, .int _ => true | .int, .bool _ => true
  | .bool, .bool _ => true
  | .str, .str _ => true
  | .tup, .tuple _ => true
  | .lst, .list _ => true
  | _, _ => false
def zipD : List PyData → List PyData → List PyData
  | x :: r, y :: s => .tuple [x, y] :: zipD r s
  | _, _ => []
/-- the greatest -/
def maxI : List Int → Option Int
  | [] => none
  | x :: r => match maxI r with
    | none => some x
    | some m => some (if m < x then x else m)
theorem maxI_ok : ∀ {ns : List Int} {m : Int}, maxI ns = some m → m ∈ ns ∧ ∀ y ∈ ns, y ≤ m
  | [], _, h => by cases h
  | x :: r, m, h => by
    rw [maxI] at h
    cases e : maxI r with
    | none =>
      rw [e] at h
      cases h
      cases r with
      | nil => exact ⟨by simp, fun y hy => by rw [List.mem_singleton.mp hy]; exact Int.le_refl _⟩
      | cons z r =>
        rw [maxI] at e
        split at e <;> cases e
    | some q =>
      rw [e] at h
      obtain ⟨h1, h2⟩ := maxI_ok e
      cases h
      by_cases c : q < x
      · rw [if_pos c]
        refine ⟨by simp, fun y hy => ?_⟩
        rcases List.mem_cons.mp hy with rfl | hy
        · exact Int.le_refl _
        · have := h2 y hy; omega
      · rw [if_neg c]
        refine ⟨by simp [h1], fun y hy => ?_⟩
        rcases List.mem_cons.mp hy with rfl | hy
        · omega
        · exact h2 y hy
/-- pairs of a key and what it takes -/
def kvsOf : List PyData → Option (List (NestedKey × PyData))
  | [] => some []
  | .tuple [k, v] :: r => match tkOf k, kvsOf r with
    | some k, some r => some ((k, v) :: r)
    | _, _ => none
  | _ => none
def tAll (kvs : List (NestedKey × PyData)) : List (NestedKey × PyData) := kvs.foldl (fun acc p => tPut p.1 p.2 acc) []
mutual
/-- the data that a key is -/
def unK : NestedKey → PyData
  | .none => .none
  | .num i => .int i
  | .text _ => .none
  | .tup ks => .tuple (unKs ks)
def unKs : List NestedKey → List PyData
  | [] => []
  | k :: ks => unK k :: unKs ks
end
/-- keys that are pairs of ints -/
def pairK (p : Int × Int) : NestedKey := .tup [.num p.1, .num p.2]
def prKeys {α : Type} : List (NestedKey × α) → Option (List (Int × Int))
  | [] => some []
  | (.tup [.num i, .num j], _) :: r => (prKeys r).map ((i, j) :: ·)
  | _ => none
/-- a built-in's call by data -/
inductive Bi where
  | len | tuple | list | lrange | lzip | sorted | sortedset | lenset | repr | int | abs | sum | min2 | max2 | all | any | max1 | isa (t : Ty) | tdict
def showD (x : PyData) : Option Str := if x.showable && !x.hasDict && decide (x.depth ≤ 64) && decide (x.shown.length ≤ sizeLine) then some x.shown else none
def bi : Bi → List PyData → Option D
  | .len, [.list xs] => some (.p (.int xs.length))
  | .len, [.tuple xs] => some (.p (.int xs.length))
  | .len, [.str x] => if x.length ≤ sizeLine then some (.p (.int x.length)) else none
  | .tuple, [.list xs] => some (.p (.tuple xs))
  | .tuple, [.tuple xs] => some (.p (.tuple xs))
  | .list, [.list xs] => some (.l xs)
  | .list, [.tuple xs] => some (.l xs)
  | .lrange, [.int n] => if small62 n && decide (n ≤ 16777216) then some (.l (rangeD 0 n.toNat 1)) else none
  | .lzip, [.list xs, .list ys] => some (.l (zipD xs ys))
  | .sorted, [x] => (items x).bind fun xs => ((intsOf xs).map fun ns => .l ((isort ns).map .int)).or ((pairsOf x).map fun ps => .l ((psort ps).map prD))
  | .sortedset, [.list xs] => (intsOf xs).bind fun ns => if decide (ns.length < 4095) && decide ((nubI ns).length < 64) then some (.l ((isort (nubI ns)).map .int)) else none
  | .lenset, [x] => (items x).bind fun xs => if xs.all shp then some (.p (.int (dedup xs).length)) else none
  | .repr, [x] => (showD x).map fun z => .p (.str z)
  | .int, [.int i] => some (.p (.int i))
  | .int, [.bool b] => some (.p (.int (if b then 1 else 0)))
  | .abs, [.int i] => some (.p (.int (if i < 0 then -i else i)))
  | .sum, [.list xs] => (intsOf xs).map fun ns => .p (.int ns.sum)
  | .min2, [.int i, .int j] => some (.p (.int (if j < i then j else i)))
  | .max2, [.int i, .int j] => some (.p (.int (if j > i then j else i)))
  | .all, [.list xs] => (boolsOf xs).map fun bs => .p (.bool (bs.all id))
  | .any, [.list xs] => (boolsOf xs).map fun bs => .p (.bool (bs.any id))
  | .max1, [.list xs] => (intsOf xs).bind fun ns => (maxI ns).map fun m => .p (.int m)
  | .isa t, [x] => some (.p (.bool (isTy t x)))
  | .tdict, [.list xs] => (kvsOf xs).map fun ps => .t (tAll ps)
  | _, _ => none
/-- what a loop walks, by data -/
inductive It where | seq | rng1 | rng2 | rng3 | enum | zip
def enumFrom : Nat → List PyData → List PyData
  | _, [] => []
  | n, x :: r => .tuple [.int n, x] :: enumFrom (n + 1) r
def walk : It → List PyData → Option (List PyData)
  | .seq, [x] => items x
  | .rng1, [.int j] => if small62 j then some (rangeD 0 j.toNat 1) else none
  | .rng2, [.int i, .int j] => if small62 i && small62 j then some (rangeD i (j - i).toNat 1) else none
  | .rng3, [.int i, .int j, .int c] => if small62 i && small62 j && decide (c = -1) then some (rangeD i (i - j).toNat (-1)) else none
  | .enum, [.list xs] => some (enumFrom 0 xs)
  | .enum, [.tuple xs] => some (enumFrom 0 xs)
  | .zip, [.list xs, .list ys] => some (zipD xs ys)
  | .zip, [.tuple xs, .tuple ys] => some (zipD xs ys)
  | .zip, [.list xs, .tuple ys] => some (zipD xs ys)
  | .zip, [.tuple xs, .list ys] => some (zipD xs ys)
  | _, _ => none

def isQ : T → Bool
  | .q _ => true
  | _ => false
end L3

namespace L3
open PySem PySem.Spec PyProof.Rows L2
/-! ### heaps in parts -/
def Sub (P H : Hp) : Prop := ∀ a o, P a = some o → H a = some o
def Dj (h k : Hp) : Prop := ∀ a, h a = none ∨ k a = none
def emp : Hp := fun _ => none
def uni (h k : Hp) : Hp := fun a => (h a).or (k a)
theorem Sub.refl (H : Hp) : Sub H H := fun _ _ e => e
theorem Sub.trans {A B C : Hp} (x : Sub A B) (y : Sub B C) : Sub A C := fun a o e => y a o (x a o e)
theorem Sub.emp (H : Hp) : Sub L3.emp H := fun _ _ e => nomatch e
theorem Dj.symm {h k : Hp} (x : Dj h k) : Dj k h := fun a => (x a).symm
theorem Dj.emp (h : Hp) : Dj h L3.emp := fun _ => .inr rfl
theorem Dj.emp' (h : Hp) : Dj L3.emp h := fun _ => .inl rfl
theorem Dj.out {h k : Hp} (x : Dj h k) {a : Addr} (e : h a ≠ none) : k a = none := (x a).resolve_left e
theorem some_ne {α : Type} {o : Option α} (h : o ≠ none) : ∃ x, o = some x := Option.ne_none_iff_exists'.mp h
theorem Sub.ne {h k : Hp} (s : Sub h k) {a : Addr} (e : h a ≠ none) : k a ≠ none := by
  obtain ⟨o, q⟩ := some_ne e
  rw [s a o q]; simp
theorem Dj.mono {h k h' : Hp} (x : Dj h k) (s : ∀ a, h' a ≠ none → h a ≠ none) : Dj h' k := fun a => by
  by_cases e : h' a = none
  · exact .inl e
  · exact .inr (x.out (s a e))
theorem Sub.dj {h k h' : Hp} (x : Dj h k) (s : Sub h' h) : Dj h' k := x.mono fun _ e => s.ne e
theorem uni_ne {h k : Hp} {a : Addr} : uni h k a ≠ none ↔ h a ≠ none ∨ k a ≠ none := by
  unfold uni
  cases h a <;> cases k a <;> simp
theorem uni_left {h k : Hp} : Sub h (uni h k) := fun a o e => by unfold uni; rw [e]; rfl
theorem uni_right {h k : Hp} (d : Dj h k) : Sub k (uni h k) := fun a o e => by
  have q : h a = none := d.symm.out (by rw [e]; simp)
  unfold uni; rw [q]; exact e
theorem uni_sub {h k H : Hp} (x : Sub h H) (y : Sub k H) : Sub (uni h k) H := fun a o e => by
  unfold uni at e
  cases q : h a with
  | none => rw [q] at e; exact y a o e
  | some u => rw [q] at e; cases e; exact x a _ q
theorem uni_dj {h k j : Hp} (x : Dj h j) (y : Dj k j) : Dj (uni h k) j := fun a => by
  by_cases e : uni h k a = none
  · exact .inl e
  · rcases uni_ne.mp e with q | q
    · exact .inr (x.out q)
    · exact .inr (y.out q)
theorem uni_emp {h : Hp} : uni h emp = h := by funext a; unfold uni emp; cases h a <;> rfl
theorem upd_ne_iff {h : Hp} {a b : Addr} {o : HO} : upd h a o b ≠ none ↔ b = a ∨ h b ≠ none := by
  by_cases e : b = a
  · subst e; rw [upd_same]; simp
  · rw [upd_ne e]; simp [e]
theorem upd_sub {h H : Hp} {a : Addr} {o : HO} (s : Sub h H) (e : H a = some o) : Sub (upd h a o) H := fun b u q => by
  by_cases z : b = a
  · subst z; rw [upd_same] at q; cases q; exact e
  · rw [upd_ne z] at q; exact s b u q
theorem upd_subS {h H : Hp} {a : Addr} {o : HO} (s : Sub h H) : Sub (upd h a o) (upd H a o) := fun b u q => by
  by_cases z : b = a
  · subst z; rw [upd_same] at q ⊢; exact q
  · rw [upd_ne z] at q ⊢; exact s b u q
theorem upd_fresh {h : Hp} {a : Addr} {o : HO} (e : h a = none) : Sub h (upd h a o) := fun b u q => by
  rw [upd_ne (ne_of_none q e)]; exact q

end L3
namespace L2
open L3 PySem PySem.Spec PyProof.Rows
/-! ### plain data stays -/
theorem Rd.up {P P' : Hp} (s : Sub P P') {a : Addr} {u : HO} (r : Rd P a u) : Rd P' a u := by
  rcases r with r | ⟨o, r⟩
  · exact .inl (s _ _ r)
  · exact .inr ⟨o, s _ _ r⟩
theorem SqL.up {K : PySem.W.Frag} {P P' : Hp} (s : Sub P P') {a : Addr} {xs : List V} (r : SqL K P a xs) : SqL K P' a xs := r.imp (Rd.up s) id
theorem SqT.up {K : PySem.W.Frag} {P P' : Hp} (s : Sub P P') {a : Addr} {xs : List V} (r : SqT K P a xs) : SqT K P' a xs := r.imp (Rd.up s) id
mutual
theorem Dp.up {K : PySem.W.Frag} {P P' : Hp} (s : Sub P P') : ∀ {d : PyData} {v : V}, Dp K P v d → Dp K P' v d
  | .none, _, h => by cases h; exact .non
  | .bool b, _, h => by cases h; exact .bl b
  | .int i, _, h => by cases h; exact .int i
  | .str x, _, h => by cases h; exact .str x
  | .list ds, _, h => by cases h with | lst h1 h2 => exact .lst (SqL.up s h1) (DpAll.up s h2)
  | .tuple ds, _, h => by cases h with | tup h1 h2 => exact .tup (SqT.up s h1) (DpAll.up s h2)
  | .dict _, _, h => nomatch h
theorem DpAll.up {K : PySem.W.Frag} {P P' : Hp} (s : Sub P P') : ∀ {ds : List PyData} {vs : List V}, DpAll K P vs ds → DpAll K P' vs ds
  | [], _, h => by cases h; exact .nil
  | d :: ds, _, h => by cases h with | cons h1 h2 => exact .cons (Dp.up s h1) (DpAll.up s h2)
end
section
variable {K : PySem.W.Frag} {P : Hp}
theorem DpAll.len : ∀ {ds : List PyData} {vs : List V}, DpAll K P vs ds → vs.length = ds.length
  | [], _, h => by cases h; rfl
  | d :: ds, _, h => by cases h with | cons h1 h2 => simp [DpAll.len h2]
theorem DpAll.app : ∀ {ds es : List PyData} {vs us : List V}, DpAll K P vs ds → DpAll K P us es → DpAll K P (vs ++ us) (ds ++ es)
  | [], _, _, _, h, k => by cases h; exact k
  | d :: ds, _, _, _, h, k => by cases h with | cons h1 h2 => exact .cons h1 (DpAll.app h2 k)
theorem DpAll.at_ : ∀ {ds : List PyData} {vs : List V} {i : Nat} {d : PyData}, DpAll K P vs ds → ds[i]? = some d → ∃ v, vs[i]? = some v ∧ Dp K P v d
  | [], _, _, _, h, e => by simp at e
  | d :: ds, _, 0, _, h, e => by cases h with | cons h1 h2 => simp at e; subst e; exact ⟨_, rfl, h1⟩
  | d :: ds, _, i + 1, _, h, e => by
    cases h with
    | cons h1 h2 =>
      obtain ⟨v, q, r⟩ := DpAll.at_ (i := i) h2 (by simpa using e)
      exact ⟨v, by simpa using q, r⟩
theorem DpAll.at' : ∀ {ds : List PyData} {vs : List V} {i : Nat} {v : V}, DpAll K P vs ds → vs[i]? = some v → ∃ d, ds[i]? = some d ∧ Dp K P v d
  | [], _, _, _, h, e => by cases h; simp at e
  | d :: ds, _, 0, _, h, e => by cases h with | cons h1 h2 => simp at e; subst e; exact ⟨_, rfl, h1⟩
  | d :: ds, _, i + 1, _, h, e => by
    cases h with
    | cons h1 h2 =>
      obtain ⟨v, q, r⟩ := DpAll.at' (i := i) h2 (by simpa using e)
      exact ⟨v, by simpa using q, r⟩
theorem DpAll.take : ∀ {ds : List PyData} {vs : List V} (n : Nat), DpAll K P vs ds → DpAll K P (vs.take n) (ds.take n)
  | [], _, n, h => by cases h; simp; exact .nil
  | d :: ds, _, 0, h => by simp; exact .nil
  | d :: ds, _, n + 1, h => by cases h with | cons h1 h2 => exact .cons h1 (DpAll.take n h2)
theorem DpAll.drop : ∀ {ds : List PyData} {vs : List V} (n : Nat), DpAll K P vs ds → DpAll K P (vs.drop n) (ds.drop n)
  | [], _, n, h => by cases h; simp; exact .nil
  | d :: ds, _, 0, h => h
  | d :: ds, _, n + 1, h => by cases h with | cons h1 h2 => exact DpAll.drop n h2
theorem DpAll.setAt : ∀ {ds : List PyData} {vs : List V} {d : PyData} {v : V} (n : Nat), DpAll K P vs ds → Dp K P v d → DpAll K P (vs.set n v) (ds.set n d)
  | [], _, _, _, n, h, _ => by cases h; simp; exact .nil
  | d :: ds, _, _, _, 0, h, r => by cases h with | cons h1 h2 => exact .cons r h2
  | d :: ds, _, _, _, n + 1, h, r => by cases h with | cons h1 h2 => exact .cons h1 (DpAll.setAt n h2 r)
theorem DpAll.erase : ∀ {ds : List PyData} {vs : List V} (n : Nat), DpAll K P vs ds → DpAll K P (vs.eraseIdx n) (ds.eraseIdx n)
  | [], _, n, h => by cases h; simp; exact .nil
  | d :: ds, _, 0, h => by cases h with | cons h1 h2 => exact h2
  | d :: ds, _, n + 1, h => by cases h with | cons h1 h2 => exact .cons h1 (DpAll.erase n h2)
theorem DpAll.dropLast : ∀ {ds : List PyData} {vs : List V}, DpAll K P vs ds → DpAll K P vs.dropLast ds.dropLast
  | [], _, h => by cases h; exact .nil
  | [d], _, h => by cases h with | cons h1 h2 => cases h2; exact .nil
  | d :: e :: ds, _, h => by
    cases h with
    | cons h1 h2 =>
      have := DpAll.dropLast h2
      cases h2
      exact .cons h1 this
theorem DpAll.rev {ds : List PyData} {vs : List V} (h : DpAll K P vs ds) : DpAll K P vs.reverse ds.reverse := by
  induction ds generalizing vs with
  | nil => cases h; exact .nil
  | cons d ds ih =>
    cases h with
    | cons h1 h2 =>
      rw [List.reverse_cons, List.reverse_cons]
      exact DpAll.app (ih h2) (.cons h1 .nil)
theorem DpAll.rep {ds : List PyData} {vs : List V} (h : DpAll K P vs ds) : ∀ n : Nat, DpAll K P (List.replicate n vs).flatten (List.replicate n ds).flatten
  | 0 => .nil
  | n + 1 => by
    rw [List.replicate_succ, List.replicate_succ, List.flatten_cons, List.flatten_cons]
    exact DpAll.app h (DpAll.rep h n)
end

end L2
namespace L3
open PySem PySem.Spec PyProof.Rows L2
/-! ### what is one's own -/
/-- the entries of a dict with tuples for keys -/
inductive TWs (K : PySem.W.Frag) (P : Hp) : TbW → List (NestedKey × PyData) → Prop
  | nil : TWs K P [] []
  | cons {k : NestedKey} {b : Addr} {v : V} {y : PyData} {ws : TbW} {kvs : List (NestedKey × PyData)} : KeyD K P (k, b, v) → Dp K P v y → TWs K P ws kvs → TWs K P ((k, b, v) :: ws) ((k, y) :: kvs)
theorem KeyD.up {K : PySem.W.Frag} {P P' : Hp} (s : Sub P P') {p : NestedKey × Addr × V} (h : KeyD K P p) : KeyD K P' p := by
  obtain ⟨x, d, e⟩ := h
  exact ⟨x, Dp.up s d, e⟩
theorem TWs.up {K : PySem.W.Frag} {P P' : Hp} (s : Sub P P') {ws : TbW} {kvs : List (NestedKey × PyData)} (h : TWs K P ws kvs) : TWs K P' ws kvs := by
  induction h with
  | nil => exact .nil
  | cons a b _ ih => exact .cons (KeyD.up s a) (Dp.up s b) ih
theorem TWs.keys {K : PySem.W.Frag} {P : Hp} {ws : TbW} {kvs : List (NestedKey × PyData)} (h : TWs K P ws kvs) : ∀ p ∈ ws, KeyD K P p := by
  induction h with
  | nil => intro p hp; exact nomatch hp
  | cons a _ _ ih =>
    intro p hp
    rcases List.mem_cons.mp hp with rfl | hp
    · exact a
    · exact ih p hp
theorem TWs.len {K : PySem.W.Frag} {P : Hp} {ws : TbW} {kvs : List (NestedKey × PyData)} (h : TWs K P ws kvs) : ws.length = kvs.length := by
  induction h with
  | nil => rfl
  | cons _ _ _ ih => simp [ih]
theorem TWs.some_ {K : PySem.W.Frag} {P : Hp} {ws : TbW} {kvs : List (NestedKey × PyData)} {k : NestedKey} (h : TWs K P ws kvs) : (tGet k ws).isSome = (tGet k kvs).isSome := by
  induction h with
  | nil => rfl
  | cons _ _ _ ih =>
    rw [tGet, tGet]
    split
    · rfl
    · exact ih
theorem TWs.get {K : PySem.W.Frag} {P : Hp} {ws : TbW} {kvs : List (NestedKey × PyData)} {k : NestedKey} {y : PyData} (h : TWs K P ws kvs) (e : tGet k kvs = some y) : ∃ c v, tGet k ws = some (c, v) ∧ Dp K P v y := by
  induction h with
  | nil => cases e
  | @cons q b v z ws kvs a d _ ih =>
    rw [tGet] at e ⊢
    by_cases c : q = k
    · rw [if_pos c] at e ⊢
      cases e
      exact ⟨b, v, rfl, d⟩
    · rw [if_neg c] at e ⊢
      exact ih e
theorem TWs.put {K : PySem.W.Frag} {P : Hp} {ws : TbW} {kvs : List (NestedKey × PyData)} {k : NestedKey} {b : Addr} {v : V} {y : PyData} (h : TWs K P ws kvs) (hk : KeyD K P (k, b, v)) (d : Dp K P v y) : TWs K P (tSet k b v ws) (tPut k y kvs) := by
  induction h with
  | nil => exact .cons hk d .nil
  | @cons q c w z ws kvs a d' t ih =>
    rw [tSet, tPut]
    by_cases e : q = k
    · rw [if_pos e, if_pos e]
      exact .cons a d t
    · rw [if_neg e, if_neg e]
      exact .cons a d' ih
mutual
inductive Own (K : PySem.W.Frag) (P : Hp) : V → D → Hp → Prop
  | p {v : V} {d : PyData} : Dp K P v d → Own K P v (.p d) emp
  | l {a : Addr} {vs : List V} {xs : List PyData} : DpAll K P vs xs → Own K P (.ref a) (.l xs) (upd emp a (.lst vs))
  | k {a : Addr} {vs : List V} {xs : List PyData} : DpAll K P vs xs → Own K P (.ref a) (.k xs) (upd emp a (.lst vs))
  | g {a : Addr} {vs : List V} {xs : List D} {h : Hp} : OwnAll K P vs xs h → h a = none → Own K P (.ref a) (.g xs) (upd h a (.lst vs))
  | d {a : Addr} {ks : List (Key × V)} {xs : List (Key × D)} {h : Hp} : OwnKv K P ks xs h → (ks.map (·.1)).Nodup → h a = none → Own K P (.ref a) (.d xs) (upd h a (.dK ks))
  | t {a : Addr} {ws : TbW} {kvs : List (NestedKey × PyData)} : TWs K P ws kvs → Own K P (.ref a) (.t kvs) (upd emp a (TD a ws))
inductive OwnAll (K : PySem.W.Frag) (P : Hp) : List V → List D → Hp → Prop
  | nil : OwnAll K P [] [] emp
  | cons {v : V} {d : D} {h : Hp} {vs : List V} {ds : List D} {k : Hp} : Own K P v d h → OwnAll K P vs ds k → Dj h k → OwnAll K P (v :: vs) (d :: ds) (uni h k)
inductive OwnKv (K : PySem.W.Frag) (P : Hp) : List (Key × V) → List (Key × D) → Hp → Prop
  | nil : OwnKv K P [] [] emp
  | cons {q : Key} {v : V} {d : D} {h : Hp} {vs : List (Key × V)} {ds : List (Key × D)} {k : Hp} : Own K P v d h → OwnKv K P vs ds k → Dj h k → OwnKv K P ((q, v) :: vs) ((q, d) :: ds) (uni h k)
end
mutual
theorem Own.up {K : PySem.W.Frag} {P P' : Hp} (s : Sub P P') : ∀ {d : D} {v : V} {h : Hp}, Own K P v d h → Own K P' v d h
  | .p _, _, _, .p x => .p (Dp.up s x)
  | .l _, _, _, .l x => .l (DpAll.up s x)
  | .k _, _, _, .k x => .k (DpAll.up s x)
  | .g _, _, _, .g x e => .g (OwnAll.up s x) e
  | .d _, _, _, .d x n e => .d (OwnKv.up s x) n e
  | .t _, _, _, .t x => .t (TWs.up s x)
theorem OwnAll.up {K : PySem.W.Frag} {P P' : Hp} (s : Sub P P') : ∀ {ds : List D} {vs : List V} {h : Hp}, OwnAll K P vs ds h → OwnAll K P' vs ds h
  | [], _, _, .nil => .nil
  | _ :: _, _, _, .cons x y d => .cons (Own.up s x) (OwnAll.up s y) d
theorem OwnKv.up {K : PySem.W.Frag} {P P' : Hp} (s : Sub P P') : ∀ {ds : List (Key × D)} {vs : List (Key × V)} {h : Hp}, OwnKv K P vs ds h → OwnKv K P' vs ds h
  | [], _, _, .nil => .nil
  | _ :: _, _, _, .cons x y d => .cons (Own.up s x) (OwnKv.up s y) d
end
/-- the state: P stands for ever, hs i is what the name in slot i holds for its own -/
structure Sta (K : PySem.W.Frag) (P H : Hp) (σ : L2.St) (ρ : Env) (hs : Nat → Hp) : Prop where
  sub : Sub P H
  own : ∀ i, Sub (hs i) H
  dj : ∀ i j, i ≠ j → Dj (hs i) (hs j)
  djP : ∀ i, Dj P (hs i)
  len : σ.length = ρ.length
  emp : ∀ i, slot ρ i = none → hs i = L3.emp
  at_ : ∀ i d, slot ρ i = some d → ∃ v, σ[i]? = some (some v) ∧ Own K P v d (hs i)
/-- what may have become of the state; hd is a new thing's own -/
structure Nx (P H : Hp) (hs : Nat → Hp) (P' H' : Hp) (hs' : Nat → Hp) (hd : Hp) : Prop where
  up : Sub P P'
  frame : ∀ a o, H a = some o → (∀ i, hs i a = none) → H' a = some o
  fresh : ∀ a, ((∃ i, hs' i a ≠ none) ∨ hd a ≠ none ∨ (P' a ≠ none ∧ P a = none)) → (∃ i, hs i a ≠ none) ∨ H a = none
theorem Nx.refl {P H : Hp} {hs : Nat → Hp} : Nx P H hs P H hs emp := ⟨Sub.refl _, fun _ _ e _ => e, fun a h => by
  rcases h with h | h | ⟨h1, h2⟩
  · exact .inl h
  · exact absurd rfl h
  · exact absurd h2 h1⟩
theorem Nx.drop {P H P' H' : Hp} {hs hs' : Nat → Hp} {hd : Hp} (n : Nx P H hs P' H' hs' hd) : Nx P H hs P' H' hs' emp :=
  ⟨n.up, n.frame, fun a h => n.fresh a (h.imp id fun h => h.elim (fun z => absurd rfl z) .inr)⟩
theorem Nx.trans {P H P1 H1 P2 H2 : Hp} {hs hs1 hs2 : Nat → Hp} {hd hd2 : Hp} (x : Nx P H hs P1 H1 hs1 hd) (y : Nx P1 H1 hs1 P2 H2 hs2 hd2) : Nx P H hs P2 H2 hs2 hd2 := by
  have key : ∀ a, ((∃ i, hs1 i a ≠ none) ∨ H1 a = none) → (∃ i, hs i a ≠ none) ∨ H a = none := fun a h => by
    rcases h with h | h
    · exact x.fresh a (.inl h)
    · cases e : H a with
      | none => exact .inr rfl
      | some o =>
        refine .inl ?_
        apply Classical.byContradiction
        intro z
        have q := x.frame a o e fun i => Classical.byContradiction fun w => z ⟨i, w⟩
        rw [h] at q; cases q
  refine ⟨x.up.trans y.up, fun a o e h => ?_, fun a h => ?_⟩
  · refine y.frame a o (x.frame a o e h) fun i => ?_
    apply Classical.byContradiction
    intro z
    rcases x.fresh a (.inl ⟨i, z⟩) with ⟨j, w⟩ | w
    · exact w (h j)
    · rw [e] at w; cases w
  · rcases h with h | h | ⟨h1, h2⟩
    · exact key a (y.fresh a (.inl h))
    · exact key a (y.fresh a (.inr (.inl h)))
    · by_cases e : P1 a = none
      · exact key a (y.fresh a (.inr (.inr ⟨h1, e⟩)))
      · exact x.fresh a (.inr (.inr ⟨e, h2⟩))
/-- what is apart from the state stays, and stays apart -/
theorem Nx.keep {P H P' H' : Hp} {hs hs' : Nat → Hp} {hd : Hp} (n : Nx P H hs P' H' hs' hd) {h : Hp} (s : Sub h H) (d : ∀ i, Dj h (hs i)) : Sub h H' ∧ (∀ i, Dj h (hs' i)) ∧ Dj h hd ∧ (Dj P h → Dj P' h) := by
  have no : ∀ a, h a ≠ none → ¬ ((∃ i, hs i a ≠ none) ∨ H a = none) := fun a e z => by
    rcases z with ⟨i, z⟩ | z
    · exact z ((d i).out e)
    · exact s.ne e z
  refine ⟨fun a o e => n.frame a o (s a o e) fun i => (d i).out (by rw [e]; simp), fun i a => ?_, fun a => ?_, fun dp a => ?_⟩
  · by_cases e : h a = none
    · exact .inl e
    · exact .inr (Classical.byContradiction fun z => no a e (n.fresh a (.inl ⟨i, z⟩)))
  · by_cases e : h a = none
    · exact .inl e
    · exact .inr (Classical.byContradiction fun z => no a e (n.fresh a (.inr (.inl z))))
  · by_cases e : h a = none
    · exact .inr e
    · refine .inl (Classical.byContradiction fun z => no a e (n.fresh a (.inr (.inr ⟨z, dp.symm.out e⟩))))
/-- a thing told by an expression -/
def TR (K : PySem.W.Frag) (P H : Hp) (σ : L2.St) (hs : Nat → Hp) (v : V) (t : T) (hd : Hp) : Prop := match t with
  | .o d => Own K P v d hd ∧ Sub hd H ∧ (∀ i, Dj hd (hs i)) ∧ Dj P hd
  | .r i => hd = emp ∧ σ[i]? = some (some v)
  | .q xs => hd = emp ∧ ∃ a vs, v = .ref a ∧ H a = some (.lst vs) ∧ DpAll K P vs xs
/-- an operand: plain data, or a list of plain data that stands now -/
inductive Opd (K : PySem.W.Frag) (P H : Hp) : V → PyData → Prop
  | pl {v : V} {d : PyData} : Dp K P v d → Opd K P H v d
  | ls {a : Addr} {vs : List V} {xs : List PyData} : H a = some (.lst vs) → DpAll K P vs xs → Opd K P H (.ref a) (.list xs)
theorem Opd.dp {K : PySem.W.Frag} {P H : Hp} {v : V} {d : PyData} (s : Sub P H) (x : Opd K P H v d) : Dp K H v d := by
  cases x with
  | pl x => exact Dp.up s x
  | ls e x => exact .lst (SqL.of e) (DpAll.up s x)
/-- a sequence: its places now, its items plain -/
theorem Opd.list {K : PySem.W.Frag} {P H : Hp} {v : V} {xs : List PyData} (s : Sub P H) (x : Opd K P H v (.list xs)) : ∃ a vs, v = .ref a ∧ SqL K H a vs ∧ DpAll K P vs xs := by
  cases x with
  | pl x => cases x with | lst h1 h2 => exact ⟨_, _, rfl, SqL.up s h1, h2⟩
  | ls e x => exact ⟨_, _, rfl, SqL.of e, x⟩
theorem Opd.tuple {K : PySem.W.Frag} {P H : Hp} {v : V} {xs : List PyData} (s : Sub P H) (x : Opd K P H v (.tuple xs)) : ∃ a vs, v = .ref a ∧ SqT K P a vs ∧ DpAll K P vs xs := by
  cases x with
  | pl x => cases x with | tup h1 h2 => exact ⟨_, _, rfl, h1, h2⟩
theorem TR.opd {K : PySem.W.Frag} {P H : Hp} {σ : L2.St} {ρ : Env} {hs : Nat → Hp} {v : V} {t : T} {hd : Hp} {x : PyData} (st : Sta K P H σ ρ hs) (r : TR K P H σ hs v t hd) (e : t.dat ρ = some x) : Opd K P H v x := by
  have own : ∀ {d : D} {h : Hp}, Own K P v d h → Sub h H → d.flat = some x → Opd K P H v x := fun {d h} o s e => by
    cases o with
    | p o => cases e; exact .pl o
    | l o => cases e; exact .ls (s _ _ upd_same) o
    | k o => cases e; exact .ls (s _ _ upd_same) o
    | g => cases e
    | d => cases e
    | t => cases e
  cases t with
  | o d => exact own r.1 r.2.1 e
  | r i =>
    obtain ⟨_, hv⟩ := r
    cases q : slot ρ i with
    | none => simp [T.dat, q] at e
    | some d =>
      obtain ⟨w, hw, o⟩ := st.at_ i d q
      rw [hv] at hw; cases hw
      exact own o (st.own i) (by simpa [T.dat, q] using e)
  | q xs =>
    obtain ⟨_, a, vs, rfl, h, o⟩ := r
    cases e
    exact .ls h o
theorem TR.pl {K : PySem.W.Frag} {P H : Hp} {σ : L2.St} {hs : Nat → Hp} {v : V} {t : T} {hd : Hp} {x : PyData} (r : TR K P H σ hs v t hd) (e : t.pure = some x) : Dp K P v x ∧ hd = emp := by
  cases t with
  | o d =>
    cases d <;> simp [T.pure] at e
    subst e
    cases r.1 with
    | p o => exact ⟨o, rfl⟩
  | r i => cases e
  | q xs => cases e
/-- what was told stands behind further steps -/
theorem TR.later {K : PySem.W.Frag} {P H P' H' : Hp} {σ : L2.St} {hs hs' : Nat → Hp} {v : V} {t : T} {hd hd' : Hp} (r : TR K P H σ hs v t hd) (n : Nx P H hs P' H' hs' hd') (q : isQ t = true → Same H H') :
    TR K P' H' σ hs' v t hd ∧ Dj hd hd' := by
  cases t with
  | o d =>
    obtain ⟨o, s, dj, dp⟩ := r
    obtain ⟨a, b, c, e⟩ := n.keep s dj
    exact ⟨⟨Own.up n.up o, a, b, e dp⟩, c⟩
  | r i => obtain ⟨rfl, h⟩ := r; exact ⟨⟨rfl, h⟩, Dj.emp' _⟩
  | q xs =>
    obtain ⟨rfl, a, vs, e, h, o⟩ := r
    exact ⟨⟨rfl, a, vs, e, q rfl _ _ h, DpAll.up n.up o⟩, Dj.emp' _⟩
end L3

namespace L3
open PySem PySem.Spec PyProof.Rows L2
/-- what the text's facts are over: the written part, how an exception lies, what is wished of it -/
structure Cz where
  K : PySem.W.Frag
  exr : Ex → Value → Option Addr → Hp → Prop
  W : WX
/-- what is wanted of a run's end -/
def Post {α β : Type} (C : Cz) (sm : Bool) (R : Hp → Hp → (Nat → Hp) → β → α → Hp → Prop) (P H : Hp) (hs : Nat → Hp) (σ : L2.St) (r : Res α) (Q : β → Hp → Prop) : Prop := match r with
  | .st => False
  | .ok a ρ' => ∀ b P' H' hs' hd, Sta C.K P' H' σ ρ' hs' → R P' H' hs' b a hd → Nx P H hs P' H' hs' hd → (sm = true → Same H H') → Q b H'
  | .ex x ρ' => ∀ c d P' H' hs', Sta C.K P' H' σ ρ' hs' → C.exr x c d H' → Nx P H hs P' H' hs' emp → C.W c d σ H'
/-- the reading of what is told by R -/
def rd {α β : Type} (C : Cz) (sm : Bool) (R : L2.St → Hp → Hp → (Nat → Hp) → β → α → Hp → Prop) (f : Env → Res α) : L2.St → Hp → (β → Hp → Prop) → Prop := fun σ H Q =>
  ∃ P hs ρ, Sta C.K P H σ ρ hs ∧ Post C sm (R σ) P H hs σ (f ρ) Q
section
variable {α β γ δ : Type} {C : Cz} {sm : Bool} {R : Hp → Hp → (Nat → Hp) → β → α → Hp → Prop} {R1 : Hp → Hp → (Nat → Hp) → δ → γ → Hp → Prop} {P H P1 H1 : Hp} {hs hs1 : Nat → Hp} {hd1 : Hp} {σ : L2.St} {r : Res α} {Q Q' : β → Hp → Prop}
theorem Post.step (h : Post C sm R P H hs σ r Q) (n : Nx P H hs P1 H1 hs1 hd1) (s : sm = true → Same H H1) : Post C sm R P1 H1 hs1 σ r Q := by
  cases r with
  | st => exact h
  | ok a ρ => exact fun b P' H' hs' hd st t m q => h b P' H' hs' hd st t (n.trans m) fun z => (s z).trans (q z)
  | ex x ρ => exact fun c d P' H' hs' st t m => h c d P' H' hs' st t (n.trans m)
theorem Post.imp (h : Post C sm R P H hs σ r Q) (i : ∀ b H, Q b H → Q' b H) : Post C sm R P H hs σ r Q' := by
  cases r with
  | st => exact h
  | ok a ρ => exact fun b P' H' hs' hd st t m q => i _ _ (h b P' H' hs' hd st t m q)
  | ex x ρ => exact h
/-- the end now -/
theorem Post.now {a : α} {ρ : Env} (h : Post C sm R P H hs σ (.ok a ρ) Q) (st : Sta C.K P H σ ρ hs) {b : β} (t : R P H hs b a emp) : Q b H := h b P H hs emp st t .refl fun _ => Same.refl _
/-- one thing behind another -/
theorem Post.then {s1 : Bool} {r : Res γ} {k : γ → Env → Res α} (h : Post C sm R P H hs σ (r.bind k) Q) (hsm : sm = true → s1 = true) :
    Post C s1 R1 P H hs σ r fun c H1 => ∃ P1 hs1 ρ1 a hd1, Sta C.K P1 H1 σ ρ1 hs1 ∧ R1 P1 H1 hs1 c a hd1 ∧ Nx P H hs P1 H1 hs1 hd1 ∧ (s1 = true → Same H H1) ∧ r = .ok a ρ1 ∧ Post C sm R P1 H1 hs1 σ (k a ρ1) Q := by
  cases r with
  | st => exact h
  | ok a ρ => exact fun c P1 H1 hs1 hd1 st t n q => ⟨P1, hs1, ρ, a, hd1, st, t, n, q, rfl, Post.step h n fun z => q (hsm z)⟩
  | ex x ρ => exact h
end
abbrev RT (K : PySem.W.Frag) : L2.St → Hp → Hp → (Nat → Hp) → V → T → Hp → Prop := fun σ P H hs v t hd => TR K P H σ hs v t hd
def RB : L2.St → Hp → Hp → (Nat → Hp) → Bool → Bool → Hp → Prop := fun _ _ _ _ b a hd => b = a ∧ hd = emp
def RD (K : PySem.W.Frag) : L2.St → Hp → Hp → (Nat → Hp) → List V → List PyData → Hp → Prop := fun _ P _ _ vs xs hd => DpAll K P vs xs ∧ hd = emp
/-- an expression's promise -/
def EV (C : Cz) (X : Cx) (sm : Bool) (e : Expr) (f : Env → Res T) : Prop := PE X e (rd C sm (RT C.K) f)
def TV (C : Cz) (X : Cx) (e : Expr) (f : Env → Res Bool) : Prop := PT X e (rd C false RB f)
theorem PE.imp {X : Cx} {e : Expr} {t t' : TE} (h : PE X e t) (i : ∀ σ H Q, t' σ H Q → t σ H Q) : PE X e t' := ⟨fun pins s σ H Q I q => h.run pins s σ H Q I (i σ H Q q)⟩
theorem PT.imp {X : Cx} {e : Expr} {t t' : TT} (h : PT X e t) (i : ∀ σ H Q, t' σ H Q → t σ H Q) : PT X e t' := ⟨fun pins s σ H Q I q => h.run pins s σ H Q I (i σ H Q q)⟩
theorem PA.imp {X : Cx} {e : List Expr} {t t' : TA} (h : PA X e t) (i : ∀ σ H Q, t' σ H Q → t σ H Q) : PA X e t' := ⟨fun pos pins s σ H Q I q => h.run pos pins s σ H Q I (i σ H Q q)⟩
theorem PS.imp {X : Cx} {e : Stmt} {t t' : TS} (h : PS X e t) (i : ∀ D σ H, t' D σ H → t D σ H) : PS X e t' := ⟨fun pins s σ H D I q => h.run pins s σ H D I (i D σ H q)⟩
theorem PSs.imp {X : Cx} {e : List Stmt} {t t' : TS} (h : PSs X e t) (i : ∀ D σ H, t' D σ H → t D σ H) : PSs X e t' := ⟨fun pins s σ H D I q => h.run pins s σ H D I (i D σ H q)⟩
theorem EV.weak {C : Cz} {X : Cx} {sm sm' : Bool} {e : Expr} {f : Env → Res T} (h : EV C X sm e f) (i : sm' = true → sm = true) : EV C X sm' e f := by
  refine PE.imp h fun σ H Q => ?_
  rintro ⟨P, hs, ρ, st, p⟩
  refine ⟨P, hs, ρ, st, ?_⟩
  cases q : f ρ with
  | st => rw [q] at p; exact p
  | ok a ρ' => rw [q] at p; exact fun b P' H' hs' hd st t m z => p b P' H' hs' hd st t m fun y => z (i y)
  | ex x ρ' => rw [q] at p; exact p

/-! ### what an operation lays anew -/
structure New (P H P' H' : Hp) (hd : Hp) : Prop where
  up : Sub P P'
  same : Sub H H'
  sub : Sub P' H'
  own : Sub hd H'
  dj : Dj P' hd
  fresh : ∀ a, (hd a ≠ none ∨ (P' a ≠ none ∧ P a = none)) → H a = none
theorem New.refl {P H : Hp} (s : Sub P H) : New P H P H emp := ⟨Sub.refl _, Sub.refl _, s, Sub.emp _, Dj.emp _, fun a h => by
  rcases h with h | ⟨h1, h2⟩
  · exact absurd rfl h
  · exact absurd h2 h1⟩
/-- a new object that is one's own -/
theorem New.own1 {P H : Hp} {p : Addr} {o : HO} (s : Sub P H) (np : H p = none) : New P H P (upd H p o) (upd emp p o) := by
  have pn : P p = none := by
    cases e : P p with
    | none => rfl
    | some u => rw [s _ _ e] at np; cases np
  refine ⟨Sub.refl _, upd_fresh np, s.trans (upd_fresh np), upd_sub (Sub.emp _) upd_same, fun a => ?_, fun a h => ?_⟩
  · by_cases e : a = p
    · subst e; exact .inl pn
    · exact .inr (by rw [upd_ne e]; rfl)
  · rcases h with h | ⟨h1, h2⟩
    · rcases upd_ne_iff.mp h with e | e
      · subst e; exact np
      · exact absurd rfl e
    · exact absurd h2 h1
/-- a new object that is never changed -/
theorem New.pl1 {P H : Hp} {p : Addr} {o : HO} (s : Sub P H) (np : H p = none) : New P H (upd P p o) (upd H p o) emp := by
  have pn : P p = none := by
    cases e : P p with
    | none => rfl
    | some u => rw [s _ _ e] at np; cases np
  refine ⟨upd_fresh pn, upd_fresh np, upd_subS s, Sub.emp _, Dj.emp _, fun a h => ?_⟩
  rcases h with h | ⟨h1, h2⟩
  · exact absurd rfl h
  · rcases upd_ne_iff.mp h1 with e | e
    · subst e; exact np
    · exact absurd h2 e
/-- a heap with something new that nobody minds -/
theorem New.idle {P H : Hp} {p : Addr} {o : HO} (s : Sub P H) (np : H p = none) : New P H P (upd H p o) emp :=
  ⟨Sub.refl _, upd_fresh np, s.trans (upd_fresh np), Sub.emp _, Dj.emp _, fun a h => by
    rcases h with h | ⟨h1, h2⟩
    · exact absurd rfl h
    · exact absurd h2 h1⟩
theorem New.sta {K : PySem.W.Frag} {P H P' H' hd : Hp} {σ : L2.St} {ρ : Env} {hs : Nat → Hp} (n : New P H P' H' hd) (st : Sta K P H σ ρ hs) : Sta K P' H' σ ρ hs ∧ (∀ i, Dj hd (hs i)) ∧ Nx P H hs P' H' hs hd := by
  refine ⟨⟨n.sub, fun i => (st.own i).trans n.same, st.dj, fun i a => ?_, st.len, st.emp, fun i d e => ?_⟩, fun i a => ?_, ⟨n.up, fun a o e _ => n.same a o e, fun a h => ?_⟩⟩
  · by_cases e : hs i a = none
    · exact .inr e
    · refine .inl (Classical.byContradiction fun z => ?_)
      by_cases q : P a = none
      · exact (st.own i).ne e (n.fresh a (.inr ⟨z, q⟩))
      · exact e ((st.djP i).out q)
  · obtain ⟨v, hv, o⟩ := st.at_ i d e
    exact ⟨v, hv, Own.up n.up o⟩
  · by_cases e : hs i a = none
    · exact .inr e
    · exact .inl (Classical.byContradiction fun z => (st.own i).ne e (n.fresh a (.inl z)))
  · rcases h with h | h
    · exact .inl h
    · exact .inr (n.fresh a h)
theorem New.trans {P H P1 H1 P2 H2 hd hd2 : Hp} (x : New P H P1 H1 hd) (y : New P1 H1 P2 H2 hd2) : New P H P2 H2 hd2 := by
  have key : ∀ a, H1 a = none → H a = none := fun a h => Classical.byContradiction fun z => x.same.ne z h
  refine ⟨x.up.trans y.up, x.same.trans y.same, y.sub, y.own, y.dj, fun a h => ?_⟩
  rcases h with h | ⟨h1, h2⟩
  · exact key a (y.fresh a (.inl h))
  · by_cases e : P1 a = none
    · exact key a (y.fresh a (.inr ⟨h1, e⟩))
    · exact x.fresh a (.inr ⟨e, h2⟩)
/-- an end by an operation -/
theorem Post.new {C : Cz} {sm : Bool} {P H P' H' hd : Hp} {hs : Nat → Hp} {σ : L2.St} {ρ : Env} {d : D} {Q : V → Hp → Prop} {w : V} (h : Post C sm (RT C.K σ) P H hs σ (.ok (.o d) ρ) Q) (st : Sta C.K P H σ ρ hs) (n : New P H P' H' hd) (o : Own C.K P' w d hd) : Q w H' := by
  obtain ⟨s1, s2, s3⟩ := n.sta st
  exact h w P' H' hs hd s1 ⟨o, n.own, s2, n.dj⟩ s3 fun _ => n.same
/-- what an operation of data is to give -/
def Gives (K : PySem.W.Frag) (P H : Hp) (d : D) (Q : VK) : Prop := ∀ w P' H' hd, New P H P' H' hd → Own K P' w d hd → Q w H'
theorem Gives.pl {K : PySem.W.Frag} {P H : Hp} {x : PyData} {Q : VK} (g : Gives K P H (.p x) Q) (s : Sub P H) {v : V} (d : Dp K P v x) : Q v H := g v P H emp (New.refl s) (.p d)
theorem Gives.tup {K : PySem.W.Frag} {P H : Hp} {xs : List PyData} {vs : List V} {Q : VK} (g : Gives K P H (.p (.tuple xs)) Q) (s : Sub P H) (d : DpAll K P vs xs) {p : Addr} (np : H p = none) : Q (.ref p) (upd H p (.tup vs)) := by
  have n : New P H (upd P p (.tup vs)) (upd H p (.tup vs)) emp := New.pl1 s np
  exact g _ _ _ _ n (.p (.tup (SqT.of upd_same) (DpAll.up n.up d)))
theorem Gives.lst {K : PySem.W.Frag} {P H : Hp} {xs : List PyData} {vs : List V} {Q : VK} (g : Gives K P H (.l xs) Q) (s : Sub P H) (d : DpAll K P vs xs) {p : Addr} (np : H p = none) : Q (.ref p) (upd H p (.lst vs)) :=
  g _ _ _ _ (New.own1 s np) (.l d)
def rBin (K : PySem.W.Frag) (o : BOp) : R2 := fun v u H Q => ∃ P x y d, Sub P H ∧ Opd K P H v x ∧ Opd K P H u y ∧ bin o x y = some d ∧ Gives K P H d Q
def rCmp (K : PySem.W.Frag) (o : COp) : R2 := fun v u H Q => ∃ P x y k, Sub P H ∧ Opd K P H v x ∧ Opd K P H u y ∧ cmpD o x y = some k ∧ Q (.bl k) H
inductive Opds (K : PySem.W.Frag) (P H : Hp) : List V → List PyData → Prop
  | nil : Opds K P H [] []
  | cons {v : V} {x : PyData} {vs : List V} {xs : List PyData} : Opd K P H v x → Opds K P H vs xs → Opds K P H (v :: vs) (x :: xs)
def rBi (K : PySem.W.Frag) (b : Bi) : List V → Hp → VK → Prop := fun vs H Q => ∃ P xs d, Sub P H ∧ Opds K P H vs xs ∧ bi b xs = some d ∧ Gives K P H d Q
/-- what is needed of where one stands -/
structure Ok (X : Cx) (C : Cz) : Prop where
  K : X.K = C.K
  calm : X.calm = true
  guards : X.A.guards = some []
  nd : X.N.Nodup
  units : X.A.units + 100 < cLine
end L3

namespace L3
open PySem PySem.Spec PyProof.Rows L2
section
variable {K : PySem.W.Frag} {P H : Hp} {v : V}
theorem Opd.int' {i : Int} (h : Opd K P H v (.int i)) : v = .int i := by cases h with | pl h => cases h; rfl
theorem Opd.str' {i : Str} (h : Opd K P H v (.str i)) : v = .str i := by cases h with | pl h => cases h; rfl
theorem Opd.bl' {i : Bool} (h : Opd K P H v (.bool i)) : v = .bl i := by cases h with | pl h => cases h; rfl
theorem Opd.non' (h : Opd K P H v .none) : v = .non := by cases h with | pl h => cases h; rfl
end
theorem plain_obj {h : Heap} {a : Addr} {its : Array Value} (x : PlainL h a its) : ∃ o n, h.get? a = some o ∧ o.cls = .type "list" ∧ o.dict = none ∧ o.data = .seq its n := x
section
variable {X : Cx}
/-- list + list, whatever the lists are -/
def rCatL (K : PySem.W.Frag) : R2 := fun x y H Q => ∃ l b xs zs, x = .ref l ∧ y = .ref b ∧ SqL K H l xs ∧ SqL K H b zs ∧ xs.length + zs.length ≤ sizeLine ∧ ∀ p, H p = none → Q (.ref p) (upd H p (.lst (xs ++ zs)))
theorem op_catL : OpR X (binaryOp .Add) (rCatL X.K) := by
  intro pins s σ H x y v u Q I rx ry h
  obtain ⟨l, b, xs, zs, rfl, rfl, hH, hB, hz, q⟩ := h
  cases rx
  cases ry
  obtain ⟨its, r, pl, z1⟩ := I.list hH
  obtain ⟨its2, r2, pl2, z2⟩ := I.list hB
  have l1 := r.length
  have l2 := r2.length
  obtain ⟨⟨cls, dd, data, sl⟩, ho, hc, n, hd⟩ := pl.isList
  obtain ⟨⟨cls2, dd2, data2, sl2⟩, ho2, hc2, n2, hd2⟩ := pl2.isList
  simp only at hc hd hc2 hd2
  subst hc hd hc2 hd2
  refine concat_meets ⟨_, ho, rfl⟩ ⟨_, ho2, rfl⟩ noFill_list_add seq_list_add PySem.F.slot_list_add PySem.F.entry_list_add (PySem.F.args_list_add_2 _ _) (list_addW l b its.toArray its2.toArray n n2 dd dd2 sl sl2 (by rw [List.size_toArray, List.size_toArray, ← l1, ← l2]; exact hz)) ⟨ho, ho2, ?_⟩
  have ea : its.toArray ++ its2.toArray = (its ++ its2).toArray := by simp
  rw [ea]
  exact ⟨.ref _, _, I.lnew (t' := s.toks) (r.append r2) (by rw [List.length_append]; omega), rfl, q _ I.fresh⟩
theorem two64_ok {i : Int} (h : two64 i = true) : -(2 ^ 64) < i ∧ i < 2 ^ 64 := by
  unfold two64 at h
  rw [Bool.and_eq_true] at h
  exact ⟨of_decide_eq_true h.1, of_decide_eq_true h.2⟩
theorem ob_add : OpR X (binaryOp .Add) (rBin X.K .add) := by
  intro pins s σ H x y v u Q I rx ry h
  obtain ⟨P, a, b, d, sP, ha, hb, e, g⟩ := h
  cases a <;> cases b <;> simp only [bin, reduceCtorEq, Option.ite_none_right_eq_some, Option.some.injEq] at e
  case int.int i j =>
    subst e
    cases ha.int'; cases hb.int'
    exact op_add pins s σ H _ _ v u Q I rx ry ⟨i, j, rfl, rfl, g.pl sP (.int _)⟩
  case str.str i j =>
    obtain ⟨z, rfl⟩ := e
    cases ha.str'; cases hb.str'
    exact op_add_str pins s σ H _ _ v u Q I rx ry ⟨i, j, rfl, rfl, z, g.pl sP (.str _)⟩
  case list.list i j =>
    obtain ⟨z, rfl⟩ := e
    obtain ⟨l, xs, rfl, h1, o1⟩ := ha.list sP
    obtain ⟨m, ys, rfl, h2, o2⟩ := hb.list sP
    exact op_catL pins s σ H _ _ v u Q I rx ry ⟨l, m, xs, ys, rfl, rfl, h1, h2, by rw [o1.len, o2.len]; exact z, fun p np => g.lst sP (o1.app o2) np⟩
  case tuple.tuple i j =>
    obtain ⟨z, rfl⟩ := e
    obtain ⟨l, xs, rfl, h1, o1⟩ := ha.tuple sP
    obtain ⟨m, ys, rfl, h2, o2⟩ := hb.tuple sP
    refine op_catA pins s σ H _ _ v u Q I rx ry ⟨l, m, xs, ys, rfl, rfl, SqT.up sP h1, SqT.up sP h2, by rw [o1.len, o2.len]; exact z, fun z => ?_, fun _ z => ?_, fun _ _ p np => g.tup sP (o1.app o2) np⟩
    · subst z
      cases i with
      | nil => exact g.pl sP (.tup h2 o2)
      | cons => cases o1
    · subst z
      cases j with
      | nil => rw [List.append_nil] at g; exact g.pl sP (.tup h1 o1)
      | cons => cases o2
theorem ob_sub : OpR X (binaryOp .Sub) (rBin X.K .sub) := by
  intro pins s σ H x y v u Q I rx ry h
  obtain ⟨P, a, b, d, sP, ha, hb, e, g⟩ := h
  cases a <;> cases b <;> simp only [bin, reduceCtorEq, Option.some.injEq] at e
  case int.int i j =>
    subst e
    cases ha.int'; cases hb.int'
    exact op_sub pins s σ H _ _ v u Q I rx ry ⟨i, j, rfl, rfl, g.pl sP (.int _)⟩
theorem ob_fdiv : OpR X (binaryOp .FloorDiv) (rBin X.K .fdiv) := by
  intro pins s σ H x y v u Q I rx ry h
  obtain ⟨P, a, b, d, sP, ha, hb, e, g⟩ := h
  cases a <;> cases b <;> simp only [bin, reduceCtorEq, Option.ite_none_right_eq_some, Option.some.injEq, Bool.and_eq_true, decide_eq_true_eq] at e
  case int.int i j =>
    obtain ⟨z, rfl⟩ := e
    cases ha.int'; cases hb.int'
    exact op_fdiv pins s σ H _ _ v u Q I rx ry ⟨i, j, rfl, rfl, z, g.pl sP (.int _)⟩
theorem ob_mod : OpR X (binaryOp .Mod) (rBin X.K .mod) := by
  intro pins s σ H x y v u Q I rx ry h
  obtain ⟨P, a, b, d, sP, ha, hb, e, g⟩ := h
  cases a <;> cases b <;> simp only [bin, reduceCtorEq, Option.ite_none_right_eq_some, Option.some.injEq, decide_eq_true_eq] at e
  case int.int i j =>
    obtain ⟨z, rfl⟩ := e
    cases ha.int'; cases hb.int'
    exact op_mod pins s σ H _ _ v u Q I rx ry ⟨i, j, rfl, rfl, z, g.pl sP (.int _)⟩
theorem ob_pow : OpR X (binaryOp .Pow) (rBin X.K .pow) := by
  intro pins s σ H x y v u Q I rx ry h
  obtain ⟨P, a, b, d, sP, ha, hb, e, g⟩ := h
  cases a <;> cases b <;> simp only [bin, reduceCtorEq, Option.ite_none_right_eq_some, Option.some.injEq, Bool.and_eq_true, decide_eq_true_eq] at e
  case int.int i j =>
    obtain ⟨⟨⟨z1, z2⟩, z3⟩, rfl⟩ := e
    cases ha.int'; cases hb.int'
    exact op_pow pins s σ H _ _ v u Q I rx ry ⟨i, j, rfl, rfl, ⟨z1, z2, z3⟩, g.pl sP (.int _)⟩
theorem ob_shl : OpR X (binaryOp .LShift) (rBin X.K .shl) := by
  intro pins s σ H x y v u Q I rx ry h
  obtain ⟨P, a, b, d, sP, ha, hb, e, g⟩ := h
  cases a <;> cases b <;> simp only [bin, reduceCtorEq, Option.ite_none_right_eq_some, Option.some.injEq, Bool.and_eq_true, decide_eq_true_eq] at e
  case int.int i j =>
    obtain ⟨⟨⟨z1, z2⟩, z3⟩, rfl⟩ := e
    cases ha.int'; cases hb.int'
    exact op_shl pins s σ H _ _ v u Q I rx ry ⟨i, j, rfl, rfl, ⟨z1, z2, z3⟩, g.pl sP (.int _)⟩
theorem ob_band : OpR X (binaryOp .BitAnd) (rBin X.K .band) := by
  intro pins s σ H x y v u Q I rx ry h
  obtain ⟨P, a, b, d, sP, ha, hb, e, g⟩ := h
  cases a <;> cases b <;> simp only [bin, reduceCtorEq, Option.some.injEq] at e
  case int.int i j =>
    subst e
    cases ha.int'; cases hb.int'
    exact op_and pins s σ H _ _ v u Q I rx ry ⟨i, j, rfl, rfl, g.pl sP (.int _)⟩
end
end L3

namespace L3
open PySem PySem.Spec PyProof.Rows L2
open PySem.AutoSeq1 (wpAny_loadPart')
theorem tuple_mul_self (l : Addr) (items : Array Value) (n : Nat) (dd : Option Addr) (sl : Array (Option Value)) (x : Int) (u : Tok) (c0 : (decide (x < -(2 ^ 63)) || decide (x ≥ 2 ^ 63)) = false) (c1 : (items.isEmpty || x == 1) = true) :
    Meets (Builtin.«tuple.__mul__» ⟨[.ref l, .int x u], []⟩) (fun _ R s => s.heap.get? l = some { cls := .type "tuple", dict := dd, data := .seq items n, slots := sl } ∧
      R (.ok (.ret (Value.ref l))) s) :=
  .of_wp fun prog w A R s h => by
    obtain ⟨hp, g, d, tk, os⟩ := s
    obtain ⟨hl, h⟩ := h
    have f1 := AutoSeq1.idx_int
    wp_walk using wpAny_loadPart' hl
    repeat (first
      | (refine wpAny_ite_false (decide_eq_false (by rw [c0]; exact Bool.false_ne_true)) ?_; wp_walk using wpAny_loadPart' hl)
      | (refine wpAny_ite_true (decide_eq_true c1) ?_; wp_walk using wpAny_loadPart' hl))
    exact ⟨_, rfl, h⟩
theorem tuple_mul_nil (l : Addr) (items : Array Value) (n : Nat) (dd : Option Addr) (sl : Array (Option Value)) (x : Int) (u : Tok) (c0 : (decide (x < -(2 ^ 63)) || decide (x ≥ 2 ^ 63)) = false) (c1 : (items.isEmpty || x == 1) = false) (c2 : (decide (x ≤ 0) || items.isEmpty) = true) :
    Meets (Builtin.«tuple.__mul__» ⟨[.ref l, .int x u], []⟩) (fun _ R s => s.heap.get? l = some { cls := .type "tuple", dict := dd, data := .seq items n, slots := sl } ∧
      R (.ok (.ret (Value.ref s.heap.objs.size))) { s with heap := s.heap.push { cls := Value.type "tuple", data := Data.seq #[] }, toks := s.toks }) :=
  .of_wp fun prog w A R s h => by
    obtain ⟨hp, g, d, tk, os⟩ := s
    obtain ⟨hl, h⟩ := h
    have f1 := AutoSeq1.idx_int
    wp_walk using wpAny_loadPart' hl
    repeat (first
      | (refine wpAny_ite_false (decide_eq_false (by rw [c0]; exact Bool.false_ne_true)) ?_; wp_walk using wpAny_loadPart' hl)
      | (refine wpAny_ite_false (decide_eq_false (by rw [c1]; exact Bool.false_ne_true)) ?_; wp_walk using wpAny_loadPart' hl)
      | (refine wpAny_ite_true (decide_eq_true c2) ?_; wp_walk using wpAny_loadPart' hl))
    exact ⟨_, rfl, h⟩
def rRepTA (K : PySem.W.Frag) : R2 := fun x y H Q => ∃ l k xs, x = .ref l ∧ y = .int k ∧ SqT K H l xs ∧ -(2 ^ 62) < k ∧ k < 2 ^ 62 ∧ xs.length * k.toNat ≤ sizeLine ∧ ((xs = [] ∨ k = 1) → Q (.ref l) H) ∧
  (¬ (xs = [] ∨ k = 1) → ∀ p, H p = none → Q (.ref p) (upd H p (.tup (List.replicate k.toNat xs).flatten)))
section
variable {X : Cx}
theorem op_repTA : OpR X (binaryOp .Mult) (rRepTA X.K) := by
  intro pins s σ H x y v u Q I rx ry h
  obtain ⟨l, k, xs, rfl, rfl, hT, h1, h2, hz, q1, q2⟩ := h
  cases rx
  obtain ⟨t, rfl⟩ := ry
  obtain ⟨its, r, ⟨⟨cls, dd, data, sl⟩, ho, hc, n, hd⟩, hs⟩ := I.tuple hT
  simp only at hc hd
  subst hc hd
  have hle : its.length = xs.length := r.length.symm
  have c0 : (decide (k < -(2 ^ 63)) || decide (k ≥ 2 ^ 63)) = false := by
    rw [decide_eq_false (by omega), decide_eq_false (by omega)] <;> rfl
  have hi : its.toArray.isEmpty = decide (xs = []) := by
    cases its with
    | nil => simp at hle; rw [List.eq_nil_of_length_eq_zero hle.symm]; rfl
    | cons a b => cases xs with
      | nil => simp at hle
      | cons => rfl
  have go : ∀ {Q' : Value → Shared → Prop}, wpAny (model X.prog X.w) X.A (call (.builtin "tuple.__mul__") [.ref l, .int k t]) Q' X.xe s → wpAny (model X.prog X.w) X.A (binaryOp .Mult (.ref l) (.int k t)) Q' X.xe s := fun hcall =>
    wpAny_binaryOp_repeat_ref (T := "tuple") (U := "int") (by decide) ⟨_, ho, rfl⟩ (fun s' => typeIs_int s' k t) noFill_tuple_mul F.fills_int_mul F.slot_int_rmul repeat_tuple F.slot_int_index.lookup
      (call_meets F.slot_int_rmul (typeIs_int s k t) F.entry_int_rmul (F.args_int_rmul_2 _ _) (int_rmul_tuple k t l its.toArray n dd sl) ⟨ho, rfl, ⟨_, ho, rfl⟩, hcall⟩)
  by_cases c : xs = [] ∨ k = 1
  · refine go (call_meets F.slot_tuple_mul ⟨_, ho, rfl⟩ F.entry_tuple_mul (F.args_tuple_mul_2 _ _) (tuple_mul_self l its.toArray n dd sl k t c0 ?_) ⟨ho, ?_⟩)
    · rw [hi]
      rcases c with c | c
      · simp [c]
      · simp [c]
    · exact ⟨.ref l, H, I, rfl, q1 c⟩
  · have n1 : xs ≠ [] := fun e => c (.inl e)
    have n2 : k ≠ 1 := fun e => c (.inr e)
    have c1 : (its.toArray.isEmpty || k == 1) = false := by
      rw [hi]; simp [n1, n2]
    by_cases hk : k ≤ 0
    · refine go (call_meets F.slot_tuple_mul ⟨_, ho, rfl⟩ F.entry_tuple_mul (F.args_tuple_mul_2 _ _) (tuple_mul_nil l its.toArray n dd sl k t c0 c1 (by rw [decide_eq_true hk, Bool.true_or])) ⟨ho, ?_⟩)
      have e0 : k.toNat = 0 := by omega
      have q := q2 c s.heap.objs.size I.fresh
      rw [e0] at q
      refine ⟨.ref s.heap.objs.size, _, I.laid (t' := s.toks) (o := .tup []) (fun b ob q => Heap.get?_push_of_some _ q) (Nat.le_refl _) ?_, rfl, q⟩
      exact ⟨by simp, [], .nil, IsTup.new _ _⟩
    · have hm : ((its.toArray.size : Nat) : Int) * k ≤ sizeLine := by
        rw [List.size_toArray, hle]
        have : ((xs.length * k.toNat : Nat) : Int) ≤ (sizeLine : Nat) := by exact_mod_cast hz
        have e : ((k.toNat : Nat) : Int) = k := by omega
        rw [Int.natCast_mul, e] at this
        exact this
      have flen : (List.replicate k.toNat its).flatten.length ≤ sizeLine := by
        rw [PyProof.Rows.lm_len_rep_flat, hle, Nat.mul_comm]; exact hz
      have c2 : (decide (k ≤ 0) || its.toArray.isEmpty) = false := by
        rw [hi, decide_eq_false hk]; simp [n1]
      have hsl : ((sizeLine : Nat) : Int) = 16777216 := by rw [sizeLine_eq]; rfl
      have c4 : Builtin.Tuple.tupleTooMany (((its.toArray.size : Nat) : Int) * k) = false := by
        unfold Builtin.Tuple.tupleTooMany
        exact decide_eq_false (by omega)
      refine go (call_meets F.slot_tuple_mul ⟨_, ho, rfl⟩ F.entry_tuple_mul (F.args_tuple_mul_2 _ _) (tuple_mulW l its.toArray n dd sl k t c0 c1 c2 (by omega) c4 (by rw [size_rep, List.size_toArray]; exact flen)) ⟨ho, ?_⟩)
      rw [size_rep]
      refine ⟨.ref s.heap.objs.size, _, I.laid (t' := s.toks) (o := .tup (List.replicate k.toNat xs).flatten) (fun b ob q => Heap.get?_push_of_some _ q) (Nat.le_refl _) ?_, rfl, q2 c _ I.fresh⟩
      exact ⟨by rw [PyProof.Rows.lm_len_rep_flat, Nat.mul_comm]; exact hz, _, r.rep k.toNat, IsTup.new _ _⟩
def rRepLA (K : PySem.W.Frag) : R2 := fun x y H Q => ∃ l k xs, x = .ref l ∧ y = .int k ∧ SqL K H l xs ∧ -(2 ^ 62) < k ∧ k < 2 ^ 62 ∧ xs.length * k.toNat ≤ sizeLine ∧
  ∀ p, H p = none → Q (.ref p) (upd H p (.lst (List.replicate k.toNat xs).flatten))
theorem op_repLA : OpR X (binaryOp .Mult) (rRepLA X.K) := by
  intro pins s σ H x y v u Q I rx ry h
  obtain ⟨l, k, xs, rfl, rfl, hT, h1, h2, hz, q⟩ := h
  cases rx
  obtain ⟨t, rfl⟩ := ry
  obtain ⟨its, r, pl, hs⟩ := I.list hT
  obtain ⟨⟨cls, dd, data, sl⟩, ho, hc, n, hd⟩ := pl.isList
  simp only at hc hd
  subst hc hd
  have hle : its.length = xs.length := r.length.symm
  have hsz' : its.toArray.size * k.toNat ≤ 2 ^ 24 := by rw [List.size_toArray, hle]; exact hz
  refine wpAny_binaryOp_repeat_ref (T := "list") (U := "int") (by decide) ⟨_, ho, rfl⟩ (fun s' => typeIs_int s' k t) noFill_list_mul F.fills_int_mul F.slot_int_rmul repeat_list F.slot_int_index.lookup
    (call_meets F.slot_int_rmul (typeIs_int s k t) F.entry_int_rmul (F.args_int_rmul_2 _ _) (lm_int_rmul_list_any k t l its.toArray n dd sl)
      ⟨ho, rfl, ⟨_, ho, rfl⟩, call_meets F.slot_list_mul ⟨_, ho, rfl⟩ F.entry_list_mul (F.args_list_mul_2 _ _)
        (lm_list_mul_any l its.toArray n dd sl k t (by simp [Builtin.List.listFitsIndex]; omega) (by omega) (by simp [Builtin.List.listTooLong, sizeLine]; omega))
        ⟨ho, ?_⟩⟩)
  rw [listMul_foldl_if]
  exact ⟨.ref _, _, I.lnew (t' := s.toks) (r.rep _) (by rw [PyProof.Rows.lm_len_rep_flat, Nat.mul_comm]; exact hz), rfl, q _ I.fresh⟩
theorem ob_mul : OpR X (binaryOp .Mult) (rBin X.K .mul) := by
  intro pins s σ H x y v u Q I rx ry h
  obtain ⟨P, a, b, d, sP, ha, hb, e, g⟩ := h
  cases a <;> cases b <;> simp only [bin, reduceCtorEq, Option.ite_none_right_eq_some, Option.some.injEq, Bool.and_eq_true, Bool.or_eq_true, decide_eq_true_eq] at e
  case int.int i j =>
    obtain ⟨z, rfl⟩ := e
    cases ha.int'; cases hb.int'
    exact op_mul pins s σ H _ _ v u Q I rx ry ⟨i, j, rfl, rfl, z.imp two64_ok two64_ok, g.pl sP (.int _)⟩
  case tuple.int xs j =>
    obtain ⟨⟨⟨z1, z2⟩, z3⟩, rfl⟩ := e
    cases hb.int'
    obtain ⟨l, vs, rfl, h1, o1⟩ := ha.tuple sP
    refine op_repTA pins s σ H _ _ v u Q I rx ry ⟨l, j, vs, rfl, rfl, SqT.up sP h1, z2, z3, by rw [o1.len]; exact z1, fun c => ?_, fun _ p np => g.tup sP (o1.rep _) np⟩
    have e : (List.replicate j.toNat xs).flatten = xs := by
      rcases c with c | c
      · subst c
        cases o1
        induction j.toNat with
        | zero => rfl
        | succ n ih => simp
      · subst c
        show (List.replicate 1 xs).flatten = xs
        simp
    rw [e] at g
    exact g.pl sP (.tup h1 o1)
  case list.int xs j =>
    obtain ⟨⟨⟨z1, z2⟩, z3⟩, rfl⟩ := e
    cases hb.int'
    obtain ⟨l, vs, rfl, h1, o1⟩ := ha.list sP
    exact op_repLA pins s σ H _ _ v u Q I rx ry ⟨l, j, vs, rfl, rfl, h1, z2, z3, by rw [o1.len]; exact z1, fun p np => g.lst sP (o1.rep _) np⟩
end
end L3

namespace L3
open PySem PySem.Spec PyProof.Rows L2
open PySem.AutoSeq1 (wpAny_loadPart')
open PySem.MeetsSeq PySem.MeetsSeq2 PySem.MeetsSeq3 PySem.SeqAt
open Ob (RcOp lexAt lexAt_zero lexAt_succ)
theorem tuple_ltF (l b : Addr) (items items2 : Array Value) (n n2 : Nat) (dd dd2 : Option Addr) (sl sl2 : Array (Option Value)) (e r : Nat → Bool) :
    Meets (Builtin.«tuple.__lt__» ⟨[.ref l, .ref b], []⟩)
      (fun A R s => s.heap.get? l = some { cls := .type "tuple", dict := dd, data := .seq items n, slots := sl } ∧ s.heap.get? b = some { cls := .type "tuple", dict := dd2, data := .seq items2 n2, slots := sl2 } ∧
        (∀ j (h1 : j < items.size) (h2 : j < items2.size), EqAt A.in1 s items[j] items2[j] (e j)) ∧
        (∀ j (h1 : j < items.size) (h2 : j < items2.size), (∀ m, m < j → e m = true) → e j = false → RcOp .Lt A.in1 s items[j] items2[j] (r j)) ∧
        R (.ok (.ret (.bool (lexAt e r (decide (items.size < items2.size)) 0 (min items.size items2.size))))) s) :=
  .of_wp fun prog w A R s h => by
    obtain ⟨hp, g, d, tk, os⟩ := s; obtain ⟨hl, hb, he, hr, h⟩ := h
    have f2 := AutoSeq1.sub_tuple_tuple
    have hZ : (items.toList.zip items2.toList).length = min items.size items2.size := by simp
    wp_walk using wpAny_loadPart' hl, wpAny_loadPart' hb, wpAny_forIn_list _ (fun rest b s' => b.1 = none ∧ s' = ⟨hp, g, d, tk, os⟩ ∧ ∃ i, rest = (items.toList.zip items2.toList).drop i ∧ (∀ m, m < i → e m = true) ∧
      R (.ok (.ret (.bool (lexAt e r (decide (items.size < items2.size)) i (min items.size items2.size - i))))) ⟨hp, g, d, tk, os⟩) _
    case turn =>
      rintro ⟨y, x⟩ rest b s' ⟨hb', rfl, i, hz, hall, hR⟩
      have hlt : i < (items.toList.zip items2.toList).length := by
        rcases Nat.lt_or_ge i (items.toList.zip items2.toList).length with h' | h'
        · exact h'
        · rw [List.drop_of_length_le h'] at hz; cases hz
      have hm : i < min items.size items2.size := hZ ▸ hlt
      have h1 : i < items.size := Nat.lt_of_lt_of_le hm (Nat.min_le_left _ _)
      have h2 : i < items2.size := Nat.lt_of_lt_of_le hm (Nat.min_le_right _ _)
      rw [List.drop_eq_getElem_cons hlt] at hz
      injection hz with hyx hrest
      have hy : y = items[i] := by have := congrArg Prod.fst hyx; simpa using this
      have hx : x = items2[i] := by have := congrArg Prod.snd hyx; simpa using this
      subst hy hx
      rw [show min items.size items2.size - i = (min items.size items2.size - (i + 1)) + 1 by omega, lexAt_succ] at hR
      refine wpAny_bind (he i h1 h2 prog w _ _ ?_)
      cases hei : e i with
      | true =>
        rw [hei, if_pos rfl] at hR
        wp_walk
        refine ⟨rfl, rfl, i + 1, hrest, fun m hm => ?_, hR⟩
        by_cases q : m = i
        · rw [q]; exact hei
        · exact hall m (by omega)
      | false =>
        rw [hei, if_neg Bool.false_ne_true] at hR
        have hri := hr i h1 h2 hall hei prog w
        wp_walk using hri
        exact ⟨_, rfl, by simpa using hR⟩
    case fin =>
      rintro ⟨b1, b2⟩ s' ⟨hb', rfl, i, hz, _, hR⟩
      simp only at hb'
      subst hb'
      have hge : min items.size items2.size ≤ i := by
        rcases Nat.lt_or_ge i (items.toList.zip items2.toList).length with h' | h'
        · rw [List.drop_eq_getElem_cons h'] at hz; cases hz
        · exact hZ ▸ h'
      rw [Nat.sub_eq_zero_of_le hge, lexAt_zero] at hR
      wp_walk
      exact ⟨_, rfl, by simpa [Builtin.Tuple.tupleCompareSizes] using hR⟩
    case h =>
      exact ⟨rfl, rfl, 0, rfl, (fun _ z => absurd z (Nat.not_lt_zero _)), by simpa using h⟩
theorem tuple_leF (l b : Addr) (items items2 : Array Value) (n n2 : Nat) (dd dd2 : Option Addr) (sl sl2 : Array (Option Value)) (e r : Nat → Bool) :
    Meets (Builtin.«tuple.__le__» ⟨[.ref l, .ref b], []⟩)
      (fun A R s => s.heap.get? l = some { cls := .type "tuple", dict := dd, data := .seq items n, slots := sl } ∧ s.heap.get? b = some { cls := .type "tuple", dict := dd2, data := .seq items2 n2, slots := sl2 } ∧
        (∀ j (h1 : j < items.size) (h2 : j < items2.size), EqAt A.in1 s items[j] items2[j] (e j)) ∧
        (∀ j (h1 : j < items.size) (h2 : j < items2.size), (∀ m, m < j → e m = true) → e j = false → RcOp .LtE A.in1 s items[j] items2[j] (r j)) ∧
        R (.ok (.ret (.bool (lexAt e r (decide (items.size ≤ items2.size)) 0 (min items.size items2.size))))) s) :=
  .of_wp fun prog w A R s h => by
    obtain ⟨hp, g, d, tk, os⟩ := s; obtain ⟨hl, hb, he, hr, h⟩ := h
    have f2 := AutoSeq1.sub_tuple_tuple
    have hZ : (items.toList.zip items2.toList).length = min items.size items2.size := by simp
    wp_walk using wpAny_loadPart' hl, wpAny_loadPart' hb, wpAny_forIn_list _ (fun rest b s' => b.1 = none ∧ s' = ⟨hp, g, d, tk, os⟩ ∧ ∃ i, rest = (items.toList.zip items2.toList).drop i ∧ (∀ m, m < i → e m = true) ∧
      R (.ok (.ret (.bool (lexAt e r (decide (items.size ≤ items2.size)) i (min items.size items2.size - i))))) ⟨hp, g, d, tk, os⟩) _
    case turn =>
      rintro ⟨y, x⟩ rest b s' ⟨hb', rfl, i, hz, hall, hR⟩
      have hlt : i < (items.toList.zip items2.toList).length := by
        rcases Nat.lt_or_ge i (items.toList.zip items2.toList).length with h' | h'
        · exact h'
        · rw [List.drop_of_length_le h'] at hz; cases hz
      have hm : i < min items.size items2.size := hZ ▸ hlt
      have h1 : i < items.size := Nat.lt_of_lt_of_le hm (Nat.min_le_left _ _)
      have h2 : i < items2.size := Nat.lt_of_lt_of_le hm (Nat.min_le_right _ _)
      rw [List.drop_eq_getElem_cons hlt] at hz
      injection hz with hyx hrest
      have hy : y = items[i] := by have := congrArg Prod.fst hyx; simpa using this
      have hx : x = items2[i] := by have := congrArg Prod.snd hyx; simpa using this
      subst hy hx
      rw [show min items.size items2.size - i = (min items.size items2.size - (i + 1)) + 1 by omega, lexAt_succ] at hR
      refine wpAny_bind (he i h1 h2 prog w _ _ ?_)
      cases hei : e i with
      | true =>
        rw [hei, if_pos rfl] at hR
        wp_walk
        refine ⟨rfl, rfl, i + 1, hrest, fun m hm => ?_, hR⟩
        by_cases q : m = i
        · rw [q]; exact hei
        · exact hall m (by omega)
      | false =>
        rw [hei, if_neg Bool.false_ne_true] at hR
        have hri := hr i h1 h2 hall hei prog w
        wp_walk using hri
        exact ⟨_, rfl, by simpa using hR⟩
    case fin =>
      rintro ⟨b1, b2⟩ s' ⟨hb', rfl, i, hz, _, hR⟩
      simp only at hb'
      subst hb'
      have hge : min items.size items2.size ≤ i := by
        rcases Nat.lt_or_ge i (items.toList.zip items2.toList).length with h' | h'
        · rw [List.drop_eq_getElem_cons h'] at hz; cases hz
        · exact hZ ▸ h'
      rw [Nat.sub_eq_zero_of_le hge, lexAt_zero] at hR
      wp_walk
      exact ⟨_, rfl, by simpa [Builtin.Tuple.tupleCompareSizes] using hR⟩
    case h =>
      exact ⟨rfl, rfl, 0, rfl, (fun _ z => absurd z (Nat.not_lt_zero _)), by simpa using h⟩
theorem tuples_ltF {A : Around} {s : Shared} {l b : Addr} {items items2 : Array Value} {e r : Nat → Bool} (hl : s.heap.IsTuple l items) (hb : s.heap.IsTuple b items2) (hu : A.units < cLine)
    (he : ∀ j (h1 : j < items.size) (h2 : j < items2.size), EqAt A.in1 s items[j] items2[j] (e j))
    (hr : ∀ j (h1 : j < items.size) (h2 : j < items2.size), (∀ m, m < j → e m = true) → e j = false → RcOp .Lt A.in1 s items[j] items2[j] (r j)) :
    RcOp .Lt A s (.ref l) (.ref b) (lexAt e r (decide (items.size < items2.size)) 0 (min items.size items2.size)) := fun prog w E Q h => by
  obtain ⟨⟨cls, dd, data, sl⟩, ho, hc, n, hd⟩ := id hl
  obtain ⟨⟨cls2, dd2, data2, sl2⟩, ho2, hc2, n2, hd2⟩ := id hb
  simp only at hc hd hc2 hd2
  subst hc hd hc2 hd2
  exact richCompare_meets_room (op := .Lt) ⟨_, ho, rfl⟩ ⟨_, ho2, rfl⟩ F.slot_tuple_lt F.entry_tuple_lt (F.args_tuple_lt_2 _ _) (tuple_ltF l b items items2 n n2 dd dd2 sl sl2 e r)
    ⟨ho, ho2, he, hr, ⟨(fun x => nomatch x), h⟩⟩ hu
theorem tuples_leF {A : Around} {s : Shared} {l b : Addr} {items items2 : Array Value} {e r : Nat → Bool} (hl : s.heap.IsTuple l items) (hb : s.heap.IsTuple b items2) (hu : A.units < cLine)
    (he : ∀ j (h1 : j < items.size) (h2 : j < items2.size), EqAt A.in1 s items[j] items2[j] (e j))
    (hr : ∀ j (h1 : j < items.size) (h2 : j < items2.size), (∀ m, m < j → e m = true) → e j = false → RcOp .LtE A.in1 s items[j] items2[j] (r j)) :
    RcOp .LtE A s (.ref l) (.ref b) (lexAt e r (decide (items.size ≤ items2.size)) 0 (min items.size items2.size)) := fun prog w E Q h => by
  obtain ⟨⟨cls, dd, data, sl⟩, ho, hc, n, hd⟩ := id hl
  obtain ⟨⟨cls2, dd2, data2, sl2⟩, ho2, hc2, n2, hd2⟩ := id hb
  simp only at hc hd hc2 hd2
  subst hc hd hc2 hd2
  exact richCompare_meets_room (op := .LtE) ⟨_, ho, rfl⟩ ⟨_, ho2, rfl⟩ F.slot_tuple_le F.entry_tuple_le (F.args_tuple_le_2 _ _) (tuple_leF l b items items2 n n2 dd dd2 sl sl2 e r)
    ⟨ho, ho2, he, hr, ⟨(fun x => nomatch x), h⟩⟩ hu

theorem lexAt_shift {e r : Nat → Bool} {z : Bool} : ∀ (k i : Nat), lexAt (fun j => e (j + 1)) (fun j => r (j + 1)) z i k = lexAt e r z (i + 1) k
  | 0, _ => rfl
  | k + 1, i => by rw [lexAt_succ, lexAt_succ, lexAt_shift k (i + 1)]
theorem lexAt_congr {e r r' : Nat → Bool} {z : Bool} : ∀ (k i : Nat), (∀ j, i ≤ j → j < i + k → (∀ m, i ≤ m → m < j → e m = true) → e j = false → r j = r' j) → lexAt e r z i k = lexAt e r' z i k
  | 0, _, _ => rfl
  | k + 1, i, h => by
    rw [lexAt_succ, lexAt_succ]
    cases q : e i with
    | true =>
      rw [if_pos rfl, if_pos rfl]
      refine lexAt_congr k (i + 1) fun j h1 h2 h3 h4 => h j (by omega) (by omega) (fun m m1 m2 => ?_) h4
      by_cases w : m = i
      · rw [w]; exact q
      · exact h3 m (by omega) m2
    | false =>
      rw [if_neg Bool.false_ne_true, if_neg Bool.false_ne_true]
      exact h i (Nat.le_refl _) (by omega) (fun m m1 m2 => by omega) q
def rOf (f : PyData → PyData → Option Bool) (xs ys : List PyData) (j : Nat) : Bool := (f (xs.getD j .none) (ys.getD j .none)).getD false
theorem lex_lt : ∀ (xs ys : List PyData) (k : Bool), ltAll xs ys = some k → lexAt (pairEq xs ys) (rOf ltD xs ys) (decide (xs.length < ys.length)) 0 (min xs.length ys.length) = k
  | [], [], k, h => by simp [ltAll] at h; subst h; rfl
  | [], _ :: _, k, h => by simp [ltAll] at h; subst h; simp [lexAt_zero]
  | _ :: _, [], k, h => by simp [ltAll] at h; subst h; rfl
  | x :: xs, y :: ys, k, h => by
    rw [ltAll] at h
    have e : min (x :: xs).length (y :: ys).length = min xs.length ys.length + 1 := by simp only [List.length_cons]; omega
    rw [e, lexAt_succ]
    by_cases q : PyData.eqv x y = true
    · rw [if_pos q] at h
      rw [if_pos (show pairEq (x :: xs) (y :: ys) 0 = true from q), ← lexAt_shift]
      rw [show decide ((x :: xs).length < (y :: ys).length) = decide (xs.length < ys.length) from by simp]
      exact lex_lt xs ys k h
    · rw [if_neg q] at h
      rw [if_neg (show ¬ pairEq (x :: xs) (y :: ys) 0 = true from q)]
      simp [rOf, h]
theorem lt_at : ∀ (xs ys : List PyData) (k : Bool), ltAll xs ys = some k → ∀ j, j < xs.length → j < ys.length → (∀ m, m < j → pairEq xs ys m = true) → pairEq xs ys j = false → ltD (xs.getD j .none) (ys.getD j .none) = some (rOf ltD xs ys j)
  | [], _, _, _, j, h1, _, _, _ => by simp at h1
  | _ :: _, [], _, _, j, _, h2, _, _ => by simp at h2
  | x :: xs, y :: ys, k, h, 0, _, _, _, hf => by
    rw [ltAll, if_neg (by rw [show PyData.eqv x y = false from hf]; exact Bool.false_ne_true)] at h
    simp [rOf, h]
  | x :: xs, y :: ys, k, h, j + 1, h1, h2, ha, hf => by
    rw [ltAll, if_pos (show PyData.eqv x y = true from ha 0 (by omega))] at h
    have := lt_at xs ys k h j (by simpa using h1) (by simpa using h2) (fun m hm => by have := ha (m + 1) (by omega); simpa [pairEq] using this) (by simpa [pairEq] using hf)
    simpa [rOf] using this
theorem lex_le : ∀ (xs ys : List PyData) (k : Bool), leAll xs ys = some k → lexAt (pairEq xs ys) (rOf leD xs ys) (decide (xs.length ≤ ys.length)) 0 (min xs.length ys.length) = k
  | [], [], k, h => by simp [leAll] at h; subst h; rfl
  | [], _ :: _, k, h => by simp [leAll] at h; subst h; simp [lexAt_zero]
  | _ :: _, [], k, h => by simp [leAll] at h; subst h; rfl
  | x :: xs, y :: ys, k, h => by
    rw [leAll] at h
    have e : min (x :: xs).length (y :: ys).length = min xs.length ys.length + 1 := by simp only [List.length_cons]; omega
    rw [e, lexAt_succ]
    by_cases q : PyData.eqv x y = true
    · rw [if_pos q] at h
      rw [if_pos (show pairEq (x :: xs) (y :: ys) 0 = true from q), ← lexAt_shift]
      rw [show decide ((x :: xs).length ≤ (y :: ys).length) = decide (xs.length ≤ ys.length) from by simp]
      exact lex_le xs ys k h
    · rw [if_neg q] at h
      rw [if_neg (show ¬ pairEq (x :: xs) (y :: ys) 0 = true from q)]
      simp [rOf, h]
theorem le_at : ∀ (xs ys : List PyData) (k : Bool), leAll xs ys = some k → ∀ j, j < xs.length → j < ys.length → (∀ m, m < j → pairEq xs ys m = true) → pairEq xs ys j = false → leD (xs.getD j .none) (ys.getD j .none) = some (rOf leD xs ys j)
  | [], _, _, _, j, h1, _, _, _ => by simp at h1
  | _ :: _, [], _, _, j, _, h2, _, _ => by simp at h2
  | x :: xs, y :: ys, k, h, 0, _, _, _, hf => by
    rw [leAll, if_neg (by rw [show PyData.eqv x y = false from hf]; exact Bool.false_ne_true)] at h
    simp [rOf, h]
  | x :: xs, y :: ys, k, h, j + 1, h1, h2, ha, hf => by
    rw [leAll, if_pos (show PyData.eqv x y = true from ha 0 (by omega))] at h
    have := le_at xs ys k h j (by simpa using h1) (by simpa using h2) (fun m hm => by have := ha (m + 1) (by omega); simpa [pairEq] using this) (by simpa [pairEq] using hf)
    simpa [rOf] using this
theorem readsAll_len {h : Heap} : ∀ {vs : List Value} {ds : List PyData} {as : List Addr}, ReadsAll h vs ds as → vs.length = ds.length
  | _, _, _, .nil => rfl
  | _, _, _, .cons _ r => by simp [readsAll_len r]
mutual
theorem rc_lt : ∀ (x y : PyData) (A : Around) (s : Shared) (a b : Value) (as bs : List Addr) (k : Bool), Reads s.heap a x as → Reads s.heap b y bs → x.canLay0 = true → y.canLay0 = true → A.units + x.depth < cLine → ltD x y = some k → RcOp .Lt A s a b k
  | .int i, y, A, s, a, b, as, bs, k, ra, rb, ca, cb, hu, h => by
    cases y <;> simp [ltD] at h
    subst h
    cases ra; cases rb
    exact RcOp.lt_int _ _ _ _
  | .str i, y, A, s, a, b, as, bs, k, ra, rb, ca, cb, hu, h => by
    cases y <;> simp only [ltD, reduceCtorEq, Option.some.injEq] at h
    subst h
    cases ra; cases rb
    exact fun _ _ _ _ h => lt_str h
  | .tuple xs, y, A, s, a, b, as, bs, k, ra, rb, ca, cb, hu, h => by
    cases y <;> simp only [ltD, reduceCtorEq] at h
    rename_i ys
    cases ra with
    | tuple o1 c1 d1 r1 =>
      cases rb with
      | tuple o2 c2 d2 r2 =>
        have l1 := readsAll_len r1
        have l2 := readsAll_len r2
        rw [← lex_lt xs ys k h]
        have hu' : A.in1.units + PyData.depthAll xs < cLine := by
          show A.units + 1 + _ < _
          simp only [PyData.depth] at hu
          omega
        have ca' : PyData.canLayAll0 xs = true := by simpa [PyData.canLay0] using ca
        have cb' : PyData.canLayAll0 ys = true := by simpa [PyData.canLay0] using cb
        have q := tuples_ltF (A := A) (s := s) (e := pairEq xs ys) (r := rOf ltD xs ys) ⟨_, o1, c1, _, d1⟩ ⟨_, o2, c2, _, d2⟩ (by omega)
          (fun j h1 h2 => by
            have := eqAt_readsAll xs ys A.in1 s _ _ _ _ r1 r2 ca' cb' (by have := Nat.min_le_left (PyData.depthAll xs) (PyData.depthAll ys); omega) j (by simpa using h1) (by simpa using h2)
            simpa using this)
          (fun j h1 h2 ha hf => by
            have h1' : j < xs.length := by rw [← l1]; simpa using h1
            have h2' : j < ys.length := by rw [← l2]; simpa using h2
            have := rc_ltAll xs ys A.in1 s _ _ _ _ r1 r2 ca' cb' hu' j (by simpa using h1) (by simpa using h2) _ (lt_at xs ys k h j h1' h2' ha hf)
            simpa using this)
        have e1 := l1
        have e2 := l2
        rw [Array.length_toList] at e1 e2
        rw [e1, e2] at q
        exact q
  | .none, y, _, _, _, _, _, _, _, _, _, _, _, _, h => by cases y <;> simp [ltD] at h
  | .bool _, y, _, _, _, _, _, _, _, _, _, _, _, _, h => by cases y <;> simp [ltD] at h
  | .list _, y, _, _, _, _, _, _, _, _, _, _, _, _, h => by cases y <;> simp [ltD] at h
  | .dict _, y, _, _, _, _, _, _, _, _, _, _, _, _, h => by cases y <;> simp [ltD] at h
theorem rc_ltAll : ∀ (xs ys : List PyData) (A : Around) (s : Shared) (vs ws : List Value) (as bs : List Addr), ReadsAll s.heap vs xs as → ReadsAll s.heap ws ys bs → PyData.canLayAll0 xs = true → PyData.canLayAll0 ys = true → A.units + PyData.depthAll xs < cLine →
    ∀ (j : Nat) (h1 : j < vs.length) (h2 : j < ws.length) (k : Bool), ltD (xs.getD j .none) (ys.getD j .none) = some k → RcOp .Lt A s vs[j] ws[j] k
  | [], _, _, _, _, _, _, _, ra, _, _, _, _, j, h1, _, _, _ => by cases ra; exact absurd h1 (Nat.not_lt_zero _)
  | _ :: _, [], _, _, _, _, _, _, _, rb, _, _, _, j, _, h2, _, _ => by cases rb; exact absurd h2 (Nat.not_lt_zero _)
  | x :: xs, y :: ys, A, s, _, _, _, _, ra, rb, ha, hb, hu, j, h1, h2, k, h => by
    have ha' : x.canLay0 = true ∧ PyData.canLayAll0 xs = true := by simpa [PyData.canLayAll0] using ha
    have hb' : y.canLay0 = true ∧ PyData.canLayAll0 ys = true := by simpa [PyData.canLayAll0] using hb
    simp only [PyData.depthAll] at hu
    have m1 := Nat.le_max_left x.depth (PyData.depthAll xs)
    have m2 := Nat.le_max_right x.depth (PyData.depthAll xs)
    cases ra with
    | cons r1 rs1 =>
      cases rb with
      | cons r2 rs2 =>
        cases j with
        | zero => exact rc_lt x y A s _ _ _ _ k r1 r2 ha'.1 hb'.1 (by omega) (by simpa using h)
        | succ j => exact rc_ltAll xs ys A s _ _ _ _ rs1 rs2 ha'.2 hb'.2 (by omega) j (by simpa using h1) (by simpa using h2) k (by simpa using h)
end
mutual
theorem rc_le : ∀ (x y : PyData) (A : Around) (s : Shared) (a b : Value) (as bs : List Addr) (k : Bool), Reads s.heap a x as → Reads s.heap b y bs → x.canLay0 = true → y.canLay0 = true → A.units + x.depth < cLine → leD x y = some k → RcOp .LtE A s a b k
  | .int i, y, A, s, a, b, as, bs, k, ra, rb, ca, cb, hu, h => by
    cases y <;> simp [leD] at h
    subst h
    cases ra; cases rb
    exact RcOp.le_int _ _ _ _
  | .str i, y, A, s, a, b, as, bs, k, ra, rb, ca, cb, hu, h => by
    cases y <;> simp only [leD, reduceCtorEq, Option.some.injEq] at h
    subst h
    cases ra; cases rb
    exact fun _ _ _ _ h => PySem.P.le_str h
  | .tuple xs, y, A, s, a, b, as, bs, k, ra, rb, ca, cb, hu, h => by
    cases y <;> simp only [leD, reduceCtorEq] at h
    rename_i ys
    cases ra with
    | tuple o1 c1 d1 r1 =>
      cases rb with
      | tuple o2 c2 d2 r2 =>
        have l1 := readsAll_len r1
        have l2 := readsAll_len r2
        rw [← lex_le xs ys k h]
        have hu' : A.in1.units + PyData.depthAll xs < cLine := by
          show A.units + 1 + _ < _
          simp only [PyData.depth] at hu
          omega
        have ca' : PyData.canLayAll0 xs = true := by simpa [PyData.canLay0] using ca
        have cb' : PyData.canLayAll0 ys = true := by simpa [PyData.canLay0] using cb
        have q := tuples_leF (A := A) (s := s) (e := pairEq xs ys) (r := rOf leD xs ys) ⟨_, o1, c1, _, d1⟩ ⟨_, o2, c2, _, d2⟩ (by omega)
          (fun j h1 h2 => by
            have := eqAt_readsAll xs ys A.in1 s _ _ _ _ r1 r2 ca' cb' (by have := Nat.min_le_left (PyData.depthAll xs) (PyData.depthAll ys); omega) j (by simpa using h1) (by simpa using h2)
            simpa using this)
          (fun j h1 h2 ha hf => by
            have h1' : j < xs.length := by rw [← l1]; simpa using h1
            have h2' : j < ys.length := by rw [← l2]; simpa using h2
            have := rc_leAll xs ys A.in1 s _ _ _ _ r1 r2 ca' cb' hu' j (by simpa using h1) (by simpa using h2) _ (le_at xs ys k h j h1' h2' ha hf)
            simpa using this)
        have e1 := l1
        have e2 := l2
        rw [Array.length_toList] at e1 e2
        rw [e1, e2] at q
        exact q
  | .none, y, _, _, _, _, _, _, _, _, _, _, _, _, h => by cases y <;> simp [leD] at h
  | .bool _, y, _, _, _, _, _, _, _, _, _, _, _, _, h => by cases y <;> simp [leD] at h
  | .list _, y, _, _, _, _, _, _, _, _, _, _, _, _, h => by cases y <;> simp [leD] at h
  | .dict _, y, _, _, _, _, _, _, _, _, _, _, _, _, h => by cases y <;> simp [leD] at h
theorem rc_leAll : ∀ (xs ys : List PyData) (A : Around) (s : Shared) (vs ws : List Value) (as bs : List Addr), ReadsAll s.heap vs xs as → ReadsAll s.heap ws ys bs → PyData.canLayAll0 xs = true → PyData.canLayAll0 ys = true → A.units + PyData.depthAll xs < cLine →
    ∀ (j : Nat) (h1 : j < vs.length) (h2 : j < ws.length) (k : Bool), leD (xs.getD j .none) (ys.getD j .none) = some k → RcOp .LtE A s vs[j] ws[j] k
  | [], _, _, _, _, _, _, _, ra, _, _, _, _, j, h1, _, _, _ => by cases ra; exact absurd h1 (Nat.not_lt_zero _)
  | _ :: _, [], _, _, _, _, _, _, _, rb, _, _, _, j, _, h2, _, _ => by cases rb; exact absurd h2 (Nat.not_lt_zero _)
  | x :: xs, y :: ys, A, s, _, _, _, _, ra, rb, ha, hb, hu, j, h1, h2, k, h => by
    have ha' : x.canLay0 = true ∧ PyData.canLayAll0 xs = true := by simpa [PyData.canLayAll0] using ha
    have hb' : y.canLay0 = true ∧ PyData.canLayAll0 ys = true := by simpa [PyData.canLayAll0] using hb
    simp only [PyData.depthAll] at hu
    have m1 := Nat.le_max_left x.depth (PyData.depthAll xs)
    have m2 := Nat.le_max_right x.depth (PyData.depthAll xs)
    cases ra with
    | cons r1 rs1 =>
      cases rb with
      | cons r2 rs2 =>
        cases j with
        | zero => exact rc_le x y A s _ _ _ _ k r1 r2 ha'.1 hb'.1 (by omega) (by simpa using h)
        | succ j => exact rc_leAll xs ys A s _ _ _ _ rs1 rs2 ha'.2 hb'.2 (by omega) j (by simpa using h1) (by simpa using h2) k (by simpa using h)
end
section
variable {X : Cx}
theorem oc_eq (hu : X.A.units + 100 < cLine) : OpR X (compareOp .Eq) (rCmp X.K .eq) := by
  intro pins s σ H x y v u Q I rx ry h
  obtain ⟨P, a, b, k, sP, ha, hb, e, q⟩ := h
  simp only [cmpD, Option.ite_none_right_eq_some, Option.some.injEq, Bool.and_eq_true] at e
  obtain ⟨⟨s1, s2⟩, rfl⟩ := e
  exact op_eqD (by omega) pins s σ H x y v u Q I rx ry ⟨a, b, ha.dp sP, hb.dp sP, s1, s2, q⟩
theorem oc_ne (hu : X.A.units + 100 < cLine) : OpR X (compareOp .NotEq) (rCmp X.K .ne) := by
  intro pins s σ H x y v u Q I rx ry h
  obtain ⟨P, a, b, k, sP, ha, hb, e, q⟩ := h
  simp only [cmpD, Option.ite_none_right_eq_some, Option.some.injEq, Bool.and_eq_true] at e
  obtain ⟨⟨s1, s2⟩, rfl⟩ := e
  exact op_neD (by omega) pins s σ H x y v u Q I rx ry ⟨a, b, ha.dp sP, hb.dp sP, s1, s2, q⟩
theorem oc_lt (hu : X.A.units + 100 < cLine) : OpR X (compareOp .Lt) (rCmp X.K .lt) := by
  intro pins s σ H x y v u Q I rx ry h
  obtain ⟨P, a, b, k, sP, ha, hb, e, q⟩ := h
  simp only [cmpD, Option.ite_none_right_eq_some, Bool.and_eq_true] at e
  obtain ⟨⟨s1, s2⟩, e⟩ := e
  obtain ⟨as, r1⟩ := Dp.reads I a x v (ha.dp sP) rx
  obtain ⟨bs, r2⟩ := Dp.reads I b y u (hb.dp sP) ry
  exact rc_lt a b X.A s v u as bs k r1 r2 (canLay_of_shaped s1) (canLay_of_shaped s2) (by have := depth_of_shaped s1; omega) e _ _ _ _ ⟨.bl _, H, I, rfl, q⟩
theorem oc_le (hu : X.A.units + 100 < cLine) : OpR X (compareOp .LtE) (rCmp X.K .le) := by
  intro pins s σ H x y v u Q I rx ry h
  obtain ⟨P, a, b, k, sP, ha, hb, e, q⟩ := h
  simp only [cmpD, Option.ite_none_right_eq_some, Bool.and_eq_true] at e
  obtain ⟨⟨s1, s2⟩, e⟩ := e
  obtain ⟨as, r1⟩ := Dp.reads I a x v (ha.dp sP) rx
  obtain ⟨bs, r2⟩ := Dp.reads I b y u (hb.dp sP) ry
  exact rc_le a b X.A s v u as bs k r1 r2 (canLay_of_shaped s1) (canLay_of_shaped s2) (by have := depth_of_shaped s1; omega) e _ _ _ _ ⟨.bl _, H, I, rfl, q⟩
theorem oc_gt : OpR X (compareOp .Gt) (rCmp X.K .gt) := by
  intro pins s σ H x y v u Q I rx ry h
  obtain ⟨P, a, b, k, sP, ha, hb, e, q⟩ := h
  cases a <;> cases b <;> simp only [cmpD, reduceCtorEq, Option.some.injEq] at e
  subst e
  cases ha.int'; cases hb.int'
  exact op_gt pins s σ H _ _ v u Q I rx ry ⟨_, _, rfl, rfl, q⟩
theorem oc_ge : OpR X (compareOp .GtE) (rCmp X.K .ge) := by
  intro pins s σ H x y v u Q I rx ry h
  obtain ⟨P, a, b, k, sP, ha, hb, e, q⟩ := h
  cases a <;> cases b <;> simp only [cmpD, reduceCtorEq, Option.some.injEq] at e
  subst e
  cases ha.int'; cases hb.int'
  exact op_ge pins s σ H _ _ v u Q I rx ry ⟨_, _, rfl, rfl, q⟩
theorem oc_in (hu : X.A.units + 100 < cLine) : OpR X (compareOp .In) (rCmp X.K .isin) := by
  intro pins s σ H x y v u Q I rx ry h
  obtain ⟨P, a, b, k, sP, ha, hb, e, q⟩ := h
  simp only [cmpD] at e
  cases b <;> simp only [isinD, reduceCtorEq, Option.ite_none_right_eq_some, Option.some.injEq, Bool.and_eq_true] at e
  case list ys =>
    obtain ⟨⟨s1, s2⟩, rfl⟩ := e
    exact op_inD (by omega) pins s σ H x y v u Q I rx ry ⟨a, ys, ha.dp sP, hb.dp sP, s1, s2, q⟩
  case tuple ys =>
    obtain ⟨⟨s1, s2⟩, rfl⟩ := e
    obtain ⟨as, r1⟩ := Dp.reads I a x v (ha.dp sP) rx
    obtain ⟨bs, r2⟩ := Dp.reads I (.tuple ys) y u (hb.dp sP) ry
    exact SeqAt.in_tuple_reads r2 r1 (SeqAt.canLay_of_shaped s2) (SeqAt.canLay_of_shaped s1) (room_in_shaped s1 (by omega)) ⟨.bl _, H, I, rfl, q⟩
  case str z =>
    cases a <;> simp only [isinD, reduceCtorEq, Option.some.injEq] at e
    subst e
    cases ha.str'; cases hb.str'
    exact op_in_str pins s σ H _ _ v u Q I rx ry ⟨_, _, rfl, rfl, q⟩
theorem oc_notin (hu : X.A.units + 100 < cLine) : OpR X (compareOp .NotIn) (rCmp X.K .notin) := by
  intro pins s σ H x y v u Q I rx ry h
  obtain ⟨P, a, b, k, sP, ha, hb, e, q⟩ := h
  simp only [cmpD, Option.map_eq_some_iff] at e
  obtain ⟨k, e, rfl⟩ := e
  cases b <;> simp only [isinD, reduceCtorEq, Option.ite_none_right_eq_some, Option.some.injEq, Bool.and_eq_true] at e
  case list ys =>
    obtain ⟨⟨s1, s2⟩, rfl⟩ := e
    exact op_notInD (by omega) pins s σ H x y v u Q I rx ry ⟨a, ys, ha.dp sP, hb.dp sP, s1, s2, q⟩
  case tuple ys =>
    obtain ⟨⟨s1, s2⟩, rfl⟩ := e
    obtain ⟨as, r1⟩ := Dp.reads I a x v (ha.dp sP) rx
    obtain ⟨bs, r2⟩ := Dp.reads I (.tuple ys) y u (hb.dp sP) ry
    exact SeqAt.notIn_tuple_reads r2 r1 (SeqAt.canLay_of_shaped s2) (SeqAt.canLay_of_shaped s1) (room_in_shaped s1 (by omega)) ⟨.bl _, H, I, rfl, q⟩
  case str z =>
    cases a <;> simp only [isinD, reduceCtorEq, Option.some.injEq] at e
    subst e
    cases ha.str'; cases hb.str'
    exact op_notin_str pins s σ H _ _ v u Q I rx ry ⟨_, _, rfl, rfl, q⟩
theorem isnone_dp {K : PySem.W.Frag} {P H : Hp} {v : V} {a : PyData} (h : Opd K P H v a) : decide (v = .non) = isNone a := by
  cases h with
  | ls => rfl
  | pl h => cases h <;> rfl
theorem oc_is : OpR X (compareOp .Is) (rCmp X.K .is) := by
  intro pins s σ H x y v u Q I rx ry h
  obtain ⟨P, a, b, k, sP, ha, hb, e, q⟩ := h
  cases b <;> simp only [cmpD, reduceCtorEq, Option.some.injEq] at e
  subst e
  cases hb.non'
  exact op_isN pins s σ H _ _ v u Q I rx ry ⟨rfl, by rw [isnone_dp ha]; exact q⟩
theorem oc_isnot : OpR X (compareOp .IsNot) (rCmp X.K .isnot) := by
  intro pins s σ H x y v u Q I rx ry h
  obtain ⟨P, a, b, k, sP, ha, hb, e, q⟩ := h
  cases b <;> simp only [cmpD, reduceCtorEq, Option.some.injEq] at e
  subst e
  cases hb.non'
  refine op_notN pins s σ H _ _ v u Q I rx ry ⟨rfl, ?_⟩
  rw [isnone_dp ha]
  exact q
end
end L3

namespace L3
open PySem PySem.Spec PyProof.Rows L2
section
variable {X : Cx}
theorem opds1 {K : PySem.W.Frag} {P H : Hp} {vs : List V} {x : PyData} (h : Opds K P H vs [x]) : ∃ v, vs = [v] ∧ Opd K P H v x := by
  cases h with | cons a b => cases b; exact ⟨_, rfl, a⟩
theorem opds2 {K : PySem.W.Frag} {P H : Hp} {vs : List V} {x y : PyData} (h : Opds K P H vs [x, y]) : ∃ v w, vs = [v, w] ∧ Opd K P H v x ∧ Opd K P H w y := by
  cases h with | cons a b => cases b with | cons c d => cases d; exact ⟨_, _, rfl, a, c⟩
theorem bi1 {b : Bi} {xs : List PyData} {d : D} (h : bi b xs = some d) (hb : b ≠ .min2) (hc : b ≠ .max2) (hl : b ≠ .lzip := by intro z; cases z) : ∃ x, xs = [x] := by
  match xs, h with
  | [], h => cases b <;> simp [bi] at h
  | [x], _ => exact ⟨x, rfl⟩
  | x :: y :: r, h => cases b <;> first | exact absurd rfl hb | exact absurd rfl hc | exact absurd rfl hl | simp [bi] at h
theorem cb_len : CallR X (.builtin "len") (rBi X.K .len) := by
  intro pins s σ H vs us Q I r h
  obtain ⟨P, xs, d, sP, o, e, g⟩ := h
  obtain ⟨x, rfl⟩ := bi1 e (by intro z; cases z) (by intro z; cases z)
  replace o := opds1 o
  obtain ⟨v, rfl, o⟩ := o
  cases x <;> simp only [bi, reduceCtorEq, Option.ite_none_right_eq_some, Option.some.injEq] at e
  case list ys =>
    subst e
    obtain ⟨a, ws, rfl, h1, o1⟩ := o.list sP
    exact call_len_seq pins s σ H _ us Q I r ⟨a, ws, rfl, .inl h1, by rw [o1.len]; exact g.pl sP (.int _)⟩
  case tuple ys =>
    subst e
    obtain ⟨a, ws, rfl, h1, o1⟩ := o.tuple sP
    exact call_len_seq pins s σ H _ us Q I r ⟨a, ws, rfl, .inr (SqT.up sP h1), by rw [o1.len]; exact g.pl sP (.int _)⟩
  case str z =>
    obtain ⟨hz, rfl⟩ := e
    cases o.str'
    exact call_len_str pins s σ H _ us Q I r ⟨z, rfl, hz, g.pl sP (.int _)⟩
theorem cb_tuple : CallR X (.type "tuple") (rBi X.K .tuple) := by
  intro pins s σ H vs us Q I r h
  obtain ⟨P, xs, d, sP, o, e, g⟩ := h
  obtain ⟨x, rfl⟩ := bi1 e (by intro z; cases z) (by intro z; cases z)
  replace o := opds1 o
  obtain ⟨v, rfl, o⟩ := o
  cases x <;> simp only [bi, reduceCtorEq, Option.some.injEq] at e
  case list ys =>
    subst e
    obtain ⟨a, ws, rfl, h1, o1⟩ := o.list sP
    exact call_tuple_of pins s σ H _ us Q I r ⟨a, ws, rfl, .inl ⟨h1, fun p np => g.tup sP o1 np⟩⟩
  case tuple ys =>
    subst e
    obtain ⟨a, ws, rfl, h1, o1⟩ := o.tuple sP
    exact call_tuple_of pins s σ H _ us Q I r ⟨a, ws, rfl, .inr ⟨SqT.up sP h1, g.pl sP (.tup h1 o1)⟩⟩
theorem cb_list : CallR X (.type "list") (rBi X.K .list) := by
  intro pins s σ H vs us Q I r h
  obtain ⟨P, xs, d, sP, o, e, g⟩ := h
  obtain ⟨x, rfl⟩ := bi1 e (by intro z; cases z) (by intro z; cases z)
  replace o := opds1 o
  obtain ⟨v, rfl, o⟩ := o
  cases x <;> simp only [bi, reduceCtorEq, Option.some.injEq] at e
  case list ys =>
    subst e
    obtain ⟨a, ws, rfl, h1, o1⟩ := o.list sP
    exact call_list_of pins s σ H _ us Q I r ⟨a, ws, rfl, .inl h1, fun p np => g.lst sP o1 np⟩
  case tuple ys =>
    subst e
    obtain ⟨a, ws, rfl, h1, o1⟩ := o.tuple sP
    exact call_list_of pins s σ H _ us Q I r ⟨a, ws, rfl, .inr (SqT.up sP h1), fun p np => g.lst sP o1 np⟩
theorem cb_int : CallR X (.type "int") (rBi X.K .int) := by
  intro pins s σ H vs us Q I r h
  obtain ⟨P, xs, d, sP, o, e, g⟩ := h
  obtain ⟨x, rfl⟩ := bi1 e (by intro z; cases z) (by intro z; cases z)
  replace o := opds1 o
  obtain ⟨v, rfl, o⟩ := o
  cases x <;> simp only [bi, reduceCtorEq, Option.some.injEq] at e
  case int i => subst e; cases o.int'; exact call_int1 pins s σ H _ us Q I r (.inl ⟨i, rfl, g.pl sP (.int _)⟩)
  case bool i => subst e; cases o.bl'; exact call_int1 pins s σ H _ us Q I r (.inr ⟨i, rfl, g.pl sP (.int _)⟩)
theorem cb_abs : CallR X (.builtin "abs") (rBi X.K .abs) := by
  intro pins s σ H vs us Q I r h
  obtain ⟨P, xs, d, sP, o, e, g⟩ := h
  obtain ⟨x, rfl⟩ := bi1 e (by intro z; cases z) (by intro z; cases z)
  replace o := opds1 o
  obtain ⟨v, rfl, o⟩ := o
  cases x <;> simp only [bi, reduceCtorEq, Option.some.injEq] at e
  case int i => subst e; cases o.int'; exact call_abs pins s σ H _ us Q I r ⟨i, rfl, g.pl sP (.int _)⟩
theorem cb_min2 (hc : X.calm = true) : CallR X (.builtin "min") (rBi X.K .min2) := by
  intro pins s σ H vs us Q I r h
  obtain ⟨P, xs, d, sP, o, e, g⟩ := h
  match xs, e with
  | [.int i, .int j], e =>
    simp only [bi, Option.some.injEq] at e
    subst e
    obtain ⟨v, w, rfl, o1, o2⟩ := opds2 o
    cases o1.int'; cases o2.int'
    exact call_min2 hc pins s σ H _ us Q I r ⟨i, j, rfl, g.pl sP (.int _)⟩
theorem cb_max2 (hc : X.calm = true) : CallR X (.builtin "max") (rBi X.K .max2) := by
  intro pins s σ H vs us Q I r h
  obtain ⟨P, xs, d, sP, o, e, g⟩ := h
  match xs, e with
  | [.int i, .int j], e =>
    simp only [bi, Option.some.injEq] at e
    subst e
    obtain ⟨v, w, rfl, o1, o2⟩ := opds2 o
    cases o1.int'; cases o2.int'
    exact call_max2 hc pins s σ H _ us Q I r ⟨i, j, rfl, g.pl sP (.int _)⟩
theorem ints_dp {K : PySem.W.Frag} {P : Hp} : ∀ {xs : List PyData} {vs : List V} {ns : List Int}, DpAll K P vs xs → intsOf xs = some ns → vs = ns.map V.int
  | [], _, _, h, e => by cases h; simp [intsOf] at e; subst e; rfl
  | x :: xs, _, ns, h, e => by
    cases h with
    | cons h1 h2 =>
      cases x <;> simp only [intsOf, reduceCtorEq, Option.map_eq_some_iff] at e
      obtain ⟨ms, e, rfl⟩ := e
      cases h1
      rw [ints_dp h2 e]; rfl
theorem bools_dp {K : PySem.W.Frag} {P : Hp} : ∀ {xs : List PyData} {vs : List V} {ns : List Bool}, DpAll K P vs xs → boolsOf xs = some ns → vs = ns.map V.bl
  | [], _, _, h, e => by cases h; simp [boolsOf] at e; subst e; rfl
  | x :: xs, _, ns, h, e => by
    cases h with
    | cons h1 h2 =>
      cases x <;> simp only [boolsOf, reduceCtorEq, Option.map_eq_some_iff] at e
      obtain ⟨ms, e, rfl⟩ := e
      cases h1
      rw [bools_dp h2 e]; rfl
theorem cb_sum (hc : X.calm = true) : CallR X (.builtin "sum") (rBi X.K .sum) := by
  intro pins s σ H vs us Q I r h
  obtain ⟨P, xs, d, sP, o, e, g⟩ := h
  obtain ⟨x, rfl⟩ := bi1 e (by intro z; cases z) (by intro z; cases z)
  replace o := opds1 o
  obtain ⟨v, rfl, o⟩ := o
  cases x <;> simp only [bi, reduceCtorEq, Option.map_eq_some_iff] at e
  obtain ⟨ns, e, rfl⟩ := e
  obtain ⟨a, ws, rfl, h1, o1⟩ := o.list sP
  rw [ints_dp o1 e] at h1
  exact cr_sum hc pins s σ H _ us Q I r ⟨a, ns, rfl, h1, g.pl sP (.int _)⟩
theorem cb_max1 (hc : X.calm = true) : CallR X (.builtin "max") (rBi X.K .max1) := by
  intro pins s σ H vs us Q I r h
  obtain ⟨P, xs, d, sP, o, e, g⟩ := h
  obtain ⟨x, rfl⟩ := bi1 e (by intro z; cases z) (by intro z; cases z)
  replace o := opds1 o
  obtain ⟨v, rfl, o⟩ := o
  cases x <;> simp only [bi, reduceCtorEq, Option.bind_eq_some_iff, Option.map_eq_some_iff] at e
  obtain ⟨ns, e, m, em, rfl⟩ := e
  obtain ⟨a, ws, rfl, h1, o1⟩ := o.list sP
  rw [ints_dp o1 e] at h1
  obtain ⟨m1, m2⟩ := maxI_ok em
  have hp : 0 < ns.length := List.length_pos_of_mem m1
  refine cr_max hc pins s σ H _ us Q I r ⟨a, ns, rfl, h1, hp, fun m' h1' h2' => ?_⟩
  have q1 := m2 m' h1'
  have q2 := h2' m m1
  have q3 : m' = m := by omega
  subst q3
  exact g.pl sP (.int _)
theorem cb_all (hc : X.calm = true) : CallR X (.builtin "all") (rBi X.K .all) := by
  intro pins s σ H vs us Q I r h
  obtain ⟨P, xs, d, sP, o, e, g⟩ := h
  obtain ⟨x, rfl⟩ := bi1 e (by intro z; cases z) (by intro z; cases z)
  replace o := opds1 o
  obtain ⟨v, rfl, o⟩ := o
  cases x <;> simp only [bi, reduceCtorEq, Option.map_eq_some_iff] at e
  obtain ⟨ns, e, rfl⟩ := e
  obtain ⟨a, ws, rfl, h1, o1⟩ := o.list sP
  rw [bools_dp o1 e] at h1
  exact cr_all hc pins s σ H _ us Q I r ⟨a, ns, rfl, h1, g.pl sP (.bl _)⟩
theorem cb_any (hc : X.calm = true) : CallR X (.builtin "any") (rBi X.K .any) := by
  intro pins s σ H vs us Q I r h
  obtain ⟨P, xs, d, sP, o, e, g⟩ := h
  obtain ⟨x, rfl⟩ := bi1 e (by intro z; cases z) (by intro z; cases z)
  replace o := opds1 o
  obtain ⟨v, rfl, o⟩ := o
  cases x <;> simp only [bi, reduceCtorEq, Option.map_eq_some_iff] at e
  obtain ⟨ns, e, rfl⟩ := e
  obtain ⟨a, ws, rfl, h1, o1⟩ := o.list sP
  rw [bools_dp o1 e] at h1
  exact cr_any hc pins s σ H _ us Q I r ⟨a, ns, rfl, h1, g.pl sP (.bl _)⟩
theorem cb_repr (hg : X.A.guards = some []) (hu : X.A.units + 100 < cLine) : CallR X (.builtin "repr") (rBi X.K .repr) := by
  intro pins s σ H vs us Q I r h
  obtain ⟨P, xs, d, sP, o, e, g⟩ := h
  obtain ⟨x, rfl⟩ := bi1 e (by intro z; cases z) (by intro z; cases z)
  replace o := opds1 o
  obtain ⟨v, rfl, o⟩ := o
  simp only [bi, showD, Option.map_eq_some_iff, Option.ite_none_right_eq_some, Option.some.injEq, Bool.and_eq_true, decide_eq_true_eq, Bool.not_eq_true'] at e
  obtain ⟨z, ⟨⟨⟨⟨s1, s2⟩, s3⟩, s4⟩, rfl⟩, rfl⟩ := e
  obtain ⟨u, rfl, rx⟩ := vals1 r
  obtain ⟨as, rd⟩ := Dp.reads I x v u (o.dp sP) rx
  have fin : ∀ h' t tk, (∀ b o, s.heap.get? b = some o → h'.get? b = some o) → EP X pins σ Q (.str x.shown t) { s with heap := h', toks := tk } := fun h' t tk k =>
    ⟨.str _, H, I.kept k, ⟨_, rfl⟩, g.pl sP (.str _)⟩
  cases u with
  | ref a => exact repr_of_reads' rd s1 (fun z => by rw [s2] at z; cases z) hg (by omega) (fun _ _ e => e) fin s4
  | none => cases rd; exact PySem.P.repr_of_none (fin s.heap _ _ fun _ _ e => e)
  | bool b => cases rd; exact PySem.P.repr_of_bool (fin s.heap _ _ fun _ _ e => e)
  | int i t =>
    cases rd
    exact PySem.P.repr_of_int (by simpa [PyData.showable] using s1) (fin s.heap _ _ fun _ _ e => e)
  | str y t =>
    cases rd
    exact PySem.P.repr_of_str (fin s.heap _ _ fun _ _ e => e) (by simpa only [PyData.shown] using s4)
  | _ => cases rd
/-! ### isinstance -/
def tyName : Ty → String
  | .int => "int" | .bool => "bool" | .str => "str" | .tup => "tuple" | .lst => "list"
def kindOf : PyData → String
  | .none => "NoneType" | .bool _ => "bool" | .int _ => "int" | .str _ => "str" | .list _ => "list" | .tuple _ => "tuple" | .dict _ => "dict"
theorem tyx_sq {K : PySem.W.Frag} {H : Hp} {a : Addr} {xs : List V} (h : SqL K H a xs) : TyX K H (.ref a) (.type "list") := by
  rcases h with (h | ⟨o, h⟩) | ⟨o, its, n, h1, h2, _⟩
  · exact .base (.lst h)
  · exact .base (.frz h)
  · exact .kList h1 h2
theorem tyx_st {K : PySem.W.Frag} {H : Hp} {a : Addr} {xs : List V} (h : SqT K H a xs) : TyX K H (.ref a) (.type "tuple") := by
  rcases h with (h | ⟨o, h⟩) | ⟨o, its, n, h1, h2, _⟩
  · exact .base (.tup h)
  · exact .fTuple h
  · exact .kTuple h1 h2
theorem tyx_dp {K : PySem.W.Frag} {H : Hp} {v : V} {x : PyData} (h : Dp K H v x) : TyX K H v (.type (kindOf x)) := by
  cases h with
  | non => exact .base .non
  | bl b => exact .base (.bl b)
  | int i => exact .base (.int i)
  | str x => exact .base (.str x)
  | lst h _ => exact tyx_sq h
  | tup h _ => exact tyx_st h
theorem kit_k (K : PySem.W.Frag) (x : PyData) (t : Ty) : PySem.W.kitOne K (.type (kindOf x)) (.type (tyName t)) = some (isTy t x) := by
  cases x <;> cases t <;> (simp only [kindOf, tyName, isTy]; exact kit_ty (by decide +kernel))
def rIsa (K : PySem.W.Frag) (t : Ty) : List V → Hp → VK → Prop := fun vs H Q => ∃ v w, vs = [v, w] ∧ w = .ty (tyName t) ∧ rBi K (.isa t) [v] H Q
theorem cb_isa (t : Ty) : CallR X (.builtin "isinstance") (rIsa X.K t) := by
  intro pins s σ H vs us Q I r h
  obtain ⟨v, w, rfl, rfl, P, xs, d, sP, o, e, g⟩ := h
  obtain ⟨x, rfl⟩ := bi1 e (by intro z; cases z) (by intro z; cases z)
  obtain ⟨v', e1, o⟩ := opds1 o
  cases e1
  simp only [bi, Option.some.injEq] at e
  subst e
  exact call_isi pins s σ H _ us Q I r ⟨v, .ty (tyName t), _, _, _, rfl, .ty _, tyx_dp (o.dp sP), kit_k X.K x t, g.pl sP (.bl _)⟩
end
end L3

namespace SrtO
open PySem PySem.Spec PyProof.Rows Srt
section
variable {prog : Program} {w : World} {A : Around} {E : Value → Shared → Prop} {s : Shared}
theorem collect_tup {l : Addr} {vs : List Value} {Q : List Value → Shared → Prop} {o : Obj} {n : Nat} (ho : s.heap.get? l = some o) (hc : o.cls = .type "tuple") (hd : o.data = .seq vs.toArray n)
    (h : Q vs { s with heap := (s.heap.push (seqObj "list" #[] 0)).update s.heap.objs.size (Obj.mapSeq (· ++ vs.toArray)) }) (hsz : vs.length ≤ sizeLine) :
    wpAny (model prog w) A (collect (.ref l)) Q E s := by
  unfold collect
  refine wpAny_bind (wpAny_runValue (codeAny_builtin entry_proto_collect' ?_))
  show wpAny _ _ (do again (.builtin "list.__iadd__" ⟨[← newList [], .ref l], []⟩)) _ _ s
  refine wpAny_bind (wpAny_newList (wpAny_pure ⟨Code.quiet_builtin _ (by decide +kernel), codeAny_builtin entry_list_iadd' ?_⟩))
  show wpAny _ _ (Builtin.List.listExtendWith (.ref s.heap.objs.size) (.ref l) (.ref s.heap.objs.size)) _ _ { s with heap := s.heap.push (seqObj "list" #[] 0) }
  unfold Builtin.List.listExtendWith
  have ho' : (s.heap.push (seqObj "list" #[] 0)).get? l = some o := Heap.get?_push_of_some _ ho
  refine wpAny_bind (wpAny_typeOf (T := "tuple") ⟨o, ho', hc⟩ ?_)
  have ht : (Value.type "tuple" == Value.type "tuple") = true := by rfl
  rw [if_pos (by rw [ht]; simp)]
  refine wpAny_bind (listItems_at ho' hd ?_)
  refine wpAny_bind (listItems_at (xs := #[]) (n := 0) (Heap.get?_push_size _ rfl) rfl ?_)
  rw [if_neg (by simp)]
  refine wpAny_bind (listUpdate_at (xs := #[]) (n := 0) (Heap.get?_push_size _ rfl) rfl ?_ (Nat.zero_le _) (by show (#[] ++ vs.toArray).size ≤ sizeLine + 1; simp only [Array.size_append, List.size_toArray, List.length_nil]; omega))
  refine wpAny_pure ?_
  show wpAny (model prog w) A (do
      let o ← load s.heap.objs.size
      match o.data with
      | .seq xs _ => pure xs.toList
      | _ => unsupported "internal:collect") Q E { s with heap := (s.heap.push (seqObj "list" #[] 0)).update s.heap.objs.size (Obj.mapSeq (· ++ vs.toArray)) }
  refine wpAny_bind (wpAny_load (get?_update_seq (Heap.get?_push_size _ rfl) _) ?_)
  show wpAny _ _ (pure ((#[] : Array Value) ++ vs.toArray).toList) Q E _
  rw [show ((#[] : Array Value) ++ vs.toArray).toList = vs by simp]
  exact wpAny_pure h
/-- sorted of a tuple -/
theorem sorted_tup {l : Addr} {o : Obj} {n : Nat} {vs : List Value} {ltv : Value → Value → Bool} {Q : Value → Shared → Prop} (ho : s.heap.get? l = some o) (hc : o.cls = .type "tuple") (hd : o.data = .seq vs.toArray n) (O : Swo ltv) (hz : vs.length ≤ sizeLine)
    (hS : 2 ≤ vs.length → ∀ (h₁ : Heap) (a : Addr), h₁.get? a = some (seqObj "list" vs.toArray 0) → (∀ b o, s.heap.get? b = some o → b ≠ a ∧ h₁.get? b = some o) → SortableO prog w A.in1.in1 { s with heap := h₁ } a vs ltv)
    (h : ∀ out : List Value, Srtd ltv out → Stb ltv out vs → Q (.ref (s.heap.objs.size + 1)) { s with heap := sortedAll s.heap vs out.toArray }) :
    wpAny (model prog w) A (call (.builtin "sorted") [.ref l]) Q E s := by
  refine Calls.call_function_entry kind_sorted plain_sorted entry_sorted (args_sorted1 _) ?_
  unfold Builtin.«sorted»
  refine wpAny_bind (m := checkCount "sorted" 1 1 _) (wpAny_pure ?_)
  refine wpAny_bind (collect_tup ho hc hd ?_ hz)
  refine wpAny_bind (wpAny_newList ?_ hz)
  have hsz : ((s.heap.push (seqObj "list" #[] 0)).update s.heap.objs.size (Obj.mapSeq (· ++ vs.toArray))).objs.size = s.heap.objs.size + 1 := by
    rw [Heap.size_update, size_push']
  have hoL : (((s.heap.push (seqObj "list" #[] 0)).update s.heap.objs.size (Obj.mapSeq (· ++ vs.toArray))).push (seqObj "list" vs.toArray 0)).get? (s.heap.objs.size + 1) = some (seqObj "list" vs.toArray 0) := by
    rw [← hsz]; exact Heap.get?_push_size _ rfl
  have keep : ∀ b o, s.heap.get? b = some o → b ≠ s.heap.objs.size + 1 ∧ (((s.heap.push (seqObj "list" #[] 0)).update s.heap.objs.size (Obj.mapSeq (· ++ vs.toArray))).push (seqObj "list" vs.toArray 0)).get? b = some o := fun b o q => by
    have hlt : b < s.heap.objs.size := Heap.lt_size q
    refine ⟨Nat.ne_of_lt (Nat.lt_succ_of_lt hlt), Heap.get?_push_of_some _ ?_⟩
    rw [Heap.get?_update_ne _ _ _ _ (Nat.ne_of_lt hlt)]
    exact Heap.get?_push_of_some _ q
  show wpAny _ _ _ _ _ { s with heap := ((s.heap.push (seqObj "list" #[] 0)).update s.heap.objs.size (Obj.mapSeq (· ++ vs.toArray))).push (seqObj "list" vs.toArray 0) }
  rw [hsz]
  refine wpAny_bind (wpAny_holding (wpAny_call_entry slot_list_sort ⟨_, hoL, rfl⟩ entry_list_sort (list_sort_ord O hoL hz (fun h2 => hS h2 _ _ hoL keep) fun out hs hb => ⟨_, rfl, ?_⟩) (args_list_sort _)))
  exact wpAny_pure ⟨_, rfl, h out hs hb⟩
end
end SrtO
namespace L3
open PySem PySem.Spec PyProof.Rows L2
theorem perm_le_eq : ∀ {xs ys : List Int}, xs.Perm ys → xs.Pairwise (· ≤ ·) → ys.Pairwise (· ≤ ·) → xs = ys
  | [], ys, h, _, _ => by simpa using h.symm.eq_nil
  | x :: xs, [], h, _, _ => by have := h.length_eq; simp at this
  | x :: xs, y :: ys, h, hx, hy => by
    rw [List.pairwise_cons] at hx hy
    have e : x = y := by
      have h1 : x ∈ y :: ys := h.mem_iff.mp (by simp)
      have h2 : y ∈ x :: xs := h.mem_iff.mpr (by simp)
      rcases List.mem_cons.mp h1 with h1 | h1
      · exact h1
      · rcases List.mem_cons.mp h2 with h2 | h2
        · exact h2.symm
        · exact Int.le_antisymm (hx.1 _ h2) (hy.1 _ h1)
    subst e
    rw [perm_le_eq ((List.perm_cons x).mp h) hx.2 hy.2]
theorem isort_ins_perm (x : Int) : ∀ xs : List Int, (insI x xs).Perm (x :: xs)
  | [] => .refl _
  | y :: ys => by
    rw [insI]
    split
    · exact .refl _
    · exact ((isort_ins_perm x ys).cons y).trans (.swap x y ys)
theorem isort_perm : ∀ xs : List Int, (isort xs).Perm xs
  | [] => .refl _
  | x :: xs => (isort_ins_perm x _).trans ((isort_perm xs).cons x)
theorem ins_sorted (x : Int) : ∀ {xs : List Int}, xs.Pairwise (· ≤ ·) → (insI x xs).Pairwise (· ≤ ·)
  | [], _ => by simp [insI]
  | y :: ys, h => by
    rw [List.pairwise_cons] at h
    rw [insI]
    split
    · rename_i c
      rw [List.pairwise_cons]
      refine ⟨fun z hz => ?_, List.pairwise_cons.mpr h⟩
      rcases List.mem_cons.mp hz with hz | hz
      · subst hz; exact c
      · exact Int.le_trans c (h.1 z hz)
    · rename_i c
      rw [List.pairwise_cons]
      refine ⟨fun z hz => ?_, ins_sorted x h.2⟩
      rcases List.mem_cons.mp ((isort_ins_perm x ys).mem_iff.mp hz) with hz | hz
      · subst hz; omega
      · exact h.1 z hz
theorem isort_sorted : ∀ xs : List Int, (isort xs).Pairwise (· ≤ ·)
  | [] => .nil
  | x :: xs => ins_sorted x (isort_sorted xs)
section
variable {X : Cx}
theorem ints_all {K : PySem.W.Frag} {P : Hp} : ∀ ns : List Int, DpAll K P (ns.map V.int) (ns.map PyData.int)
  | [] => .nil
  | n :: ns => .cons (.int n) (ints_all ns)
/-! pairs of ints -/
theorem leP_iff {p q : Int × Int} : leP p q = true ↔ p.1 < q.1 ∨ (p.1 = q.1 ∧ p.2 ≤ q.2) := by simp [leP]
theorem leP_anti {p q : Int × Int} (a : leP p q = true) (b : leP q p = true) : p = q := by
  rw [leP_iff] at a b
  exact Prod.ext (by omega) (by omega)
theorem leP_trans {p q r : Int × Int} (a : leP p q = true) (b : leP q r = true) : leP p r = true := by
  rw [leP_iff] at *; omega
theorem leP_total {p q : Int × Int} (a : ¬ leP p q = true) : leP q p = true := by
  rw [leP_iff] at *; omega
theorem insP_perm (x : Int × Int) : ∀ xs : List (Int × Int), (insP x xs).Perm (x :: xs)
  | [] => .refl _
  | y :: ys => by
    rw [insP]
    split
    · exact .refl _
    · exact ((insP_perm x ys).cons y).trans (.swap x y ys)
theorem psort_perm : ∀ xs : List (Int × Int), (psort xs).Perm xs
  | [] => .refl _
  | x :: xs => (insP_perm x _).trans ((psort_perm xs).cons x)
theorem insP_sorted (x : Int × Int) : ∀ {xs : List (Int × Int)}, xs.Pairwise (fun p q => leP p q = true) → (insP x xs).Pairwise (fun p q => leP p q = true)
  | [], _ => by simp [insP]
  | y :: ys, h => by
    rw [List.pairwise_cons] at h
    rw [insP]
    split
    · rename_i c
      rw [List.pairwise_cons]
      refine ⟨fun z hz => ?_, List.pairwise_cons.mpr h⟩
      rcases List.mem_cons.mp hz with hz | hz
      · subst hz; exact c
      · exact leP_trans c (h.1 z hz)
    · rename_i c
      rw [List.pairwise_cons]
      refine ⟨fun z hz => ?_, insP_sorted x h.2⟩
      rcases List.mem_cons.mp ((insP_perm x ys).mem_iff.mp hz) with hz | hz
      · subst hz; exact leP_total c
      · exact h.1 z hz
theorem psort_sorted : ∀ xs : List (Int × Int), (psort xs).Pairwise (fun p q => leP p q = true)
  | [] => .nil
  | x :: xs => insP_sorted x (psort_sorted xs)
theorem perm_leP_eq : ∀ {xs ys : List (Int × Int)}, xs.Perm ys → xs.Pairwise (fun p q => leP p q = true) → ys.Pairwise (fun p q => leP p q = true) → xs = ys
  | [], ys, h, _, _ => by simpa using h.symm.eq_nil
  | x :: xs, [], h, _, _ => by have := h.length_eq; simp at this
  | x :: xs, y :: ys, h, hx, hy => by
    rw [List.pairwise_cons] at hx hy
    have e : x = y := by
      have h1 : x ∈ y :: ys := h.mem_iff.mp (by simp)
      have h2 : y ∈ x :: xs := h.mem_iff.mpr (by simp)
      rcases List.mem_cons.mp h1 with h1 | h1
      · exact h1
      · rcases List.mem_cons.mp h2 with h2 | h2
        · exact h2.symm
        · exact leP_anti (hx.1 _ h2) (hy.1 _ h1)
    subst e
    rw [perm_leP_eq ((List.perm_cons x).mp h) hx.2 hy.2]
open Classical in
/-- the two ints of the pair that a value is -/
noncomputable def twoOf (h : Heap) (v : Value) : Int × Int := if q : ∃ p : Int × Int, Srt.IsPair h v p.1 p.2 then Classical.choose q else (0, 0)
theorem two_uniq {h : Heap} {v : Value} {i j k l : Int} (a : Srt.IsPair h v i j) (b : Srt.IsPair h v k l) : (i, j) = (k, l) := by
  obtain ⟨t, o, t1, t2, n, rfl, a1, a2, a3⟩ := a
  obtain ⟨t', o', t1', t2', n', e, b1, b2, b3⟩ := b
  cases e
  rw [a1] at b1; cases b1
  rw [a3] at b3
  injection b3 with e1 e2
  simp at e1
  simp [e1.1.1, e1.2.1]
theorem two_eq {h : Heap} {v : Value} {p : Int × Int} (a : Srt.IsPair h v p.1 p.2) : twoOf h v = p := by
  have q : ∃ p : Int × Int, Srt.IsPair h v p.1 p.2 := ⟨p, a⟩
  unfold twoOf
  rw [dif_pos q]
  exact two_uniq (Classical.choose_spec q) a
theorem pair_dp {pins : List (Addr × Obj)} {σ : L2.St} {H P : Hp} {s : Shared} {w : V} {u : Value} {p : Int × Int} (I : Inv X pins σ H s) (sP : Sub P H) (d : Dp X.K P w (prD p)) (r : RelV w u) : Srt.IsPair s.heap u p.1 p.2 ∧ ∃ a, u = .ref a ∧ w = .ref a := by
  cases d with
  | tup h1 h2 =>
    cases h2 with
    | cons a1 h2 =>
      cases h2 with
      | cons a2 h2 =>
        cases h2
        cases a1
        cases a2
        cases r
        obtain ⟨its, rv, ⟨o, ho, hc, n, hd⟩, _⟩ := I.tuple (SqT.up sP h1)
        obtain ⟨u1, u2, rfl, ri, rj⟩ := vals2 rv
        obtain ⟨t1, rfl⟩ := ri
        obtain ⟨t2, rfl⟩ := rj
        exact ⟨⟨_, o, t1, t2, n, rfl, ho, hc, hd⟩, _, rfl, rfl⟩
theorem pairs_dp {pins : List (Addr × Obj)} {σ : L2.St} {H P : Hp} {s : Shared} (I : Inv X pins σ H s) (sP : Sub P H) : ∀ {xs : List PyData} {ws : List V} {its : List Value} {ps : List (Int × Int)}, DpAll X.K P ws xs → prsOf xs = some ps → Vals ws its →
    its.map (twoOf s.heap) = ps ∧ ∀ v ∈ its, Srt.IsPair s.heap v (twoOf s.heap v).1 (twoOf s.heap v).2 ∧ (∃ a, v = .ref a) ∧ Dp X.K P (backV v) (prD (twoOf s.heap v))
  | [], _, _, _, .nil, e, .nil => by simp [prsOf] at e; subst e; simp
  | x :: xs, w :: ws, u :: its, ps, .cons d1 d2, e, .cons r1 r2 => by
    unfold prsOf at e
    split at e
    · rename_i e0; cases e0
    · rename_i i j r e0
      cases e0
      rw [Option.map_eq_some_iff] at e
      obtain ⟨qs, e, rfl⟩ := e
      obtain ⟨h1, h2⟩ := pairs_dp I sP d2 e r2
      obtain ⟨p1, a, rfl, rfl⟩ := pair_dp (p := (i, j)) I sP d1 r1
      have e2 := two_eq p1
      refine ⟨by rw [List.map_cons, h1, e2], fun v hv => ?_⟩
      rcases List.mem_cons.mp hv with hv | hv
      · subst hv
        rw [e2]
        exact ⟨p1, ⟨a, rfl⟩, d1⟩
      · exact h2 v hv
    · cases e
theorem dp_of_all {K : PySem.W.Frag} {P : Hp} {f : Value → PyData} : ∀ {us : List Value}, (∀ u ∈ us, Dp K P (backV u) (f u)) → DpAll K P (us.map backV) (us.map f)
  | [], _ => .nil
  | u :: us, h => .cons (h u (by simp)) (dp_of_all fun v hv => h v (List.mem_cons_of_mem _ hv))
theorem cb_sorted : CallR X (.builtin "sorted") (rBi X.K .sorted) := by
  intro pins s σ H vs us Q I r h
  obtain ⟨P, xs, d, sP, o, e, g⟩ := h
  obtain ⟨x, rfl⟩ := bi1 e (by intro z; cases z) (by intro z; cases z)
  obtain ⟨v, rfl, ox⟩ := opds1 o
  simp only [bi, Option.bind_eq_some_iff] at e
  obtain ⟨ys, ey, e⟩ := e
  cases en : intsOf ys with
  | none =>
    simp only [en, Option.map_none, Option.none_or, Option.map_eq_some_iff] at e
    obtain ⟨ps, ep, rfl⟩ := e
    cases x <;> simp only [pairsOf, reduceCtorEq] at ep
    rename_i zs
    obtain ⟨a, ws, rfl, h1, o1⟩ := ox.list sP
    obtain ⟨its, rv, hl, hz⟩ := I.list h1
    rw [Vals.ref1 r]
    obtain ⟨q1, q2⟩ := pairs_dp I sP o1 ep rv
    refine SrtO.sorted_pairsO (k := twoOf s.heap) hl.isList (by rw [← rv.length]; exact hz) (fun v hv => (q2 v hv).1) fun h' b out h1 h2 kp hd ⟨n, hn⟩ => ?_
    have pm := h2.perm
    have eq : out.map (twoOf s.heap) = psort ps := by
      refine perm_leP_eq ?_ ?_ (psort_sorted ps)
      · rw [← q1]
        exact (pm.map _).trans (psort_perm _).symm
      · rw [List.pairwise_map]
        refine List.Pairwise.imp (fun {u v} z => ?_) h1
        have z := SrtO.lexB_no.mp z
        rw [leP_iff]
        omega
    have dd : DpAll X.K P (out.map backV) ((psort ps).map prD) := by
      rw [← eq, List.map_map]
      exact dp_of_all fun u hu => (q2 u (pm.mem_iff.mp hu)).2.2
    have hlen : (out.map backV).length ≤ sizeLine := by
      rw [List.length_map, pm.length_eq, ← rv.length]; exact hz
    have np : H b = none := I.hok.fresh hd
    exact ⟨.ref b, upd H b (.lst (out.map backV)), I.laid (t' := s.toks) kp hd ⟨hlen, out, n, vals_back fun u hu => (q2 u (pm.mem_iff.mp hu)).2.1, hn⟩, rfl, g.lst sP dd np⟩
  | some ns =>
  simp only [en, Option.map_some, Option.some_or, Option.some.injEq] at e
  subst e
  have fin : ∀ {vs0 : List Value} {out : List Value}, IntsAre vs0 ns → vs0.length ≤ sizeLine → SrtO.Srtd SrtO.ltIv out → SrtO.Stb SrtO.ltIv out vs0 → EP X pins σ Q (.ref (s.heap.objs.size + 1)) { s with heap := sortedAll s.heap vs0 out.toArray } := fun {vs0 out} hi hz h1 h2 => by
    obtain ⟨k1, k2, k3⟩ := SrtO.ints_out hi h1 h2
    obtain ⟨ep, he'⟩ := PyProof.Rows.sortedAll_at s.heap vs0 out.toArray
    have eq : out.map SrtO.iv = isort ns := perm_le_eq (k2.trans (isort_perm ns).symm) k3 (isort_sorted ns)
    rw [eq] at k1
    have hlen : ((isort ns).map V.int).length ≤ sizeLine := by
      rw [List.length_map, (isort_perm ns).length_eq, ← hi.length]; exact hz
    have np : H (s.heap.objs.size + 1) = none := I.hok.fresh (Nat.le_succ _)
    exact ⟨.ref _, upd H (s.heap.objs.size + 1) (.lst ((isort ns).map V.int)), I.laid (t' := s.toks) (fun _ _ => PyProof.Rows.sortedAll_old) (Nat.le_succ _) ⟨hlen, out, ep, vals_of_ints k1, he'⟩, rfl, g.lst sP (ints_all _) np⟩
  cases x <;> simp only [items, reduceCtorEq, Option.some.injEq] at ey
  case list zs =>
    subst ey
    obtain ⟨a, ws, rfl, h1, o1⟩ := ox.list sP
    rw [ints_dp o1 en] at h1
    obtain ⟨its, rv, hl, hz⟩ := I.list h1
    rw [Vals.ref1 r]
    have hi := rv.ints
    have hz' : its.length ≤ sizeLine := by rw [← rv.length]; exact hz
    exact SrtO.sorted_ord SrtO.swo_int hl.isList hz' (fun h2 h₁ a' _ _ => SrtO.ints_sortable hi h2) fun out h1 h2 => fin hi hz' h1 h2
  case tuple zs =>
    subst ey
    obtain ⟨a, ws, rfl, h1, o1⟩ := ox.tuple sP
    rw [ints_dp o1 en] at h1
    obtain ⟨its, rv, hl, hz⟩ := I.tuple (SqT.up sP h1)
    rw [Vals.ref1 r]
    have hi := rv.ints
    have hz' : its.length ≤ sizeLine := by rw [← rv.length]; exact hz
    obtain ⟨ob, ho, hc, n, hd⟩ := id hl
    exact SrtO.sorted_tup ho hc hd SrtO.swo_int hz' (fun h2 h₁ a' _ _ => SrtO.ints_sortable hi h2) fun out h1 h2 => fin hi hz' h1 h2
/-! list(range(n)) -/
theorem cr_range1 : CallR X (.type "range") (fun vs H Q => ∃ j, vs = [V.int j] ∧ ∀ p, H p = none → Q (.ref p) (upd H p (.rng 0 j))) := by
  intro pins s σ H vs us Q I r h
  obtain ⟨j, rfl, q⟩ := h
  obtain ⟨u, rfl, t, rfl⟩ := vals1 r
  refine call_range_1 ⟨.ref s.heap.objs.size, upd H s.heap.objs.size (.rng 0 j), I.laid (t' := s.toks + 1 + 1) (fun b o e => Heap.get?_push_of_some _ e) (Nat.le_refl _) ?_, rfl, q _ (I.hok.fresh (Nat.le_refl _))⟩
  exact ⟨s.toks, t, s.toks + 1, Heap.get?_push_size _ rfl⟩
theorem items_rng {acc : Array Value} {n : Nat} (h : ItemsOf (fun i v => ∃ t, v = .int ((0 : Int) + i * 1) t) acc n) : Vals ((List.range n).map fun (i : Nat) => V.int (i : Int)) acc.toList := by
  obtain ⟨hs, hi⟩ := h
  have : ∀ (k : Nat) (l : List Value) (b : Nat), l.length = k → (∀ i, i < k → ∃ t, l[i]? = some (.int ((b + i : Nat) : Int) t)) → Vals ((List.range' b k).map fun (i : Nat) => V.int (i : Int)) l := by
    intro k
    induction k with
    | zero =>
      intro l b hl _
      rw [List.length_eq_zero_iff.mp hl]
      exact .nil
    | succ k ih =>
      intro l b hl h
      match l, hl with
      | v :: l, hl =>
        rw [List.range'_succ, List.map_cons]
        obtain ⟨t, e⟩ := h 0 (by omega)
        simp at e
        subst e
        refine .cons ⟨t, rfl⟩ (ih l (b + 1) (by simpa using hl) fun i hi => ?_)
        obtain ⟨t, e⟩ := h (i + 1) (by omega)
        refine ⟨t, ?_⟩
        rw [show b + 1 + i = b + (i + 1) by omega]
        simpa using e
  rw [List.range_eq_range']
  refine this n acc.toList 0 (by simpa using hs) fun i hl => ?_
  have hl' : i < acc.size := by omega
  obtain ⟨t, z⟩ := hi i acc[i] (by simp [hl'])
  refine ⟨t, ?_⟩
  have e : (0 : Int) + (i : Int) * 1 = ((0 + i : Nat) : Int) := by omega
  rw [← e, ← z]
  simp [hl']
theorem cr_list_rng (hc : X.calm = true) : CallR X (.type "list") (fun vs H Q => ∃ r j, vs = [V.ref r] ∧ H r = some (.rng 0 j) ∧ -(2 ^ 62) ≤ j ∧ j ≤ 16777216 ∧ ∀ p, H p = none → Q (.ref p) (upd H p (.lst ((List.range j.toNat).map fun (i : Nat) => V.int (i : Int))))) := by
  intro pins s σ H vs us Q I r h
  obtain ⟨a, j, rfl, ha, j0, j1, q⟩ := h
  rw [Vals.ref1 r]
  obtain ⟨t1, t2, t3, ho⟩ := I.hok a _ ha
  have sz : Builtin.Range.rangeSize 0 j 1 = j.toNat := by
    unfold Builtin.Range.rangeSize
    rw [if_pos (by decide)]
    split <;> omega
  have sm : Builtin.Range.small 0 j 1 = true := by
    unfold Builtin.Range.small
    rw [sz]
    have fit : ∀ i : Int, -(2 ^ 62) ≤ i → i ≤ 16777216 → Builtin.Range.rangeFitsLong i = true := fun i h1 h2 => by
      simp [Builtin.Range.rangeFitsLong]
      omega
    simp [fit 0 (by decide) (by decide), fit 1 (by decide) (by decide), fit j j0 j1]
    exact fit _ (by omega) (by omega)
  refine call_list_range (I.ok.hd hc) (a := 0) (b := j) (c := 1) ho sm sz (by omega) fun h' tk acc c kp e it => ?_
  have iv := items_rng it
  refine ⟨.ref _, upd H s.heap.objs.size (.lst ((List.range j.toNat).map fun (i : Nat) => V.int (i : Int))), I.laid (t' := tk) kp (Nat.le_refl _) ⟨?_, acc.toList, c, iv, ?_⟩, rfl, q _ (I.hok.fresh (Nat.le_refl _))⟩
  · rw [List.length_map, List.length_range, sizeLine_eq]; omega
  · simpa using e
theorem rng_dp {K : PySem.W.Frag} {P : Hp} (n : Nat) : DpAll K P ((List.range n).map fun (i : Nat) => V.int (i : Int)) (rangeD 0 n 1) := by
  unfold rangeD
  have : ∀ l : List Nat, DpAll K P (l.map fun (i : Nat) => V.int (i : Int)) (l.map fun (i : Nat) => PyData.int (0 + (i : Int) * 1)) := by
    intro l
    induction l with
    | nil => exact .nil
    | cons x l ih =>
      have e : (0 : Int) + (x : Int) * 1 = x := by omega
      rw [List.map_cons, List.map_cons, e]
      exact .cons (.int _) ih
  exact this _
theorem lrange_comp {vs : List V} {H : Hp} {Q : VK} (h : rBi X.K .lrange vs H Q) : (∃ j, vs = [V.int j] ∧ ∀ p, H p = none → (fun v H1 => ∃ r j, [v] = [V.ref r] ∧ H1 r = some (.rng 0 j) ∧ -(2 ^ 62) ≤ j ∧ j ≤ 16777216 ∧ ∀ p, H1 p = none → Q (.ref p) (upd H1 p (.lst ((List.range j.toNat).map fun (i : Nat) => V.int (i : Int))))) (.ref p) (upd H p (.rng 0 j))) := by
  obtain ⟨P, xs, d, sP, o, e, g⟩ := h
  match xs, e with
  | [.int j], e =>
    simp only [bi, Option.ite_none_right_eq_some, Option.some.injEq, Bool.and_eq_true, decide_eq_true_eq] at e
    obtain ⟨⟨sm, hj⟩, rfl⟩ := e
    obtain ⟨v, rfl, ov⟩ := opds1 o
    cases ov.int'
    have j0 : -(2 ^ 62) ≤ j := by simp [small62] at sm; omega
    refine ⟨j, rfl, fun p np => ⟨p, j, rfl, upd_same, j0, hj, fun p2 np2 => ?_⟩⟩
    have n1 := New.idle (o := .rng 0 j) sP np
    have n2 := New.own1 (o := .lst ((List.range j.toNat).map fun (i : Nat) => V.int (i : Int))) n1.sub np2
    exact g _ _ _ _ (n1.trans n2) (.l (rng_dp _))
end
end L3

/-! dicts with tuples for keys: sorted(d), list(d), dict(pairs) -/
namespace L3
open PySem PySem.Spec PyProof.Rows L2
section
variable {prog : Program} {w : World} {d : Addr} {es : Array DictEntry} {ep : Nat}
theorem kdl_raw (lo : (d == sysModules) = false) : PySem.W.KdlSrc prog w "dict" d d es.size (fun i v => ∃ hi : i < es.size, v = es[i].key) (fun h => h.DictRaw d es ep) where
  type := fun _ hm => hm.typeIs
  there := fun _ hm => ⟨let ⟨_, ho, _⟩ := hm; Heap.lt_size ho, let ⟨_, ho, _⟩ := hm; Heap.lt_size ho⟩
  keep := fun _ _ hm hk => hm.at fun o e => hk d (.inl rfl) o e
  notList := by decide
  notTuple := by decide
  hint := fun _ _ _ _ hm hq => PySem.W.kdl_hint_dict hm.typeIs hq
  iter := fun A s hh hm => by
    have lt : d < s.heap.objs.size := by obtain ⟨_, ho, _⟩ := hm; exact Heap.lt_size ho
    refine ⟨_, _, (fun _ _ hq => wpAny_pyIter_dict_raw lo hm hq), (Walks.rawKeys hh _ d (Nat.ne_of_lt lt) es ep), ?_⟩
    exact ⟨⟨_, Heap.get?_push_size _ rfl, rfl, rfl⟩, hm.at fun o e => Heap.get?_push_of_some _ e⟩
end
section
variable {X : Cx} {pins : List (Addr × PySem.Obj)} {σ : L2.St} {H : Hp} {s : Shared} {a : Addr} {ws : TbW}
theorem raw_vals {xs : List (NestedKey × Addr × Value)} {knd : HeapKind X.prog X.w NestedKey} {es : Array DictEntry} (he : es.toList = xs.map (entryOfKey knd)) {acc : Array Value} (h : ItemsOf (fun i v => ∃ hi : i < es.size, v = es[i].key) acc es.size) : acc.toList = xs.map fun x => Value.ref x.2.1 := by
  have hsz : es.size = xs.length := by rw [← Array.length_toList, he, List.length_map]
  refine List.ext_getElem? fun i => ?_
  by_cases hi : i < acc.size
  · obtain ⟨h1, h2⟩ := h.2 i acc[i] (by simp [hi])
    rw [Array.getElem?_toList, Array.getElem?_eq_getElem hi, h2, List.getElem?_map]
    have : es.toList[i]? = some es[i] := by rw [Array.getElem?_toList, Array.getElem?_eq_getElem h1]
    rw [he, List.getElem?_map] at this
    cases q : xs[i]? with
    | none => rw [q] at this; cases this
    | some x => rw [q, Option.map_some] at this; rw [← Option.some.inj this]; rfl
  · have l1 : acc.toList.length ≤ i := by rw [Array.length_toList]; omega
    have l2 : (xs.map fun x => Value.ref x.2.1).length ≤ i := by rw [List.length_map, ← hsz, ← h.1]; omega
    rw [List.getElem?_eq_none l1, List.getElem?_eq_none l2]
/-- a key that is a pair of ints -/
theorem tk_pair {x : PyData} {p : Int × Int} (e : tkOf x = some (pairK p)) : x = prD p := by
  cases x <;> simp only [tkOf, reduceCtorEq] at e
  rename_i xs
  simp only [Option.bind_eq_some_iff, Option.ite_none_right_eq_some, Option.some.injEq, pairK, NestedKey.tup.injEq] at e
  obtain ⟨ks, e, _, rfl⟩ := e
  match xs, e with
  | [], e => cases e
  | [x], e =>
    simp only [nksOf] at e
    cases q : nkOf x with
    | none => simp [q] at e
    | some k => simp [q] at e
  | [x, y], e =>
    simp only [nksOf] at e
    cases q : nkOf x with
    | none => simp [q] at e
    | some k =>
      cases q' : nkOf y with
      | none => simp [q, q'] at e
      | some k' =>
        simp only [q, q', Option.some.injEq, List.cons.injEq, and_true] at e
        obtain ⟨rfl, rfl⟩ := e
        have g : ∀ {z : PyData} {i : Int}, nkOf z = some (.num i) → z = .int i := fun {z i} e => by
          cases z <;> simp [nkOf] at e
          rw [e]
        rw [g q, g q']; rfl
  | x :: y :: z :: r, e =>
    simp only [nksOf] at e
    cases q : nkOf x <;> cases q1 : nkOf y <;> cases q2 : nkOf z <;> cases q3 : nksOf r <;> simp [q, q1, q2, q3] at e
theorem prKeys_ok {α : Type} : ∀ {kvs : List (NestedKey × α)} {ps : List (Int × Int)}, prKeys kvs = some ps → kvs.map (·.1) = ps.map pairK
  | [], ps, h => by cases h; rfl
  | (k, v) :: r, ps, h => by
    unfold prKeys at h
    split at h
    · rename_i e; cases e
    · rename_i i j u r' e
      simp only [List.cons.injEq, Prod.mk.injEq] at e
      obtain ⟨⟨rfl, rfl⟩, rfl⟩ := e
      rw [Option.map_eq_some_iff] at h
      obtain ⟨qs, h, rfl⟩ := h
      rw [List.map_cons, List.map_cons, prKeys_ok h]; rfl
    · cases h
theorem keys_two (I : Inv X pins σ H s) {P : Hp} (sP : Sub P H) : ∀ {ws : TbW} {ps : List (Int × Int)}, (∀ p ∈ ws, KeyD X.K P p) → ws.map (·.1) = ps.map pairK →
    (ws.map fun x => Value.ref x.2.1).map (twoOf s.heap) = ps ∧ ∀ v ∈ ws.map (fun x => Value.ref x.2.1), Srt.IsPair s.heap v (twoOf s.heap v).1 (twoOf s.heap v).2 ∧ (∃ a, v = .ref a) ∧ Dp X.K P (backV v) (prD (twoOf s.heap v))
  | [], ps, _, e => by
    cases ps with
    | nil => exact ⟨rfl, fun v hv => nomatch hv⟩
    | cons => cases e
  | w :: ws, ps, hk, e => by
    cases ps with
    | nil => cases e
    | cons p ps =>
      rw [List.map_cons, List.map_cons] at e
      injection e with e1 e2
      obtain ⟨h1, h2⟩ := keys_two I sP (fun p hp => hk p (by simp [hp])) e2
      obtain ⟨x, dx, ex⟩ := hk w (by simp)
      rw [e1] at ex
      have ex := tk_pair ex
      subst ex
      obtain ⟨p1, _⟩ := pair_dp (u := .ref w.2.1) I sP dx rfl
      have e3 := two_eq p1
      refine ⟨by rw [List.map_cons, List.map_cons, h1, e3], fun v hv => ?_⟩
      rw [List.map_cons] at hv
      rcases List.mem_cons.mp hv with hv | hv
      · subst hv
        rw [e3]
        exact ⟨p1, ⟨_, rfl⟩, dx⟩
      · exact h2 v hv
def rSrtT (K : PySem.W.Frag) : List V → Hp → VK → Prop := fun vs H Q => ∃ (P : Hp) (a : Addr) (ws : TbW) (ps : List (Int × Int)), Sub P H ∧ vs = [.ref a] ∧ H a = some (TD a ws) ∧ (∀ p ∈ ws, KeyD K P p) ∧ ws.map (·.1) = ps.map pairK ∧ Gives K P H (.l ((psort ps).map prD)) Q
theorem cb_sortT (hc : X.calm = true) : CallR X (.builtin "sorted") (rSrtT X.K) := by
  intro pins s σ H vs us Q I r h
  obtain ⟨P, a, ws, ps, sP, rfl, e, hk, hps, g⟩ := h
  rw [Vals.ref1 r]
  obtain ⟨hz, lo, nd, nt, xs, rr, dd⟩ := td_dict I e fun p hp => key_at I ((hk p hp).up sP)
  obtain ⟨o, es, ep, ho, hx, hd, he, hi, hn⟩ := dd
  have hraw : s.heap.DictRaw a es ep := ⟨o, ho, hx, hd⟩
  have hsz : es.size = xs.length := by rw [← Array.length_toList, he, List.length_map]
  have hl : ws.length = xs.length := Paired.length rr
  have h16 : es.size ≤ sizeLine := by rw [hsz, ← hl]; exact hz
  refine PySem.Calls.call_function_entry PyProof.Rows.kind_sorted PyProof.Rows.plain_sorted PyProof.Rows.entry_sorted (PyProof.Rows.args_sorted1 _) ?_
  unfold Builtin.«sorted»
  refine wpAny_bind (m := checkCount "sorted" 1 1 _) (wpAny_pure ?_)
  refine wpAny_bind (PySem.W.kdu_collect (A := X.A.in1) (kdl_raw lo) (I.ok.hd hc) hraw h16 fun h' tk acc hkk hacc => ?_)
  have ev : acc.toList = ws.map fun x => Value.ref x.2.1 := by
    rw [raw_vals (X := X) he hacc]
    clear hk hps e hz nd nt ho hx hd he hi hn hraw hsz hl h16 hacc
    induction rr with
    | nil => rfl
    | cons a _ ih => rw [List.map_cons, List.map_cons, a.2.1, ih]
  obtain ⟨q1, q2⟩ := keys_two I sP hk hps
  have I1 : Inv X pins σ H { s with heap := h', toks := tk } := I.kept hkk
  obtain ⟨q3, q4⟩ := keys_two I1 sP hk hps
  have hal : acc.toList.length ≤ sizeLine := by rw [ev, List.length_map]; exact hz
  rw [← ev] at q3 q4
  generalize acc.toList = vs at *
  refine wpAny_bind (wpAny_newList ?_ hal)
  have hoL : (h'.push (seqObj "list" vs.toArray 0)).get? h'.objs.size = some (seqObj "list" vs.toArray 0) := Heap.get?_push_size _ rfl
  show wpAny _ _ _ _ _ { s with heap := h'.push (seqObj "list" vs.toArray 0), toks := tk }
  refine wpAny_bind (wpAny_holding (wpAny_call_entry PyProof.Rows.slot_list_sort ⟨_, hoL, rfl⟩ PyProof.Rows.entry_list_sort
    (SrtO.list_sort_ord (s := { s with heap := h'.push (seqObj "list" vs.toArray 0), toks := tk }) (SrtO.swo_lex (twoOf h')) hoL hal (fun h2 => ?_) fun out h1 h2 => ⟨_, rfl, ?_⟩) (PyProof.Rows.args_list_sort _)))
  · refine SrtO.pairs_sortableO (s := { s with heap := h'.push (seqObj "list" vs.toArray 0), toks := tk }) (by omega) (fun v hv => (q4 v hv).1.keeps fun b o e _ => Heap.get?_push_of_some _ e) fun o e => ?_
    have e' : some o = some (seqObj "list" vs.toArray 0) := e.symm.trans hoL
    cases e'
    intro c
    exact absurd (Value.type.inj c) (by decide)
  · obtain ⟨e', he'⟩ := PyProof.Rows.sortedHeap_at (vs := vs) (out := out.toArray) hoL
    have pm := h2.perm
    have eq : out.map (twoOf h') = psort ps := by
      refine perm_leP_eq ?_ ?_ (psort_sorted ps)
      · rw [← q3]
        exact (pm.map _).trans (psort_perm _).symm
      · rw [List.pairwise_map]
        refine List.Pairwise.imp (fun {u v} z => ?_) h1
        have z := SrtO.lexB_no.mp z
        rw [leP_iff]
        omega
    have dp : DpAll X.K P (out.map backV) ((psort ps).map prD) := by
      rw [← eq, List.map_map]
      exact dp_of_all fun u hu => (q4 u (pm.mem_iff.mp hu)).2.2
    have hlen : (out.map backV).length ≤ sizeLine := by
      rw [List.length_map, pm.length_eq]; exact hal
    refine wpAny_pure ⟨_, rfl, .ref h'.objs.size, upd H h'.objs.size (.lst (out.map backV)), I1.laid (t' := tk) (fun b u e => ?_) (Nat.le_refl _)
      (show ObjOk X.prog X.w _ _ _ (.lst (out.map backV)) from ⟨hlen, out, e', vals_back fun u hu => (q4 u (pm.mem_iff.mp hu)).2.1, he'⟩), rfl, g.lst sP dp (I1.hok.fresh (Nat.le_refl _))⟩
    have hb : b < h'.objs.size := Heap.lt_size e
    rw [PyProof.Rows.sortedHeap_old (Nat.ne_of_lt hb) (by rw [PyProof.Rows.size_push']; exact Nat.lt_succ_of_lt hb)]
    exact Heap.get?_push_of_some _ e
/-! list(d) -/
mutual
theorem nk_un : ∀ {x : PyData} {k : NestedKey}, nkOf x = some k → x = unK k
  | .none, _, h => by cases h; rfl
  | .int i, _, h => by cases h; rfl
  | .tuple xs, _, h => by
    simp only [nkOf, Option.map_eq_some_iff] at h
    obtain ⟨ks, e, rfl⟩ := h
    rw [unK, nks_un e]
  | .bool _, _, h => by simp [nkOf] at h
  | .str _, _, h => by simp [nkOf] at h
  | .list _, _, h => by simp [nkOf] at h
  | .dict _, _, h => by simp [nkOf] at h
theorem nks_un : ∀ {xs : List PyData} {ks : List NestedKey}, nksOf xs = some ks → xs = unKs ks
  | [], _, h => by cases h; rfl
  | x :: xs, _, h => by
    rw [nksOf] at h
    cases e1 : nkOf x with
    | none => rw [e1] at h; cases h
    | some k =>
      cases e2 : nksOf xs with
      | none => rw [e1, e2] at h; cases h
      | some ks =>
        rw [e1, e2] at h; cases h
        rw [unKs, ← nk_un e1, ← nks_un e2]
end
theorem keys_dp {K : PySem.W.Frag} {P : Hp} : ∀ {ws : TbW}, (∀ p ∈ ws, KeyD K P p) → DpAll K P (ws.map fun w => .ref w.2.1) (ws.map fun w => unK w.1)
  | [], _ => .nil
  | w :: ws, h => by
    obtain ⟨x, d, e⟩ := h w (by simp)
    rw [nk_un (tk_nk e).1] at d
    exact .cons d (keys_dp fun p hp => h p (by simp [hp]))
def rLstT (K : PySem.W.Frag) : List V → Hp → VK → Prop := fun vs H Q => ∃ (P : Hp) (a : Addr) (ws : TbW), Sub P H ∧ vs = [.ref a] ∧ H a = some (TD a ws) ∧ (∀ p ∈ ws, KeyD K P p) ∧ Gives K P H (.l (ws.map fun w => unK w.1)) Q
theorem cb_listT (hc : X.calm = true) : CallR X (.type "list") (rLstT X.K) := by
  intro pins s σ H vs us Q I r h
  obtain ⟨P, a, ws, sP, rfl, e, hk, g⟩ := h
  rw [Vals.ref1 r]
  obtain ⟨hz, lo, nd, nt, xs, rr, dd⟩ := td_dict I e fun p hp => key_at I ((hk p hp).up sP)
  obtain ⟨o, es, ep, ho, hx, hd, he, hi, hn⟩ := dd
  have hraw : s.heap.DictRaw a es ep := ⟨o, ho, hx, hd⟩
  have hsz : es.size = xs.length := by rw [← Array.length_toList, he, List.length_map]
  have hl : ws.length = xs.length := Paired.length rr
  have h16 : es.size ≤ sizeLine := by rw [hsz, ← hl]; exact hz
  refine PySem.W.kdl_call (kdl_raw lo) (I.ok.hd hc) hraw h16 fun h' tk acc c' hkk hD hacc => ?_
  have ev : acc.toList = ws.map fun x => Value.ref x.2.1 := by
    rw [raw_vals (X := X) he hacc]
    clear hk e hz nd nt ho hx hd he hi hn hraw hsz hl h16 hacc g
    induction rr with
    | nil => rfl
    | cons a _ ih => rw [List.map_cons, List.map_cons, a.2.1, ih]
  have vl : Vals (ws.map fun w => V.ref w.2.1) acc.toList := by
    rw [ev]
    clear hk e hz nd nt ho hx hd he hi hn hraw hsz hl h16 hacc g ev rr hD hkk
    induction ws with
    | nil => exact .nil
    | cons w ws ih => exact .cons rfl ih
  exact ⟨.ref s.heap.objs.size, upd H s.heap.objs.size (.lst (ws.map fun w => V.ref w.2.1)), I.laid (t' := tk) hkk (Nat.le_refl _)
    (show ObjOk X.prog X.w _ _ _ (.lst (ws.map fun w => V.ref w.2.1)) from ⟨by rw [List.length_map]; exact hz, acc.toList, c', vl, by rw [Array.toArray_toList]; exact hD⟩), rfl, g.lst sP (keys_dp hk) (I.hok.fresh (Nat.le_refl _))⟩
/-! dict(pairs) -/
theorem tup2 (I : Inv X pins σ H s) {P : Hp} (sP : Sub P H) : ∀ {zs : List PyData} {vs : List V} {its : List Value} {ps : List (NestedKey × PyData)}, DpAll X.K P vs zs → kvsOf zs = some ps → Vals vs its →
    ∃ (Ts : List Addr) (ws : TbW) (xs : List (NestedKey × Addr × Value)), its = Ts.map .ref ∧ TWs X.K P ws ps ∧ TR3 ws xs ∧ Ts.length = xs.length ∧ ∀ (j : Nat) x, xs[j]? = some x → ∃ T, Ts[j]? = some T ∧ s.heap.IsTuple T #[.ref x.2.1, x.2.2]
  | [], _, _, _, .nil, e, .nil => by
    cases e
    exact ⟨[], [], [], rfl, .nil, .nil, rfl, fun j x h => by simp at h⟩
  | z :: zs, v :: vs, u :: its, ps, .cons d1 d2, e, .cons r1 r2 => by
    unfold kvsOf at e
    split at e
    · rename_i e0; cases e0
    · rename_i k y r e0
      cases e0
      split at e
      · rename_i kk qs e1 e2
        cases e
        obtain ⟨Ts, ws, xs, rfl, h1, h2, h3, h4⟩ := tup2 I sP d2 e2 r2
        cases d1 with
        | @tup a ws0 _ g1 g2 =>
          cases g2 with
          | cons a1 g2 =>
            cases g2 with
            | cons a2 g2 =>
              cases g2
              rename_i kv yv
              cases k <;> simp only [tkOf, reduceCtorEq] at e1
              rename_i ys
              have e1 : tkOf (.tuple ys) = some kk := e1
              cases a1 with
              | @tup b _ _ b1 b2 =>
                cases r1
                obtain ⟨its', rv, it, _⟩ := I.tuple (SqT.up sP g1)
                obtain ⟨u1, u2, rfl, ri, rj⟩ := vals2 rv
                cases ri
                refine ⟨a :: Ts, (kk, b, yv) :: ws, (kk, b, u2) :: xs, rfl, .cons ⟨_, .tup b1 b2, e1⟩ a2 h1, .cons ⟨rfl, rfl, rj⟩ h2, by simp [h3], fun j x hj => ?_⟩
                cases j with
                | zero => cases hj; exact ⟨a, rfl, it⟩
                | succ j => exact h4 j x (by simpa using hj)
      · cases e
    · cases e
theorem tAll_rel {K : PySem.W.Frag} {P : Hp} : ∀ {ws : TbW} {ps : List (NestedKey × PyData)} {xs : List (NestedKey × Addr × Value)} {aw : TbW} {ap : List (NestedKey × PyData)} {ax : List (NestedKey × Addr × Value)}, TWs K P ws ps → TR3 ws xs → TWs K P aw ap → TR3 aw ax → (aw.map (·.1)).Nodup → (∀ p ∈ aw, noTx p.1 = true) →
    ∃ rw_, TWs K P rw_ (ps.foldl (fun acc p => tPut p.1 p.2 acc) ap) ∧ TR3 rw_ (storedAllH ax xs) ∧ (rw_.map (·.1)).Nodup ∧ (∀ p ∈ rw_, noTx p.1 = true) ∧ rw_.length ≤ aw.length + ws.length
  | _, _, _, aw, _, _, .nil, .nil, h1, h2, h3, h4 => ⟨aw, h1, h2, h3, h4, by simp⟩
  | _, _, _, aw, _, _, .cons (k := k) (b := b) (v := v) (y := y) (ws := ws) hk d t, .cons (b := x) q t2, h1, h2, h3, h4 => by
    obtain ⟨x1, x2, x3⟩ := x
    obtain ⟨q1, q2, q3⟩ := q
    simp only at q1 q2 q3
    subst q1 q2
    have nd : ((tSet k b v aw).map (·.1)).Nodup := by
      rw [tSet_keys]
      by_cases z : (tGet k aw).isSome = true
      · rw [if_pos z]; exact h3
      · rw [if_neg z, List.nodup_append]
        refine ⟨h3, by simp, fun x hx y hy => ?_⟩
        have : y = k := by simpa using hy
        subst this
        have : tGet y aw = none := by cases q : tGet y aw with | none => rfl | some _ => rw [q] at z; simp at z
        exact fun z => tGet_mem.mp this (by rw [← z]; exact hx)
    have tw := h1.put hk d
    have nt : ∀ p ∈ tSet k b v aw, noTx p.1 = true := fun p hp => by
      obtain ⟨_, _, e⟩ := tw.keys p hp
      exact tk_noTx e
    obtain ⟨rw_, g1, g2, g3, g4, g5⟩ := tAll_rel t t2 tw (h2.put h3 k q3 (b := b)) nd nt
    refine ⟨rw_, g1, g2, g3, g4, ?_⟩
    have := tSet_len (k := k) (b := b) (v := v) (ws := aw)
    simp only [List.length_cons]
    omega
theorem cb_tdict (hc : X.calm = true) (hu : X.A.units + 20 < cLine) : CallR X (.type "dict") (rBi X.K .tdict) := by
  intro pins s σ H vs us Q I r h
  obtain ⟨P, xs0, d, sP, o, e, g⟩ := h
  obtain ⟨x, rfl⟩ := bi1 e (by intro z; cases z) (by intro z; cases z)
  obtain ⟨v, rfl, ox⟩ := opds1 o
  cases x <;> simp only [bi, reduceCtorEq, Option.map_eq_some_iff] at e
  rename_i zs
  obtain ⟨ps, ep, rfl⟩ := e
  obtain ⟨l, vs, rfl, h1, o1⟩ := ox.list sP
  obtain ⟨its, rv, pl, hz⟩ := I.list h1
  rw [Vals.ref1 r]
  obtain ⟨ol, n, ho, hcl, hd, hdat⟩ := pl
  obtain ⟨Ts, ws, xs, rfl, tw, tr, hT, hj⟩ := tup2 I sP o1 ep rv
  have hl : vs.length = Ts.length := by rw [rv.length, List.length_map]
  have hsl : Ts.length ≤ sizeLine := by rw [← hl]; exact hz
  obtain ⟨rw_, g1, g2, g3, g4, g5⟩ := tAll_rel tw tr .nil (.nil : TR3 [] []) .nil (fun _ h => nomatch h)
  have hm : (s.heap.objs.size == sysModules) = false := beq_eq_false_iff_ne.mpr (Nat.ne_of_gt I.big)
  have room : (nestedKind X.prog X.w).room X.A.in1.in1 := by
    show X.A.in1.in1.units + 8 < cLine
    have e1 : X.A.in1.units ≤ X.A.units + 1 := by first | exact Nat.le_refl _ | (show X.A.units + 1 ≤ X.A.units + 1; exact Nat.le_refl _)
    have e2 : X.A.in1.in1.units ≤ X.A.in1.units + 1 := by first | exact Nat.le_refl _ | (show X.A.in1.units + 1 ≤ X.A.in1.units + 1; exact Nat.le_refl _)
    omega
  have pit : PairItems s.heap (Ts.map Value.ref).toArray (fun j => (Ts[j]?).getD 0) (xs.map fun x => (Value.ref x.2.1, x.2.2)) := by
    refine ⟨by simp [hT], fun j k v hkv => ?_⟩
    rw [List.getElem?_map, Option.map_eq_some_iff] at hkv
    obtain ⟨x, hx, e⟩ := hkv
    cases e
    obtain ⟨T, t1, t2⟩ := hj j x hx
    refine ⟨by simp [t1], .inl ?_⟩
    show s.heap.IsTuple ((Ts[j]?).getD 0) _
    rw [t1]
    exact t2
  have phv : PairsHaveH (nestedKind X.prog X.w) xs.length (PairRel (xs.map fun x => (Value.ref x.2.1, x.2.2))) xs := by
    refine ⟨rfl, fun i key v hrel => ?_⟩
    have hrel : (xs.map fun x => (Value.ref x.2.1, x.2.2))[i]? = some (key, v) := hrel
    rw [List.getElem?_map, Option.map_eq_some_iff] at hrel
    obtain ⟨x, hx, e⟩ := hrel
    cases e
    exact ⟨x.1, x.2.1, hx, rfl⟩
  have stay : KeysStay (nestedKind X.prog X.w) s.heap s.heap.objs.size [] xs := by
    intro h' kk x hx
    have I1 : Inv X pins σ H { s with heap := h' } := I.kept fun b o e => kk b o (Nat.ne_of_lt (Heap.lt_size e)) (by simp) e
    have all : ∀ {l : TbW} {m : List (NestedKey × Addr × Value)}, TR3 l m → (∀ p ∈ l, KeyD X.K P p) → ∀ x ∈ m, (nestedKind X.prog X.w).is h' x.1 x.2.1 := by
      intro l m q
      induction q with
      | nil => intro _ x hx; exact nomatch hx
      | @cons p q ps qs hq t ih =>
        intro hh x hx
        rcases List.mem_cons.mp hx with e | hx
        · subst e
          have := key_at I1 ((hh p (by simp)).up sP)
          rw [← hq.1, ← hq.2.1]
          exact this
        · exact ih (fun p hp => hh p (by simp [hp])) x hx
    exact all tr tw.keys x hx
  have pa := PairArg.list (prog := X.prog) (w := X.w) l (Ts.map Value.ref).toArray (fun j => (Ts[j]?).getD 0) (xs.map fun x => (Value.ref x.2.1, x.2.2))
  rw [List.length_map] at pa
  refine call_dict_pairsH (knd := nestedKind X.prog X.w) (ps := xs) pa (I.ok.hd hc) room ⟨⟨ol, n, ho, hcl, hd, hdat⟩, pit⟩ phv stay (by omega) fun h' tk hd' k => ?_
  obtain ⟨ob, es, ep', b6, b7, b8, b9, _, _⟩ := hd'
  have np : H s.heap.objs.size = none := I.hok.fresh (Nat.le_refl _)
  have hlen : rw_.length ≤ sizeLine := by
    have := Paired.length tr
    simp only [List.length_nil, Nat.zero_add] at g5
    omega
  refine ⟨.ref s.heap.objs.size, upd H s.heap.objs.size (TD s.heap.objs.size rw_), I.laid (t' := tk) (fun b o e => k b o (by simp) e) (Nat.le_refl _) (td_made X.prog X.w hlen hm g3 g4 g2 b6 b7 b8 b9 _ _), rfl, ?_⟩
  exact g _ P _ _ (New.own1 sP np) (.t g1)
end
end L3

/-! set(..) of a list of ints, and sorted of it. -/
namespace L3
open PySem PySem.Spec PyProof.Rows L2
abbrev setO (w : World) : Obj := { cls := .type "set", dict := none, data := .set #[] 0 (.fresh 0 0 (!w.params.followText "set-order")) }
section
variable {P : Program} {w : World} {A : Around} {E : Value → Shared → Prop} {s : Shared}
/-- what is wanted of the making -/
def SetQ (w : World) (h0 : Heap) (ns : List Int) (s2 : Shared) (s : Shared) : Prop :=
  ∃ h' tk c, s2 = { s with heap := h', toks := tk } ∧ SetR w h' h0.objs.size (fun j => decide (j ∈ ns)) c ∧ c ≤ ns.length ∧ ∀ b o, h0.get? b = some o → h'.get? b = some o
set_option maxHeartbeats 3200000 in
theorem set_init_list {l : Addr} {items : Array Value} {ns : List Int} (hh : A.handled = none) (hl : s.heap.IsList l items) (it : IntsAre items.toList ns) (hb : ns.length + 1 < scanBound) :
    wpAny (model P w) A (Builtin.«set.__init__» ⟨[.ref s.heap.objs.size, .ref l], []⟩) (fun fin s' => fin = .done (.ret .none) ∧ SetQ w s.heap ns s' s) E { s with heap := s.heap.push (setO w) } := by
  have sz : items.size = ns.length := by
    have q := IntsAre.length it
    rwa [Array.length_toList] at q
  have hS : (s.heap.push (setO w)).get? s.heap.objs.size = some (setO w) := Heap.get?_push_size _ rfl
  have tS : Shared.TypeIs { s with heap := s.heap.push (setO w) } (.ref s.heap.objs.size) "set" := ⟨_, hS, rfl⟩
  obtain ⟨⟨c0, d0, dt, sl⟩, ol, oc, nl, od⟩ := hl
  simp only at oc od
  subst oc od
  have ol2 : (s.heap.push (setO w)).get? l = some { cls := .type "list", dict := d0, data := .seq items nl, slots := sl } := Heap.get?_push_of_some _ ol
  have il : (s.heap.push (setO w)).IsList l items := ⟨_, ol2, rfl, nl, rfl⟩
  have b1 := F.sub_list_set
  have b2 := F.sub_list_frozenset
  have b3 : (Value.type "list" == Value.type "dict") = false := by decide
  have lS : l < s.heap.objs.size := Heap.lt_size ol
  obtain ⟨hp, g, d, tk0, os⟩ := s
  unfold Builtin.«set.__init__» noKeywords Builtin.Frozenset.updateFrom
  generalize hPI : pyIter = PI
  wp_walk
  subst hPI
  refine wpAny_pyIter_list il ?_
  refine wpAny_bind (wpAny_runValue ?_)
  have hz : (hp.push (setO w)).objs.size = hp.objs.size + 1 := Heap.size_push ..
  have nI : l ≠ (hp.push (setO w)).objs.size := by rw [hz]; exact Nat.ne_of_lt (Nat.lt_succ_of_lt lS)
  have nS : hp.objs.size ∉ [(hp.push (setO w)).objs.size, l] := by
    rw [hz]
    intro z
    rcases List.mem_cons.mp z with z | z
    · omega
    · rw [← List.mem_singleton.mp z] at lS; exact Nat.lt_irrefl _ lS
  have va : ∀ (i : Nat) (v : Value), items[i]? = some v → ∃ k t, ns[i]? = some k ∧ v = .int k t := fun i v hv => by
    have hi : i < ns.length := by rw [← sz]; exact (Array.getElem?_eq_some_iff.mp hv).1
    obtain ⟨t, e⟩ := PyProof.Rows.IntsAre.int_at it i v (by rw [Array.getElem?_toList]; exact hv)
    exact ⟨ns[i], t, List.getElem?_eq_getElem hi, by rw [e, List.getD_eq_getElem?_getD, List.getElem?_eq_getElem hi]; rfl⟩
  have W := (Walks.list (A := A.in1) (prog := P) (w := w) (by simp [hh]) (hp.push (setO w)).objs.size l nI items).toS
  refine set_update_ints (A := A) W hp.objs.size nS ns sz hb va (items.size - 0) 0 _ (by omega) (Nat.zero_le _) ?st ?first ?fin
  case st => exact ⟨⟨_, Heap.get?_push_size _ rfl, rfl, rfl⟩, il.push _⟩
  case first =>
    refine ⟨0, Nat.le_refl 0, setR_new_at ?_⟩
    exact Heap.get?_push_of_some _ hS
  intro s' c mv hc hS'
  obtain ⟨h2, g2, d2, tk2, os2⟩ := s'
  have e1 : g2 = g := mv.gens
  have e2 : d2 = d := mv.drawn
  have e3 : os2 = os := mv.os
  subst e1 e2 e3
  show wpAny _ _ _ _ _ _
  refine wpAny_pure ?_
  show wpAny _ _ (ret Value.none) _ _ _
  rw [sz] at hc
  refine wpAny_pure ⟨rfl, h2, tk2, c, rfl, hS', hc, fun b o e => ?_⟩
  have lb : b < hp.objs.size := Heap.lt_size e
  refine mv.heap b o (fun z => ?_) (Heap.get?_push_of_some _ (Heap.get?_push_of_some _ e))
  rcases List.mem_cons.mp z with z | z
  · rw [z] at lb; exact Nat.lt_irrefl _ lb
  · rw [List.mem_singleton.mp z, hz] at lb; exact Nat.lt_irrefl _ (Nat.lt_of_succ_lt lb)
end
end L3

/-! the call set(list), sorted(set(list)) -/
namespace L3
open PySem PySem.Spec PyProof.Rows L2
section
variable {P : Program} {w : World} {A : Around} {E : Value → Shared → Prop} {s : Shared}
set_option maxHeartbeats 3200000 in
theorem set_of_list {l : Addr} {items : Array Value} {ns : List Int} {Q : Value → Shared → Prop} (hh : A.handled = none) (hl : s.heap.IsList l items) (it : IntsAre items.toList ns) (hb : ns.length + 1 < scanBound)
    (h : ∀ s2, SetQ w s.heap ns s2 s → Q (.ref s.heap.objs.size) s2) : wpAny (model P w) A (call (.type "set") [.ref l]) Q E s := by
  have y1 := F.called_set.made
  have y2 := F.called_set.sub
  have y3 := F.called_set.notType
  have y4 := F.called_set.canCreate
  have y5 := F.typeCall_set_1 (.ref l)
  obtain ⟨c, tl, y6⟩ := F.called_set.mro
  refine wpAny_call (codeAny_of_tree ?_)
  show wpAny _ _ (callAny (Value.type "set") _) _ E s
  refine wpAny_pure ⟨Code.quiet_builtin _ (by decide +kernel), codeAny_builtin F.entry_type_call ?_⟩
  rw [Around.under_plain (weight_type_call_type "set" [.ref l] []) rfl]
  repeat (any_goals (first | assumption | wp_step))
  refine codeAny_mono (code_set_led1 (.ref l) (E := E) (Q₁ := fun v t => v = .ref s.heap.objs.size ∧ t = { s with heap := s.heap.push (setO w) }) ⟨rfl, rfl⟩) fun r t hr => ?_
  cases r with
  | error e => exact hr
  | ok fl =>
    cases fl with
    | ret v =>
      obtain ⟨rfl, rfl⟩ := hr
      have oS : (s.heap.push (setO w)).get? s.heap.objs.size = some (setO w) := Heap.get?_push_size _ rfl
      have tS : Shared.TypeIs { s with heap := s.heap.push (setO w) } (.ref s.heap.objs.size) "set" := ⟨_, oS, rfl⟩
      have z1 := F.called_set.init.lookup
      have z2 := F.called_set.init.bind (.ref s.heap.objs.size)
      repeat (any_goals (first | assumption | wp_step))
      refine codeAny_mono (codeAny_call_builtin (R := wants (fun r t => r = .none ∧ SetQ w s.heap ns t s) E) F.called_set.init.plain F.entry_set_init (check_set_init_1 tS ?_)) fun r2 t2 hr2 => ?_
      · exact wpAny_mono (set_init_list (E := fun e t => wants (fun r t => r = .none ∧ SetQ w s.heap ns t s) E (.error e) t) (by simp [hh]) hl it hb) (fun fin t q => by obtain ⟨rfl, q⟩ := q; exact ⟨rfl, q⟩) fun _ _ q => q
      · cases r2 with
        | error e => exact hr2
        | ok fl =>
          cases fl with
          | ret r =>
            obtain ⟨rfl, hr2⟩ := hr2
            repeat (any_goals (first | assumption | wp_step))
            exact h _ hr2
          | _ => exact hr2.elim
    | _ => exact hr.elim
end
end L3

namespace L3
open PySem PySem.Spec PyProof.Rows L2
theorem nubI_mem : ∀ {ns : List Int} {k : Int}, k ∈ nubI ns ↔ k ∈ ns
  | [], k => by simp [nubI]
  | x :: r, k => by
    have := @nubI_mem r k
    rw [nubI]
    split
    · rename_i h
      rw [this, List.mem_cons]
      exact ⟨.inr, fun z => z.elim (fun e => by rw [e]; exact h) id⟩
    · rw [List.mem_cons, List.mem_cons, this]
theorem nubI_nodup : ∀ ns : List Int, (nubI ns).Nodup
  | [] => .nil
  | x :: r => by
    rw [nubI]
    split
    · exact nubI_nodup r
    · rename_i h
      exact List.nodup_cons.mpr ⟨fun z => h (nubI_mem.mp z), nubI_nodup r⟩
def rSetI (K : PySem.W.Frag) (w : World) : List V → Hp → VK → Prop := fun vs H Q => ∃ (l : Addr) (ns : List Int), vs = [V.ref l] ∧ SqL K H l (ns.map V.int) ∧ ns.length + 1 < scanBound ∧
  ∀ p, H p = none → Q (.ref p) (upd H p (SetO w p (fun j => decide (j ∈ ns)) (nubI ns).length))
section
variable {X : Cx}
theorem cr_setI (hc : X.calm = true) : CallR X (.type "set") (rSetI X.K X.w) := by
  intro pins s σ H vs us Q I r h
  obtain ⟨l, ns, rfl, hl, hb, q⟩ := h
  rw [Vals.ref1 r]
  obtain ⟨its, rv, pl, hz⟩ := I.list hl
  refine set_of_list (I.ok.hd hc) pl.isList (by simpa using rv.ints) hb fun s2 z => ?_
  obtain ⟨h', tk, c, rfl, R, _, kp⟩ := z
  have ec : c = (nubI ns).length := by
    obtain ⟨o, es, ep, t, _, _, _, _, nd, hm, _, _, e, _⟩ := R
    have pm : (es.toList.map keyOf).Perm (nubI ns) := (List.perm_ext_iff_of_nodup nd (nubI_nodup ns)).mpr fun k => by
      rw [nubI_mem, ← hm k, decide_eq_true_eq]
    rw [← pm.length_eq, List.length_map, Array.length_toList, e]
  subst ec
  exact ⟨.ref s.heap.objs.size, upd H s.heap.objs.size (SetO X.w s.heap.objs.size (fun j => decide (j ∈ ns)) (nubI ns).length), I.laid (t' := tk) kp (Nat.le_refl _) (setO_new R), rfl, q _ (I.hok.fresh (Nat.le_refl _))⟩
theorem sset_comp {vs : List V} {H : Hp} {Q : VK} (h : rBi X.K .sortedset vs H Q) : rSetI X.K X.w vs H fun v H1 => rSortedSet X.w [v] H1 Q := by
  obtain ⟨P, xs, d, sP, o, e, g⟩ := h
  obtain ⟨x, rfl⟩ := bi1 e (by intro z; cases z) (by intro z; cases z)
  obtain ⟨v, rfl, ox⟩ := opds1 o
  cases x <;> simp only [bi, reduceCtorEq, Option.bind_eq_some_iff, Option.ite_none_right_eq_some, Option.some.injEq, Bool.and_eq_true, decide_eq_true_eq] at e
  obtain ⟨ns, en, ⟨z1, z2⟩, rfl⟩ := e
  obtain ⟨a, ws, rfl, h1, o1⟩ := ox.list sP
  rw [ints_dp o1 en] at h1
  refine ⟨a, ns, rfl, h1, by unfold scanBound; omega, fun p np => ⟨p, _, _, rfl, upd_same, z2, fun ms p2 hs hm hl np2 => ?_⟩⟩
  have eq : ms = isort (nubI ns) := by
    have nd : ms.Nodup := hs.imp fun {x y} h => by intro z; omega
    have pm : ms.Perm (nubI ns) := (List.perm_ext_iff_of_nodup nd (nubI_nodup ns)).mpr fun k => by
      rw [nubI_mem, hm k, decide_eq_true_eq]
    exact perm_le_eq (pm.trans (isort_perm _).symm) (hs.imp fun {x y} h => by omega) (isort_sorted _)
  subst eq
  have n1 := New.idle (o := SetO X.w p (fun j => decide (j ∈ ns)) (nubI ns).length) sP np
  have n2 := New.own1 (o := .lst ((isort (nubI ns)).map V.int)) n1.sub np2
  exact g _ _ _ _ (n1.trans n2) (.l (ints_all _))
end
end L3

namespace L3
open PySem
/-! ### the tree -/
/-- where a loop's item goes, by slots -/
inductive Tg where
  | n (i : Nat) | t (ts : List Tg)
/-- a method that changes what it is called of -/
inductive Mt where
  | append | pop | extend | insert | remove
inductive E where
  | c (d : PyData)
  | v (i : Nat)          -- a name; a list of its own is shared from here on
  | mv (i : Nat)         -- a name that is not asked again
  | pk (i : Nat)         -- a name, looked at
  | io (i : Nat)         -- a name handed to a call that may change what it holds
  | path (i : Nat) (key : E)  -- what stands at a key of a dict or list of its own, looked at
  | star (e : E)
  | tup (es : List E)
  | lst (es : List E)    -- a list of plain things
  | lsg (es : List E)    -- a list of any
  | dct (ks : List Key) (es : List E)
  | fz (e : E)
  | bin (o : BOp) (a b : E)
  | cmp (o : COp) (a b : E)
  | chain (o o' : COp) (a b c : E)
  | neg (a : E) | not (a : E) | and (a b : E) | or (a b : E) | ife (c a b : E)
  | at (a i : E)
  | sl (a : E) (lo hi : List E)
  | rev (a : E)
  | bi (b : Bi) (es : List E)
  | lc (own : List Nat) (tg : Tg) (k : It) (lk : Option Nat) (its : List E) (cond : List E) (elt : E)
  | call (f : Nat) (es : List E)
  | callk (f : Nat) (es : List E) (ks : List Nat) (ws : List E)  -- by place, then by name; ks: in the parameters' order
  | mut (m : Mt) (i : Nat) (key : List E) (es : List E)
  | kat (i : Nat) (e : E)  -- d[e], d a dict with tuples for keys
  | kin (z : Bool) (i : Nat) (e : E)  -- e in d, e not in d
  | kds (es : List E)  -- {}, {k: v}
  | kln (i : Nat)  -- len(d)
  | kso (e : E)  -- sorted(d), the keys pairs of ints
  | kls (e : E)  -- list(d)
/-- where an assignment goes -/
inductive Lv where
  | n (i : Nat) | t (ts : List Lv) | ix (i : Nat) (key : List E) (at_ : E)
inductive S where
  | asg (t : Lv) (e : E)
  | asgs (ts : List Lv) (es : List E)
  | expr (e : E)
  | ret (e : E)
  | ifs (c : E) (a b : List S)
  | for (tg : Tg) (k : It) (lk : Option Nat) (its : List E) (body : List S)
  | while (c : E) (body : List S)
  | brk | cnt | pass

/-! ### the meaning -/
/-- what a call gives: its value, what the changed parameters hold behind it -/
inductive FR where
  | st | ok (d : D) (outs : List (Option D)) | ex (x : Ex) (outs : List (Option D))
abbrev FT := Nat → List D → FR
mutual
def fz : D → Option PyData
  | .p x => some x
  | .l xs => some (.list xs)
  | .k xs => some (.list xs)
  | .g xs => (fzs xs).map .list
  | .d _ => none
  | .t _ => none
def fzs : List D → Option (List PyData)
  | [] => some []
  | x :: r => match fz x, fzs r with | some y, some ys => some (y :: ys) | _, _ => none
end
def kvGet {α : Type} (k : Key) : List (Key × α) → Option α
  | [] => none
  | (q, v) :: r => if q = k then some v else kvGet k r
def kvPut {α : Type} (k : Key) (v : α) : List (Key × α) → List (Key × α)
  | [] => [(k, v)]
  | (q, u) :: r => if q = k then (q, v) :: r else (q, u) :: kvPut k v r
def keyOf : PyData → Option Key
  | .int i => some (.inl i)
  | .str x => some (.inr x)
  | _ => none
/-- what stands at a key -/
def getAt (d : D) (k : PyData) : Option D := match d, k with
  | .d kvs, k => (keyOf k).bind fun k => kvGet k kvs
  | .g xs, .int i => (ix xs.length i).bind fun j => xs[j]?
  | _, _ => none
def setAt (d : D) (k : PyData) (v : D) : Option D := match d, k with
  | .d kvs, k => (keyOf k).bind fun k => if kvs.length < 1000000 then some (.d (kvPut k v kvs)) else none
  | .g xs, .int i => (ix xs.length i).map fun j => .g (xs.set j v)
  | .l xs, .int i => (ix xs.length i).bind fun j => match v with | .p x => some (.l (xs.set j x)) | _ => none
  | .t kvs, k => (tkOf k).bind fun k => if kvs.length < 1000000 then (match v with | .p x => some (.t (tPut k x kvs)) | _ => none) else none
  | _, _ => none
/-- what stands at a place of the frame is changed -/
def chg {α : Type} (ρ : Env) (i : Nat) (k : Option PyData) (f : D → Option (α × D)) : Option (α × Env) :=
  match slot ρ i, k with
  | some d, none => (f d).map fun (a, d') => (a, ρ.set i (some d'))
  | some d, some k => (getAt d k).bind fun e => (f e).bind fun (a, e') => (setAt d k e').map fun d' => (a, ρ.set i (some d'))
  | none, _ => none
def meth : Mt → List PyData → D → Option (PyData × D)
  | .append, [x], .l xs => if xs.length < sizeLine then some (.none, .l (xs ++ [x])) else none
  | .extend, [.list ys], .l xs => if xs.length + ys.length ≤ sizeLine then some (.none, .l (xs ++ ys)) else none
  | .pop, [], .l xs => (xs[xs.length - 1]?).map fun x => (x, .l xs.dropLast)
  | .pop, [.int i], .l xs => if small62 i then (seqIndex? i xs.length).bind fun j => (xs[j]?).map fun x => (x, .l (xs.eraseIdx j)) else none
  | .insert, [.int i, x], .l xs => if small62 i && decide (0 ≤ i) && decide (xs.length < sizeLine) then some (.none, .l (xs.take i.toNat ++ [x] ++ xs.drop i.toNat)) else none
  | .remove, [.int k], .l xs => (intsOf xs).bind fun ns => if k ∈ ns then some (.none, .l ((ns.eraseIdx (ns.idxOf k)).map .int)) else none
  | _, _, _ => none
def wipe (ρ : Env) : List Nat → Env
  | [] => ρ
  | v :: vs => (wipe ρ vs).set v none
mutual
/-- an item into its names -/
def bindT : Tg → PyData → Env → Option Env
  | .n i, x, ρ => some (ρ.set i (some (.p x)))
  | .t ts, .tuple xs, ρ => bindTs ts xs ρ
  | .t _, _, _ => none
def bindTs : List Tg → List PyData → Env → Option Env
  | [], [], ρ => some ρ
  | t :: ts, x :: xs, ρ => (bindT t x ρ).bind (bindTs ts xs)
  | _, _, _ => none
end
/-- a list that is walked is taken from the frame, and put back behind -/
def lock (ρ : Env) : Option Nat → Option (Option (Nat × List PyData) × Env)
  | none => some (none, ρ)
  | some i => match slot ρ i with
    | some (.l xs) => some (some (i, xs), ρ.set i none)
    | _ => none
def unlock (ρ : Env) : Option (Nat × List PyData) → Env
  | none => ρ
  | some (i, xs) => ρ.set i (some (.l xs))
def Res.calm {α : Type} : Res α → Res α
  | .ex _ _ => .st
  | r => r
/-- what a loop walks: plain things, or a list of one's own in slot j -/
def wargs (lk : Option Nat) (ρ : Env) (ts : List T) : Option (List PyData) := match lk with
  | none => pures ts
  | some j => (match ts with | [.r i] => if i = j then (match slot ρ j with | some (.l xs) => some [.list xs] | _ => none) else none | _ => none)
/-- the turns of a comprehension -/
def lcL (own : List Nat) (tg : Tg) (tst : Env → Res Bool) (elt : Env → Res T) : List PyData → List PyData → Env → Res (List PyData)
  | [], acc, ρ => .ok acc ρ
  | x :: xs, acc, ρ => match bindT tg x (wipe ρ own) with
    | none => .st
    | some ρ1 => (tst ρ1).calm.bind fun b ρ2 => if b then (elt ρ2).calm.bind fun t ρ3 => match t.pure with
        | none => .st
        | some y => if acc.length < sizeLine then lcL own tg tst elt xs (acc ++ [y]) (wipe ρ3 own) else .st
      else lcL own tg tst elt xs acc (wipe ρ2 own)
/-- the arguments of a call: what is handed over by its name is taken from the frame -/
def takeArgs : List T → Env → Option (List D × Env)
  | [], ρ => some ([], ρ)
  | .o d :: r, ρ => (takeArgs r ρ).map fun (ds, ρ') => (d :: ds, ρ')
  | .r i :: r, ρ => (slot ρ i).bind fun d => (takeArgs r (ρ.set i none)).map fun (ds, ρ') => (d :: ds, ρ')
  | _, _ => none
/-- .. and put back -/
def putBack : List T → List (Option D) → Env → Env
  | .r i :: r, d :: ds, ρ => (putBack r ds ρ).set i d
  | .o _ :: r, _ :: ds, ρ => putBack r ds ρ
  | _, _, ρ => ρ
def has (ρ : Env) (i : Nat) : Bool := (slot ρ i).isSome
def isOwnL : D → Bool
  | .l _ => true
  | _ => false
/-- what is called upon is a list of one's own -/
def isL (ρ : Env) (i : Nat) (k : Option PyData) : Bool := match slot ρ i, k with
  | some d, none => isOwnL d
  | some d, some k => (match getAt d k with | some e => isOwnL e | none => false)
  | none, _ => false
/-- a list that is not shared -/
def T.lst (ρ : Env) : T → Option (List PyData)
  | .o (.l xs) => some xs
  | .r i => (match slot ρ i with | some (.l xs) => some xs | _ => none)
  | .q xs => some xs
  | _ => none
/-- a method's arguments -/
def margs (m : Mt) (ρ : Env) (ts : List T) : Option (List PyData) := match m, ts with
  | .extend, [t] => (t.lst ρ).map fun xs => [.list xs]
  | .extend, _ => none
  | _, ts => pures ts
/-- there is something at the key -/
def atK (ρ : Env) (i : Nat) (k : Option PyData) : Bool := match k with
  | none => true
  | some kv => ((slot ρ i).bind fun d => getAt d kv).isSome
mutual
/-- nothing that stands is changed by it -/
def E.quiet : E → Bool
  | .c _ | .v _ | .mv _ | .pk _ | .io _ => true
  | .path _ k => k.quiet
  | .star e | .fz e | .neg e | .not e | .rev e => e.quiet
  | .dct .. => false
  | .tup es | .lst es | .lsg es | .bi _ es => quiets es
  | .bin _ a b | .cmp _ a b | .and a b | .or a b | .at a b => a.quiet && b.quiet
  | .chain .. => false
  | .ife .. => false
  | .sl .. => false
  | .lc .. => false
  | .call .. => false
  | .callk .. => false
  | .mut .. => false
  | .kat _ e => e.quiet
  | .kin _ _ e => e.quiet
  | .kds .. => false
  | .kln _ => true
  | .kso e => e.quiet
  | .kls e => e.quiet
def quiets : List E → Bool
  | [] => true
  | e :: r => e.quiet && quiets r
end
/-- a list that is looked at must stand till it is used -/
def qok (t : T) (b : E) : Bool := !isQ t || b.quiet
def prm {α : Type} : List Nat → List α → Option (List α)
  | [], _ => some []
  | k :: ks, xs => match xs[k]?, prm ks xs with | some x, some r => some (x :: r) | _, _ => none
def kCall (F : FT) (f : Nat) (ts : List T) (ρ1 : Env) : Res T := match takeArgs ts ρ1 with
    | none => .st
    | some (ds, ρ2) => match F f ds with
      | .st => .st
      | .ok d outs => if outs.length = ts.length then .ok (.o d) (putBack ts outs ρ2) else .st
      | .ex x outs => if outs.length = ts.length then .ex x (putBack ts outs ρ2) else .st
/-- a dict with tuples for keys -/
def T.tab (ρ : Env) : T → Option (List (NestedKey × PyData))
  | .o (.t kvs) => some kvs
  | .r i => (match slot ρ i with | some (.t kvs) => some kvs | _ => none)
  | _ => none
/-- what stands at a key that is a tuple -/
def katR (i : Nat) (t : T) (ρ : Env) : Res T := match t.pure with
  | some x => (match tkOf x, slot ρ i with
    | some k, some (.t kvs) => (match tGet k kvs with | some y => .ok (.o (.p y)) ρ | none => .st)
    | _, _ => .st)
  | none => .st
def kinR (z : Bool) (i : Nat) (t : T) (ρ : Env) : Res T := match t.pure with
  | some x => (match tkOf x, slot ρ i with
    | some k, some (.t kvs) => .ok (.o (.p (.bool ((tGet k kvs).isSome == z)))) ρ
    | _, _ => .st)
  | none => .st
def kdsR (ds : List D) (ρ : Env) : Res T := match ds with
  | [] => .ok (.o (.t [])) ρ
  | [.p x, .p y] => (match tkOf x with | some k => .ok (.o (.t [(k, y)])) ρ | none => .st)
  | _ => .st
mutual
def ev (F : FT) : E → Env → Res T
  | .c d, ρ => .ok (.o (.p d)) ρ
  | .v i, ρ => match slot ρ i with
    | none => .st
    | some d => match fz d with
      | none => .st
      | some x => .ok (.o (.p x)) (ρ.set i (some (.p x)))
  | .mv i, ρ => match slot ρ i with
    | none => .st
    | some d => .ok (.o d) (ρ.set i none)
  | .pk i, ρ => match slot ρ i with
    | none => .st
    | some _ => .ok (.r i) ρ
  | .io i, ρ => match slot ρ i with
    | none => .st
    | some _ => .ok (.r i) ρ
  | .path i k, ρ => if has ρ i then (ev F k ρ).bind fun t ρ1 => match t.pure with
    | none => .st
    | some kv => match (slot ρ1 i).bind fun d => getAt d kv with
      | some (.p x) => .ok (.o (.p x)) ρ1
      | some (.l xs) => .ok (.q xs) ρ1
      | _ => .st
    else .st
  | .star _, _ => .st
  | .tup es, ρ => (evd F es ρ).bind fun xs ρ1 => if xs.length ≤ sizeLine then .ok (.o (.p (.tuple xs))) ρ1 else .st
  | .lst es, ρ => (evd F es ρ).bind fun xs ρ1 => if xs.length ≤ sizeLine then .ok (.o (.l xs)) ρ1 else .st
  | .lsg es, ρ => (evo F es ρ).bind fun xs ρ1 => if xs.length ≤ sizeLine then .ok (.o (.g xs)) ρ1 else .st
  | .dct ks es, ρ => (evo F es ρ).bind fun xs ρ1 => if ks.Nodup && decide (ks.length = xs.length) && decide (ks.length ≤ 15) then .ok (.o (.d (ks.zip xs))) ρ1 else .st
  | .fz e, ρ => (ev F e ρ).bind fun t ρ1 => match t with
    | .o d => (match fz d with | some x => .ok (.o (.p x)) ρ1 | none => .st)
    | _ => .st
  | .bin o a b, ρ => (ev F a ρ).bind fun t ρ1 => if qok t b then (ev F b ρ1).bind fun u ρ2 => match t.dat ρ2, u.dat ρ2 with
    | some x, some y => (match bin o x y with | some d => .ok (.o d) ρ2 | none => .st)
    | _, _ => .st else .st
  | .cmp o a b, ρ => (ev F a ρ).bind fun t ρ1 => if qok t b then (ev F b ρ1).bind fun u ρ2 => match t.dat ρ2, u.dat ρ2 with
    | some x, some y => (match cmpD o x y with | some k => .ok (.o (.p (.bool k))) ρ2 | none => .st)
    | _, _ => .st else .st
  | .chain o o' a b c, ρ => (ev F a ρ).bind fun t ρ1 => if isQ t then .st else (ev F b ρ1).bind fun u ρ2 => if isQ u then .st else match t.dat ρ2, u.dat ρ2 with
    | some x, some y => (match cmpD o x y with
      | some true => (ev F c ρ2).bind fun w ρ3 => (match u.dat ρ3, w.dat ρ3 with
        | some y, some z => (match cmpD o' y z with | some k => .ok (.o (.p (.bool k))) ρ3 | none => .st)
        | _, _ => .st)
      | some false => .ok (.o (.p (.bool false))) ρ2
      | none => .st)
    | _, _ => .st
  | .neg a, ρ => (ev F a ρ).bind fun t ρ1 => match t.pure with
    | some (.int i) => .ok (.o (.p (.int (-i)))) ρ1
    | _ => .st
  | .not a, ρ => (ev F a ρ).bind fun t ρ1 => match (t.dat ρ1).bind truth with
    | some k => .ok (.o (.p (.bool (!k)))) ρ1
    | none => .st
  | .and a b, ρ => (ev F a ρ).bind fun t ρ1 => match t.pure with
    | none => .st
    | some x => match truth x with
      | some true => ev F b ρ1
      | some false => .ok t ρ1
      | none => .st
  | .or a b, ρ => (ev F a ρ).bind fun t ρ1 => match t.pure with
    | none => .st
    | some x => match truth x with
      | some true => .ok t ρ1
      | some false => ev F b ρ1
      | none => .st
  | .ife c a b, ρ => (tst F c ρ).bind fun k ρ1 => if k then ev F a ρ1 else ev F b ρ1
  | .at a i, ρ => (ev F a ρ).bind fun t ρ1 => if qok t i then (ev F i ρ1).bind fun u ρ2 => match t.dat ρ2, u.dat ρ2 with
    | some x, some y => (match atD x y with | some d => .ok (.o (.p d)) ρ2 | none => .st)
    | _, _ => .st else .st
  | .sl a lo hi, ρ => (ev F a ρ).bind fun t ρ1 => if isQ t then .st else (evi F lo ρ1).bind fun l ρ2 => (evi F hi ρ2).bind fun h ρ3 => match t.dat ρ3 with
    | some x => (match slD x l h with | some d => .ok (.o d) ρ3 | none => .st)
    | none => .st
  | .rev a, ρ => (ev F a ρ).bind fun t ρ1 => match (t.dat ρ1).bind revD with
    | some d => .ok (.o d) ρ1
    | none => .st
  | .bi b es, ρ => (evl F es ρ).bind fun ts ρ1 => match (dats ρ1 ts).bind (bi b) with
    | some d => .ok (.o d) ρ1
    | none => .st
  | .lc own tg k lk its cond elt, ρ => (evl F its ρ).bind fun ts ρ1 => match (wargs lk ρ1 ts).bind (walk k), lock ρ1 lk with
    | some xs, some (l, ρ2) => (lcL own tg (tests F cond) (ev F elt) xs [] ρ2).bind fun ys ρ3 => .ok (.o (.l ys)) (unlock ρ3 l)
    | _, _ => .st
  | .call f es, ρ => (evl F es ρ).bind fun ts ρ1 => kCall F f ts ρ1
  | .callk f es ks ws, ρ => (evl F es ρ).bind fun ts ρ1 => if ts.any isQ then .st else (evl F ws ρ1).bind fun us ρ2 => match prm ks us with
    | some us => kCall F f (ts ++ us) ρ2
    | none => .st
  | .mut m i key es, ρ => if has ρ i then (evk F key ρ).bind fun k ρ1 => if isL ρ1 i k then (evl F es ρ1).bind fun ts ρ2 => if k.isNone || quiets es then
      match margs m ρ2 ts with
      | some xs => (match chg ρ2 i k (meth m xs) with | some (x, ρ3) => .ok (.o (.p x)) ρ3 | none => .st)
      | none => .st
    else .st else .st else .st
  | .kat i e, ρ => if has ρ i then (ev F e ρ).bind fun t ρ1 => katR i t ρ1 else .st
  | .kin z i e, ρ => (ev F e ρ).bind fun t ρ1 => kinR z i t ρ1
  | .kds es, ρ => (evo F es ρ).bind fun ds ρ1 => kdsR ds ρ1
  | .kln i, ρ => match slot ρ i with
    | some (.t kvs) => .ok (.o (.p (.int ((kvs.length : Nat) : Int)))) ρ
    | _ => .st
  | .kso e, ρ => (ev F e ρ).bind fun t ρ1 => match (t.tab ρ1).bind prKeys with
    | some ps => .ok (.o (.l ((psort ps).map prD))) ρ1
    | none => .st
  | .kls e, ρ => (ev F e ρ).bind fun t ρ1 => match t.tab ρ1 with
    | some kvs => .ok (.o (.l (kvs.map fun p => unK p.1))) ρ1
    | none => .st
/-- a part of a slice -/
def evi (F : FT) : List E → Env → Res (Option Int)
  | [], ρ => .ok none ρ
  | [e], ρ => (ev F e ρ).bind fun t ρ1 => match t.pure with
    | some (.int i) => .ok (some i) ρ1
    | _ => .st
  | _, _ => .st
/-- a key, if any -/
def evk (F : FT) : List E → Env → Res (Option PyData)
  | [], ρ => .ok none ρ
  | [e], ρ => (ev F e ρ).bind fun t ρ1 => match t.pure with
    | some x => .ok (some x) ρ1
    | none => .st
  | _, _ => .st
/-- operands, looked at -/
def evl (F : FT) : List E → Env → Res (List T)
  | [], ρ => .ok [] ρ
  | e :: r, ρ => (ev F e ρ).bind fun t ρ1 => if !isQ t || quiets r then (evl F r ρ1).bind fun ts ρ2 => .ok (t :: ts) ρ2 else .st
/-- plain items, with stars -/
def evd (F : FT) : List E → Env → Res (List PyData)
  | [], ρ => .ok [] ρ
  | .star e :: r, ρ => (ev F e ρ).bind fun t ρ1 => match (t.dat ρ1).bind items with
    | none => .st
    | some ys => (evd F r ρ1).bind fun xs ρ2 => .ok (ys ++ xs) ρ2
  | e :: r, ρ => (ev F e ρ).bind fun t ρ1 => match t.pure with
    | none => .st
    | some x => (evd F r ρ1).bind fun xs ρ2 => .ok (x :: xs) ρ2
/-- items of any kind -/
def evo (F : FT) : List E → Env → Res (List D)
  | [], ρ => .ok [] ρ
  | e :: r, ρ => (ev F e ρ).bind fun t ρ1 => match t with
    | .o d => (evo F r ρ1).bind fun xs ρ2 => .ok (d :: xs) ρ2
    | _ => .st
def tests (F : FT) : List E → Env → Res Bool
  | [], ρ => .ok true ρ
  | [c], ρ => tst F c ρ
  | _, _ => .st
/-- what is asked of a test -/
def tst (F : FT) : E → Env → Res Bool
  | .and a b, ρ => (tst F a ρ).bind fun k ρ1 => if k then tst F b ρ1 else .ok false ρ1
  | .or a b, ρ => (tst F a ρ).bind fun k ρ1 => if k then .ok true ρ1 else tst F b ρ1
  | .not a, ρ => (tst F a ρ).bind fun k ρ1 => .ok (!k) ρ1
  | e, ρ => (ev F e ρ).bind fun t ρ1 => match (t.dat ρ1).bind truth with
    | some k => .ok k ρ1
    | none => .st
end
/-! ### statements -/
inductive Fl where
  | st | nx (ρ : Env) | rt (d : D) (ρ : Env) | bk (ρ : Env) | ct (ρ : Env) | ex (x : Ex) (ρ : Env)
def Fl.seq (f : Fl) (k : Env → Fl) : Fl := match f with
  | .nx ρ => k ρ
  | f => f
def Res.fl {α : Type} (r : Res α) (k : α → Env → Fl) : Fl := match r with
  | .st => .st | .ok a ρ => k a ρ | .ex x ρ => .ex x ρ
mutual
/-- a thing stored -/
def sto (F : FT) : Lv → D → Env → Res Unit
  | .n i, d, ρ => .ok () (ρ.set i (some d))
  | .t ts, .p (.tuple xs), ρ => if xs.length = ts.length then stos F ts xs ρ else .st
  | .t _, _, _ => .st
  | .ix i key a, d, ρ => if has ρ i then (evk F key ρ).bind fun k ρ1 => if atK ρ1 i k then (ev F a ρ1).bind fun u ρ2 => if k.isNone || a.quiet then
      match u.pure with
      | some y => (match chg ρ2 i k (fun e => (setAt e y d).map fun e' => ((), e')) with | some (_, ρ3) => .ok () ρ3 | none => .st)
      | none => .st
    else .st else .st else .st
def stos (F : FT) : List Lv → List PyData → Env → Res Unit
  | [], [], ρ => .ok () ρ
  | t :: ts, x :: xs, ρ => (sto F t (.p x) ρ).bind fun _ ρ1 => stos F ts xs ρ1
  | _, _, _ => .st
end
def stoD (F : FT) : List Lv → List D → Env → Res Unit
  | [], [], ρ => .ok () ρ
  | t :: ts, x :: xs, ρ => (sto F t x ρ).bind fun _ ρ1 => stoD F ts xs ρ1
  | _, _, _ => .st
def forL (tg : Tg) (body : Env → Fl) : List PyData → Env → Fl
  | [], ρ => .nx ρ
  | x :: xs, ρ => match bindT tg x ρ with
    | none => .st
    | some ρ1 => match body ρ1 with
      | .nx ρ2 => forL tg body xs ρ2
      | .ct ρ2 => forL tg body xs ρ2
      | .bk ρ2 => .nx ρ2
      | f => f
def whileL (c : Env → Res Bool) (body : Env → Fl) : Nat → Env → Fl
  | 0, _ => .st
  | n + 1, ρ => (c ρ).fl fun b ρ1 => if b then match body ρ1 with
      | .nx ρ2 => whileL c body n ρ2
      | .ct ρ2 => whileL c body n ρ2
      | .bk ρ2 => .nx ρ2
      | f => f
    else .nx ρ1
def Fl.unlock (f : Fl) (lk : Option (Nat × List PyData)) : Fl := match f with
  | .nx ρ => .nx (L3.unlock ρ lk)
  | .rt d ρ => .rt d (L3.unlock ρ lk)
  | .ex x ρ => .ex x (L3.unlock ρ lk)
  | f => f
def fuel : Nat := 2 ^ 64
mutual
def exs (F : FT) : S → Env → Fl
  | .asg t e, ρ => (ev F e ρ).fl fun u ρ1 => match u with
    | .o d => (sto F t d ρ1).fl fun _ ρ2 => .nx ρ2
    | _ => .st
  | .asgs ts es, ρ => (evo F es ρ).fl fun ds ρ1 => (stoD F ts ds ρ1).fl fun _ ρ2 => .nx ρ2
  | .expr e, ρ => (ev F e ρ).fl fun _ ρ1 => .nx ρ1
  | .ret e, ρ => (ev F e ρ).fl fun u ρ1 => match u with
    | .o d => .rt d ρ1
    | _ => .st
  | .ifs c a b, ρ => (tst F c ρ).fl fun k ρ1 => if k then exb F a ρ1 else exb F b ρ1
  | .for tg k lk its body, ρ => (evl F its ρ).fl fun ts ρ1 => match (wargs lk ρ1 ts).bind (walk k), lock ρ1 lk with
    | some xs, some (l, ρ2) => (forL tg (exb F body) xs ρ2).unlock l
    | _, _ => .st
  | .while c body, ρ => whileL (tst F c) (exb F body) fuel ρ
  | .brk, ρ => .bk ρ
  | .cnt, ρ => .ct ρ
  | .pass, ρ => .nx ρ
def exb (F : FT) : List S → Env → Fl
  | [], ρ => .nx ρ
  | s :: r, ρ => (exs F s ρ).seq (exb F r)
end
/-! ### defs -/
structure Def where
  np : Nat
  ns : Nat
  io : List Nat
  body : List S
def outs (ρ : Env) (n : Nat) (io : List Nat) : List (Option D) :=
  (List.range n).map fun i => if i ∈ io then slot ρ i else none
def callF (P : List Def) : Nat → FT
  | 0, _, _ => .st
  | n + 1, f, ds => match P[f]? with
    | none => .st
    | some d => if ds.length = d.np then
        match exb (callF P n) d.body (ds.map some ++ List.replicate (d.ns - d.np) none) with
        | .rt v ρ => .ok v (outs ρ d.np d.io)
        | .nx ρ => .ok (.p .none) (outs ρ d.np d.io)
        | .ex x ρ => .ex x (outs ρ d.np d.io)
        | _ => .st
      else .st
end L3

namespace L3
open PySem PySem.Spec PyProof.Rows L2
/-! ### slots -/
theorem slot_lt {ρ : Env} {i : Nat} {d : D} (h : slot ρ i = some d) : i < ρ.length := by
  unfold slot at h
  cases e : ρ[i]? with
  | none => rw [e] at h; cases h
  | some o => exact (List.getElem?_eq_some_iff.mp e).1
theorem slot_set {ρ : Env} {i j : Nat} {d : Option D} : slot (ρ.set i d) j = if i = j ∧ i < ρ.length then d else slot ρ j := by
  unfold slot
  rw [List.getElem?_set]
  by_cases e : i = j
  · subst e
    by_cases q : i < ρ.length
    · simp [q]
    · simp [q, List.getElem?_eq_none (Nat.le_of_not_lt q)]
  · simp [e]
def hset (hs : Nat → Hp) (i : Nat) (h : Hp) : Nat → Hp := fun j => if j = i then h else hs j
theorem hset_same {hs : Nat → Hp} {i : Nat} {h : Hp} : hset hs i h i = h := if_pos rfl
theorem hset_ne {hs : Nat → Hp} {i j : Nat} {h : Hp} (e : j ≠ i) : hset hs i h j = hs j := if_neg e
section
variable {K : PySem.W.Frag} {P H : Hp} {σ : L2.St} {ρ : Env} {hs : Nat → Hp}
/-- a slot's thing is another, its own heap h, apart from all else -/
theorem Sta.put (st : Sta K P H σ ρ hs) {i : Nat} {d : Option D} {h : Hp} (hi : i < ρ.length) (s : Sub h H) (dj : ∀ j, j ≠ i → Dj h (hs j)) (dp : Dj P h)
    (hd : ∀ x, d = some x → ∃ v, σ[i]? = some (some v) ∧ Own K P v x h) (hn : d = none → h = L3.emp) : Sta K P H σ (ρ.set i d) (hset hs i h) := by
  refine ⟨st.sub, fun j => ?_, fun j k e => ?_, fun j => ?_, by simpa using st.len, fun j e => ?_, fun j x e => ?_⟩
  · by_cases q : j = i
    · subst q; rw [hset_same]; exact s
    · rw [hset_ne q]; exact st.own j
  · by_cases q : j = i
    · subst q
      rw [hset_same, hset_ne (Ne.symm e)]
      exact dj k (Ne.symm e)
    · by_cases r : k = i
      · subst r
        rw [hset_same, hset_ne q]
        exact (dj j q).symm
      · rw [hset_ne q, hset_ne r]; exact st.dj j k e
  · by_cases q : j = i
    · subst q; rw [hset_same]; exact dp
    · rw [hset_ne q]; exact st.djP j
  · rw [slot_set] at e
    by_cases q : j = i
    · subst q
      rw [if_pos ⟨rfl, hi⟩] at e
      rw [hset_same]; exact hn e
    · rw [if_neg (fun z => q z.1.symm)] at e
      rw [hset_ne q]; exact st.emp j e
  · rw [slot_set] at e
    by_cases q : j = i
    · subst q
      rw [if_pos ⟨rfl, hi⟩] at e
      rw [hset_same]; exact hd x e
    · rw [if_neg (fun z => q z.1.symm)] at e
      rw [hset_ne q]; exact st.at_ j x e
/-- P grows by what is nobody's -/
theorem Sta.grow (st : Sta K P H σ ρ hs) {h : Hp} (s : Sub h H) (dj : ∀ j, Dj h (hs j)) (dp : Dj P h) : Sta K (uni P h) H σ ρ hs :=
  ⟨uni_sub st.sub s, st.own, st.dj, fun i => uni_dj (st.djP i) (dj i), st.len, st.emp, fun i d e => let ⟨v, hv, o⟩ := st.at_ i d e; ⟨v, hv, Own.up uni_left o⟩⟩
/-- what was one's own is shared from here on -/
theorem Nx.grow {h : Hp} {hs' : Nat → Hp} {hd : Hp} (hh : ∀ a, h a ≠ none → (∃ i, hs i a ≠ none) ∨ H a = none) (hs'' : ∀ i a, hs' i a ≠ none → ∃ j, hs j a ≠ none) (hd'' : ∀ a, hd a ≠ none → (∃ j, hs j a ≠ none) ∨ H a = none) : Nx P H hs (uni P h) H hs' hd :=
  ⟨uni_left, fun _ _ e _ => e, fun a z => by
    rcases z with ⟨i, z⟩ | z | ⟨z1, z2⟩
    · exact .inl (hs'' i a z)
    · exact hd'' a z
    · rcases uni_ne.mp z1 with q | q
      · exact absurd z2 q
      · exact hh a q⟩
end
mutual
theorem fz_dp {K : PySem.W.Frag} {P : Hp} : ∀ {d : D} {v : V} {h : Hp} {x : PyData}, Own K P v d h → Dj P h → fz d = some x → Dp K (uni P h) v x
  | .p y, _, _, x, .p o, _, e => by cases e; exact Dp.up uni_left o
  | .l xs, _, _, x, .l o, dj, e => by
    cases e
    exact .lst (SqL.of (uni_right dj _ _ upd_same)) (DpAll.up uni_left o)
  | .k xs, _, _, x, .k o, dj, e => by
    cases e
    exact .lst (SqL.of (uni_right dj _ _ upd_same)) (DpAll.up uni_left o)
  | .g xs, _, _, x, .g (a := a) (vs := vs) (h := h) o hn, dj, e => by
    simp only [fz, Option.map_eq_some_iff] at e
    obtain ⟨ys, e, rfl⟩ := e
    have s : Sub h (upd h a (.lst vs)) := upd_fresh hn
    have q := fzs_dp o (dj.symm |> fun d => (Sub.dj d s).symm) e
    have u : Sub (uni P h) (uni P (upd h a (.lst vs))) := uni_sub uni_left (s.trans (uni_right dj))
    exact .lst (SqL.of (uni_right dj _ _ upd_same)) (DpAll.up u q)
  | .d xs, _, _, x, .d o _ hn, dj, e => by simp [fz] at e
  | .t xs, _, _, x, .t _, dj, e => by simp [fz] at e
theorem fzs_dp {K : PySem.W.Frag} {P : Hp} : ∀ {ds : List D} {vs : List V} {h : Hp} {xs : List PyData}, OwnAll K P vs ds h → Dj P h → fzs ds = some xs → DpAll K (uni P h) vs xs
  | [], _, _, xs, .nil, _, e => by cases e; exact .nil
  | d :: ds, _, _, xs, .cons (h := h) (k := k) o os dhk, dj, e => by
    rw [fzs] at e
    cases q1 : fz d with
    | none => simp [q1] at e
    | some y =>
      cases q2 : fzs ds with
      | none => simp [q1, q2] at e
      | some ys =>
        simp only [q1, q2, Option.some.injEq] at e
        subst e
        have d1 : Dj P h := (Sub.dj dj.symm uni_left).symm
        have d2 : Dj P k := (Sub.dj dj.symm (uni_right dhk)).symm
        exact .cons (Dp.up (uni_sub uni_left (uni_left.trans (uni_right dj))) (fz_dp o d1 q1)) (DpAll.up (uni_sub uni_left ((uni_right dhk).trans (uni_right dj))) (fzs_dp os d2 q2))
end
section
variable {C : Cz} {X : Cx} {sm : Bool} {e : Expr} {P H : Hp} {hs : Nat → Hp} {σ : L2.St} {ρ : Env} {Q : V → Hp → Prop}
/-- plain data told as it stands -/
theorem Post.pl {x : PyData} {v : V} (p : Post C sm (RT C.K σ) P H hs σ (.ok (.o (.p x)) ρ) Q) (st : Sta C.K P H σ ρ hs) (d : Dp C.K P v x) : Q v H :=
  p.now st (show TR C.K P H σ hs v (.o (.p x)) emp from ⟨.p d, Sub.emp _, fun _ => Dj.emp' _, Dj.emp _⟩)
theorem ev_con {d : PyData} {v : V} {t : TE} (h : PE X e t) (ht : ∀ σ H (Q : VK), Q v H → t σ H Q) (dp : ∀ P, Dp C.K P v d) : EV C X sm e (fun ρ => .ok (.o (.p d)) ρ) := by
  refine PE.imp h fun σ H Q => ?_
  rintro ⟨P, hs, ρ, st, p⟩
  exact ht _ _ _ (p.pl st (dp P))
theorem ev_int {i : Int} {j pos} : EV C X sm (.Constant (.int i) j pos) (fun ρ => .ok (.o (.p (.int i))) ρ) := ev_con pe_int (fun _ _ _ q => q) fun _ => .int i
theorem ev_str {i : Str} {j pos} : EV C X sm (.Constant (.str i) j pos) (fun ρ => .ok (.o (.p (.str i))) ρ) := ev_con pe_str (fun _ _ _ q => q) fun _ => .str i
theorem ev_bl {i : Bool} {j pos} : EV C X sm (.Constant (.bool i) j pos) (fun ρ => .ok (.o (.p (.bool i))) ρ) := ev_con pe_bl (fun _ _ _ q => q) fun _ => .bl i
theorem ev_non {j pos} : EV C X sm (.Constant .none j pos) (fun ρ => .ok (.o (.p .none)) ρ) := ev_con pe_non (fun _ _ _ q => q) fun _ => .non
theorem Sta.slot_at {K : PySem.W.Frag} (st : Sta K P H σ ρ hs) {i : Nat} {d : D} (h : slot ρ i = some d) : ∃ v, σ[i]? = some (some v) ∧ Own K P v d (hs i) := st.at_ i d h
/-- a slot's thing shared -/
theorem Sta.share {K : PySem.W.Frag} (st : Sta K P H σ ρ hs) {i : Nat} {d : D} {x : PyData} (h : slot ρ i = some d) (e : fz d = some x) : ∃ v, σ[i]? = some (some v) ∧ Dp K (uni P (hs i)) v x ∧
    Sta K (uni P (hs i)) H σ (ρ.set i (some (.p x))) (hset hs i L3.emp) ∧ Nx P H hs (uni P (hs i)) H (hset hs i L3.emp) L3.emp := by
  obtain ⟨v, hv, o⟩ := st.at_ i d h
  have dp := fz_dp o (st.djP i) e
  have s1 : Sta K P H σ (ρ.set i none) (hset hs i L3.emp) := st.put (slot_lt h) (Sub.emp _) (fun _ _ => Dj.emp' _) (Dj.emp _) (fun _ z => nomatch z) fun _ => rfl
  have dj1 : ∀ j, Dj (hs i) (hset hs i L3.emp j) := fun j => by
    by_cases q : j = i
    · subst q; rw [hset_same]; exact Dj.emp _
    · rw [hset_ne q]; exact st.dj i j (Ne.symm q)
  have s2 := s1.grow (st.own i) dj1 (st.djP i)
  have s3 := s2.put (i := i) (d := some (.p x)) (h := L3.emp) (by simpa using slot_lt h) (Sub.emp _) (fun _ _ => Dj.emp' _) (Dj.emp _) (fun y z => by cases z; exact ⟨v, hv, .p dp⟩) (fun z => nomatch z)
  have e1 : (ρ.set i none).set i (some (D.p x)) = ρ.set i (some (.p x)) := by simp
  have e2 : hset (hset hs i L3.emp) i L3.emp = hset hs i L3.emp := by
    funext j
    unfold hset
    by_cases q : j = i <;> simp [q]
  rw [e1, e2] at s3
  refine ⟨v, hv, dp, s3, Nx.grow (fun a z => .inl ⟨i, z⟩) (fun j a z => ?_) (fun a z => absurd rfl z)⟩
  by_cases q : j = i
  · subst q; rw [hset_same] at z; exact absurd rfl z
  · rw [hset_ne q] at z; exact ⟨j, z⟩
theorem ev_v {i : Nat} {x : Str} {pos : Pos} (hN : X.N[i]? = some x) (hv : Vis X.env.scope x) (hd : (x == ("__debug__" : Str)) = false) (hcd : (x == ("__classdict__" : Str)) = false) (F : FT) : EV C X sm (.Name x pos) (ev F (.v i)) := by
  refine PE.imp (pe_var hN hv hd hcd) fun σ H Q => ?_
  rintro ⟨P, hs, ρ, st, p⟩
  rw [ev] at p
  cases q : slot ρ i with
  | none => rw [q] at p; exact p.elim
  | some d =>
    rw [q] at p
    simp only at p
    cases e : fz d with
    | none => rw [e] at p; exact p.elim
    | some y =>
      rw [e] at p
      obtain ⟨v, hv, dp, s, n⟩ := st.share q e
      exact ⟨v, hv, p v _ _ _ L3.emp s ⟨.p dp, Sub.emp _, fun _ => Dj.emp' _, Dj.emp _⟩ n fun _ => Same.refl _⟩
theorem ev_mv {i : Nat} {x : Str} {pos : Pos} (hN : X.N[i]? = some x) (hv : Vis X.env.scope x) (hd : (x == ("__debug__" : Str)) = false) (hcd : (x == ("__classdict__" : Str)) = false) (F : FT) : EV C X sm (.Name x pos) (ev F (.mv i)) := by
  refine PE.imp (pe_var hN hv hd hcd) fun σ H Q => ?_
  rintro ⟨P, hs, ρ, st, p⟩
  rw [ev] at p
  cases q : slot ρ i with
  | none => rw [q] at p; exact p.elim
  | some d =>
    rw [q] at p
    obtain ⟨v, hv, o⟩ := st.at_ i d q
    have s1 : Sta C.K P H σ (ρ.set i none) (hset hs i L3.emp) := st.put (slot_lt q) (Sub.emp _) (fun _ _ => Dj.emp' _) (Dj.emp _) (fun _ z => nomatch z) fun _ => rfl
    refine ⟨v, hv, p v _ _ _ (hs i) s1 ⟨o, st.own i, fun j => ?_, st.djP i⟩ ⟨Sub.refl _, fun _ _ e _ => e, fun a z => ?_⟩ fun _ => Same.refl _⟩
    · by_cases q : j = i
      · subst q; rw [hset_same]; exact Dj.emp _
      · rw [hset_ne q]; exact st.dj i j (Ne.symm q)
    · rcases z with ⟨j, z⟩ | z | ⟨z1, z2⟩
      · by_cases q : j = i
        · subst q; rw [hset_same] at z; exact absurd rfl z
        · rw [hset_ne q] at z; exact .inl ⟨j, z⟩
      · exact .inl ⟨i, z⟩
      · exact absurd z2 z1
theorem ev_pk {i : Nat} {x : Str} {pos : Pos} (hN : X.N[i]? = some x) (hv : Vis X.env.scope x) (hd : (x == ("__debug__" : Str)) = false) (hcd : (x == ("__classdict__" : Str)) = false) (F : FT) : EV C X sm (.Name x pos) (ev F (.pk i)) := by
  refine PE.imp (pe_var hN hv hd hcd) fun σ H Q => ?_
  rintro ⟨P, hs, ρ, st, p⟩
  rw [ev] at p
  cases q : slot ρ i with
  | none => rw [q] at p; exact p.elim
  | some d =>
    rw [q] at p
    obtain ⟨v, hv, o⟩ := st.at_ i d q
    exact ⟨v, hv, p.now st ⟨rfl, hv⟩⟩
theorem ev_io {i : Nat} {x : Str} {pos : Pos} (hN : X.N[i]? = some x) (hv : Vis X.env.scope x) (hd : (x == ("__debug__" : Str)) = false) (hcd : (x == ("__classdict__" : Str)) = false) (F : FT) : EV C X sm (.Name x pos) (ev F (.io i)) := by
  have e : ev F (.io i) = ev F (.pk i) := by funext ρ; simp only [ev]
  rw [e]
  exact ev_pk hN hv hd hcd F
/-- two operands, then an operation of data -/
theorem two {sa sb : Bool} {a b : Expr} {fa fb : Env → Res T} {qb : T → Bool} {k : T → T → Env → Res T} {r : R2} (ha : EV C X sa a fa) (hb : EV C X sb b fb) (hq : ∀ t, qb t = true → isQ t = true → sb = true) (hsa : sm = true → sa = true) (hsb : sm = true → sb = true)
    (hk : ∀ P H hs ρ v u t w, Sta C.K P H σ ρ hs → (∀ x, t.dat ρ = some x → Opd C.K P H v x) → (∀ x, w.dat ρ = some x → Opd C.K P H u x) → Post C sm (RT C.K σ) P H hs σ (k t w ρ) Q → r v u H Q)
    (h : rd C sm (RT C.K) (fun ρ => (fa ρ).bind fun t ρ1 => if qb t then (fb ρ1).bind fun w ρ2 => k t w ρ2 else .st) σ H Q) : tOp r (rd C sa (RT C.K) fa) (rd C sb (RT C.K) fb) σ H Q := by
  obtain ⟨P, hs, ρ, st, p⟩ := h
  refine ⟨P, hs, ρ, st, (p.then (R1 := RT C.K σ) hsa).imp fun v H1 => ?_⟩
  rintro ⟨P1, hs1, ρ1, t, hd1, st1, r1, n1, s1, _, p1⟩
  by_cases qt : qb t = true
  · rw [if_pos qt] at p1
    refine ⟨P1, hs1, ρ1, st1, (p1.then (R1 := RT C.K σ) hsb).imp fun u H2 => ?_⟩
    rintro ⟨P2, hs2, ρ2, w, hd2, st2, r2, n2, s2, _, p2⟩
    have l := (r1.later n2 fun z => s2 (hq t qt z)).1
    exact hk P2 H2 hs2 ρ2 v u t w st2 (fun x e => l.opd st2 e) (fun x e => r2.opd st2 e) p2
  · rw [if_neg qt] at p1
    exact p1.elim
end
end L3

namespace L3
open PySem PySem.Spec PyProof.Rows L2
section
variable {C : Cz} {X : Cx} {sm : Bool} {e a b c : Expr} {P H : Hp} {hs : Nat → Hp} {σ : L2.St} {ρ : Env} {Q : V → Hp → Prop} {F : FT} {ea eb ec : E} {pos : Pos}
theorem and_l {x y : Bool} (h : (x && y) = true) : x = true := (Bool.and_eq_true_iff.mp h).1
theorem and_r {x y : Bool} (h : (x && y) = true) : y = true := (Bool.and_eq_true_iff.mp h).2
theorem qok_q {t : T} {e : E} (h : qok t e = true) (q : isQ t = true) : e.quiet = true := by
  unfold qok at h
  rw [q] at h
  simpa using h
def kBin (o : BOp) (t u : T) (ρ2 : Env) : Res T := match t.dat ρ2, u.dat ρ2 with
    | some x, some y => (match bin o x y with | some d => .ok (.o d) ρ2 | none => .st)
    | _, _ => .st
theorem ev_bin_eq {o : BOp} : ev F (.bin o ea eb) = fun ρ => (ev F ea ρ).bind fun t ρ1 => if qok t eb then (ev F eb ρ1).bind fun u ρ2 => kBin o t u ρ2 else .st := by
  funext ρ; simp only [ev, kBin] <;> rfl
theorem kBin_post {o : BOp} {t u : T} {v w : V} (hK : X.K = C.K) (st : Sta C.K P H σ ρ hs) (h1 : ∀ x, t.dat ρ = some x → Opd C.K P H v x) (h2 : ∀ x, u.dat ρ = some x → Opd C.K P H w x) (p : Post C sm (RT C.K σ) P H hs σ (kBin o t u ρ) Q) : rBin X.K o v w H Q := by
  unfold kBin at p
  cases q1 : t.dat ρ with
  | none => rw [q1] at p; exact p.elim
  | some x =>
    cases q2 : u.dat ρ with
    | none => rw [q1, q2] at p; exact p.elim
    | some y =>
      rw [q1, q2] at p
      simp only at p
      cases q3 : bin o x y with
      | none => rw [q3] at p; exact p.elim
      | some d =>
        rw [q3] at p
        rw [hK]
        exact ⟨P, x, y, d, st.sub, h1 x q1, h2 y q2, q3, fun w P' H' hd n o => p.new st n o⟩
theorem ev_bin {o : BOp} {op : Operator} (ho : OpR X (binaryOp op) (rBin X.K o)) (hK : X.K = C.K) (ha : EV C X ea.quiet a (ev F ea)) (hb : EV C X eb.quiet b (ev F eb)) : EV C X (E.bin o ea eb).quiet (.BinOp a op b pos) (ev F (.bin o ea eb)) := by
  refine PE.imp (pe_op ho ha hb) fun σ H Q h => ?_
  rw [ev_bin_eq] at h
  exact two ha hb (fun t => qok_q) (fun z => and_l (by simpa [E.quiet] using z)) (fun z => and_r (by simpa [E.quiet] using z)) (fun P H hs ρ v u t w st h1 h2 p => kBin_post hK st h1 h2 p) h
def kCmp (o : COp) (t u : T) (ρ2 : Env) : Res T := match t.dat ρ2, u.dat ρ2 with
    | some x, some y => (match cmpD o x y with | some k => .ok (.o (.p (.bool k))) ρ2 | none => .st)
    | _, _ => .st
theorem ev_cmp_eq {o : COp} : ev F (.cmp o ea eb) = fun ρ => (ev F ea ρ).bind fun t ρ1 => if qok t eb then (ev F eb ρ1).bind fun u ρ2 => kCmp o t u ρ2 else .st := by
  funext ρ; simp only [ev, kCmp] <;> rfl
theorem kCmp_post {o : COp} {t u : T} {v w : V} (hK : X.K = C.K) (st : Sta C.K P H σ ρ hs) (h1 : ∀ x, t.dat ρ = some x → Opd C.K P H v x) (h2 : ∀ x, u.dat ρ = some x → Opd C.K P H w x) (p : Post C sm (RT C.K σ) P H hs σ (kCmp o t u ρ) Q) : rCmp X.K o v w H Q := by
  unfold kCmp at p
  cases q1 : t.dat ρ with
  | none => rw [q1] at p; exact p.elim
  | some x =>
    cases q2 : u.dat ρ with
    | none => rw [q1, q2] at p; exact p.elim
    | some y =>
      rw [q1, q2] at p
      simp only at p
      cases q3 : cmpD o x y with
      | none => rw [q3] at p; exact p.elim
      | some k =>
        rw [q3] at p
        rw [hK]
        exact ⟨P, x, y, k, st.sub, h1 x q1, h2 y q2, q3, p.pl st (.bl k)⟩
theorem ev_cmp {o : COp} {op : CmpOp} (ho : OpR X (compareOp op) (rCmp X.K o)) (hm : behindInMarks op b = false) (hK : X.K = C.K) (ha : EV C X ea.quiet a (ev F ea)) (hb : EV C X eb.quiet b (ev F eb)) : EV C X (E.cmp o ea eb).quiet (.Compare a [op] [b] pos) (ev F (.cmp o ea eb)) := by
  refine PE.imp (pe_cmpR ho ha hb hm) fun σ H Q h => ?_
  rw [ev_cmp_eq] at h
  exact two ha hb (fun t => qok_q) (fun z => and_l (by simpa [E.quiet] using z)) (fun z => and_r (by simpa [E.quiet] using z)) (fun P H hs ρ v u t w st h1 h2 p => kCmp_post hK st h1 h2 p) h
/-! ### items -/
def kAt (t u : T) (ρ2 : Env) : Res T := match t.dat ρ2, u.dat ρ2 with
    | some x, some y => (match atD x y with | some d => .ok (.o (.p d)) ρ2 | none => .st)
    | _, _ => .st
theorem ev_at_eq : ev F (.at ea eb) = fun ρ => (ev F ea ρ).bind fun t ρ1 => if qok t eb then (ev F eb ρ1).bind fun u ρ2 => kAt t u ρ2 else .st := by
  funext ρ; simp only [ev, kAt] <;> rfl
theorem atI_of {α : Type} {xs : List α} {i : Int} {j : Nat} {v : α} (h : ixN xs.length i = some j) (e : xs[j]? = some v) : atI xs i = some v := by
  unfold atI; rw [h]; exact e
theorem ev_at (hK : X.K = C.K) (hs : PlainIx b) (ha : EV C X ea.quiet a (ev F ea)) (hb : EV C X eb.quiet b (ev F eb)) : EV C X (E.at ea eb).quiet (.Subscript a b pos) (ev F (.at ea eb)) := by
  refine PE.imp (pe_ix ix_seq ha hb hs) fun σ H Q h => ?_
  rw [ev_at_eq] at h
  refine two ha hb (fun t => qok_q) (fun z => and_l (by simpa [E.quiet] using z)) (fun z => and_r (by simpa [E.quiet] using z)) (fun P H hs ρ v u t w st h1 h2 p => ?_) h
  unfold kAt at p
  cases q1 : t.dat ρ with
  | none => rw [q1] at p; exact p.elim
  | some x =>
    cases q2 : w.dat ρ with
    | none => rw [q1, q2] at p; exact p.elim
    | some y =>
      rw [q1, q2] at p
      simp only at p
      cases q3 : atD x y with
      | none => rw [q3] at p; exact p.elim
      | some d =>
        rw [q3] at p
        have o1 := h1 x q1
        have o2 := h2 y q2
        rw [hK]
        cases x <;> cases y <;> simp only [atD, reduceCtorEq, Option.bind_eq_some_iff, Option.ite_none_right_eq_some, Option.map_eq_some_iff, ix] at q3
        case list.int xs i =>
          obtain ⟨j, e1, e2⟩ := q3
          cases o2.int'
          obtain ⟨l, vs, rfl, s1, o⟩ := o1.list st.sub
          obtain ⟨v, e3, dv⟩ := o.at_ e2
          exact .inl ⟨l, vs, i, v, rfl, rfl, s1, atI_of (by rw [o.len]; exact e1) e3, p.pl st dv⟩
        case tuple.int xs i =>
          obtain ⟨j, e1, e2⟩ := q3
          cases o2.int'
          obtain ⟨l, vs, rfl, s1, o⟩ := o1.tuple st.sub
          obtain ⟨v, e3, dv⟩ := o.at_ e2
          exact .inr (.inl ⟨l, vs, i, v, rfl, rfl, SqT.up st.sub s1, atI_of (by rw [o.len]; exact e1) e3, p.pl st dv⟩)
        case str.int z i =>
          obtain ⟨hz, j, e1, c, e2, rfl⟩ := q3
          cases o2.int'
          cases o1.str'
          exact .inr (.inr ⟨z, i, c, rfl, rfl, hz, atI_of e1 e2, p.pl st (.str _)⟩)
/-! ### one operand -/
theorem one {sa : Bool} {fa : Env → Res T} {k : T → Env → Res T} {r : V → Hp → VK → Prop} (hsa : sm = true → sa = true)
    (hk : ∀ P H hs ρ v t hd, Sta C.K P H σ ρ hs → TR C.K P H σ hs v t hd → Post C sm (RT C.K σ) P H hs σ (k t ρ) Q → r v H Q)
    (h : rd C sm (RT C.K) (fun ρ => (fa ρ).bind fun t ρ1 => k t ρ1) σ H Q) : rd C sa (RT C.K) fa σ H fun v H1 => r v H1 Q := by
  obtain ⟨P, hs, ρ, st, p⟩ := h
  refine ⟨P, hs, ρ, st, (p.then (R1 := RT C.K σ) hsa).imp fun v H1 => ?_⟩
  rintro ⟨P1, hs1, ρ1, t, hd1, st1, r1, n1, s1, _, p1⟩
  exact hk P1 H1 hs1 ρ1 v t hd1 st1 r1 p1
theorem ev_neg (ha : EV C X ea.quiet a (ev F ea)) : EV C X (E.neg ea).quiet (.UnaryOp .USub a pos) (ev F (.neg ea)) := by
  refine PE.imp (pe_un un_neg ha) fun σ H Q h => ?_
  have e : ev F (.neg ea) = fun ρ => (ev F ea ρ).bind fun t ρ1 => match t.pure with | some (.int i) => .ok (.o (.p (.int (-i)))) ρ1 | _ => .st := by funext ρ; simp only [ev] <;> rfl
  rw [e] at h
  refine one (fun z => by simpa [E.quiet] using z) (fun P H hs ρ v t hd st r p => ?_) h
  cases q : t.pure with
  | none => rw [q] at p; exact p.elim
  | some x =>
    rw [q] at p
    cases x <;> first | exact p.elim | skip
    rename_i i
    obtain ⟨d, rfl⟩ := r.pl q
    cases d
    exact ⟨i, rfl, p.pl st (.int _)⟩
theorem truV_opd {K : PySem.W.Frag} {P H : Hp} {v : V} {x : PyData} {k : Bool} (s : Sub P H) (o : Opd K P H v x) (e : truth x = some k) : TruV K v H k := by
  cases x <;> simp only [truth, reduceCtorEq, Option.some.injEq, Option.ite_none_right_eq_some] at e
  case none => cases o.non'; exact e.symm
  case bool => cases o.bl'; exact e.symm
  case int => cases o.int'; exact e.symm
  case str => cases o.str'; exact ⟨e.1, e.2.symm⟩
  case list xs =>
    obtain ⟨a, vs, rfl, h1, o1⟩ := o.list s
    refine .inl ⟨vs, h1, ?_⟩
    rw [← e]
    cases o1 <;> rfl
  case tuple xs =>
    obtain ⟨a, vs, rfl, h1, o1⟩ := o.tuple s
    refine .inr (.inl ⟨vs, SqT.up s h1, ?_⟩)
    rw [← e]
    cases o1 <;> rfl
/-! ### tests -/
def plainT : E → Bool
  | .and .. => false | .or .. => false | .not .. => false
  | _ => true
def kT (t : T) (ρ1 : Env) : Res Bool := match (t.dat ρ1).bind truth with | some k => .ok k ρ1 | none => .st
theorem tst_eq (h : plainT ea = true) : tst F ea = fun ρ => (ev F ea ρ).bind kT := by
  cases ea <;> first | (cases h; done) | (funext ρ; simp only [tst]; rfl)
/-- any expression whose truth is asked of its value -/
theorem tv_any (hp : plainT ea = true) (hK : X.K = C.K) (he : ∀ whole, isTrue a X.env whole = (do let v ← whole; standAt a.pos; holding [v] (truthy v))) (ha : EV C X ea.quiet a (ev F ea)) : TV C X a (tst F ea) := by
  refine PT.imp (pt_truth ha he) fun σ H Q => ?_
  rintro ⟨P, hs, ρ, st, p⟩
  rw [tst_eq hp] at p
  refine ⟨P, hs, ρ, st, (p.then (R1 := RT C.K σ) (by intro z; cases z)).imp fun v H1 => ?_⟩
  rintro ⟨P1, hs1, ρ1, t, hd1, st1, r1, n1, s1, _, p1⟩
  unfold kT at p1
  cases q : t.dat ρ1 with
  | none => rw [q] at p1; exact p1.elim
  | some x =>
    cases q2 : truth x with
    | none => simp only [q, Option.bind_some, q2] at p1; exact p1.elim
    | some k =>
      simp only [q, Option.bind_some, q2] at p1
      rw [hK]
      exact ⟨k, truV_opd st1.sub (r1.opd st1 q) q2, p1.now st1 ⟨rfl, rfl⟩⟩
theorem bind_ok {α β : Type} {r : Res α} {k : α → Env → Res β} {b : β} {ρ' : Env} (h : r.bind k = .ok b ρ') : ∃ a ρ1, r = .ok a ρ1 ∧ k a ρ1 = .ok b ρ' := by
  cases r with
  | st => cases h
  | ok a ρ1 => exact ⟨a, ρ1, rfl, h⟩
  | ex => cases h
theorem cmp_bool {o : COp} {t : T} {ρ' : Env} (h : ev F (.cmp o ea eb) ρ = .ok t ρ') : ∃ k, t = .o (.p (.bool k)) := by
  rw [ev_cmp_eq] at h
  obtain ⟨t1, ρ1, _, h⟩ := bind_ok h
  by_cases q : qok t1 eb = true
  · rw [if_pos q] at h
    obtain ⟨u, ρ2, _, h⟩ := bind_ok h
    unfold kCmp at h
    split at h
    · split at h
      · cases h; exact ⟨_, rfl⟩
      · cases h
    · cases h
  · rw [if_neg q] at h; cases h
theorem tv_cmp {o : COp} {op : CmpOp} (ho : OpR X (compareOp op) (rCmp X.K o)) (hm : behindInMarks op b = false) (hK : X.K = C.K) (ha : EV C X ea.quiet a (ev F ea)) (hb : EV C X eb.quiet b (ev F eb)) : TV C X (.Compare a [op] [b] pos) (tst F (.cmp o ea eb)) := by
  refine PT.imp (pt_cmpR ho ha hb hm) fun σ H Q => ?_
  rintro ⟨P, hs, ρ, st, p⟩
  refine two (r := rCmp X.K o) (sm := false) (Q := fun v H' => ∃ k, v = V.bl k ∧ Q k H') (qb := fun t => qok t eb) (k := fun t w ρ2 => kCmp o t w ρ2) ha hb (fun t => qok_q) (by intro z; cases z) (by intro z; cases z)
    (fun P H hs ρ v u t w st h1 h2 p => kCmp_post hK st h1 h2 p) ⟨P, hs, ρ, st, ?_⟩
  have e := congrFun (ev_cmp_eq (F := F) (ea := ea) (eb := eb) (o := o)) ρ
  show Post C false (RT C.K σ) P H hs σ ((ev F ea ρ).bind fun t ρ1 => if qok t eb then (ev F eb ρ1).bind fun w ρ2 => kCmp o t w ρ2 else .st) _
  rw [← e]
  replace p : Post C false (RB σ) P H hs σ ((ev F (.cmp o ea eb) ρ).bind kT) Q := by rw [tst_eq rfl] at p; exact p
  cases q : ev F (.cmp o ea eb) ρ with
  | st => rw [q] at p; exact p
  | ex x ρ' => rw [q] at p; exact p
  | ok t ρ' =>
    rw [q] at p
    intro v P' H' hs' hd st' r' n' s'
    obtain ⟨k, rfl⟩ := cmp_bool q
    obtain ⟨dk, _⟩ := r'.pl rfl
    cases dk
    exact ⟨k, rfl, p k P' H' hs' L3.emp st' ⟨rfl, rfl⟩ n'.drop s'⟩
end
end L3

namespace L3
open PySem PySem.Spec PyProof.Rows L2
section
variable {C : Cz} {X : Cx} {sm : Bool} {e a b c : Expr} {P H : Hp} {hs : Nat → Hp} {σ : L2.St} {ρ : Env} {Q : V → Hp → Prop} {F : FT} {ea eb ec : E} {pos : Pos}
/-- what kT wants -/
theorem kT_post {t : T} {v : V} {hd : Hp} {Q : Bool → Hp → Prop} (st : Sta C.K P H σ ρ hs) (r : TR C.K P H σ hs v t hd) (p : Post C false (RB σ) P H hs σ (kT t ρ) Q) : ∃ k, TruV C.K v H k ∧ Q k H := by
  unfold kT at p
  cases q : t.dat ρ with
  | none => rw [q] at p; exact p.elim
  | some x =>
    cases q2 : truth x with
    | none => simp only [q, Option.bind_some, q2] at p; exact p.elim
    | some k =>
      simp only [q, Option.bind_some, q2] at p
      exact ⟨k, truV_opd st.sub (r.opd st q) q2, p.now st ⟨rfl, rfl⟩⟩
/-! ### not, and, or -/
theorem ev_not (hK : X.K = C.K) (ha : EV C X ea.quiet a (ev F ea)) : EV C X (E.not ea).quiet (.UnaryOp .Not a pos) (ev F (.not ea)) := by
  refine PE.imp (pe_notT ha) fun σ H Q h => ?_
  have e : ev F (.not ea) = fun ρ => (ev F ea ρ).bind fun t ρ1 => match (t.dat ρ1).bind truth with | some k => .ok (.o (.p (.bool (!k)))) ρ1 | none => .st := by funext ρ; simp only [ev] <;> rfl
  rw [e] at h
  refine one (r := fun x H1 Q => ∃ k, TruV X.K x H1 k ∧ Q (.bl (!k)) H1) (fun z => by simpa [E.quiet] using z) (fun P H hs ρ v t hd st r p => ?_) h
  rw [hK]
  cases q : t.dat ρ with
  | none => rw [q] at p; exact p.elim
  | some x =>
    cases q2 : truth x with
    | none => simp only [q, Option.bind_some, q2] at p; exact p.elim
    | some k =>
      simp only [q, Option.bind_some, q2] at p
      exact ⟨k, truV_opd st.sub (r.opd st q) q2, p.pl st (.bl _)⟩
theorem and_post {G : T → Res T} {t : T} {v : V} {hd : Hp} (hK : X.K = C.K) (st : Sta C.K P H σ ρ hs) (r : TR C.K P H σ hs v t hd) {g1 g2 : Res T}
    (p : Post C sm (RT C.K σ) P H hs σ (match t.pure with | none => .st | some x => match truth x with | some true => g1 | some false => g2 | none => .st) Q) :
    ∃ k x, t.pure = some x ∧ truth x = some k ∧ TruV X.K v H k ∧ Dp C.K P v x ∧ Post C sm (RT C.K σ) P H hs σ (if k = true then g1 else g2) Q := by
  cases q : t.pure with
  | none => rw [q] at p; exact p.elim
  | some x =>
    rw [q] at p
    obtain ⟨d, e⟩ := r.pl q
    cases q2 : truth x with
    | none => simp only [q2] at p; exact p.elim
    | some k =>
      simp only [q2] at p
      refine ⟨k, x, rfl, q2, ?_, d, ?_⟩
      · rw [hK]; exact truV_opd st.sub (.pl d) q2
      · cases k <;> exact p
theorem pure_o {t : T} {x : PyData} (h : t.pure = some x) : t = .o (.p x) := by
  cases t with
  | o d => cases d <;> simp [T.pure] at h; subst h; rfl
  | r => cases h
  | q => cases h
theorem ev_and {rest : List Expr} (hK : X.K = C.K) (ha : EV C X ea.quiet a (ev F ea)) (hb : EV C X eb.quiet (.BoolOp .And (b :: rest) pos) (ev F eb)) : EV C X (E.and ea eb).quiet (.BoolOp .And (a :: b :: rest) pos) (ev F (.and ea eb)) := by
  refine PE.imp (pe_andT ha (hb.weak (sm' := (E.and ea eb).quiet) fun z => and_r (by simpa [E.quiet] using z))) fun σ H Q h => ?_
  have e : ev F (.and ea eb) = fun ρ => (ev F ea ρ).bind fun t ρ1 => match t.pure with | none => .st | some x => match truth x with | some true => ev F eb ρ1 | some false => .ok t ρ1 | none => .st := by funext ρ; simp only [ev] <;> rfl
  rw [e] at h
  refine one (r := fun x H1 Q => ∃ k, TruV X.K x H1 k ∧ if k = true then rd C (E.and ea eb).quiet (RT C.K) (ev F eb) _ H1 Q else Q x H1) (fun z => and_l (by simpa [E.quiet] using z)) (fun P H hs ρ v t hd st r p => ?_) h
  obtain ⟨k, x, q1, q2, q3, d, p⟩ := and_post (G := fun _ => .st) hK st r p
  refine ⟨k, q3, ?_⟩
  cases k with
  | true => exact ⟨P, hs, ρ, st, p⟩
  | false =>
    cases pure_o q1
    exact p.pl st d
theorem ev_or {rest : List Expr} (hK : X.K = C.K) (ha : EV C X ea.quiet a (ev F ea)) (hb : EV C X eb.quiet (.BoolOp .Or (b :: rest) pos) (ev F eb)) : EV C X (E.or ea eb).quiet (.BoolOp .Or (a :: b :: rest) pos) (ev F (.or ea eb)) := by
  refine PE.imp (pe_orT ha (hb.weak (sm' := (E.or ea eb).quiet) fun z => and_r (by simpa [E.quiet] using z))) fun σ H Q h => ?_
  have e : ev F (.or ea eb) = fun ρ => (ev F ea ρ).bind fun t ρ1 => match t.pure with | none => .st | some x => match truth x with | some true => .ok t ρ1 | some false => ev F eb ρ1 | none => .st := by funext ρ; simp only [ev] <;> rfl
  rw [e] at h
  refine one (r := fun x H1 Q => ∃ k, TruV X.K x H1 k ∧ if k = true then Q x H1 else rd C (E.or ea eb).quiet (RT C.K) (ev F eb) _ H1 Q) (fun z => and_l (by simpa [E.quiet] using z)) (fun P H hs ρ v t hd st r p => ?_) h
  obtain ⟨k, x, q1, q2, q3, d, p⟩ := and_post (G := fun _ => .st) hK st r p
  refine ⟨k, q3, ?_⟩
  cases k with
  | false => exact ⟨P, hs, ρ, st, p⟩
  | true =>
    cases pure_o q1
    exact p.pl st d
theorem ev_one {op : PySem.BoolOp} (ha : EV C X sm a (ev F ea)) : EV C X sm (.BoolOp op [a] pos) (ev F ea) := pe_one ha
/-! tests -/
theorem tb_then {r : Res Bool} {k : Bool → Env → Res Bool} {Q : Bool → Hp → Prop} (p : Post C false (RB σ) P H hs σ (r.bind k) Q) :
    Post C false (RB σ) P H hs σ r fun c H1 => ∃ P1 hs1 ρ1, Sta C.K P1 H1 σ ρ1 hs1 ∧ Post C false (RB σ) P1 H1 hs1 σ (k c ρ1) Q := by
  refine (p.then (R1 := RB σ) (by intro z; cases z)).imp fun c H1 => ?_
  rintro ⟨P1, hs1, ρ1, t, hd1, st1, ⟨rfl, _⟩, n1, s1, _, p1⟩
  exact ⟨P1, hs1, ρ1, st1, p1⟩
def TW (C : Cz) (X : Cx) (e : Expr) (f : Env → Res Bool) : Prop := PW X e (rd C false RB f)
theorem PW.imp {X : Cx} {e : Expr} {t t' : TT} (h : PW X e t) (i : ∀ σ H Q, t' σ H Q → t σ H Q) : PW X e t' := ⟨fun w pins s σ H Q I q => h.run w pins s σ H Q I (i σ H Q q)⟩
theorem tw_pt (h : TW C X e (tst F ea)) : TV C X e (tst F ea) := ⟨fun pins s σ H Q I q => h.run _ pins s σ H Q I q⟩
theorem tw_and1 (ha : TV C X a (tst F ea)) : TW C X (.BoolOp .And [a] pos) (tst F ea) := pw_and1 ha
theorem tw_or1 (ha : TV C X a (tst F ea)) : TW C X (.BoolOp .Or [a] pos) (tst F ea) := pw_or1 ha
theorem tw_and {rest : List Expr} (ha : TV C X a (tst F ea)) (hb : TW C X (.BoolOp .And (b :: rest) pos) (tst F eb)) : TW C X (.BoolOp .And (a :: b :: rest) pos) (tst F (.and ea eb)) := by
  refine PW.imp (pw_and ha hb) fun σ H Q => ?_
  rintro ⟨P, hs, ρ, st, p⟩
  rw [tst] at p
  refine ⟨P, hs, ρ, st, (tb_then p).imp fun c H1 => ?_⟩
  rintro ⟨P1, hs1, ρ1, st1, p1⟩
  cases c with
  | true => exact ⟨P1, hs1, ρ1, st1, p1⟩
  | false => exact p1.now st1 ⟨rfl, rfl⟩
theorem tw_or {rest : List Expr} (ha : TV C X a (tst F ea)) (hb : TW C X (.BoolOp .Or (b :: rest) pos) (tst F eb)) : TW C X (.BoolOp .Or (a :: b :: rest) pos) (tst F (.or ea eb)) := by
  refine PW.imp (pw_or ha hb) fun σ H Q => ?_
  rintro ⟨P, hs, ρ, st, p⟩
  rw [tst] at p
  refine ⟨P, hs, ρ, st, (tb_then p).imp fun c H1 => ?_⟩
  rintro ⟨P1, hs1, ρ1, st1, p1⟩
  cases c with
  | false => exact ⟨P1, hs1, ρ1, st1, p1⟩
  | true => exact p1.now st1 ⟨rfl, rfl⟩
theorem tv_not (ha : TV C X a (tst F ea)) : TV C X (.UnaryOp .Not a pos) (tst F (.not ea)) := by
  refine PT.imp (pt_not ha) fun σ H Q => ?_
  rintro ⟨P, hs, ρ, st, p⟩
  rw [tst] at p
  refine ⟨P, hs, ρ, st, (tb_then p).imp fun c H1 => ?_⟩
  rintro ⟨P1, hs1, ρ1, st1, p1⟩
  exact p1.now st1 ⟨rfl, rfl⟩
/-! ### a if c else b -/
theorem ev_ife (hc : TV C X c (tst F ec)) (ha : EV C X ea.quiet a (ev F ea)) (hb : EV C X eb.quiet b (ev F eb)) : EV C X false (.IfExp c a b pos) (ev F (.ife ec ea eb)) := by
  refine PE.imp (pe_ifExp hc (ha.weak (sm' := false) fun z => nomatch z) (hb.weak (sm' := false) fun z => nomatch z)) fun σ H Q => ?_
  rintro ⟨P, hs, ρ, st, p⟩
  rw [ev] at p
  refine ⟨P, hs, ρ, st, (p.then (R1 := RB σ) (by intro z; cases z)).imp fun k H1 => ?_⟩
  rintro ⟨P1, hs1, ρ1, t, hd1, st1, ⟨rfl, _⟩, n1, s1, _, p1⟩
  cases k with
  | true => exact ⟨P1, hs1, ρ1, st1, p1⟩
  | false => exact ⟨P1, hs1, ρ1, st1, p1⟩
end
end L3

namespace HT
open PySem PySem.Spec PyProof.Rows PySem.Calls
section
variable {prog : Program} {w : World} {A : Around} {E : Value → Shared → Prop} {s : Shared}
theorem rev_adjust (n : Nat) : Builtin.Slice.sliceAdjust none none (-1) (n : Int) = ((n : Int) - 1, -1) := by
  unfold Builtin.Slice.sliceAdjust
  simp
theorem rev_places (n : Nat) : Builtin.Slice.slicePlaces ((n : Int) - 1) (-1) (-1) = n := by
  unfold Builtin.Slice.slicePlaces
  have h1 : ¬ ((-1 : Int) > 0) := by omega
  simp only [h1, if_false]
  split <;> simp <;> omega
theorem fm_congr {α β : Type} {f g : α → Option β} : ∀ {l : List α}, (∀ x ∈ l, f x = g x) → l.filterMap f = l.filterMap g
  | [], _ => rfl
  | x :: l, h => by
    rw [List.filterMap_cons, List.filterMap_cons, h x (List.mem_cons_self ..), fm_congr fun y hy => h y (List.mem_cons_of_mem _ hy)]
theorem rev_pick (xs : Array Value) : ((List.range xs.size).filterMap fun (m : Nat) => xs[(((xs.size : Int) - 1) + (m : Int) * (-1)).toNat]?).toArray = xs.toList.reverse.toArray := by
  have e : (List.range xs.size).filterMap (fun (m : Nat) => xs[(((xs.size : Int) - 1) + (m : Int) * (-1)).toNat]?) = ((List.range xs.size).map fun k => xs.size - 1 - k).filterMap (xs[·]?) := by
    rw [List.filterMap_map]
    apply fm_congr
    intro m hm
    have : (((xs.size : Int) - 1) + (m : Int) * (-1)).toNat = xs.size - 1 - m := by omega
    simp only [Function.comp, this]
  rw [e, PySem.W.krv_range, List.filterMap_reverse, PySem.W.krv_all]
theorem getItem_tuple_rev {t sl : Addr} {items : Array Value} {vl vu vs : Value} {Q : Value → Shared → Prop} (ht : IsTup s.heap t items) (hs : s.heap.IsSliceOf sl vl vu vs) (pl : IsPart vl none) (pu : IsPart vu none) (ps : IsPart vs (some (-1)))
    (h : Q (.ref s.heap.objs.size) { s with heap := s.heap.push { cls := .type "tuple", data := .seq items.toList.reverse.toArray } })
    (hsz : items.size ≤ sizeLine) : wpAny (model prog w) A (getItem (.ref t) (.ref sl)) Q E s := by
  have htake : sizeOk (.seq items.toList.reverse.toArray) := by
    show items.toList.reverse.toArray.size ≤ sizeLine
    simpa using hsz
  obtain ⟨os, hos, hcs, hds⟩ := id hs
  have hTs : s.TypeIs (.ref sl) "slice" := ⟨os, hos, hcs⟩
  cases pl
  cases pu
  cases ps with
  | int i tk =>
  unfold getItem
  try with_reducible refine wpAny_holding ?_
  first | refine wpAny_bind (wpAny_pure ?_) | skip
  refine wpAny_bind (wpAny_sequenceKey ht.typeIs (by decide) ?_)
  refine wpAny_bind (wpAny_callSpecial?_slot (name := Str.ofString "__getitem__") ht.typeIs PyProof.Rows.slot_tuple_getitem
    (wpAny_call_entry PyProof.Rows.slot_tuple_getitem ht.typeIs entry_tuple_getitem ?_ (args_tuple_getitem _ _)))
  show wpAny _ _ (Builtin.Tuple.tupleItemsOf (.ref t) >>= _) _ _ s
  refine wpAny_bind (tupleItemsOf_ ht ?_)
  refine wpAny_bind (wpAny_typeOf hTs ?_)
  rw [if_pos (by decide)]
  refine wpAny_bind (m := Builtin.Slice.sliceApplied (.ref sl) (pure (items.size : Int))) ?_
  have app : ∀ {A : Around} {Q : Int × Int × Nat → Shared → Prop}, Q ((items.size : Int) - 1, -1, items.size) s → wpAny (model prog w) A (Builtin.Slice.sliceApplied (.ref sl) (pure (items.size : Int))) Q E s := by
    intro A Q h
    unfold Builtin.Slice.sliceApplied Builtin.Slice.sliceFields
    refine wpAny_bind (wpAny_bind (wpAny_field hos hds (x := .none) rfl (wpAny_bind (wpAny_field hos hds (x := .none) rfl (wpAny_bind (wpAny_field hos hds (x := .int (-1) tk) rfl (wpAny_pure ?_)))))))
    refine wpAny_bind (slicePart_int ?_)
    show wpAny _ _ (if ((-1 : Int) == 0) = true then _ else _) _ _ s
    rw [if_neg (by decide)]
    refine wpAny_bind (slicePart_none (wpAny_bind (slicePart_none (wpAny_bind (wpAny_pure ?_)))))
    show wpAny _ _ (match Builtin.Slice.sliceAdjust none none (-1) (items.size : Int) with | (lo, hi) => pure (lo, (-1 : Int), Builtin.Slice.slicePlaces lo hi (-1))) _ _ s
    rw [rev_adjust]
    show wpAny _ _ (pure (((items.size : Int) - 1), (-1 : Int), Builtin.Slice.slicePlaces ((items.size : Int) - 1) (-1) (-1))) _ _ s
    rw [rev_places]
    exact wpAny_pure h
  refine app ?_
  have hno : ¬ ((((items.size : Int) - 1) == 0 && (-1 : Int) == 1 && items.size == items.size) = true) := by
    rw [show ((-1 : Int) == 1) = false from by decide]
    simp
  show wpAny _ _ (if (((items.size : Int) - 1) == 0 && (-1 : Int) == 1 && items.size == items.size) = true then _ else _) _ _ s
  rw [if_neg hno, rev_pick]
  first
    | exact wpAny_bind (m := Builtin.Tuple.tupleExact _) (wpAny_newObj_type (wpAny_pure ⟨_, rfl, wpAny_pure h⟩) htake)
    | exact wpAny_bind (m := Builtin.Tuple.tupleExact _) (wpAny_newObj_type (wpAny_bind (wpAny_pure (wpAny_pure ⟨_, rfl, wpAny_pure h⟩))) htake)
    | exact wpAny_bind (wpAny_bind (m := Builtin.Tuple.tupleExact _) (wpAny_newObj_type (wpAny_pure (wpAny_pure ⟨_, rfl, wpAny_pure h⟩)) htake))
    | exact wpAny_bind (wpAny_bind (m := Builtin.Tuple.tupleExact _) (wpAny_newObj_type (wpAny_pure ⟨_, rfl, wpAny_pure h⟩) htake))
end
end HT
namespace L3
open PySem PySem.Spec PyProof.Rows L2
section
variable {X : Cx}
/-- xs[::-1] of a list or a tuple -/
def tRevA (K : PySem.W.Frag) (te : TE) : TE := fun σ H Q => te σ H fun x H1 => ∃ a xs, x = .ref a ∧ ((SqL K H1 a xs ∧ ∀ p, H1 p = none → Q (.ref p) (upd H1 p (.lst xs.reverse))) ∨ (SqT K H1 a xs ∧ ∀ p, H1 p = none → Q (.ref p) (upd H1 p (.tup xs.reverse))))
theorem pe_revA {e : Expr} {te : TE} {k : Nat} {p1 p2 p3 pos : Pos} (he : PE X e te) : PE X (.Subscript e (.Slice none none (some (.UnaryOp .USub (.Constant (.int 1) k p1) p2)) p3) pos) (tRevA X.K te) := by
  refine ⟨fun pins s σ H Q I h => ?_⟩
  refine Subscript_ (thn (he.run pins s σ H _ I h) fun v s1 ⟨x, H1, I1, r1, q1⟩ => ?_)
  obtain ⟨a, xs, ex, q1⟩ := q1
  subst ex
  cases r1
  have hst : PO X (some (.UnaryOp .USub (.Constant (.int 1) k p1) p2)) (tPart (tUn (rU fun i => .int (-i)) (tC (.int 1)))) := po_some (pe_un un_neg pe_int)
  refine wpAny_Slice (thn (po_none.run pins s1 σ H1 (fun o H2 => o = none ∧ H2 = H1) I1 ⟨rfl, rfl⟩) fun vl s2 ⟨l, H2, I2, pl, el, e2⟩ => ?_)
  subst el e2
  refine thn (po_none.run pins s2 σ H2 (fun o H3 => o = none ∧ H3 = H2) I2 ⟨rfl, rfl⟩) fun vu s3 ⟨u, H3, I3, pu, eu, e3⟩ => ?_
  subst eu e3
  refine thn (hst.run pins s3 σ H3 (fun o H4 => o = some (-1) ∧ H4 = H3) I3 ⟨1, rfl, -1, rfl, rfl, rfl⟩) fun vs s4 ⟨o, H4, I4, ps, eo, e4⟩ => ?_
  subst eo e4
  have I5 : Inv X pins σ H4 { s4 with heap := s4.heap.push { cls := .type "slice", data := .fields #[vl, vu, vs] } } := I4.kept (t' := s4.toks) fun b ob q => Heap.get?_push_of_some _ q
  show wpAny (model X.prog X.w) X.A (subscriptTail e (.Slice none none (some (.UnaryOp .USub (.Constant (.int 1) k p1) p2)) p3) (.ref a) (.ref s4.heap.objs.size)) (EP X pins σ Q) X.xe { s4 with heap := s4.heap.push { cls := .type "slice", data := .fields #[vl, vu, vs] } }
  rcases q1 with ⟨hx, q⟩ | ⟨hx, q⟩
  · obtain ⟨its, r, ht, hz⟩ := I5.list hx
    have hlen := r.length
    refine tail_any (ops := [.ref a, .ref s4.heap.objs.size]) ht.isList.typeIs (PySem.slot_list_getitem.lookup) ?_ (by with_unfolding_all rfl)
    refine wpAny_getItem_list_slice ht.isList (Heap.IsSliceOf.new _ vl vu vs) pl pu ps (by decide) ?_ (by rw [List.size_toArray]; omega)
    rw [PySem.W.krv_pick]
    refine ⟨.ref _, _, I5.laid (t' := s4.toks) (o := .lst xs.reverse) (fun b ob q => Heap.get?_push_of_some _ q) (Nat.le_refl _) ?_, rfl, q _ (I5.hok.fresh (Nat.le_refl _))⟩
    exact ⟨by rw [List.length_reverse]; exact hz, _, 0, r.reverse, Heap.get?_push_size _ rfl⟩
  · obtain ⟨its, r, ht, hz⟩ := I5.tuple hx
    have hlen := r.length
    refine tail_any (ops := [.ref a, .ref s4.heap.objs.size]) ht.typeIs (PyProof.Rows.slot_tuple_getitem.lookup) ?_ (by with_unfolding_all rfl)
    refine HT.getItem_tuple_rev ht (Heap.IsSliceOf.new _ vl vu vs) pl pu ps ?_ (by rw [List.size_toArray]; omega)
    refine ⟨.ref _, _, I5.laid (t' := s4.toks) (o := .tup xs.reverse) (fun b ob q => Heap.get?_push_of_some _ q) (Nat.le_refl _) ?_, rfl, q _ (I5.hok.fresh (Nat.le_refl _))⟩
    exact ⟨by rw [List.length_reverse]; exact hz, _, r.reverse, ⟨_, Heap.get?_push_size _ rfl, rfl, 0, rfl⟩⟩
end
end L3

namespace L3
open PySem PySem.Spec PyProof.Rows L2
section
variable {α β γ δ : Type} {C : Cz} {sm : Bool} {R : Hp → Hp → (Nat → Hp) → β → α → Hp → Prop} {R1 : Hp → Hp → (Nat → Hp) → δ → γ → Hp → Prop} {P H P1 H1 : Hp} {hs hs1 : Nat → Hp} {hd1 : Hp} {σ : L2.St} {r : Res α} {Q Q' : β → Hp → Prop}
/-- on from where one stands, the end told from the beginning -/
theorem Post.go {s1 : Bool} {r : Res γ} {k : γ → Env → Res α} (h : Post C sm R P H hs σ (r.bind k) Q) (n : Nx P H hs P1 H1 hs1 hd1) :
    Post C s1 R1 P1 H1 hs1 σ r fun c H2 => ∃ P2 hs2 ρ2 a hd2, Sta C.K P2 H2 σ ρ2 hs2 ∧ R1 P2 H2 hs2 c a hd2 ∧ Nx P1 H1 hs1 P2 H2 hs2 hd2 ∧ (s1 = true → Same H1 H2) ∧ r = .ok a ρ2 ∧ Post C sm R P H hs σ (k a ρ2) Q := by
  cases r with
  | st => exact h
  | ok a ρ => exact fun c P2 H2 hs2 hd2 st t m q => ⟨P2, hs2, ρ, a, hd2, st, t, m, q, rfl, h⟩
  | ex x ρ => exact fun c d P' H' hs' st t m => h c d P' H' hs' st t (n.trans m)
theorem Nx.transU {P2 H2 : Hp} {hs2 : Nat → Hp} {hd2 : Hp} (x : Nx P H hs P1 H1 hs1 hd1) (y : Nx P1 H1 hs1 P2 H2 hs2 hd2) : Nx P H hs P2 H2 hs2 (uni hd1 hd2) := by
  have z := x.trans y
  refine ⟨z.up, z.frame, fun a h => ?_⟩
  rcases h with h | h | h
  · exact z.fresh a (.inl h)
  · rcases uni_ne.mp h with h | h
    · exact x.fresh a (.inr (.inl h))
    · exact z.fresh a (.inr (.inl h))
  · exact z.fresh a (.inr (.inr h))
/-- a new object that holds what was new -/
theorem Nx.lay {p : Addr} {o : HO} (x : Nx P H hs P1 H1 hs1 hd1) (np : H1 p = none) : Nx P H hs P1 (upd H1 p o) hs1 (upd hd1 p o) := by
  have key : H1 p = none → (∃ i, hs i p ≠ none) ∨ H p = none := fun h => by
    cases e : H p with
    | none => exact .inr rfl
    | some o =>
      refine .inl (Classical.byContradiction fun z => ?_)
      have q := x.frame p o e fun i => Classical.byContradiction fun w => z ⟨i, w⟩
      rw [h] at q; cases q
  refine ⟨x.up, fun a u e d => ?_, fun a h => ?_⟩
  · have q := x.frame a u e d
    rw [upd_ne (ne_of_none q np)]; exact q
  · by_cases e : a = p
    · subst e; exact key np
    · refine x.fresh a ?_
      rcases h with h | h | h
      · exact .inl h
      · rw [upd_ne e] at h; exact .inr (.inl h)
      · exact .inr (.inr h)
/-- a new thing's own heap stands apart -/
def Tmp (P H : Hp) (hs : Nat → Hp) (hd : Hp) : Prop := Sub hd H ∧ (∀ i, Dj hd (hs i)) ∧ Dj P hd
theorem Tmp.emp : Tmp P H hs L3.emp := ⟨Sub.emp _, fun _ => Dj.emp' _, Dj.emp _⟩
theorem Tmp.uni {h k : Hp} (x : Tmp P H hs h) (y : Tmp P H hs k) : Tmp P H hs (uni h k) :=
  ⟨uni_sub x.1 y.1, fun i => uni_dj (x.2.1 i) (y.2.1 i), (uni_dj x.2.2.symm y.2.2.symm).symm⟩
theorem Tmp.later {h hd : Hp} (x : Tmp P H hs h) (n : Nx P H hs P1 H1 hs1 hd) : Tmp P1 H1 hs1 h ∧ Dj h hd := by
  obtain ⟨a, b, c, e⟩ := n.keep x.1 x.2.1
  exact ⟨⟨a, b, e x.2.2⟩, c⟩
theorem Tmp.lay {h : Hp} {K : PySem.W.Frag} {ρ : Env} {p : Addr} {o : HO} (x : Tmp P H hs h) (st : Sta K P H σ ρ hs) (np : H p = none) : Tmp P (upd H p o) hs (upd h p o) := by
  have no : ∀ k : Hp, Sub k H → k p = none := fun k s => Classical.byContradiction fun z => s.ne z np
  refine ⟨upd_subS x.1, fun i a => ?_, fun a => ?_⟩
  · by_cases e : a = p
    · subst e; exact .inr (no _ (st.own i))
    · rw [upd_ne e]; exact x.2.1 i a
  · by_cases e : a = p
    · subst e; exact .inl (no _ st.sub)
    · rw [upd_ne e]; exact x.2.2 a
theorem Sta.lay {K : PySem.W.Frag} {ρ : Env} {p : Addr} {o : HO} (st : Sta K P H σ ρ hs) (np : H p = none) : Sta K P (upd H p o) σ ρ hs := ((New.idle st.sub np).sta st).1
end
section
variable {C : Cz} {X : Cx} {sm : Bool} {e a b c : Expr} {P H : Hp} {hs : Nat → Hp} {σ : L2.St} {ρ : Env} {Q : V → Hp → Prop} {F : FT} {ea eb ec : E} {pos : Pos}
theorem noq {t : T} (h : ¬ isQ t = true) {P : Prop} : isQ t = true → P := fun z => absurd z h
theorem chain_reads {o o' : COp} (hK : X.K = C.K) {σ : L2.St} {H : Hp} {Q : VK} : rd C false (RT C.K) (ev F (.chain o o' ea eb ec)) σ H Q → tChain (rCmp X.K o) (rCmp X.K o') (rd C ea.quiet (RT C.K) (ev F ea)) (rd C eb.quiet (RT C.K) (ev F eb)) (rd C ec.quiet (RT C.K) (ev F ec)) σ H Q := by
  rintro ⟨P, hs, ρ, st, p⟩
  rw [ev] at p
  refine ⟨P, hs, ρ, st, (p.then (R1 := RT C.K σ) (by intro z; cases z)).imp fun v H1 => ?_⟩
  rintro ⟨P1, hs1, ρ1, t, hd1, st1, r1, n1, s1, _, p1⟩
  by_cases qt : isQ t = true
  · rw [if_pos qt] at p1; exact p1.elim
  rw [if_neg qt] at p1
  refine ⟨P1, hs1, ρ1, st1, (p1.then (R1 := RT C.K σ) (by intro z; cases z)).imp fun w H2 => ?_⟩
  rintro ⟨P2, hs2, ρ2, u, hd2, st2, r2, n2, s2, _, p2⟩
  by_cases qu : isQ u = true
  · rw [if_pos qu] at p2; exact p2.elim
  rw [if_neg qu] at p2
  have l := (r1.later n2 (noq qt)).1
  cases q1 : t.dat ρ2 with
  | none => rw [q1] at p2; exact p2.elim
  | some x =>
    cases q2 : u.dat ρ2 with
    | none => rw [q1, q2] at p2; exact p2.elim
    | some y =>
      rw [q1, q2] at p2
      cases q3 : cmpD o x y with
      | none => simp only [q3] at p2; exact p2.elim
      | some k =>
        simp only [q3] at p2
        rw [hK]
        refine ⟨P2, x, y, k, st2.sub, l.opd st2 q1, r2.opd st2 q2, q3, k, rfl, ?_⟩
        cases k with
        | false => exact p2.pl st2 (.bl _)
        | true =>
          refine ⟨P2, hs2, ρ2, st2, (p2.then (R1 := RT C.K σ) (by intro z; cases z)).imp fun z H3 => ?_⟩
          rintro ⟨P3, hs3, ρ3, t3, hd3, st3, r3, n3, s3, _, p3⟩
          have l2 := (r2.later n3 (noq qu)).1
          have f := kCmp_post (X := X) (o := o') (t := u) (u := t3) hK st3 (fun x e => l2.opd st3 e) (fun x e => r3.opd st3 e) p3
          rw [hK] at f
          exact f
theorem ev_chain {o o' : COp} {op op' : CmpOp} (ho : OpR X (compareOp op) (rCmp X.K o)) (ho' : OpR X (compareOp op') (rCmp X.K o')) (hm : lastMarks [op, op'] [b, c] = false) (hK : X.K = C.K)
    (ha : EV C X ea.quiet a (ev F ea)) (hb : EV C X eb.quiet b (ev F eb)) (hc : EV C X ec.quiet c (ev F ec)) : EV C X false (.Compare a [op, op'] [b, c] pos) (ev F (.chain o o' ea eb ec)) :=
  PE.imp (pe_chain ho ho' ha hb hc hm) fun σ H Q => chain_reads hK
end
/-! ### slices -/
def rSlD (K : PySem.W.Frag) : V → Option Int → Option Int → Hp → VK → Prop := fun v lo hi H Q => ∃ P x d, Sub P H ∧ Opd K P H v x ∧ slD x lo hi = some d ∧ Gives K P H d Q
theorem cut_dp {K : PySem.W.Frag} {P : Hp} {vs : List V} {xs : List PyData} (h : DpAll K P vs xs) (lo hi : Option Int) : DpAll K P (cutV vs lo hi) (cut xs lo hi) := by
  unfold cutV cut
  rw [h.len]
  exact (h.drop _).take _
section
variable {X : Cx}
theorem sl_dat : SlR X (rSlD X.K) := by
  intro pins s σ H v u vl vu lo hi sl Q I rx hs pl pu h
  obtain ⟨P, x, d, sP, o, e, g⟩ := h
  cases x <;> simp only [slD, reduceCtorEq, Option.some.injEq, Option.ite_none_right_eq_some] at e
  case list xs =>
    subst e
    obtain ⟨a, vs, rfl, h1, o1⟩ := o.list sP
    exact sl_list pins s σ H _ u vl vu lo hi sl Q I rx hs pl pu ⟨a, vs, rfl, h1, fun p np => g.lst sP (cut_dp o1 lo hi) np⟩
  case tuple xs =>
    subst e
    obtain ⟨a, vs, rfl, h1, o1⟩ := o.tuple sP
    refine sl_tupA pins s σ H _ u vl vu lo hi sl Q I rx hs pl pu ⟨a, vs, rfl, SqT.up sP h1, fun hw => ?_, fun _ p np => g.tup sP (cut_dp o1 lo hi) np⟩
    have e : cut xs lo hi = xs := by
      unfold cut
      rw [o1.len] at hw
      rw [hw.1, hw.2]
      simp
    rw [e] at g
    exact g.pl sP (.tup h1 o1)
  case str z =>
    obtain ⟨hz, rfl⟩ := e
    cases o.str'
    exact sl_str pins s σ H _ u vl vu lo hi sl Q I rx hs pl pu ⟨z, rfl, hz, g.pl sP (.str _)⟩
end
def RO : L2.St → Hp → Hp → (Nat → Hp) → Option Int → Option Int → Hp → Prop := fun _ _ _ _ b a hd => b = a ∧ hd = emp
theorem PO.imp {X : Cx} {e : Option Expr} {t t' : TO} (h : PO X e t) (i : ∀ σ H Q, t' σ H Q → t σ H Q) : PO X e t' := ⟨fun pins s σ H Q I q => h.run pins s σ H Q I (i σ H Q q)⟩
section
variable {C : Cz} {X : Cx} {sm : Bool} {e a b c : Expr} {lo hi : Option Expr} {P H : Hp} {hs : Nat → Hp} {σ : L2.St} {ρ : Env} {Q : V → Hp → Prop} {F : FT} {ea eb ec : E} {pos p2 : Pos} {el eh : List E}
def OV (C : Cz) (X : Cx) (e : Option Expr) (f : Env → Res (Option Int)) : Prop := PO X e (rd C false RO f)
theorem ov_none : OV C X none (evi F []) := by
  refine PO.imp po_none fun σ H Q => ?_
  rintro ⟨P, hs, ρ, st, p⟩
  rw [evi] at p
  exact p.now st ⟨rfl, rfl⟩
theorem ov_some (ha : EV C X ea.quiet a (ev F ea)) : OV C X (some a) (evi F [ea]) := by
  refine PO.imp (po_some ha) fun σ H Q => ?_
  rintro ⟨P, hs, ρ, st, p⟩
  rw [evi] at p
  refine ⟨P, hs, ρ, st, (p.then (R1 := RT C.K σ) (by intro z; cases z)).imp fun v H1 => ?_⟩
  rintro ⟨P1, hs1, ρ1, t, hd1, st1, r1, n1, s1, _, p1⟩
  cases q : t.pure with
  | none => rw [q] at p1; exact p1.elim
  | some x =>
    rw [q] at p1
    cases x <;> first | exact p1.elim | skip
    rename_i i
    obtain ⟨d, rfl⟩ := r1.pl q
    cases d
    exact ⟨i, rfl, p1.now st1 ⟨rfl, rfl⟩⟩
theorem ev_sl (hK : X.K = C.K) (ha : EV C X ea.quiet a (ev F ea)) (hl : OV C X lo (evi F el)) (hh : OV C X hi (evi F eh)) : EV C X false (.Subscript a (.Slice lo hi none p2) pos) (ev F (.sl ea el eh)) := by
  refine PE.imp (pe_slice sl_dat ha hl hh) fun σ H Q => ?_
  rintro ⟨P, hs, ρ, st, p⟩
  rw [ev] at p
  refine ⟨P, hs, ρ, st, (p.then (R1 := RT C.K σ) (by intro z; cases z)).imp fun v H1 => ?_⟩
  rintro ⟨P1, hs1, ρ1, t, hd1, st1, r1, n1, s1, _, p1⟩
  by_cases qt : isQ t = true
  · rw [if_pos qt] at p1; exact p1.elim
  rw [if_neg qt] at p1
  refine ⟨P1, hs1, ρ1, st1, (p1.then (R1 := RO σ) (by intro z; cases z)).imp fun l H2 => ?_⟩
  rintro ⟨P2, hs2, ρ2, _, hd2, st2, ⟨rfl, rfl⟩, n2, s2, _, p2⟩
  refine ⟨P2, hs2, ρ2, st2, (p2.then (R1 := RO σ) (by intro z; cases z)).imp fun h H3 => ?_⟩
  rintro ⟨P3, hs3, ρ3, _, hd3, st3, ⟨rfl, rfl⟩, n3, s3, _, p3⟩
  have l := ((r1.later n2 (noq qt)).1.later n3 (noq qt)).1
  cases q1 : t.dat ρ3 with
  | none => rw [q1] at p3; exact p3.elim
  | some x =>
    rw [q1] at p3
    simp only at p3
    split at p3
    · rename_i d q2
      rw [hK]
      exact ⟨P3, x, d, st3.sub, l.opd st3 q1, q2, fun w P' H' hd n o => p3.new st3 n o⟩
    · exact p3.elim
theorem ev_rev {k : Nat} {p1 p3 : Pos} (hK : X.K = C.K) (ha : EV C X ea.quiet a (ev F ea)) : EV C X (E.rev ea).quiet (.Subscript a (.Slice none none (some (.UnaryOp .USub (.Constant (.int 1) k p1) p2)) p3) pos) (ev F (.rev ea)) := by
  refine PE.imp (pe_revA ha) fun σ H Q h => ?_
  have e : ev F (.rev ea) = fun ρ => (ev F ea ρ).bind fun t ρ1 => match (t.dat ρ1).bind revD with | some d => .ok (.o d) ρ1 | none => .st := by funext ρ; simp only [ev] <;> rfl
  rw [e] at h
  refine one (r := fun x H1 Q => ∃ a xs, x = .ref a ∧ ((SqL X.K H1 a xs ∧ ∀ p, H1 p = none → Q (.ref p) (upd H1 p (.lst xs.reverse))) ∨ (SqT X.K H1 a xs ∧ ∀ p, H1 p = none → Q (.ref p) (upd H1 p (.tup xs.reverse))))) (fun z => by simpa [E.quiet] using z) (fun P H hs ρ v t hd st r p => ?_) h
  rw [hK]
  cases q1 : t.dat ρ with
  | none => rw [q1] at p; exact p.elim
  | some x =>
    rw [q1] at p
    have o := r.opd st q1
    have g : ∀ {d}, revD x = some d → Gives C.K P H d Q := fun {d} e => by
      simp only [Option.bind_some, e] at p
      exact fun w P' H' hd n o => p.new st n o
    cases x <;> first | exact p.elim | skip
    case list xs =>
      obtain ⟨a, vs, rfl, h1, o1⟩ := o.list st.sub
      exact ⟨a, vs, rfl, .inl ⟨h1, fun p np => (g rfl).lst st.sub o1.rev np⟩⟩
    case tuple xs =>
      obtain ⟨a, vs, rfl, h1, o1⟩ := o.tuple st.sub
      exact ⟨a, vs, rfl, .inr ⟨SqT.up st.sub h1, fun p np => (g rfl).tup st.sub o1.rev np⟩⟩
end
end L3

namespace L3
open PySem PySem.Spec PyProof.Rows L2
/-! ### lists of operands -/
def starred : Expr → Bool
  | .Starred .. => true
  | _ => false
theorem star_cons {e : Expr} {es : List Expr} {env : PySem.Env} (h : starred e = false) : starEach (e :: es) env = (false, PySem.eval e env) :: starEach es env := by
  cases e <;> first | rfl | cases h
theorem star_none {pos : Pos} {env : PySem.Env} : ∀ {es : List Expr}, es.any starred = false → (backTo pos (starEach es env)).any (·.1) = false
  | [], _ => rfl
  | e :: es, h => by
    rw [List.any_cons, Bool.or_eq_false_iff] at h
    rw [star_cons h.1]
    show (false || (backTo pos (starEach es env)).any (·.1)) = false
    rw [star_none h.2]; rfl
inductive TRs (K : PySem.W.Frag) (P H : Hp) (σ : L2.St) (hs : Nat → Hp) : List V → List T → Hp → Prop
  | nil : TRs K P H σ hs [] [] emp
  | cons {v : V} {t : T} {h : Hp} {vs : List V} {ts : List T} {k : Hp} : TR K P H σ hs v t h → TRs K P H σ hs vs ts k → Dj h k → TRs K P H σ hs (v :: vs) (t :: ts) (uni h k)
theorem TR.tmp {K : PySem.W.Frag} {P H : Hp} {σ : L2.St} {hs : Nat → Hp} {v : V} {t : T} {h : Hp} (r : TR K P H σ hs v t h) : Tmp P H hs h := by
  cases t with
  | o d => exact r.2
  | r i => rw [r.1]; exact Tmp.emp
  | q xs => rw [r.1]; exact Tmp.emp
theorem TRs.tmp {K : PySem.W.Frag} {P H : Hp} {σ : L2.St} {hs : Nat → Hp} {vs : List V} {ts : List T} {h : Hp} (r : TRs K P H σ hs vs ts h) : Tmp P H hs h := by
  induction r with
  | nil => exact Tmp.emp
  | cons a b d ih => exact a.tmp.uni ih
theorem TRs.opds {K : PySem.W.Frag} {P H : Hp} {σ : L2.St} {ρ : Env} {hs : Nat → Hp} {vs : List V} {ts : List T} {h : Hp} (st : Sta K P H σ ρ hs) (r : TRs K P H σ hs vs ts h) : ∀ {xs : List PyData}, dats ρ ts = some xs → Opds K P H vs xs := by
  induction r with
  | nil => intro xs e; cases e; exact .nil
  | cons a b d ih =>
    rename_i v t h vs ts k
    intro xs e
    rw [dats] at e
    cases q1 : t.dat ρ with
    | none => simp [q1] at e
    | some x =>
      cases q2 : dats ρ ts with
      | none => simp [q1, q2] at e
      | some ys =>
        simp only [q1, q2, Option.some.injEq] at e
        subst e
        exact .cons (a.opd st q1) (ih q2)
theorem TRs.len {K : PySem.W.Frag} {P H : Hp} {σ : L2.St} {hs : Nat → Hp} {vs : List V} {ts : List T} {h : Hp} (r : TRs K P H σ hs vs ts h) : vs.length = ts.length := by
  induction r with
  | nil => rfl
  | cons _ _ _ ih => simp [ih]
def RTs (K : PySem.W.Frag) : L2.St → Hp → Hp → (Nat → Hp) → List V → List T → Hp → Prop := fun σ P H hs vs ts hd => TRs K P H σ hs vs ts hd
def ROs (K : PySem.W.Frag) : L2.St → Hp → Hp → (Nat → Hp) → List V → List D → Hp → Prop := fun _ P H hs vs ds hd => OwnAll K P vs ds hd ∧ Tmp P H hs hd
def EL (C : Cz) (X : Cx) (es : List Expr) (F : FT) (Es : List E) : Prop := PA X es (rd C (quiets Es) (RTs C.K) (evl F Es))
def ED (C : Cz) (X : Cx) (es : List Expr) (F : FT) (Es : List E) : Prop := PA X es (rd C (quiets Es) (RD C.K) (evd F Es))
def EO (C : Cz) (X : Cx) (es : List Expr) (F : FT) (Es : List E) : Prop := PA X es (rd C (quiets Es) (ROs C.K) (evo F Es))
section
variable {C : Cz} {X : Cx} {sm : Bool} {e a b c : Expr} {es : List Expr} {P H : Hp} {hs : Nat → Hp} {σ : L2.St} {ρ : Env} {Q : V → Hp → Prop} {F : FT} {ea eb ec : E} {Es : List E} {pos : Pos}
theorem q_l {x y : Bool} (h : (x && y) = true) : x = true := (Bool.and_eq_true_iff.mp h).1
theorem el_nil : EL C X [] F [] := by
  refine PA.imp pa_nil fun σ H Q => ?_
  rintro ⟨P, hs, ρ, st, p⟩
  rw [evl] at p
  exact p.now st TRs.nil
theorem el_cons (ns : starred a = false) (ha : EV C X ea.quiet a (ev F ea)) (hr : EL C X es F Es) : EL C X (a :: es) F (ea :: Es) := by
  refine PA.imp (pa_cons ha hr (star_cons ns)) fun σ H Q => ?_
  rintro ⟨P, hs, ρ, st, p⟩
  rw [evl] at p
  have hq : quiets (ea :: Es) = true → ea.quiet = true ∧ quiets Es = true := fun z => by rw [quiets, Bool.and_eq_true] at z; exact z
  refine ⟨P, hs, ρ, st, (p.go (R1 := RT C.K σ) (s1 := ea.quiet) Nx.refl).imp fun v H1 => ?_⟩
  rintro ⟨P1, hs1, ρ1, t, hd1, st1, r1, n1, s1, _, p1⟩
  by_cases qt : (!isQ t || quiets Es) = true
  · rw [if_pos qt] at p1
    refine ⟨P1, hs1, ρ1, st1, (p1.go (R1 := RTs C.K σ) (s1 := quiets Es) n1).imp fun vs H2 => ?_⟩
    rintro ⟨P2, hs2, ρ2, ts, hd2, st2, r2, n2, s2, _, p2⟩
    have l := r1.later n2 fun z => s2 (by rw [z] at qt; simpa using qt)
    exact p2 (v :: vs) P2 H2 hs2 _ st2 (TRs.cons l.1 r2 l.2) (n1.transU n2) fun z => (s1 (hq z).1).trans (s2 (hq z).2)
  · rw [if_neg qt] at p1; exact p1.elim
theorem ed_nil : ED C X [] F [] := by
  refine PA.imp pa_nil fun σ H Q => ?_
  rintro ⟨P, hs, ρ, st, p⟩
  rw [evd] at p
  exact p.now st ⟨.nil, rfl⟩
def nostar : E → Bool
  | .star _ => false
  | _ => true
theorem evd_cons (h : nostar ea = true) : evd F (ea :: Es) ρ = (ev F ea ρ).bind fun t ρ1 => match t.pure with
    | none => .st
    | some x => (evd F Es ρ1).bind fun xs ρ2 => .ok (x :: xs) ρ2 := by
  cases ea <;> first | (cases h; done) | (simp only [evd]; try rfl)
theorem ed_cons (ns : starred a = false) (ns2 : nostar ea = true) (ha : EV C X ea.quiet a (ev F ea)) (hr : ED C X es F Es) : ED C X (a :: es) F (ea :: Es) := by
  refine PA.imp (pa_cons ha hr (star_cons ns)) fun σ H Q => ?_
  rintro ⟨P, hs, ρ, st, p⟩
  rw [evd_cons ns2] at p
  have hq : quiets (ea :: Es) = true → ea.quiet = true ∧ quiets Es = true := fun z => by rw [quiets, Bool.and_eq_true] at z; exact z
  refine ⟨P, hs, ρ, st, (p.then (R1 := RT C.K σ) (s1 := ea.quiet) fun z => (hq z).1).imp fun v H1 => ?_⟩
  rintro ⟨P1, hs1, ρ1, t, hd1, st1, r1, n1, s1, _, p1⟩
  cases q : t.pure with
  | none => rw [q] at p1; exact p1.elim
  | some x =>
    rw [q] at p1
    obtain ⟨d, rfl⟩ := r1.pl q
    refine ⟨P1, hs1, ρ1, st1, (p1.then (R1 := RD C.K σ) (s1 := quiets Es) fun z => (hq z).2).imp fun vs H2 => ?_⟩
    rintro ⟨P2, hs2, ρ2, xs, hd2, st2, ⟨r2, rfl⟩, n2, s2, _, p2⟩
    exact p2.now st2 ⟨.cons (Dp.up n2.up d) r2, rfl⟩
theorem ed_star {p0 : Pos} (hK : X.K = C.K) (ha : EV C X ea.quiet a (ev F ea)) (hr : ED C X es F Es) : ED C X (.Starred a p0 :: es) F (.star ea :: Es) := by
  refine PA.imp (StX.pa_star ha hr) fun σ H Q => ?_
  rintro ⟨P, hs, ρ, st, p⟩
  rw [evd] at p
  have hq : quiets (.star ea :: Es) = true → ea.quiet = true ∧ quiets Es = true := fun z => by rw [quiets, Bool.and_eq_true] at z; simpa [E.quiet] using z
  refine ⟨P, hs, ρ, st, (p.then (R1 := RT C.K σ) (s1 := ea.quiet) fun z => (hq z).1).imp fun v H1 => ?_⟩
  rintro ⟨P1, hs1, ρ1, t, hd1, st1, r1, n1, s1, _, p1⟩
  cases q : t.dat ρ1 with
  | none => rw [q] at p1; exact p1.elim
  | some x =>
    have o := r1.opd st1 q
    have fin : ∀ {ys vs0}, DpAll C.K P1 vs0 ys → items x = some ys → rd C (quiets Es) (RD C.K) (evd F Es) σ H1 fun zs H2 => Q (vs0 ++ zs) H2 := fun {ys vs0} d e => by
      simp only [q, Option.bind_some, e] at p1
      refine ⟨P1, hs1, ρ1, st1, (p1.then (R1 := RD C.K σ) (s1 := quiets Es) fun z => (hq z).2).imp fun vs H2 => ?_⟩
      rintro ⟨P2, hs2, ρ2, xs, hd2, st2, ⟨r2, rfl⟩, n2, s2, _, p2⟩
      exact p2.now st2 ⟨(DpAll.up n2.up d).app r2, rfl⟩
    rw [hK]
    cases x
    case list xs =>
      obtain ⟨l, vs, rfl, h1, o1⟩ := o.list st1.sub
      exact ⟨l, vs, rfl, .inr h1, fin o1 rfl⟩
    case tuple xs =>
      obtain ⟨l, vs, rfl, h1, o1⟩ := o.tuple st1.sub
      exact ⟨l, vs, rfl, .inl (SqT.up st1.sub h1), fin o1 rfl⟩
    all_goals
      simp only [q, Option.bind_some, items] at p1
      exact p1.elim
theorem eo_nil : EO C X [] F [] := by
  refine PA.imp pa_nil fun σ H Q => ?_
  rintro ⟨P, hs, ρ, st, p⟩
  rw [evo] at p
  exact p.now st ⟨.nil, Tmp.emp⟩
theorem eo_cons (ns : starred a = false) (ha : EV C X ea.quiet a (ev F ea)) (hr : EO C X es F Es) : EO C X (a :: es) F (ea :: Es) := by
  refine PA.imp (pa_cons ha hr (star_cons ns)) fun σ H Q => ?_
  rintro ⟨P, hs, ρ, st, p⟩
  rw [evo] at p
  have hq : quiets (ea :: Es) = true → ea.quiet = true ∧ quiets Es = true := fun z => by rw [quiets, Bool.and_eq_true] at z; exact z
  refine ⟨P, hs, ρ, st, (p.go (R1 := RT C.K σ) (s1 := ea.quiet) Nx.refl).imp fun v H1 => ?_⟩
  rintro ⟨P1, hs1, ρ1, t, hd1, st1, r1, n1, s1, _, p1⟩
  cases t with
  | o d =>
    refine ⟨P1, hs1, ρ1, st1, (p1.go (R1 := ROs C.K σ) (s1 := quiets Es) n1).imp fun vs H2 => ?_⟩
    rintro ⟨P2, hs2, ρ2, ts, hd2, st2, ⟨r2, t2⟩, n2, s2, _, p2⟩
    obtain ⟨t1, dj⟩ := Tmp.later r1.2 n2
    exact p2 (v :: vs) P2 H2 hs2 _ st2 ⟨.cons (Own.up n2.up r1.1) r2 dj, t1.uni t2⟩ (n1.transU n2) fun z => (s1 (hq z).1).trans (s2 (hq z).2)
  | r i => exact p1.elim
  | q xs => exact p1.elim
/-! ### displays -/
theorem ev_tup {k : Bool} {x1} (h : ED C X es F Es) : EV C X (E.tup Es).quiet (.Tuple es x1 pos) (ev F (.tup Es)) := by
  refine PE.imp (pe_tup h) fun σ H Q => ?_
  rintro ⟨P, hs, ρ, st, p⟩
  rw [ev] at p
  refine ⟨P, hs, ρ, st, (p.then (R1 := RD C.K σ) (s1 := quiets Es) fun z => by simpa [E.quiet] using z).imp fun vs H1 => ?_⟩
  rintro ⟨P1, hs1, ρ1, xs, hd1, st1, ⟨r1, rfl⟩, n1, s1, _, p1⟩
  by_cases q : xs.length ≤ sizeLine
  · rw [if_pos q] at p1
    exact ⟨by rw [r1.len]; exact q, fun a np => Gives.tup (fun w P' H' hd n o => p1.new st1 n o) st1.sub r1 np⟩
  · rw [if_neg q] at p1; exact p1.elim
theorem ev_lst (h : ED C X es F Es) : EV C X (E.lst Es).quiet (.List es pos) (ev F (.lst Es)) := by
  refine PE.imp (pe_lst h) fun σ H Q => ?_
  rintro ⟨P, hs, ρ, st, p⟩
  rw [ev] at p
  refine ⟨P, hs, ρ, st, (p.then (R1 := RD C.K σ) (s1 := quiets Es) fun z => by simpa [E.quiet] using z).imp fun vs H1 => ?_⟩
  rintro ⟨P1, hs1, ρ1, xs, hd1, st1, ⟨r1, rfl⟩, n1, s1, _, p1⟩
  by_cases q : xs.length ≤ sizeLine
  · rw [if_pos q] at p1
    exact ⟨by rw [r1.len]; exact q, fun a np => Gives.lst (fun w P' H' hd n o => p1.new st1 n o) st1.sub r1 np⟩
  · rw [if_neg q] at p1; exact p1.elim
theorem OwnAll.len {K : PySem.W.Frag} : ∀ {vs : List V} {ds : List D} {h : Hp}, OwnAll K P vs ds h → vs.length = ds.length
  | _, _, _, .nil => rfl
  | _, _, _, .cons _ b _ => by simp [OwnAll.len b]
theorem ev_lsg (h : EO C X es F Es) : EV C X (E.lsg Es).quiet (.List es pos) (ev F (.lsg Es)) := by
  refine PE.imp (pe_lst h) fun σ H Q => ?_
  rintro ⟨P, hs, ρ, st, p⟩
  rw [ev] at p
  refine ⟨P, hs, ρ, st, (p.go (R1 := ROs C.K σ) (s1 := quiets Es) Nx.refl).imp fun vs H1 => ?_⟩
  rintro ⟨P1, hs1, ρ1, xs, hd1, st1, ⟨r1, t1⟩, n1, s1, _, p1⟩
  by_cases q : xs.length ≤ sizeLine
  · rw [if_pos q] at p1
    refine ⟨by rw [OwnAll.len r1]; exact q, fun a np => ?_⟩
    have hn : hd1 a = none := Classical.byContradiction fun z => t1.1.ne z np
    exact p1 _ P1 _ hs1 _ (st1.lay np) ⟨.g r1 hn, t1.lay st1 np⟩ (n1.lay np) fun z => (s1 (by simpa [E.quiet] using z)).trans (upd_fresh np)
  · rw [if_neg q] at p1; exact p1.elim
/-- a thing of one's own is shared -/
theorem ev_fz (ha : EV C X ea.quiet a (ev F ea)) : EV C X (E.fz ea).quiet a (ev F (.fz ea)) := by
  refine PE.imp ha fun σ H Q => ?_
  rintro ⟨P, hs, ρ, st, p⟩
  rw [ev] at p
  refine ⟨P, hs, ρ, st, (p.go (R1 := RT C.K σ) (s1 := ea.quiet) Nx.refl).imp fun v H1 => ?_⟩
  rintro ⟨P1, hs1, ρ1, t, hd1, st1, r1, n1, s1, _, p1⟩
  cases t with
  | o d =>
    simp only at p1
    cases q : fz d with
    | none => rw [q] at p1; exact p1.elim
    | some x =>
      rw [q] at p1
      have dp := fz_dp r1.1 r1.2.2.2 q
      have st2 := st1.grow r1.2.1 (fun j => r1.2.2.1 j) r1.2.2.2
      refine p1 v _ H1 hs1 L3.emp st2 ⟨.p dp, Tmp.emp⟩ ⟨n1.up.trans uni_left, n1.frame, fun a z => ?_⟩ fun z => s1 (by simpa [E.quiet] using z)
      rcases z with z | z | ⟨z1, z2⟩
      · exact n1.fresh a (.inl z)
      · exact absurd rfl z
      · rcases uni_ne.mp z1 with q | q
        · exact n1.fresh a (.inr (.inr ⟨q, z2⟩))
        · exact n1.fresh a (.inr (.inl q))
  | r i => exact p1.elim
  | q xs => exact p1.elim
/-! ### calls of built-ins -/
theorem rBi_post {k : Bi} {ts : List T} {vs : List V} {hd : Hp} (hK : X.K = C.K) (st : Sta C.K P H σ ρ hs) (r : TRs C.K P H σ hs vs ts hd)
    (p : Post C sm (RT C.K σ) P H hs σ (match (dats ρ ts).bind (bi k) with | some d => .ok (.o d) ρ | none => .st) Q) : rBi X.K k vs H Q := by
  rw [hK]
  cases q1 : dats ρ ts with
  | none => rw [q1] at p; exact p.elim
  | some xs =>
    simp only [q1, Option.bind_some] at p
    cases q2 : bi k xs with
    | none => rw [q2] at p; exact p.elim
    | some d =>
      rw [q2] at p
      exact ⟨P, xs, d, st.sub, r.opds st q1, q2, fun w P' H' hd n o => p.new st n o⟩
theorem bi_tcb {k : Bi} {t : TA} (hK : X.K = C.K) (h : ∀ σ H Q, rd C (quiets Es) (RTs C.K) (evl F Es) σ H Q → t σ H Q) : ∀ σ H Q, rd C (E.bi k Es).quiet (RT C.K) (ev F (.bi k Es)) σ H Q → tCB (rBi X.K k) t σ H Q := by
  rintro σ H Q ⟨P, hs, ρ, st, p⟩
  rw [ev] at p
  refine h _ _ _ ⟨P, hs, ρ, st, (p.then (R1 := RTs C.K σ) (s1 := quiets Es) fun z => by simpa [E.quiet] using z).imp fun vs H1 => ?_⟩
  rintro ⟨P1, hs1, ρ1, ts, hd1, st1, r1, n1, s1, _, p1⟩
  exact rBi_post hK st1 r1 p1
theorem ev_biB {k : Bi} {x id : String} {p0 : Pos} (hK : X.K = C.K) (hc : CallR X (.builtin id) (rBi X.K k)) (hg : Gl X x) (hm : X.mg x = none) (hv : bootBuiltins x = some (.builtin id)) (ns : (a :: es).any starred = false) (h : EL C X (a :: es) F Es)
    (hn : (x : Str) ≠ "__name__") (hdb : ((x : Str) == ("__debug__" : Str)) = false) : EV C X (E.bi k Es).quiet (.Call (.Name x p0) (a :: es) [] pos) (ev F (.bi k Es)) := by
  rw [List.any_cons, Bool.or_eq_false_iff] at ns
  exact PE.imp (pe_callB hc hg hm hv h hn hdb (star_cons ns.1) (star_none ns.2)) (bi_tcb hK fun _ _ _ z => z)
theorem ev_biT {k : Bi} {x : String} {T : String} {p0 : Pos} (hK : X.K = C.K) (hc : CallR X (.type T) (rBi X.K k)) (hg : Gl X x) (hm : X.mg x = none) (hv : bootBuiltins x = some (.type T)) (ns : (a :: es).any starred = false) (h : EL C X (a :: es) F Es)
    (hn : (x : Str) ≠ "__name__") (hdb : ((x : Str) == ("__debug__" : Str)) = false) : EV C X (E.bi k Es).quiet (.Call (.Name x p0) (a :: es) [] pos) (ev F (.bi k Es)) := by
  rw [List.any_cons, Bool.or_eq_false_iff] at ns
  exact PE.imp (pe_callTy hc hg hm hv h hn hdb (star_cons ns.1) (star_none ns.2)) (bi_tcb hK fun _ _ _ z => z)
/-- a built-in type's call of what another one's call gives -/
theorem ev_biTT {k : Bi} {x T y U : String} {p0 p1 p2 : Pos} {r1 r2 : List V → Hp → VK → Prop} (hK : X.K = C.K) (hc1 : CallR X (.type U) r1) (hc2 : CallR X (.type T) r2) (hco : ∀ {vs H Q}, rBi X.K k vs H Q → r1 vs H fun v H1 => r2 [v] H1 Q)
    (hg : Gl X x) (hm : X.mg x = none) (hv : bootBuiltins x = some (.type T)) (hg2 : Gl X y) (hm2 : X.mg y = none) (hv2 : bootBuiltins y = some (.type U)) (ns : (a :: es).any starred = false) (h : EL C X (a :: es) F Es)
    (hn : (x : Str) ≠ "__name__") (hdb : ((x : Str) == ("__debug__" : Str)) = false) (hn2 : (y : Str) ≠ "__name__") (hdb2 : ((y : Str) == ("__debug__" : Str)) = false) :
    EV C X (E.bi k Es).quiet (.Call (.Name x p0) [.Call (.Name y p1) (a :: es) [] p2] [] pos) (ev F (.bi k Es)) := by
  rw [List.any_cons, Bool.or_eq_false_iff] at ns
  refine PE.imp (pe_callTy hc2 hg hm hv (pa_cons (pe_callTy hc1 hg2 hm2 hv2 h hn2 hdb2 (star_cons ns.1) (star_none ns.2)) pa_nil (star_cons rfl)) hn hdb (star_cons rfl) (star_none rfl)) fun σ H Q => ?_
  rintro ⟨P, hs, ρ, st, p⟩
  rw [ev] at p
  refine ⟨P, hs, ρ, st, (p.then (R1 := RTs C.K σ) (s1 := quiets Es) fun z => by simpa [E.quiet] using z).imp fun vs H1 => ?_⟩
  rintro ⟨P1, hs1, ρ1, ts, hd1, st1, r1, n1, s1, _, p1⟩
  exact hco (rBi_post hK st1 r1 p1)
end
end L3

namespace L3
open PySem PySem.Spec PyProof.Rows L2
/-! ### the parts of what is one's own -/
def dif (h k : Hp) : Hp := fun a => match k a with
  | none => h a
  | some _ => none
theorem dif_none {h k : Hp} {a : Addr} (e : k a = none) : dif h k a = h a := by unfold dif; rw [e]
theorem dif_some {h k : Hp} {a : Addr} (e : k a ≠ none) : dif h k a = none := by
  obtain ⟨o, q⟩ := some_ne e
  unfold dif; rw [q]
theorem uni_none {h k : Hp} {a : Addr} (e : h a = none) : uni h k a = k a := by unfold uni; rw [e]; rfl
theorem uni_some {h k : Hp} {a : Addr} (e : h a ≠ none) : uni h k a = h a := by
  obtain ⟨o, q⟩ := some_ne e
  unfold uni; rw [q]; rfl
theorem dif_uni {h k : Hp} (d : Dj h k) : dif (uni h k) h = k := by
  funext a
  by_cases e : h a = none
  · rw [dif_none e, uni_none e]
  · rw [dif_some e]; exact (d.out e).symm
theorem dif_in {h0 kr he he' : Hp} (d : Dj h0 kr) (s : Sub he kr) (n : Dj he' (dif (uni h0 kr) he)) : Dj he' (dif kr he) ∧ Dj h0 (uni he' (dif kr he)) ∧ uni h0 (uni he' (dif kr he)) = uni he' (dif (uni h0 kr) he) := by
  have ne : ∀ a, h0 a ≠ none → he a = none := fun a e => Classical.byContradiction fun z => s.ne z (d.out e)
  have nh : ∀ a, h0 a ≠ none → he' a = none := fun a e => by
    refine n.symm.out ?_
    rw [dif_none (ne a e), uni_some e]; exact e
  refine ⟨n.symm.mono (fun a e => ?_) |>.symm, fun a => ?_, ?_⟩
  · by_cases q : he a = none
    · rw [dif_none q] at e ⊢
      exact (uni_right d).ne e
    · rw [dif_some q] at e; exact absurd rfl e
  · by_cases e : h0 a = none
    · exact .inl e
    · right
      rw [uni_none (nh a e), dif_none (ne a e)]
      exact d.out e
  · funext a
    by_cases e : h0 a = none
    · rw [uni_none e]
      by_cases q : he' a = none
      · rw [uni_none q, uni_none q]
        by_cases r : he a = none
        · rw [dif_none r, dif_none r, uni_none e]
        · rw [dif_some r, dif_some r]
      · rw [uni_some q, uni_some q]
    · rw [uni_some e, uni_none (nh a e), dif_none (ne a e), uni_some e]
theorem kvPut_keys {α : Type} {k : Key} {v w : α} : ∀ {kvs : List (Key × α)}, kvGet k kvs = some w → (kvPut k v kvs).map (·.1) = kvs.map (·.1)
  | [], e => by cases e
  | (q, u) :: r, e => by
    rw [kvPut]
    rw [kvGet] at e
    by_cases z : q = k
    · rw [if_pos z]; rfl
    · rw [if_neg z] at e ⊢
      rw [List.map_cons, List.map_cons, kvPut_keys e]
theorem OwnKv.get {K : PySem.W.Frag} {P : Hp} {k : Key} {e : D} : ∀ {kvs : List (Key × D)} {ks : List (Key × V)} {h : Hp}, OwnKv K P ks kvs h → kvGet k kvs = some e → ∃ w he, kvGet k ks = some w ∧ Own K P w e he ∧ Sub he h ∧
    ∀ w' e' he', Own K P w' e' he' → Dj he' (dif h he) → OwnKv K P (kvPut k w' ks) (kvPut k e' kvs) (uni he' (dif h he))
  | [], _, _, .nil, q => by cases q
  | (q, d) :: kvs, _, _, .cons (v := v) (h := h0) (vs := ks) (k := kr) o os hdj, z => by
    rw [kvGet] at z
    by_cases c : q = k
    · rw [if_pos c] at z
      cases z
      refine ⟨v, h0, by rw [kvGet, if_pos c], o, uni_left, fun w' e' he' o' n => ?_⟩
      rw [dif_uni hdj] at n ⊢
      rw [kvPut, kvPut, if_pos c, if_pos c]
      exact .cons o' os n
    · rw [if_neg c] at z
      obtain ⟨w, he, g, oe, se, put⟩ := OwnKv.get os z
      refine ⟨w, he, by rw [kvGet, if_neg c]; exact g, oe, se.trans (uni_right hdj), fun w' e' he' o' n => ?_⟩
      obtain ⟨d1, d2, d3⟩ := dif_in hdj se n
      rw [kvPut, kvPut, if_neg c, if_neg c, ← d3]
      exact .cons o (put w' e' he' o' d1) d2
theorem OwnKv.miss {K : PySem.W.Frag} {P : Hp} {k : Key} : ∀ {kvs : List (Key × D)} {ks : List (Key × V)} {h : Hp}, OwnKv K P ks kvs h → kvGet k kvs = none → kvGet k ks = none ∧
    ∀ w' e' he', Own K P w' e' he' → Dj he' h → OwnKv K P (kvPut k w' ks) (kvPut k e' kvs) (uni he' h)
  | [], _, _, .nil, q => ⟨rfl, fun w' e' he' o' n => .cons o' .nil n⟩
  | (q, d) :: kvs, _, _, .cons (v := v) (h := h0) (vs := ks) (k := kr) o os hdj, z => by
    rw [kvGet] at z
    by_cases c : q = k
    · rw [if_pos c] at z; cases z
    · rw [if_neg c] at z
      obtain ⟨g, put⟩ := OwnKv.miss os z
      refine ⟨by rw [kvGet, if_neg c]; exact g, fun w' e' he' o' n => ?_⟩
      have n1 : Dj he' h0 := (n.symm.mono fun a e => uni_left.ne e).symm
      have n2 : Dj he' kr := (n.symm.mono fun a e => (uni_right hdj).ne e).symm
      have e3 : uni h0 (uni he' kr) = uni he' (uni h0 kr) := by
        funext a
        by_cases e : h0 a = none
        · rw [uni_none e]
          by_cases r : he' a = none
          · rw [uni_none r, uni_none r, uni_none e]
          · rw [uni_some r, uni_some r]
        · rw [uni_some e, uni_none (n1.symm.out e), uni_some e]
      rw [kvPut, kvPut, if_neg c, if_neg c, ← e3]
      exact .cons o (put w' e' he' o' n2) (uni_dj n1 hdj.symm |>.symm)
theorem OwnAll.get {K : PySem.W.Frag} {P : Hp} {e : D} : ∀ {ds : List D} {vs : List V} {h : Hp} {j : Nat}, OwnAll K P vs ds h → ds[j]? = some e → ∃ w he, vs[j]? = some w ∧ Own K P w e he ∧ Sub he h ∧
    ∀ w' e' he', Own K P w' e' he' → Dj he' (dif h he) → OwnAll K P (vs.set j w') (ds.set j e') (uni he' (dif h he))
  | [], _, _, _, .nil, q => by simp at q
  | d :: ds, _, _, 0, .cons (v := v) (h := h0) (vs := vs) (k := kr) o os hdj, z => by
    simp at z
    subst z
    refine ⟨v, h0, rfl, o, uni_left, fun w' e' he' o' n => ?_⟩
    rw [dif_uni hdj] at n ⊢
    exact .cons o' os n
  | d :: ds, _, _, j + 1, .cons (v := v) (h := h0) (vs := vs) (k := kr) o os hdj, z => by
    obtain ⟨w, he, g, oe, se, put⟩ := OwnAll.get (j := j) os (by simpa using z)
    refine ⟨w, he, by simpa using g, oe, se.trans (uni_right hdj), fun w' e' he' o' n => ?_⟩
    obtain ⟨d1, d2, d3⟩ := dif_in hdj se n
    rw [List.set_cons_succ, List.set_cons_succ, ← d3]
    exact .cons o (put w' e' he' o' d1) d2
theorem kvGet_mem {α : Type} {k : Key} : ∀ {kvs : List (Key × α)}, kvGet k kvs = none → k ∉ kvs.map (·.1)
  | [], _ => by simp
  | (q, u) :: r, e => by
    rw [kvGet] at e
    by_cases z : q = k
    · rw [if_pos z] at e; cases e
    · rw [if_neg z] at e
      rw [List.map_cons, List.mem_cons]
      rintro (h | h)
      · exact z h.symm
      · exact kvGet_mem e h
theorem kvPut_new {α : Type} {k : Key} {v : α} : ∀ {kvs : List (Key × α)}, kvGet k kvs = none → kvPut k v kvs = kvs ++ [(k, v)]
  | [], _ => rfl
  | (q, u) :: r, e => by
    rw [kvGet] at e
    by_cases z : q = k
    · rw [if_pos z] at e; cases e
    · rw [if_neg z] at e
      rw [kvPut, if_neg z, kvPut_new e]; rfl
theorem valV_kv {k : Key} : ∀ {kvs : List (Key × V)}, valV kvs k = kvGet k kvs
  | [] => rfl
  | (q, u) :: r => by
    rw [kvGet]
    by_cases z : q = k
    · rw [if_pos z]; exact valV_pos (p := (q, u)) z
    · rw [if_neg z, ← valV_kv]; exact valV_neg (p := (q, u)) z
theorem map_id_kv {k : Key} {v : V} : ∀ {kvs : List (Key × V)}, k ∉ kvs.map (·.1) → kvs.map (fun kv => if kv.1 = k then (kv.1, v) else kv) = kvs
  | [], _ => rfl
  | (q, u) :: r, h => by
    rw [List.map_cons, List.mem_cons, not_or] at h
    rw [List.map_cons, map_id_kv h.2, if_neg (fun z => h.1 z.symm)]
theorem putK_kv {k : Key} {v : V} : ∀ {kvs : List (Key × V)}, (kvs.map (·.1)).Nodup → L2.putK kvs k v = kvPut k v kvs := by
  intro kvs nd
  cases e : kvGet k kvs with
  | none => rw [putK_new v (by rw [valV_kv]; exact e), kvPut_new e]
  | some w =>
    have a : (kvs.any fun kv => decide (kv.1 = k)) = true := by rw [valV_any, valV_kv, e]; rfl
    unfold L2.putK
    rw [if_pos a]
    clear a
    induction kvs with
    | nil => cases e
    | cons p r ih =>
      obtain ⟨q, u⟩ := p
      rw [List.map_cons, List.nodup_cons] at nd
      rw [kvGet] at e
      rw [kvPut, List.map_cons]
      by_cases z : q = k
      · subst z
        rw [if_pos rfl, if_pos rfl, map_id_kv nd.1]
      · rw [if_neg z] at e ⊢
        rw [if_neg z, ih nd.2 e]
/-- a thing in a dict or list of its own, and what stands if another is put there -/
theorem Own.at_ {K : PySem.W.Frag} {P : Hp} {v : V} {d : D} {h : Hp} {kv : PyData} {e : D} (o : Own K P v d h) (g : getAt d kv = some e) :
    ∃ a w he, v = .ref a ∧ Own K P w e he ∧ Sub he h ∧ he a = none ∧
      ((∃ ks kvs k, d = .d kvs ∧ h a = some (.dK ks) ∧ keyOf kv = some k ∧ (ks.map (·.1)).Nodup ∧ kvGet k ks = some w ∧ kvGet k kvs = some e ∧ OwnKv K P ks kvs (dif h (upd emp a (.dK ks))) ∧
        ∀ w' e' he', Own K P w' e' he' → Dj he' (dif h he) → Own K P (.ref a) (.d (kvPut k e' kvs)) (upd (uni he' (dif h he)) a (.dK (kvPut k w' ks)))) ∨
       (∃ vs ds i j, d = .g ds ∧ h a = some (.lst vs) ∧ kv = .int i ∧ ixN ds.length i = some j ∧ vs.length = ds.length ∧ vs[j]? = some w ∧ ds[j]? = some e ∧
        ∀ w' e' he', Own K P w' e' he' → Dj he' (dif h he) → Own K P (.ref a) (.g (ds.set j e')) (upd (uni he' (dif h he)) a (.lst (vs.set j w'))))) := by
  cases o with
  | p => cases kv <;> cases g
  | l => cases kv <;> cases g
  | k => cases kv <;> cases g
  | t => cases kv <;> cases g
  | g os hn =>
    rename_i a vs ds h
    cases kv <;> simp only [getAt, reduceCtorEq, Option.bind_eq_some_iff, ix] at g
    rename_i i
    obtain ⟨j, hj, g⟩ := g
    obtain ⟨w, he, e1, oe, se, put⟩ := os.get g
    have na : he a = none := Classical.byContradiction fun z => se.ne z hn
    refine ⟨a, w, he, rfl, oe, se.trans (upd_fresh hn), na, .inr ⟨vs, ds, i, j, rfl, upd_same, rfl, hj, OwnAll.len os, e1, g, fun w' e' he' o' n => ?_⟩⟩
    have ea : dif (upd h a (.lst vs)) he a = some (.lst vs) := by rw [dif_none na]; exact upd_same
    have ha' : he' a = none := n.symm.out (by rw [ea]; simp)
    have eq : upd (uni he' (dif (upd h a (.lst vs)) he)) a (.lst (vs.set j w')) = upd (uni he' (dif h he)) a (.lst (vs.set j w')) := by
      funext b
      by_cases z : b = a
      · subst z; rw [upd_same, upd_same]
      · rw [upd_ne z, upd_ne z]
        unfold uni dif
        rw [upd_ne z]
    rw [eq]
    refine .g (put w' e' he' o' (n.symm.mono (fun b q => ?_) |>.symm)) ?_
    · by_cases r : he b = none
      · rw [dif_none r] at q ⊢
        exact (upd_fresh hn).ne q
      · rw [dif_some r] at q; exact absurd rfl q
    · rw [uni_none ha', dif_none na]; exact hn
  | d os nd hn =>
    rename_i a ks kvs h
    simp only [getAt, Option.bind_eq_some_iff] at g
    obtain ⟨k, hk, g⟩ := g
    obtain ⟨w, he, e1, oe, se, put⟩ := os.get g
    have na : he a = none := Classical.byContradiction fun z => se.ne z hn
    have ed : dif (upd h a (.dK ks)) (upd emp a (.dK ks)) = h := by
      funext b
      by_cases z : b = a
      · subst z; rw [dif_some (by rw [upd_same]; simp)]; exact hn.symm
      · rw [dif_none (by rw [upd_ne z]; rfl), upd_ne z]
    refine ⟨a, w, he, rfl, oe, se.trans (upd_fresh hn), na, .inl ⟨ks, kvs, k, rfl, upd_same, hk, nd, e1, g, by rw [ed]; exact os, fun w' e' he' o' n => ?_⟩⟩
    have ea : dif (upd h a (.dK ks)) he a = some (.dK ks) := by rw [dif_none na]; exact upd_same
    have ha' : he' a = none := n.symm.out (by rw [ea]; simp)
    have eq : upd (uni he' (dif (upd h a (.dK ks)) he)) a (.dK (kvPut k w' ks)) = upd (uni he' (dif h he)) a (.dK (kvPut k w' ks)) := by
      funext b
      by_cases z : b = a
      · subst z; rw [upd_same, upd_same]
      · rw [upd_ne z, upd_ne z]
        unfold uni dif
        rw [upd_ne z]
    rw [eq]
    refine .d (put w' e' he' o' (n.symm.mono (fun b q => ?_) |>.symm)) (by rw [kvPut_keys e1]; exact nd) ?_
    · by_cases r : he b = none
      · rw [dif_none r] at q ⊢
        exact (upd_fresh hn).ne q
      · rw [dif_some r] at q; exact absurd rfl q
    · rw [uni_none ha', dif_none na]; exact hn
end L3

namespace L3
open PySem PySem.Spec PyProof.Rows L2
section
variable {X : Cx}
def rIxK : R2 := fun x y H Q => ∃ a v, x = .ref a ∧ DGet H a y (some v) ∧ Q v H
theorem ix_dict (hu : X.A.units + 1 < cLine) : IxR X rIxK := by
  intro value slice pins s σ H x y v u Q I rx ry h hs
  obtain ⟨a, w, rfl, g, q⟩ := h
  cases rx
  have hT := dict_typeIs I g
  unfold subscriptTail
  refine wpAny_bind ?_
  rw [getitemInPython_of_ne hT.not_modules]
  refine wpAny_bind (wpAny_specialOf hT PySem.F.slot_dict_getitem.lookup ?_)
  have fin : wpAny (model X.prog X.w) X.A (subscripted slice false (.ref a) u) (fun r s₃ => wpAny (model X.prog X.w) X.A (letTemporaryGo value (.ref a) r >>= fun _ => pure r) (EP X pins σ Q) X.xe s₃) X.xe s := by
    rw [hs]
    exact wpAny_operating (wpAny_mono (d_getItem hu I g ry fun w' s3 I3 rw' => (⟨w, H, I3, rw', q⟩ : EP X pins σ Q w' s3)) (fun r s₃ h₃ => wpAny_bind (wpAny_letTemporaryGo (wpAny_pure h₃))) fun _ _ x => x)
  first
    | exact wpAny_pure (wpAny_bind fin)
    | exact wpAny_bind (wpAny_pure (wpAny_bind fin))
    | exact wpAny_bind fin
def rPath (K : PySem.W.Frag) : R2 := fun x y H Q => rIxK x y H Q ∨ rIxL K x y H Q
theorem ix_path (hu : X.A.units + 1 < cLine) : IxR X (rPath X.K) := (ix_dict hu).or ix_list
end
theorem key_dp {K : PySem.W.Frag} {P : Hp} {y : V} {kv : PyData} {k : Key} (d : Dp K P y kv) (e : keyOf kv = some k) : y = kV k := by
  cases d <;> simp [keyOf] at e <;> subst e <;> rfl
/-- what stands at a key of a dict or list, in the heap -/
def At (H : Hp) (v : V) (kv : PyData) (w : V) : Prop :=
  (∃ a ks k, v = .ref a ∧ H a = some (.dK ks) ∧ keyOf kv = some k ∧ kvGet k ks = some w) ∨ (∃ a vs i j, v = .ref a ∧ H a = some (.lst vs) ∧ kv = .int i ∧ ixN vs.length i = some j ∧ vs[j]? = some w)
theorem At.mono {H H' : Hp} {v w : V} {kv : PyData} (x : At H v kv w) (s : Sub H H') : At H' v kv w := by
  rcases x with ⟨a, ks, k, e1, e2, e3, e4⟩ | ⟨a, vs, i, j, e1, e2, e3, e4, e5⟩
  · exact .inl ⟨a, ks, k, e1, s _ _ e2, e3, e4⟩
  · exact .inr ⟨a, vs, i, j, e1, s _ _ e2, e3, e4, e5⟩
theorem At.fn {H : Hp} {v w w' : V} {kv : PyData} (x : At H v kv w) (y : At H v kv w') : w = w' := by
  rcases x with ⟨a, ks, k, rfl, e2, e3, e4⟩ | ⟨a, vs, i, j, rfl, e2, e3, e4, e5⟩
  · rcases y with ⟨a', ks', k', z1, z2, z3, z4⟩ | ⟨a', vs, i, j, z1, z2, z3, z4, z5⟩
    · cases z1
      rw [e2] at z2; cases z2
      rw [e3] at z3; cases z3
      rw [e4] at z4; cases z4; rfl
    · cases z1
      rw [e2] at z2; cases z2
  · rcases y with ⟨a', ks', k', z1, z2, z3, z4⟩ | ⟨a', vs', i', j', z1, z2, z3, z4, z5⟩
    · cases z1
      rw [e2] at z2; cases z2
    · cases z1
      rw [e2] at z2; cases z2
      rw [e3] at z3; cases z3
      rw [e4] at z4; cases z4
      rw [e5] at z5; cases z5; rfl
section
variable {K : PySem.W.Frag} {P H : Hp} {σ : L2.St} {ρ : Env} {hs : Nat → Hp}
theorem own_path {v y : V} {d e : D} {h : Hp} {kv : PyData} (o : Own K P v d h) (s : Sub h H) (g : getAt d kv = some e) (dk : Dp K P y kv) :
    ∃ w he, At h v kv w ∧ Own K P w e he ∧ Sub he h ∧ ∀ Q : VK, Q w H → rPath K v y H Q := by
  obtain ⟨a, w, he, rfl, oe, se, na, r⟩ := o.at_ g
  refine ⟨w, he, ?_, oe, se, fun Q q => ?_⟩
  · rcases r with ⟨ks, kvs, k, rfl, ha, hk, nd, gk, _, _, _⟩ | ⟨vs, ds, i, j, rfl, ha, rfl, hj, hl, gv, _, _⟩
    · exact .inl ⟨a, ks, k, rfl, ha, hk, gk⟩
    · exact .inr ⟨a, vs, i, j, rfl, ha, rfl, by rw [hl]; exact hj, gv⟩
  rcases r with ⟨ks, kvs, k, rfl, ha, hk, nd, gk, _, _, _⟩ | ⟨vs, ds, i, j, rfl, ha, rfl, hj, hl, gv, _, _⟩
  · exact .inl ⟨a, w, rfl, .inl ⟨ks, k, .inl (s _ _ ha), key_dp dk hk, by rw [valV_kv, gk]⟩, q⟩
  · cases dk
    exact .inr ⟨a, vs, i, w, rfl, rfl, SqL.of (s _ _ ha), atI_of (by rw [hl]; exact hj) gv, q⟩
theorem has_slot (h : has ρ i = true) : ∃ d, slot ρ i = some d := Option.isSome_iff_exists.mp h
end
section
variable {C : Cz} {X : Cx} {sm : Bool} {e a b c k : Expr} {es : List Expr} {P H : Hp} {hs : Nat → Hp} {σ : L2.St} {ρ : Env} {Q : V → Hp → Prop} {F : FT} {ea eb ec ek : E} {Es : List E} {pos px : Pos} {i : Nat} {x : Str}
/-- what is told of a thing within another -/
theorem sub_post {w : V} {d : D} {h he : Hp} (st : Sta C.K P H σ ρ hs) (oe : Own C.K P w d he) (se : Sub he H)
    (p : Post C sm (RT C.K σ) P H hs σ (match some d with | some (.p x) => .ok (.o (.p x)) ρ | some (.l xs) => .ok (.q xs) ρ | _ => .st) Q) : Q w H := by
  cases oe with
  | p dx => exact p.pl st dx
  | l dx => exact p.now st ⟨rfl, _, _, rfl, se _ _ upd_same, dx⟩
  | k => exact p.elim
  | g => exact p.elim
  | d => exact p.elim
  | t => exact p.elim
theorem ev_path (hu : X.A.units + 1 < cLine) (hK : X.K = C.K) (hN : X.N[i]? = some x) (hv : Vis X.env.scope x) (hd : (x == ("__debug__" : Str)) = false) (hcd : (x == ("__classdict__" : Str)) = false) (hs : PlainIx k) (hk : EV C X ek.quiet k (ev F ek)) :
    EV C X (E.path i ek).quiet (.Subscript (.Name x px) k pos) (ev F (.path i ek)) := by
  refine PE.imp (pe_ix (ix_path hu) (pe_var hN hv hd hcd) hk hs) fun σ H Q => ?_
  rintro ⟨P, hs, ρ, st, p⟩
  rw [ev] at p
  by_cases z : has ρ i = true
  · rw [if_pos z] at p
    obtain ⟨d0, e0⟩ := has_slot z
    obtain ⟨v, hv, _⟩ := st.at_ i d0 e0
    refine ⟨v, hv, P, hs, ρ, st, (p.then (R1 := RT C.K σ) (s1 := ek.quiet) fun z => by simpa [E.quiet] using z).imp fun y H1 => ?_⟩
    rintro ⟨P1, hs1, ρ1, t, hd1, st1, r1, n1, s1, _, p1⟩
    cases q : t.pure with
    | none => rw [q] at p1; exact p1.elim
    | some kv =>
      rw [q] at p1
      obtain ⟨dk, rfl⟩ := r1.pl q
      cases q2 : slot ρ1 i with
      | none => simp only [q2, Option.bind_none] at p1; exact p1.elim
      | some d =>
        obtain ⟨v', hv', o⟩ := st1.at_ i d q2
        rw [hv] at hv'; cases hv'
        simp only [q2, Option.bind_some] at p1
        cases q3 : getAt d kv with
        | none => rw [q3] at p1; exact p1.elim
        | some e =>
          rw [q3] at p1
          obtain ⟨w, he, _, oe, se, f⟩ := own_path o (st1.own i) q3 dk
          rw [hK]
          exact f _ (sub_post (h := L3.emp) st1 oe (se.trans (st1.own i)) p1)
  · rw [if_neg z] at p; exact p.elim
end
/-! ### changes -/
section
variable {K : PySem.W.Frag} {P H H' : Hp} {σ : L2.St} {ρ : Env} {hs : Nat → Hp}
/-- the thing in slot i is another, in its own place and in that of a new thing -/
theorem Sta.mut {P0 H0 : Hp} {hs0 : Nat → Hp} {x : Hp} (st : Sta K P H σ ρ hs) (tx : Tmp P H hs x) (n0 : Nx P0 H0 hs0 P H hs x) {i : Nat} {d d' : D} {h' : Hp} {v : V} (e : slot ρ i = some d) (hv : σ[i]? = some (some v)) (o : Own K P v d' h')
    (dom : ∀ b, h' b ≠ none → hs i b ≠ none ∨ x b ≠ none) (s : Sub h' H') (out : ∀ b, hs i b = none → H' b = H b) :
    Sta K P H' σ (ρ.set i (some d')) (hset hs i h') ∧ Nx P0 H0 hs0 P H' (hset hs i h') L3.emp := by
  have no : ∀ {k : Hp}, Dj k (hs i) → Sub k H → Sub k H' := fun {k} dj sk b u q => by
    rw [out b (dj.out (by rw [q]; simp))]; exact sk b u q
  have st1 : Sta K P H σ (ρ.set i none) (hset hs i L3.emp) := st.put (slot_lt e) (Sub.emp _) (fun _ _ => Dj.emp' _) (Dj.emp _) (fun _ z => nomatch z) fun _ => rfl
  have own1 : ∀ j, Dj (hset hs i L3.emp j) (hs i) := fun j => by
    by_cases q : j = i
    · subst q; rw [hset_same]; exact Dj.emp' _
    · rw [hset_ne q]; exact st.dj j i q
  have own2 : ∀ j, Dj (hset hs i L3.emp j) x := fun j => by
    by_cases q : j = i
    · subst q; rw [hset_same]; exact Dj.emp' _
    · rw [hset_ne q]; exact (tx.2.1 j).symm
  have st2 : Sta K P H' σ (ρ.set i none) (hset hs i L3.emp) := ⟨no (st.djP i) st.sub, fun j => no (own1 j) (st1.own j), st1.dj, st1.djP, st1.len, st1.emp, st1.at_⟩
  have dj' : ∀ {k : Hp}, Dj k (hs i) → Dj k x → Dj h' k := fun {k} dj dx a => by
    by_cases q : h' a = none
    · exact .inl q
    · rcases dom a q with q | q
      · exact .inr (dj.symm.out q)
      · exact .inr (dx.symm.out q)
  have st3 := st2.put (i := i) (d := some d') (h := h') (by simpa using slot_lt e) s (fun j q => dj' (own1 j) (own2 j)) (dj' (st.djP i) tx.2.2).symm (fun x z => by cases z; exact ⟨v, hv, o⟩) (fun z => nomatch z)
  have e1 : (ρ.set i none).set i (some d') = ρ.set i (some d') := by simp
  have e2 : hset (hset hs i L3.emp) i h' = hset hs i h' := by
    funext j
    unfold hset
    by_cases q : j = i <;> simp [q]
  rw [e1, e2] at st3
  have low : ∀ a u, H0 a = some u → (∀ j, hs0 j a = none) → hs i a = none := fun a u q f => Classical.byContradiction fun z => by
    rcases n0.fresh a (.inl ⟨i, z⟩) with ⟨j, w⟩ | w
    · exact w (f j)
    · rw [q] at w; cases w
  refine ⟨st3, n0.up, fun a u q f => by rw [out a (low a u q f)]; exact n0.frame a u q f, fun a z => ?_⟩
  rcases z with ⟨j, z⟩ | z | z
  · by_cases q : j = i
    · subst q; rw [hset_same] at z
      rcases dom a z with z | z
      · exact n0.fresh a (.inl ⟨j, z⟩)
      · exact n0.fresh a (.inr (.inl z))
    · rw [hset_ne q] at z; exact n0.fresh a (.inl ⟨j, z⟩)
  · exact absurd rfl z
  · exact n0.fresh a (.inr (.inr z))
end
/-- a method of a list of one's own -/
inductive Margs (K : PySem.W.Frag) (P H : Hp) : Mt → List V → List PyData → Prop
  | ext {b : Addr} {vs : List V} {xs : List PyData} : H b = some (.lst vs) → DpAll K P vs xs → Margs K P H .extend [.ref b] [.list xs]
  | pl {m : Mt} {vs : List V} {xs : List PyData} : m ≠ .extend → DpAll K P vs xs → Margs K P H m vs xs
def rMt (K : PySem.W.Frag) (m : Mt) : V → List V → Hp → VK → Prop := fun x xs H Q => ∃ P a vs ds ys xd d', x = .ref a ∧ H a = some (.lst vs) ∧ DpAll K P vs ds ∧ Margs K P H m xs ys ∧ meth m ys (.l ds) = some (xd, d') ∧
  ∀ w us ds', d' = .l ds' → DpAll K P us ds' → Dp K P w xd → Q w (upd H a (.lst us))
theorem dp1 {K : PySem.W.Frag} {P : Hp} {vs : List V} {x : PyData} (h : DpAll K P vs [x]) : ∃ v, vs = [v] ∧ Dp K P v x := by
  cases h with | cons a b => cases b; exact ⟨_, rfl, a⟩
theorem dp2 {K : PySem.W.Frag} {P : Hp} {vs : List V} {x y : PyData} (h : DpAll K P vs [x, y]) : ∃ v w, vs = [v, w] ∧ Dp K P v x ∧ Dp K P w y := by
  cases h with | cons a b => cases b with | cons c d => cases d; exact ⟨_, _, rfl, a, c⟩
theorem small_ok {i : Int} (h : small62 i = true) : -(2 ^ 62) ≤ i ∧ i < 2 ^ 62 := by
  unfold small62 at h
  rw [Bool.and_eq_true] at h
  exact ⟨of_decide_eq_true h.1, of_decide_eq_true h.2⟩
section
variable {X : Cx}
theorem mt_popL : MtR X "list.pop" (rMt X.K .pop) := by
  intro pins s σ H x xs v us Q I rx rv h
  obtain ⟨P, a, vs, ds, ys, xd, d', rfl, hH, dv, oy, e, q⟩ := h
  cases oy with
  | pl _ oy =>
    match ys, e with
    | [], e =>
      simp only [meth, Option.map_eq_some_iff, Prod.mk.injEq] at e
      obtain ⟨x, e1, rfl, rfl⟩ := e
      cases oy
      obtain ⟨w, e2, dw⟩ := dv.at_ e1
      exact mt_pop pins s σ H _ [] v us Q I rx rv ⟨a, vs, w, rfl, rfl, hH, by rw [dv.len]; exact e2, q _ _ _ rfl dv.dropLast dw⟩
    | [.int i], e =>
      simp only [meth, Option.ite_none_right_eq_some, Option.bind_eq_some_iff, Option.map_eq_some_iff, Prod.mk.injEq] at e
      obtain ⟨sm, j, e0, x, e1, rfl, rfl⟩ := e
      obtain ⟨u, rfl, du⟩ := dp1 oy
      cases du
      obtain ⟨w, e2, dw⟩ := dv.at_ e1
      have sm := small_ok sm
      exact mt_popAt pins s σ H _ _ v us Q I rx rv ⟨a, vs, i, j, w, rfl, rfl, hH, by omega, by omega, by rw [dv.len]; exact e0, e2, q _ _ _ rfl (dv.erase j) dw⟩
theorem mt_appendL : MtR X "list.append" (rMt X.K .append) := by
  intro pins s σ H x xs v us Q I rx rv h
  obtain ⟨P, a, vs, ds, ys, xd, d', rfl, hH, dv, oy, e, q⟩ := h
  cases oy with
  | pl _ oy =>
    match ys, e with
    | [y], e =>
      simp only [meth, Option.ite_none_right_eq_some, Option.some.injEq, Prod.mk.injEq] at e
      obtain ⟨hl, rfl, rfl⟩ := e
      obtain ⟨u, rfl, du⟩ := dp1 oy
      exact mt_append pins s σ H _ _ v us Q I rx rv ⟨a, vs, u, rfl, rfl, hH, by rw [dv.len]; exact hl, q _ _ _ rfl (dv.app (.cons du .nil)) .non⟩
theorem mt_extendL : MtR X "list.extend" (rMt X.K .extend) := by
  intro pins s σ H x xs v us Q I rx rv h
  obtain ⟨P, a, vs, ds, ys, xd, d', rfl, hH, dv, oy, e, q⟩ := h
  cases oy with
  | pl n _ => exact absurd rfl n
  | ext hB dz =>
    simp only [meth, Option.ite_none_right_eq_some, Option.some.injEq, Prod.mk.injEq] at e
    obtain ⟨hl, rfl, rfl⟩ := e
    exact mt_extend pins s σ H _ _ v us Q I rx rv ⟨a, _, vs, _, rfl, rfl, hH, hB, by rw [dv.len, dz.len]; exact hl, q _ _ _ rfl (dv.app dz) .non⟩
theorem mt_insertL : MtR X "list.insert" (rMt X.K .insert) := by
  intro pins s σ H x xs v us Q I rx rv h
  obtain ⟨P, a, vs, ds, ys, xd, d', rfl, hH, dv, oy, e, q⟩ := h
  cases oy with
  | pl _ oy =>
    match ys, e with
    | [.int i, y], e =>
      simp only [meth, Option.ite_none_right_eq_some, Option.some.injEq, Prod.mk.injEq, Bool.and_eq_true, decide_eq_true_eq] at e
      obtain ⟨⟨⟨sm, h0⟩, hl⟩, rfl, rfl⟩ := e
      obtain ⟨u, w, rfl, du, dw⟩ := dp2 oy
      cases du
      have sm := small_ok sm
      exact mt_insert pins s σ H _ _ v us Q I rx rv ⟨a, vs, i, w, rfl, rfl, hH, by rw [dv.len]; exact hl, h0, by omega, q _ _ _ rfl (((dv.take _).app (.cons dw .nil)).app (dv.drop _)) .non⟩
theorem idx_at (k : Int) : ∀ {ns : List Int}, k ∈ ns → ns[ns.idxOf k]? = some k ∧ ∀ m : Nat, m < ns.idxOf k → ns[m]? ≠ some k
  | [], h => by simp at h
  | x :: ns, h => by
    by_cases e : x = k
    · subst e
      simp [List.idxOf_cons]
    · have h' : k ∈ ns := by
        rcases List.mem_cons.mp h with h | h
        · exact absurd h.symm e
        · exact h
      obtain ⟨h1, h2⟩ := idx_at k h'
      have z : (x :: ns).idxOf k = ns.idxOf k + 1 := by
        rw [List.idxOf_cons]
        have : (x == k) = false := by simpa using e
        simp [this]
      rw [z]
      refine ⟨by simpa using h1, fun m hm => ?_⟩
      cases m with
      | zero => simpa using e
      | succ m => simpa using h2 m (by omega)
theorem ints_dp2 {K : PySem.W.Frag} {P : Hp} : ∀ ns : List Int, DpAll K P (ns.map V.int) (ns.map PyData.int)
  | [] => .nil
  | n :: ns => .cons (.int n) (ints_dp2 ns)
theorem mt_removeL : MtR X "list.remove" (rMt X.K .remove) := by
  intro pins s σ H x xs v us Q I rx rv h
  obtain ⟨P, a, vs, ds, ys, xd, d', rfl, hH, dv, oy, e, q⟩ := h
  cases oy with
  | pl _ oy =>
    match ys, e with
    | [.int k], e =>
      simp only [meth, Option.bind_eq_some_iff, Option.ite_none_right_eq_some, Option.some.injEq, Prod.mk.injEq] at e
      obtain ⟨ns, e1, hk, rfl, rfl⟩ := e
      obtain ⟨u, rfl, du⟩ := dp1 oy
      cases du
      have z := ints_dp dv e1
      rw [z] at hH
      obtain ⟨i1, i2⟩ := idx_at k hk
      exact mt_remove pins s σ H _ _ v us Q I rx rv ⟨a, ns, k, ns.idxOf k, rfl, rfl, hH, i1, i2, q _ _ _ rfl (ints_dp2 _) .non⟩
end
end L3

namespace L3
open PySem PySem.Spec PyProof.Rows L2
theorem kvPut_same {α : Type} {k : Key} {v : α} : ∀ {kvs : List (Key × α)}, kvGet k kvs = some v → kvPut k v kvs = kvs
  | [], e => by cases e
  | (q, u) :: r, e => by
    rw [kvGet] at e
    rw [kvPut]
    by_cases z : q = k
    · rw [if_pos z] at e ⊢; cases e; rfl
    · rw [if_neg z] at e ⊢; rw [kvPut_same e]
theorem set_same {α : Type} {v : α} : ∀ {xs : List α} {j : Nat}, xs[j]? = some v → xs.set j v = xs
  | [], _, e => by simp at e
  | x :: xs, 0, e => by simp at e; subst e; rfl
  | x :: xs, j + 1, e => by rw [List.set_cons_succ, set_same (by simpa using e)]
theorem own_at {K : PySem.W.Frag} {P : Hp} {v : V} {d e : D} {h : Hp} {kv : PyData} (o : Own K P v d h) (g : getAt d kv = some e) : ∃ w he, At h v kv w ∧ Own K P w e he ∧ Sub he h ∧
    ∀ e' he' x d', Own K P w e' he' → Dj x h → (∀ b, he' b ≠ none → he b ≠ none ∨ x b ≠ none) → setAt d kv e' = some d' → Own K P v d' (uni he' (dif h he)) := by
  obtain ⟨a, w, he, rfl, oe, se, na, r⟩ := o.at_ g
  refine ⟨w, he, ?_, oe, se, fun e' he' x d' o' dx dom sa => ?_⟩
  · rcases r with ⟨ks, kvs, k, rfl, ha, hk, nd, gk, _, _, _⟩ | ⟨vs, ds, i, j, rfl, ha, rfl, hj, hl, gv, _, _⟩
    · exact .inl ⟨a, ks, k, rfl, ha, hk, gk⟩
    · exact .inr ⟨a, vs, i, j, rfl, ha, rfl, by rw [hl]; exact hj, gv⟩
  · have dj : Dj he' (dif h he) := fun b => by
      by_cases q : he' b = none
      · exact .inl q
      · rcases dom b q with r | r
        · exact .inr (dif_some r)
        · right
          by_cases y : he b = none
          · rw [dif_none y]; exact dx.out r
          · exact dif_some y
    have ha0 : h a ≠ none := by
      rcases r with ⟨ks, kvs, k, _, ha, _⟩ | ⟨vs, ds, i, j, _, ha, _⟩ <;> rw [ha] <;> simp
    have na' : he' a = none := Classical.byContradiction fun z => by
      rcases dom a z with r | r
      · exact r na
      · exact ha0 (dx.out r)
    rcases r with ⟨ks, kvs, k, rfl, ha, hk, nd, gk, gk2, _, put⟩ | ⟨vs, ds, i, j, rfl, ha, rfl, hj, hl, gv, gd, put⟩
    · have p := put w e' he' o' dj
      rw [kvPut_same gk] at p
      have ea : uni he' (dif h he) a = some (.dK ks) := by rw [uni_none na', dif_none na, ha]
      have eq : upd (uni he' (dif h he)) a (.dK ks) = uni he' (dif h he) := by
        funext b
        by_cases z : b = a
        · subst z; rw [upd_same, ea]
        · rw [upd_ne z]
      rw [eq] at p
      simp only [setAt, hk, Option.bind_some, Option.ite_none_right_eq_some, Option.some.injEq] at sa
      obtain ⟨_, rfl⟩ := sa
      exact p
    · have p := put w e' he' o' dj
      rw [set_same gv] at p
      have ea : uni he' (dif h he) a = some (.lst vs) := by rw [uni_none na', dif_none na, ha]
      have eq : upd (uni he' (dif h he)) a (.lst vs) = uni he' (dif h he) := by
        funext b
        by_cases z : b = a
        · subst z; rw [upd_same, ea]
        · rw [upd_ne z]
      rw [eq] at p
      simp only [setAt, ix, hj, Option.map_some, Option.some.injEq] at sa
      subst sa
      exact p
/-- the receiver of a change: the name's own thing, or what stands at a key of it -/
def Rcv (H : Hp) (v : V) (k : Option PyData) (w : V) : Prop := match k with
  | none => w = v
  | some kv => At H v kv w
theorem Rcv.mono {H H' : Hp} {v w : V} {k : Option PyData} (x : Rcv H v k w) (s : k = none ∨ Sub H H') : Rcv H' v k w := by
  cases k with
  | none => exact x
  | some kv => exact At.mono x (s.resolve_left (by simp))
theorem Rcv.fn {H : Hp} {v w w' : V} {k : Option PyData} (x : Rcv H v k w) (y : Rcv H v k w') : w = w' := by
  cases k with
  | none => exact Eq.trans x (Eq.symm y)
  | some kv => exact At.fn x y
/-- a thing changed in place: what it was, what stands behind the change -/
theorem own_chg {α : Type} {K : PySem.W.Frag} {P H P0 H0 : Hp} {hs0 : Nat → Hp} {y : Hp} {σ : L2.St} {ρ ρ3 : Env} {hs : Nat → Hp} (st : Sta K P H σ ρ hs) (ty : Tmp P H hs y) (n0 : Nx P0 H0 hs0 P H hs y) {i : Nat} {k : Option PyData} {f : D → Option (α × D)} {x : α} {v : V} (hv : σ[i]? = some (some v)) (e : chg ρ i k f = some (x, ρ3)) :
    ∃ d d' w he, Rcv H v k w ∧ Own K P w d he ∧ Sub he (hs i) ∧ f d = some (x, d') ∧
      ∀ he' H', Own K P w d' he' → (∀ b, he' b ≠ none → he b ≠ none ∨ y b ≠ none) → Sub he' H' → (∀ b, he b = none → H' b = H b) → Sta K P H' σ ρ3 (hset hs i (uni he' (dif (hs i) he))) ∧ Nx P0 H0 hs0 P H' (hset hs i (uni he' (dif (hs i) he))) emp := by
  unfold chg at e
  cases q : slot ρ i with
  | none => rw [q] at e; simp at e
  | some d0 =>
    rw [q] at e
    obtain ⟨v', hv', o⟩ := st.at_ i d0 q
    rw [hv] at hv'; cases hv'
    -- the end in both cases
    have fin : ∀ {he he' H' : Hp} {d1 : D}, Sub he (hs i) → (∀ b, he' b ≠ none → he b ≠ none ∨ y b ≠ none) → Sub he' H' → (∀ b, he b = none → H' b = H b) → Own K P v d1 (uni he' (dif (hs i) he)) →
        Sta K P H' σ (ρ.set i (some d1)) (hset hs i (uni he' (dif (hs i) he))) ∧ Nx P0 H0 hs0 P H' (hset hs i (uni he' (dif (hs i) he))) emp := fun {he he' H' d1} se dom s out o1 => by
      refine st.mut ty n0 q hv o1 (fun b z => ?_) (uni_sub s fun b u z => ?_) fun b z => out b ?_
      · rcases uni_ne.mp z with z | z
        · exact (dom b z).imp se.ne id
        · by_cases r : he b = none
          · rw [dif_none r] at z; exact .inl z
          · rw [dif_some r] at z; exact absurd rfl z
      · by_cases r : he b = none
        · rw [dif_none r] at z
          rw [out b r]
          exact st.own i _ _ z
        · rw [dif_some r] at z; cases z
      · exact Classical.byContradiction fun r => se.ne r z
    cases k with
    | none =>
      simp only [Option.map_eq_some_iff, Prod.mk.injEq, Prod.exists] at e
      obtain ⟨x', d', e, rfl, rfl⟩ := e
      refine ⟨d0, d', v, hs i, rfl, o, Sub.refl _, e, fun he' H' o' dom s out => ?_⟩
      have eq : uni he' (dif (hs i) (hs i)) = he' := by
        funext b
        by_cases r : he' b = none
        · rw [uni_none r, r]
          by_cases z : hs i b = none
          · rw [dif_none z, z]
          · rw [dif_some z]
        · rw [uni_some r]
      exact fin (Sub.refl _) dom s out (by rw [eq]; exact o')
    | some kv =>
      simp only [Option.map_eq_some_iff, Option.bind_eq_some_iff, Prod.mk.injEq, Prod.exists] at e
      obtain ⟨d, g, x', d', e, d1, sa, rfl, rfl⟩ := e
      obtain ⟨w, he, at_, oe, se, put⟩ := own_at o g
      exact ⟨d, d', w, he, At.mono at_ (st.own i), oe, se, e, fun he' H' o' dom s out => fin se dom s out (put d' he' y d1 o' (ty.2.1 i) dom sa)⟩
section
variable {C : Cz} {X : Cx} {sm : Bool} {a b c k : Expr} {es : List Expr} {P H : Hp} {hs : Nat → Hp} {σ : L2.St} {ρ : Env} {Q : V → Hp → Prop} {F : FT} {ea eb ec ek : E} {Es Ks : List E} {pos px : Pos} {i : Nat} {x : Str}
theorem pures_dp {ts : List T} {vs : List V} {hd : Hp} (r : TRs C.K P H σ hs vs ts hd) : ∀ {ys : List PyData}, pures ts = some ys → DpAll C.K P vs ys := by
  induction r with
  | nil => intro ys e; cases e; exact .nil
  | cons a b d ih =>
    rename_i v t h vs ts k
    intro ys e
    rw [pures] at e
    cases q1 : t.pure with
    | none => simp [q1] at e
    | some x =>
      cases q2 : pures ts with
      | none => simp [q1, q2] at e
      | some xs =>
        simp only [q1, q2, Option.some.injEq] at e
        subst e
        exact .cons (a.pl q1).1 (ih q2)
theorem Margs.of {m : Mt} {ts : List T} {ys : List PyData} {vs : List V} {hd : Hp} (st : Sta C.K P H σ ρ hs) (r : TRs C.K P H σ hs vs ts hd) (e : margs m ρ ts = some ys) : Margs C.K P H m vs ys := by
  have pl : ∀ {ts vs hd ys}, TRs C.K P H σ hs vs ts hd → pures ts = some ys → DpAll C.K P vs ys := fun r e => pures_dp (C := C) r e
  cases m with
  | extend =>
    match ts, r, e with
    | [], _, e => cases e
    | _ :: _ :: _, _, e => cases e
    | [t], r, e =>
      simp only [margs, Option.map_eq_some_iff] at e
      obtain ⟨xs, e, rfl⟩ := e
      cases r with
      | cons a b _ =>
        cases b
        cases t with
        | o d =>
          cases d <;> simp only [T.lst, reduceCtorEq, Option.some.injEq] at e
          subst e
          obtain ⟨o, s, _⟩ := a
          cases o with
          | l dx => exact .ext (s _ _ upd_same) dx
        | r j =>
          obtain ⟨_, hv⟩ := a
          simp only [T.lst] at e
          cases q : slot ρ j with
          | none => rw [q] at e; cases e
          | some d =>
            rw [q] at e
            obtain ⟨v, hv', o⟩ := st.at_ j d q
            rw [hv] at hv'; cases hv'
            cases d <;> simp only [reduceCtorEq, Option.some.injEq] at e
            subst e
            have s := st.own j
            generalize hs j = h at o s
            cases o with
            | l dx => exact .ext (s _ _ upd_same) dx
        | q ys =>
          cases e
          obtain ⟨_, l, vs, rfl, h, dx⟩ := a
          exact .ext h dx
  | append => exact .pl (by intro z; cases z) (pl r e)
  | pop => exact .pl (by intro z; cases z) (pl r e)
  | insert => exact .pl (by intro z; cases z) (pl r e)
  | remove => exact .pl (by intro z; cases z) (pl r e)
def kM (m : Mt) (i : Nat) (k : Option PyData) (es : List E) (ts : List T) (ρ2 : Env) : Res T := if k.isNone || quiets es then
      match margs m ρ2 ts with
      | some xs => (match chg ρ2 i k (meth m xs) with | some (x, ρ3) => .ok (.o (.p x)) ρ3 | none => .st)
      | none => .st
    else .st
theorem ev_mut_eq {m : Mt} {F : FT} : ev F (.mut m i Ks Es) ρ = if has ρ i then (evk F Ks ρ).bind fun k ρ1 => if isL ρ1 i k then (evl F Es ρ1).bind fun ts ρ2 => kM m i k Es ts ρ2 else .st else .st := by
  simp only [ev, kM]; try rfl
theorem meth_l {m : Mt} {ys : List PyData} {d d' : D} {x : PyData} (e : meth m ys d = some (x, d')) : ∃ ds ds', d = .l ds ∧ d' = .l ds' := by
  unfold meth at e
  split at e
  · simp only [Option.ite_none_right_eq_some, Option.some.injEq, Prod.mk.injEq] at e
    obtain ⟨_, _, rfl⟩ := e; exact ⟨_, _, rfl, rfl⟩
  · simp only [Option.ite_none_right_eq_some, Option.some.injEq, Prod.mk.injEq] at e
    obtain ⟨_, _, rfl⟩ := e; exact ⟨_, _, rfl, rfl⟩
  · simp only [Option.map_eq_some_iff, Prod.mk.injEq] at e
    obtain ⟨_, _, _, rfl⟩ := e; exact ⟨_, _, rfl, rfl⟩
  · simp only [Option.ite_none_right_eq_some, Option.bind_eq_some_iff, Option.map_eq_some_iff, Prod.mk.injEq] at e
    obtain ⟨_, _, _, _, _, _, rfl⟩ := e; exact ⟨_, _, rfl, rfl⟩
  · simp only [Option.ite_none_right_eq_some, Option.some.injEq, Prod.mk.injEq] at e
    obtain ⟨_, _, rfl⟩ := e; exact ⟨_, _, rfl, rfl⟩
  · simp only [Option.bind_eq_some_iff, Option.ite_none_right_eq_some, Option.some.injEq, Prod.mk.injEq] at e
    obtain ⟨_, _, _, _, rfl⟩ := e; exact ⟨_, _, rfl, rfl⟩
  · cases e
/-- the receiver, ahead of the arguments -/
theorem rcv_at {k : Option PyData} {v : V} (st : Sta C.K P H σ ρ hs) (hv : σ[i]? = some (some v)) (e : isL ρ i k = true) : ∃ w b vs, Rcv H v k w ∧ w = .ref b ∧ H b = some (.lst vs) := by
  unfold isL at e
  cases q : slot ρ i with
  | none => rw [q] at e; cases e
  | some d =>
    rw [q] at e
    obtain ⟨v', hv', o⟩ := st.at_ i d q
    rw [hv] at hv'; cases hv'
    have s := st.own i
    generalize hs i = h at o s
    cases k with
    | none =>
      cases d <;> simp [isOwnL] at e
      cases o with
      | l dx => exact ⟨_, _, _, rfl, rfl, s _ _ upd_same⟩
    | some kv =>
      simp only at e
      cases g : getAt d kv with
      | none => rw [g] at e; cases e
      | some e1 =>
        rw [g] at e
        obtain ⟨w, he, a, oe, se, _⟩ := own_at o g
        cases e1 <;> simp [isOwnL] at e
        cases oe with
        | l dx => exact ⟨_, _, _, At.mono a s, rfl, s _ _ (se _ _ upd_same)⟩
/-- the call itself -/
theorem kM_post {m : Mt} {k : Option PyData} {ts : List T} {vs : List V} {v w : V} {hd H0 : Hp} (hK : X.K = C.K) (st : Sta C.K P H σ ρ hs) (r : TRs C.K P H σ hs vs ts hd) (hv : σ[i]? = some (some v)) (rc : Rcv H0 v k w) (sm0 : quiets Es = true → Same H0 H)
    (p : Post C false (RT C.K σ) P H hs σ (kM m i k Es ts ρ) Q) : rMt X.K m w vs H Q := by
  unfold kM at p
  by_cases z : (k.isNone || quiets Es) = true
  · rw [if_pos z] at p
    have rc := rc.mono (H' := H) (by
      cases k with
      | none => exact .inl rfl
      | some kv => exact .inr (sm0 (by simpa using z)))
    cases q1 : margs m ρ ts with
    | none => rw [q1] at p; exact p.elim
    | some ys =>
      rw [q1] at p
      simp only at p
      cases q2 : chg ρ i k (meth m ys) with
      | none => rw [q2] at p; exact p.elim
      | some t =>
        obtain ⟨xd, ρ3⟩ := t
        rw [q2] at p
        obtain ⟨d, d', w', he, rc', o, se, em, fin⟩ := own_chg st Tmp.emp Nx.refl hv q2
        cases rc.fn rc'
        obtain ⟨ds, ds', rfl, rfl⟩ := meth_l em
        cases o with
        | @l b us0 _ dx =>
          rw [hK]
          refine ⟨P, b, us0, ds, ys, xd, .l ds', rfl, st.own i _ _ (se _ _ upd_same), dx, Margs.of st r q1, em, fun u us ds2 e2 du dw => ?_⟩
          cases e2
          obtain ⟨st', nx⟩ := fin (upd L3.emp b (.lst us)) (upd H b (.lst us)) (.l du) (fun c q => by
            rcases upd_ne_iff.mp q with q | q
            · subst q; left; rw [upd_same]; simp
            · exact absurd rfl q) (upd_sub (Sub.emp _) upd_same) fun c q => by
              refine upd_ne fun z => ?_
              subst z; rw [upd_same] at q; cases q
          exact p u P _ _ L3.emp st' ⟨.p dw, Tmp.emp⟩ nx fun z => nomatch z
  · rw [if_neg z] at p; exact p.elim
theorem star_all {cpos : Pos} {env : PySem.Env} : ∀ {es : List Expr}, es.any starred = false → (backTo cpos (starEach es env)).all (fun x => !x.1) = true
  | [], _ => rfl
  | e :: es, h => by
    rw [List.any_cons, Bool.or_eq_false_iff] at h
    rw [star_cons h.1]
    show (!false && (backTo cpos (starEach es env)).all (fun x => !x.1)) = true
    rw [star_all h.2]; rfl
theorem few_ok {cpos : Pos} {env : PySem.Env} {es : List Expr} (h : es.any starred = false) (hl : es.length < 30) : ((backTo cpos (starEach es env)).all (fun x => !x.1) && (backToKw cpos (keywordEach [] env)).all (fun x => x.1.isSome)
      && decide (es.length + ([] : List Keyword).length + (if ([] : List Keyword).isEmpty then 0 else 1) < 30)) = true := by
  rw [star_all h]
  have : decide (es.length + ([] : List Keyword).length + (if ([] : List Keyword).isEmpty then 0 else 1) < 30) = true := decide_eq_true (by simpa using hl)
  rw [this]; rfl
theorem noSm {p q : Prop} (h : p) : False → q := fun z => z.elim
/-- the name itself -/
theorem mut_name {m : Mt} {t : TE} {vsr : V → List V → Hp → VK → Prop} (hK : X.K = C.K) (hN : X.N[i]? = some x) (hv : Vis X.env.scope x) (hd : (x == ("__debug__" : Str)) = false) (hcd : (x == ("__classdict__" : Str)) = false)
    {ta : TA} (ha : ∀ σ H Q, rd C (quiets Es) (RTs C.K) (evl F Es) σ H Q → ta σ H Q) : ∀ σ H Q, rd C false (RT C.K) (ev F (.mut m i [] Es)) σ H Q → tBM X.K "list" (rMt X.K m) (tVar i) ta σ H Q := by
  rintro σ H Q ⟨P, hs, ρ, st, p⟩
  rw [ev_mut_eq] at p
  by_cases z : has ρ i = true
  · rw [if_pos z, evk] at p
    obtain ⟨d0, e0⟩ := has_slot z
    obtain ⟨v, hv, _⟩ := st.at_ i d0 e0
    refine ⟨v, hv, ?_⟩
    simp only [Res.bind] at p
    by_cases y : isL ρ i none = true
    · rw [if_pos y] at p
      obtain ⟨w, b, vs0, rc, ew, hb⟩ := rcv_at st hv y
      cases ew
      cases rc
      refine ⟨.inl ⟨rfl, vs0, .inl (.inl hb)⟩, ha _ _ _ ⟨P, hs, ρ, st, ?_⟩⟩
      have p' : Post C false (RT C.K σ) P H hs σ ((evl F Es ρ).bind fun ts ρ2 => kM m i none Es ts ρ2) Q := p
      refine (p'.then (R1 := RTs C.K σ) (s1 := quiets Es) (by intro z; cases z)).imp fun vs H1 => ?_
      rintro ⟨P1, hs1, ρ1, ts, hd1, st1, r1, n1, s1, _, p1⟩
      exact kM_post (H0 := H1) (k := none) hK st1 r1 hv (show Rcv H1 (V.ref b) none (V.ref b) from rfl) (fun _ => Same.refl _) p1
    · rw [if_neg y] at p; exact p.elim
  · rw [if_neg z] at p; exact p.elim
theorem mut_key {m : Mt} (hu : X.A.units + 1 < cLine) (hK : X.K = C.K) {tk : TE} (hk : ∀ σ H Q, rd C ek.quiet (RT C.K) (ev F ek) σ H Q → tk σ H Q)
    {ta : TA} (ha : ∀ σ H Q, rd C (quiets Es) (RTs C.K) (evl F Es) σ H Q → ta σ H Q) : ∀ σ H Q, rd C false (RT C.K) (ev F (.mut m i [ek] Es)) σ H Q → tBM X.K "list" (rMt X.K m) (tOp (rPath X.K) (tVar i) tk) ta σ H Q := by
  rintro σ H Q ⟨P, hs, ρ, st, p⟩
  rw [ev_mut_eq] at p
  by_cases z : has ρ i = true
  · rw [if_pos z, evk] at p
    obtain ⟨d0, e0⟩ := has_slot z
    obtain ⟨v, hv, _⟩ := st.at_ i d0 e0
    refine ⟨v, hv, hk _ _ _ ⟨P, hs, ρ, st, ?_⟩⟩
    have pk : Post C false (RT C.K σ) P H hs σ ((ev F ek ρ).bind fun t ρ1 => (match t.pure with | some x => Res.ok (some x) ρ1 | none => .st).bind fun k ρ1 => if isL ρ1 i k then (evl F Es ρ1).bind fun ts ρ2 => kM m i k Es ts ρ2 else .st) Q := by
      cases q : ev F ek ρ with
      | st => rw [q] at p; exact p
      | ok t ρ1 => rw [q] at p; exact p
      | ex => rw [q] at p; exact p
    refine (pk.then (R1 := RT C.K σ) (s1 := ek.quiet) (by intro z; cases z)).imp fun y H1 => ?_
    rintro ⟨P1, hs1, ρ1, t, hd1, st1, r1, n1, s1, _, p1⟩
    cases q : t.pure with
    | none => rw [q] at p1; exact p1.elim
    | some kv =>
      rw [q] at p1
      obtain ⟨dk, rfl⟩ := r1.pl q
      simp only [Res.bind] at p1
      by_cases y' : isL ρ1 i (some kv) = true
      · rw [if_pos y'] at p1
        obtain ⟨w, b, vs0, rc, rfl, hb⟩ := rcv_at st1 hv y'
        have fin : tyV X.K "list" (.ref b) H1 ∧ ta σ H1 fun xs H2 => rMt X.K m (.ref b) xs H2 Q := by
          refine ⟨.inl ⟨rfl, vs0, .inl (.inl hb)⟩, ha _ _ _ ⟨P1, hs1, ρ1, st1, ?_⟩⟩
          have p' : Post C false (RT C.K σ) P1 H1 hs1 σ ((evl F Es ρ1).bind fun ts ρ2 => kM m i (some kv) Es ts ρ2) Q := p1
          refine (p'.then (R1 := RTs C.K σ) (s1 := quiets Es) (by intro z; cases z)).imp fun vs H2 => ?_
          rintro ⟨P2, hs2, ρ2, ts, hd2, st2, r2, n2, s2, _, p2⟩
          exact kM_post (H0 := H1) hK st2 r2 hv rc s2 p2
        unfold isL at y'
        cases q2 : slot ρ1 i with
        | none => rw [q2] at y'; cases y'
        | some d =>
          rw [q2] at y'
          obtain ⟨v', hv', o⟩ := st1.at_ i d q2
          rw [hv] at hv'; cases hv'
          simp only at y'
          cases g : getAt d kv with
          | none => rw [g] at y'; cases y'
          | some e1 =>
            obtain ⟨w', he, a', oe, se, f⟩ := own_path o (st1.own i) g dk
            cases (At.mono a' (st1.own i)).fn rc
            rw [hK] at fin ⊢
            exact f _ fin
      · rw [if_neg y'] at p1; exact p1.elim
  · rw [if_neg z] at p; exact p.elim
end
end L3

namespace L3
open PySem PySem.Spec PyProof.Rows L2
/-! ### defs that are entered while nothing is being shown -/
structure FnG (P : Program) (w : World) (K : PySem.W.Frag) (mg : Str → Option Value) (base : Heap) (CX : CXT) (k : Nat) (f : Addr) (fd : FuncData) (ps : List Str) (sp : Sp) : Prop where
  len : ∀ vs H Q E, sp vs H Q E → vs.length = ps.length
  run : ∀ (A : Around) (outer : List PySem.Env) (s : Shared) (H : Hp) (args : Args) (us : List Value) (vs : List V) (Q : VK) (E : XK), Room k A → A.guards = some [] → Env0 P w K mg base A outer s H → BindsTo s fd args (ps.zip us) → Vals vs us → sp vs H Q E →
    codeAny (model P w) A (.call (.ref f) args) (CR CX outer P w H s Q E) s
theorem FnG.mono {P : Program} {w : World} {K : PySem.W.Frag} {mg : Str → Option Value} {base : Heap} {CX : CXT} {j k : Nat} {f : Addr} {fd : FuncData} {ps : List Str} {sp : Sp} (F : FnG P w K mg base CX j f fd ps sp) (h : j ≤ k) : FnG P w K mg base CX k f fd ps sp :=
  ⟨F.len, fun A outer s H args us vs Q E hr => F.run A outer s H args us vs Q E (hr.mono h)⟩
section
variable {X : Cx} {CX : CXT} {k : Nat} {f : Addr} {fd : FuncData} {ps ks : List Str} {sp : Sp} {x : Str} {p pos : Pos} {e : Expr} {es : List Expr} {t tk : TA} {kws : List Keyword} {W : WX}
/-- an exception of a callee is what W wishes -/
def PassesW (CX : CXT) (X : Cx) (W : WX) : Prop := ∀ (pins : List (Addr × Obj)) (σ : L2.St) (H : Hp) (s : Shared) (e : Value) (s' : Shared), Inv X pins σ H s → CX X.stack H s (fun c d H' => W c d σ H') e s' → X.xe e s'
theorem runG {pins : List (Addr × Obj)} {σ : L2.St} {H : Hp} {s : Shared} {Q : VK} {us ws args : List Value} {vs : List V} {kw : List (Str × Value)} (F : FnG X.prog X.w X.K X.mg X.base CX k f fd ps sp) (hr : Room k X.A) (hg : X.A.guards = some []) (hx : PassesW CX X W)
    (I : Inv X pins σ H s) (hb : BindsTo s fd ⟨args, kw⟩ (ps.zip us)) (r : Vals vs us) (h : sp vs H Q (fun c d H' => W c d σ H')) : wpAny (model X.prog X.w) X.A (call (.ref f) args kw) (EP X pins σ Q) X.xe s := by
  refine wpAny_call (codeAny_mono (F.run X.A X.stack s H ⟨args, kw⟩ us vs Q _ hr hg I.env0 hb r h) fun r s' hq => ?_)
  cases r with
  | error e => exact hx pins σ H s e s' I hq
  | ok fl => cases fl <;> first | exact I.after hq | exact False.elim hq
def tCallG (W : WX) (sp : Sp) (t : TA) : TE := fun σ H Q => t σ H fun vs H1 => sp vs H1 Q (fun c d H' => W c d σ H')
theorem pe_callG (F : FnG X.prog X.w X.K X.mg X.base CX k f fd ps sp) (hr : Room k X.A) (hgu : X.A.guards = some []) (hg : Gl X x) (hm : X.mg x = some (.ref f)) (hk : PySem.W.keepIn X.K (.ref f) = true) (hb : Binds X.K fd ps []) (hx : PassesW CX X W)
    (ha : PA X (e :: es) t) (hdb : (x == ("__debug__" : Str)) = false) (ns : (e :: es).any starred = false) : PE X (.Call (.Name x p) (e :: es) [] pos) (tCallG W sp t) := by
  rw [List.any_cons, Bool.or_eq_false_iff] at ns
  refine ⟨fun pins s σ H Q I h => ?_⟩
  refine wpAny_Call_Name_kw (ld_glob I hg hm ?_ hdb)
  refine PySem.W.callWith_K (h₀ := X.base) I.ok.mod.kin hk (thn (ha.run pos pins s σ H _ I h) fun us s1 ⟨vs, H1, I1, r, q⟩ => ⟨I1.kIn, ?_⟩) (star_cons ns.1) (star_none ns.2)
  have hl : us.length = ps.length := by rw [← r.length]; exact F.len _ _ _ _ q
  have b := hb s1 us I1.kIn (by simpa using hl)
  rw [List.append_nil] at b
  exact runG (ws := []) F hr hgu hx I1 b r q
theorem pe_callG0 (F : FnG X.prog X.w X.K X.mg X.base CX k f fd ps sp) (hr : Room k X.A) (hgu : X.A.guards = some []) (hg : Gl X x) (hm : X.mg x = some (.ref f)) (hk : PySem.W.keepIn X.K (.ref f) = true) (hb : Binds X.K fd ps []) (hx : PassesW CX X W)
    (hdb : (x == ("__debug__" : Str)) = false) : PE X (.Call (.Name x p) [] [] pos) (tCallG W sp tNil) := by
  refine ⟨fun pins s σ H Q I h => ?_⟩
  refine wpAny_Call_Name_kw (ld_glob I hg hm ?_ hdb)
  have hl : ([] : List V).length = ps.length := F.len _ _ _ _ h
  have b := hb s [] I.kIn (by simpa using hl)
  exact PySem.W.callWith_K0 I.kIn hk (runG (ws := []) (us := []) F hr hgu hx I b .nil h)
/-- f(e, .., k = v, ..) -/
def tCallKG (W : WX) (sp : Sp) (g : List V → List V → List V) (t tk : TA) : TE := fun σ H Q => t σ H fun vs H1 => tk σ H1 fun zs H2 => sp (g vs zs) H2 Q (fun c d H' => W c d σ H')
variable {g : List Value → List Value → List Value} {gV : List V → List V → List V}
theorem kw_all {pos : Pos} {env : PySem.Env} : ∀ {kws : List Keyword} {ks : List Str}, kws.map (·.1) = ks.map some → (backToKw pos (keywordEach kws env)).all (·.1.isSome) = true ∧ (backToKw pos (keywordEach kws env)).filterMap (·.1) = ks ∧ (backToKw pos (keywordEach kws env)).any (·.1.isNone) = false
  | [], [], _ => ⟨rfl, rfl, rfl⟩
  | [], _ :: _, h => by simp at h
  | _ :: _, [], h => by simp at h
  | ⟨n, e, q⟩ :: kws, k :: ks, h => by
    rw [List.map_cons, List.map_cons, List.cons.injEq] at h
    obtain ⟨h1, h2⟩ := h
    have h1 : n = some k := h1
    subst h1
    obtain ⟨a, b, c⟩ := kw_all (pos := pos) (env := env) h2
    refine ⟨?_, ?_, ?_⟩
    · show (true && (backToKw pos (keywordEach kws env)).all (·.1.isSome)) = true
      rw [a]; rfl
    · show k :: (backToKw pos (keywordEach kws env)).filterMap (·.1) = k :: ks
      rw [b]
    · show (false || (backToKw pos (keywordEach kws env)).any (·.1.isNone)) = false
      rw [c]; rfl
theorem pe_callKG (F : FnG X.prog X.w X.K X.mg X.base CX k f fd ps sp) (hr : Room k X.A) (hgu : X.A.guards = some []) (hg : Gl X x) (hm : X.mg x = some (.ref f)) (hk : PySem.W.keepIn X.K (.ref f) = true) (hb : KBinds X.K fd ps ks g gV) (hx : PassesW CX X W)
    (ha : PA X (e :: es) t) (hkw : PK X kws tk) (hks : kws.map (·.1) = ks.map some) (hdb : (x == ("__debug__" : Str)) = false) (ns : (e :: es).any starred = false) : PE X (.Call (.Name x p) (e :: es) kws pos) (tCallKG W sp gV t tk) := by
  obtain ⟨k1, k2, k3⟩ := kw_all (pos := pos) (env := X.env) hks
  have ns0 := ns
  rw [List.any_cons, Bool.or_eq_false_iff] at ns
  refine ⟨fun pins s σ H Q I h => ?_⟩
  refine wpAny_Call_Name_kw (ld_glob I hg hm ?_ hdb)
  refine PySem.W.callWith_KW (h₀ := X.base) I.ok.mod.kin hk k1 (thn (ha.run pos pins s σ H _ I h) fun us s1 ⟨vs, H1, I1, r, q⟩ => ?_) (by rw [star_none ns0, k3]; rfl) (star_cons ns.1)
  refine thn (hkw.run pos pins s1 σ H1 _ I1 q) fun ws s2 ⟨zs, H2, I2, rz, q2⟩ => ⟨I2.kIn, ?_⟩
  rw [k2]
  have r2 := hb.rel r rz
  have hl : (g us ws).length = ps.length := by rw [← r2.length]; exact F.len _ _ _ _ q2
  exact runG (ws := []) F hr hgu hx I2 (hb.to s2 us ws I2.kIn hl) r2 q2
theorem pe_callKG0 (F : FnG X.prog X.w X.K X.mg X.base CX k f fd ps sp) (hr : Room k X.A) (hgu : X.A.guards = some []) (hg : Gl X x) (hm : X.mg x = some (.ref f)) (hk : PySem.W.keepIn X.K (.ref f) = true) (hb : KBinds X.K fd ps ks g gV) (hx : PassesW CX X W)
    (hkw : PK X kws tk) (hks : kws.map (·.1) = ks.map some) (hne : kws ≠ []) (hdb : (x == ("__debug__" : Str)) = false) : PE X (.Call (.Name x p) [] kws pos) (tCallKG W sp gV tNil tk) := by
  obtain ⟨k1, k2, k3⟩ := kw_all (pos := pos) (env := X.env) hks
  refine ⟨fun pins s σ H Q I h => ?_⟩
  refine wpAny_Call_Name_kw (ld_glob I hg hm ?_ hdb)
  refine PySem.W.callWith_KW0 (h₀ := X.base) I.ok.mod.kin hk k1 (thn (hkw.run pos pins s σ H _ I h) fun ws s2 ⟨zs, H2, I2, rz, q2⟩ => ⟨I2.kIn, ?_⟩) (by rw [k3]; rfl)
  rw [k2]
  have r2 := hb.rel (vs := []) (us := []) .nil rz
  have hl : (g [] ws).length = ps.length := by rw [← r2.length]; exact F.len _ _ _ _ q2
  exact runG (ws := []) F hr hgu hx I2 (hb.to s2 [] ws I2.kIn hl) r2 q2
end
/-- a def by its body -/
theorem fnG_of {CX : CXT} {P : Program} {w : World} {K : PySem.W.Frag} {mg : Str → Option Value} {base : Heap} {k : Nat} {f : Addr} {name qual : Str} {params : Arguments} {body : List Stmt} {scope : Scope} {dV kV doc pm cdv ct oc : Value} {an od : Option Addr}
    {osl : Array (Option Value)} {N ps : List Str} {sp : Sp} (lk : K.lookup f = some ⟨oc, od, .func (PySem.W.fnOf name qual params body scope dV kV doc pm an cdv ct), osl⟩) (hcd : PySem.W.codeIn K cdv qual = true) (S : FnScope N ps scope)
    (len : ∀ vs H Q E, sp vs H Q E → vs.length = ps.length)
    (hbody : ∀ (A : Around) (outer : List PySem.Env) (s : Shared) (H : Hp) (vs : List V) (Q : VK) (E : XK), Room k (A.deeper (envOfC qual scope s.heap.objs.size f cdv)) → (A.deeper (envOfC qual scope s.heap.objs.size f cdv)).guards = some [] → sp vs H Q E →
      ∃ t, PSs (cxOf CX P w K mg base N qual scope f cdv A outer s H E) body t ∧ t { nx := fun _ H' => Q .non H', rt := Q } (start N vs) H) :
    FnG P w K mg base CX (k + 1) f (PySem.W.fnOf name qual params body scope dV kV doc pm an cdv ct) ps sp := by
  refine ⟨len, fun A outer s H args us vs Q E hr hgu e0 hb r hsp => ?_⟩
  have KX : K.In s.heap := e0.mod.kin.keeps fun b o e => (e0.bs b o e).1
  have lim : s.heap.NoLimit := e0.mod.nolimit.keeps fun b o e => (e0.bs b o e).1
  have kinds : ∀ y ∈ ps.zip us, scope.names.lookup y.1 = some .local ∨ (scope.names.lookup y.1 = some .cell ∧ ((cellsFrom (s.heap.objs.size + 1) scope.names []).lookup y.1).isSome = true) := fun y hy =>
    (S.par y.1 (List.of_mem_zip hy).1).imp id fun q => ⟨q, PySem.W.cellsFrom_some _ _ _ (.inl q)⟩
  refine codeAny_call_function hr.depth (KX _ _ lk) rfl S.co S.gen rfl (PySem.W.codeRec_of KX hcd) (hb _ _ _ _ (wpAny_newFunctionEnv_cells S.kind kinds fun env he s1 x => ?_))
  subst he
  refine ⟨lim.keeps x.toInCall.keep, codeAny_func ?_⟩
  obtain ⟨t, ht, hq⟩ := hbody A outer s H vs Q E (hr.deeper _) hgu hsp
  have I := inv_start (CX := CX) (P := P) (w := w) (K := K) (mg := mg) (base := base) (E := E) (cd := cdv) S hr.hd e0 (len _ _ _ _ hsp) r x
  refine wpAny_mono (ht.run [] s1 (start N vs) H _ I hq) (fun fl s' hs => ?_) fun e s' hs => hs
  cases fl with
  | ret u =>
    obtain ⟨v, σ', H', J, rv, q⟩ := hs
    exact ⟨v, H', J.os, J.bare, J.base, J.hok, rv, q⟩
  | next =>
    obtain ⟨σ', H', J, q⟩ := hs
    exact ⟨.non, H', J.os, J.bare, J.base, J.hok, rfl, q⟩
  | brk =>
    obtain ⟨σ', H', J, q⟩ := hs
    exact q.elim
  | cont =>
    obtain ⟨σ', H', J, q⟩ := hs
    exact q.elim
end L3

namespace L3
open PySem PySem.Spec PyProof.Rows L2
/-! ### what a def does, told by data -/
def SpD (K : PySem.W.Frag) (exr : Ex → Value → Option Addr → Hp → Prop) (np : Nat) (r : List D → FR) : Sp := fun vs H Q E => vs.length = np ∧ ∃ P ds hs, Sta K P H (vs.map some) (ds.map some) hs ∧ match r ds with
  | .st => False
  | .ok d outs => ∀ v P' H' hs' hd, Sta K P' H' (vs.map some) outs hs' → Own K P' v d hd → Tmp P' H' hs' hd → Nx P H hs P' H' hs' hd → Q v H'
  | .ex x outs => ∀ c e P' H' hs', Sta K P' H' (vs.map some) outs hs' → exr x c e H' → Nx P H hs P' H' hs' emp → E c e H'
def hcons (h : Hp) (hs : Nat → Hp) : Nat → Hp
  | 0 => h
  | i + 1 => hs i
section
variable {K : PySem.W.Frag} {P H P' H' : Hp} {σ τ : L2.St} {ρ ρ2 : Env} {hs hs' hsA : Nat → Hp}
theorem Sta.cons_ {v : Option V} {d : Option D} {h : Hp} (st : Sta K P H σ ρ hs) (s : Sub h H) (dj : ∀ i, Dj h (hs i)) (dp : Dj P h) (o : ∀ x, d = some x → ∃ u, v = some u ∧ Own K P u x h) (n : d = none → h = L3.emp) : Sta K P H (v :: σ) (d :: ρ) (hcons h hs) := by
  refine ⟨st.sub, fun i => ?_, fun i j e => ?_, fun i => ?_, by simp [st.len], fun i e => ?_, fun i x e => ?_⟩
  · cases i with
    | zero => exact s
    | succ i => exact st.own i
  · cases i with
    | zero =>
      cases j with
      | zero => exact absurd rfl e
      | succ j => exact dj j
    | succ i =>
      cases j with
      | zero => exact (dj i).symm
      | succ j => exact st.dj i j fun z => e (by rw [z])
  · cases i with
    | zero => exact dp
    | succ i => exact st.djP i
  · cases i with
    | zero => exact n (by simpa [slot] using e)
    | succ i => exact st.emp i (by simpa [slot] using e)
  · cases i with
    | zero =>
      obtain ⟨u, rfl, ou⟩ := o x (by simpa [slot] using e)
      exact ⟨u, rfl, ou⟩
    | succ i =>
      obtain ⟨u, hu, ou⟩ := st.at_ i x (by simpa [slot] using e)
      exact ⟨u, by simpa using hu, ou⟩
theorem Sta.nil_ (s : Sub P H) : Sta K P H [] [] (fun _ => L3.emp) := ⟨s, fun _ => Sub.emp _, fun _ _ _ => Dj.emp _, fun _ => Dj.emp _, rfl, fun _ _ => rfl, fun i x e => by simp [slot] at e⟩
theorem TR.less {v : V} {t : T} {h : Hp} (r : TR K P H σ hs v t h) (l : ∀ i a, hs' i a ≠ none → hs i a ≠ none) : TR K P H σ hs' v t h := by
  cases t with
  | o d => exact ⟨r.1, r.2.1, fun i => ((r.2.2.1 i).symm.mono (l i)).symm, r.2.2.2⟩
  | r i => exact r
  | q xs => exact r
theorem TRs.less {vs : List V} {ts : List T} {h : Hp} (r : TRs K P H σ hs vs ts h) (l : ∀ i a, hs' i a ≠ none → hs i a ≠ none) : TRs K P H σ hs' vs ts h := by
  induction r with
  | nil => exact .nil
  | cons a b d ih => exact .cons (a.less l) ih d
theorem hset_less {i : Nat} : ∀ j a, hset hs i L3.emp j a ≠ none → hs j a ≠ none := fun j a z => by
  by_cases q : j = i
  · subst q; rw [hset_same] at z; exact absurd rfl z
  · rw [hset_ne q] at z; exact z
theorem Sta.drop_ (st : Sta K P H σ ρ hs) {i : Nat} {d : D} (e : slot ρ i = some d) : Sta K P H σ (ρ.set i none) (hset hs i L3.emp) :=
  st.put (slot_lt e) (Sub.emp _) (fun _ _ => Dj.emp' _) (Dj.emp _) (fun _ z => nomatch z) fun _ => rfl
/-- the arguments are taken from the frame -/
theorem lend {ts : List T} : ∀ {ρ : Env} {hs : Nat → Hp} {vs : List V} {hd : Hp} {ds : List D} {ρ2 : Env}, TRs K P H σ hs vs ts hd → Sta K P H σ ρ hs → takeArgs ts ρ = some (ds, ρ2) →
    ∃ hs2 hsA, Sta K P H σ ρ2 hs2 ∧ Sta K P H (vs.map some) (ds.map some) hsA ∧ (∀ i j, Dj (hs2 i) (hsA j)) ∧ (∀ j a, hsA j a ≠ none → (∃ i, hs i a ≠ none) ∨ hd a ≠ none) ∧ ∀ i a, hs2 i a ≠ none → hs i a ≠ none := by
  induction ts with
  | nil =>
    intro ρ hs vs hd ds ρ2 r st e
    cases r
    cases e
    exact ⟨hs, fun _ => L3.emp, st, Sta.nil_ st.sub, fun _ _ => Dj.emp _, fun _ _ z => absurd rfl z, fun _ _ z => z⟩
  | cons t ts ih =>
    intro ρ hs vs hd ds ρ2 r st e
    cases r with
    | @cons v _ h vs _ k a b dj =>
      cases t with
      | o d =>
        simp only [takeArgs, Option.map_eq_some_iff, Prod.mk.injEq, Prod.exists] at e
        obtain ⟨ds, ρ', e, rfl, rfl⟩ := e
        obtain ⟨hs2, hsA, s2, sA, dd, dom, less⟩ := ih b st e
        obtain ⟨o, s, dh, dp⟩ := a
        refine ⟨hs2, hcons h hsA, s2, sA.cons_ s (fun j => ?_) dp (fun x z => by cases z; exact ⟨v, rfl, o⟩) (fun z => nomatch z), fun i j => ?_, fun j a z => ?_, less⟩
        · exact (Dj.symm (fun a => by
            by_cases q : hsA j a = none
            · exact .inl q
            · right
              rcases dom j a q with ⟨i, q⟩ | q
              · exact (dh i).symm.out q
              · exact dj.symm.out q))
        · cases j with
          | zero => exact ((dh i).symm.mono (less i))
          | succ j => exact dd i j
        · cases j with
          | zero => exact .inr (uni_ne.mpr (.inl z))
          | succ j => exact (dom j a z).imp id fun z => uni_ne.mpr (.inr z)
      | r i =>
        simp only [takeArgs, Option.map_eq_some_iff, Option.bind_eq_some_iff, Prod.mk.injEq, Prod.exists] at e
        obtain ⟨d, e0, ds, ρ', e, rfl, rfl⟩ := e
        obtain ⟨rfl, hv⟩ := a
        obtain ⟨v', hv', o⟩ := st.at_ i d e0
        rw [hv] at hv'; cases hv'
        obtain ⟨hs2, hsA, s2, sA, dd, dom, less⟩ := ih (b.less hset_less) (st.drop_ e0) e
        have tm := b.tmp
        have dk : ∀ a, (∃ j, hset hs i L3.emp j a ≠ none) ∨ k a ≠ none → hs i a = none := fun a z => by
          rcases z with ⟨j, z⟩ | z
          · by_cases q : j = i
            · subst q; rw [hset_same] at z; exact absurd rfl z
            · rw [hset_ne q] at z; exact (st.dj j i q).out z
          · exact (tm.2.1 i).out z
        refine ⟨hs2, hcons (hs i) hsA, s2, sA.cons_ (st.own i) (fun j => Dj.symm fun a => ?_) (st.djP i) (fun x z => by cases z; exact ⟨v, rfl, o⟩) (fun z => nomatch z), fun j l => ?_, fun j a z => ?_, fun j a z => hset_less j a (less j a z)⟩
        · by_cases q : hsA j a = none
          · exact .inl q
          · exact .inr (dk a (dom j a q))
        · cases l with
          | zero =>
            intro a
            by_cases q : hs2 j a = none
            · exact .inl q
            · exact .inr (dk a (.inl ⟨j, less j a q⟩))
          | succ l => exact dd j l
        · cases j with
          | zero => exact .inl ⟨i, z⟩
          | succ j =>
            rcases dom j a z with ⟨l, z⟩ | z
            · exact .inl ⟨l, hset_less l a z⟩
            · exact .inr (uni_ne.mpr (.inr z))
      | q xs => cases e
/-- .. and put back -/
theorem back {ts : List T} : ∀ {ρ : Env} {vs : List V} {outs : List (Option D)} {hsO : Nat → Hp}, (∀ (j i : Nat), ts[j]? = some (T.r i) → ∃ v, vs[j]? = some v ∧ σ[i]? = some (some v)) → Sta K P H σ ρ hs → Sta K P H (vs.map some) outs hsO → (∀ i j, Dj (hs i) (hsO j)) →
    ∃ hs3, Sta K P H σ (putBack ts outs ρ) hs3 ∧ ∀ i a, hs3 i a ≠ none → (∃ j, hs j a ≠ none) ∨ ∃ j, hsO j a ≠ none := by
  induction ts with
  | nil =>
    intro ρ vs outs hsO r st so dd
    exact ⟨hs, by cases outs <;> exact st, fun i a z => .inl ⟨i, z⟩⟩
  | cons t ts ih =>
    intro ρ vs outs hsO r st so dd
    cases outs with
    | nil => exact ⟨hs, by cases t <;> exact st, fun i a z => .inl ⟨i, z⟩⟩
    | cons d outs =>
      cases vs with
      | nil => have := so.len; simp at this
      | cons v vs =>
        have so' : Sta K P H (vs.map some) outs fun j => hsO (j + 1) := ⟨so.sub, fun j => so.own _, fun i j e => so.dj _ _ (by omega), fun j => so.djP _, by have := so.len; simpa using this, fun j e => so.emp (j + 1) (by simpa [slot] using e), fun j x e => by
          obtain ⟨u, hu, o⟩ := so.at_ (j + 1) x (by simpa [slot] using e)
          exact ⟨u, by simpa using hu, o⟩⟩
        have r' : ∀ (j i : Nat), ts[j]? = some (T.r i) → ∃ v, vs[j]? = some v ∧ σ[i]? = some (some v) := fun j i e => by
          obtain ⟨u, h1, h2⟩ := r (j + 1) i (by simpa using e)
          exact ⟨u, by simpa using h1, h2⟩
        obtain ⟨hs3, s3, dom⟩ := ih r' st so' (fun i j => dd i (j + 1))
        cases t with
        | o x => exact ⟨hs3, s3, fun i a z => (dom i a z).imp id fun ⟨j, z⟩ => ⟨j + 1, z⟩⟩
        | r i =>
          obtain ⟨u, h1, h2⟩ := r 0 i rfl
          have hi : i < (putBack ts outs ρ).length := by rw [← s3.len]; exact (List.getElem?_eq_some_iff.mp h2).1
          have h1 : v = u := by simpa using h1
          subst h1
          refine ⟨hset hs3 i (hsO 0), s3.put hi (so.own 0) (fun j q => Dj.symm fun a => ?_) (so.djP 0) (fun x z => ?_) (fun z => so.emp 0 (by simpa [slot] using z)), fun j a z => ?_⟩
          · by_cases q : hs3 j a = none
            · exact .inl q
            · right
              rcases dom j a q with ⟨l, q⟩ | ⟨l, q⟩
              · exact (dd l 0).out q
              · exact (so.dj (l + 1) 0 (by omega)).out q
          · obtain ⟨u, hu, o⟩ := so.at_ 0 x (by simpa [slot] using z)
            cases hu
            exact ⟨v, h2, o⟩
          · by_cases q : j = i
            · subst q; rw [hset_same] at z; exact .inr ⟨0, z⟩
            · rw [hset_ne q] at z
              exact (dom j a z).imp id fun ⟨j, z⟩ => ⟨j + 1, z⟩
        | q xs => exact ⟨hs, st, fun i a z => .inl ⟨i, z⟩⟩
theorem TRs.at_r {vs : List V} {ts : List T} {h : Hp} (r : TRs K P H σ hs vs ts h) : ∀ (j i : Nat), ts[j]? = some (T.r i) → ∃ v, vs[j]? = some v ∧ σ[i]? = some (some v) := by
  induction r with
  | nil => intro j i e; simp at e
  | cons a b d ih =>
    rename_i v t h vs ts k
    intro j i e
    cases j with
    | zero =>
      have e : t = T.r i := by simpa using e
      subst e
      exact ⟨_, rfl, a.2⟩
    | succ j => simpa using ih j i (by simpa using e)
/-- the frame's rest stays over a call -/
theorem Sta.over {hs2 hsO : Nat → Hp} {hd : Hp} (st : Sta K P H σ ρ2 hs2) (dd : ∀ i j, Dj (hs2 i) (hsA j)) (so : Sta K P' H' τ ρ hsO) (n : Nx P H hsA P' H' hsO hd) : Sta K P' H' σ ρ2 hs2 ∧ (∀ i j, Dj (hs2 i) (hsO j)) ∧ ∀ i, Dj hd (hs2 i) := by
  have k := fun i => n.keep (st.own i) (fun j => dd i j)
  exact ⟨⟨so.sub, fun i => (k i).1, st.dj, fun i => (k i).2.2.2 (st.djP i), st.len, st.emp, fun i d e => let ⟨v, hv, o⟩ := st.at_ i d e; ⟨v, hv, Own.up n.up o⟩⟩, fun i j => (k i).2.1 j, fun i => (k i).2.2.1.symm⟩
end
section
variable {C : Cz} {X : Cx} {sm : Bool} {P H : Hp} {hs : Nat → Hp} {σ : L2.St} {ρ : Env} {Q : V → Hp → Prop} {F : FT} {Es : List E}
/-- the call -/
theorem kCall_post {f : Nat} {ts : List T} {vs : List V} {hd : Hp} {np : Nat} (st : Sta C.K P H σ ρ hs) (r : TRs C.K P H σ hs vs ts hd) {P0 H0 : Hp} {hs0 : Nat → Hp} (n0 : Nx P0 H0 hs0 P H hs hd) (hl : vs.length = np)
    (p : Post C false (RT C.K σ) P0 H0 hs0 σ (kCall F f ts ρ) Q) : SpD C.K C.exr np (F f) vs H Q (fun c d H' => C.W c d σ H') := by
  unfold kCall at p
  cases e : takeArgs ts ρ with
  | none => rw [e] at p; exact p.elim
  | some t =>
    obtain ⟨ds, ρ2⟩ := t
    rw [e] at p
    simp only at p
    obtain ⟨hs2, hsA, s2, sA, dd, dom, less⟩ := lend r st e
    have back_key : ∀ a, (∃ i, hsA i a ≠ none) ∨ H a = none → (∃ i, hs0 i a ≠ none) ∨ H0 a = none := fun a z => by
      rcases z with ⟨i, z⟩ | z
      · rcases dom i a z with z | z
        · exact n0.fresh a (.inl z)
        · exact n0.fresh a (.inr (.inl z))
      · cases q : H0 a with
        | none => exact .inr rfl
        | some o =>
          refine .inl (Classical.byContradiction fun w => ?_)
          have y := n0.frame a o q fun i => Classical.byContradiction fun v => w ⟨i, v⟩
          rw [z] at y; cases y
    have all : ∀ {P' H' : Hp} {hsO hs3 : Nat → Hp} {hd' : Hp}, Nx P H hsA P' H' hsO hd' → (∀ i a, hs3 i a ≠ none → (∃ j, hs2 j a ≠ none) ∨ ∃ j, hsO j a ≠ none) → Nx P0 H0 hs0 P' H' hs3 hd' := fun {P' H' hsO hs3 hd'} n l => by
      refine ⟨n0.up.trans n.up, fun a o q z => ?_, fun a z => ?_⟩
      · have q1 := n0.frame a o q z
        refine n.frame a o q1 fun i => Classical.byContradiction fun w => ?_
        rcases back_key a (.inl ⟨i, w⟩) with ⟨j, y⟩ | y
        · exact y (z j)
        · rw [q] at y; cases y
      · rcases z with ⟨i, z⟩ | z | ⟨z1, z2⟩
        · rcases l i a z with ⟨j, z⟩ | z
          · exact n0.fresh a (.inl ⟨j, less j a z⟩)
          · exact back_key a (n.fresh a (.inl z))
        · exact back_key a (n.fresh a (.inr (.inl z)))
        · by_cases q : P a = none
          · exact back_key a (n.fresh a (.inr (.inr ⟨z1, q⟩)))
          · exact n0.fresh a (.inr (.inr ⟨q, z2⟩))
    refine ⟨hl, P, ds, hsA, sA, ?_⟩
    cases q : F f ds with
    | st => rw [q] at p; exact p
    | ok d outs =>
      rw [q] at p
      simp only at p ⊢
      intro v P' H' hsO hd' so o tm n
      by_cases ol : outs.length = ts.length
      · rw [if_pos ol] at p
        obtain ⟨s2', dd', dh⟩ := s2.over dd so n
        obtain ⟨hs3, s3, l3⟩ := back r.at_r s2' so dd'
        refine p v P' H' hs3 hd' s3 ⟨o, tm.1, fun i => Dj.symm fun a => ?_, tm.2.2⟩ (all n l3) fun z => nomatch z
        by_cases y : hs3 i a = none
        · exact .inl y
        · right
          rcases l3 i a y with ⟨j, y⟩ | ⟨j, y⟩
          · exact (dh j).symm.out y
          · exact (tm.2.1 j).symm.out y
      · rw [if_neg ol] at p; exact p.elim
    | ex x outs =>
      rw [q] at p
      simp only at p ⊢
      intro c d P' H' hsO so ex n
      by_cases ol : outs.length = ts.length
      · rw [if_pos ol] at p
        obtain ⟨s2', dd', dh⟩ := s2.over dd so n
        obtain ⟨hs3, s3, l3⟩ := back r.at_r s2' so dd'
        exact p c d P' H' hs3 s3 ex (all n l3)
      · rw [if_neg ol] at p; exact p.elim
end
end L3

namespace L3
open PySem PySem.Spec PyProof.Rows L2
/-! ### statements -/
def PostS (C : Cz) (kp : L2.St → Prop) (P H : Hp) (hs : Nat → Hp) (f : Fl) (D : Ends) : Prop := match f with
  | .st => False
  | .nx ρ' => ∀ σ' P' H' hs', kp σ' → Sta C.K P' H' σ' ρ' hs' → Nx P H hs P' H' hs' emp → D.nx σ' H'
  | .bk ρ' => ∀ σ' P' H' hs', kp σ' → Sta C.K P' H' σ' ρ' hs' → Nx P H hs P' H' hs' emp → D.bk σ' H'
  | .ct ρ' => ∀ σ' P' H' hs', kp σ' → Sta C.K P' H' σ' ρ' hs' → Nx P H hs P' H' hs' emp → D.ct σ' H'
  | .rt d ρ' => ∀ σ' v P' H' hs' hd, kp σ' → Sta C.K P' H' σ' ρ' hs' → Own C.K P' v d hd → Tmp P' H' hs' hd → Nx P H hs P' H' hs' hd → D.rt v H'
  | .ex x ρ' => ∀ σ' c e P' H' hs', kp σ' → Sta C.K P' H' σ' ρ' hs' → C.exr x c e H' → Nx P H hs P' H' hs' emp → C.W c e σ' H'
def rdS (C : Cz) (kp : L2.St → Prop) (f : Env → Fl) : TS := fun D σ H => kp σ ∧ ∃ P hs ρ, Sta C.K P H σ ρ hs ∧ PostS C kp P H hs (f ρ) D
def SV (C : Cz) (X : Cx) (kp : L2.St → Prop) (s : Stmt) (f : Env → Fl) : Prop := PS X s (rdS C kp f)
def SVs (C : Cz) (X : Cx) (kp : L2.St → Prop) (s : List Stmt) (f : Env → Fl) : Prop := PSs X s (rdS C kp f)
section
variable {C : Cz} {X : Cx} {kp : L2.St → Prop} {P H P1 H1 : Hp} {hs hs1 : Nat → Hp} {hd1 : Hp} {σ : L2.St} {ρ : Env} {D D' : Ends} {f : Fl}
theorem PostS.step (h : PostS C kp P H hs f D) (n : Nx P H hs P1 H1 hs1 hd1) : PostS C kp P1 H1 hs1 f D := by
  cases f with
  | st => exact h
  | nx ρ => exact fun σ' P' H' hs' k st m => h σ' P' H' hs' k st (n.trans m)
  | bk ρ => exact fun σ' P' H' hs' k st m => h σ' P' H' hs' k st (n.trans m)
  | ct ρ => exact fun σ' P' H' hs' k st m => h σ' P' H' hs' k st (n.trans m)
  | rt d ρ => exact fun σ' v P' H' hs' hd k st o t m => h σ' v P' H' hs' hd k st o t (n.trans m)
  | ex x ρ => exact fun σ' c e P' H' hs' k st o m => h σ' c e P' H' hs' k st o (n.trans m)
/-- an expression within a statement -/
theorem PostS.fl {α β : Type} {s1 : Bool} {R1 : Hp → Hp → (Nat → Hp) → β → α → Hp → Prop} {r : Res α} {k : α → Env → Fl} (kσ : kp σ) (h : PostS C kp P H hs (r.fl k) D) (n : Nx P H hs P1 H1 hs1 hd1) :
    Post C s1 R1 P1 H1 hs1 σ r fun c H2 => ∃ P2 hs2 ρ2 a hd2, Sta C.K P2 H2 σ ρ2 hs2 ∧ R1 P2 H2 hs2 c a hd2 ∧ Nx P1 H1 hs1 P2 H2 hs2 hd2 ∧ (s1 = true → Same H1 H2) ∧ r = .ok a ρ2 ∧ PostS C kp P H hs (k a ρ2) D := by
  cases r with
  | st => exact h
  | ok a ρ => exact fun c P2 H2 hs2 hd2 st t m q => ⟨P2, hs2, ρ, a, hd2, st, t, m, q, rfl, h⟩
  | ex x ρ => exact fun c d P' H' hs' st t m => h σ c d P' H' hs' kσ st t (n.trans m)
/-- one statement behind another -/
theorem PostS.seq {k : Env → Fl} (h : PostS C kp P H hs (f.seq k) D) : PostS C kp P H hs f { D with nx := fun σ1 H1 => kp σ1 ∧ ∃ P1 hs1 ρ1, Sta C.K P1 H1 σ1 ρ1 hs1 ∧ PostS C kp P1 H1 hs1 (k ρ1) D } := by
  cases f with
  | st => exact h
  | nx ρ => exact fun σ' P' H' hs' kσ st m => ⟨kσ, P', hs', ρ, st, PostS.step h m⟩
  | bk ρ => exact h
  | ct ρ => exact h
  | rt d ρ => exact h
  | ex x ρ => exact h
end
section
variable {C : Cz} {X : Cx} {kp : L2.St → Prop} {P H : Hp} {hs : Nat → Hp} {σ : L2.St} {ρ : Env} {D : Ends} {F : FT} {a b c e : Expr} {ea eb ec : E} {s : Stmt} {ss ts : List Stmt} {S1 : S} {Ss Ts : List S} {pos : Pos} {f g : Env → Fl}
theorem svs_nil : SVs C X kp [] (exb F []) := by
  refine PSs.imp pss_nil fun D σ H => ?_
  rintro ⟨k, P, hs, ρ, st, p⟩
  rw [exb] at p
  exact p σ P H hs k st .refl
theorem svs_cons (h1 : SV C X kp s (exs F S1)) (h2 : SVs C X kp ss (exb F Ss)) : SVs C X kp (s :: ss) (exb F (S1 :: Ss)) := by
  refine PSs.imp (pss_cons h1 h2) fun D σ H => ?_
  rintro ⟨k, P, hs, ρ, st, p⟩
  rw [exb] at p
  exact ⟨k, P, hs, ρ, st, p.seq⟩
theorem sv_pass : SV C X kp (.Pass pos) (exs F .pass) := by
  refine PS.imp ps_pass fun D σ H => ?_
  rintro ⟨k, P, hs, ρ, st, p⟩
  rw [exs] at p
  exact p σ P H hs k st .refl
theorem sv_brk : SV C X kp (.Break pos) (exs F .brk) := by
  refine PS.imp ps_break fun D σ H => ?_
  rintro ⟨k, P, hs, ρ, st, p⟩
  rw [exs] at p
  exact p σ P H hs k st .refl
theorem sv_cnt : SV C X kp (.Continue pos) (exs F .cnt) := by
  refine PS.imp ps_continue fun D σ H => ?_
  rintro ⟨k, P, hs, ρ, st, p⟩
  rw [exs] at p
  exact p σ P H hs k st .refl
theorem sv_if (hc : TV C X c (tst F ec)) (ha : SVs C X kp ss (exb F Ss)) (hb : SVs C X kp ts (exb F Ts)) : SV C X kp (.If c ss ts pos) (exs F (.ifs ec Ss Ts)) := by
  refine PS.imp (ps_if hc ha hb) fun D σ H => ?_
  rintro ⟨k, P, hs, ρ, st, p⟩
  rw [exs] at p
  refine ⟨P, hs, ρ, st, (p.fl (R1 := RB σ) (s1 := false) k .refl).imp fun b H1 => ?_⟩
  rintro ⟨P1, hs1, ρ1, t, hd1, st1, ⟨rfl, _⟩, n1, s1, _, p1⟩
  cases b with
  | true => exact ⟨k, P1, hs1, ρ1, st1, p1.step n1⟩
  | false => exact ⟨k, P1, hs1, ρ1, st1, p1.step n1⟩
theorem sv_ret (he : EV C X ea.quiet e (ev F ea)) : SV C X kp (.Return (some e) pos) (exs F (.ret ea)) := by
  refine PS.imp (ps_ret he) fun D σ H => ?_
  rintro ⟨k, P, hs, ρ, st, p⟩
  rw [exs] at p
  refine ⟨P, hs, ρ, st, (p.fl (R1 := RT C.K σ) (s1 := ea.quiet) k .refl).imp fun v H1 => ?_⟩
  rintro ⟨P1, hs1, ρ1, t, hd1, st1, r1, n1, s1, _, p1⟩
  cases t with
  | o d => exact p1 σ v P1 H1 hs1 hd1 k st1 r1.1 r1.2 n1
  | r i => exact p1.elim
  | q xs => exact p1.elim
theorem sv_expr (he : EV C X ea.quiet e (ev F ea)) (hs : swapsWith e none pos.line X.env = pure false) : SV C X kp (.Expr e pos) (exs F (.expr ea)) := by
  refine PS.imp (ps_expr he hs) fun D σ H => ?_
  rintro ⟨k, P, hs, ρ, st, p⟩
  rw [exs] at p
  refine ⟨P, hs, ρ, st, (p.fl (R1 := RT C.K σ) (s1 := ea.quiet) k .refl).imp fun v H1 => ?_⟩
  rintro ⟨P1, hs1, ρ1, t, hd1, st1, r1, n1, s1, _, p1⟩
  exact p1 σ P1 H1 hs1 k st1 n1.drop
end
/-! ### stores -/
section
variable {K : PySem.W.Frag} {P H : Hp} {σ : L2.St} {ρ : Env} {hs : Nat → Hp}
/-- a name is bound anew -/
theorem Sta.asg (st : Sta K P H σ ρ hs) {i : Nat} {d : D} {hd : Hp} {v : V} (hi : i < ρ.length) (o : Own K P v d hd) (t : Tmp P H hs hd) : Sta K P H (σ.set i (some v)) (ρ.set i (some d)) (hset hs i hd) := by
  have hi' : i < σ.length := by rw [st.len]; exact hi
  have st0 : Sta K P H (σ.set i (some v)) (ρ.set i none) (hset hs i L3.emp) := by
    refine ⟨st.sub, fun j => ?_, fun j k e => ?_, fun j => ?_, by simpa using st.len, fun j e => ?_, fun j x e => ?_⟩
    · by_cases q : j = i
      · subst q; rw [hset_same]; exact Sub.emp _
      · rw [hset_ne q]; exact st.own j
    · exact (((st.dj j k e).mono (hset_less j)).symm.mono (hset_less k)).symm
    · exact ((st.djP j).symm.mono (hset_less j)).symm
    · by_cases q : j = i
      · subst q; rw [hset_same]
      · rw [slot_set, if_neg (fun z => q z.1.symm)] at e
        rw [hset_ne q]; exact st.emp j e
    · by_cases q : j = i
      · subst q; rw [slot_set, if_pos ⟨rfl, hi⟩] at e; cases e
      · rw [slot_set, if_neg (fun z => q z.1.symm)] at e
        obtain ⟨u, hu, ou⟩ := st.at_ j x e
        refine ⟨u, ?_, by rw [hset_ne q]; exact ou⟩
        rw [List.getElem?_set_ne (Ne.symm q)]; exact hu
  have st1 := st0.put (i := i) (d := some d) (h := hd) (by simpa using hi) t.1 (fun j q => by rw [hset_ne q]; exact t.2.1 j) t.2.2 (fun x z => by
    cases z
    exact ⟨v, by rw [List.getElem?_set_self hi'], o⟩) (fun z => nomatch z)
  have e1 : (ρ.set i none).set i (some d) = ρ.set i (some d) := by simp
  have e2 : hset (hset hs i L3.emp) i hd = hset hs i hd := by
    funext j
    unfold hset
    by_cases q : j = i <;> simp [q]
  rw [e1, e2] at st1
  exact st1
theorem Nx.asg {P0 H0 : Hp} {hs0 : Nat → Hp} {hd : Hp} {i : Nat} (n : Nx P0 H0 hs0 P H hs hd) : Nx P0 H0 hs0 P H (hset hs i hd) emp := by
  refine ⟨n.up, n.frame, fun a z => ?_⟩
  rcases z with ⟨j, z⟩ | z | z
  · by_cases q : j = i
    · subst q; rw [hset_same] at z; exact n.fresh a (.inr (.inl z))
    · rw [hset_ne q] at z; exact n.fresh a (.inl ⟨j, z⟩)
  · exact absurd rfl z
  · exact n.fresh a (.inr (.inr z))
end
/-- what a store wants: told from the beginning -/
def PostG (C : Cz) (kp : L2.St → Prop) (P0 H0 : Hp) (hs0 : Nat → Hp) (r : Res Unit) (Q : L2.St → Hp → Prop) : Prop := match r with
  | .st => False
  | .ok _ ρ' => ∀ σ' P' H' hs', kp σ' → Sta C.K P' H' σ' ρ' hs' → Nx P0 H0 hs0 P' H' hs' emp → Q σ' H'
  | .ex x ρ' => ∀ σ' c e P' H' hs', kp σ' → Sta C.K P' H' σ' ρ' hs' → C.exr x c e H' → Nx P0 H0 hs0 P' H' hs' emp → C.W c e σ' H'
def rdG (C : Cz) (kp : L2.St → Prop) (f : D → Env → Res Unit) : TG := fun v σ H Q => kp σ ∧ ∃ P0 H0 hs0 P hs ρ d hd, Sta C.K P H σ ρ hs ∧ Own C.K P v d hd ∧ Tmp P H hs hd ∧ Nx P0 H0 hs0 P H hs hd ∧ PostG C kp P0 H0 hs0 (f d ρ) Q
def rdGs (C : Cz) (kp : L2.St → Prop) (f : List PyData → Env → Res Unit) : TGs := fun vs σ H Q => kp σ ∧ ∃ P hs ρ xs, Sta C.K P H σ ρ hs ∧ DpAll C.K P vs xs ∧ PostG C kp P H hs (f xs ρ) Q
def GV (C : Cz) (X : Cx) (kp : L2.St → Prop) (t : Expr) (F : FT) (l : Lv) : Prop := PG X t (rdG C kp (sto F l))
def GVs (C : Cz) (X : Cx) (kp : L2.St → Prop) (t : List Expr) (F : FT) (l : List Lv) : Prop := PGs X t (rdGs C kp (stos F l))
theorem PG.imp {X : Cx} {e : Expr} {t t' : TG} (h : PG X e t) (i : ∀ v σ H Q, t' v σ H Q → t v σ H Q) : PG X e t' := ⟨fun pins s σ H v u Q I r q => h.run pins s σ H v u Q I r (i v σ H Q q)⟩
theorem PGs.imp {X : Cx} {e : List Expr} {t t' : TGs} (h : PGs X e t) (i : ∀ v σ H Q, t' v σ H Q → t v σ H Q) : PGs X e t' := ⟨fun pins s σ H v u Q I r q => h.run pins s σ H v u Q I r (i v σ H Q q)⟩
/-- a slot that kp does not mind -/
def Free (kp : L2.St → Prop) (i : Nat) : Prop := ∀ σ v, kp σ → kp (σ.set i v)
section
variable {C : Cz} {X : Cx} {kp : L2.St → Prop} {P H P0 H0 : Hp} {hs hs0 : Nat → Hp} {σ : L2.St} {ρ : Env} {D : Ends} {F : FT} {a b c e : Expr} {ea eb ec ek : E} {pos px : Pos} {i : Nat} {x : Str} {l : Lv} {ls : List Lv} {t : Expr} {ts : List Expr}
theorem PostG.then_ {r : Res Unit} {k : Env → Res Unit} {Q : L2.St → Hp → Prop} (p : PostG C kp P0 H0 hs0 (r.bind fun _ ρ1 => k ρ1) Q) : PostG C kp P0 H0 hs0 r fun σ1 H1 => kp σ1 ∧ ∃ P1 hs1 ρ1, Sta C.K P1 H1 σ1 ρ1 hs1 ∧ Nx P0 H0 hs0 P1 H1 hs1 emp ∧ PostG C kp P0 H0 hs0 (k ρ1) Q := by
  cases r with
  | st => exact p
  | ok u ρ1 => exact fun σ' P' H' hs' kσ st n => ⟨kσ, P', hs', ρ1, st, n, p⟩
  | ex y ρ1 => exact p
theorem gv_n (hN : X.N.Nodup) (hi : X.N[i]? = some x) (hx : Loc X.env.scope x) (hf : X.fn x = true ∨ X.env.scope.names.lookup x = some .local) (fr : Free kp i) : GV C X kp (.Name x pos) F (.n i) := by
  refine PG.imp (pg_name hN hi hx hf) fun v σ H Q => ?_
  rintro ⟨k, P0, H0, hs0, P, hs, ρ, d, hd, st, o, tm, n, p⟩
  rw [sto] at p
  by_cases hi : i < ρ.length
  · exact p (σ.set i (some v)) P H _ (fr σ _ k) (st.asg hi o tm) n.asg
  · -- no such slot: nothing is kept of it
    have e1 : ρ.set i (some d) = ρ := List.set_eq_of_length_le (Nat.le_of_not_lt hi)
    have e2 : σ.set i (some v) = σ := List.set_eq_of_length_le (by rw [st.len]; exact Nat.le_of_not_lt hi)
    rw [e1] at p
    show Q (σ.set i (some v)) H
    rw [e2]
    exact p σ P H hs k st n.drop
theorem PostG.step {r : Res Unit} {Q : L2.St → Hp → Prop} (p : PostG C kp P0 H0 hs0 r Q) {hd : Hp} (n : Nx P0 H0 hs0 P H hs hd) : PostG C kp P H hs r Q := by
  cases r with
  | st => exact p
  | ok u ρ1 => exact fun σ' P' H' hs' kσ st m => p σ' P' H' hs' kσ st (n.trans m)
  | ex y ρ1 => exact fun σ' c e P' H' hs' kσ st x m => p σ' c e P' H' hs' kσ st x (n.trans m)
theorem gvs_nil : GVs C X kp [] F [] := by
  refine PGs.imp pgs_nil fun vs σ H Q => ?_
  rintro ⟨k, P, hs, ρ, xs, st, dv, p⟩
  cases dv with
  | nil =>
    rw [stos] at p
    exact ⟨rfl, p σ P H hs k st .refl⟩
  | cons => rw [stos] at p <;> first | exact p.elim | simp
theorem gvs_cons (h1 : GV C X kp t F l) (h2 : GVs C X kp ts F ls) (hs : (assignEach (t :: ts) X.env).map (·.2) = assign t X.env :: (assignEach ts X.env).map (·.2)) : GVs C X kp (t :: ts) F (l :: ls) := by
  refine PGs.imp (pgs_cons h1 h2 hs) fun vs σ H Q => ?_
  rintro ⟨k, P, hs, ρ, xs, st, dv, p⟩
  cases dv with
  | nil => rw [stos] at p <;> first | exact p.elim | simp
  | cons d dr =>
    rw [stos] at p
    refine ⟨_, _, rfl, k, P, H, hs, P, hs, ρ, _, L3.emp, st, .p d, Tmp.emp, .refl, ?_⟩
    cases q : sto F l _ ρ with
    | st => rw [q] at p; exact p
    | ex => rw [q] at p; exact p
    | ok u ρ1 =>
      rw [q] at p
      intro σ' P' H' hs' kσ st' n'
      exact ⟨kσ, P', hs', ρ1, _, st', DpAll.up n'.up dr, PostG.step p n'⟩
theorem gv_t {k2 : Nat} (hc : X.calm = true) (hK : X.K = C.K) (h : GVs C X kp ts F ls) (hl : (assignEach ts X.env).length = ls.length) (hst : (assignEach ts X.env).findIdx? (·.1) = none) :
    GV C X kp (.Tuple ts k2 pos) F (.t ls) := by
  refine PG.imp (pg_tup hc h hl hst) fun v σ H Q => ?_
  rintro ⟨k, P0, H0, hs0, P, hs, ρ, d, hd, st, o, tm, n, p⟩
  cases o with
  | p dx =>
    cases dx with
    | tup h1 h2 =>
      rename_i a vs ds
      rw [sto] at p
      by_cases hl : ds.length = ls.length
      · rw [if_pos hl] at p
        refine ⟨a, vs, rfl, ?_, by rw [h2.len]; exact hl, k, P, hs, ρ, ds, st, h2, p.step n⟩
        rw [hK]; exact SqT.up st.sub h1
      · rw [if_neg hl] at p; exact p.elim
    | _ => rw [sto] at p <;> first | exact p.elim | simp
  | _ => rw [sto] at p <;> first | exact p.elim | simp
end
end L3

namespace L3
open PySem PySem.Spec PyProof.Rows L2
/-! ### xs[i] = v, d[k] = v -/
def rSetX (K : PySem.W.Frag) : TSet := fun o i v H Q => rSetD o i v H Q ∨ rSetL o i v H Q ∨ rSetT K o i v H Q
theorem set_x {X : Cx} (hu : X.A.units + 20 < cLine) : PSet X (rSetX X.K) := by
  intro pins s σ H o i v ov iv u Q I ro ri rv h
  rcases h with h | h | h
  · exact set_dict (by omega) pins s σ H o i v ov iv u Q I ro ri rv h
  · exact set_list pins s σ H o i v ov iv u Q I ro ri rv h
  · exact set_tab hu pins s σ H o i v ov iv u Q I ro ri rv h
theorem OwnKv.len {K : PySem.W.Frag} {P : Hp} : ∀ {ks : List (Key × V)} {kvs : List (Key × D)} {h : Hp}, OwnKv K P ks kvs h → ks.length = kvs.length
  | _, _, _, .nil => rfl
  | _, _, _, .cons _ b _ => by simp [OwnKv.len b]
theorem dif_sub {h k H : Hp} (s : Sub h H) : Sub (dif h k) H := fun b u z => by
  by_cases r : k b = none
  · rw [dif_none r] at z; exact s _ _ z
  · rw [dif_some r] at z; cases z
theorem ixN_lt {n j : Nat} {i : Int} (h : ixN n i = some j) : j < n := (ixN_seq h).2.1
theorem own_set {K : PySem.W.Frag} {P : Hp} {w iv v : V} {d d' dv : D} {he hv : Hp} {y : PyData} (o : Own K P w d he) (sa : setAt d y dv = some d') (ov : Own K P v dv hv) (dj : Dj hv he) (dy : Dp K P iv y) :
    ∃ a o' he', w = .ref a ∧ he a ≠ none ∧ (∀ H, Sub P H → Sub he H → ∀ Q : Hp → Prop, Q (upd H a o') → rSetX K w iv v H Q) ∧ Own K P w d' he' ∧ (∀ b, he' b ≠ none → he b ≠ none ∨ hv b ≠ none) ∧ ∀ H, Sub he H → Sub hv H → Sub he' (upd H a o') := by
  have dom : ∀ {a : Addr} {o o' : HO} {h k : Hp} b, upd (uni hv (dif h k)) a o' b ≠ none → upd h a o b ≠ none ∨ hv b ≠ none := fun {a o o' h k} b z => by
    rcases upd_ne_iff.mp z with z | z
    · exact .inl (upd_ne_iff.mpr (.inl z))
    · rcases uni_ne.mp z with z | z
      · exact .inr z
      · left
        refine upd_ne_iff.mpr (.inr ?_)
        by_cases r : k b = none
        · rw [dif_none r] at z; exact z
        · rw [dif_some r] at z; exact absurd rfl z
  cases o with
  | p => cases y <;> cases sa
  | k => cases y <;> cases sa
  | l dx =>
    rename_i a vs xs
    cases y <;> simp only [setAt, reduceCtorEq] at sa
    rename_i i
    simp only [Option.bind_eq_some_iff, ix] at sa
    obtain ⟨j, hj, sa⟩ := sa
    cases dv <;> simp only [reduceCtorEq, Option.some.injEq] at sa
    subst sa
    cases ov with
    | p dv =>
      cases dy
      refine ⟨a, .lst (vs.set j v), upd L3.emp a (.lst (vs.set j v)), rfl, by rw [upd_same]; simp, fun H _ s Q q => .inr (.inl ⟨a, vs, i, j, rfl, rfl, s _ _ upd_same, by rw [dx.len]; exact hj, q⟩), .l (dx.setAt j dv), fun b z => ?_, fun H s _ => upd_sub (Sub.emp _) upd_same⟩
      rcases upd_ne_iff.mp z with z | z
      · exact .inl (upd_ne_iff.mpr (.inl z))
      · exact absurd rfl z
  | g os hn =>
    rename_i a vs ds h
    cases y <;> simp only [setAt, reduceCtorEq] at sa
    rename_i i
    simp only [Option.map_eq_some_iff, ix] at sa
    obtain ⟨j, hj, rfl⟩ := sa
    cases dy
    have hjl := ixN_lt hj
    obtain ⟨w0, hk, e1, oe, se, put⟩ := os.get (j := j) (List.getElem?_eq_getElem hjl)
    have dj2 : Dj hv (dif h hk) := (dj.symm.mono fun b z => by
      by_cases r : hk b = none
      · rw [dif_none r] at z; exact (upd_fresh hn).ne z
      · rw [dif_some r] at z; exact absurd rfl z).symm
    have na : hk a = none := Classical.byContradiction fun z => se.ne z hn
    have nv : hv a = none := dj.symm.out (by rw [upd_same]; simp)
    refine ⟨a, .lst (vs.set j v), upd (uni hv (dif h hk)) a (.lst (vs.set j v)), rfl, by rw [upd_same]; simp, fun H _ s Q q => .inr (.inl ⟨a, vs, i, j, rfl, rfl, s _ _ upd_same, by rw [OwnAll.len os]; exact hj, q⟩),
      .g (put v dv hv ov dj2) (by rw [uni_none nv, dif_none na]; exact hn), fun b z => dom b z, fun H s sv => upd_subS (uni_sub sv (dif_sub ((upd_fresh hn).trans s)))⟩
  | d os nd hn =>
    rename_i a ks kvs h
    simp only [setAt, Option.bind_eq_some_iff, Option.ite_none_right_eq_some, Option.some.injEq] at sa
    obtain ⟨k, hk, hz, rfl⟩ := sa
    have ey := key_dp dy hk
    subst ey
    have nv : hv a = none := dj.symm.out (by rw [upd_same]; simp)
    have rs : ∀ H, Sub P H → Sub (upd h a (.dK ks)) H → ∀ Q : Hp → Prop, Q (upd H a (.dK (kvPut k v ks))) → rSetX K (.ref a) (kV k) v H Q := fun H _ s Q q => by
      refine .inl ⟨a, _, rfl, .inl ⟨ks, k, s _ _ upd_same, rfl, ?_, rfl⟩, ?_⟩
      · rw [OwnKv.len os]
        exact Nat.lt_of_lt_of_le hz (by rw [sizeLine_eq]; decide)
      · rw [putK_kv nd]; exact q
    cases g : kvGet k kvs with
    | some e =>
      obtain ⟨w0, h0, e1, oe, se, put⟩ := os.get g
      have dj2 : Dj hv (dif h h0) := (dj.symm.mono fun b z => by
        by_cases r : h0 b = none
        · rw [dif_none r] at z; exact (upd_fresh hn).ne z
        · rw [dif_some r] at z; exact absurd rfl z).symm
      have na : h0 a = none := Classical.byContradiction fun z => se.ne z hn
      exact ⟨a, .dK (kvPut k v ks), upd (uni hv (dif h h0)) a (.dK (kvPut k v ks)), rfl, by rw [upd_same]; simp, rs,
        .d (put v dv hv ov dj2) (by rw [kvPut_keys e1]; exact nd) (by rw [uni_none nv, dif_none na]; exact hn), fun b z => dom b z, fun H s sv => upd_subS (uni_sub sv (dif_sub ((upd_fresh hn).trans s)))⟩
    | none =>
      obtain ⟨e1, put⟩ := os.miss g
      have dj2 : Dj hv h := (dj.symm.mono fun b z => (upd_fresh hn).ne z).symm
      refine ⟨a, .dK (kvPut k v ks), upd (uni hv h) a (.dK (kvPut k v ks)), rfl, by rw [upd_same]; simp, rs, .d (put v dv hv ov dj2) ?_ (by rw [uni_none nv]; exact hn), fun b z => ?_, fun H s sv => upd_subS (uni_sub sv ((upd_fresh hn).trans s))⟩
      · rw [kvPut_new e1, List.map_append, List.nodup_append]
        refine ⟨nd, by simp, fun x hx y hy => ?_⟩
        have : y = k := by simpa using hy
        subst this
        exact fun z => kvGet_mem e1 (by rw [← z]; exact hx)
      · rcases upd_ne_iff.mp z with z | z
        · exact .inl (upd_ne_iff.mpr (.inl z))
        · rcases uni_ne.mp z with z | z
          · exact .inr z
          · exact .inl (upd_ne_iff.mpr (.inr z))
  | t tw =>
    rename_i a ws kvs
    simp only [setAt, Option.bind_eq_some_iff, Option.ite_none_right_eq_some] at sa
    obtain ⟨k, hk, hz, sa⟩ := sa
    cases dv <;> simp only [reduceCtorEq, Option.some.injEq] at sa
    subst sa
    cases ov with
    | p dv =>
      cases y <;> simp only [tkOf, reduceCtorEq] at hk
      rename_i ys
      have hk' : tkOf (.tuple ys) = some k := hk
      cases dy with
      | tup h1 h2 =>
        rename_i b us
        have kd : KeyD K P (k, b, v) := ⟨.tuple ys, .tup h1 h2, hk'⟩
        refine ⟨a, TD a (tSet k b v ws), upd L3.emp a (TD a (tSet k b v ws)), rfl, by rw [upd_same]; simp, fun H sp s Q q => .inr (.inr ⟨a, b, ws, k, rfl, rfl, s _ _ upd_same, (tw.up sp).keys, kd.up sp, ?_, q⟩), .t (tw.put kd dv), fun c z => ?_, fun H s _ => upd_sub (Sub.emp _) upd_same⟩
        · rw [tw.len]
          exact Nat.lt_of_lt_of_le hz (by rw [sizeLine_eq]; decide)
        · rcases upd_ne_iff.mp z with z | z
          · exact .inl (upd_ne_iff.mpr (.inl z))
          · exact absurd rfl z
section
variable {C : Cz} {X : Cx} {kp : L2.St → Prop} {P H P0 H0 P1 H1 : Hp} {hs hs0 hs1 : Nat → Hp} {hd1 : Hp} {σ : L2.St} {ρ : Env} {F : FT} {a k e : Expr} {ea ek : E} {Ks : List E} {pos px pk : Pos} {i : Nat} {x : Str}
theorem PostG.fl {α β : Type} {s1 : Bool} {R1 : Hp → Hp → (Nat → Hp) → β → α → Hp → Prop} {r : Res α} {k : α → Env → Res Unit} {Q : L2.St → Hp → Prop} (kσ : kp σ) (h : PostG C kp P0 H0 hs0 (r.bind k) Q) (n : Nx P0 H0 hs0 P1 H1 hs1 hd1) :
    Post C s1 R1 P1 H1 hs1 σ r fun c H2 => ∃ P2 hs2 ρ2 a hd2, Sta C.K P2 H2 σ ρ2 hs2 ∧ R1 P2 H2 hs2 c a hd2 ∧ Nx P1 H1 hs1 P2 H2 hs2 hd2 ∧ (s1 = true → Same H1 H2) ∧ r = .ok a ρ2 ∧ PostG C kp P0 H0 hs0 (k a ρ2) Q := by
  cases r with
  | st => exact h
  | ok a ρ => exact fun c P2 H2 hs2 hd2 st t m q => ⟨P2, hs2, ρ, a, hd2, st, t, m, q, rfl, h⟩
  | ex x ρ => exact fun c d P' H' hs' st t m => h σ c d P' H' hs' kσ st t (n.trans m)
def kSet (i : Nat) (k : Option PyData) (q : Bool) (d : D) (u : T) (ρ2 : Env) : Res Unit := if k.isNone || q then
      match u.pure with
      | some y => (match chg ρ2 i k (fun e => (setAt e y d).map fun e' => ((), e')) with | some (_, ρ3) => .ok () ρ3 | none => .st)
      | none => .st
    else .st
theorem sto_ix {d : D} : sto F (.ix i Ks ea) d ρ = if has ρ i then (evk F Ks ρ).bind fun k ρ1 => if atK ρ1 i k then (ev F ea ρ1).bind fun u ρ2 => kSet i k ea.quiet d u ρ2 else .st else .st := by
  simp only [sto, kSet]; try rfl
/-- the store itself -/
theorem kSet_post {k : Option PyData} {q : Bool} {d : D} {u : T} {v w iv v0 : V} {hd hu Hw : Hp} {Q : L2.St → Hp → Prop} (kσ : kp σ) (st : Sta C.K P H σ ρ hs) (n0 : Nx P0 H0 hs0 P H hs hd) (od : Own C.K P v d hd) (td : Tmp P H hs hd) (ru : TR C.K P H σ hs iv u hu) (hv : σ[i]? = some (some v0)) (rc : Rcv Hw v0 k w) (sm0 : q = true → Same Hw H)
    (p : PostG C kp P0 H0 hs0 (kSet i k q d u ρ) Q) : rSetX C.K w iv v H fun H3 => Q σ H3 := by
  unfold kSet at p
  by_cases z : (k.isNone || q) = true
  · rw [if_pos z] at p
    have rc := rc.mono (H' := H) (by
      cases k with
      | none => exact .inl rfl
      | some kv => exact .inr (sm0 (by simpa using z)))
    cases q1 : u.pure with
    | none => rw [q1] at p; exact p.elim
    | some y =>
      rw [q1] at p
      obtain ⟨dy, _⟩ := ru.pl q1
      simp only at p
      cases q2 : chg ρ i k (fun e => (setAt e y d).map fun e' => ((), e')) with
      | none => rw [q2] at p; exact p.elim
      | some t =>
        obtain ⟨xd, ρ3⟩ := t
        rw [q2] at p
        obtain ⟨d0, d', w', he, rc', o, se, em, fin⟩ := own_chg st td n0 hv q2
        cases rc.fn rc'
        simp only [Option.map_eq_some_iff, Prod.mk.injEq] at em
        obtain ⟨d2, sa, _, rfl⟩ := em
        have dj : Dj hd he := ((td.2.1 i).symm.mono fun b z => se.ne z).symm
        obtain ⟨a, o', he', rfl, na, rs, o2, dom, sub⟩ := own_set o sa od dj dy
        refine rs H st.sub (se.trans (st.own i)) _ ?_
        obtain ⟨st', nx⟩ := fin he' (upd H a o') o2 dom (sub H (se.trans (st.own i)) td.1) fun b r => upd_ne fun z => by subst z; exact na r
        exact p σ P _ _ kσ st' nx
  · rw [if_neg z] at p; exact p.elim
theorem gv_ix0 (hu : X.A.units + 20 < cLine) (hK : X.K = C.K) (hN : X.N[i]? = some x) (hv : Vis X.env.scope x) (hdb : (x == ("__debug__" : Str)) = false) (hcd : (x == ("__classdict__" : Str)) = false) (ha : EV C X ea.quiet a (ev F ea))
    (hs : ∀ v, assign (.Subscript (.Name x px) a pos) X.env v = (do
      let ov ← holding [v] (eval (.Name x px) X.env)
      let iv ← holding [v, ov] (eval a X.env)
      standAt pos
      holding [v, ov, iv] (setItem ov iv v)
      release [v, ov, iv] [])) : GV C X kp (.Subscript (.Name x px) a pos) F (.ix i [] ea) := by
  refine PG.imp (pg_sub (pe_var hN hv hdb hcd) ha (set_x hu) hs) fun v σ H Q => ?_
  rintro ⟨kσ, P0, H0, hs0, P, hs, ρ, d, hd, st, o, tm, n, p⟩
  rw [sto_ix] at p
  by_cases z : has ρ i = true
  · rw [if_pos z, evk] at p
    obtain ⟨d0, e0⟩ := has_slot z
    obtain ⟨v0, hv0, _⟩ := st.at_ i d0 e0
    have p' : PostG C kp P0 H0 hs0 ((ev F ea ρ).bind fun u ρ2 => kSet i none ea.quiet d u ρ2) Q := p
    refine ⟨v0, hv0, P, hs, ρ, st, (p'.fl (R1 := RT C.K σ) (s1 := ea.quiet) kσ n).imp fun iv H1 => ?_⟩
    rintro ⟨P1, hs1, ρ1, t, hd1, st1, r1, n1, s1, _, p1⟩
    obtain ⟨tm1, dj⟩ := tm.later n1
    have n2 : Nx P0 H0 hs0 P1 H1 hs1 hd := by
      have y := n.transU n1
      exact ⟨y.up, y.frame, fun a z => y.fresh a (z.imp id fun z => z.imp (fun z => uni_ne.mpr (.inl z)) id)⟩
    rw [hK]
    exact kSet_post (Hw := H1) (k := none) kσ st1 n2 (Own.up n1.up o) tm1 r1 hv0 (show Rcv H1 v0 none v0 from rfl) (fun _ => Same.refl _) p1
  · rw [if_neg z] at p; exact p.elim
theorem gv_ix1 (hu : X.A.units + 20 < cLine) (hK : X.K = C.K) (hN : X.N[i]? = some x) (hv : Vis X.env.scope x) (hdb : (x == ("__debug__" : Str)) = false) (hcd : (x == ("__classdict__" : Str)) = false) (hpk : PlainIx k) (hk : EV C X ek.quiet k (ev F ek)) (ha : EV C X ea.quiet a (ev F ea))
    (hs : ∀ v, assign (.Subscript (.Subscript (.Name x px) k pk) a pos) X.env v = (do
      let ov ← holding [v] (eval (.Subscript (.Name x px) k pk) X.env)
      let iv ← holding [v, ov] (eval a X.env)
      standAt pos
      holding [v, ov, iv] (setItem ov iv v)
      release [v, ov, iv] [])) : GV C X kp (.Subscript (.Subscript (.Name x px) k pk) a pos) F (.ix i [ek] ea) := by
  refine PG.imp (pg_sub (pe_ix (ix_path (by omega)) (pe_var hN hv hdb hcd) hk hpk) ha (set_x hu) hs) fun v σ H Q => ?_
  rintro ⟨kσ, P0, H0, hs0, P, hs, ρ, d, hd, st, o, tm, n, p⟩
  rw [sto_ix] at p
  by_cases z : has ρ i = true
  · rw [if_pos z, evk] at p
    obtain ⟨d0, e0⟩ := has_slot z
    obtain ⟨v0, hv0, _⟩ := st.at_ i d0 e0
    have p' : PostG C kp P0 H0 hs0 ((ev F ek ρ).bind fun t ρ1 => (match t.pure with | some x => Res.ok (some x) ρ1 | none => .st).bind fun k ρ1 => if atK ρ1 i k then (ev F ea ρ1).bind fun u ρ2 => kSet i k ea.quiet d u ρ2 else .st) Q := by
      cases q : ev F ek ρ with
      | st => rw [q] at p; exact p
      | ok t ρ1 => rw [q] at p; exact p
      | ex => rw [q] at p; exact p
    refine ⟨v0, hv0, P, hs, ρ, st, (p'.fl (R1 := RT C.K σ) (s1 := ek.quiet) kσ n).imp fun y H1 => ?_⟩
    rintro ⟨P1, hs1, ρ1, t, hd1, st1, r1, n1, s1, _, p1⟩
    cases q : t.pure with
    | none => rw [q] at p1; exact p1.elim
    | some kv =>
      rw [q] at p1
      obtain ⟨dk, rfl⟩ := r1.pl q
      obtain ⟨tm1, _⟩ := tm.later n1
      have n2 : Nx P0 H0 hs0 P1 H1 hs1 hd := by
        have y := n.transU n1
        exact ⟨y.up, y.frame, fun a z => y.fresh a (z.imp id fun z => z.imp (fun z => uni_ne.mpr (.inl z)) id)⟩
      have p1 : PostG C kp P0 H0 hs0 (if atK ρ1 i (some kv) then (ev F ea ρ1).bind fun u ρ2 => kSet i (some kv) ea.quiet d u ρ2 else .st) Q := p1
      by_cases y : atK ρ1 i (some kv) = true
      case neg => rw [if_neg y] at p1; exact p1.elim
      rw [if_pos y] at p1
      have p2 := p1
      -- the thing at the key, seen ahead
      have see : ∃ d1 e1, slot ρ1 i = some d1 ∧ getAt d1 kv = some e1 := by
        obtain ⟨e1, h⟩ := Option.isSome_iff_exists.mp (show ((slot ρ1 i).bind fun d => getAt d kv).isSome = true from y)
        obtain ⟨d1, h1, h2⟩ := Option.bind_eq_some_iff.mp h
        exact ⟨d1, e1, h1, h2⟩
      obtain ⟨d1, e1, q3, g⟩ := see
      obtain ⟨v1, hv1, o1⟩ := st1.at_ i d1 q3
      rw [hv0] at hv1; cases hv1
      obtain ⟨w, he, at_, oe, se, f⟩ := own_path o1 (st1.own i) g dk
      rw [hK]
      refine f _ ⟨P1, hs1, ρ1, st1, (p2.fl (R1 := RT C.K σ) (s1 := ea.quiet) kσ n2).imp fun iv H2 => ?_⟩
      rintro ⟨P2, hs2, ρ2, u, hd2, st2, r2, n3, s3, _, p3⟩
      obtain ⟨tm2, _⟩ := tm1.later n3
      have n4 : Nx P0 H0 hs0 P2 H2 hs2 hd := by
        have y := n2.transU n3
        exact ⟨y.up, y.frame, fun a z => y.fresh a (z.imp id fun z => z.imp (fun z => uni_ne.mpr (.inl z)) id)⟩
      exact kSet_post (Hw := H1) kσ st2 n4 (Own.up n3.up (Own.up n1.up o)) tm2 r2 hv0 (show Rcv H1 v0 (some kv) w from at_.mono (st1.own i)) s3 p3
  · rw [if_neg z] at p; exact p.elim
end
end L3

/-! enumerate over a tuple. -/
namespace L3
open PySem PySem.Spec PyProof.Rows L2
section
variable {prog : Program} {w : World} {A : Around} {E : Value → Shared → Prop} {s : Shared}
set_option maxHeartbeats 1000000 in
theorem enum_one {v : Value} {o : Obj} {Hh : Heap → Prop} (B : Begins v o Hh) :
    Meets (Builtin.«enumerate.__new__» ⟨[.type "enumerate", v], []⟩) (fun _ R s => Hh s.heap ∧
      R (.ok (.ret (.ref (s.heap.push o).objs.size))) { s with heap := (s.heap.push o).push { cls := .type "enumerate", data := .fields #[.none, .bool false, .ref s.heap.objs.size, rawInt 0, .none, .none] } }) :=
  .of_wp fun prog w A R s h => by
    obtain ⟨hp, g, d, tk, os⟩ := s
    obtain ⟨h1, h⟩ := h
    have se := sub_enumerate
    have bg : ∀ {A' : Around} {E' : Value → Shared → Prop} {Q : Value → Shared → Prop}, Q (.ref hp.objs.size) ⟨hp.push o, g, d, tk, os⟩ → wpAny (model prog w) A' (pyIter v) Q E' ⟨hp, g, d, tk, os⟩ :=
      fun z => B.iter prog w _ _ ⟨hp, g, d, tk, os⟩ _ h1 z
    wp_walk using bg
    refine wpAny_stack_any fun st => wpAny_pure ?_
    split
    · rename_i cc _ _ _ _ _
      cases (cc == Value.type "enumerate") <;> (wp_walk using bg; exact ⟨_, rfl, h⟩)
    · wp_walk using bg
      exact ⟨_, rfl, h⟩
theorem enum_new {v : Value} {o : Obj} {Hh : Heap → Prop} {Q : Value → Shared → Prop} (B : Begins v o Hh) (h1 : Hh s.heap)
    (h : ∀ h', IsEnum h' (s.heap.objs.size + 1) s.heap.objs.size 0 .none → h'.get? s.heap.objs.size = some o → (∀ b u, s.heap.get? b = some u → h'.get? b = some u) → Q (.ref (s.heap.objs.size + 1)) { s with heap := h' }) :
    wpAny (model prog w) A (call (.type "enumerate") [v]) Q E s := by
  refine callType_new F.called_enumerate (by decide) (F.typeCall_enumerate_1 _) (F.newCall_enumerate_1 _) (fun ob => F.args_object_init_2 ob _) F.entry_enumerate_new (enum_one B) ⟨h1, ?_⟩
  have sz : (s.heap.push o).objs.size = s.heap.objs.size + 1 := Heap.size_push ..
  have ie := Heap.get?_push_size (s.heap.push o) (o := { cls := .type "enumerate", data := .fields #[.none, .bool false, .ref s.heap.objs.size, rawInt 0, .none, .none] }) rfl
  show _ ∧ _
  rw [sz] at ie ⊢
  exact ⟨⟨_, ie, rfl⟩, h _ ie (Heap.get?_push_of_some _ (Heap.get?_push_size _ B.free)) fun b u x => Heap.get?_push_of_some _ (Heap.get?_push_of_some _ x)⟩
end
/-- the tuple at a, each item in a new pair -/
def IteT (K : PySem.W.Frag) (a : Addr) : L2.It :=
  ⟨fun i H => ∃ (xs : List V) (x : V), SqT K H a xs ∧ xs[i]? = some x, fun i H v H' => ∃ t x, v = .ref t ∧ H t = none ∧ H' = upd H t (.tup [.int (i : Nat), x]) ∧ ∀ xs, SqT K H a xs → xs[i]? = some x, fun i H => ∃ xs : List V, SqT K H a xs ∧ xs.length ≤ i⟩
theorem turn_enumT {P : Program} {w : World} {K : PySem.W.Frag} {elts : List Expr} {kk : Nat} {tpos : Pos} (a e it : Addr) :
    Turn P w K (.Tuple elts kk tpos) (IteT K a) [e, it] e (fun i h => (∃ old, IsEnum h e it ((i : Nat) : Int) old) ∧ h.IsTupleIter it a i ∧ e ≠ it) where
  mem := List.mem_cons_self ..
  obj := fun i h ⟨⟨old, x1⟩, ⟨o, x2, _, x3⟩, _⟩ b hb => by
    rcases List.mem_cons.mp hb with rfl | hb
    · exact ⟨_, x1, fun v q => nomatch q⟩
    · rw [List.mem_singleton.mp hb]
      exact ⟨o, x2, fun v q => by rw [x3] at q; cases q⟩
  keep := fun i h h' ⟨⟨old, x1⟩, x2, x3⟩ k => ⟨⟨old, k e (by simp) _ x1⟩, x2.at fun o q => k it (by simp) o q, x3⟩
  item := by
    intro X eP ew eK hc i pins s σ H E I hf st hg
    subst eP ew eK
    obtain ⟨⟨old, x1⟩, x2, x3⟩ := st
    obtain ⟨xs, x, sq, hx⟩ := hg
    obtain ⟨its, rv, p, _⟩ := I.tuple sq
    obtain ⟨u, hu, ru⟩ := rv.get hx
    have el : e < s.heap.objs.size := Heap.lt_size x1
    have il : it < s.heap.objs.size := by obtain ⟨_, q, _⟩ := x2; exact Heap.lt_size q
    have na : a ≠ it := fun z => by
      obtain ⟨o, q, c, _⟩ := p
      obtain ⟨o2, q2, c2, _⟩ := x2
      rw [z, q2] at q; cases q
      rw [c2] at c
      exact absurd c (by simp)
    have ne : e ∉ [it, a] := fun z => by
      rcases List.mem_cons.mp z with z | z
      · exact x3 z
      · obtain ⟨o, q, c, _⟩ := p
        rw [← List.mem_singleton.mp z, x1] at q; cases q
        exact absurd c (by simp)
    have hi : i < its.toArray.size := by
      have := List.getElem?_eq_some_iff.mp hu
      obtain ⟨z, _⟩ := this
      simpa using z
    refine wpAny_pyNext_enum_itemC (Draws.tuple (A := X.A.in1) (I.ok.hd hc) it a na its.toArray) x1 ⟨x2, p⟩ hi x3 ne fun y h' tk hy io st' hT _ hk => ?_
    have ey : y = u := by
      have : its.toArray[i]? = some u := by simpa using hu
      rw [this] at hy; exact (Option.some.inj hy).symm
    subst ey
    refine ⟨_, rfl, wpAny_letOwnedTupleGo_enum (s := { s with heap := h', toks := tk + 1 }) io fun h2 ie sb => ?_⟩
    have hT2 := (sb.2 _ (Nat.ne_of_gt el)).trans hT
    have obj : ObjOk X.prog X.w (upd H s.heap.objs.size (.tup [.int (i : Nat), x])) h2 s.heap.objs.size (.tup [.int (i : Nat), x]) :=
      ⟨by show 2 ≤ sizeLine; decide, [.int i tk, y], .cons ⟨_, rfl⟩ (.cons ru .nil), ⟨_, hT2, rfl, _, rfl⟩⟩
    have I1 := I.turnedNew (t' := tk + 1) (ch := [e, it]) (fun b ob hb q => (sb.2 b fun z => hb (by simp [z])).trans (hk b ob (fun z => hb (by simp [z])) (fun z => hb (by simp [z])) q)) hf (Nat.le_refl _) obj
    have up1 : ((i + 1 : Nat) : Int) = (i : Int) + 1 := by omega
    refine ⟨.ref s.heap.objs.size, _, I1, rfl, ⟨_, x, rfl, I.hok.fresh (Nat.le_refl _), rfl, fun ys hy => by rw [I.tuple_inj hy sq]; exact hx⟩, ⟨⟨y, by rw [up1]; exact ie⟩, st'.1.at fun o q => (sb.2 it (Ne.symm x3)).trans q, x3⟩, fun b hb => ?_⟩
    have lb : b < s.heap.objs.size := by
      rcases List.mem_cons.mp hb with rfl | hb
      · exact el
      · rw [List.mem_singleton.mp hb]; exact il
    rw [upd_ne (Nat.ne_of_lt lb)]
    exact (hf b hb).1
  done := by
    intro X eP ew eK hc i pins s σ H E I hf st hg
    subst eP ew eK
    obtain ⟨⟨old, x1⟩, x2, x3⟩ := st
    obtain ⟨xs, sq, hx⟩ := hg
    obtain ⟨its, rv, p, _⟩ := I.tuple sq
    obtain ⟨f0, f1, f2, f3, f4, f5⟩ := hf it (by simp)
    have hl := rv.length
    have hx' : its.toArray[i]? = none := by simp; omega
    have D : Draws X.prog X.w X.A.in1 it [it, a] i (fun _ _ => True) (fun j h => j = i ∧ h.IsTupleIter it a i ∧ h.IsTuple a its.toArray) :=
      ⟨fun _ _ ⟨_, ⟨o, ho, _⟩, _⟩ => ⟨o, ho⟩, fun _ _ _ ⟨z, t1, t2⟩ hk => ⟨z, t1.at fun o e => hk it (by simp) o e, t2.at fun o e => hk a (by simp) o e⟩,
        fun j s Q E hj ⟨z, _⟩ => absurd hj (by omega), fun s Q E ⟨_, t1, t2⟩ hE => wpAny_nextOf_tuple_end (A := X.A.in1) (I.ok.hd hc) t1 t2 hx' hE⟩
    exact wpAny_pyNext_enum_endD D x1 ⟨rfl, x2, p⟩ fun h' eb => ⟨rfl, I.turned (t' := s.toks) (fun b o hb q => eb b o hb q) f0 f1 f3 f4 f5⟩
  self := fun A i s Q E ⟨⟨_, x1⟩, _⟩ h => wpAny_pyIter_enum x1 h
/-- over a list or a tuple -/
def iEnumA (K : PySem.W.Frag) (ta : TA) : TI := fun σ H R => ta σ H fun vs H1 => ∃ a xs, vs = [.ref a] ∧ ((SqL K H1 a xs ∧ R (Ite K a) H1) ∨ (SqT K H1 a xs ∧ R (IteT K a) H1))
theorem pi_enumA {X : Cx} {e : Expr} {ta : TA} {p pos tpos : Pos} {elts : List Expr} {kk : Nat} (hg : Gl X "enumerate") (hm : X.mg "enumerate" = none) (ha : PA X [e] ta) (hs : starEach [e] X.env = [(false, PySem.eval e X.env)] := by rfl) :
    PI X (.Tuple elts kk tpos) (.Call (.Name "enumerate" p) [e] [] pos) (iEnumA X.K ta) := by
  refine ⟨fun pins s σ H R I h => ?_⟩
  refine Call_ (ld_blt I hg hm boot_enumerate (PyProof.Rows.callWith_type1 (thn (ha.run pos pins s σ H _ I h) fun us s1 ⟨vs, H1, I1, r1, a, xs, ex, q⟩ => ?_) hs rfl))
  subst ex
  cases r1 with
  | cons r rr =>
    cases rr
    cases r
    have fp : ∀ b ∈ [s1.heap.objs.size + 1, s1.heap.objs.size], FpOk X pins H1 b := fun b hb => by
      have l : s1.heap.objs.size ≤ b := by simp at hb; omega
      exact I1.fpOk l (I1.hok.fresh l)
    rcases q with ⟨sq, q⟩ | ⟨sq, q⟩
    · obtain ⟨its, rv, pl, _⟩ := I1.list sq
      refine call_enumerate_list pl.isList fun h2 ie il _ hk => wpAny_pyIter_enum ie ?_
      exact ⟨s1.heap.objs.size + 1, _, _, _, H1, rfl, I1.kept (t' := s1.toks) hk, turn_enum a (s1.heap.objs.size + 1) s1.heap.objs.size, ⟨⟨.none, ie⟩, il, Nat.succ_ne_self _⟩, fp, q⟩
    · obtain ⟨its, rv, pl, _⟩ := I1.tuple sq
      refine enum_new (begins_tuple a its.toArray) pl fun h2 ie it hk => wpAny_pyIter_enum ie ?_
      exact ⟨s1.heap.objs.size + 1, _, _, _, H1, rfl, I1.kept (t' := s1.toks) hk, turn_enumT a (s1.heap.objs.size + 1) s1.heap.objs.size, ⟨⟨.none, ie⟩, ⟨_, it, rfl, rfl⟩, Nat.succ_ne_self _⟩, fp, q⟩
end L3

set_option maxHeartbeats 1000000
/-! zip over two things each of which is a list or a tuple. -/
namespace ZM
open PySem
open PySem.Sem (wp)
/-- a kind of thing that is walked: what its iterator is -/
structure Kd where
  cls : String
  sq : Heap → Addr → Array Value → Prop
  ext : ∀ {h h' : Heap} {a b : Addr} {xs : Array Value}, sq h a xs → Heap.ExtBut b h h' → a ≠ b → sq h' a xs
  psh : ∀ {h : Heap} {a : Addr} {xs : Array Value}, sq h a xs → ∀ o, sq (h.push o) a xs
  lt : ∀ {h : Heap} {a : Addr} {xs : Array Value}, sq h a xs → a < h.objs.size
  item : ∀ {prog : Program} {w : World} {A : Around} {E : Value → Shared → Prop} {s : Shared} {it l : Addr} {i : Nat} {items : Array Value} {x : Value} {Q : Value → Shared → Prop},
    (∃ o, s.heap.get? it = some o ∧ o.cls = .type cls ∧ o.data = .fields #[.ref l, .int i 0]) → sq s.heap l items → items[i]? = some x →
    (∀ h', (∃ o, h'.get? it = some o ∧ o.cls = .type cls ∧ o.data = .fields #[.ref l, .int (i + 1 : Nat) 0]) → Heap.SameBut it s.heap h' → Q x { s with heap := h' }) →
    wpAny (model prog w) A (Builtin.SmallTypes.nextOf (.ref it)) Q E s
  fin : ∀ {prog : Program} {w : World} {A : Around} {E : Value → Shared → Prop} {s : Shared} {it l : Addr} {i : Nat} {items : Array Value} {Q : Value → Shared → Prop}, A.handled = none →
    (∃ o, s.heap.get? it = some o ∧ o.cls = .type cls ∧ o.data = .fields #[.ref l, .int i 0]) → sq s.heap l items → items[i]? = none →
    (∀ h' e, Heap.ExtBut it s.heap h' → (∃ o, h'.get? e = some o ∧ o.cls = .type "StopIteration") → E (.ref e) { s with heap := h' }) →
    wpAny (model prog w) A (Builtin.SmallTypes.nextOf (.ref it)) Q E s
  iter : ∀ {prog : Program} {w : World} {A : Around} {E : Value → Shared → Prop} {s : Shared} {l : Addr} {items : Array Value} {Q : Value → Shared → Prop}, sq s.heap l items →
    Q (.ref s.heap.objs.size) { s with heap := s.heap.push { cls := .type cls, data := .fields #[.ref l, .int 0 0] } } → wpAny (model prog w) A (pyIter (.ref l)) Q E s
def Kd.It (k : Kd) (h : Heap) (a l : Addr) (i : Nat) : Prop := ∃ o, h.get? a = some o ∧ o.cls = .type k.cls ∧ o.data = .fields #[.ref l, .int i 0]
theorem Kd.It.ext {k : Kd} {h h' : Heap} {a b l : Addr} {i : Nat} (x : k.It h a l i) (hs : Heap.ExtBut b h h') (hab : a ≠ b) : k.It h' a l i := let ⟨o, ho, r⟩ := x; ⟨o, hs a o hab ho, r⟩
theorem Kd.It.at {k : Kd} {h h' : Heap} {a l : Addr} {i : Nat} (x : k.It h a l i) (e : ∀ o, h.get? a = some o → h'.get? a = some o) : k.It h' a l i := let ⟨o, ho, r⟩ := x; ⟨o, e _ ho, r⟩
def kL : Kd where
  cls := "list_iterator"
  sq := Heap.IsList
  ext := fun x y z => x.extBut y z
  psh := fun x o => x.push o
  lt := fun ⟨_, e, _⟩ => Heap.lt_size e
  item := fun a b c d => wpAny_nextOf_list_item a b c d
  fin := fun a b c d e => wpAny_nextOf_list_end a b c d e
  iter := fun a b => wpAny_pyIter_list a b
def kT : Kd where
  cls := "tuple_iterator"
  sq := Heap.IsTuple
  ext := fun x y z => x.extBut y z
  psh := fun x o => x.push o
  lt := fun ⟨_, e, _⟩ => Heap.lt_size e
  item := fun a b c d => RZ.nextOf_tuple_item a b c d
  fin := fun a b c d e => RZ.nextOf_tuple_end a b c d e
  iter := fun a b => wpAny_pyIter_tuple a b
section
variable {prog : Program} {w : World} {A : Around} {E : Value → Shared → Prop} {s : Shared} {k m : Kd}
theorem next_item {z TI TO i1 i2 l1 l2 : Addr} {k1 k2 : Nat} {xs ys : Array Value} {x y a b : Value} {Q : Value → Shared → Prop} (D : ZipApart z TI TO i1 i2 l1 l2)
    (hz : IsZip s.heap z TI TO .none) (hTI : IsPair s.heap TI (.ref i1) (.ref i2)) (hTO : IsPair s.heap TO a b)
    (h1 : k.It s.heap i1 l1 k1) (h2 : m.It s.heap i2 l2 k2) (hl1 : k.sq s.heap l1 xs) (hl2 : m.sq s.heap l2 ys) (hx : xs[k1]? = some x) (hy : ys[k2]? = some y)
    (hQ : ∀ h', IsZip h' z TI TO (rawInt s.heap.objs.size) → IsPair h' TO x y → k.It h' i1 l1 (k1 + 1) → m.It h' i2 l2 (k2 + 1) → IsPair h' s.heap.objs.size x y → h'.objs.size = s.heap.objs.size + 1 →
      (∀ c o, c ≠ z → c ≠ TO → c ≠ i1 → c ≠ i2 → s.heap.get? c = some o → h'.get? c = some o) → Q (.ref s.heap.objs.size) { s with heap := h' }) :
    wpAny (model prog w) A (Builtin.«zip.__next__» ⟨[.ref z], []⟩) (fun fin s' => ∃ v, fin = .done (.ret v) ∧ Q v s') E s := by
  show wpAny _ _ (field (.ref z) 2 >>= _) _ _ _
  refine wpAny_bind (wpAny_field hz rfl (x := .bool false) rfl ?_)
  show wpAny _ _ (field (.ref z) 3 >>= _) _ _ _
  refine wpAny_bind (wpAny_field hz rfl (x := .ref TI) rfl ?_)
  refine wpAny_bind (wpAny_seqItems hTI rfl ?_)
  show wpAny _ _ (Builtin.SmallTypes.ownedTupleIsFree (.ref z) >>= _) _ _ _
  refine wpAny_bind ?_
  unfold Builtin.SmallTypes.ownedTupleIsFree
  refine wpAny_bind (wpAny_field hz rfl (x := .none) rfl (wpAny_pure ?_))
  simp only [if_true]
  refine wpAny_bind (wpAny_rule ?_)
  refine wpAny_bind (wpAny_field hz rfl (x := .ref TO) rfl ?_)
  refine wpAny_bind (wpAny_setField_rec hz (by simp) fun h₁ hz₁ hs₁ => ?_)
  replace hz₁ : IsZip h₁ z TI TO .ellipsis := hz₁
  refine wpAny_bind ?_
  simp only [List.zipIdx_cons, List.zipIdx_nil, List.forIn_cons, List.forIn_nil]
  refine wpAny_bind (wpAny_bind (wpAny_onRaise ?_))
  show wpAny _ _ (Builtin.SmallTypes.nextOf (.ref i1) >>= _) _ _ _
  refine wpAny_bind (k.item (h1.ext hs₁.extBut D.i1z) (k.ext hl1 hs₁.extBut D.l1z) hx fun h₂ h1₂ hs₂ => wpAny_pure ?_)
  have h1₂ : k.It h₂ i1 l1 (k1 + 1) := h1₂
  have hTO₂ : IsPair h₂ TO a b := hs₂.extBut _ _ D.TOi1 (hs₁.extBut _ _ D.TOz hTO)
  refine wpAny_bind (wpAny_seqItems hTO₂ rfl ?_)
  refine wpAny_bind (wpAny_updateSeq_pair hTO₂ fun h₃ hTO₃ hs₃ => ?_)
  replace hTO₃ : IsPair h₃ TO x b := hTO₃
  refine wpAny_bind (wpAny_letGo (wpAny_pure ?_))
  refine wpAny_bind (wpAny_bind (wpAny_onRaise ?_))
  show wpAny _ _ (Builtin.SmallTypes.nextOf (.ref i2) >>= _) _ _ _
  refine wpAny_bind (m.item (((h2.ext hs₁.extBut D.i2z).ext hs₂.extBut D.i12.symm).ext hs₃.extBut D.TOi2.symm)
    (m.ext (m.ext (m.ext hl2 hs₁.extBut D.l2z) hs₂.extBut D.l2i1) hs₃.extBut D.l2TO) hy fun h₄ h2₄ hs₄ => wpAny_pure ?_)
  have h2₄ : m.It h₄ i2 l2 (k2 + 1) := h2₄
  have hTO₄ : IsPair h₄ TO x b := hs₄.extBut _ _ D.TOi2 hTO₃
  refine wpAny_bind (wpAny_seqItems hTO₄ rfl ?_)
  refine wpAny_bind (wpAny_updateSeq_pair hTO₄ fun h₅ hTO₅ hs₅ => ?_)
  replace hTO₅ : IsPair h₅ TO x y := hTO₅
  refine wpAny_bind (wpAny_letGo (wpAny_pure (wpAny_pure ?_)))
  refine wpAny_bind (wpAny_seqItems hTO₅ rfl ?_)
  refine wpAny_bind (wpAny_newTuple ?_)
  have hsz : h₅.objs.size = s.heap.objs.size := by rw [hs₅.1, hs₄.1, hs₃.1, hs₂.1, hs₁.1]
  have hz₅ : IsZip h₅ z TI TO .ellipsis := hs₅.extBut _ _ D.TOz.symm (hs₄.extBut _ _ D.i2z.symm (hs₃.extBut _ _ D.TOz.symm (hs₂.extBut _ _ D.i1z.symm hz₁)))
  have hk₅ : ∀ c o, c ≠ z → c ≠ TO → c ≠ i1 → c ≠ i2 → s.heap.get? c = some o → h₅.get? c = some o := fun c o c1 c2 c3 c4 e =>
    hs₅.extBut _ _ c2 (hs₄.extBut _ _ c4 (hs₃.extBut _ _ c2 (hs₂.extBut _ _ c3 (hs₁.extBut _ _ c1 e))))
  have h1₅ : k.It h₅ i1 l1 (k1 + 1) := ((h1₂.ext hs₃.extBut D.TOi1.symm).ext hs₄.extBut D.i12).ext hs₅.extBut D.TOi1.symm
  have h2₅ : m.It h₅ i2 l2 (k2 + 1) := h2₄.ext hs₅.extBut D.TOi2.symm
  have hzlt : z < h₅.objs.size := Heap.lt_size hz₅
  show wpAny _ _ (Builtin.SmallTypes.ownedTupleHandOut (.ref z) (.ref h₅.objs.size) >>= _) _ _ _
  refine wpAny_bind ?_
  unfold Builtin.SmallTypes.ownedTupleHandOut
  have hz₆ : IsZip (h₅.push { cls := .type "tuple", data := .seq #[x, y] }) z TI TO .ellipsis := Heap.get?_push_of_some _ hz₅
  refine wpAny_bind (wpAny_setField_rec hz₆ (by simp) fun h₇ hz₇ hs₇ => ?_)
  replace hz₇ : IsZip h₇ z TI TO (rawInt h₅.objs.size) := hz₇
  refine wpAny_setField_rec hz₇ (by simp) fun h₈ hz₈ hs₈ => ?_
  replace hz₈ : IsZip h₈ z TI TO (rawInt h₅.objs.size) := hz₈
  have up : ∀ c o, c ≠ z → h₅.get? c = some o → h₈.get? c = some o := fun c o c1 e => hs₈.extBut _ _ c1 (hs₇.extBut _ _ c1 (Heap.get?_push_of_some _ e))
  have hT₈ : IsPair h₈ h₅.objs.size x y := hs₈.extBut _ _ (Nat.ne_of_gt hzlt) (hs₇.extBut _ _ (Nat.ne_of_gt hzlt) (Heap.get?_push_size _ rfl))
  have hz8 : h₈.objs.size = h₅.objs.size + 1 := by rw [hs₈.1, hs₇.1, Heap.size_push]
  rw [hsz] at hz₈ hT₈ hz8
  refine wpAny_pure ⟨_, rfl, ?_⟩
  show Q (.ref h₅.objs.size) _
  rw [hsz]
  exact hQ h₈ hz₈ (up _ _ D.TOz hTO₅) (h1₅.at fun o e => up _ o D.i1z e) (h2₅.at fun o e => up _ o D.i2z e) hT₈ hz8 fun c o c1 c2 c3 c4 e => up c o c1 (hk₅ c o c1 c2 c3 c4 e)
theorem next_end {z TI TO i1 i2 l1 l2 : Addr} {k1 k2 : Nat} {xs ys : Array Value} {a b : Value} {Q : Fin → Shared → Prop} (hh : A.handled = none) (D : ZipApart z TI TO i1 i2 l1 l2)
    (hz : IsZip s.heap z TI TO .none) (hTI : IsPair s.heap TI (.ref i1) (.ref i2)) (hTO : IsPair s.heap TO a b)
    (h1 : k.It s.heap i1 l1 k1) (h2 : m.It s.heap i2 l2 k2) (hl1 : k.sq s.heap l1 xs) (hl2 : m.sq s.heap l2 ys) (hend : xs[k1]? = none ∨ ys[k2]? = none)
    (hE : ∀ h' e, (∀ c o, c ≠ z → c ≠ TO → c ≠ i1 → c ≠ i2 → s.heap.get? c = some o → h'.get? c = some o) → (∃ o, h'.get? e = some o ∧ o.cls = .type "StopIteration") → E (.ref e) { s with heap := h' }) :
    wpAny (model prog w) A (Builtin.«zip.__next__» ⟨[.ref z], []⟩) Q E s := by
  show wpAny _ _ (field (.ref z) 2 >>= _) _ _ _
  refine wpAny_bind (wpAny_field hz rfl (x := .bool false) rfl ?_)
  show wpAny _ _ (field (.ref z) 3 >>= _) _ _ _
  refine wpAny_bind (wpAny_field hz rfl (x := .ref TI) rfl ?_)
  refine wpAny_bind (wpAny_seqItems hTI rfl ?_)
  show wpAny _ _ (Builtin.SmallTypes.ownedTupleIsFree (.ref z) >>= _) _ _ _
  refine wpAny_bind ?_
  unfold Builtin.SmallTypes.ownedTupleIsFree
  refine wpAny_bind (wpAny_field hz rfl (x := .none) rfl (wpAny_pure ?_))
  simp only [if_true]
  refine wpAny_bind (wpAny_rule ?_)
  refine wpAny_bind (wpAny_field hz rfl (x := .ref TO) rfl ?_)
  refine wpAny_bind (wpAny_setField_rec hz (by simp) fun h₁ hz₁ hs₁ => ?_)
  replace hz₁ : IsZip h₁ z TI TO .ellipsis := hz₁
  refine wpAny_bind ?_
  simp only [List.zipIdx_cons, List.zipIdx_nil, List.forIn_cons, List.forIn_nil]
  refine wpAny_bind (wpAny_bind (wpAny_onRaise ?_))
  show wpAny _ _ (Builtin.SmallTypes.nextOf (.ref i1) >>= _) _ _ _
  cases hx : xs[k1]? with
  | none =>
    refine wpAny_bind (k.fin hh (h1.ext hs₁.extBut D.i1z) (k.ext hl1 hs₁.extBut D.l1z) hx fun h₂ e hs₂ he => ?_)
    obtain ⟨oe, hoe, hce⟩ := he
    have hz₂ : IsZip h₂ z TI TO .ellipsis := hs₂ _ _ D.i1z.symm hz₁
    have hez : e ≠ z := fun x => by subst x; rw [hz₂] at hoe; cases hoe; simp at hce
    refine wpAny_setField_rec hz₂ (by simp) fun h₃ _ hs₃ => hE h₃ e (fun c o c1 _ c3 _ x => hs₃.extBut _ _ c1 (hs₂ _ _ c3 (hs₁.extBut _ _ c1 x))) ⟨oe, hs₃.extBut _ _ hez hoe, hce⟩
  | some x =>
    have hy : ys[k2]? = none := by rcases hend with h | h; rw [hx] at h; cases h; exact h
    refine wpAny_bind (k.item (h1.ext hs₁.extBut D.i1z) (k.ext hl1 hs₁.extBut D.l1z) hx fun h₂ h1₂ hs₂ => wpAny_pure ?_)
    have hTO₂ : IsPair h₂ TO a b := hs₂.extBut _ _ D.TOi1 (hs₁.extBut _ _ D.TOz hTO)
    refine wpAny_bind (wpAny_seqItems hTO₂ rfl ?_)
    refine wpAny_bind (wpAny_updateSeq_pair hTO₂ fun h₃ hTO₃ hs₃ => ?_)
    refine wpAny_bind (wpAny_letGo (wpAny_pure ?_))
    refine wpAny_bind (wpAny_bind (wpAny_onRaise ?_))
    show wpAny _ _ (Builtin.SmallTypes.nextOf (.ref i2) >>= _) _ _ _
    refine wpAny_bind (m.fin hh (((h2.ext hs₁.extBut D.i2z).ext hs₂.extBut D.i12.symm).ext hs₃.extBut D.TOi2.symm)
      (m.ext (m.ext (m.ext hl2 hs₁.extBut D.l2z) hs₂.extBut D.l2i1) hs₃.extBut D.l2TO) hy fun h₄ e hs₄ he => ?_)
    obtain ⟨oe, hoe, hce⟩ := he
    have hz₄ : IsZip h₄ z TI TO .ellipsis := hs₄ _ _ D.i2z.symm (hs₃.extBut _ _ D.TOz.symm (hs₂.extBut _ _ D.i1z.symm hz₁))
    have hez : e ≠ z := fun x => by subst x; rw [hz₄] at hoe; cases hoe; simp at hce
    refine wpAny_setField_rec hz₄ (by simp) fun h₅ _ hs₅ => hE h₅ e (fun c o c1 c2 c3 c4 x => hs₅.extBut _ _ c1 (hs₄ _ _ c4 (hs₃.extBut _ _ c2 (hs₂.extBut _ _ c3 (hs₁.extBut _ _ c1 x))))) ⟨oe, hs₅.extBut _ _ hez hoe, hce⟩
theorem pn_item {z TI TO i1 i2 l1 l2 : Addr} {k1 k2 : Nat} {xs ys : Array Value} {x y a b : Value} {Q : Option Value → Shared → Prop} (D : ZipApart z TI TO i1 i2 l1 l2)
    (hz : IsZip s.heap z TI TO .none) (hTI : IsPair s.heap TI (.ref i1) (.ref i2)) (hTO : IsPair s.heap TO a b)
    (h1 : k.It s.heap i1 l1 k1) (h2 : m.It s.heap i2 l2 k2) (hl1 : k.sq s.heap l1 xs) (hl2 : m.sq s.heap l2 ys) (hx : xs[k1]? = some x) (hy : ys[k2]? = some y)
    (hQ : ∀ h', IsZip h' z TI TO (rawInt s.heap.objs.size) → IsPair h' TO x y → k.It h' i1 l1 (k1 + 1) → m.It h' i2 l2 (k2 + 1) → IsPair h' s.heap.objs.size x y → h'.objs.size = s.heap.objs.size + 1 →
      (∀ c o, c ≠ z → c ≠ TO → c ≠ i1 → c ≠ i2 → s.heap.get? c = some o → h'.get? c = some o) → Q (some (.ref s.heap.objs.size)) { s with heap := h' }) :
    wpAny (model prog w) A (pyNext (.ref z)) Q E s := by
  have hT : s.TypeIs (.ref z) "zip" := ⟨_, hz, rfl⟩
  unfold pyNext
  exact wpAny_bind (wpAny_attempt (wpAny_callSpecial?_slot (name := Str.ofString "__next__") hT F.slot_zip_next
    (wpAny_call_entry F.slot_zip_next hT F.entry_zip_next
      (next_item D hz hTI hTO h1 h2 hl1 hl2 hx hy fun h' a1 a2 a3 a4 a5 a6 a7 => wpAny_pure (hQ h' a1 a2 a3 a4 a5 a6 a7)) (F.args_zip_next_1 _))))
theorem pn_end {z TI TO i1 i2 l1 l2 : Addr} {k1 k2 : Nat} {xs ys : Array Value} {a b : Value} {Q : Option Value → Shared → Prop} (hh : A.handled = none) (D : ZipApart z TI TO i1 i2 l1 l2)
    (hz : IsZip s.heap z TI TO .none) (hTI : IsPair s.heap TI (.ref i1) (.ref i2)) (hTO : IsPair s.heap TO a b)
    (h1 : k.It s.heap i1 l1 k1) (h2 : m.It s.heap i2 l2 k2) (hl1 : k.sq s.heap l1 xs) (hl2 : m.sq s.heap l2 ys) (hend : xs[k1]? = none ∨ ys[k2]? = none)
    (hQ : ∀ h', (∀ c o, c ≠ z → c ≠ TO → c ≠ i1 → c ≠ i2 → s.heap.get? c = some o → h'.get? c = some o) → Q none { s with heap := h' }) : wpAny (model prog w) A (pyNext (.ref z)) Q E s := by
  have hT : s.TypeIs (.ref z) "zip" := ⟨_, hz, rfl⟩
  unfold pyNext
  refine wpAny_bind (wpAny_attempt (wpAny_callSpecial?_slot (name := Str.ofString "__next__") hT F.slot_zip_next
    (wpAny_call_entry F.slot_zip_next hT F.entry_zip_next (next_end hh D hz hTI hTO h1 h2 hl1 hl2 hend fun h' e hk he => ?_) (F.args_zip_next_1 _))))
  obtain ⟨o, ho, hc⟩ := he
  refine wpAny_bind (wpAny_isInstance (T := "StopIteration") (b := true) ⟨o, ho, hc⟩ isSubtype_stop ?_)
  exact wpAny_pure (hQ _ hk)
end
abbrev zH1 (k : Kd) (h : Heap) (l1 : Addr) : Heap := h.push { cls := .type k.cls, data := .fields #[.ref l1, .int 0 0] }
abbrev zH2 (k m : Kd) (h : Heap) (l1 l2 : Addr) : Heap := (zH1 k h l1).push { cls := .type m.cls, data := .fields #[.ref l2, .int 0 0] }
abbrev zH3 (k m : Kd) (h : Heap) (l1 l2 : Addr) : Heap := (zH2 k m h l1 l2).push { cls := .type "tuple", data := .seq #[.ref h.objs.size, .ref (zH1 k h l1).objs.size] }
abbrev zH4 (k m : Kd) (h : Heap) (l1 l2 : Addr) : Heap := (zH3 k m h l1 l2).push { cls := .type "tuple", data := .seq #[.none, .none] }
abbrev zH5 (k m : Kd) (h : Heap) (l1 l2 : Addr) : Heap := (zH4 k m h l1 l2).push { cls := .type "zip", data := .fields #[.none, .bool false, .bool false, .ref (zH2 k m h l1 l2).objs.size, .ref (zH3 k m h l1 l2).objs.size] }
theorem meets_new (k m : Kd) (l1 l2 : Addr) (xs ys : Array Value) :
    Meets (Builtin.«zip.__new__» ⟨[.type "zip", .ref l1, .ref l2], []⟩) (fun _ R s => k.sq s.heap l1 xs ∧ m.sq s.heap l2 ys ∧
      R (.ok (.ret (.ref (zH4 k m s.heap l1 l2).objs.size))) { s with heap := zH5 k m s.heap l1 l2 }) :=
  .of_wp fun prog w A R s h => by
    obtain ⟨hp, g, d, tk, os⟩ := s; obtain ⟨hl1, hl2, h⟩ := h
    have hsub := sub_zip
    have hL1 : k.sq (Shared.heap ⟨hp, g, d, tk, os⟩) l1 xs := hl1
    have hL2 : m.sq (Shared.heap ⟨hp.push { cls := .type k.cls, data := .fields #[.ref l1, .int 0 0] }, g, d, tk, os⟩) l2 ys := m.psh hl2 _
    wp_walk using k.iter hL1, m.iter hL2
    exact ⟨_, rfl, h⟩
section
variable {prog : Program} {w : World} {A : Around} {E : Value → Shared → Prop} {s : Shared} {k m : Kd}
theorem call_zip {l1 l2 : Addr} {xs ys : Array Value} {Q : Value → Shared → Prop} (hl1 : k.sq s.heap l1 xs) (hl2 : m.sq s.heap l2 ys)
    (h : ∀ h', IsZip h' (s.heap.objs.size + 4) (s.heap.objs.size + 2) (s.heap.objs.size + 3) .none → IsPair h' (s.heap.objs.size + 2) (.ref s.heap.objs.size) (.ref (s.heap.objs.size + 1)) →
      IsPair h' (s.heap.objs.size + 3) .none .none → k.It h' s.heap.objs.size l1 0 → m.It h' (s.heap.objs.size + 1) l2 0 → h'.objs.size = s.heap.objs.size + 5 →
      (∀ c o, s.heap.get? c = some o → h'.get? c = some o) → Q (.ref (s.heap.objs.size + 4)) { s with heap := h' }) :
    wpAny (model prog w) A (call (.type "zip") [.ref l1, .ref l2]) Q E s := by
  refine callType_new F.called_zip (by decide) (F.typeCall_zip_2 _ _) (F.newCall_zip_2 _ _) (fun obj => F.args_object_init_3 obj _ _) F.entry_zip_new
    (meets_new k m l1 l2 xs ys) ⟨hl1, hl2, ?_⟩
  have z1 : (zH1 k s.heap l1).objs.size = s.heap.objs.size + 1 := Heap.size_push ..
  have z2 : (zH2 k m s.heap l1 l2).objs.size = s.heap.objs.size + 2 := by rw [Heap.size_push, z1]
  have z3 : (zH3 k m s.heap l1 l2).objs.size = s.heap.objs.size + 3 := by rw [Heap.size_push, z2]
  have z4 : (zH4 k m s.heap l1 l2).objs.size = s.heap.objs.size + 4 := by rw [Heap.size_push, z3]
  have z5 : (zH5 k m s.heap l1 l2).objs.size = s.heap.objs.size + 5 := by rw [Heap.size_push, z4]
  have g5 : (zH5 k m s.heap l1 l2).get? (zH4 k m s.heap l1 l2).objs.size = some _ := Heap.get?_push_size _ rfl
  have g4 : (zH5 k m s.heap l1 l2).get? (zH3 k m s.heap l1 l2).objs.size = some _ := Heap.get?_push_of_some _ (Heap.get?_push_size _ rfl)
  have g3 : (zH5 k m s.heap l1 l2).get? (zH2 k m s.heap l1 l2).objs.size = some _ := Heap.get?_push_of_some _ (Heap.get?_push_of_some _ (Heap.get?_push_size _ rfl))
  have g2 : (zH5 k m s.heap l1 l2).get? (zH1 k s.heap l1).objs.size = some _ := Heap.get?_push_of_some _ (Heap.get?_push_of_some _ (Heap.get?_push_of_some _ (Heap.get?_push_size _ rfl)))
  have g1 : (zH5 k m s.heap l1 l2).get? s.heap.objs.size = some _ := Heap.get?_push_of_some _ (Heap.get?_push_of_some _ (Heap.get?_push_of_some _ (Heap.get?_push_of_some _ (Heap.get?_push_size _ rfl))))
  show _ ∧ _
  rw [z2, z3, z4] at g5
  rw [z1, z2] at g3
  rw [z3] at g4
  rw [z1] at g2
  rw [z4]
  exact ⟨⟨_, g5, rfl⟩, h _ g5 g3 g4 ⟨_, g1, rfl, rfl⟩ ⟨_, g2, rfl, rfl⟩ z5 fun c o x =>
    Heap.get?_push_of_some _ (Heap.get?_push_of_some _ (Heap.get?_push_of_some _ (Heap.get?_push_of_some _ (Heap.get?_push_of_some _ x))))⟩
end
end ZM

set_option maxHeartbeats 1000000
/-! a loop over zip of two things each of which is a list or a tuple. -/
namespace ZM
open PySem PySem.Spec PyProof.Rows L2
structure Kv where
  k : Kd
  sv : PySem.W.Frag → Hp → Addr → List V → Prop
  get : ∀ {X : Cx} {pins : List (Addr × Obj)} {σ : L2.St} {H : Hp} {s : Shared} {a : Addr} {xs : List V}, Inv X pins σ H s → sv X.K H a xs → ∃ its : List Value, Vals xs its ∧ k.sq s.heap a its.toArray
  inj : ∀ {X : Cx} {pins : List (Addr × Obj)} {σ : L2.St} {H : Hp} {s : Shared} {a : Addr} {xs ys : List V}, Inv X pins σ H s → sv X.K H a xs → sv X.K H a ys → xs = ys
def vL : Kv where
  k := kL
  sv := SqL
  get := fun I h => by obtain ⟨its, rv, p, _⟩ := I.list h; exact ⟨its, rv, p.isList⟩
  inj := fun I h g => I.list_inj h g
def vT : Kv where
  k := kT
  sv := SqT
  get := fun I h => by obtain ⟨its, rv, p, _⟩ := I.tuple h; exact ⟨its, rv, p⟩
  inj := fun I h g => I.tuple_inj h g
/-- both as they stand at each turn, the items in new pairs -/
def Itm (u v : Kv) (K : PySem.W.Frag) (a b : Addr) : It :=
  ⟨fun i H => ∃ (xs ys : List V) (x y : V), u.sv K H a xs ∧ v.sv K H b ys ∧ xs[i]? = some x ∧ ys[i]? = some y,
    fun i H w H' => ∃ T x y, w = .ref T ∧ H T = none ∧ H' = upd H T (.tup [x, y]) ∧ (∀ xs, u.sv K H a xs → xs[i]? = some x) ∧ ∀ ys, v.sv K H b ys → ys[i]? = some y,
    fun i H => ∃ xs ys : List V, u.sv K H a xs ∧ v.sv K H b ys ∧ (xs.length ≤ i ∨ ys.length ≤ i)⟩
theorem turn_zipM {u v : Kv} {P : Program} {w : World} {K : PySem.W.Frag} {elts : List Expr} {kk : Nat} {tpos : Pos} {a b z TI TO i1 i2 : Addr} (D : ZipApart z TI TO i1 i2 a b) :
    Turn P w K (.Tuple elts kk tpos) (Itm u v K a b) [z, TI, TO, i1, i2] z (fun i h => IsZip h z TI TO .none ∧ IsPair h TI (.ref i1) (.ref i2) ∧ (∃ x y, IsPair h TO x y) ∧ u.k.It h i1 a i ∧ v.k.It h i2 b i) where
  mem := by simp
  obj := fun i h st c hc => by
    obtain ⟨hz, hTI, ⟨x, y, hTO⟩, ⟨o1, e1, _, d1⟩, ⟨o2, e2, _, d2⟩⟩ := st
    have e' : c = z ∨ c = TI ∨ c = TO ∨ c = i1 ∨ c = i2 := by simpa using hc
    rcases e' with q | q | q | q | q
    · rw [q]; exact ⟨_, hz, fun v q => nomatch q⟩
    · rw [q]; exact ⟨_, hTI, fun v q => nomatch q⟩
    · rw [q]; exact ⟨_, hTO, fun v q => nomatch q⟩
    · rw [q]; exact ⟨o1, e1, fun v q => by rw [d1] at q; cases q⟩
    · rw [q]; exact ⟨o2, e2, fun v q => by rw [d2] at q; cases q⟩
  keep := fun i h h' st k => by
    obtain ⟨hz, hTI, ⟨x, y, hTO⟩, h1, h2⟩ := st
    exact ⟨k z (by simp) _ hz, k TI (by simp) _ hTI, ⟨x, y, k TO (by simp) _ hTO⟩, h1.at fun o q => k i1 (by simp) o q, h2.at fun o q => k i2 (by simp) o q⟩
  item := by
    intro X hP hw hK hc i pins s σ H E I hf st hg
    subst hP hw hK
    obtain ⟨hz, hTI, ⟨x0, y0, hTO⟩, h1, h2⟩ := st
    obtain ⟨xs, ys, x, y, hqx, hqy, hx, hy⟩ := hg
    obtain ⟨its, rv, p⟩ := u.get I hqx
    obtain ⟨its2, rv2, p2⟩ := v.get I hqy
    obtain ⟨u1, hu, ru⟩ := rv.get hx
    obtain ⟨u2, hu2, ru2⟩ := rv2.get hy
    have hzl : z < s.heap.objs.size := Heap.lt_size hz
    refine pn_item D hz hTI hTO h1 h2 p p2 (x := u1) (y := u2) (by simpa using hu) (by simpa using hu2) fun h' z' TO' h1' h2' hT hsz hk => ?_
    refine ⟨_, rfl, wpAny_letOwnedTupleGo_zip (s := { s with heap := h' }) z' fun h'' z'' sb => ?_⟩
    have hT2 : h''.get? s.heap.objs.size = some { cls := .type "tuple", data := .seq #[u1, u2] } := (sb.2 _ (Nat.ne_of_gt hzl)).trans hT
    have new : ObjOk X.prog X.w (upd H s.heap.objs.size (.tup [x, y])) h'' s.heap.objs.size (.tup [x, y]) :=
      ⟨by show 2 ≤ sizeLine; decide, [u1, u2], .cons ru (.cons ru2 .nil), ⟨_, hT2, rfl, _, rfl⟩⟩
    have I1 : Inv X pins σ (upd H s.heap.objs.size (.tup [x, y])) { s with heap := h'' } :=
      I.turnedNew (t' := s.toks) (ch := [z, TI, TO, i1, i2]) (fun c o hb q => (sb.2 c (fun q' => hb (by simp [q']))).trans (hk c o (fun q' => hb (by simp [q'])) (fun q' => hb (by simp [q'])) (fun q' => hb (by simp [q'])) (fun q' => hb (by simp [q'])) q)) hf (Nat.le_refl _) new
    refine ⟨.ref s.heap.objs.size, _, I1, rfl, ⟨_, x, y, rfl, I.hok.fresh (Nat.le_refl _), rfl, fun l hl => by rw [u.inj I hl hqx]; exact hx, fun l hl => by rw [v.inj I hl hqy]; exact hy⟩, ⟨z'', ?_, ⟨u1, u2, ?_⟩, ?_, ?_⟩, fun c hcm => ?_⟩
    · exact (sb.2 _ D.TIz).trans (hk _ _ D.TIz D.TITO D.TIi1 D.TIi2 hTI)
    · exact (sb.2 _ D.TOz).trans TO'
    · exact h1'.at fun o q => (sb.2 _ D.i1z).trans q
    · exact h2'.at fun o q => (sb.2 _ D.i2z).trans q
    · have hlt : c < s.heap.objs.size := by
        have e' : c = z ∨ c = TI ∨ c = TO ∨ c = i1 ∨ c = i2 := by simpa using hcm
        rcases e' with q | q | q | q | q
        · rw [q]; exact hzl
        · rw [q]; exact Heap.lt_size hTI
        · rw [q]; exact Heap.lt_size hTO
        · rw [q]; obtain ⟨_, e1, _⟩ := h1; exact Heap.lt_size e1
        · rw [q]; obtain ⟨_, e2, _⟩ := h2; exact Heap.lt_size e2
      rw [upd_ne (Nat.ne_of_lt hlt)]
      exact (hf c hcm).1
  done := by
    intro X hP hw hK hc i pins s σ H E I hf st hg
    subst hP hw hK
    obtain ⟨hz, hTI, ⟨x0, y0, hTO⟩, h1, h2⟩ := st
    obtain ⟨xs, ys, hqx, hqy, hend⟩ := hg
    obtain ⟨its, rv, p⟩ := u.get I hqx
    obtain ⟨its2, rv2, p2⟩ := v.get I hqy
    have l1 := rv.length
    have l2 := rv2.length
    have he : its.toArray[i]? = none ∨ its2.toArray[i]? = none := by
      rcases hend with q | q
      · exact .inl (by simp; omega)
      · exact .inr (by simp; omega)
    exact pn_end (I.ok.hd hc) D hz hTI hTO h1 h2 p p2 he fun h' hk => ⟨rfl, I.turnedL (t' := s.toks) (ch := [z, TI, TO, i1, i2]) (fun c o hb q =>
      hk c o (fun q' => hb (by simp [q'])) (fun q' => hb (by simp [q'])) (fun q' => hb (by simp [q'])) (fun q' => hb (by simp [q'])) q) hf⟩
  self := fun A i s Q E st h => wpAny_pyIter_zip st.1 h
def iZipM (K : PySem.W.Frag) (ta : TA) : TI := fun σ H R => ta σ H fun vs H1 => ∃ (u v : Kv) (a b : Addr) (xs ys : List V), vs = [.ref a, .ref b] ∧ u.sv K H1 a xs ∧ v.sv K H1 b ys ∧ R (Itm u v K a b) H1
theorem pi_zipM {X : Cx} {e e2 : Expr} {ta : TA} {p pos tpos : Pos} {elts : List Expr} {kk : Nat} (hg : Gl X "zip") (hm : X.mg "zip" = none) (ha : PA X [e, e2] ta)
    (hs : starEach [e, e2] X.env = (false, eval e X.env) :: starEach [e2] X.env := by rfl) (hpl : (backTo pos (starEach [e2] X.env)).any (·.1) = false := by rfl) :
    PI X (.Tuple elts kk tpos) (.Call (.Name "zip" p) [e, e2] [] pos) (iZipM X.K ta) := by
  refine ⟨fun pins s σ H R I h => ?_⟩
  refine Call_ (ld_blt I hg hm PyProof.Rows.boot_zip (PyProof.Rows.callWith_type1 (thn (ha.run pos pins s σ H _ I h) fun us s1 ⟨vs, H1, I1, r1, q1⟩ => ?_) hs hpl))
  obtain ⟨u, v, a, b, xs, ys, ex, hqx, hqy, q⟩ := q1
  subst ex
  cases r1 with
  | cons r rr =>
    cases rr with
    | cons r' rr =>
      cases rr
      cases r
      cases r'
      have fresh5 : ∀ c, c ∈ [s1.heap.objs.size + 4, s1.heap.objs.size + 2, s1.heap.objs.size + 3, s1.heap.objs.size, s1.heap.objs.size + 1] → FpOk X pins H1 c := fun c hcm => by
        have e' : c = s1.heap.objs.size + 4 ∨ c = s1.heap.objs.size + 2 ∨ c = s1.heap.objs.size + 3 ∨ c = s1.heap.objs.size ∨ c = s1.heap.objs.size + 1 := by simpa using hcm
        have hle : s1.heap.objs.size ≤ c := by rcases e' with z | z | z | z | z <;> omega
        exact I1.fpOk hle (I1.hok.fresh hle)
      obtain ⟨its, rv, p1⟩ := u.get I1 hqx
      obtain ⟨its2, rv2, p2⟩ := v.get I1 hqy
      refine call_zip p1 p2 fun h' hz hTI hTO h1 h2 hsz hk => wpAny_pyIter_zip hz ?_
      have I2 : Inv X pins σ H1 { s1 with heap := h' } := I1.kept (t' := s1.toks) hk
      exact ⟨s1.heap.objs.size + 4, [s1.heap.objs.size + 4, s1.heap.objs.size + 2, s1.heap.objs.size + 3, s1.heap.objs.size, s1.heap.objs.size + 1], _, _, H1, rfl, I2, turn_zipM (PySem.W.ktu_apart s1.heap.objs.size a b (u.k.lt p1) (v.k.lt p2)), ⟨hz, hTI, ⟨_, _, hTO⟩, h1, h2⟩, fresh5, q⟩
end ZM

namespace L3
open PySem PySem.Spec PyProof.Rows L2
/-! ### what is walked -/
def YD (K : PySem.W.Frag) (P : Hp) (v : V) (x : PyData) (H H' : Hp) : Prop := ∃ P', New P H P' H' emp ∧ Dp K P' v x
structure GoD (K : PySem.W.Frag) (J : L2.It) (xs : List PyData) (G : Hp → Hp → Prop) : Prop where
  goes : ∀ i P H, Sub P H → G P H → i < xs.length → J.go i H
  stops : ∀ P H, Sub P H → G P H → J.stop xs.length H
  yields : ∀ i P H v H' x, Sub P H → G P H → J.yld i H v H' → xs[i]? = some x → YD K P v x H H'
section
variable {K : PySem.W.Frag} {P H : Hp} {a : Addr} {vs : List V} {xs : List PyData}
theorem lt_of_getElem? {α : Type} {xs : List α} {i : Nat} {x : α} (h : xs[i]? = some x) : i < xs.length := (List.getElem?_eq_some_iff.mp h).1
theorem go_list : GoD K (Itl K a) xs fun P H => ∃ vs, SqL K H a vs ∧ DpAll K P vs xs := by
  refine ⟨fun i P H s ⟨vs, q, d⟩ hi => ⟨vs, vs[i]'(by rw [d.len]; exact hi), q, List.getElem?_eq_getElem _⟩, fun P H s ⟨vs, q, d⟩ => ⟨vs, q, by rw [d.len]; exact Nat.le_refl _⟩, fun i P H v H' x s ⟨vs, q, d⟩ y e => ?_⟩
  obtain ⟨rfl, y⟩ := y
  obtain ⟨u, e1, du⟩ := d.at_ e
  rw [y vs q] at e1; cases e1
  exact ⟨P, New.refl s, du⟩
theorem go_tup : GoD K (Itt K a) xs fun P H => ∃ vs, SqT K H a vs ∧ DpAll K P vs xs := by
  refine ⟨fun i P H s ⟨vs, q, d⟩ hi => ⟨vs, vs[i]'(by rw [d.len]; exact hi), q, List.getElem?_eq_getElem _⟩, fun P H s ⟨vs, q, d⟩ => ⟨vs, q, by rw [d.len]; exact Nat.le_refl _⟩, fun i P H v H' x s ⟨vs, q, d⟩ y e => ?_⟩
  obtain ⟨rfl, y⟩ := y
  obtain ⟨u, e1, du⟩ := d.at_ e
  rw [y vs q] at e1; cases e1
  exact ⟨P, New.refl s, du⟩
theorem rangeD_len {lo c : Int} {n : Nat} : (rangeD lo n c).length = n := by simp [rangeD]
theorem rangeD_at {lo c : Int} {n i : Nat} {x : PyData} (e : (rangeD lo n c)[i]? = some x) : x = .int (lo + (i : Int) * c) := by
  simp only [rangeD, List.getElem?_map, Option.map_eq_some_iff] at e
  obtain ⟨j, e, rfl⟩ := e
  rw [List.getElem?_range (lt_of_getElem? e |> fun h => by simpa using h)] at e
  cases e; rfl
theorem go_range {lo : Int} {n : Nat} : GoD K (Itr lo n) (rangeD lo n 1) fun _ _ => True := by
  refine ⟨fun i P H s _ hi => by rw [rangeD_len] at hi; exact hi, fun P H s _ => by rw [rangeD_len]; exact Nat.le_refl _, fun i P H v H' x s _ y e => ?_⟩
  obtain ⟨rfl, rfl⟩ := y
  rw [rangeD_at e, Int.mul_one]
  exact ⟨P, New.refl s, .int _⟩
theorem go_rangeC {lo c : Int} {n : Nat} : GoD K (Itc lo c n) (rangeD lo n c) fun _ _ => True := by
  refine ⟨fun i P H s _ hi => by rw [rangeD_len] at hi; exact hi, fun P H s _ => by rw [rangeD_len]; exact Nat.le_refl _, fun i P H v H' x s _ y e => ?_⟩
  obtain ⟨rfl, rfl⟩ := y
  rw [rangeD_at e]
  exact ⟨P, New.refl s, .int _⟩
theorem yd_pair {u w : V} {du dw : PyData} {T : Addr} (s : Sub P H) (np : H T = none) (a : Dp K P u du) (b : Dp K P w dw) : YD K P (.ref T) (.tuple [du, dw]) H (upd H T (.tup [u, w])) := by
  have n : New P H (upd P T (.tup [u, w])) (upd H T (.tup [u, w])) emp := New.pl1 s np
  exact ⟨_, n, .tup (SqT.of upd_same) (.cons (Dp.up n.up a) (.cons (Dp.up n.up b) .nil))⟩
theorem enumFrom_len : ∀ (n : Nat) (xs : List PyData), (enumFrom n xs).length = xs.length
  | _, [] => rfl
  | n, x :: xs => by simp [enumFrom, enumFrom_len (n + 1) xs]
theorem enumFrom_at : ∀ {n : Nat} {xs : List PyData} {i : Nat} {x : PyData}, (enumFrom n xs)[i]? = some x → ∃ y, xs[i]? = some y ∧ x = .tuple [.int ((n + i : Nat) : Int), y]
  | _, [], _, _, e => by simp [enumFrom] at e
  | n, x :: xs, 0, y, e => by simp [enumFrom] at e; subst e; exact ⟨x, rfl, rfl⟩
  | n, x :: xs, i + 1, y, e => by
    obtain ⟨z, h1, h2⟩ := enumFrom_at (n := n + 1) (xs := xs) (i := i) (by simpa [enumFrom] using e)
    refine ⟨z, by simpa using h1, ?_⟩
    rw [h2, show n + 1 + i = n + (i + 1) by omega]
theorem go_enum : GoD K (Ite K a) (enumFrom 0 xs) fun P H => ∃ vs, SqL K H a vs ∧ DpAll K P vs xs := by
  refine ⟨fun i P H s ⟨vs, q, d⟩ hi => ⟨vs, vs[i]'(by rw [d.len]; rw [enumFrom_len] at hi; exact hi), q, List.getElem?_eq_getElem _⟩, fun P H s ⟨vs, q, d⟩ => ⟨vs, q, by rw [d.len, enumFrom_len]; exact Nat.le_refl _⟩, fun i P H v H' x s ⟨vs, q, d⟩ y e => ?_⟩
  obtain ⟨T, w, rfl, np, rfl, y⟩ := y
  obtain ⟨z, h1, rfl⟩ := enumFrom_at e
  obtain ⟨u, e1, du⟩ := d.at_ h1
  rw [y vs q] at e1; cases e1
  rw [Nat.zero_add]
  exact yd_pair s np (.int _) du
theorem go_enumT : GoD K (IteT K a) (enumFrom 0 xs) fun P H => ∃ vs, SqT K H a vs ∧ DpAll K P vs xs := by
  refine ⟨fun i P H s ⟨vs, q, d⟩ hi => ⟨vs, vs[i]'(by rw [d.len]; rw [enumFrom_len] at hi; exact hi), q, List.getElem?_eq_getElem _⟩, fun P H s ⟨vs, q, d⟩ => ⟨vs, q, by rw [d.len, enumFrom_len]; exact Nat.le_refl _⟩, fun i P H v H' x s ⟨vs, q, d⟩ y e => ?_⟩
  obtain ⟨T, w, rfl, np, rfl, y⟩ := y
  obtain ⟨z, h1, rfl⟩ := enumFrom_at e
  obtain ⟨u, e1, du⟩ := d.at_ h1
  rw [y vs q] at e1; cases e1
  rw [Nat.zero_add]
  exact yd_pair s np (.int _) du
theorem zipD_len : ∀ (xs ys : List PyData), (zipD xs ys).length = min xs.length ys.length
  | [], _ => by simp [zipD]
  | _ :: _, [] => by simp [zipD]
  | x :: xs, y :: ys => by simp [zipD, zipD_len xs ys]
theorem zipD_at : ∀ {xs ys : List PyData} {i : Nat} {x : PyData}, (zipD xs ys)[i]? = some x → ∃ y z, xs[i]? = some y ∧ ys[i]? = some z ∧ x = .tuple [y, z]
  | [], _, _, _, e => by simp [zipD] at e
  | _ :: _, [], _, _, e => by simp [zipD] at e
  | x :: xs, y :: ys, 0, z, e => by simp [zipD] at e; subst e; exact ⟨x, y, rfl, rfl, rfl⟩
  | x :: xs, y :: ys, i + 1, z, e => by
    obtain ⟨u, w, h1, h2, h3⟩ := zipD_at (xs := xs) (ys := ys) (i := i) (by simpa [zipD] using e)
    exact ⟨u, w, by simpa using h1, by simpa using h2, h3⟩
theorem go_zip {b : Addr} {ys : List PyData} : GoD K (Itz K a b) (zipD xs ys) fun P H => ∃ vs us, SqL K H a vs ∧ SqL K H b us ∧ DpAll K P vs xs ∧ DpAll K P us ys := by
  refine ⟨fun i P H s ⟨vs, us, q, r, d, f⟩ hi => ?_, fun P H s ⟨vs, us, q, r, d, f⟩ => ⟨vs, us, q, r, ?_⟩, fun i P H v H' x s ⟨vs, us, q, r, d, f⟩ y e => ?_⟩
  · rw [zipD_len] at hi
    exact ⟨vs, us, vs[i]'(by rw [d.len]; omega), us[i]'(by rw [f.len]; omega), q, r, List.getElem?_eq_getElem _, List.getElem?_eq_getElem _⟩
  · rw [d.len, f.len, zipD_len]; omega
  · obtain ⟨T, u, w, rfl, np, rfl, y1, y2⟩ := y
    obtain ⟨y, z, h1, h2, rfl⟩ := zipD_at e
    obtain ⟨u', e1, du⟩ := d.at_ h1
    obtain ⟨w', e2, dw⟩ := f.at_ h2
    rw [y1 vs q] at e1; cases e1
    rw [y2 us r] at e2; cases e2
    exact yd_pair s np du dw
theorem go_zipT {b : Addr} {ys : List PyData} : GoD K (RZ.ItzT K a b) (zipD xs ys) fun P H => ∃ vs us, SqT K H a vs ∧ SqT K H b us ∧ DpAll K P vs xs ∧ DpAll K P us ys := by
  refine ⟨fun i P H s ⟨vs, us, q, r, d, f⟩ hi => ?_, fun P H s ⟨vs, us, q, r, d, f⟩ => ⟨vs, us, q, r, ?_⟩, fun i P H v H' x s ⟨vs, us, q, r, d, f⟩ y e => ?_⟩
  · rw [zipD_len] at hi
    exact ⟨vs, us, vs[i]'(by rw [d.len]; omega), us[i]'(by rw [f.len]; omega), q, r, List.getElem?_eq_getElem _, List.getElem?_eq_getElem _⟩
  · rw [d.len, f.len, zipD_len]; omega
  · obtain ⟨T, u, w, rfl, np, rfl, y1, y2⟩ := y
    obtain ⟨y, z, h1, h2, rfl⟩ := zipD_at e
    obtain ⟨u', e1, du⟩ := d.at_ h1
    obtain ⟨w', e2, dw⟩ := f.at_ h2
    rw [y1 vs q] at e1; cases e1
    rw [y2 us r] at e2; cases e2
    exact yd_pair s np du dw
theorem go_zipM {u v : ZM.Kv} {b : Addr} {ys : List PyData} : GoD K (ZM.Itm u v K a b) (zipD xs ys) fun P H => ∃ vs us, u.sv K H a vs ∧ v.sv K H b us ∧ DpAll K P vs xs ∧ DpAll K P us ys := by
  refine ⟨fun i P H s ⟨vs, us, q, r, d, f⟩ hi => ?_, fun P H s ⟨vs, us, q, r, d, f⟩ => ⟨vs, us, q, r, ?_⟩, fun i P H w H' x s ⟨vs, us, q, r, d, f⟩ y e => ?_⟩
  · rw [zipD_len] at hi
    exact ⟨vs, us, vs[i]'(by rw [d.len]; omega), us[i]'(by rw [f.len]; omega), q, r, List.getElem?_eq_getElem _, List.getElem?_eq_getElem _⟩
  · rw [d.len, f.len, zipD_len]; omega
  · obtain ⟨T, p1, p2, rfl, np, rfl, y1, y2⟩ := y
    obtain ⟨y, z, h1, h2, rfl⟩ := zipD_at e
    obtain ⟨u', e1, du⟩ := d.at_ h1
    obtain ⟨w', e2, dw⟩ := f.at_ h2
    rw [y1 vs q] at e1; cases e1
    rw [y2 us r] at e2; cases e2
    exact yd_pair s np du dw
end
/-! ### the walked thing's rule -/
/-- what stays of it through the loop -/
def Gok (K : PySem.W.Frag) (lk : Option Nat) (σ : L2.St) (P : Hp) (ws : List PyData) (G : Hp → Hp → Prop) : Prop := match lk with
  | none => ∀ P' H', Sub P P' → Sub P' H' → G P' H'
  | some j => ∃ a ys, ws = [.list ys] ∧ σ[j]? = some (some (.ref a)) ∧ ∀ P' H' vs, Sub P P' → Sub P' H' → H' a = some (.lst vs) → DpAll K P' vs ys → G P' H'
def RI (K : PySem.W.Frag) (lk : Option Nat) : L2.St → Hp → Hp → (Nat → Hp) → L2.It → List PyData × List PyData → Hp → Prop := fun σ P H hs J wx hd => hd = emp ∧ ∃ G, GoD K J wx.2 G ∧ Gok K lk σ P wx.1 G
def kWalk (lk : Option Nat) (k : It) (ts : List T) (ρ : Env) : Res (List PyData × List PyData) := match wargs lk ρ ts with
  | none => .st
  | some ws => match walk k ws with
    | none => .st
    | some xs => .ok (ws, xs) ρ
def IV (C : Cz) (X : Cx) (tg it : Expr) (F : FT) (lk : Option Nat) (k : It) (Es : List E) : Prop := PI X tg it (rd C false (RI C.K lk) fun ρ => (evl F Es ρ).bind (kWalk lk k))
theorem PI.imp {X : Cx} {tg e : Expr} {t t' : TI} (h : PI X tg e t) (i : ∀ σ H R, t' σ H R → t σ H R) : PI X tg e t' := ⟨fun pins s σ H R I q => h.run pins s σ H R I (i σ H R q)⟩
def iSeq (K : PySem.W.Frag) (tl : TE) : TI := fun σ H R => tl σ H fun x H1 => ∃ a, x = .ref a ∧ (((∃ xs, SqL K H1 a xs) ∧ R (Itl K a) H1) ∨ ((∃ xs, SqT K H1 a xs) ∧ R (Itt K a) H1))
theorem pi_seq {X : Cx} {tg l : Expr} {tl : TE} (hl : PE X l tl) : PI X tg l (iSeq X.K tl) := by
  refine ⟨fun pins s σ H R I h => thn (hl.run pins s σ H _ I h) fun v s1 ⟨x, H1, I1, r1, a, e, q1⟩ => ?_⟩
  subst e
  cases r1
  have fp : ∀ b ∈ [s1.heap.objs.size], FpOk X pins H1 b := fun b hb => by
    have e : b = s1.heap.objs.size := by simpa using hb
    subst e
    exact I1.fpOk (Nat.le_refl _) (I1.hok.fresh (Nat.le_refl _))
  rcases q1 with ⟨⟨xs, hq⟩, q⟩ | ⟨⟨xs, hq⟩, q⟩
  · obtain ⟨its, rv, p, hz⟩ := I1.list hq
    exact wpAny_pyIter_list p.isList ⟨s1.heap.objs.size, [s1.heap.objs.size], _, _, H1, rfl, I1.kept (t' := s1.toks) fun b o e => Heap.get?_push_of_some _ e, turn_list a _, ⟨_, Heap.get?_push_size _ rfl, rfl, rfl⟩, fp, q⟩
  · obtain ⟨its, rv, p, hz⟩ := I1.tuple hq
    exact wpAny_pyIter_tuple (show s1.heap.IsTuple a its.toArray from p) ⟨s1.heap.objs.size, [s1.heap.objs.size], _, _, H1, rfl, I1.kept (t' := s1.toks) fun b o e => Heap.get?_push_of_some _ e, turn_tuple a _, ⟨_, Heap.get?_push_size _ rfl, rfl, rfl⟩, fp, q⟩
section
variable {C : Cz} {X : Cx} {P H : Hp} {hs : Nat → Hp} {σ : L2.St} {ρ : Env} {F : FT} {tg a e : Expr} {es : List Expr} {ea ek : E} {Es : List E} {pos p0 : Pos} {lk : Option Nat}
theorem wargs_none {ts : List T} : wargs none ρ ts = pures ts := rfl
/-- a walked list of one's own -/
theorem wargs_some {j : Nat} {ts : List T} {ws : List PyData} {vs : List V} {hd : Hp} (st : Sta C.K P H σ ρ hs) (r : TRs C.K P H σ hs vs ts hd) (e : wargs (some j) ρ ts = some ws) : ∃ b us ys, vs = [.ref b] ∧ ws = [.list ys] ∧ σ[j]? = some (some (.ref b)) ∧ H b = some (.lst us) ∧ DpAll C.K P us ys ∧ slot ρ j = some (.l ys) := by
  unfold wargs at e
  match ts, r, e with
  | [.r i], r, e =>
    simp only at e
    by_cases q : i = j
    · subst q
      rw [if_pos rfl] at e
      cases g : slot ρ i with
      | none => rw [g] at e; cases e
      | some d =>
        rw [g] at e
        cases d <;> simp only [reduceCtorEq, Option.some.injEq] at e
        subst e
        cases r with
        | cons t u _ =>
          cases u
          obtain ⟨_, hv⟩ := t
          obtain ⟨v, hv', o⟩ := st.at_ i _ g
          rw [hv] at hv'; cases hv'
          have s := st.own i
          generalize hs i = h at o s
          cases o with
          | l dx => exact ⟨_, _, _, rfl, rfl, hv, s _ _ upd_same, dx, rfl⟩
    · rw [if_neg q] at e; cases e
/-- from the arguments to the walk -/
theorem iv_of {k : It} {ta : TA} {w : List V → Hp → (L2.It → Hp → Prop) → Prop} (ha : ∀ σ H Q, rd C (quiets Es) (RTs C.K) (evl F Es) σ H Q → ta σ H Q)
    (hk : ∀ P H hs ρ vs ts hd ws xs R, Sta C.K P H σ ρ hs → TRs C.K P H σ hs vs ts hd → wargs lk ρ ts = some ws → walk k ws = some xs → (∀ J G, GoD C.K J xs G → Gok C.K lk σ P ws G → R J H) → w vs H R) {R : L2.It → Hp → Prop}
    (h : rd C false (RI C.K lk) (fun ρ => (evl F Es ρ).bind (kWalk lk k)) σ H R) : ta σ H fun vs H1 => w vs H1 R := by
  obtain ⟨P, hs, ρ, st, p⟩ := h
  refine ha _ _ _ ⟨P, hs, ρ, st, (p.then (R1 := RTs C.K σ) (s1 := quiets Es) (by intro z; cases z)).imp fun vs H1 => ?_⟩
  rintro ⟨P1, hs1, ρ1, ts, hd1, st1, r1, n1, s1, _, p1⟩
  unfold kWalk at p1
  cases q1 : wargs lk ρ1 ts with
  | none => rw [q1] at p1; exact p1.elim
  | some ws =>
    rw [q1] at p1
    simp only at p1
    cases q2 : walk k ws with
    | none => rw [q2] at p1; exact p1.elim
    | some xs =>
      rw [q2] at p1
      exact hk P1 H1 hs1 ρ1 vs ts hd1 ws xs R st1 r1 q1 q2 fun J G g o => p1.now st1 ⟨rfl, G, g, o⟩
/-- a list or tuple that is walked: where it lies, and that it stays -/
theorem walked_list {ts : List T} {ws : List PyData} {vs : List V} {hd : Hp} {xs : List PyData} (st : Sta C.K P H σ ρ hs) (r : TRs C.K P H σ hs vs ts hd) (e : wargs lk ρ ts = some ws) (ew : ws = [.list xs]) :
    ∃ b us, vs = [.ref b] ∧ SqL C.K H b us ∧ Gok C.K lk σ P ws (fun P H => ∃ vs, SqL C.K H b vs ∧ DpAll C.K P vs xs) := by
  subst ew
  cases lk with
  | none =>
    rw [wargs_none] at e
    obtain ⟨v, rfl, dv⟩ := dp1 (pures_dp (C := C) r e)
    cases dv with
    | lst h1 h2 => exact ⟨_, _, rfl, SqL.up st.sub h1, fun P' H' s1 s2 => ⟨_, SqL.up (s1.trans s2) h1, DpAll.up s1 h2⟩⟩
  | some j =>
    obtain ⟨b, us, ys, rfl, ew, hv, hb, du, _⟩ := wargs_some st r e
    cases ew
    exact ⟨b, us, rfl, SqL.of hb, b, xs, rfl, hv, fun P' H' vs s1 s2 e d => ⟨vs, SqL.of e, d⟩⟩
theorem walked_tup {ts : List T} {ws : List PyData} {vs : List V} {hd : Hp} {xs : List PyData} (st : Sta C.K P H σ ρ hs) (r : TRs C.K P H σ hs vs ts hd) (e : wargs lk ρ ts = some ws) (ew : ws = [.tuple xs]) :
    ∃ b us, vs = [.ref b] ∧ SqT C.K H b us ∧ Gok C.K lk σ P ws (fun P H => ∃ vs, SqT C.K H b vs ∧ DpAll C.K P vs xs) := by
  subst ew
  cases lk with
  | none =>
    rw [wargs_none] at e
    obtain ⟨v, rfl, dv⟩ := dp1 (pures_dp (C := C) r e)
    cases dv with
    | tup h1 h2 => exact ⟨_, _, rfl, SqT.up st.sub h1, fun P' H' s1 s2 => ⟨_, SqT.up (s1.trans s2) h1, DpAll.up s1 h2⟩⟩
  | some j =>
    obtain ⟨b, us, ys, rfl, ew, hv, hb, du, _⟩ := wargs_some st r e
    cases ew
theorem iv_seq (hK : X.K = C.K) (ha : EV C X ea.quiet a (ev F ea)) : IV C X tg a F lk .seq [ea] := by
  refine PI.imp (pi_seq ha) fun σ H R h => ?_
  have e : (fun ρ => (evl F [ea] ρ).bind (kWalk lk .seq)) = fun ρ => (ev F ea ρ).bind fun t ρ1 => kWalk lk .seq [t] ρ1 := by
    funext ρ
    simp only [evl]
    cases ev F ea ρ <;> simp [Res.bind, quiets]
  rw [e] at h
  obtain ⟨P, hs, ρ, st, p⟩ := h
  refine ⟨P, hs, ρ, st, (p.then (R1 := RT C.K σ) (s1 := ea.quiet) (by intro z; cases z)).imp fun v H1 => ?_⟩
  rintro ⟨P1, hs1, ρ1, t, hd1, st1, r1, n1, s1, _, p1⟩
  have rs : TRs C.K P1 H1 σ hs1 [v] [t] (uni hd1 L3.emp) := .cons r1 .nil (Dj.emp _)
  unfold kWalk at p1
  cases q1 : wargs lk ρ1 [t] with
  | none => rw [q1] at p1; exact p1.elim
  | some ws =>
    rw [q1] at p1
    simp only at p1
    cases q2 : walk .seq ws with
    | none => rw [q2] at p1; exact p1.elim
    | some xs =>
      rw [q2] at p1
      rw [hK]
      have ew : ws = [.list xs] ∨ ws = [.tuple xs] := by
        match ws, q2 with
        | [w], q2 => cases w <;> simp [walk, items] at q2 <;> subst q2 <;> simp
      rcases ew with ew | ew
      · obtain ⟨b, us, ev, hb, g⟩ := walked_list st1 rs q1 ew
        cases ev
        exact ⟨b, rfl, .inl ⟨⟨us, hb⟩, p1.now st1 ⟨rfl, _, go_list, g⟩⟩⟩
      · obtain ⟨b, us, ev, hb, g⟩ := walked_tup st1 rs q1 ew
        cases ev
        exact ⟨b, rfl, .inr ⟨⟨us, hb⟩, p1.now st1 ⟨rfl, _, go_tup, g⟩⟩⟩
theorem star_1 {env : PySem.Env} (h : starred a = false) : starEach [a] env = [(false, PySem.eval a env)] := by rw [star_cons h]; rfl
theorem gok_true {σ : L2.St} {P : Hp} {ws : List PyData} : Gok C.K none σ P ws (fun _ _ => True) := fun _ _ _ _ => trivial
theorem iv_rng1 (hg : Gl X "range") (hm : X.mg "range" = none) (ns : starred a = false) (ha : EL C X [a] F Es) : IV C X tg (.Call (.Name "range" p0) [a] [] pos) F none .rng1 Es := by
  refine PI.imp (pi_range1 hg hm ha (star_1 ns)) fun σ H R h => iv_of (w := fun vs H1 R => ∃ j : Int, vs = [.int j] ∧ -(2 ^ 62) ≤ j ∧ j < 2 ^ 62 ∧ R (Itr 0 j.toNat) H1) (fun _ _ _ z => z) (fun P H hs ρ vs ts hd ws xs R st r e1 e2 q => ?_) h
  match ws, e2 with
  | [.int j], e2 =>
    simp only [walk, Option.ite_none_right_eq_some, Option.some.injEq] at e2
    obtain ⟨sm, rfl⟩ := e2
    obtain ⟨v, rfl, dv⟩ := dp1 (pures_dp (C := C) r e1)
    cases dv
    have sm := small_ok sm
    exact ⟨j, rfl, sm.1, sm.2, q _ _ go_range gok_true⟩
theorem iv_rng2 {b : Expr} (hg : Gl X "range") (hm : X.mg "range" = none) (ns : starred a = false) (ns2 : starred b = false) (ha : EL C X [a, b] F Es) : IV C X tg (.Call (.Name "range" p0) [a, b] [] pos) F none .rng2 Es := by
  refine PI.imp (pi_range2 hg hm ha (by rw [star_cons ns, star_1 ns2]) (star_1 ns2)) fun σ H R h => iv_of (w := fun vs H1 R => ∃ i j : Int, vs = [.int i, .int j] ∧ (-(2 ^ 62) ≤ i ∧ i < 2 ^ 62 ∧ -(2 ^ 62) ≤ j ∧ j < 2 ^ 62) ∧ R (Itr i (j - i).toNat) H1) (fun _ _ _ z => z) (fun P H hs ρ vs ts hd ws xs R st r e1 e2 q => ?_) h
  match ws, e2 with
  | [.int i, .int j], e2 =>
    simp only [walk, Option.ite_none_right_eq_some, Option.some.injEq, Bool.and_eq_true] at e2
    obtain ⟨⟨sm, sm2⟩, rfl⟩ := e2
    obtain ⟨v, w, rfl, dv, dw⟩ := dp2 (pures_dp (C := C) r e1)
    cases dv; cases dw
    have sm := small_ok sm
    have sm2 := small_ok sm2
    exact ⟨i, j, rfl, ⟨sm.1, sm.2, sm2.1, sm2.2⟩, q _ _ go_range gok_true⟩
theorem iv_enum {elts : List Expr} {kk : Nat} {tpos : Pos} (hK : X.K = C.K) (hg : Gl X "enumerate") (hm : X.mg "enumerate" = none) (ns : starred a = false) (ha : EL C X [a] F Es) : IV C X (.Tuple elts kk tpos) (.Call (.Name "enumerate" p0) [a] [] pos) F lk .enum Es := by
  refine PI.imp (pi_enumA hg hm ha (star_1 ns)) fun σ H R h => iv_of (w := fun vs H1 R => ∃ a xs, vs = [.ref a] ∧ ((SqL X.K H1 a xs ∧ R (Ite X.K a) H1) ∨ (SqT X.K H1 a xs ∧ R (IteT X.K a) H1))) (fun _ _ _ z => z) (fun P H hs ρ vs ts hd ws xs R st r e1 e2 q => ?_) h
  rw [hK]
  match ws, e2 with
  | [.list ys], e2 =>
    cases e2
    obtain ⟨b, us, rfl, hb, g⟩ := walked_list st r e1 rfl
    exact ⟨b, us, rfl, .inl ⟨hb, q _ _ go_enum g⟩⟩
  | [.tuple ys], e2 =>
    cases e2
    obtain ⟨b, us, rfl, hb, g⟩ := walked_tup st r e1 rfl
    exact ⟨b, us, rfl, .inr ⟨hb, q _ _ go_enumT g⟩⟩
theorem iv_zip {b : Expr} {elts : List Expr} {kk : Nat} {tpos : Pos} (hK : X.K = C.K) (hg : Gl X "zip") (hm : X.mg "zip" = none) (ns : starred a = false) (ns2 : starred b = false) (ha : EL C X [a, b] F Es) :
    IV C X (.Tuple elts kk tpos) (.Call (.Name "zip" p0) [a, b] [] pos) F none .zip Es := by
  refine PI.imp (ZM.pi_zipM hg hm ha (star_cons ns) (star_none (by simp [ns2]))) fun σ H R h => iv_of (w := fun vs H1 R => ∃ (u v : ZM.Kv) (a b : Addr) (xs ys : List V), vs = [.ref a, .ref b] ∧ u.sv X.K H1 a xs ∧ v.sv X.K H1 b ys ∧ R (ZM.Itm u v X.K a b) H1) (fun _ _ _ z => z) (fun P H hs ρ vs ts hd ws xs R st r e1 e2 q => ?_) h
  rw [hK]
  match ws, e2 with
  | [.list ys, .list zs], e2 =>
    obtain ⟨v1, v2, rfl, d1, d2⟩ := dp2 (pures_dp (C := C) r e1)
    cases e2
    cases d1 with
    | lst h1 h2 =>
      cases d2 with
      | lst h3 h4 => exact ⟨ZM.vL, ZM.vL, _, _, _, _, rfl, SqL.up st.sub h1, SqL.up st.sub h3, q _ _ go_zipM fun P' H' s1 s2 => ⟨_, _, SqL.up (s1.trans s2) h1, SqL.up (s1.trans s2) h3, DpAll.up s1 h2, DpAll.up s1 h4⟩⟩
  | [.tuple ys, .tuple zs], e2 =>
    obtain ⟨v1, v2, rfl, d1, d2⟩ := dp2 (pures_dp (C := C) r e1)
    cases e2
    cases d1 with
    | tup h1 h2 =>
      cases d2 with
      | tup h3 h4 => exact ⟨ZM.vT, ZM.vT, _, _, _, _, rfl, SqT.up st.sub h1, SqT.up st.sub h3, q _ _ go_zipM fun P' H' s1 s2 => ⟨_, _, SqT.up (s1.trans s2) h1, SqT.up (s1.trans s2) h3, DpAll.up s1 h2, DpAll.up s1 h4⟩⟩
  | [.list ys, .tuple zs], e2 =>
    obtain ⟨v1, v2, rfl, d1, d2⟩ := dp2 (pures_dp (C := C) r e1)
    cases e2
    cases d1 with
    | lst h1 h2 =>
      cases d2 with
      | tup h3 h4 => exact ⟨ZM.vL, ZM.vT, _, _, _, _, rfl, SqL.up st.sub h1, SqT.up st.sub h3, q _ _ go_zipM fun P' H' s1 s2 => ⟨_, _, SqL.up (s1.trans s2) h1, SqT.up (s1.trans s2) h3, DpAll.up s1 h2, DpAll.up s1 h4⟩⟩
  | [.tuple ys, .list zs], e2 =>
    obtain ⟨v1, v2, rfl, d1, d2⟩ := dp2 (pures_dp (C := C) r e1)
    cases e2
    cases d1 with
    | tup h1 h2 =>
      cases d2 with
      | lst h3 h4 => exact ⟨ZM.vT, ZM.vL, _, _, _, _, rfl, SqT.up st.sub h1, SqL.up st.sub h3, q _ _ go_zipM fun P' H' s1 s2 => ⟨_, _, SqT.up (s1.trans s2) h1, SqL.up (s1.trans s2) h3, DpAll.up s1 h2, DpAll.up s1 h4⟩⟩
end
end L3

/-! list(zip(..)) of two lists. -/
namespace L3
open PySem PySem.Spec PyProof.Rows PySem.W L2
/-- where the zip of two lists stands after i turns, while its pairs are kept in the list at S -/
def ZSt (z TI TO i1 i2 l1 l2 S : Addr) (xs ys : Array Value) (i : Nat) (h : Heap) : Prop :=
  PySem.IsPair h TI (.ref i1) (.ref i2) ∧ h.IsListIter i1 l1 i ∧ h.IsListIter i2 l2 i ∧ h.IsList l1 xs ∧ h.IsList l2 ys ∧
    ((PySem.IsZip h z TI TO .none ∧ ∃ a b, PySem.IsPair h TO a b) ∨ ∃ T f oT, IsZipHeld h z TI TO T f ∧ h.get? T = some oT ∧ T ≠ z ∧ T ≠ i1 ∧ T ≠ i2 ∧ T ≠ S)
section
variable {prog : Program} {w : World} {A : Around} {E : Value → Shared → Prop} {s : Shared} {z TI TO i1 i2 l1 l2 S : Addr} {xs ys : Array Value} {i : Nat}
theorem ZSt.keep {h h' : Heap} (q : ZSt z TI TO i1 i2 l1 l2 S xs ys i h) (nS : S ∉ [z, TI, TO, i1, i2, l1, l2]) (k : ∀ b o, b ≠ S → h.get? b = some o → h'.get? b = some o) : ZSt z TI TO i1 i2 l1 l2 S xs ys i h' := by
  simp only [List.mem_cons, List.not_mem_nil, or_false, not_or] at nS
  obtain ⟨n1, n2, n3, n4, n5, n6, n7⟩ := nS
  obtain ⟨q1, q2, q3, q4, q5, q6⟩ := q
  refine ⟨k _ _ (Ne.symm n2) q1, q2.at fun o => k _ o (Ne.symm n4), q3.at fun o => k _ o (Ne.symm n5), q4.at fun o => k _ o (Ne.symm n6), q5.at fun o => k _ o (Ne.symm n7), ?_⟩
  rcases q6 with ⟨a, u, v, b⟩ | ⟨T, f, oT, a, b, c1, c2, c3, c4⟩
  · exact .inl ⟨k _ _ (Ne.symm n1) a, u, v, k _ _ (Ne.symm n3) b⟩
  · exact .inr ⟨T, f, oT, k _ _ (Ne.symm n1) a, k _ _ c4 b, c1, c2, c3, c4⟩
theorem zst_next {x y : Value} {Q : Option Value → Shared → Prop} (D : ZipApart z TI TO i1 i2 l1 l2) (hS : S < s.heap.objs.size) (hx : xs[i]? = some x) (hy : ys[i]? = some y) (q : ZSt z TI TO i1 i2 l1 l2 S xs ys i s.heap)
    (h : ∀ h', ZSt z TI TO i1 i2 l1 l2 S xs ys (i + 1) h' → PySem.IsPair h' s.heap.objs.size x y → (∀ c o, c ∉ [z, TO, i1, i2] → s.heap.get? c = some o → h'.get? c = some o) → Q (some (.ref s.heap.objs.size)) { s with heap := h' }) :
    wpAny (model prog w) A (pyNext (.ref z)) Q E s := by
  obtain ⟨q1, q2, q3, q4, q5, q6⟩ := q
  have up : ∀ {c o}, s.heap.get? c = some o → s.heap.objs.size ≠ c := fun e => Nat.ne_of_gt (Heap.lt_size e)
  have m1 : s.heap.objs.size ≠ i1 := let ⟨_, e, _⟩ := q2; up e
  have m2 : s.heap.objs.size ≠ i2 := let ⟨_, e, _⟩ := q3; up e
  have off : ∀ {c : Addr}, c ∉ [z, TO, i1, i2] → c ≠ z ∧ c ≠ TO ∧ c ≠ i1 ∧ c ≠ i2 := fun m => by simpa using m
  rcases q6 with ⟨a, u, v, b⟩ | ⟨T, f, oT, a, b, c1, c2, c3, c4⟩
  · refine wpAny_pyNext_zip_item D a q1 b q2 q3 q4 q5 hx hy fun h' a1 a2 a3 a4 a5 a6 hk => ?_
    refine h h' ⟨hk _ _ D.TIz D.TITO D.TIi1 D.TIi2 q1, a3, a4, q4.at fun o e => hk _ o D.l1z D.l1TO D.l1i1 D.l1i2 e, q5.at fun o e => hk _ o D.l2z D.l2TO D.l2i1 D.l2i2 e, .inr ⟨_, false, _, a1, a5, up a, m1, m2, Nat.ne_of_gt hS⟩⟩ a5 fun c o m e => ?_
    obtain ⟨e1, e2, e3, e4⟩ := off m
    exact hk c o e1 e2 e3 e4 e
  · refine wpAny_pyNext_zip_item_held D a b q1 q2 q3 q4 q5 hx hy fun h' a1 a3 a4 a5 a6 hk => ?_
    refine h h' ⟨hk _ _ D.TIz D.TIi1 D.TIi2 q1, a3, a4, q4.at fun o e => hk _ o D.l1z D.l1i1 D.l1i2 e, q5.at fun o e => hk _ o D.l2z D.l2i1 D.l2i2 e, .inr ⟨T, true, oT, a1, hk _ _ c1 c2 c3 b, c1, c2, c3, c4⟩⟩ a5 fun c o m e => ?_
    obtain ⟨e1, e2, e3, e4⟩ := off m
    exact hk c o e1 e3 e4 e
theorem zst_end {Q : Option Value → Shared → Prop} (hh : A.handled = none) (D : ZipApart z TI TO i1 i2 l1 l2) (he : xs[i]? = none ∨ ys[i]? = none) (q : ZSt z TI TO i1 i2 l1 l2 S xs ys i s.heap)
    (h : ∀ h', (∀ c o, c ∉ [z, TO, i1, i2] → s.heap.get? c = some o → h'.get? c = some o) → Q none { s with heap := h' }) : wpAny (model prog w) A (pyNext (.ref z)) Q E s := by
  obtain ⟨q1, q2, q3, q4, q5, q6⟩ := q
  have off : ∀ {c : Addr}, c ∉ [z, TO, i1, i2] → c ≠ z ∧ c ≠ TO ∧ c ≠ i1 ∧ c ≠ i2 := fun m => by simpa using m
  rcases q6 with ⟨a, u, v, b⟩ | ⟨T, f, oT, a, b, c1, c2, c3, c4⟩
  · refine wpAny_pyNext_zip_end hh D a q1 b q2 q3 q4 q5 he fun h' hk => h h' fun c o m e => ?_
    obtain ⟨e1, e2, e3, e4⟩ := off m
    first | exact hk c o e1 e2 e3 e4 e | exact hk c o e1 e3 e4 e
  · refine wpAny_pyNext_zip_end_held hh D a b q1 q2 q3 q4 q5 he fun h' hk => h h' fun c o m e => ?_
    obtain ⟨e1, e2, e3, e4⟩ := off m
    first | exact hk c o e1 e3 e4 e | exact hk c o e1 e2 e3 e4 e
end
end L3

namespace L3
open PySem PySem.Spec PyProof.Rows PySem.W L2
section
variable {X : Cx} {pins : List (Addr × Obj)} {σ : L2.St}
/-- a thing that stands there untracked is tracked from here on -/
theorem adopt {H : Hp} {s : Shared} {S : Addr} {o : HO} (I : Inv X pins σ H s) (f : FpOk X pins H S) (ok : ObjOk X.prog X.w (upd H S o) s.heap S o) : Inv X pins σ (upd H S o) s := by
  obtain ⟨f0, f1, f2, f3, f4, f5⟩ := f
  have nS : ∀ {b u}, H b = some u → b ≠ S := fun e => ne_of_none e f0
  refine I.call' (ch := [S]) rfl ⟨fun _ _ e _ _ _ => e, fun _ ob e _ _ _ => ⟨ob.slots, e⟩, fun b _ _ n m => by rw [upd_ne (fun z => m (by simp [z]))]; exact n, fun _ ob e _ => ⟨ob, e⟩, fun b _ e => by rw [upd_ne (nS e)]; exact e, fun b _ _ e => by rw [upd_ne (nS e)]; exact e, fun b _ e => ⟨#[], by rw [upd_ne (nS e), e]; simp⟩⟩ (fun b u e => ?_) I.bare fun b hb => ?_
  · by_cases hb : b = S
    · subst hb; rw [upd_same] at e; cases e; exact ok
    · rw [upd_ne hb] at e
      exact (I.hok b u e).stay (fun c v _ q => q) (fun c q => by rw [upd_ne (nS q)]; exact q) fun c xs q => by rw [upd_ne (nS q)]; exact q
  · rw [List.mem_singleton.mp hb]
    exact ⟨f3, f1, f4, f5⟩
variable {P0 H0 : Hp} {z TI TO i1 i2 l1 l2 S : Addr} {xs ys : List Value} {wx wy : List V} {dx dy : List PyData} {A : Around} {R : Result → Shared → Prop}
theorem vals_at {vs : List V} {us : List Value} {v : V} {i : Nat} (r : Vals vs us) (h : vs[i]? = some v) : ∃ u, us[i]? = some u ∧ RelV v u := r.get h
theorem vals_push : ∀ {vs : List V} {us : List Value} {v : V} {u : Value}, Vals vs us → RelV v u → Vals (vs ++ [v]) (us ++ [u])
  | _, _, _, _, .nil, r => .cons r .nil
  | _, _, _, _, .cons a b, r => .cons a (vals_push b r)
theorem dp_push {K : PySem.W.Frag} {P : Hp} : ∀ {vs : List V} {xs : List PyData} {v : V} {x : PyData}, DpAll K P vs xs → Dp K P v x → DpAll K P (vs ++ [v]) (xs ++ [x])
  | _, _, _, _, .nil, r => .cons r .nil
  | _, _, _, _, .cons a b, r => .cons a (dp_push b r)
theorem zl_loop (D : ZipApart z TI TO i1 i2 l1 l2) (nS : S ∉ [z, TI, TO, i1, i2, l1, l2]) (hh : A.handled = none) (rx : Vals wx xs) (ry : Vals wy ys) (hn : (zipD dx dy).length ≤ sizeLine) (res : Value)
    (fin : ∀ s' H' P' acc c vs, New P0 H0 P' H' emp → Inv X pins σ H' s' → FpOk X pins H' S → s'.heap.get? S = some { cls := .type "list", data := .seq acc c } → Vals vs acc.toList → DpAll X.K P' vs (zipD dx dy) → R (.ok (.ret res)) s') :
    ∀ (k i : Nat) (s : Shared) (H P : Hp) (acc : Array Value) (c : Nat) (vs : List V), (zipD dx dy).length - i = k → i ≤ (zipD dx dy).length → New P0 H0 P H emp → DpAll X.K P wx dx → DpAll X.K P wy dy → Inv X pins σ H s → TO < s.heap.objs.size → (∀ b ∈ [S, z, TO, i1, i2], FpOk X pins H b) → ZSt z TI TO i1 i2 l1 l2 S xs.toArray ys.toArray i s.heap →
      s.heap.get? S = some { cls := .type "list", data := .seq acc c } → Vals vs acc.toList → DpAll X.K P vs ((zipD dx dy).take i) →
      codeAny (model X.prog X.w) A (.builtin "list.extend.loop" ⟨[.ref S, .ref z, res], []⟩) R s := by
  have off : ∀ {b : Addr}, b ∈ [S, z, TO, i1, i2] → b = S ∨ b ∈ [z, TO, i1, i2] := fun m => by simpa using m
  have nz : S ∉ [z, TO, i1, i2] := fun m => nS (by simp at m ⊢; rcases m with e | e | e | e <;> simp [e])
  intro k
  induction k with
  | zero =>
    intro i s H P acc c vs hk hi n d1 d2 I lo hf q oS rv dv
    have ei : i = (zipD dx dy).length := by omega
    have he : xs.toArray[i]? = none ∨ ys.toArray[i]? = none := by
      rw [zipD_len] at ei
      have e1 := rx.length
      have e2 := ry.length
      have e3 := d1.len
      have e4 := d2.len
      rcases Nat.le_total dx.length dy.length with h | h
      · exact .inl (by simp; omega)
      · exact .inr (by simp; omega)
    refine codeAny_builtin F.entry_extend_loop ?_
    rw [Around.under_plainId F.plain_extend_loop _]
    show wpAny _ A.in1 (pyNext (Value.ref z) >>= _) _ _ s
    refine wpAny_bind (zst_end (by simpa using hh) D he q fun h' hk => wpAny_pure ?_)
    rw [ei, List.take_length] at dv
    exact fin _ H P acc c vs n (I.turnedL (ch := [z, TO, i1, i2]) (t' := s.toks) hk fun b m => hf b (List.mem_cons_of_mem _ m)) (hf S (by simp)) (hk _ _ nz oS) rv dv
  | succ k ih =>
    intro i s H P acc c vs hk hi n d1 d2 I lo hf q oS rv dv
    have hlt : i < (zipD dx dy).length := by omega
    obtain ⟨x, y, ex, ey, ez⟩ := zipD_at (List.getElem?_eq_getElem hlt)
    obtain ⟨v1, e1, p1⟩ := d1.at_ ex
    obtain ⟨v2, e2, p2⟩ := d2.at_ ey
    obtain ⟨u1, g1, r1⟩ := vals_at rx e1
    obtain ⟨u2, g2, r2⟩ := vals_at ry e2
    have lS : S < s.heap.objs.size := Heap.lt_size oS
    have la : acc.size = i := by
      have := rv.length
      have := dv.len
      rw [List.length_take] at this
      simp at *
      omega
    refine codeAny_builtin F.entry_extend_loop ?_
    rw [Around.under_plainId F.plain_extend_loop _]
    show wpAny _ A.in1 (pyNext (Value.ref z) >>= _) _ _ s
    refine wpAny_bind (zst_next D lS (x := u1) (y := u2) (by simpa using g1) (by simpa using g2) q fun h' q' hT hk' => ?_)
    have oS' := hk' _ _ nz oS
    show wpAny _ A.in1 (updateSeq S (·.push (Value.ref s.heap.objs.size)) >>= _) _ _ _
    refine wpAny_bind ?_
    have np : H s.heap.objs.size = none := I.hok.fresh (Nat.le_refl _)
    obtain ⟨P', n1, dT⟩ := yd_pair n.sub np p1 p2
    have oth : ∀ b o, b ≠ S → h'.get? b = some o → (h'.update S (Obj.mapSeq (·.push (Value.ref s.heap.objs.size)))).get? b = some o := fun b o hb e => (Heap.get?_update_other _ _ (Ne.symm hb)).trans e
    have obj : ObjOk X.prog X.w (upd H s.heap.objs.size (.tup [v1, v2])) (h'.update S (Obj.mapSeq (·.push (Value.ref s.heap.objs.size)))) s.heap.objs.size (.tup [v1, v2]) :=
      ⟨by show 2 ≤ sizeLine; decide, [u1, u2], .cons r1 (.cons r2 .nil), ⟨_, oth _ _ (Nat.ne_of_gt lS) hT, rfl, _, rfl⟩⟩
    have J : Inv X pins σ (upd H s.heap.objs.size (.tup [v1, v2])) { s with heap := h'.update S (Obj.mapSeq (·.push (Value.ref s.heap.objs.size))) } :=
      I.turnedNew (ch := [S, z, TO, i1, i2]) (t' := s.toks) (fun b o m e => oth b o (fun h => m (by simp [h])) (hk' b o (fun h => m (List.mem_cons_of_mem _ h)) e)) hf (Nat.le_refl _) obj
    refine wpAny_updateSeq oS' rfl (wpAny_pure ⟨plainId_quiet F.plain_extend_loop _, ih (i + 1) _ _ P' (acc.push _) _ (vs ++ [.ref s.heap.objs.size]) (by omega) hlt (n.trans n1) (DpAll.up n1.up d1) (DpAll.up n1.up d2) J (by show TO < (h'.update S _).objs.size; rw [Heap.size_update]; exact Nat.lt_trans lo (Heap.lt_size hT)) (fun b m => ?_) (q'.keep nS fun b o => oth b o) (Heap.get?_update_self _ oS' rfl) ?_ ?_⟩) (by omega) (by show (acc.push _).size ≤ sizeLine + 1; rw [Array.size_push]; omega)
    · obtain ⟨f0, f⟩ := hf b m
      refine ⟨?_, f⟩
      have lb : b ≠ s.heap.objs.size := by
        rcases off m with e | e
        · rw [e]; exact Nat.ne_of_lt lS
        · obtain ⟨_, ⟨_, a1, _⟩, ⟨_, a2, _⟩, _, _, q6⟩ := q
          simp at e
          rcases e with e | e | e | e
          · rcases q6 with ⟨a, _⟩ | ⟨_, _, _, a, _⟩ <;> (rw [e]; exact Nat.ne_of_lt (Heap.lt_size a))
          · rw [e]; exact Nat.ne_of_lt lo
          · rw [e]; exact Nat.ne_of_lt (Heap.lt_size a1)
          · rw [e]; exact Nat.ne_of_lt (Heap.lt_size a2)
      rw [upd_ne lb]; exact f0
    · rw [Array.toList_push]
      exact vals_push rv rfl
    · rw [List.take_succ, List.getElem?_eq_getElem hlt, ez]
      exact dp_push (DpAll.up n1.up dv) dT
end
end L3

namespace L3
open PySem PySem.Spec PyProof.Rows PySem.W L2
theorem zip_sizeless : typeLookup (.type "zip") "__len__" = pure none := by rw [typeLookup_type, builtinLookup_eq_fast]; kernel_rfl
theorem zip_hintless : typeLookup (.type "zip") "__length_hint__" = pure none := by rw [typeLookup_type, builtinLookup_eq_fast]; kernel_rfl
section
variable {prog : Program} {w : World} {A : Around} {s : Shared} {R : Result → Shared → Prop}
theorem hint_of_zip {z : Addr} {E : Value → Shared → Prop} {Q : Bool → Shared → Prop} (hT : s.TypeIs (.ref z) "zip") (h : Q true s) : wpAny (model prog w) A (Builtin.List.listLengthHint (.ref z)) Q E s := by
  unfold Builtin.List.listLengthHint
  refine wpAny_bind (wpAny_specialOf hT zip_sizeless ?_)
  show wpAny _ A (specialOf (Value.ref z) (Str.ofString "__length_hint__") >>= _) _ _ _
  refine wpAny_bind (wpAny_specialOf hT zip_hintless ?_)
  exact wpAny_pure h
/-- list.__init__ of a zip: the loop begins -/
theorem init_zip {S z TI TO i1 i2 l1 l2 : Addr} {xs ys : Array Value} (nS : S ∉ [z, TI, TO, i1, i2, l1, l2]) (oS : s.heap.get? S = some { cls := .type "list", data := .seq #[] }) (q : ZSt z TI TO i1 i2 l1 l2 S xs ys 0 s.heap) (hz : PySem.IsZip s.heap z TI TO .none)
    (go : ∀ h' c, ZSt z TI TO i1 i2 l1 l2 S xs ys 0 h' → h'.get? S = some { cls := .type "list", data := .seq #[] c } → h'.objs.size = s.heap.objs.size → (∀ b o, b ≠ S → s.heap.get? b = some o → h'.get? b = some o) → codeAny (model prog w) A (.builtin "list.extend.loop" ⟨[.ref S, .ref z, .none], []⟩) R { s with heap := h' }) :
    wpAny (model prog w) A.in1 (Builtin.«list.__init__» ⟨[.ref S, .ref z], []⟩)
      (fun fin t => match fin with | .done f => R (.ok f) t | .again c => c.quiet = true ∧ codeAny (model prog w) A c R t) (fun e t => R (.error e) t) s := by
  show wpAny _ _ (do let old ← Builtin.List.listItems (.ref S); Builtin.List.listUpdate (.ref S) (fun _ => #[]); letGo old.toList.reverse; Builtin.List.listExtendWith (.ref S) (.ref z) .none) _ _ s
  refine wpAny_bind ?_
  unfold Builtin.List.listItems
  refine wpAny_bind (wpAny_seqItems oS rfl (wpAny_pure ?_))
  show wpAny _ _ (updateSeq S (fun _ => #[]) >>= fun _ => letGo (#[] : Array Value).toList.reverse >>= fun _ => Builtin.List.listExtendWith (.ref S) (.ref z) .none) _ _ s
  refine wpAny_bind (wpAny_updateSeq oS rfl ?_)
  have o2 := Heap.get?_update_self (Obj.mapSeq (fun _ => (#[] : Array Value))) oS rfl
  have k2 : ∀ b o, b ≠ S → s.heap.get? b = some o → (s.heap.update S (Obj.mapSeq (fun _ => (#[] : Array Value)))).get? b = some o := fun b o hb e => (Heap.get?_update_other _ _ (Ne.symm hb)).trans e
  refine wpAny_bind (wpAny_letGo ?_)
  have nz : z ≠ S := fun h => nS (by simp [h])
  have hz2 := k2 _ _ nz hz
  unfold Builtin.List.listExtendWith
  refine wpAny_bind (wpAny_typeOf (T := "zip") ⟨_, hz2, rfl⟩ ?_)
  have c1 : Builtin.List.listSameRef (.ref S) (.ref z) = false := by simp [Builtin.List.listSameRef, Ne.symm nz]
  have c2 : (Value.type "zip" == Value.type "list") = false := by decide
  have c3 : (Value.type "zip" == Value.type "tuple") = false := by decide
  simp only [c1, c2, c3, Bool.or_false, Bool.false_eq_true, if_false]
  refine wpAny_bind (wpAny_pyIter_zip hz2 ?_)
  refine wpAny_bind (wpAny_holding (hint_of_zip ⟨_, hz2, rfl⟩ ?_))
  rw [if_pos (by rfl)]
  refine wpAny_bind (wpAny_rule ?_)
  refine wpAny_bind ?_
  show wpAny _ _ (updateSeq S (·.push .none) >>= fun _ => updateSeq S (·.pop)) _ _ _
  refine wpAny_bind (wpAny_updateSeq o2 rfl ?_)
  have o3 := Heap.get?_update_self (Obj.mapSeq (·.push Value.none)) o2 rfl
  refine wpAny_updateSeq (hz := by seq_fits) o3 rfl ?_
  have o4 := Heap.get?_update_self (Obj.mapSeq (·.pop)) o3 rfl
  have k4 : ∀ b o, b ≠ S → s.heap.get? b = some o → (((s.heap.update S (Obj.mapSeq (fun _ => (#[] : Array Value)))).update S (Obj.mapSeq (·.push Value.none))).update S (Obj.mapSeq (·.pop))).get? b = some o :=
    fun b o hb e => (Heap.get?_update_other _ _ (Ne.symm hb)).trans ((Heap.get?_update_other _ _ (Ne.symm hb)).trans (k2 b o hb e))
  exact wpAny_pure ⟨plainId_quiet F.plain_extend_loop _, go _ _ (q.keep nS k4) o4 (by rw [Heap.size_update, Heap.size_update, Heap.size_update]) k4⟩
end
section
variable {X : Cx} {x1 x2 : Str} {p p1 p2 pos : Pos} {a b : Expr} {t : TA}
/-- list(zip(a, b)) of two lists -/
theorem pe_lzip (hc : X.calm = true) (hg : Gl X "list") (hm : X.mg "list" = none) (hg2 : Gl X "zip") (hm2 : X.mg "zip" = none) (ha : PA X [a, b] t) (sa : starEach [a, b] X.env = (false, eval a X.env) :: starEach [b] X.env) (sb : (backTo p2 (starEach [b] X.env)).any (·.1) = false) :
    PE X (.Call (.Name "list" p) [.Call (.Name "zip" p1) [a, b] [] p2] [] pos) (tCB (rBi X.K .lzip) t) := by
  refine ⟨fun pins s σ H Q I h => ?_⟩
  refine wpAny_Call_Name_kw (ld_blt I hg hm boot_list ?_ (by decide) (by decide))
  refine PyProof.Rows.callWith_type1 (PyProof.Rows.args_cons (wpAny_Call_Name_kw (ld_blt I hg2 hm2 PyProof.Rows.boot_zip ?_ (by decide) (by decide))) rfl) rfl rfl
  refine PyProof.Rows.callWith_type1 (thn (ha.run p2 pins s σ H _ I h) fun us s1 ⟨vs, H1, I1, r1, q⟩ => ?_) sa sb
  obtain ⟨P, ws, d, sP, o, e, g⟩ := q
  match ws, e with
  | [.list dx, .list dy], e =>
    simp only [bi, Option.some.injEq] at e
    subst e
    obtain ⟨v, u, rfl, o1, o2⟩ := opds2 o
    obtain ⟨l1, wx, rfl, h1, d1⟩ := o1.list sP
    obtain ⟨l2, wy, rfl, h2, d2⟩ := o2.list sP
    cases r1 with
    | cons r1 rr =>
    cases rr with
    | cons r2 rr =>
    cases rr
    cases r1
    cases r2
    obtain ⟨its, rv, p1, hz1⟩ := I1.list h1
    obtain ⟨its2, rv2, p2, hz2⟩ := I1.list h2
    refine call_zip_2 p1.isList p2.isList fun h' hz hTI hTO i1 i2 hsz hk => PyProof.Rows.args_nil ?_
    have I2 : Inv X pins σ H1 { s1 with heap := h' } := I1.kept (t' := s1.toks) hk
    have D := PySem.W.ktu_apart s1.heap.objs.size l1 l2 p1.lt p2.lt
    refine callType_codes (Q₁ := fun v t => v = .ref h'.objs.size ∧ t = { s1 with heap := h'.push { cls := .type "list", data := .seq #[] } }) F.called_list (F.typeCall_list_1 _) F.entry_list_init (code_list_new _ ⟨rfl, rfl⟩) fun v t ht => ?_
    obtain ⟨rfl, rfl⟩ := ht
    have oS : (h'.push { cls := .type "list", data := .seq #[] }).get? h'.objs.size = some { cls := .type "list", data := .seq #[] } := Heap.get?_push_size _ rfl
    have kp : ∀ b o, h'.get? b = some o → (h'.push { cls := .type "list", data := .seq #[] }).get? b = some o := fun b o e => Heap.get?_push_of_some _ e
    have l1' : l1 < s1.heap.objs.size := p1.lt
    have l2' : l2 < s1.heap.objs.size := p2.lt
    have nS : h'.objs.size ∉ [s1.heap.objs.size + 4, s1.heap.objs.size + 2, s1.heap.objs.size + 3, s1.heap.objs.size, s1.heap.objs.size + 1, l1, l2] := by
      have g1 : l1 ≠ s1.heap.objs.size + 5 := Nat.ne_of_lt (Nat.lt_of_lt_of_le p1.lt (Nat.le_add_right _ 5))
      have g2 : l2 ≠ s1.heap.objs.size + 5 := Nat.ne_of_lt (Nat.lt_of_lt_of_le p2.lt (Nat.le_add_right _ 5))
      simp only [List.mem_cons, List.not_mem_nil, or_false, not_or]
      rw [hsz]
      exact ⟨by omega, by omega, by omega, by omega, by omega, Ne.symm g1, Ne.symm g2⟩
    have q0 : ZSt (s1.heap.objs.size + 4) (s1.heap.objs.size + 2) (s1.heap.objs.size + 3) s1.heap.objs.size (s1.heap.objs.size + 1) l1 l2 h'.objs.size its.toArray its2.toArray 0 (h'.push { cls := .type "list", data := .seq #[] }) :=
      ⟨kp _ _ hTI, i1.at fun o => kp _ o, i2.at fun o => kp _ o, p1.isList.at fun o e => kp _ o (hk _ o e), p2.isList.at fun o e => kp _ o (hk _ o e), .inl ⟨kp _ _ hz, _, _, kp _ _ hTO⟩⟩
    refine ⟨⟨_, oS, rfl⟩, F.args_list_init_2 _ _, init_zip nS oS q0 (kp _ _ hz) fun h2 c q2 o2 sz2 k2 => ?_⟩
    have I3 : Inv X pins σ H1 { s1 with heap := h2 } := I2.kept (t' := s1.toks) fun b o e => k2 b o (Nat.ne_of_lt (Heap.lt_size e)) (kp b o e)
    have fp : ∀ b ∈ [h'.objs.size, s1.heap.objs.size + 4, s1.heap.objs.size + 3, s1.heap.objs.size, s1.heap.objs.size + 1], FpOk X pins H1 b := fun b hb => by
      have lb : s1.heap.objs.size ≤ b := by
        rw [hsz] at hb
        simp at hb
        omega
      exact I1.fpOk lb (I1.hok.fresh lb)
    have zl : (zipD dx dy).length ≤ sizeLine := by
      rw [zipD_len, ← d1.len]
      exact Nat.le_trans (Nat.min_le_left _ _) hz1
    refine zl_loop (A := X.A.in1) (P0 := P) (H0 := H1) D nS (by simpa using I.ok.hd hc) rv rv2 zl .none (fun t H' P' acc c vs n J f oS' rv' dv => ?_) _ 0 _ H1 P #[] c [] rfl (Nat.zero_le _) (New.refl sP) d1 d2 I3 ?_ fp q2 o2 .nil .nil
    · have hn : H' h'.objs.size = none := f.1
      have ln : vs.length ≤ sizeLine := by rw [dv.len]; exact zl
      refine ⟨rfl, .ref h'.objs.size, upd H' h'.objs.size (.lst vs), adopt J f ⟨ln, acc.toList, _, rv', by simpa using oS'⟩, rfl, ?_⟩
      exact g _ _ _ _ (n.trans (New.own1 n.sub hn)) (.l dv)
    · show s1.heap.objs.size + 3 < h2.objs.size
      rw [sz2, Heap.size_push, hsz]
      omega
variable {C : Cz} {F : FT} {Ea Eb : E} {es : List Expr} {Es : List E}
theorem ev_lzip (hK : X.K = C.K) (hc : X.calm = true) (hg : Gl X "list") (hm : X.mg "list" = none) (hg2 : Gl X "zip") (hm2 : X.mg "zip" = none) (ns : [a, b].any starred = false) (h : EL C X [a, b] F Es) :
    EV C X (E.bi .lzip Es).quiet (.Call (.Name "list" p) [.Call (.Name "zip" p1) [a, b] [] p2] [] pos) (ev F (.bi .lzip Es)) := by
  rw [List.any_cons, Bool.or_eq_false_iff] at ns
  exact PE.imp (pe_lzip hc hg hm hg2 hm2 h (star_cons ns.1) (star_none ns.2)) (bi_tcb hK fun _ _ _ z => z)
/-- a built-in function's call of what a built-in type's call gives -/
theorem ev_biBT {k : Bi} {x id y U : String} {p0 p1 p2 : Pos} {r1 r2 : List V → Hp → VK → Prop} (hK : X.K = C.K) (hc1 : CallR X (.type U) r1) (hc2 : CallR X (.builtin id) r2) (hco : ∀ {vs H Q}, rBi X.K k vs H Q → r1 vs H fun v H1 => r2 [v] H1 Q)
    (hg : Gl X x) (hm : X.mg x = none) (hv : bootBuiltins x = some (.builtin id)) (hg2 : Gl X y) (hm2 : X.mg y = none) (hv2 : bootBuiltins y = some (.type U)) (ns : (a :: es).any starred = false) (h : EL C X (a :: es) F Es)
    (hn : (x : Str) ≠ "__name__") (hdb : ((x : Str) == ("__debug__" : Str)) = false) (hn2 : (y : Str) ≠ "__name__") (hdb2 : ((y : Str) == ("__debug__" : Str)) = false) :
    EV C X (E.bi k Es).quiet (.Call (.Name x p0) [.Call (.Name y p1) (a :: es) [] p2] [] pos) (ev F (.bi k Es)) := by
  rw [List.any_cons, Bool.or_eq_false_iff] at ns
  refine PE.imp (pe_callB hc2 hg hm hv (pa_cons (pe_callTy hc1 hg2 hm2 hv2 h hn2 hdb2 (star_cons ns.1) (star_none ns.2)) pa_nil (star_cons rfl)) hn hdb (star_cons rfl) (star_none rfl)) fun σ H Q => ?_
  rintro ⟨P, hs, ρ, st, q⟩
  rw [ev] at q
  refine ⟨P, hs, ρ, st, (q.then (R1 := RTs C.K σ) (s1 := quiets Es) fun z => by simpa [E.quiet] using z).imp fun vs H1 => ?_⟩
  rintro ⟨P1, hs1, ρ1, ts, hd1, st1, r1, n1, s1, _, q1⟩
  exact hco (rBi_post hK st1 r1 q1)
/-- {} -/
theorem ev_dct0 : EV C X false (.Dict [] [] pos) (ev F (.dct [] [])) := by
  refine PE.imp pe_dnewK fun σ H Q => ?_
  rintro ⟨P, hs, ρ, st, q⟩
  rw [ev, evo] at q
  intro a np
  have q : Post C false (RT C.K σ) P H hs σ (.ok (.o (.d [])) ρ) Q := q
  exact q.new st (New.own1 st.sub np) (.d .nil .nil rfl)
end
end L3

namespace L3
open PySem PySem.Spec PyProof.Rows L2
/-! ### targets of loops -/
def rdT (C : Cz) (kp : L2.St → Prop) (f : PyData → Env → Option Env) : TG := fun v σ H Q => kp σ ∧ ∃ P hs ρ x ρ', Sta C.K P H σ ρ hs ∧ Dp C.K P v x ∧ f x ρ = some ρ' ∧ ∀ σ' hs', kp σ' → Sta C.K P H σ' ρ' hs' → (∀ i a, hs' i a ≠ none → ∃ j, hs j a ≠ none) → Q σ' H
def rdTs (C : Cz) (kp : L2.St → Prop) (f : List PyData → Env → Option Env) : TGs := fun vs σ H Q => kp σ ∧ ∃ P hs ρ xs ρ', Sta C.K P H σ ρ hs ∧ DpAll C.K P vs xs ∧ f xs ρ = some ρ' ∧ ∀ σ' hs', kp σ' → Sta C.K P H σ' ρ' hs' → (∀ i a, hs' i a ≠ none → ∃ j, hs j a ≠ none) → Q σ' H
def TG' (C : Cz) (X : Cx) (kp : L2.St → Prop) (t : Expr) (l : Tg) : Prop := PG X t (rdT C kp (bindT l))
def TGs' (C : Cz) (X : Cx) (kp : L2.St → Prop) (t : List Expr) (l : List Tg) : Prop := PGs X t (rdTs C kp (bindTs l))
section
variable {C : Cz} {X : Cx} {kp : L2.St → Prop} {P H : Hp} {hs : Nat → Hp} {σ : L2.St} {ρ : Env} {pos : Pos} {i : Nat} {x : Str} {l : Tg} {ls : List Tg} {t : Expr} {ts : List Expr}
theorem tg_n (hN : X.N.Nodup) (hi : X.N[i]? = some x) (hx : Loc X.env.scope x) (hf : X.fn x = true ∨ X.env.scope.names.lookup x = some .local) (fr : Free kp i) : TG' C X kp (.Name x pos) (.n i) := by
  refine PG.imp (pg_name hN hi hx hf) fun v σ H Q => ?_
  rintro ⟨k, P, hs, ρ, d, ρ', st, o, e, p⟩
  rw [bindT] at e
  cases e
  by_cases hi : i < ρ.length
  · refine p (σ.set i (some v)) _ (fr σ _ k) (st.asg hi (.p o) Tmp.emp) fun j a z => ⟨j, ?_⟩
    exact hset_less j a z
  · have e1 : ρ.set i (some (.p d)) = ρ := List.set_eq_of_length_le (Nat.le_of_not_lt hi)
    have e2 : σ.set i (some v) = σ := List.set_eq_of_length_le (by rw [st.len]; exact Nat.le_of_not_lt hi)
    rw [e1] at p
    show Q (σ.set i (some v)) H
    rw [e2]
    exact p σ hs k st fun j a z => ⟨j, z⟩
theorem tgs_nil : TGs' C X kp [] [] := by
  refine PGs.imp pgs_nil fun vs σ H Q => ?_
  rintro ⟨k, P, hs, ρ, xs, ρ', st, dv, e, p⟩
  cases dv with
  | nil =>
    rw [bindTs] at e
    cases e
    exact ⟨rfl, p σ hs k st fun j a z => ⟨j, z⟩⟩
  | cons => rw [bindTs] at e <;> first | (cases e; done) | simp
theorem tgs_cons (h1 : TG' C X kp t l) (h2 : TGs' C X kp ts ls) (hs : (assignEach (t :: ts) X.env).map (·.2) = assign t X.env :: (assignEach ts X.env).map (·.2)) : TGs' C X kp (t :: ts) (l :: ls) := by
  refine PGs.imp (pgs_cons h1 h2 hs) fun vs σ H Q => ?_
  rintro ⟨k, P, hs, ρ, xs, ρ', st, dv, e, p⟩
  cases dv with
  | nil => rw [bindTs] at e <;> first | (cases e; done) | simp
  | cons d dr =>
    rw [bindTs, Option.bind_eq_some_iff] at e
    obtain ⟨ρ1, e1, e2⟩ := e
    exact ⟨_, _, rfl, k, P, hs, ρ, _, ρ1, st, d, e1, fun σ1 hs1 k1 st1 l1 => ⟨k1, P, hs1, ρ1, _, ρ', st1, dr, e2, fun σ2 hs2 k2 st2 l2 => p σ2 hs2 k2 st2 fun i a z => by
      obtain ⟨j, z⟩ := l2 i a z
      exact l1 j a z⟩⟩
theorem bindTs_len : ∀ {ls : List Tg} {xs : List PyData} {ρ ρ' : Env}, bindTs ls xs ρ = some ρ' → xs.length = ls.length
  | [], [], _, _, _ => rfl
  | [], _ :: _, _, _, h => by rw [bindTs] at h <;> first | (cases h; done) | simp
  | _ :: _, [], _, _, h => by rw [bindTs] at h <;> first | (cases h; done) | simp
  | l :: ls, x :: xs, ρ, ρ', h => by
    rw [bindTs, Option.bind_eq_some_iff] at h
    obtain ⟨ρ1, _, e2⟩ := h
    simp [bindTs_len e2]
theorem tg_t {k2 : Nat} (hc : X.calm = true) (hK : X.K = C.K) (h : TGs' C X kp ts ls) (hl : (assignEach ts X.env).length = ls.length) (hst : (assignEach ts X.env).findIdx? (·.1) = none) : TG' C X kp (.Tuple ts k2 pos) (.t ls) := by
  refine PG.imp (pg_tup hc h hl hst) fun v σ H Q => ?_
  rintro ⟨k, P, hs, ρ, d, ρ', st, o, e, p⟩
  cases o with
  | tup h1 h2 =>
    rw [bindT] at e
    exact ⟨_, _, rfl, by rw [hK]; exact SqT.up st.sub h1, by rw [h2.len]; exact bindTs_len e, k, P, hs, ρ, _, ρ', st, h2, e, p⟩
  | _ => rw [bindT] at e <;> first | (cases e; done) | simp
end
/-! ### while -/
section
variable {C : Cz} {X : Cx} {kp : L2.St → Prop} {P H : Hp} {hs : Nat → Hp} {σ : L2.St} {ρ : Env} {F : FT} {c tg it : Expr} {ec : E} {ss : List Stmt} {Ss : List S} {pos : Pos}
theorem Nx.less {P H P' H' : Hp} {hs hs' hs2 : Nat → Hp} {hd : Hp} (n : Nx P H hs P' H' hs' hd) (l : ∀ i a, hs2 i a ≠ none → ∃ j, hs' j a ≠ none) : Nx P H hs P' H' hs2 hd :=
  ⟨n.up, n.frame, fun a z => n.fresh a (z.imp (fun ⟨i, z⟩ => l i a z) id)⟩
theorem sv_while (hp : PassesOwn (model X.prog X.w) X.A X.env X.xe) (hc : TV C X c (tst F ec)) (hb : SVs C X kp ss (exb F Ss)) : SV C X kp (.While c ss [] pos) (exs F (.while ec Ss)) := by
  refine PS.imp (ps_while hp hc hb) fun D σ H => ?_
  rintro ⟨k, P, hs, ρ, st, p⟩
  rw [exs] at p
  refine ⟨fun m σ H => kp σ ∧ ∃ P hs ρ, Sta C.K P H σ ρ hs ∧ PostS C kp P H hs (whileL (tst F ec) (exb F Ss) m ρ) D, ⟨fuel, k, P, hs, ρ, st, p⟩, ?_⟩
  rintro m σ H ⟨k, P, hs, ρ, st, p⟩
  cases m with
  | zero => rw [whileL] at p; exact p.elim
  | succ m =>
    rw [whileL] at p
    refine ⟨P, hs, ρ, st, (p.fl (R1 := RB σ) (s1 := false) k .refl).imp fun b H1 => ?_⟩
    rintro ⟨P1, hs1, ρ1, t, hd1, st1, ⟨rfl, _⟩, n1, s1, _, p1⟩
    replace p1 := p1.step n1
    cases b with
    | false => exact p1 σ P1 H1 hs1 k st1 .refl
    | true =>
      rw [if_pos rfl] at p1 ⊢
      refine ⟨fun σ' H' => kp σ' ∧ ∃ P hs ρ, Sta C.K P H' σ' ρ hs ∧ PostS C kp P H' hs (whileL (tst F ec) (exb F Ss) m ρ) D, fun σ' H' q => ⟨m, Nat.lt_succ_self m, q⟩, k, P1, hs1, ρ1, st1, ?_⟩
      cases q : exb F Ss ρ1 with
      | st => rw [q] at p1; exact p1
      | nx ρ2 => rw [q] at p1; exact fun σ' P' H' hs' k' st' n => ⟨k', P', hs', ρ2, st', p1.step n⟩
      | ct ρ2 => rw [q] at p1; exact fun σ' P' H' hs' k' st' n => ⟨k', P', hs', ρ2, st', p1.step n⟩
      | bk ρ2 => rw [q] at p1; exact p1
      | rt d ρ2 => rw [q] at p1; exact p1
      | ex y ρ2 => rw [q] at p1; exact p1
/-! ### for -/
/-- what the lock asks of the body: the locked name stays bound as it is -/
def kpL (kp : L2.St → Prop) (lk : Option Nat) (a : Addr) : L2.St → Prop := fun σ => kp σ ∧ ∀ j, lk = some j → σ[j]? = some (some (.ref a))
theorem PG.ex {X : Cx} {t : Expr} {α : Type} {g : α → TG} (h : ∀ a, PG X t (g a)) : PG X t (fun v σ H Q => ∃ a, g a v σ H Q) := ⟨fun pins s σ H v u Q I r ⟨a, q⟩ => (h a).run pins s σ H v u Q I r q⟩
theorem PSs.ex {X : Cx} {t : List Stmt} {α : Type} {g : α → TS} (h : ∀ a, PSs X t (g a)) : PSs X t (fun D σ H => ∃ a, g a D σ H) := ⟨fun pins s σ H D I ⟨a, q⟩ => (h a).run pins s σ H D I q⟩
/-- the locked list is put back -/
theorem relock {l : Option (Nat × List PyData)} {lk : Option Nat} {a : Addr} {hl : Hp} (st : Sta C.K P H σ ρ hs) (tm : Tmp P H hs hl) (k : ∀ j, lk = some j → σ[j]? = some (some (.ref a)))
    (hlk : (l = none ∧ hl = L3.emp) ∨ ∃ j ys, l = some (j, ys) ∧ lk = some j ∧ Own C.K P (.ref a) (.l ys) hl) {P0 H0 : Hp} {hs0 : Nat → Hp} {hd : Hp} (n : Nx P0 H0 hs0 P H hs (uni hl hd)) :
    ∃ hs', Sta C.K P H σ (unlock ρ l) hs' ∧ (∀ i a, hs' i a ≠ none → (∃ j, hs j a ≠ none) ∨ hl a ≠ none) ∧ Nx P0 H0 hs0 P H hs' hd := by
  rcases hlk with ⟨rfl, rfl⟩ | ⟨j, ys, rfl, hj, o⟩
  · refine ⟨hs, st, fun i a z => .inl ⟨i, z⟩, n.up, n.frame, fun a z => n.fresh a (z.imp id fun z => z.imp (fun z => uni_ne.mpr (.inr z)) id)⟩
  · have hj' := k j hj
    have hi : j < ρ.length := by rw [← st.len]; exact lt_of_getElem? hj'
    refine ⟨hset hs j _, st.put hi tm.1 (fun i _ => tm.2.1 i) tm.2.2 (fun x z => by cases z; exact ⟨_, hj', o⟩) (fun z => nomatch z), fun i a z => ?_, n.up, n.frame, fun a z => ?_⟩
    · by_cases q : i = j
      · subst q; rw [hset_same] at z; exact .inr z
      · rw [hset_ne q] at z; exact .inl ⟨i, z⟩
    · rcases z with ⟨i, z⟩ | z | z
      · by_cases q : i = j
        · subst q; rw [hset_same] at z; exact n.fresh a (.inr (.inl (uni_ne.mpr (.inl z))))
        · rw [hset_ne q] at z; exact n.fresh a (.inl ⟨i, z⟩)
      · exact n.fresh a (.inr (.inl (uni_ne.mpr (.inr z))))
      · exact n.fresh a (.inr (.inr z))
theorem wargs_slot {j : Nat} {ts : List T} {ws : List PyData} (e : wargs (some j) ρ ts = some ws) : ∃ ys, slot ρ j = some (.l ys) ∧ ws = [.list ys] := by
  unfold wargs at e
  simp only at e
  split at e
  · rename_i i
    by_cases q : i = j
    · rw [if_pos q] at e
      cases g : slot ρ j with
      | none => rw [g] at e; cases e
      | some d =>
        rw [g] at e
        cases d <;> simp only [reduceCtorEq, Option.some.injEq] at e
        exact ⟨_, rfl, e.symm⟩
    · rw [if_neg q] at e; cases e
  · cases e
/-- the walked list is set aside -/
theorem locked {lk : Option Nat} {l : Option (Nat × List PyData)} {ρ2 : Env} {ts : List T} {ws : List PyData} {G : Hp → Hp → Prop} (st : Sta C.K P H σ ρ hs) (ew : wargs lk ρ ts = some ws) (el : lock ρ lk = some (l, ρ2)) (g : Gok C.K lk σ P ws G) {P0 H0 : Hp} {hs0 : Nat → Hp} {hd : Hp} (n : Nx P0 H0 hs0 P H hs hd) :
    ∃ a hl hs2, Sta C.K P H σ ρ2 hs2 ∧ Tmp P H hs2 hl ∧ (∀ j, lk = some j → σ[j]? = some (some (.ref a))) ∧ ((l = none ∧ hl = L3.emp) ∨ ∃ j ys, l = some (j, ys) ∧ lk = some j ∧ ∀ P', Sub P P' → Own C.K P' (.ref a) (.l ys) hl) ∧
      Nx P0 H0 hs0 P H hs2 hl ∧ ∀ P' H', Sub P P' → Sub P' H' → Sub hl H' → G P' H' := by
  cases lk with
  | none =>
    simp only [lock, Option.some.injEq, Prod.mk.injEq] at el
    obtain ⟨rfl, rfl⟩ := el
    exact ⟨0, L3.emp, hs, st, Tmp.emp, (fun j z => by cases z), .inl ⟨rfl, rfl⟩, n.drop, fun P' H' s1 s2 _ => g P' H' s1 s2⟩
  | some j =>
    obtain ⟨ys, e, rfl⟩ := wargs_slot ew
    simp only [lock, e, Option.some.injEq, Prod.mk.injEq] at el
    obtain ⟨rfl, rfl⟩ := el
    obtain ⟨a, ys', e1, hv, gg⟩ := g
    cases e1
    obtain ⟨v, hv', o⟩ := st.at_ j _ e
    rw [hv] at hv'; cases hv'
    have tm : Tmp P H (hset hs j L3.emp) (hs j) := ⟨st.own j, fun i => by
      by_cases q : i = j
      · subst q; rw [hset_same]; exact Dj.emp _
      · rw [hset_ne q]; exact st.dj j i (Ne.symm q), st.djP j⟩
    have nn : Nx P0 H0 hs0 P H (hset hs j L3.emp) (hs j) := ⟨n.up, n.frame, fun a z => by
      rcases z with ⟨i, z⟩ | z | z
      · exact n.fresh a (.inl ⟨i, hset_less i a z⟩)
      · exact n.fresh a (.inl ⟨j, z⟩)
      · exact n.fresh a (.inr (.inr z))⟩
    have oo := o
    have dr := st.drop_ e
    generalize hs j = hl at o oo tm nn
    cases o with
    | @l _ vs _ dx => exact ⟨a, _, _, dr, tm, fun i z => by cases z; exact hv, .inr ⟨j, ys, rfl, rfl, fun P' s => Own.up s oo⟩, nn, fun P' H' s1 s2 s3 => gg P' H' vs s1 s2 (s3 _ _ upd_same) (DpAll.up s1 dx)⟩
theorem Nx.with {P0 H0 P H P' H' : Hp} {hs0 hs hs' : Nat → Hp} {hl hd : Hp} (x : Nx P0 H0 hs0 P H hs hl) (y : Nx P H hs P' H' hs' hd) : Nx P0 H0 hs0 P' H' hs' (uni hl hd) := x.transU y
theorem sv_for {lk : Option Nat} {k : It} {Es : List E} {tg' : Tg} (hp : PassesOwn (model X.prog X.w) X.A X.env X.xe) (hc : X.calm = true) (hi : IV C X tg it F lk k Es) (hg : ∀ a, TG' C X (kpL kp lk a) tg tg') (hb : ∀ a, SVs C X (kpL kp lk a) ss (exb F Ss))
    (hfs : ∀ x, foldedSetIterable it X.env x = pure x) : SV C X kp (.For tg it ss [] pos) (exs F (.for tg' k lk Es Ss)) := by
  refine PS.imp (ps_for hp hc hi (PG.ex hg) (PSs.ex hb) hfs) fun D σ H => ?_
  rintro ⟨kσ, P, hs, ρ, st, p⟩
  rw [exs] at p
  refine ⟨P, hs, ρ, st, ?_⟩
  show Post C false (RI C.K lk σ) P H hs σ ((evl F Es ρ).bind (kWalk lk k)) _
  cases q : evl F Es ρ with
  | st => rw [q] at p; exact p.elim
  | ex x ρ1 => rw [q] at p; exact fun c d P' H' hs' st' e n => p σ c d P' H' hs' kσ st' e n
  | ok ts ρ1 =>
    rw [q] at p
    simp only [Res.fl] at p
    show Post C false (RI C.K lk σ) P H hs σ (kWalk lk k ts ρ1) _
    unfold kWalk
    cases q1 : wargs lk ρ1 ts with
    | none => rw [q1] at p; exact p.elim
    | some ws =>
      rw [q1] at p
      simp only [Option.bind_some] at p ⊢
      cases q2 : walk k ws with
      | none => rw [q2] at p; exact p.elim
      | some xs =>
        rw [q2] at p
        cases q3 : lock ρ1 lk with
        | none => rw [q3] at p; exact p.elim
        | some lr =>
          obtain ⟨l, ρ2⟩ := lr
          rw [q3] at p
          simp only at p ⊢
          intro J P1 H1 hs1 hd1 st1 r1 n1 _
          obtain ⟨rfl, G, go, gok⟩ := r1
          obtain ⟨a, hl, hs2, st2, tm2, ka, ol, n2, gs⟩ := locked st1 q1 q3 gok n1
          have ol' : ∀ P', Sub P1 P' → (l = none ∧ hl = L3.emp) ∨ ∃ j ys, l = some (j, ys) ∧ lk = some j ∧ Own C.K P' (.ref a) (.l ys) hl := fun P' s => by
            rcases ol with z | ⟨j, ys, e1, e2, o⟩
            · exact .inl z
            · exact .inr ⟨j, ys, e1, e2, o P' s⟩
          -- the end of the loop
          have fin : ∀ {σ' : L2.St} {P' H' : Hp} {hs' : Nat → Hp} {ρ' : Env}, kpL kp lk a σ' → Sub P1 P' → Sta C.K P' H' σ' ρ' hs' → Tmp P' H' hs' hl → Nx P H hs P' H' hs' hl → PostS C kp P H hs (Fl.nx (unlock ρ' l)) D → D.nx σ' H' := fun {σ' P' H' hs' ρ'} kk s st' tm' n' p => by
            obtain ⟨hs3, st3, _, n3⟩ := relock (hd := L3.emp) st' tm' kk.2 (ol' P' s) (by rw [uni_emp]; exact n')
            exact p σ' P' H' hs3 kk.1 st3 n3
          refine ⟨fun i m σ' H' => m = xs.length - i ∧ i ≤ xs.length ∧ kpL kp lk a σ' ∧ ∃ P' hs' ρ', Sub P1 P' ∧ Sta C.K P' H' σ' ρ' hs' ∧ Tmp P' H' hs' hl ∧ Nx P H hs P' H' hs' hl ∧ PostS C kp P H hs ((forL tg' (exb F Ss) (xs.drop i) ρ').unlock l) D,
            ⟨xs.length, by simp, Nat.zero_le _, ⟨kσ, ka⟩, P1, hs2, ρ2, Sub.refl _, st2, tm2, n2, by rw [List.drop_zero]; exact p⟩, ?_⟩
          rintro i m σ' H' ⟨rfl, hi, kk, P', hs', ρ', s, st', tm', n', p'⟩
          have gg := gs P' H' s st'.sub tm'.1
          by_cases hlt : i < xs.length
          · refine .inr ⟨go.goes i P' H' st'.sub gg hlt, _, fun σ'' H'' z => ⟨xs.length - (i + 1), by omega, rfl, hlt, z⟩, fun v H2 y => ?_⟩
            rw [List.drop_eq_getElem_cons hlt, forL] at p'
            have hx : xs[i]? = some xs[i] := List.getElem?_eq_getElem hlt
            obtain ⟨P2, nw, dv⟩ := go.yields i P' H' v H2 _ st'.sub gg y hx
            obtain ⟨st3, _, nx⟩ := nw.sta st'
            obtain ⟨tm3, _⟩ := tm'.later nx
            have n3 : Nx P H hs P2 H2 hs' hl := by
              have z := n'.transU nx
              rw [uni_emp] at z; exact z
            have s3 := s.trans nw.up
            cases q5 : bindT tg' xs[i] ρ' with
            | none => rw [q5] at p'; exact p'.elim
            | some ρ4 =>
              rw [q5] at p'
              simp only at p'
              refine ⟨a, kk, P2, hs', ρ', _, ρ4, st3, dv, q5, fun σ4 hs4 k4 st4 less => ⟨a, k4, P2, hs4, ρ4, st4, ?_⟩⟩
              have tm4 : Tmp P2 H2 hs4 hl := ⟨tm3.1, fun j => (Dj.symm (fun b => by
                by_cases z : hs4 j b = none
                · exact .inl z
                · obtain ⟨i', z⟩ := less j b z
                  exact .inr ((tm3.2.1 i').symm.out z))), tm3.2.2⟩
              have n4 : Nx P H hs P2 H2 hs4 hl := n3.less less
              -- on from a turn
              have on : ∀ {P5 H5 : Hp} {hs5 : Nat → Hp} {hd : Hp}, Nx P2 H2 hs4 P5 H5 hs5 hd → Tmp P5 H5 hs5 hl ∧ Nx P H hs P5 H5 hs5 (uni hl hd) ∧ Sub P1 P5 := fun {P5 H5 hs5 hd} n => ⟨(tm4.later n).1, n4.transU n, s3.trans n.up⟩
              cases q6 : exb F Ss ρ4 with
              | st => rw [q6] at p'; exact p'
              | nx ρ5 =>
                rw [q6] at p'
                intro σ5 P5 H5 hs5 k5 st5 n5
                obtain ⟨t5, m5, s5⟩ := on n5
                exact ⟨k5, P5, hs5, ρ5, s5, st5, t5, by rw [uni_emp] at m5; exact m5, p'⟩
              | ct ρ5 =>
                rw [q6] at p'
                intro σ5 P5 H5 hs5 k5 st5 n5
                obtain ⟨t5, m5, s5⟩ := on n5
                exact ⟨k5, P5, hs5, ρ5, s5, st5, t5, by rw [uni_emp] at m5; exact m5, p'⟩
              | bk ρ5 =>
                rw [q6] at p'
                intro σ5 P5 H5 hs5 k5 st5 n5
                obtain ⟨t5, m5, s5⟩ := on n5
                exact fin k5 s5 st5 t5 (by rw [uni_emp] at m5; exact m5) p'
              | rt d ρ5 =>
                rw [q6] at p'
                intro σ5 v5 P5 H5 hs5 hd5 k5 st5 o5 t5' n5
                obtain ⟨t5, m5, s5⟩ := on n5
                obtain ⟨hs6, st6, l6, n6⟩ := relock st5 t5 k5.2 (ol' P5 s5) m5
                refine p' σ5 v5 P5 H5 hs6 hd5 k5.1 st6 o5 ⟨t5'.1, fun j => Dj.symm fun b => ?_, t5'.2.2⟩ n6
                by_cases z : hs6 j b = none
                · exact .inl z
                · right
                  rcases l6 j b z with ⟨i', z⟩ | z
                  · exact (t5'.2.1 i').symm.out z
                  · exact (tm4.later n5).2.out z
              | ex x ρ5 =>
                rw [q6] at p'
                intro σ5 c5 e5 P5 H5 hs5 k5 st5 o5 n5
                obtain ⟨t5, m5, s5⟩ := on n5
                obtain ⟨hs6, st6, l6, n6⟩ := relock st5 t5 k5.2 (ol' P5 s5) m5
                exact p' σ5 c5 e5 P5 H5 hs6 k5.1 st6 o5 n6
          · have e : i = xs.length := by omega
            subst e
            rw [List.drop_length, forL] at p'
            exact .inl ⟨go.stops P' H' st'.sub gg, fin kk s st' tm' n' p'⟩
end
end L3

namespace L3
open PySem PySem.Spec PyProof.Rows L2
/-! ### comprehensions -/
section
variable {K : PySem.W.Frag} {P H : Hp} {σ σ' : L2.St} {ρ : Env} {hs : Nat → Hp}
/-- a slot forgotten, whatever the name holds -/
theorem Sta.forget (st : Sta K P H σ ρ hs) (i : Nat) (u : Option V) : Sta K P H (σ.set i u) (ρ.set i none) (hset hs i L3.emp) := by
  refine ⟨st.sub, fun j => ?_, fun j k e => ?_, fun j => ?_, by simpa using st.len, fun j e => ?_, fun j x e => ?_⟩
  · by_cases q : j = i
    · subst q; rw [hset_same]; exact Sub.emp _
    · rw [hset_ne q]; exact st.own j
  · exact (((st.dj j k e).mono (hset_less j)).symm.mono (hset_less k)).symm
  · exact ((st.djP j).symm.mono (hset_less j)).symm
  · by_cases q : j = i
    · subst q; rw [hset_same]
    · rw [slot_set, if_neg (fun z => q z.1.symm)] at e
      rw [hset_ne q]; exact st.emp j e
  · by_cases q : j = i
    · subst q
      have hi : ¬ j < ρ.length := fun hi => by rw [slot_set, if_pos ⟨rfl, hi⟩] at e; cases e
      rw [slot_set, if_neg (fun z => hi z.2)] at e
      exact absurd (slot_lt e) hi
    · rw [slot_set, if_neg (fun z => q z.1.symm)] at e
      obtain ⟨u, hu, ou⟩ := st.at_ j x e
      refine ⟨u, ?_, by rw [hset_ne q]; exact ou⟩
      rw [List.getElem?_set_ne (Ne.symm q)]; exact hu
theorem Sta.sigma (st : Sta K P H σ ρ hs) (l : σ'.length = σ.length) (h : ∀ i d, slot ρ i = some d → σ'[i]? = σ[i]?) : Sta K P H σ' ρ hs :=
  ⟨st.sub, st.own, st.dj, st.djP, by rw [l]; exact st.len, st.emp, fun i d e => let ⟨v, hv, o⟩ := st.at_ i d e; ⟨v, by rw [h i d e]; exact hv, o⟩⟩
theorem Sta.wiped (st : Sta K P H σ ρ hs) : ∀ vs : List Nat, ∃ hs2, Sta K P H (L2.wipe σ vs) (wipe ρ vs) hs2 ∧ ∀ i a, hs2 i a ≠ none → hs i a ≠ none
  | [] => ⟨hs, st, fun _ _ z => z⟩
  | v :: vs => by
    obtain ⟨hs2, st2, l⟩ := st.wiped vs
    exact ⟨_, st2.forget v none, fun i a z => l i a (hset_less i a z)⟩
theorem slot_wipe {i : Nat} {d : D} : ∀ {vs : List Nat}, slot (wipe ρ vs) i = some d → i ∉ vs ∧ slot ρ i = some d
  | [], h => ⟨by simp, h⟩
  | v :: vs, h => by
    rw [wipe, slot_set] at h
    by_cases q : v = i ∧ v < (wipe ρ vs).length
    · rw [if_pos q] at h; cases h
    · rw [if_neg q] at h
      obtain ⟨a, b⟩ := slot_wipe h
      refine ⟨?_, b⟩
      rw [List.mem_cons]
      rintro (z | z)
      · subst z; exact q ⟨rfl, slot_lt h⟩
      · exact a z
theorem Sta.unwipe {vs : List Nat} (st : Sta K P H (L2.wipe σ vs) (wipe ρ vs) hs) : Sta K P H σ (wipe ρ vs) hs :=
  st.sigma (by rw [L2.wipe_length]) fun i d e => (L2.wipe_out (slot_wipe e).1).symm
theorem wipe_set {i : Nat} {u : Option V} : ∀ {vs : List Nat}, i ∈ vs → L2.wipe (σ.set i u) vs = L2.wipe σ vs
  | [], h => by simp at h
  | v :: vs, h => by
    rw [L2.wipe, L2.wipe]
    by_cases q : i ∈ vs
    · rw [wipe_set q]
    · have e : i = v := by
        rcases List.mem_cons.mp h with h | h
        · exact h
        · exact absurd h q
      subst e
      apply List.ext_getElem?
      intro j
      by_cases z : i = j
      · subst z
        rw [List.getElem?_set, List.getElem?_set]
        simp [L2.wipe_length]
      · rw [List.getElem?_set_ne z, List.getElem?_set_ne z]
        by_cases y : j ∈ vs
        · have w : ∀ (σ : L2.St) (us : List Nat), j ∈ us → (L2.wipe σ us)[j]? = if j < σ.length then some none else none := by
            intro σ us
            induction us with
            | nil => intro h; simp at h
            | cons u us ih =>
              intro h
              rw [L2.wipe]
              by_cases e : u = j
              · subst e
                rw [List.getElem?_set]
                simp [L2.wipe_length]
              · rw [List.getElem?_set_ne e]
                exact ih ((List.mem_cons.mp h).resolve_left (Ne.symm e))
          rw [w _ _ y, w _ _ y]; simp
        · rw [L2.wipe_out y, L2.wipe_out y, List.getElem?_set_ne z]
theorem wipe_wipe : ∀ vs : List Nat, L2.wipe (L2.wipe σ vs) vs = L2.wipe σ vs := fun vs => by
  have key : ∀ us : List Nat, (∀ i ∈ us, i ∈ vs) → L2.wipe (L2.wipe σ us) vs = L2.wipe σ vs := by
    intro us
    induction us with
    | nil => intro _; rfl
    | cons u us ih =>
      intro h
      rw [show L2.wipe σ (u :: us) = (L2.wipe σ us).set u none from rfl, wipe_set (h u (List.mem_cons_self ..))]
      exact ih fun i hi => h i (List.mem_cons_of_mem _ hi)
  exact key vs fun _ h => h
/-- the new list that grows is written -/
theorem Sta.write {P0 H0 : Hp} {hs0 : Nat → Hp} {hl : Hp} {p : Addr} {o o' : HO} (st : Sta K P H σ ρ hs) (tm : Tmp P H hs (upd hl p o)) (n : Nx P0 H0 hs0 P H hs (upd hl p o)) :
    Sta K P (upd H p o') σ ρ hs ∧ Tmp P (upd H p o') hs (upd hl p o') ∧ Nx P0 H0 hs0 P (upd H p o') hs (upd hl p o') := by
  have ne : ∀ (k : Hp), Dj (upd hl p o) k → k p = none := fun k d => d.out (by rw [upd_same]; simp)
  have keep : ∀ (k : Hp), Sub k H → k p = none → Sub k (upd H p o') := fun k s e b u z => by
    rw [upd_ne (fun y => by subst y; rw [e] at z; cases z)]; exact s b u z
  have dom : ∀ b, upd hl p o' b ≠ none → upd hl p o b ≠ none := fun b z => by
    rcases upd_ne_iff.mp z with z | z
    · exact upd_ne_iff.mpr (.inl z)
    · exact upd_ne_iff.mpr (.inr z)
  refine ⟨⟨keep P st.sub (ne P tm.2.2.symm), fun i => keep _ (st.own i) (ne _ (tm.2.1 i)), st.dj, st.djP, st.len, st.emp, st.at_⟩, ⟨fun b u z => ?_, fun i => (tm.2.1 i).mono dom, (tm.2.2.symm.mono dom).symm⟩, n.up, fun a u q f => ?_, fun a z => n.fresh a (z.imp id fun z => z.imp (dom a) id)⟩
  · by_cases e : b = p
    · subst e; rw [upd_same] at z ⊢; exact z
    · rw [upd_ne e] at z ⊢
      exact tm.1 b u (by rw [upd_ne e]; exact z)
  · have q1 := n.frame a u q f
    have e : a ≠ p := fun e => by
      subst e
      rcases n.fresh a (.inr (.inl (by rw [upd_same]; simp))) with ⟨i, z⟩ | z
      · exact z (f i)
      · rw [q] at z; cases z
    rw [upd_ne e]; exact q1
end
def Cz.calm (C : Cz) : Cz := { C with W := fun _ _ _ _ => False }
section
variable {C : Cz} {X : Cx} {P H : Hp} {hs : Nat → Hp} {σ : L2.St} {ρ : Env} {F : FT} {c tg it elt : Expr} {ec ee : E} {pos : Pos}
def TVs (C : Cz) (X : Cx) (ifs : List Expr) (F : FT) (cs : List E) : Prop := PTs X ifs (rd C false RB (tests F cs))
theorem PTs.imp {X : Cx} {e : List Expr} {t t' : TT} (h : PTs X e t) (i : ∀ σ H Q, t' σ H Q → t σ H Q) : PTs X e t' := ⟨fun pins s σ H Q I q => h.run pins s σ H Q I (i σ H Q q)⟩
theorem tvs_nil : TVs C X [] F [] := by
  refine PTs.imp pts_nil fun σ H Q => ?_
  rintro ⟨P, hs, ρ, st, p⟩
  rw [tests] at p
  exact p.now st ⟨rfl, rfl⟩
theorem tvs_one (h : TV C X c (tst F ec)) : TVs C X [c] F [ec] := by
  refine PTs.imp (pts_one h) fun σ H Q => ?_
  rintro ⟨P, hs, ρ, st, p⟩
  rw [tests] at p
  exact ⟨P, hs, ρ, st, p⟩
/-- from a calm run: nothing is raised -/
theorem Post.calm_ {α β γ δ : Type} {sm : Bool} {R : Hp → Hp → (Nat → Hp) → β → α → Hp → Prop} {R1 : Hp → Hp → (Nat → Hp) → δ → γ → Hp → Prop} {P1 H1 : Hp} {hs1 : Nat → Hp} {r : Res γ} {k : γ → Env → Res α} {Q : β → Hp → Prop} {σ0 : L2.St}
    (h : Post C sm R P H hs σ0 (r.calm.bind k) Q) :
    Post C.calm false R1 P1 H1 hs1 σ r fun c H2 => ∃ P2 hs2 ρ2 a hd2, Sta C.K P2 H2 σ ρ2 hs2 ∧ R1 P2 H2 hs2 c a hd2 ∧ Nx P1 H1 hs1 P2 H2 hs2 hd2 ∧ r = .ok a ρ2 ∧ Post C sm R P H hs σ0 (k a ρ2) Q := by
  cases r with
  | st => exact h
  | ok a ρ => exact fun c P2 H2 hs2 hd2 st t m _ => ⟨P2, hs2, ρ, a, hd2, st, t, m, rfl, h⟩
  | ex x ρ => exact h.elim
/-- the turns' reading of a target -/
def kpW (vs : List Nat) (σ0 : L2.St) : L2.St → Prop := fun σ => L2.wipe σ vs = L2.wipe σ0 vs
def kLc (F : FT) (vs : List Nat) (tg' : Tg) (k : It) (lk : Option Nat) (cs : List E) (ee : E) (ts : List T) (ρ1 : Env) : Res T := match (wargs lk ρ1 ts).bind (walk k), lock ρ1 lk with
    | some xs, some (l, ρ2) => (lcL vs tg' (tests F cs) (ev F ee) xs [] ρ2).bind fun ys ρ3 => .ok (.o (.l ys)) (unlock ρ3 l)
    | _, _ => .st
theorem ev_lc_eq {vs : List Nat} {tg' : Tg} {k : It} {lk : Option Nat} {Es cs : List E} : ev F (.lc vs tg' k lk Es cs ee) = fun ρ => (evl F Es ρ).bind fun ts ρ1 => kLc F vs tg' k lk cs ee ts ρ1 := by
  funext ρ; simp only [ev, kLc]; try rfl
theorem lc_reads {tg' : Tg} {k : It} {lk : Option Nat} {Es cs : List E} {vs : List Nat} : ∀ σ H Q, rd C false (RT C.K) (ev F (.lc vs tg' k lk Es cs ee)) σ H Q →
    tLc (rd C false (RI C.K lk) fun ρ => (evl F Es ρ).bind (kWalk lk k)) (fun v σ H Q => ∃ σ0, rdT C.calm (kpW vs σ0) (bindT tg') v σ H Q) (rd C.calm false RB (tests F cs)) (rd C.calm false (RT C.K) (ev F ee)) vs σ H Q := by
  rintro σ H Q ⟨P, hs, ρ, st, p⟩
  rw [ev_lc_eq] at p
  refine ⟨P, hs, ρ, st, ?_⟩
  show Post C false (RI C.K lk σ) P H hs σ ((evl F Es ρ).bind (kWalk lk k)) _
  replace p : Post C false (RT C.K σ) P H hs σ ((evl F Es ρ).bind fun ts ρ1 => kLc F vs tg' k lk cs ee ts ρ1) Q := p
  cases q : evl F Es ρ with
  | st => rw [q] at p; exact p.elim
  | ex x ρ1 => rw [q] at p; exact fun c d P' H' hs' st' e n => p c d P' H' hs' st' e n
  | ok ts ρ1 =>
    rw [q] at p
    replace p : Post C false (RT C.K σ) P H hs σ (kLc F vs tg' k lk cs ee ts ρ1) Q := p
    show Post C false (RI C.K lk σ) P H hs σ (kWalk lk k ts ρ1) _
    unfold kWalk
    unfold kLc at p
    cases q1 : wargs lk ρ1 ts with
    | none => rw [q1] at p; exact p.elim
    | some ws =>
      rw [q1] at p
      simp only [Option.bind_some] at p ⊢
      cases q2 : walk k ws with
      | none => rw [q2] at p; exact p.elim
      | some xs =>
        rw [q2] at p
        cases q3 : lock ρ1 lk with
        | none => rw [q3] at p; exact p.elim
        | some lr =>
          obtain ⟨l, ρ2⟩ := lr
          rw [q3] at p
          simp only at p ⊢
          intro J P1 H1 hs1 hd1 st1 r1 n1 _ Dd hD
          obtain ⟨rfl, G, go, gok⟩ := r1
          obtain ⟨a, hl, hs2, st2, tm2, ka, ol, n2, gs⟩ := locked st1 q1 q3 gok n1
          have hlD : hl Dd = none := Classical.byContradiction fun z => tm2.1.ne z hD
          have un : ∀ o, upd hl Dd o = uni hl (upd L3.emp Dd o) := fun o => by
            funext b
            by_cases e : b = Dd
            · subst e; rw [upd_same, uni_none hlD, upd_same]
            · rw [upd_ne e]
              by_cases z : hl b = none
              · rw [uni_none z, upd_ne e, z]; rfl
              · rw [uni_some z]
          refine ⟨fun i m H' => m = xs.length - i ∧ i ≤ xs.length ∧ ∃ P' hs' ρ' acc vacc, Sub P1 P' ∧ Sta C.K P' H' σ ρ' hs' ∧ Tmp P' H' hs' (upd hl Dd (.lst vacc)) ∧ Nx P H hs P' H' hs' (upd hl Dd (.lst vacc)) ∧ DpAll C.K P' vacc acc ∧
              Post C false (RT C.K σ) P H hs σ ((lcL vs tg' (tests F cs) (ev F ee) (xs.drop i) acc ρ').bind fun ys ρ3 => .ok (.o (.l ys)) (unlock ρ3 l)) Q,
            ⟨xs.length, by simp, Nat.zero_le _, P1, hs2, ρ2, [], [], Sub.refl _, st2.lay hD, tm2.lay st2 hD, n2.lay hD, .nil, by rw [List.drop_zero]; exact p⟩, ?_⟩
          rintro i m H' ⟨rfl, hi, P', hs', ρ', acc, vacc, s, st', tm', n', da, p'⟩
          have gg := gs P' H' s st'.sub fun b u z => tm'.1 b u (by
            rw [upd_ne (fun e => by subst e; rw [hlD] at z; cases z)]; exact z)
          by_cases hlt : i < xs.length
          · refine .inr ⟨go.goes i P' H' st'.sub gg hlt, fun H'' => ∃ P' hs' ρ' acc vacc, Sub P1 P' ∧ Sta C.K P' H'' σ ρ' hs' ∧ Tmp P' H'' hs' (upd hl Dd (.lst vacc)) ∧ Nx P H hs P' H'' hs' (upd hl Dd (.lst vacc)) ∧ DpAll C.K P' vacc acc ∧
              Post C false (RT C.K σ) P H hs σ ((lcL vs tg' (tests F cs) (ev F ee) (xs.drop (i + 1)) acc ρ').bind fun ys ρ3 => .ok (.o (.l ys)) (unlock ρ3 l)) Q,
              fun H'' z => ⟨xs.length - (i + 1), by omega, rfl, hlt, z⟩, fun v H2 y => ?_⟩
            rw [List.drop_eq_getElem_cons hlt, lcL] at p'
            obtain ⟨P2, nw, dv⟩ := go.yields i P' H' v H2 _ st'.sub gg y (List.getElem?_eq_getElem hlt)
            obtain ⟨st3, _, nx⟩ := nw.sta st'
            obtain ⟨tm3, _⟩ := tm'.later nx
            have n3 : Nx P H hs P2 H2 hs' (upd hl Dd (.lst vacc)) := by
              have z := n'.transU nx
              rw [uni_emp] at z; exact z
            obtain ⟨hsw, stw, lw⟩ := st3.wiped vs
            cases q5 : bindT tg' xs[i] (wipe ρ' vs) with
            | none => rw [q5] at p'; exact p'.elim
            | some ρ4 =>
              rw [q5] at p'
              simp only at p'
              refine ⟨σ, wipe_wipe vs, P2, hsw, _, _, ρ4, stw, dv, q5, fun σ4 hs4 k4 st4 less => ⟨k4, P2, hs4, ρ4, st4, ?_⟩⟩
              have ll : ∀ i a, hs4 i a ≠ none → ∃ j, hs' j a ≠ none := fun i a z => by
                obtain ⟨j, z⟩ := less i a z
                exact ⟨j, lw j a z⟩
              have tm4 : Tmp P2 H2 hs4 (upd hl Dd (.lst vacc)) := ⟨tm3.1, fun j => Dj.symm fun b => by
                by_cases z : hs4 j b = none
                · exact .inl z
                · obtain ⟨i', z⟩ := ll j b z
                  exact .inr ((tm3.2.1 i').symm.out z), tm3.2.2⟩
              have n4 := n3.less ll
              have as : ∀ {α β : Type} (r : Res α) (k : α → Env → Res β) (g : β → Env → Res T), (r.bind k).bind g = r.bind fun a ρ => (k a ρ).bind g := fun r k g => by cases r <;> rfl
              rw [as] at p'
              refine (Post.calm_ (R1 := RB σ4) p').imp fun b H5 => ?_
              rintro ⟨P5, hs5, ρ5, t, hd5, st5, ⟨rfl, _⟩, n5, _, p5⟩
              have s5 := (s.trans nw.up).trans n5.up
              obtain ⟨tm5, _⟩ := tm4.later n5
              have m5 : Nx P H hs P5 H5 hs5 (upd hl Dd (.lst vacc)) := by
                have z := n4.transU n5
                exact ⟨z.up, z.frame, fun a y => z.fresh a (y.imp id fun y => y.imp (fun y => uni_ne.mpr (.inl y)) id)⟩
              -- back to the frame as it was
              have home : ∀ {P6 H6 : Hp} {ρ6 : Env} {hs6 : Nat → Hp}, Sta C.K P6 H6 σ4 ρ6 hs6 → ∃ hs7, Sta C.K P6 H6 σ (wipe ρ6 vs) hs7 ∧ ∀ i a, hs7 i a ≠ none → hs6 i a ≠ none := fun {P6 H6 ρ6 hs6} st6 => by
                obtain ⟨hs7, st7, l7⟩ := st6.wiped vs
                rw [show L2.wipe σ4 vs = L2.wipe σ vs from k4] at st7
                exact ⟨hs7, st7.unwipe, l7⟩
              have tless : ∀ {P6 H6 hd : Hp} {hs6 hs7 : Nat → Hp}, Tmp P6 H6 hs6 hd → (∀ i a, hs7 i a ≠ none → hs6 i a ≠ none) → Tmp P6 H6 hs7 hd := fun {P6 H6 hd hs6 hs7} t l => ⟨t.1, fun j => ((t.2.1 j).symm.mono (l j)).symm, t.2.2⟩
              cases b with
              | false =>
                rw [if_neg Bool.false_ne_true] at p5 ⊢
                obtain ⟨hs7, st7, l7⟩ := home st5
                exact ⟨P5, hs7, _, acc, vacc, s5, st7, tless tm5 l7, m5.less fun i a z => ⟨i, l7 i a z⟩, DpAll.up (nw.up.trans n5.up) da, p5⟩
              | true =>
                rw [if_pos rfl] at p5 ⊢
                rw [as] at p5
                refine ⟨P5, hs5, ρ5, st5, (Post.calm_ (R1 := RT C.K σ4) p5).imp fun w H6 => ?_⟩
                rintro ⟨P6, hs6, ρ6, t, hd6, st6, r6, n6, _, p6⟩
                obtain ⟨tm6, _⟩ := tm5.later n6
                have m6 : Nx P H hs P6 H6 hs6 (upd hl Dd (.lst vacc)) := by
                  have z := m5.transU n6
                  exact ⟨z.up, z.frame, fun a y => z.fresh a (y.imp id fun y => y.imp (fun y => uni_ne.mpr (.inl y)) id)⟩
                cases q6 : t.pure with
                | none => rw [q6] at p6; exact p6.elim
                | some yd =>
                  rw [q6] at p6
                  obtain ⟨dw, rfl⟩ := r6.pl q6
                  simp only at p6
                  have da6 : DpAll C.K P6 vacc acc := DpAll.up ((nw.up.trans n5.up).trans n6.up) da
                  by_cases hz : acc.length < sizeLine
                  · rw [if_pos hz] at p6
                    refine ⟨vacc, tm6.1 _ _ upd_same, by rw [da6.len]; exact hz, ?_⟩
                    obtain ⟨hs7, st7, l7⟩ := home st6
                    obtain ⟨st8, tm8, n8⟩ := st7.write (o' := .lst (vacc ++ [w])) (tless tm6 l7) (m6.less fun i a z => ⟨i, l7 i a z⟩)
                    exact ⟨P6, hs7, _, acc ++ [yd], _, s5.trans n6.up, st8, tm8, n8, da6.app (.cons dw .nil), p6⟩
                  · rw [if_neg hz] at p6; exact p6.elim
          · have e : i = xs.length := by omega
            subst e
            rw [List.drop_length, lcL] at p'
            refine .inl ⟨go.stops P' H' st'.sub gg, ?_⟩
            have tl : Tmp P' H' hs' hl := ⟨fun b u z => tm'.1 b u (by rw [upd_ne (fun e => by subst e; rw [hlD] at z; cases z)]; exact z), fun j => (tm'.2.1 j).mono fun b z => upd_ne_iff.mpr (.inr z), (tm'.2.2.symm.mono fun b z => upd_ne_iff.mpr (.inr z)).symm⟩
            rw [un] at n'
            obtain ⟨hs3, st9, l3, n9⟩ := relock (lk := lk) (a := a) st' tl ka (by
              rcases ol with z | ⟨j, ys, e1, e2, o⟩
              · exact .inl z
              · exact .inr ⟨j, ys, e1, e2, o P' s⟩) n'
            refine p' (.ref Dd) P' H' hs3 _ st9 ⟨.l da, fun b u z => ?_, fun j => Dj.symm fun b => ?_, (tm'.2.2.symm.mono fun b z => ?_).symm⟩ n9 fun z => nomatch z
            · by_cases e : b = Dd
              · subst e; rw [upd_same] at z; cases z; exact tm'.1 _ _ upd_same
              · rw [upd_ne e] at z; cases z
            · by_cases z : hs3 j b = none
              · exact .inl z
              · right
                rcases l3 j b z with ⟨i', z⟩ | z
                · have y := (tm'.2.1 i').symm.out z
                  by_cases e : b = Dd
                  · subst e; rw [upd_same] at y; cases y
                  · exact upd_ne e
                · by_cases e : b = Dd
                  · subst e; exact absurd hlD z
                  · exact upd_ne e
            · rcases upd_ne_iff.mp z with z | z
              · exact upd_ne_iff.mpr (.inl z)
              · exact absurd rfl z
end
end L3

namespace L3
open PySem PySem.Spec PyProof.Rows L2
/-! ### assignments -/
section
variable {C : Cz} {X : Cx} {kp : L2.St → Prop} {P H P0 H0 : Hp} {hs hs0 : Nat → Hp} {σ : L2.St} {ρ : Env} {D : Ends} {F : FT} {a b c e t : Expr} {es ts : List Expr} {ea eb : E} {Es : List E} {pos px py : Pos} {i j : Nat} {x y : Str} {l : Lv} {ls : List Lv}
theorem postG_of {r : Res Unit} (p : PostS C kp P H hs (r.fl fun _ ρ2 => .nx ρ2) D) : PostG C kp P H hs r D.nx := by
  cases r with
  | st => exact p
  | ok u ρ1 => exact p
  | ex x ρ1 => exact p
/-- target = value -/
theorem asg_reads {te : TE} {g : TG} (he : ∀ σ H Q, rd C ea.quiet (RT C.K) (ev F ea) σ H Q → te σ H Q) (hg : ∀ v σ H Q, rdG C kp (sto F l) v σ H Q → g v σ H Q) : ∀ D σ H, rdS C kp (exs F (.asg l ea)) D σ H → tAsg te g D σ H := by
  rintro D σ H ⟨k, P, hs, ρ, st, p⟩
  rw [exs] at p
  refine he _ _ _ ⟨P, hs, ρ, st, (p.fl (R1 := RT C.K σ) (s1 := ea.quiet) k .refl).imp fun v H1 => ?_⟩
  rintro ⟨P1, hs1, ρ1, u, hd1, st1, r1, n1, s1, _, p1⟩
  cases u with
  | o d => exact hg _ _ _ _ ⟨k, P, H, hs, P1, hs1, ρ1, d, hd1, st1, r1.1, r1.2, n1, postG_of p1⟩
  | r i => exact p1.elim
  | q xs => exact p1.elim
theorem name_reads (fr : Free kp i) : ∀ v σ H Q, rdG C kp (sto F (.n i)) v σ H Q → gName i v σ H Q := by
  rintro v σ H Q ⟨k, P0, H0, hs0, P, hs, ρ, d, hd, st, o, tm, n, p⟩
  rw [sto] at p
  by_cases hi : i < ρ.length
  · exact p (σ.set i (some v)) P H _ (fr σ _ k) (st.asg hi o tm) n.asg
  · have e1 : ρ.set i (some d) = ρ := List.set_eq_of_length_le (Nat.le_of_not_lt hi)
    have e2 : σ.set i (some v) = σ := List.set_eq_of_length_le (by rw [st.len]; exact Nat.le_of_not_lt hi)
    rw [e1] at p
    show Q (σ.set i (some v)) H
    rw [e2]
    exact p σ P H hs k st n.drop
theorem sv_set (hN : X.N.Nodup) (hi : X.N[i]? = some x) (hx : Loc X.env.scope x) (he : EV C X ea.quiet e (ev F ea)) (hs : swapsWith e (some (.Name x px)) pos.line X.env = pure false) (hf : X.fn x = true ∨ X.env.scope.names.lookup x = some .local) (fr : Free kp i) :
    SV C X kp (.Assign [.Name x px] e pos) (exs F (.asg (.n i) ea)) := PS.imp (ps_set hN hi hx he hs hf) (asg_reads (fun _ _ _ z => z) (name_reads fr))
theorem sv_asg (he : EV C X ea.quiet e (ev F ea)) (hg : GV C X kp t F l) (hs : swapsWithSole [t] e pos.line X.env = pure false) (hw : swappedStores [t] e X.env = pure none) (h1 : (assignEach [t] X.env).map (·.2) = [assign t X.env]) :
    SV C X kp (.Assign [t] e pos) (exs F (.asg l ea)) := PS.imp (ps_asg he hg hs hw h1) (asg_reads (fun _ _ _ z => z) (fun _ _ _ _ z => z))
/-! several at once -/
def rdD (C : Cz) (kp : L2.St → Prop) (f : List L3.D → Env → Res Unit) : TGs := fun vs σ H Q => kp σ ∧ ∃ P0 H0 hs0 P hs ρ ds hd, Sta C.K P H σ ρ hs ∧ OwnAll C.K P vs ds hd ∧ Tmp P H hs hd ∧ Nx P0 H0 hs0 P H hs hd ∧ PostG C kp P0 H0 hs0 (f ds ρ) Q
def GDs (C : Cz) (X : Cx) (kp : L2.St → Prop) (t : List Expr) (F : FT) (l : List Lv) : Prop := PGs X t (rdD C kp (stoD F l))
theorem gds_nil : GDs C X kp [] F [] := by
  refine PGs.imp pgs_nil fun vs σ H Q => ?_
  rintro ⟨k, P0, H0, hs0, P, hs, ρ, ds, hd, st, dv, tm, n, p⟩
  cases dv with
  | nil =>
    rw [stoD] at p
    exact ⟨rfl, p σ P H hs k st n⟩
  | cons => rw [stoD] at p <;> first | exact p.elim | simp
theorem uni_tmp_l {h k : Hp} (t : Tmp P H hs (uni h k)) : Tmp P H hs h := ⟨uni_left.trans t.1, fun i => (t.2.1 i).mono fun a z => uni_ne.mpr (.inl z), (t.2.2.symm.mono fun a z => uni_ne.mpr (.inl z)).symm⟩
theorem uni_tmp_r {h k : Hp} (d : Dj h k) (t : Tmp P H hs (uni h k)) : Tmp P H hs k := ⟨(uni_right d).trans t.1, fun i => (t.2.1 i).mono fun a z => uni_ne.mpr (.inr z), (t.2.2.symm.mono fun a z => uni_ne.mpr (.inr z)).symm⟩
/-- the new thing is a slot's own from here on -/
theorem Nx.glue {P' H' h1 h2 : Hp} {hs' : Nat → Hp} (n0 : Nx P0 H0 hs0 P H hs (uni h1 h2)) (n : Nx P H (hcons h1 hs) P' H' hs' emp) : Nx P0 H0 hs0 P' H' hs' h2 := by
  have key : ∀ a, (∃ i, hcons h1 hs i a ≠ none) ∨ H a = none → (∃ i, hs0 i a ≠ none) ∨ H0 a = none := fun a z => by
    rcases z with ⟨i, z⟩ | z
    · cases i with
      | zero => exact n0.fresh a (.inr (.inl (uni_ne.mpr (.inl z))))
      | succ i => exact n0.fresh a (.inl ⟨i, z⟩)
    · cases q : H0 a with
      | none => exact .inr rfl
      | some o =>
        refine .inl (Classical.byContradiction fun w => ?_)
        have y := n0.frame a o q fun i => Classical.byContradiction fun v => w ⟨i, v⟩
        rw [z] at y; cases y
  refine ⟨n0.up.trans n.up, fun a o q f => ?_, fun a z => ?_⟩
  · refine n.frame a o (n0.frame a o q f) fun i => Classical.byContradiction fun w => ?_
    rcases key a (.inl ⟨i, w⟩) with ⟨j, y⟩ | y
    · exact y (f j)
    · rw [q] at y; cases y
  · rcases z with z | z | ⟨z1, z2⟩
    · exact key a (n.fresh a (.inl z))
    · exact n0.fresh a (.inr (.inl (uni_ne.mpr (.inr z))))
    · by_cases q : P a = none
      · exact key a (n.fresh a (.inr (.inr ⟨z1, q⟩)))
      · exact n0.fresh a (.inr (.inr ⟨q, z2⟩))
theorem Nx.slot0 {h1 : Hp} : Nx P H (hcons h1 hs) P H hs h1 := ⟨Sub.refl _, fun _ _ e _ => e, fun a z => by
  rcases z with ⟨i, z⟩ | z | ⟨z1, z2⟩
  · exact .inl ⟨i + 1, z⟩
  · exact .inl ⟨0, z⟩
  · exact absurd z2 z1⟩
theorem gds_cons (h1 : GV C X kp t F l) (h2 : GDs C X kp ts F ls) (hs : (assignEach (t :: ts) X.env).map (·.2) = assign t X.env :: (assignEach ts X.env).map (·.2)) : GDs C X kp (t :: ts) F (l :: ls) := by
  refine PGs.imp (pgs_cons h1 h2 hs) fun vs σ H Q => ?_
  rintro ⟨k, P0, H0, hs0, P, hs, ρ, ds, hd, st, dv, tm, n, p⟩
  cases dv with
  | nil => rw [stoD] at p <;> first | exact p.elim | simp
  | @cons v d h vs ds k2 o os dj =>
    rw [stoD] at p
    refine ⟨v, vs, rfl, k, P, H, hcons h hs, P, hs, ρ, d, h, st, o, uni_tmp_l tm, .slot0, ?_⟩
    have t2 := uni_tmp_r dj tm
    cases q : sto F l d ρ with
    | st => rw [q] at p; exact p
    | ex y ρ1 =>
      rw [q] at p
      intro σ' c e P' H' hs' kσ st' ex n'
      exact p σ' c e P' H' hs' kσ st' ex (Nx.glue n n').drop
    | ok u ρ1 =>
      rw [q] at p
      intro σ' P' H' hs' kσ st' n'
      have kk := n'.keep t2.1 fun i => by
        cases i with
        | zero => exact dj.symm
        | succ i => exact t2.2.1 i
      exact ⟨kσ, P0, H0, hs0, P', hs', ρ1, ds, k2, st', OwnAll.up n'.up os, ⟨kk.1, kk.2.1, kk.2.2.2 t2.2.2⟩, Nx.glue n n', p⟩
/-- (t, ..) = (e, ..), the stores from the left -/
theorem sv_asgs {k1 k2 : Nat} {pt p2 : Pos} (hc : X.calm = true) (hK : X.K = C.K) (he : EO C X es F Es) (hg : GDs C X kp ts F ls) (hl : (assignEach ts X.env).length = es.length) (hst : (assignEach ts X.env).findIdx? (·.1) = none) (hz : es.length ≤ sizeLine)
    (hs : swapsWithSole [.Tuple ts k1 pt] (.Tuple es k2 p2) pos.line X.env = pure false) (hw : swappedStores [.Tuple ts k1 pt] (.Tuple es k2 p2) X.env = pure none) (h1 : (assignEach [.Tuple ts k1 pt] X.env).map (·.2) = [assign (.Tuple ts k1 pt) X.env])
    (len : Es.length = es.length) : SV C X kp (.Assign [.Tuple ts k1 pt] (.Tuple es k2 p2) pos) (exs F (.asgs ls Es)) := by
  refine PS.imp (ps_asg (pe_tup he) (pg_tup hc hg hl hst) hs hw h1) fun D σ H => ?_
  rintro ⟨k, P, hs, ρ, st, p⟩
  rw [exs] at p
  refine ⟨P, hs, ρ, st, (p.fl (R1 := ROs C.K σ) (s1 := quiets Es) k .refl).imp fun vs H1 => ?_⟩
  rintro ⟨P1, hs1, ρ1, ds, hd1, st1, ⟨r1, t1⟩, n1, s1, e1, p1⟩
  have dl : ds.length = Es.length := evo_len e1
  have vl : vs.length = es.length := by rw [OwnAll.len r1, dl, len]
  refine ⟨by rw [vl]; exact hz, fun a np => ⟨a, vs, rfl, .inl (.inl upd_same), vl, k, P, H, hs, P1, hs1, ρ1, ds, hd1, st1.lay np, r1, ⟨t1.1.trans (upd_fresh np), t1.2⟩, ?_, postG_of p1⟩⟩
  have key : ∀ b, (H1 b = none → (∃ i, hs i b ≠ none) ∨ H b = none) := fun b z => by
    cases q : H b with
    | none => exact .inr rfl
    | some o =>
      refine .inl (Classical.byContradiction fun w => ?_)
      have y := n1.frame b o q fun i => Classical.byContradiction fun v => w ⟨i, v⟩
      rw [z] at y; cases y
  exact ⟨n1.up, fun b o q f => by
    have y := n1.frame b o q f
    rw [upd_ne (ne_of_none y np)]; exact y, n1.fresh⟩
where
  evo_len : ∀ {Es : List E} {ρ ρ1 : Env} {ds : List L3.D}, evo F Es ρ = .ok ds ρ1 → ds.length = Es.length
    | [], ρ, ρ1, ds, h => by rw [evo] at h; cases h; rfl
    | e :: r, ρ, ρ1, ds, h => by
      rw [evo] at h
      obtain ⟨t, ρ2, _, h⟩ := bind_ok h
      cases t with
      | o d =>
        obtain ⟨xs, ρ3, h1, h2⟩ := bind_ok h
        cases h2
        simp [evo_len h1]
      | r => cases h
      | q => cases h
/-- a, b = .. with plain local names -/
theorem sv_par {kt k2 : Nat} {pt pt2 : Pos} (hc : X.calm = true) (hN : X.N.Nodup) (hi : X.N[i]? = some x) (hj : X.N[j]? = some y) (hij : i ≠ j) (hx : X.env.scope.names.lookup x = some .local) (hy : X.env.scope.names.lookup y = some .local) (he : EO C X [a, b] F Es)
    (hw : swappedStores [.Tuple [.Name x px, .Name y py] kt pt] (.Tuple [a, b] k2 pt2) X.env = pure (some [x, y])) (hs : swapsWithSole [.Tuple [.Name x px, .Name y py] kt pt] (.Tuple [a, b] k2 pt2) pos.line X.env = pure false)
    (fi : Free kp i) (fj : Free kp j) : SV C X kp (.Assign [.Tuple [.Name x px, .Name y py] kt pt] (.Tuple [a, b] k2 pt2) pos) (exs F (.asgs [.n i, .n j] Es)) := by
  refine PS.imp (ps_par hc hN hi hj hij hx hy he hw hs) fun D σ H => ?_
  rintro ⟨k, P, hs, ρ, st, p⟩
  rw [exs] at p
  refine ⟨P, hs, ρ, st, (p.fl (R1 := ROs C.K σ) (s1 := quiets Es) k .refl).imp fun vs H1 => ?_⟩
  rintro ⟨P1, hs1, ρ1, ds, hd1, st1, ⟨r1, t1⟩, n1, s1, e1, p1⟩
  have bad : ∀ {ls ds ρ}, (ls.length ≠ ds.length) → (stoD F ls ds ρ = .st ∨ True) := fun _ => .inr trivial
  cases r1 with
  | nil => simp only [stoD, Res.fl] at p1; exact p1.elim
  | @cons v d h vs ds k2 o os dj =>
    cases os with
    | nil => simp only [stoD, sto, Res.bind, Res.fl] at p1; exact p1.elim
    | @cons w d2 h2 vs ds k3 o2 os2 dj2 =>
      cases os2 with
      | cons => simp only [stoD, sto, Res.bind, Res.fl] at p1; exact p1.elim
      | nil =>
        refine ⟨v, w, rfl, ?_⟩
        simp only [stoD, sto, Res.bind, Res.fl] at p1
        have tl := uni_tmp_l t1
        have tr := uni_tmp_r dj t1
        rw [uni_emp] at tr dj n1
        have g1 := name_reads (F := F) (C := C) (kp := kp) (i := i) fi v σ H1 (fun σ' H' => D.nx (σ'.set j (some w)) H')
        refine g1 ⟨k, P1, H1, hcons h hs1, P1, hs1, ρ1, d, h, st1, o, tl, .slot0, ?_⟩
        rw [sto]
        intro σ' P' H' hs' kσ st' n'
        have kk := n'.keep tr.1 fun i => by
          cases i with
          | zero => exact dj.symm
          | succ i => exact tr.2.1 i
        have g2 := name_reads (F := F) (C := C) (kp := kp) (i := j) fj w σ' H' D.nx
        refine g2 ⟨kσ, P, H, hs, P', hs', _, d2, h2, st', Own.up n'.up o2, ⟨kk.1, kk.2.1, kk.2.2.2 tr.2.2⟩, Nx.glue n1 n', ?_⟩
        rw [sto]
        exact p1
end
end L3

namespace L3
open PySem PySem.Spec PyProof.Rows L2
section
variable {C : Cz} {X : Cx} {kp : L2.St → Prop} {F : FT} {a b c : Expr} {Es : List E} {pos px py pz : Pos} {i j l : Nat} {x y z : Str}
/-- a, b, c = .. with plain local names -/
theorem sv_par3 {kt k2 : Nat} {pt pt2 : Pos} (hc : X.calm = true) (hN : X.N.Nodup) (hi : X.N[i]? = some x) (hj : X.N[j]? = some y) (hl : X.N[l]? = some z) (hij : i ≠ j) (hil : i ≠ l) (hjl : j ≠ l) (hx : X.env.scope.names.lookup x = some .local) (hy : X.env.scope.names.lookup y = some .local) (hz : X.env.scope.names.lookup z = some .local) (he : EO C X [a, b, c] F Es)
    (hw : swappedStores [.Tuple [.Name x px, .Name y py, .Name z pz] kt pt] (.Tuple [a, b, c] k2 pt2) X.env = pure (some [x, y, z])) (hs : swapsWithSole [.Tuple [.Name x px, .Name y py, .Name z pz] kt pt] (.Tuple [a, b, c] k2 pt2) pos.line X.env = pure false)
    (fi : Free kp i) (fj : Free kp j) (fl : Free kp l) : SV C X kp (.Assign [.Tuple [.Name x px, .Name y py, .Name z pz] kt pt] (.Tuple [a, b, c] k2 pt2) pos) (exs F (.asgs [.n i, .n j, .n l] Es)) := by
  refine PS.imp (ps_par3 hc hN hi hj hl hij hil hjl hx hy hz he hw hs) fun D σ H => ?_
  rintro ⟨k, P, hs, ρ, st, p⟩
  rw [exs] at p
  refine ⟨P, hs, ρ, st, (p.fl (R1 := ROs C.K σ) (s1 := quiets Es) k .refl).imp fun vs H1 => ?_⟩
  rintro ⟨P1, hs1, ρ1, ds, hd1, st1, ⟨r1, t1⟩, n1, s1, e1, p1⟩
  cases r1 with
  | nil => simp only [stoD, Res.fl] at p1; exact p1.elim
  | @cons v d h vs ds k2 o os dj =>
    cases os with
    | nil => simp only [stoD, sto, Res.bind, Res.fl] at p1; exact p1.elim
    | @cons w d2 h2 vs ds k3 o2 os2 dj2 =>
      cases os2 with
      | nil => simp only [stoD, sto, Res.bind, Res.fl] at p1; exact p1.elim
      | @cons u d3 h3 vs ds k4 o3 os3 dj3 =>
        cases os3 with
        | cons => simp only [stoD, sto, Res.bind, Res.fl] at p1; exact p1.elim
        | nil =>
          refine ⟨v, w, u, rfl, ?_⟩
          simp only [stoD, sto, Res.bind, Res.fl] at p1
          have tl := uni_tmp_l t1
          have tr := uni_tmp_r dj t1
          rw [uni_emp] at tr dj n1 dj2
          have g1 := name_reads (F := F) (C := C) (kp := kp) (i := i) fi v σ H1 (fun σ' H' => D.nx ((σ'.set j (some w)).set l (some u)) H')
          refine g1 ⟨k, P1, H1, hcons h hs1, P1, hs1, ρ1, d, h, st1, o, tl, .slot0, ?_⟩
          rw [sto]
          intro σ' P' H' hs' kσ st' n'
          have kk := n'.keep tr.1 fun i => by
            cases i with
            | zero => exact dj.symm
            | succ i => exact tr.2.1 i
          have tr2 : Tmp P' H' hs' (uni h2 h3) := ⟨kk.1, kk.2.1, kk.2.2.2 tr.2.2⟩
          have n2 := Nx.glue n1 n'
          have g2 := name_reads (F := F) (C := C) (kp := kp) (i := j) fj w σ' H' (fun σ' H' => D.nx (σ'.set l (some u)) H')
          refine g2 ⟨kσ, P', H', hcons h2 hs', P', hs', _, d2, h2, st', Own.up n'.up o2, uni_tmp_l tr2, .slot0, ?_⟩
          rw [sto]
          intro σ2 P2 H2 hs2 kσ2 st2 n3
          have tr3 := uni_tmp_r dj2 tr2
          have kk2 := n3.keep tr3.1 fun i => by
            cases i with
            | zero => exact dj2.symm
            | succ i => exact tr3.2.1 i
          have g3 := name_reads (F := F) (C := C) (kp := kp) (i := l) fl u σ2 H2 D.nx
          refine g3 ⟨kσ2, P, H, hs, P2, hs2, _, d3, h3, st2, Own.up n3.up (Own.up n'.up o3), ⟨kk2.1, kk2.2.1, kk2.2.2.2 tr3.2.2⟩, Nx.glue n2 n3, ?_⟩
          rw [sto]
          exact p1
end
end L3

namespace L3
open PySem PySem.Spec PyProof.Rows L2
/-! ### comprehensions in their places, calls, isinstance -/
section
variable {C : Cz} {X : Cx} {kp : L2.St → Prop} {P H P0 H0 : Hp} {hs hs0 : Nat → Hp} {σ : L2.St} {ρ : Env} {D : Ends} {F : FT} {a b c e t tg it elt : Expr} {es ts ifs : List Expr} {ea eb ee ek : E} {Es Ws cs : List E} {pos px py p0 spos apos : Pos} {i j : Nat} {x y : Str}
theorem ev_lc {scope : Scope} {own : List (Str × Nat)} {tg' : Tg} {k : It} {lk : Option Nat} {vs : List Nat} (hv : vs = own.map (·.2)) (hc : X.calm = true) (hN : X.N.Nodup) (hi : IV C X tg it F lk k Es) (ok : BlkOk X.N X.env.scope scope own)
    (hg : ∀ (σ0 : L2.St) (s : Shared) (H : Hp) (A : Addr) (cl : List (Str × Addr)) (fp : List Addr), TG' C.calm (X.blk s H scope (compEnvC scope cl A X.env) fp) (kpW vs σ0) tg tg')
    (ht : ∀ (s : Shared) (H : Hp) (A : Addr) (cl : List (Str × Addr)) (fp : List Addr), TVs C.calm (X.blk s H scope (compEnvC scope cl A X.env) fp) ifs F cs)
    (he : ∀ (s : Shared) (H : Hp) (A : Addr) (cl : List (Str × Addr)) (fp : List Addr), EV C.calm (X.blk s H scope (compEnvC scope cl A X.env) fp) ee.quiet elt (ev F ee)) (hs : ∀ x, foldedSetIterable it X.env x = pure x) :
    EV C X false (.ListComp elt [⟨tg, it, ifs, 0⟩] scope pos) (ev F (.lc vs tg' k lk Es cs ee)) := by
  subst hv
  refine PE.imp (pe_lc hc hN hi ok (fun s H A cl fp => PG.ex fun σ0 => hg σ0 s H A cl fp) ht (fun s H A cl fp => (he s H A cl fp).weak (sm' := false) fun z => nomatch z) hs) lc_reads
theorem sv_setLc {scope : Scope} {own : List (Str × Nat)} {tg' : Tg} {k : It} {lk : Option Nat} {vs : List Nat} (hv : vs = own.map (·.2)) (hc : X.calm = true) (hN : X.N.Nodup) (hy : X.N[i]? = some y) (hyl : X.env.scope.names.lookup y = some .local)
    (hsw : swapsWith (.ListComp elt [⟨tg, it, ifs, 0⟩] scope pos) (some (.Name y py)) spos.line X.env = pure true) (hi : IV C X tg it F lk k Es) (ok : BlkOk X.N X.env.scope scope own)
    (hg : ∀ (σ0 : L2.St) (s : Shared) (H : Hp) (A : Addr) (cl : List (Str × Addr)) (fp : List Addr), TG' C.calm (X.blk s H scope (compEnvC scope cl A X.env) fp) (kpW vs σ0) tg tg')
    (ht : ∀ (s : Shared) (H : Hp) (A : Addr) (cl : List (Str × Addr)) (fp : List Addr), TVs C.calm (X.blk s H scope (compEnvC scope cl A X.env) fp) ifs F cs)
    (he : ∀ (s : Shared) (H : Hp) (A : Addr) (cl : List (Str × Addr)) (fp : List Addr), EV C.calm (X.blk s H scope (compEnvC scope cl A X.env) fp) ee.quiet elt (ev F ee)) (hs : ∀ x, foldedSetIterable it X.env x = pure x) (fr : Free kp i) :
    SV C X kp (.Assign [.Name y py] (.ListComp elt [⟨tg, it, ifs, 0⟩] scope pos) spos) (exs F (.asg (.n i) (.lc vs tg' k lk Es cs ee))) := by
  subst hv
  refine PS.imp (ps_setLc hc hN hy hyl hsw hi ok (fun s H A cl fp => PG.ex fun σ0 => hg σ0 s H A cl fp) ht (fun s H A cl fp => (he s H A cl fp).weak (sm' := false) fun z => nomatch z) hs) (asg_reads (fun σ H Q z => lc_reads σ H Q z) (name_reads fr))
/-! ### methods -/
theorem ev_mutN {m : Mt} {id : String} {name : Str} (hm : MtR X id (rMt X.K m)) (sl : Slot "list" name id) (hty : typeOf (.builtin id) = pure (.type "method_descriptor")) (hK : X.K = C.K) (hN : X.N[i]? = some x) (hv : Vis X.env.scope x) (hd : (x == ("__debug__" : Str)) = false) (hcd : (x == ("__classdict__" : Str)) = false)
    (ha : EL C X (a :: es) F Es) (ns : (a :: es).any starred = false) (hl : (a :: es).length < 30) (hline : (apos.endLine == pos.line) = true) : EV C X false (.Call (.Attribute (.Name x px) name apos) (a :: es) [] pos) (ev F (.mut m i [] Es)) := by
  have ns2 := ns
  rw [List.any_cons, Bool.or_eq_false_iff] at ns2
  exact PE.imp (pe_bm PySem.F.plainAttrs_list sl hty hm (pe_var hN hv hd hcd) ha rfl (few_ok ns hl) hline (star_cons ns2.1) (star_none ns2.2)) (mut_name (t := tVar i) (vsr := rMt X.K m) hK hN hv hd hcd fun _ _ _ z => z)
theorem ev_mutN0 {m : Mt} {id : String} {name : Str} (hm : MtR X id (rMt X.K m)) (sl : Slot "list" name id) (hty : typeOf (.builtin id) = pure (.type "method_descriptor")) (hK : X.K = C.K) (hN : X.N[i]? = some x) (hv : Vis X.env.scope x) (hd : (x == ("__debug__" : Str)) = false) (hcd : (x == ("__classdict__" : Str)) = false)
    (hline : (apos.endLine == pos.line) = true) : EV C X false (.Call (.Attribute (.Name x px) name apos) [] [] pos) (ev F (.mut m i [] [])) := by
  refine PE.imp (pe_bm0 PySem.F.plainAttrs_list sl hty hm (pe_var hN hv hd hcd) rfl hline) ?_
  exact mut_name (t := tVar i) (vsr := rMt X.K m) (ta := tNil) hK hN hv hd hcd fun σ H Q ⟨P, hs, ρ, st, p⟩ => by
    rw [evl] at p
    exact p.now st TRs.nil
theorem ev_mutK {m : Mt} {id : String} {name : Str} {k : Expr} {kpos : Pos} (hu : X.A.units + 1 < cLine) (hm : MtR X id (rMt X.K m)) (sl : Slot "list" name id) (hty : typeOf (.builtin id) = pure (.type "method_descriptor")) (hK : X.K = C.K) (hN : X.N[i]? = some x) (hv : Vis X.env.scope x) (hd : (x == ("__debug__" : Str)) = false) (hcd : (x == ("__classdict__" : Str)) = false)
    (hk : EV C X ek.quiet k (ev F ek)) (hpk : PlainIx k) (ha : EL C X (a :: es) F Es) (ns : (a :: es).any starred = false) (hl : (a :: es).length < 30) (hline : (apos.endLine == pos.line) = true) :
    EV C X false (.Call (.Attribute (.Subscript (.Name x px) k kpos) name apos) (a :: es) [] pos) (ev F (.mut m i [ek] Es)) := by
  have ns2 := ns
  rw [List.any_cons, Bool.or_eq_false_iff] at ns2
  exact PE.imp (pe_bm PySem.F.plainAttrs_list sl hty hm (pe_ix (ix_path hu) (pe_var hN hv hd hcd) hk hpk) ha rfl (few_ok ns hl) hline (star_cons ns2.1) (star_none ns2.2)) (mut_key hu hK (fun _ _ _ z => z) fun _ _ _ z => z)
theorem ev_mutK0 {m : Mt} {id : String} {name : Str} {k : Expr} {kpos : Pos} (hu : X.A.units + 1 < cLine) (hm : MtR X id (rMt X.K m)) (sl : Slot "list" name id) (hty : typeOf (.builtin id) = pure (.type "method_descriptor")) (hK : X.K = C.K) (hN : X.N[i]? = some x) (hv : Vis X.env.scope x) (hd : (x == ("__debug__" : Str)) = false) (hcd : (x == ("__classdict__" : Str)) = false)
    (hk : EV C X ek.quiet k (ev F ek)) (hpk : PlainIx k) (hline : (apos.endLine == pos.line) = true) :
    EV C X false (.Call (.Attribute (.Subscript (.Name x px) k kpos) name apos) [] [] pos) (ev F (.mut m i [ek] [])) := by
  refine PE.imp (pe_bm0 PySem.F.plainAttrs_list sl hty hm (pe_ix (ix_path hu) (pe_var hN hv hd hcd) hk hpk) rfl hline) ?_
  exact mut_key (ta := tNil) hu hK (fun _ _ _ z => z) fun σ H Q ⟨P, hs, ρ, st, p⟩ => by
    rw [evl] at p
    exact p.now st TRs.nil
/-! ### isinstance -/
theorem evl_one : evl F [ea] ρ = (ev F ea ρ).bind fun t ρ1 => .ok [t] ρ1 := by
  simp only [evl]
  cases ev F ea ρ <;> simp [Res.bind, quiets]
theorem bind_as {α β γ : Type} (r : Res α) (k : α → Env → Res β) (g : β → Env → Res γ) : (r.bind k).bind g = r.bind fun a ρ => (k a ρ).bind g := by cases r <;> rfl
theorem ev_isa {k : Ty} {ty : Str} {pT : Pos} (hK : X.K = C.K) (hg : Gl X "isinstance") (hm : X.mg "isinstance" = none) (hgT : Gl X ty) (hmT : X.mg ty = none) (hvT : bootBuiltins ty = some (.type (tyName k))) (hnT : ty ≠ "__name__") (hdT : (ty == ("__debug__" : Str)) = false)
    (ha : EV C X ea.quiet a (ev F ea)) (ns : starred a = false) (hn : ("isinstance" : Str) ≠ "__name__") (hdb : (("isinstance" : Str) == ("__debug__" : Str)) = false) (hv : bootBuiltins "isinstance" = some (.builtin "isinstance")) :
    EV C X (E.bi (.isa k) [ea]).quiet (.Call (.Name "isinstance" p0) [a, .Name ty pT] [] pos) (ev F (.bi (.isa k) [ea])) := by
  have hT : PE X (.Name ty pT) (tC (.ty (tyName k))) := pe_bltn hgT hmT hvT (show RelV (.ty (tyName k)) (.type (tyName k)) from rfl) hnT hdT
  refine PE.imp (pe_callB (cb_isa k) hg hm hv (pa_cons ha (pa_cons hT pa_nil (star_cons rfl)) (star_cons ns)) hn hdb (star_cons ns) (star_none rfl)) fun σ H Q => ?_
  rintro ⟨P, hs, ρ, st, p⟩
  rw [ev, evl_one, bind_as] at p
  refine ⟨P, hs, ρ, st, (p.then (R1 := RT C.K σ) (s1 := ea.quiet) (fun z => by simpa [E.quiet, quiets] using z)).imp fun v H1 => ?_⟩
  rintro ⟨P1, hs1, ρ1, t, hd1, st1, r1, n1, s1, _, p1⟩
  exact ⟨v, _, rfl, rfl, rBi_post (C := C) hK st1 (.cons r1 .nil (Dj.emp _)) p1⟩
/-! ### calls of defs -/
theorem evl_len : ∀ {Es : List E} {ρ ρ1 : Env} {ts : List T}, evl F Es ρ = .ok ts ρ1 → ts.length = Es.length
  | [], ρ, ρ1, ts, h => by rw [evl] at h; cases h; rfl
  | e :: r, ρ, ρ1, ts, h => by
    rw [evl] at h
    obtain ⟨t, ρ2, _, h⟩ := bind_ok h
    by_cases q : (!isQ t || quiets r) = true
    · rw [if_pos q] at h
      obtain ⟨xs, ρ3, h1, h2⟩ := bind_ok h
      cases h2
      simp [evl_len h1]
    · rw [if_neg q] at h; cases h
theorem ev_call {CX : CXT} {k f np : Nat} {adr : Addr} {fd : FuncData} {ps : List Str} (Fn : FnG X.prog X.w X.K X.mg X.base CX k adr fd ps (SpD C.K C.exr np (F f))) (hr : Room k X.A) (hgu : X.A.guards = some []) (hg : Gl X x) (hm : X.mg x = some (.ref adr)) (hk : PySem.W.keepIn X.K (.ref adr) = true)
    (hb : Binds X.K fd ps []) (hx : PassesW CX X C.W) (ha : EL C X (a :: es) F Es) (hdb : (x == ("__debug__" : Str)) = false) (ns : (a :: es).any starred = false) (hl : Es.length = np) : EV C X false (.Call (.Name x px) (a :: es) [] pos) (ev F (.call f Es)) := by
  refine PE.imp (pe_callG Fn hr hgu hg hm hk hb hx ha hdb ns) fun σ H Q => ?_
  rintro ⟨P, hs, ρ, st, p⟩
  rw [ev] at p
  refine ⟨P, hs, ρ, st, (p.go (R1 := RTs C.K σ) (s1 := quiets Es) Nx.refl).imp fun vs H1 => ?_⟩
  rintro ⟨P1, hs1, ρ1, ts, hd1, st1, r1, n1, s1, e1, p1⟩
  exact kCall_post st1 r1 n1 (by rw [TRs.len r1, evl_len e1]; exact hl) p1
theorem ev_call0 {CX : CXT} {k f np : Nat} {adr : Addr} {fd : FuncData} {ps : List Str} (Fn : FnG X.prog X.w X.K X.mg X.base CX k adr fd ps (SpD C.K C.exr np (F f))) (hr : Room k X.A) (hgu : X.A.guards = some []) (hg : Gl X x) (hm : X.mg x = some (.ref adr)) (hk : PySem.W.keepIn X.K (.ref adr) = true)
    (hb : Binds X.K fd ps []) (hx : PassesW CX X C.W) (hdb : (x == ("__debug__" : Str)) = false) (hl : 0 = np) : EV C X false (.Call (.Name x px) [] [] pos) (ev F (.call f [])) := by
  refine PE.imp (pe_callG0 Fn hr hgu hg hm hk hb hx hdb) fun σ H Q => ?_
  rintro ⟨P, hs, ρ, st, p⟩
  rw [ev, evl] at p
  exact kCall_post (vs := []) st (.nil : TRs C.K P H σ hs [] [] L3.emp) Nx.refl hl p
/-! by names -/
def EK (C : Cz) (X : Cx) (kws : List Keyword) (F : FT) (Es : List E) : Prop := PK X kws (rd C (quiets Es) (RTs C.K) (evl F Es))
theorem PK.imp {X : Cx} {e : List Keyword} {t t' : TA} (h : PK X e t) (i : ∀ σ H Q, t' σ H Q → t σ H Q) : PK X e t' := ⟨fun pos pins s σ H Q I q => h.run pos pins s σ H Q I (i σ H Q q)⟩
theorem ek_nil : EK C X [] F [] := by
  refine PK.imp pk_nil fun σ H Q => ?_
  rintro ⟨P, hs, ρ, st, p⟩
  rw [evl] at p
  exact p.now st TRs.nil
theorem ek_cons {n : Option Str} {kpos : Pos} {kws : List Keyword} (ha : EV C X ea.quiet a (ev F ea)) (hr : EK C X kws F Es) : EK C X (⟨n, a, kpos⟩ :: kws) F (ea :: Es) := by
  refine PK.imp (pk_cons ha hr) fun σ H Q => ?_
  rintro ⟨P, hs, ρ, st, p⟩
  rw [evl] at p
  have hq : quiets (ea :: Es) = true → ea.quiet = true ∧ quiets Es = true := fun z => by rw [quiets, Bool.and_eq_true] at z; exact z
  refine ⟨P, hs, ρ, st, (p.go (R1 := RT C.K σ) (s1 := ea.quiet) Nx.refl).imp fun v H1 => ?_⟩
  rintro ⟨P1, hs1, ρ1, t, hd1, st1, r1, n1, s1, _, p1⟩
  by_cases qt : (!isQ t || quiets Es) = true
  · rw [if_pos qt] at p1
    refine ⟨P1, hs1, ρ1, st1, (p1.go (R1 := RTs C.K σ) (s1 := quiets Es) n1).imp fun vs H2 => ?_⟩
    rintro ⟨P2, hs2, ρ2, ts, hd2, st2, r2, n2, s2, _, p2⟩
    have l := r1.later n2 fun z => s2 (by rw [z] at qt; simpa using qt)
    exact p2 (v :: vs) P2 H2 hs2 _ st2 (TRs.cons l.1 r2 l.2) (n1.transU n2) fun z => (s1 (hq z).1).trans (s2 (hq z).2)
  · rw [if_neg qt] at p1; exact p1.elim
/-- the things by their places -/
theorem TRs.by {K : PySem.W.Frag} {vs : List V} {ts : List T} {h : Hp} (r : TRs K P H σ hs vs ts h) : ∃ hf : Nat → Hp, (∀ i t, ts[i]? = some t → ∃ v, vs[i]? = some v ∧ TR K P H σ hs v t (hf i)) ∧ (∀ i j, i ≠ j → Dj (hf i) (hf j)) ∧ ∀ i a, hf i a ≠ none → h a ≠ none := by
  induction r with
  | nil => exact ⟨fun _ => L3.emp, fun i t e => by simp at e, fun _ _ _ => Dj.emp _, fun i a z => absurd rfl z⟩
  | cons a b d ih =>
    rename_i v t h vs ts k
    obtain ⟨hf, h1, h2, h3⟩ := ih
    refine ⟨hcons h hf, fun i u e => ?_, fun i j e => ?_, fun i a z => ?_⟩
    · cases i with
      | zero => simp at e; subst e; exact ⟨v, rfl, a⟩
      | succ i =>
        obtain ⟨w, e1, e2⟩ := h1 i u (by simpa using e)
        exact ⟨w, by simpa using e1, e2⟩
    · cases i with
      | zero =>
        cases j with
        | zero => exact absurd rfl e
        | succ j => exact (d.symm.mono (h3 j)).symm
      | succ i =>
        cases j with
        | zero => exact d.symm.mono (h3 i)
        | succ j => exact h2 i j fun z => e (by rw [z])
    · cases i with
      | zero => exact uni_ne.mpr (.inl z)
      | succ i => exact uni_ne.mpr (.inr (h3 i a z))
theorem prm_rel {K : PySem.W.Frag} {vs : List V} {ts : List T} {hf : Nat → Hp} (h1 : ∀ i t, ts[i]? = some t → ∃ v, vs[i]? = some v ∧ TR K P H σ hs v t (hf i)) (h2 : ∀ i j, i ≠ j → Dj (hf i) (hf j)) :
    ∀ {ks : List Nat} {us : List T}, ks.Nodup → prm ks ts = some us → ∃ ws h, prm ks vs = some ws ∧ TRs K P H σ hs ws us h ∧ ∀ a, h a ≠ none → ∃ i ∈ ks, hf i a ≠ none
  | [], us, _, e => by cases e; exact ⟨[], _, rfl, .nil, fun a z => absurd rfl z⟩
  | k :: ks, us, nd, e => by
    rw [List.nodup_cons] at nd
    rw [prm] at e
    cases q1 : ts[k]? with
    | none => simp [q1] at e
    | some t =>
      cases q2 : prm ks ts with
      | none => simp [q1, q2] at e
      | some r =>
        simp only [q1, q2, Option.some.injEq] at e
        subst e
        obtain ⟨v, hv, tr⟩ := h1 k t q1
        obtain ⟨ws, h, e1, rs, dom⟩ := prm_rel h1 h2 nd.2 q2
        refine ⟨v :: ws, _, by rw [prm, hv, e1], .cons tr rs (Dj.symm fun a => ?_), fun a z => ?_⟩
        · by_cases z : h a = none
          · exact .inl z
          · obtain ⟨i, hi, z⟩ := dom a z
            exact .inr ((h2 i k fun e => nd.1 (by rw [← e]; exact hi)).out z)
        · rcases uni_ne.mp z with z | z
          · exact ⟨k, by simp, z⟩
          · obtain ⟨i, hi, z⟩ := dom a z
            exact ⟨i, by simp [hi], z⟩
theorem TRs.app {K : PySem.W.Frag} {vs ws : List V} {ts us : List T} {h k : Hp} (r : TRs K P H σ hs vs ts h) (q : TRs K P H σ hs ws us k) (d : Dj h k) : ∃ h2, TRs K P H σ hs (vs ++ ws) (ts ++ us) h2 ∧ ∀ a, h2 a ≠ none → h a ≠ none ∨ k a ≠ none := by
  induction r with
  | nil => exact ⟨k, q, fun a z => .inr z⟩
  | cons a b dj ih =>
    rename_i v t h vs ts k2
    have d1 : Dj h k := d.mono fun a z => uni_ne.mpr (.inl z)
    have d2 : Dj k2 k := d.mono fun a z => uni_ne.mpr (.inr z)
    obtain ⟨h3, r3, dom⟩ := ih d2
    refine ⟨uni h h3, .cons a r3 (Dj.symm fun a => ?_), fun a z => ?_⟩
    · by_cases z : h3 a = none
      · exact .inl z
      · rcases dom a z with z | z
        · exact .inr (dj.symm.out z)
        · exact .inr (d1.symm.out z)
    · rcases uni_ne.mp z with z | z
      · exact .inl (uni_ne.mpr (.inl z))
      · exact (dom a z).imp (fun z => uni_ne.mpr (.inr z)) id
theorem TRs.later {K : PySem.W.Frag} {P' H' : Hp} {hs' : Nat → Hp} {hd' : Hp} {vs : List V} {ts : List T} {h : Hp} (r : TRs K P H σ hs vs ts h) (n : Nx P H hs P' H' hs' hd') (q : ts.any isQ = false) : TRs K P' H' σ hs' vs ts h ∧ Dj h hd' := by
  induction r with
  | nil => exact ⟨.nil, Dj.emp' _⟩
  | cons a b d ih =>
    rw [List.any_cons, Bool.or_eq_false_iff] at q
    obtain ⟨r1, d1⟩ := ih q.2
    obtain ⟨t1, d2⟩ := a.later n fun z => by rw [q.1] at z; cases z
    exact ⟨.cons t1 r1 d, uni_dj d2 d1⟩
def gVk (np : Nat) (ks : List Nat) {α : Type} (vs zs : List α) : List α := if vs.length + ks.length = np ∧ zs.length = ks.length then vs ++ (prm ks zs).getD [] else []
theorem prm_len {α : Type} : ∀ {ks : List Nat} {xs ys : List α}, prm ks xs = some ys → ys.length = ks.length
  | [], _, _, e => by cases e; rfl
  | k :: ks, xs, ys, e => by
    rw [prm] at e
    cases q1 : xs[k]? with
    | none => simp [q1] at e
    | some t =>
      cases q2 : prm ks xs with
      | none => simp [q1, q2] at e
      | some r =>
        simp only [q1, q2, Option.some.injEq] at e
        subst e
        simp [prm_len q2]
theorem callk_post {f np : Nat} {ks : List Nat} (hks : ks.Nodup) {ta tk : TA} (ha : ∀ σ H Q, rd C (quiets Es) (RTs C.K) (evl F Es) σ H Q → ta σ H Q) (hw : ∀ σ H Q, rd C (quiets Ws) (RTs C.K) (evl F Ws) σ H Q → tk σ H Q) (hl : Es.length + ks.length = np) (hw2 : Ws.length = ks.length) :
    ∀ σ H Q, rd C false (RT C.K) (ev F (.callk f Es ks Ws)) σ H Q → tCallKG C.W (SpD C.K C.exr np (F f)) (gVk np ks) ta tk σ H Q := by
  rintro σ H Q ⟨P, hs, ρ, st, p⟩
  rw [ev] at p
  refine ha _ _ _ ⟨P, hs, ρ, st, (p.go (R1 := RTs C.K σ) (s1 := quiets Es) Nx.refl).imp fun vs H1 => ?_⟩
  rintro ⟨P1, hs1, ρ1, ts, hd1, st1, r1, n1, s1, e1, p1⟩
  by_cases qt : ts.any isQ = true
  · rw [if_pos qt] at p1; exact p1.elim
  · rw [if_neg qt] at p1
    refine hw _ _ _ ⟨P1, hs1, ρ1, st1, (p1.go (R1 := RTs C.K σ) (s1 := quiets Ws) n1).imp fun zs H2 => ?_⟩
    rintro ⟨P2, hs2, ρ2, us, hd2, st2, r2, n2, s2, e2, p2⟩
    obtain ⟨rl, dl⟩ := r1.later n2 (by simpa using qt)
    cases q : prm ks us with
    | none => rw [q] at p2; exact p2.elim
    | some us' =>
      rw [q] at p2
      obtain ⟨hf, f1, f2, f3⟩ := r2.by
      obtain ⟨ws, hw2, e3, r3, dom⟩ := prm_rel f1 f2 hks q
      have dj : Dj hd1 hw2 := Dj.symm fun a => by
        by_cases z : hw2 a = none
        · exact .inl z
        · obtain ⟨i, _, z⟩ := dom a z
          exact .inr (dl.symm.out (f3 i a z))
      obtain ⟨h3, r4, dom4⟩ := rl.app r3 dj
      have n3 : Nx P H hs P2 H2 hs2 h3 := by
        have y := n1.transU n2
        refine ⟨y.up, y.frame, fun a z => y.fresh a (z.imp id fun z => z.imp (fun z => ?_) id)⟩
        rcases dom4 a z with z | z
        · exact uni_ne.mpr (.inl z)
        · obtain ⟨i, _, z⟩ := dom a z
          exact uni_ne.mpr (.inr (f3 i a z))
      have a1 := TRs.len r1
      have a2 := evl_len e1
      have a3 := prm_len e3
      have a4 := TRs.len r2
      have a5 := evl_len e2
      show SpD C.K C.exr np (F f) (if vs.length + ks.length = np ∧ zs.length = ks.length then vs ++ (prm ks zs).getD [] else []) H2 Q _
      rw [if_pos ⟨by omega, by omega⟩, e3]
      exact kCall_post st2 r4 n3 (by
        show (vs ++ ws).length = np
        rw [List.length_append]; omega) p2
theorem ev_callk {CX : CXT} {k f np : Nat} {adr : Addr} {fd : FuncData} {ps kn : List Str} {kws : List Keyword} {ks : List Nat} (Fn : FnG X.prog X.w X.K X.mg X.base CX k adr fd ps (SpD C.K C.exr np (F f))) (hr : Room k X.A) (hgu : X.A.guards = some []) (hg : Gl X x) (hm : X.mg x = some (.ref adr)) (hk : PySem.W.keepIn X.K (.ref adr) = true)
    (hb : KBinds X.K fd ps kn (gVk np ks) (gVk np ks)) (hx : PassesW CX X C.W) (ha : EL C X (a :: es) F Es) (hw : EK C X kws F Ws) (hks : kws.map (·.1) = kn.map some) (nd : ks.Nodup) (hdb : (x == ("__debug__" : Str)) = false) (ns : (a :: es).any starred = false) (hl : Es.length + ks.length = np) (hw2 : Ws.length = ks.length) :
    EV C X false (.Call (.Name x px) (a :: es) kws pos) (ev F (.callk f Es ks Ws)) := PE.imp (pe_callKG Fn hr hgu hg hm hk hb hx ha hw hks hdb ns) (callk_post nd (fun _ _ _ z => z) (fun _ _ _ z => z) hl hw2)
theorem ev_callk0 {CX : CXT} {k f np : Nat} {adr : Addr} {fd : FuncData} {ps kn : List Str} {kws : List Keyword} {ks : List Nat} (Fn : FnG X.prog X.w X.K X.mg X.base CX k adr fd ps (SpD C.K C.exr np (F f))) (hr : Room k X.A) (hgu : X.A.guards = some []) (hg : Gl X x) (hm : X.mg x = some (.ref adr)) (hk : PySem.W.keepIn X.K (.ref adr) = true)
    (hb : KBinds X.K fd ps kn (gVk np ks) (gVk np ks)) (hx : PassesW CX X C.W) (hw : EK C X kws F Ws) (hks : kws.map (·.1) = kn.map some) (hne : kws ≠ []) (nd : ks.Nodup) (hdb : (x == ("__debug__" : Str)) = false) (hl : ks.length = np) (hw2 : Ws.length = ks.length) :
    EV C X false (.Call (.Name x px) [] kws pos) (ev F (.callk f [] ks Ws)) := by
  refine PE.imp (pe_callKG0 Fn hr hgu hg hm hk hb hx hw hks hne hdb) (callk_post (Es := []) (ta := tNil) nd (fun σ H Q ⟨P, hs, ρ, st, p⟩ => ?_) (fun _ _ _ z => z) (by simpa using hl) hw2)
  rw [evl] at p
  exact p.now st TRs.nil
end
end L3

namespace L3
open PySem PySem.Spec PyProof.Rows L2
/-! ### a def by its tree -/
section
variable {K : PySem.W.Frag} {P H : Hp} {σ : L2.St} {ρ : Env} {hs : Nat → Hp}
theorem slot_app {k i : Nat} : slot (ρ ++ List.replicate k none) i = slot ρ i := by
  unfold slot
  by_cases h : i < ρ.length
  · rw [List.getElem?_append_left h]
  · rw [List.getElem?_append_right (Nat.le_of_not_lt h), List.getElem?_eq_none (Nat.le_of_not_lt h), List.getElem?_replicate]
    split <;> rfl
theorem Sta.wide (st : Sta K P H σ ρ hs) (k : Nat) : Sta K P H (σ ++ List.replicate k none) (ρ ++ List.replicate k none) hs :=
  ⟨st.sub, st.own, st.dj, st.djP, by simp [st.len], fun i e => st.emp i (by rw [← slot_app (k := k)]; exact e), fun i d e => by
    rw [slot_app] at e
    obtain ⟨v, hv, o⟩ := st.at_ i d e
    exact ⟨v, by rw [List.getElem?_append_left (lt_of_getElem? hv)]; exact hv, o⟩⟩
theorem slot_outs {n i : Nat} {io : List Nat} {d : D} (e : slot (outs ρ n io) i = some d) : i < n ∧ i ∈ io ∧ slot ρ i = some d := by
  unfold slot outs at e
  rw [List.getElem?_map] at e
  by_cases h : i < n
  · rw [List.getElem?_range h] at e
    simp only [Option.map_some, Option.join_some] at e
    by_cases q : i ∈ io
    · rw [if_pos q] at e
      exact ⟨h, q, e⟩
    · rw [if_neg q] at e; cases e
  · rw [List.getElem?_eq_none (by simpa using h)] at e; cases e
theorem Sta.outs_ {τ : L2.St} {io : List Nat} (st : Sta K P H σ ρ hs) (k : ∀ i ∈ io, i < τ.length → σ[i]? = τ[i]?) :
    ∃ hsO, Sta K P H τ (outs ρ τ.length io) hsO ∧ ∀ i a, hsO i a ≠ none → hs i a ≠ none := by
  refine ⟨fun i => if (slot (outs ρ τ.length io) i).isSome then hs i else L3.emp, ⟨st.sub, fun i => ?_, fun i j e => ?_, fun i => ?_, by simp [outs], fun i e => ?_, fun i d e => ?_⟩, fun i a z => ?_⟩
  · show Sub (if _ then _ else _) _
    split
    · exact st.own i
    · exact Sub.emp _
  · show Dj (if _ then _ else _) (if _ then _ else _)
    split
    · split
      · exact st.dj i j e
      · exact Dj.emp _
    · exact Dj.emp' _
  · show Dj P (if _ then _ else _)
    split
    · exact st.djP i
    · exact Dj.emp _
  · show (if _ then _ else _) = _
    rw [e]; rfl
  · obtain ⟨h1, h2, h3⟩ := slot_outs e
    obtain ⟨v, hv, o⟩ := st.at_ i d h3
    refine ⟨v, by rw [← k i h2 h1]; exact hv, ?_⟩
    show Own K P v d (if _ then _ else _)
    rw [e]; exact o
  · by_cases q : (slot (outs ρ τ.length io) i).isSome = true
    · simpa only [q, if_true] using z
    · simp only [q] at z
      exact absurd rfl z
end
/-- what a def's body is to keep: what may be changed for the caller stays bound -/
def kpIo (io : List Nat) (τ : L2.St) : L2.St → Prop := fun σ => ∀ i ∈ io, σ[i]? = τ[i]?
theorem fn_sound {CX : CXT} {P : Program} {w : World} {K : PySem.W.Frag} {exr : Ex → Value → Option Addr → Hp → Prop} {mg : Str → Option Value} {base : Heap} {k : Nat} {f : Addr} {name qual : Str} {params : Arguments} {body : List Stmt} {scope : Scope} {dV kV doc pm cdv ct oc : Value} {an od : Option Addr}
    {osl : Array (Option Value)} {N ps : List Str} {T : List Def} {n fi : Nat} {d : Def} (lk : K.lookup f = some ⟨oc, od, .func (PySem.W.fnOf name qual params body scope dV kV doc pm an cdv ct), osl⟩) (hcd : PySem.W.codeIn K cdv qual = true) (S : FnScope N ps scope)
    (hd : T[fi]? = some d) (hnp : d.np = ps.length) (hns : d.ns = N.length)
    (hbody : ∀ (A : Around) (outer : List PySem.Env) (s : Shared) (H : Hp) (E : XK) (τ : L2.St), Room k (A.deeper (envOfC qual scope s.heap.objs.size f cdv)) → (A.deeper (envOfC qual scope s.heap.objs.size f cdv)).guards = some [] →
      SVs ⟨K, exr, fun c e _ H' => E c e H'⟩ (cxOf CX P w K mg base N qual scope f cdv A outer s H E) (kpIo d.io τ) body (exb (callF T n) d.body)) :
    FnG P w K mg base CX (k + 1) f (PySem.W.fnOf name qual params body scope dV kV doc pm an cdv ct) ps (SpD K exr ps.length (callF T (n + 1) fi)) := by
  refine fnG_of lk hcd S (fun vs H Q E h => h.1) fun A outer s H vs Q E hr hg h => ?_
  obtain ⟨hl, Pp, ds, hs, st, p⟩ := h
  refine ⟨_, hbody A outer s H E (L2.start N vs) hr hg, fun i _ => rfl, Pp, hs, ds.map some ++ List.replicate (N.length - vs.length) none, st.wide _, ?_⟩
  have dl : ds.length = ps.length := by have := st.len; simp at this; omega
  rw [callF, hd] at p
  simp only at p
  rw [if_pos (by rw [hnp]; exact dl)] at p
  have e0 : ds.map some ++ List.replicate (d.ns - d.np) none = ds.map some ++ List.replicate (N.length - vs.length) none := by rw [hns, hnp, hl]
  rw [e0] at p
  have back : ∀ {σ' : L2.St} {P' H' : Hp} {ρ' : Env} {hs' : Nat → Hp}, kpIo d.io (L2.start N vs) σ' → Sta K P' H' σ' ρ' hs' → ∃ hsO, Sta K P' H' (vs.map some) (outs ρ' d.np d.io) hsO ∧ ∀ i a, hsO i a ≠ none → hs' i a ≠ none := fun {σ' P' H' ρ' hs'} kk st' => by
    have h := st'.outs_ (τ := vs.map some) (io := d.io) fun i hi hlt => by
      rw [kk i hi]
      unfold L2.start
      rw [List.getElem?_append_left hlt]
    rw [List.length_map, hl, ← hnp] at h
    exact h
  cases q : exb (callF T n) d.body (ds.map some ++ List.replicate (N.length - vs.length) none) with
  | st => rw [q] at p; exact p
  | bk ρ' => rw [q] at p; exact p.elim
  | ct ρ' => rw [q] at p; exact p.elim
  | nx ρ' =>
    rw [q] at p
    intro σ' P' H' hs' kk st' n'
    obtain ⟨hsO, so, l⟩ := back kk st'
    exact p .non P' H' hsO L3.emp so (.p .non) Tmp.emp (n'.less fun i a z => ⟨i, l i a z⟩)
  | rt v ρ' =>
    rw [q] at p
    intro σ' u P' H' hs' hd' kk st' o t n'
    obtain ⟨hsO, so, l⟩ := back kk st'
    exact p u P' H' hsO hd' so o ⟨t.1, fun i => ((t.2.1 i).symm.mono (l i)).symm, t.2.2⟩ (n'.less fun i a z => ⟨i, l i a z⟩)
  | ex x ρ' =>
    rw [q] at p
    intro σ' c e P' H' hs' kk st' ex n'
    obtain ⟨hsO, so, l⟩ := back kk st'
    exact p c e P' H' hsO so ex (n'.less fun i a z => ⟨i, l i a z⟩)
end L3

namespace L3
open PySem PySem.Spec PyProof.Rows L2
/-! ### the last rules -/
section
variable {C : Cz} {X : Cx} {kp : L2.St → Prop} {P H : Hp} {hs : Nat → Hp} {σ : L2.St} {ρ : Env} {F : FT} {a b c e t tg : Expr} {es : List Expr} {ea eb ec : E} {Es : List E} {pos p0 : Pos}
theorem chain_bool {o o' : COp} {t : T} {ρ' : Env} (h : ev F (.chain o o' ea eb ec) ρ = .ok t ρ') : ∃ k, t = .o (.p (.bool k)) := by
  rw [ev] at h
  obtain ⟨t1, ρ1, _, h⟩ := bind_ok h
  split at h
  · cases h
  obtain ⟨t2, ρ2, _, h⟩ := bind_ok h
  split at h
  · cases h
  split at h
  · split at h
    · obtain ⟨t3, ρ3, _, h⟩ := bind_ok h
      split at h
      · split at h
        · cases h; exact ⟨_, rfl⟩
        · cases h
      · cases h
    · cases h; exact ⟨_, rfl⟩
    · cases h
  · cases h
theorem tv_chain {o o' : COp} {op op' : CmpOp} (ho : OpR X (compareOp op) (rCmp X.K o)) (ho' : OpR X (compareOp op') (rCmp X.K o')) (hm : lastMarks [op, op'] [b, c] = false) (hK : X.K = C.K)
    (ha : EV C X ea.quiet a (ev F ea)) (hb : EV C X eb.quiet b (ev F eb)) (hc : EV C X ec.quiet c (ev F ec)) : TV C X (.Compare a [op, op'] [b, c] pos) (tst F (.chain o o' ea eb ec)) := by
  refine PT.imp (pt_chain ho ho' ha hb hc hm) fun σ H Q => ?_
  rintro ⟨P, hs, ρ, st, p⟩
  have cr : ∀ σ H Q, rd C false (RT C.K) (ev F (.chain o o' ea eb ec)) σ H Q → tChain (rCmp X.K o) (rCmp X.K o') (rd C ea.quiet (RT C.K) (ev F ea)) (rd C eb.quiet (RT C.K) (ev F eb)) (rd C ec.quiet (RT C.K) (ev F ec)) σ H Q := fun σ H Q h => chain_reads hK h
  refine cr _ _ _ ⟨P, hs, ρ, st, ?_⟩
  replace p : Post C false (RB σ) P H hs σ ((ev F (.chain o o' ea eb ec) ρ).bind kT) Q := by rw [tst_eq rfl] at p; exact p
  cases q : ev F (.chain o o' ea eb ec) ρ with
  | st => rw [q] at p; exact p
  | ex x ρ' => rw [q] at p; exact p
  | ok t ρ' =>
    rw [q] at p
    intro v P' H' hs' hd st' r' n' s'
    obtain ⟨k, rfl⟩ := chain_bool q
    obtain ⟨dk, _⟩ := r'.pl rfl
    cases dk
    exact ⟨k, rfl, p k P' H' hs' L3.emp st' ⟨rfl, rfl⟩ n'.drop s'⟩
theorem iv_rng3 {b c : Expr} (hg : Gl X "range") (hm : X.mg "range" = none) (ns : starred a = false) (ns2 : starred b = false) (ns3 : starred c = false) (ha : EL C X [a, b, c] F Es) : IV C X tg (.Call (.Name "range" p0) [a, b, c] [] pos) F none .rng3 Es := by
  refine PI.imp (pi_range3 hg hm ha (star_cons ns) (star_none (by simp [ns2, ns3]))) fun σ H R h => iv_of (w := fun vs H1 R => ∃ (i j c : Int) (n : Nat), vs = [.int i, .int j, .int c] ∧ RgC i j c n ∧ R (Itc i c n) H1) (fun _ _ _ z => z) (fun P H hs ρ vs ts hd ws xs R st r e1 e2 q => ?_) h
  match ws, e2 with
  | [.int i, .int j, .int c], e2 =>
    simp only [walk, Option.ite_none_right_eq_some, Option.some.injEq, Bool.and_eq_true, decide_eq_true_eq] at e2
    obtain ⟨⟨⟨sm, sm2⟩, rfl⟩, rfl⟩ := e2
    have dd := pures_dp (C := C) r e1
    cases dd with
    | cons d1 d2 =>
      obtain ⟨v, w, rfl, dv, dw⟩ := dp2 d2
      cases d1; cases dv; cases dw
      have sm := small_ok sm
      have sm2 := small_ok sm2
      exact ⟨i, j, -1, (i - j).toNat, rfl, RgC.neg sm.1 sm.2 sm2.1 sm2.2, q _ _ go_rangeC gok_true⟩
theorem sv_retN : SV C X kp (.Return none pos) (exs F (.ret (.c .none))) := by
  refine PS.imp ps_retN fun D σ H => ?_
  rintro ⟨k, P, hs, ρ, st, p⟩
  rw [exs, ev] at p
  exact p σ .non P H hs L3.emp k st (.p .non) Tmp.emp .refl
end
/-! ### what is known of the text's names -/
structure FnE where
  nm : Str
  ix : Nat
  np : Nat
  kw : List (List Str × List Nat)
structure Cfg where
  N : List Str
  sc : Scope
  fn : Str → Bool
  fns : List FnE
  blts : List Str
  gcs : List (Str × Int) := []
def kindB (g : Cfg) (x : Str) : Option NameKind := g.sc.names.lookup x
def visB (g : Cfg) (x : Str) : Bool := match kindB g x with
  | some .local => true | some .cell => true | some .free => true | _ => false
def locB (g : Cfg) (x : Str) : Bool := match kindB g x with
  | some .local => true | some .cell => true | _ => false
def glB (g : Cfg) (x : Str) : Bool := match kindB g x with
  | some .globalImplicit => true | _ => false
def lclB (g : Cfg) (x : Str) : Bool := match kindB g x with
  | some .local => true | _ => false
def okName (x : Str) : Bool := !(x == ("__debug__" : Str)) && !(x == ("__classdict__" : Str))
def isName (g : Cfg) (i : Nat) (x : Str) : Bool := decide (g.N[i]? = some x) && visB g x && okName x
def isBlt (g : Cfg) (x : Str) : Bool := glB g x && decide (x ∈ g.blts)
/-- a module's own number -/
def gcB (g : Cfg) (x : Str) : PyData → Bool
  | .int v => glB g x && okName x && decide ((x, v) ∈ g.gcs)
  | _ => false
def notSl : Expr → Bool
  | .Slice .. => false
  | _ => true
def notComp : Expr → Bool
  | .ListComp .. => false | .SetComp .. => false | .DictComp .. => false
  | _ => true
def truthB : Expr → Bool
  | .Name .. => true | .Call .. => true | .Subscript .. => true
  | _ => false
theorem notSl_ix {i : Expr} (h : notSl i = true) : L2.PlainIx i := by
  intro o v
  cases i <;> first | rfl | cases h
theorem notSl_as {o i : Expr} {pos : Pos} {env : PySem.Env} (h : notSl i = true) : ∀ v, assign (.Subscript o i pos) env v = (do
      let ov ← holding [v] (eval o env)
      let iv ← holding [v, ov] (eval i env)
      standAt pos
      holding [v, ov, iv] (setItem ov iv v)
      release [v, ov, iv] []) := by
  intro v
  cases i <;> first | rfl | cases h
theorem swaps_no {e : Expr} {t : Option Expr} {l : Nat} {env : PySem.Env} (h : notComp e = true) : swapsWith e t l env = pure false := by
  cases e <;> first | rfl | cases h
theorem truthB_ok {e : Expr} {env : PySem.Env} (h : truthB e = true) : ∀ whole, isTrue e env whole = (do let v ← whole; standAt e.pos; holding [v] (truthy v)) := by
  intro w
  cases e <;> first | rfl | cases h
/-- what stands ready for a text's tree -/
structure Fits (CX : CXT) (X : Cx) (C : Cz) (g : Cfg) (F : FT) : Prop where
  K : X.K = C.K
  calm : X.calm = true
  guards : X.A.guards = some []
  units : X.A.units + 100 < cLine
  N : X.N = g.N
  nd : X.N.Nodup
  sc : X.env.scope = g.sc
  fn : X.fn = g.fn
  own : PassesOwn (model X.prog X.w) X.A X.env X.xe
  px : PassesW CX X C.W
  cx : ∀ l H s e s', CX l H s (fun _ _ _ => False) e s' → False
  blts : ∀ x ∈ g.blts, X.mg x = none
  gcs : ∀ p ∈ g.gcs, ∃ t, X.mg p.1 = some (.int p.2 t)
  fns : ∀ f ∈ g.fns, ∃ k adr fd ps, Room k X.A ∧ X.mg f.nm = some (.ref adr) ∧ PySem.W.keepIn X.K (.ref adr) = true ∧ Binds X.K fd ps [] ∧ ps.length = f.np ∧ FnG X.prog X.w X.K X.mg X.base CX k adr fd ps (SpD C.K C.exr f.np (F f.ix)) ∧
    ∀ p ∈ f.kw, KBinds X.K fd ps p.1 (gVk f.np p.2) (gVk f.np p.2)
section
variable {CX : CXT} {X : Cx} {C : Cz} {g : Cfg} {F : FT} {x : Str} {i : Nat}
theorem Fits.vis (f : Fits CX X C g F) (h : visB g x = true) : Vis X.env.scope x := by
  unfold visB kindB at h
  rw [← f.sc] at h
  split at h <;> first | (cases h; done) | skip
  · rename_i e; exact .inl e
  · rename_i e; exact .inr (.inl e)
  · rename_i e; exact .inr (.inr e)
theorem Fits.loc (f : Fits CX X C g F) (h : locB g x = true) : Loc X.env.scope x := by
  unfold locB kindB at h
  rw [← f.sc] at h
  split at h <;> first | (cases h; done) | skip
  · rename_i e; exact .inl e
  · rename_i e; exact .inr e
theorem Fits.lcl (f : Fits CX X C g F) (h : lclB g x = true) : X.env.scope.names.lookup x = some .local := by
  unfold lclB kindB at h
  rw [← f.sc] at h
  split at h <;> first | (cases h; done) | assumption
theorem Fits.gl (f : Fits CX X C g F) (h : glB g x = true) : Gl X x := by
  unfold glB kindB at h
  rw [← f.sc] at h
  split at h <;> first | (cases h; done) | assumption
theorem Fits.name (f : Fits CX X C g F) (h : isName g i x = true) : X.N[i]? = some x ∧ Vis X.env.scope x ∧ (x == ("__debug__" : Str)) = false ∧ (x == ("__classdict__" : Str)) = false := by
  unfold isName okName at h
  simp only [Bool.and_eq_true, decide_eq_true_eq, Bool.not_eq_true'] at h
  exact ⟨by rw [f.N]; exact h.1.1, f.vis h.1.2, h.2.1, h.2.2⟩
theorem Fits.blt (f : Fits CX X C g F) (h : isBlt g x = true) : Gl X x ∧ X.mg x = none := by
  unfold isBlt at h
  simp only [Bool.and_eq_true, decide_eq_true_eq] at h
  exact ⟨f.gl h.1, f.blts x h.2⟩
/-- the same within a comprehension -/
theorem Fits.blk (f : Fits CX X C g F) (s : Shared) (H : Hp) (scope : Scope) (A : Addr) (cl : List (Str × Addr)) (fp : List Addr) :
    Fits CX (X.blk s H scope (compEnvC scope cl A X.env) fp) C.calm { g with sc := relS scope g.sc, fn := fun x => scope.names.lookup x == some .cell } F :=
  ⟨f.K, f.calm, f.guards, f.units, f.N, f.nd, by rw [← f.sc]; rfl, rfl, .never, fun pins σ H s e s' _ h => f.cx _ _ _ _ _ h, f.cx, f.blts, f.gcs, f.fns⟩
end
end L3

namespace L3
open PySem PySem.Spec PyProof.Rows L2
/-! ### does the tree fit the text -/
def opB : BOp → Operator → Bool
  | .add, .Add => true | .sub, .Sub => true | .mul, .Mult => true | .fdiv, .FloorDiv => true | .mod, .Mod => true | .pow, .Pow => true | .band, .BitAnd => true | .shl, .LShift => true
  | _, _ => false
def copB : COp → CmpOp → Bool
  | .eq, .Eq => true | .ne, .NotEq => true | .lt, .Lt => true | .le, .LtE => true | .gt, .Gt => true | .ge, .GtE => true | .isin, .In => true | .notin, .NotIn => true | .is, .Is => true | .isnot, .IsNot => true
  | _, _ => false
def conB : PyData → Const → Bool
  | .none, .none => true
  | .bool b, .bool c => b == c
  | .int i, .int j => decide (i = j)
  | .str x, .str y => decide (x = y)
  | _, _ => false
/-- built-in functions -/
def biF : Bi → Option String
  | .len => some "len" | .abs => some "abs" | .min2 => some "min" | .max2 => some "max" | .sum => some "sum" | .all => some "all" | .any => some "any" | .max1 => some "max" | .repr => some "repr" | .sorted => some "sorted"
  | _ => none
/-- built-in types -/
def biT : Bi → Option String
  | .tuple => some "tuple" | .list => some "list" | .int => some "int" | .tdict => some "dict"
  | _ => none
def isaT : Bi → Option Ty
  | .isa t => some t
  | _ => none
def mtName : Mt → Option String
  | .append => some "append" | .pop => some "pop" | .extend => some "extend" | .insert => some "insert"
  | .remove => some "remove"
def noStars (xs : List Expr) : Bool := !(xs.any starred)
def callB (g : Cfg) (f : Nat) (np : Nat) (x : Str) : Bool := glB g x && okName x && g.fns.any fun e => decide (e.nm = x) && decide (e.ix = f) && decide (e.np = np)
def callkB (g : Cfg) (f : Nat) (np : Nat) (x : Str) (kn : List (Option Str)) (ks : List Nat) : Bool := glB g x && okName x && decide ks.Nodup && decide (ks.length = kn.length) && g.fns.any fun e => decide (e.nm = x) && decide (e.ix = f) && decide (e.np = np) && e.kw.any fun p => decide (kn = p.1.map some) && decide (p.2 = ks)
/-- the expressions that a loop's header walks -/
def itArgs (g : Cfg) (k : It) (lk : Option Nat) (tg : Expr) (x : Expr) : Option (List Expr) := match k, x with
  | .seq, x => some [x]
  | .rng1, .Call (.Name f _) [a] [] _ => if lk.isNone && decide (f = ("range" : Str)) && isBlt g "range" then some [a] else none
  | .rng2, .Call (.Name f _) [a, b] [] _ => if lk.isNone && decide (f = ("range" : Str)) && isBlt g "range" then some [a, b] else none
  | .rng3, .Call (.Name f _) [a, b, c] [] _ => if lk.isNone && decide (f = ("range" : Str)) && isBlt g "range" then some [a, b, c] else none
  | .enum, .Call (.Name f _) [a] [] _ => (match tg with | .Tuple .. => if decide (f = ("enumerate" : Str)) && isBlt g "enumerate" then some [a] else none | _ => none)
  | .zip, .Call (.Name f _) [a, b] [] _ => (match tg with | .Tuple .. => if lk.isNone && decide (f = ("zip" : Str)) && isBlt g "zip" then some [a, b] else none | _ => none)
  | _, _ => none
def notSet : Expr → Bool
  | .Set .. => false
  | _ => true
mutual
/-- a loop's target; own: the slots that it may fill -/
def chkTg (g : Cfg) (ok : Nat → Bool) : Tg → Expr → Bool
  | .n i, .Name x _ => decide (g.N[i]? = some x) && locB g x && (g.fn x || lclB g x) && ok i
  | .t ts, .Tuple xs _ _ => chkTgs g ok ts xs
  | _, _ => false
def chkTgs (g : Cfg) (ok : Nat → Bool) : List Tg → List Expr → Bool
  | [], [] => true
  | t :: ts, x :: xs => !starred x && chkTg g ok t x && chkTgs g ok ts xs
  | _, _ => false
end
def blkG (g : Cfg) (scope : Scope) : Cfg := { g with sc := relS scope g.sc, fn := fun x => scope.names.lookup x == some .cell }
def keyE (k : Key) : Expr → Bool
  | .Constant (.int i) _ _ => decide (k = .inl i)
  | .Constant (.str x) _ _ => decide (k = .inr x)
  | _ => false
def keysB : List Key → List (Option Expr) → Bool
  | [], [] => true
  | k :: ks, some x :: xs => keyE k x && keysB ks xs
  | _, _ => false
/-- one built-in's call of what another one's call gives: the inner one's arguments -/
def nest (g : Cfg) : Bi → Str → List Expr → Option (List Expr)
  | .lrange, f, [.Call (.Name f2 _) ys [] _] => if decide (f = ("list" : Str)) && isBlt g "list" && decide (f2 = ("range" : Str)) && isBlt g "range" then some ys else none
  | .lzip, f, [.Call (.Name f2 _) [x, y] [] _] => if decide (f = ("list" : Str)) && isBlt g "list" && decide (f2 = ("zip" : Str)) && isBlt g "zip" then some [x, y] else none
  | .sortedset, f, [.Call (.Name f2 _) ys [] _] => if decide (f = ("sorted" : Str)) && isBlt g "sorted" && decide (f2 = ("set" : Str)) && isBlt g "set" then some ys else none
  | _, _, _ => none
theorem nest_ok {g : Cfg} {b : Bi} {f : Str} {as ys : List Expr} (h : nest g b f as = some ys) :
    (b = .lrange ∧ f = ("list" : Str) ∧ isBlt g "list" = true ∧ isBlt g "range" = true ∧ ∃ p q, as = [.Call (.Name ("range" : Str) p) ys [] q]) ∨
    (b = .lzip ∧ f = ("list" : Str) ∧ isBlt g "list" = true ∧ isBlt g "zip" = true ∧ ∃ p q x y, ys = [x, y] ∧ as = [.Call (.Name ("zip" : Str) p) ys [] q]) ∨
    (b = .sortedset ∧ f = ("sorted" : Str) ∧ isBlt g "sorted" = true ∧ isBlt g "set" = true ∧ ∃ p q, as = [.Call (.Name ("set" : Str) p) ys [] q]) := by
  unfold nest at h
  split at h
  · simp only [Option.ite_none_right_eq_some, Bool.and_eq_true, decide_eq_true_eq, Option.some.injEq] at h
    obtain ⟨⟨⟨⟨rfl, h1⟩, rfl⟩, h2⟩, rfl⟩ := h
    exact .inl ⟨rfl, rfl, h1, h2, _, _, rfl⟩
  · simp only [Option.ite_none_right_eq_some, Bool.and_eq_true, decide_eq_true_eq, Option.some.injEq] at h
    obtain ⟨⟨⟨⟨rfl, h1⟩, rfl⟩, h2⟩, rfl⟩ := h
    exact .inr (.inl ⟨rfl, rfl, h1, h2, _, _, _, _, rfl, rfl⟩)
  · simp only [Option.ite_none_right_eq_some, Bool.and_eq_true, decide_eq_true_eq, Option.some.injEq] at h
    obtain ⟨⟨⟨⟨rfl, h1⟩, rfl⟩, h2⟩, rfl⟩ := h
    exact .inr (.inr ⟨rfl, rfl, h1, h2, _, _, rfl⟩)
  · cases h
def tinB : Bool → CmpOp → Bool
  | true, .In => true
  | false, .NotIn => true
  | _, _ => false
mutual
/-- t: asked as a test -/
def chk (t : Bool) (g : Cfg) : E → Expr → Bool
  | .c d, .Constant c _ _ => !t && conB d c
  | .c d, .Name x _ => !t && gcB g x d
  | .v i, .Name x _ => isName g i x
  | .mv i, .Name x _ => isName g i x
  | .pk i, .Name x _ => isName g i x
  | .io i, .Name x _ => isName g i x
  | .path i k, .Subscript (.Name x _) s _ => isName g i x && notSl s && chk false g k s
  | .tup es, .Tuple xs _ _ => !t && chkD g es xs
  | .lst es, .List xs _ => !t && chkD g es xs
  | .lsg es, .List xs _ => !t && noStars xs && chkL g es xs
  | .dct ks es, .Dict keys xs _ => !t && keysB ks keys && decide (ks.length = xs.length) && decide (keys.length ≤ 15) && chkL g es xs
  | .fz e, x => !t && chk false g e x
  | .bin o a b, .BinOp xa op xb _ => !t && opB o op && chk false g a xa && chk false g b xb
  | .cmp o a b, .Compare xa [op] [xb] _ => copB o op && !behindInMarks op xb && chk false g a xa && chk false g b xb
  | .chain o o' a b c, .Compare xa [op, op'] [xb, xc] _ => copB o op && copB o' op' && !lastMarks [op, op'] [xb, xc] && chk false g a xa && chk false g b xb && chk false g c xc
  | .neg a, .UnaryOp .USub xa _ => !t && chk false g a xa
  | .not a, .UnaryOp .Not xa _ => chk t g a xa
  | .and a b, .BoolOp .And [xa, xb] _ => chk t g a xa && chk t g b xb
  | .and a b, .BoolOp .And (xa :: xb :: xc :: r) p => chk t g a xa && chk t g b (.BoolOp .And (xb :: xc :: r) p)
  | .or a b, .BoolOp .Or [xa, xb] _ => chk t g a xa && chk t g b xb
  | .or a b, .BoolOp .Or (xa :: xb :: xc :: r) p => chk t g a xa && chk t g b (.BoolOp .Or (xb :: xc :: r) p)
  | .ife c a b, .IfExp xc xa xb _ => !t && chk true g c xc && chk false g a xa && chk false g b xb
  | .at a i, .Subscript xa xi _ => notSl xi && chk false g a xa && chk false g i xi
  | .sl a lo hi, .Subscript xa (.Slice xl xh none _) _ => chk false g a xa && chkI g lo xl && chkI g hi xh
  | .rev a, .Subscript xa (.Slice none none (some (.UnaryOp .USub (.Constant (.int 1) _ _) _)) _) _ => chk false g a xa
  | .bi b [e], .Call (.Name f _) [xa, .Name ty _] [] _ => (match isaT b with
      | some tt => decide (f = ("isinstance" : Str)) && isBlt g "isinstance" && decide (ty = (tyName tt : Str)) && isBlt g ty && !starred xa && chk false g e xa
      | none => (match biF b with | some n => decide (f = (n : Str)) && isBlt g n | none => false) && false)
  | .bi b es, .Call (.Name f _) (x :: xs) [] _ => (match nest g b f (x :: xs) with
      | some ys => noStars ys && !ys.isEmpty && chkL g es ys
      | none => ((match biF b with | some n => decide (f = (n : Str)) && isBlt g n | none => false) || (match biT b with | some n => decide (f = (n : Str)) && isBlt g n | none => false)) && noStars (x :: xs) && chkL g es (x :: xs))
  | .lc own tg k lk its cond elt, .ListComp xe [⟨xt, xi, ifs, 0⟩] scope _ =>
    !t && notSet xi && (match itArgs g k lk xt xi with | some xs => noStars xs && chkL g its xs | none => false) && L2.blkC g.N g.sc scope (own.map fun i => ((g.N[i]?).getD "", i)) && chkTg (blkG g scope) (fun i => decide (i ∈ own)) tg xt && chkC (blkG g scope) cond ifs && chk false (blkG g scope) elt xe
  | .call f es, .Call (.Name x _) xs [] _ => callB g f es.length x && noStars xs && chkL g es xs
  | .callk f es ks ws, .Call (.Name x _) xs (k :: kws) _ => callkB g f (es.length + ks.length) x ((k :: kws).map (·.1)) ks && noStars xs && chkL g es xs && chkK g ws (k :: kws)
  | .mut m i [] es, .Call (.Attribute (.Name x _) nm ap) xs [] cp => isName g i x && (match mtName m with | some n => decide (nm = (n : Str)) | none => false) && decide (xs.length < 30) && (ap.endLine == cp.line) && noStars xs && chkL g es xs
  | .mut m i [k] es, .Call (.Attribute (.Subscript (.Name x _) xk _) nm ap) xs [] cp => isName g i x && notSl xk && chk false g k xk && (match mtName m with | some n => decide (nm = (n : Str)) | none => false) && decide (xs.length < 30) && (ap.endLine == cp.line) && noStars xs && chkL g es xs
  | .kat i k, .Subscript (.Name x _) s _ => isName g i x && notSl s && chk false g k s
  | .kin z i e, .Compare xa [op] [.Name x p] _ => tinB z op && !behindInMarks op (.Name x p) && isName g i x && chk false g e xa
  | .kds [], .Dict [] [] _ => !t
  | .kds [a, b], .Dict [some xa] [xb] _ => !t && chk false g a xa && chk false g b xb
  | .kln i, .Call (.Name f _) [.Name x _] [] _ => !t && decide (f = ("len" : Str)) && isBlt g "len" && isName g i x
  | .kso e, .Call (.Name f _) [x] [] _ => !t && decide (f = ("sorted" : Str)) && isBlt g "sorted" && !starred x && chk false g e x
  | .kls e, .Call (.Name f _) [x] [] _ => !t && decide (f = ("list" : Str)) && isBlt g "list" && !starred x && chk false g e x
  | _, _ => false
def chkL (g : Cfg) : List E → List Expr → Bool
  | [], [] => true
  | e :: es, x :: xs => chk false g e x && chkL g es xs
  | _, _ => false
def chkK (g : Cfg) : List E → List Keyword → Bool
  | [], [] => true
  | e :: es, ⟨_, x, _⟩ :: xs => chk false g e x && chkK g es xs
  | _, _ => false
def chkD (g : Cfg) : List E → List Expr → Bool
  | [], [] => true
  | .star e :: es, .Starred x _ :: xs => chk false g e x && chkD g es xs
  | e :: es, x :: xs => nostar e && !starred x && chk false g e x && chkD g es xs
  | _, _ => false
def chkI (g : Cfg) : List E → Option Expr → Bool
  | [], none => true
  | [e], some x => chk false g e x
  | _, _ => false
def chkC (g : Cfg) : List E → List Expr → Bool
  | [], [] => true
  | [e], [x] => chk true g e x
  | _, _ => false
end
end L3

namespace L3
open PySem PySem.Spec PyProof.Rows L2
/-! ### dicts with tuples for keys -/
section
variable {C : Cz} {X : Cx} {sm : Bool} {e a b k v : Expr} {P H : Hp} {hs : Nat → Hp} {σ : L2.St} {ρ : Env} {Q : V → Hp → Prop} {F : FT} {ea eb ek : E} {pos px : Pos} {i : Nat} {x : Str}
/-- plain data as a key, in the heap -/
theorem key_d {y : V} {kv : PyData} {kk : NestedKey} (d : Dp C.K P y kv) (e : tkOf kv = some kk) : ∃ b, y = .ref b ∧ ∀ w, KeyD C.K P (kk, b, w) := by
  cases kv <;> simp only [tkOf, reduceCtorEq] at e
  rename_i ys
  have e : tkOf (.tuple ys) = some kk := e
  cases d with
  | tup h1 h2 => exact ⟨_, rfl, fun w => ⟨.tuple ys, .tup h1 h2, e⟩⟩
theorem ev_kat (hu : X.A.units + 20 < cLine) (hK : X.K = C.K) (hN : X.N[i]? = some x) (hv : Vis X.env.scope x) (hd : (x == ("__debug__" : Str)) = false) (hcd : (x == ("__classdict__" : Str)) = false) (hs : PlainIx k) (hk : EV C X ek.quiet k (ev F ek)) :
    EV C X (E.kat i ek).quiet (.Subscript (.Name x px) k pos) (ev F (.kat i ek)) := by
  refine PE.imp (pe_ix (ix_tab hu) (pe_var hN hv hd hcd) hk hs) fun σ H Q => ?_
  rintro ⟨P, hs, ρ, st, p⟩
  rw [ev] at p
  by_cases z : has ρ i = true
  · rw [if_pos z] at p
    obtain ⟨d0, e0⟩ := has_slot z
    obtain ⟨v, hv, _⟩ := st.at_ i d0 e0
    refine ⟨v, hv, P, hs, ρ, st, (p.then (R1 := RT C.K σ) (s1 := ek.quiet) fun z => by simpa [E.quiet] using z).imp fun y H1 => ?_⟩
    rintro ⟨P1, hs1, ρ1, t, hd1, st1, r1, n1, s1, _, p1⟩
    unfold katR at p1
    cases q : t.pure with
    | none => rw [q] at p1; exact p1.elim
    | some kv =>
      rw [q] at p1
      obtain ⟨dk, rfl⟩ := r1.pl q
      cases q1 : tkOf kv with
      | none => simp only [q1] at p1; exact p1.elim
      | some kk =>
        cases q2 : slot ρ1 i with
        | none => simp only [q1, q2] at p1; exact p1.elim
        | some d =>
          obtain ⟨v', hv', o⟩ := st1.at_ i d q2
          rw [hv] at hv'; cases hv'
          have own := st1.own i
          generalize hs1 i = hh at o own
          cases o with
          | @t a ws kvs tw =>
            simp only [q1, q2] at p1
            cases q3 : tGet kk kvs with
            | none => rw [q3] at p1; exact p1.elim
            | some y' =>
              rw [q3] at p1
              obtain ⟨c, w, g, dw⟩ := tw.get q3
              obtain ⟨b, rfl, kd⟩ := key_d dk q1
              rw [hK]
              have dw' : Dp C.K P1 w y' := dw
              have at1 : H1 a = some (TD a ws) := own _ _ upd_same
              exact ⟨a, b, c, ws, kk, w, rfl, rfl, at1, (tw.up st1.sub).keys, (kd w).up st1.sub, g, p1.pl st1 dw'⟩
          | p => simp only [q1, q2] at p1; exact p1.elim
          | l => simp only [q1, q2] at p1; exact p1.elim
          | k => simp only [q1, q2] at p1; exact p1.elim
          | g => simp only [q1, q2] at p1; exact p1.elim
          | d => simp only [q1, q2] at p1; exact p1.elim
  · rw [if_neg z] at p; exact p.elim
theorem kin_post {z : Bool} (hsm : sm = true → ea.quiet = true) (st : Sta C.K P H σ ρ hs) (p : Post C sm (RT C.K σ) P H hs σ ((ev F ea ρ).bind fun t ρ1 => kinR z i t ρ1) Q) :
    rd C ea.quiet (RT C.K) (ev F ea) σ H fun y H1 => ∃ v, σ[i]? = some (some v) ∧ rTin C.K z y v H1 Q := by
  refine ⟨P, hs, ρ, st, (p.then (R1 := RT C.K σ) (s1 := ea.quiet) hsm).imp fun y H1 => ?_⟩
  rintro ⟨P1, hs1, ρ1, t, hd1, st1, r1, n1, s1, _, p1⟩
  unfold kinR at p1
  cases q : t.pure with
  | none => rw [q] at p1; exact p1.elim
  | some kv =>
    rw [q] at p1
    obtain ⟨dk, rfl⟩ := r1.pl q
    cases q1 : tkOf kv with
    | none => simp only [q1] at p1; exact p1.elim
    | some kk =>
      cases q2 : slot ρ1 i with
      | none => simp only [q1, q2] at p1; exact p1.elim
      | some d =>
        obtain ⟨v', hv', o⟩ := st1.at_ i d q2
        have own := st1.own i
        generalize hs1 i = hh at o own
        cases o with
        | @t a ws kvs tw =>
          simp only [q1, q2] at p1
          obtain ⟨b, rfl, kd⟩ := key_d dk q1
          have at1 : H1 a = some (TD a ws) := own _ _ upd_same
          refine ⟨.ref a, hv', a, b, ws, kk, .non, rfl, rfl, at1, (tw.up st1.sub).keys, (kd .non).up st1.sub, ?_⟩
          rw [tw.some_]
          exact p1.pl st1 (.bl _)
        | p => simp only [q1, q2] at p1; exact p1.elim
        | l => simp only [q1, q2] at p1; exact p1.elim
        | k => simp only [q1, q2] at p1; exact p1.elim
        | g => simp only [q1, q2] at p1; exact p1.elim
        | d => simp only [q1, q2] at p1; exact p1.elim
theorem oc_kin {z : Bool} {op : CmpOp} (hu : X.A.units + 20 < cLine) (h : tinB z op = true) : OpR X (compareOp op) (rTin X.K z) := by
  cases z <;> cases op <;> first | (cases h; done) | skip
  · exact oc_tnotin hu
  · exact oc_tin hu
theorem ev_kin {z : Bool} {op : CmpOp} (ho : OpR X (compareOp op) (rTin X.K z)) (hm : behindInMarks op (.Name x px) = false) (hK : X.K = C.K) (hN : X.N[i]? = some x) (hv : Vis X.env.scope x) (hd : (x == ("__debug__" : Str)) = false) (hcd : (x == ("__classdict__" : Str)) = false) (ha : EV C X ea.quiet a (ev F ea)) :
    EV C X (E.kin z i ea).quiet (.Compare a [op] [.Name x px] pos) (ev F (.kin z i ea)) := by
  refine PE.imp (pe_cmpR ho ha (pe_var hN hv hd hcd) hm) fun σ H Q => ?_
  rintro ⟨P, hs, ρ, st, p⟩
  rw [ev] at p
  rw [hK]
  exact kin_post (fun z => by simpa [E.quiet] using z) st p
theorem kin_bool {z : Bool} {ρ' : Env} {t : T} (h : ev F (.kin z i ea) ρ = .ok t ρ') : ∃ k, t = .o (.p (.bool k)) := by
  rw [ev] at h
  obtain ⟨u, ρ1, _, h⟩ := bind_ok h
  unfold kinR at h
  split at h
  · split at h
    · cases h; exact ⟨_, rfl⟩
    · cases h
  · cases h
theorem tv_kin {z : Bool} {op : CmpOp} (ho : OpR X (compareOp op) (rTin X.K z)) (hm : behindInMarks op (.Name x px) = false) (hK : X.K = C.K) (hN : X.N[i]? = some x) (hv : Vis X.env.scope x) (hd : (x == ("__debug__" : Str)) = false) (hcd : (x == ("__classdict__" : Str)) = false) (ha : EV C X ea.quiet a (ev F ea)) :
    TV C X (.Compare a [op] [.Name x px] pos) (tst F (.kin z i ea)) := by
  refine PT.imp (pt_cmpR ho ha (pe_var hN hv hd hcd) hm) fun σ H Q => ?_
  rintro ⟨P, hs, ρ, st, p⟩
  rw [hK]
  refine kin_post (sm := false) (Q := fun v H' => ∃ k, v = V.bl k ∧ Q k H') (by intro z; cases z) st ?_
  have e : ev F (.kin z i ea) ρ = (ev F ea ρ).bind fun t ρ1 => kinR z i t ρ1 := by rw [ev]
  rw [← e]
  replace p : Post C false (RB σ) P H hs σ ((ev F (.kin z i ea) ρ).bind kT) Q := by rw [tst_eq rfl] at p; exact p
  cases q : ev F (.kin z i ea) ρ with
  | st => rw [q] at p; exact p
  | ex x ρ' => rw [q] at p; exact p
  | ok t ρ' =>
    rw [q] at p
    intro v P' H' hs' hd st' r' n' s'
    obtain ⟨k, rfl⟩ := kin_bool q
    obtain ⟨dk, _⟩ := r'.pl rfl
    cases dk
    exact ⟨k, rfl, p k P' H' hs' L3.emp st' ⟨rfl, rfl⟩ n'.drop s'⟩
/-! len -/
def rLenTd (K : PySem.W.Frag) : List V → Hp → VK → Prop := fun xs H Q => ∃ (p : Addr) (ws : TbW), xs = [.ref p] ∧ H p = some (TD p ws) ∧ (∀ q ∈ ws, KeyD K H q) ∧ Q (.int ((ws.length : Nat) : Int)) H
theorem call_len_td {X : Cx} : CallR X (.builtin "len") (rLenTd X.K) := by
  intro pins s σ H xs us Q I r h
  obtain ⟨p, ws, rfl, hp, hk, q⟩ := h
  obtain ⟨u, rfl, rx⟩ := vals1 r
  obtain rfl : u = .ref p := rx
  obtain ⟨z, hd, _, _, ys, rel, dd⟩ := td_dict I hp fun p hp => key_at I (hk p hp)
  have hl : ws.length = ys.length := Paired.length rel
  refine call_len_dictH hd dd (by rw [← hl]; rw [sizeLine_eq] at z; omega) ?_
  rw [← hl]
  exact ⟨.int ((ws.length : Nat) : Int), H, I.tok _, ⟨_, rfl⟩, q⟩
theorem ev_kln {p0 : Pos} (hK : X.K = C.K) (hg : Gl X "len") (hm : X.mg "len" = none) (hN : X.N[i]? = some x) (hv : Vis X.env.scope x) (hd : (x == ("__debug__" : Str)) = false) (hcd : (x == ("__classdict__" : Str)) = false) :
    EV C X (E.kln i).quiet (.Call (.Name ("len" : Str) p0) [.Name x px] [] pos) (ev F (.kln i)) := by
  refine PE.imp (pe_callB call_len_td hg hm (by decide +kernel) (pa_cons (pe_var hN hv hd hcd) pa_nil (star_cons rfl)) (by decide) (by decide) (star_cons rfl) (star_none rfl)) fun σ H Q => ?_
  rintro ⟨P, hs, ρ, st, p⟩
  rw [ev] at p
  cases q2 : slot ρ i with
  | none => rw [q2] at p; exact p.elim
  | some d =>
    obtain ⟨v', hv', o⟩ := st.at_ i d q2
    have own := st.own i
    generalize hs i = hh at o own
    cases o with
    | @t a ws kvs tw =>
      simp only [q2] at p
      have at1 : H a = some (TD a ws) := own _ _ upd_same
      refine ⟨.ref a, hv', a, ws, rfl, at1, ?_, ?_⟩
      · rw [hK]
        exact (tw.up st.sub).keys
      · rw [tw.len]
        exact p.pl st (.int _)
    | p => simp only [q2] at p; exact p.elim
    | l => simp only [q2] at p; exact p.elim
    | k => simp only [q2] at p; exact p.elim
    | g => simp only [q2] at p; exact p.elim
    | d => simp only [q2] at p; exact p.elim
/-! displays -/
theorem ev_kds0 : EV C X false (.Dict [] [] pos) (ev F (.kds [])) := by
  refine PE.imp pe_tnew fun σ H Q => ?_
  rintro ⟨P, hs, ρ, st, q⟩
  rw [ev, evo] at q
  intro a np
  have q : Post C false (RT C.K σ) P H hs σ (.ok (.o (.t [])) ρ) Q := q
  exact q.new st (New.own1 st.sub np) (.t .nil)
theorem ev_kds2 (hu : X.A.units + 20 < cLine) (hK : X.K = C.K) (ha : EV C X ea.quiet a (ev F ea)) (hb : EV C X eb.quiet b (ev F eb)) : EV C X false (.Dict [some a] [b] pos) (ev F (.kds [ea, eb])) := by
  refine PE.imp (pe_tone hu ha hb) fun σ H Q => ?_
  rintro ⟨P, hs, ρ, st, p⟩
  rw [ev] at p
  intro p0 np
  have key0 : Nx P H hs P (upd H p0 (TD p0 [])) hs L3.emp := by
    have z : Nx P H hs P H hs L3.emp := .refl
    exact ⟨Sub.refl _, fun b o e _ => by rw [upd_ne (ne_of_none e np)]; exact e, z.fresh⟩
  have p1 : Post C false (RT C.K σ) P H hs σ ((ev F ea ρ).bind fun t ρ1 => match t with | .o d => (ev F eb ρ1).bind fun u ρ2 => (match u with | .o d2 => kdsR [d, d2] ρ2 | _ => .st) | _ => .st) Q := by
    cases q1 : ev F ea ρ with
    | st => rw [evo, q1] at p; exact p
    | ex x ρ' => rw [evo, q1] at p; exact p
    | ok t ρ1 =>
      rw [evo, q1] at p
      cases t with
      | r => exact p
      | q => exact p
      | o d =>
        show Post C false (RT C.K σ) P H hs σ ((ev F eb ρ1).bind fun u ρ2 => (match u with | .o d2 => kdsR [d, d2] ρ2 | _ => .st)) Q
        have p : Post C false (RT C.K σ) P H hs σ (((evo F [eb] ρ1).bind fun xs ρ2 => .ok (d :: xs) ρ2).bind fun ds ρ1 => kdsR ds ρ1) Q := p
        cases q2 : ev F eb ρ1 with
        | st => rw [evo, q2] at p; exact p
        | ex x ρ' => rw [evo, q2] at p; exact p
        | ok u ρ2 =>
          rw [evo, q2] at p
          cases u with
          | r => exact p
          | q => exact p
          | o d2 =>
            simp only [evo, Res.bind] at p
            exact p
  refine ⟨P, hs, ρ, st.lay np, (p1.go (R1 := RT C.K σ) (s1 := ea.quiet) key0).imp fun v H1 => ?_⟩
  rintro ⟨P1, hs1, ρ1, t, hd1, st1, r1, n1, s1, _, p2⟩
  cases t with
  | r => exact p2.elim
  | q => exact p2.elim
  | o d =>
    refine ⟨P1, hs1, ρ1, st1, (p2.go (R1 := RT C.K σ) (s1 := eb.quiet) (key0.trans n1)).imp fun w H2 => ?_⟩
    rintro ⟨P2, hs2, ρ2, u, hd2, st2, r2, n2, s2, _, p3⟩
    cases u with
    | r => exact p3.elim
    | q => exact p3.elim
    | o d2 =>
      cases d with
      | l => exact p3.elim
      | k => exact p3.elim
      | g => exact p3.elim
      | d => exact p3.elim
      | t => exact p3.elim
      | p kv =>
        cases d2 with
        | l => exact p3.elim
        | k => exact p3.elim
        | g => exact p3.elim
        | d => exact p3.elim
        | t => exact p3.elim
        | p yv =>
          obtain ⟨dk, rfl⟩ := r1.pl (x := kv) rfl
          obtain ⟨dy, rfl⟩ := r2.pl (x := yv) rfl
          simp only [kdsR] at p3
          cases q1 : tkOf kv with
          | none => rw [q1] at p3; exact p3.elim
          | some kk =>
            rw [q1] at p3
            have nx := (key0.trans n1).trans n2
            have own0 : ∀ i, Dj (upd L3.emp p0 (TD p0 [])) (hs i) := fun i b => by
              by_cases e : b = p0
              · subst e; exact .inr (Classical.byContradiction fun z => (st.own i).ne z np)
              · exact .inl (upd_ne e)
            have n12 := n1.trans n2
            obtain ⟨k1, k2, k3, k4⟩ := n12.keep (h := upd L3.emp p0 (TD p0 [])) (upd_sub (Sub.emp _) upd_same) own0
            have hP : P p0 = none := Classical.byContradiction fun z => st.sub.ne z np
            have hdP : Dj P2 (upd L3.emp p0 (TD p0 [])) := k4 fun b => by
              by_cases e : b = p0
              · subst e; exact .inl hP
              · exact .inr (upd_ne e)
            have dk2 : Dp C.K P2 v kv := Dp.up n2.up dk
            obtain ⟨b, rfl, kd⟩ := key_d dk2 q1
            refine ⟨k1 _ _ upd_same, b, kk, rfl, by rw [hK]; exact (kd w).up st2.sub, ?_⟩
            have n3 : Nx P H hs P2 H2 hs2 (upd L3.emp p0 (TD p0 [])) := by
              refine ⟨nx.up, fun b o e f => nx.frame b o e f, fun b z => ?_⟩
              rcases z with z | z | z
              · exact nx.fresh b (.inl z)
              · rcases upd_ne_iff.mp z with z | z
                · subst z; exact .inr np
                · exact absurd rfl z
              · exact nx.fresh b (.inr (.inr z))
            have tm : Tmp P2 H2 hs2 (upd L3.emp p0 (TD p0 [])) := ⟨k1, fun i => k2 i, hdP⟩
            obtain ⟨st3, tm3, n4⟩ := st2.write (o' := TD p0 [(kk, b, w)]) tm n3
            exact p3 (.ref p0) P2 _ hs2 _ st3 ⟨.t (.cons (kd w) dy .nil), tm3⟩ n4 fun z => by cases z
end
end L3

namespace L3
open PySem PySem.Spec PyProof.Rows L2
/-! ### sorted(d), list(d) -/
section
variable {C : Cz} {X : Cx} {sm : Bool} {a : Expr} {P H : Hp} {hs : Nat → Hp} {σ : L2.St} {ρ : Env} {Q : V → Hp → Prop} {F : FT} {ea : E} {pos px : Pos}
theorem tab_at {v : V} {t : T} {hd : Hp} {kvs : List (NestedKey × PyData)} (st : Sta C.K P H σ ρ hs) (r : TR C.K P H σ hs v t hd) (e : t.tab ρ = some kvs) : ∃ a ws, v = .ref a ∧ H a = some (TD a ws) ∧ TWs C.K P ws kvs := by
  have own : ∀ {d : D} {h : Hp}, Own C.K P v d h → Sub h H → d = .t kvs → ∃ a ws, v = .ref a ∧ H a = some (TD a ws) ∧ TWs C.K P ws kvs := fun {d h} o s e => by
    subst e
    cases o with
    | @t a ws _ tw => exact ⟨a, ws, rfl, s _ _ upd_same, tw⟩
  cases t with
  | o d =>
    cases d <;> simp only [T.tab, reduceCtorEq, Option.some.injEq] at e
    subst e
    exact own r.1 r.2.1 rfl
  | r i =>
    obtain ⟨_, hv⟩ := r
    simp only [T.tab] at e
    split at e
    · rename_i k q
      cases e
      obtain ⟨w, hw, o⟩ := st.at_ i _ q
      rw [hv] at hw; cases hw
      exact own o (st.own i) rfl
    · cases e
  | q xs => cases e
theorem TWs.fst {K : PySem.W.Frag} {P : Hp} {ws : TbW} {kvs : List (NestedKey × PyData)} (h : TWs K P ws kvs) : ws.map (·.1) = kvs.map (·.1) := by
  induction h with
  | nil => rfl
  | cons _ _ _ ih => simp [ih]
theorem ev_kso {p0 : Pos} (hc : X.calm = true) (hK : X.K = C.K) (hg : Gl X "sorted") (hm : X.mg "sorted" = none) (ns : starred a = false) (ha : EV C X ea.quiet a (ev F ea)) :
    EV C X (E.kso ea).quiet (.Call (.Name ("sorted" : Str) p0) [a] [] pos) (ev F (.kso ea)) := by
  refine PE.imp (pe_callB (cb_sortT hc) hg hm (by decide +kernel) (pa_cons ha pa_nil (star_cons ns)) (by decide) (by decide) (star_cons ns) (star_none rfl)) fun σ H Q => ?_
  rintro ⟨P, hs, ρ, st, p⟩
  rw [ev] at p
  refine ⟨P, hs, ρ, st, (p.then (R1 := RT C.K σ) (s1 := ea.quiet) fun z => by simpa [E.quiet] using z).imp fun v H1 => ?_⟩
  rintro ⟨P1, hs1, ρ1, t, hd1, st1, r1, n1, s1, _, p1⟩
  cases q : t.tab ρ1 with
  | none => rw [q] at p1; exact p1.elim
  | some kvs =>
    obtain ⟨b, ws, rfl, h1, tw⟩ := tab_at st1 r1 q
    cases q2 : prKeys kvs with
    | none => simp only [q, Option.bind_some, q2] at p1; exact p1.elim
    | some ps =>
      simp only [q, Option.bind_some, q2] at p1
      refine ⟨P1, b, ws, ps, st1.sub, rfl, h1, ?_, ?_, ?_⟩
      · rw [hK]; exact tw.keys
      · rw [tw.fst]; exact prKeys_ok q2
      · rw [hK]; exact fun w P' H' hd n o => p1.new st1 n o
theorem ev_kls {p0 : Pos} (hc : X.calm = true) (hK : X.K = C.K) (hg : Gl X "list") (hm : X.mg "list" = none) (ns : starred a = false) (ha : EV C X ea.quiet a (ev F ea)) :
    EV C X (E.kls ea).quiet (.Call (.Name ("list" : Str) p0) [a] [] pos) (ev F (.kls ea)) := by
  refine PE.imp (pe_callTy (cb_listT hc) hg hm (by decide +kernel) (pa_cons ha pa_nil (star_cons ns)) (by decide) (by decide) (star_cons ns) (star_none rfl)) fun σ H Q => ?_
  rintro ⟨P, hs, ρ, st, p⟩
  rw [ev] at p
  refine ⟨P, hs, ρ, st, (p.then (R1 := RT C.K σ) (s1 := ea.quiet) fun z => by simpa [E.quiet] using z).imp fun v H1 => ?_⟩
  rintro ⟨P1, hs1, ρ1, t, hd1, st1, r1, n1, s1, _, p1⟩
  cases q : t.tab ρ1 with
  | none => rw [q] at p1; exact p1.elim
  | some kvs =>
    obtain ⟨b, ws, rfl, h1, tw⟩ := tab_at st1 r1 q
    simp only [q] at p1
    refine ⟨P1, b, ws, st1.sub, rfl, h1, ?_, ?_⟩
    · rw [hK]; exact tw.keys
    · rw [hK]
      have e : (ws.map fun w => unK w.1) = kvs.map fun p => unK p.1 := by
        have := congrArg (List.map unK) tw.fst
        rw [List.map_map, List.map_map] at this
        exact this
      rw [e]
      exact fun w P' H' hd n o => p1.new st1 n o
end
end L3

namespace L3
open PySem PySem.Spec PyProof.Rows L2
/-! ### dict displays with written keys -/
section
variable {C : Cz} {X : Cx} {F : FT} {pos : Pos}
inductive EVs (C : Cz) (X : Cx) (F : FT) : List Expr → List E → Prop
  | nil : EVs C X F [] []
  | cons {x : Expr} {e : E} {xs : List Expr} {es : List E} : EV C X e.quiet x (ev F e) → EVs C X F xs es → EVs C X F (x :: xs) (e :: es)
theorem key_pe {k : Key} {x : Expr} (h : keyE k x = true) : PE X x (tC (kV k)) := by
  unfold keyE at h
  split at h
  · have h := of_decide_eq_true h; subst h; exact pe_int
  · have h := of_decide_eq_true h; subst h; exact pe_str
  · cases h
/-- the pairs, one after another -/
theorem dct_pairs : ∀ {ks : List Key} {keys : List (Option Expr)} {xs : List Expr} {es : List E}, keysB ks keys = true → ks.length = xs.length → EVs C X F xs es → ∃ trs, PPs X pos keys xs trs ∧ keys.all (·.isSome) = true ∧ keys.length = xs.length ∧
    ∀ {α β : Type} {sm : Bool} {R : Hp → Hp → (Nat → Hp) → β → α → Hp → Prop} {P0 H0 : Hp} {hs0 : Nat → Hp} {σ : L2.St} {Q0 : β → Hp → Prop} {kk : List D → Env → Res α} {ρ : Env} {P H : Hp} {hs : Nat → Hp} {hd : Hp} {Q : List (V × V) → Hp → Prop},
      Sta C.K P H σ ρ hs → Nx P0 H0 hs0 P H hs hd → Post C sm R P0 H0 hs0 σ ((evo F es ρ).bind kk) Q0 →
      (∀ vs ds P1 H1 hs1 ρ1 hd1, Sta C.K P1 H1 σ ρ1 hs1 → OwnAll C.K P1 vs ds hd1 → Tmp P1 H1 hs1 hd1 → Nx P H hs P1 H1 hs1 hd1 → vs.length = ks.length → Post C sm R P0 H0 hs0 σ (kk ds ρ1) Q0 → Q ((ks.zip vs).map fun kv => (kV kv.1, kv.2)) H1) → tPairs trs σ H Q
  | [], keys, xs, es, hk, hl, h => by
    cases keys with
    | cons => cases hk
    | nil =>
      cases xs with
      | cons => simp at hl
      | nil =>
        cases h
        refine ⟨[], pps_nil, rfl, rfl, ?_⟩
        intro α β sm R P0 H0 hs0 σ Q0 kk ρ P H hs hd Q st n p q
        rw [evo] at p
        exact q [] [] P H hs ρ L3.emp st .nil Tmp.emp .refl rfl p
  | k :: ks, keys, xs, es, hk, hl, h => by
    cases keys with
    | nil => cases hk
    | cons key keys =>
      cases key with
      | none => cases hk
      | some key =>
        rw [keysB, Bool.and_eq_true] at hk
        cases h with
        | nil => simp at hl
        | @cons x e xs es he hr =>
          obtain ⟨trs, h1, h2, h3, h4⟩ := dct_pairs hk.2 (by simpa using hl) hr
          refine ⟨_, pps_cons (key_pe hk.1) he h1, by simp [h2], by simp [h3], ?_⟩
          intro α β sm R P0 H0 hs0 σ Q0 kk ρ P H hs hd Q st n p q
          rw [evo] at p
          rw [bind_as] at p
          refine ⟨P, hs, ρ, st, (p.go (R1 := RT C.K σ) (s1 := e.quiet) n).imp fun v H1 => ?_⟩
          rintro ⟨P1, hs1, ρ1, t, hd1, st1, r1, n1, s1, _, p1⟩
          cases t with
          | o d =>
            simp only at p1
            rw [bind_as] at p1
            refine h4 (kk := fun xs ρ2 => kk (d :: xs) ρ2) st1 (n.trans n1) p1 fun vs ds P2 H2 hs2 ρ2 hd2 st2 o2 t2 n2 l2 p2 => ?_
            obtain ⟨t1, dj⟩ := Tmp.later r1.2 n2
            exact q (v :: vs) (d :: ds) P2 H2 hs2 ρ2 _ st2 (.cons (Own.up n2.up r1.1) o2 dj) (t1.uni t2) (n1.transU n2) (by simp [l2]) p2
          | r i => exact p1.elim
          | q xs => exact p1.elim
theorem own_zip {K : PySem.W.Frag} {P : Hp} : ∀ {ks : List Key} {vs : List V} {ds : List D} {h : Hp}, OwnAll K P vs ds h → vs.length = ks.length → OwnKv K P (ks.zip vs) (ks.zip ds) h
  | [], _, _, _, .nil, _ => .nil
  | [], _, _, _, .cons _ _ _, l => by simp at l
  | k :: ks, _, _, _, .nil, l => by simp at l
  | k :: ks, _, _, _, .cons a b d, l => .cons a (own_zip b (by simpa using l)) d
theorem merge_new : ∀ {more kvs : List (Key × V)}, ((kvs ++ more).map (·.1)).Nodup → mergeK kvs more = kvs ++ more
  | [], kvs, _ => by simp [mergeK]
  | p :: more, kvs, nd => by
    show mergeK (L2.putK kvs p.1 p.2) more = _
    have nk : kvGet p.1 kvs = none := by
      cases e : kvGet p.1 kvs with
      | none => rfl
      | some w =>
        exfalso
        have hm : p.1 ∈ kvs.map (·.1) := Classical.byContradiction fun z => by
          have : kvGet p.1 kvs = none := by
            clear e nd
            induction kvs with
            | nil => rfl
            | cons q r ih =>
              rw [List.map_cons, List.mem_cons, not_or] at z
              rw [show q :: r = (q.1, q.2) :: r from rfl, kvGet, if_neg (fun y => z.1 y.symm)]
              exact ih z.2
          rw [this] at e; cases e
        rw [List.map_append, List.nodup_append] at nd
        exact nd.2.2 _ hm _ (by simp) rfl
    have nd1 : (kvs.map (·.1)).Nodup := by
      rw [List.map_append, List.nodup_append] at nd
      exact nd.1
    rw [putK_kv nd1, kvPut_new nk, merge_new (by rw [List.append_assoc]; exact nd), List.append_assoc]
    rfl
theorem zip_keys : ∀ {ks : List Key} {vs : List V}, vs.length = ks.length → (ks.zip vs).map (·.1) = ks
  | [], _, _ => by simp
  | k :: ks, [], l => by simp at l
  | k :: ks, v :: vs, l => by simp [zip_keys (ks := ks) (vs := vs) (by simpa using l)]
theorem evo_len2 : ∀ {Es : List E} {ρ ρ1 : Env} {ds : List D}, evo F Es ρ = .ok ds ρ1 → ds.length = Es.length
  | [], ρ, ρ1, ds, h => by rw [evo] at h; cases h; rfl
  | e :: r, ρ, ρ1, ds, h => by
    rw [evo] at h
    obtain ⟨t, ρ2, _, h⟩ := bind_ok h
    cases t with
    | o d =>
      obtain ⟨xs, ρ3, h1, h2⟩ := bind_ok h
      cases h2
      simp [evo_len2 h1]
    | r => cases h
    | q => cases h
theorem ev_dct {ks : List Key} {keys : List (Option Expr)} {xs : List Expr} {es : List E} (hk : keysB ks keys = true) (hl : ks.length = xs.length) (h0 : keys ≠ []) (h15 : keys.length ≤ 15) (h : EVs C X F xs es) : EV C X false (.Dict keys xs pos) (ev F (.dct ks es)) := by
  obtain ⟨trs, h1, h2, h3, h4⟩ := dct_pairs (C := C) (F := F) (pos := pos) hk hl h
  · refine PE.imp (pe_disp h1 h2 h3 h0 h15) fun σ H Q => ?_
    rintro ⟨P, hs, ρ, st, p⟩
    rw [ev] at p
    intro a np
    have key0 : Nx P H hs P (upd H a (.dK [])) hs L3.emp := by
      have z : Nx P H hs P H hs L3.emp := .refl
      exact ⟨Sub.refl _, fun b o e _ => by rw [upd_ne (ne_of_none e np)]; exact e, z.fresh⟩
    refine h4 (st.lay np) key0 p fun vs ds P1 H1 hs1 ρ1 hd1 st1 o1 t1 n1 l1 p1 => ?_
    -- the new dict lies where it was laid
    have own0 : ∀ i, Dj (upd L3.emp a (.dK [])) (hs i) := fun i b => by
      by_cases e : b = a
      · subst e; exact .inr (Classical.byContradiction fun z => (st.own i).ne z np)
      · exact .inl (upd_ne e)
    obtain ⟨k1, k2, k3, k4⟩ := n1.keep (h := upd L3.emp a (.dK [])) (upd_sub (Sub.emp _) upd_same) own0
    have hP : P a = none := Classical.byContradiction fun z => st.sub.ne z np
    have hdP : Dj P1 (upd L3.emp a (.dK [])) := k4 fun b => by
      by_cases e : b = a
      · subst e; exact .inl hP
      · exact .inr (upd_ne e)
    have hda : hd1 a = none := k3.out (by rw [upd_same]; simp)
    refine ⟨k1 _ _ upd_same, ks.zip vs, rfl, ?_, ?_⟩
    · rw [List.length_zip, l1, Nat.min_self, hl, ← h3]; exact h15
    · by_cases c : (ks.Nodup && decide (ks.length = ds.length) && decide (ks.length ≤ 15)) = true
      · simp only [c, if_true] at p1
        simp only [Bool.and_eq_true, decide_eq_true_eq] at c
        have nd : ((ks.zip vs).map (·.1)).Nodup := by rw [zip_keys l1]; exact c.1.1
        have mk : mergeK [] (ks.zip vs) = ks.zip vs := by rw [merge_new (by simpa using nd)]; rfl
        rw [mk]
        have tm : Tmp P1 H1 hs1 (uni (upd L3.emp a (.dK [])) hd1) := Tmp.uni ⟨k1, k2, hdP⟩ t1
        have eu : ∀ o, upd hd1 a o = uni (upd L3.emp a o) hd1 := fun o => by
          funext b
          by_cases e : b = a
          · subst e; rw [upd_same, uni_some (by rw [upd_same]; simp), upd_same]
          · rw [upd_ne e, uni_none (upd_ne e)]
        have n2 : Nx P H hs P1 H1 hs1 (upd hd1 a (.dK [])) := by
          refine ⟨n1.up, fun b o e f => n1.frame b o (by rw [upd_ne (ne_of_none e np)]; exact e) f, fun b z => ?_⟩
          have fr : ∀ b, (∃ i, hs i b ≠ none) ∨ upd H a (.dK []) b = none → (∃ i, hs i b ≠ none) ∨ H b = none := fun b z => by
            rcases z with z | z
            · exact .inl z
            · by_cases e : b = a
              · subst e; exact .inr np
              · rw [upd_ne e] at z; exact .inr z
          rcases z with z | z | z
          · exact fr b (n1.fresh b (.inl z))
          · rcases upd_ne_iff.mp z with z | z
            · subst z; exact .inr np
            · exact fr b (n1.fresh b (.inr (.inl z)))
          · exact fr b (n1.fresh b (.inr (.inr z)))
        rw [← eu] at tm
        obtain ⟨st2, tm2, n3⟩ := st1.write (o' := .dK (ks.zip vs)) tm n2
        exact p1 (.ref a) P1 _ hs1 _ st2 ⟨.d (own_zip o1 l1) nd hda, tm2⟩ n3 fun z => by cases z
      · simp only [c] at p1
        exact p1.elim
end
end L3

namespace L3
open PySem PySem.Spec PyProof.Rows L2
section
variable {C : Cz} {X : Cx} {F : FT} {CX : CXT} {g : Cfg}
theorem EVs.el {xs : List Expr} {es : List E} (h : EVs C X F xs es) (ns : noStars xs = true) : EL C X xs F es := by
  induction h with
  | nil => exact el_nil
  | cons a b ih =>
    unfold noStars at ns ih
    rw [List.any_cons, Bool.not_eq_true', Bool.or_eq_false_iff] at ns
    exact el_cons ns.1 a (ih (by rw [ns.2]; rfl))
theorem EVs.eo {xs : List Expr} {es : List E} (h : EVs C X F xs es) (ns : noStars xs = true) : EO C X xs F es := by
  induction h with
  | nil => exact eo_nil
  | cons a b ih =>
    unfold noStars at ns ih
    rw [List.any_cons, Bool.not_eq_true', Bool.or_eq_false_iff] at ns
    exact eo_cons ns.1 a (ih (by rw [ns.2]; rfl))
theorem EVs.len {xs : List Expr} {es : List E} (h : EVs C X F xs es) : es.length = xs.length := by
  induction h with
  | nil => rfl
  | cons _ _ ih => simp [ih]
theorem noStars_any {xs : List Expr} (h : noStars xs = true) : xs.any starred = false := by
  unfold noStars at h
  simpa using h
theorem bin_ok {o : BOp} {op : Operator} (h : opB o op = true) : OpR X (binaryOp op) (rBin X.K o) := by
  cases o <;> cases op <;> first | (cases h; done) | skip
  · exact ob_add
  · exact ob_sub
  · exact ob_mul
  · exact ob_fdiv
  · exact ob_mod
  · exact ob_pow
  · exact ob_band
  · exact ob_shl
theorem cmp_ok {o : COp} {op : CmpOp} (f : Fits CX X C g F) (h : copB o op = true) : OpR X (compareOp op) (rCmp X.K o) := by
  cases o <;> cases op <;> first | (cases h; done) | skip
  · exact oc_eq f.units
  · exact oc_ne f.units
  · exact oc_lt f.units
  · exact oc_le f.units
  · exact oc_gt
  · exact oc_ge
  · exact oc_in f.units
  · exact oc_notin f.units
  · exact oc_is
  · exact oc_isnot
theorem con_ok {sm : Bool} {d : PyData} {c : Const} {k : Nat} {p : Pos} (h : conB d c = true) : EV C X sm (.Constant c k p) (ev F (.c d)) := by
  have e : ev F (.c d) = fun ρ => .ok (.o (.p d)) ρ := by funext ρ; simp only [ev]
  rw [e]
  unfold conB at h
  split at h
  · exact ev_non
  · simp only [beq_iff_eq] at h; subst h; exact ev_bl
  · have h := of_decide_eq_true h; subst h; exact ev_int
  · have h := of_decide_eq_true h; subst h; exact ev_str
  · cases h
theorem gc_ok {sm : Bool} {d : PyData} {x : Str} {p : Pos} (f : Fits CX X C g F) (h : gcB g x d = true) : EV C X sm (.Name x p) (ev F (.c d)) := by
  have e : ev F (.c d) = fun ρ => .ok (.o (.p d)) ρ := by funext ρ; simp only [ev]
  rw [e]
  unfold gcB at h
  split at h
  · rename_i v
    simp only [Bool.and_eq_true, decide_eq_true_eq] at h
    obtain ⟨⟨h1, h2⟩, h3⟩ := h
    obtain ⟨t, ht⟩ := f.gcs _ h3
    unfold okName at h2
    simp only [Bool.and_eq_true, Bool.not_eq_true'] at h2
    have r : RelV (.int v) (Value.int v t) := ⟨t, rfl⟩
    exact ev_con (pe_glob (v := .int v) (f.gl h1) ht r h2.1) (fun _ _ _ q => q) fun _ => .int v
  · cases h
theorem biF_ok {b : Bi} {n : String} (f : Fits CX X C g F) (h : biF b = some n) : CallR X (.builtin n) (rBi X.K b) ∧ bootBuiltins (n : Str) = some (.builtin n) ∧ ((n : Str) ≠ "__name__") ∧ ((n : Str) == ("__debug__" : Str)) = false := by
  cases b <;> simp only [biF, reduceCtorEq, Option.some.injEq] at h <;> subst h
  · exact ⟨cb_len, by decide +kernel, by decide, by decide⟩
  · exact ⟨cb_sorted, by decide +kernel, by decide, by decide⟩
  · exact ⟨cb_repr f.guards f.units, by decide +kernel, by decide, by decide⟩
  · exact ⟨cb_abs, by decide +kernel, by decide, by decide⟩
  · exact ⟨cb_sum f.calm, by decide +kernel, by decide, by decide⟩
  · exact ⟨cb_min2 f.calm, by decide +kernel, by decide, by decide⟩
  · exact ⟨cb_max2 f.calm, by decide +kernel, by decide, by decide⟩
  · exact ⟨cb_all f.calm, by decide +kernel, by decide, by decide⟩
  · exact ⟨cb_any f.calm, by decide +kernel, by decide, by decide⟩
  · exact ⟨cb_max1 f.calm, by decide +kernel, by decide, by decide⟩
theorem biT_ok {b : Bi} {n : String} (hc : X.calm = true) (hu : X.A.units + 20 < cLine) (h : biT b = some n) : CallR X (.type n) (rBi X.K b) ∧ bootBuiltins (n : Str) = some (.type n) ∧ ((n : Str) ≠ "__name__") ∧ ((n : Str) == ("__debug__" : Str)) = false := by
  cases b <;> simp only [biT, reduceCtorEq, Option.some.injEq] at h <;> subst h
  · exact ⟨cb_tuple, by decide +kernel, by decide, by decide⟩
  · exact ⟨cb_list, by decide +kernel, by decide, by decide⟩
  · exact ⟨cb_int, by decide +kernel, by decide, by decide⟩
  · exact ⟨cb_tdict hc hu, by decide +kernel, by decide, by decide⟩
theorem isa_ok {t : Ty} : bootBuiltins (tyName t : Str) = some (.type (tyName t)) ∧ ((tyName t : Str) ≠ "__name__") ∧ ((tyName t : Str) == ("__debug__" : Str)) = false := by
  cases t
  · exact ⟨by decide +kernel, by decide, by decide⟩
  · exact ⟨by decide +kernel, by decide, by decide⟩
  · exact ⟨by decide +kernel, by decide, by decide⟩
  · exact ⟨by decide +kernel, by decide, by decide⟩
  · exact ⟨by decide +kernel, by decide, by decide⟩
theorem mt_ok {m : Mt} {n : String} (h : mtName m = some n) : ∃ id, MtR X id (rMt X.K m) ∧ Slot "list" (n : Str) id ∧ typeOf (.builtin id) = pure (.type "method_descriptor") := by
  cases m <;> simp only [mtName, reduceCtorEq, Option.some.injEq] at h <;> subst h
  · exact ⟨_, mt_appendL, PySem.F.slot_list_append, PySem.F.type_list_append⟩
  · exact ⟨_, mt_popL, PySem.F.slot_list_pop, PySem.F.type_list_pop⟩
  · exact ⟨_, mt_extendL, PySem.F.slot_list_extend, PySem.F.type_list_extend⟩
  · exact ⟨_, mt_insertL, PySem.F.slot_list_insert, PySem.F.type_list_insert⟩
  · exact ⟨_, mt_removeL, PySem.F.slot_list_remove, PySem.F.type_list_remove⟩
theorem isaT_eq {b : Bi} {t : Ty} (h : isaT b = some t) : b = .isa t := by
  cases b <;> simp [isaT] at h
  rw [h]
theorem set_no {e : Expr} {env : PySem.Env} (h : notSet e = true) : ∀ x, foldedSetIterable e env x = pure x := by
  intro x
  cases e <;> first | rfl | cases h
/-! ### targets -/
theorem each_len : ∀ {xs : List Expr} {env : PySem.Env}, (assignEach xs env).length = xs.length
  | [], _ => rfl
  | x :: xs, env => by cases x <;> simp [assignEach, each_len]
theorem each_cons {x : Expr} {xs : List Expr} {env : PySem.Env} (h : starred x = false) : assignEach (x :: xs) env = (false, assign x env) :: assignEach xs env := by
  cases x <;> first | rfl | cases h
theorem each_none : ∀ {xs : List Expr} {env : PySem.Env}, xs.any starred = false → (assignEach xs env).findIdx? (·.1) = none
  | [], _, _ => rfl
  | x :: xs, env, h => by
    rw [List.any_cons, Bool.or_eq_false_iff] at h
    rw [each_cons h.1, List.findIdx?_cons]
    simp [each_none h.2]
mutual
theorem sTg {kp : L2.St → Prop} {ok : Nat → Bool} (f : Fits CX X C g F) (fr : ∀ i, ok i = true → Free kp i) : ∀ (l : Tg) {x : Expr}, chkTg g ok l x = true → TG' C X kp x l
  | .n i, x, h => by
    unfold chkTg at h
    split at h <;> first | (cases h; done) | (rename_i e; cases e; done) | skip
    · rename_i e
      cases e
      simp only [Bool.and_eq_true, Bool.or_eq_true, decide_eq_true_eq] at h
      obtain ⟨⟨⟨h1, h2⟩, h3⟩, h4⟩ := h
      exact tg_n f.nd (by rw [f.N]; exact h1) (f.loc h2) (h3.imp (fun z => by rw [f.fn]; exact z) f.lcl) (fr _ h4)
  | .t ts, x, h => by
    unfold chkTg at h
    split at h <;> first | (cases h; done) | (rename_i e; cases e; done) | skip
    · rename_i e
      cases e
      obtain ⟨h1, h2, h3⟩ := sTgs f fr _ h
      exact tg_t f.calm f.K h1 (by rw [each_len]; exact h3) (each_none h2)
theorem sTgs {kp : L2.St → Prop} {ok : Nat → Bool} (f : Fits CX X C g F) (fr : ∀ i, ok i = true → Free kp i) : ∀ (l : List Tg) {x : List Expr}, chkTgs g ok l x = true → TGs' C X kp x l ∧ x.any starred = false ∧ x.length = l.length
  | [], x, h => by
    cases x with
    | nil => exact ⟨tgs_nil, rfl, rfl⟩
    | cons => cases h
  | t :: ts, x, h => by
    cases x with
    | nil => cases h
    | cons x xs =>
      rw [chkTgs, Bool.and_eq_true, Bool.and_eq_true, Bool.not_eq_true'] at h
      obtain ⟨⟨h0, h1⟩, h2⟩ := h
      obtain ⟨a, b, c⟩ := sTgs f fr ts h2
      exact ⟨tgs_cons (sTg f fr t h1) a (by rw [each_cons h0]; rfl), by rw [List.any_cons, h0, b]; rfl, by simp [c]⟩
end
end
end L3

namespace L3
open PySem PySem.Spec PyProof.Rows L2
def Good (C : Cz) (X : Cx) (F : FT) (t : Bool) (e : E) (x : Expr) : Prop := match t with
  | false => EV C X e.quiet x (ev F e)
  | true => TV C X x (tst F e) ∧ ∀ op vs p, x = .BoolOp op vs p → TW C X x (tst F e)
structure IH (CX : CXT) (F : FT) (n : Nat) : Prop where
  e : ∀ {e : E} {t : Bool} {g : Cfg} {X : Cx} {C : Cz} {x : Expr}, sizeOf e < n → Fits CX X C g F → chk t g e x = true → Good C X F t e x
  l : ∀ {es : List E} {g : Cfg} {X : Cx} {C : Cz} {xs : List Expr}, sizeOf es < n → Fits CX X C g F → chkL g es xs = true → EVs C X F xs es
  k : ∀ {es : List E} {g : Cfg} {X : Cx} {C : Cz} {xs : List Keyword}, sizeOf es < n → Fits CX X C g F → chkK g es xs = true → EK C X xs F es ∧ es.length = xs.length
  d : ∀ {es : List E} {g : Cfg} {X : Cx} {C : Cz} {xs : List Expr}, sizeOf es < n → Fits CX X C g F → chkD g es xs = true → ED C X xs F es
  i : ∀ {es : List E} {g : Cfg} {X : Cx} {C : Cz} {x : Option Expr}, sizeOf es < n → Fits CX X C g F → chkI g es x = true → OV C X x (evi F es)
  c : ∀ {es : List E} {g : Cfg} {X : Cx} {C : Cz} {xs : List Expr}, sizeOf es < n → Fits CX X C g F → chkC g es xs = true → TVs C X xs F es
section
variable {C : Cz} {X : Cx} {F : FT} {CX : CXT} {g : Cfg} {t : Bool} {e : E} {x : Expr}
theorem good_plain (f : Fits CX X C g F) (hp : plainT e = true) (ht : truthB x = true) (h : EV C X e.quiet x (ev F e)) : Good C X F t e x := by
  cases t with
  | false => exact h
  | true => exact ⟨tv_any hp f.K (truthB_ok ht) h, fun op vs p z => by subst z; cases ht⟩
theorem good_v (ht : (!t) = true) (h : EV C X e.quiet x (ev F e)) : Good C X F t e x := by
  cases t with
  | false => exact h
  | true => cases ht
theorem size_pos (e : E) : 0 < sizeOf e := by cases e <;> simp <;> omega
/-- a walked header -/
theorem it_ok {n : Nat} (ih : IH CX F n) {its : List E} {k : It} {lk : Option Nat} {tg xi : Expr} {xs : List Expr} (f : Fits CX X C g F) (hs : sizeOf its < n) (ha : itArgs g k lk tg xi = some xs) (ns : noStars xs = true) (hl : chkL g its xs = true) : IV C X tg xi F lk k its := by
  have es := ih.l hs f hl
  have el := es.el ns
  have na := noStars_any ns
  unfold itArgs at ha
  split at ha
  · cases ha
    cases es with
    | cons a b => cases b; exact iv_seq f.K a
  · simp only [Option.ite_none_right_eq_some, Option.some.injEq, Bool.and_eq_true, decide_eq_true_eq] at ha
    obtain ⟨⟨⟨h1, rfl⟩, h2⟩, rfl⟩ := ha
    obtain rfl : lk = none := by cases lk <;> first | rfl | cases h1
    have b := f.blt h2
    simp only [List.any_cons, List.any_nil, Bool.or_false] at na
    exact iv_rng1 b.1 b.2 na el
  · simp only [Option.ite_none_right_eq_some, Option.some.injEq, Bool.and_eq_true, decide_eq_true_eq] at ha
    obtain ⟨⟨⟨h1, rfl⟩, h2⟩, rfl⟩ := ha
    obtain rfl : lk = none := by cases lk <;> first | rfl | cases h1
    have b := f.blt h2
    simp only [List.any_cons, List.any_nil, Bool.or_false, Bool.or_eq_false_iff] at na
    exact iv_rng2 b.1 b.2 na.1 na.2 el
  · simp only [Option.ite_none_right_eq_some, Option.some.injEq, Bool.and_eq_true, decide_eq_true_eq] at ha
    obtain ⟨⟨⟨h1, rfl⟩, h2⟩, rfl⟩ := ha
    obtain rfl : lk = none := by cases lk <;> first | rfl | cases h1
    have b := f.blt h2
    simp only [List.any_cons, List.any_nil, Bool.or_false, Bool.or_eq_false_iff] at na
    exact iv_rng3 b.1 b.2 na.1 na.2.1 na.2.2 el
  · split at ha
    · simp only [Option.ite_none_right_eq_some, Option.some.injEq, Bool.and_eq_true, decide_eq_true_eq] at ha
      obtain ⟨⟨rfl, h2⟩, rfl⟩ := ha
      have b := f.blt h2
      simp only [List.any_cons, List.any_nil, Bool.or_false] at na
      exact iv_enum f.K b.1 b.2 na el
    · cases ha
  · split at ha
    · simp only [Option.ite_none_right_eq_some, Option.some.injEq, Bool.and_eq_true, decide_eq_true_eq] at ha
      obtain ⟨⟨⟨h1, rfl⟩, h2⟩, rfl⟩ := ha
      obtain rfl : lk = none := by cases lk <;> first | rfl | cases h1
      have b := f.blt h2
      simp only [List.any_cons, List.any_nil, Bool.or_false, Bool.or_eq_false_iff] at na
      exact iv_zip f.K b.1 b.2 na.1 na.2 el
    · cases ha
  · cases ha
/-! ### the six kinds of lists -/
variable {es : List E} {xs : List Expr} {kws : List Keyword} {n : Nat}
theorem ih_l (ih : IH CX F n) (hs : sizeOf es < n + 1) (f : Fits CX X C g F) (h : chkL g es xs = true) : EVs C X F xs es := by
  cases es with
  | nil => cases xs <;> first | exact .nil | cases h
  | cons e es =>
    cases xs with
    | nil => cases h
    | cons x xs =>
      rw [chkL, Bool.and_eq_true] at h
      simp at hs
      have := size_pos e
      exact .cons (ih.e (t := false) (by omega) f h.1) (ih.l (by omega) f h.2)
theorem ih_k (ih : IH CX F n) (hs : sizeOf es < n + 1) (f : Fits CX X C g F) (h : chkK g es kws = true) : EK C X kws F es ∧ es.length = kws.length := by
  cases es with
  | nil => cases kws <;> first | exact ⟨ek_nil, rfl⟩ | cases h
  | cons e es =>
    cases kws with
    | nil => cases h
    | cons x xs =>
      obtain ⟨nm, x, p⟩ := x
      rw [chkK, Bool.and_eq_true] at h
      simp at hs
      have := size_pos e
      obtain ⟨k1, k2⟩ := ih.k (by omega) f h.2
      exact ⟨ek_cons (ih.e (t := false) (by omega) f h.1) k1, by simp [k2]⟩
theorem ih_d (ih : IH CX F n) (hs : sizeOf es < n + 1) (f : Fits CX X C g F) (h : chkD g es xs = true) : ED C X xs F es := by
  unfold chkD at h
  split at h
  · exact ed_nil
  · rw [Bool.and_eq_true] at h
    simp at hs
    exact ed_star f.K (ih.e (t := false) (by omega) f h.1) (ih.d (by omega) f h.2)
  · simp only [Bool.and_eq_true, Bool.not_eq_true'] at h
    simp at hs
    rename_i e es x xs _
    have := size_pos e
    exact ed_cons h.1.1.2 h.1.1.1 (ih.e (t := false) (by omega) f h.1.2) (ih.d (by omega) f h.2)
  · cases h
theorem ih_i {x : Option Expr} (ih : IH CX F n) (hs : sizeOf es < n + 1) (f : Fits CX X C g F) (h : chkI g es x = true) : OV C X x (evi F es) := by
  unfold chkI at h
  split at h
  · exact ov_none
  · simp at hs
    exact ov_some (ih.e (t := false) (by omega) f h)
  · cases h
theorem ih_c (ih : IH CX F n) (hs : sizeOf es < n + 1) (f : Fits CX X C g F) (h : chkC g es xs = true) : TVs C X xs F es := by
  unfold chkC at h
  split at h
  · exact tvs_nil
  · simp at hs
    exact tvs_one (ih.e (t := true) (by omega) f h).1
  · cases h
theorem nt {t : Bool} (h : (!t) = true) : t = false := by cases t <;> first | rfl | cases h
theorem callB_ok {f0 np : Nat} {nm : Str} (f : Fits CX X C g F) (h : callB g f0 np nm = true) : Gl X nm ∧ (nm == ("__debug__" : Str)) = false ∧ ∃ k adr fd ps, Room k X.A ∧ X.mg nm = some (.ref adr) ∧ PySem.W.keepIn X.K (.ref adr) = true ∧ Binds X.K fd ps [] ∧ ps.length = np ∧ FnG X.prog X.w X.K X.mg X.base CX k adr fd ps (SpD C.K C.exr np (F f0)) := by
  unfold callB okName at h
  simp only [Bool.and_eq_true, Bool.not_eq_true', List.any_eq_true, decide_eq_true_eq] at h
  obtain ⟨⟨h1, h2, _⟩, e, he, ⟨rfl, rfl⟩, rfl⟩ := h
  obtain ⟨k, adr, fd, ps, a1, a2, a3, a4, a5, a6, _⟩ := f.fns e he
  exact ⟨f.gl h1, h2, k, adr, fd, ps, a1, a2, a3, a4, a5, a6⟩
theorem callkB_ok {f0 np : Nat} {nm : Str} {kn : List (Option Str)} {ks : List Nat} (f : Fits CX X C g F) (h : callkB g f0 np nm kn ks = true) : Gl X nm ∧ (nm == ("__debug__" : Str)) = false ∧ ks.Nodup ∧ ks.length = kn.length ∧ ∃ k adr fd ps kn', Room k X.A ∧ X.mg nm = some (.ref adr) ∧ PySem.W.keepIn X.K (.ref adr) = true ∧ KBinds X.K fd ps kn' (gVk np ks) (gVk np ks) ∧ ps.length = np ∧ FnG X.prog X.w X.K X.mg X.base CX k adr fd ps (SpD C.K C.exr np (F f0)) ∧ kn = kn'.map some := by
  unfold callkB okName at h
  simp only [Bool.and_eq_true, Bool.not_eq_true', List.any_eq_true, decide_eq_true_eq] at h
  obtain ⟨⟨⟨⟨h1, h2, _⟩, nd⟩, hkl⟩, e, he, ⟨⟨rfl, rfl⟩, rfl⟩, p, hp, rfl, rfl⟩ := h
  obtain ⟨k, adr, fd, ps, a1, a2, a3, a4, a5, a6, a7⟩ := f.fns e he
  exact ⟨f.gl h1, h2, nd, hkl, k, adr, fd, ps, p.1, a1, a2, a3, a7 p hp, a5, a6, rfl⟩
theorem free_own {own : List Nat} {σ0 : L2.St} : ∀ i, decide (i ∈ own) = true → Free (kpW own σ0) i := fun i h σ v k => by
  have h := of_decide_eq_true h
  show L2.wipe (σ.set i v) own = L2.wipe σ0 own
  rw [wipe_set h]; exact k
end
end L3

set_option maxHeartbeats 1000000
namespace L3
open PySem PySem.Spec PyProof.Rows L2
section
variable {C : Cz} {X : Cx} {F : FT} {CX : CXT} {g : Cfg} {t : Bool} {e : E} {x : Expr} {n : Nat}
theorem bool_sm {C : Cz} {X : Cx} {e : Expr} {sm sm' : Bool} {f : Env → Res T} (h : EV C X sm e f) (i : sm = sm') : EV C X sm' e f := by subst i; exact h
theorem dct_empty {ks : List Key} {keys : List (Option Expr)} {xs : List Expr} {es : List E} {pos : Pos} (h : ¬ ∃ k r, keys = k :: r) (hk : keysB ks keys = true) (hl : ks.length = xs.length) (hc : chkL g es xs = true) : EV C X false (.Dict keys xs pos) (ev F (.dct ks es)) := by
  cases keys with
  | cons k r => exact absurd ⟨k, r, rfl⟩ h
  | nil =>
    cases ks with
    | cons => cases hk
    | nil =>
      cases xs with
      | cons => simp at hl
      | nil =>
        cases es with
        | nil => exact ev_dct0
        | cons => simp [chkL] at hc
theorem ev_dctA {ks : List Key} {keys : List (Option Expr)} {xs : List Expr} {es : List E} {pos : Pos} (hk : keysB ks keys = true) (hl : ks.length = xs.length) (h15 : keys.length ≤ 15) (h : EVs C X F xs es) (hc : chkL g es xs = true) : EV C X false (.Dict keys xs pos) (ev F (.dct ks es)) := by
  by_cases h4 : ∃ k r, keys = k :: r
  · exact ev_dct hk hl (by obtain ⟨k, r, e⟩ := h4; rw [e]; simp) h15 h
  · exact dct_empty h4 hk hl hc
theorem ih_e (ih : IH CX F n) (hs : sizeOf e < n + 1) (f : Fits CX X C g F) (h : chk t g e x = true) : Good C X F t e x := by
  unfold chk at h
  split at h
  -- c
  · rw [Bool.and_eq_true] at h
    exact good_v h.1 (con_ok h.2)
  · rw [Bool.and_eq_true] at h
    exact good_v h.1 (gc_ok f h.2)
  -- v, mv, pk, io
  · obtain ⟨a, b, c, d⟩ := f.name h
    exact good_plain f rfl rfl (ev_v a b c d F)
  · obtain ⟨a, b, c, d⟩ := f.name h
    exact good_plain f rfl rfl (ev_mv a b c d F)
  · obtain ⟨a, b, c, d⟩ := f.name h
    exact good_plain f rfl rfl (ev_pk a b c d F)
  · obtain ⟨a, b, c, d⟩ := f.name h
    exact good_plain f rfl rfl (ev_io a b c d F)
  -- path
  · simp only [Bool.and_eq_true] at h
    simp at hs
    obtain ⟨a, b, c, d⟩ := f.name h.1.1
    have hu := f.units
    exact good_plain f rfl rfl (ev_path (by omega) f.K a b c d (notSl_ix h.1.2) (ih.e (t := false) (by omega) f h.2))
  -- tup
  · rw [Bool.and_eq_true] at h
    simp at hs
    exact good_v h.1 (ev_tup (k := true) (ih.d (by omega) f h.2))
  -- lst
  · rw [Bool.and_eq_true] at h
    simp at hs
    exact good_v h.1 (ev_lst (ih.d (by omega) f h.2))
  -- lsg
  · simp only [Bool.and_eq_true] at h
    simp at hs
    exact good_v h.1.1 (ev_lsg ((ih.l (by omega) f h.2).eo h.1.2))
  -- dct
  · simp only [Bool.and_eq_true, decide_eq_true_eq] at h
    simp at hs
    obtain ⟨⟨⟨⟨h1, h2⟩, h3⟩, h5⟩, h6⟩ := h
    exact good_v h1 (ev_dctA h2 h3 h5 (ih.l (by omega) f h6) h6)
  -- fz
  · rw [Bool.and_eq_true] at h
    simp at hs
    exact good_v h.1 (ev_fz (ih.e (t := false) (by omega) f h.2))
  -- bin
  · simp only [Bool.and_eq_true] at h
    simp at hs
    exact good_v h.1.1.1 (ev_bin (bin_ok h.1.1.2) f.K (ih.e (t := false) (by omega) f h.1.2) (ih.e (t := false) (by omega) f h.2))
  -- cmp
  · simp only [Bool.and_eq_true, Bool.not_eq_true'] at h
    simp at hs
    have ha := ih.e (t := false) (by omega) f h.1.2
    have hb := ih.e (t := false) (by omega) f h.2
    cases t with
    | false => exact ev_cmp (cmp_ok f h.1.1.1) h.1.1.2 f.K ha hb
    | true => exact ⟨tv_cmp (cmp_ok f h.1.1.1) h.1.1.2 f.K ha hb, fun op vs p z => by cases z⟩
  -- chain
  · simp only [Bool.and_eq_true, Bool.not_eq_true'] at h
    simp at hs
    obtain ⟨⟨⟨⟨⟨h1, h2⟩, h3⟩, h4⟩, h5⟩, h6⟩ := h
    have ha := ih.e (t := false) (by omega) f h4
    have hb := ih.e (t := false) (by omega) f h5
    have hc := ih.e (t := false) (by omega) f h6
    cases t with
    | false => exact ev_chain (cmp_ok f h1) (cmp_ok f h2) h3 f.K ha hb hc
    | true => exact ⟨tv_chain (cmp_ok f h1) (cmp_ok f h2) h3 f.K ha hb hc, fun op vs p z => by cases z⟩
  -- neg
  · rw [Bool.and_eq_true] at h
    simp at hs
    exact good_v h.1 (ev_neg (ih.e (t := false) (by omega) f h.2))
  -- not
  · simp at hs
    have ha := ih.e (by omega) f h
    cases t with
    | false => exact ev_not f.K ha
    | true => exact ⟨tv_not ha.1, fun op vs p z => by cases z⟩
  -- and
  · rw [Bool.and_eq_true] at h
    simp at hs
    have ha := ih.e (by omega) f h.1
    have hb := ih.e (by omega) f h.2
    cases t with
    | false => exact ev_and f.K ha (ev_one hb)
    | true => exact ⟨tw_pt (tw_and ha.1 (tw_and1 hb.1)), fun op vs p z => by cases z; exact tw_and ha.1 (tw_and1 hb.1)⟩
  · rw [Bool.and_eq_true] at h
    simp at hs
    have ha := ih.e (by omega) f h.1
    have hb := ih.e (by omega) f h.2
    cases t with
    | false => exact ev_and f.K ha hb
    | true => exact ⟨tw_pt (tw_and ha.1 (hb.2 _ _ _ rfl)), fun op vs p z => by cases z; exact tw_and ha.1 (hb.2 _ _ _ rfl)⟩
  -- or
  · rw [Bool.and_eq_true] at h
    simp at hs
    have ha := ih.e (by omega) f h.1
    have hb := ih.e (by omega) f h.2
    cases t with
    | false => exact ev_or f.K ha (ev_one hb)
    | true => exact ⟨tw_pt (tw_or ha.1 (tw_or1 hb.1)), fun op vs p z => by cases z; exact tw_or ha.1 (tw_or1 hb.1)⟩
  · rw [Bool.and_eq_true] at h
    simp at hs
    have ha := ih.e (by omega) f h.1
    have hb := ih.e (by omega) f h.2
    cases t with
    | false => exact ev_or f.K ha hb
    | true => exact ⟨tw_pt (tw_or ha.1 (hb.2 _ _ _ rfl)), fun op vs p z => by cases z; exact tw_or ha.1 (hb.2 _ _ _ rfl)⟩
  -- ife
  · simp only [Bool.and_eq_true] at h
    simp at hs
    exact good_v h.1.1.1 (ev_ife (ih.e (t := true) (by omega) f h.1.1.2).1 (ih.e (t := false) (by omega) f h.1.2) (ih.e (t := false) (by omega) f h.2))
  -- at
  · simp only [Bool.and_eq_true] at h
    simp at hs
    exact good_plain f rfl rfl (ev_at f.K (notSl_ix h.1.1) (ih.e (t := false) (by omega) f h.1.2) (ih.e (t := false) (by omega) f h.2))
  -- sl
  · simp only [Bool.and_eq_true] at h
    simp at hs
    exact good_plain f rfl rfl (ev_sl f.K (ih.e (t := false) (by omega) f h.1.1) (ih.i (by omega) f h.1.2) (ih.i (by omega) f h.2))
  -- rev
  · simp at hs
    exact good_plain f rfl rfl (ev_rev f.K (ih.e (t := false) (by omega) f h))
  -- isinstance
  · simp at hs
    split at h
    · rename_i tt hb
      have eb := isaT_eq hb
      subst eb
      simp only [Bool.and_eq_true, Bool.not_eq_true', decide_eq_true_eq] at h
      obtain ⟨⟨⟨⟨⟨rfl, h2⟩, rfl⟩, h4⟩, h5⟩, h6⟩ := h
      have q := f.blt h2
      have r := f.blt h4
      obtain ⟨i1, i2, i3⟩ := isa_ok (t := tt)
      exact good_plain f rfl rfl (ev_isa f.K q.1 q.2 r.1 r.2 i1 i2 i3 (ih.e (t := false) (by omega) f h6) h5 (by decide) (by decide) (by decide +kernel))
    · simp at h
  -- built-ins
  · simp at hs
    split at h
    · rename_i ys hn
      simp only [Bool.and_eq_true] at h
      obtain ⟨⟨h5, h0⟩, h6⟩ := h
      have es := ih.l (by omega) f h6
      refine good_plain f rfl rfl ?_
      rcases nest_ok hn with ⟨rfl, rfl, h2, h4, p, q, e⟩ | ⟨rfl, rfl, h2, h4, p, q, x, y, rfl, e⟩ | ⟨rfl, rfl, h2, h4, p, q, e⟩
      · have q := f.blt h2
        have r := f.blt h4
        rw [e]
        cases ys with
        | nil => cases h0
        | cons y ys => exact ev_biTT f.K cr_range1 (cr_list_rng f.calm) lrange_comp q.1 q.2 (by decide +kernel) r.1 r.2 (by decide +kernel) (noStars_any h5) (es.el h5) (by decide) (by decide) (by decide) (by decide)
      · have q := f.blt h2
        have r := f.blt h4
        rw [e]
        exact ev_lzip f.K f.calm q.1 q.2 r.1 r.2 (noStars_any h5) (es.el h5)
      · have q := f.blt h2
        have r := f.blt h4
        rw [e]
        cases ys with
        | nil => cases h0
        | cons y ys => exact ev_biBT f.K (cr_setI f.calm) (cr_sortedSet f.calm) sset_comp q.1 q.2 (by decide +kernel) r.1 r.2 (by decide +kernel) (noStars_any h5) (es.el h5) (by decide) (by decide) (by decide) (by decide)
    simp only [Bool.and_eq_true, Bool.or_eq_true] at h
    obtain ⟨⟨h1, h2⟩, h3⟩ := h
    have es := ih.l (by omega) f h3
    rcases h1 with h1 | h1
    · split at h1
      · rename_i nm hn
        simp only [Bool.and_eq_true, decide_eq_true_eq] at h1
        obtain ⟨rfl, h1⟩ := h1
        obtain ⟨a, b, c, d⟩ := biF_ok f hn
        have q := f.blt h1
        exact good_plain f rfl rfl (ev_biB f.K a q.1 q.2 b (noStars_any h2) (es.el h2) c d)
      · cases h1
    · split at h1
      · rename_i nm hn
        simp only [Bool.and_eq_true, decide_eq_true_eq] at h1
        obtain ⟨rfl, h1⟩ := h1
        have hu := f.units
        obtain ⟨a, b, c, d⟩ := biT_ok (X := X) f.calm (by omega) hn
        have q := f.blt h1
        exact good_plain f rfl rfl (ev_biT f.K a q.1 q.2 b (noStars_any h2) (es.el h2) c d)
      · cases h1
  -- comprehensions
  · simp only [Bool.and_eq_true] at h
    simp at hs
    obtain ⟨⟨⟨⟨⟨⟨h0, h1⟩, h2⟩, h3⟩, h4⟩, h5⟩, h6⟩ := h
    refine good_v h0 ?_
    split at h2
    · rename_i xs hx
      rw [Bool.and_eq_true] at h2
      refine ev_lc (own := _) ?_ f.calm f.nd (it_ok ih f (by omega) hx h2.1 h2.2) (L2.blkOk_by (by rw [f.N, f.sc]; exact h3)) (fun σ0 s H A cl fp => sTg (f.blk s H _ A cl fp) free_own _ h4) (fun s H A cl fp => ih.c (by omega) (f.blk s H _ A cl fp) h5)
        (fun s H A cl fp => ih.e (t := false) (by omega) (f.blk s H _ A cl fp) h6) (set_no h1)
      rw [List.map_map]
      simp [Function.comp_def]
    · cases h2
  -- calls
  · simp only [Bool.and_eq_true] at h
    simp at hs
    obtain ⟨⟨h1, h2⟩, h3⟩ := h
    obtain ⟨a1, a2, k, adr, fd, ps, b1, b2, b3, b4, b5, b6⟩ := callB_ok f h1
    have es := ih.l (by omega) f h3
    refine good_plain f rfl rfl ?_
    cases es with
    | nil => exact ev_call0 b6 b1 f.guards a1 b2 b3 b4 f.px a2 rfl
    | cons p q => exact ev_call b6 b1 f.guards a1 b2 b3 b4 f.px (EVs.el (.cons p q) h2) a2 (noStars_any h2) rfl
  -- calls by names
  · simp only [Bool.and_eq_true] at h
    simp at hs
    obtain ⟨⟨⟨h1, h2⟩, h3⟩, h4⟩ := h
    obtain ⟨a1, a2, nd, hkl, k, adr, fd, ps, kn, b1, b2, b3, b4, b5, b6, b7⟩ := callkB_ok f h1
    have es := ih.l (by omega) f h3
    obtain ⟨ks, kl⟩ := ih.k (by omega) f h4
    rw [List.length_map] at hkl
    refine good_plain f rfl rfl ?_
    cases es with
    | nil => exact ev_callk0 b6 b1 f.guards a1 b2 b3 b4 f.px ks b7 (by simp) nd a2 (by simp) (by omega)
    | cons p q => exact ev_callk b6 b1 f.guards a1 b2 b3 b4 f.px (EVs.el (.cons p q) h2) ks b7 nd a2 (noStars_any h2) rfl (by omega)
  -- methods
  · simp only [Bool.and_eq_true, decide_eq_true_eq] at h
    simp at hs
    obtain ⟨⟨⟨⟨⟨h1, h2⟩, h3⟩, h4⟩, h5⟩, h6⟩ := h
    obtain ⟨a, b, c, d⟩ := f.name h1
    have es := ih.l (by omega) f h6
    refine good_plain f rfl rfl ?_
    split at h2
    · rename_i nm hn
      have h2 := of_decide_eq_true h2
      subst h2
      obtain ⟨id, m1, m2, m3⟩ := mt_ok (X := X) hn
      cases es with
      | nil => exact ev_mutN0 m1 m2 m3 f.K a b c d h4
      | cons p q => exact ev_mutN m1 m2 m3 f.K a b c d (EVs.el (.cons p q) h5) (noStars_any h5) h3 h4
    · cases h2
  · simp only [Bool.and_eq_true, decide_eq_true_eq] at h
    simp at hs
    obtain ⟨⟨⟨⟨⟨⟨⟨h1, h7⟩, h8⟩, h2⟩, h3⟩, h4⟩, h5⟩, h6⟩ := h
    obtain ⟨a, b, c, d⟩ := f.name h1
    have es := ih.l (by omega) f h6
    have hk := ih.e (t := false) (by omega) f h8
    have hu := f.units
    refine good_plain f rfl rfl ?_
    split at h2
    · rename_i nm hn
      have h2 := of_decide_eq_true h2
      subst h2
      obtain ⟨id, m1, m2, m3⟩ := mt_ok (X := X) hn
      cases es with
      | nil => exact ev_mutK0 (by omega) m1 m2 m3 f.K a b c d hk (notSl_ix h7) h4
      | cons p q => exact ev_mutK (by omega) m1 m2 m3 f.K a b c d hk (notSl_ix h7) (EVs.el (.cons p q) h5) (noStars_any h5) h3 h4
    · cases h2
  -- dicts with tuples for keys
  · simp only [Bool.and_eq_true] at h
    simp at hs
    obtain ⟨a, b, c, d⟩ := f.name h.1.1
    have hu := f.units
    exact good_plain f rfl rfl (ev_kat (by omega) f.K a b c d (notSl_ix h.1.2) (ih.e (t := false) (by omega) f h.2))
  · simp only [Bool.and_eq_true, Bool.not_eq_true'] at h
    simp at hs
    obtain ⟨⟨⟨h1, h2⟩, h3⟩, h4⟩ := h
    obtain ⟨a, b, c, d⟩ := f.name h3
    have hu := f.units
    have ho := oc_kin (X := X) (by omega) h1
    have ha := ih.e (t := false) (by omega) f h4
    cases t with
    | false => exact ev_kin ho h2 f.K a b c d ha
    | true => exact ⟨tv_kin ho h2 f.K a b c d ha, fun op vs p z => by cases z⟩
  · exact good_v h ev_kds0
  · simp only [Bool.and_eq_true] at h
    simp at hs
    have hu := f.units
    exact good_v h.1.1 (ev_kds2 (by omega) f.K (ih.e (t := false) (by omega) f h.1.2) (ih.e (t := false) (by omega) f h.2))
  · simp only [Bool.and_eq_true, decide_eq_true_eq] at h
    obtain ⟨⟨⟨h1, rfl⟩, h3⟩, h4⟩ := h
    have q := f.blt h3
    obtain ⟨a, b, c, d⟩ := f.name h4
    exact good_v h1 (ev_kln f.K q.1 q.2 a b c d)
  · simp only [Bool.and_eq_true, decide_eq_true_eq, Bool.not_eq_true'] at h
    simp at hs
    obtain ⟨⟨⟨⟨h1, rfl⟩, h3⟩, h4⟩, h5⟩ := h
    have q := f.blt h3
    exact good_v (by simp [h1]) (ev_kso f.calm f.K q.1 q.2 h4 (ih.e (t := false) (by omega) f h5))
  · simp only [Bool.and_eq_true, decide_eq_true_eq, Bool.not_eq_true'] at h
    simp at hs
    obtain ⟨⟨⟨⟨h1, rfl⟩, h3⟩, h4⟩, h5⟩ := h
    have q := f.blt h3
    exact good_v (by simp [h1]) (ev_kls f.calm f.K q.1 q.2 h4 (ih.e (t := false) (by omega) f h5))
  · cases h
end
end L3

set_option maxHeartbeats 1000000
namespace L3
open PySem PySem.Spec PyProof.Rows L2
theorem ih_all (CX : CXT) (F : FT) : ∀ n, IH CX F n
  | 0 => ⟨fun h => absurd h (Nat.not_lt_zero _), fun h => absurd h (Nat.not_lt_zero _), fun h => absurd h (Nat.not_lt_zero _), fun h => absurd h (Nat.not_lt_zero _), fun h => absurd h (Nat.not_lt_zero _), fun h => absurd h (Nat.not_lt_zero _)⟩
  | n + 1 => have ih := ih_all CX F n
    ⟨fun hs f h => ih_e ih hs f h, fun hs f h => ih_l ih hs f h, fun hs f h => ih_k ih hs f h, fun hs f h => ih_d ih hs f h, fun hs f h => ih_i ih hs f h, fun hs f h => ih_c ih hs f h⟩
/-! ### statements -/
/-- the order of a parallel assignment's stores, as the text tells it -/
def swpp (sc : Scope) (ts vs : List Expr) : Option (Option (List Str)) :=
  if (!(ts.length == 2 || ts.length == 3) || vs.length != ts.length || (if sc.kind.isAnnotationScope then ScopeKind.function else sc.kind) != .function) = true then some none
  else if (vs.any fun | .Starred .. => true | _ => false) = true then some none
  else
    let names := ts.filterMap fun
      | .Name id pos => if (sc.names.lookup id == some .local && pos.line == (ts.head?.map (·.pos.line)).getD 0) = true then some id else none
      | _ => none
    if (names.length != ts.length || names.eraseDups.length != names.length) = true then some none
    else if vs.all (foldedForSure 8) = true then some none
    else if vs.all (constantsAlone 8) = true then none
    else some (some names)
theorem ite_two {c : Prop} [Decidable c] {α β : Type} {a b : α} {a' b' : β} {R : α → β → Prop} (h1 : c → R a a') (h2 : ¬ c → R b b') : R (if c then a else b) (if c then a' else b') := by
  by_cases q : c
  · rw [if_pos q, if_pos q]; exact h1 q
  · rw [if_neg q, if_neg q]; exact h2 q
def SwR (x : Option (Option (List Str))) (y : Sem (Option (List Str))) : Prop := ∀ r, x = some r → y = pure r
theorem swpp_ok {sc : Scope} {ts vs : List Expr} {k k2 : Nat} {p p2 : Pos} {env : PySem.Env} {r : Option (List Str)} (he : env.scope = sc) (h : swpp sc ts vs = some r) : swappedStores [.Tuple ts k p] (.Tuple vs k2 p2) env = pure r := by
  subst he
  have key : SwR (swpp env.scope ts vs) (swappedStores [.Tuple ts k p] (.Tuple vs k2 p2) env) := by
    unfold swpp swappedStores
    simp only [Env.kindOf, Env.blockKind]
    refine ite_two (R := SwR) ?_ ?_
    · intro _ r e; cases e; rfl
    intro _
    refine ite_two (R := SwR) ?_ ?_
    · intro _ r e; cases e; rfl
    intro _
    refine ite_two (R := SwR) ?_ ?_
    · intro _ r e; cases e; rfl
    intro _
    refine ite_two (R := SwR) ?_ ?_
    · intro _ r e; cases e; rfl
    intro _
    refine ite_two (R := SwR) ?_ ?_
    · intro _ r e; cases e
    · intro _ r e; cases e; rfl
  exact key r h
def nameOk (g : Cfg) (fz : List Nat) (i : Nat) (x : Str) : Bool := decide (g.N[i]? = some x) && locB g x && (g.fn x || lclB g x) && decide (i ∉ fz)
def plainPair : Expr → Expr → Bool
  | .Name .., _ => false
  | .List .., _ => false
  | .Tuple .., .Tuple .. => false
  | _, _ => true
theorem plainPair_ok {t e : Expr} {env : PySem.Env} {l : Nat} (h : plainPair t e = true) : swappedStores [t] e env = pure none ∧ swapsWithSole [t] e l env = pure false := by
  constructor
  · cases t <;> first | rfl | (cases h; done) | (cases e <;> first | rfl | (cases h; done))
  · cases t <;> first | (cases h; done) | (cases e <;> rfl)
end L3

set_option maxHeartbeats 1000000
namespace L3
open PySem PySem.Spec PyProof.Rows L2
def isLc : E → Bool
  | .lc .. => true
  | _ => false
def swB (g : Cfg) (t : Str) (pos : Pos) : Expr → Bool
  | .ListComp _ _ s p => (if g.sc.kind.isAnnotationScope then ScopeKind.function else g.sc.kind) == .function && g.sc.names.lookup t == some .local && pos.line == p.line && !(s.names.any fun (n, k) => n == t && (k == .local || k == .cell))
  | _ => false
def isListComp : Expr → Bool
  | .ListComp .. => true
  | _ => false
mutual
def chkLv (g : Cfg) (fz : List Nat) : Lv → Expr → Bool
  | .n i, .Name x _ => nameOk g fz i x
  | .t ts, .Tuple xs _ _ => chkLvs g fz ts xs
  | .ix i [] a, .Subscript (.Name x _) xa _ => isName g i x && notSl xa && chk false g a xa
  | .ix i [k] a, .Subscript (.Subscript (.Name x _) xk _) xa _ => isName g i x && notSl xk && notSl xa && chk false g k xk && chk false g a xa
  | _, _ => false
def chkLvs (g : Cfg) (fz : List Nat) : List Lv → List Expr → Bool
  | [], [] => true
  | t :: ts, x :: xs => !starred x && chkLv g fz t x && chkLvs g fz ts xs
  | _, _ => false
end
mutual
def chkS (g : Cfg) (fz : List Nat) : S → Stmt → Bool
  | .asg (.n i) e, .Assign [.Name x px] xe p => nameOk g fz i x && chk false g e xe && (notComp xe || (isListComp xe && (!swB g x px xe || isLc e)))
  | .asg l e, .Assign [t] xe _ => !starred t && chkLv g fz l t && plainPair t xe && chk false g e xe
  | .asgs ls es, .Assign [.Tuple ts _ _] (.Tuple vs _ _) _ => noStars vs && chkL g es vs && decide (vs.length ≤ 1000) && (match swpp g.sc ts vs with
      | some none => chkLvs g fz ls ts && decide (ls.length = es.length)
      | some (some ns) => (match ls, ts with
        | [.n i, .n j], [.Name x _, .Name y _] => decide (ns = [x, y]) && decide (vs.length = 2) && decide (i ≠ j) && nameOk g fz i x && nameOk g fz j y && lclB g x && lclB g y
        | [.n i, .n j, .n l], [.Name x _, .Name y _, .Name z _] => decide (ns = [x, y, z]) && decide (vs.length = 3) && decide (i ≠ j) && decide (i ≠ l) && decide (j ≠ l) && nameOk g fz i x && nameOk g fz j y && nameOk g fz l z && lclB g x && lclB g y && lclB g z
        | _, _ => false)
      | none => false)
  | .expr e, .Expr xe _ => notComp xe && chk false g e xe
  | .ret e, .Return (some xe) _ => chk false g e xe
  | .ret (.c .none), .Return none _ => true
  | .ret (.star _), .Raise _ _ _ => true
  | .ifs c a b, .If xc xa xb _ => chk true g c xc && chkB g fz a xa && chkB g fz b xb
  | .for tg k lk its body, .For xt xi xb [] _ => notSet xi && (match itArgs g k lk xt xi with | some xs => noStars xs && chkL g its xs | none => false) && chkTg g (fun i => decide (i ∉ fz) && decide (lk ≠ some i)) tg xt && chkB g (lk.toList ++ fz) body xb
  | .while c body, .While xc xb [] _ => chk true g c xc && chkB g fz body xb
  | .brk, .Break _ => true
  | .cnt, .Continue _ => true
  | .pass, .Pass _ => true
  | _, _ => false
def chkB (g : Cfg) (fz : List Nat) : List S → List Stmt → Bool
  | [], [] => true
  | s :: ss, x :: xs => chkS g fz s x && chkB g fz ss xs
  | _, _ => false
end
section
variable {C : Cz} {X : Cx} {F : FT} {CX : CXT} {g : Cfg} {kp : L2.St → Prop} {fz : List Nat}
theorem all_e {e : E} {t : Bool} {x : Expr} (f : Fits CX X C g F) (h : chk t g e x = true) : Good C X F t e x := (ih_all CX F (sizeOf e + 1)).e (Nat.lt_succ_self _) f h
theorem all_l {es : List E} {xs : List Expr} (f : Fits CX X C g F) (h : chkL g es xs = true) : EVs C X F xs es := (ih_all CX F (sizeOf es + 1)).l (Nat.lt_succ_self _) f h
theorem name_ok {i : Nat} {x : Str} (f : Fits CX X C g F) (fr : ∀ i, i ∉ fz → Free kp i) (h : nameOk g fz i x = true) : X.N[i]? = some x ∧ Loc X.env.scope x ∧ (X.fn x = true ∨ X.env.scope.names.lookup x = some .local) ∧ Free kp i := by
  unfold nameOk at h
  simp only [Bool.and_eq_true, Bool.or_eq_true, decide_eq_true_eq] at h
  exact ⟨by rw [f.N]; exact h.1.1.1, f.loc h.1.1.2, h.1.2.imp (fun z => by rw [f.fn]; exact z) f.lcl, fr i h.2⟩
theorem swB_ok {t : Str} {pos : Pos} {a : Expr} {b : List Comprehension} {c : Scope} {d : Pos} {l : Nat} (f : Fits CX X C g F) : swapsWith (.ListComp a b c d) (some (.Name t pos)) l X.env = pure (swB g t pos (.ListComp a b c d)) := by
  have h : X.env.scope = g.sc := f.sc
  unfold swB
  rw [← h]
  rfl
mutual
theorem sLv (f : Fits CX X C g F) (fr : ∀ i, i ∉ fz → Free kp i) : ∀ (l : Lv) {x : Expr}, chkLv g fz l x = true → GV C X kp x F l
  | .n i, x, h => by
    unfold chkLv at h
    split at h <;> first | (cases h; done) | (rename_i e; cases e; done) | skip
    · rename_i e
      cases e
      obtain ⟨a, b, c, d⟩ := name_ok f fr h
      exact gv_n f.nd a b c d
  | .t ts, x, h => by
    unfold chkLv at h
    split at h <;> first | (cases h; done) | (rename_i e; cases e; done) | skip
    · rename_i e
      cases e
      obtain ⟨h1, h2, h3⟩ := sLvs f fr _ h
      exact gv_t f.calm f.K h1 (by rw [each_len]; exact h3) (each_none h2)
  | .ix i ks a, x, h => by
    unfold chkLv at h
    have hu := f.units
    split at h <;> first | (cases h; done) | (rename_i e; cases e; done) | skip
    · rename_i e
      cases e
      simp only [Bool.and_eq_true] at h
      obtain ⟨a1, b1, c1, d1⟩ := f.name h.1.1
      exact gv_ix0 (by omega) f.K a1 b1 c1 d1 (all_e (t := false) f h.2) (notSl_as h.1.2)
    · rename_i e
      cases e
      simp only [Bool.and_eq_true] at h
      obtain ⟨⟨⟨⟨h1, h2⟩, h3⟩, h4⟩, h5⟩ := h
      obtain ⟨a1, b1, c1, d1⟩ := f.name h1
      exact gv_ix1 (by omega) f.K a1 b1 c1 d1 (notSl_ix h2) (all_e (t := false) f h4) (all_e (t := false) f h5) (notSl_as h3)
theorem sLvs (f : Fits CX X C g F) (fr : ∀ i, i ∉ fz → Free kp i) : ∀ (l : List Lv) {x : List Expr}, chkLvs g fz l x = true → GVs C X kp x F l ∧ x.any starred = false ∧ x.length = l.length
  | [], x, h => by
    cases x with
    | nil => exact ⟨gvs_nil, rfl, rfl⟩
    | cons => cases h
  | t :: ts, x, h => by
    cases x with
    | nil => cases h
    | cons x xs =>
      rw [chkLvs, Bool.and_eq_true, Bool.and_eq_true, Bool.not_eq_true'] at h
      obtain ⟨⟨h0, h1⟩, h2⟩ := h
      obtain ⟨a, b, c⟩ := sLvs f fr ts h2
      exact ⟨gvs_cons (sLv f fr t h1) a (by rw [each_cons h0]; rfl), by rw [List.any_cons, h0, b]; rfl, by simp [c]⟩
end
theorem sDs (f : Fits CX X C g F) (fr : ∀ i, i ∉ fz → Free kp i) : ∀ (l : List Lv) {x : List Expr}, chkLvs g fz l x = true → GDs C X kp x F l ∧ x.any starred = false ∧ x.length = l.length
  | [], x, h => by
    cases x with
    | nil => exact ⟨gds_nil, rfl, rfl⟩
    | cons => cases h
  | t :: ts, x, h => by
    cases x with
    | nil => cases h
    | cons x xs =>
      rw [chkLvs, Bool.and_eq_true, Bool.and_eq_true, Bool.not_eq_true'] at h
      obtain ⟨⟨h0, h1⟩, h2⟩ := h
      obtain ⟨a, b, c⟩ := sDs f fr ts h2
      exact ⟨gds_cons (sLv f fr t h1) a (by rw [each_cons h0]; rfl), by rw [List.any_cons, h0, b]; rfl, by simp [c]⟩
end
end L3

set_option maxHeartbeats 1000000
namespace L3
open PySem PySem.Spec PyProof.Rows L2
structure IS (CX : CXT) (F : FT) (n : Nat) : Prop where
  s : ∀ {s : S} {g : Cfg} {X : Cx} {C : Cz} {kp : L2.St → Prop} {fz : List Nat} {x : Stmt}, sizeOf s < n → Fits CX X C g F → (∀ i, i ∉ fz → Free kp i) → chkS g fz s x = true → SV C X kp x (exs F s)
  b : ∀ {s : List S} {g : Cfg} {X : Cx} {C : Cz} {kp : L2.St → Prop} {fz : List Nat} {x : List Stmt}, sizeOf s < n → Fits CX X C g F → (∀ i, i ∉ fz → Free kp i) → chkB g fz s x = true → SVs C X kp x (exb F s)
section
variable {C : Cz} {X : Cx} {F : FT} {CX : CXT} {g : Cfg} {kp : L2.St → Prop} {fz : List Nat} {n : Nat}
theorem is_b {s : List S} {x : List Stmt} (ih : IS CX F n) (hs : sizeOf s < n + 1) (f : Fits CX X C g F) (fr : ∀ i, i ∉ fz → Free kp i) (h : chkB g fz s x = true) : SVs C X kp x (exb F s) := by
  cases s with
  | nil => cases x <;> first | exact svs_nil | cases h
  | cons s ss =>
    cases x with
    | nil => cases h
    | cons x xs =>
      rw [chkB, Bool.and_eq_true] at h
      simp at hs
      have : 0 < sizeOf s := by cases s <;> simp <;> omega
      exact svs_cons (ih.s (by omega) f fr h.1) (ih.b (by omega) f fr h.2)
theorem sv_bad {s : Stmt} {f : Env → Fl} (h : ∀ ρ, f ρ = .st) : SV C X kp s f := ⟨fun pins s σ H D _ t => by
  obtain ⟨k, P, hs, ρ, st, p⟩ := t
  rw [h] at p
  exact p.elim⟩
theorem len_two {α : Type} {xs : List α} (h : xs.length = 2) : ∃ u w, xs = [u, w] := by
  match xs, h with
  | [u, w], _ => exact ⟨u, w, rfl⟩
theorem len_three {α : Type} {xs : List α} (h : xs.length = 3) : ∃ u w r, xs = [u, w, r] := by
  match xs, h with
  | [u, w, r], _ => exact ⟨u, w, r, rfl⟩
theorem sz_line {k : Nat} (h : k ≤ 1000) : k ≤ sizeLine := Nat.le_trans h (by rw [sizeLine_eq]; decide)
theorem is_s {s : S} {x : Stmt} (ih : IS CX F n) (hs : sizeOf s < n + 1) (f : Fits CX X C g F) (fr : ∀ i, i ∉ fz → Free kp i) (h : chkS g fz s x = true) : SV C X kp x (exs F s) := by
  unfold chkS at h
  split at h
  -- a name
  · simp only [Bool.and_eq_true, Bool.or_eq_true] at h
    obtain ⟨⟨h1, h2⟩, h3⟩ := h
    obtain ⟨a, b, c, d⟩ := name_ok f fr h1
    rcases h3 with h3 | ⟨h3, h4⟩
    · exact sv_set f.nd a b (all_e (t := false) f h2) (swaps_no h3) c d
    · rename_i e x px xe p
      cases xe <;> first | (cases h3; done) | skip
      rename_i xl gens scope lp
      cases hb : swB g x px (.ListComp xl gens scope lp) with
      | false => exact sv_set f.nd a b (all_e (t := false) f h2) (by rw [swB_ok f, hb]) c d
      | true =>
        rw [hb] at h4
        have h4 : isLc e = true := by simpa using h4
        cases e <;> first | (cases h4; done) | skip
        rename_i own tg k lk its cond elt
        have hy : X.env.scope.names.lookup x = some .local := by
          unfold swB at hb
          simp only [Bool.and_eq_true, beq_iff_eq] at hb
          rw [f.sc]; exact hb.1.1.2
        unfold chk at h2
        split at h2 <;> first | (cases h2; done) | (rename_i e1 e2; cases e1; done) | (rename_i e1 e2; cases e2; done) | skip
        · rename_i e1 e2
          cases e1
          cases e2
          simp only [Bool.and_eq_true] at h2
          obtain ⟨⟨⟨⟨⟨⟨_, g1⟩, g2⟩, g3⟩, g4⟩, g5⟩, g6⟩ := h2
          split at g2
          · rename_i xs hx
            rw [Bool.and_eq_true] at g2
            refine sv_setLc (own := _) ?_ f.calm f.nd a hy (by rw [swB_ok f, hb]) (it_ok (ih_all CX F _) f (Nat.lt_succ_self _) hx g2.1 g2.2) (L2.blkOk_by (by rw [f.N, f.sc]; exact g3)) (fun σ0 s H A cl fp => sTg (f.blk s H _ A cl fp) free_own _ g4)
              (fun s H A cl fp => (ih_all CX F _).c (Nat.lt_succ_self _) (f.blk s H _ A cl fp) g5) (fun s H A cl fp => all_e (t := false) (f.blk s H _ A cl fp) g6) (set_no g1) d
            rw [List.map_map]
            simp [Function.comp_def]
          · cases g2
  -- another target
  · simp only [Bool.and_eq_true] at h
    obtain ⟨⟨⟨h0, h1⟩, h2⟩, h3⟩ := h
    obtain ⟨w1, w2⟩ := plainPair_ok (env := X.env) h2
    exact sv_asg (all_e (t := false) f h3) (sLv f fr _ h1) w2 w1 (by rw [each_cons (by simpa using h0)]; rfl)
  -- several
  · simp only [Bool.and_eq_true, decide_eq_true_eq] at h
    obtain ⟨⟨⟨h1, h2⟩, h3⟩, h4⟩ := h
    have es := all_l f h2
    have eo := es.eo h1
    split at h4
    · rename_i hw
      rw [Bool.and_eq_true, decide_eq_true_eq] at h4
      obtain ⟨d1, d2, d3⟩ := sDs f fr _ h4.1
      have el := es.len
      exact sv_asgs f.calm f.K eo d1 (by rw [each_len, d3, h4.2, el]) (each_none d2) (sz_line h3) rfl (swpp_ok f.sc hw) rfl el
    · rename_i ns hw
      split at h4
      · simp only [Bool.and_eq_true, decide_eq_true_eq] at h4
        obtain ⟨⟨⟨⟨⟨⟨rfl, v2⟩, ne⟩, n1⟩, n2⟩, l1⟩, l2⟩ := h4
        obtain ⟨a1, _, _, a4⟩ := name_ok f fr n1
        obtain ⟨b1, _, _, b4⟩ := name_ok f fr n2
        obtain ⟨u, w, rfl⟩ := len_two v2
        exact sv_par f.calm f.nd a1 b1 ne (f.lcl l1) (f.lcl l2) eo (swpp_ok f.sc hw) rfl a4 b4
      · simp only [Bool.and_eq_true, decide_eq_true_eq] at h4
        obtain ⟨⟨⟨⟨⟨⟨⟨⟨⟨⟨rfl, v2⟩, ne⟩, ne2⟩, ne3⟩, n1⟩, n2⟩, n3⟩, l1⟩, l2⟩, l3⟩ := h4
        obtain ⟨a1, _, _, a4⟩ := name_ok f fr n1
        obtain ⟨b1, _, _, b4⟩ := name_ok f fr n2
        obtain ⟨c1, _, _, c4⟩ := name_ok f fr n3
        obtain ⟨u, w, r, rfl⟩ := len_three v2
        exact sv_par3 f.calm f.nd a1 b1 c1 ne ne2 ne3 (f.lcl l1) (f.lcl l2) (f.lcl l3) eo (swpp_ok f.sc hw) rfl a4 b4 c4
      · cases h4
    · cases h4
  -- expression
  · rw [Bool.and_eq_true] at h
    exact sv_expr (all_e (t := false) f h.2) (swaps_no h.1)
  -- return
  · exact sv_ret (all_e (t := false) f h)
  · exact sv_retN
  · exact sv_bad fun ρ => by rw [exs, ev]; rfl
  -- if
  · simp only [Bool.and_eq_true] at h
    simp at hs
    exact sv_if (all_e (t := true) f h.1.1).1 (ih.b (by omega) f fr h.1.2) (ih.b (by omega) f fr h.2)
  -- for
  · simp only [Bool.and_eq_true] at h
    simp at hs
    obtain ⟨⟨⟨h1, h2⟩, h3⟩, h4⟩ := h
    split at h2
    · rename_i xs hx
      rw [Bool.and_eq_true] at h2
      have fr2 : ∀ {lk : Option Nat} (a : Addr) i, i ∉ lk.toList ++ fz → Free (kpL kp lk a) i := fun {lk} a i hi σ v k => by
        rw [List.mem_append, not_or] at hi
        refine ⟨fr i hi.2 σ v k.1, fun j hj => ?_⟩
        have : i ≠ j := fun e => hi.1 (by rw [hj, e]; simp)
        rw [List.getElem?_set_ne this]
        exact k.2 j hj
      refine sv_for f.own f.calm (it_ok (ih_all CX F _) f (Nat.lt_succ_self _) hx h2.1 h2.2) (fun a => sTg f (fun i hi => fr2 a i ?_) _ h3) (fun a => ih.b (by omega) f (fr2 a) h4) (set_no h1)
      simp only [Bool.and_eq_true, decide_eq_true_eq] at hi
      rw [List.mem_append, not_or]
      refine ⟨?_, hi.1⟩
      intro z
      rw [Option.mem_toList] at z
      exact hi.2 z
    · cases h2
  -- while
  · rw [Bool.and_eq_true] at h
    simp at hs
    exact sv_while f.own (all_e (t := true) f h.1).1 (ih.b (by omega) f fr h.2)
  · exact sv_brk
  · exact sv_cnt
  · exact sv_pass
  · cases h
theorem is_all (CX : CXT) (F : FT) : ∀ n, IS CX F n
  | 0 => ⟨fun h => absurd h (Nat.not_lt_zero _), fun h => absurd h (Nat.not_lt_zero _)⟩
  | n + 1 => have ih := is_all CX F n
    ⟨fun hs f fr h => is_s ih hs f fr h, fun hs f fr h => is_b ih hs f fr h⟩
/-- the tree fits the text: the text does what the tree does -/
theorem all_b {s : List S} {x : List Stmt} (f : Fits CX X C g F) (fr : ∀ i, i ∉ fz → Free kp i) (h : chkB g fz s x = true) : SVs C X kp x (exb F s) := (is_all CX F (sizeOf s + 1)).b (Nat.lt_succ_self _) f fr h
end
end L3

set_option maxHeartbeats 1000000
namespace L3
open PySem PySem.Spec PyProof.Rows L2
/-! ### a text's defs -/
structure FnI where
  nm : Str
  st : Stmt
  N : List Str
  ps : List Str
  kw : List (List Str × List Nat)
def fnsOf : Nat → List FnI → List FnE
  | _, [] => []
  | j, f :: r => ⟨f.nm, j, f.ps.length, f.kw⟩ :: fnsOf (j + 1) r
def cfgOf (T : List FnI) (blts : List Str) (gcs : List (Str × Int)) (i : FnI) : Cfg := { N := i.N, sc := defScope i.st, fn := fun _ => true, fns := fnsOf 0 T, blts := blts, gcs := gcs }
def scopeB (N ps : List Str) (sc : Scope) : Bool :=
  (match sc.kind with | .function => true | _ => false) && !sc.isCoroutine && !sc.isGenerator && decide N.Nodup && decide (N.take ps.length = ps) && (ps.all fun x => match sc.names.lookup x with | some .local => true | some .cell => true | _ => false) &&
    sc.names.all fun y => match y.2 with | .free => false | _ => true
theorem scope_ok {N ps : List Str} {sc : Scope} (h : scopeB N ps sc = true) : FnScope N ps sc := by
  unfold scopeB at h
  simp only [Bool.and_eq_true, Bool.not_eq_true', decide_eq_true_eq, List.all_eq_true] at h
  obtain ⟨⟨⟨⟨⟨⟨h1, h2⟩, h3⟩, h4⟩, h5⟩, h6⟩, h7⟩ := h
  refine ⟨?_, h2, h3, h4, h5, fun x hx => ?_, fun y hy e => ?_⟩
  · split at h1
    · assumption
    · cases h1
  · have q := h6 x hx
    split at q
    · exact .inl (by assumption)
    · exact .inr (by assumption)
    · cases q
  · have q := h7 y hy
    rw [e] at q
    cases q
/-- one def's tree beside its text -/
def fnB (T : List FnI) (blts : List Str) (gcs : List (Str × Int)) (i : FnI) (d : Def) : Bool :=
  scopeB i.N i.ps (defScope i.st) && decide (d.np = i.ps.length) && decide (d.ns = i.N.length) && chkB (cfgOf T blts gcs i) d.io d.body (defBody i.st)
def tabB (T : List FnI) (blts : List Str) (gcs : List (Str × Int)) (P : List Def) : Bool := decide (T.length = P.length) && (T.zip P).all fun x => fnB T blts gcs x.1 x.2
/-- a def as it stands behind the top -/
structure FnA (K : PySem.W.Frag) (mg : Str → Option Value) (i : FnI) (adr : Addr) (fd : FuncData) : Prop where
  fn : Fun K i.nm i.nm i.st adr fd
  mg : mg i.nm = some (.ref adr)
  b : Binds K fd i.ps []
  k : ∀ p ∈ i.kw, KBinds K fd i.ps p.1 (gVk i.ps.length p.2) (gVk i.ps.length p.2)
theorem mem_fns : ∀ {T : List FnI} {j : Nat} {f : FnE}, f ∈ fnsOf j T → ∃ i m, T[m]? = some i ∧ f = ⟨i.nm, j + m, i.ps.length, i.kw⟩
  | [], _, _, h => by simp [fnsOf] at h
  | i :: T, j, f, h => by
    rw [fnsOf, List.mem_cons] at h
    rcases h with rfl | h
    · exact ⟨i, 0, rfl, rfl⟩
    · obtain ⟨i', m, h1, h2⟩ := mem_fns h
      exact ⟨i', m + 1, by simpa using h1, by rw [h2, show j + 1 + m = j + (m + 1) by omega]⟩
def noEx : Ex → Value → Option Addr → Hp → Prop := fun _ _ _ _ => False
theorem zip_at {α β : Type} : ∀ {xs : List α} {ys : List β} {j : Nat} {x : α}, xs.length = ys.length → xs[j]? = some x → ∃ y, ys[j]? = some y ∧ (x, y) ∈ xs.zip ys
  | [], _, _, _, _, h => by simp at h
  | x :: xs, [], _, _, h, _ => by simp at h
  | x :: xs, y :: ys, 0, z, _, h => by simp at h; subst h; exact ⟨y, rfl, by simp⟩
  | x :: xs, y :: ys, j + 1, z, h, e => by
    obtain ⟨w, h1, h2⟩ := zip_at (xs := xs) (ys := ys) (j := j) (by simpa using h) (by simpa using e)
    exact ⟨w, by simpa using h1, by simp [h2]⟩
theorem tab_sound {Pg : Program} {w : World} {K : PySem.W.Frag} {mg : Str → Option Value} {base : Heap} {T : List FnI} {blts : List Str} {gcs : List (Str × Int)} {P : List Def} (hc : tabB T blts gcs P = true) (hT : ∀ i ∈ T, ∃ adr fd, FnA K mg i adr fd) (hb : ∀ x ∈ blts, mg x = none) (hgc : ∀ p ∈ gcs, ∃ t, mg p.1 = some (.int p.2 t)) :
    ∀ n j i adr fd, T[j]? = some i → FnA K mg i adr fd → FnG Pg w K mg base CX0 n adr fd i.ps (SpD K noEx i.ps.length (callF P n j)) := by
  unfold tabB at hc
  simp only [Bool.and_eq_true, decide_eq_true_eq, List.all_eq_true] at hc
  obtain ⟨hl, hc⟩ := hc
  intro n
  induction n with
  | zero =>
    intro j i adr fd hj ha
    have no : ∀ vs H Q E, ¬ SpD K noEx i.ps.length (callF P 0 j) vs H Q E := fun vs H Q E h => by
      obtain ⟨_, _, _, _, _, h⟩ := h
      simp only [callF] at h
    exact ⟨fun vs H Q E h => h.1, fun A outer s H args us vs Q E _ _ _ _ _ h => (no _ _ _ _ h).elim⟩
  | succ n ih =>
    intro j i adr fd hj ha
    obtain ⟨d, hd, hm⟩ := zip_at hl hj
    have q := hc _ hm
    unfold fnB at q
    simp only [Bool.and_eq_true, decide_eq_true_eq] at q
    obtain ⟨⟨⟨q1, q2⟩, q3⟩, q4⟩ := q
    obtain ⟨oc, od, kV, doc, pm, an, cdv, ct, osl, rfl, lk, hcd⟩ := ha.fn.ex
    refine fn_sound (exr := noEx) (d := d) lk hcd (scope_ok q1) hd q2 q3 fun A outer s H E τ hr hg => ?_
    refine PSs.nox (all_b (CX := CX0) (g := cfgOf T blts gcs i) (F := callF P n) (fz := d.io) ?_ ?_ q4)
    · refine ⟨rfl, rfl, hg, ?_, rfl, (scope_ok q1).nd, rfl, rfl, .never, fun _ _ _ _ _ _ _ h => h.elim, fun _ _ _ _ _ h => h.elim, hb, hgc, fun f hf => ?_⟩
      · have := hr.un
        show (A.deeper _).units + 100 < _
        omega
      · obtain ⟨i', m, h1, rfl⟩ := mem_fns hf
        obtain ⟨adr', fd', a'⟩ := hT i' (List.mem_of_getElem? h1)
        rw [Nat.zero_add]
        exact ⟨n, adr', fd', i'.ps, hr, a'.mg, a'.fn.kp, a'.b, rfl, ih m i' adr' fd' h1 a', a'.k⟩
    · intro i hi σ v k l hl
      have : i ≠ l := fun e => hi (by rw [e]; exact hl)
      rw [List.getElem?_set_ne this]
      exact k l hl
end L3

set_option maxHeartbeats 1000000
namespace L3
open PySem PySem.Spec PyProof.Rows L2
theorem ints_dpAll {K : PySem.W.Frag} {P : Hp} : ∀ ns : List Int, DpAll K P (ns.map V.int) (ns.map PyData.int)
  | [] => .nil
  | n :: ns => .cons (.int n) (ints_dpAll ns)
/-- the law's own call at the heap behind the top: the script is plain data -/
theorem law_go {Pg : Program} {w : World} {K : PySem.W.Frag} {mg mb : Str → Option Value} {k : Nat} {fa a : Addr} {fd : FuncData} {x : Str} {r : List D → FR} {s₁ : Shared} {vs : List Value} {ns : List Int}
    (KX : K.In s₁.heap) (hns : s₁.heap.Ns mainGlobals mg) (hb : s₁.heap.Ns builtinsNs mb) (hbb : ∀ x : Str, x ≠ "__name__" → mb x = bootBuiltins x) (hlim : s₁.heap.NoLimit) (hg : s₁.gens = #[])
    (ha : s₁.heap.get? a = some { cls := .type "list", data := .seq vs.toArray }) (hi : IntsAre vs ns) (hl : ns.length ≤ sizeLine) (hr : Room k callerA)
    (F : ∀ base : Heap, K.In base → base.Ns mainGlobals mg → FnG Pg w K mg base CX0 k fa fd [x] (SpD K noEx 1 r)) (hbind : ∀ u : Value, BindsTo s₁ fd ⟨[u], []⟩ [(x, u)])
    (hlaw : ∃ outs, r [.p (.list (ns.map .int))] = .ok (.p (.bool true)) outs) :
    codeAny (model Pg w) callerA (.call (.ref fa) ⟨[.ref a], []⟩) (fun r s' => r = .ok (.ret (.bool true)) ∧ OldK s₁.heap s'.heap ∧ s'.os = s₁.os ∧ AllBare s'.gens) s₁ := by
  have lenV := hi.length
  -- one run, from a heap in which at most the script is told
  have run : ∀ H : Hp, (∀ b u, H b = some u → b = a ∧ u = .frz { cls := .type "list", data := .seq vs.toArray } (.lst (ns.map V.int)) ∧ K.lookup a = none) → SqL K H a (ns.map V.int) → HOk Pg w H s₁.heap →
      codeAny (model Pg w) callerA (.call (.ref fa) ⟨[.ref a], []⟩) (fun r s' => r = .ok (.ret (.bool true)) ∧ OldK s₁.heap s'.heap ∧ s'.os = s₁.os ∧ AllBare s'.gens) s₁ := by
    intro H hH hS hok
    have plain : ∀ {b : Addr} {o : Obj}, s₁.heap.get? b = some o → (b = a → ∀ u, H a ≠ some u) → (hidT s₁.heap H).get? b = some o := fun {b o} e n => hidT_get e (by
      cases q : H b with
      | none => rfl
      | some u =>
        obtain ⟨rfl, _⟩ := hH b u q
        exact absurd q (n rfl u))
    have dicts : ∀ {b : Addr} {m : Str → Option Value}, s₁.heap.Ns b m → (hidT s₁.heap H).Ns b m := fun {b m} ⟨o, es, ep, e, d, q⟩ => ⟨o, es, ep, plain e (fun z u y => by
      subst z
      rw [ha] at e; cases e
      have d' : Data.seq vs.toArray _ = Data.dict es ep := d
      cases d'), d, q⟩
    have hKb : K.In (hidT s₁.heap H) := fun b o e => plain (KX b o e) fun z u y => by
      subst z
      rw [(hH b u y).2.2] at e; cases e
    have hM : Mod K mg (hidT s₁.heap H) := ⟨hKb, dicts hns, ⟨mb, dicts hb, hbb⟩, let ⟨mc, h1, h2⟩ := hlim; ⟨mc, dicts h1, h2⟩⟩
    have e0 : Env0 Pg w K mg (hidT s₁.heap H) callerA [] s₁ H := ⟨rfl, hM, fun b o e => of_hidT e, Nat.le_of_eq (hidT_size _ _), trivial, fun b hb => absurd (show b ∈ ([] : List Addr) from hb) (by simp), hok, .of_eq hg⟩
    have sp : SpD K noEx 1 r [.ref a] H (fun v _ => v = .bl true) fun _ _ _ => False := by
      obtain ⟨outs, e⟩ := hlaw
      have st : Sta K H H ([V.ref a].map some) ([D.p (.list (ns.map .int))].map some) (hcons L3.emp fun _ => L3.emp) :=
        (Sta.nil_ (Sub.refl H)).cons_ (Sub.emp _) (fun _ => Dj.emp _) (Dj.emp _) (fun y z => by cases z; exact ⟨.ref a, rfl, .p (.lst hS (ints_dpAll ns))⟩) (fun z => nomatch z)
      refine ⟨rfl, H, _, _, st, ?_⟩
      rw [e]
      intro v P' H' hs' hd so o tm n
      cases o with
      | p d => cases d; rfl
    refine codeAny_mono ((F _ hKb (dicts hns)).run callerA [] s₁ H ⟨[.ref a], []⟩ [.ref a] [.ref a] _ _ hr rfl e0 (hbind (.ref a)) (.cons rfl .nil) sp) fun r s' h => ?_
    cases r with
    | error e => exact False.elim h
    | ok fl =>
      cases fl <;> first | exact False.elim h | skip
      obtain ⟨v, H', os, bare, un, hok', r', q⟩ := h
      have q' : v = .bl true := q
      subst q'
      rename_i u
      obtain rfl : u = Value.bool true := r'
      refine ⟨rfl, OldK.of_keep fun b o e => ?_, os, bare⟩
      cases q : H b with
      | none => exact un.keep b o e q (by intro z; exact absurd (show b ∈ ([] : List Addr) from z) (by simp)) (by simp)
      | some u =>
        obtain ⟨rfl, rfl, _⟩ := hH b u q
        have z2 := un.frzs b _ _ q
        obtain ⟨e1, _⟩ := hok b _ q
        obtain ⟨e2, _⟩ := hok' b _ z2
        rw [e] at e1; cases e1
        exact e2
  cases hk : K.lookup a with
  | some o =>
    have e := KX a o hk
    rw [ha] at e
    cases e
    exact run (fun _ => none) (fun b u z => by cases z) (.inr ⟨_, vs.toArray, _, hk, rfl, rfl, rfl, by rw [List.size_toArray, lenV]; exact hl, by simpa using vals_ints hi⟩) fun b u z => by cases z
  | none =>
    refine run (fun b => if b = a then some (.frz { cls := .type "list", data := .seq vs.toArray } (.lst (ns.map V.int))) else none) (fun b u z => ?_) (.inl (.inr ⟨{ cls := .type "list", data := .seq vs.toArray }, if_pos rfl⟩)) fun b u z => ?_
    · by_cases hb : b = a
      · have z' := (if_pos hb).symm.trans z
        cases z'
        exact ⟨hb, rfl, hk⟩
      · have z' := (if_neg hb).symm.trans z
        cases z'
    · by_cases hb : b = a
      · have z' := (if_pos hb).symm.trans z
        cases z'
        subst hb
        exact ⟨ha, by rw [List.length_map]; exact hl, vs, _, vals_ints hi, ha⟩
      · have z' := (if_neg hb).symm.trans z
        cases z'
/-- THE HEAD: from the table of the text's defs and what the law's tree answers -/
theorem head {l : PySem.W.OpenLaw} {k j : Nat} {q : Program} {loose : List Str} {XP : (Str → Option Value) → Heap → Prop} {YP : World → Heap → Prop} {d : DefRec} {K : Params → PySem.W.Frag} {T : List FnI} {blts : List Str} {gcs : List (Str × Int)} {Pt : List Def} {i : FnI}
    (hn : l.most = some 63) (hdf : d.params.defaults = []) (hr : Room k callerA) (hY : ∀ (w : World) (h : Heap), YP w h → (K w.params).In h) (hc : tabB T blts gcs Pt = true) (hj : T[j]? = some i) (hps : i.ps = [("script" : Str)]) (hnm : i.nm = d.name)
    (F : ∀ (w : World) (mg : Str → Option Value) (fa : Addr) (h : Heap), (K w.params).In h → h.Ns mainGlobals mg → mg d.name = some (.ref fa) → (∀ i ∈ T, ∃ adr fd, FnA (K w.params) mg i adr fd) ∧ (∀ x ∈ blts, mg x = none) ∧ ∀ p ∈ gcs, ∃ t, mg p.1 = some (.int p.2 t))
    (hlaw : ∀ ns : List Int, ns.length ≤ 63 → (∀ z ∈ ns, Builtin.Int.intBits z ≤ 1048576) → ∃ outs, callF Pt k j [.p (.list (ns.map .int))] = .ok (.p (.bool true)) outs) :
    PySem.W.WalkO q loose XP YP l.row.toRowW d [] (fun f vs => PySem.call f vs) := by
  refine Att.attach_callB hn hdf fun w s₀ s₁ mg mb fa o pm cd doc a vs ns G Y ho hd hcd hmg hobj hints hlen hbits hg => ?_
  have KX := hY w _ Y
  obtain ⟨hT, hb, hgc⟩ := F w mg fa _ KX G.T.g hmg
  obtain ⟨adr, fd, ha⟩ := hT i (List.mem_of_getElem? hj)
  have e : adr = fa := by
    have h := ha.mg
    rw [hnm, hmg] at h
    cases h; rfl
  subst e
  have bind1 : ∀ u : Value, BindsTo s₁ fd ⟨[u], []⟩ [(("script" : Str), u)] := fun u => by
    have h := ha.b s₁ [u] KX (by rw [hps]; rfl)
    rw [hps] at h
    exact h
  refine law_go (x := "script") (r := callF Pt k j) KX G.T.g G.T.b G.T.builtins G.T.nolimit hg hobj hints (Nat.le_trans hlen (by rw [sizeLine_eq]; decide)) hr (fun base h1 h2 => ?_) bind1 (hlaw ns hlen hbits)
  have t := tab_sound (Pg := l.prog) (w := w) (base := base) hc hT hb hgc k j i adr fd hj ha
  rw [hps] at t
  exact t
/-- how a call by names binds -/
theorem kb_mk {K : PySem.W.Frag} {fd : FuncData} {ps kn : List Str} {ks : List Nat} (n : Nat) (hn : n + ks.length = ps.length) (h0 : ps ≠ [])
    (h : ∀ us ws : List Value, us.length = n → ws.length = ks.length → bindArgs fd ⟨us, kn.zip ws⟩ = pure (ps.zip (us ++ (prm ks ws).getD []))) : KBinds K fd ps kn (gVk ps.length ks) (gVk ps.length ks) := by
  refine ⟨fun s us ws _ hl => ?_, fun {vs us zs ws} r1 r2 => ?_⟩
  · by_cases c : us.length + ks.length = ps.length ∧ ws.length = ks.length
    · have e : gVk ps.length ks us ws = us ++ (prm ks ws).getD [] := if_pos c
      rw [e]
      exact .of_eq (h us ws (by omega) c.2)
    · have e : gVk ps.length ks us ws = [] := if_neg c
      rw [e] at hl
      exact absurd (List.length_eq_zero_iff.mp hl.symm) h0
  · have e1 := r1.length
    have e2 := r2.length
    unfold gVk
    rw [e1, e2]
    split
    · have key : ∀ {ks : List Nat}, (∃ a b, prm ks zs = some a ∧ prm ks ws = some b ∧ Vals a b) ∨ (prm ks zs = none ∧ prm ks ws = none) := fun {ks} => by
        induction ks with
        | nil => exact .inl ⟨[], [], rfl, rfl, .nil⟩
        | cons k ks ih =>
          cases q : zs[k]? with
          | none =>
            have q2 : ws[k]? = none := by
              rw [List.getElem?_eq_none_iff] at q ⊢
              omega
            exact .inr ⟨by rw [prm, q], by rw [prm, q2]⟩
          | some z =>
            obtain ⟨u, hu, ru⟩ := r2.get q
            rcases ih with ⟨a, b, h1, h2, h3⟩ | ⟨h1, h2⟩
            · exact .inl ⟨z :: a, u :: b, by rw [prm, q, h1], by rw [prm, hu, h2], .cons ru h3⟩
            · exact .inr ⟨by rw [prm, q, h1], by rw [prm, hu, h2]⟩
      rcases key (ks := ks) with ⟨a, b, h1, h2, h3⟩ | ⟨h1, h2⟩
      · rw [h1, h2]; exact r1.append h3
      · rw [h1, h2]; exact r1.append .nil
    · exact .nil
end L3

/-! Facts for going through a tree by simp: ints, lists and tuples of ints. -/
namespace L3
open PySem
/-- lists of ints as data -/
def iL (ns : List Int) : List PyData := ns.map .int
theorem lay_ints : ∀ ns : List Int, PyData.canLayAll0 (iL ns) = true
  | [] => by simp [iL, PyData.canLayAll0]
  | n :: ns => by
    have := lay_ints ns
    simp only [iL] at this
    simp [iL, PyData.canLayAll0, PyData.canLay0, this]
theorem depth_ints : ∀ ns : List Int, PyData.depthAll (iL ns) = 0
  | [] => by simp [iL, PyData.depthAll]
  | n :: ns => by
    have := depth_ints ns
    simp only [iL] at this
    simp [iL, PyData.depthAll, PyData.depth, this]
theorem shp_int (i : Int) : shp (.int i) = true := by simp [shp, SeqAt.shaped, PyData.canLay0, PyData.depth]
theorem shp_bool (i : Bool) : shp (.bool i) = true := by simp [shp, SeqAt.shaped, PyData.canLay0, PyData.depth]
theorem shp_lints (ns : List Int) : shp (.list (iL ns)) = true := by simp [shp, SeqAt.shaped, PyData.canLay0, PyData.depth, lay_ints, depth_ints]
theorem shp_tints (ns : List Int) : shp (.tuple (iL ns)) = true := by simp [shp, SeqAt.shaped, PyData.canLay0, PyData.depth, lay_ints, depth_ints]
theorem shp_nil : shp (.list []) = true := shp_lints []
theorem eqv_ints : ∀ xs ys : List Int, PyData.eqvAll (iL xs) (iL ys) = decide (xs = ys)
  | [], [] => by simp [iL, PyData.eqvAll]
  | [], y :: ys => by simp [iL, PyData.eqvAll]
  | x :: xs, [] => by simp [iL, PyData.eqvAll]
  | x :: xs, y :: ys => by
    have := eqv_ints xs ys
    simp only [iL] at this
    simp only [iL, List.map_cons, PyData.eqvAll, PyData.eqv, this]
    by_cases e : x = y <;> by_cases f : xs = ys <;> simp [e, f]
theorem cmp_lt (i j : Int) : cmpD .lt (.int i) (.int j) = some (decide (i < j)) := by simp [cmpD, shp_int, ltD]
theorem cmp_le (i j : Int) : cmpD .le (.int i) (.int j) = some (decide (i ≤ j)) := by simp [cmpD, shp_int, leD]
theorem cmp_ge (i j : Int) : cmpD .ge (.int i) (.int j) = some (decide (j ≤ i)) := rfl
theorem cmp_gt (i j : Int) : cmpD .gt (.int i) (.int j) = some (decide (j < i)) := rfl
theorem cmp_eq (i j : Int) : cmpD .eq (.int i) (.int j) = some (i == j) := by simp [cmpD, shp_int, PyData.eqv]
theorem cmp_ne (i j : Int) : cmpD .ne (.int i) (.int j) = some (!(i == j)) := by simp [cmpD, shp_int, PyData.eqv]
theorem cmp_eqL (xs ys : List Int) : cmpD .eq (.list (iL xs)) (.list (iL ys)) = some (decide (xs = ys)) := by simp only [cmpD, shp_lints, PyData.eqv, eqv_ints]; simp
theorem cmp_neL (xs ys : List Int) : cmpD .ne (.list (iL xs)) (.list (iL ys)) = some (!decide (xs = ys)) := by simp only [cmpD, shp_lints, PyData.eqv, eqv_ints]; simp
theorem cmp_neN (xs : List Int) : cmpD .ne (.list (iL xs)) (.list []) = some (!decide (xs = [])) := cmp_neL xs []
theorem cmp_eqN (xs : List Int) : cmpD .eq (.list (iL xs)) (.list []) = some (decide (xs = [])) := cmp_eqL xs []
theorem cmp_neNN : cmpD .ne (.list []) (.list []) = some false := cmp_neL [] []
theorem cmp_eqNN : cmpD .eq (.list []) (.list []) = some true := cmp_eqL [] []
theorem bin_add (i j : Int) : bin .add (.int i) (.int j) = some (.p (.int (i + j))) := rfl
theorem bin_sub (i j : Int) : bin .sub (.int i) (.int j) = some (.p (.int (i - j))) := rfl
theorem bin_mod {i j : Int} (h : 0 < j) : bin .mod (.int i) (.int j) = some (.p (.int (i % j))) := by simp [bin, h]
theorem bin_fdiv {i j : Int} (h : 0 < j) (h2 : j < 1073741824) : bin .fdiv (.int i) (.int j) = some (.p (.int (i / j))) := by simp [bin, h, h2]
theorem two64_of {i : Int} (h : -(2 ^ 64) < i) (h2 : i < 2 ^ 64) : two64 i = true := by simp [two64]; omega
theorem bin_mul {i j : Int} (h : two64 i = true ∨ two64 j = true) : bin .mul (.int i) (.int j) = some (.p (.int (i * j))) := by
  simp only [bin]
  rw [if_pos (by simpa [Bool.or_eq_true] using h)]
end L3

namespace L3
open PySem
/-- a comprehension whose test and item change nothing, one name -/
theorem lc_gen {i : Nat} {tst : Env → Res Bool} {elt : Env → Res T} {ρ : Env} (hw : ρ.set i none = ρ) (g : PyData → Option PyData) : ∀ (items acc : List PyData), acc.length + items.length < 100000 →
    (∀ x ∈ items, (g x = none ∧ tst (ρ.set i (some (.p x))) = .ok false (ρ.set i (some (.p x)))) ∨ ∃ y, g x = some y ∧ tst (ρ.set i (some (.p x))) = .ok true (ρ.set i (some (.p x))) ∧ elt (ρ.set i (some (.p x))) = .ok (.o (.p y)) (ρ.set i (some (.p x)))) →
    lcL [i] (.n i) tst elt items acc ρ = .ok (acc ++ items.filterMap g) ρ
  | [], acc, _, _ => by simp [lcL]
  | x :: items, acc, hl, h => by
    have ih := fun acc' hl' => lc_gen hw g items acc' hl' fun y hy => h y (List.mem_cons_of_mem _ hy)
    have w1 : wipe ρ [i] = ρ := by simp [wipe, hw]
    have w2 : wipe (ρ.set i (some (.p x))) [i] = ρ := by simp [wipe, hw]
    have hz : acc.length < sizeLine := Nat.lt_of_lt_of_le (m := 100000) (by simp at hl; omega) (by rw [sizeLine_eq]; decide)
    rw [lcL, w1]
    simp only [bindT]
    rcases h x (List.mem_cons_self ..) with ⟨h1, h2⟩ | ⟨y, h1, h2, h3⟩
    · rw [h2]
      simp only [Res.calm, Res.bind, w2, Bool.false_eq_true, if_false]
      rw [ih acc (by simp at hl; omega)]
      simp [h1]
    · rw [h2]
      simp only [Res.calm, Res.bind, if_true, h3, T.pure, hz, w2]
      rw [ih (acc ++ [y]) (by simp at hl ⊢; omega)]
      simp [h1]
/-- .. over ints, a test of ints -/
def gInt (p : Int → Bool) : PyData → Option PyData
  | .int x => if p x then some (.int x) else none
  | _ => none
theorem fm_filter (p : Int → Bool) : ∀ xs : List Int, (iL xs).filterMap (gInt p) = iL (xs.filter p)
  | [] => rfl
  | x :: xs => by
    have ih := fm_filter p xs
    simp only [iL] at ih ⊢
    rw [List.map_cons, List.filterMap_cons, List.filter_cons]
    by_cases h : p x = true
    · simp [gInt, h, ih]
    · simp [gInt, h, ih]
end L3

/-! What is drawn: a law's loom and the helpers over it, once for all laws. -/
namespace L3
open PySem
theorem len_iL (xs : List Int) : (iL xs).length = xs.length := by simp [iL]
theorem app_iL (xs ys : List Int) : iL xs ++ iL ys = iL (xs ++ ys) := by simp [iL]
theorem line_big {n : Nat} (h : n ≤ 16777216) : n ≤ sizeLine := by rw [sizeLine_eq]; exact h
/-- a def's run -/
theorem callF_run {P : List Def} {n f : Nat} {ds : List D} {d : Def} {ρ : Env} (h : P[f]? = some d) (hl : ds.length = d.np) (hρ : ds.map some ++ List.replicate (d.ns - d.np) none = ρ) :
    callF P (n + 1) f ds = match exb (callF P n) d.body ρ with
        | .rt v ρ => .ok v (outs ρ d.np d.io)
        | .nx ρ => .ok (.p .none) (outs ρ d.np d.io)
        | .ex x ρ => .ex x (outs ρ d.np d.io)
        | _ => .st := by
  rw [callF, h]
  simp only [hl, if_true, hρ]
  all_goals (cases exb (callF P n) d.body ρ <;> rfl)
theorem run_rt {P : List Def} {n f : Nat} {ds : List D} {d : Def} {ρ ρ' : Env} {v : D} {o : List (Option D)} (h : P[f]? = some d) (hl : ds.length = d.np) (hρ : ds.map some ++ List.replicate (d.ns - d.np) none = ρ)
    (e : exb (callF P n) d.body ρ = .rt v ρ') (ho : outs ρ' d.np d.io = o) : callF P (n + 1) f ds = .ok v o := by
  rw [callF_run h hl hρ, e]
  simp only [ho]
/-! ### loops -/
theorem forL_ind {tg : Tg} {body : Env → Fl} (I : List PyData → Env → Prop) (Q : Fl → Prop) (hnil : ∀ ρ, I [] ρ → Q (.nx ρ))
    (hcons : ∀ x xs ρ, I (x :: xs) ρ → ∃ ρ1, bindT tg x ρ = some ρ1 ∧ match body ρ1 with | .nx ρ2 => I xs ρ2 | .ct ρ2 => I xs ρ2 | .bk ρ2 => Q (.nx ρ2) | f => Q f) :
    ∀ xs ρ, I xs ρ → Q (forL tg body xs ρ)
  | [], ρ, h => by rw [forL]; exact hnil ρ h
  | x :: xs, ρ, h => by
    obtain ⟨ρ1, e1, h1⟩ := hcons x xs ρ h
    rw [forL, e1]
    dsimp only
    revert h1
    cases body ρ1 with
    | nx ρ2 => intro h1; exact forL_ind I Q hnil hcons xs ρ2 h1
    | ct ρ2 => intro h1; exact forL_ind I Q hnil hcons xs ρ2 h1
    | bk ρ2 => intro h1; exact h1
    | rt d ρ2 => intro h1; exact h1
    | ex x ρ2 => intro h1; exact h1
    | st => intro h1; exact h1
/-- a comprehension of one name over items told by inj, whose test and item change nothing -/
theorem lc_map {α : Type} (inj : α → PyData) (p : α → Bool) (f : α → PyData) {i : Nat} {tst : Env → Res Bool} {elt : Env → Res T} {ρ : Env} (hw : ρ.set i none = ρ) : ∀ (xs : List α) (acc : List PyData), acc.length + xs.length < 16777216 →
    (∀ x ∈ xs, tst (ρ.set i (some (.p (inj x)))) = .ok (p x) (ρ.set i (some (.p (inj x)))) ∧ (p x = true → elt (ρ.set i (some (.p (inj x)))) = .ok (.o (.p (f x))) (ρ.set i (some (.p (inj x)))))) →
    lcL [i] (.n i) tst elt (xs.map inj) acc ρ = .ok (acc ++ (xs.filter p).map f) ρ
  | [], acc, _, _ => by simp [lcL]
  | x :: xs, acc, hl, h => by
    have ih := fun acc' hl' => lc_map inj p f hw xs acc' hl' fun y hy => h y (List.mem_cons_of_mem _ hy)
    have w1 : wipe ρ [i] = ρ := by simp [wipe, hw]
    have w2 : wipe (ρ.set i (some (.p (inj x)))) [i] = ρ := by simp [wipe, hw]
    have hz : acc.length < sizeLine := Nat.lt_of_lt_of_le (m := 16777216) (by simp at hl; omega) (line_big (Nat.le_refl _))
    rw [List.map_cons, lcL, w1]
    simp only [bindT]
    obtain ⟨h2, h3⟩ := h x (List.mem_cons_self ..)
    rw [h2]
    by_cases c : p x = true
    · simp only [c, Res.calm, Res.bind, if_true, h3 c, T.pure, hz, w2]
      rw [ih (acc ++ [f x]) (by simp at hl ⊢; omega)]
      simp [c]
    · simp only [Bool.not_eq_true] at c
      simp only [c, Res.calm, Res.bind, w2, Bool.false_eq_true, if_false]
      rw [ih acc (by simp at hl; omega)]
      simp [c]
/-- one behind another, what is not told of the state kept in J -/
theorem lc_ind {own : List Nat} {tg : Tg} {tst : Env → Res Bool} {elt : Env → Res T} (J : List PyData → List PyData → Env → Prop) (Q : Res (List PyData) → Prop) (hnil : ∀ acc ρ, J [] acc ρ → Q (.ok acc ρ))
    (hcons : ∀ x xs acc ρ, J (x :: xs) acc ρ → acc.length < sizeLine ∧ ∃ ρ1, bindT tg x (wipe ρ own) = some ρ1 ∧ ∃ b ρ2, tst ρ1 = .ok b ρ2 ∧ if b then ∃ y ρ3, elt ρ2 = .ok (.o (.p y)) ρ3 ∧ J xs (acc ++ [y]) (wipe ρ3 own) else J xs acc (wipe ρ2 own)) :
    ∀ xs acc ρ, J xs acc ρ → Q (lcL own tg tst elt xs acc ρ)
  | [], acc, ρ, h => by rw [lcL]; exact hnil _ _ h
  | x :: xs, acc, ρ, h => by
    obtain ⟨hz, ρ1, e1, b, ρ2, e2, h2⟩ := hcons x xs acc ρ h
    rw [lcL, e1]
    simp only [e2, Res.calm, Res.bind]
    cases b with
    | true =>
      rw [if_pos rfl] at h2
      obtain ⟨y, ρ3, e3, h3⟩ := h2
      simp only [if_true, e3, Res.calm, Res.bind, T.pure, hz]
      exact lc_ind J Q hnil hcons xs _ _ h3
    | false =>
      rw [if_neg (by simp)] at h2
      simp only [Bool.false_eq_true, if_false]
      exact lc_ind J Q hnil hcons xs _ _ h2
/-! ### the loom -/
/-- the loom -/
def Lm (far : List Int) (st ti : Int) : D := .d [(.inr "far", .l (iL far)), (.inr "stirred", .p (.int st)), (.inr "times", .p (.int ti))]
def IsLm (d : D) : Prop := ∃ far st ti, d = Lm far st ti ∧ far.length ≤ 64
theorem lk1 : ¬ (Str.ofString "far" = Str.ofString "stirred") := by decide
theorem lk2 : ¬ (Str.ofString "far" = Str.ofString "times") := by decide
theorem lk3 : ¬ (Str.ofString "stirred" = Str.ofString "times") := by decide
theorem lg1 {far st ti} : getAt (Lm far st ti) (.str "far") = some (.l (iL far)) := by simp [Lm, getAt, keyOf, kvGet]
theorem lg2 {far st ti} : getAt (Lm far st ti) (.str "stirred") = some (.p (.int st)) := by simp [Lm, getAt, keyOf, kvGet, lk1]
theorem lg3 {far st ti} : getAt (Lm far st ti) (.str "times") = some (.p (.int ti)) := by simp [Lm, getAt, keyOf, kvGet, lk2, lk3]
theorem ls1 {far st ti} {xs : List Int} : setAt (Lm far st ti) (.str "far") (.l (iL xs)) = some (Lm xs st ti) := by simp [Lm, setAt, keyOf, kvPut]
theorem ls3 {far st ti} {x : Int} : setAt (Lm far st ti) (.str "times") (.p (.int x)) = some (Lm far st x) := by simp [Lm, setAt, keyOf, kvPut, lk2, lk3]
theorem pop_last {far : List Int} {c : Int} : meth .pop [] (.l (iL (far ++ [c]))) = some (.int c, .l (iL far)) := by
  simp [meth, iL]
theorem app_one {far : List Int} {c : Int} (h : far.length < 1000000) : meth .append [.int c] (.l (iL far)) = some (.none, .l (iL (far ++ [c]))) := by
  have : far.length < sizeLine := Nat.lt_of_lt_of_le h (by rw [sizeLine_eq]; decide)
  simp [meth, iL, this]
theorem app_any {xs : List PyData} {c : PyData} (h : xs.length < 16777216) : meth .append [c] (.l xs) = some (.none, .l (xs ++ [c])) := by
  have : xs.length < sizeLine := Nat.lt_of_lt_of_le h (line_big (Nat.le_refl _))
  simp [meth, this]
/-- what a draw promises, of looms as L tells -/
def DrawF (L : D → Prop) (F : FT) (i : Nat) : Prop := ∀ (d : D) (many : Int), L d → 1 ≤ many → many < 1073741824 → ∃ r d', F i [d, .p (.int many)] = .ok (.p (.int r)) [some d', none] ∧ L d' ∧ 0 ≤ r ∧ r < many
def drawB : List S := [
  .ifs (.cmp .lt (.pk 1) (.c (.int 2))) [.ret (.c (.int 0))] [],
  .ifs (.cmp .ne (.path 0 (.c (.str "far"))) (.lst [])) [.asg (.n 3) (.mut .pop 0 [.c (.str "far")] []), .ifs (.cmp .ge (.pk 3) (.pk 1)) [.expr (.mut .append 0 [.c (.str "far")] [.bin .fdiv (.pk 3) (.pk 1)])] [], .ret (.bin .mod (.bi .int [.pk 3]) (.pk 1))] [],
  .asg (.ix 0 [] (.c (.str "times"))) (.bin .add (.path 0 (.c (.str "times"))) (.c (.int 1))),
  .asg (.n 2) (.bin .mod (.bi .int [.bin .add (.path 0 (.c (.str "stirred"))) (.bin .mul (.c (.int 2654435761)) (.path 0 (.c (.str "times"))))]) (.c (.int 4294967279))),
  .asg (.n 2) (.bin .mod (.bi .int [.bin .add (.bin .add (.bin .mul (.pk 2) (.pk 2)) (.bin .mul (.c (.int 40503)) (.path 0 (.c (.str "times"))))) (.c (.int 17))]) (.c (.int 4294967231))),
  .asg (.n 2) (.bin .mod (.bi .int [.bin .add (.bin .mul (.pk 2) (.pk 2)) (.path 0 (.c (.str "stirred")))]) (.c (.int 4294967197))),
  .ret (.bin .mod (.bi .int [.bin .fdiv (.pk 2) (.c (.int 128))]) (.pk 1))]
def drawD : Def := ⟨2, 4, [0], drawB⟩
theorem draw_ok {F : FT} {d : D} {many : Int} (hd : IsLm d) (hm : many < 1073741824) : ∃ r d' ρ, exb F drawB [some d, some (.p (.int many)), none, none] = .rt (.p (.int r)) ρ ∧ outs ρ 2 [0] = [some d', none] ∧ IsLm d' ∧ 0 ≤ r ∧ (r < many ∨ r = 0) := by
  obtain ⟨far, st, ti, rfl, hf⟩ := hd
  by_cases h : many < 2
  · refine ⟨0, Lm far st ti, [some (Lm far st ti), some (.p (.int many)), none, none], ?_, rfl, ⟨far, st, ti, rfl, hf⟩, by omega, .inr rfl⟩
    simp [drawB, exb, exs, tst, ev, Fl.seq, Res.fl, Res.bind, slot, T.dat, D.flat, qok, isQ, E.quiet, cmp_lt, truth, h]
  · have hp : 0 < many := by omega
    have m0 : ∀ x : Int, 0 ≤ x % many ∧ x % many < many := fun x => ⟨Int.emod_nonneg _ (by omega), Int.emod_lt_of_pos _ hp⟩
    rcases List.eq_nil_or_concat far with rfl | ⟨far, c, rfl⟩
    · let one1 := (st + 2654435761 * (ti + 1)) % 4294967279
      let one2 := (one1 * one1 + 40503 * (ti + 1) + 17) % 4294967231
      let one3 := (one2 * one2 + st) % 4294967197
      have b1 : two64 one1 = true := two64_of (by have := Int.emod_nonneg (st + 2654435761 * (ti + 1)) (b := 4294967279) (by decide); omega) (by have := Int.emod_lt_of_pos (st + 2654435761 * (ti + 1)) (b := 4294967279) (by decide); omega)
      have b2 : two64 one2 = true := two64_of (by have := Int.emod_nonneg (one1 * one1 + 40503 * (ti + 1) + 17) (b := 4294967231) (by decide); omega) (by have := Int.emod_lt_of_pos (one1 * one1 + 40503 * (ti + 1) + 17) (b := 4294967231) (by decide); omega)
      have e0 : cmpD .ne (.list (iL [])) (.list []) = some false := by rw [cmp_neN]; simp
      refine ⟨(one3 / 128) % many, Lm [] st (ti + 1), [some (Lm [] st (ti + 1)), some (.p (.int many)), some (.p (.int one3)), none], ?_, rfl, ⟨[], st, ti + 1, rfl, by simp⟩, (m0 _).1, .inl (m0 _).2⟩
      have c1 : two64 2654435761 = true := by decide
      have c2 : two64 40503 = true := by decide
      simp [drawB, exb, exs, tst, ev, evd, evk, evl, sto, chg, has, atK, Fl.seq, Res.fl, Res.bind, slot, T.dat, T.pure, D.flat, qok, isQ, E.quiet, quiets, cmp_lt, e0, truth, h, lg1, lg2, lg3, ls3, bin_add, bin_mod, bin_fdiv, bin_mul, b1, b2, c1, c2, dats, bi, hp, one1, one2, one3]
    · have hl : far.length < 1000000 := by simp at hf; omega
      have e0 : cmpD .ne (.list (iL (far ++ [c]))) (.list []) = some true := by rw [cmp_neN]; simp
      have e1 : getAt (Lm (far ++ [c]) st ti) (.str "far") = some (.l (iL (far ++ [c]))) := lg1
      have e2 : meth .pop [] (.l (iL (far ++ [c]))) = some (.int c, .l (iL far)) := pop_last
      by_cases hc : many ≤ c
      · refine ⟨c % many, Lm (far ++ [c / many]) st ti, [some (Lm (far ++ [c / many]) st ti), some (.p (.int many)), none, some (.p (.int c))], ?_, rfl, ⟨far ++ [c / many], st, ti, rfl, by simpa using hf⟩, (m0 _).1, .inl (m0 _).2⟩
        have e3 : meth .append [.int (c / many)] (.l (iL far)) = some (.none, .l (iL (far ++ [c / many]))) := app_one hl
        have e4 : setAt (Lm far st ti) (.str "far") (.l (iL (far ++ [c / many]))) = some (Lm (far ++ [c / many]) st ti) := ls1
        have e5 : setAt (Lm (far ++ [c]) st ti) (.str "far") (.l (iL far)) = some (Lm far st ti) := ls1
        have e6 : getAt (Lm far st ti) (.str "far") = some (.l (iL far)) := lg1
        simp [drawB, exb, exs, tst, ev, evd, evk, evl, sto, chg, has, atK, isL, isOwnL, margs, pures, Fl.seq, Res.fl, Res.bind, slot, T.dat, T.pure, D.flat, qok, isQ, E.quiet, quiets, cmp_lt, cmp_ge, truth, h, hc, e0, e1, e2, e3, e4, e5, e6, bin_add, bin_mod, bin_fdiv, bin_mul, dats, bi, hp, hm]
      · refine ⟨c % many, Lm far st ti, [some (Lm far st ti), some (.p (.int many)), none, some (.p (.int c))], ?_, rfl, ⟨far, st, ti, rfl, by simp at hf; omega⟩, (m0 _).1, .inl (m0 _).2⟩
        have e5 : setAt (Lm (far ++ [c]) st ti) (.str "far") (.l (iL far)) = some (Lm far st ti) := ls1
        simp [drawB, exb, exs, tst, ev, evd, evk, evl, sto, chg, has, atK, isL, isOwnL, margs, pures, Fl.seq, Res.fl, Res.bind, slot, T.dat, T.pure, D.flat, qok, isQ, E.quiet, quiets, cmp_lt, cmp_ge, truth, h, hc, e0, e1, e2, e5, bin_add, bin_mod, bin_fdiv, bin_mul, dats, bi, hp, hm]
theorem draw_def {P : List Def} {i : Nat} (h : P[i]? = some drawD) (n : Nat) : DrawF IsLm (callF P (n + 1)) i := fun d many hd h1 hm => by
  obtain ⟨r, d', ρ, e, ho, h2, h3, h4⟩ := draw_ok (F := callF P n) hd hm
  exact ⟨r, d', run_rt h rfl rfl e ho, h2, h3, by omega⟩
/-! ### one of some things -/
theorem flat_p {x : PyData} : (D.p x).flat = some x := rfl
theorem flat_l {x : List PyData} : (D.l x).flat = some (.list x) := rfl
def pickD (f : Nat) : Def := ⟨2, 2, [0], [.ret (.at (.pk 1) (.fz (.call f [.io 0, .bi .len [.pk 1]])))]⟩
def PickF (L : D → Prop) (F : FT) (i : Nat) : Prop := ∀ (d t : D) (xs : List PyData), L d → (t.flat = some (.list xs) ∨ t.flat = some (.tuple xs)) → xs ≠ [] → xs.length < 1000000 → ∃ x d', F i [d, t] = .ok (.p x) [some d', none] ∧ L d' ∧ x ∈ xs
theorem ix_nat {n : Nat} {r : Int} (h0 : 0 ≤ r) (h1 : r < n) : ix n r = some r.toNat := by
  unfold ix L2.ixN
  rw [if_pos h0, if_pos h1]
theorem atD_list {xs : List PyData} {r : Int} (h0 : 0 ≤ r) (h1 : r < xs.length) : atD (.list xs) (.int r) = some (xs[r.toNat]'(by omega)) := by
  simp only [atD, ix_nat h0 h1, Option.bind_some]
  have l : r.toNat < xs.length := by omega
  simp [l]
theorem atD_tuple {xs : List PyData} {r : Int} (h0 : 0 ≤ r) (h1 : r < xs.length) : atD (.tuple xs) (.int r) = some (xs[r.toNat]'(by omega)) := by
  simp only [atD, ix_nat h0 h1, Option.bind_some]
  have l : r.toNat < xs.length := by omega
  simp [l]
theorem pick_def {L : D → Prop} {P : List Def} {f i n : Nat} (h : P[i]? = some (pickD f)) (hd : DrawF L (callF P n) f) : PickF L (callF P (n + 1)) i := fun d t xs hL ht hx hl => by
  have hp : 0 < xs.length := List.length_pos_iff.mpr hx
  obtain ⟨r, d', e, h1, h2, h3⟩ := hd d (xs.length : Int) hL (by omega) (by omega)
  have hr : r < xs.length := by omega
  have l : r.toNat < xs.length := by omega
  refine ⟨xs[r.toNat], d', run_rt (ρ' := [some d', some t]) h rfl rfl ?_ rfl, h1, List.getElem_mem l⟩
  rcases ht with ht | ht
  · simp [pickD, exb, exs, ev, evl, kCall, takeArgs, putBack, Fl.seq, Res.fl, Res.bind, slot, T.dat, T.pure, flat_p, ht, fz, qok, isQ, E.quiet, quiets, dats, bi, e, atD_list h2 hr]
  · simp [pickD, exb, exs, ev, evl, kCall, takeArgs, putBack, Fl.seq, Res.fl, Res.bind, slot, T.dat, T.pure, flat_p, ht, fz, qok, isQ, E.quiet, quiets, dats, bi, e, atD_tuple h2 hr]
/-! ### some things in a drawn order -/
def mixedD (f : Nat) : Def := ⟨2, 4, [0], [
  .asgs [.n 2, .n 3] [.bi .list [.pk 1], .lst []],
  .while (.cmp .ne (.pk 2) (.lst [])) [.expr (.mut .append 3 [] [.mut .pop 2 [] [.fz (.call f [.io 0, .bi .len [.pk 2]])]])],
  .ret (.mv 3)]⟩
theorem popAt {xs : List PyData} {r : Int} (h0 : 0 ≤ r) (h1 : r < xs.length) (hl : xs.length < 1000000) : meth .pop [.int r] (.l xs) = some (xs[r.toNat]'(by omega), .l (xs.eraseIdx r.toNat)) := by
  have l : r.toNat < xs.length := by omega
  have sm : small62 r = true := by simp [small62]; omega
  have e : seqIndex? r xs.length = some r.toNat := (L2.ixN_seq (n := xs.length) (i := r) (j := r.toNat) (by unfold L2.ixN; rw [if_pos h0, if_pos h1])).1
  simp only [meth, sm, if_true, e, Option.bind_some]
  simp [l]
theorem perm_erase {α : Type} : ∀ (ys : List α) (k : Nat) (hk : k < ys.length), (ys[k] :: ys.eraseIdx k).Perm ys
  | y :: ys, 0, hk => by simp
  | y :: ys, k + 1, hk => by
    simp only [List.getElem_cons_succ, List.eraseIdx_cons_succ]
    exact (List.Perm.swap ..).trans ((perm_erase ys k (by simpa using hk)).cons y)
/-- plain data of so little depth -/
def Sh (k : Nat) (x : PyData) : Prop := x.canLay0 = true ∧ x.depth ≤ k
theorem canAll : ∀ xs : List PyData, PyData.canLayAll0 xs = true ↔ ∀ x ∈ xs, x.canLay0 = true
  | [] => by simp [PyData.canLayAll0]
  | x :: xs => by simp [PyData.canLayAll0, canAll xs]
theorem depAll (k : Nat) : ∀ xs : List PyData, PyData.depthAll xs ≤ k ↔ ∀ x ∈ xs, x.depth ≤ k
  | [] => by simp [PyData.depthAll]
  | x :: xs => by simp [PyData.depthAll, depAll k xs, Nat.max_le]
theorem Sh.list {k : Nat} {xs : List PyData} (h : ∀ x ∈ xs, Sh k x) : Sh (k + 1) (.list xs) := ⟨by simpa [PyData.canLay0, canAll] using fun x hx => (h x hx).1, by simpa [PyData.depth, depAll] using fun x hx => (h x hx).2⟩
theorem Sh.tuple {k : Nat} {xs : List PyData} (h : ∀ x ∈ xs, Sh k x) : Sh (k + 1) (.tuple xs) := ⟨by simpa [PyData.canLay0, canAll] using fun x hx => (h x hx).1, by simpa [PyData.depth, depAll] using fun x hx => (h x hx).2⟩
theorem Sh.int {k : Nat} {i : Int} : Sh k (.int i) := ⟨by simp [PyData.canLay0], by simp [PyData.depth]⟩
theorem Sh.bool {k : Nat} {i : Bool} : Sh k (.bool i) := ⟨by simp [PyData.canLay0], by simp [PyData.depth]⟩
theorem Sh.none {k : Nat} : Sh k .none := ⟨by simp [PyData.canLay0], by simp [PyData.depth]⟩
theorem Sh.up {k m : Nat} {x : PyData} (h : Sh k x) (l : k ≤ m) : Sh m x := ⟨h.1, Nat.le_trans h.2 l⟩
theorem Sh.shp {k : Nat} {x : PyData} (h : Sh k x) (l : k ≤ 64 := by decide) : shp x = true := by
  have := Nat.le_trans h.2 l
  simp [L3.shp, SeqAt.shaped, h.1, this]
theorem Sh.iL {k : Nat} {xs : List Int} : ∀ x ∈ iL xs, Sh k x := fun x hx => by
  simp only [L3.iL, List.mem_map] at hx
  obtain ⟨i, _, rfl⟩ := hx
  exact Sh.int
theorem neNil (xs : List PyData) (h : ∀ x ∈ xs, Sh 60 x) : cmpD .ne (.list xs) (.list []) = some (!xs.isEmpty) := by
  simp only [cmpD, (Sh.list h).shp, shp_nil, PyData.eqv]
  cases xs <;> simp [PyData.eqvAll]
theorem eqNil (xs : List PyData) (h : ∀ x ∈ xs, Sh 60 x) : cmpD .eq (.list xs) (.list []) = some xs.isEmpty := by
  simp only [cmpD, (Sh.list h).shp, shp_nil, PyData.eqv]
  cases xs <;> simp [PyData.eqvAll]
theorem neNilT (xs : List PyData) (h : ∀ x ∈ xs, Sh 60 x) : cmpD .ne (.tuple xs) (.tuple []) = some (!xs.isEmpty) := by
  have : shp (.tuple []) = true := shp_tints []
  simp only [cmpD, (Sh.tuple h).shp, this, PyData.eqv]
  cases xs <;> simp [PyData.eqvAll]
def MixedF (L : D → Prop) (F : FT) (i : Nat) : Prop := ∀ (d t : D) (xs : List PyData), L d → (t.flat = some (.list xs) ∨ t.flat = some (.tuple xs)) → (∀ x ∈ xs, Sh 60 x) → xs.length < 1000000 → ∃ ys d', F i [d, t] = .ok (.l ys) [some d', none] ∧ L d' ∧ ys.Perm xs
def mixW (f : Nat) : List S := [.expr (.mut .append 3 [] [.mut .pop 2 [] [.fz (.call f [.io 0, .bi .len [.pk 2]])]])]
theorem mix_loop {L : D → Prop} {F : FT} {f : Nat} (hd : DrawF L F f) {th : D} : ∀ (m : Nat) (rest found : List PyData) (d : D), rest.length < m → rest.length + found.length < 1000000 → (∀ x ∈ rest, Sh 60 x) → L d →
    ∃ found' d', whileL (tst F (.cmp .ne (.pk 2) (.lst []))) (exb F (mixW f)) m [some d, some th, some (.l rest), some (.l found)] =
      .nx [some d', some th, some (.l []), some (.l found')] ∧ found'.Perm (found ++ rest) ∧ L d'
  | 0, _, _, _, h, _, _, _ => absurd h (Nat.not_lt_zero _)
  | m + 1, [], found, d, h, _, _, hf => by
    have e0 : cmpD .ne (.list []) (.list []) = some false := cmp_neNN
    refine ⟨found, d, ?_, by simp, hf⟩
    simp [whileL, tst, ev, evd, Res.fl, Res.bind, slot, T.dat, D.flat, qok, isQ, E.quiet, truth, e0]
  | m + 1, x :: rest, found, d, h, hl, hs, hf => by
    obtain ⟨r, d', e, h2, h0, h1⟩ := hd d ((x :: rest).length : Int) hf (by simp; omega) (by simp at hl ⊢; omega)
    have hr : r < (x :: rest).length := by simp at h1 ⊢; omega
    have l : r.toNat < (x :: rest).length := by omega
    have e0 : cmpD .ne (.list (x :: rest)) (.list []) = some true := by rw [neNil _ hs]; rfl
    have e1 := popAt (xs := x :: rest) h0 hr (by simp at hl ⊢; omega)
    have e2 : meth .append [(x :: rest)[r.toNat]'l] (.l found) = some (.none, .l (found ++ [(x :: rest)[r.toNat]'l])) := app_any (by simp at hl; omega)
    have hlen : ((x :: rest).eraseIdx r.toNat).length = rest.length := by rw [List.length_eraseIdx_of_lt l]; simp
    obtain ⟨found', d2, e3, p3, f3⟩ := mix_loop hd (th := th) m ((x :: rest).eraseIdx r.toNat) (found ++ [(x :: rest)[r.toNat]'l]) d' (by rw [hlen]; simp at h; omega) (by rw [hlen]; simp at hl ⊢; omega) (fun y hy => hs y (List.mem_of_mem_eraseIdx hy)) h2
    refine ⟨found', d2, ?_, ?_, f3⟩
    · rw [← e3, whileL]
      generalize hv : (x :: rest)[r.toNat]'l = v at e1 e2 ⊢
      generalize hw : (x :: rest).eraseIdx r.toNat = w at e1 ⊢
      generalize hz : x :: rest = z at e0 e1 e ⊢
      simp [mixW, exb, exs, tst, ev, evd, evl, evk, kCall, takeArgs, putBack, chg, has, isL, isOwnL, margs, pures, fz, Fl.seq, Res.fl, Res.bind, slot, T.dat, T.pure, D.flat, qok, isQ, E.quiet, quiets, truth, dats, bi, e0, e, e1, e2]
    · refine p3.trans ?_
      rw [List.append_assoc]
      exact List.Perm.append_left found (perm_erase _ _ l)
theorem mixed_def {L : D → Prop} {P : List Def} {f i n : Nat} (h : P[i]? = some (mixedD f)) (hd : DrawF L (callF P n) f) : MixedF L (callF P (n + 1)) i := fun d t xs hL ht hs hl => by
  obtain ⟨ys, d', e, hp, h2⟩ := mix_loop hd (th := t) fuel xs [] d (Nat.lt_trans hl (by unfold fuel; decide)) (by simpa using hl) hs hL
  refine ⟨ys, d', run_rt (ρ' := [some d', some t, some (.l []), none]) h rfl rfl ?_ rfl, h2, by simpa using hp⟩
  generalize callF P n = F at *
  have e' : exs F (.while (.cmp .ne (.pk 2) (.lst [])) (mixW f)) [some d, some t, some (.l xs), some (.l [])] = .nx [some d', some t, some (.l []), some (.l ys)] := by
    rw [exs]; exact e
  have e1 : exs F (.asgs [.n 2, .n 3] [.bi .list [.pk 1], .lst []]) ([d, t].map some ++ List.replicate ((mixedD f).ns - (mixedD f).np) none) = .nx [some d, some t, some (.l xs), some (.l [])] := by
    rcases ht with ht | ht
    · simp [mixedD, exs, ev, evl, evo, evd, stoD, sto, Res.fl, Res.bind, slot, T.dat, flat_p, ht, isQ, quiets, dats, bi]
    · simp [mixedD, exs, ev, evl, evo, evd, stoD, sto, Res.fl, Res.bind, slot, T.dat, flat_p, ht, isQ, quiets, dats, bi]
  show exb F [_, .while _ (mixW f), _] _ = _
  simp only [exb, e1, Fl.seq, e']
  simp [exs, ev, Res.fl, Res.bind, slot]
/-! ### rows -/
theorem row_loop {L : D → Prop} {F : FT} {f j : Nat} (hd : DrawF L F f) {nn : Int} (h1 : 1 ≤ nn) (h2 : nn < 1000000) (hj : j ≠ 0) {e : E} {σ : D → Env} 
    (he : ∀ d r d', L d → F f [d, .p (.int nn)] = .ok (.p (.int r)) [some d', none] → ∀ x, ev F e ((σ d).set j (some (.p x))) = .ok (.o (.p (.int r))) ((σ d').set j (some (.p x)))) (hw : ∀ d, L d → wipe (σ d) [j] = σ d) (hw2 : ∀ d x, L d → wipe ((σ d).set j (some (.p x))) [j] = σ d) :
    ∀ (items : List PyData) (acc : List Int) (d : D), acc.length + items.length < 1000000 → L d →
    ∃ ds d', lcL [j] (.n j) (tests F []) (ev F e) items (iL acc) (σ d) = .ok (iL (acc ++ ds)) (σ d') ∧ ds.length = items.length ∧ (∀ d ∈ ds, 0 ≤ d ∧ d < nn) ∧ L d'
  | [], acc, d, _, hf => ⟨[], d, by simp [lcL], rfl, by simp, hf⟩
  | it :: items, acc, d, hl, hf => by
    obtain ⟨r, d', e', g2, g0, g1⟩ := hd d nn hf h1 (by omega)
    obtain ⟨ds, d2, e3, l3, d3, f3⟩ := row_loop hd h1 h2 hj he hw hw2 items (acc ++ [r]) d' (by simp at hl ⊢; omega) g2
    refine ⟨r :: ds, d2, ?_, by simp [l3], ?_, f3⟩
    · have hz : (iL acc).length < sizeLine := Nat.lt_of_lt_of_le (m := 1000000) (by rw [len_iL]; simp at hl; omega) (line_big (by decide))
      have ea : iL acc ++ [PyData.int r] = iL (acc ++ [r]) := app_iL acc [r]
      rw [lcL, hw d hf]
      simp only [bindT, tests, Res.calm, Res.bind, if_true, he d r d' hf e' it, T.pure, hz, hw2 d' it g2, ea]
      rw [e3]
      simp
    · intro d hd'
      rcases List.mem_cons.mp hd' with rfl | h
      · exact ⟨g0, by omega⟩
      · exact d3 d h
def rowD (f : Nat) : Def := ⟨3, 4, [0], [.ret (.bi .tuple [.lc [3] (.n 3) .rng1 none [.fz (.call f [.io 0, .bin .add (.pk 2) (.c (.int 1))])] [] (.fz (.call f [.io 0, .v 1]))])]⟩
def RowF (L : D → Prop) (F : FT) (i : Nat) : Prop := ∀ (d : D) (nn most : Int), L d → 1 ≤ nn → nn < 1000000 → 0 ≤ most → most < 500000 →
  ∃ ds d', F i [d, .p (.int nn), .p (.int most)] = .ok (.p (.tuple (iL ds))) [some d', none, none] ∧ L d' ∧ (ds.length : Int) ≤ most ∧ (∀ x ∈ ds, 0 ≤ x ∧ x < nn)
theorem row_def {L : D → Prop} {P : List Def} {f i n : Nat} (h : P[i]? = some (rowD f)) (hd : DrawF L (callF P n) f) : RowF L (callF P (n + 1)) i := fun d nn most hL h1 h2 m0 m1 => by
  obtain ⟨r, d1, e, g2, g0, g1⟩ := hd d (most + 1) hL (by omega) (by omega)
  have hr : r ≤ most := by omega
  have ll := row_loop (F := callF P n) (j := 3) hd h1 h2 (by decide) (e := .fz (.call f [.io 0, .v 1])) (σ := fun d => [some d, some (.p (.int nn)), some (.p (.int most)), none]) (fun d r d' _ e x => by
    simp [ev, evl, kCall, takeArgs, putBack, fz, Res.bind, slot, T.pure, isQ, quiets, E.quiet, e]) (fun _ _ => rfl) (fun _ _ _ => rfl) (rangeD 0 r.toNat 1) [] d1 (by simp [rangeD_len]; omega) g2
  obtain ⟨ds, d2, e3, l3, d3, f3⟩ := ll
  refine ⟨ds, d2, run_rt (ρ' := [some d2, some (.p (.int nn)), some (.p (.int most)), none]) h rfl rfl ?_ rfl, f3, by rw [l3, rangeD_len]; omega, d3⟩
  generalize callF P n = F at *
  have sm : small62 r = true := by simp [small62]; omega
  have e3' : lcL [3] (.n 3) (tests F []) (ev F (.fz (.call f [.io 0, .v 1]))) (rangeD 0 r.toNat 1) [] [some d1, some (.p (.int nn)), some (.p (.int most)), none] = .ok (iL ds) [some d2, some (.p (.int nn)), some (.p (.int most)), none] := by
    have : iL [] = [] := rfl
    rw [this] at e3
    simpa using e3
  have el : ev F (.lc [3] (.n 3) .rng1 none [.fz (.call f [.io 0, .bin .add (.pk 2) (.c (.int 1))])] [] (.fz (.call f [.io 0, .v 1]))) [some d, some (.p (.int nn)), some (.p (.int most)), none] =
      .ok (.o (.l (iL ds))) [some d2, some (.p (.int nn)), some (.p (.int most)), none] := by
    rw [ev]
    have ea : evl F [.fz (.call f [.io 0, .bin .add (.pk 2) (.c (.int 1))])] [some d, some (.p (.int nn)), some (.p (.int most)), none] = .ok [.o (.p (.int r))] [some d1, some (.p (.int nn)), some (.p (.int most)), none] := by
      simp [evl, ev, kCall, takeArgs, putBack, fz, Res.bind, slot, T.dat, D.flat, T.pure, isQ, qok, quiets, E.quiet, bin_add, e]
    rw [ea]
    simp only [Res.bind, wargs, pures, T.pure, Option.bind_some, walk, sm, if_true, L3.lock]
    rw [e3']
    simp [L3.unlock]
  simp [rowD, exb, exs, Fl.seq, Res.fl, ev, evl, Res.bind, el, isQ, quiets, dats, T.dat, D.flat, bi, slot]
/-! ### the loom of a script -/
def loomB : List S := [
  .asgs [.n 1, .n 2] [.lc [3] (.n 3) .seq none [.fz (.sl (.pk 0) [] [.c (.int 63)])] [] (.fz (.bin .add (.bin .mul (.c (.int 2)) (.bi .abs [.pk 3])) (.bi .int [.cmp .lt (.pk 3) (.c (.int 0))]))), .bin .add (.c (.int 60913)) (.bin .mul (.c (.int 7)) (.bi .len [.pk 0]))],
  .for (.n 3) .seq none [.v 1] [.asg (.n 2) (.bin .mod (.bi .int [.bin .add (.bin .add (.bin .mul (.pk 2) (.c (.int 48271))) (.pk 3)) (.c (.int 11))]) (.c (.int 4294967291)))],
  .ret (.dct [.inr "far", .inr "stirred", .inr "times"] [.lc [3] (.n 3) .seq none [.v 1] [.cmp .ge (.pk 3) (.bin .pow (.c (.int 10)) (.c (.int 15)))] (.v 3), .mv 2, .c (.int 0)])]
def loomD : Def := ⟨1, 4, [], loomB⟩
def LoomF (L : D → Prop) (F : FT) (i : Nat) : Prop := ∀ ns : List Int, ns.length ≤ 63 → ∃ d, F i [.p (.list (iL ns))] = .ok d [none] ∧ L d
/-- the cells -/
def cell (x : Int) : Int := 2 * (if x < 0 then -x else x) + (if x < 0 then 1 else 0)
theorem stir_loop {F : FT} {s cs : L3.D} : ∀ (xs : List Int) (st : Int) (q : Option L3.D), ∃ st' q', forL (.n 3) (exb F [.asg (.n 2) (.bin .mod (.bi .int [.bin .add (.bin .add (.bin .mul (.pk 2) (.c (.int 48271))) (.pk 3)) (.c (.int 11))]) (.c (.int 4294967291)))]) (iL xs) [some s, some cs, some (.p (.int st)), q] = .nx [some s, some cs, some (.p (.int st')), q']
  | [], st, q => ⟨st, q, rfl⟩
  | x :: xs, st, q => by
    obtain ⟨st', q', e⟩ := stir_loop (F := F) (s := s) (cs := cs) xs ((st * 48271 + x + 11) % 4294967291) (some (.p (.int x)))
    refine ⟨st', q', ?_⟩
    rw [← e]
    have c1 : two64 48271 = true := by decide
    simp [iL, forL, bindT, exb, exs, ev, evl, sto, Fl.seq, Res.fl, Res.bind, slot, T.dat, D.flat, qok, isQ, E.quiet, quiets, dats, bi, bin_add, bin_mul, bin_mod, c1]
def gCell : PyData → Option PyData
  | .int x => some (.int (cell x))
  | _ => none
theorem fm_cell : ∀ xs : List Int, (iL xs).filterMap gCell = iL (xs.map cell)
  | [] => rfl
  | x :: xs => by
    have ih := fm_cell xs
    simp only [iL] at ih ⊢
    simp [gCell, ih]
theorem cells_lc {F : FT} {s : L3.D} {xs : List Int} (hl : xs.length < 1000) : lcL [3] (.n 3) (tests F []) (ev F (.fz (.bin .add (.bin .mul (.c (.int 2)) (.bi .abs [.pk 3])) (.bi .int [.cmp .lt (.pk 3) (.c (.int 0))])))) (iL xs) [] [some s, none, none, none] = .ok (iL (xs.map cell)) [some s, none, none, none] := by
  have c1 : two64 2 = true := by decide
  have := lc_gen (i := 3) (tst := tests F []) (elt := ev F (.fz (.bin .add (.bin .mul (.c (.int 2)) (.bi .abs [.pk 3])) (.bi .int [.cmp .lt (.pk 3) (.c (.int 0))])))) (ρ := [some s, none, none, none]) rfl gCell (iL xs) [] (by simp [iL]; omega) (fun d hd => by
    simp only [iL, List.mem_map] at hd
    obtain ⟨x, _, rfl⟩ := hd
    right
    refine ⟨.int (cell x), rfl, by simp [tests], ?_⟩
    by_cases c : x < 0 <;> simp [ev, evl, Res.bind, slot, T.dat, D.flat, fz, qok, isQ, E.quiet, quiets, dats, bi, cmp_lt, bin_add, bin_mul, c1, c, cell])
  rw [fm_cell] at this
  simpa using this
theorem pow15 : bin .pow (.int 10) (.int 15) = some (.p (.int 1000000000000000)) := by simp [bin]
theorem far_lc {F : FT} {s cs st : L3.D} {xs : List Int} (hl : xs.length < 1000) : lcL [3] (.n 3) (tests F [.cmp .ge (.pk 3) (.bin .pow (.c (.int 10)) (.c (.int 15)))]) (ev F (.v 3)) (iL xs) [] [some s, some cs, some st, none] = .ok (iL (xs.filter fun x => decide (1000000000000000 ≤ x))) [some s, some cs, some st, none] := by
  have := lc_gen (i := 3) (tst := tests F [.cmp .ge (.pk 3) (.bin .pow (.c (.int 10)) (.c (.int 15)))]) (elt := ev F (.v 3)) (ρ := [some s, some cs, some st, none]) rfl (gInt fun x => decide (1000000000000000 ≤ x)) (iL xs) [] (by simp [iL]; omega) (fun d hd => by
    simp only [iL, List.mem_map] at hd
    obtain ⟨x, _, rfl⟩ := hd
    by_cases c : 1000000000000000 ≤ x
    · right
      refine ⟨.int x, by simp [gInt, c], ?_, ?_⟩
      · simp [tests, tst, ev, Res.bind, slot, T.dat, D.flat, fz, qok, isQ, E.quiet, pow15, cmp_ge, truth, c]
      · simp [ev, slot, fz]
    · left
      refine ⟨by simp [gInt, c], ?_⟩
      simp [tests, tst, ev, Res.bind, slot, T.dat, D.flat, fz, qok, isQ, E.quiet, pow15, cmp_ge, truth, c])
  rw [fm_filter] at this
  simpa using this
theorem sl63 (ns : List Int) (h : ns.length ≤ 63) : slD (.list (iL ns)) none (some 63) = some (.l (iL ns)) := by
  have e : cut (iL ns) none (some 63) = iL ns := by
    simp only [cut, HT.sIx, len_iL]
    rw [if_neg (by omega)]
    rw [List.drop_zero, List.take_of_length_le (by rw [len_iL]; omega)]
  simp only [slD, e]
theorem loom_ok {F : FT} {ns : List Int} (h : ns.length ≤ 63) : ∃ far st ρ, exb F loomB [some (.p (.list (iL ns))), none, none, none] = .rt (Lm far st 0) ρ ∧ outs ρ 1 [] = [none] ∧ far.length ≤ 64 := by
  obtain ⟨st, q, e⟩ := stir_loop (F := F) (s := .p (.list (iL ns))) (cs := .p (.list (iL (ns.map cell)))) (ns.map cell) (60913 + 7 * ns.length) none
  have hlen : ((ns.map cell).filter fun x => decide (1000000000000000 ≤ x)).length ≤ 64 := by
    have := List.length_filter_le (fun x => decide (1000000000000000 ≤ x)) (ns.map cell)
    rw [List.length_map] at this
    omega
  · skip
    have hc := cells_lc (F := F) (s := .p (.list (iL ns))) (xs := ns) (by omega)
    have hfar := far_lc (F := F) (s := .p (.list (iL ns))) (cs := .p (.list (iL (ns.map cell)))) (st := .p (.int st)) (xs := ns.map cell) (by rw [List.length_map]; omega)
    have e1 : ev F (.lc [3] (.n 3) .seq none [.fz (.sl (.pk 0) [] [.c (.int 63)])] [] (.fz (.bin .add (.bin .mul (.c (.int 2)) (.bi .abs [.pk 3])) (.bi .int [.cmp .lt (.pk 3) (.c (.int 0))])))) [some (.p (.list (iL ns))), none, none, none] = .ok (.o (.l (iL (ns.map cell)))) [some (.p (.list (iL ns))), none, none, none] := by
      rw [ev]
      have ea : evl F [.fz (.sl (.pk 0) [] [.c (.int 63)])] [some (.p (.list (iL ns))), none, none, none] = .ok [.o (.p (.list (iL ns)))] [some (.p (.list (iL ns))), none, none, none] := by
        simp [evl, ev, evi, fz, Res.bind, slot, T.dat, D.flat, T.pure, isQ, quiets, sl63 ns h]
      rw [ea]
      simp only [Res.bind, wargs, pures, T.pure, Option.bind_some, walk, items, L3.lock]
      rw [hc]
      simp [L3.unlock]
    have c7 : two64 7 = true := by decide
    have e2 : exs F (.asgs [.n 1, .n 2] [.lc [3] (.n 3) .seq none [.fz (.sl (.pk 0) [] [.c (.int 63)])] [] (.fz (.bin .add (.bin .mul (.c (.int 2)) (.bi .abs [.pk 3])) (.bi .int [.cmp .lt (.pk 3) (.c (.int 0))]))), .bin .add (.c (.int 60913)) (.bin .mul (.c (.int 7)) (.bi .len [.pk 0]))]) [some (.p (.list (iL ns))), none, none, none] = .nx [some (.p (.list (iL ns))), some (.l (iL (ns.map cell))), some (.p (.int (60913 + 7 * ns.length))), none] := by
      rw [exs, evo, e1]
      simp [Res.bind, Res.fl, evo, evl, ev, stoD, sto, slot, T.dat, D.flat, isQ, qok, E.quiet, quiets, dats, bi, len_iL, bin_add, bin_mul, c7]
    have e3 : exs F (.for (.n 3) .seq none [.v 1] [.asg (.n 2) (.bin .mod (.bi .int [.bin .add (.bin .add (.bin .mul (.pk 2) (.c (.int 48271))) (.pk 3)) (.c (.int 11))]) (.c (.int 4294967291)))]) [some (.p (.list (iL ns))), some (.l (iL (ns.map cell))), some (.p (.int (60913 + 7 * ns.length))), none] = .nx [some (.p (.list (iL ns))), some (.p (.list (iL (ns.map cell)))), some (.p (.int st)), q] := by
      rw [exs]
      simp only [evl, ev, Res.bind, Res.fl, slot, fz, isQ, quiets, List.getElem?_cons_succ, List.getElem?_cons_zero, Option.join_some, wargs, pures, T.pure, Option.bind_some, walk, items, L3.lock, List.set_cons_succ, List.set_cons_zero, Bool.not_false, Bool.true_or, if_true]
      rw [e]
      rfl
    have e4 : ∃ q', ev F (.lc [3] (.n 3) .seq none [.v 1] [.cmp .ge (.pk 3) (.bin .pow (.c (.int 10)) (.c (.int 15)))] (.v 3)) [some (.p (.list (iL ns))), some (.p (.list (iL (ns.map cell)))), some (.p (.int st)), q] = .ok (.o (.l (iL ((ns.map cell).filter fun x => decide (1000000000000000 ≤ x))))) [some (.p (.list (iL ns))), some (.p (.list (iL (ns.map cell)))), some (.p (.int st)), q'] := by
      rw [ev]
      simp only [evl, ev, Res.bind, Res.fl, slot, fz, isQ, quiets, List.getElem?_cons_succ, List.getElem?_cons_zero, Option.join_some, wargs, pures, T.pure, Option.bind_some, walk, items, L3.lock, List.set_cons_succ, List.set_cons_zero, Bool.not_false, Bool.true_or, if_true]
      cases hx : ns.map cell with
      | nil => exact ⟨q, by simp [iL, lcL, L3.unlock]⟩
      | cons x xs =>
        rw [hx] at hfar
        refine ⟨none, ?_⟩
        have : lcL [3] (.n 3) (tests F [.cmp .ge (.pk 3) (.bin .pow (.c (.int 10)) (.c (.int 15)))]) (ev F (.v 3)) (iL (x :: xs)) [] [some (.p (.list (iL ns))), some (.p (.list (iL (x :: xs)))), some (.p (.int st)), q] = lcL [3] (.n 3) (tests F [.cmp .ge (.pk 3) (.bin .pow (.c (.int 10)) (.c (.int 15)))]) (ev F (.v 3)) (iL (x :: xs)) [] [some (.p (.list (iL ns))), some (.p (.list (iL (x :: xs)))), some (.p (.int st)), none] := by
          show lcL _ _ _ _ (PyData.int x :: iL xs) _ _ = lcL _ _ _ _ (PyData.int x :: iL xs) _ _
          rw [lcL, lcL]
          rfl
        rw [this, hfar]
        simp [L3.unlock]
    obtain ⟨q', e4⟩ := e4
    have kk : ([Sum.inr "far", Sum.inr "stirred", Sum.inr "times"] : List L3.Key).Nodup := by decide
    have e5 : exs F (.ret (.dct [.inr "far", .inr "stirred", .inr "times"] [.lc [3] (.n 3) .seq none [.v 1] [.cmp .ge (.pk 3) (.bin .pow (.c (.int 10)) (.c (.int 15)))] (.v 3), .mv 2, .c (.int 0)])) [some (.p (.list (iL ns))), some (.p (.list (iL (ns.map cell)))), some (.p (.int st)), q] = .rt (Lm ((ns.map cell).filter fun x => decide (1000000000000000 ≤ x)) st 0) [some (.p (.list (iL ns))), some (.p (.list (iL (ns.map cell)))), none, q'] := by
      rw [exs, ev, evo, e4]
      simp only [Res.bind, Res.fl, evo, ev, slot, fz, List.getElem?_cons_succ, List.getElem?_cons_zero, Option.join_some, List.set_cons_succ, List.set_cons_zero]
      simp [kk, Lm]
    refine ⟨_, st, [some (.p (.list (iL ns))), some (.p (.list (iL (ns.map cell)))), none, q'], ?_, rfl, hlen⟩
    simp only [loomB, exb, e2, Fl.seq, e3, e5]
theorem loom_def {P : List Def} {i : Nat} (h : P[i]? = some loomD) (n : Nat) : LoomF IsLm (callF P (n + 1)) i := fun ns hn => by
  obtain ⟨far, st, ρ, e, ho, hl⟩ := loom_ok (F := callF P n) hn
  exact ⟨_, run_rt h rfl rfl e ho, far, st, 0, rfl, hl⟩
end L3

/-! What repr gives of small plain data. -/
namespace L3
open PySem
mutual
def smallI (B : Nat) : PyData → Bool
  | .none | .bool _ => true
  | .str _ => true
  | .dict _ => false
  | .int i => decide (i.natAbs < 10 ^ B)
  | .list xs | .tuple xs => smallIs B xs
def smallIs (B : Nat) : List PyData → Bool
  | [] => true
  | x :: xs => smallI B x && smallIs B xs
end
theorem smallAll (B : Nat) : ∀ xs : List PyData, smallIs B xs = true ↔ ∀ x ∈ xs, smallI B x = true
  | [] => by simp [smallIs]
  | x :: xs => by simp [smallIs, smallAll B xs]
/-- plain data with ints of so many figures, so deep, so heavy -/
structure Pl (B k w : Nat) (x : PyData) : Prop where
  sh : Sh k x
  wt : x.weight ≤ w
  sm : smallI B x = true
theorem Pl.up {B k w k' w' : Nat} {x : PyData} (h : Pl B k w x) (hk : k ≤ k') (hw : w ≤ w') : Pl B k' w' x := ⟨h.sh.up hk, Nat.le_trans h.wt hw, h.sm⟩
theorem weightAll_le {w : Nat} : ∀ {xs : List PyData}, (∀ x ∈ xs, x.weight ≤ w) → PyData.weightAll xs ≤ xs.length * (w + 1)
  | [], _ => by simp [PyData.weightAll]
  | x :: xs, h => by
    have h1 := h x (List.mem_cons_self ..)
    have h2 := weightAll_le (w := w) (xs := xs) fun y hy => h y (List.mem_cons_of_mem _ hy)
    rw [PyData.weightAll, List.length_cons, Nat.add_mul]
    omega
theorem Pl.list {B k w m : Nat} {xs : List PyData} (h : ∀ x ∈ xs, Pl B k w x) (l : xs.length ≤ m) : Pl B (k + 1) (m * (w + 1)) (.list xs) :=
  ⟨Sh.list fun x hx => (h x hx).sh, by
    have := weightAll_le fun x hx => (h x hx).wt
    rw [PyData.weight]
    exact Nat.le_trans this (Nat.mul_le_mul_right _ l), by rw [smallI, smallAll]; exact fun x hx => (h x hx).sm⟩
theorem Pl.tuple {B k w m : Nat} {xs : List PyData} (h : ∀ x ∈ xs, Pl B k w x) (l : xs.length ≤ m) : Pl B (k + 1) (m * (w + 1)) (.tuple xs) :=
  ⟨Sh.tuple fun x hx => (h x hx).sh, by
    have := weightAll_le fun x hx => (h x hx).wt
    rw [PyData.weight]
    exact Nat.le_trans this (Nat.mul_le_mul_right _ l), by rw [smallI, smallAll]; exact fun x hx => (h x hx).sm⟩
theorem log2_small {B n : Nat} (h : n < 10 ^ B) (hn : n ≠ 0) : n.log2 < 4 * B := by
  rw [Nat.log2_lt hn]
  refine Nat.lt_of_lt_of_le h ?_
  rw [Nat.pow_mul]
  exact Nat.pow_le_pow_left (by decide) B
theorem Pl.int {B k : Nat} {i : Int} (h : i.natAbs < 10 ^ B) : Pl B k (4 * B) (.int i) := by
  refine ⟨Sh.int, ?_, by simp [smallI, h]⟩
  rw [PyData.weight]
  split
  · exact Nat.zero_le _
  · rename_i h0
    exact log2_small h (by simpa using h0)
theorem Pl.str {B k w : Nat} {x : Str} (h : PyData.strOk x = true) (hw : x.cps.size ≤ w) : Pl B k w (.str x) := ⟨⟨by simpa [PyData.canLay0] using h, by simp [PyData.depth]⟩, by simpa [PyData.weight] using hw, by simp [smallI]⟩
theorem Pl.bool {B k w : Nat} {b : Bool} : Pl B k w (.bool b) := ⟨Sh.bool, by simp [PyData.weight], by simp [smallI]⟩
theorem Pl.none {B k w : Nat} : Pl B k w .none := ⟨Sh.none, by simp [PyData.weight], by simp [smallI]⟩
mutual
theorem showable_of {B : Nat} (hB : B ≤ 400) : ∀ {x : PyData}, smallI B x = true → x.showable = true
  | .none, _ => by simp [PyData.showable]
  | .bool _, _ => by simp [PyData.showable]
  | .str _, _ => by simp [PyData.showable]
  | .int i, h => by
    simp only [smallI, decide_eq_true_eq] at h
    simp only [PyData.showable, decide_eq_true_eq]
    by_cases h0 : i.natAbs = 0
    · rw [h0]; decide
    · have := log2_small h h0; omega
  | .list xs, h => by
    rw [PyData.showable]
    exact showables_of hB (by simpa [smallI] using h)
  | .tuple xs, h => by
    rw [PyData.showable]
    exact showables_of hB (by simpa [smallI] using h)
  | .dict _, h => by simp [smallI] at h
theorem showables_of {B : Nat} (hB : B ≤ 400) : ∀ {xs : List PyData}, smallIs B xs = true → PyData.showableAll xs = true
  | [], _ => by simp [PyData.showableAll]
  | x :: xs, h => by
    simp only [smallIs, Bool.and_eq_true] at h
    simp only [PyData.showableAll, Bool.and_eq_true]
    exact ⟨showable_of hB h.1, showables_of hB h.2⟩
end
mutual
theorem ints_of {B : Nat} (hB : 0 < B) : ∀ {x : PyData}, smallI B x = true → x.intsShort (B + 1) = true
  | .none, _ => by simp [PyData.intsShort]
  | .bool _, _ => by simp [PyData.intsShort]
  | .str _, _ => by simp [PyData.intsShort]
  | .int i, h => by
    simp only [smallI, decide_eq_true_eq] at h
    simp only [PyData.intsShort, decide_eq_true_eq]
    have e := int_text_length_le10 hB h
    show (Str.ofString (toString i)).length ≤ B + 1
    rw [ofString_length]; exact e
  | .list xs, h => by
    rw [PyData.intsShort]
    exact intss_of hB (by simpa [smallI] using h)
  | .tuple xs, h => by
    rw [PyData.intsShort]
    exact intss_of hB (by simpa [smallI] using h)
  | .dict _, h => by simp [smallI] at h
theorem intss_of {B : Nat} (hB : 0 < B) : ∀ {xs : List PyData}, smallIs B xs = true → PyData.intsShortAll (B + 1) xs = true
  | [], _ => by simp [PyData.intsShortAll]
  | x :: xs, h => by
    simp only [smallIs, Bool.and_eq_true] at h
    simp only [PyData.intsShortAll, Bool.and_eq_true]
    exact ⟨ints_of hB h.1, intss_of hB h.2⟩
end
theorem showD_ok {B k w : Nat} {x : PyData} (h : Pl B k w x) (hk : k ≤ 64) (hB : 7 ≤ B) (hB2 : B ≤ 400) (hw : (B + 3) * w + (B + 1) ≤ 16777216) : showD x = some x.shown := by
  have h1 := showable_of hB2 h.sm
  have h2 := PyData.hasDict_of_canLay x h.sh.1
  have h3 := PyData.shown_le (B + 1) (by omega) x (PyData.leavesShort_of_canLay0 _ x h.sh.1 (ints_of (by omega) h.sm))
  have h4 : (B + 1 + 2) * x.weight ≤ (B + 3) * w := Nat.mul_le_mul_left _ h.wt
  have h5 : x.shown.length ≤ sizeLine := Nat.le_trans h3 (line_big (by omega))
  have h6 := Nat.le_trans h.sh.2 hk
  simp [showD, h1, h2, h5, h6]
end L3

/-! Facts about ints, lists and tuples of ints, for going through a tree. -/
namespace L3
open PySem
theorem snoc_ind {α : Type} {P : List α → Prop} (h0 : P []) (h1 : ∀ xs y, P xs → P (xs ++ [y])) (xs : List α) : P xs := by
  have : ∀ l : List α, P l.reverse := by
    intro l
    induction l with
    | nil => exact h0
    | cons x l ih => rw [List.reverse_cons]; exact h1 _ _ ih
  simpa using this xs.reverse
theorem at_tL {xs : List Int} {p : Nat} (h : p < xs.length) : atD (.tuple (iL xs)) (.int p) = some (.int (xs.getD p 0)) := by
  rw [atD_tuple (by omega) (by rw [len_iL]; omega)]
  simp [iL, h]
theorem at_lL {xs : List Int} {p : Nat} (h : p < xs.length) : atD (.list (iL xs)) (.int p) = some (.int (xs.getD p 0)) := by
  rw [atD_list (by omega) (by rw [len_iL]; omega)]
  simp [iL, h]
theorem sIx_nat {n p d : Nat} (h : p ≤ n) : HT.sIx n d (some (p : Int)) = p := by
  simp only [HT.sIx]
  rw [if_neg (by omega)]
  omega
theorem sl_hi {xs : List PyData} {p : Nat} (h : p ≤ xs.length) : slD (.tuple xs) none (some (p : Int)) = some (.p (.tuple (xs.take p))) := by
  simp only [slD, cut, sIx_nat h]
  simp [HT.sIx]
theorem sl_lo {xs : List PyData} {p : Nat} (h : p ≤ xs.length) : slD (.tuple xs) (some (p : Int)) none = some (.p (.tuple (xs.drop p))) := by
  simp only [slD, cut, sIx_nat h]
  simp [HT.sIx, List.take_of_length_le]
theorem sl_hiI {xs : List PyData} {p : Int} (h0 : 0 ≤ p) (h : p ≤ xs.length) : slD (.tuple xs) none (some p) = some (.p (.tuple (xs.take p.toNat))) := by
  have := sl_hi (xs := xs) (p := p.toNat) (by omega)
  rwa [Int.toNat_of_nonneg h0] at this
theorem sl_loI {xs : List PyData} {p : Int} (h0 : 0 ≤ p) (h : p ≤ xs.length) : slD (.tuple xs) (some p) none = some (.p (.tuple (xs.drop p.toNat))) := by
  have := sl_lo (xs := xs) (p := p.toNat) (by omega)
  rwa [Int.toNat_of_nonneg h0] at this
/-- a slice's start may lie beyond -/
theorem sl_loB {xs : List PyData} {p : Int} (h0 : 0 ≤ p) : slD (.tuple xs) (some p) none = some (.p (.tuple (xs.drop p.toNat))) := by
  simp only [slD, cut, HT.sIx]
  rw [if_neg (by omega)]
  simp
  by_cases c : p.toNat ≤ xs.length
  · simp [Nat.min_eq_left c, List.take_of_length_le]
  · have : xs.length ≤ p.toNat := by omega
    simp [Nat.min_eq_right this, List.drop_eq_nil_of_le this]
theorem iL_take (xs : List Int) (p : Nat) : (iL xs).take p = iL (xs.take p) := by simp [iL, List.map_take]
theorem iL_drop (xs : List Int) (p : Nat) : (iL xs).drop p = iL (xs.drop p) := by simp [iL, List.map_drop]
theorem iL_rev (xs : List Int) : (iL xs).reverse = iL xs.reverse := by simp [iL]
theorem map_perm {α : Type} (f : α → PyData) {ys : List PyData} {xs : List α} (h : ys.Perm (xs.map f)) : ∃ zs : List α, ys = zs.map f ∧ zs.Perm xs := by
  have : ∀ {as bs : List PyData}, as.Perm bs → ∀ xs : List α, bs = xs.map f → ∃ zs : List α, as = zs.map f ∧ zs.Perm xs := by
    intro as bs p
    induction p with
    | nil => intro xs e; exact ⟨[], rfl, by cases xs <;> simp_all⟩
    | cons a p ih =>
      intro xs e
      cases xs with
      | nil => simp at e
      | cons x xs =>
        simp only [List.map_cons, List.cons.injEq] at e
        obtain ⟨zs, e2, p2⟩ := ih xs e.2
        exact ⟨x :: zs, by rw [e.1, e2]; rfl, p2.cons x⟩
    | swap a b l =>
      intro xs e
      match xs, e with
      | x :: y :: xs, e =>
        simp only [List.map_cons, List.cons.injEq] at e
        exact ⟨y :: x :: xs, by rw [e.1, e.2.1, e.2.2]; rfl, List.Perm.swap ..⟩
      | [x], e => simp at e
      | [], e => simp at e
    | trans p q ihp ihq =>
      intro xs e
      obtain ⟨zs, e1, p1⟩ := ihq xs e
      obtain ⟨ws, e2, p2⟩ := ihp zs e1
      exact ⟨ws, e2, p2.trans p1⟩
  exact this h xs rfl
theorem iL_perm {ys : List PyData} {xs : List Int} (h : ys.Perm (iL xs)) : ∃ zs, ys = iL zs ∧ zs.Perm xs := map_perm .int h
theorem ints_iL : ∀ xs : List Int, intsOf (iL xs) = some xs
  | [] => rfl
  | x :: xs => by
    have := ints_iL xs
    simp only [iL] at this ⊢
    simp [intsOf, this]
theorem sorted_t (xs : List Int) : bi .sorted [.tuple (iL xs)] = some (.l (iL (isort xs))) := by simp [bi, items, ints_iL]; rfl
theorem sorted_l (xs : List Int) : bi .sorted [.list (iL xs)] = some (.l (iL (isort xs))) := by simp [bi, items, ints_iL]; rfl
theorem sum_l (xs : List Int) : bi .sum [.list (iL xs)] = some (.p (.int xs.sum)) := by simp [bi, ints_iL]
theorem len_l (xs : List PyData) : bi .len [.list xs] = some (.p (.int xs.length)) := rfl
theorem len_t (xs : List PyData) : bi .len [.tuple xs] = some (.p (.int xs.length)) := rfl
theorem list_t (xs : List PyData) : bi .list [.tuple xs] = some (.l xs) := rfl
theorem list_l (xs : List PyData) : bi .list [.list xs] = some (.l xs) := rfl
theorem tuple_l (xs : List PyData) : bi .tuple [.list xs] = some (.p (.tuple xs)) := rfl
theorem tuple_t (xs : List PyData) : bi .tuple [.tuple xs] = some (.p (.tuple xs)) := rfl
theorem add_t {xs ys : List PyData} (h : xs.length + ys.length ≤ 16777216) : bin .add (.tuple xs) (.tuple ys) = some (.p (.tuple (xs ++ ys))) := by
  simp only [bin, if_pos (line_big h)]
theorem add_l {xs ys : List PyData} (h : xs.length + ys.length ≤ 16777216) : bin .add (.list xs) (.list ys) = some (.l (xs ++ ys)) := by
  simp only [bin, if_pos (line_big h)]
theorem ext_l {xs ys : List PyData} (h : xs.length + ys.length ≤ 16777216) : meth .extend [.list ys] (.l xs) = some (.none, .l (xs ++ ys)) := by
  simp only [meth, if_pos (line_big h)]
/-! comprehensions whose test and item change nothing -/
theorem lc_G {α : Type} (inj : α → PyData) (p : α → Bool) (f : α → PyData) (e : α → Env) {own : List Nat} {tg : Tg} {tst : Env → Res Bool} {elt : Env → Res T} {ρ : Env} (hw : wipe ρ own = ρ) : ∀ (xs : List α) (acc : List PyData), acc.length + xs.length < 16777216 →
    (∀ x ∈ xs, bindT tg (inj x) ρ = some (e x) ∧ wipe (e x) own = ρ ∧ tst (e x) = .ok (p x) (e x) ∧ (p x = true → elt (e x) = .ok (.o (.p (f x))) (e x))) →
    lcL own tg tst elt (xs.map inj) acc ρ = .ok (acc ++ (xs.filter p).map f) ρ
  | [], acc, _, _ => by simp [lcL]
  | x :: xs, acc, hl, h => by
    have ih := fun acc' hl' => lc_G inj p f e hw xs acc' hl' fun y hy => h y (List.mem_cons_of_mem _ hy)
    have hz : acc.length < sizeLine := Nat.lt_of_lt_of_le (m := 16777216) (by simp at hl; omega) (line_big (Nat.le_refl _))
    obtain ⟨h1, h4, h2, h3⟩ := h x (List.mem_cons_self ..)
    rw [List.map_cons, lcL, hw, h1]
    simp only
    rw [h2]
    by_cases c : p x = true
    · simp only [c, Res.calm, Res.bind, if_true, h3 c, T.pure, hz, h4]
      rw [ih (acc ++ [f x]) (by simp at hl ⊢; omega)]
      simp [c]
    · simp only [Bool.not_eq_true] at c
      simp only [c, Res.calm, Res.bind, h4, Bool.false_eq_true, if_false]
      rw [ih acc (by simp at hl; omega)]
      simp [c]
theorem comp_ev {α : Type} (inj : α → PyData) (p : α → Bool) (f : α → PyData) (xs : List α) (e : α → Env) {F : FT} {own : List Nat} {tg : Tg} {k : It} {its cond : List E} {elt : E} {ρ ρ1 : Env} {ts : List T}
    (hev : evl F its ρ = .ok ts ρ1) (hd : (pures ts).bind (walk k) = some (xs.map inj)) (hw : wipe ρ1 own = ρ1) (hl : xs.length < 16777216)
    (h : ∀ x ∈ xs, bindT tg (inj x) ρ1 = some (e x) ∧ wipe (e x) own = ρ1 ∧ tests F cond (e x) = .ok (p x) (e x) ∧ (p x = true → ev F elt (e x) = .ok (.o (.p (f x))) (e x))) :
    ev F (.lc own tg k none its cond elt) ρ = .ok (.o (.l ((xs.filter p).map f))) ρ1 := by
  rw [ev, hev]
  have : (wargs none ρ1 ts).bind (walk k) = some (xs.map inj) := hd
  simp only [Res.bind, this, L3.lock]
  rw [lc_G inj p f e hw xs [] (by simpa using hl) h]
  simp [L3.unlock]
/-- .. with no test -/
theorem comp_evA {α : Type} (inj : α → PyData) (f : α → PyData) (xs : List α) (e : α → Env) {F : FT} {own : List Nat} {tg : Tg} {k : It} {its : List E} {elt : E} {ρ ρ1 : Env} {ts : List T}
    (hev : evl F its ρ = .ok ts ρ1) (hd : (pures ts).bind (walk k) = some (xs.map inj)) (hw : wipe ρ1 own = ρ1) (hl : xs.length < 16777216)
    (h : ∀ x ∈ xs, bindT tg (inj x) ρ1 = some (e x) ∧ wipe (e x) own = ρ1 ∧ ev F elt (e x) = .ok (.o (.p (f x))) (e x)) :
    ev F (.lc own tg k none its [] elt) ρ = .ok (.o (.l (xs.map f))) ρ1 := by
  rw [comp_ev inj (fun _ => true) f xs e hev hd hw hl fun x hx => ⟨(h x hx).1, (h x hx).2.1, by simp [tests], fun _ => (h x hx).2.2⟩]
  rw [List.filter_eq_self.mpr fun _ _ => rfl]
theorem rng_map (n : Int) : rangeD 0 n.toNat 1 = (List.range n.toNat).map fun (k : Nat) => PyData.int (k : Int) := by simp [rangeD]
theorem walk_rng {n : Int} (h0 : 0 ≤ n) (h : n < 1000000) : walk .rng1 [.int n] = some ((List.range n.toNat).map fun (k : Nat) => PyData.int (k : Int)) := by
  have sm : small62 n = true := by simp [small62]; omega
  simp [walk, sm, rng_map]
theorem walk_rngN {n : Nat} (h : n < 1000000) : walk .rng1 [.int (n : Int)] = some ((List.range n).map fun (k : Nat) => PyData.int (k : Int)) := by
  rw [walk_rng (by omega) (by omega)]
  simp
theorem pw1 {k : It} {x : PyData} {xs : List PyData} (h : walk k [x] = some xs) : (pures [.o (.p x)]).bind (walk k) = some xs := h
theorem pw_rngN {n : Nat} (h : n < 1000000) : (pures [.o (.p (.int (n : Int)))]).bind (walk .rng1) = some ((List.range n).map fun (k : Nat) => PyData.int (k : Int)) := pw1 (walk_rngN h)
theorem pw_rng {n : Int} (h0 : 0 ≤ n) (h : n < 1000000) : (pures [.o (.p (.int n))]).bind (walk .rng1) = some ((List.range n.toNat).map fun (k : Nat) => PyData.int (k : Int)) := pw1 (walk_rng h0 h)
theorem pw_iT {xs : List Int} : (pures [.o (.p (.tuple (iL xs)))]).bind (walk .seq) = some (xs.map .int) := rfl
theorem pw_iL {xs : List Int} : (pures [.o (.p (.list (iL xs)))]).bind (walk .seq) = some (xs.map .int) := rfl
theorem bin_addS {x y : Str} (h : x.length + y.length ≤ 16777216) : bin .add (.str x) (.str y) = some (.p (.str (x ++ y))) := by
  simp only [bin, if_pos (line_big h)]
theorem walk_down {k : Nat} (h : k < 1000000) : walk .rng3 [.int (k : Int), .int 0, .int (-1)] = some (rangeD k k (-1)) := by
  have sm : small62 (k : Int) = true := by simp [small62]; omega
  have sm0 : small62 0 = true := by decide
  simp [walk, sm, sm0]
theorem pw3 {k : It} {x y z : PyData} {xs : List PyData} (h : walk k [x, y, z] = some xs) : (pures [.o (.p x), .o (.p y), .o (.p z)]).bind (walk k) = some xs := h
theorem pw2 {k : It} {x y : PyData} {xs : List PyData} (h : walk k [x, y] = some xs) : (pures [.o (.p x), .o (.p y)]).bind (walk k) = some xs := h
theorem pw_down {k : Nat} (h : k < 1000000) : (pures [.o (.p (.int (k : Int))), .o (.p (.int 0)), .o (.p (.int (-1)))]).bind (walk .rng3) = some (rangeD k k (-1)) := pw3 (walk_down h)
theorem down_succ (k : Nat) : rangeD ((k : Int) + 1) (k + 1) (-1) = .int ((k : Int) + 1) :: rangeD k k (-1) := by
  simp only [rangeD, List.range_succ_eq_map, List.map_cons, List.map_map]
  refine List.cons_eq_cons.mpr ⟨by simp, List.map_congr_left fun i _ => ?_⟩
  simp only [Function.comp]
  congr 1
  omega
theorem at_mid {A B : List Int} {x : Int} : atD (.list (iL (A ++ x :: B))) (.int A.length) = some (.int x) := by
  rw [at_lL (by simp)]
  simp
theorem at_mid' {A B : List Int} {a x : Int} : atD (.list (iL (A ++ a :: x :: B))) (.int ((A.length : Int) + 1)) = some (.int x) := by
  have := at_mid (A := A ++ [a]) (B := B) (x := x)
  simpa using this
theorem set_at {α : Type} (x y : α) (B : List α) : ∀ A : List α, (A ++ x :: B).set A.length y = A ++ y :: B
  | [] => rfl
  | a :: A => by
    rw [List.cons_append, List.length_cons, List.set_cons_succ, set_at x y B A, List.cons_append]
theorem set_mid {A B : List Int} {x y : Int} : setAt (.l (iL (A ++ x :: B))) (.int A.length) (.p (.int y)) = some (.l (iL (A ++ y :: B))) := by
  have : ix (iL (A ++ x :: B)).length A.length = some A.length := by rw [ix_nat (by omega) (by simp [len_iL]; omega)]; simp
  simp only [setAt, this, Option.bind_some]
  have e := set_at (PyData.int x) (PyData.int y) (iL B) (iL A)
  rw [len_iL] at e
  rw [show iL (A ++ x :: B) = iL A ++ .int x :: iL B by simp [iL], e]
  simp [iL]
theorem set_mid' {A B : List Int} {a x y : Int} : setAt (.l (iL (A ++ a :: x :: B))) (.int ((A.length : Int) + 1)) (.p (.int y)) = some (.l (iL (A ++ a :: y :: B))) := by
  have := set_mid (A := A ++ [a]) (B := B) (x := x) (y := y)
  simpa using this
theorem tst_val {F : FT} {e : E} {ρ ρ' : Env} {x : PyData} {k : Bool} (hp : plainT e = true) (h : ev F e ρ = .ok (.o (.p x)) ρ') (hk : truth x = some k) : tst F e ρ = .ok k ρ' := by
  rw [tst_eq hp]
  show (ev F e ρ).bind kT = _
  rw [h]
  simp [Res.bind, kT, T.dat, D.flat, hk]
theorem tst_b {F : FT} {e : E} {ρ ρ' : Env} {k : Bool} (hp : plainT e = true) (h : ev F e ρ = .ok (.o (.p (.bool k))) ρ') : tst F e ρ = .ok k ρ' := tst_val hp h rfl
theorem lc_ev {F : FT} {own : List Nat} {tg : Tg} {k : It} {its cond : List E} {elt : E} {ρ ρ1 ρ2 : Env} {ts : List T} {xs ys : List PyData} (hev : evl F its ρ = .ok ts ρ1) (hd : (pures ts).bind (walk k) = some xs)
    (h : lcL own tg (tests F cond) (ev F elt) xs [] ρ1 = .ok ys ρ2) : ev F (.lc own tg k none its cond elt) ρ = .ok (.o (.l ys)) ρ2 := by
  rw [ev, hev]
  have : (wargs none ρ1 ts).bind (walk k) = some xs := hd
  simp only [Res.bind, this, L3.lock, h, L3.unlock]
theorem unlock_none (f : Fl) : f.unlock none = f := by cases f <;> rfl
/-- a loop over what stands -/
theorem for_ev {F : FT} {tg : Tg} {k : It} {its : List E} {body : List S} {ρ ρ1 : Env} {ts : List T} {xs : List PyData} (hev : evl F its ρ = .ok ts ρ1) (hd : (pures ts).bind (walk k) = some xs) :
    exs F (.for tg k none its body) ρ = forL tg (exb F body) xs ρ1 := by
  rw [exs, hev]
  have : (wargs none ρ1 ts).bind (walk k) = some xs := hd
  simp only [Res.fl, this, L3.lock, unlock_none]
/-- a def's end -/
def toFR (np : Nat) (io : List Nat) : Fl → FR
  | .rt v ρ => .ok v (outs ρ np io)
  | .nx ρ => .ok (.p .none) (outs ρ np io)
  | .ex x ρ => .ex x (outs ρ np io)
  | _ => .st
theorem callF_fr {P : List Def} {n f : Nat} {ds : List D} {d : Def} (h : P[f]? = some d) (hl : ds.length = d.np) :
    callF P (n + 1) f ds = toFR d.np d.io (exb (callF P n) d.body (ds.map some ++ List.replicate (d.ns - d.np) none)) := by
  rw [callF_run h hl rfl]
  cases exb (callF P n) d.body (ds.map some ++ List.replicate (d.ns - d.np) none) <;> rfl
/-- one statement, the rest as it stands -/
theorem exb_go {F : FT} {s : S} {r : List S} {ρ ρ' : Env} (h : exs F s ρ = .nx ρ') : exb F (s :: r) ρ = exb F r ρ' := by rw [exb, h]; rfl
theorem exb_rt {F : FT} {s : S} {r : List S} {ρ ρ' : Env} {v : D} (h : exs F s ρ = .rt v ρ') : exb F (s :: r) ρ = .rt v ρ' := by rw [exb, h]; rfl
/-! repr of small things -/
theorem rep_of {B k w : Nat} {x : PyData} (h : Pl B k w x) (hk : k ≤ 64 := by decide) (hB : 7 ≤ B := by decide) (hB2 : B ≤ 400 := by decide) (hw : (B + 3) * w + (B + 1) ≤ 16777216 := by decide) : bi .repr [x] = some (.p (.str x.shown)) := by
  simp [bi, showD_ok h hk hB hB2 hw]
theorem Pl.ints {B : Nat} {xs : List Int} (h : ∀ x ∈ xs, x.natAbs < 10 ^ B) : ∀ y ∈ iL xs, Pl B 0 (4 * B) y := fun y hy => by
  simp only [iL, List.mem_map] at hy
  obtain ⟨x, hx, rfl⟩ := hy
  exact Pl.int (h x hx)
/-- strings compared -/
theorem shp_str {s : Str} (h : PyData.strOk s = true) : shp (.str s) = true := by simp [shp, SeqAt.shaped, PyData.canLay0, PyData.depth, h]
theorem strOk_iff {s : Str} : PyData.strOk s = true ↔ ∀ c ∈ s.cps.toList, c < 1114112 := by
  unfold PyData.strOk
  rw [← Array.all_toList, List.all_eq_true]
  simp only [decide_eq_true_eq]
theorem strOk_app {a b : Str} (h : PyData.strOk a = true) (k : PyData.strOk b = true) : PyData.strOk (a ++ b) = true := by
  rw [strOk_iff] at *
  intro c hc
  rcases PyProof.Rows.mem_cps_append.mp hc with hc | hc
  · exact h c hc
  · exact k c hc
mutual
/-- strings in it are shown by signs that are ones -/
def noStr : PyData → Bool
  | .str x => PyData.strOk (reprText x)
  | .dict _ => false
  | .list xs | .tuple xs => noStrs xs
  | _ => true
def noStrs : List PyData → Bool
  | [] => true
  | x :: xs => noStr x && noStrs xs
end
theorem noStrAll : ∀ xs : List PyData, noStrs xs = true ↔ ∀ x ∈ xs, noStr x = true
  | [] => by simp [noStrs]
  | x :: xs => by simp [noStrs, noStrAll xs]
theorem noStr_ints (xs : List Int) : noStrs (iL xs) = true := by
  rw [noStrAll]
  intro y hy
  simp only [iL, List.mem_map] at hy
  obtain ⟨x, _, rfl⟩ := hy
  rfl
theorem join_ok (sep : Str) (h : PyData.strOk sep = true) {ts : List Str} (ht : ∀ t ∈ ts, PyData.strOk t = true) : PyData.strOk (Str.join sep ts) = true := by
  rw [strOk_iff]
  intro c hc
  rcases (PyProof.Rows.mem_join sep c ts).mp hc with ⟨t, h1, h2⟩ | ⟨_, h2⟩
  · exact strOk_iff.mp (ht t h1) c h2
  · exact strOk_iff.mp h c h2
mutual
theorem shown_okD : ∀ {x : PyData}, noStr x = true → PyData.strOk x.shown = true
  | .none, _ => by rw [PyData.shown_none]; decide +kernel
  | .bool b, _ => by rw [PyData.shown_bool]; cases b <;> decide +kernel
  | .int i, _ => by
    rw [strOk_iff]
    intro c hc
    refine Classical.byContradiction fun z => ?_
    exact PyProof.Rows.shown_int_free' (k := c) (by omega) i hc
  | .str x, h => by
    rw [PyData.shown_str]
    simpa [noStr] using h
  | .dict _, h => by simp [noStr] at h
  | .list xs, h => by
    rw [PyData.shown_list]
    exact strOk_app (strOk_app (by decide +kernel) (join_ok _ (by decide +kernel) (shown_okDs (by simpa [noStr] using h)))) (by decide +kernel)
  | .tuple xs, h => by
    rw [PyData.shown_tuple]
    exact strOk_app (strOk_app (by decide +kernel) (join_ok _ (by decide +kernel) (shown_okDs (by simpa [noStr] using h)))) (by split <;> decide +kernel)
theorem shown_okDs : ∀ {xs : List PyData}, noStrs xs = true → ∀ t ∈ PyData.shownAll xs, PyData.strOk t = true
  | [], _, t, ht => by rw [PyData.shownAll_nil] at ht; exact absurd ht (by simp)
  | x :: xs, h, t, ht => by
    simp only [noStrs, Bool.and_eq_true] at h
    rw [PyData.shownAll_cons, List.mem_cons] at ht
    rcases ht with rfl | ht
    · exact shown_okD h.1
    · exact shown_okDs h.2 t ht
end
theorem cmp_neS {a b : Str} (h : PyData.strOk a = true) (k : PyData.strOk b = true) : cmpD .ne (.str a) (.str b) = some (!(a == b)) := by
  simp [cmpD, shp_str h, shp_str k, PyData.eqv]
theorem cmp_eqS {a b : Str} (h : PyData.strOk a = true) (k : PyData.strOk b = true) : cmpD .eq (.str a) (.str b) = some (a == b) := by
  simp [cmpD, shp_str h, shp_str k, PyData.eqv]
end L3

/-! Pairs of ints, books, loops that look for something. -/
namespace L3
open PySem
abbrev PI2 := Int × Int
def pP (p : PI2) : PyData := .tuple [.int p.1, .int p.2]
def bL (ps : List PI2) : List PyData := ps.map pP
theorem len_bL (ps : List PI2) : (bL ps).length = ps.length := by simp [bL]
theorem app_bL (ps qs : List PI2) : bL ps ++ bL qs = bL (ps ++ qs) := by simp [bL]
theorem bL_perm {ys : List PyData} {xs : List PI2} (h : ys.Perm (bL xs)) : ∃ zs, ys = bL zs ∧ zs.Perm xs := map_perm pP h
theorem eqv_pP (p q : PI2) : PyData.eqv (pP p) (pP q) = decide (p = q) := by
  obtain ⟨a, b⟩ := p
  obtain ⟨c, d⟩ := q
  simp only [pP, PyData.eqv, PyData.eqvAll]
  by_cases h1 : a = c <;> by_cases h2 : b = d <;> simp [h1, h2]
theorem eqv_bL : ∀ ps qs : List PI2, PyData.eqvAll (bL ps) (bL qs) = decide (ps = qs)
  | [], [] => by simp [bL, PyData.eqvAll]
  | [], q :: qs => by simp [bL, PyData.eqvAll]
  | p :: ps, [] => by simp [bL, PyData.eqvAll]
  | p :: ps, q :: qs => by
    have := eqv_bL ps qs
    simp only [bL] at this
    simp only [bL, List.map_cons, PyData.eqvAll, eqv_pP, this]
    by_cases e : p = q <;> by_cases f : ps = qs <;> simp [e, f]
theorem Sh.pP {k : Nat} {p : PI2} : Sh (k + 1) (pP p) := Sh.tuple fun x hx => by
  simp at hx
  rcases hx with rfl | rfl <;> exact Sh.int
theorem Sh.bL {k : Nat} {ps : List PI2} : ∀ x ∈ bL ps, Sh (k + 1) x := fun x hx => by
  simp only [L3.bL, List.mem_map] at hx
  obtain ⟨p, _, rfl⟩ := hx
  exact Sh.pP
theorem isin_b (p : PI2) (ps : List PI2) : isinD (pP p) (.tuple (bL ps)) = some (decide (p ∈ ps)) := by
  have h1 := (Sh.pP (k := 0) (p := p)).shp
  have h2 := (Sh.tuple (Sh.bL (k := 0) (ps := ps))).shp
  have h3 : (bL ps).any (fun z => PyData.eqv z (pP p)) = decide (p ∈ ps) := by
    clear h2
    induction ps with
    | nil => simp [bL]
    | cons q ps ih =>
      simp only [bL] at ih ⊢
      rw [List.map_cons, List.any_cons, ih, eqv_pP]
      by_cases e : q = p
      · simp [e]
      · have e' : ¬ p = q := fun z => e z.symm
        simp [e, e']
  unfold pP at *
  simp only [isinD, h1, h2, Bool.and_self, if_true, h3]
theorem isin_bl (p : PI2) (ps : List PI2) : isinD (pP p) (.list (bL ps)) = some (decide (p ∈ ps)) := by
  have h1 := (Sh.pP (k := 0) (p := p)).shp
  have h2 := (Sh.list (Sh.bL (k := 0) (ps := ps))).shp
  have h := isin_b p ps
  have h4 := (Sh.tuple (Sh.bL (k := 0) (ps := ps))).shp
  unfold pP at *
  simp only [isinD, h1, h2, h4, Bool.and_self, if_true] at h ⊢
  exact h
theorem isin_i (x : Int) (xs : List Int) : isinD (.int x) (.tuple (iL xs)) = some (decide (x ∈ xs)) := by
  have h1 := (Sh.int (k := 0) (i := x)).shp
  have h2 := shp_tints xs
  have h3 : (iL xs).any (fun z => PyData.eqv z (.int x)) = decide (x ∈ xs) := by
    clear h2
    induction xs with
    | nil => simp [iL]
    | cons q ps ih =>
      simp only [iL] at ih ⊢
      rw [List.map_cons, List.any_cons, ih]
      simp only [PyData.eqv]
      by_cases e : q = x
      · simp [e]
      · have e' : ¬ x = q := fun z => e z.symm
        simp [e, e']
  simp only [isinD, h1, h2, Bool.and_self, if_true, h3]
theorem isin_il (x : Int) (xs : List Int) : isinD (.int x) (.list (iL xs)) = some (decide (x ∈ xs)) := by
  have h := isin_i x xs
  have h1 := (Sh.int (k := 0) (i := x)).shp
  have h2 := shp_tints xs
  have h3 := shp_lints xs
  simp only [isinD, h1, h2, h3, Bool.and_self, if_true] at h ⊢
  exact h
theorem cin_b (p : PI2) (ps : List PI2) : cmpD .isin (pP p) (.tuple (bL ps)) = some (decide (p ∈ ps)) := isin_b p ps
theorem cin_bl (p : PI2) (ps : List PI2) : cmpD .isin (pP p) (.list (bL ps)) = some (decide (p ∈ ps)) := isin_bl p ps
theorem cin_b2 (x y : Int) (ps : List PI2) : cmpD .isin (.tuple [.int x, .int y]) (.tuple (bL ps)) = some (decide ((x, y) ∈ ps)) := isin_b (x, y) ps
theorem cin_bl2 (x y : Int) (ps : List PI2) : cmpD .isin (.tuple [.int x, .int y]) (.list (bL ps)) = some (decide ((x, y) ∈ ps)) := isin_bl (x, y) ps
theorem cin_i (x : Int) (xs : List Int) : cmpD .isin (.int x) (.tuple (iL xs)) = some (decide (x ∈ xs)) := isin_i x xs
theorem cin_il (x : Int) (xs : List Int) : cmpD .isin (.int x) (.list (iL xs)) = some (decide (x ∈ xs)) := isin_il x xs
theorem cmp_eqI (i j : Int) : cmpD .eq (.int i) (.int j) = some (decide (i = j)) := by rw [cmp_eq]; congr 1
theorem cmp_neI (i j : Int) : cmpD .ne (.int i) (.int j) = some (!decide (i = j)) := by rw [cmp_ne]; congr 1
theorem cmp_is (x : PyData) : cmpD .is x .none = some (isNone x) := by cases x <;> rfl
theorem cmp_isnot (x : PyData) : cmpD .isnot x .none = some (!isNone x) := by cases x <;> rfl
theorem cmp_eqT (xs ys : List Int) : cmpD .eq (.tuple (iL xs)) (.tuple (iL ys)) = some (decide (xs = ys)) := by simp only [cmpD, shp_tints, PyData.eqv, eqv_ints]; simp
theorem cmp_neT (xs ys : List Int) : cmpD .ne (.tuple (iL xs)) (.tuple (iL ys)) = some (!decide (xs = ys)) := by simp only [cmpD, shp_tints, PyData.eqv, eqv_ints]; simp
theorem cmp_eqT0 (xs : List Int) : cmpD .eq (.tuple (iL xs)) (.tuple []) = some (decide (xs = [])) := cmp_eqT xs []
theorem cmp_neT0 (xs : List Int) : cmpD .ne (.tuple (iL xs)) (.tuple []) = some (!decide (xs = [])) := cmp_neT xs []
theorem cmp_neB0 (ps : List PI2) : cmpD .ne (.tuple (bL ps)) (.tuple []) = some (!decide (ps = [])) := by
  rw [neNilT _ Sh.bL]
  cases ps <;> simp [bL]
theorem at_p0 (p : PI2) : atD (pP p) (.int 0) = some (.int p.1) := rfl
theorem at_p1 (p : PI2) : atD (pP p) (.int 1) = some (.int p.2) := rfl
theorem bind_p {i j : Nat} (p : PI2) (ρ : Env) : bindT (.t [.n i, .n j]) (pP p) ρ = some ((ρ.set i (some (.p (.int p.1)))).set j (some (.p (.int p.2)))) := rfl
theorem noStr_bL (ps : List PI2) : noStrs (bL ps) = true := by
  rw [noStrAll]
  intro y hy
  simp only [bL, List.mem_map] at hy
  obtain ⟨x, _, rfl⟩ := hy
  rfl
theorem Pl.pP {B : Nat} {p : PI2} (h1 : p.1.natAbs < 10 ^ B) (h2 : p.2.natAbs < 10 ^ B) : Pl B 1 (2 * (4 * B + 1)) (pP p) := Pl.tuple (m := 2) (fun x hx => by
  simp at hx
  rcases hx with rfl | rfl
  · exact Pl.int h1
  · exact Pl.int h2) (by simp)
theorem Pl.book {B m : Nat} {ps : List PI2} (h : ∀ p ∈ ps, p.1.natAbs < 10 ^ B ∧ p.2.natAbs < 10 ^ B) (l : ps.length ≤ m) : Pl B 2 (m * (2 * (4 * B + 1) + 1)) (.tuple (bL ps)) :=
  Pl.tuple (m := m) (fun x hx => by
    simp only [bL, List.mem_map] at hx
    obtain ⟨p, hp, rfl⟩ := hx
    exact Pl.pP (h p hp).1 (h p hp).2) (by rw [len_bL]; exact l)
/-! ### loops that look for something -/
theorem forL_find {α : Type} (inj : α → PyData) {tg : Tg} {body : Env → Fl} (p : α → Bool) (ret : α → D) (I J : Env → Prop) : ∀ (xs : List α),
    (∀ x ∈ xs, ∀ ρ, I ρ → ∃ ρ1, bindT tg (inj x) ρ = some ρ1 ∧ (p x = true → ∃ ρ2, body ρ1 = .rt (ret x) ρ2 ∧ J ρ2) ∧ (p x = false → ∃ ρ2, (body ρ1 = .nx ρ2 ∨ body ρ1 = .ct ρ2) ∧ I ρ2)) →
    ∀ ρ, I ρ → (∀ x, xs.find? p = some x → ∃ ρ2, forL tg body (xs.map inj) ρ = .rt (ret x) ρ2 ∧ J ρ2) ∧ (xs.find? p = none → ∃ ρ2, forL tg body (xs.map inj) ρ = .nx ρ2 ∧ I ρ2)
  | [], _, ρ, hI => ⟨fun x h => by simp at h, fun _ => ⟨ρ, rfl, hI⟩⟩
  | x :: xs, h, ρ, hI => by
    obtain ⟨ρ1, e1, h1, h2⟩ := h x (List.mem_cons_self ..) ρ hI
    rw [List.map_cons, forL, e1]
    dsimp only
    by_cases c : p x = true
    · obtain ⟨ρ2, e2, j2⟩ := h1 c
      rw [e2, List.find?_cons_of_pos c]
      exact ⟨fun y e => by cases e; exact ⟨ρ2, rfl, j2⟩, fun e => by cases e⟩
    · have c' : p x = false := by simpa using c
      obtain ⟨ρ2, e2, i2⟩ := h2 c'
      rw [List.find?_cons_of_neg c]
      have ih := forL_find inj p ret I J xs (fun y hy => h y (List.mem_cons_of_mem _ hy)) ρ2 i2
      rcases e2 with e2 | e2 <;> rw [e2] <;> exact ih
/-- what a turn of a loop that looks for something gives -/
def Lk (I : Env → Prop) (c : Bool) (r : D → Env → Prop) : Fl → Prop
  | .nx ρ => c = false ∧ I ρ
  | .ct ρ => c = false ∧ I ρ
  | .rt d ρ => c = true ∧ r d ρ
  | _ => False
/-- .. and what the loop gives -/
def Lf {α : Type} (I : Env → Prop) (r : α → D → Env → Prop) (o : Option α) (f : Fl) : Prop := match o with
  | some x => ∃ d ρ2, f = .rt d ρ2 ∧ r x d ρ2
  | none => ∃ ρ2, f = .nx ρ2 ∧ I ρ2
theorem forL_look {α : Type} (inj : α → PyData) {tg : Tg} {body : Env → Fl} (p : α → Bool) (I : Env → Prop) (r : α → D → Env → Prop) : ∀ (xs : List α),
    (∀ x ∈ xs, ∀ ρ, I ρ → ∃ ρ1, bindT tg (inj x) ρ = some ρ1 ∧ Lk I (p x) (r x) (body ρ1)) → ∀ ρ, I ρ → Lf I r (xs.find? p) (forL tg body (xs.map inj) ρ)
  | [], _, ρ, hI => ⟨ρ, rfl, hI⟩
  | x :: xs, h, ρ, hI => by
    obtain ⟨ρ1, e1, h1⟩ := h x (List.mem_cons_self ..) ρ hI
    have ih := fun ρ2 i2 => forL_look inj p I r xs (fun y hy => h y (List.mem_cons_of_mem _ hy)) ρ2 i2
    rw [List.map_cons, forL, e1]
    dsimp only
    revert h1
    cases body ρ1 with
    | nx ρ2 => rintro ⟨c, i2⟩; rw [List.find?_cons_of_neg (by simp [c])]; exact ih ρ2 i2
    | ct ρ2 => rintro ⟨c, i2⟩; rw [List.find?_cons_of_neg (by simp [c])]; exact ih ρ2 i2
    | rt d ρ2 => rintro ⟨c, i2⟩; rw [List.find?_cons_of_pos c]; exact ⟨d, ρ2, rfl, i2⟩
    | st => exact False.elim
    | bk _ => exact False.elim
    | ex _ _ => exact False.elim
/-- what a turn of a loop that goes through gives -/
def Go (I : Env → Prop) : Fl → Prop
  | .nx ρ => I ρ
  | .ct ρ => I ρ
  | _ => False
theorem forL_go {α : Type} (inj : α → PyData) {tg : Tg} {body : Env → Fl} (I : List α → Env → Prop) :
    ∀ (xs : List α) (ρ : Env), I xs ρ → (∀ x r ρ, (∃ l, xs = l ++ x :: r) → I (x :: r) ρ → ∃ ρ1, bindT tg (inj x) ρ = some ρ1 ∧ Go (I r) (body ρ1)) → ∃ ρ2, forL tg body (xs.map inj) ρ = .nx ρ2 ∧ I [] ρ2
  | [], ρ, hI, _ => ⟨ρ, rfl, hI⟩
  | x :: xs, ρ, hI, h => by
    obtain ⟨ρ1, e1, h1⟩ := h x xs ρ ⟨[], rfl⟩ hI
    have ih := fun ρ2 i2 => forL_go inj I xs ρ2 i2 fun y r ρ ⟨l, e⟩ => h y r ρ ⟨x :: l, by rw [e]; rfl⟩
    rw [List.map_cons, forL, e1]
    dsimp only
    revert h1
    cases body ρ1 with
    | nx ρ2 => exact ih ρ2
    | ct ρ2 => exact ih ρ2
    | rt d ρ2 => exact False.elim
    | st => exact False.elim
    | bk _ => exact False.elim
    | ex _ _ => exact False.elim
/-- a loop that goes through -/
theorem forL_all {α : Type} (inj : α → PyData) {tg : Tg} {body : Env → Fl} (I : List α → Env → Prop) :
    ∀ (xs : List α) (ρ : Env), I xs ρ → (∀ x r ρ, (∃ l, xs = l ++ x :: r) → I (x :: r) ρ → ∃ ρ1, bindT tg (inj x) ρ = some ρ1 ∧ ∃ ρ2, (body ρ1 = .nx ρ2 ∨ body ρ1 = .ct ρ2) ∧ I r ρ2) →
    ∃ ρ2, forL tg body (xs.map inj) ρ = .nx ρ2 ∧ I [] ρ2
  | [], ρ, hI, _ => ⟨ρ, rfl, hI⟩
  | x :: xs, ρ, hI, h => by
    obtain ⟨ρ1, e1, ρ2, e2, i2⟩ := h x xs ρ ⟨[], rfl⟩ hI
    obtain ⟨ρ3, e3, i3⟩ := forL_all inj I xs ρ2 i2 fun y r ρ ⟨l, e⟩ => h y r ρ ⟨x :: l, by rw [e]; rfl⟩
    refine ⟨ρ3, ?_, i3⟩
    rw [List.map_cons, forL, e1]
    dsimp only
    rcases e2 with e2 | e2 <;> rw [e2] <;> exact e3
theorem enum_map {α : Type} (inj : α → PyData) : ∀ (xs : List α) (n : Nat), enumFrom n (xs.map inj) = (xs.zipIdx n).map fun p => .tuple [.int (p.2 : Nat), inj p.1]
  | [], _ => rfl
  | x :: xs, n => by rw [List.map_cons, enumFrom, enum_map inj xs (n + 1), List.zipIdx_cons, List.map_cons]
/-! lists that grow -/
theorem ext_go {F : FT} {i : Nat} {e : E} {ρ ρ1 : Env} {x0 xs ys : List PyData} (h0 : slot ρ i = some (.l x0)) (he : ev F e ρ = .ok (.o (.l ys)) ρ1) (h1 : slot ρ1 i = some (.l xs)) (hl : xs.length + ys.length ≤ 16777216) :
    exs F (.expr (.mut .extend i [] [e])) ρ = .nx (ρ1.set i (some (.l (xs ++ ys)))) := by
  have ex := ext_l hl
  have a : has ρ i = true := by simp [has, h0]
  have b : isL ρ i none = true := by simp [isL, h0, isOwnL]
  rw [exs, ev, if_pos a, evk]
  simp only [Res.bind, b, if_true, evl, he, isQ, quiets, Bool.not_false, Bool.true_or, Option.isNone_none, margs, T.lst, Option.map_some, chg, h1, ex, Res.fl]
theorem app_go {F : FT} {i : Nat} {e : E} {ρ ρ1 : Env} {x0 xs : List PyData} {y : PyData} (h0 : slot ρ i = some (.l x0)) (he : ev F e ρ = .ok (.o (.p y)) ρ1) (h1 : slot ρ1 i = some (.l xs)) (hl : xs.length < 16777216) :
    exs F (.expr (.mut .append i [] [e])) ρ = .nx (ρ1.set i (some (.l (xs ++ [y])))) := by
  have ex := app_any (c := y) hl
  have a : has ρ i = true := by simp [has, h0]
  have b : isL ρ i none = true := by simp [isL, h0, isOwnL]
  rw [exs, ev, if_pos a, evk]
  simp only [Res.bind, b, if_true, evl, he, isQ, quiets, Bool.not_false, Bool.true_or, Option.isNone_none, margs, pures, T.pure, chg, h1, Option.map_some, ex, Res.fl]
end L3

/-! The urn: a third way of drawing, and the books and lines drawn from it. -/
namespace L3
open PySem
def Ur (g : List Int) (m t : Int) : D := .d [(.inr "deep", .l (iL g)), (.inr "state", .p (.int m)), (.inr "turn", .p (.int t))]
def IsUr (d : D) : Prop := ∃ g m t, d = Ur g m t ∧ g.length ≤ 64
theorem uk1 : ¬ (Str.ofString "deep" = Str.ofString "state") := by decide
theorem uk2 : ¬ (Str.ofString "deep" = Str.ofString "turn") := by decide
theorem uk3 : ¬ (Str.ofString "state" = Str.ofString "turn") := by decide
theorem ug1 {g m t} : getAt (Ur g m t) (.str "deep") = some (.l (iL g)) := by simp [Ur, getAt, keyOf, kvGet]
theorem ug2 {g m t} : getAt (Ur g m t) (.str "state") = some (.p (.int m)) := by simp [Ur, getAt, keyOf, kvGet, uk1]
theorem ug3 {g m t} : getAt (Ur g m t) (.str "turn") = some (.p (.int t)) := by simp [Ur, getAt, keyOf, kvGet, uk2, uk3]
theorem us1 {g m t} {xs : List Int} : setAt (Ur g m t) (.str "deep") (.l (iL xs)) = some (Ur xs m t) := by simp [Ur, setAt, keyOf, kvPut]
theorem us2 {g m t} {x : Int} : setAt (Ur g m t) (.str "state") (.p (.int x)) = some (Ur g x t) := by simp [Ur, setAt, keyOf, kvPut, uk1]
theorem us3 {g m t} {x : Int} : setAt (Ur g m t) (.str "turn") (.p (.int x)) = some (Ur g m x) := by simp [Ur, setAt, keyOf, kvPut, uk2, uk3]
def takeB : List S := [
  .ifs (.cmp .lt (.pk 1) (.c (.int 2))) [.ret (.c (.int 0))] [],
  .ifs (.cmp .ne (.path 0 (.c (.str "deep"))) (.lst [])) [.asg (.n 3) (.mut .pop 0 [.c (.str "deep")] []), .ifs (.cmp .ge (.pk 3) (.pk 1)) [.expr (.mut .append 0 [.c (.str "deep")] [.bin .fdiv (.pk 3) (.pk 1)])] [], .ret (.bin .mod (.bi .int [.pk 3]) (.pk 1))] [],
  .asg (.ix 0 [] (.c (.str "turn"))) (.bin .add (.path 0 (.c (.str "turn"))) (.c (.int 1))),
  .asg (.n 2) (.bin .mod (.bi .int [.bin .add (.bin .mul (.path 0 (.c (.str "state"))) (.c (.int 2862933555777941757))) (.bin .mul (.c (.int 3037000493)) (.path 0 (.c (.str "turn"))))]) (.c (.int 2305843009213693951))),
  .asg (.ix 0 [] (.c (.str "state"))) (.v 2),
  .ret (.bin .mod (.bi .int [.bin .fdiv (.bin .mod (.bi .int [.bin .add (.bin .mul (.pk 2) (.pk 2)) (.bin .mul (.c (.int 362436069)) (.pk 2))]) (.c (.int 2305843009213693921))) (.c (.int 4194304))]) (.pk 1))]
def takeD : Def := ⟨2, 4, [0], takeB⟩
theorem take_ok {F : FT} {d : D} {many : Int} (hd : IsUr d) (h1 : 1 ≤ many) (hm : many < 1073741824) : ∃ r d' ρ, exb F takeB [some d, some (.p (.int many)), none, none] = .rt (.p (.int r)) ρ ∧ outs ρ 2 [0] = [some d', none] ∧ IsUr d' ∧ 0 ≤ r ∧ r < many := by
  obtain ⟨g, st, ti, rfl, hf⟩ := hd
  by_cases h : many < 2
  · refine ⟨0, Ur g st ti, [some (Ur g st ti), some (.p (.int many)), none, none], ?_, rfl, ⟨g, st, ti, rfl, hf⟩, by omega, by omega⟩
    simp [takeB, exb, exs, tst, ev, evd, evl, evo, evk, evi, kCall, takeArgs, putBack, chg, has, atK, isL, isOwnL, margs, pures, fz, sto, stoD, L3.Fl.seq, L3.Fl.unlock, L3.Res.fl, L3.Res.bind, slot, L3.T.dat, L3.T.pure, L3.D.flat, qok, isQ, L3.E.quiet, quiets, dats, truth, wargs, walk, L3.lock, L3.unlock, Option.bind_some, Option.map_some, prm, tests, cmp_lt, h]
  · have hp : 0 < many := by omega
    have m0 : ∀ x : Int, 0 ≤ x % many ∧ x % many < many := fun x => ⟨Int.emod_nonneg _ (by omega), Int.emod_lt_of_pos _ hp⟩
    rcases List.eq_nil_or_concat g with rfl | ⟨g, c, rfl⟩
    · let s1 := (st * 2862933555777941757 + 3037000493 * (ti + 1)) % 2305843009213693951
      let s2 := (s1 * s1 + 362436069 * s1) % 2305843009213693921
      have b1 : two64 s1 = true := two64_of (by have := Int.emod_nonneg (st * 2862933555777941757 + 3037000493 * (ti + 1)) (b := 2305843009213693951) (by decide); omega) (by have := Int.emod_lt_of_pos (st * 2862933555777941757 + 3037000493 * (ti + 1)) (b := 2305843009213693951) (by decide); omega)
      have e0 : cmpD .ne (.list (iL [])) (.list []) = some false := by rw [cmp_neN]; simp
      refine ⟨(s2 / 4194304) % many, Ur [] s1 (ti + 1), [some (Ur [] s1 (ti + 1)), some (.p (.int many)), some (.p (.int s1)), none], ?_, rfl, ⟨[], s1, ti + 1, rfl, by simp⟩, (m0 _).1, (m0 _).2⟩
      have c1 : two64 2862933555777941757 = true := by decide
      have c2 : two64 3037000493 = true := by decide
      have c3 : two64 362436069 = true := by decide
      simp [takeB, exb, exs, tst, ev, evd, evl, evo, evk, evi, kCall, takeArgs, putBack, chg, has, atK, isL, isOwnL, margs, pures, fz, sto, stoD, L3.Fl.seq, L3.Fl.unlock, L3.Res.fl, L3.Res.bind, slot, L3.T.dat, L3.T.pure, L3.D.flat, qok, isQ, L3.E.quiet, quiets, dats, truth, wargs, walk, L3.lock, L3.unlock, Option.bind_some, Option.map_some, prm, tests, cmp_lt, e0, h, ug1, ug2, ug3, us2, us3, bin_add, bin_mod, bin_fdiv, bin_mul, b1, c1, c2, c3, bi, hp, s1, s2]
    · have hl : g.length < 1000000 := by simp at hf; omega
      have e0 : cmpD .ne (.list (iL (g ++ [c]))) (.list []) = some true := by rw [cmp_neN]; simp
      have e1 : getAt (Ur (g ++ [c]) st ti) (.str "deep") = some (.l (iL (g ++ [c]))) := ug1
      have e2 : meth .pop [] (.l (iL (g ++ [c]))) = some (.int c, .l (iL g)) := pop_last
      have e5 : setAt (Ur (g ++ [c]) st ti) (.str "deep") (.l (iL g)) = some (Ur g st ti) := us1
      by_cases hc : many ≤ c
      · refine ⟨c % many, Ur (g ++ [c / many]) st ti, [some (Ur (g ++ [c / many]) st ti), some (.p (.int many)), none, some (.p (.int c))], ?_, rfl, ⟨g ++ [c / many], st, ti, rfl, by simpa using hf⟩, (m0 _).1, (m0 _).2⟩
        have e3 : meth .append [.int (c / many)] (.l (iL g)) = some (.none, .l (iL (g ++ [c / many]))) := app_one hl
        have e4 : setAt (Ur g st ti) (.str "deep") (.l (iL (g ++ [c / many]))) = some (Ur (g ++ [c / many]) st ti) := us1
        have e6 : getAt (Ur g st ti) (.str "deep") = some (.l (iL g)) := ug1
        simp [takeB, exb, exs, tst, ev, evd, evl, evo, evk, evi, kCall, takeArgs, putBack, chg, has, atK, isL, isOwnL, margs, pures, fz, sto, stoD, L3.Fl.seq, L3.Fl.unlock, L3.Res.fl, L3.Res.bind, slot, L3.T.dat, L3.T.pure, L3.D.flat, qok, isQ, L3.E.quiet, quiets, dats, truth, wargs, walk, L3.lock, L3.unlock, Option.bind_some, Option.map_some, prm, tests, cmp_lt, cmp_ge, h, hc, e0, e1, e2, e3, e4, e5, e6, bin_add, bin_mod, bin_fdiv, bin_mul, bi, hp, hm]
      · refine ⟨c % many, Ur g st ti, [some (Ur g st ti), some (.p (.int many)), none, some (.p (.int c))], ?_, rfl, ⟨g, st, ti, rfl, by simp at hf; omega⟩, (m0 _).1, (m0 _).2⟩
        simp [takeB, exb, exs, tst, ev, evd, evl, evo, evk, evi, kCall, takeArgs, putBack, chg, has, atK, isL, isOwnL, margs, pures, fz, sto, stoD, L3.Fl.seq, L3.Fl.unlock, L3.Res.fl, L3.Res.bind, slot, L3.T.dat, L3.T.pure, L3.D.flat, qok, isQ, L3.E.quiet, quiets, dats, truth, wargs, walk, L3.lock, L3.unlock, Option.bind_some, Option.map_some, prm, tests, cmp_lt, cmp_ge, h, hc, e0, e1, e2, e5, bin_add, bin_mod, bin_fdiv, bin_mul, bi, hp, hm]
theorem take_def {P : List Def} {i : Nat} (h : P[i]? = some takeD) (n : Nat) : DrawF IsUr (callF P (n + 1)) i := fun d many hd h1 hm => by
  obtain ⟨r, d', ρ, e, ho, h2, h3, h4⟩ := take_ok (F := callF P n) hd h1 hm
  exact ⟨r, d', run_rt h rfl rfl e ho, h2, h3, h4⟩
/-! the urn of a script -/
def urnL : List S := [.ifs (.cmp .ge (.bi .abs [.pk 2]) (.bin .pow (.c (.int 10)) (.c (.int 18)))) [.asg (.ix 1 [] (.c (.str "deep"))) (.bin .add (.lst [.bi .abs [.pk 2]]) (.path 1 (.c (.str "deep"))))] [], .asg (.n 3) (.bin .add (.bin .mul (.c (.int 2)) (.bi .abs [.pk 2])) (.bi .int [.cmp .lt (.pk 2) (.c (.int 0))])), .asg (.ix 1 [] (.c (.str "state"))) (.bin .mod (.bi .int [.bin .add (.bin .mul (.bin .add (.bin .add (.path 1 (.c (.str "state"))) (.pk 3)) (.c (.int 1))) (.c (.int 2862933555777941757))) (.c (.int 3037000493))]) (.c (.int 2305843009213693951)))]
def urnB (seed : Int) : List S := [
  .asg (.n 1) (.dct [.inr "deep", .inr "state", .inr "turn"] [.lst [], .bin .add (.c (.int seed)) (.bi .len [.sl (.pk 0) [] [.c (.int 63)]]), .c (.int 0)]),
  .for (.n 2) .seq none [.fz (.sl (.pk 0) [] [.c (.int 63)])] urnL,
  .ret (.mv 1)]
def urnD (seed : Int) : Def := ⟨1, 4, [], urnB seed⟩
theorem pow18 : bin .pow (.int 10) (.int 18) = some (.p (.int 1000000000000000000)) := by simp [bin]
theorem urn_loop {F : FT} {a : Option D} : ∀ (xs g : List Int) (m : Int) (b c : Option D), g.length + xs.length ≤ 64 →
    ∃ g' m' b' c', forL (.n 2) (exb F urnL) (iL xs) [a, some (Ur g m 0), b, c] = .nx [a, some (Ur g' m' 0), b', c'] ∧ g'.length ≤ 64
  | [], g, m, b, c, h => ⟨g, m, b, c, rfl, by simpa using h⟩
  | x :: xs, g, m, b, c, h => by
    have c1 : two64 2862933555777941757 = true := by decide
    have c2 : two64 2 = true := by decide
    have hl : 1 + (iL g).length ≤ 16777216 := by rw [len_iL]; simp at h; omega
    have key : ∃ g1 m1 c3, exb F urnL [a, some (Ur g m 0), some (.p (.int x)), c] = .nx [a, some (Ur g1 m1 0), some (.p (.int x)), c3] ∧ g1.length ≤ g.length + 1 := by
      have go : ∀ (ab t : Int), bi .abs [.int x] = some (.p (.int ab)) → bi .int [.bool (decide (x < 0))] = some (.p (.int t)) → ∃ g1 m1 c3, exb F urnL [a, some (Ur g m 0), some (.p (.int x)), c] = .nx [a, some (Ur g1 m1 0), some (.p (.int x)), c3] ∧ g1.length ≤ g.length + 1 := fun ab t ha ht => by
        have mm : ∀ z : Int, bi .int [.int z] = some (.p (.int z)) := fun _ => rfl
        by_cases k : 1000000000000000000 ≤ ab
        · have ea : bin .add (.list [.int ab]) (.list (iL g)) = some (.l (iL (ab :: g))) := by
            rw [add_l (by simpa using hl)]
            rfl
          have n1 : (1 : Nat) ≤ sizeLine := by decide
          refine ⟨ab :: g, ((m + (2 * ab + t) + 1) * 2862933555777941757 + 3037000493) % 2305843009213693951, some (.p (.int (2 * ab + t))), ?_, Nat.le_refl _⟩
          simp [urnL, exb, exs, tst, ev, evd, evl, evo, evk, evi, kCall, takeArgs, putBack, chg, has, atK, isL, isOwnL, margs, pures, fz, sto, stoD, L3.Fl.seq, L3.Fl.unlock, L3.Res.fl, L3.Res.bind, slot, L3.T.dat, L3.T.pure, L3.D.flat, qok, isQ, L3.E.quiet, quiets, dats, truth, wargs, walk, L3.lock, L3.unlock, Option.bind_some, Option.map_some, prm, tests, cmp_lt, cmp_ge, ug1, ug2, ug3, us1, us2, us3, bin_add, bin_mod, bin_mul, c1, c2, ha, ht, mm, pow18, k, ea, n1]
        · refine ⟨g, ((m + (2 * ab + t) + 1) * 2862933555777941757 + 3037000493) % 2305843009213693951, some (.p (.int (2 * ab + t))), ?_, Nat.le_succ _⟩
          simp [urnL, exb, exs, tst, ev, evd, evl, evo, evk, evi, kCall, takeArgs, putBack, chg, has, atK, isL, isOwnL, margs, pures, fz, sto, stoD, L3.Fl.seq, L3.Fl.unlock, L3.Res.fl, L3.Res.bind, slot, L3.T.dat, L3.T.pure, L3.D.flat, qok, isQ, L3.E.quiet, quiets, dats, truth, wargs, walk, L3.lock, L3.unlock, Option.bind_some, Option.map_some, prm, tests, cmp_lt, cmp_ge, ug1, ug2, ug3, us1, us2, us3, bin_add, bin_mod, bin_mul, c1, c2, ha, ht, mm, pow18, k]
      exact go _ _ rfl rfl
    obtain ⟨g1, m1, c3, e, hg⟩ := key
    obtain ⟨g', m', b', c', e2, h2⟩ := urn_loop (F := F) (a := a) xs g1 m1 (some (.p (.int x))) c3 (by simp at h; omega)
    refine ⟨g', m', b', c', ?_, h2⟩
    rw [← e2]
    show forL _ _ (.int x :: iL xs) _ = _
    rw [forL]
    simp only [bindT, List.set_cons_succ, List.set_cons_zero, e]
theorem urn_def {P : List Def} {i : Nat} {seed : Int} (h : P[i]? = some (urnD seed)) (n : Nat) : LoomF IsUr (callF P (n + 1)) i := fun ns hn => by
  obtain ⟨g', m', b', c', e, hg⟩ := urn_loop (F := callF P n) (a := some (.p (.list (iL ns)))) ns [] (seed + ns.length) none none (by simp; omega)
  refine ⟨Ur g' m' 0, run_rt (ρ' := [some (.p (.list (iL ns))), none, b', c']) h rfl rfl ?_ rfl, g', m', 0, rfl, hg⟩
  generalize callF P n = F at *
  have kk : ([Sum.inr "deep", Sum.inr "state", Sum.inr "turn"] : List L3.Key).Nodup := by decide
  have e1 : exs F (.asg (.n 1) (.dct [.inr "deep", .inr "state", .inr "turn"] [.lst [], .bin .add (.c (.int seed)) (.bi .len [.sl (.pk 0) [] [.c (.int 63)]]), .c (.int 0)])) [some (.p (.list (iL ns))), none, none, none] = .nx [some (.p (.list (iL ns))), some (Ur [] (seed + ns.length) 0), none, none] := by
    simp [exb, exs, tst, ev, evd, evl, evo, evk, evi, kCall, takeArgs, putBack, chg, has, atK, isL, isOwnL, margs, pures, fz, sto, stoD, L3.Fl.seq, L3.Fl.unlock, L3.Res.fl, L3.Res.bind, slot, L3.T.dat, L3.T.pure, L3.D.flat, qok, isQ, L3.E.quiet, quiets, dats, truth, wargs, walk, L3.lock, L3.unlock, Option.bind_some, Option.map_some, prm, tests, sl63 ns hn, bi, len_iL, bin_add, kk, Ur]
    try rfl
  have e2 : exs F (.for (.n 2) .seq none [.fz (.sl (.pk 0) [] [.c (.int 63)])] urnL) [some (.p (.list (iL ns))), some (Ur [] (seed + ns.length) 0), none, none] = .nx [some (.p (.list (iL ns))), some (Ur g' m' 0), b', c'] := by
    rw [for_ev (ts := [.o (.p (.list (iL ns)))]) (ρ1 := [some (.p (.list (iL ns))), some (Ur [] (seed + ns.length) 0), none, none]) (by simp [exb, exs, tst, ev, evd, evl, evo, evk, evi, kCall, takeArgs, putBack, chg, has, atK, isL, isOwnL, margs, pures, fz, sto, stoD, L3.Fl.seq, L3.Fl.unlock, L3.Res.fl, L3.Res.bind, slot, L3.T.dat, L3.T.pure, L3.D.flat, qok, isQ, L3.E.quiet, quiets, dats, truth, wargs, walk, L3.lock, L3.unlock, Option.bind_some, Option.map_some, prm, tests, sl63 ns hn]) pw_iL]
    exact e
  show exb F (urnB seed) [some (.p (.list (iL ns))), none, none, none] = _
  rw [urnB, exb_go e1, exb_go e2]
  simp [exb, exs, tst, ev, evd, evl, evo, evk, evi, kCall, takeArgs, putBack, chg, has, atK, isL, isOwnL, margs, pures, fz, sto, stoD, L3.Fl.seq, L3.Fl.unlock, L3.Res.fl, L3.Res.bind, slot, L3.T.dat, L3.T.pure, L3.D.flat, qok, isQ, L3.E.quiet, quiets, dats, truth, wargs, walk, L3.lock, L3.unlock, Option.bind_some, Option.map_some, prm, tests]
end L3

/-! The orders that are drawn from the urn. -/
namespace L3
open PySem
theorem lcL_wipe {own : List Nat} {tg : Tg} {tst : Env → Res Bool} {elt : Env → Res T} {x : PyData} {xs acc : List PyData} {ρ : Env} (hw : wipe (wipe ρ own) own = wipe ρ own) : lcL own tg tst elt (x :: xs) acc ρ = lcL own tg tst elt (x :: xs) acc (wipe ρ own) := by
  rw [lcL, lcL, hw]
/-- a comprehension that first forgets its own names -/
theorem comp_evW {α : Type} (inj : α → PyData) (p : α → Bool) (f : α → PyData) (xs : List α) (e : α → Env) {F : FT} {own : List Nat} {tg : Tg} {k : It} {its cond : List E} {elt : E} {ρ ρ1 : Env} {ts : List T}
    (hev : evl F its ρ = .ok ts ρ1) (hd : (pures ts).bind (walk k) = some (xs.map inj)) (hw : wipe (wipe ρ1 own) own = wipe ρ1 own) (hl : xs.length < 16777216)
    (h : ∀ x ∈ xs, bindT tg (inj x) (wipe ρ1 own) = some (e x) ∧ wipe (e x) own = wipe ρ1 own ∧ tests F cond (e x) = .ok (p x) (e x) ∧ (p x = true → ev F elt (e x) = .ok (.o (.p (f x))) (e x))) :
    ∃ ρ2, (ρ2 = ρ1 ∨ ρ2 = wipe ρ1 own) ∧ ev F (.lc own tg k none its cond elt) ρ = .ok (.o (.l ((xs.filter p).map f))) ρ2 := by
  have h0 : (wargs none ρ1 ts).bind (walk k) = some (xs.map inj) := hd
  cases xs with
  | nil =>
    refine ⟨ρ1, .inl rfl, ?_⟩
    rw [ev, hev]
    simp only [Res.bind, h0, L3.lock]
    simp [lcL, L3.unlock]
  | cons x xs =>
    refine ⟨wipe ρ1 own, .inr rfl, ?_⟩
    rw [ev, hev]
    simp only [Res.bind, h0, L3.lock]
    rw [List.map_cons, lcL_wipe hw, ← List.map_cons, lc_G inj p f e hw (x :: xs) [] (by simpa using hl) h]
    simp [L3.unlock]
theorem kvGet_put {α : Type} {k : Key} {v : α} : ∀ {kvs : List (Key × α)}, kvGet k (kvPut k v kvs) = some v
  | [] => by simp [kvPut, kvGet]
  | (q, u) :: r => by
    by_cases e : q = k
    · simp [kvPut, kvGet, e]
    · simp [kvPut, kvGet, e, kvGet_put (kvs := r)]
theorem kvGet_put_ne {α : Type} {k l : Key} {v : α} (h : l ≠ k) : ∀ {kvs : List (Key × α)}, kvGet l (kvPut k v kvs) = kvGet l kvs
  | [] => by simp [kvPut, kvGet, Ne.symm h]
  | (q, u) :: r => by
    by_cases e : q = k
    · subst e
      simp [kvPut, kvGet, Ne.symm h]
    · by_cases e2 : q = l
      · subst e2
        simp [kvPut, kvGet, e]
      · simp [kvPut, kvGet, e, e2, kvGet_put_ne h (kvs := r)]
theorem kvPut_len {α : Type} {k : Key} {v : α} : ∀ {kvs : List (Key × α)}, (kvPut k v kvs).length ≤ kvs.length + 1
  | [] => by simp [kvPut]
  | (q, u) :: r => by
    by_cases e : q = k
    · simp [kvPut, e]
    · simp [kvPut, e]
      exact kvPut_len
/-- numbers below n, each once: no more than n -/
theorem few_below : ∀ (n : Nat) (l : List Int), l.Nodup → (∀ k ∈ l, 0 ≤ k ∧ k < n) → l.length ≤ n
  | 0, l, _, h => by
    cases l with
    | nil => exact Nat.le_refl _
    | cons x l => have := h x (by simp); omega
  | n + 1, l, nd, h => by
    have := few_below n (l.erase (n : Int)) (nd.erase _) fun k hk => by
      have h1 := h k (List.mem_of_mem_erase hk)
      have h2 : k ≠ n := fun e => by
        subst e
        exact (List.Nodup.mem_erase_iff nd).mp hk |>.1 rfl
      omega
    have h3 := List.length_erase (a := (n : Int)) (l := l)
    split at h3 <;> omega
theorem prs_bL : ∀ ps : List PI2, prsOf (bL ps) = some ps
  | [] => rfl
  | p :: ps => by
    have := prs_bL ps
    simp only [bL] at this ⊢
    simp [prsOf, pP, this]
theorem sorted_b (ps : List PI2) : bi .sorted [.list (bL ps)] = some (.l (bL (psort ps))) := by
  have h := prs_bL ps
  have e : ∀ qs : List PI2, qs.map prD = bL qs := fun _ => rfl
  cases ps with
  | nil => rfl
  | cons p ps =>
    have hn : intsOf (bL (p :: ps)) = none := rfl
    simp [bi, items, hn, pairsOf, h, e]
theorem sset_l {ms : List Int} (h1 : ms.length < 4095) (h2 : (nubI ms).length < 64) : bi .sortedset [.list (iL ms)] = some (.l (iL (isort (nubI ms)))) := by
  simp [bi, ints_iL, h1, h2]
  try rfl
def ordB : List S := [
  .asgs [.n 2, .n 3] [.dct [] [], .lst []],
  .for (.n 4) .seq none [.fz (.rev (.pk 0))] [.asg (.n 5) (.lc [7, 6] (.t [.n 7, .n 6]) .seq none [.v 1] [.cmp .eq (.pk 7) (.pk 4)] (.v 6)), .for (.n 6) .seq none [.fz (.bi .list [.pk 5])] [.asg (.n 5) (.bin .add (.pk 5) (.path 2 (.v 6)))], .asg (.ix 2 [] (.v 4)) (.fz (.bi .sortedset [.pk 5])), .asg (.n 3) (.bin .add (.pk 3) (.lc [6] (.n 6) .seq none [.path 2 (.v 4)] [] (.tup [.v 4, .v 6])))],
  .ret (.bi .tuple [.bi .sorted [.pk 3]])]
def ordD : Def := ⟨2, 8, [], ordB⟩
/-- a book is an order -/
structure Ord (b : List PI2) : Prop where
  irr : ∀ x, (x, x) ∉ b
  tr : ∀ {x y z}, (x, y) ∈ b → (y, z) ∈ b → (x, z) ∈ b
theorem Ord.nil : Ord [] := ⟨fun x h => by simp at h, fun h => by simp at h⟩
theorem Ord.filter {b : List PI2} (o : Ord b) (p : Int → Bool) : Ord (b.filter fun q => p q.1) := ⟨fun x h => o.irr x (List.mem_filter.mp h).1, fun h k => List.mem_filter.mpr ⟨o.tr (List.mem_filter.mp h).1 (List.mem_filter.mp k).1, (List.mem_filter.mp h).2⟩⟩
theorem Ord.perm {a b : List PI2} (o : Ord a) (h : b.Perm a) : Ord b := ⟨fun x m => o.irr x (h.mem_iff.mp m), fun m k => h.mem_iff.mpr (o.tr (h.mem_iff.mp m) (h.mem_iff.mp k))⟩
/-- what is kept below is what the pairs tell, an order -/
structure Clo (done : List Int) (kvs : List (Key × L3.D)) (ps : List PI2) : Prop where
  ord : Ord ps
  dom : ∀ p ∈ ps, p.1 ∈ done ∧ p.2 ∈ done
  tell : ∀ x ∈ done, ∀ zs, kvGet (.inl x) kvs = some (L3.D.p (.list (iL zs))) → ∀ h, h ∈ zs ↔ (x, h) ∈ ps
/-- h stands behind x -/
def Aft (order : List Int) (x h : Int) : Prop := ∃ A B, order = A ++ x :: B ∧ h ∈ B
theorem aft_split {order pre post : List Int} {x h : Int} (nd : order.Nodup) (e : order.reverse = pre ++ x :: post) (a : Aft order x h) : h ∈ pre := by
  obtain ⟨A, B, rfl, hB⟩ := a
  have e2 : A ++ x :: B = post.reverse ++ x :: pre.reverse := by
    have := congrArg List.reverse e
    simpa using this
  have nx : x ∉ A := fun z => by
    rw [List.nodup_append] at nd
    exact nd.2.2 x z x (by simp) rfl
  have nx2 : x ∉ post.reverse := fun z => by
    rw [e2, List.nodup_append] at nd
    exact nd.2.2 x z x (by simp) rfl
  have key : ∀ A A' B B' : List Int, x ∉ A → x ∉ A' → A ++ x :: B = A' ++ x :: B' → B = B' := by
    intro A
    induction A with
    | nil =>
      intro A' B B' _ h' e
      cases A' with
      | nil => simpa using e
      | cons y A' =>
        simp at e
        exact absurd e.1 (fun z => h' (by simp [z]))
    | cons y A ih =>
      intro A' B B' h h' e
      cases A' with
      | nil =>
        simp at e
        exact absurd e.1.symm (fun z => h (by simp [z]))
      | cons z A' =>
        simp at e
        exact ih A' B B' (fun m => h (by simp [m])) (fun m => h' (by simp [m])) e.2
  have := key A post.reverse B pre.reverse nx nx2 e2
  rw [this] at hB
  simpa using hB
theorem iL_inj {xs ys : List Int} (h : iL xs = iL ys) : xs = ys := by
  induction xs generalizing ys with
  | nil =>
    cases ys with
    | nil => rfl
    | cons y ys => simp [iL] at h
  | cons x xs ih =>
    cases ys with
    | nil => simp [iL] at h
    | cons y ys =>
      have h1 : PyData.int x :: iL xs = PyData.int y :: iL ys := h
      injection h1 with h1 h2
      injection h1 with h1
      rw [h1, ih h2]
/-- what is known below -/
def BelI (n : Nat) (done : List Int) (kvs : List (Key × L3.D)) : Prop := kvs.length ≤ done.length ∧ ∀ h ∈ done, ∃ ys, kvGet (.inl h) kvs = some (L3.D.p (.list (iL ys))) ∧ (∀ y ∈ ys, 0 ≤ y ∧ y < n) ∧ ys.length ≤ n
theorem mine_loop {F : FT} {n : Nat} {done : List Int} {kvs : List (Key × L3.D)} (hb : BelI n done kvs) {a b c d : Option L3.D} {e7 : Option L3.D} : ∀ (hs ms : List Int) (e6 : Option L3.D), (∀ h ∈ hs, h ∈ done) → (∀ y ∈ ms, 0 ≤ y ∧ y < n) → ms.length + hs.length * n ≤ 4000 →
    ∃ ms' e6', forL (.n 6) (exb F [.asg (.n 5) (.bin .add (.pk 5) (.path 2 (.v 6)))]) (iL hs) [a, b, some (.d kvs), c, d, some (.l (iL ms)), e6, e7] = .nx [a, b, some (.d kvs), c, d, some (.l (iL ms')), e6', e7] ∧ (∀ y ∈ ms', 0 ≤ y ∧ y < n) ∧ ms'.length ≤ ms.length + hs.length * n ∧ ∀ y, y ∈ ms' ↔ y ∈ ms ∨ ∃ h ∈ hs, ∃ zs, kvGet (.inl h) kvs = some (L3.D.p (.list (iL zs))) ∧ y ∈ zs
  | [], ms, e6, _, h2, _ => ⟨ms, e6, rfl, h2, by simp, by simp⟩
  | h :: hs, ms, e6, h1, h2, h3 => by
    obtain ⟨ys, e, h4, h5⟩ := hb.2 h (h1 h (by simp))
    have e3 : (hs.length + 1) * n = hs.length * n + n := by rw [Nat.add_mul, Nat.one_mul]
    rw [List.length_cons, e3] at h3
    obtain ⟨ms', e6', q1, q2, q3, q4⟩ := mine_loop (F := F) hb (a := a) (b := b) (c := c) (d := d) (e7 := e7) hs (ms ++ ys) (some (.p (.int h))) (fun k hk => h1 k (by simp [hk])) (fun y hy => by
      rcases List.mem_append.mp hy with hy | hy
      · exact h2 y hy
      · exact h4 y hy) (by rw [List.length_append]; omega)
    refine ⟨ms', e6', ?_, q2, by rw [List.length_append] at q3; rw [List.length_cons, e3]; omega, fun y => ?_⟩
    rotate_left
    · rw [q4 y, List.mem_append]
      constructor
      · rintro ((k | k) | ⟨j, hj, zs, z1, z2⟩)
        · exact .inl k
        · exact .inr ⟨h, by simp, ys, e, k⟩
        · exact .inr ⟨j, by simp [hj], zs, z1, z2⟩
      · rintro (k | ⟨j, hj, zs, z1, z2⟩)
        · exact .inl (.inl k)
        · rcases List.mem_cons.mp hj with rfl | hj
          · rw [e] at z1
            have : iL zs = iL ys := by
              have := Option.some.inj z1
              injection this with this
              injection this with this
              exact this.symm
            have : zs = ys := iL_inj this
            exact .inl (.inr (this ▸ z2))
          · exact .inr ⟨j, hj, zs, z1, z2⟩
    have g : getAt (.d kvs) (.int h) = some (.p (.list (iL ys))) := by simp [getAt, keyOf, e]
    have ad : bin .add (.list (iL ms)) (.list (iL ys)) = some (.l (iL (ms ++ ys))) := by rw [add_l (by rw [len_iL, len_iL]; omega), app_iL]
    rw [← q1]
    show forL _ _ (.int h :: iL hs) _ = _
    rw [forL]
    simp [exb, exs, tst, ev, evd, evl, evo, evk, evi, kCall, takeArgs, putBack, chg, has, atK, isL, isOwnL, margs, pures, fz, sto, stoD, L3.Fl.seq, L3.Fl.unlock, L3.Res.fl, L3.Res.bind, slot, L3.T.dat, L3.T.pure, L3.D.flat, qok, isQ, L3.E.quiet, quiets, dats, truth, wargs, walk, L3.lock, L3.unlock, Option.bind_some, Option.map_some, prm, tests, bindT, g, ad]
end L3

set_option maxHeartbeats 2000000
namespace L3
open PySem
theorem asg_go {F : FT} {i : Nat} {e : E} {ρ ρ1 : Env} {d : L3.D} (h : ev F e ρ = .ok (.o d) ρ1) : exs F (.asg (.n i) e) ρ = .nx (ρ1.set i (some d)) := by rw [exs, h]; rfl
theorem ret_go {F : FT} {e : E} {ρ ρ1 : Env} {d : L3.D} (h : ev F e ρ = .ok (.o d) ρ1) : exs F (.ret e) ρ = .rt d ρ1 := by rw [exs, h]; rfl
theorem grow_ev {F : FT} {i : Nat} {e : E} {ρ ρ1 : Env} {x0 : L3.D} {xs ys : List PyData} (h0 : slot ρ i = some x0) (he : ev F e ρ = .ok (.o (.l ys)) ρ1) (h1 : slot ρ1 i = some (.l xs)) (hl : xs.length + ys.length ≤ 16777216) :
    ev F (.bin .add (.pk i) e) ρ = .ok (.o (.l (xs ++ ys))) ρ1 := by
  have a := add_l hl
  rw [ev, ev, h0]
  simp only [Res.bind, qok, isQ, Bool.not_false, Bool.true_or, if_true, he, L3.T.dat, h1, Option.bind_some, L3.D.flat, a]
theorem two_le : 2 ≤ sizeLine := by rw [sizeLine_eq]; decide
theorem setAt_d {kvs : List (Key × L3.D)} {x : Int} {v : L3.D} (h : kvs.length < 1000000) : setAt (.d kvs) (.int x) v = some (.d (kvPut (.inl x) v kvs)) := by simp [setAt, keyOf, h]
theorem getAt_d {kvs : List (Key × L3.D)} {x : Int} {v : L3.D} (h : kvGet (.inl x) kvs = some v) : getAt (.d kvs) (.int x) = some v := by simp [getAt, keyOf, h]
def ordL : List S := [.asg (.n 5) (.lc [7, 6] (.t [.n 7, .n 6]) .seq none [.v 1] [.cmp .eq (.pk 7) (.pk 4)] (.v 6)), .for (.n 6) .seq none [.fz (.bi .list [.pk 5])] [.asg (.n 5) (.bin .add (.pk 5) (.path 2 (.v 6)))], .asg (.ix 2 [] (.v 4)) (.fz (.bi .sortedset [.pk 5])), .asg (.n 3) (.bin .add (.pk 3) (.lc [6] (.n 6) .seq none [.path 2 (.v 4)] [] (.tup [.v 4, .v 6])))]
/-- pairs of numbers below n -/
def InN (n : Nat) (ps : List PI2) : Prop := ∀ p ∈ ps, (0 ≤ p.1 ∧ p.1 < n) ∧ 0 ≤ p.2 ∧ p.2 < n
theorem InN.app {n : Nat} {ps qs : List PI2} (h : InN n ps) (k : InN n qs) : InN n (ps ++ qs) := fun p hp => (List.mem_append.mp hp).elim (h p) (k p)
theorem clo_step {n : Nat} {done : List Int} {kvs : List (Key × L3.D)} {ps : List PI2} {x : Int} {ms ys : List Int} (hb : BelI n done kvs) (hc : Clo done kvs ps) (nx : x ∉ done) (hm : ∀ h ∈ ms, h ∈ done)
    (hy : ∀ y, y ∈ ys ↔ (y ∈ ms ∨ ∃ h ∈ ms, ∃ zs, kvGet (.inl h) kvs = some (L3.D.p (.list (iL zs))) ∧ y ∈ zs)) : Clo (done ++ [x]) (kvPut (.inl x) (L3.D.p (.list (iL ys))) kvs) (ps ++ ys.map (fun h => (x, h))) := by
  have yd : ∀ y ∈ ys, y ∈ done := fun y k => by
    rcases (hy y).mp k with k | ⟨h, hh, zs, z1, z2⟩
    · exact hm y k
    · exact (hc.dom _ ((hc.tell h (hm h hh) zs z1 y).mp z2)).2
  have npx : ∀ {a b}, (a, b) ∈ ps → a ≠ x ∧ b ≠ x := fun {a b} m => ⟨fun e => nx (e ▸ (hc.dom _ m).1), fun e => nx (e ▸ (hc.dom _ m).2)⟩
  have mem : ∀ {a b}, (a, b) ∈ ps ++ ys.map (fun h => (x, h)) ↔ (a, b) ∈ ps ∨ (a = x ∧ b ∈ ys) := fun {a b} => by
    rw [List.mem_append]
    refine or_congr Iff.rfl ?_
    simp only [List.mem_map, Prod.mk.injEq]
    constructor
    · rintro ⟨h, h1, h2, h3⟩
      exact ⟨h2.symm, h3 ▸ h1⟩
    · rintro ⟨h1, h2⟩
      exact ⟨b, h2, h1.symm, rfl⟩
  refine ⟨⟨fun a m => ?_, fun {a b c} m1 m2 => ?_⟩, fun p hp => ?_, fun a ha zs hz h => ?_⟩
  · rcases mem.mp m with m | ⟨rfl, k⟩
    · exact hc.ord.irr a m
    · exact nx (yd _ k)
  · refine mem.mpr ?_
    rcases mem.mp m1 with m1 | ⟨rfl, k1⟩
    · rcases mem.mp m2 with m2 | ⟨e, _⟩
      · exact .inl (hc.ord.tr m1 m2)
      · exact absurd e (npx m1).2
    · rcases mem.mp m2 with m2 | ⟨e, _⟩
      · refine .inr ⟨rfl, (hy c).mpr (.inr ?_)⟩
        rcases (hy b).mp k1 with k | ⟨h, hh, zs, z1, z2⟩
        · obtain ⟨zs, z1, _⟩ := hb.2 b (hm b k)
          exact ⟨b, k, zs, z1, (hc.tell b (hm b k) zs z1 c).mpr m2⟩
        · exact ⟨h, hh, zs, z1, (hc.tell h (hm h hh) zs z1 c).mpr (hc.ord.tr ((hc.tell h (hm h hh) zs z1 b).mp z2) m2)⟩
      · exact absurd (e ▸ yd _ k1) nx
  · obtain ⟨a, b⟩ := p
    rcases mem.mp hp with m | ⟨rfl, m⟩
    · exact ⟨List.mem_append_left _ (hc.dom _ m).1, List.mem_append_left _ (hc.dom _ m).2⟩
    · exact ⟨by simp, List.mem_append_left _ (yd _ m)⟩
  · rw [mem]
    by_cases e : a = x
    · subst e
      rw [kvGet_put] at hz
      have e2 := Option.some.inj hz
      injection e2 with e2
      injection e2 with e2
      rw [← iL_inj e2]
      exact ⟨fun k => .inr ⟨rfl, k⟩, fun k => k.elim (fun m => absurd rfl (npx m).1) (·.2)⟩
    · have had : a ∈ done := by simpa [e] using ha
      rw [kvGet_put_ne (fun z => e (Sum.inl.inj z))] at hz
      rw [hc.tell a had zs hz h]
      exact ⟨.inl, fun k => k.elim id fun k => absurd k.1 e⟩
/-- one turn -/
theorem ord_step {F : FT} {n : Nat} (hn : n ≤ 32) {direct : List PI2} (hd : InN n direct) (dl : direct.length ≤ 64) {t0 : Option L3.D} {t1 : L3.D} (h1 : t1 = .l (bL direct) ∨ t1 = .p (.list (bL direct))) {done : List Int} {kvs : List (Key × L3.D)} (hb : BelI n done kvs) (hk : done.length < 1000) {x : Int} (hx : 0 ≤ x ∧ x < n)
    (ha : ∀ h, (x, h) ∈ direct → h ∈ done) {ps : List PI2} (hp : InN n ps) (hc : Clo done kvs ps) (nx : x ∉ done) (pl : ps.length ≤ done.length * n) {e5 e6 e7 : Option L3.D} :
    ∃ kvs' ps' f5 f6 f7, exb F ordL [t0, some t1, some (.d kvs), some (.l (bL ps)), some (.p (.int x)), e5, e6, e7] = .nx [t0, some (.p (.list (bL direct))), some (.d kvs'), some (.l (bL ps')), some (.p (.int x)), f5, f6, f7] ∧ BelI n (done ++ [x]) kvs' ∧ InN n ps' ∧ ps'.length ≤ (done.length + 1) * n ∧ Clo (done ++ [x]) kvs' ps' := by
  -- mine
  have s1 : ∃ g6 g7, ev F (.lc [7, 6] (.t [.n 7, .n 6]) .seq none [.v 1] [.cmp .eq (.pk 7) (.pk 4)] (.v 6)) [t0, some t1, some (.d kvs), some (.l (bL ps)), some (.p (.int x)), e5, e6, e7] =
      .ok (.o (.l (iL ((direct.filter fun q => decide (q.1 = x)).map (·.2))))) [t0, some (.p (.list (bL direct))), some (.d kvs), some (.l (bL ps)), some (.p (.int x)), e5, g6, g7] := by
    obtain ⟨ρ2, h2, e⟩ := comp_evW (F := F) pP (fun q : PI2 => decide (q.1 = x)) (fun q => .int q.2) direct (fun q => [t0, some (.p (.list (bL direct))), some (.d kvs), some (.l (bL ps)), some (.p (.int x)), e5, some (.p (.int q.2)), some (.p (.int q.1))])
      (own := [7, 6]) (tg := .t [.n 7, .n 6]) (k := .seq) (its := [.v 1]) (cond := [.cmp .eq (.pk 7) (.pk 4)]) (elt := .v 6) (ρ := [t0, some t1, some (.d kvs), some (.l (bL ps)), some (.p (.int x)), e5, e6, e7]) (ts := [.o (.p (.list (bL direct)))])
      (ρ1 := [t0, some (.p (.list (bL direct))), some (.d kvs), some (.l (bL ps)), some (.p (.int x)), e5, e6, e7]) (by rcases h1 with rfl | rfl <;> simp [exb, exs, tst, ev, evd, evl, evo, evk, evi, kCall, takeArgs, putBack, chg, has, atK, isL, isOwnL, margs, pures, fz, sto, stoD, L3.Fl.seq, L3.Fl.unlock, L3.Res.fl, L3.Res.bind, slot, L3.T.dat, L3.T.pure, L3.D.flat, qok, isQ, L3.E.quiet, quiets, dats, truth, wargs, walk, L3.lock, L3.unlock, Option.bind_some, Option.map_some, prm, tests]) rfl rfl (by omega) fun q hq => ⟨rfl, rfl, by simp [exb, exs, tst, ev, evd, evl, evo, evk, evi, kCall, takeArgs, putBack, chg, has, atK, isL, isOwnL, margs, pures, fz, sto, stoD, L3.Fl.seq, L3.Fl.unlock, L3.Res.fl, L3.Res.bind, slot, L3.T.dat, L3.T.pure, L3.D.flat, qok, isQ, L3.E.quiet, quiets, dats, truth, wargs, walk, L3.lock, L3.unlock, Option.bind_some, Option.map_some, prm, tests, cmp_eqI], fun _ => by simp [exb, exs, tst, ev, evd, evl, evo, evk, evi, kCall, takeArgs, putBack, chg, has, atK, isL, isOwnL, margs, pures, fz, sto, stoD, L3.Fl.seq, L3.Fl.unlock, L3.Res.fl, L3.Res.bind, slot, L3.T.dat, L3.T.pure, L3.D.flat, qok, isQ, L3.E.quiet, quiets, dats, truth, wargs, walk, L3.lock, L3.unlock, Option.bind_some, Option.map_some, prm, tests]⟩
    have em : (direct.filter fun q => decide (q.1 = x)).map (fun q => PyData.int q.2) = iL ((direct.filter fun q => decide (q.1 = x)).map (·.2)) := by simp [iL]
    rw [em] at e
    rcases h2 with rfl | rfl
    · exact ⟨_, _, e⟩
    · exact ⟨none, none, e⟩
  obtain ⟨g6, g7, s1⟩ := s1
  generalize hm : (direct.filter fun q => decide (q.1 = x)).map (·.2) = ms at s1
  have hms : ∀ h ∈ ms, h ∈ done ∧ 0 ≤ h ∧ h < n := fun h hh => by
    rw [← hm] at hh
    obtain ⟨q, hq, rfl⟩ := List.mem_map.mp hh
    have hq := List.mem_filter.mp hq
    have e : q.1 = x := by simpa using hq.2
    exact ⟨ha q.2 (by rw [← e]; exact hq.1), (hd q hq.1).2⟩
  have hml : ms.length ≤ 64 := by
    rw [← hm, List.length_map]
    exact Nat.le_trans (List.length_filter_le _ _) dl
  have mul : ms.length * n ≤ 64 * 32 := Nat.mul_le_mul hml hn
  -- with what is below
  obtain ⟨ms', g6', s2, m1, m2, m3⟩ := mine_loop (F := F) hb (a := t0) (b := some (.p (.list (bL direct)))) (c := some (.l (bL ps))) (d := some (.p (.int x))) (e7 := g7) ms ms g6 (fun h hh => (hms h hh).1) (fun h hh => (hms h hh).2) (by omega)
  have f2 : exs F (.for (.n 6) .seq none [.fz (.bi .list [.pk 5])] [.asg (.n 5) (.bin .add (.pk 5) (.path 2 (.v 6)))]) [t0, some (.p (.list (bL direct))), some (.d kvs), some (.l (bL ps)), some (.p (.int x)), some (.l (iL ms)), g6, g7] =
      .nx [t0, some (.p (.list (bL direct))), some (.d kvs), some (.l (bL ps)), some (.p (.int x)), some (.l (iL ms')), g6', g7] := by
    rw [for_ev (ts := [.o (.p (.list (iL ms)))]) (ρ1 := [t0, some (.p (.list (bL direct))), some (.d kvs), some (.l (bL ps)), some (.p (.int x)), some (.l (iL ms)), g6, g7]) (by simp [exb, exs, tst, ev, evd, evl, evo, evk, evi, kCall, takeArgs, putBack, chg, has, atK, isL, isOwnL, margs, pures, fz, sto, stoD, L3.Fl.seq, L3.Fl.unlock, L3.Res.fl, L3.Res.bind, slot, L3.T.dat, L3.T.pure, L3.D.flat, qok, isQ, L3.E.quiet, quiets, dats, truth, wargs, walk, L3.lock, L3.unlock, Option.bind_some, Option.map_some, prm, tests, list_l]) pw_iL]
    exact s2
  -- kept
  let ys := isort (nubI ms')
  have hys : ∀ y ∈ ys, 0 ≤ y ∧ y < n := fun y hy => m1 y (nubI_mem.mp ((isort_perm _).mem_iff.mp hy))
  have ysm : ∀ y, y ∈ ys ↔ y ∈ ms' := fun y => ((isort_perm _).mem_iff).trans nubI_mem
  have clo : Clo (done ++ [x]) (kvPut (.inl x) (L3.D.p (.list (iL ys))) kvs) (ps ++ ys.map (fun h => (x, h))) := clo_step hb hc nx (ys := ys) (ms := ms) (fun h hh => (hms h hh).1) fun y => (ysm y).trans (m3 y)
  have hyl : ys.length ≤ n := few_below n ys ((isort_perm _).nodup_iff.mpr (nubI_nodup _)) hys
  have hnl : (nubI ms').length < 64 := by rw [← (isort_perm (nubI ms')).length_eq]; show ys.length < 64; omega
  have ss := sset_l (ms := ms') (by omega) hnl
  have sd := setAt_d (kvs := kvs) (x := x) (v := .p (.list (iL ys))) (by have := hb.1; omega)
  have gd : getAt (.d (kvPut (.inl x) (.p (.list (iL ys))) kvs)) (.int x) = some (.p (.list (iL ys))) := getAt_d kvGet_put
  have s3 : exs F (.asg (.ix 2 [] (.v 4)) (.fz (.bi .sortedset [.pk 5]))) [t0, some (.p (.list (bL direct))), some (.d kvs), some (.l (bL ps)), some (.p (.int x)), some (.l (iL ms')), g6', g7] =
      .nx [t0, some (.p (.list (bL direct))), some (.d (kvPut (.inl x) (.p (.list (iL ys))) kvs)), some (.l (bL ps)), some (.p (.int x)), some (.l (iL ms')), g6', g7] := by
    simp [exb, exs, tst, ev, evd, evl, evo, evk, evi, kCall, takeArgs, putBack, chg, has, atK, isL, isOwnL, margs, pures, fz, sto, stoD, L3.Fl.seq, L3.Fl.unlock, L3.Res.fl, L3.Res.bind, slot, L3.T.dat, L3.T.pure, L3.D.flat, qok, isQ, L3.E.quiet, quiets, dats, truth, wargs, walk, L3.lock, L3.unlock, Option.bind_some, Option.map_some, prm, tests, ss, sd, ys]
  generalize hkv : kvPut (.inl x) (L3.D.p (.list (iL ys))) kvs = kvs' at *
  have s4 : ∃ g, ev F (.lc [6] (.n 6) .seq none [.path 2 (.v 4)] [] (.tup [.v 4, .v 6])) [t0, some (.p (.list (bL direct))), some (.d kvs'), some (.l (bL ps)), some (.p (.int x)), some (.l (iL ms')), g6', g7] =
      .ok (.o (.l (bL (ys.map fun h => (x, h))))) [t0, some (.p (.list (bL direct))), some (.d kvs'), some (.l (bL ps)), some (.p (.int x)), some (.l (iL ms')), g, g7] := by
    obtain ⟨ρ2, h2, e⟩ := comp_evW (F := F) PyData.int (fun _ => true) (fun h => pP (x, h)) ys (fun h => [t0, some (.p (.list (bL direct))), some (.d kvs'), some (.l (bL ps)), some (.p (.int x)), some (.l (iL ms')), some (.p (.int h)), g7])
      (own := [6]) (tg := .n 6) (k := .seq) (its := [.path 2 (.v 4)]) (cond := []) (elt := .tup [.v 4, .v 6]) (ρ := [t0, some (.p (.list (bL direct))), some (.d kvs'), some (.l (bL ps)), some (.p (.int x)), some (.l (iL ms')), g6', g7]) (ts := [.o (.p (.list (iL ys)))])
      (ρ1 := [t0, some (.p (.list (bL direct))), some (.d kvs'), some (.l (bL ps)), some (.p (.int x)), some (.l (iL ms')), g6', g7]) (by simp [exb, exs, tst, ev, evd, evl, evo, evk, evi, kCall, takeArgs, putBack, chg, has, atK, isL, isOwnL, margs, pures, fz, sto, stoD, L3.Fl.seq, L3.Fl.unlock, L3.Res.fl, L3.Res.bind, slot, L3.T.dat, L3.T.pure, L3.D.flat, qok, isQ, L3.E.quiet, quiets, dats, truth, wargs, walk, L3.lock, L3.unlock, Option.bind_some, Option.map_some, prm, tests, gd]) rfl rfl (by omega) fun q hq => ⟨rfl, rfl, by simp [exb, exs, tst, ev, evd, evl, evo, evk, evi, kCall, takeArgs, putBack, chg, has, atK, isL, isOwnL, margs, pures, fz, sto, stoD, L3.Fl.seq, L3.Fl.unlock, L3.Res.fl, L3.Res.bind, slot, L3.T.dat, L3.T.pure, L3.D.flat, qok, isQ, L3.E.quiet, quiets, dats, truth, wargs, walk, L3.lock, L3.unlock, Option.bind_some, Option.map_some, prm, tests], fun _ => by simp [exb, exs, tst, ev, evd, evl, evo, evk, evi, kCall, takeArgs, putBack, chg, has, atK, isL, isOwnL, margs, pures, fz, sto, stoD, L3.Fl.seq, L3.Fl.unlock, L3.Res.fl, L3.Res.bind, slot, L3.T.dat, L3.T.pure, L3.D.flat, qok, isQ, L3.E.quiet, quiets, dats, truth, wargs, walk, L3.lock, L3.unlock, Option.bind_some, Option.map_some, prm, tests, two_le, pP]⟩
    have em : (ys.filter fun _ => true).map (fun h => pP (x, h)) = bL (ys.map fun h => (x, h)) := by
      rw [List.filter_eq_self.mpr fun _ _ => rfl]
      simp [bL]
    rw [em] at e
    rcases h2 with rfl | rfl
    · exact ⟨_, e⟩
    · exact ⟨none, e⟩
  obtain ⟨g, s4⟩ := s4
  have en : (done.length + 1) * n = done.length * n + n := by rw [Nat.add_mul, Nat.one_mul]
  have dn : done.length * n ≤ 1000 * 32 := Nat.mul_le_mul (Nat.le_of_lt hk) hn
  have s5 := grow_ev (i := 3) (x0 := .l (bL ps)) (xs := bL ps) rfl s4 rfl (by rw [len_bL, len_bL, List.length_map]; omega)
  refine ⟨kvs', ps ++ ys.map (fun h => (x, h)), some (.l (iL ms')), g, g7, ?_, ⟨?_, fun h hh => ?_⟩, hp.app fun p hp => ?_, by rw [List.length_append, List.length_map, en]; omega, hkv ▸ clo⟩
  · rw [ordL, exb_go (asg_go s1)]
    show exb F _ [t0, some (.p (.list (bL direct))), some (.d kvs), some (.l (bL ps)), some (.p (.int x)), some (.l (iL ms)), g6, g7] = _
    rw [exb_go f2, exb_go s3, exb_go (asg_go s5), app_bL]
    rfl
  · rw [← hkv, List.length_append]
    exact Nat.le_trans kvPut_len (Nat.add_le_add_right hb.1 1)
  · rw [← hkv]
    by_cases e : h = x
    · subst e
      exact ⟨ys, kvGet_put, hys, hyl⟩
    · obtain ⟨zs, z1, z2⟩ := hb.2 h (by simpa [e] using hh)
      exact ⟨zs, by rw [kvGet_put_ne (fun z => e (Sum.inl.inj z))]; exact z1, z2⟩
  · obtain ⟨h, hh, rfl⟩ := List.mem_map.mp hp
    exact ⟨hx, hys h hh⟩
/-- a book of numbers below n -/
def BkI (n : Nat) (ps : List PI2) : Prop := InN n ps ∧ Ord ps
/-- a drawn order's pairs: numbers below n, no more than n * n -/
def OrdF (F : FT) (i : Nat) : Prop := ∀ (n : Nat) (order : List Int) (direct : List PI2) (t0 t1 : L3.D), n ≤ 32 → (t0 = .l (iL order) ∨ t0 = .p (.list (iL order))) → (t1 = .l (bL direct) ∨ t1 = .p (.list (bL direct))) → order.Nodup → (∀ x ∈ order, 0 ≤ x ∧ x < n) → InN n direct → direct.length ≤ 64 →
  (∀ p ∈ direct, Aft order p.1 p.2) → ∃ ps, F i [t0, t1] = .ok (.p (.tuple (bL ps))) [none, none] ∧ BkI n ps ∧ ps.length ≤ order.length * n
theorem ord_def {P : List Def} {i : Nat} (h : P[i]? = some ordD) (m : Nat) : OrdF (callF P (m + 1)) i := fun n order direct t0 t1 hn h0 h1 nd ho hd dl ha => by
  have ol : order.length ≤ n := few_below n order nd ho
  obtain ⟨ρ2, e, I⟩ := forL_go (tg := .n 4) (body := exb (callF P m) ordL) PyData.int (fun rest ρ => ∃ done kvs ps t1 e4 e5 e6 e7, (t1 = .l (bL direct) ∨ t1 = .p (.list (bL direct))) ∧ order.reverse = done ++ rest ∧ BelI n done kvs ∧ (InN n ps ∧ Clo done kvs ps) ∧ ps.length ≤ done.length * n ∧
      ρ = [some t0, some t1, some (.d kvs), some (.l (bL ps)), e4, e5, e6, e7]) order.reverse [some t0, some t1, some (.d []), some (.l []), none, none, none, none]
    ⟨[], [], [], t1, none, none, none, none, h1, rfl, ⟨Nat.le_refl _, by simp⟩, ⟨by intro p hp; simp at hp, Ord.nil, by intro p hp; simp at hp, by intro p hp; simp at hp⟩, by simp, rfl⟩ (fun x r ρ _ ⟨done, kvs, ps, t1, e4, e5, e6, e7, k1, k2, k3, k4, k5, e⟩ => by
      subst e
      have dlen : done.length < 1000 := by
        have := congrArg List.length k2
        simp at this
        omega
      have hx : x ∈ order := by
        rw [← List.mem_reverse, k2]; simp
      have nx : x ∉ done := fun z => by
        have nd' := (List.reverse_perm order).nodup_iff.mpr nd
        rw [k2, List.nodup_append] at nd'
        exact nd'.2.2 x z x (by simp) rfl
      obtain ⟨kvs', ps', f5, f6, f7, s, j1, j2, j3, j4⟩ := ord_step (F := callF P m) hn hd dl (t0 := some t0) k1 k3 dlen (ho x hx) (fun h hh => aft_split nd k2 (ha _ hh)) k4.1 k4.2 nx k5 (e5 := e5) (e6 := e6) (e7 := e7)
      refine ⟨_, rfl, ?_⟩
      show Go _ (exb (callF P m) ordL [some t0, some t1, some (.d kvs), some (.l (bL ps)), some (.p (.int x)), e5, e6, e7])
      rw [s]
      exact ⟨done ++ [x], kvs', ps', _, _, f5, f6, f7, .inr rfl, by rw [k2]; simp, j1, ⟨j2, j4⟩, by simpa using j3, rfl⟩)
  obtain ⟨done, kvs, ps, u1, e4, e5, e6, e7, k1, k2, k3, k4, k5, rfl⟩ := I
  have hl : done.length = order.length := by
    have := congrArg List.length k2
    simp at this
    omega
  rw [hl] at k5
  refine ⟨psort ps, run_rt (ρ' := [some t0, some u1, some (.d kvs), some (.l (bL ps)), e4, e5, e6, e7]) h rfl rfl ?_ rfl, ⟨fun p hp => k4.1 p ((psort_perm ps).mem_iff.mp hp), k4.2.ord.perm (psort_perm ps)⟩, by rw [(psort_perm ps).length_eq]; exact k5⟩
  generalize callF P m = F at *
  have f1 : exs F (.asgs [.n 2, .n 3] [.dct [] [], .lst []]) [some t0, some t1, none, none, none, none, none, none] = .nx [some t0, some t1, some (.d []), some (.l []), none, none, none, none] := by simp [exb, exs, tst, ev, evd, evl, evo, evk, evi, kCall, takeArgs, putBack, chg, has, atK, isL, isOwnL, margs, pures, fz, sto, stoD, L3.Fl.seq, L3.Fl.unlock, L3.Res.fl, L3.Res.bind, slot, L3.T.dat, L3.T.pure, L3.D.flat, qok, isQ, L3.E.quiet, quiets, dats, truth, wargs, walk, L3.lock, L3.unlock, Option.bind_some, Option.map_some, prm, tests]
  have f2 : exs F (.for (.n 4) .seq none [.fz (.rev (.pk 0))] ordL) [some t0, some t1, some (.d []), some (.l []), none, none, none, none] = .nx [some t0, some u1, some (.d kvs), some (.l (bL ps)), e4, e5, e6, e7] := by
    rw [for_ev (ts := [.o (.p (.list (iL order.reverse)))]) (ρ1 := [some t0, some t1, some (.d []), some (.l []), none, none, none, none]) (by rcases h0 with rfl | rfl <;> simp [exb, exs, tst, ev, evd, evl, evo, evk, evi, kCall, takeArgs, putBack, chg, has, atK, isL, isOwnL, margs, pures, fz, sto, stoD, L3.Fl.seq, L3.Fl.unlock, L3.Res.fl, L3.Res.bind, slot, L3.T.dat, L3.T.pure, L3.D.flat, qok, isQ, L3.E.quiet, quiets, dats, truth, wargs, walk, L3.lock, L3.unlock, Option.bind_some, Option.map_some, prm, tests, revD, iL_rev]) pw_iL]
    exact e
  show exb F [_, .for _ _ _ _ ordL, _] [some t0, some t1, none, none, none, none, none, none] = _
  rw [exb_go f1, exb_go f2]
  have sb := sorted_b ps
  simp [exb, exs, tst, ev, evd, evl, evo, evk, evi, kCall, takeArgs, putBack, chg, has, atK, isL, isOwnL, margs, pures, fz, sto, stoD, L3.Fl.seq, L3.Fl.unlock, L3.Res.fl, L3.Res.bind, slot, L3.T.dat, L3.T.pure, L3.D.flat, qok, isQ, L3.E.quiet, quiets, dats, truth, wargs, walk, L3.lock, L3.unlock, Option.bind_some, Option.map_some, prm, tests, sb, tuple_l]
end L3

set_option maxHeartbeats 2000000
namespace L3
open PySem
def belL : List S := [.asg (.n 1) (.bin .add (.pk 1) (.lc [4] (.n 4) .rng1 none [.bi .len [.pk 0]] [.cmp .lt (.pk 3) (.at (.pk 0) (.v 4))] (.tup [.v 2, .v 4])))]
def belB : List S := [
  .asg (.n 1) (.lst []),
  .for (.t [.n 2, .n 3]) .enum none [.v 0] belL,
  .ret (.bi .tuple [.pk 1])]
def belD : Def := ⟨1, 5, [], belB⟩
def BelF (F : FT) (i : Nat) : Prop := ∀ (levels : List Int) (t : L3.D), (t = .l (iL levels) ∨ t = .p (.list (iL levels))) → levels.length ≤ 100 → ∃ ps, F i [t] = .ok (.p (.tuple (bL ps))) [none] ∧ BkI levels.length ps ∧ ps.length ≤ levels.length * levels.length
/-- the pairs of levels told so far -/
def BelP (levels : List Int) (d : Nat) (ps : List PI2) : Prop := ∀ a b : Int, (a, b) ∈ ps ↔ ∃ x k : Nat, a = (x : Int) ∧ b = (k : Int) ∧ x < d ∧ k < levels.length ∧ levels.getD x 0 < levels.getD k 0
theorem bel_step {F : FT} {levels : List Int} {ps : List PI2} (hl : levels.length ≤ 100) {x : Nat} {l : Int} (hx : x < levels.length) (hp : InN levels.length ps) (hc : BelP levels x ps) (lx : l = levels.getD x 0) (pl : ps.length ≤ x * levels.length) :
    ∃ ps', exb F belL [some (.p (.list (iL levels))), some (.l (bL ps)), some (.p (.int x)), some (.p (.int l)), none] = .nx [some (.p (.list (iL levels))), some (.l (bL ps')), some (.p (.int x)), some (.p (.int l)), none] ∧ InN levels.length ps' ∧ ps'.length ≤ (x + 1) * levels.length ∧ BelP levels (x + 1) ps' := by
  have e := comp_ev (F := F) (fun k : Nat => PyData.int (k : Int)) (fun k : Nat => decide (l < levels.getD k 0)) (fun k : Nat => pP ((x : Int), (k : Int))) (List.range levels.length) (fun k : Nat => [some (.p (.list (iL levels))), some (.l (bL ps)), some (.p (.int x)), some (.p (.int l)), some (.p (.int (k : Int)))])
      (own := [4]) (tg := .n 4) (k := .rng1) (its := [.bi .len [.pk 0]]) (cond := [.cmp .lt (.pk 3) (.at (.pk 0) (.v 4))]) (elt := .tup [.v 2, .v 4]) (ρ := [some (.p (.list (iL levels))), some (.l (bL ps)), some (.p (.int x)), some (.p (.int l)), none]) (ts := [.o (.p (.int (levels.length : Nat)))])
      (ρ1 := [some (.p (.list (iL levels))), some (.l (bL ps)), some (.p (.int x)), some (.p (.int l)), none]) (by simp [evl, ev, exb, exs, tst, ev, evd, evl, evo, evk, evi, kCall, takeArgs, putBack, chg, has, atK, isL, isOwnL, margs, pures, fz, sto, stoD, L3.Fl.seq, L3.Fl.unlock, L3.Res.fl, L3.Res.bind, slot, L3.T.dat, L3.T.pure, L3.D.flat, qok, isQ, L3.E.quiet, quiets, dats, truth, wargs, walk, L3.lock, L3.unlock, Option.bind_some, Option.map_some, prm, tests, len_l, len_iL]) (pw_rngN (by omega)) rfl (by rw [List.length_range]; omega) fun k hk => by
        have hk := List.mem_range.mp hk
        have a := at_lL hk
        exact ⟨rfl, rfl, by simp [exb, exs, tst, ev, evd, evl, evo, evk, evi, kCall, takeArgs, putBack, chg, has, atK, isL, isOwnL, margs, pures, fz, sto, stoD, L3.Fl.seq, L3.Fl.unlock, L3.Res.fl, L3.Res.bind, slot, L3.T.dat, L3.T.pure, L3.D.flat, qok, isQ, L3.E.quiet, quiets, dats, truth, wargs, walk, L3.lock, L3.unlock, Option.bind_some, Option.map_some, prm, tests, a, cmp_lt], fun _ => by simp [exb, exs, tst, ev, evd, evl, evo, evk, evi, kCall, takeArgs, putBack, chg, has, atK, isL, isOwnL, margs, pures, fz, sto, stoD, L3.Fl.seq, L3.Fl.unlock, L3.Res.fl, L3.Res.bind, slot, L3.T.dat, L3.T.pure, L3.D.flat, qok, isQ, L3.E.quiet, quiets, dats, truth, wargs, walk, L3.lock, L3.unlock, Option.bind_some, Option.map_some, prm, tests, two_le, pP]⟩
  have em : ((List.range levels.length).filter fun k : Nat => decide (l < levels.getD k 0)).map (fun k : Nat => pP ((x : Int), (k : Int))) = bL (((List.range levels.length).filter fun k : Nat => decide (l < levels.getD k 0)).map fun k : Nat => ((x : Int), (k : Int))) := by
    rw [bL, List.map_map]
    rfl
  rw [em] at e
  generalize hq : (((List.range levels.length).filter fun k : Nat => decide (l < levels.getD k 0)).map fun k : Nat => ((x : Int), (k : Int))) = qs at e
  have ql : qs.length ≤ levels.length := by
    rw [← hq, List.length_map]
    have := List.length_filter_le (fun k : Nat => decide (l < levels.getD k 0)) (List.range levels.length)
    rwa [List.length_range] at this
  have en : (x + 1) * levels.length = x * levels.length + levels.length := by rw [Nat.add_mul, Nat.one_mul]
  have xm : x * levels.length ≤ 100 * 100 := Nat.mul_le_mul (by omega) hl
  have g := grow_ev (i := 1) (x0 := .l (bL ps)) (xs := bL ps) rfl e rfl (by rw [len_bL, len_bL]; omega)
  refine ⟨ps ++ qs, ?_, hp.app fun p h => ?_, by rw [List.length_append, en]; omega, fun a b => ?_⟩
  rotate_right
  · rw [List.mem_append, hc a b, ← hq, List.mem_map]
    constructor
    · rintro (⟨x', k, e1, e2, h1, h2, h3⟩ | ⟨k, hk, e⟩)
      · exact ⟨x', k, e1, e2, by omega, h2, h3⟩
      · have hk := List.mem_filter.mp hk
        injection e with e1 e2
        exact ⟨x, k, e1.symm, e2.symm, by omega, List.mem_range.mp hk.1, by rw [← lx]; simpa using hk.2⟩
    · rintro ⟨x', k, e1, e2, h1, h2, h3⟩
      by_cases e : x' = x
      · subst e
        refine .inr ⟨k, List.mem_filter.mpr ⟨List.mem_range.mpr h2, ?_⟩, by rw [e1, e2]⟩
        rw [lx]
        simpa using h3
      · exact .inl ⟨x', k, e1, e2, by omega, h2, h3⟩
  · rw [belL, exb_go (asg_go g), app_bL]
    rfl
  · rw [← hq] at h
    obtain ⟨k, hk, rfl⟩ := List.mem_map.mp h
    have hk := List.mem_range.mp (List.mem_filter.mp hk).1
    exact ⟨⟨by show (0 : Int) ≤ (x : Int); omega, by show (x : Int) < _; omega⟩, by show (0 : Int) ≤ (k : Int); omega, by show (k : Int) < _; omega⟩
theorem bel_def {P : List Def} {i : Nat} (h : P[i]? = some belD) (m : Nat) : BelF (callF P (m + 1)) i := fun levels t ht hl => by
  obtain ⟨ρ2, e, I⟩ := forL_go (tg := .t [.n 2, .n 3]) (body := exb (callF P m) belL) (fun q : Int × Nat => PyData.tuple [.int (q.2 : Nat), .int q.1]) (fun rest ρ => ∃ ps e2 e3, (InN levels.length ps ∧ BelP levels (levels.length - rest.length) ps) ∧ ps.length ≤ (levels.length - rest.length) * levels.length ∧ rest = (levels.zipIdx).drop (levels.length - rest.length) ∧ rest.length ≤ levels.length ∧
      ρ = [some (.p (.list (iL levels))), some (.l (bL ps)), e2, e3, none]) levels.zipIdx [some (.p (.list (iL levels))), some (.l []), none, none, none]
    ⟨[], none, none, ⟨by intro p hp; simp at hp, by intro a b; simp⟩, by simp, by simp, by simp, rfl⟩ (fun q r ρ _ ⟨ps, e2, e3, k1, k2, k3, k4, e⟩ => by
      subst e
      rw [List.length_cons] at k2 k3 k4
      have lt : levels.length - (r.length + 1) < levels.zipIdx.length := by rw [List.length_zipIdx]; omega
      rw [List.drop_eq_getElem_cons lt, List.cons.injEq] at k3
      have q2 : q.2 = levels.length - (r.length + 1) := by rw [k3.1]; simp
      have ex : levels.length - (r.length + 1) + 1 = levels.length - r.length := by omega
      have q1 : q.1 = levels.getD q.2 0 := by
        have z := congrArg Prod.fst k3.1
        simp only [List.getElem_zipIdx] at z
        rw [q2, List.getD_eq_getElem?_getD, List.getElem?_eq_getElem (by omega), z]
        rfl
      obtain ⟨ps', s, j1, j2, j3⟩ := bel_step (F := callF P m) hl (x := q.2) (l := q.1) (by omega) k1.1 (by rw [q2]; exact k1.2) q1 (by rw [q2]; exact k2)
      refine ⟨_, rfl, ?_⟩
      show Go _ (exb (callF P m) belL [some (.p (.list (iL levels))), some (.l (bL ps)), some (.p (.int (q.2 : Nat))), some (.p (.int q.1)), none])
      rw [s]
      refine ⟨ps', _, _, ⟨j1, by rw [← ex, ← q2]; exact j3⟩, by rw [← ex, ← q2]; exact j2, by rw [← ex]; exact k3.2, by omega, rfl⟩)
  obtain ⟨ps, e2, e3, k1, k2, k3, k4, rfl⟩ := I
  refine ⟨ps, run_rt (ρ' := [some (.p (.list (iL levels))), some (.l (bL ps)), e2, e3, none]) h rfl rfl ?_ rfl, ⟨k1.1, ?_⟩, by simpa using k2⟩
  rotate_right
  · have m : BelP levels levels.length ps := by simpa using k1.2
    refine ⟨fun x h => ?_, fun {x y z} h k => ?_⟩
    · obtain ⟨a, b, h1, h2, _, _, h3⟩ := (m x x).mp h
      have : a = b := by omega
      subst this
      omega
    · obtain ⟨a, b, h1, h2, h3, h4, h5⟩ := (m x y).mp h
      obtain ⟨a', b', g1, g2, g3, g4, g5⟩ := (m y z).mp k
      have : b = a' := by omega
      subst this
      exact (m x z).mpr ⟨a, b', h1, g2, h3, g4, by omega⟩
  generalize callF P m = F at *
  have f1 : exs F (.asg (.n 1) (.lst [])) [some t, none, none, none, none] = .nx [some t, some (.l []), none, none, none] := by simp [exb, exs, tst, ev, evd, evl, evo, evk, evi, kCall, takeArgs, putBack, chg, has, atK, isL, isOwnL, margs, pures, fz, sto, stoD, L3.Fl.seq, L3.Fl.unlock, L3.Res.fl, L3.Res.bind, slot, L3.T.dat, L3.T.pure, L3.D.flat, qok, isQ, L3.E.quiet, quiets, dats, truth, wargs, walk, L3.lock, L3.unlock, Option.bind_some, Option.map_some, prm, tests]
  have f2 : exs F (.for (.t [.n 2, .n 3]) .enum none [.v 0] belL) [some t, some (.l []), none, none, none] = .nx [some (.p (.list (iL levels))), some (.l (bL ps)), e2, e3, none] := by
    rw [for_ev (ts := [.o (.p (.list (iL levels)))]) (ρ1 := [some (.p (.list (iL levels))), some (.l []), none, none, none]) (by rcases ht with rfl | rfl <;> simp [exb, exs, tst, ev, evd, evl, evo, evk, evi, kCall, takeArgs, putBack, chg, has, atK, isL, isOwnL, margs, pures, fz, sto, stoD, L3.Fl.seq, L3.Fl.unlock, L3.Res.fl, L3.Res.bind, slot, L3.T.dat, L3.T.pure, L3.D.flat, qok, isQ, L3.E.quiet, quiets, dats, truth, wargs, walk, L3.lock, L3.unlock, Option.bind_some, Option.map_some, prm, tests]) (pw1 (k := .enum) (x := .list (iL levels)) (congrArg some (enum_map PyData.int levels 0)))]
    exact e
  show exb F [_, .for _ _ _ _ belL, _] [some t, none, none, none, none] = _
  rw [exb_go f1, exb_go f2]
  simp [exb, exs, tst, ev, evd, evl, evo, evk, evi, kCall, takeArgs, putBack, chg, has, atK, isL, isOwnL, margs, pures, fz, sto, stoD, L3.Fl.seq, L3.Fl.unlock, L3.Res.fl, L3.Res.bind, slot, L3.T.dat, L3.T.pure, L3.D.flat, qok, isQ, L3.E.quiet, quiets, dats, truth, wargs, walk, L3.lock, L3.unlock, Option.bind_some, Option.map_some, prm, tests, tuple_l]
end L3

set_option maxHeartbeats 4000000
namespace L3
open PySem
theorem cut_iL (xs : List Int) (lo hi : Option Int) : ∃ zs, cut (iL xs) lo hi = iL zs := by
  unfold cut
  rw [iL_drop, iL_take]
  exact ⟨_, rfl⟩
theorem sl_some (xs : List Int) (lo hi : Option Int) : ∃ zs, slD (.list (iL xs)) lo hi = some (.l (iL zs)) := by
  obtain ⟨zs, e⟩ := cut_iL xs lo hi
  exact ⟨zs, by simp only [slD, e]⟩
theorem sl_loL {xs : List PyData} {p : Int} (h0 : 0 ≤ p) : slD (.list xs) (some p) none = some (.l (xs.drop p.toNat)) := by
  simp only [slD, cut, HT.sIx]
  rw [if_neg (by omega)]
  simp
  by_cases c : p.toNat ≤ xs.length
  · simp [Nat.min_eq_left c, List.take_of_length_le]
  · have : xs.length ≤ p.toNat := by omega
    simp [Nat.min_eq_right this, List.drop_eq_nil_of_le this]
theorem zipD_iL : ∀ xs ys : List Int, zipD (iL xs) (iL ys) = bL (xs.zip ys)
  | [], _ => by simp [iL, zipD, bL]
  | _ :: _, [] => by simp [iL, zipD, bL]
  | x :: xs, y :: ys => by
    have := zipD_iL xs ys
    simp only [iL, bL] at this ⊢
    simp [zipD, this, pP]
theorem zip_aft : ∀ (xs : List Int) (p : PI2), p ∈ xs.zip (xs.drop 1) → Aft xs p.1 p.2
  | [], p, h => by simp at h
  | [x], p, h => by simp at h
  | x :: y :: r, p, h => by
    have h : p = (x, y) ∨ p ∈ (y :: r).zip r := by simpa using h
    rcases h with rfl | h
    · exact ⟨[], y :: r, rfl, by simp⟩
    · obtain ⟨A, B, e, hB⟩ := zip_aft (y :: r) p (by simpa using h)
      exact ⟨x :: A, B, by rw [e]; rfl, hB⟩
def bkIn (f : Nat) : List S := [.ifs (.cmp .eq (.call f [.io 0, .ife (.cmp .lt (.pk 3) (.c (.int 6))) (.c (.int 2)) (.c (.int 4))]) (.c (.int 0))) [.expr (.mut .append 4 [] [.tup [.v 6, .v 8]])] []]
def bkOut (f : Nat) : List S := [.for (.n 8) .seq none [.fz (.sl (.pk 2) [.fz (.bin .add (.pk 5) (.c (.int 1)))] [])] (bkIn f)]
def bookB (f m o b : Nat) : List S := [
  .asgs [.n 2, .n 3] [.call m [.io 0, .bi .lrange [.pk 1]], .call f [.io 0, .c (.int 8)]],
  .ifs (.cmp .eq (.pk 3) (.c (.int 0))) [.ret (.tup [])] [],
  .ifs (.cmp .eq (.pk 3) (.c (.int 1))) [.ret (.call o [.v 2, .bi .lzip [.pk 2, .sl (.pk 2) [.c (.int 1)] []]])] [],
  .ifs (.cmp .eq (.pk 3) (.c (.int 2))) [.asg (.n 7) (.lc [6] (.n 6) .rng1 none [.v 1] [] (.fz (.call f [.io 0, .c (.int 3)]))), .ret (.call b [.v 7])] [],
  .asg (.n 4) (.lst []),
  .for (.t [.n 5, .n 6]) .enum none [.v 2] (bkOut f),
  .ifs (.cmp .eq (.pk 3) (.c (.int 5))) [.asg (.n 9) (.sl (.pk 2) [] [.fz (.bin .add (.c (.int 1)) (.call f [.io 0, .v 1]))]), .ret (.bi .tuple [.lc [10] (.n 10) .seq none [.fz (.call o [.v 2, .v 4])] [.cmp .isin (.at (.pk 10) (.c (.int 0))) (.pk 9)] (.v 10)])] [],
  .ret (.call o [.v 2, .v 4])]
def bookD (f m o b : Nat) : Def := ⟨2, 11, [0], bookB f m o b⟩
theorem bk_in {L : L3.D → Prop} {F : FT} {f : Nat} (hd : DrawF L F f) {e1 e2 e5 e7 e9 e10 : Option L3.D} {w x : Int} : ∀ (hs : List Int) (ds : List PI2) (d : L3.D) (e8 : Option L3.D), L d → ds.length + hs.length < 1000000 →
    ∃ d' ds' e8', forL (.n 8) (exb F (bkIn f)) (iL hs) [some d, e1, e2, some (.p (.int w)), some (.l (bL ds)), e5, some (.p (.int x)), e7, e8, e9, e10] = .nx [some d', e1, e2, some (.p (.int w)), some (.l (bL ds')), e5, some (.p (.int x)), e7, e8', e9, e10] ∧ L d' ∧
      (∀ p ∈ ds', p ∈ ds ∨ (p.1 = x ∧ p.2 ∈ hs)) ∧ ds'.length ≤ ds.length + hs.length
  | [], ds, d, e8, hL, _ => ⟨d, ds, e8, rfl, hL, fun p hp => .inl hp, Nat.le_refl _⟩
  | h :: hs, ds, d, e8, hL, hl => by
    simp only [List.length_cons] at hl
    have key : ∃ d1 ds1, exb F (bkIn f) [some d, e1, e2, some (.p (.int w)), some (.l (bL ds)), e5, some (.p (.int x)), e7, some (.p (.int h)), e9, e10] = .nx [some d1, e1, e2, some (.p (.int w)), some (.l (bL ds1)), e5, some (.p (.int x)), e7, some (.p (.int h)), e9, e10] ∧ L d1 ∧
        (ds1 = ds ∨ ds1 = ds ++ [(x, h)]) := by
      have ap : meth .append [.tuple [.int x, .int h]] (.l (bL ds)) = some (.none, .l (bL (ds ++ [(x, h)]))) := by
        rw [app_any (by rw [len_bL]; omega), ← app_bL]
        rfl
      by_cases c : w < 6
      · obtain ⟨r, d1, e, h1, h2, h3⟩ := hd d 2 hL (by decide) (by decide)
        by_cases z : r = 0
        · subst z
          exact ⟨d1, ds ++ [(x, h)], by simp [bkIn, exb, exs, tst, ev, evd, evl, evo, evk, evi, kCall, takeArgs, putBack, chg, has, atK, isL, isOwnL, margs, pures, fz, sto, stoD, L3.Fl.seq, L3.Fl.unlock, L3.Res.fl, L3.Res.bind, slot, L3.T.dat, L3.T.pure, L3.D.flat, qok, isQ, L3.E.quiet, quiets, dats, truth, wargs, walk, L3.lock, L3.unlock, Option.bind_some, Option.map_some, prm, tests, cmp_lt, c, e, cmp_eqI, ap, two_le], h1, .inr rfl⟩
        · exact ⟨d1, ds, by simp [bkIn, exb, exs, tst, ev, evd, evl, evo, evk, evi, kCall, takeArgs, putBack, chg, has, atK, isL, isOwnL, margs, pures, fz, sto, stoD, L3.Fl.seq, L3.Fl.unlock, L3.Res.fl, L3.Res.bind, slot, L3.T.dat, L3.T.pure, L3.D.flat, qok, isQ, L3.E.quiet, quiets, dats, truth, wargs, walk, L3.lock, L3.unlock, Option.bind_some, Option.map_some, prm, tests, cmp_lt, c, e, cmp_eqI, z], h1, .inl rfl⟩
      · obtain ⟨r, d1, e, h1, h2, h3⟩ := hd d 4 hL (by decide) (by decide)
        by_cases z : r = 0
        · subst z
          exact ⟨d1, ds ++ [(x, h)], by simp [bkIn, exb, exs, tst, ev, evd, evl, evo, evk, evi, kCall, takeArgs, putBack, chg, has, atK, isL, isOwnL, margs, pures, fz, sto, stoD, L3.Fl.seq, L3.Fl.unlock, L3.Res.fl, L3.Res.bind, slot, L3.T.dat, L3.T.pure, L3.D.flat, qok, isQ, L3.E.quiet, quiets, dats, truth, wargs, walk, L3.lock, L3.unlock, Option.bind_some, Option.map_some, prm, tests, cmp_lt, c, e, cmp_eqI, ap, two_le], h1, .inr rfl⟩
        · exact ⟨d1, ds, by simp [bkIn, exb, exs, tst, ev, evd, evl, evo, evk, evi, kCall, takeArgs, putBack, chg, has, atK, isL, isOwnL, margs, pures, fz, sto, stoD, L3.Fl.seq, L3.Fl.unlock, L3.Res.fl, L3.Res.bind, slot, L3.T.dat, L3.T.pure, L3.D.flat, qok, isQ, L3.E.quiet, quiets, dats, truth, wargs, walk, L3.lock, L3.unlock, Option.bind_some, Option.map_some, prm, tests, cmp_lt, c, e, cmp_eqI, z], h1, .inl rfl⟩
    obtain ⟨d1, ds1, e, h1, h2⟩ := key
    have l1 : ds1.length ≤ ds.length + 1 := by rcases h2 with rfl | rfl <;> simp
    obtain ⟨d', ds', e8', q1, q2, q3, q4⟩ := bk_in hd (e1 := e1) (e2 := e2) (e5 := e5) (e7 := e7) (e9 := e9) (e10 := e10) (w := w) (x := x) hs ds1 d1 (some (.p (.int h))) h1 (by omega)
    refine ⟨d', ds', e8', ?_, q2, fun p hp => ?_, by rw [List.length_cons]; omega⟩
    · rw [← q1]
      show forL _ _ (.int h :: iL hs) _ = _
      rw [forL]
      simp only [bindT, List.set_cons_succ, List.set_cons_zero, e]
    · rcases q3 p hp with k | ⟨k1, k2⟩
      · rcases h2 with rfl | rfl
        · exact .inl k
        · rcases List.mem_append.mp k with k | k
          · exact .inl k
          · have : p = (x, h) := by simpa using k
            subst this
            exact .inr ⟨rfl, by simp⟩
      · exact .inr ⟨k1, by simp [k2]⟩
theorem bk_out {L : L3.D → Prop} {F : FT} {f : Nat} (hd : DrawF L F f) {order : List Int} (ol : order.length ≤ 64) {d : L3.D} (hL : L d) {e1 e7 e9 e10 e5 e6 e8 : Option L3.D} {w : Int} :
    ∃ d' ds e5' e6' e8', forL (.t [.n 5, .n 6]) (exb F (bkOut f)) (enumFrom 0 (iL order)) [some d, e1, some (.p (.list (iL order))), some (.p (.int w)), some (.l []), e5, e6, e7, e8, e9, e10] = .nx [some d', e1, some (.p (.list (iL order))), some (.p (.int w)), some (.l (bL ds)), e5', e6', e7, e8', e9, e10] ∧ L d' ∧
      (∀ p ∈ ds, Aft order p.1 p.2) ∧ ds.length ≤ order.length * order.length := by
  have em : enumFrom 0 (iL order) = order.zipIdx.map fun p => PyData.tuple [.int (p.2 : Nat), .int p.1] := enum_map PyData.int order 0
  rw [em]
  obtain ⟨ρ2, e, I⟩ := forL_go (tg := .t [.n 5, .n 6]) (body := exb F (bkOut f)) (fun q : Int × Nat => PyData.tuple [.int (q.2 : Nat), .int q.1]) (fun rest ρ => ∃ d ds e5 e6 e8, L d ∧ (∀ p ∈ ds, Aft order p.1 p.2) ∧ ds.length ≤ (order.length - rest.length) * order.length ∧ rest = (order.zipIdx).drop (order.length - rest.length) ∧ rest.length ≤ order.length ∧
      ρ = [some d, e1, some (.p (.list (iL order))), some (.p (.int w)), some (.l (bL ds)), e5, e6, e7, e8, e9, e10]) order.zipIdx [some d, e1, some (.p (.list (iL order))), some (.p (.int w)), some (.l []), e5, e6, e7, e8, e9, e10]
    ⟨d, [], e5, e6, e8, hL, by simp, by simp, by simp, by simp, rfl⟩ (fun q r ρ _ ⟨d, ds, e5, e6, e8, k0, k1, k2, k3, k4, e⟩ => by
      subst e
      rw [List.length_cons] at k2 k3 k4
      have lt : order.length - (r.length + 1) < order.zipIdx.length := by rw [List.length_zipIdx]; omega
      rw [List.drop_eq_getElem_cons lt, List.cons.injEq] at k3
      have q2 : q.2 = order.length - (r.length + 1) := by rw [k3.1]; simp
      have ex : q.2 + 1 = order.length - r.length := by omega
      have q1 : order = order.take q.2 ++ q.1 :: order.drop (q.2 + 1) := by
        have l2 : q.2 < order.length := by omega
        have : q.1 = order[q.2] := by
          have z := congrArg Prod.fst k3.1
          simp only [List.getElem_zipIdx] at z
          rw [z]
          congr 1
          exact q2.symm
        rw [this, List.getElem_cons_drop, List.take_append_drop]
      have mm : q.2 * order.length ≤ 64 * 64 := Nat.mul_le_mul (by omega) ol
      rw [← q2] at k2
      have dl : (order.drop (q.2 + 1)).length ≤ order.length := by rw [List.length_drop]; omega
      obtain ⟨d', ds', e8', s, j1, j2, j3⟩ := bk_in hd (e1 := e1) (e2 := some (.p (.list (iL order)))) (e5 := some (.p (.int (q.2 : Nat)))) (e7 := e7) (e9 := e9) (e10 := e10) (w := w) (x := q.1) (order.drop (q.2 + 1)) ds d e8 k0 (by omega)
      refine ⟨_, rfl, ?_⟩
      have sl : slD (.list (iL order)) (some ((q.2 : Int) + 1)) none = some (.l (iL (order.drop (q.2 + 1)))) := by
        rw [sl_loL (by omega), show ((q.2 : Int) + 1).toNat = q.2 + 1 by omega, iL_drop]
      have f1 : exs F (.for (.n 8) .seq none [.fz (.sl (.pk 2) [.fz (.bin .add (.pk 5) (.c (.int 1)))] [])] (bkIn f)) [some d, e1, some (.p (.list (iL order))), some (.p (.int w)), some (.l (bL ds)), some (.p (.int (q.2 : Nat))), some (.p (.int q.1)), e7, e8, e9, e10] =
          .nx [some d', e1, some (.p (.list (iL order))), some (.p (.int w)), some (.l (bL ds')), some (.p (.int (q.2 : Nat))), some (.p (.int q.1)), e7, e8', e9, e10] := by
        rw [for_ev (ts := [.o (.p (.list (iL (order.drop (q.2 + 1)))))]) (ρ1 := [some d, e1, some (.p (.list (iL order))), some (.p (.int w)), some (.l (bL ds)), some (.p (.int (q.2 : Nat))), some (.p (.int q.1)), e7, e8, e9, e10]) (by simp [exb, exs, tst, ev, evd, evl, evo, evk, evi, kCall, takeArgs, putBack, chg, has, atK, isL, isOwnL, margs, pures, fz, sto, stoD, L3.Fl.seq, L3.Fl.unlock, L3.Res.fl, L3.Res.bind, slot, L3.T.dat, L3.T.pure, L3.D.flat, qok, isQ, L3.E.quiet, quiets, dats, truth, wargs, walk, L3.lock, L3.unlock, Option.bind_some, Option.map_some, prm, tests, bin_add, sl]) pw_iL]
        exact s
      show Go _ (exb F (bkOut f) [some d, e1, some (.p (.list (iL order))), some (.p (.int w)), some (.l (bL ds)), some (.p (.int (q.2 : Nat))), some (.p (.int q.1)), e7, e8, e9, e10])
      rw [bkOut, exb_go f1]
      refine ⟨d', ds', _, _, e8', j1, fun p hp => ?_, ?_, by rw [← ex]; rw [q2] at *; exact (by simpa [q2] using k3.2), by omega, rfl⟩
      · rcases j2 p hp with k | ⟨z1, z2⟩
        · exact k1 p k
        · exact ⟨order.take q.2, order.drop (q.2 + 1), by rw [z1]; exact q1, z2⟩
      · rw [← ex, Nat.add_mul, Nat.one_mul]
        omega)
  obtain ⟨d', ds, f5, f6, f8, k0, k1, k2, k3, k4, rfl⟩ := I
  exact ⟨d', ds, f5, f6, f8, e, k0, k1, by simpa using k2⟩
end L3

set_option maxHeartbeats 4000000
namespace L3
open PySem
def upN (n : Nat) : List Int := (List.range n).map fun (k : Nat) => (k : Int)
theorem upN_rng (n : Nat) : rangeD 0 n 1 = iL (upN n) := by
  simp only [rangeD, upN, iL, List.map_map]
  refine List.map_congr_left fun k _ => ?_
  simp
theorem upN_mem {n : Nat} {x : Int} : x ∈ upN n ↔ 0 ≤ x ∧ x < n := by
  simp only [upN, List.mem_map, List.mem_range]
  constructor
  · rintro ⟨k, hk, rfl⟩; omega
  · rintro ⟨h0, h1⟩; exact ⟨x.toNat, by omega, by omega⟩
theorem upN_nodup (n : Nat) : (upN n).Nodup := by
  refine List.pairwise_map.mpr (List.nodup_range.imp fun {a b} h z => h (by omega))
theorem upN_len (n : Nat) : (upN n).length = n := by simp [upN]
theorem lrange_n {n : Nat} (h : n ≤ 1000) : bi .lrange [.int (n : Int)] = some (.l (iL (upN n))) := by
  have sm : small62 (n : Int) = true := by simp [small62]; omega
  have g : decide ((n : Int) ≤ 16777216) = true := by simp; omega
  have e : ((n : Int)).toNat = n := rfl
  simp only [bi, sm, g, Bool.and_self, if_true, e, upN_rng]
theorem pw_rngD {n : Nat} (h : n ≤ 1000) : (pures [.o (.p (.int (n : Int)))]).bind (walk .rng1) = some (iL (upN n)) := by
  have sm : small62 (n : Int) = true := by simp [small62]; omega
  have e : ((n : Int)).toNat = n := rfl
  refine pw1 ?_
  simp only [walk, sm, if_true, e, upN_rng]
theorem ifs_no {F : FT} {ρ : Env} {i : Nat} {w c : Int} {A : List S} (h : slot ρ i = some (.p (.int w))) (n : w ≠ c) : exs F (.ifs (.cmp .eq (.pk i) (.c (.int c))) A []) ρ = .nx ρ := by
  have h' : (ρ[i]?).join = some (.p (.int w)) := h
  simp [exs, exb, tst, ev, h, h', slot, L3.Res.bind, L3.Res.fl, qok, isQ, L3.T.dat, L3.D.flat, cmp_eqI, n, truth]
theorem ifs_yes {F : FT} {ρ : Env} {i : Nat} {c : Int} {A : List S} (h : slot ρ i = some (.p (.int c))) : exs F (.ifs (.cmp .eq (.pk i) (.c (.int c))) A []) ρ = exb F A ρ := by
  have h' : (ρ[i]?).join = some (.p (.int c)) := h
  simp [exs, tst, ev, h, h', slot, L3.Res.bind, L3.Res.fl, qok, isQ, L3.T.dat, L3.D.flat, cmp_eqI, truth]
/-- a call that is lent the urn -/
theorem lend_go {F : FT} {f i : Nat} {e : E} {ρ : Env} {d d' x y : L3.D} (h0 : slot ρ i = some d) (he : ev F e ρ = .ok (.o x) ρ) (hF : F f [d, x] = .ok y [some d', none]) : ev F (.call f [.io i, e]) ρ = .ok (.o y) (ρ.set i (some d')) := by
  rw [ev, evl, ev, h0]
  simp only [L3.Res.bind, evl, he, isQ, Bool.not_false, Bool.true_or, if_true, kCall, takeArgs, h0, Option.bind_some, Option.map_some, hF, List.length_cons, List.length_nil, putBack, List.set_set]
theorem evo_two {F : FT} {e1 e2 : E} {ρ ρ1 ρ2 : Env} {x y : L3.D} (h1 : ev F e1 ρ = .ok (.o x) ρ1) (h2 : ev F e2 ρ1 = .ok (.o y) ρ2) (i j : Nat) : exs F (.asgs [.n i, .n j] [e1, e2]) ρ = .nx ((ρ2.set i (some x)).set j (some y)) := by
  rw [exs, evo, h1]
  simp only [L3.Res.bind, L3.Res.fl, evo, h2, stoD, sto]
theorem lrange_nn {nn : Int} {n : Nat} (e : nn = n) (h : n ≤ 1000) : bi .lrange [.int nn] = some (.l (iL (upN n))) := by
  subst e
  exact lrange_n h
theorem pw_rngE {nn : Int} {n : Nat} (e : nn = n) (h : n ≤ 1000) : (pures [.o (.p (.int nn))]).bind (walk .rng1) = some (iL (upN n)) := by
  subst e
  exact pw_rngD h
theorem lrange_ev {F : FT} {ρ : Env} {i n : Nat} {nn : Int} (e : nn = n) (h0 : slot ρ i = some (.p (.int nn))) (h : n ≤ 1000) : ev F (.bi .lrange [.pk i]) ρ = .ok (.o (.l (iL (upN n)))) ρ := by
  have lr := lrange_nn e h
  clear e
  rw [ev, evl, ev, h0]
  simp only [L3.Res.bind, evl, isQ, Bool.not_false, Bool.true_or, if_true, dats, L3.T.dat, h0, Option.bind_some, L3.D.flat, lr]
/-- a drawn book -/
def BookF (L : L3.D → Prop) (F : FT) (i : Nat) : Prop := ∀ (d : L3.D) (nn : Int) (n : Nat), nn = n → L d → 1 ≤ n → n ≤ 8 → ∃ ps d', F i [d, .p (.int nn)] = .ok (.p (.tuple (bL ps))) [some d', none] ∧ L d' ∧ BkI n ps ∧ ps.length ≤ 64
theorem aft_in {order : List Int} {x h : Int} (a : Aft order x h) : x ∈ order ∧ h ∈ order := by
  obtain ⟨A, B, rfl, hB⟩ := a
  simp [hB]
theorem book_def {L : L3.D → Prop} {P : List Def} {f m o b i k : Nat} (h : P[i]? = some (bookD f m o b)) (hd : DrawF L (callF P k) f) (hm : MixedF L (callF P k) m) (ho : OrdF (callF P k) o) (hb : BelF (callF P k) b) : BookF L (callF P (k + 1)) i := fun d nn n hnn hL h1 h8 => by
  obtain ⟨ys, d1, em, l1, pm⟩ := hm d (.l (iL (upN n))) (iL (upN n)) hL (.inl rfl) (fun x hx => by
    simp only [iL, List.mem_map] at hx
    obtain ⟨y, _, rfl⟩ := hx
    exact Sh.int) (by rw [len_iL, upN_len]; omega)
  obtain ⟨order, rfl, pq⟩ := iL_perm pm
  have nd : order.Nodup := pq.nodup_iff.mpr (upN_nodup n)
  have hin : ∀ x ∈ order, 0 ≤ x ∧ x < n := fun x hx => upN_mem.mp (pq.mem_iff.mp hx)
  have ol : order.length = n := by rw [pq.length_eq, upN_len]
  obtain ⟨w, d2, ew, l2, w0, w8⟩ := hd d1 8 l1 (by decide) (by decide)
  have sq : n * n ≤ 8 * 8 := Nat.mul_le_mul h8 h8
  have inA : ∀ {ds : List PI2}, (∀ p ∈ ds, Aft order p.1 p.2) → InN n ds := fun ha p hp => ⟨hin _ (aft_in (ha p hp)).1, hin _ (aft_in (ha p hp)).2⟩
  have fin : ∀ {ps : List PI2} {d' : L3.D} {ρ : Env}, exb (callF P k) (bookB f m o b) [some d, some (.p (.int nn)), none, none, none, none, none, none, none, none, none] = .rt (.p (.tuple (bL ps))) ρ → outs ρ 2 [0] = [some d', none] → L d' → BkI n ps → ps.length ≤ 64 →
      ∃ ps d', callF P (k + 1) i [d, .p (.int nn)] = .ok (.p (.tuple (bL ps))) [some d', none] ∧ L d' ∧ BkI n ps ∧ ps.length ≤ 64 := fun e ho' hl hp pl => ⟨_, _, run_rt h rfl rfl e ho', hl, hp, pl⟩
  generalize callF P k = F at *
  have f1 : exs F (.asgs [.n 2, .n 3] [.call m [.io 0, .bi .lrange [.pk 1]], .call f [.io 0, .c (.int 8)]]) [some d, some (.p (.int nn)), none, none, none, none, none, none, none, none, none] =
      .nx [some d2, some (.p (.int nn)), some (.l (iL order)), some (.p (.int w)), none, none, none, none, none, none, none] := by
    exact evo_two (lend_go rfl (lrange_ev hnn rfl (by omega)) em) (lend_go rfl (by simp [ev]) ew) 2 3
  rw [bookB] at fin
  rw [exb_go f1] at fin
  by_cases c0 : w = 0
  · subst c0
    refine fin (ps := []) (d' := d2) (ρ := [some d2, some (.p (.int nn)), some (.l (iL order)), some (.p (.int 0)), none, none, none, none, none, none, none]) (exb_rt ?_) rfl l2 ⟨by intro p hp; simp at hp, Ord.nil⟩ (by simp)
    rw [ifs_yes rfl]
    simp [exb, exs, tst, ev, evd, evl, evo, evk, evi, kCall, takeArgs, putBack, chg, has, atK, isL, isOwnL, margs, pures, fz, sto, stoD, L3.Fl.seq, L3.Fl.unlock, L3.Res.fl, L3.Res.bind, slot, L3.T.dat, L3.T.pure, L3.D.flat, qok, isQ, L3.E.quiet, quiets, dats, truth, wargs, walk, L3.lock, L3.unlock, Option.bind_some, Option.map_some, prm, tests, bL]
  rw [exb_go (ifs_no rfl c0)] at fin
  by_cases c1 : w = 1
  · subst c1
    have sl : slD (.list (iL order)) (some 1) none = some (.l (iL (order.drop 1))) := by
      rw [sl_loL (by decide), iL_drop]
      rfl
    have lz : bi .lzip [.list (iL order), .list (iL (order.drop 1))] = some (.l (bL (order.zip (order.drop 1)))) := by
      simp only [bi, zipD_iL]
    have za := zip_aft order
    have zl : (order.zip (order.drop 1)).length ≤ 64 := by
      rw [List.length_zip]; omega
    obtain ⟨ps, e, p1, p2⟩ := ho n order (order.zip (order.drop 1)) (.p (.list (iL order))) (.l (bL (order.zip (order.drop 1)))) (by omega) (.inr rfl) (.inl rfl) nd hin (inA za) zl za
    refine fin (ps := ps) (d' := d2) (ρ := [some d2, some (.p (.int nn)), some (.p (.list (iL order))), some (.p (.int 1)), none, none, none, none, none, none, none]) (exb_rt ?_) rfl l2 p1 (by rw [ol] at p2; omega)
    rw [ifs_yes rfl]
    generalize order.drop 1 = tl at sl lz e ⊢
    simp [exb, exs, tst, ev, evd, evl, evo, evk, evi, kCall, takeArgs, putBack, chg, has, atK, isL, isOwnL, margs, pures, fz, sto, stoD, L3.Fl.seq, L3.Fl.unlock, L3.Res.fl, L3.Res.bind, slot, L3.T.dat, L3.T.pure, L3.D.flat, qok, isQ, L3.E.quiet, quiets, dats, truth, wargs, walk, L3.lock, L3.unlock, Option.bind_some, Option.map_some, prm, tests, sl, lz, e]
  rw [exb_go (ifs_no rfl c1)] at fin
  by_cases c2 : w = 2
  · subst c2
    obtain ⟨ds, d3, e3, n3, r3, l3⟩ := row_loop (F := F) (f := f) (j := 6) hd (nn := 3) (by decide) (by decide) (by decide) (e := .fz (.call f [.io 0, .c (.int 3)])) (σ := fun d => [some d, some (.p (.int nn)), some (.l (iL order)), some (.p (.int 2)), none, none, none, none, none, none, none]) (fun d r d' _ e x => by
      simp [ev, evl, kCall, takeArgs, putBack, fz, L3.Res.bind, slot, L3.T.pure, isQ, quiets, E.quiet, e]) (fun _ _ => rfl) (fun _ _ _ => rfl) (iL (upN n)) [] d2 (by rw [len_iL, upN_len]; simp; omega) l2
    have n3 : ds.length = n := by rw [n3, len_iL, upN_len]
    have s1 : ev F (.lc [6] (.n 6) .rng1 none [.v 1] [] (.fz (.call f [.io 0, .c (.int 3)]))) [some d2, some (.p (.int nn)), some (.l (iL order)), some (.p (.int 2)), none, none, none, none, none, none, none] =
        .ok (.o (.l (iL ds))) [some d3, some (.p (.int nn)), some (.l (iL order)), some (.p (.int 2)), none, none, none, none, none, none, none] :=
      lc_ev (ts := [.o (.p (.int nn))]) (ρ1 := [some d2, some (.p (.int nn)), some (.l (iL order)), some (.p (.int 2)), none, none, none, none, none, none, none]) (by simp [evl, ev, L3.Res.bind, slot, fz, isQ, quiets]) (pw_rngE hnn (by omega)) (by simpa [iL] using e3)
    obtain ⟨ps, e, p1, p2⟩ := hb ds (.p (.list (iL ds))) (.inr rfl) (by omega)
    refine fin (ps := ps) (d' := d3) (ρ := [some d3, some (.p (.int nn)), some (.l (iL order)), some (.p (.int 2)), none, none, none, some (.p (.list (iL ds))), none, none, none]) (exb_rt ?_) rfl l3 (by rw [n3] at p1; exact p1) (by rw [n3] at p2; omega)
    rw [ifs_yes rfl, exb_go (asg_go s1)]
    simp [exb, exs, tst, ev, evd, evl, evo, evk, evi, kCall, takeArgs, putBack, chg, has, atK, isL, isOwnL, margs, pures, fz, sto, stoD, L3.Fl.seq, L3.Fl.unlock, L3.Res.fl, L3.Res.bind, slot, L3.T.dat, L3.T.pure, L3.D.flat, qok, isQ, L3.E.quiet, quiets, dats, truth, wargs, walk, L3.lock, L3.unlock, Option.bind_some, Option.map_some, prm, tests, e]
  rw [exb_go (ifs_no rfl c2)] at fin
  obtain ⟨d3, ds, f5, f6, f8, eo, l3, a3, n3⟩ := bk_out hd (order := order) (by omega) l2 (e1 := some (.p (.int nn))) (e5 := none) (e6 := none) (e7 := none) (e8 := none) (e9 := none) (e10 := none) (w := w)
  have n3 : ds.length ≤ 64 := by rw [ol] at n3; omega
  have g1 : exs F (.asg (.n 4) (.lst [])) [some d2, some (.p (.int nn)), some (.l (iL order)), some (.p (.int w)), none, none, none, none, none, none, none] = .nx [some d2, some (.p (.int nn)), some (.l (iL order)), some (.p (.int w)), some (.l []), none, none, none, none, none, none] := by simp [exb, exs, tst, ev, evd, evl, evo, evk, evi, kCall, takeArgs, putBack, chg, has, atK, isL, isOwnL, margs, pures, fz, sto, stoD, L3.Fl.seq, L3.Fl.unlock, L3.Res.fl, L3.Res.bind, slot, L3.T.dat, L3.T.pure, L3.D.flat, qok, isQ, L3.E.quiet, quiets, dats, truth, wargs, walk, L3.lock, L3.unlock, Option.bind_some, Option.map_some, prm, tests]
  have g2 : exs F (.for (.t [.n 5, .n 6]) .enum none [.v 2] (bkOut f)) [some d2, some (.p (.int nn)), some (.l (iL order)), some (.p (.int w)), some (.l []), none, none, none, none, none, none] = .nx [some d3, some (.p (.int nn)), some (.p (.list (iL order))), some (.p (.int w)), some (.l (bL ds)), f5, f6, none, f8, none, none] := by
    rw [for_ev (ts := [.o (.p (.list (iL order)))]) (ρ1 := [some d2, some (.p (.int nn)), some (.p (.list (iL order))), some (.p (.int w)), some (.l []), none, none, none, none, none, none]) (by simp [evl, ev, L3.Res.bind, slot, fz, isQ, quiets]) (pw1 (k := .enum) (x := .list (iL order)) rfl)]
    exact eo
  rw [exb_go g1, exb_go g2] at fin
  obtain ⟨ps, e, p1, p2⟩ := ho n order ds (.p (.list (iL order))) (.p (.list (bL ds))) (by omega) (.inr rfl) (.inr rfl) nd hin (inA a3) n3 a3
  have p2 : ps.length ≤ 64 := by rw [ol] at p2; omega
  by_cases c5 : w = 5
  · subst c5
    obtain ⟨r, d4, er, l4, r0, r1⟩ := hd d3 nn l3 (by omega) (by omega)
    obtain ⟨zs, sl⟩ := sl_some order none (some (1 + r))
    have s1 : exs F (.asg (.n 9) (.sl (.pk 2) [] [.fz (.bin .add (.c (.int 1)) (.call f [.io 0, .v 1]))])) [some d3, some (.p (.int nn)), some (.p (.list (iL order))), some (.p (.int 5)), some (.l (bL ds)), f5, f6, none, f8, none, none] =
        .nx [some d4, some (.p (.int nn)), some (.p (.list (iL order))), some (.p (.int 5)), some (.l (bL ds)), f5, f6, none, f8, some (.l (iL zs)), none] := by
      simp [exb, exs, tst, ev, evd, evl, evo, evk, evi, kCall, takeArgs, putBack, chg, has, atK, isL, isOwnL, margs, pures, fz, sto, stoD, L3.Fl.seq, L3.Fl.unlock, L3.Res.fl, L3.Res.bind, slot, L3.T.dat, L3.T.pure, L3.D.flat, qok, isQ, L3.E.quiet, quiets, dats, truth, wargs, walk, L3.lock, L3.unlock, Option.bind_some, Option.map_some, prm, tests, er, bin_add, sl]
    have s2 := comp_ev (F := F) pP (fun p : PI2 => decide (p.1 ∈ zs)) pP ps (fun p => [some d4, some (.p (.int nn)), some (.p (.list (iL order))), some (.p (.int 5)), some (.p (.list (bL ds))), f5, f6, none, f8, some (.l (iL zs)), some (.p (pP p))])
      (own := [10]) (tg := .n 10) (k := .seq) (its := [.fz (.call o [.v 2, .v 4])]) (cond := [.cmp .isin (.at (.pk 10) (.c (.int 0))) (.pk 9)]) (elt := .v 10) (ρ := [some d4, some (.p (.int nn)), some (.p (.list (iL order))), some (.p (.int 5)), some (.l (bL ds)), f5, f6, none, f8, some (.l (iL zs)), none]) (ts := [.o (.p (.tuple (bL ps)))])
      (ρ1 := [some d4, some (.p (.int nn)), some (.p (.list (iL order))), some (.p (.int 5)), some (.p (.list (bL ds))), f5, f6, none, f8, some (.l (iL zs)), none]) (by simp [exb, exs, tst, ev, evd, evl, evo, evk, evi, kCall, takeArgs, putBack, chg, has, atK, isL, isOwnL, margs, pures, fz, sto, stoD, L3.Fl.seq, L3.Fl.unlock, L3.Res.fl, L3.Res.bind, slot, L3.T.dat, L3.T.pure, L3.D.flat, qok, isQ, L3.E.quiet, quiets, dats, truth, wargs, walk, L3.lock, L3.unlock, Option.bind_some, Option.map_some, prm, tests, e]) rfl rfl (by omega) fun p hp => ⟨rfl, rfl, by simp [exb, exs, tst, ev, evd, evl, evo, evk, evi, kCall, takeArgs, putBack, chg, has, atK, isL, isOwnL, margs, pures, fz, sto, stoD, L3.Fl.seq, L3.Fl.unlock, L3.Res.fl, L3.Res.bind, slot, L3.T.dat, L3.T.pure, L3.D.flat, qok, isQ, L3.E.quiet, quiets, dats, truth, wargs, walk, L3.lock, L3.unlock, Option.bind_some, Option.map_some, prm, tests, at_p0, cin_il], fun _ => by simp [exb, exs, tst, ev, evd, evl, evo, evk, evi, kCall, takeArgs, putBack, chg, has, atK, isL, isOwnL, margs, pures, fz, sto, stoD, L3.Fl.seq, L3.Fl.unlock, L3.Res.fl, L3.Res.bind, slot, L3.T.dat, L3.T.pure, L3.D.flat, qok, isQ, L3.E.quiet, quiets, dats, truth, wargs, walk, L3.lock, L3.unlock, Option.bind_some, Option.map_some, prm, tests]⟩
    refine fin (ps := ps.filter fun p => decide (p.1 ∈ zs)) (d' := d4) (ρ := [some d4, some (.p (.int nn)), some (.p (.list (iL order))), some (.p (.int 5)), some (.p (.list (bL ds))), f5, f6, none, f8, some (.l (iL zs)), none]) (exb_rt ?_) rfl l4 ⟨fun p hp => p1.1 p (List.mem_filter.mp hp).1, p1.2.filter fun z => decide (z ∈ zs)⟩ (Nat.le_trans (List.length_filter_le _ _) p2)
    rw [ifs_yes rfl, exb_go s1]
    refine exb_rt (ret_go ?_)
    rw [ev]
    have ea : evl F [.lc [10] (.n 10) .seq none [.fz (.call o [.v 2, .v 4])] [.cmp .isin (.at (.pk 10) (.c (.int 0))) (.pk 9)] (.v 10)] [some d4, some (.p (.int nn)), some (.p (.list (iL order))), some (.p (.int 5)), some (.l (bL ds)), f5, f6, none, f8, some (.l (iL zs)), none] =
        .ok [.o (.l (bL (ps.filter fun p => decide (p.1 ∈ zs))))] [some d4, some (.p (.int nn)), some (.p (.list (iL order))), some (.p (.int 5)), some (.p (.list (bL ds))), f5, f6, none, f8, some (.l (iL zs)), none] := by
      rw [evl, s2]
      simp [evl, L3.Res.bind, isQ, quiets, bL]
    rw [ea]
    simp [L3.Res.bind, dats, L3.T.dat, L3.D.flat, tuple_l]
  rw [exb_go (ifs_no rfl c5)] at fin
  refine fin (ps := ps) (d' := d3) (ρ := [some d3, some (.p (.int nn)), some (.p (.list (iL order))), some (.p (.int w)), some (.p (.list (bL ds))), f5, f6, none, f8, none, none]) (exb_rt ?_) rfl l3 p1 p2
  simp [exb, exs, tst, ev, evd, evl, evo, evk, evi, kCall, takeArgs, putBack, chg, has, atK, isL, isOwnL, margs, pures, fz, sto, stoD, L3.Fl.seq, L3.Fl.unlock, L3.Res.fl, L3.Res.bind, slot, L3.T.dat, L3.T.pure, L3.D.flat, qok, isQ, L3.E.quiet, quiets, dats, truth, wargs, walk, L3.lock, L3.unlock, Option.bind_some, Option.map_some, prm, tests, e]
end L3

set_option maxHeartbeats 4000000
namespace L3
open PySem
/-- things drawn one behind another -/
theorem lc_draws {α : Type} {L : L3.D → Prop} {F : FT} {j : Nat} {e : E} (inj : α → PyData) (Pr : α → Prop) (σ : L3.D → Env) (he : ∀ d, L d → ∃ a d', L d' ∧ Pr a ∧ ∀ x, ev F e ((σ d).set j (some (.p x))) = .ok (.o (.p (inj a))) ((σ d').set j (some (.p x))))
    (hw : ∀ d, wipe (σ d) [j] = σ d) (hw2 : ∀ d x, wipe ((σ d).set j (some (.p x))) [j] = σ d) : ∀ (items : List PyData) (acc : List α) (d : L3.D), L d → acc.length + items.length < 16777216 →
    ∃ as d', lcL [j] (.n j) (tests F []) (ev F e) items (acc.map inj) (σ d) = .ok ((acc ++ as).map inj) (σ d') ∧ as.length = items.length ∧ (∀ a ∈ as, Pr a) ∧ L d'
  | [], acc, d, hL, _ => ⟨[], d, by simp [lcL], rfl, by simp, hL⟩
  | it :: items, acc, d, hL, hl => by
    obtain ⟨a, d', h1, h2, h3⟩ := he d hL
    obtain ⟨as, d2, e3, l3, p3, f3⟩ := lc_draws inj Pr σ he hw hw2 items (acc ++ [a]) d' h1 (by simp at hl ⊢; omega)
    refine ⟨a :: as, d2, ?_, by simp [l3], fun b hb => ?_, f3⟩
    · have hz : (acc.map inj).length < sizeLine := Nat.lt_of_lt_of_le (m := 16777216) (by rw [List.length_map]; simp at hl; omega) (line_big (Nat.le_refl _))
      rw [lcL, hw]
      simp only [bindT, tests, L3.Res.calm, L3.Res.bind, if_true, h3 it, L3.T.pure, hz, hw2]
      rw [show acc.map inj ++ [inj a] = (acc ++ [a]).map inj by simp, e3]
      simp
    · rcases List.mem_cons.mp hb with rfl | h
      · exact h2
      · exact p3 b h
theorem ix_end {n : Nat} : ix (n + 1) (-1) = some n := by
  unfold ix L2.ixN
  rw [if_neg (by decide), if_pos (by omega)]
  congr 1
  omega
def bkP (ps : List PI2) : PyData := .tuple (bL ps)
/-- books of numbers below n -/
def BkN (n : Nat) (bs : List (List PI2)) : Prop := ∀ ps ∈ bs, BkI n ps ∧ ps.length ≤ 64
theorem Sh.bk {k : Nat} {ps : List PI2} : Sh (k + 2) (bkP ps) := Sh.tuple Sh.bL
theorem cmp_neBs (bs : List (List PI2)) : cmpD .ne (.list (bs.map bkP)) (.list []) = some (!decide (bs = [])) := by
  have h1 := (Sh.list (k := 2) (xs := bs.map bkP) fun x hx => by
    obtain ⟨ps, _, rfl⟩ := List.mem_map.mp hx
    exact Sh.bk).shp
  have h2 := (Sh.list (k := 2) (xs := []) fun x hx => by simp at hx).shp
  cases bs with
  | nil => simp only [cmpD, h2, List.map_nil, Bool.and_self, if_true]; simp [PyData.eqv, PyData.eqvAll]
  | cons b bs => simp only [cmpD, h1, h2, Bool.and_self, if_true]; simp [PyData.eqv, PyData.eqvAll]
def lineB (f bk : Nat) : List S := [
  .asg (.n 3) (.lc [4] (.n 4) .rng1 none [.fz (.call f [.io 0, .bin .add (.pk 2) (.c (.int 1))])] [] (.fz (.call bk [.io 0, .v 1]))),
  .ifs (.and (.cmp .ne (.pk 3) (.lst [])) (.cmp .eq (.call f [.io 0, .c (.int 4)]) (.c (.int 0)))) [.asg (.ix 3 [] (.neg (.c (.int 1)))) (.at (.pk 3) (.c (.int 0)))] [],
  .ret (.bi .tuple [.pk 3])]
def lineD (f bk : Nat) : Def := ⟨3, 5, [0], lineB f bk⟩
def LineF (L : L3.D → Prop) (F : FT) (i : Nat) : Prop := ∀ (d : L3.D) (nn most : Int) (n : Nat), nn = n → L d → 1 ≤ n → n ≤ 8 → 0 ≤ most → most < 1000 →
  ∃ bs d', F i [d, .p (.int nn), .p (.int most)] = .ok (.p (.tuple (bs.map bkP))) [some d', none, none] ∧ L d' ∧ BkN n bs ∧ (bs.length : Int) ≤ most
theorem line_def {L : L3.D → Prop} {P : List Def} {f bk i k : Nat} (h : P[i]? = some (lineD f bk)) (hd : DrawF L (callF P k) f) (hb : BookF L (callF P k) bk) : LineF L (callF P (k + 1)) i := fun d nn most n hnn hL h1 h8 m0 m1 => by
  obtain ⟨r, d1, er, l1, r0, r1⟩ := hd d (most + 1) hL (by omega) (by omega)
  have fin : ∀ {bs : List (List PI2)} {d' : L3.D} {ρ : Env}, exb (callF P k) (lineB f bk) [some d, some (.p (.int nn)), some (.p (.int most)), none, none] = .rt (.p (.tuple (bs.map bkP))) ρ → outs ρ 3 [0] = [some d', none, none] → L d' → BkN n bs → (bs.length : Int) ≤ most →
      ∃ bs d', callF P (k + 1) i [d, .p (.int nn), .p (.int most)] = .ok (.p (.tuple (bs.map bkP))) [some d', none, none] ∧ L d' ∧ BkN n bs ∧ (bs.length : Int) ≤ most := fun e ho' hl hp pl => ⟨_, _, run_rt h rfl rfl e ho', hl, hp, pl⟩
  generalize callF P k = F at *
  obtain ⟨rn, hrn⟩ : ∃ rn : Nat, r = rn := ⟨r.toNat, by omega⟩
  obtain ⟨bs, d2, e2, n2, p2, l2⟩ := lc_draws (L := L) (F := F) (j := 4) (e := .fz (.call bk [.io 0, .v 1])) bkP (fun ps => BkI n ps ∧ ps.length ≤ 64) (fun d => [some d, some (.p (.int nn)), some (.p (.int most)), none, none]) (fun d hd => by
    obtain ⟨ps, d', e, l, q1, q2⟩ := hb d nn n hnn hd h1 h8
    exact ⟨ps, d', l, ⟨q1, q2⟩, fun x => by simp [ev, evl, kCall, takeArgs, putBack, fz, L3.Res.bind, slot, L3.T.pure, isQ, quiets, E.quiet, e, bkP]⟩) (fun _ => rfl) (fun _ _ => rfl) (iL (upN rn)) [] d1 l1 (by rw [len_iL, upN_len]; simp; omega)
  have n2 : bs.length = rn := by rw [n2, len_iL, upN_len]
  have s1 : ev F (.lc [4] (.n 4) .rng1 none [.fz (.call f [.io 0, .bin .add (.pk 2) (.c (.int 1))])] [] (.fz (.call bk [.io 0, .v 1]))) [some d, some (.p (.int nn)), some (.p (.int most)), none, none] =
      .ok (.o (.l (bs.map bkP))) [some d2, some (.p (.int nn)), some (.p (.int most)), none, none] :=
    lc_ev (ts := [.o (.p (.int r))]) (ρ1 := [some d1, some (.p (.int nn)), some (.p (.int most)), none, none]) (by simp [evl, ev, kCall, takeArgs, putBack, fz, L3.Res.bind, slot, L3.T.dat, L3.D.flat, L3.T.pure, isQ, qok, quiets, E.quiet, bin_add, er]) (pw_rngE hrn (by omega)) (by simpa using e2)
  have bl : (bs.length : Int) ≤ most := by omega
  rw [lineB, exb_go (asg_go s1)] at fin
  have fin : ∀ {bs' : List (List PI2)} {d' : L3.D} {ρ : Env}, exb F [.ifs (.and (.cmp .ne (.pk 3) (.lst [])) (.cmp .eq (.call f [.io 0, .c (.int 4)]) (.c (.int 0)))) [.asg (.ix 3 [] (.neg (.c (.int 1)))) (.at (.pk 3) (.c (.int 0)))] [], .ret (.bi .tuple [.pk 3])] [some d2, some (.p (.int nn)), some (.p (.int most)), some (.l (bs.map bkP)), none] = .rt (.p (.tuple (bs'.map bkP))) ρ → outs ρ 3 [0] = [some d', none, none] → L d' → BkN n bs' → (bs'.length : Int) ≤ most → _ := fin
  rcases List.eq_nil_or_concat bs with rfl | ⟨B, c, hB⟩
  · have e0 := cmp_neBs []
    refine fin (bs' := []) (d' := d2) (ρ := [some d2, some (.p (.int nn)), some (.p (.int most)), some (.l []), none]) ?_ rfl l2 p2 m0
    have e0 : cmpD .ne (.list []) (.list []) = some false := e0
    simp [exb, exs, tst, ev, evd, evl, evo, evk, evi, kCall, takeArgs, putBack, chg, has, atK, isL, isOwnL, margs, pures, fz, sto, stoD, L3.Fl.seq, L3.Fl.unlock, L3.Res.fl, L3.Res.bind, slot, L3.T.dat, L3.T.pure, L3.D.flat, qok, isQ, L3.E.quiet, quiets, dats, truth, wargs, walk, L3.lock, L3.unlock, Option.bind_some, Option.map_some, prm, tests, e0, tuple_l]
  · rw [List.concat_eq_append] at hB
    subst hB
    have e0 := cmp_neBs (B ++ [c])
    obtain ⟨q, d3, eq, l3, q0, q1⟩ := hd d2 4 l2 (by decide) (by decide)
    have ne : ¬ (B ++ [c] = []) := by simp
    simp only [ne, decide_false, Bool.not_false] at e0
    by_cases z : q = 0
    · subst z
      have hl0 : (0 : Int) < ((B ++ [c]).map bkP).length := by simp
      have a0 := atD_list (xs := (B ++ [c]).map bkP) (r := 0) (by decide) hl0
      have hx : ∃ a, a ∈ B ++ [c] ∧ ((B ++ [c]).map bkP)[(0 : Int).toNat]'(by simp) = bkP a := by
        refine ⟨(B ++ [c])[0]'(by simp), List.getElem_mem _, ?_⟩
        rw [List.getElem_map]
        rfl
      obtain ⟨a, ha, ea⟩ := hx
      rw [ea] at a0
      have st : setAt (.l ((B ++ [c]).map bkP)) (.int (-1)) (.p (bkP a)) = some (.l ((B ++ [a]).map bkP)) := by
        have : ((B ++ [c]).map bkP).length = B.length + 1 := by simp
        simp only [setAt, this, ix_end, Option.bind_some]
        have s := set_at (bkP c) (bkP a) [] (B.map bkP)
        rw [List.length_map] at s
        rw [show (B ++ [c]).map bkP = B.map bkP ++ [bkP c] by simp, s]
        simp
      refine fin (bs' := B ++ [a]) (d' := d3) (ρ := [some d3, some (.p (.int nn)), some (.p (.int most)), some (.l ((B ++ [a]).map bkP)), none]) ?_ rfl l3 (fun ps hp => ?_) (by simpa using bl)
      · clear hl0 ea e2 s1
        generalize (B ++ [c]).map bkP = X at e0 a0 st ⊢
        generalize (B ++ [a]).map bkP = Y at st ⊢
        generalize bkP a = w at a0 st
        simp [exb, exs, tst, ev, evd, evl, evo, evk, evi, kCall, takeArgs, putBack, chg, has, atK, isL, isOwnL, margs, pures, fz, sto, stoD, L3.Fl.seq, L3.Fl.unlock, L3.Res.fl, L3.Res.bind, slot, L3.T.dat, L3.T.pure, L3.D.flat, qok, isQ, L3.E.quiet, quiets, dats, truth, wargs, walk, L3.lock, L3.unlock, Option.bind_some, Option.map_some, prm, tests, e0, eq, cmp_eqI, a0, st, tuple_l]
      · rcases List.mem_append.mp hp with hp | hp
        · exact p2 ps (by simp [hp])
        · rw [List.mem_singleton.mp hp]
          exact p2 a ha
    · refine fin (bs' := B ++ [c]) (d' := d3) (ρ := [some d3, some (.p (.int nn)), some (.p (.int most)), some (.l ((B ++ [c]).map bkP)), none]) ?_ rfl l3 p2 bl
      generalize (B ++ [c]).map bkP = X at e0 ⊢
      simp [exb, exs, tst, ev, evd, evl, evo, evk, evi, kCall, takeArgs, putBack, chg, has, atK, isL, isOwnL, margs, pures, fz, sto, stoD, L3.Fl.seq, L3.Fl.unlock, L3.Res.fl, L3.Res.bind, slot, L3.T.dat, L3.T.pure, L3.D.flat, qok, isQ, L3.E.quiet, quiets, dats, truth, wargs, walk, L3.lock, L3.unlock, Option.bind_some, Option.map_some, prm, tests, e0, eq, cmp_eqI, z, tuple_l]
end L3

set_option maxHeartbeats 4000000
/-! A thing's way through a line. -/
namespace L3
open PySem
/-- what the bays hold, the first ones only -/
def hL (xs : List Int) (m : Nat) : List PyData := iL xs ++ List.replicate m .none
theorem hL_nil (m : Nat) : hL [] m = List.replicate m .none := rfl
theorem hL_cons (x : Int) (xs : List Int) (m : Nat) : hL (x :: xs) m = .int x :: hL xs m := rfl
theorem hL_app (xs ys : List Int) (m : Nat) : hL (xs ++ ys) m = iL xs ++ hL ys m := by simp [hL, iL]
theorem len_hL (xs : List Int) (m : Nat) : (hL xs m).length = xs.length + m := by simp [hL, iL]
/-- one thing goes through: what the bays hold then, and what comes out -/
def stp : List (List PI2) → List Int → Int → List Int × Option Int
  | [], xs, g => (xs, some g)
  | _ :: _, [], g => ([g], none)
  | b :: bs, x :: xs, g => if (g, x) ∈ b then (x :: (stp bs xs g).1, (stp bs xs g).2) else (g :: (stp bs xs x).1, (stp bs xs x).2)
def stpI : List S := [.ifs (.cmp .is (.at (.pk 3) (.v 5)) (.c .none)) [.asg (.ix 3 [] (.v 5)) (.v 4), .ret (.tup [.bi .tuple [.pk 3], .c .none])] [], .ifs (.cmp .notin (.tup [.v 4, .at (.pk 3) (.v 5)]) (.pk 6)) [.asgs [.ix 3 [] (.v 5), .n 4] [.v 4, .at (.pk 3) (.v 5)]] []]
def stpB : List S := [
  .asgs [.n 3, .n 4] [.bi .list [.pk 1], .v 2],
  .for (.t [.n 5, .n 6]) .enum none [.v 0] stpI,
  .ret (.tup [.bi .tuple [.pk 3], .v 4])]
def stpD : Def := ⟨3, 7, [], stpB⟩
theorem at_midA {A : List Int} {y : PyData} {R : List PyData} : atD (.list (iL A ++ y :: R)) (.int A.length) = some y := by
  rw [atD_list (by omega) (by simp [len_iL]; omega)]
  simp [iL]
theorem set_midA {A : List Int} {y z : PyData} {R : List PyData} : setAt (.l (iL A ++ y :: R)) (.int A.length) (.p z) = some (.l (iL A ++ z :: R)) := by
  have : ix (iL A ++ y :: R).length A.length = some A.length := by rw [ix_nat (by omega) (by simp [len_iL]; omega)]; simp
  simp only [setAt, this, Option.bind_some]
  have e := set_at y z R (iL A)
  rw [len_iL] at e
  rw [e]
theorem cnot_b2 (x y : Int) (ps : List PI2) : cmpD .notin (.tuple [.int x, .int y]) (.tuple (bL ps)) = some (!decide ((x, y) ∈ ps)) := by
  have := isin_b (x, y) ps
  simp only [pP] at this
  simp [cmpD, this]
theorem stp_loop {F : FT} {l h t : Option L3.D} : ∀ (bs : List (List PI2)) (xs : List Int) (m : Nat) (A : List Int) (g : Int) (e5 e6 : Option L3.D), bs.length = xs.length + m →
    ∃ f5 f6 ρ', forL (.t [.n 5, .n 6]) (exb F stpI) (enumFrom A.length (bs.map bkP)) [l, h, t, some (.l (iL A ++ hL xs m)), some (.p (.int g)), e5, e6] =
      (match (stp bs xs g).2 with
        | some g' => .nx [l, h, t, some (.l (iL (A ++ (stp bs xs g).1))), some (.p (.int g')), f5, f6]
        | none => .rt (.p (.tuple [.tuple (hL (A ++ (stp bs xs g).1) (m - 1)), .none])) ρ') ∧ outs ρ' 3 [] = [none, none, none]
  | [], xs, m, A, g, e5, e6, hl => by
    have hl : 0 = xs.length + m := hl
    obtain rfl : m = 0 := by omega
    obtain rfl : xs = [] := List.length_eq_zero_iff.mp (by omega)
    exact ⟨e5, e6, [none, none, none], by simp [stp, enumFrom, forL, hL, iL], rfl⟩
  | b :: bs, [], m, A, g, e5, e6, hl => by
    cases m with
    | zero => simp at hl
    | succ m =>
      have a1 := at_midA (A := A) (y := .none) (R := List.replicate m .none)
      have a2 := set_midA (A := A) (y := .none) (z := .int g) (R := List.replicate m .none)
      have e1 : hL (A ++ [g]) m = iL A ++ .int g :: List.replicate m .none := by simp [hL, iL]
      refine ⟨e5, e6, [l, h, t, some (.l (iL A ++ .int g :: List.replicate m .none)), some (.p (.int g)), some (.p (.int (A.length : Nat))), some (.p (bkP b))], ?_, rfl⟩
      rw [List.map_cons, enumFrom, forL, hL_nil, List.replicate_succ]
      simp only [stp, e1, Nat.add_sub_cancel]
      simp [stpI, exb, exs, tst, ev, evd, evl, evo, evk, evi, kCall, takeArgs, putBack, chg, has, atK, isL, isOwnL, margs, pures, fz, sto, stoD, L3.Fl.seq, L3.Fl.unlock, L3.Res.fl, L3.Res.bind, slot, L3.T.dat, L3.T.pure, L3.D.flat, qok, isQ, L3.E.quiet, quiets, dats, truth, wargs, walk, L3.lock, L3.unlock, Option.bind_some, Option.map_some, prm, tests, bindT, bindTs, a1, a2, cmp_is, isNone, tuple_l, two_le]
  | b :: bs, x :: xs, m, A, g, e5, e6, hl => by
    have a1 := at_midA (A := A) (y := .int x) (R := hL xs m)
    have a2 := set_midA (A := A) (y := .int x) (z := .int g) (R := hL xs m)
    have e2 := cnot_b2 g x b
    have hl' : bs.length = xs.length + m := by simp at hl; omega
    by_cases c : (g, x) ∈ b
    · obtain ⟨f5, f6, ρ', e, ho⟩ := stp_loop (F := F) (l := l) (h := h) (t := t) bs xs m (A ++ [x]) g (some (.p (.int (A.length : Nat)))) (some (.p (bkP b))) hl'
      refine ⟨f5, f6, ρ', ?_, ho⟩
      have s : exb F stpI [l, h, t, some (.l (iL A ++ .int x :: hL xs m)), some (.p (.int g)), some (.p (.int (A.length : Nat))), some (.p (bkP b))] = .nx [l, h, t, some (.l (iL A ++ .int x :: hL xs m)), some (.p (.int g)), some (.p (.int (A.length : Nat))), some (.p (bkP b))] := by
        simp [stpI, exb, exs, tst, ev, evd, evl, evo, evk, evi, kCall, takeArgs, putBack, chg, has, atK, isL, isOwnL, margs, pures, fz, sto, stoD, L3.Fl.seq, L3.Fl.unlock, L3.Res.fl, L3.Res.bind, slot, L3.T.dat, L3.T.pure, L3.D.flat, qok, isQ, L3.E.quiet, quiets, dats, truth, wargs, walk, L3.lock, L3.unlock, Option.bind_some, Option.map_some, prm, tests, bkP, a1, a2, cmp_is, isNone, e2, c, two_le]
      rw [List.map_cons, enumFrom, forL, hL_cons]
      show (match exb F stpI [l, h, t, some (.l (iL A ++ .int x :: hL xs m)), some (.p (.int g)), some (.p (.int (A.length : Nat))), some (.p (bkP b))] with | .nx ρ2 => _ | .ct ρ2 => _ | .bk ρ2 => _ | f => _) = _
      rw [s]
      simp only [stp, c, if_true]
      rw [show iL (A ++ [x]) ++ hL xs m = iL A ++ .int x :: hL xs m by simp [iL], List.length_append] at e
      simpa using e
    · obtain ⟨f5, f6, ρ', e, ho⟩ := stp_loop (F := F) (l := l) (h := h) (t := t) bs xs m (A ++ [g]) x (some (.p (.int (A.length : Nat)))) (some (.p (bkP b))) hl'
      refine ⟨f5, f6, ρ', ?_, ho⟩
      have s : exb F stpI [l, h, t, some (.l (iL A ++ .int x :: hL xs m)), some (.p (.int g)), some (.p (.int (A.length : Nat))), some (.p (bkP b))] = .nx [l, h, t, some (.l (iL A ++ .int g :: hL xs m)), some (.p (.int x)), some (.p (.int (A.length : Nat))), some (.p (bkP b))] := by
        simp [stpI, exb, exs, tst, ev, evd, evl, evo, evk, evi, kCall, takeArgs, putBack, chg, has, atK, isL, isOwnL, margs, pures, fz, sto, stoD, L3.Fl.seq, L3.Fl.unlock, L3.Res.fl, L3.Res.bind, slot, L3.T.dat, L3.T.pure, L3.D.flat, qok, isQ, L3.E.quiet, quiets, dats, truth, wargs, walk, L3.lock, L3.unlock, Option.bind_some, Option.map_some, prm, tests, bkP, a1, a2, cmp_is, isNone, e2, c, two_le]
      rw [List.map_cons, enumFrom, forL, hL_cons]
      show (match exb F stpI [l, h, t, some (.l (iL A ++ .int x :: hL xs m)), some (.p (.int g)), some (.p (.int (A.length : Nat))), some (.p (bkP b))] with | .nx ρ2 => _ | .ct ρ2 => _ | .bk ρ2 => _ | f => _) = _
      rw [s]
      simp only [stp, c, if_false]
      rw [show iL (A ++ [g]) ++ hL xs m = iL A ++ .int g :: hL xs m by simp [iL], List.length_append] at e
      simpa using e
/-- what comes out, as a value -/
def outP : Option Int → PyData
  | none => .none
  | some g => .int g
theorem stp_facts : ∀ (bs : List (List PI2)) (xs : List Int) (m : Nat) (g : Int), bs.length = xs.length + m →
    ((stp bs xs g).2 = none ↔ 0 < m) ∧ (stp bs xs g).1.length = xs.length + (if 0 < m then 1 else 0) ∧ ∀ n : Nat, (∀ x ∈ xs, 0 ≤ x ∧ x < (n : Int)) → 0 ≤ g ∧ g < (n : Int) → (∀ x ∈ (stp bs xs g).1, 0 ≤ x ∧ x < (n : Int)) ∧ ∀ g', (stp bs xs g).2 = some g' → 0 ≤ g' ∧ g' < (n : Int)
  | [], xs, m, g, hl => by
    have hl : 0 = xs.length + m := hl
    obtain rfl : m = 0 := by omega
    obtain rfl : xs = [] := List.length_eq_zero_iff.mp (by omega)
    simp [stp]
  | b :: bs, [], m, g, hl => by
    have : 0 < m := by simp at hl; omega
    simp only [stp, this, if_true]
    refine ⟨by simp, by simp, fun n _ hg => ⟨fun x hx => by rw [List.mem_singleton.mp hx]; exact hg, fun g' e => by cases e⟩⟩
  | b :: bs, x :: xs, m, g, hl => by
    have hl' : bs.length = xs.length + m := by simp at hl; omega
    by_cases c : (g, x) ∈ b
    · obtain ⟨h1, h2, h3⟩ := stp_facts bs xs m g hl'
      simp only [stp, c, if_true]
      refine ⟨h1, by simp only [List.length_cons, h2]; omega, fun n hx hg => ?_⟩
      obtain ⟨k1, k2⟩ := h3 n (fun y hy => hx y (by simp [hy])) hg
      exact ⟨fun y hy => by rcases List.mem_cons.mp hy with rfl | hy; exact hx _ (by simp); exact k1 y hy, k2⟩
    · obtain ⟨h1, h2, h3⟩ := stp_facts bs xs m x hl'
      simp only [stp, c, if_false]
      refine ⟨h1, by simp only [List.length_cons, h2]; omega, fun n hx hg => ?_⟩
      obtain ⟨k1, k2⟩ := h3 n (fun y hy => hx y (by simp [hy])) (hx x (by simp))
      exact ⟨fun y hy => by rcases List.mem_cons.mp hy with rfl | hy; exact hg; exact k1 y hy, k2⟩
def StepF (F : FT) (i : Nat) : Prop := ∀ (bs : List (List PI2)) (xs : List Int) (m : Nat) (g : Int), bs.length = xs.length + m →
  F i [.p (.tuple (bs.map bkP)), .p (.tuple (hL xs m)), .p (.int g)] = .ok (.p (.tuple [.tuple (hL (stp bs xs g).1 (m - 1)), outP (stp bs xs g).2])) [none, none, none]
theorem stp_def {P : List Def} {i : Nat} (h : P[i]? = some stpD) (k : Nat) : StepF (callF P (k + 1)) i := fun bs xs m g hl => by
  obtain ⟨f5, f6, ρ', e, ho⟩ := stp_loop (F := callF P k) (l := some (.p (.tuple (bs.map bkP)))) (h := some (.p (.tuple (hL xs m)))) (t := some (.p (.int g))) bs xs m [] g none none hl
  obtain ⟨q1, q2, _⟩ := stp_facts bs xs m g hl
  generalize hF : callF P k = F at *
  have f1 : exs F (.asgs [.n 3, .n 4] [.bi .list [.pk 1], .v 2]) [some (.p (.tuple (bs.map bkP))), some (.p (.tuple (hL xs m))), some (.p (.int g)), none, none, none, none] = .nx [some (.p (.tuple (bs.map bkP))), some (.p (.tuple (hL xs m))), some (.p (.int g)), some (.l (hL xs m)), some (.p (.int g)), none, none] := by
    simp [exb, exs, tst, ev, evd, evl, evo, evk, evi, kCall, takeArgs, putBack, chg, has, atK, isL, isOwnL, margs, pures, fz, sto, stoD, L3.Fl.seq, L3.Fl.unlock, L3.Res.fl, L3.Res.bind, slot, L3.T.dat, L3.T.pure, L3.D.flat, qok, isQ, L3.E.quiet, quiets, dats, truth, wargs, walk, L3.lock, L3.unlock, Option.bind_some, Option.map_some, prm, tests, list_t]
  have f2 : exs F (.for (.t [.n 5, .n 6]) .enum none [.v 0] stpI) [some (.p (.tuple (bs.map bkP))), some (.p (.tuple (hL xs m))), some (.p (.int g)), some (.l (hL xs m)), some (.p (.int g)), none, none] = forL (.t [.n 5, .n 6]) (exb F stpI) (enumFrom 0 (bs.map bkP)) [some (.p (.tuple (bs.map bkP))), some (.p (.tuple (hL xs m))), some (.p (.int g)), some (.l (hL xs m)), some (.p (.int g)), none, none] :=
    for_ev (ts := [.o (.p (.tuple (bs.map bkP)))]) (by simp [evl, ev, L3.Res.bind, slot, fz, isQ, quiets]) (pw1 (k := .enum) (x := .tuple (bs.map bkP)) rfl)
  have e : forL (.t [.n 5, .n 6]) (exb F stpI) (enumFrom 0 (bs.map bkP)) [some (.p (.tuple (bs.map bkP))), some (.p (.tuple (hL xs m))), some (.p (.int g)), some (.l (hL xs m)), some (.p (.int g)), none, none] = _ := e
  rw [e] at f2
  subst hF
  cases hs : (stp bs xs g).2 with
  | none =>
    rw [hs] at f2
    refine run_rt (ρ' := ρ') h rfl rfl ?_ ho
    show exb _ [_, .for _ _ _ _ stpI, _] [some (.p (.tuple (bs.map bkP))), some (.p (.tuple (hL xs m))), some (.p (.int g)), none, none, none, none] = _
    rw [exb_go f1]
    exact exb_rt f2
  | some g' =>
    rw [hs] at f2
    have m0 : m = 0 := by
      have : ¬ (0 < m) := fun z => by rw [q1.mpr z] at hs; cases hs
      omega
    subst m0
    refine run_rt (ρ' := [some (.p (.tuple (bs.map bkP))), some (.p (.tuple (hL xs 0))), some (.p (.int g)), some (.l (iL (stp bs xs g).1)), some (.p (.int g')), f5, f6]) h rfl rfl ?_ rfl
    show exb _ [_, .for _ _ _ _ stpI, _] [some (.p (.tuple (bs.map bkP))), some (.p (.tuple (hL xs 0))), some (.p (.int g)), none, none, none, none] = _
    rw [exb_go f1, exb_go f2]
    simp [exb, exs, tst, ev, evd, evl, evo, evk, evi, kCall, takeArgs, putBack, chg, has, atK, isL, isOwnL, margs, pures, fz, sto, stoD, L3.Fl.seq, L3.Fl.unlock, L3.Res.fl, L3.Res.bind, slot, L3.T.dat, L3.T.pure, L3.D.flat, qok, isQ, L3.E.quiet, quiets, dats, truth, wargs, walk, L3.lock, L3.unlock, Option.bind_some, Option.map_some, prm, tests, tuple_l, two_le, hL, outP]
end L3

set_option maxHeartbeats 2000000
/-! Books that are drawn and closed by a dict. -/
namespace L3
open PySem
/-! ### pairs as keys -/
def kvT (es : List PI2) : List (NestedKey × PyData) := es.map fun p => (pairK p, PyData.bool true)
theorem pairK_inj {p q : PI2} (h : pairK p = pairK q) : p = q := by
  simp only [pairK, NestedKey.tup.injEq, List.cons.injEq, NestedKey.num.injEq, and_true] at h
  exact Prod.ext h.1 h.2
theorem tk_pr (x y : Int) : tkOf (.tuple [.int x, .int y]) = some (pairK (x, y)) := by
  simp [tkOf, nksOf, nkOf, pairK, NestedKey.depth, NestedKey.depthAll]
theorem tGet_T (p : PI2) : ∀ es : List PI2, (tGet (pairK p) (kvT es)).isSome = decide (p ∈ es)
  | [] => by simp [kvT, tGet]
  | q :: es => by
    have ih := tGet_T p es
    simp only [kvT] at ih
    simp only [kvT, List.map_cons, tGet]
    by_cases e : q = p
    · subst e; simp
    · have e' : ¬ pairK q = pairK p := fun z => e (pairK_inj z)
      rw [if_neg e', ih]
      simp [Ne.symm e]
def addP (es : List PI2) (p : PI2) : List PI2 := if p ∈ es then es else es ++ [p]
theorem tPut_T (p : PI2) : ∀ es : List PI2, tPut (pairK p) (PyData.bool true) (kvT es) = kvT (addP es p)
  | [] => by simp [kvT, tPut, addP]
  | q :: es => by
    have ih := tPut_T p es
    simp only [kvT] at ih
    simp only [kvT, List.map_cons, tPut]
    by_cases e : q = p
    · subst e; simp [addP]
    · have e' : ¬ pairK q = pairK p := fun z => e (pairK_inj z)
      rw [if_neg e', ih]
      simp only [addP, List.mem_cons, Ne.symm e, false_or]
      by_cases m : p ∈ es <;> simp [m]
theorem prK_T : ∀ es : List PI2, prKeys (kvT es) = some es
  | [] => rfl
  | q :: es => by
    have ih := prK_T es
    simp only [kvT] at ih
    simp only [kvT, List.map_cons, pairK, prKeys]
    simp only [pairK] at ih
    rw [ih]; rfl
def prT (p : PI2) : PyData := .tuple [pP p, .bool true]
theorem kvs_T : ∀ ps : List PI2, kvsOf (ps.map prT) = some (ps.map fun p => (pairK p, PyData.bool true))
  | [] => rfl
  | p :: ps => by rw [List.map_cons, prT, kvsOf, pP, tk_pr, kvs_T ps]; rfl
theorem tAll_T : ∀ (ps es : List PI2), (ps.map fun p => (pairK p, PyData.bool true)).foldl (fun acc p => tPut p.1 p.2 acc) (kvT es) = kvT (ps.foldl addP es)
  | [], es => rfl
  | p :: ps, es => by rw [List.map_cons, List.foldl_cons, List.foldl_cons, tPut_T, tAll_T ps]
theorem tdict_T (ps : List PI2) : bi .tdict [.list (ps.map prT)] = some (.t (kvT (ps.foldl addP []))) := by
  simp only [bi, kvs_T, Option.map_some, tAll]
  rw [show ([] : List (NestedKey × PyData)) = kvT [] from rfl, tAll_T]
theorem mem_addP {es : List PI2} {p q : PI2} : q ∈ addP es p ↔ q ∈ es ∨ q = p := by
  unfold addP
  split
  · rename_i h
    exact ⟨.inl, fun z => z.elim id fun e => e ▸ h⟩
  · simp
theorem mem_addAll {q : PI2} : ∀ {ps es : List PI2}, q ∈ ps.foldl addP es ↔ q ∈ es ∨ q ∈ ps
  | [], es => by simp
  | p :: ps, es => by
    rw [List.foldl_cons, mem_addAll, mem_addP, List.mem_cons]
    exact ⟨fun h => by rcases h with (h | h) | h <;> simp [h], fun h => by rcases h with h | h | h <;> simp [h]⟩
theorem nd_addP {es : List PI2} {p : PI2} (h : es.Nodup) : (addP es p).Nodup := by
  unfold addP
  split
  · exact h
  · rename_i c
    rw [List.nodup_append]
    exact ⟨h, by simp, fun x hx y hy e => by rw [List.mem_singleton] at hy; subst hy; subst e; exact c hx⟩
theorem nd_addAll : ∀ {ps es : List PI2}, es.Nodup → (ps.foldl addP es).Nodup
  | [], _, h => h
  | p :: ps, es, h => nd_addAll (ps := ps) (nd_addP h)
/-- pairs, each once, of kinds of n -/
structure Rl (n : Nat) (es : List PI2) : Prop where
  nd : es.Nodup
  inn : InN n es
theorem Rl.len {n : Nat} {es : List PI2} (h : Rl n es) (hn : n ≤ 8) : es.length ≤ 64 := by
  have h1 : (es.map fun p : PI2 => p.1 * 8 + p.2).Nodup := by
    rw [List.Nodup, List.pairwise_map]
    refine List.Pairwise.imp_of_mem (fun {p q} hp hq ne e => ne ?_) h.nd
    have a := h.inn p hp
    have b := h.inn q hq
    exact Prod.ext (by omega) (by omega)
  have := few_below 64 _ h1 fun k hk => by
    obtain ⟨p, hp, rfl⟩ := List.mem_map.mp hk
    have a := h.inn p hp
    omega
  simpa using this
theorem Rl.add {n : Nat} {es : List PI2} {p : PI2} (h : Rl n es) (hp : (0 ≤ p.1 ∧ p.1 < n) ∧ 0 ≤ p.2 ∧ p.2 < n) : Rl n (addP es p) :=
  ⟨nd_addP h.nd, fun q hq => (mem_addP.mp hq).elim (h.inn q) fun e => e ▸ hp⟩
theorem Rl.all {n : Nat} {ps : List PI2} : ∀ {es : List PI2}, Rl n es → InN n ps → Rl n (ps.foldl addP es) := fun {es} h hp =>
  ⟨nd_addAll h.nd, fun q hq => (mem_addAll.mp hq).elim (h.inn q) (hp q)⟩
/-- closed as to those that are done -/
def Cw (es : List PI2) (D : Int → Prop) : Prop := ∀ w, D w → ∀ a b, (a, w) ∈ es → (w, b) ∈ es → (a, b) ∈ es
theorem cw_step {es es' : List PI2} {y : Int} {D : Int → Prop} (h : Cw es D) (e : ∀ a b, (a, b) ∈ es' ↔ (a, b) ∈ es ∨ ((a, y) ∈ es ∧ (y, b) ∈ es)) : Cw es' fun w => D w ∨ w = y := by
  intro w hw a b h1 h2
  rw [e] at h1 h2 ⊢
  rcases hw with hw | rfl
  · rcases h1 with h1 | ⟨h1, h3⟩ <;> rcases h2 with h2 | ⟨h2, h4⟩
    · exact .inl (h w hw a b h1 h2)
    · exact .inr ⟨h w hw a y h1 h2, h4⟩
    · exact .inr ⟨h1, h w hw y b h3 h2⟩
    · exact .inr ⟨h1, h4⟩
  · rcases h1 with h1 | ⟨h1, _⟩ <;> rcases h2 with h2 | ⟨_, h2⟩ <;> exact .inr ⟨h1, h2⟩
/-! ### the closing -/
def shutX : List S := [.for (.n 7) .seq none [.v 4] [.asg (.ix 2 [] (.tup [.v 6, .v 7])) (.c (.bool true))]]
def shutL : List S := [.asg (.n 4) (.lc [7] (.n 7) .rng1 none [.v 0] [.kin true 2 (.tup [.v 3, .v 7])] (.v 7)), .asg (.n 5) (.ife (.cmp .ne (.pk 4) (.lst [])) (.lc [6] (.n 6) .rng1 none [.v 0] [.kin true 2 (.tup [.v 6, .v 3])] (.v 6)) (.lst [])), .for (.n 6) .seq none [.v 5] shutX]
def shutB : List S := [
  .asg (.n 2) (.bi .tdict [.lc [8] (.n 8) .seq none [.v 1] [] (.tup [.v 8, .c (.bool true)])]),
  .for (.n 3) .rng1 none [.v 0] shutL,
  .ret (.mv 2)]
def shutD : Def := ⟨2, 9, [], shutB⟩
theorem setT {es : List PI2} {x y : Int} (h : es.length < 1000000) : setAt (.t (kvT es)) (.tuple [.int x, .int y]) (.p (.bool true)) = some (.t (kvT (addP es (x, y)))) := by
  have : (kvT es).length < 1000000 := by simpa [kvT] using h
  simp only [setAt, tk_pr, Option.bind_some, this, if_true, tPut_T]
theorem kin_T {i : Nat} {es : List PI2} {x y : Int} {ρ : Env} (h : slot ρ i = some (.t (kvT es))) : kinR true i (.o (.p (.tuple [.int x, .int y]))) ρ = .ok (.o (.p (.bool (decide ((x, y) ∈ es))))) ρ := by
  have : (tGet (pairK (x, y)) (kvT es)).isSome = decide ((x, y) ∈ es) := tGet_T (x, y) es
  simp only [kinR, L3.T.pure, tk_pr, h, this, beq_true]
/-- a list of one's own, or shared -/
def Lst (d : L3.D) (xs : List PyData) : Prop := d = .l xs ∨ d = .p (.list xs)
theorem ev_vL {F : FT} {i : Nat} {d : L3.D} {xs : List PyData} {ρ : Env} (h : Lst d xs) (hs : slot ρ i = some d) : ev F (.v i) ρ = .ok (.o (.p (.list xs))) (ρ.set i (some (.p (.list xs)))) := by
  rcases h with rfl | rfl <;> simp [ev, hs, fz]
theorem evl_o {F : FT} {e : E} {ρ ρ1 : Env} {d : L3.D} (h : ev F e ρ = .ok (.o d) ρ1) : evl F [e] ρ = .ok [.o d] ρ1 := by
  rw [evl, h]; simp [L3.Res.bind, evl, isQ]
abbrev iN (k : Nat) : PyData := .int (k : Int)
theorem shut_in {n : Nat} {F : FT} {s0 s1 e3 e5 e8 : Option L3.D} {x : Int} {B : List Nat} (hx : 0 ≤ x ∧ x < n) (hn : n ≤ 8) (hB : ∀ z ∈ B, z < n) {es : List PI2} (hr : Rl n es) {d4 : L3.D} (h4 : Lst d4 (B.map iN)) {e7 : Option L3.D} :
    ∃ d4' e7', Lst d4' (B.map iN) ∧ exb F shutX [s0, s1, some (.t (kvT es)), e3, some d4, e5, some (.p (.int x)), e7, e8] = .nx [s0, s1, some (.t (kvT ((B.map fun (z : Nat) => (x, (z : Int))).foldl addP es))), e3, some d4', e5, some (.p (.int x)), e7', e8] := by
  have e1 : evl F [.v 4] [s0, s1, some (.t (kvT es)), e3, some d4, e5, some (.p (.int x)), e7, e8] = .ok [.o (.p (.list (B.map iN)))] [s0, s1, some (.t (kvT es)), e3, some (.p (.list (B.map iN))), e5, some (.p (.int x)), e7, e8] := by
    have := ev_vL (F := F) (i := 4) (ρ := [s0, s1, some (.t (kvT es)), e3, some d4, e5, some (.p (.int x)), e7, e8]) h4 rfl
    exact evl_o this
  obtain ⟨ρ2, g1, g2⟩ := forL_go (inj := iN) (tg := .n 7) (body := exb F [.asg (.ix 2 [] (.tup [.v 6, .v 7])) (.c (.bool true))])
    (fun rest ρ => ∃ es' e7', ρ = [s0, s1, some (.t (kvT es')), e3, some (.p (.list (B.map iN))), e5, some (.p (.int x)), e7', e8] ∧ Rl n es' ∧ (rest.map fun (z : Nat) => (x, (z : Int))).foldl addP es' = (B.map fun (z : Nat) => (x, (z : Int))).foldl addP es)
    B [s0, s1, some (.t (kvT es)), e3, some (.p (.list (B.map iN))), e5, some (.p (.int x)), e7, e8] ⟨es, e7, rfl, hr, rfl⟩ (by
      rintro z r ρ ⟨l, el⟩ ⟨es', e7', rfl, hr', hf⟩
      have hz := hB z (by rw [el]; simp)
      refine ⟨_, rfl, ?_⟩
      have st := setT (x := x) (y := (z : Int)) (Nat.lt_of_le_of_lt (hr'.len hn) (by decide : 64 < 1000000))
      have e : exb F [.asg (.ix 2 [] (.tup [.v 6, .v 7])) (.c (.bool true))] [s0, s1, some (.t (kvT es')), e3, some (.p (.list (B.map iN))), e5, some (.p (.int x)), some (.p (iN z)), e8] = .nx [s0, s1, some (.t (kvT (addP es' (x, (z : Int))))), e3, some (.p (.list (B.map iN))), e5, some (.p (.int x)), some (.p (iN z)), e8] := by
        generalize kvT es' = k1 at *
        generalize kvT (addP es' (x, (z : Int))) = k2 at *
        simp [exb, exs, tst, ev, evd, evl, evo, evk, evi, kCall, takeArgs, putBack, chg, has, atK, isL, isOwnL, margs, pures, fz, sto, stoD, L3.Fl.seq, L3.Fl.unlock, L3.Res.fl, L3.Res.bind, slot, L3.T.dat, L3.T.pure, L3.D.flat, qok, isQ, L3.E.quiet, quiets, dats, truth, wargs, walk, L3.lock, L3.unlock, Option.bind_some, Option.map_some, prm, tests, st, two_le]
      show Go _ (exb F _ [s0, s1, some (.t (kvT es')), e3, some (.p (.list (B.map iN))), e5, some (.p (.int x)), some (.p (iN z)), e8])
      rw [e]
      refine ⟨_, _, rfl, hr'.add ⟨hx, by simp, by simpa using hz⟩, ?_⟩
      rw [List.map_cons, List.foldl_cons] at hf
      exact hf)
  obtain ⟨es', e7', rfl, _, hf⟩ := g2
  refine ⟨.p (.list (B.map iN)), e7', .inr rfl, ?_⟩
  have hf : es' = _ := hf
  rw [hf] at g1
  rw [shutX, exb, for_ev e1 rfl, g1]
  rfl
/-- one that is closed over, by place -/
def behN (n : Nat) (es : List PI2) (y : Int) : List Nat := (List.range n).filter fun z => decide ((y, (z : Int)) ∈ es)
def befN (n : Nat) (es : List PI2) (y : Int) : List Nat := (List.range n).filter fun x => decide (((x : Int), y) ∈ es)
theorem shut_step {nn : Int} {F : FT} {s1 : Option L3.D} {y : Nat} (h0 : 0 ≤ nn) (hn : nn ≤ 8) {es : List PI2} (hr : Rl nn.toNat es) {e4 e5 e6 e7 e8 : Option L3.D} :
    ∃ es' f4 f5 f6 f7, exb F shutL [some (.p (.int nn)), s1, some (.t (kvT es)), some (.p (iN y)), e4, e5, e6, e7, e8] = .nx [some (.p (.int nn)), s1, some (.t (kvT es')), some (.p (iN y)), f4, f5, f6, f7, e8] ∧
      Rl nn.toNat es' ∧ ∀ a b, (a, b) ∈ es' ↔ (a, b) ∈ es ∨ ((a, (y : Int)) ∈ es ∧ ((y : Int), b) ∈ es) := by
  have hw := pw_rng h0 (show nn < 1000000 by omega)
  have ev0 : ∀ {e4 e5 e6 e7 : Option L3.D}, evl F [.v 0] [some (.p (.int nn)), s1, some (.t (kvT es)), some (.p (iN y)), e4, e5, e6, e7, e8] = .ok [.o (.p (.int nn))] [some (.p (.int nn)), s1, some (.t (kvT es)), some (.p (iN y)), e4, e5, e6, e7, e8] := by
    intros; simp [exb, exs, tst, ev, evd, evl, evo, evk, evi, kCall, takeArgs, putBack, chg, has, atK, isL, isOwnL, margs, pures, fz, sto, stoD, L3.Fl.seq, L3.Fl.unlock, L3.Res.fl, L3.Res.bind, slot, L3.T.dat, L3.T.pure, L3.D.flat, qok, isQ, L3.E.quiet, quiets, dats, truth, wargs, walk, L3.lock, L3.unlock, Option.bind_some, Option.map_some, prm, tests]
  have hlen : (List.range nn.toNat).length < 16777216 := by rw [List.length_range]; omega
  -- behind
  obtain ⟨ρ2, c2, g2⟩ := comp_evW (α := Nat) iN (fun z => decide (((y : Int), (z : Int)) ∈ es)) iN (List.range nn.toNat) (fun z => [some (.p (.int nn)), s1, some (.t (kvT es)), some (.p (iN y)), e4, e5, e6, some (.p (iN z)), e8]) (own := [7]) (tg := .n 7) (cond := [.kin true 2 (.tup [.v 3, .v 7])]) (elt := .v 7) (F := F)
    (ρ := [some (.p (.int nn)), s1, some (.t (kvT es)), some (.p (iN y)), e4, e5, e6, e7, e8]) ev0 hw rfl hlen (fun z hz => ⟨rfl, rfl, by
      have := kin_T (i := 2) (es := es) (x := (y : Int)) (y := (z : Int)) (ρ := [some (.p (.int nn)), s1, some (.t (kvT es)), some (.p (iN y)), e4, e5, e6, some (.p (iN z)), e8]) rfl
      generalize kvT es = k1 at *
      simp [exb, exs, tst, ev, evd, evl, evo, evk, evi, kCall, takeArgs, putBack, chg, has, atK, isL, isOwnL, margs, pures, fz, sto, stoD, L3.Fl.seq, L3.Fl.unlock, L3.Res.fl, L3.Res.bind, slot, L3.T.dat, L3.T.pure, L3.D.flat, qok, isQ, L3.E.quiet, quiets, dats, truth, wargs, walk, L3.lock, L3.unlock, Option.bind_some, Option.map_some, prm, tests, two_le, this], fun _ => by simp [exb, exs, tst, ev, evd, evl, evo, evk, evi, kCall, takeArgs, putBack, chg, has, atK, isL, isOwnL, margs, pures, fz, sto, stoD, L3.Fl.seq, L3.Fl.unlock, L3.Res.fl, L3.Res.bind, slot, L3.T.dat, L3.T.pure, L3.D.flat, qok, isQ, L3.E.quiet, quiets, dats, truth, wargs, walk, L3.lock, L3.unlock, Option.bind_some, Option.map_some, prm, tests]⟩)
  obtain ⟨f7, hf7⟩ : ∃ f7, ρ2 = [some (.p (.int nn)), s1, some (.t (kvT es)), some (.p (iN y)), e4, e5, e6, f7, e8] := by
    rcases c2 with rfl | rfl
    · exact ⟨_, rfl⟩
    · exact ⟨_, rfl⟩
  subst hf7
  have a1 := asg_go (i := 4) g2
  rw [show (List.map iN (List.filter (fun (z : Nat) => decide (((y : Int), (z : Int)) ∈ es)) (List.range nn.toNat))) = (behN nn.toNat es y).map iN from rfl] at a1
  simp only [List.set_cons_succ, List.set_cons_zero] at a1
  -- before
  have hB : ∀ z ∈ behN nn.toNat es y, z < nn.toNat := fun z hz => List.mem_range.mp (List.mem_filter.mp hz).1
  have ne := neNil ((behN nn.toNat es y).map iN) (fun x hx => by obtain ⟨z, _, rfl⟩ := List.mem_map.mp hx; exact Sh.int)
  obtain ⟨A, f6, hA, a2⟩ : ∃ (A : List Nat) (f6 : Option L3.D), (behN nn.toNat es y ≠ [] → A = befN nn.toNat es y) ∧ (behN nn.toNat es y = [] → A = []) ∧
      exs F (.asg (.n 5) (.ife (.cmp .ne (.pk 4) (.lst [])) (.lc [6] (.n 6) .rng1 none [.v 0] [.kin true 2 (.tup [.v 6, .v 3])] (.v 6)) (.lst []))) [some (.p (.int nn)), s1, some (.t (kvT es)), some (.p (iN y)), some (.l ((behN nn.toNat es y).map iN)), e5, e6, f7, e8] =
        .nx [some (.p (.int nn)), s1, some (.t (kvT es)), some (.p (iN y)), some (.l ((behN nn.toNat es y).map iN)), some (.l (A.map iN)), f6, f7, e8] := by
    generalize behN nn.toNat es y = B at *
    have tt : tst F (.cmp .ne (.pk 4) (.lst [])) [some (.p (.int nn)), s1, some (.t (kvT es)), some (.p (iN y)), some (.l (B.map iN)), e5, e6, f7, e8] = .ok (!(B.map iN).isEmpty) [some (.p (.int nn)), s1, some (.t (kvT es)), some (.p (iN y)), some (.l (B.map iN)), e5, e6, f7, e8] := by
      generalize B.map iN = BB at *
      generalize kvT es = k1 at *
      simp [exb, exs, tst, ev, evd, evl, evo, evk, evi, kCall, takeArgs, putBack, chg, has, atK, isL, isOwnL, margs, pures, fz, sto, stoD, L3.Fl.seq, L3.Fl.unlock, L3.Res.fl, L3.Res.bind, slot, L3.T.dat, L3.T.pure, L3.D.flat, qok, isQ, L3.E.quiet, quiets, dats, truth, wargs, walk, L3.lock, L3.unlock, Option.bind_some, Option.map_some, prm, tests, ne]
    cases hBB : B with
    | nil =>
      refine ⟨[], e6, fun z => absurd rfl z, fun _ => rfl, ?_⟩
      rw [hBB] at tt
      refine asg_go (i := 5) (ρ1 := [some (.p (.int nn)), s1, some (.t (kvT es)), some (.p (iN y)), some (.l []), e5, e6, f7, e8]) ?_
      rw [ev, tt]
      simp [exb, exs, tst, ev, evd, evl, evo, evk, evi, kCall, takeArgs, putBack, chg, has, atK, isL, isOwnL, margs, pures, fz, sto, stoD, L3.Fl.seq, L3.Fl.unlock, L3.Res.fl, L3.Res.bind, slot, L3.T.dat, L3.T.pure, L3.D.flat, qok, isQ, L3.E.quiet, quiets, dats, truth, wargs, walk, L3.lock, L3.unlock, Option.bind_some, Option.map_some, prm, tests]
    | cons b B' =>
      rw [hBB] at tt
      obtain ⟨ρ3, c3, g3⟩ := comp_evW (α := Nat) iN (fun z => decide (((z : Int), (y : Int)) ∈ es)) iN (List.range nn.toNat) (fun z => [some (.p (.int nn)), s1, some (.t (kvT es)), some (.p (iN y)), some (.l ((b :: B').map iN)), e5, some (.p (iN z)), f7, e8]) (own := [6]) (tg := .n 6) (cond := [.kin true 2 (.tup [.v 6, .v 3])]) (elt := .v 6) (F := F)
        (ρ := [some (.p (.int nn)), s1, some (.t (kvT es)), some (.p (iN y)), some (.l ((b :: B').map iN)), e5, e6, f7, e8]) ev0 hw rfl hlen (fun z hz => ⟨rfl, rfl, by
          have := kin_T (i := 2) (es := es) (x := (z : Int)) (y := (y : Int)) (ρ := [some (.p (.int nn)), s1, some (.t (kvT es)), some (.p (iN y)), some (.l ((b :: B').map iN)), e5, some (.p (iN z)), f7, e8]) rfl
          generalize kvT es = k1 at *
          generalize (b :: B').map iN = BB at *
          simp [exb, exs, tst, ev, evd, evl, evo, evk, evi, kCall, takeArgs, putBack, chg, has, atK, isL, isOwnL, margs, pures, fz, sto, stoD, L3.Fl.seq, L3.Fl.unlock, L3.Res.fl, L3.Res.bind, slot, L3.T.dat, L3.T.pure, L3.D.flat, qok, isQ, L3.E.quiet, quiets, dats, truth, wargs, walk, L3.lock, L3.unlock, Option.bind_some, Option.map_some, prm, tests, two_le, this], fun _ => by simp [exb, exs, tst, ev, evd, evl, evo, evk, evi, kCall, takeArgs, putBack, chg, has, atK, isL, isOwnL, margs, pures, fz, sto, stoD, L3.Fl.seq, L3.Fl.unlock, L3.Res.fl, L3.Res.bind, slot, L3.T.dat, L3.T.pure, L3.D.flat, qok, isQ, L3.E.quiet, quiets, dats, truth, wargs, walk, L3.lock, L3.unlock, Option.bind_some, Option.map_some, prm, tests]⟩)
      obtain ⟨f6, hf6⟩ : ∃ f6, ρ3 = [some (.p (.int nn)), s1, some (.t (kvT es)), some (.p (iN y)), some (.l ((b :: B').map iN)), e5, f6, f7, e8] := by
        rcases c3 with rfl | rfl
        · exact ⟨_, rfl⟩
        · exact ⟨_, rfl⟩
      subst hf6
      refine ⟨befN nn.toNat es y, f6, fun _ => rfl, fun z => (List.cons_ne_nil _ _ z).elim, ?_⟩
      refine asg_go (i := 5) (ρ1 := [some (.p (.int nn)), s1, some (.t (kvT es)), some (.p (iN y)), some (.l ((b :: B').map iN)), e5, f6, f7, e8]) ?_
      rw [ev, tt]
      exact g3
  obtain ⟨hA1, a2⟩ := a2
  have hA' : ∀ x ∈ A, x < nn.toNat := fun x hx => by
    by_cases c : behN nn.toNat es y = []
    · rw [hA1 c] at hx; exact nomatch hx
    · rw [hA c] at hx; exact List.mem_range.mp (List.mem_filter.mp hx).1
  -- the pairs
  obtain ⟨ρ4, g4, h4⟩ := forL_go (inj := iN) (tg := .n 6) (body := exb F shutX)
    (fun rest ρ => ∃ es' d4 e6' e7', ρ = [some (.p (.int nn)), s1, some (.t (kvT es')), some (.p (iN y)), some d4, some (.p (.list (A.map iN))), e6', e7', e8] ∧ Lst d4 ((behN nn.toNat es y).map iN) ∧ Rl nn.toNat es' ∧
      (rest.flatMap fun (x : Nat) => (behN nn.toNat es y).map fun (z : Nat) => ((x : Int), (z : Int))).foldl addP es' = (A.flatMap fun (x : Nat) => (behN nn.toNat es y).map fun (z : Nat) => ((x : Int), (z : Int))).foldl addP es)
    A [some (.p (.int nn)), s1, some (.t (kvT es)), some (.p (iN y)), some (.l ((behN nn.toNat es y).map iN)), some (.p (.list (A.map iN))), f6, f7, e8] ⟨es, _, f6, f7, rfl, .inl rfl, hr, rfl⟩ (by
      rintro x r ρ ⟨l, el⟩ ⟨es', d4, e6', e7', rfl, hd4, hr', hf⟩
      have hx := hA' x (by rw [el]; simp)
      obtain ⟨d4', e7'', hd, he⟩ := shut_in (F := F) (n := nn.toNat) (s0 := some (.p (.int nn))) (s1 := s1) (e3 := some (.p (iN y))) (e5 := some (.p (.list (A.map iN)))) (e8 := e8) (x := (x : Int)) (B := behN nn.toNat es y) (by omega) (by omega) hB hr' hd4 (e7 := e7')
      refine ⟨_, rfl, ?_⟩
      show Go _ (exb F shutX [some (.p (.int nn)), s1, some (.t (kvT es')), some (.p (iN y)), some d4, some (.p (.list (A.map iN))), some (.p (.int (x : Int))), e7', e8])
      rw [he]
      refine ⟨_, _, _, _, rfl, hd, hr'.all fun p hp => ?_, ?_⟩
      · obtain ⟨z, hz, rfl⟩ := List.mem_map.mp hp
        have := hB z hz
        exact ⟨by simp only; omega, by simp only; omega⟩
      · rw [List.flatMap_cons, List.foldl_append] at hf
        exact hf)
  obtain ⟨es', d4, e6', e7', rfl, hd4, hr', hf⟩ := h4
  have hf : es' = _ := hf
  refine ⟨es', some d4, some (.p (.list (A.map iN))), e6', e7', ?_, hr', fun a b => ?_⟩
  · have e1 : evl F [.v 5] [some (.p (.int nn)), s1, some (.t (kvT es)), some (.p (iN y)), some (.l ((behN nn.toNat es y).map iN)), some (.l (A.map iN)), f6, f7, e8] = .ok [.o (.p (.list (A.map iN)))] [some (.p (.int nn)), s1, some (.t (kvT es)), some (.p (iN y)), some (.l ((behN nn.toNat es y).map iN)), some (.p (.list (A.map iN))), f6, f7, e8] := by
      have := ev_vL (F := F) (i := 5) (d := .l (A.map iN)) (xs := A.map iN) (ρ := [some (.p (.int nn)), s1, some (.t (kvT es)), some (.p (iN y)), some (.l ((behN nn.toNat es y).map iN)), some (.l (A.map iN)), f6, f7, e8]) (.inl rfl) rfl
      exact evl_o this
    rw [shutL, exb_go a1, exb_go a2, exb, for_ev e1 rfl, g4]
    rfl
  · rw [hf, mem_addAll]
    refine or_congr Iff.rfl ?_
    simp only [List.mem_flatMap, List.mem_map, Prod.mk.injEq]
    constructor
    · rintro ⟨x, hx, z, hz, rfl, rfl⟩
      have c : behN nn.toNat es y ≠ [] := List.ne_nil_of_mem hz
      rw [hA c] at hx
      exact ⟨by simpa [befN] using (List.mem_filter.mp hx).2, by simpa [behN] using (List.mem_filter.mp hz).2⟩
    · rintro ⟨h1, h2⟩
      have i1 := hr.inn _ h1
      have i2 := hr.inn _ h2
      simp only at i1 i2
      have hz : b.toNat ∈ behN nn.toNat es y := List.mem_filter.mpr ⟨List.mem_range.mpr (by omega), by rw [decide_eq_true_eq, show ((b.toNat : Nat) : Int) = b by omega]; exact h2⟩
      refine ⟨a.toNat, ?_, b.toNat, hz, by omega, by omega⟩
      rw [hA (List.ne_nil_of_mem hz)]
      exact List.mem_filter.mpr ⟨List.mem_range.mpr (by omega), by rw [decide_eq_true_eq, show ((a.toNat : Nat) : Int) = a by omega]; exact h1⟩
/-- closed: goes on from pair to pair -/
def Tr (es : List PI2) : Prop := ∀ a b c, (a, b) ∈ es → (b, c) ∈ es → (a, c) ∈ es
theorem shut_def {P : List Def} {i : Nat} (h : P[i]? = some shutD) (m : Nat) {nn : Int} (h0 : 0 ≤ nn) (hn : nn ≤ 8) {ps : List PI2} (hp : InN nn.toNat ps) (hl : ps.length < 1000) :
    ∃ es, callF P (m + 1) i [.p (.int nn), .p (.list (bL ps))] = .ok (.t (kvT es)) [none, none] ∧ Rl nn.toNat es ∧ Tr es ∧ (∀ p ∈ ps, p ∈ es) := by
  have hw := pw_rng h0 (show nn < 1000000 by omega)
  rw [callF_fr (d := shutD) h rfl]
  generalize callF P m = F
  show ∃ es, toFR 2 [] (exb F shutB [some (.p (.int nn)), some (.p (.list (bL ps))), none, none, none, none, none, none, none]) = _ ∧ _
  have g1 := comp_evA (α := PI2) pP prT ps (fun p => [some (.p (.int nn)), some (.p (.list (bL ps))), none, none, none, none, none, none, some (.p (pP p))]) (own := [8]) (tg := .n 8) (k := .seq) (its := [.v 1]) (elt := .tup [.v 8, .c (.bool true)]) (F := F)
    (ρ := [some (.p (.int nn)), some (.p (.list (bL ps))), none, none, none, none, none, none, none]) (evl_o (ev_vL (i := 1) (d := .p (.list (bL ps))) (.inr rfl) rfl)) rfl rfl (by omega) (fun p hp => ⟨rfl, rfl, by
      have e : prT p = .tuple [pP p, .bool true] := rfl
      rw [e]
      generalize pP p = q
      simp [exb, exs, tst, ev, evd, evl, evo, evk, evi, kCall, takeArgs, putBack, chg, has, atK, isL, isOwnL, margs, pures, fz, sto, stoD, L3.Fl.seq, L3.Fl.unlock, L3.Res.fl, L3.Res.bind, slot, L3.T.dat, L3.T.pure, L3.D.flat, qok, isQ, L3.E.quiet, quiets, dats, truth, wargs, walk, L3.lock, L3.unlock, Option.bind_some, Option.map_some, prm, tests, two_le]⟩)
  simp only [List.set_cons_succ, List.set_cons_zero] at g1
  have td := tdict_T ps
  have a1 : exs F (.asg (.n 2) (.bi .tdict [.lc [8] (.n 8) .seq none [.v 1] [] (.tup [.v 8, .c (.bool true)])])) [some (.p (.int nn)), some (.p (.list (bL ps))), none, none, none, none, none, none, none] = .nx [some (.p (.int nn)), some (.p (.list (bL ps))), some (.t (kvT (ps.foldl addP []))), none, none, none, none, none, none] := by
    generalize kvT (ps.foldl addP []) = k1 at *
    generalize ps.map prT = q1 at *
    generalize bL ps = q2 at *
    refine asg_go (i := 2) (ρ1 := [some (.p (.int nn)), some (.p (.list q2)), none, none, none, none, none, none, none]) ?_
    rw [ev, evl_o g1]
    simp only [L3.Res.bind, dats, L3.T.dat, L3.D.flat, Option.bind_some, td]
  have r0 : Rl nn.toNat (ps.foldl addP []) := Rl.all ⟨List.nodup_nil, fun p h => nomatch h⟩ hp
  obtain ⟨ρ2, g2, h2⟩ := forL_go (inj := iN) (tg := .n 3) (body := exb F shutL)
    (fun rest ρ => ∃ es e3 e4 e5 e6 e7, ρ = [some (.p (.int nn)), some (.p (.list (bL ps))), some (.t (kvT es)), e3, e4, e5, e6, e7, none] ∧ Rl nn.toNat es ∧ (∀ p ∈ ps, p ∈ es) ∧ Cw es fun w => ∃ k : Nat, w = k ∧ k < nn.toNat ∧ k ∉ rest)
    (List.range nn.toNat) [some (.p (.int nn)), some (.p (.list (bL ps))), some (.t (kvT (ps.foldl addP []))), none, none, none, none, none, none]
    ⟨_, none, none, none, none, none, rfl, r0, fun p hp => mem_addAll.mpr (.inr hp), fun w ⟨k, _, k1, k2⟩ => absurd (List.mem_range.mpr k1) k2⟩ (by
      rintro y r ρ ⟨l, el⟩ ⟨es, e3, e4, e5, e6, e7, rfl, hr, hs, hc⟩
      obtain ⟨es', f4, f5, f6, f7, g, hr', hm⟩ := shut_step (F := F) (s1 := some (.p (.list (bL ps)))) (y := y) h0 hn hr (e4 := e4) (e5 := e5) (e6 := e6) (e7 := e7) (e8 := none)
      refine ⟨_, rfl, ?_⟩
      show Go _ (exb F shutL [some (.p (.int nn)), some (.p (.list (bL ps))), some (.t (kvT es)), some (.p (iN y)), e4, e5, e6, e7, none])
      rw [g]
      refine ⟨es', _, _, _, _, _, rfl, hr', fun p hp => (hm p.1 p.2).mpr (.inl (hs p hp)), ?_⟩
      have := cw_step hc hm
      intro w hw
      refine this w ?_
      obtain ⟨k, rfl, k1, k2⟩ := hw
      by_cases e : k = y
      · exact .inr (by rw [e])
      · exact .inl ⟨k, rfl, k1, by simp [e, k2]⟩)
  obtain ⟨es, e3, e4, e5, e6, e7, rfl, hr, hs, hc⟩ := h2
  refine ⟨es, ?_, hr, fun a b c h1 h2 => ?_, hs⟩
  · have e0 : evl F [.v 0] [some (.p (.int nn)), some (.p (.list (bL ps))), some (.t (kvT (ps.foldl addP []))), none, none, none, none, none, none] = .ok [.o (.p (.int nn))] [some (.p (.int nn)), some (.p (.list (bL ps))), some (.t (kvT (ps.foldl addP []))), none, none, none, none, none, none] := by
      refine evl_o ?_
      simp [exb, exs, tst, ev, evd, evl, evo, evk, evi, kCall, takeArgs, putBack, chg, has, atK, isL, isOwnL, margs, pures, fz, sto, stoD, L3.Fl.seq, L3.Fl.unlock, L3.Res.fl, L3.Res.bind, slot, L3.T.dat, L3.T.pure, L3.D.flat, qok, isQ, L3.E.quiet, quiets, dats, truth, wargs, walk, L3.lock, L3.unlock, Option.bind_some, Option.map_some, prm, tests]
    have a2 : exs F (.for (.n 3) .rng1 none [.v 0] shutL) [some (.p (.int nn)), some (.p (.list (bL ps))), some (.t (kvT (ps.foldl addP []))), none, none, none, none, none, none] = .nx [some (.p (.int nn)), some (.p (.list (bL ps))), some (.t (kvT es)), e3, e4, e5, e6, e7, none] := by
      rw [for_ev e0 hw]
      exact g2
    have a3 : exs F (.ret (.mv 2)) [some (.p (.int nn)), some (.p (.list (bL ps))), some (.t (kvT es)), e3, e4, e5, e6, e7, none] = .rt (.t (kvT es)) [some (.p (.int nn)), some (.p (.list (bL ps))), none, e3, e4, e5, e6, e7, none] := by
      generalize kvT es = k1
      generalize bL ps = q2
      simp [exb, exs, tst, ev, evd, evl, evo, evk, evi, kCall, takeArgs, putBack, chg, has, atK, isL, isOwnL, margs, pures, fz, sto, stoD, L3.Fl.seq, L3.Fl.unlock, L3.Res.fl, L3.Res.bind, slot, L3.T.dat, L3.T.pure, L3.D.flat, qok, isQ, L3.E.quiet, quiets, dats, truth, wargs, walk, L3.lock, L3.unlock, Option.bind_some, Option.map_some, prm, tests]
    rw [shutB, exb_go a1, exb_go a2, exb_rt a3]
    rfl
  · have hb := (hr.inn _ h1).2
    simp only at hb
    exact hc b ⟨b.toNat, by omega, by omega, by simp⟩ a c h1 h2
end L3

set_option maxHeartbeats 4000000
/-! Books that are drawn from the loom. -/
namespace L3
open PySem
def ltP (p q : PI2) : Prop := p.1 < q.1 ∨ (p.1 = q.1 ∧ p.2 < q.2)
/-- a book of n: ascending, closed -/
structure Bk8 (n : Nat) (b : List PI2) : Prop where
  srt : b.Pairwise ltP
  inn : InN n b
  tr : Tr b
theorem Rl.bk {n : Nat} {es : List PI2} (h : Rl n es) (t : Tr es) : Bk8 n (psort es) := by
  have pm := psort_perm es
  refine ⟨?_, fun p hp => h.inn p (pm.mem_iff.mp hp), fun a b c h1 h2 => pm.mem_iff.mpr (t a b c (pm.mem_iff.mp h1) (pm.mem_iff.mp h2))⟩
  have nd : (psort es).Nodup := pm.nodup_iff.mpr h.nd
  have s := psort_sorted es
  rw [List.Nodup] at nd
  refine (s.and nd).imp fun {p q} ⟨h1, h2⟩ => ?_
  rw [leP_iff] at h1
  rcases h1 with h1 | ⟨h1, h3⟩
  · exact .inl h1
  · refine .inr ⟨h1, ?_⟩
    by_cases e : p.2 = q.2
    · exact absurd (Prod.ext h1 e) h2
    · omega
theorem ltP_irr {p : PI2} (h : ltP p p) : False := by unfold ltP at h; omega
theorem Bk8.rl {n : Nat} {b : List PI2} (h : Bk8 n b) : Rl n b := ⟨by
  rw [List.Nodup]
  exact h.srt.imp fun {p q} k e => by subst e; exact ltP_irr k, h.inn⟩
theorem Bk8.len {n : Nat} {b : List PI2} (h : Bk8 n b) (hn : n ≤ 8) : b.length ≤ 64 := h.rl.len hn
def WovF (L : L3.D → Prop) (F : FT) (i : Nat) : Prop := ∀ (d : L3.D) (nn : Int), L d → 1 ≤ nn → nn ≤ 8 → ∃ bk d', F i [d, .p (.int nn)] = .ok (.p (.tuple (bL bk))) [some d', none] ∧ L d' ∧ Bk8 nn.toNat bk
def wovL (fd : Nat) : List S := [.ifs (.cmp .eq (.pk 3) (.c (.int 0))) [.expr (.mut .extend 5 [] [.lc [11] (.n 11) .seq none [.v 2] [.cmp .lt (.at (.pk 6) (.v 9)) (.at (.pk 6) (.v 11))] (.tup [.v 9, .v 11])])] [.ifs (.cmp .eq (.pk 3) (.c (.int 1))) [.expr (.mut .extend 5 [] [.lc [11] (.n 11) .seq none [.fz (.sl (.pk 2) [.v 7] [])] [.cmp .lt (.pk 8) (.pk 7)] (.tup [.v 9, .v 11])])] [.expr (.mut .extend 5 [] [.lc [11] (.n 11) .seq none [.fz (.sl (.pk 2) [.fz (.bin .add (.pk 8) (.c (.int 1)))] [])] [.cmp .lt (.call fd [.io 0, .c (.int 5)]) (.pk 4)] (.tup [.v 9, .v 11])])]]]
def wovB (fd fm fc : Nat) : List S := [
  .asgs [.n 2, .n 3, .n 4, .n 5] [.call fm [.io 0, .bi .lrange [.pk 1]], .call fd [.io 0, .c (.int 5)], .bin .add (.c (.int 1)) (.call fd [.io 0, .c (.int 4)]), .lst []],
  .asgs [.n 6, .n 7] [.ife (.cmp .eq (.pk 3) (.c (.int 0))) (.lc [10] (.n 10) .rng1 none [.v 1] [] (.fz (.call fd [.io 0, .v 1]))) (.bin .mul (.lst [.c (.int 0)]) (.pk 1)), .call fd [.io 0, .bin .add (.pk 1) (.c (.int 1))]],
  .for (.t [.n 8, .n 9]) .enum none [.v 2] (wovL fd),
  .ret (.bi .tuple [.kso (.call fc [.v 1, .v 5])])]
def wovD (fd fm fc : Nat) : Def := ⟨2, 12, [0], wovB fd fm fc⟩
/-- all of n -/
def InK (n : Nat) (xs : List Int) : Prop := ∀ x ∈ xs, 0 ≤ x ∧ x < n
theorem InK.pairs {n : Nat} {xs : List Int} (h : InK n xs) {x : Int} (hx : 0 ≤ x ∧ x < n) (p : Int → Bool) : InN n ((xs.filter p).map fun h => (x, h)) := fun q hq => by
  obtain ⟨y, hy, rfl⟩ := List.mem_map.mp hq
  exact ⟨hx, h y (List.mem_filter.mp hy).1⟩
section
variable {L : L3.D → Prop} {F : FT} {fd : Nat} {nn way chance ct : Int} {O lv : List Int}
def wE (d : L3.D) (nn way chance ct : Int) (O lv : List Int) (ps : List PI2) (e8 e9 e11 : Option L3.D) : Env := [some d, some (.p (.int nn)), some (.p (.list (iL O))), some (.p (.int way)), some (.p (.int chance)), some (.l (bL ps)), some (.l (iL lv)), some (.p (.int ct)), e8, e9, none, e11]
theorem at_lI {xs : List Int} {x : Int} (h : 0 ≤ x ∧ x < xs.length) : atD (.list (iL xs)) (.int x) = some (.int (xs.getD x.toNat 0)) := by
  have := at_lL (xs := xs) (p := x.toNat) (by omega)
  rwa [show ((x.toNat : Nat) : Int) = x by omega] at this
theorem bL_map {xs : List Int} {x : Int} (p : Int → Bool) : (xs.filter p).map (fun h => PyData.tuple [.int x, .int h]) = bL ((xs.filter p).map fun h => (x, h)) := by simp [bL, pP]
theorem wov_step (hd : DrawF L F fd) {N : Nat} (hO : InK N O) (lO : O.length = N) (hN : N ≤ 8) (ll : lv.length = N) (hc : 0 ≤ ct) {d : L3.D} (hL : L d) {ps : List PI2} (hp : InN N ps) (lp : ps.length ≤ 1000) {x : Int} (hx : x ∈ O) {k : Nat} :
    ∃ d' ps', exb F (wovL fd) (wE d nn way chance ct O lv ps (some (.p (.int k))) (some (.p (.int x))) none) = .nx (wE d' nn way chance ct O lv (ps ++ ps') (some (.p (.int k))) (some (.p (.int x))) none) ∧ L d' ∧ InN N ps' ∧ ps'.length ≤ 8 := by
  have hx' := hO x hx
  by_cases w0 : way = 0
  · subst w0
    have g := comp_ev (α := Int) PyData.int (fun h => decide (lv.getD x.toNat 0 < lv.getD h.toNat 0)) (fun h => .tuple [.int x, .int h]) O (fun h => wE d nn 0 chance ct O lv ps (some (.p (.int k))) (some (.p (.int x))) (some (.p (.int h)))) (own := [11]) (tg := .n 11) (k := .seq) (its := [.v 2]) (cond := [.cmp .lt (.at (.pk 6) (.v 9)) (.at (.pk 6) (.v 11))]) (elt := .tup [.v 9, .v 11]) (F := F)
      (ρ := wE d nn 0 chance ct O lv ps (some (.p (.int k))) (some (.p (.int x))) none) (evl_o (ev_vL (i := 2) (d := .p (.list (iL O))) (.inr rfl) rfl)) rfl rfl (by omega) (fun h hh => ⟨rfl, rfl, by
        have hh' := hO h hh
        have a1 := at_lI (xs := lv) (x := x) (by omega)
        have a2 := at_lI (xs := lv) (x := h) (by omega)
        have c := cmp_lt (lv.getD x.toNat 0) (lv.getD h.toNat 0)
        unfold wE
        generalize lv.getD x.toNat 0 = u1 at *
        generalize lv.getD h.toNat 0 = u2 at *
        generalize iL lv = q1 at *
        generalize iL O = q2 at *
        generalize bL ps = q3 at *
        simp [exb, exs, tst, ev, evd, evl, evo, evk, evi, kCall, takeArgs, putBack, chg, has, atK, isL, isOwnL, margs, pures, fz, sto, stoD, L3.Fl.seq, L3.Fl.unlock, L3.Res.fl, L3.Res.bind, slot, L3.T.dat, L3.T.pure, L3.D.flat, qok, isQ, L3.E.quiet, quiets, dats, truth, wargs, walk, L3.lock, L3.unlock, Option.bind_some, Option.map_some, prm, tests, a1, a2, c], fun _ => by
        unfold wE
        generalize iL lv = q1 at *
        generalize iL O = q2 at *
        generalize bL ps = q3 at *
        simp [exb, exs, tst, ev, evd, evl, evo, evk, evi, kCall, takeArgs, putBack, chg, has, atK, isL, isOwnL, margs, pures, fz, sto, stoD, L3.Fl.seq, L3.Fl.unlock, L3.Res.fl, L3.Res.bind, slot, L3.T.dat, L3.T.pure, L3.D.flat, qok, isQ, L3.E.quiet, quiets, dats, truth, wargs, walk, L3.lock, L3.unlock, Option.bind_some, Option.map_some, prm, tests, two_le]⟩)
    rw [bL_map] at g
    refine ⟨d, _, ?_, hL, hO.pairs hx' (fun h => decide (lv.getD x.toNat 0 < lv.getD h.toNat 0)), by rw [List.length_map]; exact Nat.le_trans (List.length_filter_le _ _) (by omega)⟩
    have t : tst F (.cmp .eq (.pk 3) (.c (.int 0))) (wE d nn 0 chance ct O lv ps (some (.p (.int k))) (some (.p (.int x))) none) = .ok true (wE d nn 0 chance ct O lv ps (some (.p (.int k))) (some (.p (.int x))) none) := by
      have c := cmp_eqI 0 0
      unfold wE
      generalize iL lv = q1 at *
      generalize iL O = q2 at *
      generalize bL ps = q3 at *
      simp [exb, exs, tst, ev, evd, evl, evo, evk, evi, kCall, takeArgs, putBack, chg, has, atK, isL, isOwnL, margs, pures, fz, sto, stoD, L3.Fl.seq, L3.Fl.unlock, L3.Res.fl, L3.Res.bind, slot, L3.T.dat, L3.T.pure, L3.D.flat, qok, isQ, L3.E.quiet, quiets, dats, truth, wargs, walk, L3.lock, L3.unlock, Option.bind_some, Option.map_some, prm, tests, c]
    have a := ext_go (i := 5) (x0 := bL ps) rfl g rfl (by rw [len_bL, len_bL, List.length_map]; have := List.length_filter_le (fun h => decide (lv.getD x.toNat 0 < lv.getD h.toNat 0)) O; omega)
    rw [app_bL] at a
    rw [wovL, exb, exs, t]
    simp only [L3.Res.fl, if_true]
    rw [exb, a]
    rfl
  · by_cases w1 : way = 1
    · subst w1
      have g := comp_ev (α := Int) PyData.int (fun h => decide ((k : Int) < ct)) (fun h => .tuple [.int x, .int h]) (O.drop ct.toNat) (fun h => wE d nn 1 chance ct O lv ps (some (.p (.int k))) (some (.p (.int x))) (some (.p (.int h)))) (own := [11]) (tg := .n 11) (k := .seq) (its := [.fz (.sl (.pk 2) [.v 7] [])]) (cond := [.cmp .lt (.pk 8) (.pk 7)]) (elt := .tup [.v 9, .v 11]) (F := F)
        (ρ := wE d nn 1 chance ct O lv ps (some (.p (.int k))) (some (.p (.int x))) none) (ρ1 := wE d nn 1 chance ct O lv ps (some (.p (.int k))) (some (.p (.int x))) none) (ts := [.o (.p (.list (iL (O.drop ct.toNat))))]) (by
          have e := sl_loL (xs := iL O) hc
          rw [iL_drop] at e
          refine evl_o ?_
          unfold wE
          generalize iL (O.drop ct.toNat) = q0 at *
          generalize iL lv = q1 at *
          generalize iL O = q2 at *
          generalize bL ps = q3 at *
          simp [exb, exs, tst, ev, evd, evl, evo, evk, evi, kCall, takeArgs, putBack, chg, has, atK, isL, isOwnL, margs, pures, fz, sto, stoD, L3.Fl.seq, L3.Fl.unlock, L3.Res.fl, L3.Res.bind, slot, L3.T.dat, L3.T.pure, L3.D.flat, qok, isQ, L3.E.quiet, quiets, dats, truth, wargs, walk, L3.lock, L3.unlock, Option.bind_some, Option.map_some, prm, tests, e]) rfl rfl (by rw [List.length_drop]; omega) (fun h hh => ⟨rfl, rfl, by
          have c := cmp_lt (k : Int) ct
          unfold wE
          generalize iL lv = q1 at *
          generalize iL O = q2 at *
          generalize bL ps = q3 at *
          generalize (k : Int) = kk at *
          simp [exb, exs, tst, ev, evd, evl, evo, evk, evi, kCall, takeArgs, putBack, chg, has, atK, isL, isOwnL, margs, pures, fz, sto, stoD, L3.Fl.seq, L3.Fl.unlock, L3.Res.fl, L3.Res.bind, slot, L3.T.dat, L3.T.pure, L3.D.flat, qok, isQ, L3.E.quiet, quiets, dats, truth, wargs, walk, L3.lock, L3.unlock, Option.bind_some, Option.map_some, prm, tests, c], fun _ => by
          unfold wE
          generalize iL lv = q1 at *
          generalize iL O = q2 at *
          generalize bL ps = q3 at *
          simp [exb, exs, tst, ev, evd, evl, evo, evk, evi, kCall, takeArgs, putBack, chg, has, atK, isL, isOwnL, margs, pures, fz, sto, stoD, L3.Fl.seq, L3.Fl.unlock, L3.Res.fl, L3.Res.bind, slot, L3.T.dat, L3.T.pure, L3.D.flat, qok, isQ, L3.E.quiet, quiets, dats, truth, wargs, walk, L3.lock, L3.unlock, Option.bind_some, Option.map_some, prm, tests, two_le]⟩)
      rw [bL_map] at g
      have hO2 : InK N (O.drop ct.toNat) := fun y hy => hO y (List.mem_of_mem_drop hy)
      have lO2 : (O.drop ct.toNat).length ≤ N := by rw [List.length_drop]; omega
      refine ⟨d, _, ?_, hL, hO2.pairs hx' (fun h => decide ((k : Int) < ct)), by rw [List.length_map]; exact Nat.le_trans (List.length_filter_le _ _) (by omega)⟩
      have t : tst F (.cmp .eq (.pk 3) (.c (.int 0))) (wE d nn 1 chance ct O lv ps (some (.p (.int k))) (some (.p (.int x))) none) = .ok false (wE d nn 1 chance ct O lv ps (some (.p (.int k))) (some (.p (.int x))) none) := by
        have c := cmp_eqI 1 0
        unfold wE
        generalize iL lv = q1 at *
        generalize iL O = q2 at *
        generalize bL ps = q3 at *
        simp [exb, exs, tst, ev, evd, evl, evo, evk, evi, kCall, takeArgs, putBack, chg, has, atK, isL, isOwnL, margs, pures, fz, sto, stoD, L3.Fl.seq, L3.Fl.unlock, L3.Res.fl, L3.Res.bind, slot, L3.T.dat, L3.T.pure, L3.D.flat, qok, isQ, L3.E.quiet, quiets, dats, truth, wargs, walk, L3.lock, L3.unlock, Option.bind_some, Option.map_some, prm, tests, c]
      have t2 : tst F (.cmp .eq (.pk 3) (.c (.int 1))) (wE d nn 1 chance ct O lv ps (some (.p (.int k))) (some (.p (.int x))) none) = .ok true (wE d nn 1 chance ct O lv ps (some (.p (.int k))) (some (.p (.int x))) none) := by
        have c := cmp_eqI 1 1
        unfold wE
        generalize iL lv = q1 at *
        generalize iL O = q2 at *
        generalize bL ps = q3 at *
        simp [exb, exs, tst, ev, evd, evl, evo, evk, evi, kCall, takeArgs, putBack, chg, has, atK, isL, isOwnL, margs, pures, fz, sto, stoD, L3.Fl.seq, L3.Fl.unlock, L3.Res.fl, L3.Res.bind, slot, L3.T.dat, L3.T.pure, L3.D.flat, qok, isQ, L3.E.quiet, quiets, dats, truth, wargs, walk, L3.lock, L3.unlock, Option.bind_some, Option.map_some, prm, tests, c]
      have a := ext_go (i := 5) (x0 := bL ps) rfl g rfl (by rw [len_bL, len_bL, List.length_map]; have := List.length_filter_le (fun h : Int => decide ((k : Int) < ct)) (O.drop ct.toNat); omega)
      rw [app_bL] at a
      rw [wovL, exb, exs, t]
      simp only [L3.Res.fl, Bool.false_eq_true, if_false]
      rw [exb, exs, t2]
      simp only [L3.Res.fl, if_true]
      rw [exb, a]
      rfl
    · have hO2 : InK N (O.drop (k + 1)) := fun y hy => hO y (List.mem_of_mem_drop hy)
      have lO2 : (O.drop (k + 1)).length ≤ N := by rw [List.length_drop]; omega
      have e1 : evl F [.fz (.sl (.pk 2) [.fz (.bin .add (.pk 8) (.c (.int 1)))] [])] (wE d nn way chance ct O lv ps (some (.p (.int k))) (some (.p (.int x))) none) = .ok [.o (.p (.list (iL (O.drop (k + 1)))))] (wE d nn way chance ct O lv ps (some (.p (.int k))) (some (.p (.int x))) none) := by
        have e := sl_loL (xs := iL O) (p := (k : Int) + 1) (by omega)
        rw [iL_drop, show ((k : Int) + 1).toNat = k + 1 by omega] at e
        have b := bin_add (k : Int) 1
        refine evl_o ?_
        unfold wE
        generalize iL (O.drop (k + 1)) = q0 at *
        generalize iL lv = q1 at *
        generalize iL O = q2 at *
        generalize bL ps = q3 at *
        generalize (k : Int) = kk at *
        generalize kk + 1 = kk1 at *
        simp [exb, exs, tst, ev, evd, evl, evo, evk, evi, kCall, takeArgs, putBack, chg, has, atK, isL, isOwnL, margs, pures, fz, sto, stoD, L3.Fl.seq, L3.Fl.unlock, L3.Res.fl, L3.Res.bind, slot, L3.T.dat, L3.T.pure, L3.D.flat, qok, isQ, L3.E.quiet, quiets, dats, truth, wargs, walk, L3.lock, L3.unlock, Option.bind_some, Option.map_some, prm, tests, e, b]
      have key : ∃ d' ps', lcL [11] (.n 11) (tests F [.cmp .lt (.call fd [.io 0, .c (.int 5)]) (.pk 4)]) (ev F (.tup [.v 9, .v 11])) (iL (O.drop (k + 1))) [] (wE d nn way chance ct O lv ps (some (.p (.int k))) (some (.p (.int x))) none) =
          .ok (bL ps') (wE d' nn way chance ct O lv ps (some (.p (.int k))) (some (.p (.int x))) none) ∧ L d' ∧ InN N ps' ∧ ps'.length ≤ 8 := by
        refine lc_ind (own := [11]) (tg := .n 11) (J := fun items acc ρ => ∃ its d as, items = iL its ∧ InK N its ∧ ρ = wE d nn way chance ct O lv ps (some (.p (.int k))) (some (.p (.int x))) none ∧ L d ∧ acc = bL as ∧ InN N as ∧ as.length + its.length ≤ 8)
          (Q := fun r => ∃ d' ps', r = .ok (bL ps') (wE d' nn way chance ct O lv ps (some (.p (.int k))) (some (.p (.int x))) none) ∧ L d' ∧ InN N ps' ∧ ps'.length ≤ 8) ?_ ?_ _ _ _ ⟨O.drop (k + 1), d, [], rfl, hO2, rfl, hL, rfl, (fun p h => nomatch h), by simp; omega⟩
        · rintro acc ρ ⟨its, d, as, e, _, rfl, h2, rfl, h3, h4⟩
          cases its with
          | cons => cases e
          | nil => exact ⟨d, as, rfl, h2, h3, by simpa using h4⟩
        · rintro y xs acc ρ ⟨its, d, as, e, h1, rfl, h2, rfl, h3, h4⟩
          cases its with
          | nil => cases e
          | cons h its =>
            simp only [iL, List.map_cons, List.cons.injEq] at e
            obtain ⟨rfl, rfl⟩ := e
            refine ⟨by rw [len_bL]; have := two_le; simp at h4; rw [sizeLine_eq]; omega, wE d nn way chance ct O lv ps (some (.p (.int k))) (some (.p (.int x))) (some (.p (.int h))), rfl, ?_⟩
            obtain ⟨r, d', q, l', r0, r1⟩ := hd d 5 h2 (by omega) (by omega)
            have c := cmp_lt r chance
            have tt : tests F [.cmp .lt (.call fd [.io 0, .c (.int 5)]) (.pk 4)] (wE d nn way chance ct O lv ps (some (.p (.int k))) (some (.p (.int x))) (some (.p (.int h)))) = .ok (decide (r < chance)) (wE d' nn way chance ct O lv ps (some (.p (.int k))) (some (.p (.int x))) (some (.p (.int h)))) := by
              unfold wE
              generalize iL lv = q1 at *
              generalize iL O = q2 at *
              generalize bL ps = q3 at *
              simp [exb, exs, tst, ev, evd, evl, evo, evk, evi, kCall, takeArgs, putBack, chg, has, atK, isL, isOwnL, margs, pures, fz, sto, stoD, L3.Fl.seq, L3.Fl.unlock, L3.Res.fl, L3.Res.bind, slot, L3.T.dat, L3.T.pure, L3.D.flat, qok, isQ, L3.E.quiet, quiets, dats, truth, wargs, walk, L3.lock, L3.unlock, Option.bind_some, Option.map_some, prm, tests, q, c]
            refine ⟨_, _, tt, ?_⟩
            have h1' : InK N its := fun y hy => h1 y (by simp [hy])
            by_cases b : r < chance
            · rw [decide_eq_true b, if_pos rfl]
              refine ⟨pP (x, h), wE d' nn way chance ct O lv ps (some (.p (.int k))) (some (.p (.int x))) (some (.p (.int h))), ?_, its, d', as ++ [(x, h)], rfl, h1', rfl, l', by rw [← app_bL]; rfl, h3.app fun p hp => ?_, by simp at h4 ⊢; omega⟩
              · unfold wE
                generalize iL lv = q1 at *
                generalize iL O = q2 at *
                generalize bL ps = q3 at *
                simp [exb, exs, tst, ev, evd, evl, evo, evk, evi, kCall, takeArgs, putBack, chg, has, atK, isL, isOwnL, margs, pures, fz, sto, stoD, L3.Fl.seq, L3.Fl.unlock, L3.Res.fl, L3.Res.bind, slot, L3.T.dat, L3.T.pure, L3.D.flat, qok, isQ, L3.E.quiet, quiets, dats, truth, wargs, walk, L3.lock, L3.unlock, Option.bind_some, Option.map_some, prm, tests, two_le, pP]
              · rw [List.mem_singleton.mp hp]
                exact ⟨hx', h1 h (by simp)⟩
            · rw [decide_eq_false b, if_neg (by simp)]
              exact ⟨its, d', as, rfl, h1', rfl, l', rfl, h3, by simp at h4 ⊢; omega⟩
      obtain ⟨d', ps', g, l', i', n'⟩ := key
      refine ⟨d', ps', ?_, l', i', n'⟩
      have t : tst F (.cmp .eq (.pk 3) (.c (.int 0))) (wE d nn way chance ct O lv ps (some (.p (.int k))) (some (.p (.int x))) none) = .ok false (wE d nn way chance ct O lv ps (some (.p (.int k))) (some (.p (.int x))) none) := by
        have c := cmp_eqI way 0
        rw [decide_eq_false w0] at c
        unfold wE
        generalize iL lv = q1 at *
        generalize iL O = q2 at *
        generalize bL ps = q3 at *
        simp [exb, exs, tst, ev, evd, evl, evo, evk, evi, kCall, takeArgs, putBack, chg, has, atK, isL, isOwnL, margs, pures, fz, sto, stoD, L3.Fl.seq, L3.Fl.unlock, L3.Res.fl, L3.Res.bind, slot, L3.T.dat, L3.T.pure, L3.D.flat, qok, isQ, L3.E.quiet, quiets, dats, truth, wargs, walk, L3.lock, L3.unlock, Option.bind_some, Option.map_some, prm, tests, c]
      have t2 : tst F (.cmp .eq (.pk 3) (.c (.int 1))) (wE d nn way chance ct O lv ps (some (.p (.int k))) (some (.p (.int x))) none) = .ok false (wE d nn way chance ct O lv ps (some (.p (.int k))) (some (.p (.int x))) none) := by
        have c := cmp_eqI way 1
        rw [decide_eq_false w1] at c
        unfold wE
        generalize iL lv = q1 at *
        generalize iL O = q2 at *
        generalize bL ps = q3 at *
        simp [exb, exs, tst, ev, evd, evl, evo, evk, evi, kCall, takeArgs, putBack, chg, has, atK, isL, isOwnL, margs, pures, fz, sto, stoD, L3.Fl.seq, L3.Fl.unlock, L3.Res.fl, L3.Res.bind, slot, L3.T.dat, L3.T.pure, L3.D.flat, qok, isQ, L3.E.quiet, quiets, dats, truth, wargs, walk, L3.lock, L3.unlock, Option.bind_some, Option.map_some, prm, tests, c]
      have g1 : ev F (.lc [11] (.n 11) .seq none [.fz (.sl (.pk 2) [.fz (.bin .add (.pk 8) (.c (.int 1)))] [])] [.cmp .lt (.call fd [.io 0, .c (.int 5)]) (.pk 4)] (.tup [.v 9, .v 11])) (wE d nn way chance ct O lv ps (some (.p (.int k))) (some (.p (.int x))) none) = .ok (.o (.l (bL ps'))) (wE d' nn way chance ct O lv ps (some (.p (.int k))) (some (.p (.int x))) none) :=
        lc_ev e1 rfl g
      have a := ext_go (i := 5) (x0 := bL ps) rfl g1 rfl (by rw [len_bL, len_bL]; omega)
      rw [app_bL] at a
      rw [wovL, exb, exs, t]
      simp only [L3.Res.fl, Bool.false_eq_true, if_false]
      rw [exb, exs, t2]
      simp only [L3.Res.fl, Bool.false_eq_true, if_false]
      rw [exb, a]
      rfl
theorem mul0 {nn : Int} (h0 : 0 ≤ nn) (hn : nn ≤ 8) : bin .mul (.list [.int 0]) (.int nn) = some (.l (iL (List.replicate nn.toNat 0))) := by
  have e : (List.replicate nn.toNat [PyData.int 0]).flatten = iL (List.replicate nn.toNat 0) := by
    generalize nn.toNat = m
    induction m with
    | zero => rfl
    | succ m ih => rw [List.replicate_succ, List.flatten_cons, ih]; rfl
  have g : ([PyData.int 0].length * nn.toNat ≤ sizeLine && decide (-(2 ^ 62) < nn) && decide (nn < 2 ^ 62)) = true := by
    rw [sizeLine_eq]; simp; omega
  rw [← e]
  simp only [bin, g, if_true]
theorem wov_def {P : List Def} {fm fc i m : Nat} (h : P[i]? = some (wovD fd fm fc)) (hd : DrawF L (callF P (m + 1)) fd) (hm : MixedF L (callF P (m + 1)) fm) (hc : P[fc]? = some shutD) : WovF L (callF P (m + 2)) i := fun d nn hL h1 h8 => by
  have shut := fun (ps : List PI2) (hp : InN nn.toNat ps) hl => shut_def hc m (nn := nn) (by omega) h8 hp hl
  rw [callF_fr (d := wovD fd fm fc) h rfl]
  generalize callF P (m + 1) = F at *
  show ∃ bk d', toFR 2 [0] (exb F (wovB fd fm fc) [some d, some (.p (.int nn)), none, none, none, none, none, none, none, none, none, none]) = _ ∧ _
  have hr : bi .lrange [.int nn] = some (.l (iL (upN nn.toNat))) := by
    have sm : (small62 nn && decide (nn ≤ 16777216)) = true := by simp [small62]; omega
    have e : rangeD 0 nn.toNat 1 = iL (upN nn.toNat) := by simp [rangeD, iL, upN]
    simp only [bi, sm, if_true, e]
  have hup : InK nn.toNat (upN nn.toNat) := fun x hx => by
    simp only [upN, List.mem_map, List.mem_range] at hx
    obtain ⟨k, hk, rfl⟩ := hx
    omega
  obtain ⟨ys, d1, q1, l1, p1⟩ := hm d (.l (iL (upN nn.toNat))) (iL (upN nn.toNat)) hL (.inl rfl) Sh.iL (by rw [len_iL, upN_len]; omega)
  obtain ⟨O, rfl, pO⟩ := iL_perm p1
  have hO : InK nn.toNat O := fun x hx => hup x (pO.subset hx)
  have lO : O.length = nn.toNat := by rw [pO.length_eq, upN_len]
  obtain ⟨way, d2, q2, l2, w0, w1⟩ := hd d1 5 l1 (by omega) (by omega)
  obtain ⟨c, d3, q3, l3, c0, c1⟩ := hd d2 4 l2 (by omega) (by omega)
  have ad := bin_add 1 c
  have a1 : exs F (.asgs [.n 2, .n 3, .n 4, .n 5] [.call fm [.io 0, .bi .lrange [.pk 1]], .call fd [.io 0, .c (.int 5)], .bin .add (.c (.int 1)) (.call fd [.io 0, .c (.int 4)]), .lst []]) [some d, some (.p (.int nn)), none, none, none, none, none, none, none, none, none, none] =
      .nx [some d3, some (.p (.int nn)), some (.l (iL O)), some (.p (.int way)), some (.p (.int (1 + c))), some (.l []), none, none, none, none, none, none] := by
    generalize iL O = k1 at *
    generalize iL (upN nn.toNat) = k2 at *
    generalize 1 + c = cc at *
    simp [exb, exs, tst, ev, evd, evl, evo, evk, evi, kCall, takeArgs, putBack, chg, has, atK, isL, isOwnL, margs, pures, fz, sto, stoD, L3.Fl.seq, L3.Fl.unlock, L3.Res.fl, L3.Res.bind, slot, L3.T.dat, L3.T.pure, L3.D.flat, qok, isQ, L3.E.quiet, quiets, dats, truth, wargs, walk, L3.lock, L3.unlock, Option.bind_some, Option.map_some, prm, tests, hr, q1, q2, q3, ad]
  obtain ⟨lv, d4, l4, e4, n4⟩ : ∃ (lv : List Int) (d4 : L3.D), L d4 ∧ ev F (.ife (.cmp .eq (.pk 3) (.c (.int 0))) (.lc [10] (.n 10) .rng1 none [.v 1] [] (.fz (.call fd [.io 0, .v 1]))) (.bin .mul (.lst [.c (.int 0)]) (.pk 1))) [some d3, some (.p (.int nn)), some (.l (iL O)), some (.p (.int way)), some (.p (.int (1 + c))), some (.l []), none, none, none, none, none, none] =
      .ok (.o (.l (iL lv))) [some d4, some (.p (.int nn)), some (.l (iL O)), some (.p (.int way)), some (.p (.int (1 + c))), some (.l []), none, none, none, none, none, none] ∧ lv.length = nn.toNat := by
    have cc := cmp_eqI way 0
    have tt : tst F (.cmp .eq (.pk 3) (.c (.int 0))) [some d3, some (.p (.int nn)), some (.l (iL O)), some (.p (.int way)), some (.p (.int (1 + c))), some (.l []), none, none, none, none, none, none] = .ok (decide (way = 0)) [some d3, some (.p (.int nn)), some (.l (iL O)), some (.p (.int way)), some (.p (.int (1 + c))), some (.l []), none, none, none, none, none, none] := by
      generalize iL O = k1 at *
      generalize 1 + c = c' at *
      simp [exb, exs, tst, ev, evd, evl, evo, evk, evi, kCall, takeArgs, putBack, chg, has, atK, isL, isOwnL, margs, pures, fz, sto, stoD, L3.Fl.seq, L3.Fl.unlock, L3.Res.fl, L3.Res.bind, slot, L3.T.dat, L3.T.pure, L3.D.flat, qok, isQ, L3.E.quiet, quiets, dats, truth, wargs, walk, L3.lock, L3.unlock, Option.bind_some, Option.map_some, prm, tests, cc]
    rw [ev, tt]
    by_cases w : way = 0
    · rw [decide_eq_true w]
      simp only [L3.Res.bind, if_true]
      obtain ⟨as, d5, e5, n5, _, f5⟩ := lc_draws (L := L) (F := F) (j := 10) (e := .fz (.call fd [.io 0, .v 1])) PyData.int (fun _ => True) (fun d => [some d, some (.p (.int nn)), some (.l (iL O)), some (.p (.int way)), some (.p (.int (1 + c))), some (.l []), none, none, none, none, none, none]) (fun d hL => by
        obtain ⟨r, d', q, l, _, _⟩ := hd d nn hL h1 (by omega)
        refine ⟨r, d', l, trivial, fun x => ?_⟩
        generalize iL O = k1 at *
        generalize 1 + c = c' at *
        simp [exb, exs, tst, ev, evd, evl, evo, evk, evi, kCall, takeArgs, putBack, chg, has, atK, isL, isOwnL, margs, pures, fz, sto, stoD, L3.Fl.seq, L3.Fl.unlock, L3.Res.fl, L3.Res.bind, slot, L3.T.dat, L3.T.pure, L3.D.flat, qok, isQ, L3.E.quiet, quiets, dats, truth, wargs, walk, L3.lock, L3.unlock, Option.bind_some, Option.map_some, prm, tests, q]) (fun _ => rfl) (fun _ _ => rfl) ((List.range nn.toNat).map fun (k : Nat) => PyData.int (k : Int)) [] d3 l3 (by simp; omega)
      refine ⟨as, d5, f5, ?_, by rw [n5, List.length_map, List.length_range]⟩
      refine lc_ev (ρ1 := [some d3, some (.p (.int nn)), some (.l (iL O)), some (.p (.int way)), some (.p (.int (1 + c))), some (.l []), none, none, none, none, none, none]) (ts := [.o (.p (.int nn))]) (evl_o ?_) (pw_rng (by omega) (by omega)) (by simpa [iL] using e5)
      generalize iL O = k1 at *
      generalize 1 + c = c' at *
      simp [exb, exs, tst, ev, evd, evl, evo, evk, evi, kCall, takeArgs, putBack, chg, has, atK, isL, isOwnL, margs, pures, fz, sto, stoD, L3.Fl.seq, L3.Fl.unlock, L3.Res.fl, L3.Res.bind, slot, L3.T.dat, L3.T.pure, L3.D.flat, qok, isQ, L3.E.quiet, quiets, dats, truth, wargs, walk, L3.lock, L3.unlock, Option.bind_some, Option.map_some, prm, tests]
    · rw [decide_eq_false w]
      simp only [L3.Res.bind, Bool.false_eq_true, if_false]
      refine ⟨List.replicate nn.toNat 0, d3, l3, ?_, by simp⟩
      have e := mul0 (by omega) h8
      generalize iL (List.replicate nn.toNat 0) = k0 at *
      generalize iL O = k1 at *
      generalize 1 + c = c' at *
      have o1 : 1 ≤ sizeLine := Nat.le_trans (by decide) two_le
      simp [exb, exs, tst, ev, evd, evl, evo, evk, evi, kCall, takeArgs, putBack, chg, has, atK, isL, isOwnL, margs, pures, fz, sto, stoD, L3.Fl.seq, L3.Fl.unlock, L3.Res.fl, L3.Res.bind, slot, L3.T.dat, L3.T.pure, L3.D.flat, qok, isQ, L3.E.quiet, quiets, dats, truth, wargs, walk, L3.lock, L3.unlock, Option.bind_some, Option.map_some, prm, tests, e, o1]
  obtain ⟨ct, d5, q5, l5, t0, t1⟩ := hd d4 (nn + 1) l4 (by omega) (by omega)
  have a2 : exs F (.asgs [.n 6, .n 7] [.ife (.cmp .eq (.pk 3) (.c (.int 0))) (.lc [10] (.n 10) .rng1 none [.v 1] [] (.fz (.call fd [.io 0, .v 1]))) (.bin .mul (.lst [.c (.int 0)]) (.pk 1)), .call fd [.io 0, .bin .add (.pk 1) (.c (.int 1))]]) [some d3, some (.p (.int nn)), some (.l (iL O)), some (.p (.int way)), some (.p (.int (1 + c))), some (.l []), none, none, none, none, none, none] =
      .nx [some d5, some (.p (.int nn)), some (.l (iL O)), some (.p (.int way)), some (.p (.int (1 + c))), some (.l []), some (.l (iL lv)), some (.p (.int ct)), none, none, none, none] := by
    have ad2 := bin_add nn 1
    rw [exs, evo, e4]
    generalize iL O = k1 at *
    generalize iL lv = k3 at *
    generalize 1 + c = c' at *
    generalize nn + 1 = n1 at *
    simp [exb, exs, tst, ev, evd, evl, evo, evk, evi, kCall, takeArgs, putBack, chg, has, atK, isL, isOwnL, margs, pures, fz, sto, stoD, L3.Fl.seq, L3.Fl.unlock, L3.Res.fl, L3.Res.bind, slot, L3.T.dat, L3.T.pure, L3.D.flat, qok, isQ, L3.E.quiet, quiets, dats, truth, wargs, walk, L3.lock, L3.unlock, Option.bind_some, Option.map_some, prm, tests, q5, ad2]
  -- the pairs
  have ee : evl F [.v 2] [some d5, some (.p (.int nn)), some (.l (iL O)), some (.p (.int way)), some (.p (.int (1 + c))), some (.l []), some (.l (iL lv)), some (.p (.int ct)), none, none, none, none] = .ok [.o (.p (.list (iL O)))] (wE d5 nn way (1 + c) ct O lv [] none none none) :=
    evl_o (ev_vL (i := 2) (d := .l (iL O)) (.inl rfl) rfl)
  have en : (pures [T.o (.p (.list (iL O)))]).bind (walk .enum) = some (O.zipIdx.map fun p => PyData.tuple [.int (p.2 : Nat), .int p.1]) := by
    have := enum_map PyData.int O 0
    exact pw1 (k := .enum) (by simp only [walk, iL]; rw [this])
  obtain ⟨ρ3, g3, d6, ps, e8, e9, rfl, l6, ip, lp⟩ := forL_go (inj := fun p : Int × Nat => PyData.tuple [.int (p.2 : Nat), .int p.1]) (tg := .t [.n 8, .n 9]) (body := exb F (wovL fd))
    (fun rest ρ => ∃ d ps e8 e9, ρ = wE d nn way (1 + c) ct O lv ps e8 e9 none ∧ L d ∧ InN nn.toNat ps ∧ ps.length + 8 * rest.length ≤ 8 * nn.toNat)
    O.zipIdx (wE d5 nn way (1 + c) ct O lv [] none none none) ⟨d5, [], none, none, rfl, l5, (fun p h => nomatch h), by simp [lO]⟩ (by
      rintro ⟨x, k⟩ r ρ ⟨l, el⟩ ⟨d, ps, e8, e9, rfl, hL', hp, hl⟩
      have mx : (x, k) ∈ O.zipIdx := by rw [el]; simp
      have hx : x ∈ O := by
        have := List.mem_zipIdx mx
        simp only [Nat.zero_add, Nat.sub_zero] at this
        rw [this.2.2]
        exact List.getElem_mem _
      simp only [List.length_cons] at hl
      obtain ⟨d', ps', g, l', i', n'⟩ := wov_step (nn := nn) (way := way) (chance := 1 + c) (ct := ct) (lv := lv) hd hO lO (by omega) n4 t0 hL' hp (by omega) hx (k := k)
      refine ⟨wE d nn way (1 + c) ct O lv ps (some (.p (.int (k : Nat)))) (some (.p (.int x))) none, rfl, ?_⟩
      rw [g]
      exact ⟨d', ps ++ ps', _, _, rfl, l', hp.app i', by rw [List.length_append]; omega⟩)
  obtain ⟨es, qs, rl, tr, _⟩ := shut ps ip (by simp at lp; omega)
  have a3 : exs F (.for (.t [.n 8, .n 9]) .enum none [.v 2] (wovL fd)) [some d5, some (.p (.int nn)), some (.l (iL O)), some (.p (.int way)), some (.p (.int (1 + c))), some (.l []), some (.l (iL lv)), some (.p (.int ct)), none, none, none, none] = .nx (wE d6 nn way (1 + c) ct O lv ps e8 e9 none) := by
    rw [for_ev ee en]; exact g3
  refine ⟨psort es, d6, ?_, l6, rl.bk tr⟩
  have pk := prK_T es
  have a4 : exs F (.ret (.bi .tuple [.kso (.call fc [.v 1, .v 5])])) (wE d6 nn way (1 + c) ct O lv ps e8 e9 none) = .rt (.p (.tuple (bL (psort es)))) [some d6, some (.p (.int nn)), some (.p (.list (iL O))), some (.p (.int way)), some (.p (.int (1 + c))), some (.p (.list (bL ps))), some (.l (iL lv)), some (.p (.int ct)), e8, e9, none, none] := by
    have eb : (psort es).map prD = bL (psort es) := rfl
    unfold wE
    generalize iL O = k1 at *
    generalize iL lv = k3 at *
    generalize bL ps = k4 at *
    generalize kvT es = k5 at *
    have t := tuple_l ((psort es).map prD)
    rw [← eb]
    simp [exb, exs, tst, ev, evd, evl, evo, evk, evi, kCall, takeArgs, putBack, chg, has, atK, isL, isOwnL, margs, pures, fz, sto, stoD, L3.Fl.seq, L3.Fl.unlock, L3.Res.fl, L3.Res.bind, slot, L3.T.dat, L3.T.pure, L3.D.flat, qok, isQ, L3.E.quiet, quiets, dats, truth, wargs, walk, L3.lock, L3.unlock, Option.bind_some, Option.map_some, prm, tests, qs, L3.T.tab, pk, t]
  rw [wovB, exb_go a1, exb_go a2, exb_go a3, exb_rt a4]
  rfl
end
end L3

set_option maxHeartbeats 4000000
namespace K06
open PySem L3
/-! ### who passes whom, plain -/
def pas (b : List PI2) (x : Int) : List Int := (b.filter fun p => decide (p.1 = x)).map (·.2)
theorem srt_ext {xs ys : List Int} (hx : xs.Pairwise (· < ·)) (hy : ys.Pairwise (· < ·)) (h : ∀ k, k ∈ xs ↔ k ∈ ys) : xs = ys := by
  have nx : xs.Nodup := by rw [List.Nodup]; exact hx.imp fun {a b} q e => by omega
  have ny : ys.Nodup := by rw [List.Nodup]; exact hy.imp fun {a b} q e => by omega
  exact perm_le_eq ((List.perm_ext_iff_of_nodup nx ny).mpr h) (hx.imp fun {a b} q => by omega) (hy.imp fun {a b} q => by omega)
theorem upN_srt (n : Nat) : (upN n).Pairwise (· < ·) := by
  rw [upN, List.pairwise_map]
  exact List.pairwise_lt_range.imp fun {a b} h => by omega
theorem pas_mem {b : List PI2} {x k : Int} : k ∈ pas b x ↔ (x, k) ∈ b := by
  simp only [pas, List.mem_map, List.mem_filter, decide_eq_true_eq]
  constructor
  · rintro ⟨⟨a, c⟩, ⟨h1, h2⟩, h3⟩
    simp only at h2 h3
    rw [← h2, ← h3]; exact h1
  · intro h
    exact ⟨(x, k), ⟨h, rfl⟩, rfl⟩
theorem pas_eq {n : Nat} {b : List PI2} (h : Bk8 n b) (x : Int) : pas b x = (upN n).filter fun k => decide ((x, k) ∈ b) := by
  refine srt_ext ?_ ((upN_srt n).sublist List.filter_sublist) fun k => ?_
  · rw [pas, List.pairwise_map]
    have := h.srt.sublist (List.filter_sublist (p := fun p : PI2 => decide (p.1 = x)))
    refine List.Pairwise.imp_of_mem (fun {p q} hp hq l => ?_) this
    have a := (List.mem_filter.mp hp).2
    have c := (List.mem_filter.mp hq).2
    simp only [decide_eq_true_eq] at a c
    unfold ltP at l
    omega
  · rw [pas_mem, List.mem_filter, decide_eq_true_eq, upN_mem]
    exact ⟨fun m => ⟨(h.inn _ m).2, m⟩, fun m => m.2⟩
def prs (b : List PI2) : List Int := isort (nubI (b.map (·.1)))
theorem prs_eq {n : Nat} {b : List PI2} (h : Bk8 n b) : prs b = (upN n).filter fun x => !decide (((upN n).filter fun k => decide ((x, k) ∈ b)) = []) := by
  have hm : ∀ k, k ∈ prs b ↔ ∃ y, (k, y) ∈ b := fun k => by
    rw [prs, (isort_perm _).mem_iff, nubI_mem, List.mem_map]
    exact ⟨fun ⟨p, hp, e⟩ => ⟨p.2, by rw [← e]; exact hp⟩, fun ⟨y, hy⟩ => ⟨_, hy, rfl⟩⟩
  refine srt_ext ?_ ((upN_srt n).sublist List.filter_sublist) fun k => ?_
  · have s := isort_sorted (nubI (b.map (·.1)))
    have nd : (isort (nubI (b.map (·.1)))).Nodup := (isort_perm _).nodup_iff.mpr (nubI_nodup _)
    rw [List.Nodup] at nd
    exact (s.and nd).imp fun {a c} ⟨h1, h2⟩ => by omega
  · rw [hm, List.mem_filter, upN_mem]
    constructor
    · rintro ⟨y, m⟩
      refine ⟨(h.inn _ m).1, ?_⟩
      have : y ∈ (upN n).filter fun k' => decide ((k, k') ∈ b) := List.mem_filter.mpr ⟨upN_mem.mpr (h.inn _ m).2, decide_eq_true m⟩
      simp only [Bool.not_eq_true', decide_eq_false_iff_not]
      exact List.ne_nil_of_mem this
    · rintro ⟨_, m⟩
      simp only [Bool.not_eq_true', decide_eq_false_iff_not] at m
      obtain ⟨y, hy⟩ := List.exists_mem_of_ne_nil _ m
      exact ⟨y, by simpa using (List.mem_filter.mp hy).2⟩
theorem nub_few {n : Nat} {b : List PI2} (h : Bk8 n b) : (nubI (b.map (·.1))).length ≤ n :=
  few_below n _ (nubI_nodup _) fun k hk => by
    rw [nubI_mem, List.mem_map] at hk
    obtain ⟨p, hp, rfl⟩ := hk
    exact (h.inn p hp).1
/-! ranked -/
def rnk (n : Nat) (v : Nat → Int) : List PI2 := (List.range n).flatMap fun (x : Nat) => ((List.range n).filter fun (h : Nat) => decide (v x < v h)).map fun (h : Nat) => ((x : Int), (h : Int))
theorem rnk_mem {n : Nat} {v : Nat → Int} {p : PI2} : p ∈ rnk n v ↔ ∃ x h : Nat, p = ((x : Int), (h : Int)) ∧ x < n ∧ h < n ∧ v x < v h := by
  simp only [rnk, List.mem_flatMap, List.mem_map, List.mem_filter, List.mem_range, decide_eq_true_eq]
  exact ⟨fun ⟨x, hx, h, ⟨h1, h2⟩, e⟩ => ⟨x, h, e.symm, hx, h1, h2⟩, fun ⟨x, h, e, h1, h2, h3⟩ => ⟨x, h1, h, ⟨h2, h3⟩, e.symm⟩⟩
theorem rnk_bk (n : Nat) (v : Nat → Int) : Bk8 n (rnk n v) ∧ ∀ x, (x, x) ∉ rnk n v := by
  refine ⟨⟨?_, fun p hp => ?_, fun a b c h1 h2 => ?_⟩, fun x hx => ?_⟩
  · rw [rnk, List.pairwise_flatMap]
    refine ⟨fun a _ => ?_, List.pairwise_lt_range.imp fun {a c} l x hx y hy => ?_⟩
    · rw [List.pairwise_map]
      exact (List.pairwise_lt_range.sublist List.filter_sublist).imp fun {c d} l => Or.inr ⟨rfl, by simp only; omega⟩
    · obtain ⟨_, _, rfl⟩ := List.mem_map.mp hx
      obtain ⟨_, _, rfl⟩ := List.mem_map.mp hy
      exact Or.inl (by simp only; omega)
  · obtain ⟨x, h, rfl, h1, h2, _⟩ := rnk_mem.mp hp
    simp only
    omega
  · obtain ⟨x, h, e, g1, g2, h3⟩ := rnk_mem.mp h1
    obtain ⟨x', h', e', h1', h2', h3'⟩ := rnk_mem.mp h2
    simp only [Prod.mk.injEq] at e e'
    have : h = x' := by omega
    subst this
    exact rnk_mem.mpr ⟨x, h', by rw [e.1, e'.2], g1, h2', by omega⟩
  · obtain ⟨y, h, e, _, _, h3⟩ := rnk_mem.mp hx
    simp only [Prod.mk.injEq] at e
    have : y = h := by omega
    subst this
    omega
theorem rnk_congr {n : Nat} {v w : Nat → Int} (h : ∀ x y, x < n → y < n → (v x < v y ↔ w x < w y)) : rnk n v = rnk n w := by
  unfold rnk
  have e : ∀ x ∈ List.range n, (((List.range n).filter fun h => decide (v x < v h)).map fun h : Nat => ((x : Int), (h : Int))) = ((List.range n).filter fun h => decide (w x < w h)).map fun h : Nat => ((x : Int), (h : Int)) := fun x hx => by
    congr 1
    refine List.filter_congr fun y hy => ?_
    rw [decide_eq_decide]
    exact h x y (List.mem_range.mp hx) (List.mem_range.mp hy)
  rw [List.flatMap_def, List.flatMap_def, List.map_congr_left e]
def twos (n : Nat) : List PI2 := (List.range n).flatMap fun (x : Nat) => ((List.range n).filter fun (h : Nat) => !decide ((h : Int) = (x : Int))).map fun (h : Nat) => ((x : Int), (h : Int))
theorem twos_mem {n : Nat} {p : PI2} (h : p ∈ twos n) : (0 ≤ p.1 ∧ p.1 < n) ∧ 0 ≤ p.2 ∧ p.2 < n := by
  simp only [twos, List.mem_flatMap, List.mem_map, List.mem_filter, List.mem_range] at h
  obtain ⟨x, hx, y, ⟨hy, _⟩, rfl⟩ := h
  simp only
  omega
theorem twos_rnk (n : Nat) (v : Nat → Int) : (twos n).filter (fun p => decide (v p.1.toNat < v p.2.toNat)) = rnk n v := by
  unfold twos rnk
  rw [List.filter_flatMap]
  congr 1
  funext x
  rw [List.filter_map, List.filter_filter]
  congr 1
  refine List.filter_congr fun y hy => ?_
  simp only [Function.comp_def, Int.toNat_natCast]
  by_cases c : v x < v y
  · have : ¬ (y : Int) = (x : Int) := fun e => by have : y = x := by omega
                                                  subst this; omega
    simp [c, this]
  · simp [c]
theorem enum_rng (lv : List Int) : enumFrom 0 (iL lv) = (List.range lv.length).map fun (k : Nat) => PyData.tuple [.int (k : Int), .int (lv.getD k 0)] := by
  have := enum_map PyData.int lv 0
  rw [iL, this]
  refine List.ext_getElem (by simp) fun i h1 h2 => ?_
  have hi : i < lv.length := by simpa using h1
  simp [List.getElem_zipIdx, hi]
end K06

set_option maxHeartbeats 4000000
namespace K06
open PySem L3
def passesD : Def := ⟨3, 3, [], [.ret (.cmp .isin (.tup [.v 1, .v 2]) (.pk 0))]⟩
theorem passes_def {P : List Def} {i : Nat} (h : P[i]? = some passesD) (m : Nat) (b : List PI2) (x y : Int) : callF P (m + 1) i [(L3.D.p (PyData.tuple (bL b))), .p (.int x), .p (.int y)] = .ok (.p (.bool (decide ((x, y) ∈ b)))) [none, none, none] := by
  rw [callF_fr (d := passesD) h rfl]
  generalize callF P m = F
  have c := cin_b2 x y b
  show toFR 3 [] (exb F [.ret (.cmp .isin (.tup [.v 1, .v 2]) (.pk 0))] [some ((L3.D.p (PyData.tuple (bL b)))), some (.p (.int x)), some (.p (.int y))]) = _
  have e : exb F [.ret (.cmp .isin (.tup [.v 1, .v 2]) (.pk 0))] [some ((L3.D.p (PyData.tuple (bL b)))), some (.p (.int x)), some (.p (.int y))] = .rt (.p (.bool (decide ((x, y) ∈ b)))) [some ((L3.D.p (PyData.tuple (bL b)))), some (.p (.int x)), some (.p (.int y))] := by
    generalize bL b = q at *
    simp [exb, exs, tst, ev, evd, evl, evo, evk, evi, kCall, takeArgs, putBack, chg, has, atK, isL, isOwnL, margs, pures, fz, sto, stoD, L3.Fl.seq, L3.Fl.unlock, L3.Res.fl, L3.Res.bind, slot, L3.T.dat, L3.T.pure, L3.D.flat, qok, isQ, L3.E.quiet, quiets, dats, truth, wargs, walk, L3.lock, L3.unlock, Option.bind_some, Option.map_some, prm, tests, c, two_le]
  rw [e]; rfl
def passedD : Def := ⟨2, 4, [], [.ret (.bi .tuple [.lc [2, 3] (.t [.n 2, .n 3]) .seq none [.v 0] [.cmp .eq (.pk 2) (.pk 1)] (.v 3)])]⟩
theorem evl_vp {F : FT} {i : Nat} {x : PyData} {ρ : L3.Env} (h : slot ρ i = some (.p x)) (hr : ρ.set i (some (.p x)) = ρ) : evl F [.v i] ρ = .ok [.o (.p x)] ρ := by
  refine evl_o ?_
  simp only [ev, h, fz, hr]
theorem passed_def {P : List Def} {i : Nat} (h : P[i]? = some passedD) (m : Nat) {b : List PI2} (hl : b.length < 1000) (x : Int) : callF P (m + 1) i [(L3.D.p (PyData.tuple (bL b))), .p (.int x)] = .ok ((L3.D.p (PyData.tuple (iL (pas b x))))) [none, none] := by
  rw [callF_fr (d := passedD) h rfl]
  generalize callF P m = F
  show toFR 2 [] (exb F [.ret (.bi .tuple [.lc [2, 3] (.t [.n 2, .n 3]) .seq none [.v 0] [.cmp .eq (.pk 2) (.pk 1)] (.v 3)])] [some ((L3.D.p (PyData.tuple (bL b)))), some (.p (.int x)), none, none]) = _
  have g := comp_ev (α := PI2) pP (fun p => decide (p.1 = x)) (fun p => .int p.2) b (fun p => [some ((L3.D.p (PyData.tuple (bL b)))), some (.p (.int x)), some (.p (.int p.1)), some (.p (.int p.2))]) (own := [2, 3]) (tg := .t [.n 2, .n 3]) (k := .seq) (its := [.v 0]) (cond := [.cmp .eq (.pk 2) (.pk 1)]) (elt := .v 3) (F := F)
    (ρ := [some ((L3.D.p (PyData.tuple (bL b)))), some (.p (.int x)), none, none]) (ρ1 := [some ((L3.D.p (PyData.tuple (bL b)))), some (.p (.int x)), none, none]) (evl_vp rfl rfl) rfl rfl (by omega) (fun p hp => ⟨rfl, rfl, by
      have c := cmp_eqI p.1 x
      generalize bL b = q at *
      simp [exb, exs, tst, ev, evd, evl, evo, evk, evi, kCall, takeArgs, putBack, chg, has, atK, isL, isOwnL, margs, pures, fz, sto, stoD, L3.Fl.seq, L3.Fl.unlock, L3.Res.fl, L3.Res.bind, slot, L3.T.dat, L3.T.pure, L3.D.flat, qok, isQ, L3.E.quiet, quiets, dats, truth, wargs, walk, L3.lock, L3.unlock, Option.bind_some, Option.map_some, prm, tests, c], fun _ => by
      generalize bL b = q at *
      simp [exb, exs, tst, ev, evd, evl, evo, evk, evi, kCall, takeArgs, putBack, chg, has, atK, isL, isOwnL, margs, pures, fz, sto, stoD, L3.Fl.seq, L3.Fl.unlock, L3.Res.fl, L3.Res.bind, slot, L3.T.dat, L3.T.pure, L3.D.flat, qok, isQ, L3.E.quiet, quiets, dats, truth, wargs, walk, L3.lock, L3.unlock, Option.bind_some, Option.map_some, prm, tests]⟩)
  have e : (b.filter fun p => decide (p.1 = x)).map (fun p => PyData.int p.2) = iL (pas b x) := by simp [iL, pas]
  rw [e] at g
  have t := tuple_l (iL (pas b x))
  rw [exb, exs, ev, evl_o g]
  simp only [L3.Res.bind, dats, L3.T.dat, L3.D.flat, Option.bind_some, t, L3.Res.fl, L3.Fl.seq]
  rfl
def passersD : Def := ⟨1, 3, [], [.ret (.bi .tuple [.bi .sortedset [.lc [1, 2] (.t [.n 1, .n 2]) .seq none [.v 0] [] (.v 1)]])]⟩
theorem passers_def {P : List Def} {i : Nat} (h : P[i]? = some passersD) (m : Nat) {b : List PI2} (hl : b.length < 1000) (hn : (nubI (b.map (·.1))).length < 64) : callF P (m + 1) i [(L3.D.p (PyData.tuple (bL b)))] = .ok ((L3.D.p (PyData.tuple (iL (prs b))))) [none] := by
  rw [callF_fr (d := passersD) h rfl]
  generalize callF P m = F
  show toFR 1 [] (exb F [.ret (.bi .tuple [.bi .sortedset [.lc [1, 2] (.t [.n 1, .n 2]) .seq none [.v 0] [] (.v 1)]])] [some ((L3.D.p (PyData.tuple (bL b)))), none, none]) = _
  have g := comp_evA (α := PI2) pP (fun p => .int p.1) b (fun p => [some ((L3.D.p (PyData.tuple (bL b)))), some (.p (.int p.1)), some (.p (.int p.2))]) (own := [1, 2]) (tg := .t [.n 1, .n 2]) (k := .seq) (its := [.v 0]) (elt := .v 1) (F := F)
    (ρ := [some ((L3.D.p (PyData.tuple (bL b)))), none, none]) (ρ1 := [some ((L3.D.p (PyData.tuple (bL b)))), none, none]) (evl_vp rfl rfl) rfl rfl (by omega) (fun p hp => ⟨rfl, rfl, by
      generalize bL b = q at *
      simp [exb, exs, tst, ev, evd, evl, evo, evk, evi, kCall, takeArgs, putBack, chg, has, atK, isL, isOwnL, margs, pures, fz, sto, stoD, L3.Fl.seq, L3.Fl.unlock, L3.Res.fl, L3.Res.bind, slot, L3.T.dat, L3.T.pure, L3.D.flat, qok, isQ, L3.E.quiet, quiets, dats, truth, wargs, walk, L3.lock, L3.unlock, Option.bind_some, Option.map_some, prm, tests]⟩)
  have e : b.map (fun p => PyData.int p.1) = iL (b.map (·.1)) := by simp [iL]
  rw [e] at g
  have s := sset_l (ms := b.map (·.1)) (by rw [List.length_map]; omega) hn
  have t := tuple_l (iL (prs b))
  have g2 : ev F (.bi .sortedset [.lc [1, 2] (.t [.n 1, .n 2]) .seq none [.v 0] [] (.v 1)]) [some ((L3.D.p (PyData.tuple (bL b)))), none, none] = .ok (.o (.l (iL (prs b)))) [some ((L3.D.p (PyData.tuple (bL b)))), none, none] := by
    rw [ev, evl_o g]
    simp only [L3.Res.bind, dats, L3.T.dat, L3.D.flat, Option.bind_some, s]
    rfl
  rw [exb, exs, ev, evl_o g2]
  simp only [L3.Res.bind, dats, L3.T.dat, L3.D.flat, Option.bind_some, t, L3.Res.fl, L3.Fl.seq]
  rfl
def rankL : List S := [.expr (.mut .extend 1 [] [.lc [4, 5] (.t [.n 4, .n 5]) .enum none [.v 0] [.cmp .lt (.pk 3) (.pk 5)] (.tup [.v 2, .v 4])])]
def rankB : List S := [
  .asg (.n 1) (.lst []),
  .for (.t [.n 2, .n 3]) .enum none [.v 0] rankL,
  .ret (.bi .tuple [.pk 1])]
def rankD : Def := ⟨1, 6, [], rankB⟩
def vw (lv : List Int) (k : Nat) : Int := lv.getD k 0
theorem ext_len {α : Type} {n m : Nat} (h : n ≤ 64 * m) (hm : m ≤ 8) : n ≤ 1000 := by omega
theorem rank_def {P : List Def} {i : Nat} (h : P[i]? = some rankD) (m : Nat) {lv : List Int} (hl : lv.length ≤ 8) : callF P (m + 1) i [(L3.D.p (PyData.tuple (iL lv)))] = .ok ((L3.D.p (PyData.tuple (bL (rnk lv.length (vw lv)))))) [none] := by
  rw [callF_fr (d := rankD) h rfl]
  generalize callF P m = F
  show toFR 1 [] (exb F rankB [some ((L3.D.p (PyData.tuple (iL lv)))), none, none, none, none, none]) = _
  have en : (pures [T.o (.p (.tuple (iL lv)))]).bind (walk .enum) = some ((List.range lv.length).map fun (k : Nat) => PyData.tuple [.int (k : Int), .int (lv.getD k 0)]) := by
    exact pw1 (k := .enum) (by simp only [walk]; rw [enum_rng])
  have a1 : exs F (.asg (.n 1) (.lst [])) [some ((L3.D.p (PyData.tuple (iL lv)))), none, none, none, none, none] = .nx [some ((L3.D.p (PyData.tuple (iL lv)))), some (.l []), none, none, none, none] := by
    generalize iL lv = q
    simp [exb, exs, tst, ev, evd, evl, evo, evk, evi, kCall, takeArgs, putBack, chg, has, atK, isL, isOwnL, margs, pures, fz, sto, stoD, L3.Fl.seq, L3.Fl.unlock, L3.Res.fl, L3.Res.bind, slot, L3.T.dat, L3.T.pure, L3.D.flat, qok, isQ, L3.E.quiet, quiets, dats, truth, wargs, walk, L3.lock, L3.unlock, Option.bind_some, Option.map_some, prm, tests]
  obtain ⟨ρ3, g3, e2, e3, qs, rfl, hq, _⟩ := forL_go (inj := fun (k : Nat) => PyData.tuple [.int (k : Int), .int (lv.getD k 0)]) (tg := .t [.n 2, .n 3]) (body := exb F rankL)
    (fun rest ρ => ∃ e2 e3 qs, ρ = [some ((L3.D.p (PyData.tuple (iL lv)))), some (.l (bL qs)), e2, e3, none, none] ∧ qs ++ (rest.flatMap fun (x : Nat) => ((List.range lv.length).filter fun (h : Nat) => decide (vw lv x < vw lv h)).map fun (h : Nat) => ((x : Int), (h : Int))) = rnk lv.length (vw lv) ∧ qs.length + 8 * rest.length ≤ 64)
    (List.range lv.length) [some ((L3.D.p (PyData.tuple (iL lv)))), some (.l []), none, none, none, none] ⟨none, none, [], rfl, rfl, by rw [List.length_range]; simp; omega⟩ (by
      rintro x r ρ ⟨l, el⟩ ⟨e2, e3, qs, rfl, hq, hl2⟩
      refine ⟨[some ((L3.D.p (PyData.tuple (iL lv)))), some (.l (bL qs)), some (.p (.int (x : Int))), some (.p (.int (lv.getD x 0))), none, none], rfl, ?_⟩
      have g := comp_ev (α := Nat) (fun (k : Nat) => PyData.tuple [.int (k : Int), .int (lv.getD k 0)]) (fun h => decide (vw lv x < vw lv h)) (fun h => .tuple [.int (x : Int), .int (h : Int)]) (List.range lv.length) (fun h => [some ((L3.D.p (PyData.tuple (iL lv)))), some (.l (bL qs)), some (.p (.int (x : Int))), some (.p (.int (lv.getD x 0))), some (.p (.int (h : Int))), some (.p (.int (lv.getD h 0)))]) (own := [4, 5]) (tg := .t [.n 4, .n 5]) (k := .enum) (its := [.v 0]) (cond := [.cmp .lt (.pk 3) (.pk 5)]) (elt := .tup [.v 2, .v 4]) (F := F)
        (ρ := [some ((L3.D.p (PyData.tuple (iL lv)))), some (.l (bL qs)), some (.p (.int (x : Int))), some (.p (.int (lv.getD x 0))), none, none]) (ρ1 := [some ((L3.D.p (PyData.tuple (iL lv)))), some (.l (bL qs)), some (.p (.int (x : Int))), some (.p (.int (lv.getD x 0))), none, none]) (evl_vp rfl rfl) en rfl (by rw [List.length_range]; omega) (fun h hh => ⟨rfl, rfl, by
          have c := cmp_lt (lv.getD x 0) (lv.getD h 0)
          unfold vw
          generalize lv.getD x 0 = u1 at *
          generalize lv.getD h 0 = u2 at *
          generalize iL lv = k1 at *
          generalize bL qs = k2 at *
          simp [exb, exs, tst, ev, evd, evl, evo, evk, evi, kCall, takeArgs, putBack, chg, has, atK, isL, isOwnL, margs, pures, fz, sto, stoD, L3.Fl.seq, L3.Fl.unlock, L3.Res.fl, L3.Res.bind, slot, L3.T.dat, L3.T.pure, L3.D.flat, qok, isQ, L3.E.quiet, quiets, dats, truth, wargs, walk, L3.lock, L3.unlock, Option.bind_some, Option.map_some, prm, tests, c], fun _ => by
          generalize lv.getD x 0 = u1 at *
          generalize lv.getD h 0 = u2 at *
          generalize iL lv = k1 at *
          generalize bL qs = k2 at *
          simp [exb, exs, tst, ev, evd, evl, evo, evk, evi, kCall, takeArgs, putBack, chg, has, atK, isL, isOwnL, margs, pures, fz, sto, stoD, L3.Fl.seq, L3.Fl.unlock, L3.Res.fl, L3.Res.bind, slot, L3.T.dat, L3.T.pure, L3.D.flat, qok, isQ, L3.E.quiet, quiets, dats, truth, wargs, walk, L3.lock, L3.unlock, Option.bind_some, Option.map_some, prm, tests, two_le]⟩)
      have e : ((List.range lv.length).filter fun (h : Nat) => decide (vw lv x < vw lv h)).map (fun (h : Nat) => PyData.tuple [.int (x : Int), .int (h : Int)]) = bL (((List.range lv.length).filter fun (h : Nat) => decide (vw lv x < vw lv h)).map fun (h : Nat) => ((x : Int), (h : Int))) := by simp [bL, pP]
      rw [e] at g
      have fl : (((List.range lv.length).filter fun (h : Nat) => decide (vw lv x < vw lv h)).map fun (h : Nat) => ((x : Int), (h : Int))).length ≤ 8 := by
        rw [List.length_map]
        exact Nat.le_trans (List.length_filter_le _ _) (by rw [List.length_range]; exact hl)
      rw [List.length_cons] at hl2
      rw [List.flatMap_cons, ← List.append_assoc] at hq
      generalize hz : (((List.range lv.length).filter fun (h : Nat) => decide (vw lv x < vw lv h)).map fun (h : Nat) => ((x : Int), (h : Int))) = zs at *
      have a := ext_go (i := 1) (x0 := bL qs) rfl g rfl (by rw [len_bL, len_bL]; omega)
      rw [app_bL] at a
      rw [rankL, exb_go a, exb]
      exact ⟨_, _, qs ++ zs, rfl, hq, by rw [List.length_append]; omega⟩)
  have hq : qs ++ [] = _ := hq
  rw [List.append_nil] at hq
  rw [hq] at g3
  have a2 : exs F (.for (.t [.n 2, .n 3]) .enum none [.v 0] rankL) [some ((L3.D.p (PyData.tuple (iL lv)))), some (.l []), none, none, none, none] = .nx [some ((L3.D.p (PyData.tuple (iL lv)))), some (.l (bL (rnk lv.length (vw lv)))), e2, e3, none, none] := by
    rw [for_ev (evl_vp rfl rfl) en]; exact g3
  have a3 : exs F (.ret (.bi .tuple [.pk 1])) [some ((L3.D.p (PyData.tuple (iL lv)))), some (.l (bL (rnk lv.length (vw lv)))), e2, e3, none, none] = .rt ((L3.D.p (PyData.tuple (bL (rnk lv.length (vw lv)))))) [some ((L3.D.p (PyData.tuple (iL lv)))), some (.l (bL (rnk lv.length (vw lv)))), e2, e3, none, none] := by
    have t := tuple_l (bL (rnk lv.length (vw lv)))
    show _ = Fl.rt (.p (.tuple (bL (rnk lv.length (vw lv))))) _
    generalize bL (rnk lv.length (vw lv)) = q at *
    generalize iL lv = q2 at *
    simp [exb, exs, tst, ev, evd, evl, evo, evk, evi, kCall, takeArgs, putBack, chg, has, atK, isL, isOwnL, margs, pures, fz, sto, stoD, L3.Fl.seq, L3.Fl.unlock, L3.Res.fl, L3.Res.bind, slot, L3.T.dat, L3.T.pure, L3.D.flat, qok, isQ, L3.E.quiet, quiets, dats, truth, wargs, walk, L3.lock, L3.unlock, Option.bind_some, Option.map_some, prm, tests, t]
  rw [rankB, exb_go a1, exb_go a2, exb_rt a3]
  rfl
def twosB : List S := [
  .asg (.n 1) (.lst []),
  .for (.n 2) .rng1 none [.v 0] [.expr (.mut .extend 1 [] [.lc [3] (.n 3) .rng1 none [.v 0] [.cmp .ne (.pk 3) (.pk 2)] (.tup [.v 2, .v 3])])],
  .ret (.mv 1)]
def twosD : Def := ⟨1, 4, [], twosB⟩
theorem twos_def {P : List Def} {i : Nat} (h : P[i]? = some twosD) (m : Nat) {nn : Int} (h0 : 0 ≤ nn) (h8 : nn ≤ 8) : callF P (m + 1) i [.p (.int nn)] = .ok (.l (bL (twos nn.toNat))) [none] := by
  rw [callF_fr (d := twosD) h rfl]
  generalize callF P m = F
  show toFR 1 [] (exb F twosB [some (.p (.int nn)), none, none, none]) = _
  have hw := pw_rng h0 (show nn < 1000000 by omega)
  have a1 : exs F (.asg (.n 1) (.lst [])) [some (.p (.int nn)), none, none, none] = .nx [some (.p (.int nn)), some (.l []), none, none] := by simp [exb, exs, tst, ev, evd, evl, evo, evk, evi, kCall, takeArgs, putBack, chg, has, atK, isL, isOwnL, margs, pures, fz, sto, stoD, L3.Fl.seq, L3.Fl.unlock, L3.Res.fl, L3.Res.bind, slot, L3.T.dat, L3.T.pure, L3.D.flat, qok, isQ, L3.E.quiet, quiets, dats, truth, wargs, walk, L3.lock, L3.unlock, Option.bind_some, Option.map_some, prm, tests]
  obtain ⟨ρ3, g3, e2, qs, rfl, hq, _⟩ := forL_go (inj := iN) (tg := .n 2) (body := exb F [.expr (.mut .extend 1 [] [.lc [3] (.n 3) .rng1 none [.v 0] [.cmp .ne (.pk 3) (.pk 2)] (.tup [.v 2, .v 3])])])
    (fun rest ρ => ∃ e2 qs, ρ = [some (.p (.int nn)), some (.l (bL qs)), e2, none] ∧ qs ++ (rest.flatMap fun (x : Nat) => ((List.range nn.toNat).filter fun (h : Nat) => !decide ((h : Int) = (x : Int))).map fun (h : Nat) => ((x : Int), (h : Int))) = twos nn.toNat ∧ qs.length + 8 * rest.length ≤ 64)
    (List.range nn.toNat) [some (.p (.int nn)), some (.l []), none, none] ⟨none, [], rfl, rfl, by rw [List.length_range]; simp; omega⟩ (by
      rintro x r ρ ⟨l, el⟩ ⟨e2, qs, rfl, hq, hl2⟩
      refine ⟨[some (.p (.int nn)), some (.l (bL qs)), some (.p (.int (x : Int))), none], rfl, ?_⟩
      have g := comp_ev (α := Nat) iN (fun h => !decide ((h : Int) = (x : Int))) (fun h => .tuple [.int (x : Int), .int (h : Int)]) (List.range nn.toNat) (fun h => [some (.p (.int nn)), some (.l (bL qs)), some (.p (.int (x : Int))), some (.p (.int (h : Int)))]) (own := [3]) (tg := .n 3) (k := .rng1) (its := [.v 0]) (cond := [.cmp .ne (.pk 3) (.pk 2)]) (elt := .tup [.v 2, .v 3]) (F := F)
        (ρ := [some (.p (.int nn)), some (.l (bL qs)), some (.p (.int (x : Int))), none]) (ρ1 := [some (.p (.int nn)), some (.l (bL qs)), some (.p (.int (x : Int))), none]) (evl_vp rfl rfl) hw rfl (by rw [List.length_range]; omega) (fun h hh => ⟨rfl, rfl, by
          have c := cmp_neI (h : Int) (x : Int)
          generalize bL qs = k2 at *
          generalize (h : Int) = hh at *
          generalize (x : Int) = xx at *
          simp [exb, exs, tst, ev, evd, evl, evo, evk, evi, kCall, takeArgs, putBack, chg, has, atK, isL, isOwnL, margs, pures, fz, sto, stoD, L3.Fl.seq, L3.Fl.unlock, L3.Res.fl, L3.Res.bind, slot, L3.T.dat, L3.T.pure, L3.D.flat, qok, isQ, L3.E.quiet, quiets, dats, truth, wargs, walk, L3.lock, L3.unlock, Option.bind_some, Option.map_some, prm, tests, c], fun _ => by
          generalize bL qs = k2 at *
          simp [exb, exs, tst, ev, evd, evl, evo, evk, evi, kCall, takeArgs, putBack, chg, has, atK, isL, isOwnL, margs, pures, fz, sto, stoD, L3.Fl.seq, L3.Fl.unlock, L3.Res.fl, L3.Res.bind, slot, L3.T.dat, L3.T.pure, L3.D.flat, qok, isQ, L3.E.quiet, quiets, dats, truth, wargs, walk, L3.lock, L3.unlock, Option.bind_some, Option.map_some, prm, tests, two_le]⟩)
      have e : ((List.range nn.toNat).filter fun (h : Nat) => !decide ((h : Int) = (x : Int))).map (fun (h : Nat) => PyData.tuple [.int (x : Int), .int (h : Int)]) = bL (((List.range nn.toNat).filter fun (h : Nat) => !decide ((h : Int) = (x : Int))).map fun (h : Nat) => ((x : Int), (h : Int))) := by simp [bL, pP]
      rw [e] at g
      have fl : (((List.range nn.toNat).filter fun (h : Nat) => !decide ((h : Int) = (x : Int))).map fun (h : Nat) => ((x : Int), (h : Int))).length ≤ 8 := by
        rw [List.length_map]
        exact Nat.le_trans (List.length_filter_le _ _) (by rw [List.length_range]; omega)
      rw [List.length_cons] at hl2
      rw [List.flatMap_cons, ← List.append_assoc] at hq
      generalize hz : (((List.range nn.toNat).filter fun (h : Nat) => !decide ((h : Int) = (x : Int))).map fun (h : Nat) => ((x : Int), (h : Int))) = zs at *
      have a := ext_go (i := 1) (x0 := bL qs) rfl g rfl (by rw [len_bL, len_bL]; omega)
      rw [app_bL] at a
      rw [exb_go a, exb]
      exact ⟨_, qs ++ zs, rfl, hq, by rw [List.length_append]; omega⟩)
  have hq : qs ++ [] = _ := hq
  rw [List.append_nil] at hq
  rw [hq] at g3
  have a2 : exs F (.for (.n 2) .rng1 none [.v 0] [.expr (.mut .extend 1 [] [.lc [3] (.n 3) .rng1 none [.v 0] [.cmp .ne (.pk 3) (.pk 2)] (.tup [.v 2, .v 3])])]) [some (.p (.int nn)), some (.l []), none, none] = .nx [some (.p (.int nn)), some (.l (bL (twos nn.toNat))), e2, none] := by
    rw [for_ev (evl_vp rfl rfl) hw]; exact g3
  have a3 : exs F (.ret (.mv 1)) [some (.p (.int nn)), some (.l (bL (twos nn.toNat))), e2, none] = .rt (.l (bL (twos nn.toNat))) [some (.p (.int nn)), none, e2, none] := by
    generalize bL (twos nn.toNat) = q at *
    simp [exb, exs, tst, ev, evd, evl, evo, evk, evi, kCall, takeArgs, putBack, chg, has, atK, isL, isOwnL, margs, pures, fz, sto, stoD, L3.Fl.seq, L3.Fl.unlock, L3.Res.fl, L3.Res.bind, slot, L3.T.dat, L3.T.pure, L3.D.flat, qok, isQ, L3.E.quiet, quiets, dats, truth, wargs, walk, L3.lock, L3.unlock, Option.bind_some, Option.map_some, prm, tests]
  rw [twosB, exb_go a1, exb_go a2, exb_rt a3]
  rfl
end K06

set_option maxHeartbeats 4000000
namespace K06
open PySem L3
def kindD : Def := ⟨2, 2, [], [.ret (.and (.bi (.isa .int) [.pk 1]) (.and (.not (.bi (.isa .bool) [.pk 1])) (.chain .le .lt (.c (.int 0)) (.pk 1) (.pk 0))))]⟩
theorem kind_ok {P : List Def} {i : Nat} (h : P[i]? = some kindD) (m : Nat) {nn x : Int} (h0 : 0 ≤ x) (h1 : x < nn) : callF P (m + 1) i [.p (.int nn), .p (.int x)] = .ok (.p (.bool true)) [none, none] := by
  rw [callF_fr (d := kindD) h rfl]
  generalize callF P m = F
  have c1 := cmp_le 0 x
  have c2 := cmp_lt x nn
  rw [decide_eq_true h0] at c1
  rw [decide_eq_true h1] at c2
  show toFR 2 [] (exb F [.ret (.and (.bi (.isa .int) [.pk 1]) (.and (.not (.bi (.isa .bool) [.pk 1])) (.chain .le .lt (.c (.int 0)) (.pk 1) (.pk 0))))] [some (.p (.int nn)), some (.p (.int x))]) = _
  have e : exb F [.ret (.and (.bi (.isa .int) [.pk 1]) (.and (.not (.bi (.isa .bool) [.pk 1])) (.chain .le .lt (.c (.int 0)) (.pk 1) (.pk 0))))] [some (.p (.int nn)), some (.p (.int x))] = .rt (.p (.bool true)) [some (.p (.int nn)), some (.p (.int x))] := by
    simp [exb, exs, tst, ev, evd, evl, evo, evk, evi, kCall, takeArgs, putBack, chg, has, atK, isL, isOwnL, margs, pures, fz, sto, stoD, L3.Fl.seq, L3.Fl.unlock, L3.Res.fl, L3.Res.bind, slot, L3.T.dat, L3.T.pure, L3.D.flat, qok, isQ, L3.E.quiet, quiets, dats, truth, wargs, walk, L3.lock, L3.unlock, Option.bind_some, Option.map_some, prm, tests, bi, isTy, c1, c2]
  rw [e]; rfl
theorem le_pP (p q : PI2) : cmpD .le (pP p) (pP q) = some (leP p q) := by
  have s : ∀ p : PI2, shp (pP p) = true := fun p => (Sh.pP (k := 0)).shp
  simp only [cmpD, s, Bool.and_self, if_true]
  obtain ⟨a, b⟩ := p
  obtain ⟨c, d⟩ := q
  simp only [pP, leD, leAll, PyData.eqv, leP]
  by_cases e : a = c
  · subst e
    simp
    by_cases e : b = d
    · subst e; simp
    · simp [e]
  · simp [e]
    omega
def dueB (fk : Nat) : List S := [
  .ifs (.not (.bi (.isa .tup) [.pk 1])) [.ret (.c (.str "form"))] [],
  .for (.t [.n 2, .n 3]) .enum none [.v 1] [.ifs (.or (.not (.bi (.isa .tup) [.pk 3])) (.cmp .ne (.bi .len [.pk 3]) (.c (.int 2)))) [.ret (.tup [.c (.str "pair"), .v 2])] [], .ifs (.or (.not (.call fk [.v 0, .at (.pk 3) (.c (.int 0))])) (.not (.call fk [.v 0, .at (.pk 3) (.c (.int 1))]))) [.ret (.tup [.c (.str "pair"), .v 2])] []],
  .for (.n 2) .rng2 none [.c (.int 1), .bi .len [.pk 1]] [.ifs (.cmp .le (.at (.pk 1) (.v 2)) (.at (.pk 1) (.bin .sub (.pk 2) (.c (.int 1))))) [.ret (.tup [.c (.str "order"), .v 2])] []],
  .for (.n 4) .rng1 none [.v 0] [.ifs (.cmp .isin (.tup [.v 4, .v 4]) (.pk 1)) [.ret (.tup [.c (.str "self"), .v 4])] []],
  .for (.t [.n 4, .n 5]) .seq none [.v 1] [.for (.n 6) .rng1 none [.v 0] [.ifs (.and (.cmp .isin (.tup [.v 5, .v 6]) (.pk 1)) (.cmp .notin (.tup [.v 4, .v 6]) (.pk 1))) [.ret (.tup [.c (.str "whom"), .v 4, .v 5, .v 6])] []]],
  .ret (.c .none)]
def dueD (fk : Nat) : Def := ⟨2, 7, [], dueB fk⟩
theorem at_B {b : List PI2} {k : Nat} (h : k < b.length) : atD (.tuple (bL b)) (.int (k : Int)) = some (pP b[k]) := by
  have h2 : k < (bL b).length := by rw [len_bL]; exact h
  have e := ix_nat (n := (bL b).length) (r := (k : Int)) (by omega) (by omega)
  simp only [atD, e, Option.bind_some, Int.toNat_natCast]
  rw [List.getElem?_eq_getElem h2]
  simp [bL]
theorem pw_12 {l : Nat} (h : l ≤ 1000) : (pures [T.o (.p (.int 1)), T.o (.p (.int ((l : Nat) : Int)))]).bind (walk .rng2) = some ((List.range (l - 1)).map fun (k : Nat) => PyData.int (1 + (k : Int) * 1)) := by
  have w : ∀ i j : Int, small62 i = true → small62 j = true → walk .rng2 [.int i, .int j] = some (rangeD i (j - i).toNat 1) := fun i j h1 h2 => by
    simp only [walk, h1, h2, Bool.and_self, if_true]
  have s2 : small62 ((l : Nat) : Int) = true := by
    generalize hx : ((l : Nat) : Int) = x
    simp [small62]; omega
  have s1 : small62 1 = true := by simp [small62]
  have := w 1 l s1 s2
  have e : ((l : Int) - 1).toNat = l - 1 := by omega
  have r : rangeD 1 ((l : Int) - 1).toNat 1 = (List.range (l - 1)).map fun (k : Nat) => PyData.int (1 + (k : Int) * 1) := by rw [e]; rfl
  exact pw2 (this.trans (congrArg some r))
theorem ord_body {F : FT} {a e3 : Option L3.D} {q : List PyData} {kk k' : Int} {p1 p2 : PyData} (t1 : atD (.tuple q) (.int kk) = some p1) (t2 : atD (.tuple q) (.int k') = some p2) (c : cmpD .le p1 p2 = some false) (s : bin .sub (.int kk) (.int 1) = some (.p (.int k'))) :
    exb F [.ifs (.cmp .le (.at (.pk 1) (.v 2)) (.at (.pk 1) (.bin .sub (.pk 2) (.c (.int 1))))) [.ret (.tup [.c (.str "order"), .v 2])] []] [a, some (.p (.tuple q)), some (.p (.int kk)), e3, none, none, none] = .nx [a, some (.p (.tuple q)), some (.p (.int kk)), e3, none, none, none] := by
  simp [exb, exs, tst, ev, evd, evl, evo, evk, evi, kCall, takeArgs, putBack, chg, has, atK, isL, isOwnL, margs, pures, fz, sto, stoD, L3.Fl.seq, L3.Fl.unlock, L3.Res.fl, L3.Res.bind, slot, L3.T.dat, L3.T.pure, L3.D.flat, qok, isQ, L3.E.quiet, quiets, dats, truth, wargs, walk, L3.lock, L3.unlock, Option.bind_some, Option.map_some, prm, tests, t1, t2, c, s]
theorem self_body {F : FT} {a e2 e3 e5 e6 : Option L3.D} {q : List PyData} {k : Int} (c : cmpD .isin (.tuple [.int k, .int k]) (.tuple q) = some false) :
    exb F [.ifs (.cmp .isin (.tup [.v 4, .v 4]) (.pk 1)) [.ret (.tup [.c (.str "self"), .v 4])] []] [a, some (.p (.tuple q)), e2, e3, some (.p (.int k)), e5, e6] = .nx [a, some (.p (.tuple q)), e2, e3, some (.p (.int k)), e5, e6] := by
  simp [exb, exs, tst, ev, evd, evl, evo, evk, evi, kCall, takeArgs, putBack, chg, has, atK, isL, isOwnL, margs, pures, fz, sto, stoD, L3.Fl.seq, L3.Fl.unlock, L3.Res.fl, L3.Res.bind, slot, L3.T.dat, L3.T.pure, L3.D.flat, qok, isQ, L3.E.quiet, quiets, dats, truth, wargs, walk, L3.lock, L3.unlock, Option.bind_some, Option.map_some, prm, tests, c, two_le]
theorem whom_body {F : FT} {a e2 e3 : Option L3.D} {q : List PyData} {x y k : Int} {c1 c2 : Bool} (h1 : cmpD .isin (.tuple [.int y, .int k]) (.tuple q) = some c1) (h2 : cmpD .notin (.tuple [.int x, .int k]) (.tuple q) = some c2) (h : (c1 && c2) = false) :
    exb F [.ifs (.and (.cmp .isin (.tup [.v 5, .v 6]) (.pk 1)) (.cmp .notin (.tup [.v 4, .v 6]) (.pk 1))) [.ret (.tup [.c (.str "whom"), .v 4, .v 5, .v 6])] []] [a, some (.p (.tuple q)), e2, e3, some (.p (.int x)), some (.p (.int y)), some (.p (.int k))] = .nx [a, some (.p (.tuple q)), e2, e3, some (.p (.int x)), some (.p (.int y)), some (.p (.int k))] := by
  cases c1 <;> cases c2 <;> first | (simp at h; done) | simp [exb, exs, tst, ev, evd, evl, evo, evk, evi, kCall, takeArgs, putBack, chg, has, atK, isL, isOwnL, margs, pures, fz, sto, stoD, L3.Fl.seq, L3.Fl.unlock, L3.Res.fl, L3.Res.bind, slot, L3.T.dat, L3.T.pure, L3.D.flat, qok, isQ, L3.E.quiet, quiets, dats, truth, wargs, walk, L3.lock, L3.unlock, Option.bind_some, Option.map_some, prm, tests, h1, h2, two_le]
theorem due_none {P : List Def} {fk i : Nat} (h : P[i]? = some (dueD fk)) (hk : P[fk]? = some kindD) (m : Nat) {nn : Int} (h0 : 0 ≤ nn) (h8 : nn ≤ 8) {b : List PI2} (hb : Bk8 nn.toNat b) (ir : ∀ x, (x, x) ∉ b) : callF P (m + 2) i [.p (.int nn), (L3.D.p (PyData.tuple (bL b)))] = .ok (.p .none) [none, none] := by
  have kind := fun {x : Int} (h0 : 0 ≤ x) (h1 : x < nn) => kind_ok hk m h0 h1
  rw [callF_fr (d := dueD fk) h rfl]
  generalize callF P (m + 1) = F at *
  show toFR 2 [] (exb F (dueB fk) [some (.p (.int nn)), some ((L3.D.p (PyData.tuple (bL b)))), none, none, none, none, none]) = _
  have hw := pw_rng h0 (show nn < 1000000 by omega)
  have lb := hb.len (by omega)
  have a1 : exs F (.ifs (.not (.bi (.isa .tup) [.pk 1])) [.ret (.c (.str "form"))] []) [some (.p (.int nn)), some ((L3.D.p (PyData.tuple (bL b)))), none, none, none, none, none] = .nx [some (.p (.int nn)), some ((L3.D.p (PyData.tuple (bL b)))), none, none, none, none, none] := by
    generalize bL b = q
    simp [exb, exs, tst, ev, evd, evl, evo, evk, evi, kCall, takeArgs, putBack, chg, has, atK, isL, isOwnL, margs, pures, fz, sto, stoD, L3.Fl.seq, L3.Fl.unlock, L3.Res.fl, L3.Res.bind, slot, L3.T.dat, L3.T.pure, L3.D.flat, qok, isQ, L3.E.quiet, quiets, dats, truth, wargs, walk, L3.lock, L3.unlock, Option.bind_some, Option.map_some, prm, tests, bi, isTy]
  -- the pairs
  have en : (pures [T.o ((L3.D.p (PyData.tuple (bL b))))]).bind (walk .enum) = some (b.zipIdx.map fun p => PyData.tuple [.int (p.2 : Nat), pP p.1]) := by
    have := enum_map pP b 0
    exact pw1 (k := .enum) (by simp only [walk, bL]; rw [this])
  obtain ⟨ρ2, g2, e2, e3, rfl⟩ := forL_go (inj := fun p : PI2 × Nat => PyData.tuple [.int (p.2 : Nat), pP p.1]) (tg := .t [.n 2, .n 3]) (body := exb F [.ifs (.or (.not (.bi (.isa .tup) [.pk 3])) (.cmp .ne (.bi .len [.pk 3]) (.c (.int 2)))) [.ret (.tup [.c (.str "pair"), .v 2])] [], .ifs (.or (.not (.call fk [.v 0, .at (.pk 3) (.c (.int 0))])) (.not (.call fk [.v 0, .at (.pk 3) (.c (.int 1))]))) [.ret (.tup [.c (.str "pair"), .v 2])] []])
    (fun rest ρ => ∃ e2 e3, ρ = [some (.p (.int nn)), some ((L3.D.p (PyData.tuple (bL b)))), e2, e3, none, none, none]) b.zipIdx [some (.p (.int nn)), some ((L3.D.p (PyData.tuple (bL b)))), none, none, none, none, none] ⟨none, none, rfl⟩ (by
      rintro ⟨p, k⟩ r ρ ⟨l, el⟩ ⟨e2, e3, rfl⟩
      have mx : (p, k) ∈ b.zipIdx := by rw [el]; simp
      have hp : p ∈ b := by
        have := List.mem_zipIdx mx
        simp only [Nat.zero_add, Nat.sub_zero] at this
        rw [this.2.2]
        exact List.getElem_mem _
      have ip := hb.inn p hp
      have k1 := kind (x := p.1) (by omega) (by omega)
      have k2 := kind (x := p.2) (by omega) (by omega)
      refine ⟨[some (.p (.int nn)), some ((L3.D.p (PyData.tuple (bL b)))), some (.p (.int (k : Nat))), some (.p (pP p)), none, none, none], rfl, ?_⟩
      have l2 : bi .len [pP p] = some (.p (.int 2)) := rfl
      have is : bi (.isa .tup) [pP p] = some (.p (.bool true)) := rfl
      have t0 := at_p0 p
      have t1 := at_p1 p
      have c := cmp_neI 2 2
      have e : exb F [.ifs (.or (.not (.bi (.isa .tup) [.pk 3])) (.cmp .ne (.bi .len [.pk 3]) (.c (.int 2)))) [.ret (.tup [.c (.str "pair"), .v 2])] [], .ifs (.or (.not (.call fk [.v 0, .at (.pk 3) (.c (.int 0))])) (.not (.call fk [.v 0, .at (.pk 3) (.c (.int 1))]))) [.ret (.tup [.c (.str "pair"), .v 2])] []] [some (.p (.int nn)), some ((L3.D.p (PyData.tuple (bL b)))), some (.p (.int (k : Nat))), some (.p (pP p)), none, none, none] =
          .nx [some (.p (.int nn)), some ((L3.D.p (PyData.tuple (bL b)))), some (.p (.int (k : Nat))), some (.p (pP p)), none, none, none] := by
        generalize bL b = q
        generalize pP p = pp at *
        simp [exb, exs, tst, ev, evd, evl, evo, evk, evi, kCall, takeArgs, putBack, chg, has, atK, isL, isOwnL, margs, pures, fz, sto, stoD, L3.Fl.seq, L3.Fl.unlock, L3.Res.fl, L3.Res.bind, slot, L3.T.dat, L3.T.pure, L3.D.flat, qok, isQ, L3.E.quiet, quiets, dats, truth, wargs, walk, L3.lock, L3.unlock, Option.bind_some, Option.map_some, prm, tests, l2, is, t0, t1, c, k1, k2]
      rw [e]
      exact ⟨_, _, rfl⟩)
  have a2 : exs F (.for (.t [.n 2, .n 3]) .enum none [.v 1] [.ifs (.or (.not (.bi (.isa .tup) [.pk 3])) (.cmp .ne (.bi .len [.pk 3]) (.c (.int 2)))) [.ret (.tup [.c (.str "pair"), .v 2])] [], .ifs (.or (.not (.call fk [.v 0, .at (.pk 3) (.c (.int 0))])) (.not (.call fk [.v 0, .at (.pk 3) (.c (.int 1))]))) [.ret (.tup [.c (.str "pair"), .v 2])] []]) [some (.p (.int nn)), some ((L3.D.p (PyData.tuple (bL b)))), none, none, none, none, none] = .nx [some (.p (.int nn)), some ((L3.D.p (PyData.tuple (bL b)))), e2, e3, none, none, none] := by
    rw [for_ev (evl_vp rfl rfl) en]; exact g2
  -- the order
  have ew : ∀ {e2 e3}, evl F [.c (.int 1), .bi .len [.pk 1]] [some (.p (.int nn)), some ((L3.D.p (PyData.tuple (bL b)))), e2, e3, none, none, none] = .ok [.o (.p (.int 1)), .o (.p (.int ((b.length : Nat) : Int)))] [some (.p (.int nn)), some ((L3.D.p (PyData.tuple (bL b)))), e2, e3, none, none, none] := by
    intros
    have l := len_t (bL b)
    rw [len_bL] at l
    generalize bL b = q at *
    simp [exb, exs, tst, ev, evd, evl, evo, evk, evi, kCall, takeArgs, putBack, chg, has, atK, isL, isOwnL, margs, pures, fz, sto, stoD, L3.Fl.seq, L3.Fl.unlock, L3.Res.fl, L3.Res.bind, slot, L3.T.dat, L3.T.pure, L3.D.flat, qok, isQ, L3.E.quiet, quiets, dats, truth, wargs, walk, L3.lock, L3.unlock, Option.bind_some, Option.map_some, prm, tests, l]
  have w2 : (pures [T.o (.p (.int 1)), T.o (.p (.int ((b.length : Nat) : Int)))]).bind (walk .rng2) = some ((List.range (b.length - 1)).map fun (k : Nat) => PyData.int (1 + (k : Int) * 1)) := by
    exact pw_12 (by omega)
  obtain ⟨ρ3, g3, e2', rfl⟩ := forL_go (inj := fun (k : Nat) => PyData.int (1 + (k : Int) * 1)) (tg := .n 2) (body := exb F [.ifs (.cmp .le (.at (.pk 1) (.v 2)) (.at (.pk 1) (.bin .sub (.pk 2) (.c (.int 1))))) [.ret (.tup [.c (.str "order"), .v 2])] []])
    (fun rest ρ => ∃ e2, ρ = [some (.p (.int nn)), some ((L3.D.p (PyData.tuple (bL b)))), e2, e3, none, none, none]) (List.range (b.length - 1)) [some (.p (.int nn)), some ((L3.D.p (PyData.tuple (bL b)))), e2, e3, none, none, none] ⟨e2, rfl⟩ (by
      rintro k r ρ ⟨l, el⟩ ⟨e2, rfl⟩
      have hk : k < b.length - 1 := List.mem_range.mp (by rw [el]; simp)
      refine ⟨[some (.p (.int nn)), some ((L3.D.p (PyData.tuple (bL b)))), some (.p (.int (1 + (k : Int) * 1))), e3, none, none, none], rfl, ?_⟩
      have t1 := at_B (b := b) (k := k + 1) (by omega)
      have t2 := at_B (b := b) (k := k) (by omega)
      have lt : ltP b[k] b[k + 1] := List.pairwise_iff_getElem.mp hb.srt k (k + 1) (by omega) (by omega) (by omega)
      have c := le_pP b[k + 1] b[k]
      have nl : leP b[k + 1] b[k] = false := by
        rw [Bool.eq_false_iff]
        intro z
        rw [leP_iff] at z
        unfold ltP at lt
        omega
      rw [nl] at c
      have s := bin_sub (1 + (k : Int) * 1) 1
      rw [show 1 + (k : Int) * 1 - 1 = (k : Int) by omega] at s
      rw [show (((k + 1 : Nat)) : Int) = 1 + (k : Int) * 1 by omega] at t1
      have e := ord_body (F := F) (a := some (.p (.int nn))) (e3 := e3) t1 t2 c s
      rw [e]
      exact ⟨_, rfl⟩)
  have a3 : exs F (.for (.n 2) .rng2 none [.c (.int 1), .bi .len [.pk 1]] [.ifs (.cmp .le (.at (.pk 1) (.v 2)) (.at (.pk 1) (.bin .sub (.pk 2) (.c (.int 1))))) [.ret (.tup [.c (.str "order"), .v 2])] []]) [some (.p (.int nn)), some ((L3.D.p (PyData.tuple (bL b)))), e2, e3, none, none, none] = .nx [some (.p (.int nn)), some ((L3.D.p (PyData.tuple (bL b)))), e2', e3, none, none, none] := by
    rw [for_ev ew w2]; exact g3
  -- none passes itself
  obtain ⟨ρ4, g4, e4, rfl⟩ := forL_go (inj := iN) (tg := .n 4) (body := exb F [.ifs (.cmp .isin (.tup [.v 4, .v 4]) (.pk 1)) [.ret (.tup [.c (.str "self"), .v 4])] []])
    (fun rest ρ => ∃ e4, ρ = [some (.p (.int nn)), some ((L3.D.p (PyData.tuple (bL b)))), e2', e3, e4, none, none]) (List.range nn.toNat) [some (.p (.int nn)), some ((L3.D.p (PyData.tuple (bL b)))), e2', e3, none, none, none] ⟨none, rfl⟩ (by
      rintro k r ρ ⟨l, el⟩ ⟨e4, rfl⟩
      refine ⟨[some (.p (.int nn)), some ((L3.D.p (PyData.tuple (bL b)))), e2', e3, some (.p (.int (k : Int))), none, none], rfl, ?_⟩
      have c := cin_b2 (k : Int) (k : Int) b
      rw [decide_eq_false (ir _)] at c
      have e := self_body (F := F) (a := some (.p (.int nn))) (e2 := e2') (e3 := e3) (e5 := none) (e6 := none) c
      rw [e]
      exact ⟨_, rfl⟩)
  have a4 : exs F (.for (.n 4) .rng1 none [.v 0] [.ifs (.cmp .isin (.tup [.v 4, .v 4]) (.pk 1)) [.ret (.tup [.c (.str "self"), .v 4])] []]) [some (.p (.int nn)), some ((L3.D.p (PyData.tuple (bL b)))), e2', e3, none, none, none] = .nx [some (.p (.int nn)), some ((L3.D.p (PyData.tuple (bL b)))), e2', e3, e4, none, none] := by
    rw [for_ev (evl_vp rfl rfl) hw]; exact g4
  -- whom it passes
  obtain ⟨ρ5, g5, f4, f5, f6, rfl⟩ := forL_go (inj := pP) (tg := .t [.n 4, .n 5]) (body := exb F [.for (.n 6) .rng1 none [.v 0] [.ifs (.and (.cmp .isin (.tup [.v 5, .v 6]) (.pk 1)) (.cmp .notin (.tup [.v 4, .v 6]) (.pk 1))) [.ret (.tup [.c (.str "whom"), .v 4, .v 5, .v 6])] []]])
    (fun rest ρ => ∃ e4 e5 e6, ρ = [some (.p (.int nn)), some ((L3.D.p (PyData.tuple (bL b)))), e2', e3, e4, e5, e6]) b [some (.p (.int nn)), some ((L3.D.p (PyData.tuple (bL b)))), e2', e3, e4, none, none] ⟨e4, none, none, rfl⟩ (by
      rintro p r ρ ⟨l, el⟩ ⟨e4, e5, e6, rfl⟩
      have hp : p ∈ b := by rw [el]; simp
      refine ⟨[some (.p (.int nn)), some ((L3.D.p (PyData.tuple (bL b)))), e2', e3, some (.p (.int p.1)), some (.p (.int p.2)), e6], rfl, ?_⟩
      obtain ⟨ρ6, g6, e6', rfl⟩ := forL_go (inj := iN) (tg := .n 6) (body := exb F [.ifs (.and (.cmp .isin (.tup [.v 5, .v 6]) (.pk 1)) (.cmp .notin (.tup [.v 4, .v 6]) (.pk 1))) [.ret (.tup [.c (.str "whom"), .v 4, .v 5, .v 6])] []])
        (fun rest ρ => ∃ e6, ρ = [some (.p (.int nn)), some ((L3.D.p (PyData.tuple (bL b)))), e2', e3, some (.p (.int p.1)), some (.p (.int p.2)), e6]) (List.range nn.toNat) [some (.p (.int nn)), some ((L3.D.p (PyData.tuple (bL b)))), e2', e3, some (.p (.int p.1)), some (.p (.int p.2)), e6] ⟨e6, rfl⟩ (by
          rintro k r ρ ⟨l, el⟩ ⟨e6, rfl⟩
          refine ⟨[some (.p (.int nn)), some ((L3.D.p (PyData.tuple (bL b)))), e2', e3, some (.p (.int p.1)), some (.p (.int p.2)), some (.p (.int (k : Int)))], rfl, ?_⟩
          have c1 := cin_b2 p.2 (k : Int) b
          have c2 := cnot_b2 p.1 (k : Int) b
          have hb' : (decide ((p.2, (k : Int)) ∈ b) && !decide ((p.1, (k : Int)) ∈ b)) = false := by
            by_cases z : (p.2, (k : Int)) ∈ b
            · rw [decide_eq_true (hb.tr p.1 p.2 k hp z)]; simp
            · rw [decide_eq_false z]; rfl
          have e := whom_body (F := F) (a := some (.p (.int nn))) (e2 := e2') (e3 := e3) c1 c2 hb'
          rw [e]
          exact ⟨_, rfl⟩)
      have a : exs F (.for (.n 6) .rng1 none [.v 0] [.ifs (.and (.cmp .isin (.tup [.v 5, .v 6]) (.pk 1)) (.cmp .notin (.tup [.v 4, .v 6]) (.pk 1))) [.ret (.tup [.c (.str "whom"), .v 4, .v 5, .v 6])] []]) [some (.p (.int nn)), some ((L3.D.p (PyData.tuple (bL b)))), e2', e3, some (.p (.int p.1)), some (.p (.int p.2)), e6] = .nx [some (.p (.int nn)), some ((L3.D.p (PyData.tuple (bL b)))), e2', e3, some (.p (.int p.1)), some (.p (.int p.2)), e6'] := by
        rw [for_ev (evl_vp rfl rfl) hw]; exact g6
      rw [exb_go a, exb]
      exact ⟨_, _, _, rfl⟩)
  have a5 : exs F (.for (.t [.n 4, .n 5]) .seq none [.v 1] [.for (.n 6) .rng1 none [.v 0] [.ifs (.and (.cmp .isin (.tup [.v 5, .v 6]) (.pk 1)) (.cmp .notin (.tup [.v 4, .v 6]) (.pk 1))) [.ret (.tup [.c (.str "whom"), .v 4, .v 5, .v 6])] []]]) [some (.p (.int nn)), some ((L3.D.p (PyData.tuple (bL b)))), e2', e3, e4, none, none] = .nx [some (.p (.int nn)), some ((L3.D.p (PyData.tuple (bL b)))), e2', e3, f4, f5, f6] := by
    rw [for_ev (xs := b.map pP) (evl_vp rfl rfl) rfl]; exact g5
  have a6 : exs F (.ret (.c .none)) [some (.p (.int nn)), some ((L3.D.p (PyData.tuple (bL b)))), e2', e3, f4, f5, f6] = .rt (.p .none) [some (.p (.int nn)), some ((L3.D.p (PyData.tuple (bL b)))), e2', e3, f4, f5, f6] := ret_go (by rw [ev])
  rw [dueB, exb_go a1, exb_go a2, exb_go a3, exb_go a4, exb_go a5, exb_rt a6]
  rfl
end K06

set_option maxHeartbeats 4000000
namespace K06
open PySem L3
def shI (xs : List Int) : Str := (PyData.tuple (iL xs)).shown
def shB (b : List PI2) : Str := (PyData.tuple (bL b)).shown
def shT (b : Bool) : Str := (PyData.bool b).shown
theorem rep_i {xs : List Int} (h : ∀ x ∈ xs, 0 ≤ x ∧ x < 8) (l : xs.length ≤ 100) : bi .repr [.tuple (iL xs)] = some (.p (.str (shI xs))) :=
  rep_of (B := 7) (k := 1) (w := 100 * (4 * 7 + 1)) (Pl.tuple (m := 100) (k := 0) (Pl.ints fun x hx => by have := h x hx; have e : (10 : Nat) ^ 7 = 10000000 := by decide
                                                                                                          omega) (by rw [len_iL]; exact l))
theorem rep_b {b : List PI2} (h : ∀ p ∈ b, (0 ≤ p.1 ∧ p.1 < 8) ∧ 0 ≤ p.2 ∧ p.2 < 8) (l : b.length ≤ 100) : bi .repr [.tuple (bL b)] = some (.p (.str (shB b))) :=
  rep_of (B := 7) (k := 2) (w := 100 * (2 * (4 * 7 + 1) + 1)) (Pl.book (fun p hp => by have := h p hp; have e : (10 : Nat) ^ 7 = 10000000 := by decide
                                                                                       constructor <;> omega) l)
theorem rep_t (b : Bool) : bi .repr [.bool b] = some (.p (.str (shT b))) := rep_of (B := 7) (k := 0) (w := 0) Pl.bool
theorem ok_i (xs : List Int) : PyData.strOk (shI xs) = true := shown_okD (by simp [noStr, noStr_ints])
theorem ok_b (b : List PI2) : PyData.strOk (shB b) = true := shown_okD (by simp [noStr, noStr_bL])
theorem ok_t (b : Bool) : PyData.strOk (shT b) = true := shown_okD (by simp [noStr])
theorem ne_self {s : Str} (h : PyData.strOk s = true) : cmpD .ne (.str s) (.str s) = some false := by rw [cmp_neS h h]; simp
theorem eq_selfS {s : Str} (h : PyData.strOk s = true) : cmpD .eq (.str s) (.str s) = some true := by rw [cmp_eqS h h]; simp
theorem fil_up (n : Nat) (p : Int → Bool) : ((List.range n).filter fun (k : Nat) => p (k : Int)).map iN = iL ((upN n).filter p) := by
  rw [upN, List.filter_map, iL, List.map_map]
  rfl
def lookT (fP fQ : Nat) : List S := [.asg (.n 5) (.bi .tuple [.lc [7] (.n 7) .rng1 none [.v 0] [.cmp .isin (.tup [.v 4, .v 7]) (.pk 1)] (.v 7)]), .asg (.n 6) (.ife (.pk 2) (.callk fQ [] [1, 0] [.v 4, .v 1]) (.call fQ [.v 1, .v 4])), .ifs (.cmp .ne (.bi .repr [.pk 6]) (.bi .repr [.pk 5])) [.ret (.c (.bool false))] [], .for (.n 7) .rng1 none [.v 0] [.asg (.n 6) (.ife (.pk 2) (.callk fP [] [1, 2, 0] [.v 7, .v 1, .v 4]) (.call fP [.v 1, .v 4, .v 7])), .ifs (.cmp .ne (.bi .repr [.pk 6]) (.bi .repr [.cmp .isin (.tup [.v 4, .v 7]) (.pk 1)])) [.ret (.c (.bool false))] []], .for (.n 8) .seq none [.v 5] [.ifs (.cmp .ne (.lc [9] (.n 9) .seq none [.fz (.bin .add (.tup [.v 8]) (.call fQ [.v 1, .v 8]))] [.cmp .notin (.pk 9) (.pk 5)] (.v 9)) (.lst [])) [.ret (.c (.bool false))] []]]
def lookB (fP fQ fR : Nat) : List S := [
  .asg (.n 3) (.bi .repr [.pk 1]),
  .for (.n 4) .rng1 none [.v 0] (lookT fP fQ),
  .asg (.n 5) (.bi .tuple [.lc [4] (.n 4) .rng1 none [.v 0] [.cmp .ne (.lc [7] (.n 7) .rng1 none [.v 0] [.cmp .isin (.tup [.v 4, .v 7]) (.pk 1)] (.v 7)) (.lst [])] (.v 4)]),
  .ret (.and (.cmp .eq (.bi .repr [.callk fR [] [0] [.v 1]]) (.bi .repr [.pk 5])) (.and (.cmp .eq (.bi .repr [.call fR [.v 1]]) (.bi .repr [.pk 5])) (.cmp .eq (.bi .repr [.pk 1]) (.pk 3))))]
def lookD (fP fQ fR : Nat) : Def := ⟨3, 10, [], lookB fP fQ fR⟩
structure Bs (F : FT) (fP fQ fR : Nat) (n : Nat) (b : List PI2) : Prop where
  bk : Bk8 n b
  P : ∀ x y, F fP [(L3.D.p (PyData.tuple (bL b))), .p (.int x), .p (.int y)] = .ok (.p (.bool (decide ((x, y) ∈ b)))) [none, none, none]
  Q : ∀ x, F fQ [(L3.D.p (PyData.tuple (bL b))), .p (.int x)] = .ok ((L3.D.p (PyData.tuple (iL (pas b x))))) [none, none]
  R : F fR [(L3.D.p (PyData.tuple (bL b)))] = .ok ((L3.D.p (PyData.tuple (iL (prs b))))) [none]
section
variable {F : FT} {fP fQ fR : Nat} {b : List PI2} {nn : Int} {nm : Bool} {s3 : Option L3.D}
/-- the kinds that a kind passes, looked up one by one -/
theorem lk_due (h0 : 0 ≤ nn) (h8 : nn ≤ 8) (hb : Bk8 nn.toNat b) {x : Int} {a c d e f : Option L3.D} {e7 : Option L3.D} :
    ∃ f7, ev F (.lc [7] (.n 7) .rng1 none [.v 0] [.cmp .isin (.tup [.v 4, .v 7]) (.pk 1)] (.v 7)) [some (.p (.int nn)), some ((L3.D.p (PyData.tuple (bL b)))), a, c, some (.p (.int x)), d, e, e7, f, none] = .ok (.o (.l (iL (pas b x)))) [some (.p (.int nn)), some ((L3.D.p (PyData.tuple (bL b)))), a, c, some (.p (.int x)), d, e, f7, f, none] := by
  have hw := pw_rng h0 (show nn < 1000000 by omega)
  obtain ⟨ρ2, c2, g2⟩ := comp_evW (α := Nat) iN (fun z => decide ((x, (z : Int)) ∈ b)) iN (List.range nn.toNat) (fun z => [some (.p (.int nn)), some ((L3.D.p (PyData.tuple (bL b)))), a, c, some (.p (.int x)), d, e, some (.p (.int (z : Int))), f, none]) (own := [7]) (tg := .n 7) (k := .rng1) (its := [.v 0]) (cond := [.cmp .isin (.tup [.v 4, .v 7]) (.pk 1)]) (elt := .v 7) (F := F)
    (ρ := [some (.p (.int nn)), some ((L3.D.p (PyData.tuple (bL b)))), a, c, some (.p (.int x)), d, e, e7, f, none]) (ρ1 := [some (.p (.int nn)), some ((L3.D.p (PyData.tuple (bL b)))), a, c, some (.p (.int x)), d, e, e7, f, none]) (evl_vp rfl rfl) hw rfl (by rw [List.length_range]; omega) (fun z hz => ⟨rfl, rfl, by
      have c1 := cin_b2 x (z : Int) b
      generalize bL b = q at *
      simp [exb, exs, tst, ev, evd, evl, evo, evk, evi, kCall, takeArgs, putBack, chg, has, atK, isL, isOwnL, margs, pures, fz, sto, stoD, L3.Fl.seq, L3.Fl.unlock, L3.Res.fl, L3.Res.bind, slot, L3.T.dat, L3.T.pure, L3.D.flat, qok, isQ, L3.E.quiet, quiets, dats, truth, wargs, walk, L3.lock, L3.unlock, Option.bind_some, Option.map_some, prm, tests, two_le, c1], fun _ => by
      generalize bL b = q at *
      simp [exb, exs, tst, ev, evd, evl, evo, evk, evi, kCall, takeArgs, putBack, chg, has, atK, isL, isOwnL, margs, pures, fz, sto, stoD, L3.Fl.seq, L3.Fl.unlock, L3.Res.fl, L3.Res.bind, slot, L3.T.dat, L3.T.pure, L3.D.flat, qok, isQ, L3.E.quiet, quiets, dats, truth, wargs, walk, L3.lock, L3.unlock, Option.bind_some, Option.map_some, prm, tests]⟩)
  have e1 := fil_up nn.toNat fun k => decide ((x, k) ∈ b)
  rw [← pas_eq hb x] at e1
  have e1 : List.map iN (List.filter (fun (z : Nat) => decide ((x, (z : Int)) ∈ b)) (List.range nn.toNat)) = iL (pas b x) := e1
  rw [e1] at g2
  rcases c2 with rfl | rfl
  · exact ⟨e7, g2⟩
  · exact ⟨none, g2⟩
theorem pas_in {n : Nat} (hb : Bk8 n b) {x : Int} (hn : n ≤ 8) : (∀ k ∈ pas b x, 0 ≤ k ∧ k < 8) ∧ (pas b x).length ≤ 100 := by
  refine ⟨fun k hk => ?_, ?_⟩
  · have := (hb.inn _ (pas_mem.mp hk)).2
    simp only at this
    omega
  · have := hb.len hn
    have h2 : (pas b x).length ≤ b.length := by rw [pas, List.length_map]; exact List.length_filter_le _ _
    omega
theorem lk_passed (hq : ∀ x, F fQ [(L3.D.p (PyData.tuple (bL b))), .p (.int x)] = .ok ((L3.D.p (PyData.tuple (iL (pas b x))))) [none, none]) {x : Int} {a d e f g h i : Option L3.D} :
    ev F (.ife (.pk 2) (.callk fQ [] [1, 0] [.v 4, .v 1]) (.call fQ [.v 1, .v 4])) [a, some ((L3.D.p (PyData.tuple (bL b)))), some (.p (.bool nm)), d, some (.p (.int x)), e, f, g, h, i] = .ok (.o ((L3.D.p (PyData.tuple (iL (pas b x)))))) [a, some ((L3.D.p (PyData.tuple (bL b)))), some (.p (.bool nm)), d, some (.p (.int x)), e, f, g, h, i] := by
  have q := hq x
  generalize bL b = k1 at *
  generalize iL (pas b x) = k2 at *
  cases nm <;> simp [exb, exs, tst, ev, evd, evl, evo, evk, evi, kCall, takeArgs, putBack, chg, has, atK, isL, isOwnL, margs, pures, fz, sto, stoD, L3.Fl.seq, L3.Fl.unlock, L3.Res.fl, L3.Res.bind, slot, L3.T.dat, L3.T.pure, L3.D.flat, qok, isQ, L3.E.quiet, quiets, dats, truth, wargs, walk, L3.lock, L3.unlock, Option.bind_some, Option.map_some, prm, tests, q]
theorem lk_passes (hp : ∀ x y, F fP [(L3.D.p (PyData.tuple (bL b))), .p (.int x), .p (.int y)] = .ok (.p (.bool (decide ((x, y) ∈ b)))) [none, none, none]) {x y : Int} {a d e f h i : Option L3.D} :
    ev F (.ife (.pk 2) (.callk fP [] [1, 2, 0] [.v 7, .v 1, .v 4]) (.call fP [.v 1, .v 4, .v 7])) [a, some ((L3.D.p (PyData.tuple (bL b)))), some (.p (.bool nm)), d, some (.p (.int x)), e, f, some (.p (.int y)), h, i] = .ok (.o (.p (.bool (decide ((x, y) ∈ b))))) [a, some ((L3.D.p (PyData.tuple (bL b)))), some (.p (.bool nm)), d, some (.p (.int x)), e, f, some (.p (.int y)), h, i] := by
  have q := hp x y
  generalize bL b = k1 at *
  generalize decide ((x, y) ∈ b) = k2 at *
  cases nm <;> simp [exb, exs, tst, ev, evd, evl, evo, evk, evi, kCall, takeArgs, putBack, chg, has, atK, isL, isOwnL, margs, pures, fz, sto, stoD, L3.Fl.seq, L3.Fl.unlock, L3.Res.fl, L3.Res.bind, slot, L3.T.dat, L3.T.pure, L3.D.flat, qok, isQ, L3.E.quiet, quiets, dats, truth, wargs, walk, L3.lock, L3.unlock, Option.bind_some, Option.map_some, prm, tests, q]
theorem lk_rep {x y : PyData} {s : Str} (r1 : bi .repr [x] = some (.p (.str s))) (r2 : bi .repr [y] = some (.p (.str s))) (ok : PyData.strOk s = true) {a b c d e f g h : Option L3.D} :
    exs F (.ifs (.cmp .ne (.bi .repr [.pk 6]) (.bi .repr [.pk 5])) [.ret (.c (.bool false))] []) [a, b, c, d, e, some (.p y), some (.p x), f, g, h] = .nx [a, b, c, d, e, some (.p y), some (.p x), f, g, h] := by
  have n := ne_self ok
  simp [exb, exs, tst, ev, evd, evl, evo, evk, evi, kCall, takeArgs, putBack, chg, has, atK, isL, isOwnL, margs, pures, fz, sto, stoD, L3.Fl.seq, L3.Fl.unlock, L3.Res.fl, L3.Res.bind, slot, L3.T.dat, L3.T.pure, L3.D.flat, qok, isQ, L3.E.quiet, quiets, dats, truth, wargs, walk, L3.lock, L3.unlock, Option.bind_some, Option.map_some, prm, tests, r1, r2, n]
theorem lk_rep2 {x y : Int} {k : Bool} (c1 : cmpD .isin (.tuple [.int x, .int y]) (.tuple (bL b)) = some k) {a d e h i c : Option L3.D} :
    exs F (.ifs (.cmp .ne (.bi .repr [.pk 6]) (.bi .repr [.cmp .isin (.tup [.v 4, .v 7]) (.pk 1)])) [.ret (.c (.bool false))] []) [a, some ((L3.D.p (PyData.tuple (bL b)))), c, d, some (.p (.int x)), e, some (.p (.bool k)), some (.p (.int y)), h, i] = .nx [a, some ((L3.D.p (PyData.tuple (bL b)))), c, d, some (.p (.int x)), e, some (.p (.bool k)), some (.p (.int y)), h, i] := by
  have n := ne_self (ok_t k)
  have r := rep_t k
  generalize bL b = k1 at *
  simp [exb, exs, tst, ev, evd, evl, evo, evk, evi, kCall, takeArgs, putBack, chg, has, atK, isL, isOwnL, margs, pures, fz, sto, stoD, L3.Fl.seq, L3.Fl.unlock, L3.Res.fl, L3.Res.bind, slot, L3.T.dat, L3.T.pure, L3.D.flat, qok, isQ, L3.E.quiet, quiets, dats, truth, wargs, walk, L3.lock, L3.unlock, Option.bind_some, Option.map_some, prm, tests, r, n, c1, two_le]
theorem look_turn (h0 : 0 ≤ nn) (h8 : nn ≤ 8) (hb : Bs F fP fQ fR nn.toNat b) {x : Int} {e5 e6 e7 e8 : Option L3.D} :
    ∃ f5 f6 f7 f8, exb F (lookT fP fQ) [some (.p (.int nn)), some ((L3.D.p (PyData.tuple (bL b)))), some (.p (.bool nm)), s3, some (.p (.int x)), e5, e6, e7, e8, none] = .nx [some (.p (.int nn)), some ((L3.D.p (PyData.tuple (bL b)))), some (.p (.bool nm)), s3, some (.p (.int x)), f5, f6, f7, f8, none] := by
  have hw := pw_rng h0 (show nn < 1000000 by omega)
  obtain ⟨f7, g1⟩ := lk_due (F := F) (b := b) (a := some (.p (.bool nm))) (c := s3) (d := e5) (e := e6) (f := e8) (e7 := e7) (x := x) h0 h8 hb.bk
  obtain ⟨pi, pl⟩ := pas_in hb.bk (x := x) (by omega)
  have a1 : exs F (.asg (.n 5) (.bi .tuple [.lc [7] (.n 7) .rng1 none [.v 0] [.cmp .isin (.tup [.v 4, .v 7]) (.pk 1)] (.v 7)])) [some (.p (.int nn)), some ((L3.D.p (PyData.tuple (bL b)))), some (.p (.bool nm)), s3, some (.p (.int x)), e5, e6, e7, e8, none] = .nx [some (.p (.int nn)), some ((L3.D.p (PyData.tuple (bL b)))), some (.p (.bool nm)), s3, some (.p (.int x)), some ((L3.D.p (PyData.tuple (iL (pas b x))))), e6, f7, e8, none] := by
    refine asg_go (i := 5) (ρ1 := [some (.p (.int nn)), some ((L3.D.p (PyData.tuple (bL b)))), some (.p (.bool nm)), s3, some (.p (.int x)), e5, e6, f7, e8, none]) ?_
    have t := tuple_l (iL (pas b x))
    rw [ev, evl_o g1]
    simp only [L3.Res.bind, dats, L3.T.dat, L3.D.flat, Option.bind_some, t]
  have a2 := asg_go (i := 6) (lk_passed (nm := nm) hb.Q (x := x) (a := some (.p (.int nn))) (d := s3) (e := some ((L3.D.p (PyData.tuple (iL (pas b x)))))) (f := e6) (g := f7) (h := e8) (i := none))
  simp only [List.set_cons_succ, List.set_cons_zero] at a2
  have a3 := lk_rep (F := F) (rep_i pi pl) (rep_i pi pl) (ok_i _) (a := some (.p (.int nn))) (b := some ((L3.D.p (PyData.tuple (bL b))))) (c := some (.p (.bool nm))) (d := s3) (e := some (.p (.int x))) (f := f7) (g := e8) (h := none)
  obtain ⟨ρ4, g4, f6, f7', rfl⟩ := forL_go (inj := iN) (tg := .n 7) (body := exb F [.asg (.n 6) (.ife (.pk 2) (.callk fP [] [1, 2, 0] [.v 7, .v 1, .v 4]) (.call fP [.v 1, .v 4, .v 7])), .ifs (.cmp .ne (.bi .repr [.pk 6]) (.bi .repr [.cmp .isin (.tup [.v 4, .v 7]) (.pk 1)])) [.ret (.c (.bool false))] []])
    (fun rest ρ => ∃ e6 e7, ρ = [some (.p (.int nn)), some ((L3.D.p (PyData.tuple (bL b)))), some (.p (.bool nm)), s3, some (.p (.int x)), some ((L3.D.p (PyData.tuple (iL (pas b x))))), e6, e7, e8, none]) (List.range nn.toNat) [some (.p (.int nn)), some ((L3.D.p (PyData.tuple (bL b)))), some (.p (.bool nm)), s3, some (.p (.int x)), some ((L3.D.p (PyData.tuple (iL (pas b x))))), some ((L3.D.p (PyData.tuple (iL (pas b x))))), f7, e8, none] ⟨_, _, rfl⟩ (by
      rintro k r ρ ⟨l, el⟩ ⟨e6, e7, rfl⟩
      refine ⟨[some (.p (.int nn)), some ((L3.D.p (PyData.tuple (bL b)))), some (.p (.bool nm)), s3, some (.p (.int x)), some ((L3.D.p (PyData.tuple (iL (pas b x))))), e6, some (.p (.int (k : Int))), e8, none], rfl, ?_⟩
      have b1 := asg_go (i := 6) (lk_passes (nm := nm) hb.P (x := x) (y := (k : Int)) (a := some (.p (.int nn))) (d := s3) (e := some ((L3.D.p (PyData.tuple (iL (pas b x)))))) (f := e6) (h := e8) (i := none))
      simp only [List.set_cons_succ, List.set_cons_zero] at b1
      have b2 := lk_rep2 (F := F) (cin_b2 x (k : Int) b) (a := some (.p (.int nn))) (c := some (.p (.bool nm))) (d := s3) (e := some ((L3.D.p (PyData.tuple (iL (pas b x)))))) (h := e8) (i := none)
      rw [exb_go b1, exb_go b2, exb]
      exact ⟨_, _, rfl⟩)
  have a4 : exs F (.for (.n 7) .rng1 none [.v 0] [.asg (.n 6) (.ife (.pk 2) (.callk fP [] [1, 2, 0] [.v 7, .v 1, .v 4]) (.call fP [.v 1, .v 4, .v 7])), .ifs (.cmp .ne (.bi .repr [.pk 6]) (.bi .repr [.cmp .isin (.tup [.v 4, .v 7]) (.pk 1)])) [.ret (.c (.bool false))] []]) [some (.p (.int nn)), some ((L3.D.p (PyData.tuple (bL b)))), some (.p (.bool nm)), s3, some (.p (.int x)), some ((L3.D.p (PyData.tuple (iL (pas b x))))), some ((L3.D.p (PyData.tuple (iL (pas b x))))), f7, e8, none] = .nx [some (.p (.int nn)), some ((L3.D.p (PyData.tuple (bL b)))), some (.p (.bool nm)), s3, some (.p (.int x)), some ((L3.D.p (PyData.tuple (iL (pas b x))))), f6, f7', e8, none] := by
    rw [for_ev (evl_vp rfl rfl) hw]; exact g4
  obtain ⟨ρ5, g5, f8, rfl⟩ := forL_go (inj := PyData.int) (tg := .n 8) (body := exb F [.ifs (.cmp .ne (.lc [9] (.n 9) .seq none [.fz (.bin .add (.tup [.v 8]) (.call fQ [.v 1, .v 8]))] [.cmp .notin (.pk 9) (.pk 5)] (.v 9)) (.lst [])) [.ret (.c (.bool false))] []])
    (fun rest ρ => ∃ e8, ρ = [some (.p (.int nn)), some ((L3.D.p (PyData.tuple (bL b)))), some (.p (.bool nm)), s3, some (.p (.int x)), some ((L3.D.p (PyData.tuple (iL (pas b x))))), f6, f7', e8, none]) (pas b x) [some (.p (.int nn)), some ((L3.D.p (PyData.tuple (bL b)))), some (.p (.bool nm)), s3, some (.p (.int x)), some ((L3.D.p (PyData.tuple (iL (pas b x))))), f6, f7', e8, none] ⟨_, rfl⟩ (by
      rintro y r ρ ⟨l, el⟩ ⟨e8, rfl⟩
      have hy : y ∈ pas b x := by rw [el]; simp
      refine ⟨[some (.p (.int nn)), some ((L3.D.p (PyData.tuple (bL b)))), some (.p (.bool nm)), s3, some (.p (.int x)), some ((L3.D.p (PyData.tuple (iL (pas b x))))), f6, f7', some (.p (.int y)), none], rfl, ?_⟩
      obtain ⟨_, ply⟩ := pas_in hb.bk (x := y) (by omega)
      have ad : bin .add (.tuple [.int y]) (.tuple (iL (pas b y))) = some (.p (.tuple (iL (y :: pas b y)))) := by rw [add_t (by rw [len_iL]; simp; omega)]; rfl
      have q := hb.Q y
      have es : evl F [.fz (.bin .add (.tup [.v 8]) (.call fQ [.v 1, .v 8]))] [some (.p (.int nn)), some ((L3.D.p (PyData.tuple (bL b)))), some (.p (.bool nm)), s3, some (.p (.int x)), some ((L3.D.p (PyData.tuple (iL (pas b x))))), f6, f7', some (.p (.int y)), none] = .ok [.o ((L3.D.p (PyData.tuple (iL (y :: pas b y)))))] [some (.p (.int nn)), some ((L3.D.p (PyData.tuple (bL b)))), some (.p (.bool nm)), s3, some (.p (.int x)), some ((L3.D.p (PyData.tuple (iL (pas b x))))), f6, f7', some (.p (.int y)), none] := by
        refine evl_o ?_
        have o1 : 1 ≤ sizeLine := Nat.le_trans (by decide) two_le
        generalize iL (y :: pas b y) = k3 at *
        generalize iL (pas b y) = k2 at *
        generalize iL (pas b x) = k4 at *
        generalize bL b = k1 at *
        simp [exb, exs, tst, ev, evd, evl, evo, evk, evi, kCall, takeArgs, putBack, chg, has, atK, isL, isOwnL, margs, pures, fz, sto, stoD, L3.Fl.seq, L3.Fl.unlock, L3.Res.fl, L3.Res.bind, slot, L3.T.dat, L3.T.pure, L3.D.flat, qok, isQ, L3.E.quiet, quiets, dats, truth, wargs, walk, L3.lock, L3.unlock, Option.bind_some, Option.map_some, prm, tests, q, ad, o1]
      have g := comp_ev (α := Int) PyData.int (fun z => !decide (z ∈ pas b x)) PyData.int (y :: pas b y) (fun z => [some (.p (.int nn)), some ((L3.D.p (PyData.tuple (bL b)))), some (.p (.bool nm)), s3, some (.p (.int x)), some ((L3.D.p (PyData.tuple (iL (pas b x))))), f6, f7', some (.p (.int y)), some (.p (.int z))]) (own := [9]) (tg := .n 9) (k := .seq) (its := [.fz (.bin .add (.tup [.v 8]) (.call fQ [.v 1, .v 8]))]) (cond := [.cmp .notin (.pk 9) (.pk 5)]) (elt := .v 9) (F := F)
        es rfl rfl (by simp; omega) (fun z hz => ⟨rfl, rfl, by
          have c := isin_i z (pas b x)
          have c : cmpD .notin (.int z) (.tuple (iL (pas b x))) = some (!decide (z ∈ pas b x)) := by simp only [cmpD, c, Option.map_some]
          generalize iL (pas b x) = k4 at *
          generalize bL b = k1 at *
          simp [exb, exs, tst, ev, evd, evl, evo, evk, evi, kCall, takeArgs, putBack, chg, has, atK, isL, isOwnL, margs, pures, fz, sto, stoD, L3.Fl.seq, L3.Fl.unlock, L3.Res.fl, L3.Res.bind, slot, L3.T.dat, L3.T.pure, L3.D.flat, qok, isQ, L3.E.quiet, quiets, dats, truth, wargs, walk, L3.lock, L3.unlock, Option.bind_some, Option.map_some, prm, tests, c], fun _ => by
          generalize iL (pas b x) = k4 at *
          generalize bL b = k1 at *
          simp [exb, exs, tst, ev, evd, evl, evo, evk, evi, kCall, takeArgs, putBack, chg, has, atK, isL, isOwnL, margs, pures, fz, sto, stoD, L3.Fl.seq, L3.Fl.unlock, L3.Res.fl, L3.Res.bind, slot, L3.T.dat, L3.T.pure, L3.D.flat, qok, isQ, L3.E.quiet, quiets, dats, truth, wargs, walk, L3.lock, L3.unlock, Option.bind_some, Option.map_some, prm, tests]⟩)
      have e0 : (y :: pas b y).filter (fun z => !decide (z ∈ pas b x)) = [] := by
        rw [List.filter_eq_nil_iff]
        intro z hz
        have : z ∈ pas b x := by
          rcases List.mem_cons.mp hz with rfl | hz
          · exact hy
          · exact pas_mem.mpr (hb.bk.tr x y z (pas_mem.mp hy) (pas_mem.mp hz))
        simp [this]
      rw [e0] at g
      have n := cmp_neNN
      have e : exb F [.ifs (.cmp .ne (.lc [9] (.n 9) .seq none [.fz (.bin .add (.tup [.v 8]) (.call fQ [.v 1, .v 8]))] [.cmp .notin (.pk 9) (.pk 5)] (.v 9)) (.lst [])) [.ret (.c (.bool false))] []] [some (.p (.int nn)), some ((L3.D.p (PyData.tuple (bL b)))), some (.p (.bool nm)), s3, some (.p (.int x)), some ((L3.D.p (PyData.tuple (iL (pas b x))))), f6, f7', some (.p (.int y)), none] =
          .nx [some (.p (.int nn)), some ((L3.D.p (PyData.tuple (bL b)))), some (.p (.bool nm)), s3, some (.p (.int x)), some ((L3.D.p (PyData.tuple (iL (pas b x))))), f6, f7', some (.p (.int y)), none] := by
        have tt : tst F (.cmp .ne (.lc [9] (.n 9) .seq none [.fz (.bin .add (.tup [.v 8]) (.call fQ [.v 1, .v 8]))] [.cmp .notin (.pk 9) (.pk 5)] (.v 9)) (.lst [])) [some (.p (.int nn)), some ((L3.D.p (PyData.tuple (bL b)))), some (.p (.bool nm)), s3, some (.p (.int x)), some ((L3.D.p (PyData.tuple (iL (pas b x))))), f6, f7', some (.p (.int y)), none] = .ok false [some (.p (.int nn)), some ((L3.D.p (PyData.tuple (bL b)))), some (.p (.bool nm)), s3, some (.p (.int x)), some ((L3.D.p (PyData.tuple (iL (pas b x))))), f6, f7', some (.p (.int y)), none] := by
          refine tst_b rfl ?_
          rw [ev, g]
          simp [L3.Res.bind, qok, isQ, ev, evd, L3.T.dat, L3.D.flat, n]
        rw [exb, exs, tt]
        simp [L3.Res.fl, exb, L3.Fl.seq]
      rw [e]
      exact ⟨_, rfl⟩)
  have a5 : exs F (.for (.n 8) .seq none [.v 5] [.ifs (.cmp .ne (.lc [9] (.n 9) .seq none [.fz (.bin .add (.tup [.v 8]) (.call fQ [.v 1, .v 8]))] [.cmp .notin (.pk 9) (.pk 5)] (.v 9)) (.lst [])) [.ret (.c (.bool false))] []]) [some (.p (.int nn)), some ((L3.D.p (PyData.tuple (bL b)))), some (.p (.bool nm)), s3, some (.p (.int x)), some ((L3.D.p (PyData.tuple (iL (pas b x))))), f6, f7', e8, none] = .nx [some (.p (.int nn)), some ((L3.D.p (PyData.tuple (bL b)))), some (.p (.bool nm)), s3, some (.p (.int x)), some ((L3.D.p (PyData.tuple (iL (pas b x))))), f6, f7', f8, none] := by
    rw [for_ev (evl_vp rfl rfl) pw_iT]; exact g5
  refine ⟨some ((L3.D.p (PyData.tuple (iL (pas b x))))), f6, f7', f8, ?_⟩
  rw [lookT, exb_go a1, exb_go a2, exb_go a3, exb_go a4, exb_go a5, exb]
/-- who passes somebody, looked up -/
theorem lk_prs (h0 : 0 ≤ nn) (h8 : nn ≤ 8) (hb : Bk8 nn.toNat b) {a c d e e4 e7 f : Option L3.D} :
    ∃ f4 f7, ev F (.lc [4] (.n 4) .rng1 none [.v 0] [.cmp .ne (.lc [7] (.n 7) .rng1 none [.v 0] [.cmp .isin (.tup [.v 4, .v 7]) (.pk 1)] (.v 7)) (.lst [])] (.v 4)) [some (.p (.int nn)), some ((L3.D.p (PyData.tuple (bL b)))), a, c, e4, d, e, e7, f, none] = .ok (.o (.l (iL (prs b)))) [some (.p (.int nn)), some ((L3.D.p (PyData.tuple (bL b)))), a, c, f4, d, e, f7, f, none] := by
  have hw := pw_rng h0 (show nn < 1000000 by omega)
  have hp : prs b = (upN nn.toNat).filter fun x => !decide (pas b x = []) := by
    rw [prs_eq hb]
    refine List.filter_congr fun x _ => ?_
    rw [← pas_eq hb x]
  have key : ∃ f4 f7, lcL [4] (.n 4) (tests F [.cmp .ne (.lc [7] (.n 7) .rng1 none [.v 0] [.cmp .isin (.tup [.v 4, .v 7]) (.pk 1)] (.v 7)) (.lst [])]) (ev F (.v 4)) (iL (upN nn.toNat)) [] [some (.p (.int nn)), some ((L3.D.p (PyData.tuple (bL b)))), a, c, e4, d, e, e7, f, none] =
      .ok (iL (prs b)) [some (.p (.int nn)), some ((L3.D.p (PyData.tuple (bL b)))), a, c, f4, d, e, f7, f, none] := by
    refine lc_ind (own := [4]) (tg := .n 4) (J := fun items acc ρ => ∃ its as e4 e7, items = iL its ∧ acc = iL as ∧ ρ = [some (.p (.int nn)), some ((L3.D.p (PyData.tuple (bL b)))), a, c, e4, d, e, e7, f, none] ∧ as.length + its.length ≤ 8 ∧ as ++ its.filter (fun x => !decide (pas b x = [])) = prs b)
      (Q := fun r => ∃ f4 f7, r = .ok (iL (prs b)) [some (.p (.int nn)), some ((L3.D.p (PyData.tuple (bL b)))), a, c, f4, d, e, f7, f, none]) ?_ ?_ _ _ _ ⟨upN nn.toNat, [], e4, e7, rfl, rfl, rfl, by rw [upN_len]; simp; omega, by rw [hp]; rfl⟩
    · rintro acc ρ ⟨its, as, e4, e7, e, rfl, rfl, h4, h5⟩
      cases its with
      | cons => cases e
      | nil =>
        have h5 : as ++ [] = _ := h5
        rw [List.append_nil] at h5
        rw [h5]
        exact ⟨_, _, rfl⟩
    · rintro y xs acc ρ ⟨its, as, e4, e7, e', rfl, rfl, h4, h5⟩
      cases its with
      | nil => cases e'
      | cons x its =>
        simp only [iL, List.map_cons, List.cons.injEq] at e'
        obtain ⟨rfl, rfl⟩ := e'
        simp only [List.length_cons] at h4
        refine ⟨by rw [len_iL, sizeLine_eq]; omega, [some (.p (.int nn)), some ((L3.D.p (PyData.tuple (bL b)))), a, c, some (.p (.int x)), d, e, e7, f, none], rfl, ?_⟩
        obtain ⟨f7, g⟩ := lk_due (F := F) (b := b) (a := a) (c := c) (d := d) (e := e) (f := f) (e7 := e7) (x := x) h0 h8 hb
        have n := cmp_neN (pas b x)
        have tt : tests F [.cmp .ne (.lc [7] (.n 7) .rng1 none [.v 0] [.cmp .isin (.tup [.v 4, .v 7]) (.pk 1)] (.v 7)) (.lst [])] [some (.p (.int nn)), some ((L3.D.p (PyData.tuple (bL b)))), a, c, some (.p (.int x)), d, e, e7, f, none] = .ok (!decide (pas b x = [])) [some (.p (.int nn)), some ((L3.D.p (PyData.tuple (bL b)))), a, c, some (.p (.int x)), d, e, f7, f, none] := by
          rw [tests]
          refine tst_b rfl ?_
          rw [ev, g]
          simp only [L3.Res.bind, qok, isQ, ev, evd, L3.T.dat, L3.D.flat, n, Bool.not_false, Bool.true_or, if_true, Nat.zero_le, List.length_nil]
        refine ⟨_, _, tt, ?_⟩
        by_cases z : pas b x = []
        · rw [decide_eq_true z, if_neg (by simp)]
          refine ⟨its, as, none, f7, rfl, rfl, rfl, by omega, ?_⟩
          rw [List.filter_cons_of_neg (by simp [z])] at h5
          exact h5
        · rw [decide_eq_false z, if_pos (by simp)]
          refine ⟨.int x, [some (.p (.int nn)), some ((L3.D.p (PyData.tuple (bL b)))), a, c, some (.p (.int x)), d, e, f7, f, none], ?_, its, as ++ [x], none, f7, rfl, by rw [← app_iL]; rfl, rfl, by simp; omega, ?_⟩
          · generalize bL b = q
            simp [exb, exs, tst, ev, evd, evl, evo, evk, evi, kCall, takeArgs, putBack, chg, has, atK, isL, isOwnL, margs, pures, fz, sto, stoD, L3.Fl.seq, L3.Fl.unlock, L3.Res.fl, L3.Res.bind, slot, L3.T.dat, L3.T.pure, L3.D.flat, qok, isQ, L3.E.quiet, quiets, dats, truth, wargs, walk, L3.lock, L3.unlock, Option.bind_some, Option.map_some, prm, tests]
          · rw [List.filter_cons_of_pos (by simp [z])] at h5
            rw [List.append_assoc]
            exact h5
  obtain ⟨f4, f7, k⟩ := key
  refine ⟨f4, f7, lc_ev (ρ1 := [some (.p (.int nn)), some ((L3.D.p (PyData.tuple (bL b)))), a, c, e4, d, e, e7, f, none]) (ts := [.o (.p (.int nn))]) (evl_vp rfl rfl) hw ?_⟩
  have e : (List.range nn.toNat).map (fun (k : Nat) => PyData.int (k : Int)) = iL (upN nn.toNat) := by rw [iL, upN, List.map_map]; rfl
  rw [e]
  exact k
theorem look_ok (h0 : 0 ≤ nn) (h8 : nn ≤ 8) (hb : Bs F fP fQ fR nn.toNat b) : toFR 3 [] (exb F (lookB fP fQ fR) [some (.p (.int nn)), some ((L3.D.p (PyData.tuple (bL b)))), some (.p (.bool nm)), none, none, none, none, none, none, none]) = .ok (.p (.bool true)) [none, none, none] := by
  have hw := pw_rng h0 (show nn < 1000000 by omega)
  have lb := hb.bk.len (by omega)
  have rb := rep_b (b := b) (fun p hp => by have := hb.bk.inn p hp; omega) (by omega)
  have a1 : exs F (.asg (.n 3) (.bi .repr [.pk 1])) [some (.p (.int nn)), some ((L3.D.p (PyData.tuple (bL b)))), some (.p (.bool nm)), none, none, none, none, none, none, none] = .nx [some (.p (.int nn)), some ((L3.D.p (PyData.tuple (bL b)))), some (.p (.bool nm)), some (.p (.str (shB b))), none, none, none, none, none, none] := by
    generalize shB b = s at *
    generalize bL b = q at *
    simp [exb, exs, tst, ev, evd, evl, evo, evk, evi, kCall, takeArgs, putBack, chg, has, atK, isL, isOwnL, margs, pures, fz, sto, stoD, L3.Fl.seq, L3.Fl.unlock, L3.Res.fl, L3.Res.bind, slot, L3.T.dat, L3.T.pure, L3.D.flat, qok, isQ, L3.E.quiet, quiets, dats, truth, wargs, walk, L3.lock, L3.unlock, Option.bind_some, Option.map_some, prm, tests, rb]
  obtain ⟨ρ2, g2, e4, e5, e6, e7, e8, rfl⟩ := forL_go (inj := iN) (tg := .n 4) (body := exb F (lookT fP fQ))
    (fun rest ρ => ∃ e4 e5 e6 e7 e8, ρ = [some (.p (.int nn)), some ((L3.D.p (PyData.tuple (bL b)))), some (.p (.bool nm)), some (.p (.str (shB b))), e4, e5, e6, e7, e8, none]) (List.range nn.toNat) [some (.p (.int nn)), some ((L3.D.p (PyData.tuple (bL b)))), some (.p (.bool nm)), some (.p (.str (shB b))), none, none, none, none, none, none] ⟨_, _, _, _, _, rfl⟩ (by
      rintro k r ρ ⟨l, el⟩ ⟨e4, e5, e6, e7, e8, rfl⟩
      refine ⟨[some (.p (.int nn)), some ((L3.D.p (PyData.tuple (bL b)))), some (.p (.bool nm)), some (.p (.str (shB b))), some (.p (.int (k : Int))), e5, e6, e7, e8, none], rfl, ?_⟩
      obtain ⟨f5, f6, f7, f8, e⟩ := look_turn (nm := nm) (s3 := some (.p (.str (shB b)))) h0 h8 hb (x := (k : Int)) (e5 := e5) (e6 := e6) (e7 := e7) (e8 := e8)
      rw [e]
      exact ⟨_, _, _, _, _, rfl⟩)
  have a2 : exs F (.for (.n 4) .rng1 none [.v 0] (lookT fP fQ)) [some (.p (.int nn)), some ((L3.D.p (PyData.tuple (bL b)))), some (.p (.bool nm)), some (.p (.str (shB b))), none, none, none, none, none, none] = .nx [some (.p (.int nn)), some ((L3.D.p (PyData.tuple (bL b)))), some (.p (.bool nm)), some (.p (.str (shB b))), e4, e5, e6, e7, e8, none] := by
    rw [for_ev (evl_vp rfl rfl) hw]; exact g2
  obtain ⟨f4, f7, g3⟩ := lk_prs (F := F) (a := some (.p (.bool nm))) (c := some (.p (.str (shB b)))) (d := e5) (e := e6) (e4 := e4) (e7 := e7) (f := e8) h0 h8 hb.bk
  have a3 : exs F (.asg (.n 5) (.bi .tuple [.lc [4] (.n 4) .rng1 none [.v 0] [.cmp .ne (.lc [7] (.n 7) .rng1 none [.v 0] [.cmp .isin (.tup [.v 4, .v 7]) (.pk 1)] (.v 7)) (.lst [])] (.v 4)])) [some (.p (.int nn)), some ((L3.D.p (PyData.tuple (bL b)))), some (.p (.bool nm)), some (.p (.str (shB b))), e4, e5, e6, e7, e8, none] = .nx [some (.p (.int nn)), some ((L3.D.p (PyData.tuple (bL b)))), some (.p (.bool nm)), some (.p (.str (shB b))), f4, some ((L3.D.p (PyData.tuple (iL (prs b))))), e6, f7, e8, none] := by
    refine asg_go (i := 5) (ρ1 := [some (.p (.int nn)), some ((L3.D.p (PyData.tuple (bL b)))), some (.p (.bool nm)), some (.p (.str (shB b))), f4, e5, e6, f7, e8, none]) ?_
    have t := tuple_l (iL (prs b))
    rw [ev, evl_o g3]
    simp only [L3.Res.bind, dats, L3.T.dat, L3.D.flat, Option.bind_some, t]
  have pr : (∀ k ∈ prs b, 0 ≤ k ∧ k < 8) ∧ (prs b).length ≤ 100 := by
    have lu := upN_len nn.toNat
    rw [prs_eq hb.bk]
    refine ⟨fun k hk => ?_, Nat.le_trans (List.length_filter_le _ _) (by omega)⟩
    have := upN_mem.mp (List.mem_filter.mp hk).1
    omega
  have ri := rep_i pr.1 pr.2
  have a4 : exs F (.ret (.and (.cmp .eq (.bi .repr [.callk fR [] [0] [.v 1]]) (.bi .repr [.pk 5])) (.and (.cmp .eq (.bi .repr [.call fR [.v 1]]) (.bi .repr [.pk 5])) (.cmp .eq (.bi .repr [.pk 1]) (.pk 3))))) [some (.p (.int nn)), some ((L3.D.p (PyData.tuple (bL b)))), some (.p (.bool nm)), some (.p (.str (shB b))), f4, some ((L3.D.p (PyData.tuple (iL (prs b))))), e6, f7, e8, none] = .rt (.p (.bool true)) [some (.p (.int nn)), some ((L3.D.p (PyData.tuple (bL b)))), some (.p (.bool nm)), some (.p (.str (shB b))), f4, some ((L3.D.p (PyData.tuple (iL (prs b))))), e6, f7, e8, none] := by
    have q := hb.R
    have n1 := eq_selfS (ok_i (prs b))
    have n2 := eq_selfS (ok_b b)
    generalize shI (prs b) = s1 at *
    generalize shB b = s2 at *
    generalize iL (prs b) = k1 at *
    generalize bL b = k2 at *
    simp [exb, exs, tst, ev, evd, evl, evo, evk, evi, kCall, takeArgs, putBack, chg, has, atK, isL, isOwnL, margs, pures, fz, sto, stoD, L3.Fl.seq, L3.Fl.unlock, L3.Res.fl, L3.Res.bind, slot, L3.T.dat, L3.T.pure, L3.D.flat, qok, isQ, L3.E.quiet, quiets, dats, truth, wargs, walk, L3.lock, L3.unlock, Option.bind_some, Option.map_some, prm, tests, q, n1, n2, ri, rb]
  rw [lookB, exb_go a1, exb_go a2, exb_go a3, exb_rt a4]
  rfl
end
end K06

set_option maxHeartbeats 4000000
namespace K06
open PySem L3
def levB (fd fp fm : Nat) : List S := [
  .asg (.n 2) (.call fd [.io 0, .c (.int 4)]),
  .ifs (.cmp .eq (.pk 2) (.c (.int 0))) [.ret (.bin .mul (.tup [.fz (.call fp [.io 0, .lst [.c (.int 0), .neg (.c (.int 5)), .bin .pow (.c (.int 10)) (.c (.int 60))]])]) (.pk 1))] [],
  .ifs (.cmp .eq (.pk 2) (.c (.int 1))) [.ret (.bi .tuple [.lc [4] (.n 4) .rng1 none [.v 1] [] (.bin .sub (.call fd [.io 0, .c (.int 3)]) (.c (.int 1)))])] [],
  .ifs (.cmp .eq (.pk 2) (.c (.int 2))) [.asg (.n 3) (.lst [.bin .pow (.c (.int 10)) (.c (.int 60)), .neg (.bin .pow (.c (.int 10)) (.c (.int 60))), .c (.int 0), .c (.int 1), .neg (.c (.int 1)), .fz (.bin .add (.bin .pow (.c (.int 10)) (.c (.int 60))) (.c (.int 1))), .c (.int 7), .c (.int 8)]), .ret (.bi .tuple [.sl (.call fm [.io 0, .v 3]) [] [.v 1]])] [],
  .ret (.bi .tuple [.lc [4] (.n 4) .rng1 none [.v 1] [] (.bin .sub (.call fd [.io 0, .c (.int 1000)]) (.c (.int 500)))])]
def levD (fd fp fm : Nat) : Def := ⟨2, 5, [0], levB fd fp fm⟩
def LevF (L : L3.D → Prop) (F : FT) (i : Nat) : Prop := ∀ (d : L3.D) (nn : Int), L d → 1 ≤ nn → nn ≤ 8 → ∃ xs d', F i [d, .p (.int nn)] = .ok ((L3.D.p (PyData.tuple (iL xs)))) [some d', none] ∧ L d' ∧ xs.length = nn.toNat
theorem mulT {nn v : Int} (h0 : 0 ≤ nn) (hn : nn ≤ 8) : bin .mul (.tuple [.int v]) (.int nn) = some (.p (.tuple (iL (List.replicate nn.toNat v)))) := by
  have e : (List.replicate nn.toNat [PyData.int v]).flatten = iL (List.replicate nn.toNat v) := by
    generalize nn.toNat = m
    induction m with
    | zero => rfl
    | succ m ih => rw [List.replicate_succ, List.flatten_cons, ih]; rfl
  have g : ([PyData.int v].length * nn.toNat ≤ sizeLine && decide (-(2 ^ 62) < nn) && decide (nn < 2 ^ 62)) = true := by
    rw [sizeLine_eq]; simp; omega
  rw [← e]
  simp only [bin, g, if_true]
theorem sl_hiL {xs : List PyData} {p : Int} (h0 : 0 ≤ p) (h : p ≤ xs.length) : slD (.list xs) none (some p) = some (.l (xs.take p.toNat)) := by
  have := sl_hiI (xs := xs) h0 h
  simp only [slD, Option.some.injEq, L3.D.p.injEq, PyData.tuple.injEq] at this ⊢
  rw [this]
theorem lev_def {L : L3.D → Prop} {P : List Def} {fd fp fm i m : Nat} (h : P[i]? = some (levD fd fp fm)) (hd : DrawF L (callF P m) fd) (hp : PickF L (callF P m) fp) (hm : MixedF L (callF P m) fm) : LevF L (callF P (m + 1)) i := fun d nn hL h1 h8 => by
  rw [callF_fr (d := levD fd fp fm) h rfl]
  generalize callF P m = F at *
  show ∃ xs d', toFR 2 [0] (exb F (levB fd fp fm) [some d, some (.p (.int nn)), none, none, none]) = _ ∧ _
  have hw := pw_rng (show 0 ≤ nn by omega) (show nn < 1000000 by omega)
  obtain ⟨B, hB⟩ : ∃ B, bin .pow (.int 10) (.int 60) = some (.p (.int B)) := ⟨1000000000000000000000000000000000000000000000000000000000000, by simp [bin]⟩
  have hB1 : bin .add (.int B) (.int 1) = some (.p (.int (B + 1))) := bin_add B 1
  obtain ⟨way, d1, q1, l1, w0, w1⟩ := hd d 4 hL (by omega) (by omega)
  have a1 : exs F (.asg (.n 2) (.call fd [.io 0, .c (.int 4)])) [some d, some (.p (.int nn)), none, none, none] = .nx [some d1, some (.p (.int nn)), some (.p (.int way)), none, none] := by
    simp [exb, exs, tst, ev, evd, evl, evo, evk, evi, kCall, takeArgs, putBack, chg, has, atK, isL, isOwnL, margs, pures, fz, sto, stoD, L3.Fl.seq, L3.Fl.unlock, L3.Res.fl, L3.Res.bind, slot, L3.T.dat, L3.T.pure, L3.D.flat, qok, isQ, L3.E.quiet, quiets, dats, truth, wargs, walk, L3.lock, L3.unlock, Option.bind_some, Option.map_some, prm, tests, q1]
  have tt : ∀ c : Int, tst F (.cmp .eq (.pk 2) (.c (.int c))) [some d1, some (.p (.int nn)), some (.p (.int way)), none, none] = .ok (decide (way = c)) [some d1, some (.p (.int nn)), some (.p (.int way)), none, none] := fun c => by
    have e := cmp_eqI way c
    simp [exb, exs, tst, ev, evd, evl, evo, evk, evi, kCall, takeArgs, putBack, chg, has, atK, isL, isOwnL, margs, pures, fz, sto, stoD, L3.Fl.seq, L3.Fl.unlock, L3.Res.fl, L3.Res.bind, slot, L3.T.dat, L3.T.pure, L3.D.flat, qok, isQ, L3.E.quiet, quiets, dats, truth, wargs, walk, L3.lock, L3.unlock, Option.bind_some, Option.map_some, prm, tests, e]
  -- a row of draws
  have lcs : ∀ (a c : Int), 1 ≤ a → a < 1000000 → ∃ xs d', L d' ∧ xs.length = nn.toNat ∧ exs F (.ret (.bi .tuple [.lc [4] (.n 4) .rng1 none [.v 1] [] (.bin .sub (.call fd [.io 0, .c (.int a)]) (.c (.int c)))])) [some d1, some (.p (.int nn)), some (.p (.int way)), none, none] = .rt ((L3.D.p (PyData.tuple (iL xs)))) [some d', some (.p (.int nn)), some (.p (.int way)), none, none] := fun a c ha ha2 => by
    obtain ⟨as, d5, e5, n5, _, f5⟩ := lc_draws (L := L) (F := F) (j := 4) (e := .bin .sub (.call fd [.io 0, .c (.int a)]) (.c (.int c))) PyData.int (fun _ => True) (fun d => [some d, some (.p (.int nn)), some (.p (.int way)), none, none]) (fun d hL => by
      obtain ⟨r, d', q, l, _, _⟩ := hd d a hL ha (by omega)
      have s := bin_sub r c
      refine ⟨r - c, d', l, trivial, fun x => ?_⟩
      generalize r - c = z at *
      simp [exb, exs, tst, ev, evd, evl, evo, evk, evi, kCall, takeArgs, putBack, chg, has, atK, isL, isOwnL, margs, pures, fz, sto, stoD, L3.Fl.seq, L3.Fl.unlock, L3.Res.fl, L3.Res.bind, slot, L3.T.dat, L3.T.pure, L3.D.flat, qok, isQ, L3.E.quiet, quiets, dats, truth, wargs, walk, L3.lock, L3.unlock, Option.bind_some, Option.map_some, prm, tests, q, s]) (fun _ => rfl) (fun _ _ => rfl) ((List.range nn.toNat).map fun (k : Nat) => PyData.int (k : Int)) [] d1 l1 (by simp; omega)
    have g : ev F (.lc [4] (.n 4) .rng1 none [.v 1] [] (.bin .sub (.call fd [.io 0, .c (.int a)]) (.c (.int c)))) [some d1, some (.p (.int nn)), some (.p (.int way)), none, none] = .ok (.o (.l (iL as))) [some d5, some (.p (.int nn)), some (.p (.int way)), none, none] :=
      lc_ev (ρ1 := [some d1, some (.p (.int nn)), some (.p (.int way)), none, none]) (ts := [.o (.p (.int nn))]) (evl_vp rfl rfl) hw (by simpa [iL] using e5)
    refine ⟨as, d5, f5, by rw [n5, List.length_map, List.length_range], ret_go ?_⟩
    have t := tuple_l (iL as)
    rw [ev, evl_o g]
    simp only [L3.Res.bind, dats, L3.T.dat, L3.D.flat, Option.bind_some, t]
  rw [levB, exb_go a1]
  by_cases c0 : way = 0
  · obtain ⟨x, d2, q2, l2, mx⟩ := hp d1 (.l (iL [0, -5, B])) (iL [0, -5, B]) l1 (.inl rfl) (by simp [iL]) (by simp [iL])
    obtain ⟨v, rfl⟩ : ∃ v, x = .int v := by
      simp only [iL, List.map_cons, List.map_nil, List.mem_cons, List.not_mem_nil, or_false] at mx
      rcases mx with rfl | rfl | rfl <;> exact ⟨_, rfl⟩
    refine ⟨List.replicate nn.toNat v, d2, ?_, l2, by simp⟩
    have mt := mulT (v := v) (show 0 ≤ nn by omega) h8
    have o1 : 1 ≤ sizeLine := Nat.le_trans (by decide) two_le
    have o3 : 3 ≤ sizeLine := by rw [sizeLine_eq]; decide
    have q2 : F fp [d1, .l [.int 0, .int (-5), .int B]] = .ok (.p (.int v)) [some d2, none] := q2
    have e : exs F (.ret (.bin .mul (.tup [.fz (.call fp [.io 0, .lst [.c (.int 0), .neg (.c (.int 5)), .bin .pow (.c (.int 10)) (.c (.int 60))]])]) (.pk 1))) [some d1, some (.p (.int nn)), some (.p (.int way)), none, none] = .rt ((L3.D.p (PyData.tuple (iL (List.replicate nn.toNat v))))) [some d2, some (.p (.int nn)), some (.p (.int way)), none, none] := by
      generalize iL (List.replicate nn.toNat v) = k1 at *
      clear hw
      simp [exb, exs, tst, ev, evd, evl, evo, evk, evi, kCall, takeArgs, putBack, chg, has, atK, isL, isOwnL, margs, pures, fz, sto, stoD, L3.Fl.seq, L3.Fl.unlock, L3.Res.fl, L3.Res.bind, slot, L3.T.dat, L3.T.pure, L3.D.flat, qok, isQ, L3.E.quiet, quiets, dats, truth, wargs, walk, L3.lock, L3.unlock, Option.bind_some, Option.map_some, prm, tests, hB, q2, mt, o1, o3]
    rw [exb, exs, tt, decide_eq_true c0]
    simp only [L3.Res.fl, if_true]
    rw [exb_rt e]
    rfl
  have s0 : ∀ r, exb F (.ifs (.cmp .eq (.pk 2) (.c (.int 0))) [.ret (.bin .mul (.tup [.fz (.call fp [.io 0, .lst [.c (.int 0), .neg (.c (.int 5)), .bin .pow (.c (.int 10)) (.c (.int 60))]])]) (.pk 1))] [] :: r) [some d1, some (.p (.int nn)), some (.p (.int way)), none, none] = exb F r [some d1, some (.p (.int nn)), some (.p (.int way)), none, none] := fun r => by
    rw [exb, exs, tt, decide_eq_false c0]
    simp only [L3.Res.fl, Bool.false_eq_true, if_false, exb, L3.Fl.seq]
  rw [s0]
  by_cases c1 : way = 1
  · obtain ⟨xs, d2, l2, n2, e⟩ := lcs 3 1 (by omega) (by omega)
    refine ⟨xs, d2, ?_, l2, n2⟩
    rw [exb, exs, tt, decide_eq_true c1]
    simp only [L3.Res.fl, if_true]
    rw [exb_rt e]
    rfl
  have s1 : ∀ r, exb F (.ifs (.cmp .eq (.pk 2) (.c (.int 1))) [.ret (.bi .tuple [.lc [4] (.n 4) .rng1 none [.v 1] [] (.bin .sub (.call fd [.io 0, .c (.int 3)]) (.c (.int 1)))])] [] :: r) [some d1, some (.p (.int nn)), some (.p (.int way)), none, none] = exb F r [some d1, some (.p (.int nn)), some (.p (.int way)), none, none] := fun r => by
    rw [exb, exs, tt, decide_eq_false c1]
    simp only [L3.Res.fl, Bool.false_eq_true, if_false, exb, L3.Fl.seq]
  rw [s1]
  by_cases c2 : way = 2
  · obtain ⟨ys, d2, q2, l2, p2⟩ := hm d1 (.p (.list (iL [B, -B, 0, 1, -1, B + 1, 7, 8]))) (iL [B, -B, 0, 1, -1, B + 1, 7, 8]) l1 (.inl rfl) Sh.iL (by simp [iL])
    obtain ⟨zs, rfl, pz⟩ := iL_perm p2
    have lz : zs.length = 8 := by rw [pz.length_eq]; rfl
    refine ⟨zs.take nn.toNat, d2, ?_, l2, by rw [List.length_take]; omega⟩
    have sl := sl_hiL (xs := iL zs) (p := nn) (by omega) (by rw [len_iL]; omega)
    rw [iL_take] at sl
    have t := tuple_l (iL (zs.take nn.toNat))
    have o8 : 8 ≤ sizeLine := by rw [sizeLine_eq]; decide
    have q2 : F fm [d1, .p (.list [.int B, .int (-B), .int 0, .int 1, .int (-1), .int (B + 1), .int 7, .int 8])] = .ok (.l (iL zs)) [some d2, none] := q2
    have e : exb F [.asg (.n 3) (.lst [.bin .pow (.c (.int 10)) (.c (.int 60)), .neg (.bin .pow (.c (.int 10)) (.c (.int 60))), .c (.int 0), .c (.int 1), .neg (.c (.int 1)), .fz (.bin .add (.bin .pow (.c (.int 10)) (.c (.int 60))) (.c (.int 1))), .c (.int 7), .c (.int 8)]), .ret (.bi .tuple [.sl (.call fm [.io 0, .v 3]) [] [.v 1]])] [some d1, some (.p (.int nn)), some (.p (.int way)), none, none] =
        .rt ((L3.D.p (PyData.tuple (iL (zs.take nn.toNat))))) [some d2, some (.p (.int nn)), some (.p (.int way)), some (.p (.list [.int B, .int (-B), .int 0, .int 1, .int (-1), .int (B + 1), .int 7, .int 8])), none] := by
      generalize iL (zs.take nn.toNat) = k1 at *
      generalize iL zs = k2 at *
      generalize B + 1 = B1 at *
      clear hw
      simp [exb, exs, tst, ev, evd, evl, evo, evk, evi, kCall, takeArgs, putBack, chg, has, atK, isL, isOwnL, margs, pures, fz, sto, stoD, L3.Fl.seq, L3.Fl.unlock, L3.Res.fl, L3.Res.bind, slot, L3.T.dat, L3.T.pure, L3.D.flat, qok, isQ, L3.E.quiet, quiets, dats, truth, wargs, walk, L3.lock, L3.unlock, Option.bind_some, Option.map_some, prm, tests, hB, hB1, q2, sl, t, o8]
    rw [exb, exs, tt, decide_eq_true c2]
    simp only [L3.Res.fl, if_true]
    rw [e]
    rfl
  · obtain ⟨xs, d2, l2, n2, e⟩ := lcs 1000 500 (by omega) (by omega)
    refine ⟨xs, d2, ?_, l2, n2⟩
    rw [exb, exs, tt, decide_eq_false c2]
    simp only [L3.Res.fl, Bool.false_eq_true, if_false, exb, L3.Fl.seq]
    rw [e]
    rfl
end K06

namespace K06
open PySem L2 L3
def top (i : Nat) : Stmt := PySem.Challenge.pw_baylines_k06_whole_who_passes_whom.main.body.getD i (.Pass ⟨0, 0, 0, 0⟩)
def t0 : FnI := ⟨"passes", top 1, [("book" : Str), ("x" : Str), ("h" : Str)], [("book" : Str), ("x" : Str), ("h" : Str)], [([("h" : Str), ("book" : Str), ("x" : Str)], [1, 2, 0])]⟩
/-- passes -/
def b0 : List S := [
  .ret (.cmp .isin (.tup [.v 1, .v 2]) (.pk 0))]
def d0 : Def := ⟨3, 3, [], b0⟩
def t1 : FnI := ⟨"passed", top 2, [("book" : Str), ("x" : Str), ("passer" : Str), ("h" : Str)], [("book" : Str), ("x" : Str)], [([("x" : Str), ("book" : Str)], [1, 0])]⟩
/-- passed -/
def b1 : List S := [
  .ret (.bi .tuple [.lc [2, 3] (.t [.n 2, .n 3]) .seq none [.v 0] [.cmp .eq (.pk 2) (.pk 1)] (.v 3)])]
def d1 : Def := ⟨2, 4, [], b1⟩
def t2 : FnI := ⟨"passers", top 3, [("book" : Str), ("x" : Str), ("h" : Str)], [("book" : Str)], [([("book" : Str)], [0])]⟩
/-- passers -/
def b2 : List S := [
  .ret (.bi .tuple [.bi .sortedset [.lc [1, 2] (.t [.n 1, .n 2]) .seq none [.v 0] [] (.v 1)]])]
def d2 : Def := ⟨1, 3, [], b2⟩
def t3 : FnI := ⟨"ranked", top 4, [("levels" : Str), ("found" : Str), ("x" : Str), ("own" : Str), ("h" : Str), ("level" : Str)], [("levels" : Str)], [([("levels" : Str)], [0])]⟩
/-- ranked -/
def b3 : List S := [
  .asg (.n 1) (.lst []),
  .for (.t [.n 2, .n 3]) .enum none [.v 0] [.expr (.mut .extend 1 [] [.lc [4, 5] (.t [.n 4, .n 5]) .enum none [.v 0] [.cmp .lt (.pk 3) (.pk 5)] (.tup [.v 2, .v 4])])],
  .ret (.bi .tuple [.pk 1])]
def d3 : Def := ⟨1, 6, [], b3⟩
def t4 : FnI := ⟨"_law_loom", top 6, [("script" : Str), ("cells" : Str), ("stirred" : Str), ("cell" : Str)], [("script" : Str)], []⟩
/-- _law_loom -/
def b4 : List S := [
  .asgs [.n 1, .n 2] [.lc [3] (.n 3) .seq none [.fz (.sl (.pk 0) [] [.c (.int 63)])] [] (.fz (.bin .add (.bin .mul (.c (.int 2)) (.bi .abs [.pk 3])) (.bi .int [.cmp .lt (.pk 3) (.c (.int 0))]))), .bin .add (.c (.int 60913)) (.bin .mul (.c (.int 7)) (.bi .len [.pk 0]))],
  .for (.n 3) .seq none [.v 1] [.asg (.n 2) (.bin .mod (.bi .int [.bin .add (.bin .add (.bin .mul (.pk 2) (.c (.int 48271))) (.pk 3)) (.c (.int 11))]) (.c (.int 4294967291)))],
  .ret (.dct [.inr "far", .inr "stirred", .inr "times"] [.lc [3] (.n 3) .seq none [.v 1] [.cmp .ge (.pk 3) (.bin .pow (.c (.int 10)) (.c (.int 15)))] (.v 3), .mv 2, .c (.int 0)])]
def d4 : Def := ⟨1, 4, [], b4⟩
def t5 : FnI := ⟨"_law_twos", top 7, [("n" : Str), ("found" : Str), ("x" : Str), ("h" : Str)], [("n" : Str)], []⟩
/-- _law_twos -/
def b5 : List S := [
  .asg (.n 1) (.lst []),
  .for (.n 2) .rng1 none [.v 0] [.expr (.mut .extend 1 [] [.lc [3] (.n 3) .rng1 none [.v 0] [.cmp .ne (.pk 3) (.pk 2)] (.tup [.v 2, .v 3])])],
  .ret (.mv 1)]
def d5 : Def := ⟨1, 4, [], b5⟩
def t6 : FnI := ⟨"_law_draw", top 8, [("loom" : Str), ("many" : Str), ("one" : Str), ("cell" : Str)], [("loom" : Str), ("many" : Str)], []⟩
/-- _law_draw -/
def b6 : List S := [
  .ifs (.cmp .lt (.pk 1) (.c (.int 2))) [.ret (.c (.int 0))] [],
  .ifs (.cmp .ne (.path 0 (.c (.str "far"))) (.lst [])) [.asg (.n 3) (.mut .pop 0 [.c (.str "far")] []), .ifs (.cmp .ge (.pk 3) (.pk 1)) [.expr (.mut .append 0 [.c (.str "far")] [.bin .fdiv (.pk 3) (.pk 1)])] [], .ret (.bin .mod (.bi .int [.pk 3]) (.pk 1))] [],
  .asg (.ix 0 [] (.c (.str "times"))) (.bin .add (.path 0 (.c (.str "times"))) (.c (.int 1))),
  .asg (.n 2) (.bin .mod (.bi .int [.bin .add (.path 0 (.c (.str "stirred"))) (.bin .mul (.c (.int 2654435761)) (.path 0 (.c (.str "times"))))]) (.c (.int 4294967279))),
  .asg (.n 2) (.bin .mod (.bi .int [.bin .add (.bin .add (.bin .mul (.pk 2) (.pk 2)) (.bin .mul (.c (.int 40503)) (.path 0 (.c (.str "times"))))) (.c (.int 17))]) (.c (.int 4294967231))),
  .asg (.n 2) (.bin .mod (.bi .int [.bin .add (.bin .mul (.pk 2) (.pk 2)) (.path 0 (.c (.str "stirred")))]) (.c (.int 4294967197))),
  .ret (.bin .mod (.bi .int [.bin .fdiv (.pk 2) (.c (.int 128))]) (.pk 1))]
def d6 : Def := ⟨2, 4, [0], b6⟩
def t7 : FnI := ⟨"_law_pick", top 9, [("loom" : Str), ("things" : Str)], [("loom" : Str), ("things" : Str)], []⟩
/-- _law_pick -/
def b7 : List S := [
  .ret (.at (.pk 1) (.fz (.call 6 [.io 0, .bi .len [.pk 1]])))]
def d7 : Def := ⟨2, 2, [0], b7⟩
def t8 : FnI := ⟨"_law_mixed", top 10, [("loom" : Str), ("things" : Str), ("rest" : Str), ("found" : Str)], [("loom" : Str), ("things" : Str)], []⟩
/-- _law_mixed -/
def b8 : List S := [
  .asgs [.n 2, .n 3] [.bi .list [.pk 1], .lst []],
  .while (.cmp .ne (.pk 2) (.lst [])) [.expr (.mut .append 3 [] [.mut .pop 2 [] [.fz (.call 6 [.io 0, .bi .len [.pk 2]])]])],
  .ret (.mv 3)]
def d8 : Def := ⟨2, 4, [0], b8⟩
def t9 : FnI := ⟨"_law_is_kind", top 11, [("n" : Str), ("value" : Str)], [("n" : Str), ("value" : Str)], []⟩
/-- _law_is_kind -/
def b9 : List S := [
  .ret (.and (.bi (.isa .int) [.pk 1]) (.and (.not (.bi (.isa .bool) [.pk 1])) (.chain .le .lt (.c (.int 0)) (.pk 1) (.pk 0))))]
def d9 : Def := ⟨2, 2, [], b9⟩
def t10 : FnI := ⟨"_law_close", top 12, [("n" : Str), ("pairs" : Str), ("found" : Str), ("y" : Str), ("behind" : Str), ("before" : Str), ("x" : Str), ("z" : Str), ("pair" : Str)], [("n" : Str), ("pairs" : Str)], []⟩
/-- _law_close -/
def b10 : List S := [
  .asg (.n 2) (.bi .tdict [.lc [8] (.n 8) .seq none [.v 1] [] (.tup [.v 8, .c (.bool true)])]),
  .for (.n 3) .rng1 none [.v 0] [.asg (.n 4) (.lc [7] (.n 7) .rng1 none [.v 0] [.kin true 2 (.tup [.v 3, .v 7])] (.v 7)), .asg (.n 5) (.ife (.cmp .ne (.pk 4) (.lst [])) (.lc [6] (.n 6) .rng1 none [.v 0] [.kin true 2 (.tup [.v 6, .v 3])] (.v 6)) (.lst [])), .for (.n 6) .seq none [.v 5] [.for (.n 7) .seq none [.v 4] [.asg (.ix 2 [] (.tup [.v 6, .v 7])) (.c (.bool true))]]],
  .ret (.mv 2)]
def d10 : Def := ⟨2, 9, [], b10⟩
def t11 : FnI := ⟨"_law_book", top 13, [("loom" : Str), ("n" : Str), ("order" : Str), ("way" : Str), ("chance" : Str), ("pairs" : Str), ("levels" : Str), ("cut" : Str), ("place" : Str), ("x" : Str), ("turn" : Str), ("h" : Str)], [("loom" : Str), ("n" : Str)], []⟩
/-- _law_book -/
def b11 : List S := [
  .asgs [.n 2, .n 3, .n 4, .n 5] [.call 8 [.io 0, .bi .lrange [.pk 1]], .call 6 [.io 0, .c (.int 5)], .bin .add (.c (.int 1)) (.call 6 [.io 0, .c (.int 4)]), .lst []],
  .asgs [.n 6, .n 7] [.ife (.cmp .eq (.pk 3) (.c (.int 0))) (.lc [10] (.n 10) .rng1 none [.v 1] [] (.fz (.call 6 [.io 0, .v 1]))) (.bin .mul (.lst [.c (.int 0)]) (.pk 1)), .call 6 [.io 0, .bin .add (.pk 1) (.c (.int 1))]],
  .for (.t [.n 8, .n 9]) .enum none [.v 2] [.ifs (.cmp .eq (.pk 3) (.c (.int 0))) [.expr (.mut .extend 5 [] [.lc [11] (.n 11) .seq none [.v 2] [.cmp .lt (.at (.pk 6) (.v 9)) (.at (.pk 6) (.v 11))] (.tup [.v 9, .v 11])])] [.ifs (.cmp .eq (.pk 3) (.c (.int 1))) [.expr (.mut .extend 5 [] [.lc [11] (.n 11) .seq none [.fz (.sl (.pk 2) [.v 7] [])] [.cmp .lt (.pk 8) (.pk 7)] (.tup [.v 9, .v 11])])] [.expr (.mut .extend 5 [] [.lc [11] (.n 11) .seq none [.fz (.sl (.pk 2) [.fz (.bin .add (.pk 8) (.c (.int 1)))] [])] [.cmp .lt (.call 6 [.io 0, .c (.int 5)]) (.pk 4)] (.tup [.v 9, .v 11])])]]],
  .ret (.bi .tuple [.kso (.call 10 [.v 1, .v 5])])]
def d11 : Def := ⟨2, 12, [0], b11⟩
def t12 : FnI := ⟨"_law_book_due", top 14, [("n" : Str), ("value" : Str), ("place" : Str), ("item" : Str), ("x" : Str), ("y" : Str), ("z" : Str)], [("n" : Str), ("value" : Str)], []⟩
/-- _law_book_due -/
def b12 : List S := [
  .ifs (.not (.bi (.isa .tup) [.pk 1])) [.ret (.c (.str "form"))] [],
  .for (.t [.n 2, .n 3]) .enum none [.v 1] [.ifs (.or (.not (.bi (.isa .tup) [.pk 3])) (.cmp .ne (.bi .len [.pk 3]) (.c (.int 2)))) [.ret (.tup [.c (.str "pair"), .v 2])] [], .ifs (.or (.not (.call 9 [.v 0, .at (.pk 3) (.c (.int 0))])) (.not (.call 9 [.v 0, .at (.pk 3) (.c (.int 1))]))) [.ret (.tup [.c (.str "pair"), .v 2])] []],
  .for (.n 2) .rng2 none [.c (.int 1), .bi .len [.pk 1]] [.ifs (.cmp .le (.at (.pk 1) (.v 2)) (.at (.pk 1) (.bin .sub (.pk 2) (.c (.int 1))))) [.ret (.tup [.c (.str "order"), .v 2])] []],
  .for (.n 4) .rng1 none [.v 0] [.ifs (.cmp .isin (.tup [.v 4, .v 4]) (.pk 1)) [.ret (.tup [.c (.str "self"), .v 4])] []],
  .for (.t [.n 4, .n 5]) .seq none [.v 1] [.for (.n 6) .rng1 none [.v 0] [.ifs (.and (.cmp .isin (.tup [.v 5, .v 6]) (.pk 1)) (.cmp .notin (.tup [.v 4, .v 6]) (.pk 1))) [.ret (.tup [.c (.str "whom"), .v 4, .v 5, .v 6])] []]],
  .ret (.c .none)]
def d12 : Def := ⟨2, 7, [], b12⟩
def t13 : FnI := ⟨"_law_levels", top 15, [("loom" : Str), ("n" : Str), ("way" : Str), ("far" : Str), ("turn" : Str)], [("loom" : Str), ("n" : Str)], []⟩
/-- _law_levels -/
def b13 : List S := [
  .asg (.n 2) (.call 6 [.io 0, .c (.int 4)]),
  .ifs (.cmp .eq (.pk 2) (.c (.int 0))) [.ret (.bin .mul (.tup [.fz (.call 7 [.io 0, .lst [.c (.int 0), .neg (.c (.int 5)), .bin .pow (.c (.int 10)) (.c (.int 60))]])]) (.pk 1))] [],
  .ifs (.cmp .eq (.pk 2) (.c (.int 1))) [.ret (.bi .tuple [.lc [4] (.n 4) .rng1 none [.v 1] [] (.bin .sub (.call 6 [.io 0, .c (.int 3)]) (.c (.int 1)))])] [],
  .ifs (.cmp .eq (.pk 2) (.c (.int 2))) [.asg (.n 3) (.lst [.bin .pow (.c (.int 10)) (.c (.int 60)), .neg (.bin .pow (.c (.int 10)) (.c (.int 60))), .c (.int 0), .c (.int 1), .neg (.c (.int 1)), .fz (.bin .add (.bin .pow (.c (.int 10)) (.c (.int 60))) (.c (.int 1))), .c (.int 7), .c (.int 8)]), .ret (.bi .tuple [.sl (.call 8 [.io 0, .v 3]) [] [.v 1]])] [],
  .ret (.bi .tuple [.lc [4] (.n 4) .rng1 none [.v 1] [] (.bin .sub (.call 6 [.io 0, .c (.int 1000)]) (.c (.int 500)))])]
def d13 : Def := ⟨2, 5, [0], b13⟩
def t14 : FnI := ⟨"_law_is_looked", top 16, [("n" : Str), ("book" : Str), ("is_named" : Str), ("stood" : Str), ("x" : Str), ("due" : Str), ("told" : Str), ("h" : Str), ("y" : Str), ("z" : Str)], [("n" : Str), ("book" : Str), ("is_named" : Str)], []⟩
/-- _law_is_looked -/
def b14 : List S := [
  .asg (.n 3) (.bi .repr [.pk 1]),
  .for (.n 4) .rng1 none [.v 0] [.asg (.n 5) (.bi .tuple [.lc [7] (.n 7) .rng1 none [.v 0] [.cmp .isin (.tup [.v 4, .v 7]) (.pk 1)] (.v 7)]), .asg (.n 6) (.ife (.pk 2) (.callk 1 [] [1, 0] [.v 4, .v 1]) (.call 1 [.v 1, .v 4])), .ifs (.cmp .ne (.bi .repr [.pk 6]) (.bi .repr [.pk 5])) [.ret (.c (.bool false))] [], .for (.n 7) .rng1 none [.v 0] [.asg (.n 6) (.ife (.pk 2) (.callk 0 [] [1, 2, 0] [.v 7, .v 1, .v 4]) (.call 0 [.v 1, .v 4, .v 7])), .ifs (.cmp .ne (.bi .repr [.pk 6]) (.bi .repr [.cmp .isin (.tup [.v 4, .v 7]) (.pk 1)])) [.ret (.c (.bool false))] []], .for (.n 8) .seq none [.v 5] [.ifs (.cmp .ne (.lc [9] (.n 9) .seq none [.fz (.bin .add (.tup [.v 8]) (.call 1 [.v 1, .v 8]))] [.cmp .notin (.pk 9) (.pk 5)] (.v 9)) (.lst [])) [.ret (.c (.bool false))] []]],
  .asg (.n 5) (.bi .tuple [.lc [4] (.n 4) .rng1 none [.v 0] [.cmp .ne (.lc [7] (.n 7) .rng1 none [.v 0] [.cmp .isin (.tup [.v 4, .v 7]) (.pk 1)] (.v 7)) (.lst [])] (.v 4)]),
  .ret (.and (.cmp .eq (.bi .repr [.callk 2 [] [0] [.v 1]]) (.bi .repr [.pk 5])) (.and (.cmp .eq (.bi .repr [.call 2 [.v 1]]) (.bi .repr [.pk 5])) (.cmp .eq (.bi .repr [.pk 1]) (.pk 3))))]
def d14 : Def := ⟨3, 10, [], b14⟩
def t15 : FnI := ⟨"law", top 17, [("script" : Str), ("loom" : Str), ("turn" : Str), ("n" : Str), ("levels" : Str), ("move" : Str), ("due" : Str), ("told" : Str), ("pair" : Str), ("own" : Str)], [("script" : Str)], []⟩
/-- law -/
def b15 : List S := [
  .asg (.n 1) (.call 4 [.v 0]),
  .for (.n 2) .rng1 none [.c (.int 8)] [.asg (.n 3) (.bin .add (.c (.int 1)) (.call 6 [.io 1, .call 7 [.io 1, .lst [.c (.int 2), .c (.int 4), .c (.int 8)]]])), .ifs (.not (.call 14 [.v 3, .call 11 [.io 1, .v 3], .cmp .eq (.pk 2) (.c (.int 1))])) [.ret (.c (.bool false))] [], .asgs [.n 4, .n 5] [.call 13 [.io 1, .v 3], .call 7 [.io 1, .lst [.c (.int 0), .c (.int 1), .neg (.c (.int 7)), .bin .pow (.c (.int 10)) (.c (.int 40))]]], .asg (.n 6) (.bi .tuple [.lc [8] (.n 8) .seq none [.fz (.call 5 [.v 3])] [.cmp .lt (.at (.pk 4) (.at (.pk 8) (.c (.int 0)))) (.at (.pk 4) (.at (.pk 8) (.c (.int 1))))] (.v 8)]), .asg (.n 7) (.ife (.cmp .eq (.pk 2) (.c (.int 2))) (.callk 3 [] [0] [.v 4]) (.call 3 [.v 4])), .ifs (.or (.cmp .ne (.bi .repr [.pk 7]) (.bi .repr [.pk 6])) (.cmp .isnot (.call 12 [.v 3, .v 7]) (.c .none))) [.ret (.c (.bool false))] [], .ifs (.or (.cmp .ne (.bi .repr [.call 3 [.bi .tuple [.lc [9] (.n 9) .seq none [.v 4] [] (.fz (.bin .add (.pk 9) (.pk 5)))]]]) (.bi .repr [.pk 6])) (.not (.call 14 [.v 3, .v 6, .c (.bool false)]))) [.ret (.c (.bool false))] []],
  .ret (.c (.bool true))]
def d15 : Def := ⟨1, 10, [], b15⟩
def T : List FnI := [t0, t1, t2, t3, t4, t5, t6, t7, t8, t9, t10, t11, t12, t13, t14, t15]
def P : List Def := [d0, d1, d2, d3, d4, d5, d6, d7, d8, d9, d10, d11, d12, d13, d14, d15]
def blts : List Str := [("abs" : Str), ("bool" : Str), ("dict" : Str), ("enumerate" : Str), ("int" : Str), ("isinstance" : Str), ("len" : Str), ("list" : Str), ("range" : Str), ("repr" : Str), ("set" : Str), ("sorted" : Str), ("tuple" : Str)]
def gcs : List (Str × Int) := []
theorem tab : tabB T blts gcs P = true := by decide +kernel
theorem a0 {K : PySem.W.Frag} {mg : Str → Option Value} {h : Heap} (X : K.In h) (G : h.Ns mainGlobals mg) {f : Addr} {oc kV dc pm cd ct : Value} {od an : Option Addr} {sl : Array (Option Value)} (a : PySem.W.nsIn K mainGlobals "passes" = some (some (.ref f)))
    (l : K.lookup f = some ⟨oc, od, .func (PySem.W.fnOf "passes" "passes" (defArgs (top 1)) (defBody (top 1)) (defScope (top 1)) .none kV dc pm an cd ct), sl⟩) (c : PySem.W.codeIn K cd "passes" = true) (k : PySem.W.keepIn K (.ref f) = true) : ∃ adr fd, FnA K mg t0 adr fd := by
  refine ⟨f, _, fun_mk l c k, PySem.W.mg_of X G a, (fun_mk l c k).binds fun _ _ _ _ _ _ us hl => match us, hl with | [_, _, _], _ => rfl, fun p hp => ?_⟩
  simp only [t0, List.mem_cons, List.not_mem_nil, or_false] at hp
  rcases hp with rfl
  · exact kb_mk 0 rfl (by simp [t0]) fun us ws hu hw => match us, hu, ws, hw with | [], _, [_, _, _], _ => rfl
theorem a1 {K : PySem.W.Frag} {mg : Str → Option Value} {h : Heap} (X : K.In h) (G : h.Ns mainGlobals mg) {f : Addr} {oc kV dc pm cd ct : Value} {od an : Option Addr} {sl : Array (Option Value)} (a : PySem.W.nsIn K mainGlobals "passed" = some (some (.ref f)))
    (l : K.lookup f = some ⟨oc, od, .func (PySem.W.fnOf "passed" "passed" (defArgs (top 2)) (defBody (top 2)) (defScope (top 2)) .none kV dc pm an cd ct), sl⟩) (c : PySem.W.codeIn K cd "passed" = true) (k : PySem.W.keepIn K (.ref f) = true) : ∃ adr fd, FnA K mg t1 adr fd := by
  refine ⟨f, _, fun_mk l c k, PySem.W.mg_of X G a, (fun_mk l c k).binds fun _ _ _ _ _ _ us hl => match us, hl with | [_, _], _ => rfl, fun p hp => ?_⟩
  simp only [t1, List.mem_cons, List.not_mem_nil, or_false] at hp
  rcases hp with rfl
  · exact kb_mk 0 rfl (by simp [t1]) fun us ws hu hw => match us, hu, ws, hw with | [], _, [_, _], _ => rfl
theorem a2 {K : PySem.W.Frag} {mg : Str → Option Value} {h : Heap} (X : K.In h) (G : h.Ns mainGlobals mg) {f : Addr} {oc kV dc pm cd ct : Value} {od an : Option Addr} {sl : Array (Option Value)} (a : PySem.W.nsIn K mainGlobals "passers" = some (some (.ref f)))
    (l : K.lookup f = some ⟨oc, od, .func (PySem.W.fnOf "passers" "passers" (defArgs (top 3)) (defBody (top 3)) (defScope (top 3)) .none kV dc pm an cd ct), sl⟩) (c : PySem.W.codeIn K cd "passers" = true) (k : PySem.W.keepIn K (.ref f) = true) : ∃ adr fd, FnA K mg t2 adr fd := by
  refine ⟨f, _, fun_mk l c k, PySem.W.mg_of X G a, (fun_mk l c k).binds fun _ _ _ _ _ _ us hl => match us, hl with | [_], _ => rfl, fun p hp => ?_⟩
  simp only [t2, List.mem_cons, List.not_mem_nil, or_false] at hp
  rcases hp with rfl
  · exact kb_mk 0 rfl (by simp [t2]) fun us ws hu hw => match us, hu, ws, hw with | [], _, [_], _ => rfl
theorem a3 {K : PySem.W.Frag} {mg : Str → Option Value} {h : Heap} (X : K.In h) (G : h.Ns mainGlobals mg) {f : Addr} {oc kV dc pm cd ct : Value} {od an : Option Addr} {sl : Array (Option Value)} (a : PySem.W.nsIn K mainGlobals "ranked" = some (some (.ref f)))
    (l : K.lookup f = some ⟨oc, od, .func (PySem.W.fnOf "ranked" "ranked" (defArgs (top 4)) (defBody (top 4)) (defScope (top 4)) .none kV dc pm an cd ct), sl⟩) (c : PySem.W.codeIn K cd "ranked" = true) (k : PySem.W.keepIn K (.ref f) = true) : ∃ adr fd, FnA K mg t3 adr fd := by
  refine ⟨f, _, fun_mk l c k, PySem.W.mg_of X G a, (fun_mk l c k).binds fun _ _ _ _ _ _ us hl => match us, hl with | [_], _ => rfl, fun p hp => ?_⟩
  simp only [t3, List.mem_cons, List.not_mem_nil, or_false] at hp
  rcases hp with rfl
  · exact kb_mk 0 rfl (by simp [t3]) fun us ws hu hw => match us, hu, ws, hw with | [], _, [_], _ => rfl
theorem a4 {K : PySem.W.Frag} {mg : Str → Option Value} {h : Heap} (X : K.In h) (G : h.Ns mainGlobals mg) {f : Addr} {oc kV dc pm cd ct : Value} {od an : Option Addr} {sl : Array (Option Value)} (a : PySem.W.nsIn K mainGlobals "_law_loom" = some (some (.ref f)))
    (l : K.lookup f = some ⟨oc, od, .func (PySem.W.fnOf "_law_loom" "_law_loom" (defArgs (top 6)) (defBody (top 6)) (defScope (top 6)) .none kV dc pm an cd ct), sl⟩) (c : PySem.W.codeIn K cd "_law_loom" = true) (k : PySem.W.keepIn K (.ref f) = true) : ∃ adr fd, FnA K mg t4 adr fd := by
  refine ⟨f, _, fun_mk l c k, PySem.W.mg_of X G a, (fun_mk l c k).binds fun _ _ _ _ _ _ us hl => match us, hl with | [_], _ => rfl, fun p hp => ?_⟩
  exact absurd hp (by simp [t4])
theorem a5 {K : PySem.W.Frag} {mg : Str → Option Value} {h : Heap} (X : K.In h) (G : h.Ns mainGlobals mg) {f : Addr} {oc kV dc pm cd ct : Value} {od an : Option Addr} {sl : Array (Option Value)} (a : PySem.W.nsIn K mainGlobals "_law_twos" = some (some (.ref f)))
    (l : K.lookup f = some ⟨oc, od, .func (PySem.W.fnOf "_law_twos" "_law_twos" (defArgs (top 7)) (defBody (top 7)) (defScope (top 7)) .none kV dc pm an cd ct), sl⟩) (c : PySem.W.codeIn K cd "_law_twos" = true) (k : PySem.W.keepIn K (.ref f) = true) : ∃ adr fd, FnA K mg t5 adr fd := by
  refine ⟨f, _, fun_mk l c k, PySem.W.mg_of X G a, (fun_mk l c k).binds fun _ _ _ _ _ _ us hl => match us, hl with | [_], _ => rfl, fun p hp => ?_⟩
  exact absurd hp (by simp [t5])
theorem a6 {K : PySem.W.Frag} {mg : Str → Option Value} {h : Heap} (X : K.In h) (G : h.Ns mainGlobals mg) {f : Addr} {oc kV dc pm cd ct : Value} {od an : Option Addr} {sl : Array (Option Value)} (a : PySem.W.nsIn K mainGlobals "_law_draw" = some (some (.ref f)))
    (l : K.lookup f = some ⟨oc, od, .func (PySem.W.fnOf "_law_draw" "_law_draw" (defArgs (top 8)) (defBody (top 8)) (defScope (top 8)) .none kV dc pm an cd ct), sl⟩) (c : PySem.W.codeIn K cd "_law_draw" = true) (k : PySem.W.keepIn K (.ref f) = true) : ∃ adr fd, FnA K mg t6 adr fd := by
  refine ⟨f, _, fun_mk l c k, PySem.W.mg_of X G a, (fun_mk l c k).binds fun _ _ _ _ _ _ us hl => match us, hl with | [_, _], _ => rfl, fun p hp => ?_⟩
  exact absurd hp (by simp [t6])
theorem a7 {K : PySem.W.Frag} {mg : Str → Option Value} {h : Heap} (X : K.In h) (G : h.Ns mainGlobals mg) {f : Addr} {oc kV dc pm cd ct : Value} {od an : Option Addr} {sl : Array (Option Value)} (a : PySem.W.nsIn K mainGlobals "_law_pick" = some (some (.ref f)))
    (l : K.lookup f = some ⟨oc, od, .func (PySem.W.fnOf "_law_pick" "_law_pick" (defArgs (top 9)) (defBody (top 9)) (defScope (top 9)) .none kV dc pm an cd ct), sl⟩) (c : PySem.W.codeIn K cd "_law_pick" = true) (k : PySem.W.keepIn K (.ref f) = true) : ∃ adr fd, FnA K mg t7 adr fd := by
  refine ⟨f, _, fun_mk l c k, PySem.W.mg_of X G a, (fun_mk l c k).binds fun _ _ _ _ _ _ us hl => match us, hl with | [_, _], _ => rfl, fun p hp => ?_⟩
  exact absurd hp (by simp [t7])
theorem a8 {K : PySem.W.Frag} {mg : Str → Option Value} {h : Heap} (X : K.In h) (G : h.Ns mainGlobals mg) {f : Addr} {oc kV dc pm cd ct : Value} {od an : Option Addr} {sl : Array (Option Value)} (a : PySem.W.nsIn K mainGlobals "_law_mixed" = some (some (.ref f)))
    (l : K.lookup f = some ⟨oc, od, .func (PySem.W.fnOf "_law_mixed" "_law_mixed" (defArgs (top 10)) (defBody (top 10)) (defScope (top 10)) .none kV dc pm an cd ct), sl⟩) (c : PySem.W.codeIn K cd "_law_mixed" = true) (k : PySem.W.keepIn K (.ref f) = true) : ∃ adr fd, FnA K mg t8 adr fd := by
  refine ⟨f, _, fun_mk l c k, PySem.W.mg_of X G a, (fun_mk l c k).binds fun _ _ _ _ _ _ us hl => match us, hl with | [_, _], _ => rfl, fun p hp => ?_⟩
  exact absurd hp (by simp [t8])
theorem a9 {K : PySem.W.Frag} {mg : Str → Option Value} {h : Heap} (X : K.In h) (G : h.Ns mainGlobals mg) {f : Addr} {oc kV dc pm cd ct : Value} {od an : Option Addr} {sl : Array (Option Value)} (a : PySem.W.nsIn K mainGlobals "_law_is_kind" = some (some (.ref f)))
    (l : K.lookup f = some ⟨oc, od, .func (PySem.W.fnOf "_law_is_kind" "_law_is_kind" (defArgs (top 11)) (defBody (top 11)) (defScope (top 11)) .none kV dc pm an cd ct), sl⟩) (c : PySem.W.codeIn K cd "_law_is_kind" = true) (k : PySem.W.keepIn K (.ref f) = true) : ∃ adr fd, FnA K mg t9 adr fd := by
  refine ⟨f, _, fun_mk l c k, PySem.W.mg_of X G a, (fun_mk l c k).binds fun _ _ _ _ _ _ us hl => match us, hl with | [_, _], _ => rfl, fun p hp => ?_⟩
  exact absurd hp (by simp [t9])
theorem a10 {K : PySem.W.Frag} {mg : Str → Option Value} {h : Heap} (X : K.In h) (G : h.Ns mainGlobals mg) {f : Addr} {oc kV dc pm cd ct : Value} {od an : Option Addr} {sl : Array (Option Value)} (a : PySem.W.nsIn K mainGlobals "_law_close" = some (some (.ref f)))
    (l : K.lookup f = some ⟨oc, od, .func (PySem.W.fnOf "_law_close" "_law_close" (defArgs (top 12)) (defBody (top 12)) (defScope (top 12)) .none kV dc pm an cd ct), sl⟩) (c : PySem.W.codeIn K cd "_law_close" = true) (k : PySem.W.keepIn K (.ref f) = true) : ∃ adr fd, FnA K mg t10 adr fd := by
  refine ⟨f, _, fun_mk l c k, PySem.W.mg_of X G a, (fun_mk l c k).binds fun _ _ _ _ _ _ us hl => match us, hl with | [_, _], _ => rfl, fun p hp => ?_⟩
  exact absurd hp (by simp [t10])
theorem a11 {K : PySem.W.Frag} {mg : Str → Option Value} {h : Heap} (X : K.In h) (G : h.Ns mainGlobals mg) {f : Addr} {oc kV dc pm cd ct : Value} {od an : Option Addr} {sl : Array (Option Value)} (a : PySem.W.nsIn K mainGlobals "_law_book" = some (some (.ref f)))
    (l : K.lookup f = some ⟨oc, od, .func (PySem.W.fnOf "_law_book" "_law_book" (defArgs (top 13)) (defBody (top 13)) (defScope (top 13)) .none kV dc pm an cd ct), sl⟩) (c : PySem.W.codeIn K cd "_law_book" = true) (k : PySem.W.keepIn K (.ref f) = true) : ∃ adr fd, FnA K mg t11 adr fd := by
  refine ⟨f, _, fun_mk l c k, PySem.W.mg_of X G a, (fun_mk l c k).binds fun _ _ _ _ _ _ us hl => match us, hl with | [_, _], _ => rfl, fun p hp => ?_⟩
  exact absurd hp (by simp [t11])
theorem a12 {K : PySem.W.Frag} {mg : Str → Option Value} {h : Heap} (X : K.In h) (G : h.Ns mainGlobals mg) {f : Addr} {oc kV dc pm cd ct : Value} {od an : Option Addr} {sl : Array (Option Value)} (a : PySem.W.nsIn K mainGlobals "_law_book_due" = some (some (.ref f)))
    (l : K.lookup f = some ⟨oc, od, .func (PySem.W.fnOf "_law_book_due" "_law_book_due" (defArgs (top 14)) (defBody (top 14)) (defScope (top 14)) .none kV dc pm an cd ct), sl⟩) (c : PySem.W.codeIn K cd "_law_book_due" = true) (k : PySem.W.keepIn K (.ref f) = true) : ∃ adr fd, FnA K mg t12 adr fd := by
  refine ⟨f, _, fun_mk l c k, PySem.W.mg_of X G a, (fun_mk l c k).binds fun _ _ _ _ _ _ us hl => match us, hl with | [_, _], _ => rfl, fun p hp => ?_⟩
  exact absurd hp (by simp [t12])
theorem a13 {K : PySem.W.Frag} {mg : Str → Option Value} {h : Heap} (X : K.In h) (G : h.Ns mainGlobals mg) {f : Addr} {oc kV dc pm cd ct : Value} {od an : Option Addr} {sl : Array (Option Value)} (a : PySem.W.nsIn K mainGlobals "_law_levels" = some (some (.ref f)))
    (l : K.lookup f = some ⟨oc, od, .func (PySem.W.fnOf "_law_levels" "_law_levels" (defArgs (top 15)) (defBody (top 15)) (defScope (top 15)) .none kV dc pm an cd ct), sl⟩) (c : PySem.W.codeIn K cd "_law_levels" = true) (k : PySem.W.keepIn K (.ref f) = true) : ∃ adr fd, FnA K mg t13 adr fd := by
  refine ⟨f, _, fun_mk l c k, PySem.W.mg_of X G a, (fun_mk l c k).binds fun _ _ _ _ _ _ us hl => match us, hl with | [_, _], _ => rfl, fun p hp => ?_⟩
  exact absurd hp (by simp [t13])
theorem a14 {K : PySem.W.Frag} {mg : Str → Option Value} {h : Heap} (X : K.In h) (G : h.Ns mainGlobals mg) {f : Addr} {oc kV dc pm cd ct : Value} {od an : Option Addr} {sl : Array (Option Value)} (a : PySem.W.nsIn K mainGlobals "_law_is_looked" = some (some (.ref f)))
    (l : K.lookup f = some ⟨oc, od, .func (PySem.W.fnOf "_law_is_looked" "_law_is_looked" (defArgs (top 16)) (defBody (top 16)) (defScope (top 16)) .none kV dc pm an cd ct), sl⟩) (c : PySem.W.codeIn K cd "_law_is_looked" = true) (k : PySem.W.keepIn K (.ref f) = true) : ∃ adr fd, FnA K mg t14 adr fd := by
  refine ⟨f, _, fun_mk l c k, PySem.W.mg_of X G a, (fun_mk l c k).binds fun _ _ _ _ _ _ us hl => match us, hl with | [_, _, _], _ => rfl, fun p hp => ?_⟩
  exact absurd hp (by simp [t14])
theorem a15 {K : PySem.W.Frag} {mg : Str → Option Value} {h : Heap} (X : K.In h) (G : h.Ns mainGlobals mg) {f : Addr} {oc kV dc pm cd ct : Value} {od an : Option Addr} {sl : Array (Option Value)} (a : PySem.W.nsIn K mainGlobals "law" = some (some (.ref f)))
    (l : K.lookup f = some ⟨oc, od, .func (PySem.W.fnOf "law" "law" (defArgs (top 17)) (defBody (top 17)) (defScope (top 17)) .none kV dc pm an cd ct), sl⟩) (c : PySem.W.codeIn K cd "law" = true) (k : PySem.W.keepIn K (.ref f) = true) : ∃ adr fd, FnA K mg t15 adr fd := by
  refine ⟨f, _, fun_mk l c k, PySem.W.mg_of X G a, (fun_mk l c k).binds fun _ _ _ _ _ _ us hl => match us, hl with | [_], _ => rfl, fun p hp => ?_⟩
  exact absurd hp (by simp [t15])
end K06


set_option maxHeartbeats 4000000
namespace K06
open PySem L3
structure Fs (F : FT) : Prop where
  loom : LoomF IsLm F 4
  draw : DrawF IsLm F 6
  pick : PickF IsLm F 7
  wov : WovF IsLm F 11
  lev : LevF IsLm F 13
  look : ∀ (nn : Int) (b : List PI2) (nm : Bool), 0 ≤ nn → nn ≤ 8 → Bk8 nn.toNat b → F 14 [.p (.int nn), (L3.D.p (PyData.tuple (bL b))), .p (.bool nm)] = .ok (.p (.bool true)) [none, none, none]
  rank : ∀ lv : List Int, lv.length ≤ 8 → F 3 [(L3.D.p (PyData.tuple (iL lv)))] = .ok ((L3.D.p (PyData.tuple (bL (rnk lv.length (vw lv)))))) [none]
  twos : ∀ nn : Int, 0 ≤ nn → nn ≤ 8 → F 5 [.p (.int nn)] = .ok (.l (bL (twos nn.toNat))) [none]
  due : ∀ (nn : Int) (b : List PI2), 0 ≤ nn → nn ≤ 8 → Bk8 nn.toNat b → (∀ x, (x, x) ∉ b) → F 12 [.p (.int nn), (L3.D.p (PyData.tuple (bL b)))] = .ok (.p .none) [none, none]
theorem fs (n : Nat) : Fs (callF P (n + 4)) := by
  have draw : ∀ n, DrawF IsLm (callF P (n + 1)) 6 := fun n => draw_def rfl n
  have pick : ∀ n, PickF IsLm (callF P (n + 2)) 7 := fun n => pick_def (f := 6) rfl (draw n)
  have mixed : ∀ n, MixedF IsLm (callF P (n + 2)) 8 := fun n => mixed_def rfl (draw n)
  refine ⟨loom_def rfl (n + 3), draw (n + 3), pick (n + 2), wov_def (fd := 6) (fm := 8) (fc := 10) (m := n + 2) rfl (draw (n + 2)) (mixed (n + 1)) rfl, lev_def (fd := 6) (fp := 7) (fm := 8) (m := n + 3) rfl (draw (n + 2)) (pick (n + 1)) (mixed (n + 1)), fun nn b nm h0 h8 hb => ?_, fun lv hl => rank_def rfl (n + 3) hl, fun nn h0 h8 => twos_def rfl (n + 3) h0 h8, fun nn b h0 h8 hb ir => due_none (fk := 9) rfl rfl (n + 2) h0 h8 hb ir⟩
  rw [callF_fr (d := lookD 0 1 2) rfl rfl]
  have bs : Bs (callF P (n + 3)) 0 1 2 nn.toNat b := ⟨hb, fun x y => passes_def rfl (n + 2) b x y, fun x => passed_def rfl (n + 2) (by have := hb.len (by omega); omega) x, passers_def rfl (n + 2) (by have := hb.len (by omega); omega) (by have := nub_few hb; omega)⟩
  exact look_ok (nm := nm) h0 h8 bs
section
variable {F : FT}
def wB : List S := [.asg (.n 3) (.bin .add (.c (.int 1)) (.call 6 [.io 1, .call 7 [.io 1, .lst [.c (.int 2), .c (.int 4), .c (.int 8)]]])), .ifs (.not (.call 14 [.v 3, .call 11 [.io 1, .v 3], .cmp .eq (.pk 2) (.c (.int 1))])) [.ret (.c (.bool false))] [], .asgs [.n 4, .n 5] [.call 13 [.io 1, .v 3], .call 7 [.io 1, .lst [.c (.int 0), .c (.int 1), .neg (.c (.int 7)), .bin .pow (.c (.int 10)) (.c (.int 40))]]], .asg (.n 6) (.bi .tuple [.lc [8] (.n 8) .seq none [.fz (.call 5 [.v 3])] [.cmp .lt (.at (.pk 4) (.at (.pk 8) (.c (.int 0)))) (.at (.pk 4) (.at (.pk 8) (.c (.int 1))))] (.v 8)]), .asg (.n 7) (.ife (.cmp .eq (.pk 2) (.c (.int 2))) (.callk 3 [] [0] [.v 4]) (.call 3 [.v 4])), .ifs (.or (.cmp .ne (.bi .repr [.pk 7]) (.bi .repr [.pk 6])) (.cmp .isnot (.call 12 [.v 3, .v 7]) (.c .none))) [.ret (.c (.bool false))] [], .ifs (.or (.cmp .ne (.bi .repr [.call 3 [.bi .tuple [.lc [9] (.n 9) .seq none [.v 4] [] (.fz (.bin .add (.pk 9) (.pk 5)))]]]) (.bi .repr [.pk 6])) (.not (.call 14 [.v 3, .v 6, .c (.bool false)]))) [.ret (.c (.bool false))] []]
theorem b15_eq : b15 = [.asg (.n 1) (.call 4 [.v 0]), .for (.n 2) .rng1 none [.c (.int 8)] wB, .ret (.c (.bool true))] := rfl
theorem at_tI {xs : List Int} {x : Int} (h : 0 ≤ x ∧ x < xs.length) : atD (.tuple (iL xs)) (.int x) = some (.int (xs.getD x.toNat 0)) := by
  have := at_tL (xs := xs) (p := x.toNat) (by omega)
  rwa [show ((x.toNat : Nat) : Int) = x by omega] at this
theorem turn_ok (fs : Fs F) {s0 : Option L3.D} {d : L3.D} (hL : IsLm d) {t : Int} {e3 e4 e5 e6 e7 : Option L3.D} :
    ∃ d' f3 f4 f5 f6 f7, IsLm d' ∧ exb F wB [s0, some d, some (.p (.int t)), e3, e4, e5, e6, e7, none, none] = .nx [s0, some d', some (.p (.int t)), f3, f4, f5, f6, f7, none, none] := by
  obtain ⟨x, d1, q1, l1, mx⟩ := fs.pick d (.l (iL [2, 4, 8])) (iL [2, 4, 8]) hL (.inl rfl) (by simp [iL]) (by simp [iL])
  obtain ⟨v, rfl, hv1, hv2⟩ : ∃ v : Int, x = .int v ∧ 1 ≤ v ∧ v ≤ 8 := by
    simp only [iL, List.map_cons, List.map_nil, List.mem_cons, List.not_mem_nil, or_false] at mx
    rcases mx with rfl | rfl | rfl <;> exact ⟨_, rfl, by decide, by decide⟩
  obtain ⟨r, d2, q2, l2, r0, r1⟩ := fs.draw d1 v l1 hv1 (by omega)
  obtain ⟨nn, hnn⟩ : ∃ nn : Int, nn = 1 + r := ⟨_, rfl⟩
  have ad : bin .add (.int 1) (.int r) = some (.p (.int nn)) := by rw [hnn]; exact bin_add 1 r
  have h1 : 1 ≤ nn := by omega
  have h8 : nn ≤ 8 := by omega
  have o3 : 3 ≤ sizeLine := by rw [sizeLine_eq]; decide
  have o4 : 4 ≤ sizeLine := by rw [sizeLine_eq]; decide
  have q1 : F 7 [d, .l [.int 2, .int 4, .int 8]] = .ok (.p (.int v)) [some d1, none] := q1
  have a1 : exs F (.asg (.n 3) (.bin .add (.c (.int 1)) (.call 6 [.io 1, .call 7 [.io 1, .lst [.c (.int 2), .c (.int 4), .c (.int 8)]]]))) [s0, some d, some (.p (.int t)), e3, e4, e5, e6, e7, none, none] = .nx [s0, some d2, some (.p (.int t)), some (.p (.int nn)), e4, e5, e6, e7, none, none] := by
    simp [exb, exs, tst, ev, evd, evl, evo, evk, evi, kCall, takeArgs, putBack, chg, has, atK, isL, isOwnL, margs, pures, fz, sto, stoD, L3.Fl.seq, L3.Fl.unlock, L3.Res.fl, L3.Res.bind, slot, L3.T.dat, L3.T.pure, L3.D.flat, qok, isQ, L3.E.quiet, quiets, dats, truth, wargs, walk, L3.lock, L3.unlock, Option.bind_some, Option.map_some, prm, tests, q1, q2, ad, o3]
  obtain ⟨bk, d3, q3, l3, hb⟩ := fs.wov d2 nn l2 h1 h8
  have q4 := fun nm => fs.look nn bk nm (by omega) h8 hb
  have a2 : exs F (.ifs (.not (.call 14 [.v 3, .call 11 [.io 1, .v 3], .cmp .eq (.pk 2) (.c (.int 1))])) [.ret (.c (.bool false))] []) [s0, some d2, some (.p (.int t)), some (.p (.int nn)), e4, e5, e6, e7, none, none] = .nx [s0, some d3, some (.p (.int t)), some (.p (.int nn)), e4, e5, e6, e7, none, none] := by
    have c := cmp_eqI t 1
    generalize bL bk = k at *
    simp [exb, exs, tst, ev, evd, evl, evo, evk, evi, kCall, takeArgs, putBack, chg, has, atK, isL, isOwnL, margs, pures, fz, sto, stoD, L3.Fl.seq, L3.Fl.unlock, L3.Res.fl, L3.Res.bind, slot, L3.T.dat, L3.T.pure, L3.D.flat, qok, isQ, L3.E.quiet, quiets, dats, truth, wargs, walk, L3.lock, L3.unlock, Option.bind_some, Option.map_some, prm, tests, q3, q4, c]
  obtain ⟨lv, d4, q5, l4, nl⟩ := fs.lev d3 nn l3 h1 h8
  obtain ⟨B, hB⟩ : ∃ B, bin .pow (.int 10) (.int 40) = some (.p (.int B)) := ⟨10000000000000000000000000000000000000000, by simp [bin]⟩
  obtain ⟨y, d5, q6, l5, my⟩ := fs.pick d4 (.l (iL [0, 1, -7, B])) (iL [0, 1, -7, B]) l4 (.inl rfl) (by simp [iL]) (by simp [iL])
  obtain ⟨mv, rfl⟩ : ∃ mv : Int, y = .int mv := by
    simp only [iL, List.map_cons, List.map_nil, List.mem_cons, List.not_mem_nil, or_false] at my
    rcases my with rfl | rfl | rfl | rfl <;> exact ⟨_, rfl⟩
  have q6 : F 7 [d4, .l [.int 0, .int 1, .int (-7), .int B]] = .ok (.p (.int mv)) [some d5, none] := q6
  have a3 : exs F (.asgs [.n 4, .n 5] [.call 13 [.io 1, .v 3], .call 7 [.io 1, .lst [.c (.int 0), .c (.int 1), .neg (.c (.int 7)), .bin .pow (.c (.int 10)) (.c (.int 40))]]]) [s0, some d3, some (.p (.int t)), some (.p (.int nn)), e4, e5, e6, e7, none, none] = .nx [s0, some d5, some (.p (.int t)), some (.p (.int nn)), some ((L3.D.p (PyData.tuple (iL lv)))), some (.p (.int mv)), e6, e7, none, none] := by
    generalize iL lv = k at *
    simp [exb, exs, tst, ev, evd, evl, evo, evk, evi, kCall, takeArgs, putBack, chg, has, atK, isL, isOwnL, margs, pures, fz, sto, stoD, L3.Fl.seq, L3.Fl.unlock, L3.Res.fl, L3.Res.bind, slot, L3.T.dat, L3.T.pure, L3.D.flat, qok, isQ, L3.E.quiet, quiets, dats, truth, wargs, walk, L3.lock, L3.unlock, Option.bind_some, Option.map_some, prm, tests, q5, q6, hB, o4]
  -- what is due
  have q7 := fs.twos nn (by omega) h8
  obtain ⟨rb, ri⟩ := rnk_bk nn.toNat (vw lv)
  have hd : (twos nn.toNat).filter (fun p => decide (lv.getD p.1.toNat 0 < lv.getD p.2.toNat 0)) = rnk nn.toNat (vw lv) := twos_rnk nn.toNat (vw lv)
  have lt : (twos nn.toNat).length < 16777216 := by
    have hl : ∀ x ∈ List.range nn.toNat, (((List.range nn.toNat).filter fun (h : Nat) => !decide ((h : Int) = (x : Int))).map fun (h : Nat) => ((x : Int), (h : Int))).length ≤ 8 := fun x _ => by
      rw [List.length_map]
      exact Nat.le_trans (List.length_filter_le _ _) (by rw [List.length_range]; omega)
    have : ∀ l : List Nat, (∀ x ∈ l, (((List.range nn.toNat).filter fun (h : Nat) => !decide ((h : Int) = (x : Int))).map fun (h : Nat) => ((x : Int), (h : Int))).length ≤ 8) → (l.flatMap fun (x : Nat) => (((List.range nn.toNat).filter fun (h : Nat) => !decide ((h : Int) = (x : Int))).map fun (h : Nat) => ((x : Int), (h : Int)))).length ≤ 8 * l.length := by
      intro l
      induction l with
      | nil => intro _; simp
      | cons x l ih =>
        intro h
        have := ih fun y hy => h y (by simp [hy])
        have := h x (by simp)
        rw [List.flatMap_cons, List.length_append, List.length_cons]
        omega
    have := this _ hl
    rw [List.length_range] at this
    unfold twos
    omega
  have g6 := comp_ev (α := PI2) pP (fun p => decide (lv.getD p.1.toNat 0 < lv.getD p.2.toNat 0)) pP (twos nn.toNat) (fun p => [s0, some d5, some (.p (.int t)), some (.p (.int nn)), some ((L3.D.p (PyData.tuple (iL lv)))), some (.p (.int mv)), e6, e7, some (.p (pP p)), none]) (own := [8]) (tg := .n 8) (k := .seq) (its := [.fz (.call 5 [.v 3])]) (cond := [.cmp .lt (.at (.pk 4) (.at (.pk 8) (.c (.int 0)))) (.at (.pk 4) (.at (.pk 8) (.c (.int 1))))]) (elt := .v 8) (F := F)
    (ρ := [s0, some d5, some (.p (.int t)), some (.p (.int nn)), some ((L3.D.p (PyData.tuple (iL lv)))), some (.p (.int mv)), e6, e7, none, none]) (ρ1 := [s0, some d5, some (.p (.int t)), some (.p (.int nn)), some ((L3.D.p (PyData.tuple (iL lv)))), some (.p (.int mv)), e6, e7, none, none]) (ts := [.o (.p (.list (bL (twos nn.toNat))))]) (by
      refine evl_o ?_
      generalize bL (twos nn.toNat) = k1 at *
      generalize iL lv = k at *
      simp [exb, exs, tst, ev, evd, evl, evo, evk, evi, kCall, takeArgs, putBack, chg, has, atK, isL, isOwnL, margs, pures, fz, sto, stoD, L3.Fl.seq, L3.Fl.unlock, L3.Res.fl, L3.Res.bind, slot, L3.T.dat, L3.T.pure, L3.D.flat, qok, isQ, L3.E.quiet, quiets, dats, truth, wargs, walk, L3.lock, L3.unlock, Option.bind_some, Option.map_some, prm, tests, q7]) rfl rfl lt (fun p hp => ⟨rfl, rfl, by
      have ip := twos_mem hp
      have t0 := at_p0 p
      have t1 := at_p1 p
      have b0 := at_tI (xs := lv) (x := p.1) (by omega)
      have b1 := at_tI (xs := lv) (x := p.2) (by omega)
      have c := cmp_lt (lv.getD p.1.toNat 0) (lv.getD p.2.toNat 0)
      generalize lv.getD p.1.toNat 0 = u1 at *
      generalize lv.getD p.2.toNat 0 = u2 at *
      generalize iL lv = k at *
      generalize pP p = pp at *
      simp [exb, exs, tst, ev, evd, evl, evo, evk, evi, kCall, takeArgs, putBack, chg, has, atK, isL, isOwnL, margs, pures, fz, sto, stoD, L3.Fl.seq, L3.Fl.unlock, L3.Res.fl, L3.Res.bind, slot, L3.T.dat, L3.T.pure, L3.D.flat, qok, isQ, L3.E.quiet, quiets, dats, truth, wargs, walk, L3.lock, L3.unlock, Option.bind_some, Option.map_some, prm, tests, t0, t1, b0, b1, c], fun _ => by
      generalize iL lv = k at *
      generalize pP p = pp at *
      simp [exb, exs, tst, ev, evd, evl, evo, evk, evi, kCall, takeArgs, putBack, chg, has, atK, isL, isOwnL, margs, pures, fz, sto, stoD, L3.Fl.seq, L3.Fl.unlock, L3.Res.fl, L3.Res.bind, slot, L3.T.dat, L3.T.pure, L3.D.flat, qok, isQ, L3.E.quiet, quiets, dats, truth, wargs, walk, L3.lock, L3.unlock, Option.bind_some, Option.map_some, prm, tests]⟩)
  have eb : (rnk nn.toNat (vw lv)).map pP = bL (rnk nn.toNat (vw lv)) := rfl
  rw [hd, eb] at g6
  have a4 : exs F (.asg (.n 6) (.bi .tuple [.lc [8] (.n 8) .seq none [.fz (.call 5 [.v 3])] [.cmp .lt (.at (.pk 4) (.at (.pk 8) (.c (.int 0)))) (.at (.pk 4) (.at (.pk 8) (.c (.int 1))))] (.v 8)])) [s0, some d5, some (.p (.int t)), some (.p (.int nn)), some ((L3.D.p (PyData.tuple (iL lv)))), some (.p (.int mv)), e6, e7, none, none] = .nx [s0, some d5, some (.p (.int t)), some (.p (.int nn)), some ((L3.D.p (PyData.tuple (iL lv)))), some (.p (.int mv)), some ((L3.D.p (PyData.tuple (bL (rnk nn.toNat (vw lv)))))), e7, none, none] := by
    refine asg_go (i := 6) (ρ1 := [s0, some d5, some (.p (.int t)), some (.p (.int nn)), some ((L3.D.p (PyData.tuple (iL lv)))), some (.p (.int mv)), e6, e7, none, none]) ?_
    have tl := tuple_l (bL (rnk nn.toNat (vw lv)))
    rw [ev, evl_o g6]
    simp only [L3.Res.bind, dats, L3.T.dat, L3.D.flat, Option.bind_some, tl]
  have q8 := fs.rank lv (by omega)
  rw [nl] at q8
  have a5 : exs F (.asg (.n 7) (.ife (.cmp .eq (.pk 2) (.c (.int 2))) (.callk 3 [] [0] [.v 4]) (.call 3 [.v 4]))) [s0, some d5, some (.p (.int t)), some (.p (.int nn)), some ((L3.D.p (PyData.tuple (iL lv)))), some (.p (.int mv)), some ((L3.D.p (PyData.tuple (bL (rnk nn.toNat (vw lv)))))), e7, none, none] = .nx [s0, some d5, some (.p (.int t)), some (.p (.int nn)), some ((L3.D.p (PyData.tuple (iL lv)))), some (.p (.int mv)), some ((L3.D.p (PyData.tuple (bL (rnk nn.toNat (vw lv)))))), some ((L3.D.p (PyData.tuple (bL (rnk nn.toNat (vw lv)))))), none, none] := by
    have c := cmp_eqI t 2
    generalize bL (rnk nn.toNat (vw lv)) = k1 at *
    generalize iL lv = k at *
    by_cases z : t = 2
    · rw [decide_eq_true z] at c
      simp [exb, exs, tst, ev, evd, evl, evo, evk, evi, kCall, takeArgs, putBack, chg, has, atK, isL, isOwnL, margs, pures, fz, sto, stoD, L3.Fl.seq, L3.Fl.unlock, L3.Res.fl, L3.Res.bind, slot, L3.T.dat, L3.T.pure, L3.D.flat, qok, isQ, L3.E.quiet, quiets, dats, truth, wargs, walk, L3.lock, L3.unlock, Option.bind_some, Option.map_some, prm, tests, q8, c]
    · rw [decide_eq_false z] at c
      simp [exb, exs, tst, ev, evd, evl, evo, evk, evi, kCall, takeArgs, putBack, chg, has, atK, isL, isOwnL, margs, pures, fz, sto, stoD, L3.Fl.seq, L3.Fl.unlock, L3.Res.fl, L3.Res.bind, slot, L3.T.dat, L3.T.pure, L3.D.flat, qok, isQ, L3.E.quiet, quiets, dats, truth, wargs, walk, L3.lock, L3.unlock, Option.bind_some, Option.map_some, prm, tests, q8, c]
  have lb := rb.len (by omega)
  have rp := rep_b (b := rnk nn.toNat (vw lv)) (fun p hp => by have := rb.inn p hp; omega) (by omega)
  have ns := ne_self (ok_b (rnk nn.toNat (vw lv)))
  have q9 := fs.due nn (rnk nn.toNat (vw lv)) (by omega) h8 rb ri
  have a6 : exs F (.ifs (.or (.cmp .ne (.bi .repr [.pk 7]) (.bi .repr [.pk 6])) (.cmp .isnot (.call 12 [.v 3, .v 7]) (.c .none))) [.ret (.c (.bool false))] []) [s0, some d5, some (.p (.int t)), some (.p (.int nn)), some ((L3.D.p (PyData.tuple (iL lv)))), some (.p (.int mv)), some ((L3.D.p (PyData.tuple (bL (rnk nn.toNat (vw lv)))))), some ((L3.D.p (PyData.tuple (bL (rnk nn.toNat (vw lv)))))), none, none] = .nx [s0, some d5, some (.p (.int t)), some (.p (.int nn)), some ((L3.D.p (PyData.tuple (iL lv)))), some (.p (.int mv)), some ((L3.D.p (PyData.tuple (bL (rnk nn.toNat (vw lv)))))), some ((L3.D.p (PyData.tuple (bL (rnk nn.toNat (vw lv)))))), none, none] := by
    have c := cmp_isnot .none
    have c : cmpD .isnot .none .none = some false := c
    generalize shB (rnk nn.toNat (vw lv)) = s at *
    generalize bL (rnk nn.toNat (vw lv)) = k1 at *
    generalize iL lv = k at *
    simp [exb, exs, tst, ev, evd, evl, evo, evk, evi, kCall, takeArgs, putBack, chg, has, atK, isL, isOwnL, margs, pures, fz, sto, stoD, L3.Fl.seq, L3.Fl.unlock, L3.Res.fl, L3.Res.bind, slot, L3.T.dat, L3.T.pure, L3.D.flat, qok, isQ, L3.E.quiet, quiets, dats, truth, wargs, walk, L3.lock, L3.unlock, Option.bind_some, Option.map_some, prm, tests, q9, rp, ns, c]
  -- levels moved
  have g7 := comp_evA (α := Int) PyData.int (fun v => .int (v + mv)) lv (fun v => [s0, some d5, some (.p (.int t)), some (.p (.int nn)), some ((L3.D.p (PyData.tuple (iL lv)))), some (.p (.int mv)), some ((L3.D.p (PyData.tuple (bL (rnk nn.toNat (vw lv)))))), some ((L3.D.p (PyData.tuple (bL (rnk nn.toNat (vw lv)))))), none, some (.p (.int v))]) (own := [9]) (tg := .n 9) (k := .seq) (its := [.v 4]) (elt := .fz (.bin .add (.pk 9) (.pk 5))) (F := F)
    (ρ := [s0, some d5, some (.p (.int t)), some (.p (.int nn)), some ((L3.D.p (PyData.tuple (iL lv)))), some (.p (.int mv)), some ((L3.D.p (PyData.tuple (bL (rnk nn.toNat (vw lv)))))), some ((L3.D.p (PyData.tuple (bL (rnk nn.toNat (vw lv)))))), none, none]) (ρ1 := [s0, some d5, some (.p (.int t)), some (.p (.int nn)), some ((L3.D.p (PyData.tuple (iL lv)))), some (.p (.int mv)), some ((L3.D.p (PyData.tuple (bL (rnk nn.toNat (vw lv)))))), some ((L3.D.p (PyData.tuple (bL (rnk nn.toNat (vw lv)))))), none, none]) (evl_vp rfl rfl) pw_iT rfl (by omega) (fun v hv => ⟨rfl, rfl, by
      have c := bin_add v mv
      generalize bL (rnk nn.toNat (vw lv)) = k1 at *
      generalize iL lv = k at *
      generalize v + mv = w at *
      simp [exb, exs, tst, ev, evd, evl, evo, evk, evi, kCall, takeArgs, putBack, chg, has, atK, isL, isOwnL, margs, pures, fz, sto, stoD, L3.Fl.seq, L3.Fl.unlock, L3.Res.fl, L3.Res.bind, slot, L3.T.dat, L3.T.pure, L3.D.flat, qok, isQ, L3.E.quiet, quiets, dats, truth, wargs, walk, L3.lock, L3.unlock, Option.bind_some, Option.map_some, prm, tests, c]⟩)
  have e7' : lv.map (fun v => PyData.int (v + mv)) = iL (lv.map (· + mv)) := by simp [iL]
  rw [e7'] at g7
  have q10 := fs.rank (lv.map (· + mv)) (by rw [List.length_map]; omega)
  rw [List.length_map, nl] at q10
  have er : rnk nn.toNat (vw (lv.map (· + mv))) = rnk nn.toNat (vw lv) := rnk_congr fun x y hx hy => by
    have hx' : x < lv.length := by omega
    have hy' : y < lv.length := by omega
    simp only [vw, List.getD_eq_getElem?_getD, List.getElem?_map, List.getElem?_eq_getElem hx', List.getElem?_eq_getElem hy', Option.map_some, Option.getD_some]
    omega
  rw [er] at q10
  have tl := tuple_l (iL (lv.map (· + mv)))
  have g8 : ev F (.bi .tuple [.lc [9] (.n 9) .seq none [.v 4] [] (.fz (.bin .add (.pk 9) (.pk 5)))]) [s0, some d5, some (.p (.int t)), some (.p (.int nn)), some ((L3.D.p (PyData.tuple (iL lv)))), some (.p (.int mv)), some ((L3.D.p (PyData.tuple (bL (rnk nn.toNat (vw lv)))))), some ((L3.D.p (PyData.tuple (bL (rnk nn.toNat (vw lv)))))), none, none] = .ok (.o ((L3.D.p (PyData.tuple (iL (lv.map (· + mv))))))) [s0, some d5, some (.p (.int t)), some (.p (.int nn)), some ((L3.D.p (PyData.tuple (iL lv)))), some (.p (.int mv)), some ((L3.D.p (PyData.tuple (bL (rnk nn.toNat (vw lv)))))), some ((L3.D.p (PyData.tuple (bL (rnk nn.toNat (vw lv)))))), none, none] := by
    rw [ev, evl_o g7]
    simp only [L3.Res.bind, dats, L3.T.dat, L3.D.flat, Option.bind_some, tl]
  have q11 := fs.look nn (rnk nn.toNat (vw lv)) false (by omega) h8 rb
  have g9 : ev F (.call 3 [.bi .tuple [.lc [9] (.n 9) .seq none [.v 4] [] (.fz (.bin .add (.pk 9) (.pk 5)))]]) [s0, some d5, some (.p (.int t)), some (.p (.int nn)), some ((L3.D.p (PyData.tuple (iL lv)))), some (.p (.int mv)), some ((L3.D.p (PyData.tuple (bL (rnk nn.toNat (vw lv)))))), some ((L3.D.p (PyData.tuple (bL (rnk nn.toNat (vw lv)))))), none, none] = .ok (.o ((L3.D.p (PyData.tuple (bL (rnk nn.toNat (vw lv))))))) [s0, some d5, some (.p (.int t)), some (.p (.int nn)), some ((L3.D.p (PyData.tuple (iL lv)))), some (.p (.int mv)), some ((L3.D.p (PyData.tuple (bL (rnk nn.toNat (vw lv)))))), some ((L3.D.p (PyData.tuple (bL (rnk nn.toNat (vw lv)))))), none, none] := by
    rw [ev, evl_o g8]
    simp [L3.Res.bind, kCall, takeArgs, putBack, q10]
  have g10 : ev F (.bi .repr [.call 3 [.bi .tuple [.lc [9] (.n 9) .seq none [.v 4] [] (.fz (.bin .add (.pk 9) (.pk 5)))]]]) [s0, some d5, some (.p (.int t)), some (.p (.int nn)), some ((L3.D.p (PyData.tuple (iL lv)))), some (.p (.int mv)), some ((L3.D.p (PyData.tuple (bL (rnk nn.toNat (vw lv)))))), some ((L3.D.p (PyData.tuple (bL (rnk nn.toNat (vw lv)))))), none, none] = .ok (.o (.p (.str (shB (rnk nn.toNat (vw lv)))))) [s0, some d5, some (.p (.int t)), some (.p (.int nn)), some ((L3.D.p (PyData.tuple (iL lv)))), some (.p (.int mv)), some ((L3.D.p (PyData.tuple (bL (rnk nn.toNat (vw lv)))))), some ((L3.D.p (PyData.tuple (bL (rnk nn.toNat (vw lv)))))), none, none] := by
    rw [ev, evl_o g9]
    simp only [L3.Res.bind, dats, L3.T.dat, L3.D.flat, Option.bind_some, rp]
  have t10 : tst F (.cmp .ne (.bi .repr [.call 3 [.bi .tuple [.lc [9] (.n 9) .seq none [.v 4] [] (.fz (.bin .add (.pk 9) (.pk 5)))]]]) (.bi .repr [.pk 6])) [s0, some d5, some (.p (.int t)), some (.p (.int nn)), some ((L3.D.p (PyData.tuple (iL lv)))), some (.p (.int mv)), some ((L3.D.p (PyData.tuple (bL (rnk nn.toNat (vw lv)))))), some ((L3.D.p (PyData.tuple (bL (rnk nn.toNat (vw lv)))))), none, none] = .ok false [s0, some d5, some (.p (.int t)), some (.p (.int nn)), some ((L3.D.p (PyData.tuple (iL lv)))), some (.p (.int mv)), some ((L3.D.p (PyData.tuple (bL (rnk nn.toNat (vw lv)))))), some ((L3.D.p (PyData.tuple (bL (rnk nn.toNat (vw lv)))))), none, none] := by
    refine tst_b rfl ?_
    rw [ev, g10]
    generalize shB (rnk nn.toNat (vw lv)) = s at *
    generalize bL (rnk nn.toNat (vw lv)) = k1 at *
    generalize iL lv = k at *
    simp [exb, exs, tst, ev, evd, evl, evo, evk, evi, kCall, takeArgs, putBack, chg, has, atK, isL, isOwnL, margs, pures, fz, sto, stoD, L3.Fl.seq, L3.Fl.unlock, L3.Res.fl, L3.Res.bind, slot, L3.T.dat, L3.T.pure, L3.D.flat, qok, isQ, L3.E.quiet, quiets, dats, truth, wargs, walk, L3.lock, L3.unlock, Option.bind_some, Option.map_some, prm, tests, rp, ns]
  have a7 : exs F (.ifs (.or (.cmp .ne (.bi .repr [.call 3 [.bi .tuple [.lc [9] (.n 9) .seq none [.v 4] [] (.fz (.bin .add (.pk 9) (.pk 5)))]]]) (.bi .repr [.pk 6])) (.not (.call 14 [.v 3, .v 6, .c (.bool false)]))) [.ret (.c (.bool false))] []) [s0, some d5, some (.p (.int t)), some (.p (.int nn)), some ((L3.D.p (PyData.tuple (iL lv)))), some (.p (.int mv)), some ((L3.D.p (PyData.tuple (bL (rnk nn.toNat (vw lv)))))), some ((L3.D.p (PyData.tuple (bL (rnk nn.toNat (vw lv)))))), none, none] = .nx [s0, some d5, some (.p (.int t)), some (.p (.int nn)), some ((L3.D.p (PyData.tuple (iL lv)))), some (.p (.int mv)), some ((L3.D.p (PyData.tuple (bL (rnk nn.toNat (vw lv)))))), some ((L3.D.p (PyData.tuple (bL (rnk nn.toNat (vw lv)))))), none, none] := by
    rw [exs, tst, t10]
    generalize shB (rnk nn.toNat (vw lv)) = s at *
    generalize bL (rnk nn.toNat (vw lv)) = k1 at *
    generalize iL lv = k at *
    simp [exb, exs, tst, ev, evd, evl, evo, evk, evi, kCall, takeArgs, putBack, chg, has, atK, isL, isOwnL, margs, pures, fz, sto, stoD, L3.Fl.seq, L3.Fl.unlock, L3.Res.fl, L3.Res.bind, slot, L3.T.dat, L3.T.pure, L3.D.flat, qok, isQ, L3.E.quiet, quiets, dats, truth, wargs, walk, L3.lock, L3.unlock, Option.bind_some, Option.map_some, prm, tests, q11]
  refine ⟨d5, some (.p (.int nn)), some ((L3.D.p (PyData.tuple (iL lv)))), some (.p (.int mv)), some ((L3.D.p (PyData.tuple (bL (rnk nn.toNat (vw lv)))))), some ((L3.D.p (PyData.tuple (bL (rnk nn.toNat (vw lv)))))), l5, ?_⟩
  rw [wB, exb_go a1, exb_go a2, exb_go a3, exb_go a4, exb_go a5, exb_go a6, exb_go a7, exb]
theorem body_ok (fs : Fs F) (ns : List Int) (h : ns.length ≤ 63) : ∃ ρ, exb F b15 [some (.p (.list (iL ns))), none, none, none, none, none, none, none, none, none] = .rt (.p (.bool true)) ρ := by
  obtain ⟨d, q, hL⟩ := fs.loom ns h
  have a1 : exs F (.asg (.n 1) (.call 4 [.v 0])) [some (.p (.list (iL ns))), none, none, none, none, none, none, none, none, none] = .nx [some (.p (.list (iL ns))), some d, none, none, none, none, none, none, none, none] := by
    generalize iL ns = k at *
    simp [exb, exs, tst, ev, evd, evl, evo, evk, evi, kCall, takeArgs, putBack, chg, has, atK, isL, isOwnL, margs, pures, fz, sto, stoD, L3.Fl.seq, L3.Fl.unlock, L3.Res.fl, L3.Res.bind, slot, L3.T.dat, L3.T.pure, L3.D.flat, qok, isQ, L3.E.quiet, quiets, dats, truth, wargs, walk, L3.lock, L3.unlock, Option.bind_some, Option.map_some, prm, tests, q]
  have hw : (pures [T.o (.p (.int 8))]).bind (walk .rng1) = some ((List.range (8 : Int).toNat).map fun (k : Nat) => PyData.int (k : Int)) := pw_rng (n := 8) (by decide) (by decide)
  generalize hq : (8 : Int).toNat = q8 at hw
  obtain ⟨ρ2, g2, d', e2, e3, e4, e5, e6, e7, rfl, _⟩ := forL_go (inj := iN) (tg := .n 2) (body := exb F wB)
    (fun rest ρ => ∃ d e2 e3 e4 e5 e6 e7, ρ = [some (.p (.list (iL ns))), some d, e2, e3, e4, e5, e6, e7, none, none] ∧ IsLm d) (List.range q8) [some (.p (.list (iL ns))), some d, none, none, none, none, none, none, none, none] ⟨d, _, _, _, _, _, _, rfl, hL⟩ (by
      rintro k r ρ ⟨l, el⟩ ⟨d, e2, e3, e4, e5, e6, e7, rfl, hL⟩
      refine ⟨[some (.p (.list (iL ns))), some d, some (.p (.int (k : Int))), e3, e4, e5, e6, e7, none, none], rfl, ?_⟩
      obtain ⟨d', f3, f4, f5, f6, f7, l', e⟩ := turn_ok fs (s0 := some (.p (.list (iL ns)))) hL (t := (k : Int)) (e3 := e3) (e4 := e4) (e5 := e5) (e6 := e6) (e7 := e7)
      rw [e]
      exact ⟨_, _, _, _, _, _, _, rfl, l'⟩)
  have e0 : evl F [.c (.int 8)] [some (.p (.list (iL ns))), some d, none, none, none, none, none, none, none, none] = .ok [.o (.p (.int 8))] [some (.p (.list (iL ns))), some d, none, none, none, none, none, none, none, none] := evl_o (by rw [ev])
  have a2 : exs F (.for (.n 2) .rng1 none [.c (.int 8)] wB) [some (.p (.list (iL ns))), some d, none, none, none, none, none, none, none, none] = .nx [some (.p (.list (iL ns))), some d', e2, e3, e4, e5, e6, e7, none, none] := by
    rw [for_ev e0 hw]; exact g2
  refine ⟨[some (.p (.list (iL ns))), some d', e2, e3, e4, e5, e6, e7, none, none], ?_⟩
  rw [b15_eq, exb_go a1, exb_go a2, exb_rt (ret_go (by rw [ev]))]
end
theorem law (ns : List Int) (h : ns.length ≤ 63) (hb : ∀ z ∈ ns, PySem.Builtin.Int.intBits z ≤ 1048576) : ∃ outs, L3.callF K06.P 40 15 [.p (.list (ns.map .int))] = .ok (.p (.bool true)) outs := by
  obtain ⟨ρ, e⟩ := body_ok (fs 35) ns h
  exact ⟨_, run_rt (P := P) (n := 39) (d := d15) rfl rfl rfl e rfl⟩
end K06

open PySem PySem.W PyProof.Rows
set_option maxRecDepth 100000 in
set_option maxHeartbeats 0 in
theorem PySem.Challenge.cw_baylines_k06_whole_who_passes_whom_holds : PySem.Challenge.rw_baylines_k06_whole_who_passes_whom.Holds := by
  w_on; o_law; k_head; (case hw => w_witness2)
  k_fill
  refine L3.head (l := PySem.Challenge.rw_baylines_k06_whole_who_passes_whom) (T := K06.T) (blts := K06.blts) (gcs := K06.gcs) (Pt := K06.P) (i := K06.t15) (j := 15) (k := 40) rfl rfl ⟨rfl, by decide, by decide⟩ (fun w h Y => PySem.W.kIn_of Y) K06.tab rfl rfl rfl ?F K06.law
  case F =>
    intro w mg fa h KX G hmg
    refine ⟨fun i hi => ?_, fun x hx => ?_, fun x hx => ?_⟩
    · simp only [K06.T, List.mem_cons, List.not_mem_nil, or_false] at hi
      rcases hi with rfl | rfl | rfl | rfl | rfl | rfl | rfl | rfl | rfl | rfl | rfl | rfl | rfl | rfl | rfl | rfl
      · refine' K06.a0 KX G ?a ?l ?c ?k
        (case a => k_is); (case l => k_is); (case c => k_is); (case k => k_is)
      · refine' K06.a1 KX G ?a ?l ?c ?k
        (case a => k_is); (case l => k_is); (case c => k_is); (case k => k_is)
      · refine' K06.a2 KX G ?a ?l ?c ?k
        (case a => k_is); (case l => k_is); (case c => k_is); (case k => k_is)
      · refine' K06.a3 KX G ?a ?l ?c ?k
        (case a => k_is); (case l => k_is); (case c => k_is); (case k => k_is)
      · refine' K06.a4 KX G ?a ?l ?c ?k
        (case a => k_is); (case l => k_is); (case c => k_is); (case k => k_is)
      · refine' K06.a5 KX G ?a ?l ?c ?k
        (case a => k_is); (case l => k_is); (case c => k_is); (case k => k_is)
      · refine' K06.a6 KX G ?a ?l ?c ?k
        (case a => k_is); (case l => k_is); (case c => k_is); (case k => k_is)
      · refine' K06.a7 KX G ?a ?l ?c ?k
        (case a => k_is); (case l => k_is); (case c => k_is); (case k => k_is)
      · refine' K06.a8 KX G ?a ?l ?c ?k
        (case a => k_is); (case l => k_is); (case c => k_is); (case k => k_is)
      · refine' K06.a9 KX G ?a ?l ?c ?k
        (case a => k_is); (case l => k_is); (case c => k_is); (case k => k_is)
      · refine' K06.a10 KX G ?a ?l ?c ?k
        (case a => k_is); (case l => k_is); (case c => k_is); (case k => k_is)
      · refine' K06.a11 KX G ?a ?l ?c ?k
        (case a => k_is); (case l => k_is); (case c => k_is); (case k => k_is)
      · refine' K06.a12 KX G ?a ?l ?c ?k
        (case a => k_is); (case l => k_is); (case c => k_is); (case k => k_is)
      · refine' K06.a13 KX G ?a ?l ?c ?k
        (case a => k_is); (case l => k_is); (case c => k_is); (case k => k_is)
      · refine' K06.a14 KX G ?a ?l ?c ?k
        (case a => k_is); (case l => k_is); (case c => k_is); (case k => k_is)
      · refine' K06.a15 KX G ?a ?l ?c ?k
        (case a => k_is); (case l => k_is); (case c => k_is); (case k => k_is)
    · simp only [K06.blts, List.mem_cons, List.not_mem_nil, or_false] at hx
      rcases hx with rfl | rfl | rfl | rfl | rfl | rfl | rfl | rfl | rfl | rfl | rfl | rfl | rfl
      · refine' PySem.W.mg_none_of KX G ?z; (case z => k_is)
      · refine' PySem.W.mg_none_of KX G ?z; (case z => k_is)
      · refine' PySem.W.mg_none_of KX G ?z; (case z => k_is)
      · refine' PySem.W.mg_none_of KX G ?z; (case z => k_is)
      · refine' PySem.W.mg_none_of KX G ?z; (case z => k_is)
      · refine' PySem.W.mg_none_of KX G ?z; (case z => k_is)
      · refine' PySem.W.mg_none_of KX G ?z; (case z => k_is)
      · refine' PySem.W.mg_none_of KX G ?z; (case z => k_is)
      · refine' PySem.W.mg_none_of KX G ?z; (case z => k_is)
      · refine' PySem.W.mg_none_of KX G ?z; (case z => k_is)
      · refine' PySem.W.mg_none_of KX G ?z; (case z => k_is)
      · refine' PySem.W.mg_none_of KX G ?z; (case z => k_is)
      · refine' PySem.W.mg_none_of KX G ?z; (case z => k_is)
    · exact absurd hx (by simp [K06.gcs])


