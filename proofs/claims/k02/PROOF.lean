import PyProof.Rows.All
import Wide.All
import OpenK.AllK
import Wide.FinOn
import HandS.ForMost
import HandS.Walk
import HandS.Flow
import HandS.Style
import HandS.TupAny
import HandS.Conv
import HandS.IsInst
import HandS.Deep
import HandS.SortInts
import HandS.Zip
import HandS.More
import HandS.SetFor
import KE.GoesEnum
import HandS.Strs
import HandS.SortRule
import HandS.ForExc
import HandS.TryMany
import HandS.WordsExc
import KE.GoesRaise
import HandS.Dict
import HandS.DictComp
import HandS.Defaults
import HandS.ListItems
import HandS.ReplaceLit
import HandS.TupSets
import PySem.Challenge.RW_turnbook_k02_texts_there_and_back
set_option Elab.async false
set_option linter.all false
set_option maxRecDepth 100000
set_option maxHeartbeats 2000000
/-! PD: pure data over the hand layer. What stands in a slot is told by pure data: immutable data (PyData), or a tree that is owned by the slot. -/
namespace PD
open PySem L2
/-- what does not change through a law: the written part, the program, the world -/
structure KW where
  K : PySem.W.Frag
  P : Program
  w : World

/-- a step down a tree -/
inductive Stp where
  | it (j : Nat)
  | fl (f : Str)

inductive D where
  | dat (d : PyData)
  | lst (a : Addr) (xs : List PyData)
  | lsD (a : Addr) (xs : List D)
  | dk (a : Addr) (kvs : List (Key × PyData))
  | dt (a : Addr) (kvs : List (List Key × PyData))
  | ins (a C : Addr) (fs : List (Str × D))
  | tpD (xs : List D)
  | raw (v : V)
  | bor (a : Addr) (i : Nat) (π : List Stp) (d : D)
  | pr (p q : PyData)
  | dkF (a : Addr) (o : Obj) (ws : List (Key × V)) (kvs : List (Key × PyData))

/-- what never changes -/
def Imm : HO → Prop
  | .tup _ => True
  | .frz _ _ => True
  | _ => False

/-- a list that nobody writes: the script -/
def FrzL (K : KW) (H : Hp) (a : Addr) (xs : List V) : Prop :=
  (∃ o, H a = some (.frz o (.lst xs))) ∨
    ∃ (o : Obj) (its : Array Value) (n : Nat), K.K.lookup a = some o ∧ o.cls = .type "list" ∧ o.dict = none ∧ o.data = .seq its n ∧ its.size ≤ sizeLine ∧ Vals xs its.toList
theorem FrzL.sq {K : KW} {H : Hp} {a : Addr} {xs : List V} (h : FrzL K H a xs) : SqL K.K H a xs := by
  rcases h with ⟨o, h⟩ | h
  · exact .inl (.inr ⟨o, h⟩)
  · exact .inr h

/-- an object with no dict and no slots of its own -/
def Plain (o : Obj) : Prop := o.dict = none ∧ o.slots = #[]
/-- a tuple: its very object is known, so that it has no dict of its own -/
def TupAt (H : Hp) (a : Addr) (xs : List V) : Prop := ∃ o : Obj, Plain o ∧ H a = some (.frz o (.tup xs))
theorem TupAt.sq {K : PySem.W.Frag} {H : Hp} {a : Addr} {xs : List V} (h : TupAt H a xs) : SqT K H a xs := let ⟨o, _, e⟩ := h; .inl (.inr ⟨o, e⟩)
theorem TupAt.keep {H H' : Hp} {a : Addr} {xs : List V} (k : ∀ b o, H b = some o → Imm o → H' b = some o) (h : TupAt H a xs) : TupAt H' a xs := let ⟨o, d, e⟩ := h; ⟨o, d, k _ _ e trivial⟩
/-- a dict whose keys are tuples: xs tells the keys, where their tuples stand, the values -/
def dtφ (K : KW) (a : Addr) (xs : List (List Key × Addr × V)) : Heap → Prop := fun h => ∃ ys : List (List Key × Addr × Value),
  Paired (fun (p : List Key × Addr × V) (q : List Key × Addr × Value) => p.1 = q.1 ∧ p.2.1 = q.2.1 ∧ RelV p.2.2 q.2.2) xs ys ∧ xs.length ≤ sizeLine ∧ (a == sysModules) = false ∧
  ∃ o es ep, h.get? a = some o ∧ o.ExactDict ∧ o.data = .dict es ep ∧ es.toList = ys.map (entryOfKey (tupleKind (mixKind K.P K.w))) ∧ (ys.map (·.1)).Nodup
mutual
def RepP (K : KW) (H : Hp) : PyData → V → Prop
  | .none, v => v = .non
  | .bool b, v => v = .bl b
  | .int i, v => v = .int i
  | .str x, v => v = .str x
  | .tuple ds, v => ∃ a xs, v = .ref a ∧ TupAt H a xs ∧ RepPs K H ds xs
  | .list ds, v => ∃ a xs, v = .ref a ∧ FrzL K H a xs ∧ RepPs K H ds xs
  | .dict _, _ => False
def RepPs (K : KW) (H : Hp) : List PyData → List V → Prop
  | [], vs => vs = []
  | d :: ds, vs => ∃ v r, vs = v :: r ∧ RepP K H d v ∧ RepPs K H ds r
end
def RepKV (K : KW) (H : Hp) {κ : Type} : List (κ × PyData) → List (κ × V) → Prop
  | [], ws => ws = []
  | (k, d) :: r, ws => ∃ v rs, ws = (k, v) :: rs ∧ RepP K H d v ∧ RepKV K H r rs
def RepKT (K : KW) (H : Hp) : List (List Key × PyData) → List (List Key × Addr × V) → Prop
  | [], ws => ws = []
  | (k, d) :: r, ws => ∃ b v rs, ws = (k, b, v) :: rs ∧ TupAt H b (k.map kV) ∧ RepP K H d v ∧ RepKT K H r rs
mutual
def RepD (K : KW) (H : Hp) : D → V → Prop
  | .dat d, v => RepP K H d v
  | .lst a xs, v => v = .ref a ∧ ∃ vs, H a = some (.lst vs) ∧ RepPs K H xs vs
  | .lsD a xs, v => v = .ref a ∧ ∃ vs, H a = some (.lst vs) ∧ RepDs K H xs vs
  | .dk a kvs, v => v = .ref a ∧ ∃ ws, H a = some (.dK ws) ∧ RepKV K H kvs ws
  | .dt a kvs, v => v = .ref a ∧ ∃ xs, H a = some (.ext (dtφ K a xs)) ∧ RepKT K H kvs xs
  | .ins a C fs, v => v = .ref a ∧ ∃ dx ws, H a = some (.ins C dx ws) ∧ RepFs K H fs ws
  | .tpD xs, v => ∃ a vs, v = .ref a ∧ TupAt H a vs ∧ RepDs K H xs vs
  | .raw w, v => v = w
  | .bor a _ _ _, v => v = .ref a
  | .pr p q, v => ∃ a x y, v = .ref a ∧ H a = some (.tup [x, y]) ∧ RepP K H p x ∧ RepP K H q y
  | .dkF a o ws kvs, v => v = .ref a ∧ H a = some (.frz o (.dK ws)) ∧ RepKV K H kvs ws
def RepDs (K : KW) (H : Hp) : List D → List V → Prop
  | [], vs => vs = []
  | d :: ds, vs => ∃ v r, vs = v :: r ∧ RepD K H d v ∧ RepDs K H ds r
def RepFs (K : KW) (H : Hp) : List (Str × D) → List (Str × V) → Prop
  | [], ws => ws = []
  | (f, d) :: r, ws => ∃ v rs, ws = (f, v) :: rs ∧ RepD K H d v ∧ RepFs K H r rs
end
def one (b a : Addr) : Nat := if b = a then 1 else 0
mutual
/-- how often an address is owned by a tree -/
def cD (b : Addr) : D → Nat
  | .dat _ => 0
  | .lst a _ => one b a
  | .lsD a xs => one b a + cDs b xs
  | .dk a _ => one b a
  | .dt a _ => one b a
  | .ins a _ fs => one b a + cFs b fs
  | .tpD xs => cDs b xs
  | .raw _ => 0
  | .bor _ _ _ _ => 0
  | .pr _ _ => 0
  | .dkF _ _ _ _ => 0
def cDs (b : Addr) : List D → Nat
  | [] => 0
  | d :: ds => cD b d + cDs b ds
def cFs (b : Addr) : List (Str × D) → Nat
  | [] => 0
  | (_, d) :: r => cD b d + cFs b r
end
theorem one_same (a : Addr) : one a a = 1 := by unfold one; rw [if_pos rfl]
theorem one_ne {a b : Addr} (h : b ≠ a) : one b a = 0 := by unfold one; rw [if_neg h]
theorem one_pos {a b : Addr} (h : 1 ≤ one b a) : b = a := by
  unfold one at h
  split at h
  · assumption
  · omega

section
variable {K : KW} {H H' : Hp}
theorem frzL_keep {a : Addr} {xs : List V} (k : ∀ b o, H b = some o → Imm o → H' b = some o) (h : FrzL K H a xs) : FrzL K H' a xs := by
  rcases h with ⟨o, h⟩ | h
  · exact .inl ⟨o, k _ _ h trivial⟩
  · exact .inr h
mutual
theorem RepP.keep (k : ∀ b o, H b = some o → Imm o → H' b = some o) : ∀ (d : PyData) (v : V), RepP K H d v → RepP K H' d v
  | .none, _, h => h
  | .bool _, _, h => h
  | .int _, _, h => h
  | .str _, _, h => h
  | .tuple ds, _, ⟨a, xs, e, s, r⟩ => ⟨a, xs, e, s.keep k, RepPs.keep k ds xs r⟩
  | .list ds, _, ⟨a, xs, e, s, r⟩ => ⟨a, xs, e, frzL_keep k s, RepPs.keep k ds xs r⟩
  | .dict _, _, h => h
theorem RepPs.keep (k : ∀ b o, H b = some o → Imm o → H' b = some o) : ∀ (ds : List PyData) (vs : List V), RepPs K H ds vs → RepPs K H' ds vs
  | [], _, h => h
  | d :: ds, _, ⟨v, r, e, h1, h2⟩ => ⟨v, r, e, RepP.keep k d v h1, RepPs.keep k ds r h2⟩
end
theorem RepKV.keep (k : ∀ b o, H b = some o → Imm o → H' b = some o) {κ : Type} : ∀ (ds : List (κ × PyData)) (vs : List (κ × V)), RepKV K H ds vs → RepKV K H' ds vs
  | [], _, h => h
  | (c, d) :: ds, _, ⟨v, r, e, h1, h2⟩ => ⟨v, r, e, RepP.keep k d v h1, RepKV.keep k ds r h2⟩
theorem RepKT.keep (k : ∀ b o, H b = some o → Imm o → H' b = some o) : ∀ (ds : List (List Key × PyData)) (vs : List (List Key × Addr × V)), RepKT K H ds vs → RepKT K H' ds vs
  | [], _, h => h
  | (c, d) :: ds, _, ⟨b, v, r, e, h0, h1, h2⟩ => ⟨b, v, r, e, h0.keep k, RepP.keep k d v h1, RepKT.keep k ds r h2⟩
mutual
theorem RepD.keep (k : ∀ b o, H b = some o → Imm o → H' b = some o) : ∀ (d : D) (v : V), (∀ b o, 1 ≤ cD b d → H b = some o → H' b = some o) → RepD K H d v → RepD K H' d v
  | .dat d, v, _, h => RepP.keep k d v h
  | .lst a xs, v, c, ⟨e, vs, h1, h2⟩ => ⟨e, vs, c a _ (Nat.le_of_eq (one_same a).symm) h1, RepPs.keep k xs vs h2⟩
  | .lsD a xs, v, c, ⟨e, vs, h1, h2⟩ => ⟨e, vs, c a _ (by show 1 ≤ one a a + _; rw [one_same]; omega) h1, RepDs.keep k xs vs (fun b o hb => c b o (by show 1 ≤ _ + cDs b xs; omega)) h2⟩
  | .dk a kvs, v, c, ⟨e, ws, h1, h2⟩ => ⟨e, ws, c a _ (Nat.le_of_eq (one_same a).symm) h1, RepKV.keep k kvs ws h2⟩
  | .dt a kvs, v, c, ⟨e, ws, h1, h2⟩ => ⟨e, ws, c a _ (Nat.le_of_eq (one_same a).symm) h1, RepKT.keep k kvs ws h2⟩
  | .ins a C fs, v, c, ⟨e, dx, ws, h1, h2⟩ => ⟨e, dx, ws, c a _ (by show 1 ≤ one a a + _; rw [one_same]; omega) h1, RepFs.keep k fs ws (fun b o hb => c b o (by show 1 ≤ _ + cFs b fs; omega)) h2⟩
  | .tpD xs, v, c, ⟨a, vs, e, h1, h2⟩ => ⟨a, vs, e, h1.keep k, RepDs.keep k xs vs c h2⟩
  | .raw w, v, _, h => h
  | .bor _ _ _ _, v, _, h => h
  | .pr p q, v, _, ⟨a, x, y, e, h0, h1, h2⟩ => ⟨a, x, y, e, k _ _ h0 trivial, RepP.keep k p x h1, RepP.keep k q y h2⟩
  | .dkF a o ws kvs, v, _, ⟨e, h1, h2⟩ => ⟨e, k _ _ h1 trivial, RepKV.keep k kvs ws h2⟩
theorem RepDs.keep (k : ∀ b o, H b = some o → Imm o → H' b = some o) : ∀ (ds : List D) (vs : List V), (∀ b o, 1 ≤ cDs b ds → H b = some o → H' b = some o) → RepDs K H ds vs → RepDs K H' ds vs
  | [], _, _, h => h
  | d :: ds, _, c, ⟨v, r, e, h1, h2⟩ => ⟨v, r, e, RepD.keep k d v (fun b o hb => c b o (by show 1 ≤ cD b d + cDs b ds; omega)) h1, RepDs.keep k ds r (fun b o hb => c b o (by show 1 ≤ cD b d + cDs b ds; omega)) h2⟩
theorem RepFs.keep (k : ∀ b o, H b = some o → Imm o → H' b = some o) : ∀ (ds : List (Str × D)) (vs : List (Str × V)), (∀ b o, 1 ≤ cFs b ds → H b = some o → H' b = some o) → RepFs K H ds vs → RepFs K H' ds vs
  | [], _, _, h => h
  | (f, d) :: ds, _, c, ⟨v, r, e, h1, h2⟩ => ⟨v, r, e, RepD.keep k d v (fun b o hb => c b o (by show 1 ≤ cD b d + cFs b ds; omega)) h1, RepFs.keep k ds r (fun b o hb => c b o (by show 1 ≤ cD b d + cFs b ds; omega)) h2⟩
end
/-! what is owned is tracked, and may change -/
mutual
theorem RepD.own : ∀ (d : D) (v : V), RepD K H d v → ∀ b, 1 ≤ cD b d → ∃ o, H b = some o ∧ ¬ Imm o
  | .dat _, _, _, b, h => absurd h (by show ¬ 1 ≤ 0; omega)
  | .lst a xs, v, ⟨e, vs, h1, h2⟩, b, h => by cases one_pos h; exact ⟨_, h1, id⟩
  | .lsD a xs, v, ⟨e, vs, h1, h2⟩, b, h => by
    by_cases q : b = a
    · subst q; exact ⟨_, h1, id⟩
    · exact RepDs.own xs vs h2 b (by have h' : 1 ≤ one b a + cDs b xs := h; rw [one_ne q] at h'; omega)
  | .dk a _, v, ⟨e, vs, h1, h2⟩, b, h => by cases one_pos h; exact ⟨_, h1, id⟩
  | .dt a _, v, ⟨e, vs, h1, h2⟩, b, h => by cases one_pos h; exact ⟨_, h1, id⟩
  | .ins a C fs, v, ⟨e, dx, ws, h1, h2⟩, b, h => by
    by_cases q : b = a
    · subst q; exact ⟨_, h1, id⟩
    · exact RepFs.own fs ws h2 b (by have h' : 1 ≤ one b a + cFs b fs := h; rw [one_ne q] at h'; omega)
  | .tpD xs, v, ⟨a, vs, e, h1, h2⟩, b, h => RepDs.own xs vs h2 b h
  | .raw _, _, _, b, h => absurd h (by show ¬ 1 ≤ 0; omega)
  | .bor _ _ _ _, _, _, b, h => absurd h (by show ¬ 1 ≤ 0; omega)
  | .pr _ _, _, _, b, h => absurd h (by show ¬ 1 ≤ 0; omega)
  | .dkF _ _ _ _, _, _, b, h => absurd h (by show ¬ 1 ≤ 0; omega)
theorem RepDs.own : ∀ (ds : List D) (vs : List V), RepDs K H ds vs → ∀ b, 1 ≤ cDs b ds → ∃ o, H b = some o ∧ ¬ Imm o
  | [], _, _, b, h => absurd h (by show ¬ 1 ≤ 0; omega)
  | d :: ds, _, ⟨v, r, e, h1, h2⟩, b, h => by
    by_cases q : 1 ≤ cD b d
    · exact RepD.own d v h1 b q
    · exact RepDs.own ds r h2 b (by have h' : 1 ≤ cD b d + cDs b ds := h; omega)
theorem RepFs.own : ∀ (ds : List (Str × D)) (vs : List (Str × V)), RepFs K H ds vs → ∀ b, 1 ≤ cFs b ds → ∃ o, H b = some o ∧ ¬ Imm o
  | [], _, _, b, h => absurd h (by show ¬ 1 ≤ 0; omega)
  | (f, d) :: ds, _, ⟨v, r, e, h1, h2⟩, b, h => by
    by_cases q : 1 ≤ cD b d
    · exact RepD.own d v h1 b q
    · exact RepFs.own ds r h2 b (by have h' : 1 ≤ cD b d + cFs b ds := h; omega)
end
theorem RepPs.len : ∀ {ds : List PyData} {vs : List V}, RepPs K H ds vs → ds.length = vs.length
  | [], _, h => by subst h; rfl
  | _ :: _, _, ⟨v, r, e, _, h⟩ => by subst e; simp [RepPs.len h]
theorem RepDs.len : ∀ {ds : List D} {vs : List V}, RepDs K H ds vs → ds.length = vs.length
  | [], _, h => by subst h; rfl
  | _ :: _, _, ⟨v, r, e, _, h⟩ => by subst e; simp [RepDs.len h]
theorem RepPs.get : ∀ {ds : List PyData} {vs : List V} {i : Nat} {d : PyData}, RepPs K H ds vs → ds[i]? = some d → ∃ v, vs[i]? = some v ∧ RepP K H d v
  | [], _, _, _, _, e => by simp at e
  | d :: ds, _, 0, _, ⟨v, r, e, h1, _⟩, e2 => by
    simp at e2; subst e2; subst e; exact ⟨v, rfl, h1⟩
  | d :: ds, _, i + 1, _, ⟨v, r, e, _, h2⟩, e2 => by
    subst e
    obtain ⟨w, q1, q2⟩ := RepPs.get (i := i) h2 (by simpa using e2)
    exact ⟨w, by simpa using q1, q2⟩
theorem RepPs.append : ∀ {ds es : List PyData} {vs ws : List V}, RepPs K H ds vs → RepPs K H es ws → RepPs K H (ds ++ es) (vs ++ ws)
  | [], _, _, _, h, q => by subst h; exact q
  | d :: ds, _, _, _, ⟨v, r, e, h1, h2⟩, q => by subst e; exact ⟨v, _, rfl, h1, RepPs.append h2 q⟩
theorem RepPs.set : ∀ {ds : List PyData} {vs : List V} {d : PyData} {v : V} (i : Nat), RepPs K H ds vs → RepP K H d v → RepPs K H (ds.set i d) (vs.set i v)
  | [], _, _, _, i, h, _ => by subst h; cases i <;> rfl
  | e :: ds, _, _, _, 0, ⟨w, r, q, h1, h2⟩, h => by subst q; exact ⟨_, _, rfl, h, h2⟩
  | e :: ds, _, _, _, i + 1, ⟨w, r, q, h1, h2⟩, h => by subst q; exact ⟨_, _, rfl, h1, RepPs.set i h2 h⟩
theorem RepPs.take : ∀ {ds : List PyData} {vs : List V} (n : Nat), RepPs K H ds vs → RepPs K H (ds.take n) (vs.take n)
  | _, _, 0, _ => by simp; rfl
  | [], _, n + 1, h => by subst h; rfl
  | d :: ds, _, n + 1, ⟨w, r, q, h1, h2⟩ => by subst q; exact ⟨_, _, rfl, h1, RepPs.take n h2⟩
theorem RepPs.drop : ∀ {ds : List PyData} {vs : List V} (n : Nat), RepPs K H ds vs → RepPs K H (ds.drop n) (vs.drop n)
  | _, _, 0, h => by simpa using h
  | [], _, n + 1, h => by subst h; rfl
  | d :: ds, _, n + 1, ⟨w, r, q, h1, h2⟩ => by subst q; simpa using RepPs.drop n h2
theorem RepPs.reverse {ds : List PyData} {vs : List V} (h : RepPs K H ds vs) : RepPs K H ds.reverse vs.reverse := by
  induction ds generalizing vs with
  | nil => subst h; rfl
  | cons d ds ih =>
    obtain ⟨v, r, e, h1, h2⟩ := h
    subst e
    rw [List.reverse_cons, List.reverse_cons]
    exact (ih h2).append ⟨v, [], rfl, h1, rfl⟩
theorem RepPs.ints : ∀ {ns : List Int} {vs : List V}, RepPs K H (ns.map PyData.int) vs → vs = ns.map V.int
  | [], _, h => h
  | n :: ns, _, ⟨v, r, e, h1, h2⟩ => by subst e; cases h1; rw [RepPs.ints h2]; rfl
theorem RepPs.of_ints : ∀ (ns : List Int), RepPs K H (ns.map PyData.int) (ns.map V.int)
  | [] => rfl
  | n :: ns => ⟨_, _, rfl, rfl, RepPs.of_ints ns⟩
theorem RepDs.append : ∀ {ds es : List D} {vs ws : List V}, RepDs K H ds vs → RepDs K H es ws → RepDs K H (ds ++ es) (vs ++ ws)
  | [], _, _, _, h, q => by subst h; exact q
  | d :: ds, _, _, _, ⟨v, r, e, h1, h2⟩, q => by subst e; exact ⟨v, _, rfl, h1, RepDs.append h2 q⟩
theorem RepDs.get : ∀ {ds : List D} {vs : List V} {i : Nat} {d : D}, RepDs K H ds vs → ds[i]? = some d → ∃ v, vs[i]? = some v ∧ RepD K H d v
  | [], _, _, _, _, e => by simp at e
  | d :: ds, _, 0, _, ⟨v, r, e, h1, _⟩, e2 => by
    simp at e2; subst e2; subst e; exact ⟨v, rfl, h1⟩
  | d :: ds, _, i + 1, _, ⟨v, r, e, _, h2⟩, e2 => by
    subst e
    obtain ⟨w, q1, q2⟩ := RepDs.get (i := i) h2 (by simpa using e2)
    exact ⟨w, by simpa using q1, q2⟩
theorem cDs_append (b : Addr) : ∀ xs ys : List D, cDs b (xs ++ ys) = cDs b xs + cDs b ys
  | [], ys => by show cDs b ys = 0 + _; omega
  | x :: xs, ys => by show cD b x + cDs b (xs ++ ys) = cD b x + cDs b xs + cDs b ys; rw [cDs_append b xs ys]; omega
end

/-! ### the slots -/
abbrev PSt := List (Option D)
def cO (b : Addr) : Option D → Nat
  | none => 0
  | some d => cD b d
def cS (b : Addr) : PSt → Nat
  | [] => 0
  | o :: r => cO b o + cS b r
def RepO (K : KW) (H : Hp) : Option D → Option V → Prop
  | none, _ => True
  | some d, s => ∃ v, s = some v ∧ RepD K H d v
def RepS (K : KW) (H : Hp) : PSt → St → Prop
  | [], σ => σ = []
  | o :: r, σ => ∃ s q, σ = s :: q ∧ RepO K H o s ∧ RepS K H r q
section
variable {K : KW} {H H' : Hp}
theorem RepS.get : ∀ {ds : PSt} {σ : St} {i : Nat} {d : D}, RepS K H ds σ → ds[i]? = some (some d) → ∃ v, σ[i]? = some (some v) ∧ RepD K H d v
  | [], _, _, _, _, e => by simp at e
  | o :: r, _, 0, _, ⟨s, q, e, h1, _⟩, e2 => by
    simp at e2; subst e2; subst e
    obtain ⟨v, e3, h⟩ := h1
    exact ⟨v, by simp [e3], h⟩
  | o :: r, _, i + 1, _, ⟨s, q, e, _, h2⟩, e2 => by
    subst e
    obtain ⟨w, q1, q2⟩ := RepS.get (i := i) h2 (by simpa using e2)
    exact ⟨w, by simpa using q1, q2⟩
theorem RepS.set : ∀ {ds : PSt} {σ : St} {i : Nat} {d : D} {v : V}, RepS K H ds σ → RepD K H d v → RepS K H (ds.set i (some d)) (σ.set i (some v))
  | [], _, i, _, _, h, _ => by subst h; cases i <;> rfl
  | o :: r, _, 0, _, _, ⟨s, q, e, h1, h2⟩, h => by subst e; exact ⟨_, _, rfl, ⟨_, rfl, h⟩, h2⟩
  | o :: r, _, i + 1, _, _, ⟨s, q, e, h1, h2⟩, h => by subst e; exact ⟨_, _, rfl, h1, RepS.set (i := i) h2 h⟩
/-- the tree in a slot is told anew, its value the same -/
theorem RepS.put : ∀ {ds : PSt} {σ : St} {i : Nat} {d : D} {v : V}, RepS K H ds σ → σ[i]? = some (some v) → RepD K H d v → RepS K H (ds.set i (some d)) σ
  | [], _, i, _, _, h, _, _ => by subst h; cases i <;> rfl
  | o :: r, _, 0, _, _, ⟨s, q, e, h1, h2⟩, hv, h => by subst e; exact ⟨_, _, rfl, ⟨_, by simpa using hv, h⟩, h2⟩
  | o :: r, _, i + 1, _, _, ⟨s, q, e, h1, h2⟩, hv, h => by subst e; exact ⟨_, _, rfl, h1, RepS.put (i := i) h2 (by simpa using hv) h⟩
theorem RepS.hole : ∀ {ds : PSt} {σ : St} {i : Nat}, RepS K H ds σ → RepS K H (ds.set i none) σ
  | [], _, i, h => by subst h; cases i <;> rfl
  | o :: r, _, 0, ⟨s, q, e, h1, h2⟩ => by subst e; exact ⟨_, _, rfl, trivial, h2⟩
  | o :: r, _, i + 1, ⟨s, q, e, h1, h2⟩ => by subst e; exact ⟨_, _, rfl, h1, RepS.hole (i := i) h2⟩
/-- a slot emptied on both sides -/
theorem RepS.out : ∀ {ds : PSt} {σ : St} {i : Nat}, RepS K H ds σ → RepS K H (ds.set i none) (σ.set i none)
  | [], _, i, h => by subst h; cases i <;> rfl
  | o :: r, _, 0, ⟨s, q, e, h1, h2⟩ => by subst e; exact ⟨_, _, rfl, trivial, h2⟩
  | o :: r, _, i + 1, ⟨s, q, e, h1, h2⟩ => by subst e; exact ⟨_, _, rfl, h1, RepS.out (i := i) h2⟩
theorem RepS.len : ∀ {ds : PSt} {σ : St}, RepS K H ds σ → ds.length = σ.length
  | [], _, h => by subst h; rfl
  | _ :: _, _, ⟨s, q, e, _, h⟩ => by subst e; simp [RepS.len h]
theorem RepO.keep (k : ∀ b o, H b = some o → Imm o → H' b = some o) : ∀ (o : Option D) (s : Option V), (∀ b u, 1 ≤ cO b o → H b = some u → H' b = some u) → RepO K H o s → RepO K H' o s
  | none, _, _, _ => trivial
  | some d, _, c, ⟨v, e, h⟩ => ⟨v, e, RepD.keep k d v c h⟩
theorem RepS.keep (k : ∀ b o, H b = some o → Imm o → H' b = some o) : ∀ (ds : PSt) (σ : St), (∀ b u, 1 ≤ cS b ds → H b = some u → H' b = some u) → RepS K H ds σ → RepS K H' ds σ
  | [], _, _, h => h
  | o :: r, _, c, ⟨s, q, e, h1, h2⟩ => ⟨s, q, e, RepO.keep k o s (fun b u hb => c b u (by show 1 ≤ cO b o + cS b r; omega)) h1, RepS.keep k r q (fun b u hb => c b u (by show 1 ≤ cO b o + cS b r; omega)) h2⟩
theorem RepS.own : ∀ (ds : PSt) (σ : St), RepS K H ds σ → ∀ b, 1 ≤ cS b ds → ∃ o, H b = some o ∧ ¬ Imm o
  | [], _, _, b, h => absurd h (by show ¬ 1 ≤ 0; omega)
  | o :: r, _, ⟨s, q, e, h1, h2⟩, b, h => by
    by_cases z : 1 ≤ cO b o
    · cases o with
      | none => exact absurd z (by show ¬ 1 ≤ 0; omega)
      | some d =>
        obtain ⟨v, _, h3⟩ := h1
        exact RepD.own d v h3 b z
    · exact RepS.own r q h2 b (by have h' : 1 ≤ cO b o + cS b r := h; omega)
theorem cS_get : ∀ {ds : PSt} {i : Nat} {d : D} (b : Addr), ds[i]? = some (some d) → cS b (ds.set i none) + cD b d = cS b ds
  | [], _, _, _, e => by simp at e
  | o :: r, 0, d, b, e => by
    simp at e; subst e
    show (cO b none + cS b r) + cD b d = cO b (some d) + cS b r
    show (0 + cS b r) + cD b d = cD b d + cS b r
    omega
  | o :: r, i + 1, d, b, e => by
    have := cS_get (ds := r) (i := i) b (by simpa using e)
    show (cO b o + cS b (r.set i none)) + cD b d = cO b o + cS b r
    omega
theorem cS_set : ∀ {ds : PSt} {i : Nat} {d : D} (b : Addr), i < ds.length → cS b (ds.set i (some d)) = cS b (ds.set i none) + cD b d
  | [], _, _, _, e => by simp at e
  | o :: r, 0, d, b, e => by
    show cD b d + cS b r = (0 + cS b r) + cD b d
    omega
  | o :: r, i + 1, d, b, e => by
    have := cS_set (ds := r) (i := i) (d := d) b (by simpa using e)
    show cO b o + cS b (r.set i (some d)) = (cO b o + cS b (r.set i none)) + cD b d
    omega
theorem cS_hole : ∀ {ds : PSt} {i : Nat} (b : Addr), cS b (ds.set i none) ≤ cS b ds
  | [], i, _ => by cases i <;> exact Nat.le_refl _
  | o :: r, 0, b => by
    show 0 + cS b r ≤ cO b o + cS b r
    omega
  | o :: r, i + 1, b => by
    have := cS_hole (ds := r) (i := i) b
    show cO b o + cS b (r.set i none) ≤ cO b o + cS b r
    omega
theorem cS_le : ∀ {ds : PSt} {i : Nat} {d : D} (b : Addr), ds[i]? = some (some d) → cD b d ≤ cS b ds := fun {ds i d} b e => by
  have := cS_get b e
  omega
end

/-- the state: slots and temps told, all that is owned owned once, new or the caller's own; what stood ahead of the call stands -/
structure Cfg (K : KW) (H0 : Hp) (f0 : Addr → Prop) (H : Hp) (σ : St) (ds : PSt) (vs : List V) (es : List D) : Prop where
  sl : RepS K H ds σ
  tm : RepDs K H es vs
  nd : ∀ a, cS a ds + cDs a es ≤ 1
  fr : ∀ a, 1 ≤ cS a ds + cDs a es → f0 a ∨ H0 a = none
  kp : ∀ a o, ¬ f0 a → H0 a = some o → H a = some o
section
variable {K : KW} {H0 H H' : Hp} {f0 : Addr → Prop} {σ : St} {ds : PSt} {vs : List V} {es : List D} {v w : V} {d : D}
theorem Cfg.grow (C : Cfg K H0 f0 H σ ds vs es) (k : ∀ a o, H a = some o → H' a = some o) : Cfg K H0 f0 H' σ ds vs es :=
  ⟨RepS.keep (fun b o h _ => k b o h) _ _ (fun b o _ h => k b o h) C.sl, RepDs.keep (fun b o h _ => k b o h) _ _ (fun b o _ h => k b o h) C.tm, C.nd, C.fr, fun a o h1 h2 => k a o (C.kp a o h1 h2)⟩
theorem Cfg.push (C : Cfg K H0 f0 H σ ds vs es) (r : RepD K H d v) (c : ∀ a, cD a d = 0) : Cfg K H0 f0 H σ ds (v :: vs) (d :: es) :=
  ⟨C.sl, ⟨v, vs, rfl, r, C.tm⟩, fun a => by have := C.nd a; have := c a; show cS a ds + (cD a d + cDs a es) ≤ 1; omega,
    fun a h => C.fr a (by have := c a; have h' : 1 ≤ cS a ds + (cD a d + cDs a es) := h; omega), C.kp⟩
theorem Cfg.tracked (C : Cfg K H0 f0 H σ ds vs es) {a : Addr} (h : 1 ≤ cS a ds + cDs a es) : ∃ o, H a = some o ∧ ¬ Imm o := by
  by_cases q : 1 ≤ cS a ds
  · exact RepS.own _ _ C.sl a q
  · exact RepDs.own _ _ C.tm a (by omega)
theorem Cfg.untracked (C : Cfg K H0 f0 H σ ds vs es) {a : Addr} (h : H a = none) : cS a ds + cDs a es = 0 := by
  by_cases q : 1 ≤ cS a ds + cDs a es
  · obtain ⟨o, e, _⟩ := C.tracked q
    rw [h] at e; cases e
  · omega
/-- a new tree on the temps -/
theorem Cfg.pushNew (C : Cfg K H0 f0 H σ ds vs es) (k : ∀ a o, H a = some o → H' a = some o) (r : RepD K H' d v) (c : ∀ a, cD a d ≤ 1) (n : ∀ a, 1 ≤ cD a d → H a = none) : Cfg K H0 f0 H' σ ds (v :: vs) (d :: es) := by
  have C' := C.grow k
  refine ⟨C'.sl, ⟨v, vs, rfl, r, C'.tm⟩, fun a => ?_, fun a h => ?_, C'.kp⟩
  · show cS a ds + (cD a d + cDs a es) ≤ 1
    by_cases q : 1 ≤ cD a d
    · have := C.untracked (n a q); have := c a; omega
    · have := C.nd a; omega
  · have h' : 1 ≤ cS a ds + (cD a d + cDs a es) := h
    by_cases q : 1 ≤ cD a d
    · by_cases z : f0 a
      · exact .inl z
      · refine .inr ?_
        cases e : H0 a with
        | none => rfl
        | some o =>
          have := C.kp a o z e
          rw [n a q] at this; cases this
    · exact C.fr a (by omega)
theorem Cfg.pop (C : Cfg K H0 f0 H σ ds (v :: vs) (d :: es)) : Cfg K H0 f0 H σ ds vs es := by
  obtain ⟨v', r, e, h1, h2⟩ := C.tm
  cases e
  exact ⟨C.sl, h2, fun a => by have : cS a ds + (cD a d + cDs a es) ≤ 1 := C.nd a; omega, fun a h => C.fr a (by show 1 ≤ cS a ds + (cD a d + cDs a es); omega), C.kp⟩
theorem Cfg.top (C : Cfg K H0 f0 H σ ds (v :: vs) (d :: es)) : RepD K H d v := by
  obtain ⟨v', r, e, h1, h2⟩ := C.tm
  cases e
  exact h1
/-- the top temp into a slot -/
theorem Cfg.set (C : Cfg K H0 f0 H σ ds (v :: vs) (d :: es)) (i : Nat) : Cfg K H0 f0 H (σ.set i (some v)) (ds.set i (some d)) vs es := by
  obtain ⟨v', r, e, h1, h2⟩ := C.tm
  cases e
  have hc : ∀ a, cS a (ds.set i (some d)) ≤ cS a ds + cD a d := fun a => by
    by_cases q : i < ds.length
    · rw [cS_set a q]
      have := cS_hole (ds := ds) (i := i) a
      omega
    · rw [List.set_eq_of_length_le (by omega)]; omega
  refine ⟨C.sl.set h1, h2, fun a => ?_, fun a h => ?_, C.kp⟩
  · have h3 : cS a ds + (cD a d + cDs a es) ≤ 1 := C.nd a
    have := hc a
    omega
  · have := hc a
    exact C.fr a (by show 1 ≤ cS a ds + (cD a d + cDs a es); omega)
end

/-! ### readings over pure data -/
abbrev TEP := PSt → (D → PSt → Prop) → Prop
abbrev TTP := PSt → (Bool → PSt → Prop) → Prop
abbrev TAP := PSt → (List D → PSt → Prop) → Prop
structure PEnds where
  nx : PSt → Prop
  rt : D → PSt → Prop
  bk : PSt → Prop := fun _ => False
  ct : PSt → Prop := fun _ => False
abbrev TSP := PEnds → PSt → Prop
def liftE (K : KW) (t : TEP) : TE := fun σ H Q => ∃ H0 f0 ds vs es Qd, Cfg K H0 f0 H σ ds vs es ∧ t ds Qd ∧ ∀ v d H' ds', Cfg K H0 f0 H' σ ds' (v :: vs) (d :: es) → Qd d ds' → Q v H'
def liftT (K : KW) (t : TTP) : TT := fun σ H Q => ∃ H0 f0 ds vs es Qd, Cfg K H0 f0 H σ ds vs es ∧ t ds Qd ∧ ∀ b H' ds', Cfg K H0 f0 H' σ ds' vs es → Qd b ds' → Q b H'
/-- arguments: the first on top -/
def liftA (K : KW) (t : TAP) : TA := fun σ H Q => ∃ H0 f0 ds vs es Qd, Cfg K H0 f0 H σ ds vs es ∧ t ds Qd ∧ ∀ ws as H' ds', Cfg K H0 f0 H' σ ds' (ws ++ vs) (as ++ es) → as.length = ws.length → Qd as ds' → Q ws H'
structure LS (K : KW) (H0 : Hp) (f0 : Addr → Prop) (vs : List V) (es : List D) (E : PEnds) (D : Ends) : Prop where
  nx : ∀ σ H ds, Cfg K H0 f0 H σ ds vs es → E.nx ds → D.nx σ H
  bk : ∀ σ H ds, Cfg K H0 f0 H σ ds vs es → E.bk ds → D.bk σ H
  ct : ∀ σ H ds, Cfg K H0 f0 H σ ds vs es → E.ct ds → D.ct σ H
  rt : ∀ σ H ds v d, Cfg K H0 f0 H σ ds (v :: vs) (d :: es) → E.rt d ds → D.rt v H
def liftS (K : KW) (t : TSP) : TS := fun D σ H => ∃ H0 f0 ds vs es E, Cfg K H0 f0 H σ ds vs es ∧ t E ds ∧ LS K H0 f0 vs es E D
/-! an expression, a test, arguments, a statement, a block, by pure data -/
/-- the context's -/
abbrev kw (X : Cx) : KW := ⟨X.K, X.prog, X.w⟩
def PEd (X : Cx) (e : Expr) (t : TEP) : Prop := PE X e (liftE (kw X) t)
def PTd (X : Cx) (e : Expr) (t : TTP) : Prop := PT X e (liftT (kw X) t)
def PAd (X : Cx) (es : List Expr) (t : TAP) : Prop := PA X es (liftA (kw X) t)
def PSd (X : Cx) (st : Stmt) (t : TSP) : Prop := PS X st (liftS (kw X) t)
def PSsd (X : Cx) (st : List Stmt) (t : TSP) : Prop := PSs X st (liftS (kw X) t)
theorem pe_imp {X : Cx} {e : Expr} {t u : TE} (h : PE X e t) (k : ∀ σ H Q, u σ H Q → t σ H Q) : PE X e u := ⟨fun pins s σ H Q I q => h.run pins s σ H Q I (k σ H Q q)⟩
theorem pt_imp {X : Cx} {e : Expr} {t u : TT} (h : PT X e t) (k : ∀ σ H Q, u σ H Q → t σ H Q) : PT X e u := ⟨fun pins s σ H Q I q => h.run pins s σ H Q I (k σ H Q q)⟩
theorem pw_imp {X : Cx} {e : Expr} {t u : TT} (h : PW X e t) (k : ∀ σ H Q, u σ H Q → t σ H Q) : PW X e u := ⟨fun w pins s σ H Q I q => h.run w pins s σ H Q I (k σ H Q q)⟩
theorem pa_imp {X : Cx} {e : List Expr} {t u : TA} (h : PA X e t) (k : ∀ σ H Q, u σ H Q → t σ H Q) : PA X e u := ⟨fun pos pins s σ H Q I q => h.run pos pins s σ H Q I (k σ H Q q)⟩
theorem ps_imp {X : Cx} {e : Stmt} {t u : TS} (h : PS X e t) (k : ∀ D σ H, u D σ H → t D σ H) : PS X e u := ⟨fun pins s σ H D I q => h.run pins s σ H D I (k D σ H q)⟩
theorem pss_imp {X : Cx} {e : List Stmt} {t u : TS} (h : PSs X e t) (k : ∀ D σ H, u D σ H → t D σ H) : PSs X e u := ⟨fun pins s σ H D I q => h.run pins s σ H D I (k D σ H q)⟩
end PD
set_option Elab.async false
set_option linter.all false
set_option maxRecDepth 100000
set_option maxHeartbeats 2000000
/-! PD, second part: trees seen through a reference, written in place; expressions by pure data. -/
namespace PD
open PySem L2

/-! ### a subtree, seen by its address -/
def root : D → Option Addr
  | .lst a _ => some a
  | .lsD a _ => some a
  | .dk a _ => some a
  | .dt a _ => some a
  | .ins a _ _ => some a
  | _ => none
def setF (f : Str) (d : D) : List (Str × D) → List (Str × D)
  | [] => []
  | (g, x) :: r => if f = g then (g, d) :: r else (g, x) :: setF f d r
inductive Sub : D → D → Prop
  | here (d : D) : Sub d d
  | fld {a C : Addr} {fs : List (Str × D)} {f : Str} {d t : D} : fs.lookup f = some d → Sub d t → Sub (.ins a C fs) t
  | item {a : Addr} {xs : List D} {j : Nat} {d t : D} : xs[j]? = some d → Sub d t → Sub (.lsD a xs) t
inductive SubW : D → D → D → D → Prop
  | here (t t' : D) : SubW t t t' t'
  | fld {a C : Addr} {fs : List (Str × D)} {f : Str} {d t t' d' : D} : fs.lookup f = some d → SubW d t t' d' → SubW (.ins a C fs) t t' (.ins a C (setF f d' fs))
  | item {a : Addr} {xs : List D} {j : Nat} {d t t' d' : D} : xs[j]? = some d → SubW d t t' d' → SubW (.lsD a xs) t t' (.lsD a (xs.set j d'))
def getP : D → List Stp → Option D
  | d, [] => some d
  | .lsD _ xs, .it j :: π => match xs[j]? with
    | some d => getP d π
    | none => none
  | .ins _ _ fs, .fl f :: π => match fs.lookup f with
    | some d => getP d π
    | none => none
  | _, _ :: _ => none
def setP : D → List Stp → D → Option D
  | _, [], t => some t
  | .lsD a xs, .it j :: π, t => match xs[j]? with
    | some d => match setP d π t with
      | some d' => some (.lsD a (xs.set j d'))
      | none => none
    | none => none
  | .ins a C fs, .fl f :: π, t => match fs.lookup f with
    | some d => match setP d π t with
      | some d' => some (.ins a C (setF f d' fs))
      | none => none
    | none => none
  | _, _ :: _, _ => none
/-- x tells the tree t: itself, or by a reference to a part of what a slot owns -/
def See (ds : PSt) : D → D → Prop
  | .bor a i π d, t => t = d ∧ root d = some a ∧ ∃ e, ds[i]? = some (some e) ∧ getP e π = some d
  | x, t => t = x
/-- what x refers to, t, is now t' -/
def upS (ds : PSt) (i : Nat) (π : List Stp) (t t' : D) (k : PSt → Prop) : Prop := ∃ e e', ds[i]? = some (some e) ∧ getP e π = some t ∧ setP e π t' = some e' ∧ k (ds.set i (some e'))
/-- the part t of what a slot owns is now t' -/
def Wr (ds : PSt) (t t' : D) (ds' : PSt) : Prop := ∃ (i : Nat) (d d' : D), ds[i]? = some (some d) ∧ SubW d t t' d' ∧ ds' = ds.set i (some d')
section
variable {K : KW} {H H' H0 : Hp} {f0 : Addr → Prop} {σ : St} {ds ds' : PSt} {vs : List V} {es : List D} {v w : V} {d t x : D} {a : Addr}
theorem RepFs.look : ∀ {fs : List (Str × D)} {ws : List (Str × V)} {f : Str} {d : D}, RepFs K H fs ws → fs.lookup f = some d → ∃ v, ws.lookup f = some v ∧ RepD K H d v
  | [], _, _, _, _, e => by simp at e
  | (g, x) :: r, _, f, d, ⟨v, rs, e, h1, h2⟩, q => by
    subst e
    by_cases z : f = g
    · subst z
      simp [List.lookup] at q ⊢
      subst q
      exact h1
    · have z' : (f == g) = false := by simpa using z
      simp only [List.lookup, z'] at q ⊢
      exact RepFs.look h2 q
theorem cFs_look : ∀ {fs : List (Str × D)} {f : Str} {d : D} (b : Addr), fs.lookup f = some d → cD b d ≤ cFs b fs
  | [], _, _, _, e => by simp at e
  | (g, x) :: r, f, d, b, q => by
    show cD b d ≤ cD b x + cFs b r
    by_cases z : f = g
    · subst z
      simp [List.lookup] at q
      subst q
      omega
    · have z' : (f == g) = false := by simpa using z
      simp only [List.lookup, z'] at q
      have := cFs_look b q
      omega
theorem cDs_get : ∀ {xs : List D} {j : Nat} {d : D} (b : Addr), xs[j]? = some d → cD b d ≤ cDs b xs
  | [], _, _, _, e => by simp at e
  | x :: r, 0, d, b, q => by
    simp at q; subst q
    show cD b x ≤ cD b x + cDs b r
    omega
  | x :: r, j + 1, d, b, q => by
    have := cDs_get (xs := r) (j := j) b (by simpa using q)
    show cD b d ≤ cD b x + cDs b r
    omega
theorem Sub.rep (s : Sub d t) : ∀ {v : V}, RepD K H d v → ∃ w, RepD K H t w := by
  induction s with
  | here d => exact fun h => ⟨_, h⟩
  | fld hl _ ih =>
    rintro v ⟨e, dx, ws, h1, h2⟩
    obtain ⟨w, _, h3⟩ := RepFs.look h2 hl
    exact ih h3
  | item hl _ ih =>
    rintro v ⟨e, vs, h1, h2⟩
    obtain ⟨w, _, h3⟩ := RepDs.get h2 hl
    exact ih h3
theorem Sub.cnt (s : Sub d t) (b : Addr) : cD b t ≤ cD b d := by
  induction s with
  | here d => exact Nat.le_refl _
  | fld hl _ ih => exact Nat.le_trans ih (Nat.le_trans (cFs_look b hl) (Nat.le_add_left _ _))
  | item hl _ ih => exact Nat.le_trans ih (Nat.le_trans (cDs_get b hl) (Nat.le_add_left _ _))
theorem root_rep (h : root t = some a) (r : RepD K H t w) : w = .ref a := by
  cases t <;> simp only [root, Option.some.injEq, reduceCtorEq] at h <;> (subst h; exact r.1)
theorem root_own (h : root t = some a) : 1 ≤ cD a t := by
  cases t <;> simp only [root, Option.some.injEq, reduceCtorEq] at h <;> subst h
  · exact Nat.le_of_eq (one_same _).symm
  · show 1 ≤ one _ _ + _; rw [one_same]; omega
  · exact Nat.le_of_eq (one_same _).symm
  · exact Nat.le_of_eq (one_same _).symm
  · show 1 ≤ one _ _ + _; rw [one_same]; omega
theorem getP_sub : ∀ {π : List Stp} {e t : D}, getP e π = some t → Sub e t
  | [], e, t, h => by
    obtain rfl : e = t := by cases e <;> simpa [getP] using h
    exact .here _
  | .it j :: π, e, t, h => by
    cases e with
    | lsD a xs =>
      simp only [getP] at h
      split at h
      · rename_i d hd
        exact .item hd (getP_sub h)
      · cases h
    | _ => simp [getP] at h
  | .fl f :: π, e, t, h => by
    cases e with
    | ins a C fs =>
      simp only [getP] at h
      split at h
      · rename_i d hd
        exact .fld hd (getP_sub h)
      · cases h
    | _ => simp [getP] at h
theorem setP_subW : ∀ {π : List Stp} {e t t' e' : D}, getP e π = some t → setP e π t' = some e' → SubW e t t' e'
  | [], e, t, t', e', h, q => by
    obtain rfl : e = t := by cases e <;> simpa [getP] using h
    obtain rfl : t' = e' := by cases e <;> simpa [setP] using q
    exact .here _ _
  | .it j :: π, e, t, t', e', h, q => by
    cases e with
    | lsD a xs =>
      simp only [getP] at h
      simp only [setP] at q
      split at h
      · rename_i d hd
        rw [hd] at q
        simp only at q
        split at q
        · rename_i d' hd'
          cases q
          exact .item hd (setP_subW h hd')
        · cases q
      · cases h
    | _ => simp [getP] at h
  | .fl f :: π, e, t, t', e', h, q => by
    cases e with
    | ins a C fs =>
      simp only [getP] at h
      simp only [setP] at q
      split at h
      · rename_i d hd
        rw [hd] at q
        simp only at q
        split at q
        · rename_i d' hd'
          cases q
          exact .fld hd (setP_subW h hd')
        · cases q
      · cases h
    | _ => simp [getP] at h
theorem upS.wr {i : Nat} {π : List Stp} {t' : D} {k : PSt → Prop} (h : upS ds i π t t' k) : ∃ ds', Wr ds t t' ds' ∧ k ds' := by
  obtain ⟨e, e', h1, h2, h3, h4⟩ := h
  exact ⟨_, ⟨i, e, e', h1, setP_subW h2 h3, rfl⟩, h4⟩
theorem See.rep (C : Cfg K H0 f0 H σ ds vs es) (r : RepD K H x v) (s : See ds x t) : RepD K H t v := by
  cases x with
  | bor a i π d =>
    obtain ⟨rfl, hr, e, hd, hg⟩ := s
    obtain rfl : v = .ref a := r
    obtain ⟨u, _, h⟩ := C.sl.get hd
    obtain ⟨w, h3⟩ := (getP_sub hg).rep h
    rw [root_rep hr h3] at h3
    exact h3
  | _ => obtain rfl := s; exact r
theorem keep_upd {b : Addr} {o : HO} (hm : ∀ u, H b = some u → ¬ Imm u) : ∀ a u, H a = some u → Imm u → upd H b o a = some u := fun a u h1 h2 => by
  rw [upd_ne]
  · exact h1
  · rintro rfl; exact hm u h1 h2
theorem RepFs.put {f : Str} {d d' : D} {b : Addr} {o : HO} (hm : ∀ u, H b = some u → ¬ Imm u) (k : ∀ v, RepD K H d v → RepD K (upd H b o) d' v) : ∀ {fs : List (Str × D)} {ws : List (Str × V)}, RepFs K H fs ws → fs.lookup f = some d →
    cFs b fs ≤ 1 → 1 ≤ cD b d → RepFs K (upd H b o) (setF f d' fs) ws
  | [], _, _, e, _, _ => by simp at e
  | (g, x) :: r, _, ⟨v, rs, e, h1, h2⟩, q, hc, hb => by
    subst e
    have hc' : cD b x + cFs b r ≤ 1 := hc
    by_cases z : f = g
    · subst z
      simp [List.lookup] at q
      subst q
      unfold setF
      rw [if_pos rfl]
      exact ⟨_, _, rfl, k v h1, RepFs.keep (keep_upd hm) _ _ (fun a u n1 n2 => by
        rw [upd_ne]; · exact n2
        rintro rfl; omega) h2⟩
    · have z' : (f == g) = false := by simpa using z
      simp only [List.lookup, z'] at q
      have := cFs_look b q
      unfold setF
      rw [if_neg z]
      exact ⟨_, _, rfl, RepD.keep (keep_upd hm) _ _ (fun a u n1 n2 => by
        rw [upd_ne]; · exact n2
        rintro rfl; omega) h1, RepFs.put hm k h2 q (by omega) hb⟩
theorem RepDs.put {d d' : D} {b : Addr} {o : HO} (hm : ∀ u, H b = some u → ¬ Imm u) (k : ∀ v, RepD K H d v → RepD K (upd H b o) d' v) : ∀ {xs : List D} {ws : List V} {j : Nat}, RepDs K H xs ws → xs[j]? = some d →
    cDs b xs ≤ 1 → 1 ≤ cD b d → RepDs K (upd H b o) (xs.set j d') ws
  | [], _, _, _, e, _, _ => by simp at e
  | x :: r, _, 0, ⟨v, rs, e, h1, h2⟩, q, hc, hb => by
    subst e
    simp at q; subst q
    have hc' : cD b x + cDs b r ≤ 1 := hc
    exact ⟨_, _, rfl, k v h1, RepDs.keep (keep_upd hm) _ _ (fun a u n1 n2 => by
        rw [upd_ne]; · exact n2
        rintro rfl; omega) h2⟩
  | x :: r, _, j + 1, ⟨v, rs, e, h1, h2⟩, q, hc, hb => by
    subst e
    have q' : r[j]? = some d := by simpa using q
    have hc' : cD b x + cDs b r ≤ 1 := hc
    have := cDs_get b q'
    exact ⟨_, _, rfl, RepD.keep (keep_upd hm) _ _ (fun a u n1 n2 => by
        rw [upd_ne]; · exact n2
        rintro rfl; omega) h1, RepDs.put hm k h2 q' (by omega) hb⟩
theorem cFs_set {f : Str} {d d' : D} (b : Addr) : ∀ {fs : List (Str × D)}, fs.lookup f = some d → cFs b (setF f d' fs) + cD b d = cFs b fs + cD b d'
  | [], e => by simp at e
  | (g, x) :: r, q => by
    by_cases z : f = g
    · subst z
      simp [List.lookup] at q
      subst q
      unfold setF
      rw [if_pos rfl]
      show (cD b d' + cFs b r) + cD b x = (cD b x + cFs b r) + cD b d'
      omega
    · have z' : (f == g) = false := by simpa using z
      simp only [List.lookup, z'] at q
      have := cFs_set (d' := d') b q
      unfold setF
      rw [if_neg z]
      show (cD b x + cFs b (setF f d' r)) + cD b d = (cD b x + cFs b r) + cD b d'
      omega
theorem cDs_set {d d' : D} (b : Addr) : ∀ {xs : List D} {j : Nat}, xs[j]? = some d → cDs b (xs.set j d') + cD b d = cDs b xs + cD b d'
  | [], _, e => by simp at e
  | x :: r, 0, q => by
    simp at q; subst q
    show (cD b d' + cDs b r) + cD b x = (cD b x + cDs b r) + cD b d'
    omega
  | x :: r, j + 1, q => by
    have := cDs_set (d' := d') b (xs := r) (j := j) (by simpa using q)
    show (cD b x + cDs b (r.set j d')) + cD b d = (cD b x + cDs b r) + cD b d'
    omega
theorem SubW.cnt {d t t' d' : D} (s : SubW d t t' d') (b : Addr) : cD b d' + cD b t = cD b d + cD b t' := by
  induction s with
  | here t t' => omega
  | fld hl _ ih =>
    rename_i a C fs f d t t' d' _
    have := cFs_set (d' := d') b hl
    show (one b a + cFs b (setF f d' fs)) + cD b t = (one b a + cFs b fs) + cD b t'
    omega
  | item hl _ ih =>
    rename_i a xs j d t t' d' _
    have := cDs_set (d' := d') b hl
    show (one b a + cDs b (xs.set j d')) + cD b t = (one b a + cDs b xs) + cD b t'
    omega
theorem SubW.sub {d t t' d' : D} (s : SubW d t t' d') : Sub d t := by
  induction s with
  | here t t' => exact .here _
  | fld hl _ ih => exact .fld hl ih
  | item hl _ ih => exact .item hl ih
theorem SubW.rep {d t t' d' : D} {b : Addr} {o : HO} (s : SubW d t t' d') (hm : ∀ u, H b = some u → ¬ Imm u) (hb : root t = some b) (k : RepD K H t (.ref b) → RepD K (upd H b o) t' (.ref b)) :
    ∀ {v : V}, (∀ c, cD c d ≤ 1) → RepD K H d v → RepD K (upd H b o) d' v := by
  induction s with
  | here t t' =>
    intro v _ h
    have e := root_rep hb h
    subst e
    exact k h
  | fld hl s ih =>
    rename_i a C fs f d t t' d'
    rintro v hc ⟨e, dx, ws, h1, h2⟩
    have ht : 1 ≤ cD b t := root_own hb
    have hd : cD b t ≤ cD b d := s.sub.cnt b
    have hf := cFs_look b hl
    have hcb : one b a + cFs b fs ≤ 1 := hc b
    have ne : a ≠ b := by
      rintro rfl
      rw [one_same] at hcb
      omega
    exact ⟨e, dx, ws, by rw [upd_ne ne]; exact h1, RepFs.put hm (fun v' h' => ih hb k (fun c => Nat.le_trans (cFs_look c hl) (by have : one c a + cFs c fs ≤ 1 := hc c; omega)) h') h2 hl (by omega) (by omega)⟩
  | item hl s ih =>
    rename_i a xs j d t t' d'
    rintro v hc ⟨e, ws, h1, h2⟩
    have ht : 1 ≤ cD b t := root_own hb
    have hd : cD b t ≤ cD b d := s.sub.cnt b
    have hf := cDs_get b hl
    have hcb : one b a + cDs b xs ≤ 1 := hc b
    have ne : a ≠ b := by
      rintro rfl
      rw [one_same] at hcb
      omega
    exact ⟨e, ws, by rw [upd_ne ne]; exact h1, RepDs.put hm (fun v' h' => ih hb k (fun c => Nat.le_trans (cDs_get c hl) (by have : one c a + cDs c xs ≤ 1 := hc c; omega)) h') h2 hl (by omega) (by omega)⟩
/-- a write: the part t at b is now t', which may have taken in the top temp y -/
theorem Cfg.wr {y t' : D} {b : Addr} {o : HO} (C : Cfg K H0 f0 H σ ds (w :: vs) (y :: es)) (W : Wr ds t t' ds') (hb : root t = some b)
    (k : RepD K H t (.ref b) → (∀ c, cD c t ≤ 1) → RepD K (upd H b o) y w → RepD K (upd H b o) t' (.ref b)) (c : ∀ a, cD a t' ≤ cD a t + cD a y) : Cfg K H0 f0 (upd H b o) σ ds' vs es := by
  obtain ⟨i, d, d', hd, s, e⟩ := W
  subst e
  obtain ⟨v, ev, hr⟩ := C.sl.get hd
  have hi : i < ds.length := (List.getElem?_eq_some_iff.mp hd).1
  have hbt : 1 ≤ cD b t := root_own hb
  have hbd : 1 ≤ cD b d := Nat.le_trans hbt (s.sub.cnt b)
  obtain ⟨u, hu, hmu⟩ := RepD.own d v hr b hbd
  have hm : ∀ u, H b = some u → ¬ Imm u := fun u' h => by rw [hu] at h; cases h; exact hmu
  obtain ⟨w', r, e2, h1, h2⟩ := C.tm
  cases e2
  have nd : ∀ a, cS a ds + (cD a y + cDs a es) ≤ 1 := C.nd
  have hole : ∀ a, cS a (ds.set i none) + cD a d = cS a ds := fun a => cS_get a hd
  have oth : ∀ a u', cD a y + cDs a es + cS a (ds.set i none) ≥ 1 → H a = some u' → upd H b o a = some u' := fun a u' h3 h4 => by
    rw [upd_ne]
    · exact h4
    · rintro rfl
      have := nd a; have := hole a
      omega
  have hy : RepD K (upd H b o) y w := RepD.keep (keep_upd hm) _ _ (fun a u' h3 h4 => oth a u' (by omega) h4) h1
  have hd' : RepD K (upd H b o) d' v := s.rep hm hb (fun h => k h (fun c => by have := nd c; have := cS_le c hd; have := s.sub.cnt c; omega) hy) (fun c => by have := nd c; have := cS_le c hd; omega) hr
  have sl0 : RepS K (upd H b o) (ds.set i none) σ := RepS.keep (keep_upd hm) _ _ (fun a u' h3 h4 => oth a u' (by omega) h4) C.sl.hole
  have sl1 : RepS K (upd H b o) ((ds.set i none).set i (some d')) σ := sl0.put ev hd'
  rw [List.set_set] at sl1
  have cn : ∀ a, cD a d' + cD a t = cD a d + cD a t' := fun a => s.cnt a
  refine ⟨sl1, RepDs.keep (keep_upd hm) _ _ (fun a u' h3 h4 => oth a u' (by omega) h4) h2, fun a => ?_, fun a h => ?_, fun a u' h3 h4 => ?_⟩
  · rw [cS_set a hi]; have := nd a; have := hole a; have := c a; have := cn a; omega
  · rw [cS_set a hi] at h; have := hole a; have := c a; have := cn a
    exact C.fr a (by show 1 ≤ cS a ds + (cD a y + cDs a es); omega)
  · have h5 := C.kp a u' h3 h4
    rw [upd_ne]
    · exact h5
    · rintro rfl
      rcases C.fr a (by have := hole a; show 1 ≤ cS a ds + (cD a y + cDs a es); omega) with z | z
      · exact h3 z
      · rw [z] at h4; cases h4

/-! ### what is made anew -/
theorem grow_new {p : Addr} {o : HO} (hp : H p = none) : ∀ a u, H a = some u → upd H p o a = some u := fun a u h => by rw [upd_ne (ne_of_none h hp)]; exact h
theorem Cfg.newL {p : Addr} {xs : List PyData} {zs : List V} (C : Cfg K H0 f0 H σ ds vs es) (hp : H p = none) (r : RepPs K H xs zs) : Cfg K H0 f0 (upd H p (.lst zs)) σ ds (.ref p :: vs) (.lst p xs :: es) :=
  C.pushNew (grow_new hp) ⟨rfl, zs, upd_same, RepPs.keep (fun a u h _ => grow_new hp a u h) _ _ r⟩ (fun a => by show one a p ≤ 1; unfold one; split <;> omega) fun a h => by
    have := one_pos (show 1 ≤ one a p from h)
    subst this
    exact hp
theorem Cfg.newT {p : Addr} {o : Obj} {xs : List PyData} {zs : List V} (C : Cfg K H0 f0 H σ ds vs es) (hp : H p = none) (ho : Plain o) (r : RepPs K H xs zs) : Cfg K H0 f0 (upd H p (.frz o (.tup zs))) σ ds (.ref p :: vs) (.dat (.tuple xs) :: es) :=
  C.pushNew (grow_new hp) ⟨p, zs, rfl, ⟨o, ho, upd_same⟩, RepPs.keep (fun a u h _ => grow_new hp a u h) _ _ r⟩ (fun a => Nat.zero_le _) fun a h => absurd (show 1 ≤ 0 from h) (by omega)
end

/-! ### names, constants -/
def ldAt (i : Nat) (π : List Stp) : D → Option D
  | .dat d => some (.dat d)
  | .lst a xs => some (.bor a i π (.lst a xs))
  | .lsD a xs => some (.bor a i π (.lsD a xs))
  | .dk a xs => some (.bor a i π (.dk a xs))
  | .dt a xs => some (.bor a i π (.dt a xs))
  | .ins a C fs => some (.bor a i π (.ins a C fs))
  | .tpD _ => none
  | .pr _ _ => none
  | .raw v => some (.raw v)
  | .bor a j ρ d => some (.bor a j ρ d)
  | .dkF a o ws kvs => some (.dkF a o ws kvs)
def rdS (ds : PSt) (i : Nat) : Option D := match ds[i]? with
  | some (some d) => ldAt i [] d
  | _ => none
def eVar (i : Nat) : TEP := fun ds Q => ∃ d, rdS ds i = some d ∧ Q d ds
def eC (d : PyData) : TEP := fun ds Q => Q (.dat d) ds
def eRaw (v : V) : TEP := fun ds Q => Q (.raw v) ds
section
variable {X : Cx} {a b c : Expr} {ta tb tc : TEP} {pos : Pos} {K : KW}
theorem ld_rep {H : Hp} {d d' : D} {v : V} {i : Nat} {π : List Stp} (h : ldAt i π d = some d') (r : RepD K H d v) : RepD K H d' v ∧ ∀ a, cD a d' = 0 := by
  cases d <;> simp only [ldAt, Option.some.injEq, reduceCtorEq] at h <;> subst h
  · exact ⟨r, fun _ => rfl⟩
  · exact ⟨r.1, fun _ => rfl⟩
  · exact ⟨r.1, fun _ => rfl⟩
  · exact ⟨r.1, fun _ => rfl⟩
  · exact ⟨r.1, fun _ => rfl⟩
  · exact ⟨r.1, fun _ => rfl⟩
  · exact ⟨r, fun _ => rfl⟩
  · exact ⟨r, fun _ => rfl⟩
  · exact ⟨r, fun _ => rfl⟩
theorem d_var {i : Nat} {x : Str} (hN : X.N[i]? = some x) (hv : Vis X.env.scope x) (hd : (x == ("__debug__" : Str)) = false := by decide) (hcd : (x == ("__classdict__" : Str)) = false := by decide) : PEd X (.Name x pos) (eVar i) :=
  pe_imp (pe_var hN hv hd hcd) fun σ H Q ⟨H0, f0, ds, vs, es, Qd, C, ⟨d', e, q⟩, k⟩ => by
    unfold rdS at e
    split at e
    · rename_i d h
      obtain ⟨v, h1, h2⟩ := C.sl.get h
      obtain ⟨r, z⟩ := ld_rep e h2
      exact ⟨v, h1, k v d' H ds (C.push r z) q⟩
    · cases e
theorem liftC {d : D} {v : V} {σ : St} {H : Hp} {Q : VK} (hr : ∀ K H, RepD K H d v) (hz : ∀ a, cD a d = 0) (h : liftE K (fun ds Q => Q d ds) σ H Q) : tC v σ H Q := by
  obtain ⟨H0, f0, ds, vs, es, Qd, C, q, k⟩ := h
  exact k v d H ds (C.push (hr K H) hz) q
theorem d_int {i j pos} : PEd X (.Constant (.int i) j pos) (eC (.int i)) := pe_imp pe_int fun σ H Q h => liftC (d := .dat (.int i)) (fun _ _ => rfl) (fun _ => rfl) h
theorem d_bl {b j pos} : PEd X (.Constant (.bool b) j pos) (eC (.bool b)) := pe_imp pe_bl fun σ H Q h => liftC (d := .dat (.bool b)) (fun _ _ => rfl) (fun _ => rfl) h
theorem d_non {j pos} : PEd X (.Constant .none j pos) (eC .none) := pe_imp pe_non fun σ H Q h => liftC (d := .dat .none) (fun _ _ => rfl) (fun _ => rfl) h
theorem d_str {x j pos} : PEd X (.Constant (.str x) j pos) (eC (.str x)) := pe_imp pe_str fun σ H Q h => liftC (d := .dat (.str x)) (fun _ _ => rfl) (fun _ => rfl) h
theorem d_globI {x : Str} {i : Int} {tk : Tok} (hg : Gl X x) (hm : X.mg x = some (.int i tk)) (hd : (x == ("__debug__" : Str)) = false := by decide) : PEd X (.Name x pos) (eC (.int i)) :=
  pe_imp (pe_glob (v := .int i) hg hm ⟨_, rfl⟩ hd) fun σ H Q h => liftC (d := .dat (.int i)) (fun _ _ => rfl) (fun _ => rfl) h
theorem d_bltn {x : Str} {v : V} {u : Value} (hg : Gl X x) (hm : X.mg x = none) (hv : bootBuiltins x = some u) (r : RelV v u) (hn : x ≠ "__name__" := by decide) (hd : (x == ("__debug__" : Str)) = false := by decide) : PEd X (.Name x pos) (eRaw v) :=
  pe_imp (pe_bltn hg hm hv r hn hd) fun σ H Q h => liftC (d := .raw v) (fun _ _ => rfl) (fun _ => rfl) h

/-! ### two operands -/
abbrev BSem := D → D → PSt → (D → PSt → Prop) → Prop
def e2 (s : BSem) (ta tb : TEP) : TEP := fun ds Q => ta ds fun x ds1 => tb ds1 fun y ds2 => s x y ds2 Q
def Sem2 (K : KW) (s : BSem) (r : R2) : Prop := ∀ {H0 f0 H σ ds v w vs x y es Qd} {Q : VK}, Cfg K H0 f0 H σ ds (w :: v :: vs) (y :: x :: es) → s x y ds Qd →
  (∀ v' d H' ds', Cfg K H0 f0 H' σ ds' (v' :: vs) (d :: es) → Qd d ds' → Q v' H') → r v w H Q
theorem lift2 {s : BSem} {r : R2} (hs : Sem2 K s r) {σ : St} {H : Hp} {Q : VK} (h : liftE K (e2 s ta tb) σ H Q) : tOp r (liftE K ta) (liftE K tb) σ H Q := by
  obtain ⟨H0, f0, ds, vs, es, Qd, C, q, k⟩ := h
  exact ⟨H0, f0, ds, vs, es, _, C, q, fun v x H1 ds1 C1 q1 => ⟨H0, f0, ds1, _, _, _, C1, q1, fun w y H2 ds2 C2 q2 => hs C2 q2 k⟩⟩
theorem d_op {op : Operator} {s : BSem} {r : R2} (ho : OpR X (binaryOp op) r) (hs : Sem2 (kw X) s r) (ha : PEd X a ta) (hb : PEd X b tb) : PEd X (.BinOp a op b pos) (e2 s ta tb) :=
  pe_imp (pe_op ho ha hb) fun _ _ _ h => lift2 hs h
theorem d_cmp {op : CmpOp} {s : BSem} {r : R2} (ho : OpR X (compareOp op) r) (hs : Sem2 (kw X) s r) (ha : PEd X a ta) (hb : PEd X b tb) (hm : behindInMarks op b = false) : PEd X (.Compare a [op] [b] pos) (e2 s ta tb) :=
  pe_imp (pe_cmpR ho ha hb hm) fun _ _ _ h => lift2 hs h
/-- a value that is a bool, as a test -/
def tBl (t : TEP) : TTP := fun ds Q => t ds fun x ds1 => ∃ b, x = .dat (.bool b) ∧ Q b ds1
theorem lift_tTest {t : TEP} {te : TE} (h : ∀ σ H Q, liftE K t σ H Q → te σ H Q) {σ : St} {H : Hp} {Q : Bool → Hp → Prop} (q : liftT K (tBl t) σ H Q) : tTest te σ H Q := by
  obtain ⟨H0, f0, ds, vs, es, Qd, C, q, k⟩ := q
  refine h _ _ _ ⟨H0, f0, ds, vs, es, _, C, q, fun v x H1 ds1 C1 ⟨b, e, q1⟩ => ?_⟩
  subst e
  obtain rfl : v = .bl b := C1.top
  exact ⟨b, rfl, k b H1 ds1 C1.pop q1⟩
theorem dt_cmp {op : CmpOp} {s : BSem} {r : R2} (ho : OpR X (compareOp op) r) (hs : Sem2 (kw X) s r) (ha : PEd X a ta) (hb : PEd X b tb) (hm : behindInMarks op b = false) : PTd X (.Compare a [op] [b] pos) (tBl (e2 s ta tb)) :=
  pt_imp (pt_cmpR ho ha hb hm) fun _ _ _ h => lift_tTest (fun _ _ _ h => lift2 hs h) h
/-! ### ints -/
def sI (g : Int → Int → PyData) : BSem := fun x y ds Q => ∃ i j, x = .dat (.int i) ∧ y = .dat (.int j) ∧ Q (.dat (g i j)) ds
def sIc (C : Int → Int → Prop) (g : Int → Int → PyData) : BSem := fun x y ds Q => ∃ i j, x = .dat (.int i) ∧ y = .dat (.int j) ∧ C i j ∧ Q (.dat (g i j)) ds
theorem sem_I0 {g : Int → Int → Int} : Sem2 K (sI fun i j => .int (g i j)) (rI0 fun i j => .int (g i j)) := by
  intro H0 f0 H σ ds v w vs x y es Qd Q C ⟨i, j, ex, ey, q⟩ k
  subst ex ey
  obtain rfl : w = .int j := C.top
  obtain rfl : v = .int i := C.pop.top
  exact ⟨i, j, rfl, rfl, k _ _ _ _ (C.pop.pop.push (d := .dat (.int _)) rfl fun _ => rfl) q⟩
theorem sem_B0 {g : Int → Int → Bool} : Sem2 K (sI fun i j => .bool (g i j)) (rI0 fun i j => .bl (g i j)) := by
  intro H0 f0 H σ ds v w vs x y es Qd Q C ⟨i, j, ex, ey, q⟩ k
  subst ex ey
  obtain rfl : w = .int j := C.top
  obtain rfl : v = .int i := C.pop.top
  exact ⟨i, j, rfl, rfl, k _ _ _ _ (C.pop.pop.push (d := .dat (.bool _)) rfl fun _ => rfl) q⟩
theorem sem_Ic {P : Int → Int → Prop} {g : Int → Int → Int} : Sem2 K (sIc P fun i j => .int (g i j)) (rI P fun i j => .int (g i j)) := by
  intro H0 f0 H σ ds v w vs x y es Qd Q C ⟨i, j, ex, ey, hc, q⟩ k
  subst ex ey
  obtain rfl : w = .int j := C.top
  obtain rfl : v = .int i := C.pop.top
  exact ⟨i, j, rfl, rfl, hc, k _ _ _ _ (C.pop.pop.push (d := .dat (.int _)) rfl fun _ => rfl) q⟩
end
end PD
set_option Elab.async false
set_option linter.all false
set_option maxRecDepth 100000
set_option maxHeartbeats 2000000
/-! PD, third part: equality, membership, subscripts, built-in calls. -/
namespace PD
open PySem L2
/-! ### tables -/
section
variable {κ α : Type} [DecidableEq κ]
def look (kvs : List (κ × α)) (k : κ) : Option α := (kvs.find? fun p => decide (p.1 = k)).map Prod.snd
def store (kvs : List (κ × α)) (k : κ) (v : α) : List (κ × α) :=
  if (kvs.any fun p => decide (p.1 = k)) = true then kvs.map (fun p => if p.1 = k then (p.1, v) else p) else kvs ++ [(k, v)]
end
def keyP : Key → PyData
  | .inl i => .int i
  | .inr s => .str s
section
variable {K : KW} {H H' H0 : Hp} {f0 : Addr → Prop} {σ : St} {ds ds' : PSt} {vs : List V} {es : List D} {v w : V} {d t x : D} {a : Addr}
theorem keyP_rep {k : Key} : RepP K H (keyP k) v → v = kV k := by
  cases k <;> exact id
theorem RepKV.look {κ : Type} [DecidableEq κ] : ∀ {kvs : List (κ × PyData)} {ws : List (κ × V)} (k : κ), RepKV K H kvs ws → (PD.look kvs k = none ∧ valV ws k = none) ∨ ∃ d v, PD.look kvs k = some d ∧ valV ws k = some v ∧ RepP K H d v
  | [], _, k, h => by subst h; exact .inl ⟨rfl, rfl⟩
  | (c, d) :: r, _, k, ⟨v, rs, e, h1, h2⟩ => by
    subst e
    by_cases z : c = k
    · refine .inr ⟨d, v, ?_, valV_pos z, h1⟩
      simp [PD.look, List.find?_cons, z]
    · rw [valV_neg (p := (c, v)) z]
      have : PD.look ((c, d) :: r) k = PD.look r k := by simp [PD.look, List.find?_cons, z]
      rw [this]
      exact RepKV.look k h2
theorem RepKV.any {κ : Type} [DecidableEq κ] : ∀ {kvs : List (κ × PyData)} {ws : List (κ × V)} (k : κ), RepKV K H kvs ws → (kvs.any fun p => decide (p.1 = k)) = ws.any fun p => decide (p.1 = k)
  | [], _, k, h => by subst h; rfl
  | (c, d) :: r, _, k, ⟨v, rs, e, h1, h2⟩ => by subst e; simp only [List.any_cons]; rw [RepKV.any k h2]
theorem RepKV.put {κ : Type} [DecidableEq κ] {p : PyData} {u : V} (hp : RepP K H p u) : ∀ {kvs : List (κ × PyData)} {ws : List (κ × V)} (k : κ), RepKV K H kvs ws →
    RepKV K H (kvs.map fun q => if q.1 = k then (q.1, p) else q) (ws.map fun q => if q.1 = k then (q.1, u) else q)
  | [], _, k, h => by subst h; rfl
  | (c, d) :: r, _, k, ⟨v, rs, e, h1, h2⟩ => by
    subst e
    have ih := RepKV.put hp k h2
    by_cases z : c = k
    · simp only [List.map_cons, if_pos z]
      exact ⟨_, _, rfl, hp, ih⟩
    · simp only [List.map_cons, if_neg z]
      exact ⟨_, _, rfl, h1, ih⟩
theorem RepKV.snoc {κ : Type} {p : PyData} {u : V} (hp : RepP K H p u) (k : κ) : ∀ {kvs : List (κ × PyData)} {ws : List (κ × V)}, RepKV K H kvs ws → RepKV K H (kvs ++ [(k, p)]) (ws ++ [(k, u)])
  | [], _, h => by subst h; exact ⟨_, _, rfl, hp, rfl⟩
  | (c, d) :: r, _, ⟨v, rs, e, h1, h2⟩ => by subst e; exact ⟨_, _, rfl, h1, RepKV.snoc hp k h2⟩
theorem RepKV.store {κ : Type} [DecidableEq κ] {kvs : List (κ × PyData)} {ws : List (κ × V)} {p : PyData} {u : V} (k : κ) (h : RepKV K H kvs ws) (hp : RepP K H p u) : RepKV K H (PD.store kvs k p) (putK ws k u) := by
  unfold PD.store putK
  rw [RepKV.any k h]
  split
  · exact RepKV.put hp k h
  · exact RepKV.snoc hp k h
theorem RepKV.len {κ : Type} : ∀ {kvs : List (κ × PyData)} {ws : List (κ × V)}, RepKV K H kvs ws → kvs.length = ws.length
  | [], _, h => by subst h; rfl
  | (c, d) :: r, _, ⟨v, rs, e, h1, h2⟩ => by subst e; simp [RepKV.len h2]
mutual
theorem RepP.dp : ∀ (d : PyData) (v : V), RepP K H d v → Dp K.K H v d
  | .none, _, h => by obtain rfl := h; exact .non
  | .bool b, _, h => by obtain rfl := h; exact .bl b
  | .int i, _, h => by obtain rfl := h; exact .int i
  | .str x, _, h => by obtain rfl := h; exact .str x
  | .tuple ds, _, ⟨a, xs, e, s, r⟩ => by subst e; exact .tup (TupAt.sq s) (RepPs.dp ds xs r)
  | .list ds, _, ⟨a, xs, e, s, r⟩ => by subst e; exact .lst s.sq (RepPs.dp ds xs r)
  | .dict _, _, h => h.elim
theorem RepPs.dp : ∀ (ds : List PyData) (vs : List V), RepPs K H ds vs → DpAll K.K H vs ds
  | [], _, h => by obtain rfl := h; exact .nil
  | d :: ds, _, ⟨v, r, e, h1, h2⟩ => by subst e; exact .cons (RepP.dp d v h1) (RepPs.dp ds r h2)
end
/-- the plain data that x tells -/
def Pyd (ds : PSt) (x : D) (a : PyData) : Prop := match x with
  | .dat d => a = d
  | _ => ∃ (ad : Addr) (xs : List PyData), See ds x (.lst ad xs) ∧ a = .list xs
theorem Pyd.dp {p : PyData} (C : Cfg K H0 f0 H σ ds vs es) (r : RepD K H x v) (h : Pyd ds x p) : Dp K.K H v p := by
  have go : (∃ (ad : Addr) (xs : List PyData), See ds x (.lst ad xs) ∧ p = .list xs) → Dp K.K H v p := by
    rintro ⟨ad, xs, s, rfl⟩
    obtain ⟨e, zs, h1, h2⟩ := s.rep C r
    subst e
    exact .lst (SqL.of h1) (RepPs.dp _ _ h2)
  cases x with
  | dat d => obtain rfl := h; exact RepP.dp _ _ r
  | _ => exact go h
theorem See.lst {xs : List PyData} (C : Cfg K H0 f0 H σ ds vs es) (r : RepD K H x v) (s : See ds x (.lst a xs)) : v = .ref a ∧ ∃ zs, H a = some (.lst zs) ∧ RepPs K H xs zs := s.rep C r
end
section
variable {X : Cx} {a b c : Expr} {ta tb tc : TEP} {pos : Pos} {K : KW}
def sEq : BSem := fun x y ds Q => ∃ p q, Pyd ds x p ∧ Pyd ds y q ∧ SeqAt.shaped p = true ∧ SeqAt.shaped q = true ∧ Q (.dat (.bool (PyData.eqv p q))) ds
def sNe : BSem := fun x y ds Q => ∃ p q, Pyd ds x p ∧ Pyd ds y q ∧ SeqAt.shaped p = true ∧ SeqAt.shaped q = true ∧ Q (.dat (.bool (!PyData.eqv p q))) ds
theorem sem_eq : Sem2 K sEq (rEqD K.K) := by
  intro H0 f0 H σ ds v w vs x y es Qd Q C ⟨p, q, h1, h2, s1, s2, h⟩ k
  exact ⟨p, q, h1.dp C C.pop.top, h2.dp C C.top, s1, s2, k _ _ _ _ (C.pop.pop.push (d := .dat (.bool _)) rfl fun _ => rfl) h⟩
theorem sem_ne : Sem2 K sNe (rNeD K.K) := by
  intro H0 f0 H σ ds v w vs x y es Qd Q C ⟨p, q, h1, h2, s1, s2, h⟩ k
  exact ⟨p, q, h1.dp C C.pop.top, h2.dp C C.top, s1, s2, k _ _ _ _ (C.pop.pop.push (d := .dat (.bool _)) rfl fun _ => rfl) h⟩
def isN : D → Bool
  | .dat .none => true
  | .raw .non => true
  | _ => false
theorem isN_rep {H : Hp} {x : D} {v : V} (r : RepD K H x v) : decide (v = .non) = isN x := by
  cases x with
  | dat d =>
    cases d with
    | none => obtain rfl := r; rfl
    | bool b => obtain rfl := r; rfl
    | int b => obtain rfl := r; rfl
    | str b => obtain rfl := r; rfl
    | tuple b => obtain ⟨a, xs, e, _⟩ := r; subst e; rfl
    | list b => obtain ⟨a, xs, e, _⟩ := r; subst e; rfl
    | dict b => exact r.elim
  | lst a xs => rw [r.1]; rfl
  | lsD a xs => rw [r.1]; rfl
  | dk a xs => rw [r.1]; rfl
  | dt a xs => rw [r.1]; rfl
  | ins a C fs => rw [r.1]; rfl
  | tpD xs => obtain ⟨a, xs, e, _⟩ := r; subst e; rfl
  | bor a i π d => obtain rfl := r; rfl
  | raw w => obtain rfl := r; cases v <;> rfl
  | pr p q => obtain ⟨a, x, y, e, _⟩ := r; subst e; rfl
  | dkF a o ws kvs => obtain ⟨e, _⟩ := r; subst e; rfl
def sIsN : BSem := fun x y ds Q => y = .dat .none ∧ Q (.dat (.bool (isN x))) ds
def sNotN : BSem := fun x y ds Q => y = .dat .none ∧ Q (.dat (.bool (!isN x))) ds
theorem sem_isN : Sem2 K sIsN (fun x y H Q => y = .non ∧ Q (.bl (decide (x = .non))) H) := by
  intro H0 f0 H σ ds v w vs x y es Qd Q C ⟨e, h⟩ k
  subst e
  obtain rfl : w = .non := C.top
  refine ⟨rfl, ?_⟩
  rw [isN_rep C.pop.top]
  exact k _ _ _ _ (C.pop.pop.push (d := .dat (.bool _)) rfl fun _ => rfl) h
/-- is, is not of None or of a truth value -/
def sIs : BSem := fun x y ds Q => (sIsN x y ds Q) ∨ ∃ a b, x = .dat (.bool a) ∧ y = .dat (.bool b) ∧ Q (.dat (.bool (decide (a = b)))) ds
def sIsNot : BSem := fun x y ds Q => (sNotN x y ds Q) ∨ ∃ a b, x = .dat (.bool a) ∧ y = .dat (.bool b) ∧ Q (.dat (.bool (!decide (a = b)))) ds
theorem sem_is : Sem2 K sIs (fun x y H Q => (y = .non ∧ Q (.bl (decide (x = .non))) H) ∨ rIsB x y H Q) := by
  intro H0 f0 H σ ds v w vs x y es Qd Q C h k
  rcases h with h | ⟨a, b, e1, e2, h⟩
  · exact .inl (sem_isN C h k)
  · subst e1 e2
    exact .inr ⟨a, b, C.pop.top, C.top, k _ _ _ _ (C.pop.pop.push (d := .dat (.bool _)) rfl fun _ => rfl) h⟩
/-! ### in, not in -/
def rInK (neg : Bool) : R2 := fun y x H Q => ∃ a o, x = .ref a ∧ DGet H a y o ∧ Q (.bl (if neg then !o.isSome else o.isSome)) H
theorem op_inK (hu : X.A.units + 1 < cLine) : OpR X (compareOp .In) (rInK false) := by
  intro pins s σ H x y v u Q I rx ry ⟨a, o, e, g, q⟩
  subst e
  obtain rfl : u = Value.ref a := ry
  exact d_in hu I g rx fun s3 I3 => ⟨.bl o.isSome, H, I3, rfl, q⟩
theorem op_notInK (hu : X.A.units + 1 < cLine) : OpR X (compareOp .NotIn) (rInK true) := by
  intro pins s σ H x y v u Q I rx ry ⟨a, o, e, g, q⟩
  subst e
  obtain rfl : u = Value.ref a := ry
  exact d_notIn hu I g rx fun s3 I3 => ⟨.bl (!o.isSome), H, I3, rfl, q⟩
def flatP : PyData → Bool
  | .none => true
  | .bool _ => true
  | .int _ => true
  | .str _ => true
  | _ => false
/-- the items of a list or a tuple -/
def ItemsT : D → List PyData → Prop
  | .lst _ xs, ys => ys = xs
  | .dat (.tuple xs), ys => ys = xs
  | .dat (.list xs), ys => ys = xs
  | _, _ => False
theorem items_rep {H : Hp} {t : D} {v : V} {xs : List PyData} (r : RepD K H t v) (i : ItemsT t xs) : ∃ a zs, v = .ref a ∧ (SqL K.K H a zs ∨ SqT K.K H a zs) ∧ RepPs K H xs zs := by
  cases t with
  | lst a ys => obtain rfl := i; obtain ⟨e, zs, h1, h2⟩ := r; exact ⟨a, zs, e, .inl (SqL.of h1), h2⟩
  | dat d =>
    cases d with
    | list ys => obtain rfl := i; obtain ⟨a, zs, e, h1, h2⟩ := r; exact ⟨a, zs, e, .inl h1.sq, h2⟩
    | tuple ys => obtain rfl := i; obtain ⟨a, zs, e, h1, h2⟩ := r; exact ⟨a, zs, e, .inr (TupAt.sq h1), h2⟩
    | _ => exact i.elim
  | _ => exact i.elim
theorem flat_rep {H : Hp} {p : PyData} {v : V} (r : RepP K H p v) (f : flatP p = true) : flatV v = true := by
  cases p <;> first | (obtain rfl := r; rfl) | cases f
theorem flat_reps {H : Hp} : ∀ {ps : List PyData} {vs : List V}, RepPs K H ps vs → ps.all flatP = true → vs.all flatV = true
  | [], _, h, _ => by subst h; rfl
  | p :: ps, _, ⟨v, r, e, h1, h2⟩, f => by
    subst e
    rw [List.all_cons, Bool.and_eq_true] at f
    rw [List.all_cons, flat_rep h1 f.1, flat_reps h2 f.2]; rfl
theorem eqV_rep {H : Hp} {p q : PyData} {v u : V} (r : RepP K H p v) (s : RepP K H q u) (f : flatP p = true) (g : flatP q = true) : eqV v u = PyData.eqv p q := by
  cases p <;> first
    | exact absurd f Bool.false_ne_true
    | (cases q <;> first
        | exact absurd g Bool.false_ne_true
        | (obtain rfl := r; obtain rfl := s; simp only [eqV, PyData.eqv]))
theorem inV_rep {H : Hp} {p : PyData} {v : V} (r : RepP K H p v) (f : flatP p = true) : ∀ {ps : List PyData} {vs : List V}, RepPs K H ps vs → ps.all flatP = true → inV v vs = ps.any fun z => PyData.eqv z p
  | [], _, h, _ => by subst h; rfl
  | q :: ps, _, ⟨u, rr, e, h1, h2⟩, g => by
    subst e
    rw [List.all_cons, Bool.and_eq_true] at g
    show (eqV u v || inV v rr) = _
    rw [inV_rep r f h2 g.2, eqV_rep h1 r g.1 f, List.any_cons]
/-- what a dict holds at a key -/
inductive KeyAt : D → PyData → Option PyData → Prop
  | k {a : Addr} {kvs : List (Key × PyData)} {p : PyData} {k : Key} {o : Option PyData} : p = keyP k → look kvs k = o → KeyAt (.dk a kvs) p o
  | f {a : Addr} {ob : Obj} {ws : List (Key × V)} {kvs : List (Key × PyData)} {p : PyData} {k : Key} {o : Option PyData} : p = keyP k → look kvs k = o → KeyAt (.dkF a ob ws kvs) p o
theorem keyAt_rep {H : Hp} {t : D} {p : PyData} {o : Option PyData} {u v : V} (h : KeyAt t p o) (r : RepD K H t u) (s : RepP K H p v) : ∃ a o', u = .ref a ∧ DGet H a v o' ∧ ((o = none ∧ o' = none) ∨ ∃ d z, o = some d ∧ o' = some z ∧ RepP K H d z) := by
  cases h with
  | k e l =>
    subst e
    obtain ⟨eu, ws, h1, h2⟩ := r
    have ev := keyP_rep s
    subst ev
    refine ⟨_, _, eu, DGet.k h1, ?_⟩
    rw [← l]
    exact RepKV.look _ h2
  | f e l =>
    subst e
    obtain ⟨eu, h1, h2⟩ := r
    have ev := keyP_rep s
    subst ev
    refine ⟨_, _, eu, .inl ⟨_, _, .inr ⟨_, h1⟩, rfl, rfl⟩, ?_⟩
    rw [← l]
    exact RepKV.look _ h2
/-- x in y: flat data in a list or tuple; a key in a dict -/
def sInN (neg : Bool) : BSem := fun x y ds Q => ∃ p t, x = .dat p ∧ See ds y t ∧
  ((∃ xs, ItemsT t xs ∧ flatP p = true ∧ xs.all flatP = true ∧ Q (.dat (.bool (if neg then !(xs.any fun z => PyData.eqv z p) else (xs.any fun z => PyData.eqv z p)))) ds) ∨
   (∃ o, KeyAt t p o ∧ Q (.dat (.bool (if neg then !o.isSome else o.isSome))) ds))
theorem sem_inN {neg : Bool} : Sem2 K (sInN neg) (fun x y H Q => rIn K.K neg x y H Q ∨ rInK neg x y H Q) := by
  intro H0 f0 H σ ds v w vs x y es Qd Q C ⟨p, t, e, s, h⟩ k
  subst e
  have rt := s.rep C C.top
  have rp : RepP K H p v := C.pop.top
  have fin : ∀ b, Qd (.dat (.bool b)) ds → Q (.bl b) H := fun b q => k _ _ _ _ (C.pop.pop.push (d := .dat (.bool _)) rfl fun _ => rfl) q
  rcases h with ⟨xs, hi, f1, f2, q⟩ | ⟨o, g, q⟩
  · obtain ⟨a, zs, ev, hq, hr⟩ := items_rep rt hi
    subst ev
    refine .inl ⟨a, zs, rfl, hq, flat_rep rp f1, flat_reps hr f2, ?_⟩
    rw [inV_rep rp f1 hr f2]
    exact fin _ q
  · obtain ⟨a, o', eu, dg, ho⟩ := keyAt_rep g rt rp
    subst eu
    refine .inr ⟨a, o', rfl, dg, ?_⟩
    rcases ho with ⟨e1, e2⟩ | ⟨d, z, e1, e2, _⟩ <;> (subst e1 e2; exact fin _ q)

/-! ### subscripts -/
def rIxK : R2 := fun x y H Q => ∃ a v, x = .ref a ∧ DGet H a y (some v) ∧ Q v H
theorem ix_dict (hu : X.A.units + 1 < cLine) : IxR X rIxK := by
  intro value slice pins s σ H x y v u Q I rx ry ⟨a, z, e, g, q⟩ hs
  subst e
  obtain rfl : v = Value.ref a := rx
  have hT := dict_typeIs I g
  have fin : wpAny (model X.prog X.w) X.A (subscripted slice false (.ref a) u) (fun r s₃ => wpAny (model X.prog X.w) X.A (letTemporaryGo value (.ref a) r >>= fun _ => pure r) (EP X pins σ Q) X.xe s₃) X.xe s := by
    rw [hs]
    exact wpAny_operating (d_getItem hu I g ry fun w' s3 I3 rw' => wpAny_bind (wpAny_letTemporaryGo (wpAny_pure ⟨z, H, I3, rw', q⟩)))
  unfold PyProof.Rows.subscriptTail
  refine wpAny_bind ?_
  rw [getitemInPython_of_ne hT.not_modules]
  refine wpAny_bind (wpAny_specialOf hT PySem.F.slot_dict_getitem.lookup ?_)
  first
    | exact wpAny_pure (wpAny_bind fin)
    | exact wpAny_bind (wpAny_pure (wpAny_bind fin))
    | exact wpAny_bind fin
/-- what stands at an index, a key -/
inductive IxT : D → D → D → D → Prop
  | items {x t : D} {xs : List PyData} {i : Int} {p : PyData} : ItemsT t xs → atI xs i = some p → IxT x t (.dat (.int i)) (.dat p)
  | own {a b : Addr} {s : Nat} {π : List Stp} {t : D} {xs : List D} {i : Int} {m : Nat} {d d' : D} : ixN xs.length i = some m → xs[m]? = some d → ldAt s (π ++ [.it m]) d = some d' → IxT (.bor a s π t) (.lsD b xs) (.dat (.int i)) d'
  | key {x t : D} {p : PyData} {q : PyData} : KeyAt t p (some q) → IxT x t (.dat p) (.dat q)
theorem atI_rep {H : Hp} {xs : List PyData} {zs : List V} {i : Int} {p : PyData} (r : RepPs K H xs zs) (h : atI xs i = some p) : ∃ z, atI zs i = some z ∧ RepP K H p z := by
  unfold atI at h ⊢
  rw [← r.len]
  cases e : ixN xs.length i with
  | none => rw [e] at h; cases h
  | some j =>
    rw [e] at h
    exact r.get h
theorem atI_repD {H : Hp} {xs : List D} {zs : List V} {i : Int} {p : D} (r : RepDs K H xs zs) (h : atI xs i = some p) : ∃ z, atI zs i = some z ∧ RepD K H p z := by
  unfold atI at h ⊢
  rw [← r.len]
  cases e : ixN xs.length i with
  | none => rw [e] at h; cases h
  | some j =>
    rw [e] at h
    exact r.get h
def sIx : BSem := fun x y ds Q => ∃ t d, See ds x t ∧ IxT x t y d ∧ Q d ds
theorem sem_ix : Sem2 K sIx (fun x y H Q => rIxL K.K x y H Q ∨ rIxT K.K x y H Q ∨ rIxK x y H Q) := by
  intro H0 f0 H σ ds v w vs x y es Qd Q C ⟨t, d, s, i, q⟩ k
  have rt := s.rep C C.pop.top
  cases i with
  | items hi hp =>
    obtain ⟨a, zs, ev, hq, hr⟩ := items_rep rt hi
    obtain rfl : w = .int _ := C.top
    subst ev
    obtain ⟨z, h1, h2⟩ := atI_rep hr hp
    have fin := k z _ _ _ (C.pop.pop.push (d := .dat _) h2 fun _ => rfl) q
    rcases hq with hq | hq
    · exact .inl ⟨a, zs, _, z, rfl, rfl, hq, h1, fin⟩
    · exact .inr (.inl ⟨a, zs, _, z, rfl, rfl, hq, h1, fin⟩)
  | own hi hm hl =>
    obtain ⟨ev, zs, hq, hr⟩ := rt
    obtain rfl : w = .int _ := C.top
    subst ev
    obtain ⟨z, h1, h2⟩ := atI_repD hr (show atI _ _ = some _ by unfold atI; rw [hi]; exact hm)
    obtain ⟨h3, h4⟩ := ld_rep hl h2
    exact .inl ⟨_, zs, _, z, rfl, rfl, SqL.of hq, h1, k z _ _ _ (C.pop.pop.push h3 h4) q⟩
  | key g =>
    obtain ⟨a, o', eu, dg, ho⟩ := keyAt_rep g rt C.top
    subst eu
    rcases ho with ⟨e1, _⟩ | ⟨d, z, e1, e2, hz⟩
    · cases e1
    · cases e1
      subst e2
      exact .inr (.inr ⟨a, z, rfl, dg, k z _ _ _ (C.pop.pop.push (d := .dat _) hz fun _ => rfl) q⟩)
theorem d_ix (hu : X.A.units + 1 < cLine) (ha : PEd X a ta) (hb : PEd X b tb) (hs : PlainIx b := by exact fun _ _ => rfl) : PEd X (.Subscript a b pos) (e2 sIx ta tb) :=
  pe_imp (pe_ix (ix_list.or (ix_tup.or (ix_dict hu))) ha hb hs) fun _ _ _ h => lift2 sem_ix h

/-! ### tests, and, or, not, if -/
def truP : PyData → Option Bool
  | .none => some false
  | .bool b => some b
  | .int i => some (i != 0)
  | .str s => if s.length ≤ sizeLine then some ((s.length : Int) != 0) else none
  | .tuple xs => some (!xs.isEmpty)
  | .list xs => some (!xs.isEmpty)
  | _ => none
def TruT : D → Bool → Prop
  | .dat p, b => truP p = some b
  | .lst _ xs, b => b = !xs.isEmpty
  | .lsD _ xs, b => b = !xs.isEmpty
  | .dk _ xs, b => b = !xs.isEmpty
  | _, _ => False
theorem empty_len {α β : Type} {xs : List α} {ys : List β} (h : xs.length = ys.length) : (!xs.isEmpty) = !ys.isEmpty := by
  cases xs <;> cases ys <;> simp at h ⊢
theorem tru_rep {H : Hp} {t : D} {v : V} {b : Bool} (r : RepD K H t v) (h : TruT t b) : TruV K.K v H b := by
  cases t with
  | dat p =>
    cases p with
    | none => obtain rfl := r; cases h; rfl
    | bool c => obtain rfl := r; cases h; rfl
    | int i => obtain rfl := r; cases h; rfl
    | str s =>
      obtain rfl := r
      have h' : (if s.length ≤ sizeLine then some ((s.length : Int) != 0) else none) = some b := h
      split at h'
      · cases h'; exact ⟨by assumption, rfl⟩
      · cases h'
    | tuple xs =>
      obtain ⟨a, zs, e, h1, h2⟩ := r
      subst e
      have h' : some (!xs.isEmpty) = some b := h
      cases h'
      exact .inr (.inl ⟨zs, TupAt.sq h1, empty_len h2.len⟩)
    | list xs =>
      obtain ⟨a, zs, e, h1, h2⟩ := r
      subst e
      have h' : some (!xs.isEmpty) = some b := h
      cases h'
      exact .inl ⟨zs, h1.sq, empty_len h2.len⟩
    | _ => exact r.elim
  | lst a xs =>
    obtain ⟨e, zs, h1, h2⟩ := r
    subst e
    exact .inl ⟨zs, SqL.of h1, Eq.trans h (empty_len h2.len)⟩
  | lsD a xs =>
    obtain ⟨e, zs, h1, h2⟩ := r
    subst e
    exact .inl ⟨zs, SqL.of h1, Eq.trans h (empty_len h2.len)⟩
  | dk a xs =>
    obtain ⟨e, zs, h1, h2⟩ := r
    subst e
    exact .inr (.inr ⟨zs, h1, Eq.trans h (empty_len h2.len)⟩)
  | _ => exact h.elim
def tTru (t : TEP) : TTP := fun ds Q => t ds fun x ds1 => ∃ d b, See ds1 x d ∧ TruT d b ∧ Q b ds1
theorem dt_tru (ha : PEd X a ta) (he : ∀ whole, isTrue a X.env whole = (do let v ← whole; standAt a.pos; holding [v] (truthy v)) := by intro _; rfl) : PTd X a (tTru ta) :=
  pt_imp (pt_truth ha he) fun σ H Q h => by
    obtain ⟨H0, f0, ds, vs, es, Qd, C, q, k⟩ := h
    exact ⟨H0, f0, ds, vs, es, _, C, q, fun v x H1 ds1 C1 ⟨d, b, s, t, q1⟩ => ⟨b, tru_rep (s.rep C1 C1.top) t, k b H1 ds1 C1.pop q1⟩⟩
def dAnd (t u : TTP) : TTP := fun ds Q => t ds fun c ds1 => if c = true then u ds1 Q else Q false ds1
def dOr (t u : TTP) : TTP := fun ds Q => t ds fun c ds1 => if c = true then Q true ds1 else u ds1 Q
def dNot (t : TTP) : TTP := fun ds Q => t ds fun c ds1 => Q (!c) ds1
def PWd (X : Cx) (e : Expr) (t : TTP) : Prop := PW X e (liftT (kw X) t)
theorem lift_if {t u : TT} {tp up : TTP} (ht : ∀ σ H Q, liftT K tp σ H Q → t σ H Q) (hu : ∀ σ H Q, liftT K up σ H Q → u σ H Q) {σ : St} {H : Hp} {Q : Bool → Hp → Prop} :
    (liftT K (dAnd tp up) σ H Q → tAnd t u σ H Q) ∧ (liftT K (dOr tp up) σ H Q → tOr t u σ H Q) := by
  constructor
  · rintro ⟨H0, f0, ds, vs, es, Qd, C, q, k⟩
    refine ht _ _ _ ⟨H0, f0, ds, vs, es, _, C, q, fun b H1 ds1 C1 q1 => ?_⟩
    cases b with
    | true => exact hu _ _ _ ⟨H0, f0, ds1, vs, es, _, C1, q1, k⟩
    | false => exact k _ _ _ C1 q1
  · rintro ⟨H0, f0, ds, vs, es, Qd, C, q, k⟩
    refine ht _ _ _ ⟨H0, f0, ds, vs, es, _, C, q, fun b H1 ds1 C1 q1 => ?_⟩
    cases b with
    | false => exact hu _ _ _ ⟨H0, f0, ds1, vs, es, _, C1, q1, k⟩
    | true => exact k _ _ _ C1 q1
variable {rest : List Expr} {tA tB : TTP}
theorem dw_or1 (ha : PTd X a tA) : PWd X (.BoolOp .Or [a] pos) tA := pw_or1 ha
theorem dw_or (ha : PTd X a tA) (hb : PWd X (.BoolOp .Or (b :: rest) pos) tB) : PWd X (.BoolOp .Or (a :: b :: rest) pos) (dOr tA tB) :=
  pw_imp (pw_or ha hb) fun _ _ _ h => (lift_if (fun _ _ _ z => z) (fun _ _ _ z => z)).2 h
theorem dw_pt {e : Expr} {t : TTP} (h : PWd X e t) : PTd X e t := PW.pt h
theorem dt_not (ha : PTd X a tA) : PTd X (.UnaryOp .Not a pos) (dNot tA) :=
  pt_imp (pt_not ha) fun _ _ _ ⟨H0, f0, ds, vs, es, Qd, C, q, k⟩ => ⟨H0, f0, ds, vs, es, _, C, q, fun b H1 ds1 C1 q1 => k _ _ _ C1 q1⟩
/-- as values -/
def eAnd (ta tb : TEP) : TEP := fun ds Q => ta ds fun x ds1 => ∃ c, x = .dat (.bool c) ∧ if c = true then tb ds1 Q else Q (.dat (.bool false)) ds1
def eOr (ta tb : TEP) : TEP := fun ds Q => ta ds fun x ds1 => ∃ c, x = .dat (.bool c) ∧ if c = true then Q (.dat (.bool true)) ds1 else tb ds1 Q
def eNot (ta : TEP) : TEP := fun ds Q => ta ds fun x ds1 => ∃ c, x = .dat (.bool c) ∧ Q (.dat (.bool (!c))) ds1
theorem d_one {op} (h : PEd X a ta) : PEd X (.BoolOp op [a] pos) ta := pe_one h
theorem d_and (ha : PEd X a ta) (hb : PEd X (.BoolOp .And (b :: rest) pos) tb) : PEd X (.BoolOp .And (a :: b :: rest) pos) (eAnd ta tb) :=
  pe_imp (pe_and ha hb) fun σ H Q ⟨H0, f0, ds, vs, es, Qd, C, q, k⟩ => ⟨H0, f0, ds, vs, es, _, C, q, fun v x H1 ds1 C1 ⟨c, e, q1⟩ => by
    subst e
    obtain rfl : v = .bl c := C1.top
    refine ⟨c, rfl, ?_⟩
    cases c with
    | true => exact ⟨H0, f0, ds1, vs, es, Qd, C1.pop, q1, k⟩
    | false => exact k _ _ _ _ C1 q1⟩
theorem d_not (ha : PEd X a ta) : PEd X (.UnaryOp .Not a pos) (eNot ta) :=
  pe_imp (pe_not ha) fun σ H Q ⟨H0, f0, ds, vs, es, Qd, C, q, k⟩ => ⟨H0, f0, ds, vs, es, _, C, q, fun v x H1 ds1 C1 ⟨c, e, q1⟩ => by
    subst e
    obtain rfl : v = .bl c := C1.top
    exact ⟨c, rfl, k _ _ _ _ (C1.pop.push (d := .dat (.bool _)) rfl fun _ => rfl) q1⟩⟩
def eIf (t : TTP) (ta tb : TEP) : TEP := fun ds Q => t ds fun c ds1 => if c = true then ta ds1 Q else tb ds1 Q
theorem d_if (hc : PTd X c tA) (ha : PEd X a ta) (hb : PEd X b tb) : PEd X (.IfExp c a b pos) (eIf tA ta tb) :=
  pe_imp (pe_ifExp hc ha hb) fun σ H Q ⟨H0, f0, ds, vs, es, Qd, C, q, k⟩ => ⟨H0, f0, ds, vs, es, _, C, q, fun b H1 ds1 C1 q1 => by
    cases b with
    | true => exact ⟨H0, f0, ds1, vs, es, Qd, C1, q1, k⟩
    | false => exact ⟨H0, f0, ds1, vs, es, Qd, C1, q1, k⟩⟩
/-- a op b op' c of ints: the middle one is asked once -/
def eChainI (g g' : Int → Int → Bool) (ta tb tc : TEP) : TEP := fun ds Q => ta ds fun x ds1 => tb ds1 fun y ds2 => ∃ i j, x = .dat (.int i) ∧ y = .dat (.int j) ∧
  if g i j = true then tc ds2 fun z ds3 => ∃ k, z = .dat (.int k) ∧ Q (.dat (.bool (g' j k))) ds3 else Q (.dat (.bool false)) ds2
theorem lift_chain {g g' : Int → Int → Bool} {σ : St} {H : Hp} {Q : VK} (h : liftE K (eChainI g g' ta tb tc) σ H Q) :
    tChain (rI0 fun i j => .bl (g i j)) (rI0 fun i j => .bl (g' i j)) (liftE K ta) (liftE K tb) (liftE K tc) σ H Q := by
  obtain ⟨H0, f0, ds, vs, es, Qd, C, q, k⟩ := h
  refine ⟨H0, f0, ds, vs, es, _, C, q, fun v x H1 ds1 C1 q1 => ⟨H0, f0, ds1, _, _, _, C1, q1, fun w y H2 ds2 C2 ⟨i, j, e1, e2, q2⟩ => ?_⟩⟩
  subst e1 e2
  obtain rfl : w = .int j := C2.top
  obtain rfl : v = .int i := C2.pop.top
  refine ⟨i, j, rfl, rfl, g i j, rfl, ?_⟩
  cases hg : g i j with
  | true =>
    rw [hg] at q2
    exact ⟨H0, f0, ds2, vs, es, _, C2.pop.pop, q2, fun u z H3 ds3 C3 ⟨l, e3, q3⟩ => by
      subst e3
      obtain rfl : u = .int l := C3.top
      exact ⟨j, l, rfl, rfl, k _ _ _ _ (C3.pop.push (d := .dat (.bool _)) rfl fun _ => rfl) q3⟩⟩
  | false =>
    rw [hg] at q2
    exact k _ _ _ _ (C2.pop.pop.push (d := .dat (.bool _)) rfl fun _ => rfl) q2
theorem d_chainI {op op' : CmpOp} {g g' : Int → Int → Bool} (ho : OpR X (compareOp op) (rI0 fun i j => .bl (g i j))) (ho' : OpR X (compareOp op') (rI0 fun i j => .bl (g' i j))) (ha : PEd X a ta) (hb : PEd X b tb) (hc : PEd X c tc)
    (hm : lastMarks [op, op'] [b, c] = false := by with_unfolding_all rfl) : PEd X (.Compare a [op, op'] [b, c] pos) (eChainI g g' ta tb tc) :=
  pe_imp (pe_chain ho ho' ha hb hc hm) fun _ _ _ h => lift_chain h
theorem dt_chainI {op op' : CmpOp} {g g' : Int → Int → Bool} (ho : OpR X (compareOp op) (rI0 fun i j => .bl (g i j))) (ho' : OpR X (compareOp op') (rI0 fun i j => .bl (g' i j))) (ha : PEd X a ta) (hb : PEd X b tb) (hc : PEd X c tc)
    (hm : lastMarks [op, op'] [b, c] = false := by with_unfolding_all rfl) : PTd X (.Compare a [op, op'] [b, c] pos) (tBl (eChainI g g' ta tb tc)) :=
  pt_imp (pt_chain ho ho' ha hb hc hm) fun _ _ _ h => lift_tTest (fun _ _ _ z => lift_chain z) h
end
end PD
set_option Elab.async false
set_option linter.all false
set_option maxRecDepth 100000
set_option maxHeartbeats 2000000
/-! PD, fourth part: arguments, displays, built-in calls, methods of lists. -/
namespace PD
open PySem L2
section
variable {K : KW} {H H' H0 : Hp} {f0 : Addr → Prop} {σ : St} {ds ds' : PSt} {vs ws : List V} {es as : List D} {v w : V} {d t x : D} {a : Addr}
theorem RepDs.split : ∀ {as : List D} {ws : List V}, as.length = ws.length → RepDs K H (as ++ es) (ws ++ vs) → RepDs K H as ws ∧ RepDs K H es vs
  | [], [], _, h => ⟨rfl, h⟩
  | [], _ :: _, e, _ => by simp at e
  | _ :: _, [], e, _ => by simp at e
  | a :: as, w :: ws, e, ⟨v, r, q, h1, h2⟩ => by
    injection q with q1 q2
    subst q1 q2
    obtain ⟨h3, h4⟩ := RepDs.split (by simpa using e) h2
    exact ⟨⟨_, _, rfl, h1, h3⟩, h4⟩
theorem Cfg.mid (C : Cfg K H0 f0 H σ ds (ws ++ v :: vs) (as ++ x :: es)) (hl : as.length = ws.length) : Cfg K H0 f0 H σ ds ((v :: ws) ++ vs) ((x :: as) ++ es) := by
  obtain ⟨h1, w', r, e, h2, h3⟩ := RepDs.split (es := x :: es) (vs := v :: vs) hl C.tm
  cases e
  have c : ∀ b, cDs b (x :: (as ++ es)) = cDs b (as ++ x :: es) := fun b => by
    show cD b x + cDs b (as ++ es) = _
    rw [cDs_append, cDs_append]
    show _ = cDs b as + (cD b x + cDs b es)
    omega
  exact ⟨C.sl, ⟨_, _, rfl, h2, h1.append h3⟩, fun b => by have := C.nd b; have := c b; show cS b ds + cDs b (x :: (as ++ es)) ≤ 1; omega,
    fun b h => C.fr b (by have h' : 1 ≤ cS b ds + cDs b (x :: (as ++ es)) := h; have := c b; omega), C.kp⟩
theorem Cfg.args (C : Cfg K H0 f0 H σ ds (ws ++ vs) (as ++ es)) (hl : as.length = ws.length) : RepDs K H as ws := (RepDs.split hl C.tm).1
theorem Cfg.drop (C : Cfg K H0 f0 H σ ds (ws ++ vs) (as ++ es)) (hl : as.length = ws.length) : Cfg K H0 f0 H σ ds vs es := by
  refine ⟨C.sl, (RepDs.split hl C.tm).2, fun a => ?_, fun a h => ?_, C.kp⟩
  · have := C.nd a; rw [cDs_append] at this; omega
  · exact C.fr a (by rw [cDs_append]; omega)
theorem Cfg.newTrees {p : Addr} (C : Cfg K H0 f0 H σ ds (ws ++ vs) (as ++ es)) (hl : as.length = ws.length) (hp : H p = none) : Cfg K H0 f0 (upd H p (.lst ws)) σ ds (.ref p :: vs) (.lsD p as :: es) := by
  have C' := C.grow (grow_new (o := .lst ws) hp)
  obtain ⟨h1, h2⟩ := RepDs.split hl C'.tm
  have z := C.untracked hp
  have c : ∀ b, cDs b (.lsD p as :: es) = one b p + cDs b (as ++ es) := fun b => by
    rw [cDs_append]
    show (one b p + cDs b as) + cDs b es = _
    omega
  refine ⟨C'.sl, ⟨_, _, rfl, ⟨rfl, ws, upd_same, h1⟩, h2⟩, fun b => ?_, fun b h => ?_, C'.kp⟩
  · rw [c]
    by_cases q : b = p
    · subst q; rw [one_same]; omega
    · rw [one_ne q]; have := C.nd b; omega
  · rw [c] at h
    by_cases q : b = p
    · subst q
      by_cases y : f0 b
      · exact .inl y
      · refine .inr ?_
        cases e : H0 b with
        | none => rfl
        | some o => have := C.kp b o y e; rw [hp] at this; cases this
    · rw [one_ne q] at h; exact C.fr b (by omega)
theorem Cfg.newTup {p : Addr} {o : Obj} (C : Cfg K H0 f0 H σ ds (ws ++ vs) (as ++ es)) (hl : as.length = ws.length) (hp : H p = none) (ho : Plain o) : Cfg K H0 f0 (upd H p (.frz o (.tup ws))) σ ds (.ref p :: vs) (.tpD as :: es) := by
  have C' := C.grow (grow_new (o := .frz o (.tup ws)) hp)
  obtain ⟨h1, h2⟩ := RepDs.split hl C'.tm
  have c : ∀ b, cDs b (.tpD as :: es) = cDs b (as ++ es) := fun b => by rw [cDs_append]; rfl
  exact ⟨C'.sl, ⟨_, _, rfl, ⟨p, ws, rfl, ⟨o, ho, upd_same⟩, h1⟩, h2⟩, fun b => by rw [c]; exact C.nd b, fun b h => by rw [c] at h; exact C.fr b h, C'.kp⟩
/-- all plain -/
def dats : List D → Option (List PyData)
  | [] => some []
  | .dat p :: r => match dats r with
    | some ps => some (p :: ps)
    | none => none
  | _ :: _ => none
theorem dats_rep : ∀ {as : List D} {ps : List PyData} {ws : List V}, dats as = some ps → RepDs K H as ws → RepPs K H ps ws
  | [], _, _, e, h => by cases e; exact h
  | .dat p :: r, ps, _, e, ⟨v, q, e2, h1, h2⟩ => by
    unfold dats at e
    split at e
    · rename_i ps' e3
      cases e
      exact ⟨v, q, e2, h1, dats_rep e3 h2⟩
    · cases e
  | .lst _ _ :: _, _, _, e, _ => by cases e
  | .lsD _ _ :: _, _, _, e, _ => by cases e
  | .dk _ _ :: _, _, _, e, _ => by cases e
  | .dt _ _ :: _, _, _, e, _ => by cases e
  | .ins _ _ _ :: _, _, _, e, _ => by cases e
  | .tpD _ :: _, _, _, e, _ => by cases e
  | .bor _ _ _ _ :: _, _, _, e, _ => by cases e
  | .raw _ :: _, _, _, e, _ => by cases e
  | .pr _ _ :: _, _, _, e, _ => by cases e
  | .dkF _ _ _ _ :: _, _, _, e, _ => by cases e
end
/-! ### arguments -/
def aNil : TAP := fun ds Q => Q [] ds
def aCons (ta : TEP) (tr : TAP) : TAP := fun ds Q => ta ds fun x ds1 => tr ds1 fun xs ds2 => Q (x :: xs) ds2
/-- a tuple, a list: of plain data, or of trees -/
def mkT (as : List D) (Q : D → PSt → Prop) (ds : PSt) : Prop := match dats as with
  | some ps => Q (.dat (.tuple ps)) ds
  | none => Q (.tpD as) ds
def mkL (as : List D) (Q : D → PSt → Prop) (ds : PSt) : Prop := match dats as with
  | some ps => ∀ a, Q (.lst a ps) ds
  | none => ∀ a, Q (.lsD a as) ds
def eTup (t : TAP) : TEP := fun ds Q => t ds fun as ds1 => Nat.ble as.length 1000 = true ∧ mkT as Q ds1
def eLst (t : TAP) : TEP := fun ds Q => t ds fun as ds1 => Nat.ble as.length 1000 = true ∧ mkL as Q ds1
abbrev ASem := List D → PSt → (D → PSt → Prop) → Prop
def eCall (s : ASem) (t : TAP) : TEP := fun ds Q => t ds fun as ds1 => s as ds1 Q
def SemA (K : KW) (s : ASem) (r : List V → Hp → VK → Prop) : Prop := ∀ {H0 f0 H σ ds ws vs as es Qd} {Q : VK}, Cfg K H0 f0 H σ ds (ws ++ vs) (as ++ es) → as.length = ws.length → s as ds Qd →
  (∀ v' d H' ds', Cfg K H0 f0 H' σ ds' (v' :: vs) (d :: es) → Qd d ds' → Q v' H') → r ws H Q
theorem le_line {n : Nat} (h : Nat.ble n 1000 = true) : n ≤ sizeLine := Nat.le_trans (Nat.le_of_ble_eq_true h) (by decide)
section
variable {X : Cx} {e : Expr} {l : List Expr} {ta : TEP} {tr t : TAP} {pos p : Pos} {K : KW}
theorem da_nil : PAd X [] aNil := pa_imp pa_nil fun σ H Q ⟨H0, f0, ds, vs, es, Qd, C, q, k⟩ => k [] [] H ds C rfl q
theorem da_cons (ha : PEd X e ta) (hr : PAd X l tr) (hs : starEach (e :: l) X.env = (false, eval e X.env) :: starEach l X.env := by rfl) : PAd X (e :: l) (aCons ta tr) :=
  pa_imp (pa_cons ha hr hs) fun σ H Q ⟨H0, f0, ds, vs, es, Qd, C, q, k⟩ => ⟨H0, f0, ds, vs, es, _, C, q, fun v x H1 ds1 C1 q1 =>
    ⟨H0, f0, ds1, v :: vs, x :: es, _, C1, q1, fun ws as H2 ds2 C2 hl q2 => k (v :: ws) (x :: as) H2 ds2 (C2.mid hl) (by simp [hl]) q2⟩⟩
/-- a tuple made of values: its object known -/
def tTupF (t : TA) : TE := fun σ H Q => t σ H fun xs H1 => xs.length ≤ sizeLine ∧ ∀ p o, H1 p = none → Plain o → Q (.ref p) (upd H1 p (.frz o (.tup xs)))
theorem Inv.ftup {pins : List (Addr × Obj)} {σ : St} {H : Hp} {s : Shared} {xs : List V} {us : List Value} {tk : Nat} (I : Inv X pins σ H s) (r : Vals xs us) (z : xs.length ≤ sizeLine) :
    Inv X pins σ (upd H s.heap.objs.size (.frz { cls := .type "tuple", data := .seq us.toArray } (.tup xs))) { s with heap := s.heap.push { cls := .type "tuple", data := .seq us.toArray }, toks := tk } :=
  I.laid (fun b u e => Heap.get?_push_of_some _ e) (Nat.le_refl _) ⟨Heap.get?_push_size _ rfl, z, us, r, ⟨_, Heap.get?_push_size _ rfl, rfl, _, rfl⟩⟩
theorem pe_tupF {x1} {tv : TA} (h : PA X l tv) : PE X (.Tuple l x1 pos) (tTupF tv) := by
  refine ⟨fun pins s σ H Q I hq => wpAny_Tuple_spliced (thn (h.run pos pins s σ H _ I hq) fun us s1 ⟨xs, H1, I1, r, z, q⟩ => ⟨by rw [← r.length]; exact z, ?_⟩)⟩
  exact ⟨.ref _, _, Inv.ftup (tk := s1.toks) I1 r z, rfl, q _ _ (I1.hok.fresh (Nat.le_refl _)) ⟨rfl, rfl⟩⟩
theorem d_tup {x1} (h : PAd X l t) : PEd X (.Tuple l x1 pos) (eTup t) :=
  pe_imp (pe_tupF h) fun σ H Q ⟨H0, f0, ds, vs, es, Qd, C, q, k⟩ => ⟨H0, f0, ds, vs, es, _, C, q, fun ws as H1 ds1 C1 hl ⟨hz, q1⟩ => by
    refine ⟨by rw [← hl]; exact le_line hz, fun p o hp ho => ?_⟩
    unfold mkT at q1
    split at q1
    · rename_i ps e
      exact k _ _ _ _ ((C1.drop hl).newT hp ho (dats_rep e (C1.args hl))) q1
    · exact k _ _ _ _ (C1.newTup hl hp ho) q1⟩
theorem d_lst (h : PAd X l t) : PEd X (.List l pos) (eLst t) :=
  pe_imp (pe_lst h) fun σ H Q ⟨H0, f0, ds, vs, es, Qd, C, q, k⟩ => ⟨H0, f0, ds, vs, es, _, C, q, fun ws as H1 ds1 C1 hl ⟨hz, q1⟩ => by
    refine ⟨by rw [← hl]; exact le_line hz, fun p hp => ?_⟩
    unfold mkL at q1
    split at q1
    · rename_i ps e
      exact k _ _ _ _ ((C1.drop hl).newL hp (dats_rep e (C1.args hl))) (q1 p)
    · exact k _ _ _ _ (C1.newTrees hl hp) (q1 p)⟩
theorem liftCB {s : ASem} {r : List V → Hp → VK → Prop} (hs : SemA K s r) {σ : St} {H : Hp} {Q : VK} (h : liftE K (eCall s t) σ H Q) : tCB r (liftA K t) σ H Q := by
  obtain ⟨H0, f0, ds, vs, es, Qd, C, q, k⟩ := h
  exact ⟨H0, f0, ds, vs, es, _, C, q, fun ws as H1 ds1 C1 hl q1 => hs C1 hl q1 k⟩
theorem d_callB {x : Str} {id : String} {s : ASem} {r : List V → Hp → VK → Prop} (hc : CallR X (.builtin id) r) (hs : SemA (kw X) s r) (hg : Gl X x) (hm : X.mg x = none) (hv : bootBuiltins x = some (.builtin id)) (ha : PAd X (e :: l) t)
    (hn : x ≠ "__name__" := by decide) (hdb : (x == ("__debug__" : Str)) = false := by decide)
    (he : starEach (e :: l) X.env = (false, eval e X.env) :: starEach l X.env := by rfl) (hpl : (backTo pos (starEach l X.env)).any (·.1) = false := by rfl) : PEd X (.Call (.Name x p) (e :: l) [] pos) (eCall s t) :=
  pe_imp (pe_callB hc hg hm hv ha hn hdb he hpl) fun _ _ _ h => liftCB hs h
theorem d_callTy {x : Str} {T : String} {s : ASem} {r : List V → Hp → VK → Prop} (hc : CallR X (.type T) r) (hs : SemA (kw X) s r) (hg : Gl X x) (hm : X.mg x = none) (hv : bootBuiltins x = some (.type T)) (ha : PAd X (e :: l) t)
    (hn : x ≠ "__name__" := by decide) (hdb : (x == ("__debug__" : Str)) = false := by decide)
    (he : starEach (e :: l) X.env = (false, eval e X.env) :: starEach l X.env := by rfl) (hpl : (backTo pos (starEach l X.env)).any (·.1) = false := by rfl) : PEd X (.Call (.Name x p) (e :: l) [] pos) (eCall s t) :=
  pe_imp (pe_callTy hc hg hm hv ha hn hdb he hpl) fun _ _ _ h => liftCB hs h

/-! ### one argument -/
/-- by the tree that the argument tells -/
def s1 (s : D → PSt → (D → PSt → Prop) → Prop) : ASem := fun as ds Q => ∃ x, as = [x] ∧ s x ds Q
def Sem1 (K : KW) (s : D → PSt → (D → PSt → Prop) → Prop) (r : V → Hp → VK → Prop) : Prop := ∀ {H0 f0 H σ ds v vs x es Qd} {Q : VK}, Cfg K H0 f0 H σ ds (v :: vs) (x :: es) → s x ds Qd →
  (∀ v' d H' ds', Cfg K H0 f0 H' σ ds' (v' :: vs) (d :: es) → Qd d ds' → Q v' H') → r v H Q
theorem sem_1 {s : D → PSt → (D → PSt → Prop) → Prop} {r : V → Hp → VK → Prop} (h : Sem1 K s r) : SemA K (s1 s) (fun ws H Q => ∃ v, ws = [v] ∧ r v H Q) := by
  intro H0 f0 H σ ds ws vs as es Qd Q C hl ⟨x, e, q⟩ k
  subst e
  cases ws with
  | nil => cases hl
  | cons v r =>
    cases r with
    | nil => exact ⟨v, rfl, h C q k⟩
    | cons _ _ => cases hl
def CallR1 (X : Cx) (f : Value) (r : V → Hp → VK → Prop) : Prop := CallR X f (fun ws H Q => ∃ v, ws = [v] ∧ r v H Q)
theorem callR_imp {f : Value} {r r' : List V → Hp → VK → Prop} (h : CallR X f r) (k : ∀ ws H Q, r' ws H Q → r ws H Q) : CallR X f r' :=
  fun pins s σ H xs us Q I rv q => h pins s σ H xs us Q I rv (k _ _ _ q)
def LenT : D → Nat → Prop
  | .dat (.tuple xs), n => n = xs.length
  | .dat (.str s), n => s.length ≤ sizeLine ∧ n = s.length
  | .lst _ xs, n => n = xs.length
  | .lsD _ xs, n => n = xs.length
  | .dat (.list xs), n => n = xs.length
  | _, _ => False
def sLen (x : D) (ds : PSt) (Q : D → PSt → Prop) : Prop := ∃ t n, See ds x t ∧ LenT t n ∧ Q (.dat (.int (n : Nat))) ds
theorem sem_len : Sem1 K sLen (fun v H Q => ∃ n, LenV K.K v H n ∧ Q (.int (n : Nat)) H) := by
  intro H0 f0 H σ ds v vs x es Qd Q C ⟨t, n, s, ht, q⟩ k
  have r := s.rep C C.top
  refine ⟨n, ?_, k _ _ _ _ (C.pop.push (d := .dat (.int _)) rfl fun _ => rfl) q⟩
  cases t with
  | dat p =>
    cases p with
    | tuple xs => obtain ⟨a, zs, e, h1, h2⟩ := r; subst e; exact .inr ⟨zs, h1.sq, Eq.trans ht h2.len⟩
    | str z => obtain rfl := r; exact ht
    | list xs => obtain ⟨a, zs, e, h1, h2⟩ := r; subst e; exact .inl ⟨zs, h1.sq, Eq.trans ht h2.len⟩
    | _ => exact ht.elim
  | lst a xs => obtain ⟨e, zs, h1, h2⟩ := r; subst e; exact .inl ⟨zs, SqL.of h1, Eq.trans ht h2.len⟩
  | lsD a xs => obtain ⟨e, zs, h1, h2⟩ := r; subst e; exact .inl ⟨zs, SqL.of h1, Eq.trans ht h2.len⟩
  | _ => exact ht.elim
theorem call_len1 : CallR1 X (.builtin "len") (fun v H Q => ∃ n, LenV X.K v H n ∧ Q (.int (n : Nat)) H) := callR_imp call_len fun ws H Q ⟨v, e, n, h, q⟩ => ⟨v, n, e, h, q⟩
/-- tuple(x), list(x) -/
def sTupO (x : D) (ds : PSt) (Q : D → PSt → Prop) : Prop := ∃ t xs, See ds x t ∧ ItemsT t xs ∧ Q (.dat (.tuple xs)) ds
def sLstO (x : D) (ds : PSt) (Q : D → PSt → Prop) : Prop := ∃ t xs, See ds x t ∧ ItemsT t xs ∧ ∀ a, Q (.lst a xs) ds
def rTupO (K : PySem.W.Frag) : V → Hp → VK → Prop := fun v H Q => ∃ a zs, v = .ref a ∧ ((SqL K H a zs ∧ ∀ p o, H p = none → Plain o → Q (.ref p) (upd H p (.frz o (.tup zs)))) ∨ (SqT K H a zs ∧ Q (.ref a) H))
theorem sem_tupO : Sem1 K sTupO (rTupO K.K) := by
  intro H0 f0 H σ ds v vs x es Qd Q C ⟨t, xs, s, hi, q⟩ k
  have r := s.rep C C.top
  have C0 := C.pop
  cases t with
  | dat p =>
    cases p with
    | tuple ys =>
      obtain rfl := hi
      obtain ⟨a, zs, e, h1, h2⟩ := id r
      subst e
      exact ⟨a, zs, rfl, .inr ⟨h1.sq, k _ _ _ _ (C0.push (d := .dat (.tuple _)) r fun _ => rfl) q⟩⟩
    | list ys =>
      obtain rfl := hi
      obtain ⟨a, zs, e, h1, h2⟩ := r
      subst e
      exact ⟨_, zs, rfl, .inl ⟨h1.sq, fun p o hp ho => k _ _ _ _ (C0.newT hp ho h2) q⟩⟩
    | _ => exact hi.elim
  | lst a ys =>
    obtain rfl := hi
    obtain ⟨e, zs, h1, h2⟩ := r
    subst e
    exact ⟨_, zs, rfl, .inl ⟨SqL.of h1, fun p o hp ho => k _ _ _ _ (C0.newT hp ho h2) q⟩⟩
  | _ => exact hi.elim
theorem call_tupO : CallR1 X (.type "tuple") (rTupO X.K) := by
  intro pins s σ H ws us Q I rv ⟨v, e, a, zs, ev, h⟩
  subst e ev
  obtain ⟨u, rfl, r⟩ := Vals.one rv
  obtain rfl : u = .ref a := r
  rcases h with ⟨hs, q⟩ | ⟨hs, q⟩
  · obtain ⟨its, rv, pl, hz⟩ := I.list hs
    refine call_tuple_list pl.isList (fun h' hk => ?_) (by rw [List.size_toArray, ← rv.length]; exact hz)
    have I1 : Inv X pins σ H { s with heap := h' } := I.kept (t' := s.toks) hk
    exact ⟨.ref _, _, Inv.ftup (tk := s.toks) I1 rv hz, rfl, q _ _ (I1.hok.fresh (Nat.le_refl _)) ⟨rfl, rfl⟩⟩
  · obtain ⟨its, rv, pl, hz⟩ := I.tuple hs
    exact PyProof.Rows.call_tuple_tup pl ⟨.ref a, H, I, rfl, q⟩
/-- sum, all, any, max, min of one list -/
def sSum (x : D) (ds : PSt) (Q : D → PSt → Prop) : Prop := ∃ (t : D) (ns : List Int), See ds x t ∧ ItemsT t (ns.map .int) ∧ Q (.dat (.int ns.sum)) ds
def sAll (x : D) (ds : PSt) (Q : D → PSt → Prop) : Prop := ∃ (a : Addr) (bs : List Bool), See ds x (.lst a (bs.map .bool)) ∧ Q (.dat (.bool (bs.all id))) ds
def sAny (x : D) (ds : PSt) (Q : D → PSt → Prop) : Prop := ∃ (a : Addr) (bs : List Bool), See ds x (.lst a (bs.map .bool)) ∧ Q (.dat (.bool (bs.any id))) ds
theorem RepPs.bools {H : Hp} : ∀ {bs : List Bool} {vs : List V}, RepPs K H (bs.map PyData.bool) vs → vs = bs.map V.bl
  | [], _, h => h
  | n :: ns, _, ⟨v, r, e, h1, h2⟩ => by subst e; cases h1; rw [RepPs.bools h2]; rfl
theorem sem_all : Sem1 K sAll (fun v H Q => rAll K.K [v] H Q) := by
  intro H0 f0 H σ ds v vs x es Qd Q C ⟨a, ns, s, q⟩ k
  obtain ⟨e, zs, h1, h2⟩ := s.rep C C.top
  subst e
  have := RepPs.bools h2
  subst this
  exact ⟨a, ns, rfl, SqL.of h1, k _ _ _ _ (C.pop.push (d := .dat (.bool _)) rfl fun _ => rfl) q⟩
theorem call_all1 (hc : X.calm = true) : CallR1 X (.builtin "all") (fun v H Q => rAll X.K [v] H Q) := callR_imp (cr_all hc) fun ws H Q ⟨v, e, h⟩ => by rw [e]; exact h
/-- sorted of a list of ints -/
def sSortI (x : D) (ds : PSt) (Q : D → PSt → Prop) : Prop := ∃ (a : Addr) (ns : List Int), See ds x (.lst a (ns.map .int)) ∧ ∀ (b : Addr) (ms : List Int), ms.Perm ns → ms.Pairwise (· ≤ ·) → Q (.lst b (ms.map .int)) ds
/-- abs, int of an int -/
def sIntF (g : Int → Int) (x : D) (ds : PSt) (Q : D → PSt → Prop) : Prop := ∃ i, x = .dat (.int i) ∧ Q (.dat (.int (g i))) ds
theorem sem_intF {g : Int → Int} : Sem1 K (sIntF g) (fun v H Q => ∃ i, v = .int i ∧ Q (.int (g i)) H) := by
  intro H0 f0 H σ ds v vs x es Qd Q C ⟨i, e, q⟩ k
  subst e
  exact ⟨i, C.top, k _ _ _ _ (C.pop.push (d := .dat (.int _)) rfl fun _ => rfl) q⟩
theorem call_abs1 : CallR1 X (.builtin "abs") (fun v H Q => ∃ i, v = .int i ∧ Q (.int (if i < 0 then -i else i)) H) := callR_imp call_abs fun ws H Q ⟨v, e, i, ei, h⟩ => ⟨i, by rw [e, ei], h⟩
theorem call_int11 : CallR1 X (.type "int") (fun v H Q => ∃ i, v = .int i ∧ Q (.int i) H) := callR_imp call_int1 fun ws H Q ⟨v, e, i, ei, h⟩ => .inl ⟨i, by rw [e, ei], h⟩
/-- isinstance -/
def tyP : PyData → String
  | .none => "NoneType"
  | .bool _ => "bool"
  | .int _ => "int"
  | .str _ => "str"
  | .tuple _ => "tuple"
  | .list _ => "list"
  | .dict _ => "dict"
def TyT : D → String → Prop
  | .dat p, T => T = tyP p
  | .lst _ _, T => T = "list"
  | .lsD _ _, T => T = "list"
  | _, _ => False
theorem ty_rep {H : Hp} {t : D} {v : V} {T : String} (r : RepD K H t v) (h : TyT t T) : TyX K.K H v (.type T) := by
  cases t with
  | dat p =>
    cases p with
    | none => obtain rfl := h; obtain rfl := r; exact .base .non
    | bool b => obtain rfl := h; obtain rfl := r; exact .base (.bl b)
    | int b => obtain rfl := h; obtain rfl := r; exact .base (.int b)
    | str b => obtain rfl := h; obtain rfl := r; exact .base (.str b)
    | tuple b => obtain rfl := h; obtain ⟨a, xs, e, ⟨o, _, h1⟩, _⟩ := r; subst e; exact .fTuple h1
    | list b =>
      obtain rfl := h
      obtain ⟨a, xs, e, h1, _⟩ := r
      subst e
      rcases h1 with ⟨o, h1⟩ | ⟨o, its, n, h1, h2, _⟩
      · exact .base (.frz h1)
      · exact .kList h1 h2
    | dict b => exact r.elim
  | lst a xs => obtain rfl := h; obtain ⟨e, zs, h1, _⟩ := r; subst e; exact .base (.lst h1)
  | lsD a xs => obtain rfl := h; obtain ⟨e, zs, h1, _⟩ := r; subst e; exact .base (.lst h1)
  | _ => exact h.elim
def isB (S T : String) : Bool := S == T || (S == "bool" && T == "int")
def sIsi : ASem := fun as ds Q => ∃ x T t S, as = [x, .raw (.ty T)] ∧ See ds x t ∧ TyT t S ∧ kitB S T = some (isB S T) ∧ Q (.dat (.bool (isB S T))) ds
theorem sem_isi : SemA K sIsi (rIsi K.K) := by
  intro H0 f0 H σ ds ws vs as es Qd Q C hl ⟨x, T, t, S, e, s, ht, hk, q⟩ k
  subst e
  obtain ⟨v, w, rfl⟩ : ∃ v w, ws = [v, w] := by
    match ws, hl with
    | [v, w], _ => exact ⟨v, w, rfl⟩
  have C2 : Cfg K H0 f0 H σ ds (v :: w :: vs) (x :: .raw (.ty T) :: es) := C
  obtain rfl : w = .ty T := C2.pop.top
  exact ⟨v, .ty T, .type S, .type T, isB S T, rfl, .ty T, ty_rep (s.rep C2 C2.top) ht, kit_ty hk, k _ _ _ _ (C2.pop.pop.push (d := .dat (.bool _)) rfl fun _ => rfl) q⟩
end
end PD
set_option Elab.async false
set_option linter.all false
set_option maxRecDepth 100000
set_option maxHeartbeats 2000000
/-! PD, fifth part: targets, what is walked, for, comprehensions, the other statements. -/
namespace PD
open PySem L2
/-! ### targets -/
abbrev TGP := D → PSt → (PSt → Prop) → Prop
abbrev TGPs := List D → PSt → (PSt → Prop) → Prop
/-- the slots at js alone are stored -/
def Keeps (js : List Nat) (σ σ' : St) : Prop := ∀ own : List Nat, (∀ j ∈ js, j ∈ own) → wipe σ' own = wipe σ own
def liftG (K : KW) (js : List Nat) (g : TGP) : TG := fun v σ H Q => ∃ H0 f0 ds vs es d Qd, Cfg K H0 f0 H σ ds (v :: vs) (d :: es) ∧ g d ds Qd ∧ ∀ σ' H' ds', Keeps js σ σ' → Cfg K H0 f0 H' σ' ds' vs es → Qd ds' → Q σ' H'
def liftGs (K : KW) (js : List Nat) (g : TGPs) : TGs := fun ws σ H Q => ∃ H0 f0 ds vs es as Qd, Cfg K H0 f0 H σ ds (ws ++ vs) (as ++ es) ∧ as.length = ws.length ∧ g as ds Qd ∧ ∀ σ' H' ds', Keeps js σ σ' → Cfg K H0 f0 H' σ' ds' vs es → Qd ds' → Q σ' H'
def PGd (X : Cx) (tg : Expr) (js : List Nat) (g : TGP) : Prop := PG X tg (liftG (kw X) js g)
def PGsd (X : Cx) (tgs : List Expr) (js : List Nat) (g : TGPs) : Prop := PGs X tgs (liftGs (kw X) js g)
theorem wipe_comm (σ : St) (i : Nat) : ∀ r : List Nat, (wipe σ r).set i none = wipe (σ.set i none) r
  | [] => rfl
  | j :: r => by
    show ((wipe σ r).set j none).set i none = (wipe (σ.set i none) r).set j none
    rw [← wipe_comm σ i r]
    by_cases h : i = j
    · subst h; rfl
    · rw [List.set_comm _ _ h]
theorem wipe_set {σ : St} {i : Nat} {o : Option V} : ∀ {r : List Nat}, i ∈ r → wipe (σ.set i o) r = wipe σ r
  | [], h => by cases h
  | j :: r, h => by
    show (wipe (σ.set i o) r).set j none = (wipe σ r).set j none
    by_cases e : i = j
    · subst e
      rw [wipe_comm, wipe_comm, List.set_set]
    · rw [wipe_set (List.mem_of_ne_of_mem e h)]
theorem Keeps.refl (js : List Nat) (σ : St) : Keeps js σ σ := fun _ _ => rfl
theorem Keeps.trans {js ks : List Nat} {σ σ' σ2 : St} (a : Keeps js σ σ') (b : Keeps ks σ' σ2) : Keeps (js ++ ks) σ σ2 := fun own h =>
  (b own fun j hj => h j (List.mem_append_right _ hj)).trans (a own fun j hj => h j (List.mem_append_left _ hj))
theorem Keeps.set (i : Nat) (σ : St) (o : Option V) : Keeps [i] σ (σ.set i o) := fun own h => wipe_set (h i List.mem_cons_self)
theorem pg_imp {X : Cx} {tg : Expr} {g g' : TG} (h : PG X tg g) (k : ∀ v σ H Q, g' v σ H Q → g v σ H Q) : PG X tg g' := ⟨fun pins s σ H v u Q I r q => h.run pins s σ H v u Q I r (k _ _ _ _ q)⟩
theorem pgs_imp {X : Cx} {tg : List Expr} {g g' : TGs} (h : PGs X tg g) (k : ∀ v σ H Q, g' v σ H Q → g v σ H Q) : PGs X tg g' := ⟨fun pins s σ H v u Q I r q => h.run pins s σ H v u Q I r (k _ _ _ _ q)⟩
def gN (i : Nat) : TGP := fun d ds Q => Q (ds.set i (some d))
def gsNil : TGPs := fun as ds Q => as = [] ∧ Q ds
def gsCons (g : TGP) (r : TGPs) : TGPs := fun as ds Q => ∃ d t, as = d :: t ∧ g d ds fun ds1 => r t ds1 Q
/-- the parts of what is unpacked -/
def parts : D → List D
  | .dat (.tuple ps) => ps.map .dat
  | .tpD xs => xs
  | .pr p q => [.dat p, .dat q]
  | _ => []
def isTup : D → Bool
  | .dat (.tuple _) => true
  | .tpD _ => true
  | .pr _ _ => true
  | _ => false
def gT (n : Nat) (g : TGPs) : TGP := fun d ds Q => isTup d = true ∧ (parts d).length = n ∧ g (parts d) ds Q
section
variable {X : Cx} {K : KW} {pos : Pos}
theorem dg_name {i : Nat} {x : Str} (hN : X.N.Nodup) (hi : X.N[i]? = some x) (hx : Loc X.env.scope x) (hf : X.fn x = true ∨ X.env.scope.names.lookup x = some .local := by first | exact .inl rfl | exact .inr rfl | assumption) : PGd X (.Name x pos) [i] (gN i) :=
  pg_imp (pg_name hN hi hx hf) fun v σ H Q ⟨H0, f0, ds, vs, es, d, Qd, C, q, k⟩ => k _ _ _ (Keeps.set i σ _) (C.set i) q
theorem dgs_nil : PGsd X [] [] gsNil := pgs_imp pgs_nil fun ws σ H Q ⟨H0, f0, ds, vs, es, as, Qd, C, hl, ⟨e, q⟩, k⟩ => by
  subst e
  cases ws with
  | nil => exact ⟨rfl, k _ _ _ (Keeps.refl _ _) C q⟩
  | cons _ _ => cases hl
theorem dgs_cons {e : Expr} {l : List Expr} {js ks : List Nat} {g : TGP} {r : TGPs} (h1 : PGd X e js g) (h2 : PGsd X l ks r)
    (hs : (assignEach (e :: l) X.env).map (·.2) = assign e X.env :: (assignEach l X.env).map (·.2) := by rfl) : PGsd X (e :: l) (js ++ ks) (gsCons g r) :=
  pgs_imp (pgs_cons h1 h2 hs) fun ws σ H Q ⟨H0, f0, ds, vs, es, as, Qd, C, hl, ⟨d, t, e, q⟩, k⟩ => by
    subst e
    cases ws with
    | nil => cases hl
    | cons v ws =>
      exact ⟨v, ws, rfl, H0, f0, ds, ws ++ vs, t ++ es, d, _, C, q, fun σ' H' ds' kp C' q' => ⟨H0, f0, ds', vs, es, t, _, C', by simpa using hl, q', fun σ2 H2 ds2 kp2 => k σ2 H2 ds2 (kp.trans kp2)⟩⟩
theorem RepDs.of_dats {H : Hp} : ∀ {ps : List PyData} {vs : List V}, RepPs K H ps vs → RepDs K H (ps.map D.dat) vs
  | [], _, h => h
  | p :: ps, _, ⟨v, r, e, h1, h2⟩ => ⟨v, r, e, h1, RepDs.of_dats h2⟩
theorem cDs_dats (b : Addr) : ∀ ps : List PyData, cDs b (ps.map D.dat) = 0
  | [] => rfl
  | p :: ps => by show 0 + cDs b (ps.map D.dat) = 0; rw [cDs_dats b ps]
theorem Cfg.unpack {H0 H : Hp} {f0 : Addr → Prop} {σ : St} {ds : PSt} {vs : List V} {es : List D} {v : V} {d : D} (C : Cfg K H0 f0 H σ ds (v :: vs) (d :: es)) (h : isTup d = true) :
    ∃ a ws, v = .ref a ∧ SqT K.K H a ws ∧ (parts d).length = ws.length ∧ Cfg K H0 f0 H σ ds (ws ++ vs) (parts d ++ es) := by
  have C0 := C.pop
  have go : ∀ (ws : List V), RepDs K H (parts d) ws → (∀ b, cDs b (parts d) = cD b d) → Cfg K H0 f0 H σ ds (ws ++ vs) (parts d ++ es) := fun ws r c =>
    ⟨C.sl, r.append C0.tm, fun b => by have h1 : cS b ds + (cD b d + cDs b es) ≤ 1 := C.nd b; rw [cDs_append, c]; omega,
      fun b h => C.fr b (by rw [cDs_append, c] at h; show 1 ≤ cS b ds + (cD b d + cDs b es); omega), C.kp⟩
  cases d with
  | dat p =>
    cases p with
    | tuple ps =>
      obtain ⟨a, ws, e, h1, h2⟩ := C.top
      exact ⟨a, ws, e, h1.sq, by show (ps.map D.dat).length = _; rw [List.length_map]; exact h2.len, go ws (RepDs.of_dats h2) (fun b => cDs_dats b ps)⟩
    | _ => cases h
  | tpD xs =>
    obtain ⟨a, ws, e, h1, h2⟩ := C.top
    exact ⟨a, ws, e, h1.sq, h2.len, go ws h2 (fun b => rfl)⟩
  | pr p q =>
    obtain ⟨a, x, y, e, h0, h1, h2⟩ := C.top
    exact ⟨a, [x, y], e, SqT.of h0, rfl, go [x, y] ⟨x, [y], rfl, h1, y, [], rfl, h2, rfl⟩ (fun b => rfl)⟩
  | _ => cases h
theorem dg_tup {l : List Expr} {k : Nat} {js : List Nat} {g : TGPs} {n : Nat} (hc : X.calm = true) (h : PGsd X l js g)
    (hn : (assignEach l X.env).length = n := by rfl) (hst : (assignEach l X.env).findIdx? (·.1) = none := by rfl) : PGd X (.Tuple l k pos) js (gT n g) :=
  pg_imp (pg_tup hc h hn hst) fun v σ H Q ⟨H0, f0, ds, vs, es, d, Qd, C, ⟨ht, hl, q⟩, k⟩ => by
    obtain ⟨a, ws, e, h1, h2, C'⟩ := C.unpack ht
    exact ⟨a, ws, e, h1, by rw [← h2, hl], H0, f0, ds, vs, es, _, _, C', h2, q, k⟩
end

/-! ### what is walked -/
structure WalkD (K : KW) (H0 : Hp) (f0 : Addr → Prop) (J : It) (ws : List V) (as : List D) (items : List D) (ok : PSt → Prop) : Prop where
  go : ∀ i σ H ds vs es, i < items.length → Cfg K H0 f0 H σ ds (ws ++ vs) (as ++ es) → ok ds → J.go i H
  stop : ∀ σ H ds vs es, Cfg K H0 f0 H σ ds (ws ++ vs) (as ++ es) → ok ds → J.stop items.length H
  yld : ∀ i σ H ds vs es x H' p, items[i]? = some p → Cfg K H0 f0 H σ ds (ws ++ vs) (as ++ es) → ok ds → J.yld i H x H' → Cfg K H0 f0 H' σ ds (x :: (ws ++ vs)) (p :: (as ++ es))
abbrev TIP := PSt → (List D → (PSt → Prop) → PSt → Prop) → Prop
def liftI (K : KW) (t : TIP) : TI := fun σ H R => ∃ H0 f0 ds vs es Rd, Cfg K H0 f0 H σ ds vs es ∧ t ds Rd ∧
  ∀ J H' ds' ws as items ok, Cfg K H0 f0 H' σ ds' (ws ++ vs) (as ++ es) → as.length = ws.length → WalkD K H0 f0 J ws as items ok → Rd items ok ds' → R J H'
def PId (X : Cx) (tg e : Expr) (t : TIP) : Prop := PI X tg e (liftI (kw X) t)
theorem pi_imp {X : Cx} {tg e : Expr} {t u : TI} (h : PI X tg e t) (k : ∀ σ H R, u σ H R → t σ H R) : PI X tg e u := ⟨fun pins s σ H R I q => h.run pins s σ H R I (k _ _ _ q)⟩
/-- a list or a tuple, by its value -/
def iSq (K : PySem.W.Frag) (tl : TE) : TI := fun σ H R => tl σ H fun x H1 => ∃ a, x = .ref a ∧ ((∃ xs, SqL K H1 a xs ∧ R (Itl K a) H1) ∨ (∃ xs, SqT K H1 a xs ∧ R (Itt K a) H1))
theorem newIter {X : Cx} {pins : List (Addr × Obj)} {σ : St} {H : Hp} {s : Shared} {tg : Expr} {R : It → Hp → Prop} {J : It} {tn : Nat → Heap → Prop} {E : Value → Shared → Prop} (I : Inv X pins σ H s) (o : Obj)
    (T : Turn X.prog X.w X.K tg J [s.heap.objs.size] s.heap.objs.size tn) (h0 : tn 0 (s.heap.push o)) (q : R J H) : PIE X pins σ tg R (.ref s.heap.objs.size) { s with heap := s.heap.push o } :=
  ⟨s.heap.objs.size, [s.heap.objs.size], tn, J, H, rfl, I.kept (t' := s.toks) (fun b u e => Heap.get?_push_of_some _ e), T, h0, fun b hb => by
    obtain rfl : b = s.heap.objs.size := by simpa using hb
    exact I.fpOk (Nat.le_refl _) (I.hok.fresh (Nat.le_refl _)), q⟩
theorem pi_sq {X : Cx} {tg l : Expr} {tl : TE} (hl : PE X l tl) : PI X tg l (iSq X.K tl) := by
  refine ⟨fun pins s σ H R I h => thn (hl.run pins s σ H _ I h) fun v s1 ⟨x, H1, I1, r1, a, e, q⟩ => ?_⟩
  subst e
  obtain rfl : v = .ref a := r1
  rcases q with ⟨xs, hq, q⟩ | ⟨xs, hq, q⟩
  · obtain ⟨its, rv, p, hz⟩ := I1.list hq
    exact wpAny_pyIter_list p.isList (newIter (E := X.xe) I1 _ (turn_list a _) ⟨_, Heap.get?_push_size _ rfl, rfl, rfl⟩ q)
  · obtain ⟨its, rv, p, hz⟩ := I1.tuple hq
    have p' : s1.heap.IsTuple a its.toArray := p
    exact wpAny_pyIter_tuple p' (newIter (E := X.xe) I1 _ (turn_tuple a _) ⟨_, Heap.get?_push_size _ rfl, rfl, rfl⟩ q)
def iSeq (te : TEP) : TIP := fun ds R => te ds fun x ds1 => ∃ t xs, See ds1 x t ∧ ItemsT t xs ∧ R (xs.map .dat) (fun ds2 => See ds2 x t) ds1
section
variable {X : Cx} {K : KW} {e a b : Expr} {te ta tb : TEP} {tg : Expr} {pos p : Pos}
theorem walk_items_of {H0 : Hp} {f0 : Addr → Prop} {x t : D} {v : V} {xs : List PyData} {J : It} {c : Addr}
    (hs : ∀ H, RepD K H t v → ∃ zs, v = .ref c ∧ RepPs K H xs zs ∧ Walk J zs.length (fun H' => H' = H) (YAt zs)) : WalkD K H0 f0 J [v] [x] (xs.map .dat) (fun ds => See ds x t) := by
  refine ⟨fun i σ H ds vs es hi C ok => ?_, fun σ H ds vs es C ok => ?_, fun i σ H ds vs es y H' d hd C ok hy => ?_⟩
  · obtain ⟨zs, _, r, w⟩ := hs H (ok.rep C C.top)
    exact w.goes i H (by rw [← r.len]; simpa using hi) rfl
  · obtain ⟨zs, _, r, w⟩ := hs H (ok.rep C C.top)
    rw [List.length_map, r.len]
    exact w.stops H rfl
  · obtain ⟨zs, _, r, w⟩ := hs H (ok.rep C C.top)
    rw [List.getElem?_map] at hd
    cases e : xs[i]? with
    | none => rw [e] at hd; cases hd
    | some q =>
      rw [e] at hd
      cases hd
      obtain ⟨z, h1, h2⟩ := r.get e
      obtain ⟨e1, e2⟩ := w.yields i H y H' (List.getElem?_eq_some_iff.mp h1).1 rfl hy
      subst e1
      rw [h1] at e2
      cases e2
      exact C.push h2 fun _ => rfl
theorem di_seq (h : PEd X e te) : PId X tg e (iSeq te) :=
  pi_imp (pi_sq h) fun σ H R ⟨H0, f0, ds, vs, es, Rd, C, q, k⟩ => ⟨H0, f0, ds, vs, es, _, C, q, fun v x H1 ds1 C1 ⟨t, xs, s, hi, q1⟩ => by
    have r := s.rep C1 C1.top
    cases t with
    | lst a ys =>
      obtain rfl := hi
      obtain ⟨e, zs, h1, _⟩ := r
      subst e
      refine ⟨a, rfl, .inl ⟨zs, SqL.of h1, k (Itl X.K a) H1 ds1 [.ref a] [x] _ _ C1 rfl ?_ q1⟩⟩
      refine walk_items_of (c := a) (t := .lst a xs) fun H2 r2 => ?_
      obtain ⟨e2, zs2, h3, h4⟩ := r2
      exact ⟨zs2, rfl, h4, walk_list.mono (fun H' hh => by rw [hh]; exact SqL.of h3) fun _ _ _ _ _ _ y => y⟩
    | dat p =>
      cases p with
      | list ys =>
        obtain rfl := hi
        obtain ⟨a, zs, e, h1, _⟩ := r
        subst e
        refine ⟨a, rfl, .inl ⟨zs, h1.sq, k (Itl X.K a) H1 ds1 [.ref a] [x] _ _ C1 rfl ?_ q1⟩⟩
        refine walk_items_of (c := a) (t := .dat (.list xs)) fun H2 r2 => ?_
        obtain ⟨a2, zs2, e2, h3, h4⟩ := r2
        cases e2
        exact ⟨zs2, rfl, h4, walk_list.mono (fun H' hh => by rw [hh]; exact h3.sq) fun _ _ _ _ _ _ y => y⟩
      | tuple ys =>
        obtain rfl := hi
        obtain ⟨a, zs, e, h1, _⟩ := r
        subst e
        refine ⟨a, rfl, .inr ⟨zs, h1.sq, k (Itt X.K a) H1 ds1 [.ref a] [x] _ _ C1 rfl ?_ q1⟩⟩
        refine walk_items_of (c := a) (t := .dat (.tuple xs)) fun H2 r2 => ?_
        obtain ⟨a2, zs2, e2, h3, h4⟩ := r2
        cases e2
        exact ⟨zs2, rfl, h4, walk_tup.mono (fun H' hh => by rw [hh]; exact h3.sq) fun _ _ _ _ _ _ y => y⟩
      | _ => exact hi.elim
    | _ => exact hi.elim⟩
/-- lo, lo + 1, .. -/
def upto (lo : Int) (n : Nat) : List Int := (List.range n).map fun i => lo + (i : Nat)
theorem upto_len (lo : Int) (n : Nat) : (upto lo n).length = n := by unfold upto; rw [List.length_map, List.length_range]
theorem upto_get {lo : Int} {n i : Nat} {d : D} (h : ((upto lo n).map fun j => D.dat (.int j))[i]? = some d) : i < n ∧ d = .dat (.int (lo + (i : Nat))) := by
  unfold upto at h
  rw [List.getElem?_map, List.getElem?_map] at h
  by_cases hi : i < n
  · rw [List.getElem?_range hi] at h
    exact ⟨hi, (Option.some.inj h).symm⟩
  · rw [List.getElem?_eq_none (by rw [List.length_range]; omega)] at h
    cases h
theorem walk_upto {H0 : Hp} {f0 : Addr → Prop} {lo : Int} {n : Nat} : WalkD K H0 f0 (Itr lo n) [] [] ((upto lo n).map fun j => .dat (.int j)) (fun _ => True) := by
  refine ⟨fun i σ H ds vs es hi C ok => ?_, fun σ H ds vs es C ok => ?_, fun i σ H ds vs es y H' d hd C ok hy => ?_⟩
  · rw [List.length_map, upto_len] at hi; exact hi
  · rw [List.length_map, upto_len]; exact Nat.le_refl _
  · obtain ⟨hi, rfl⟩ := upto_get hd
    obtain ⟨e1, e2⟩ := hy
    subst e1 e2
    exact C.push (d := .dat (.int _)) rfl fun _ => rfl
def iRg1 (t : TAP) : TIP := fun ds R => t ds fun as ds1 => ∃ n : Int, as = [.dat (.int n)] ∧ (n < 2 ^ 62 ∧ -(2 ^ 62) ≤ n) ∧ R ((upto 0 n.toNat).map fun j => .dat (.int j)) (fun _ => True) ds1
def iRg2 (t : TAP) : TIP := fun ds R => t ds fun as ds1 => ∃ m n : Int, as = [.dat (.int m), .dat (.int n)] ∧ (-(2 ^ 62) ≤ m ∧ m < 2 ^ 62 ∧ -(2 ^ 62) ≤ n ∧ n < 2 ^ 62) ∧ R ((upto m (n - m).toNat).map fun j => .dat (.int j)) (fun _ => True) ds1
theorem di_rg1 {t : TAP} (hg : Gl X "range") (hm : X.mg "range" = none) (ha : PAd X [a] t) (hs : starEach [a] X.env = [(false, eval a X.env)] := by rfl) : PId X tg (.Call (.Name "range" p) [a] [] pos) (iRg1 t) :=
  pi_imp (pi_range1 hg hm ha hs) fun σ H R ⟨H0, f0, ds, vs, es, Rd, C, q, k⟩ => ⟨H0, f0, ds, vs, es, _, C, q, fun ws as H1 ds1 C1 hl ⟨n, e, hb, q1⟩ => by
    subst e
    match ws, hl with
    | [w], _ =>
      obtain rfl : w = .int n := C1.top
      exact ⟨n, rfl, hb.2, hb.1, k _ _ _ [] [] _ _ (C1.drop (ws := [_]) (as := [_]) rfl) rfl walk_upto q1⟩⟩
end
/-! ### for, while -/
def tForD (ti : TIP) (g : TGP) (tb : TSP) : TSP := fun E ds => ti ds fun items ok ds1 => ∃ Iv : Nat → PSt → Prop, Iv 0 ds1 ∧ (∀ i ds, i ≤ items.length → Iv i ds → ok ds) ∧
  (∀ i p ds, items[i]? = some p → Iv i ds → g p ds fun ds2 => tb ⟨Iv (i + 1), E.rt, E.nx, Iv (i + 1)⟩ ds2) ∧ ∀ ds, Iv items.length ds → E.nx ds
def tWhileD (c : TTP) (tb : TSP) : TSP := fun E ds => ∃ Iv : Nat → PSt → Prop, (∃ m, Iv m ds) ∧ ∀ m ds, Iv m ds → c ds fun b ds1 => if b = true then tb ⟨fun ds' => ∃ m', m' < m ∧ Iv m' ds', E.rt, E.nx, fun ds' => ∃ m', m' < m ∧ Iv m' ds'⟩ ds1 else E.nx ds1
section
variable {X : Cx} {K : KW} {tg iter c : Expr} {body rest : List Stmt} {ti : TIP} {g : TGP} {js : List Nat} {tb tu : TSP} {tc : TTP} {pos : Pos}
theorem LS.sub {K : KW} {H0 : Hp} {f0 : Addr → Prop} {vs ws : List V} {es as : List D} {E : PEnds} {D' : Ends} (L : LS K H0 f0 vs es E D') (hl : as.length = ws.length) : LS K H0 f0 (ws ++ vs) (as ++ es) E D' where
  nx := fun σ H ds C q => L.nx σ H ds (C.drop hl) q
  bk := fun σ H ds C q => L.bk σ H ds (C.drop hl) q
  ct := fun σ H ds C q => L.ct σ H ds (C.drop hl) q
  rt := fun σ H ds v d C q => L.rt σ H ds v d (by
    have C' : Cfg K H0 f0 H σ ds ((v :: ws) ++ vs) ((d :: as) ++ es) := C
    obtain ⟨h1, h2⟩ := RepDs.split (as := d :: as) (ws := v :: ws) (by simp [hl]) C'.tm
    obtain ⟨w, r, e, h3, _⟩ := h1
    cases e
    exact ⟨C'.sl, ⟨_, _, rfl, h3, h2⟩, fun b => by have h4 := C'.nd b; rw [cDs_append] at h4; have h5 : cS b ds + ((cD b d + cDs b as) + cDs b es) ≤ 1 := h4; show cS b ds + (cD b d + cDs b es) ≤ 1; omega,
      fun b h => C'.fr b (by rw [cDs_append]; have h5 : 1 ≤ cS b ds + (cD b d + cDs b es) := h; show 1 ≤ cS b ds + ((cD b d + cDs b as) + cDs b es); omega), C'.kp⟩) q
theorem ds_for (hp : PassesOwn (model X.prog X.w) X.A X.env X.xe) (hc : X.calm = true) (hi : PId X tg iter ti) (hg : PGd X tg js g) (hb : PSsd X body tb) (hs : ∀ x, foldedSetIterable iter X.env x = pure x := by intro _; rfl) :
    PSd X (.For tg iter body [] pos) (tForD ti g tb) :=
  ps_imp (ps_for hp hc hi hg hb hs) fun D' σ H ⟨H0, f0, ds, vs, es, E, C, q, L⟩ => ⟨H0, f0, ds, vs, es, _, C, q, fun J H1 ds1 ws as items ok C1 hl W ⟨Iv, h0, hok, hstep, hend⟩ => by
    have L' := L.sub hl
    refine ⟨fun i m σ H => m = items.length - i ∧ i ≤ items.length ∧ ∃ ds, Cfg (kw X) H0 f0 H σ ds (ws ++ vs) (as ++ es) ∧ Iv i ds, ⟨_, rfl, Nat.zero_le _, ds1, C1, h0⟩, ?_⟩
    rintro i m σ2 H2 ⟨rfl, hle, ds2, C2, iv⟩
    have o := hok i ds2 hle iv
    by_cases hlt : i < items.length
    · refine .inr ⟨W.go i σ2 H2 ds2 vs es hlt C2 o, fun σ' H' => ∃ ds', Cfg (kw X) H0 f0 H' σ' ds' (ws ++ vs) (as ++ es) ∧ Iv (i + 1) ds', fun σ' H' ⟨ds', C', iv'⟩ => ⟨_, by omega, rfl, hlt, ds', C', iv'⟩, fun x H' y => ?_⟩
      obtain ⟨p, hpp⟩ : ∃ p, items[i]? = some p := ⟨items[i], by simp [hlt]⟩
      exact ⟨H0, f0, ds2, _, _, p, _, W.yld i σ2 H2 ds2 vs es x H' p hpp C2 o y, hstep i p ds2 hpp iv, fun σ3 H3 ds3 _ C3 q3 =>
        ⟨H0, f0, ds3, _, _, _, C3, q3, ⟨fun _ _ ds' C' iv' => ⟨ds', C', iv'⟩, fun σ H ds C q => L'.nx σ H ds C q, fun _ _ ds' C' iv' => ⟨ds', C', iv'⟩, L'.rt⟩⟩⟩
    · obtain rfl : i = items.length := by omega
      exact .inl ⟨W.stop σ2 H2 ds2 vs es C2 o, L'.nx σ2 H2 ds2 C2 (hend ds2 iv)⟩⟩
theorem ds_while (hp : PassesOwn (model X.prog X.w) X.A X.env X.xe) (hc : PTd X c tc) (hb : PSsd X body tb) : PSd X (.While c body [] pos) (tWhileD tc tb) :=
  ps_imp (ps_while hp hc hb) fun D' σ H ⟨H0, f0, ds, vs, es, E, C, ⟨Iv, ⟨m0, h0⟩, hstep⟩, L⟩ => by
    refine ⟨fun m σ H => ∃ ds, Cfg (kw X) H0 f0 H σ ds vs es ∧ Iv m ds, ⟨m0, ds, C, h0⟩, ?_⟩
    rintro m σ2 H2 ⟨ds2, C2, iv⟩
    refine ⟨H0, f0, ds2, vs, es, _, C2, hstep m ds2 iv, fun b H3 ds3 C3 q3 => ?_⟩
    cases b with
    | true => exact ⟨_, fun σ' H' n => n, H0, f0, ds3, vs, es, _, C3, q3, ⟨fun σ' H' ds' C' ⟨m', hm, iv'⟩ => ⟨m', hm, ds', C', iv'⟩, fun σ H ds C q => L.nx σ H ds C q, fun σ' H' ds' C' ⟨m', hm, iv'⟩ => ⟨m', hm, ds', C', iv'⟩, L.rt⟩⟩
    | false => exact L.nx σ2 H3 ds3 C3 q3

/-! ### small statements, blocks -/
variable {st : Stmt} {t u : TSP} {e : Expr} {te : TEP}
def tNextD : TSP := fun E ds => E.nx ds
def tSeqD (t u : TSP) : TSP := fun E ds => t ⟨fun ds1 => u E ds1, E.rt, E.bk, E.ct⟩ ds
theorem dss_nil : PSsd X [] tNextD := pss_imp pss_nil fun D' σ H ⟨H0, f0, ds, vs, es, E, C, q, L⟩ => L.nx σ H ds C q
theorem dss_cons (h1 : PSd X st t) (h2 : PSsd X rest u) : PSsd X (st :: rest) (tSeqD t u) :=
  pss_imp (pss_cons h1 h2) fun D' σ H ⟨H0, f0, ds, vs, es, E, C, q, L⟩ => ⟨H0, f0, ds, vs, es, _, C, q, ⟨fun σ1 H1 ds1 C1 q1 => ⟨H0, f0, ds1, vs, es, E, C1, q1, L⟩, L.bk, L.ct, L.rt⟩⟩
theorem dss_one (h1 : PSd X st t) : PSsd X [st] t := pss_one h1
def tBreakD : TSP := fun E ds => E.bk ds
def tContD : TSP := fun E ds => E.ct ds
theorem ds_cont : PSd X (.Continue pos) tContD := ps_imp ps_continue fun D' σ H ⟨H0, f0, ds, vs, es, E, C, q, L⟩ => L.ct σ H ds C q
def tDropD (te : TEP) : TSP := fun E ds => te ds fun _ ds1 => E.nx ds1
theorem ds_expr (he : PEd X e te) (hs : swapsWith e none pos.line X.env = pure false := by rfl) : PSd X (.Expr e pos) (tDropD te) :=
  ps_imp (ps_expr he hs) fun D' σ H ⟨H0, f0, ds, vs, es, E, C, q, L⟩ => ⟨H0, f0, ds, vs, es, _, C, q, fun v d H1 ds1 C1 q1 => L.nx σ H1 ds1 C1.pop q1⟩
def tRetD (te : TEP) : TSP := fun E ds => te ds fun d ds1 => E.rt d ds1
theorem ds_ret (he : PEd X e te) : PSd X (.Return (some e) pos) (tRetD te) :=
  ps_imp (ps_ret he) fun D' σ H ⟨H0, f0, ds, vs, es, E, C, q, L⟩ => ⟨H0, f0, ds, vs, es, _, C, q, fun v d H1 ds1 C1 q1 => L.rt σ H1 ds1 v d C1 q1⟩
/-- the tree in a slot is handed over -/
def eOut (i : Nat) : TEP := fun ds Q => ∃ d, ds[i]? = some (some d) ∧ Q d (ds.set i none)
def tIfD (c : TTP) (t u : TSP) : TSP := fun E ds => c ds fun b ds1 => if b = true then t E ds1 else u E ds1
theorem ds_if {a b : List Stmt} (hc : PTd X c tc) (ha : PSsd X a t) (hb : PSsd X b u) : PSd X (.If c a b pos) (tIfD tc t u) :=
  ps_imp (ps_if hc ha hb) fun D' σ H ⟨H0, f0, ds, vs, es, E, C, q, L⟩ => ⟨H0, f0, ds, vs, es, _, C, q, fun b H1 ds1 C1 q1 => by
    cases b with
    | true => exact ⟨H0, f0, ds1, vs, es, E, C1, q1, L⟩
    | false => exact ⟨H0, f0, ds1, vs, es, E, C1, q1, L⟩⟩
def tNeverD : TSP := fun _ _ => False
theorem dss_never {l : List Stmt} : PSsd X l tNeverD := pss_imp pss_never fun D' σ H ⟨H0, f0, ds, vs, es, E, C, q, L⟩ => q
def tAsgD (te : TEP) (g : TGP) : TSP := fun E ds => te ds fun d ds1 => g d ds1 E.nx
theorem ds_set {i : Nat} {x : Str} {pos' : Pos} (hN : X.N.Nodup) (hi : X.N[i]? = some x) (hx : Loc X.env.scope x) (he : PEd X e te) (hs : swapsWith e (some (.Name x pos')) pos.line X.env = pure false := by rfl) (hf : X.fn x = true ∨ X.env.scope.names.lookup x = some .local := by first | exact .inl rfl | exact .inr rfl | assumption) :
    PSd X (.Assign [.Name x pos'] e pos) (tAsgD te (gN i)) :=
  ps_imp (ps_set hN hi hx he hs hf) fun D' σ H ⟨H0, f0, ds, vs, es, E, C, q, L⟩ => ⟨H0, f0, ds, vs, es, _, C, q, fun v d H1 ds1 C1 q1 => L.nx _ H1 _ (C1.set i) q1⟩
theorem ds_asg (he : PEd X e te) (hg : PGd X tg js g) (hs : swapsWithSole [tg] e pos.line X.env = pure false := by rfl) (hw : swappedStores [tg] e X.env = pure none := by rfl)
    (h1 : (assignEach [tg] X.env).map (·.2) = [assign tg X.env] := by rfl) : PSd X (.Assign [tg] e pos) (tAsgD te g) :=
  ps_imp (ps_asg he hg hs hw h1) fun D' σ H ⟨H0, f0, ds, vs, es, E, C, q, L⟩ => ⟨H0, f0, ds, vs, es, _, C, q, fun v d H1 ds1 C1 q1 => ⟨H0, f0, ds1, vs, es, d, _, C1, q1, fun σ2 H2 ds2 _ C2 q2 => L.nx σ2 H2 ds2 C2 q2⟩⟩
/-- a, b = x, y of plain local names -/
def tParD (i j : Nat) (t : TAP) : TSP := fun E ds => t ds fun as ds1 => ∃ a b, as = [a, b] ∧ E.nx ((ds1.set j (some b)).set i (some a))
theorem ds_par {i j : Nat} {x y : Str} {a b : Expr} {ta : TAP} {px py pt : Pos} {kt k2 pt2} (hc : X.calm = true) (hN : X.N.Nodup) (hi : X.N[i]? = some x) (hj : X.N[j]? = some y) (hij : i ≠ j)
    (hx : X.env.scope.names.lookup x = some .local) (hy : X.env.scope.names.lookup y = some .local) (ha : PAd X [a, b] ta)
    (hw : swappedStores [.Tuple [.Name x px, .Name y py] kt pt] (.Tuple [a, b] k2 pt2) X.env = pure (some [x, y]))
    (hs : swapsWithSole [.Tuple [.Name x px, .Name y py] kt pt] (.Tuple [a, b] k2 pt2) pos.line X.env = pure false := by rfl) :
    PSd X (.Assign [.Tuple [.Name x px, .Name y py] kt pt] (.Tuple [a, b] k2 pt2) pos) (tParD i j ta) :=
  ps_imp (ps_par hc hN hi hj hij hx hy ha hw hs) fun D' σ H ⟨H0, f0, ds, vs, es, E, C, q, L⟩ => ⟨H0, f0, ds, vs, es, _, C, q, fun ws as H1 ds1 C1 hl ⟨d1, d2, e, q1⟩ => by
    subst e
    match ws, hl with
    | [w, u], _ =>
      refine ⟨w, u, rfl, L.nx _ H1 _ ?_ q1⟩
      have C2 : Cfg (kw X) H0 f0 H1 σ ds1 ([w] ++ u :: vs) ([d1] ++ d2 :: es) := C1
      have C3 : Cfg (kw X) H0 f0 H1 (σ.set j (some u)) (ds1.set j (some d2)) (w :: vs) (d1 :: es) := (C2.mid rfl).set j
      have C4 := C3.set i
      rw [List.set_comm _ _ (Ne.symm hij)] at C4
      exact C4⟩
end
end PD
set_option Elab.async false
set_option linter.all false
set_option maxRecDepth 100000
set_option maxHeartbeats 2000000
/-! PD, sixth part: a def's promise over pure data; its call. -/
namespace PD
open PySem L2
/-- a def's promise: from the arguments' trees; what is wanted of its value and of the arguments behind it -/
abbrev SpD := List D → (D → List D → Prop) → Prop
def liftSp (K : KW) (sp : SpD) : Sp := fun vs H Q _ => ∃ ds Qd, RepDs K H ds vs ∧ (∀ a, cDs a ds ≤ 1) ∧ sp ds Qd ∧
  ∀ v d H' ds', RepD K H' d v → RepDs K H' ds' vs → (∀ a, cD a d + cDs a ds' ≤ 1) → (∀ a, 1 ≤ cD a d + cDs a ds' → 1 ≤ cDs a ds ∨ H a = none) → (∀ a o, cDs a ds = 0 → H a = some o → H' a = some o) → Qd d ds' → Q v H'
/-- what an argument is behind the call: as it was, or what its slot holds -/
def ArgBack : List D → PSt → List D → Prop
  | [], _, ds' => ds' = []
  | _ :: _, [], _ => False
  | d :: r, o :: s, ds' => ∃ d' q, ds' = d' :: q ∧ (((∀ a, cD a d = 0) ∧ d' = d) ∨ (o = some d' ∧ ∃ a, root d = some a ∧ root d' = some a)) ∧ ArgBack r s q
/-- a body's ends, from the promise -/
def fnEnds (ds : List D) (Q : D → List D → Prop) : PEnds := ⟨fun s => ∃ ds', ArgBack ds s ds' ∧ Q (.dat .none) ds', fun d s => ∃ ds', ArgBack ds s ds' ∧ Q d ds', fun _ => False, fun _ => False⟩
def startD (n : Nat) (ds : List D) : PSt := ds.map some ++ List.replicate (n - ds.length) none
theorem ArgBack.same : ∀ {ds : List D} {s : PSt}, (∀ d ∈ ds, ∀ a, cD a d = 0) → ds.length ≤ s.length → ArgBack ds s ds
  | [], _, _, _ => rfl
  | d :: r, [], _, h => by simp at h
  | d :: r, o :: s, c, h => ⟨d, r, rfl, .inl ⟨c d List.mem_cons_self, rfl⟩, ArgBack.same (fun x hx => c x (List.mem_cons_of_mem _ hx)) (by simpa using h)⟩
section
variable {K : KW} {H H' H0 : Hp} {f0 : Addr → Prop} {σ : St} {ds ds' : PSt} {vs ws : List V} {es as : List D} {v w : V} {d t x : D} {a : Addr}
theorem ArgBack.rep (k : ∀ b o, H b = some o → Imm o → H' b = some o) : ∀ {ds ds' : List D} {s : PSt} {σ σr : St} {vs : List V}, RepDs K H ds vs → ArgBack ds s ds' → RepS K H' s σ → σ.length = s.length → (∀ a, cS a s ≤ 1) →
    RepDs K H' ds' vs ∧ ∀ a, cDs a ds' ≤ cS a s
  | [], _, s, _, _, _, h, e, _, _, _ => by subst e; exact ⟨h, fun a => Nat.zero_le _⟩
  | d :: r, _, [], _, _, _, _, e, _, _, _ => e.elim
  | d :: r, _, o :: s, _, σr, _, ⟨v, q, e1, h1, h2⟩, ⟨d', q', e2, hd, hr⟩, ⟨sv, sq, e3, h3, h4⟩, hl, hc => by
    subst e1 e2 e3
    obtain ⟨i1, i2⟩ := ArgBack.rep (σr := σr) k h2 hr h4 (by simpa using hl) (fun a => by have : cO a o + cS a s ≤ 1 := hc a; omega)
    rcases hd with ⟨z, e⟩ | ⟨e, a, ra, ra'⟩
    · subst e
      exact ⟨⟨v, q, rfl, RepD.keep k _ _ (fun b o hb _ => absurd hb (by rw [z]; omega)) h1, i1⟩, fun a => by
        have := i2 a; have := z a
        show cD a d' + cDs a q' ≤ cO a o + cS a s
        omega⟩
    · subst e
      obtain ⟨u, e4, h5⟩ := h3
      have e5 := root_rep ra h1
      have e6 := root_rep ra' h5
      subst e5 e6
      exact ⟨⟨_, q, rfl, h5, i1⟩, fun a => by
        have := i2 a
        show cD a d' + cDs a q' ≤ cD a d' + cS a s
        omega⟩
theorem rep_start : ∀ {ds : List D} {vs : List V} (n : Nat), RepDs K H ds vs → RepS K H (ds.map some ++ List.replicate n none) (vs.map some ++ List.replicate n none)
  | [], _, n, h => by
    subst h
    show RepS K H (List.replicate n none) (List.replicate n none)
    induction n with
    | zero => rfl
    | succ n ih => exact ⟨none, _, rfl, trivial, ih⟩
  | d :: ds, _, n, ⟨v, r, e, h1, h2⟩ => by subst e; exact ⟨some v, _, rfl, ⟨v, rfl, h1⟩, rep_start n h2⟩
theorem cS_start (b : Addr) : ∀ (ds : List D) (n : Nat), cS b (ds.map some ++ List.replicate n none) = cDs b ds
  | [], n => by
    show cS b (List.replicate n none) = 0
    induction n with
    | zero => rfl
    | succ n ih => show 0 + cS b (List.replicate n none) = 0; omega
  | d :: ds, n => by show cD b d + cS b (ds.map some ++ List.replicate n none) = cD b d + cDs b ds; rw [cS_start b ds n]
end
/-- THE RULE for a def: its body's term, and the pure reading of it -/
theorem fnD {P : Program} {w : World} {K : PySem.W.Frag} {mg : Str → Option Value} {base : Heap} {x qual : Str} {st : Stmt} {f : Addr} {fd : FuncData} {N ps : List Str} {k : Nat} {sp : SpD} {t : TSP}
    (F : Fun K x qual st f fd) (S : FnScope N ps (defScope st)) (hN : ps.length ≤ N.length) (len : ∀ ds Q, sp ds Q → ds.length = ps.length)
    (hd : ∀ (cdv : Value) (A : Around) (outer : List Env) (s : Shared) (H : Hp) (E : XK), Room k (A.deeper (PyProof.Rows.envOfC qual (defScope st) s.heap.objs.size f cdv)) → PSsd (cxOf CX0 P w K mg base N qual (defScope st) f cdv A outer s H E).nox (defBody st) t)
    (hp : ∀ ds Q, sp ds Q → t (fnEnds ds Q) (startD N.length ds)) : FnOk P w K mg base CX0 (k + 1) f fd ps (liftSp ⟨K, P, w⟩ sp) := by
  refine F.ok S (fun vs H Q E ⟨ds, Qd, r, _, h, _⟩ => by rw [← r.len]; exact len ds Qd h) (fun cdv A outer s H vs Q E hr ⟨ds, Qd, r, hc, h, hk⟩ => ⟨_, hd cdv A outer s H E hr, ?_⟩)
  have hl := len ds Qd h
  have hlv : vs.length = ds.length := r.len.symm
  have e1 : L2.start N vs = vs.map some ++ List.replicate (N.length - ds.length) none := by unfold L2.start; rw [hlv]
  have sl : RepS ⟨K, P, w⟩ H (startD N.length ds) (L2.start N vs) := by rw [e1]; exact rep_start _ r
  have cn : ∀ a, cS a (startD N.length ds) = cDs a ds := fun a => cS_start a ds _
  have own : ∀ a, 1 ≤ cDs a ds → ∃ o, H a = some o ∧ ¬ Imm o := fun a h => RepDs.own ds vs r a h
  have C : Cfg ⟨K, P, w⟩ H (fun a => 1 ≤ cDs a ds) H (L2.start N vs) (startD N.length ds) [] [] :=
    ⟨sl, rfl, fun a => by rw [cn]; have := hc a; show cDs a ds + 0 ≤ 1; omega, fun a h => .inl (by rw [cn] at h; show 1 ≤ cDs a ds; have : cDs a ds + 0 ≥ 1 := h; omega), fun a o _ h => h⟩
  have fin : ∀ σ' H' s' v d, Cfg ⟨K, P, w⟩ H (fun a => 1 ≤ cDs a ds) H' σ' s' [v] [d] → (∃ ds', ArgBack ds s' ds' ∧ Qd d ds') → Q v H' := fun σ' H' s' v d C' ⟨ds', ab, q⟩ => by
    have imm : ∀ b o, H b = some o → Imm o → H' b = some o := fun b o h1 h2 => C'.kp b o (fun z => by
      obtain ⟨u, h3, h4⟩ := own b z
      rw [h1] at h3; cases h3; exact h4 h2) h1
    have nd : ∀ a, cS a s' + (cD a d + 0) ≤ 1 := C'.nd
    obtain ⟨h1, h2⟩ := ArgBack.rep (σr := σ') imm r ab C'.sl C'.sl.len.symm (fun a => by have := nd a; omega)
    refine hk v d H' ds' C'.top h1 (fun a => by have := nd a; have := h2 a; omega) (fun a h => ?_) (fun a o h1 h2 => C'.kp a o (by omega) h2) q
    exact C'.fr a (by show 1 ≤ cS a s' + (cD a d + 0); have := h2 a; omega)
  exact ⟨H, _, _, [], [], _, C, hp ds Qd h, ⟨fun σ' H' s' C' q => fin σ' H' s' .non (.dat .none) (C'.push (d := .dat .none) rfl fun _ => rfl) q, fun _ _ _ _ q => q, fun _ _ _ _ q => q, fun σ' H' s' v d C' q => fin σ' H' s' v d C' q⟩⟩

/-! ### lending what a slot owns: its place holds the reference alone meanwhile -/
def lendK : List D → PSt → (List D → PSt → Prop) → Prop
  | [], ds, k => k [] ds
  | .bor a i π t :: xs, ds, k => root t = some a ∧ upS ds i π t (.raw (.ref a)) fun ds' => lendK xs ds' fun r ds2 => k (t :: r) ds2
  | x :: xs, ds, k => lendK xs ds fun r ds2 => k (x :: r) ds2
def backK : List D → List D → PSt → (PSt → Prop) → Prop
  | .bor a i π _ :: xs, d :: r, ds, k => upS ds i π (.raw (.ref a)) d fun ds' => backK xs r ds' k
  | _ :: xs, _ :: r, ds, k => backK xs r ds k
  | _, _, ds, k => k ds
def eOwn (sp : SpD) (t : TAP) : TEP := fun ds Q => t ds fun as ds1 => lendK as ds1 fun args ds2 => sp args fun d args' => backK as args' ds2 fun ds3 => Q d ds3
section
variable {K : KW} {H H' H0 : Hp} {f0 : Addr → Prop} {σ : St} {ds ds2 : PSt} {vs ws : List V} {es as args : List D} {v w : V} {d t x : D} {a : Addr}
theorem RepFs.swap {f : Str} {d d' : D} (k : ∀ v, RepD K H d v → RepD K H d' v) : ∀ {fs : List (Str × D)} {ws : List (Str × V)}, RepFs K H fs ws → fs.lookup f = some d → RepFs K H (setF f d' fs) ws
  | [], _, _, e => by simp at e
  | (g, x) :: r, _, ⟨v, rs, e, h1, h2⟩, q => by
    subst e
    by_cases z : f = g
    · subst z
      simp [List.lookup] at q
      subst q
      unfold setF
      rw [if_pos rfl]
      exact ⟨_, _, rfl, k v h1, h2⟩
    · have z' : (f == g) = false := by simpa using z
      simp only [List.lookup, z'] at q
      unfold setF
      rw [if_neg z]
      exact ⟨_, _, rfl, h1, RepFs.swap k h2 q⟩
theorem RepDs.swap {d d' : D} (k : ∀ v, RepD K H d v → RepD K H d' v) : ∀ {xs : List D} {ws : List V} {j : Nat}, RepDs K H xs ws → xs[j]? = some d → RepDs K H (xs.set j d') ws
  | [], _, _, _, e => by simp at e
  | x :: r, _, 0, ⟨v, rs, e, h1, h2⟩, q => by
    subst e
    simp at q; subst q
    exact ⟨_, _, rfl, k v h1, h2⟩
  | x :: r, _, j + 1, ⟨v, rs, e, h1, h2⟩, q => by
    subst e
    exact ⟨_, _, rfl, h1, RepDs.swap k h2 (by simpa using q)⟩
theorem SubW.swap {d t t' d' : D} (s : SubW d t t' d') : (∀ w, RepD K H t w → RepD K H t' w) → ∀ {v : V}, RepD K H d v → RepD K H d' v := by
  induction s with
  | here t t' => exact fun k v h => k v h
  | fld hl s ih =>
    rintro k v ⟨e, dx, ws, h1, h2⟩
    exact ⟨e, dx, ws, h1, RepFs.swap (fun v h => ih k h) h2 hl⟩
  | item hl s ih =>
    rintro k v ⟨e, ws, h1, h2⟩
    exact ⟨e, ws, h1, RepDs.swap (fun v h => ih k h) h2 hl⟩
/-- the tree at a place of a slot changes places with the top temp's, both at w -/
theorem Cfg.exch {y t' : D} {i : Nat} {π : List Stp} {e e' : D} (C : Cfg K H0 f0 H σ ds (w :: vs) (x :: es)) (he : ds[i]? = some (some e)) (hg : getP e π = some t) (hs : setP e π t' = some e') (ht : ∀ u, RepD K H t u → u = w) (h' : RepD K H t' w)
    (hy : RepD K H y w) (c : ∀ b, cD b t' + cD b y ≤ cD b t + cD b x) : Cfg K H0 f0 H σ (ds.set i (some e')) (w :: vs) (y :: es) := by
  obtain ⟨u, eu, hr⟩ := C.sl.get he
  have hi : i < ds.length := (List.getElem?_eq_some_iff.mp he).1
  have hole : ∀ b, cS b (ds.set i none) + cD b e = cS b ds := fun b => cS_get b he
  have sw := setP_subW hg hs
  have cn : ∀ b, cD b e' + cD b t = cD b e + cD b t' := fun b => sw.cnt b
  have sl : RepS K H (ds.set i (some e')) σ := C.sl.put eu (sw.swap (fun z hz => by rw [ht z hz]; exact h') hr)
  refine ⟨sl, ⟨w, vs, rfl, hy, C.pop.tm⟩, fun b => ?_, fun b h => ?_, C.kp⟩
  · have h1 : cS b ds + (cD b x + cDs b es) ≤ 1 := C.nd b
    have := hole b; have := cn b; have := c b
    show cS b (ds.set i (some e')) + (cD b y + cDs b es) ≤ 1
    rw [cS_set b hi]
    omega
  · have h1 : 1 ≤ cS b (ds.set i (some e')) + (cD b y + cDs b es) := h
    rw [cS_set b hi] at h1
    have := hole b; have := cn b; have := c b
    exact C.fr b (by show 1 ≤ cS b ds + (cD b x + cDs b es); omega)
theorem Cfg.unmid (C : Cfg K H0 f0 H σ ds ((v :: ws) ++ vs) ((x :: as) ++ es)) (hl : as.length = ws.length) : Cfg K H0 f0 H σ ds (ws ++ v :: vs) (as ++ x :: es) := by
  obtain ⟨w', r, e, h2, h3⟩ := C.tm
  cases e
  obtain ⟨h4, h5⟩ := RepDs.split hl h3
  have c : ∀ b, cDs b (as ++ x :: es) = cDs b ((x :: as) ++ es) := fun b => by
    show _ = cD b x + cDs b (as ++ es)
    rw [cDs_append, cDs_append]
    show cDs b as + (cD b x + cDs b es) = _
    omega
  exact ⟨C.sl, h4.append ⟨_, _, rfl, h2, h5⟩, fun b => by rw [c]; exact C.nd b, fun b h => C.fr b (by rw [← c]; exact h), C.kp⟩
theorem lend_cfg : ∀ {as : List D} {ws vs : List V} {es : List D} {ds : PSt} {k : List D → PSt → Prop}, Cfg K H0 f0 H σ ds (ws ++ vs) (as ++ es) → as.length = ws.length → lendK as ds k →
    ∃ args ds2, k args ds2 ∧ Cfg K H0 f0 H σ ds2 (ws ++ vs) (args ++ es) ∧ args.length = ws.length
  | [], ws, vs, es, ds, k, C, hl, h => ⟨[], ds, h, C, hl⟩
  | x :: xs, [], vs, es, ds, k, C, hl, h => by cases hl
  | x :: xs, w :: ws, vs, es, ds, k, C, hl, h => by
    have hl' : xs.length = ws.length := by simpa using hl
    have go : ∀ {ds' : PSt} {d : D}, Cfg K H0 f0 H σ ds' (w :: (ws ++ vs)) (d :: (xs ++ es)) → lendK xs ds' (fun r ds2 => k (d :: r) ds2) → ∃ args ds2, k args ds2 ∧ Cfg K H0 f0 H σ ds2 (w :: ws ++ vs) (args ++ es) ∧ args.length = (w :: ws).length := fun {ds' d} C1 h1 => by
      have C2 : Cfg K H0 f0 H σ ds' (ws ++ w :: vs) (xs ++ d :: es) := Cfg.unmid (as := xs) (ws := ws) C1 hl'
      obtain ⟨args, ds2, h2, C3, h3⟩ := lend_cfg C2 hl' h1
      exact ⟨d :: args, ds2, h2, C3.mid h3, by simp [h3]⟩
    cases x with
    | bor a i π t =>
      obtain ⟨hr, e, e', h1, h2, h3, h4⟩ := h
      have ew : w = .ref a := Cfg.top (vs := ws ++ vs) (es := xs ++ es) C
      have Ct : RepD K H t w := See.rep (x := .bor a i π t) (Cfg.pop (vs := ws ++ vs) (es := xs ++ es) C) ew ⟨rfl, hr, e, h1, h2⟩
      exact go (Cfg.exch (x := .bor a i π t) (vs := ws ++ vs) (es := xs ++ es) C h1 h2 h3 (fun u hu => by rw [ew]; exact root_rep hr hu) ew Ct fun b => by show 0 + cD b t ≤ cD b t + 0; omega) h4
    | _ => exact go C h
theorem back_cfg : ∀ {as args : List D} {ws vs : List V} {es : List D} {ds : PSt} {k : PSt → Prop}, Cfg K H0 f0 H σ ds (ws ++ vs) (args ++ es) → args.length = ws.length → as.length = ws.length → (∀ (j : Nat) a i π t, as[j]? = some (.bor a i π t) → ws[j]? = some (.ref a)) →
    backK as args ds k → ∃ ds', k ds' ∧ Cfg K H0 f0 H σ ds' vs es
  | [], [], [], vs, es, ds, k, C, _, _, _, h => ⟨ds, h, C⟩
  | [], _ :: _, [], vs, es, ds, k, C, h, _, _, _ => by cases h
  | [], _, _ :: _, vs, es, ds, k, C, _, h, _, _ => by cases h
  | x :: xs, _, [], vs, es, ds, k, C, _, h, _, _ => by cases h
  | x :: xs, [], _ :: _, vs, es, ds, k, C, h, _, _, _ => by cases h
  | x :: xs, d :: r, w :: ws, vs, es, ds, k, C, h1, h2, hw, h => by
    have h1' : r.length = ws.length := by simpa using h1
    have h2' : xs.length = ws.length := by simpa using h2
    have hw' : ∀ (j : Nat) a i π t, xs[j]? = some (.bor a i π t) → ws[j]? = some (.ref a) := fun j a i π t e => by simpa using hw (j + 1) a i π t (by simpa using e)
    cases x with
    | bor a i π t =>
      obtain ⟨e, e', g1, g2, g3, g4⟩ := h
      have ew : w = .ref a := by simpa using hw 0 a i π t rfl
      have Cd : RepD K H d w := Cfg.top (vs := ws ++ vs) (es := r ++ es) C
      have C2 := Cfg.exch (x := d) (y := .raw w) (vs := ws ++ vs) (es := r ++ es) C g1 g2 g3 (fun u hu => by rw [ew]; exact hu) Cd rfl fun b => by show cD b d + 0 ≤ 0 + cD b d; omega
      exact back_cfg C2.pop h1' h2' hw' g4
    | _ => exact back_cfg (Cfg.pop (vs := ws ++ vs) (es := r ++ es) C) h1' h2' hw' h
/-- behind a call: the value and the arguments as they are now, onto the temps -/
theorem Cfg.called (C : Cfg K H0 f0 H σ ds (ws ++ vs) (args ++ es)) (hl : args.length = ws.length) {args' : List D} (r : RepD K H' d v) (ra : RepDs K H' args' ws) (h1 : ∀ a, cD a d + cDs a args' ≤ 1)
    (h2 : ∀ a, 1 ≤ cD a d + cDs a args' → 1 ≤ cDs a args ∨ H a = none) (h3 : ∀ a o, cDs a args = 0 → H a = some o → H' a = some o) : Cfg K H0 f0 H' σ ds (v :: (ws ++ vs)) (d :: (args' ++ es)) := by
  obtain ⟨g1, g2⟩ := RepDs.split hl C.tm
  have own : ∀ a, 1 ≤ cDs a args → ∃ o, H a = some o ∧ ¬ Imm o := fun a h => RepDs.own args ws g1 a h
  have nd : ∀ a, cS a ds + (cDs a args + cDs a es) ≤ 1 := fun a => by have := C.nd a; rw [cDs_append] at this; exact this
  have imm : ∀ b o, H b = some o → Imm o → H' b = some o := fun b o e i => h3 b o (by
    by_cases q : 1 ≤ cDs b args
    · obtain ⟨u, e2, n⟩ := own b q
      rw [e] at e2; cases e2; exact absurd i n
    · omega) e
  have oth : ∀ b o, 1 ≤ cS b ds + cDs b es → H b = some o → H' b = some o := fun b o q e => h3 b o (by have := nd b; omega) e
  have un : ∀ b, H b = none → cS b ds + (cDs b args + cDs b es) = 0 := fun b e => by have := C.untracked e; rw [cDs_append] at this; exact this
  have c : ∀ b, cDs b (d :: (args' ++ es)) = cD b d + (cDs b args' + cDs b es) := fun b => by
    show cD b d + cDs b (args' ++ es) = _
    rw [cDs_append]
  refine ⟨RepS.keep imm _ _ (fun b o q e => oth b o (by omega) e) C.sl, ⟨v, _, rfl, r, ra.append (RepDs.keep imm _ _ (fun b o q e => oth b o (by omega) e) g2)⟩, fun b => ?_, fun b h => ?_, fun b o n e => ?_⟩
  · rw [c]
    by_cases q : 1 ≤ cD b d + cDs b args'
    · rcases h2 b q with z | z
      · have := nd b; have := h1 b; omega
      · have := un b z; have := h1 b; omega
    · have := nd b; omega
  · rw [c] at h
    by_cases q : 1 ≤ cD b d + cDs b args'
    · rcases h2 b q with z | z
      · exact C.fr b (by rw [cDs_append]; omega)
      · by_cases y : f0 b
        · exact .inl y
        · refine .inr ?_
          cases e : H0 b with
          | none => rfl
          | some o => have := C.kp b o y e; rw [z] at this; cases this
    · exact C.fr b (by rw [cDs_append]; omega)
  · have e2 := C.kp b o n e
    refine h3 b o ?_ e2
    by_cases q : 1 ≤ cDs b args
    · rcases C.fr b (by rw [cDs_append]; omega) with z | z
      · exact absurd z n
      · rw [z] at e; cases e
    · omega
end
section
variable {X : Cx} {k : Nat} {f : Addr} {fd : FuncData} {ps : List Str} {sp : SpD} {x : Str} {p pos : Pos} {e : Expr} {l : List Expr} {t : TAP}
theorem lift_own {K : KW} {E : XK} {σ : St} {H : Hp} {Q : VK} (h : liftE K (eOwn sp t) σ H Q) : tCall (liftSp K sp) [] E (liftA K t) σ H Q := by
  obtain ⟨H0, f0, ds, vs, es, Qd, C, q, k⟩ := h
  refine ⟨H0, f0, ds, vs, es, _, C, q, fun ws as H1 ds1 C1 hl hL => ?_⟩
  obtain ⟨args, ds2, hs, C2, hl2⟩ := lend_cfg C1 hl hL
  rw [List.append_nil]
  refine ⟨args, _, C2.args hl2, fun a => by have := C2.nd a; rw [cDs_append] at this; omega, hs, fun v d H' args' r ra h1 h2 h3 q2 => ?_⟩
  have C3 := C2.called hl2 r ra h1 h2 h3
  have hla : args'.length = ws.length := ra.len
  -- the value below, the arguments on top
  have C4 : Cfg K H0 f0 H' σ ds2 (ws ++ v :: vs) (args' ++ d :: es) := Cfg.unmid (as := args') (ws := ws) C3 hla
  have hw : ∀ (j : Nat) a i π t, as[j]? = some (.bor a i π t) → ws[j]? = some (.ref a) := fun j a i π t e => by
    obtain ⟨u, e1, e2⟩ := (C1.args hl).get e
    rw [e1, show u = .ref a from e2]
  obtain ⟨ds3, q3, C5⟩ := back_cfg C4 hla hl hw q2
  exact k v d H' _ C5 q3
theorem d_own (F : FnOk X.prog X.w X.K X.mg X.base CX0 k f fd ps (liftSp (kw X) sp)) (hr : Room k X.A) (hg : Gl X x) (hm : X.mg x = some (.ref f)) (hk : PySem.W.keepIn X.K (.ref f) = true) (hb : Binds X.K fd ps [])
    (ha : PAd X (e :: l) t) (hdb : (x == ("__debug__" : Str)) = false := by decide) (he : starEach (e :: l) X.env = (false, eval e X.env) :: starEach l X.env := by rfl) (hpl : (backTo pos (starEach l X.env)).any (·.1) = false := by rfl) :
    PEd X (.Call (.Name x p) (e :: l) [] pos) (eOwn sp t) :=
  pe_imp (pe_call F hr hg hm hk hb .nil pass0 ha hdb he hpl) fun _ _ _ h => lift_own h
/-- a slot's tree handed over -/
theorem d_mv {i : Nat} {x : Str} (hN : X.N[i]? = some x) (hv : Vis X.env.scope x) (hd : (x == ("__debug__" : Str)) = false := by decide) (hcd : (x == ("__classdict__" : Str)) = false := by decide) : PEd X (.Name x pos) (eOut i) :=
  pe_imp (pe_var hN hv hd hcd) fun σ H Q ⟨H0, f0, ds, vs, es, Qd, C, ⟨d, e, q⟩, k⟩ => by
    obtain ⟨v, h1, h2⟩ := C.sl.get e
    have hole : ∀ b, cS b (ds.set i none) + cD b d = cS b ds := fun b => cS_get b e
    refine ⟨v, h1, k v d H (ds.set i none) ⟨C.sl.hole, ⟨v, vs, rfl, h2, C.tm⟩, fun b => ?_, fun b h => ?_, C.kp⟩ q⟩
    · have := C.nd b; have := hole b
      show cS b (ds.set i none) + (cD b d + cDs b es) ≤ 1
      omega
    · have h' : 1 ≤ cS b (ds.set i none) + (cD b d + cDs b es) := h
      have := hole b
      exact C.fr b (by omega)
end
end PD
set_option Elab.async false
set_option linter.all false
set_option maxRecDepth 100000
set_option maxHeartbeats 2000000
/-! PD, seventh part: comprehensions, methods of lists, stores, lists by operators, slices, ranges as values. -/
namespace PD
open PySem L2
/-! ### a comprehension's own names put aside -/
def atO (ds : PSt) (i : Nat) : Option D := match ds[i]? with
  | some o => o
  | none => none
def wipeD (ds : PSt) : List Nat → PSt
  | [] => ds
  | i :: r => wipeD (ds.set i none) r
/-- what stood in the own slots stands there again -/
def restore (ds ds4 : PSt) : List Nat → PSt
  | [] => ds4
  | i :: r => (restore (ds.set i none) (ds4.set i none) r).set i (atO ds i)
section
variable {K : KW} {H H' H0 : Hp} {f0 : Addr → Prop} {σ σ' : St} {ds ds4 : PSt} {vs ws : List V} {es as : List D} {v w : V} {d t x : D} {a : Addr}
theorem set_back {σ σ' : St} {i : Nat} {o : Option V} (h : σ'.set i none = σ.set i none) (e : σ[i]? = some o) : σ'.set i o = σ := by
  refine List.ext_getElem? fun j => ?_
  have hj : (σ'.set i none)[j]? = (σ.set i none)[j]? := by rw [h]
  have hl : σ'.length = σ.length := by have := congrArg List.length h; simpa using this
  have hi : i < σ.length := (List.getElem?_eq_some_iff.mp e).1
  by_cases q : i = j
  · subst q
    rw [List.getElem?_set_self (by omega), e]
  · rw [List.getElem?_set_ne q] at hj ⊢
    rw [List.getElem?_set_ne q] at hj
    exact hj
/-- one slot put aside: onto the temps, if something is told of it -/
theorem aside1 (C : Cfg K H0 f0 H σ ds vs es) (i : Nat) : ∃ (ws : List V) (as : List D), as.length = ws.length ∧ Cfg K H0 f0 H (σ.set i none) (ds.set i none) (ws ++ vs) (as ++ es) ∧
    ∀ H' σ' ds4 vs2 es2, Cfg K H0 f0 H' σ' ds4 (ws ++ vs2) (as ++ es2) → σ'.set i none = σ.set i none → Cfg K H0 f0 H' σ (ds4.set i (atO ds i)) vs2 es2 := by
  have plain : (∀ d, ds[i]? ≠ some (some d)) → Cfg K H0 f0 H (σ.set i none) (ds.set i none) vs es ∧ ∀ H' σ' ds4 vs2 es2, Cfg K H0 f0 H' σ' ds4 vs2 es2 → σ'.set i none = σ.set i none → Cfg K H0 f0 H' σ (ds4.set i none) vs2 es2 := fun hn => by
    refine ⟨⟨C.sl.out, C.tm, fun a => ?_, fun a h => ?_, C.kp⟩, fun H' σ' ds4 vs2 es2 C' hs => ?_⟩
    · have := C.nd a; have := cS_hole (ds := ds) (i := i) a; omega
    · have := cS_hole (ds := ds) (i := i) a; exact C.fr a (by omega)
    · have r : RepS K H' (ds4.set i none) σ := by
        have r0 : RepS K H' (ds4.set i none) (σ'.set i none) := C'.sl.out
        rw [hs] at r0
        -- the slot itself is untold
        have go : ∀ (ds5 : PSt) (τ : St) (j : Nat), ds5[j]? = some none ∨ ds5[j]? = none → RepS K H' ds5 (τ.set j none) → RepS K H' ds5 τ := by
          intro ds5
          induction ds5 with
          | nil =>
            intro τ j _ h
            have : τ.set j none = [] := h
            cases τ with
            | nil => rfl
            | cons _ _ => cases j <;> cases this
          | cons o r ih =>
            intro τ j hj h
            obtain ⟨s, q, e, h1, h2⟩ := h
            cases τ with
            | nil => cases j <;> cases e
            | cons s' τ' =>
              cases j with
              | zero =>
                have e' : (none : Option V) :: τ' = s :: q := e
                injection e' with e1 e2
                subst e2
                have ho : o = none := by rcases hj with z | z <;> simpa using z
                subst ho
                exact ⟨s', τ', rfl, trivial, h2⟩
              | succ j =>
                have e' : s' :: τ'.set j none = s :: q := e
                injection e' with e1 e2
                subst e1 e2
                exact ⟨s', τ', rfl, h1, ih τ' j (by simpa using hj) h2⟩
        refine go (ds4.set i none) σ i ?_ r0
        by_cases hi : i < ds4.length
        · exact .inl (by rw [List.getElem?_set_self hi])
        · exact .inr (by rw [List.getElem?_eq_none]; simpa using hi)
      refine ⟨r, C'.tm, fun a => ?_, fun a h => ?_, C'.kp⟩
      · have := C'.nd a; have := cS_hole (ds := ds4) (i := i) a; omega
      · have := cS_hole (ds := ds4) (i := i) a; exact C'.fr a (by omega)
  cases e : ds[i]? with
  | none =>
    obtain ⟨p1, p2⟩ := plain fun d h => by rw [e] at h; cases h
    exact ⟨[], [], rfl, p1, by unfold atO; rw [e]; exact p2⟩
  | some o =>
    cases o with
    | none =>
      obtain ⟨p1, p2⟩ := plain fun d h => by rw [e] at h; cases h
      exact ⟨[], [], rfl, p1, by unfold atO; rw [e]; exact p2⟩
    | some d =>
      obtain ⟨v, hv, hr⟩ := C.sl.get e
      have hole : ∀ b, cS b (ds.set i none) + cD b d = cS b ds := fun b => cS_get b e
      refine ⟨[v], [d], rfl, ⟨C.sl.out, ⟨v, vs, rfl, hr, C.tm⟩, fun b => ?_, fun b h => ?_, C.kp⟩, fun H' σ' ds4 vs2 es2 C' hs => ?_⟩
      · have := C.nd b; have := hole b
        show cS b (ds.set i none) + (cD b d + cDs b es) ≤ 1
        omega
      · have h' : 1 ≤ cS b (ds.set i none) + (cD b d + cDs b es) := h
        have := hole b
        exact C.fr b (by omega)
      · have C2 : Cfg K H0 f0 H' (σ'.set i (some v)) (ds4.set i (some d)) vs2 es2 := Cfg.set (v := v) (d := d) C' i
        rw [set_back hs hv] at C2
        have : atO ds i = some d := by unfold atO; rw [e]
        rw [this]
        exact C2
theorem Cfg.out (C : Cfg K H0 f0 H σ ds vs es) (i : Nat) : Cfg K H0 f0 H (σ.set i none) (ds.set i none) vs es :=
  ⟨C.sl.out, C.tm, fun a => by have := C.nd a; have := cS_hole (ds := ds) (i := i) a; omega, fun a h => by have := cS_hole (ds := ds) (i := i) a; exact C.fr a (by omega), C.kp⟩
theorem aside : ∀ (own : List Nat) {σ : St} {ds : PSt} {vs : List V} {es : List D}, Cfg K H0 f0 H σ ds vs es → ∃ (ws : List V) (as : List D), as.length = ws.length ∧ Cfg K H0 f0 H (wipe σ own) (wipeD ds own) (ws ++ vs) (as ++ es) ∧
    ∀ H' σ' ds4 vs2 es2, Cfg K H0 f0 H' σ' ds4 (ws ++ vs2) (as ++ es2) → wipe σ' own = wipe σ own → Cfg K H0 f0 H' σ (restore ds ds4 own) vs2 es2
  | [], σ, ds, vs, es, C => ⟨[], [], rfl, C, fun H' σ' ds4 vs2 es2 C' h => by
    have e : σ' = σ := h
    subst e
    exact C'⟩
  | i :: r, σ, ds, vs, es, C => by
    obtain ⟨ws1, as1, hl1, C1, b1⟩ := aside1 C i
    obtain ⟨ws, as, hl, C2, b2⟩ := aside r C1
    refine ⟨ws ++ ws1, as ++ as1, by simp [hl, hl1], ?_, fun H' σ' ds4 vs2 es2 C' h => ?_⟩
    · rw [List.append_assoc, List.append_assoc]
      show Cfg K H0 f0 H ((wipe σ r).set i none) _ _ _
      rw [wipe_comm]
      exact C2
    · rw [List.append_assoc, List.append_assoc] at C'
      have h' : (wipe σ' r).set i none = (wipe σ r).set i none := h
      rw [wipe_comm, wipe_comm] at h'
      exact b1 H' (σ.set i none) _ _ _ (b2 H' (σ'.set i none) (ds4.set i none) _ _ (C'.out i) h') (by rw [List.set_set])
end
/-! ### list comprehensions -/
/-- what is given is plain -/
def tLcD (ti : TIP) (g : TGP) (tt : TTP) (te : TEP) (own : List Nat) : TEP := fun ds Q => ti ds fun items ok ds1 => items.length ≤ 1000000 ∧ ∃ Iv : Nat → List PyData → PSt → Prop, Iv 0 [] ds1 ∧
  (∀ i acc s, i ≤ items.length → Iv i acc s → ok s ∧ acc.length ≤ i) ∧
  (∀ i p acc s, items[i]? = some p → Iv i acc s → g p (wipeD s own) fun s2 => tt s2 fun b s3 => if b = true then te s3 fun y s4 => ∃ q, y = .dat q ∧ Iv (i + 1) (acc ++ [q]) (restore s s4 own) else Iv (i + 1) acc (restore s s3 own)) ∧
  ∀ acc s, Iv items.length acc s → ∀ a, Q (.lst a acc) s
def PTsd (X : Cx) (ifs : List Expr) (t : TTP) : Prop := PTs X ifs (liftT (kw X) t)
def tYesD : TTP := fun ds Q => Q true ds
section
variable {X : Cx} {K : KW}
theorem dts_nil : PTsd X [] tYesD := ⟨fun pins s σ H Q I ⟨H0, f0, ds, vs, es, Qd, C, q, k⟩ => pts_nil.run pins s σ H Q I (k _ _ _ C q)⟩
theorem dts_one {c : Expr} {t : TTP} (h : PTd X c t) : PTsd X [c] t := pts_one h
theorem wipe_idem (σ : St) : ∀ r : List Nat, wipe (wipe σ r) r = wipe σ r := fun r => by
  have go : ∀ (q r : List Nat), (∀ j ∈ q, j ∈ r) → wipe (wipe σ q) r = wipe σ r := by
    intro q r
    induction q with
    | nil => intro _; rfl
    | cons i q ih =>
      intro h
      show wipe ((wipe σ q).set i none) r = wipe σ r
      rw [wipe_set (h i List.mem_cons_self)]
      exact ih fun j hj => h j (List.mem_cons_of_mem _ hj)
  exact go r r fun _ h => h
variable {tg iter elt : Expr} {ifs : List Expr} {scope : Scope} {own : List (Str × Nat)} {pos : Pos} {ti : TIP} {js : List Nat} {g : TGP} {tt : TTP} {te : TEP}
theorem Cfg.tmpApp {H0 H : Hp} {f0 : Addr → Prop} {σ : St} {s : PSt} {vs : List V} {es : List D} {a : Addr} {y : V} {q : PyData} {acc : List PyData} (C : Cfg K H0 f0 H σ s (.ref a :: y :: vs) (.lst a acc :: .dat q :: es)) :
    ∃ zs, H a = some (.lst zs) ∧ zs.length = acc.length ∧ Cfg K H0 f0 (upd H a (.lst (zs ++ [y]))) σ s (.ref a :: vs) (.lst a (acc ++ [q]) :: es) := by
  obtain ⟨_, zs, h1, h2⟩ := C.top
  have hq : RepP K H q y := C.pop.top
  have C0 := C.pop.pop
  have nd : ∀ b, cS b s + (one b a + (0 + cDs b es)) ≤ 1 := C.nd
  have hm : ∀ u, H a = some u → ¬ Imm u := fun u e => by rw [h1] at e; cases e; exact id
  have oth : ∀ b u, 1 ≤ cS b s + cDs b es → H b = some u → upd H a (.lst (zs ++ [y])) b = some u := fun b u h e => by
    rw [upd_ne]
    · exact e
    · rintro rfl; have := nd b; rw [one_same] at this; omega
  refine ⟨zs, h1, h2.len.symm, RepS.keep (keep_upd hm) _ _ (fun b u h e => oth b u (by omega) e) C0.sl, ⟨_, vs, rfl, ⟨rfl, _, upd_same, RepPs.append (RepPs.keep (keep_upd hm) _ _ h2) ⟨y, [], rfl, RepP.keep (keep_upd hm) _ _ hq, rfl⟩⟩, RepDs.keep (keep_upd hm) _ _ (fun b u h e => oth b u (by omega) e) C0.tm⟩, fun b => ?_, fun b h => ?_, fun b u n e => ?_⟩
  · have := nd b
    show cS b s + (one b a + cDs b es) ≤ 1
    omega
  · exact C.fr b (by have h' : 1 ≤ cS b s + (one b a + cDs b es) := h; show 1 ≤ cS b s + (one b a + (0 + cDs b es)); omega)
  · have e2 := C.kp b u n e
    rw [upd_ne]
    · exact e2
    · rintro rfl
      rcases C.fr b (by show 1 ≤ cS b s + (one b b + (0 + cDs b es)); rw [one_same]; omega) with z | z
      · exact n z
      · rw [z] at e; cases e
theorem lift_lc (hj : ∀ j ∈ js, j ∈ own.map (·.2)) {σ : St} {H : Hp} {Q : VK} (h : liftE K (tLcD ti g tt te (own.map (·.2))) σ H Q) : tLc (liftI K ti) (liftG K js g) (liftT K tt) (liftE K te) (own.map (·.2)) σ H Q := by
  obtain ⟨H0, f0, ds, vs, es, Qd, C, q, k⟩ := h
  refine ⟨H0, f0, ds, vs, es, _, C, q, fun J H1 ds1 ws as items ok C1 hl W ⟨hz, Iv, h0, hok, hstep, hend⟩ Dl hD => ?_⟩
  -- the list so far is a temp below the iterator's
  have put : ∀ {H σ s acc}, Cfg K H0 f0 H σ s (.ref Dl :: (ws ++ vs)) (.lst Dl acc :: (as ++ es)) → Cfg K H0 f0 H σ s (ws ++ .ref Dl :: vs) (as ++ .lst Dl acc :: es) := fun C => Cfg.unmid (as := as) (ws := ws) C hl
  refine ⟨fun i m H => m = items.length - i ∧ i ≤ items.length ∧ ∃ s acc, Cfg K H0 f0 H σ s (ws ++ .ref Dl :: vs) (as ++ .lst Dl acc :: es) ∧ Iv i acc s, ⟨_, rfl, Nat.zero_le _, ds1, [], put (C1.newL hD rfl), h0⟩, ?_⟩
  rintro i m H2 ⟨rfl, hle, s, acc, C2, iv⟩
  obtain ⟨o, hacc⟩ := hok i acc s hle iv
  by_cases hlt : i < items.length
  · refine .inr ⟨W.go i σ H2 s _ _ hlt C2 o, fun H' => ∃ s' acc', Cfg K H0 f0 H' σ s' (ws ++ .ref Dl :: vs) (as ++ .lst Dl acc' :: es) ∧ Iv (i + 1) acc' s', fun H' ⟨s', acc', C', iv'⟩ => ⟨_, by omega, rfl, hlt, s', acc', C', iv'⟩, fun x H' y => ?_⟩
    obtain ⟨p, hpp⟩ : ∃ p, items[i]? = some p := ⟨items[i], by simp [hlt]⟩
    have C3 := W.yld i σ H2 s _ _ x H' p hpp C2 o y
    obtain ⟨wa, aa, hla, C4, hback⟩ := aside (own.map (·.2)) C3
    -- the item on top of what was put aside
    have C5 : Cfg K H0 f0 H' (wipe σ (own.map (·.2))) (wipeD s (own.map (·.2))) (x :: (wa ++ (ws ++ .ref Dl :: vs))) (p :: (aa ++ (as ++ .lst Dl acc :: es))) := C4.mid hla
    refine ⟨H0, f0, _, _, _, p, _, C5, hstep i p acc s hpp iv, fun σ2 H3 s2 kp C6 q2 => ?_⟩
    have hw : wipe σ2 (own.map (·.2)) = wipe σ (own.map (·.2)) := by
      rw [kp _ hj, wipe_idem]
    refine ⟨hw, H0, f0, s2, _, _, _, C6, q2, fun b H4 s3 C7 q3 => ?_⟩
    cases b with
    | false => exact ⟨_, acc, hback _ _ _ _ _ C7 hw, q3⟩
    | true =>
      refine ⟨H0, f0, s3, _, _, _, C7, q3, fun yv yd H5 s4 C8 ⟨q, e, iv'⟩ => ?_⟩
      subst e
      have C9 := hback H5 σ2 s4 _ _ (Cfg.unmid (as := aa) (ws := wa) C8 hla) hw
      -- y on top of the iterator's temps and the list
      have C10 : Cfg K H0 f0 H5 σ (restore s s4 (own.map (·.2))) (([yv] ++ ws) ++ .ref Dl :: vs) (([.dat q] ++ as) ++ .lst Dl acc :: es) := C9
      have C11 := C10.mid (by simp [hl])
      obtain ⟨zs, h1, h2, C12⟩ := Cfg.tmpApp (vs := ws ++ vs) (es := as ++ es) C11
      exact ⟨zs, h1, by rw [h2, sizeLine_eq]; omega, _, _, put C12, iv'⟩
  · obtain rfl : i = items.length := by omega
    exact .inl ⟨W.stop σ H2 s _ _ C2 o, k _ _ _ _ (C2.drop (ws := ws) (as := as) hl) (hend acc s iv Dl)⟩
theorem d_lc {X : Cx} (hc : X.calm = true) (hN : X.N.Nodup) (hi : PId X tg iter ti) (ok : BlkOk X.N X.env.scope scope own) (hj : ∀ j ∈ js, j ∈ own.map (·.2))
    (hg : ∀ (s : Shared) (H : Hp) (C : Addr) (cl : List (Str × Addr)) (fp : List Addr), PGd (X.blk s H scope (compEnvC scope cl C X.env) fp) tg js g)
    (ht : ∀ (s : Shared) (H : Hp) (C : Addr) (cl : List (Str × Addr)) (fp : List Addr), PTsd (X.blk s H scope (compEnvC scope cl C X.env) fp) ifs tt)
    (he : ∀ (s : Shared) (H : Hp) (C : Addr) (cl : List (Str × Addr)) (fp : List Addr), PEd (X.blk s H scope (compEnvC scope cl C X.env) fp) elt te) (hs : ∀ x, foldedSetIterable iter X.env x = pure x := by intro _; rfl) :
    PEd X (.ListComp elt [⟨tg, iter, ifs, 0⟩] scope pos) (tLcD ti g tt te (own.map (·.2))) :=
  pe_imp (pe_lc (wi := liftI (kw X) ti) (g := liftG (kw X) js g) (tt := liftT (kw X) tt) (te := liftE (kw X) te) hc hN hi ok hg ht he hs) fun _ _ _ h => lift_lc hj h
theorem ds_setLc {X : Cx} {i : Nat} {y : Str} {py spos : Pos} (hc : X.calm = true) (hN : X.N.Nodup) (hy : X.N[i]? = some y) (hyl : X.env.scope.names.lookup y = some .local)
    (hsw : swapsWith (.ListComp elt [⟨tg, iter, ifs, 0⟩] scope pos) (some (.Name y py)) spos.line X.env = pure true) (hi : PId X tg iter ti) (ok : BlkOk X.N X.env.scope scope own) (hj : ∀ j ∈ js, j ∈ own.map (·.2))
    (hg : ∀ (s : Shared) (H : Hp) (C : Addr) (cl : List (Str × Addr)) (fp : List Addr), PGd (X.blk s H scope (compEnvC scope cl C X.env) fp) tg js g)
    (ht : ∀ (s : Shared) (H : Hp) (C : Addr) (cl : List (Str × Addr)) (fp : List Addr), PTsd (X.blk s H scope (compEnvC scope cl C X.env) fp) ifs tt)
    (he : ∀ (s : Shared) (H : Hp) (C : Addr) (cl : List (Str × Addr)) (fp : List Addr), PEd (X.blk s H scope (compEnvC scope cl C X.env) fp) elt te) (hs : ∀ x, foldedSetIterable iter X.env x = pure x := by intro _; rfl) :
    PSd X (.Assign [.Name y py] (.ListComp elt [⟨tg, iter, ifs, 0⟩] scope pos) spos) (tAsgD (tLcD ti g tt te (own.map (·.2))) (gN i)) :=
  ps_imp (ps_setLc (wi := liftI (kw X) ti) (g := liftG (kw X) js g) (tt := liftT (kw X) tt) (te := liftE (kw X) te) hc hN hy hyl hsw hi ok hg ht he hs) fun D' σ H ⟨H0, f0, ds, vs, es, E, C, q, L⟩ =>
    lift_lc hj (σ := σ) (H := H) (Q := fun x H1 => gName i x σ H1 D'.nx) ⟨H0, f0, ds, vs, es, _, C, q, fun v d H1 ds1 C1 q1 => L.nx _ H1 _ (C1.set i) q1⟩
end
end PD
set_option Elab.async false
set_option linter.all false
set_option maxRecDepth 100000
set_option maxHeartbeats 2000000
/-! PD, eighth part: methods of lists, stores, operators on lists and tuples, slices, ranges as values. -/
namespace PD
open PySem L2
abbrev MSem := D → List D → PSt → (D → PSt → Prop) → Prop
/-- the built-in type of a receiver -/
def TyM : D → String → Prop
  | .lst _ _, T => T = "list"
  | .lsD _ _, T => T = "list"
  | .dk _ _, T => T = "dict"
  | .dat (.str _), T => T = "str"
  | _, _ => False
def eBM (T : String) (s : MSem) (to : TEP) (t : TAP) : TEP := fun ds Q => to ds fun x ds1 => (∃ d, See ds1 x d ∧ TyM d T) ∧ t ds1 fun as ds2 => s x as ds2 Q
def SemM (K : KW) (s : MSem) (r : V → List V → Hp → VK → Prop) : Prop := ∀ {H0 f0 H σ ds ws vs as es v x Qd} {Q : VK}, Cfg K H0 f0 H σ ds (ws ++ v :: vs) (as ++ x :: es) → as.length = ws.length → s x as ds Qd →
  (∀ v' d H' ds', Cfg K H0 f0 H' σ ds' (v' :: vs) (d :: es) → Qd d ds' → Q v' H') → r v ws H Q
section
variable {X : Cx} {K : KW} {o e : Expr} {l : List Expr} {to ta tb te : TEP} {t : TAP} {pos : Pos}
theorem tyM_rep {H : Hp} {d : D} {v : V} {T : String} (r : RepD K H d v) (h : TyM d T) : tyV K.K T v H := by
  cases d with
  | lst a xs => obtain ⟨e, zs, h1, _⟩ := r; subst e; exact .inl ⟨h, zs, SqL.of h1⟩
  | lsD a xs => obtain ⟨e, zs, h1, _⟩ := r; subst e; exact .inl ⟨h, zs, SqL.of h1⟩
  | dk a xs => obtain ⟨e, zs, h1, _⟩ := r; subst e; exact .inr (.inr (.inl ⟨h, .inl ⟨zs, h1⟩⟩))
  | dat p =>
    cases p with
    | str z => obtain rfl := r; exact h
    | _ => exact h.elim
  | _ => exact h.elim
theorem lift_bm {T : String} {s : MSem} {r : V → List V → Hp → VK → Prop} (hs : SemM K s r) {σ : St} {H : Hp} {Q : VK} (h : liftE K (eBM T s to t) σ H Q) : tBM K.K T r (liftE K to) (liftA K t) σ H Q := by
  obtain ⟨H0, f0, ds, vs, es, Qd, C, q, k⟩ := h
  exact ⟨H0, f0, ds, vs, es, _, C, q, fun v x H1 ds1 C1 ⟨⟨d, s1, ty⟩, q1⟩ => ⟨tyM_rep (s1.rep C1 C1.top) ty, H0, f0, ds1, v :: vs, x :: es, _, C1, q1, fun ws as H2 ds2 C2 hl q2 => hs C2 hl q2 k⟩⟩
theorem d_bm {T id : String} {name : Str} {apos cpos : Pos} {s : MSem} {r : V → List V → Hp → VK → Prop} (pa : PlainAttrs T) (slot : Slot T name id) (hty : typeOf (.builtin id) = pure (.type "method_descriptor")) (hm : MtR X id r) (hs : SemM (kw X) s r) (ho : PEd X o to) (ha : PAd X (e :: l) t)
    (hbase : attributeBase o name X.env (eval o X.env) = eval o X.env := by rfl)
    (hfew : ((backTo cpos (starEach (e :: l) X.env)).all (fun x => !x.1) && (backToKw cpos (keywordEach [] X.env)).all (fun x => x.1.isSome)
      && decide ((e :: l).length + ([] : List Keyword).length + (if ([] : List Keyword).isEmpty then 0 else 1) < 30)) = true := by rfl)
    (hline : (apos.endLine == cpos.line) = true := by rfl) (hst : starEach (e :: l) X.env = (false, eval e X.env) :: starEach l X.env := by rfl) (hplain : (backTo cpos (starEach l X.env)).any (·.1) = false := by rfl) :
    PEd X (.Call (.Attribute o name apos) (e :: l) [] cpos) (eBM T s to t) :=
  pe_imp (pe_bm pa slot hty hm ho ha hbase hfew hline hst hplain) fun _ _ _ h => lift_bm hs h
/-- a write to a list of plain data, by a temp that is used up -/
theorem Cfg.wrL {H0 H : Hp} {f0 : Addr → Prop} {σ : St} {ds ds' : PSt} {vs : List V} {es : List D} {w : V} {y : D} {a : Addr} {xs ys : List PyData} {us : List V} (C : Cfg K H0 f0 H σ ds (w :: vs) (y :: es)) (W : Wr ds (.lst a xs) (.lst a ys) ds')
    (hr : ∀ H', (∀ b u, H b = some u → Imm u → H' b = some u) → RepPs K H' ys us) : Cfg K H0 f0 (upd H a (.lst us)) σ ds' vs es := by
  have tr : ∃ u, H a = some u ∧ ¬ Imm u := by
    obtain ⟨i, d, d', hd, s, _⟩ := id W
    obtain ⟨v, _, h⟩ := C.sl.get hd
    exact RepD.own d v h a (Nat.le_trans (root_own (t := .lst a xs) rfl) (s.sub.cnt a))
  have hm : ∀ u, H a = some u → ¬ Imm u := fun u e => by
    obtain ⟨u', e', n⟩ := tr
    rw [e] at e'; cases e'; exact n
  exact C.wr W rfl (fun _ _ _ => ⟨rfl, us, upd_same, hr _ (keep_upd hm)⟩) fun b => by show one b a ≤ one b a + cD b y; omega
/-- the list that a write is to -/
theorem Wr.there {H0 H : Hp} {f0 : Addr → Prop} {σ : St} {ds ds' : PSt} {vs : List V} {es : List D} {a : Addr} {xs : List PyData} {t' : D} (C : Cfg K H0 f0 H σ ds vs es) (W : Wr ds (.lst a xs) t' ds') : ∃ zs, H a = some (.lst zs) ∧ RepPs K H xs zs := by
  obtain ⟨i, d, d', hd, s, _⟩ := W
  obtain ⟨v, _, h⟩ := C.sl.get hd
  obtain ⟨w, _, zs, h1, h2⟩ := s.sub.rep h
  exact ⟨zs, h1, h2⟩
def sAppend : MSem := fun x as ds Q => ∃ a i π xs p, x = .bor a i π (.lst a xs) ∧ as = [.dat p] ∧ xs.length < 16777216 ∧ upS ds i π (.lst a xs) (.lst a (xs ++ [p])) (Q (.dat .none))
theorem one_ws {α β : Type} {xs : List α} {x : α} {ws : List β} (h : xs.length = ws.length) (e : xs = [x]) : ∃ w, ws = [w] := by
  subst e
  match ws, h with
  | [w], _ => exact ⟨w, rfl⟩
theorem two_ws {α β : Type} {xs : List α} {x y : α} {ws : List β} (h : xs.length = ws.length) (e : xs = [x, y]) : ∃ w u, ws = [w, u] := by
  subst e
  match ws, h with
  | [w, u], _ => exact ⟨w, u, rfl⟩
theorem push_none {H0 H : Hp} {f0 : Addr → Prop} {σ : St} {ds : PSt} {vs : List V} {es : List D} (C : Cfg K H0 f0 H σ ds vs es) : Cfg K H0 f0 H σ ds (.non :: vs) (.dat .none :: es) := C.push (d := .dat .none) rfl fun _ => rfl
theorem sem_append : SemM K sAppend rAppend := by
  intro H0 f0 H σ ds ws vs as es v x Qd Q C hl ⟨a, i, π, xs, p, ex, e, hz, up⟩ k
  obtain ⟨ds', W, q⟩ := up.wr
  obtain ⟨w, rfl⟩ := one_ws hl e
  subst ex e
  have C' : Cfg K H0 f0 H σ ds (w :: v :: vs) (.dat p :: .bor a i π (.lst a xs) :: es) := C
  obtain rfl : v = .ref a := C'.pop.top
  obtain ⟨zs, h1, h2⟩ := W.there C'
  have hp : RepP K H p w := C'.top
  refine ⟨a, zs, w, rfl, rfl, h1, by rw [← h2.len, sizeLine_eq]; exact hz, k _ _ _ _ (push_none (C'.wrL W fun H' kp => ?_).pop) q⟩
  exact (RepPs.keep kp _ _ h2).append ⟨w, [], rfl, RepP.keep kp _ _ hp, rfl⟩
def sInsert : MSem := fun x as ds Q => ∃ a s π xs i p, x = .bor a s π (.lst a xs) ∧ as = [.dat (.int i), .dat p] ∧ xs.length < 16777216 ∧ 0 ≤ i ∧ i < 2 ^ 63 ∧ upS ds s π (.lst a xs) (.lst a (xs.take i.toNat ++ [p] ++ xs.drop i.toNat)) (Q (.dat .none))
theorem sem_insert : SemM K sInsert (fun x vs H Q => ∃ (l : Addr) (xs : List V) (i : Int) (y : V), x = .ref l ∧ vs = [.int i, y] ∧ H l = some (.lst xs) ∧ xs.length < sizeLine ∧ 0 ≤ i ∧ i < 2 ^ 63 ∧
    Q .non (upd H l (.lst (xs.take i.toNat ++ [y] ++ xs.drop i.toNat)))) := by
  intro H0 f0 H σ ds ws vs as es v x Qd Q C hl ⟨a, s0, π, xs, i, p, ex, e, hz, h0, h63, up⟩ k
  obtain ⟨ds', W, q⟩ := up.wr
  obtain ⟨w, u, rfl⟩ := two_ws hl e
  subst ex e
  have C' : Cfg K H0 f0 H σ ds (w :: u :: v :: vs) (.dat (.int i) :: .dat p :: .bor a s0 π (.lst a xs) :: es) := C
  obtain rfl : w = .int i := C'.top
  obtain rfl : v = .ref a := C'.pop.pop.top
  have hp : RepP K H p u := C'.pop.top
  obtain ⟨zs, h1, h2⟩ := W.there C'
  refine ⟨a, zs, i, u, rfl, rfl, h1, by rw [← h2.len, sizeLine_eq]; exact hz, h0, h63, k _ _ _ _ (push_none (C'.pop.wrL W fun H' kp => ?_).pop) q⟩
  exact ((RepPs.take i.toNat (RepPs.keep kp _ _ h2)).append (show RepPs K H' [p] [u] from ⟨u, [], rfl, RepP.keep kp _ _ hp, rfl⟩)).append (RepPs.drop i.toNat (RepPs.keep kp _ _ h2))
/-- xs.extend(ys), ys a list -/
def sExtend : MSem := fun x as ds Q => ∃ a i π xs y b ys, x = .bor a i π (.lst a xs) ∧ as = [y] ∧ See ds y (.lst b ys) ∧ xs.length + ys.length ≤ 16777216 ∧ upS ds i π (.lst a xs) (.lst a (xs ++ ys)) (Q (.dat .none))
theorem sem_extend : SemM K sExtend rExtend := by
  intro H0 f0 H σ ds ws vs as es v x Qd Q C hl ⟨a, i, π, xs, y, b, ys, ex, e, s, hz, up⟩ k
  obtain ⟨ds', W, q⟩ := up.wr
  obtain ⟨w, rfl⟩ := one_ws hl e
  subst ex e
  have C' : Cfg K H0 f0 H σ ds (w :: v :: vs) (y :: .bor a i π (.lst a xs) :: es) := C
  obtain rfl : v = .ref a := C'.pop.top
  obtain ⟨zs, h1, h2⟩ := W.there C'
  obtain ⟨ew, us, h3, h4⟩ := s.rep C' C'.top
  subst ew
  refine ⟨a, b, zs, us, rfl, rfl, h1, h3, by rw [← h2.len, ← h4.len, sizeLine_eq]; exact hz, k _ _ _ _ (push_none (C'.wrL W fun H' kp => ?_).pop) q⟩
  exact (RepPs.keep kp _ _ h2).append (RepPs.keep kp _ _ h4)
/-! ### stores to an item -/
inductive SetT : D → D → D → D → Prop
  | lst {a : Addr} {xs : List PyData} {i : Int} {j : Nat} {p : PyData} : ixN xs.length i = some j → SetT (.lst a xs) (.dat (.int i)) (.dat p) (.lst a (xs.set j p))
  | own {a : Addr} {xs : List D} {i : Int} {j : Nat} {d : D} : ixN xs.length i = some j → SetT (.lsD a xs) (.dat (.int i)) d (.lsD a (xs.set j d))
  | key {a : Addr} {kvs : List (Key × PyData)} {k : Key} {p q : PyData} : p = keyP k → kvs.length < 16777216 → SetT (.dk a kvs) (.dat p) (.dat q) (.dk a (store kvs k q))
def gSubD (to ti : TEP) : TGP := fun d ds Q => to ds fun x ds1 => ti ds1 fun y ds2 => ∃ a i π t t', x = .bor a i π t ∧ root t = some a ∧ SetT t y d t' ∧ upS ds2 i π t t' Q
def rSetK : V → V → V → Hp → (Hp → Prop) → Prop := fun o i v H Q => ∃ a H', o = .ref a ∧ DPut H a i v H' ∧ Q H'
theorem set_dict (hu : X.A.units + 1 < cLine) : PSet X rSetK := by
  intro pins s σ H o i v ov iv u Q I ro ri rv ⟨a, H', e, g, q⟩
  subst e
  obtain rfl : ov = Value.ref a := ro
  exact d_setItem hu I g ri rv fun s4 I4 => ⟨H', I4, q⟩
theorem pset_or {r r' : TSet} (h : PSet X r) (h' : PSet X r') : PSet X (fun o i v H Q => r o i v H Q ∨ r' o i v H Q) := by
  intro pins s σ H o i v ov iv u Q I ro ri rv q
  rcases q with q | q
  · exact h pins s σ H o i v ov iv u Q I ro ri rv q
  · exact h' pins s σ H o i v ov iv u Q I ro ri rv q
theorem RepDs.setD : ∀ {H : Hp} {ds : List D} {vs : List V} {d : D} {v : V} (i : Nat), RepDs K H ds vs → RepD K H d v → RepDs K H (ds.set i d) (vs.set i v)
  | _, [], _, _, _, i, h, _ => by subst h; cases i <;> rfl
  | _, e :: ds, _, _, _, 0, ⟨w, r, q, h1, h2⟩, h => by subst q; exact ⟨_, _, rfl, h, h2⟩
  | _, e :: ds, _, _, _, i + 1, ⟨w, r, q, h1, h2⟩, h => by subst q; exact ⟨_, _, rfl, h1, RepDs.setD i h2 h⟩
theorem cDs_setLe (b : Addr) : ∀ (xs : List D) (j : Nat) (d : D), cDs b (xs.set j d) ≤ cDs b xs + cD b d
  | [], _, _ => Nat.zero_le _
  | x :: r, 0, d => by show cD b d + cDs b r ≤ (cD b x + cDs b r) + cD b d; omega
  | x :: r, j + 1, d => by
    have := cDs_setLe b r j d
    show cD b x + cDs b (r.set j d) ≤ (cD b x + cDs b r) + cD b d
    omega
theorem dg_sub {o i : Expr} {ti : TEP} {pos : Pos} (hu : X.A.units + 1 < cLine) (ho : PEd X o to) (hi : PEd X i ti)
    (ha : ∀ v, assign (.Subscript o i pos) X.env v = (do
      let ov ← holding [v] (eval o X.env)
      let iv ← holding [v, ov] (eval i X.env)
      standAt pos
      holding [v, ov, iv] (setItem ov iv v)
      release [v, ov, iv] []) := by intro _; rfl) : PGd X (.Subscript o i pos) [] (gSubD to ti) :=
  pg_imp (pg_sub (t := fun o i v H Q => rSetL o i v H Q ∨ rSetK o i v H Q) ho hi (pset_or set_list (set_dict hu)) ha) fun v σ H Q ⟨H0, f0, ds, vs, es, d, Qd, C, q, k⟩ =>
    ⟨H0, f0, ds, _, _, _, C, q, fun w x H1 ds1 C1 q1 => ⟨H0, f0, ds1, _, _, _, C1, q1, fun u y H2 ds2 C2 ⟨a, i0, π, t, t', ex, hr, hs, up⟩ => by
      obtain ⟨ds3, W, q2⟩ := up.wr
      subst ex
      obtain rfl : w = .ref a := C2.pop.top
      have C3 : Cfg (kw X) H0 f0 H2 σ ds2 (v :: vs) (d :: es) := C2.pop.pop
      obtain ⟨i', d0, d', hd, sw, _⟩ := id W
      obtain ⟨v0, _, h0⟩ := C3.sl.get hd
      obtain ⟨w0, ht0⟩ := sw.sub.rep h0
      have ht : RepD (kw X) H2 t (.ref a) := by rw [root_rep hr ht0] at ht0; exact ht0
      cases hs with
      | lst hj =>
        obtain ⟨_, zs, h1, h2⟩ := ht
        cases hr
        obtain rfl : u = .int _ := C2.top
        have hv : RepP (kw X) H2 _ v := C3.top
        refine .inl ⟨_, zs, _, _, rfl, rfl, h1, by rw [← h2.len]; exact hj, k σ _ ds3 (Keeps.refl _ _) (C3.wrL W fun H' kp => RepPs.set _ (RepPs.keep kp _ _ h2) (RepP.keep kp _ _ hv)) q2⟩
      | @own a0 xs i j d1 hj =>
        obtain ⟨_, zs, h1, h2⟩ := ht
        cases hr
        obtain rfl : u = .int _ := C2.top
        have hl : xs.length = zs.length := h2.len
        refine .inl ⟨_, zs, _, _, rfl, rfl, h1, by rw [← hl]; exact hj, k σ _ ds3 (Keeps.refl _ _) (C3.wr W rfl (fun r1 rc r2 => ?_) fun b => ?_) q2⟩
        · obtain ⟨_, zs', h3, h4⟩ := r1
          rw [h1] at h3; cases h3
          have hm : ∀ u, H2 a = some u → ¬ Imm u := fun u e => by rw [h1] at e; cases e; exact id
          refine ⟨rfl, _, upd_same, RepDs.setD _ (RepDs.keep (keep_upd hm) _ _ (fun b u hb e => ?_) h2) r2⟩
          by_cases z : b = a
          · subst z
            have := rc b
            have : one b b + cDs b xs ≤ 1 := this
            rw [one_same] at this
            omega
          · rw [upd_ne z]; exact e
        · have := cDs_setLe b xs j d
          show one b _ + cDs b (xs.set j d) ≤ (one b _ + cDs b xs) + cD b d
          omega
      | @key a0 kvs k0 p0 q0 hk hz =>
        obtain ⟨_, ws, h1, h2⟩ := ht
        cases hr
        subst hk
        have ek := keyP_rep (show RepP (kw X) H2 (keyP _) u from C2.top)
        subst ek
        have hv : RepP (kw X) H2 _ v := C3.top
        have hm : ∀ u, H2 _ = some u → ¬ Imm u := fun u e => by rw [h1] at e; cases e; exact id
        refine .inr ⟨_, _, rfl, DPut.k h1 (by rw [← h2.len, sizeLine_eq]; exact hz), k σ _ ds3 (Keeps.refl _ _) (C3.wr W rfl (fun _ _ _ => ⟨rfl, _, upd_same, ?_⟩) fun b => by show one b _ ≤ one b _ + cD b _; omega) q2⟩
        have keepKV : RepKV (kw X) (upd H2 a (.dK (putK ws k0 v))) kvs ws := RepKV.keep (keep_upd hm) _ _ h2
        exact RepKV.store k0 keepKV (RepP.keep (keep_upd hm) _ _ hv)⟩⟩
end
end PD
set_option Elab.async false
set_option linter.all false
set_option maxRecDepth 100000
set_option maxHeartbeats 2000000
/-! PD, extras at the library's level: enumerate of a tuple, t.index(x) of a tuple, len(set(t)). -/
namespace PD
open PySem L2

/-! ### enumerate(t), t a tuple -/
theorem meets_enumT (l : Addr) (items : Array Value) :
    Meets (Builtin.«enumerate.__new__» ⟨[.type "enumerate", .ref l], []⟩) (fun _ R s => s.heap.IsTuple l items ∧
      R (.ok (.ret (.ref (s.heap.push { cls := .type "tuple_iterator", data := .fields #[.ref l, .int 0 0] }).objs.size)))
        { s with heap := (s.heap.push { cls := .type "tuple_iterator", data := .fields #[.ref l, .int 0 0] }).push { cls := .type "enumerate", data := .fields #[.none, .bool false, .ref s.heap.objs.size, rawInt 0, .none, .none] } }) :=
  .of_wp fun prog w A R s h => by
    obtain ⟨hp, g, d, tk, os⟩ := s; obtain ⟨h1, h⟩ := h
    have hsub := sub_enumerate
    have q1 : ∀ {A' : Around} {E : Value → Shared → Prop} {Q : Value → Shared → Prop}, Q (.ref hp.objs.size) ⟨hp.push { cls := .type "tuple_iterator", data := .fields #[.ref l, .int 0 0] }, g, d, tk, os⟩ → wpAny (model prog w) A' (pyIter (.ref l)) Q E ⟨hp, g, d, tk, os⟩ :=
      fun q => (begins_tuple l items).iter prog w _ _ ⟨hp, g, d, tk, os⟩ _ h1 q
    wp_walk using q1
    refine wpAny_stack_any fun st => wpAny_pure ?_
    split
    · rename_i c _ _ _ _ _
      cases (c == Value.type "enumerate") <;> (wp_walk using q1; exact ⟨_, rfl, h⟩)
    · wp_walk using q1
      exact ⟨_, rfl, h⟩
section
variable {prog : Program} {w : World} {A : Around} {E : Value → Shared → Prop} {s : Shared}
theorem call_enumT {l : Addr} {items : Array Value} {Q : Value → Shared → Prop} (hL : s.heap.IsTuple l items)
    (h : ∀ h', IsEnum h' (s.heap.objs.size + 1) s.heap.objs.size 0 .none → h'.IsTupleIter s.heap.objs.size l 0 → h'.objs.size = s.heap.objs.size + 2 →
      (∀ b o, s.heap.get? b = some o → h'.get? b = some o) → Q (.ref (s.heap.objs.size + 1)) { s with heap := h' }) :
    wpAny (model prog w) A (call (.type "enumerate") [.ref l]) Q E s := by
  refine callType_new F.called_enumerate (by decide) (F.typeCall_enumerate_1 _) (F.newCall_enumerate_1 _) (fun obj => F.args_object_init_2 obj _) F.entry_enumerate_new (meets_enumT l items) ⟨hL, ?_⟩
  generalize hit : ({ cls := .type "tuple_iterator", data := .fields #[.ref l, .int 0 0] } : Obj) = oi
  have hf : oi.isFreed = false := by rw [← hit]; rfl
  have hz : (s.heap.push oi).objs.size = s.heap.objs.size + 1 := Heap.size_push ..
  show _ ∧ _
  rw [hz]
  have he : IsEnum ((s.heap.push oi).push { cls := .type "enumerate", data := .fields #[.none, .bool false, .ref s.heap.objs.size, rawInt 0, .none, .none] }) (s.heap.objs.size + 1) s.heap.objs.size 0 .none := by
    have := Heap.get?_push_size (s.heap.push oi) (o := { cls := .type "enumerate", data := .fields #[.none, .bool false, .ref s.heap.objs.size, rawInt 0, .none, .none] }) rfl
    rw [hz] at this
    exact this
  refine ⟨⟨_, he, rfl⟩, h _ he ⟨oi, Heap.get?_push_of_some _ (Heap.get?_push_size _ hf), (by subst hit; rfl), (by subst hit; rfl)⟩ (by rw [Heap.size_push, hz]) fun b o x => Heap.get?_push_of_some _ (Heap.get?_push_of_some _ x)⟩
end
/-- the tuple at a, the items in new pairs -/
def IteT (K : PySem.W.Frag) (a : Addr) : It :=
  ⟨fun i H => ∃ (xs : List V) (x : V), SqT K H a xs ∧ xs[i]? = some x, fun i H v H' => ∃ T x, v = .ref T ∧ H T = none ∧ H' = upd H T (.tup [.int (i : Nat), x]) ∧ ∀ xs, SqT K H a xs → xs[i]? = some x, fun i H => ∃ xs : List V, SqT K H a xs ∧ xs.length = i⟩
theorem turn_enumT {P : Program} {w : World} {K : PySem.W.Frag} {elts : List Expr} {kk : Nat} {tpos : Pos} (a e it : Addr) (ai : a ≠ it) :
    Turn P w K (.Tuple elts kk tpos) (IteT K a) [e, it] e (fun i h => (∃ old, IsEnum h e it ((i : Nat) : Int) old) ∧ h.IsTupleIter it a i ∧ e ≠ it) where
  mem := by simp
  obj := fun i h ⟨⟨old, he⟩, ⟨o, ho, hc, hd⟩, _⟩ b hb => by
    rcases (show b = e ∨ b = it by simpa using hb) with z | z
    · subst z; exact ⟨_, he, fun v q => nomatch q⟩
    · subst z; exact ⟨o, ho, fun v q => by rw [hd] at q; cases q⟩
  keep := fun i h h' ⟨⟨old, he⟩, hi, hne⟩ k => ⟨⟨old, k e (by simp) _ he⟩, hi.at fun o q => k it (by simp) o q, hne⟩
  item := by
    intro X hP hw hK hc i pins s σ H E I hf ⟨⟨old, he⟩, hit, hne⟩ ⟨xs, x, hq, hx⟩
    subst hP hw hK
    obtain ⟨its, rv, p, hz⟩ := I.tuple hq
    have p' : s.heap.IsTuple a its.toArray := p
    obtain ⟨u, hu, ru⟩ := rv.get hx
    have hi : i < its.toArray.size := by have := (List.getElem?_eq_some_iff.mp hu).1; simpa using this
    have hel : e < s.heap.objs.size := Heap.lt_size he
    have hil : it < s.heap.objs.size := by obtain ⟨_, q, _⟩ := hit; exact Heap.lt_size q
    have ae : e ≠ a := by
      rintro rfl
      obtain ⟨o', q1, q2, _⟩ := p
      have q3 : s.heap.get? e = _ := he
      rw [q3] at q1
      have q4 := Option.some.inj q1
      subst q4
      have q5 : Value.type "enumerate" = .type "tuple" := q2
      exact absurd q5 (by decide +kernel)
    have D := Draws.tuple (prog := X.prog) (w := X.w) (A := X.A.in1) (I.ok.hd hc) it a ai its.toArray
    refine wpAny_pyNext_enum_itemD D he ⟨hit, p'⟩ hi hne (by simp [hne, ae]) fun y h' tk hy ho hst hT hsz hk => ?_
    have ey : y = u := by
      have hy' : its.toArray[i]? = some y := hy
      rw [List.getElem?_toArray, hu] at hy'
      exact (Option.some.inj hy').symm
    subst ey
    refine ⟨_, rfl, wpAny_letOwnedTupleGo_enum (s := { s with heap := h', toks := tk + 1 }) ho fun h2 he2 sb => ?_⟩
    have hT2 : h2.get? s.heap.objs.size = some { cls := .type "tuple", data := .seq #[.int i tk, y] } := (sb.2 _ (Nat.ne_of_gt hel)).trans hT
    have new : ObjOk X.prog X.w (upd H s.heap.objs.size (.tup [.int (i : Nat), x])) h2 s.heap.objs.size (.tup [.int (i : Nat), x]) :=
      ⟨by show 2 ≤ sizeLine; decide, [.int i tk, y], .cons ⟨_, rfl⟩ (.cons ru .nil), ⟨_, hT2, rfl, _, rfl⟩⟩
    have keep : ∀ b ob, b ∉ [e, it] → s.heap.get? b = some ob → h2.get? b = some ob := fun b ob hb q => (sb.2 b (fun z => hb (by simp [z]))).trans (hk b ob (fun z => hb (by simp [z])) (fun z => hb (by simp [z])) q)
    have I1 : Inv X pins σ (upd H s.heap.objs.size (.tup [.int (i : Nat), x])) { s with heap := h2, toks := tk + 1 } := I.turnedNew (ch := [e, it]) keep hf (Nat.le_refl _) new
    refine ⟨.ref s.heap.objs.size, _, I1, rfl, ⟨_, x, rfl, I.hok.fresh (Nat.le_refl _), rfl, fun ys hy => by rw [I.tuple_inj hy hq]; exact hx⟩, ⟨⟨y, ?_⟩, hst.1.at fun o q => (sb.2 it (Ne.symm hne)).trans q, hne⟩, fun b hb => ?_⟩
    · have e1 : ((i + 1 : Nat) : Int) = (i : Int) + 1 := by omega
      rw [e1]; exact he2
    · have hb' : b < s.heap.objs.size := by
        rcases (show b = e ∨ b = it by simpa using hb) with z | z
        · subst z; exact hel
        · subst z; exact hil
      rw [upd_ne (Nat.ne_of_lt hb')]
      exact (hf b hb).1
  done := by
    intro X hP hw hK hc i pins s σ H E I hf ⟨⟨old, he⟩, hit, hne⟩ ⟨xs, hq, hx⟩
    subst hP hw hK
    obtain ⟨its, rv, p, hz⟩ := I.tuple hq
    have p' : s.heap.IsTuple a its.toArray := p
    obtain ⟨f0, f1, f2, f3, f4, f5⟩ := hf it (by simp)
    have D := Draws.tuple (prog := X.prog) (w := X.w) (A := X.A.in1) (I.ok.hd hc) it a ai its.toArray
    have en : i = its.toArray.size := by rw [← hx, rv.length, List.size_toArray]
    exact wpAny_pyNext_enum_endD D he ⟨by rw [← en]; exact hit, p'⟩ fun h' eb => ⟨rfl, I.turned (t' := s.toks) (fun b o hb q => eb b o hb q) f0 f1 f3 f4 f5⟩
  self := fun A i s Q E ⟨⟨_, he⟩, _⟩ h => wpAny_pyIter_enum he h
/-- enumerate of a list or a tuple, over pure data -/
def enumD : Nat → List PyData → List D
  | _, [] => []
  | i, p :: ps => .pr (.int (i : Nat)) p :: enumD (i + 1) ps
theorem enumD_len : ∀ (i : Nat) (ps : List PyData), (enumD i ps).length = ps.length
  | _, [] => rfl
  | i, p :: ps => by show (enumD (i + 1) ps).length + 1 = ps.length + 1; rw [enumD_len]
theorem enumD_get : ∀ (i : Nat) (ps : List PyData) (j : Nat), (enumD i ps)[j]? = ps[j]?.map fun p => .pr (.int ((i + j : Nat) : Int)) p
  | _, [], j => by simp [enumD]
  | i, p :: ps, 0 => by simp [enumD]
  | i, p :: ps, j + 1 => by
    show (enumD (i + 1) ps)[j]? = ps[j]?.map _
    rw [enumD_get (i + 1) ps j]
    congr 1
    funext q
    have : i + 1 + j = i + (j + 1) := by omega
    rw [this]
def iEnumD (t : TAP) : TIP := fun ds R => t ds fun as ds1 => ∃ x p xs, as = [x] ∧ x = .dat p ∧ p = .tuple xs ∧ R (enumD 0 xs) (fun _ => True) ds1
theorem Cfg.pair {K : KW} {H0 H : Hp} {f0 : Addr → Prop} {σ : St} {ds : PSt} {vs : List V} {es : List D} {T : Addr} {p q : PyData} {x y : V} (C : Cfg K H0 f0 H σ ds vs es) (hT : H T = none) (hp : RepP K H p x) (hq : RepP K H q y) :
    Cfg K H0 f0 (upd H T (.tup [x, y])) σ ds (.ref T :: vs) (.pr p q :: es) :=
  C.pushNew (grow_new hT) ⟨T, x, y, rfl, upd_same, RepP.keep (fun a u h _ => grow_new hT a u h) _ _ hp, RepP.keep (fun a u h _ => grow_new hT a u h) _ _ hq⟩ (fun a => Nat.zero_le _) fun a h => absurd (show 1 ≤ 0 from h) (by omega)
/-! ### t.index(x), t a tuple of flat data -/
def eTix (to te : TEP) : TEP := fun ds Q => to ds fun x ds1 => ∃ xs, x = .dat (.tuple xs) ∧ te ds1 fun y ds2 => ∃ p j z, y = .dat p ∧ flatP p = true ∧ xs.all flatP = true ∧ xs[j]? = some z ∧ PyData.eqv z p = true ∧ (∀ m z', m < j → xs[m]? = some z' → PyData.eqv z' p = false) ∧ Q (.dat (.int (j : Nat))) ds2
end PD
set_option Elab.async false
set_option linter.all false
set_option maxRecDepth 100000
set_option maxHeartbeats 2000000
/-! PD, ninth part: augmented names, + and * of lists and tuples, slices, ranges as values, len(set(..)). -/
namespace PD
open PySem L2
section
variable {X : Cx} {K : KW} {o e a b : Expr} {l : List Expr} {to ta tb te : TEP} {t : TAP} {pos p : Pos}
/-! ### + and * -/
def sAdd : BSem := fun x y ds Q => (∃ i j, x = .dat (.int i) ∧ y = .dat (.int j) ∧ Q (.dat (.int (i + j))) ds) ∨
  (∃ xs ys, x = .dat (.tuple xs) ∧ y = .dat (.tuple ys) ∧ xs.length + ys.length ≤ 16777216 ∧ Q (.dat (.tuple (xs ++ ys))) ds) ∨
  (∃ a xs b ys, See ds x (.lst a xs) ∧ See ds y (.lst b ys) ∧ xs.length + ys.length ≤ 16777216 ∧ ∀ c, Q (.lst c (xs ++ ys)) ds) ∨
  (∃ s t, x = .dat (.str s) ∧ y = .dat (.str t) ∧ s.length + t.length ≤ 16777216 ∧ Q (.dat (.str (s ++ t))) ds)
/-- t + u of tuples, the new one known by its object -/
def rCatF (K : PySem.W.Frag) : R2 := fun x y H Q => ∃ a b xs ys, x = .ref a ∧ y = .ref b ∧ SqT K H a xs ∧ SqT K H b ys ∧ xs.length + ys.length ≤ sizeLine ∧
  (xs = [] → Q (.ref b) H) ∧ (xs ≠ [] → ys = [] → Q (.ref a) H) ∧ (xs ≠ [] → ys ≠ [] → ∀ p o, H p = none → Plain o → Q (.ref p) (upd H p (.frz o (.tup (xs ++ ys)))))
theorem op_catF : OpR X (binaryOp .Add) (rCatF X.K) := by
  intro pins s σ H x y v u Q I rx ry ⟨a, b, xs, ys, ex, ey, ha, hb, hz, q0, q1, q2⟩
  subst ex ey
  by_cases hx : xs = []
  · exact op_catA pins s σ H _ _ v u Q I rx ry ⟨a, b, xs, ys, rfl, rfl, ha, hb, hz, q0, q1, fun h => absurd hx h⟩
  · by_cases hy : ys = []
    · exact op_catA pins s σ H _ _ v u Q I rx ry ⟨a, b, xs, ys, rfl, rfl, ha, hb, hz, q0, q1, fun _ h => absurd hy h⟩
    · obtain rfl : v = .ref a := rx
      obtain rfl : u = .ref b := ry
      obtain ⟨its, r1, p1, _⟩ := I.tuple ha
      obtain ⟨its2, r2, p2, _⟩ := I.tuple hb
      refine HT.cat_tup p1 p2 (fun z => hx (r1.nil_iff.mp z)) (fun z => absurd (r2.nil_iff.mp z) hy) (fun z => ?_) (by rw [← r1.length, ← r2.length]; exact hz)
      exact ⟨.ref _, _, Inv.ftup (tk := s.toks) I (r1.append r2) (by rw [List.length_append]; exact hz), rfl, q2 hx hy _ _ (I.hok.fresh (Nat.le_refl _)) ⟨rfl, rfl⟩⟩
theorem sem_add : Sem2 K sAdd (fun x y H Q => rI0 (fun i j => .int (i + j)) x y H Q ∨ rCatF K.K x y H Q ∨ rCat x y H Q ∨ (∃ i j, x = .str i ∧ y = .str j ∧ i.length + j.length ≤ sizeLine ∧ Q (.str (i ++ j)) H)) := by
  intro H0 f0 H σ ds v w vs x y es Qd Q C h k
  rcases h with ⟨i, j, e1, e2, q⟩ | ⟨xs, ys, e1, e2, hz, q⟩ | ⟨a, xs, b, ys, s1, s2, hz, q⟩ | ⟨s, t, e1, e2, hz, q⟩
  · exact .inl (sem_I0 (K := K) C ⟨i, j, e1, e2, q⟩ k)
  · subst e1 e2
    obtain ⟨b, us, ew, g1, g2⟩ := C.top
    obtain ⟨a, zs, ev, h1, h2⟩ := C.pop.top
    subst ev ew
    refine .inr (.inl ⟨a, b, zs, us, rfl, rfl, h1.sq, g1.sq, by rw [← h2.len, ← g2.len, sizeLine_eq]; exact hz, fun e => ?_, fun _ e => ?_, fun _ _ p o hp ho => k _ _ _ _ (C.pop.pop.newT hp ho (h2.append g2)) q⟩)
    · subst e
      have : xs = [] := by have := h2.len; cases xs with | nil => rfl | cons _ _ => cases this
      subst this
      exact k _ _ _ _ (C.pop.pop.push (d := .dat (.tuple _)) C.top fun _ => rfl) q
    · subst e
      have : ys = [] := by have := g2.len; cases ys with | nil => rfl | cons _ _ => cases this
      subst this
      rw [List.append_nil] at q
      exact k _ _ _ _ (C.pop.pop.push (d := .dat (.tuple _)) C.pop.top fun _ => rfl) q
  · obtain ⟨ev, zs, h1, h2⟩ := s1.rep C C.pop.top
    obtain ⟨ew, us, g1, g2⟩ := s2.rep C C.top
    subst ev ew
    exact .inr (.inr (.inl ⟨a, b, zs, us, rfl, rfl, h1, g1, by rw [← h2.len, ← g2.len, sizeLine_eq]; exact hz, fun p hp => k _ _ _ _ (C.pop.pop.newL hp (h2.append g2)) (q p)⟩))
  · subst e1 e2
    obtain rfl : w = .str t := C.top
    obtain rfl : v = .str s := C.pop.top
    exact .inr (.inr (.inr ⟨s, t, rfl, rfl, by rw [sizeLine_eq]; exact hz, k _ _ _ _ (C.pop.pop.push (d := .dat (.str _)) rfl fun _ => rfl) q⟩))
theorem d_add (ha : PEd X a ta) (hb : PEd X b tb) : PEd X (.BinOp a .Add b pos) (e2 sAdd ta tb) := d_op (op_add.or (op_catF.or (op_cat.or op_add_str))) sem_add ha hb
/-- xs * n of a list; ints -/
def sMul : BSem := fun x y ds Q => (∃ i j, x = .dat (.int i) ∧ y = .dat (.int j) ∧ CMul i j ∧ Q (.dat (.int (i * j))) ds) ∨
  (∃ a xs n, See ds x (.lst a xs) ∧ y = .dat (.int n) ∧ (0 ≤ n ∧ n < 2 ^ 63) ∧ xs.length * n.toNat ≤ 16777216 ∧ ∀ c, Q (.lst c (List.replicate n.toNat xs).flatten) ds)
theorem RepPs.rep {H : Hp} {xs : List PyData} {zs : List V} (r : RepPs K H xs zs) : ∀ n : Nat, RepPs K H (List.replicate n xs).flatten (List.replicate n zs).flatten
  | 0 => rfl
  | n + 1 => by
    rw [List.replicate_succ, List.replicate_succ, List.flatten_cons, List.flatten_cons]
    exact r.append (RepPs.rep r n)
theorem sem_mul : Sem2 K sMul (fun x y H Q => rI CMul (fun i j => .int (i * j)) x y H Q ∨ rRep x y H Q) := by
  intro H0 f0 H σ ds v w vs x y es Qd Q C h k
  rcases h with ⟨i, j, e1, e2, hc, q⟩ | ⟨a, xs, n, s1, e2, hn, hz, q⟩
  · exact .inl (sem_Ic (K := K) C ⟨i, j, e1, e2, hc, q⟩ k)
  · subst e2
    obtain rfl : w = .int n := C.top
    obtain ⟨ev, zs, h1, h2⟩ := s1.rep C C.pop.top
    subst ev
    exact .inr ⟨a, n, zs, rfl, rfl, h1, by omega, hn.2, by rw [← h2.len, sizeLine_eq]; exact hz, fun p hp => k _ _ _ _ (C.pop.pop.newL hp (h2.rep _)) (q p)⟩
theorem d_mul (ha : PEd X a ta) (hb : PEd X b tb) : PEd X (.BinOp a .Mult b pos) (e2 sMul ta tb) := d_op (op_mul.or op_rep) sem_mul ha hb
theorem d_sub (ha : PEd X a ta) (hb : PEd X b tb) : PEd X (.BinOp a .Sub b pos) (e2 (sI fun i j => .int (i - j)) ta tb) := d_op op_sub sem_I0 ha hb
/-- // and % by a positive divisor; // below 2 ^ 30 -/
theorem d_fdiv (ha : PEd X a ta) (hb : PEd X b tb) : PEd X (.BinOp a .FloorDiv b pos) (e2 (sIc CDiv fun i j => .int (i / j)) ta tb) := d_op op_fdiv sem_Ic ha hb
theorem d_mod (ha : PEd X a ta) (hb : PEd X b tb) : PEd X (.BinOp a .Mod b pos) (e2 (sIc (fun _ j => 0 < j) fun i j => .int (i % j)) ta tb) := d_op op_mod sem_Ic ha hb
theorem d_pow (ha : PEd X a ta) (hb : PEd X b tb) : PEd X (.BinOp a .Pow b pos) (e2 (sIc CPow fun i j => .int (i ^ j.toNat)) ta tb) := d_op op_pow sem_Ic ha hb
def eNeg (ta : TEP) : TEP := fun ds Q => ta ds fun x ds1 => ∃ i, x = .dat (.int i) ∧ Q (.dat (.int (-i))) ds1
theorem d_neg (ha : PEd X a ta) : PEd X (.UnaryOp .USub a pos) (eNeg ta) :=
  pe_imp (pe_un un_neg ha) fun σ H Q ⟨H0, f0, ds, vs, es, Qd, C, q, k⟩ => ⟨H0, f0, ds, vs, es, _, C, q, fun v x H1 ds1 C1 ⟨i, e, q1⟩ => by
    subst e
    obtain rfl : v = .int i := C1.top
    exact ⟨i, rfl, k _ _ _ _ (C1.pop.push (d := .dat (.int (-i))) (v := .int (-i)) rfl fun _ => rfl) q1⟩⟩

/-! ### slices -/
def cutP (xs : List PyData) (lo hi : Option Int) : List PyData := (xs.drop (HT.sIx xs.length 0 lo)).take (HT.sIx xs.length xs.length hi - HT.sIx xs.length 0 lo)
theorem cutP_rep {H : Hp} {xs : List PyData} {zs : List V} (r : RepPs K H xs zs) (lo hi : Option Int) : RepPs K H (cutP xs lo hi) (cutV zs lo hi) := by
  unfold cutP cutV
  rw [← r.len]
  exact (r.drop _).take _
abbrev TOP := PSt → (Option Int → PSt → Prop) → Prop
def liftO (K : KW) (t : TOP) : TO := fun σ H Q => ∃ H0 f0 ds vs es Qd, Cfg K H0 f0 H σ ds vs es ∧ t ds Qd ∧ ∀ o H' ds', Cfg K H0 f0 H' σ ds' vs es → Qd o ds' → Q o H'
def POd (X : Cx) (e : Option Expr) (t : TOP) : Prop := PO X e (liftO (kw X) t)
def oNone : TOP := fun ds Q => Q none ds
def oSome (te : TEP) : TOP := fun ds Q => te ds fun x ds1 => ∃ i, x = .dat (.int i) ∧ Q (some i) ds1
theorem po_imp {e : Option Expr} {t u : TO} (h : PO X e t) (k : ∀ σ H Q, u σ H Q → t σ H Q) : PO X e u := ⟨fun pins s σ H Q I q => h.run pins s σ H Q I (k _ _ _ q)⟩
theorem do_none : POd X none oNone := po_imp po_none fun σ H Q ⟨H0, f0, ds, vs, es, Qd, C, q, k⟩ => k _ _ _ C q
theorem do_some (h : PEd X e te) : POd X (some e) (oSome te) := po_imp (po_some h) fun σ H Q ⟨H0, f0, ds, vs, es, Qd, C, q, k⟩ => ⟨H0, f0, ds, vs, es, _, C, q, fun v x H1 ds1 C1 ⟨i, e1, q1⟩ => by
  subst e1
  exact ⟨i, C1.top, k _ _ _ C1.pop q1⟩⟩
def eSl (te : TEP) (tl th : TOP) : TEP := fun ds Q => te ds fun x ds1 => tl ds1 fun lo ds2 => th ds2 fun hi ds3 => ∃ t xs, See ds3 x t ∧ ((t = .dat (.tuple xs) ∧ Q (.dat (.tuple (cutP xs lo hi))) ds3) ∨ ∃ a, t = .lst a xs ∧ ∀ c, Q (.lst c (cutP xs lo hi)) ds3)
def rSlF (K : PySem.W.Frag) : V → Option Int → Option Int → Hp → VK → Prop := fun x lo hi H Q => ∃ a xs, x = .ref a ∧ SqT K H a xs ∧
  (HT.sIx xs.length 0 lo = 0 ∧ HT.sIx xs.length xs.length hi = xs.length → Q (.ref a) H) ∧ (¬ (HT.sIx xs.length 0 lo = 0 ∧ HT.sIx xs.length xs.length hi = xs.length) → ∀ p o, H p = none → Plain o → Q (.ref p) (upd H p (.frz o (.tup (cutV xs lo hi)))))
theorem sl_tupF : SlR X (rSlF X.K) := by
  intro pins s σ H x v vl vu lo hi sl Q I rx hs pl pu ⟨a, xs, ex, hx, q1, q2⟩
  subst ex
  by_cases hw : HT.sIx xs.length 0 lo = 0 ∧ HT.sIx xs.length xs.length hi = xs.length
  · exact sl_tupA pins s σ H _ v vl vu lo hi sl Q I rx hs pl pu ⟨a, xs, rfl, hx, q1, fun h => absurd hw h⟩
  · obtain rfl : v = .ref a := rx
    obtain ⟨its, r, ht, hz⟩ := I.tuple hx
    have hlen : its.toArray.size = xs.length := by rw [List.size_toArray]; exact r.length.symm
    refine ⟨"tuple", _, PyProof.Rows.slot_tuple_getitem.lookup, ht.typeIs, HT.getItem_tuple_cut ht hs pl pu (by rw [hlen]; exact hw) ?_ (by rw [hlen]; exact hz)⟩
    rw [hlen]
    exact ⟨.ref _, _, Inv.ftup (tk := s.toks) I ((r.drop _).take _) (Nat.le_trans (cutV_length xs lo hi) hz), rfl, q2 hw _ _ (I.hok.fresh (Nat.le_refl _)) ⟨rfl, rfl⟩⟩
theorem cut_whole {xs : List PyData} {lo hi : Option Int} (h : HT.sIx xs.length 0 lo = 0 ∧ HT.sIx xs.length xs.length hi = xs.length) : cutP xs lo hi = xs := by
  unfold cutP
  rw [h.1, h.2, List.drop_zero, Nat.sub_zero, List.take_length]
theorem d_sl {lo hi : Option Expr} {tl th : TOP} {p2 : Pos} (he : PEd X e te) (hl : POd X lo tl) (hh : POd X hi th) : PEd X (.Subscript e (.Slice lo hi none p2) pos) (eSl te tl th) :=
  pe_imp (pe_slice (sl_tupF.or sl_list) he hl hh) fun σ H Q ⟨H0, f0, ds, vs, es, Qd, C, q, k⟩ => ⟨H0, f0, ds, vs, es, _, C, q, fun v x H1 ds1 C1 q1 => ⟨H0, f0, ds1, _, _, _, C1, q1, fun l H2 ds2 C2 q2 => ⟨H0, f0, ds2, _, _, _, C2, q2, fun u H3 ds3 C3 ⟨t, xs, s, q3⟩ => by
    have r := s.rep C3 C3.top
    rcases q3 with ⟨et, q3⟩ | ⟨a, et, q3⟩
    · subst et
      obtain ⟨a, zs, ev, h1, h2⟩ := id r
      subst ev
      refine .inl ⟨a, zs, rfl, h1.sq, fun hw => ?_, fun _ p o hp ho => k _ _ _ _ (C3.pop.newT hp ho (cutP_rep h2 _ _)) q3⟩
      rw [← h2.len] at hw
      rw [cut_whole hw] at q3
      exact k _ _ _ _ (C3.pop.push (d := .dat (.tuple xs)) r fun _ => rfl) q3
    · subst et
      obtain ⟨ev, zs, h1, h2⟩ := r
      subst ev
      exact .inr ⟨a, zs, rfl, SqL.of h1, fun p hp => k _ _ _ _ (C3.pop.newL hp (cutP_rep h2 _ _)) (q3 p)⟩⟩⟩⟩

/-! ### list(range(..)), tuple(range(..)) -/
def rgOk (n : Int) : Prop := 0 ≤ n ∧ n ≤ 16777216
def eTupRg (te : TEP) : TEP := fun ds Q => te ds fun x ds1 => ∃ n, x = .dat (.int n) ∧ rgOk n ∧ Q (.dat (.tuple ((upto 0 n.toNat).map .int))) ds1
def eLstRg (te : TEP) : TEP := fun ds Q => te ds fun x ds1 => ∃ n, x = .dat (.int n) ∧ rgOk n ∧ ∀ a, Q (.lst a ((upto 0 n.toNat).map .int)) ds1
theorem rgV_rep {H : Hp} (n : Int) : RepPs K H ((upto 0 n.toNat).map .int) (rgV 0 n) := by
  have e : rgV 0 n = (upto 0 n.toNat).map V.int := by unfold rgV upto; rw [List.map_map, Int.sub_zero]; rfl
  rw [e]
  exact RepPs.of_ints _
def tTupRgF (te : St → Hp → (Int → Int → Hp → Prop) → Prop) : TE := fun σ H Q => te σ H fun a b H1 => RgOk a b ∧ ∀ q o, H1 q = none → Plain o → Q (.ref q) (upd H1 q (.frz o (.tup (rgV a b))))
theorem pe_tupRgF {te : St → Hp → (Int → Int → Hp → Prop) → Prop} (hc : X.calm = true) (hg : Gl X "tuple") (hm : X.mg "tuple" = none) (he : PRg X e te) (na : starEach [e] X.env = (false, eval e X.env) :: starEach [] X.env := by rfl) :
    PE X (.Call (.Name "tuple" p) [e] [] pos) (tTupRgF te) := by
  refine ⟨fun pins s σ H Q I h => PyProof.Rows.Call_ (ld_blt I hg hm PyProof.Rows.boot_tuple (PyProof.Rows.callWith_type1 (PyProof.Rows.args_cons (thn (he pins s σ H _ I h) fun x s1 ⟨r, a, b, t, u, v, H1, ex, hr, I1, ⟨b1, b2, b3, b4, b5⟩, q⟩ => PyProof.Rows.args_nil ?_) na) na))⟩
  subst ex
  refine call_tuple_range (n := (b - a).toNat) (I1.ok.hd hc) hr (small_one b1 b2 b3 b4) (PyProof.Rows.rangeSize_nat a b) b5 fun h' tk acc hk hi => ?_
  have I2 : Inv X pins σ H1 { s1 with heap := h', toks := tk } := I1.kept hk
  have hv : Vals (rgV a b) acc.toList := vals_rg hi
  have := Inv.ftup (tk := tk) I2 hv (by rw [rgV_length, sizeLine_eq]; omega)
  rw [Array.toArray_toList] at this
  exact ⟨.ref _, _, this, rfl, q _ _ (I2.hok.fresh (Nat.le_refl _)) ⟨rfl, rfl⟩⟩
theorem d_tupRg {q pos2 : Pos} (hc : X.calm = true) (hg : Gl X "tuple") (hm : X.mg "tuple" = none) (hg2 : Gl X "range") (hm2 : X.mg "range" = none) (ha : PEd X a ta) (na : starEach [a] X.env = (false, eval a X.env) :: starEach [] X.env := by rfl)
    (nb : starEach [.Call (.Name "range" q) [a] [] pos] X.env = (false, eval (.Call (.Name "range" q) [a] [] pos) X.env) :: starEach [] X.env := by rfl) : PEd X (.Call (.Name "tuple" p) [.Call (.Name "range" q) [a] [] pos] [] pos2) (eTupRg ta) :=
  pe_imp (pe_tupRgF hc hg hm (prg_1 hg2 hm2 ha na) nb) fun σ H Q ⟨H0, f0, ds, vs, es, Qd, C, q, k⟩ => ⟨H0, f0, ds, vs, es, _, C, q, fun v x H1 ds1 C1 ⟨n, e, hn, q1⟩ => by
    subst e
    exact ⟨n, C1.top, .of_le (by decide) hn.2 (by decide) hn.1, fun p o hp ho => k _ _ _ _ (C1.pop.newT hp ho (rgV_rep n)) q1⟩⟩
theorem d_lstRg {q pos2 : Pos} (hc : X.calm = true) (hg : Gl X "list") (hm : X.mg "list" = none) (hg2 : Gl X "range") (hm2 : X.mg "range" = none) (ha : PEd X a ta) (na : starEach [a] X.env = (false, eval a X.env) :: starEach [] X.env := by rfl)
    (nb : starEach [.Call (.Name "range" q) [a] [] pos] X.env = (false, eval (.Call (.Name "range" q) [a] [] pos) X.env) :: starEach [] X.env := by rfl) : PEd X (.Call (.Name "list" p) [.Call (.Name "range" q) [a] [] pos] [] pos2) (eLstRg ta) :=
  pe_imp (pe_listRg hc hg hm (prg_1 hg2 hm2 ha na) nb) fun σ H Q ⟨H0, f0, ds, vs, es, Qd, C, q, k⟩ => ⟨H0, f0, ds, vs, es, _, C, q, fun v x H1 ds1 C1 ⟨n, e, hn, q1⟩ => by
    subst e
    exact ⟨n, C1.top, .of_le (by decide) hn.2 (by decide) hn.1, fun p hp => k _ _ _ _ (C1.pop.newL hp (rgV_rep n)) (q1 p)⟩⟩

/-! ### len(set(t)), t a tuple of ints -/
def eLenSet (te : TEP) : TEP := fun ds Q => te ds fun x ds1 => ∃ ns : List Int, x = .dat (.tuple (ns.map .int)) ∧ ns.length ≤ 4000 ∧ ∀ ks : List Int, ks.Nodup → (∀ k, k ∈ ks ↔ k ∈ ns) → Q (.dat (.int (ks.length : Nat))) ds1
def tLenSet (K : PySem.W.Frag) (ta : TE) : TE := fun σ H Q => ta σ H fun x H1 => ∃ (l : Addr) (ns : List Int), x = .ref l ∧ SqT K H1 l (ns.map V.int) ∧ ns.length ≤ 4000 ∧ ∀ ks : List Int, ks.Nodup → (∀ k, k ∈ ks ↔ k ∈ ns) → Q (.int (ks.length : Nat)) H1
theorem pe_lenSetT {ta : TE} {p2 q : Pos} (hg : Gl X "len") (hm : X.mg "len" = none) (hg2 : Gl X "set") (hm2 : X.mg "set" = none) (ha : PE X a ta) (hc : X.calm = true := by rfl)
    (na : starEach [a] X.env = (false, eval a X.env) :: starEach [] X.env := by rfl) : PE X (.Call (.Name "len" p) [.Call (.Name "set" p2) [a] [] q] [] pos) (tLenSet X.K ta) := by
  refine ⟨fun pins s σ H Q I h => PyProof.Rows.Call_ (ld_blt I hg hm PySem.boot_len (PyProof.Rows.callWith_builtin1 (PyProof.Rows.args_cons (PyProof.Rows.Call_ (ld_blt I hg2 hm2 PyProof.Rows.boot_set ?_)) rfl) rfl rfl))⟩
  refine PyProof.Rows.callWith_type1 (PyProof.Rows.args_cons (thn (ha.run pins s σ H _ I h) fun v s1 ⟨x, H1, I1, r1, l, ns, ex, hq, hl, q1⟩ => PyProof.Rows.args_nil ?_) na) na rfl
  subst ex
  obtain rfl : v = .ref l := r1
  obtain ⟨its, r, pl, hz⟩ := I1.tuple hq
  have pt : s1.heap.IsTuple l its.toArray := pl
  refine call_set_tupI ns (I1.ok.hd hc) pt (by simpa using intsAre_of r) (by unfold scanBound; omega) fun h' tk c hS hc' hk => PyProof.Rows.args_nil ?_
  obtain ⟨o, es, ep, t, ho, hex, hd, hg, hnd, hm3, hb, hf, hn, _, _⟩ := hS
  have I2 : Inv X pins σ H1 { s1 with heap := h', toks := tk } := I1.kept hk
  have q2 := q1 (es.toList.map keyOf) hnd fun k => by rw [← hm3 k]; simp
  rw [List.length_map, Array.length_toList] at q2
  exact call_len_set ho hex hd hf (by have : es.size ≤ ns.length := by omega
                                      omega) ⟨.int (es.size : Nat), H1, I2.tok _, ⟨_, rfl⟩, q2⟩
theorem d_lenSet {p2 q : Pos} (hg : Gl X "len") (hm : X.mg "len" = none) (hg2 : Gl X "set") (hm2 : X.mg "set" = none) (ha : PEd X a ta) (hc : X.calm = true := by rfl)
    (na : starEach [a] X.env = (false, eval a X.env) :: starEach [] X.env := by rfl) : PEd X (.Call (.Name "len" p) [.Call (.Name "set" p2) [a] [] q] [] pos) (eLenSet ta) :=
  pe_imp (pe_lenSetT hg hm hg2 hm2 ha hc na) fun σ H Q ⟨H0, f0, ds, vs, es, Qd, C, q, k⟩ => ⟨H0, f0, ds, vs, es, _, C, q, fun v x H1 ds1 C1 ⟨ns, e, hn, q1⟩ => by
    subst e
    obtain ⟨a, zs, ev, h1, h2⟩ := C1.top
    subst ev
    have := h2.ints
    subst this
    exact ⟨a, ns, rfl, h1.sq, hn, fun ks k1 k2 => k _ _ _ _ (C1.pop.push (d := .dat (.int _)) rfl fun _ => rfl) (q1 ks k1 k2)⟩⟩
end
end PD
set_option Elab.async false
set_option linter.all false
set_option maxRecDepth 100000
set_option maxHeartbeats 2000000
/-! PD, tenth part: {}, xs.index, own functions in one word, small words for the printed terms. -/
namespace PD
open PySem L2
section
variable {X : Cx} {K : KW} {o e a b : Expr} {l : List Expr} {to ta tb te : TEP} {t : TAP} {pos p : Pos}
def eDict0 : TEP := fun ds Q => ∀ a, Q (.dk a []) ds
theorem d_dict0 : PEd X (.Dict [] [] pos) eDict0 :=
  pe_imp pe_dnewK fun σ H Q ⟨H0, f0, ds, vs, es, Qd, C, q, k⟩ p hp =>
    k (.ref p) (.dk p []) _ ds (C.pushNew (grow_new hp) ⟨rfl, [], upd_same, rfl⟩ (fun a => by show one a p ≤ 1; unfold one; split <;> omega) fun a h => by
      have := one_pos (show 1 ≤ one a p from h)
      subst this
      exact hp) (q p)
/-- an own function, as the top has made it -/
def Own (P : Program) (w : World) (K : PySem.W.Frag) (mg : Str → Option Value) (base : Heap) (k : Nat) (x : Str) (ps : List Str) (sp : SpD) : Prop :=
  ∃ f fd, FnOk P w K mg base CX0 k f fd ps (liftSp ⟨K, P, w⟩ sp) ∧ mg x = some (.ref f) ∧ PySem.W.keepIn K (.ref f) = true ∧ Binds K fd ps []
theorem d_fn {x : Str} {k : Nat} {ps : List Str} {sp : SpD} (O : Own X.prog X.w X.K X.mg X.base k x ps sp) (hr : Room k X.A) (hg : Gl X x) (ha : PAd X (e :: l) t) (hdb : (x == ("__debug__" : Str)) = false := by decide)
    (he : starEach (e :: l) X.env = (false, eval e X.env) :: starEach l X.env := by rfl) (hpl : (backTo pos (starEach l X.env)).any (·.1) = false := by rfl) :
    PEd X (.Call (.Name x p) (e :: l) [] pos) (eOwn sp t) := by
  obtain ⟨f, fd, F, hm, hk, hb⟩ := O
  exact d_own F hr hg hm hk hb ha hdb he hpl
theorem dv (i : Nat) {x : Str} {pos : Pos} (hN : X.N[i]? = some x := by rfl) (hv : Vis X.env.scope x := by first | exact Or.inl rfl | exact Or.inr (Or.inl rfl) | exact Or.inr (Or.inr rfl)) (hd : (x == ("__debug__" : Str)) = false := by decide)
    (hcd : (x == ("__classdict__" : Str)) = false := by decide) : PEd X (.Name x pos) (eVar i) := d_var hN hv hd hcd
theorem dm (i : Nat) {x : Str} {pos : Pos} (hN : X.N[i]? = some x := by rfl) (hv : Vis X.env.scope x := by first | exact Or.inl rfl | exact Or.inr (Or.inl rfl) | exact Or.inr (Or.inr rfl)) (hd : (x == ("__debug__" : Str)) = false := by decide)
    (hcd : (x == ("__classdict__" : Str)) = false := by decide) : PEd X (.Name x pos) (eOut i) := d_mv hN hv hd hcd
theorem dgn (i : Nat) {x : Str} {pos : Pos} (hN : X.N.Nodup) (hi : X.N[i]? = some x := by rfl) (hx : Loc X.env.scope x := by first | exact Or.inl rfl | exact Or.inr rfl) (hf : X.fn x = true ∨ X.env.scope.names.lookup x = some .local := by first | exact .inl rfl | exact .inr rfl) : PGd X (.Name x pos) [i] (gN i) :=
  dg_name hN hi hx hf
end
end PD
set_option Elab.async false
set_option linter.all false
set_option maxRecDepth 100000
set_option maxHeartbeats 2000000
/-! PD: words for the printed terms. -/
namespace PD
open PySem L2
theorem b_len : bootBuiltins "len" = some (.builtin "len") := by decide +kernel
theorem b_isinstance : bootBuiltins "isinstance" = some (.builtin "isinstance") := by decide +kernel
theorem b_all : bootBuiltins "all" = some (.builtin "all") := by decide +kernel
theorem b_abs : bootBuiltins "abs" = some (.builtin "abs") := by decide +kernel
theorem b_tuple : bootBuiltins "tuple" = some (.type "tuple") := by decide +kernel
theorem b_int : bootBuiltins "int" = some (.type "int") := by decide +kernel
theorem b_bool : bootBuiltins "bool" = some (.type "bool") := by decide +kernel
theorem b_str : bootBuiltins "str" = some (.type "str") := by decide +kernel
section
variable {X : Cx} {a b c e : Expr} {l : List Expr} {ta tb tc te : TEP} {t : TAP} {pos p : Pos}
theorem d_eq (hu : X.A.units + 64 < cLine) (ha : PEd X a ta) (hb : PEd X b tb) : PEd X (.Compare a [.Eq] [b] pos) (e2 sEq ta tb) := d_cmp (op_eqD hu) sem_eq ha hb (nomark _)
theorem dt_eq (hu : X.A.units + 64 < cLine) (ha : PEd X a ta) (hb : PEd X b tb) : PTd X (.Compare a [.Eq] [b] pos) (tBl (e2 sEq ta tb)) := dt_cmp (op_eqD hu) sem_eq ha hb (nomark _)
theorem dt_ne (hu : X.A.units + 64 < cLine) (ha : PEd X a ta) (hb : PEd X b tb) : PTd X (.Compare a [.NotEq] [b] pos) (tBl (e2 sNe ta tb)) := dt_cmp (op_neD hu) sem_ne ha hb (nomark _)
abbrev sLt : BSem := sI fun i j => .bool (decide (i < j))
abbrev sGt : BSem := sI fun i j => .bool (decide (j < i))
abbrev sGe : BSem := sI fun i j => .bool (decide (j ≤ i))
theorem dt_lt (ha : PEd X a ta) (hb : PEd X b tb) : PTd X (.Compare a [.Lt] [b] pos) (tBl (e2 sLt ta tb)) := dt_cmp op_lt sem_B0 ha hb (nomark _)
theorem dt_gt (ha : PEd X a ta) (hb : PEd X b tb) : PTd X (.Compare a [.Gt] [b] pos) (tBl (e2 sGt ta tb)) := dt_cmp op_gt sem_B0 ha hb (nomark _)
theorem dt_ge (ha : PEd X a ta) (hb : PEd X b tb) : PTd X (.Compare a [.GtE] [b] pos) (tBl (e2 sGe ta tb)) := dt_cmp op_ge sem_B0 ha hb (nomark _)
theorem hu1 (hu : X.A.units + 64 < cLine) : X.A.units + 1 < cLine := by omega
theorem d_in (hu : X.A.units + 64 < cLine) (ha : PEd X a ta) (hb : PEd X b tb) (hm : behindInMarks .In b = false) : PEd X (.Compare a [.In] [b] pos) (e2 (sInN false) ta tb) := d_cmp (op_in_seq.or (op_inK (hu1 hu))) sem_inN ha hb hm
theorem dt_in (hu : X.A.units + 64 < cLine) (ha : PEd X a ta) (hb : PEd X b tb) (hm : behindInMarks .In b = false) : PTd X (.Compare a [.In] [b] pos) (tBl (e2 (sInN false) ta tb)) := dt_cmp (op_in_seq.or (op_inK (hu1 hu))) sem_inN ha hb hm
theorem dt_nin (hu : X.A.units + 64 < cLine) (ha : PEd X a ta) (hb : PEd X b tb) (hm : behindInMarks .NotIn b = false) : PTd X (.Compare a [.NotIn] [b] pos) (tBl (e2 (sInN true) ta tb)) := dt_cmp (op_notIn_seq.or (op_notInK (hu1 hu))) sem_inN ha hb hm
theorem d_is (ha : PEd X a ta) (hb : PEd X b tb) : PEd X (.Compare a [.Is] [b] pos) (e2 sIs ta tb) := d_cmp (op_isN.or op_isBl) sem_is ha hb (nomark _)
end
end PD
set_option Elab.async false
set_option linter.all false
set_option maxRecDepth 100000
set_option maxHeartbeats 2000000
/-! PD: sorted of a list of tuples of ints, none of them empty, of any lengths. -/
namespace PDS
open PySem PyProof.Rows
section
variable {prog : Program} {w : World} {A : Around} {E : Value → Shared → Prop} {s : Shared}
end
end PDS
namespace PD
open PySem L2
section
variable {X : Cx} {K : KW}
end
end PD
set_option Elab.async false
set_option linter.all false
set_option maxRecDepth 100000
set_option maxHeartbeats 2000000
/-! PD: the readings as equations, for simp. -/
namespace PD
open PySem L2
section
variable {ds ds1 : PSt} {Q : D → PSt → Prop} {QT : Bool → PSt → Prop} {QA : List D → PSt → Prop} {k : PSt → Prop} {E : PEnds} {a b : Addr} {i j s n m : Nat} {π : List Stp} {d t t' x y : D} {xs ys : List PyData} {p q : PyData} {u v : Int} {ta tb tc te : TEP} {tA tB : TTP} {tr : TAP}
/-! a value's shape asked for, in words that simp can open -/
def BoolW (x : D) (R : Bool → Prop) : Prop := ∃ b, x = .dat (.bool b) ∧ R b
def IntW (x : D) (R : Int → Prop) : Prop := ∃ i, x = .dat (.int i) ∧ R i
def TupW (x : D) (R : List PyData → Prop) : Prop := ∃ xs, x = .dat (.tuple xs) ∧ R xs
def TruW (x : D) (ds : PSt) (R : Bool → Prop) : Prop := ∃ d b, See ds x d ∧ TruT d b ∧ R b
def As1I (as : List D) (R : Int → Prop) : Prop := ∃ n : Int, as = [.dat (.int n)] ∧ R n
def As2I (as : List D) (R : Int → Int → Prop) : Prop := ∃ m n : Int, as = [.dat (.int m), .dat (.int n)] ∧ R m n
def EnW (as : List D) (R : List PyData → Prop) : Prop := ∃ x p xs, as = [x] ∧ x = .dat p ∧ p = .tuple xs ∧ R xs
def Par2 (as : List D) (R : D → D → Prop) : Prop := ∃ a b, as = [a, b] ∧ R a b
def SlW (x : D) (ds : PSt) (lo hi : Option Int) (Q : D → PSt → Prop) : Prop := ∃ t xs, See ds x t ∧ ((t = .dat (.tuple xs) ∧ Q (.dat (.tuple (cutP xs lo hi))) ds) ∨ ∃ a, t = .lst a xs ∧ ∀ c, Q (.lst c (cutP xs lo hi)) ds)
def IsT (d : D) (n : Nat) (R : List D → Prop) : Prop := isTup d = true ∧ (parts d).length = n ∧ R (parts d)
/-! see -/
theorem ty_lst : TyM (.lst a xs) "list" ↔ True := ⟨fun _ => trivial, fun _ => rfl⟩
theorem ty_lsD {xs : List D} : TyM (.lsD a xs) "list" ↔ True := ⟨fun _ => trivial, fun _ => rfl⟩
theorem ty_dk {kvs : List (Key × PyData)} : TyM (.dk a kvs) "dict" ↔ True := ⟨fun _ => trivial, fun _ => rfl⟩
theorem getP_nil : getP d [] = some d := by cases d <;> rfl
theorem setP_nil : setP d [] t = some t := by cases d <;> rfl
theorem upS_nil : upS ds i [] t t' k ↔ ds[i]? = some (some t) ∧ k (ds.set i (some t')) := by
  unfold upS
  simp only [getP_nil, setP_nil, Option.some.injEq]
  constructor
  · rintro ⟨e, e', h1, rfl, rfl, h4⟩; exact ⟨h1, h4⟩
  · rintro ⟨h1, h4⟩; exact ⟨t, t', h1, rfl, rfl, h4⟩
theorem upS_it {xs : List D} : upS ds i [.it j] t t' k ↔ ∃ a xs, ds[i]? = some (some (.lsD a xs)) ∧ xs[j]? = some t ∧ k (ds.set i (some (.lsD a (xs.set j t')))) := by
  unfold upS
  constructor
  · rintro ⟨e, e', h1, h2, h3, h4⟩
    cases e with
    | lsD a xs =>
      simp only [getP, setP] at h2 h3
      split at h2
      · rename_i d hd
        rw [hd] at h3
        simp only [setP_nil, getP_nil] at h2 h3
        cases h2; cases h3
        exact ⟨a, xs, h1, hd, h4⟩
      · cases h2
    | _ => simp [getP] at h2
  · rintro ⟨a, xs, h1, h2, h3⟩
    refine ⟨_, _, h1, ?_, ?_, h3⟩
    · simp only [getP, h2, getP_nil]
    · simp only [setP, h2, setP_nil]
/-! values -/
theorem w_var : eVar i ds Q ↔ ∃ d, rdS ds i = some d ∧ Q d ds := Iff.rfl
theorem w_c : eC p ds Q ↔ Q (.dat p) ds := Iff.rfl
theorem w_raw {v : V} : eRaw v ds Q ↔ Q (.raw v) ds := Iff.rfl
theorem w_e2 {s : BSem} : e2 s ta tb ds Q ↔ ta ds fun x ds1 => tb ds1 fun y ds2 => s x y ds2 Q := Iff.rfl
theorem w_sI {g : Int → Int → PyData} : sI g (.dat (.int u)) (.dat (.int v)) ds Q ↔ Q (.dat (g u v)) ds :=
  ⟨fun ⟨i, j, e1, e2, h⟩ => by cases e1; cases e2; exact h, fun h => ⟨u, v, rfl, rfl, h⟩⟩
theorem w_sIc {C : Int → Int → Prop} {g : Int → Int → PyData} : sIc C g (.dat (.int u)) (.dat (.int v)) ds Q ↔ C u v ∧ Q (.dat (g u v)) ds :=
  ⟨fun ⟨i, j, e1, e2, c, h⟩ => by cases e1; cases e2; exact ⟨c, h⟩, fun ⟨c, h⟩ => ⟨u, v, rfl, rfl, c, h⟩⟩
theorem w_tBl : tBl te ds QT ↔ te ds fun x ds1 => BoolW x fun b => QT b ds1 := Iff.rfl
theorem w_boolW {b : Bool} {R : Bool → Prop} : BoolW (.dat (.bool b)) R ↔ R b := ⟨fun ⟨c, e, h⟩ => by cases e; exact h, fun h => ⟨b, rfl, h⟩⟩
theorem w_intW {R : Int → Prop} : IntW (.dat (.int u)) R ↔ R u := ⟨fun ⟨c, e, h⟩ => by cases e; exact h, fun h => ⟨u, rfl, h⟩⟩
theorem w_tupW {R : List PyData → Prop} : TupW (.dat (.tuple xs)) R ↔ R xs := ⟨fun ⟨c, e, h⟩ => by cases e; exact h, fun h => ⟨xs, rfl, h⟩⟩
theorem w_eq : sEq (.dat p) (.dat q) ds Q ↔ SeqAt.shaped p = true ∧ SeqAt.shaped q = true ∧ Q (.dat (.bool (PyData.eqv p q))) ds :=
  ⟨fun ⟨p', q', e1, e2, h⟩ => by obtain rfl : p' = p := e1; obtain rfl : q' = q := e2; exact h, fun h => ⟨p, q, rfl, rfl, h⟩⟩
theorem w_ne : sNe (.dat p) (.dat q) ds Q ↔ SeqAt.shaped p = true ∧ SeqAt.shaped q = true ∧ Q (.dat (.bool (!PyData.eqv p q))) ds :=
  ⟨fun ⟨p', q', e1, e2, h⟩ => by obtain rfl : p' = p := e1; obtain rfl : q' = q := e2; exact h, fun h => ⟨p, q, rfl, rfl, h⟩⟩
theorem pyd_lst : Pyd ds (.lst a xs) p ↔ p = .list xs :=
  ⟨fun ⟨ad, ys, s, e⟩ => by cases (show D.lst ad ys = .lst a xs from s); exact e, fun e => ⟨a, xs, rfl, e⟩⟩
theorem w_eqL : sEq (.lst a xs) (.lst b ys) ds Q ↔ SeqAt.shaped (.list xs) = true ∧ SeqAt.shaped (.list ys) = true ∧ Q (.dat (.bool (PyData.eqv (.list xs) (.list ys)))) ds :=
  ⟨fun ⟨p', q', e1, e2, h⟩ => by obtain rfl := pyd_lst.mp e1; obtain rfl := pyd_lst.mp e2; exact h, fun h => ⟨_, _, pyd_lst.mpr rfl, pyd_lst.mpr rfl, h⟩⟩
theorem w_neL : sNe (.lst a xs) (.lst b ys) ds Q ↔ SeqAt.shaped (.list xs) = true ∧ SeqAt.shaped (.list ys) = true ∧ Q (.dat (.bool (!PyData.eqv (.list xs) (.list ys)))) ds :=
  ⟨fun ⟨p', q', e1, e2, h⟩ => by obtain rfl := pyd_lst.mp e1; obtain rfl := pyd_lst.mp e2; exact h, fun h => ⟨_, _, pyd_lst.mpr rfl, pyd_lst.mpr rfl, h⟩⟩
theorem w_isN : sIs x (.dat .none) ds Q ↔ Q (.dat (.bool (isN x))) ds :=
  ⟨fun h => by rcases h with ⟨_, h⟩ | ⟨a, b, _, e, _⟩; exact h; (cases e), fun h => .inl ⟨rfl, h⟩⟩
theorem w_isNotN : sIsNot x (.dat .none) ds Q ↔ Q (.dat (.bool (!isN x))) ds :=
  ⟨fun h => by rcases h with ⟨_, h⟩ | ⟨a, b, _, e, _⟩; exact h; (cases e), fun h => .inl ⟨rfl, h⟩⟩
theorem w_isBB {b c : Bool} : sIs (.dat (.bool b)) (.dat (.bool c)) ds Q ↔ Q (.dat (.bool (decide (b = c)))) ds :=
  ⟨fun h => by rcases h with ⟨e, _⟩ | ⟨a, b, e1, e2, h⟩; cases e; cases e1; cases e2; exact h, fun h => .inr ⟨b, c, rfl, rfl, h⟩⟩
theorem w_isNotBB {b c : Bool} : sIsNot (.dat (.bool b)) (.dat (.bool c)) ds Q ↔ Q (.dat (.bool (!decide (b = c)))) ds :=
  ⟨fun h => by rcases h with ⟨e, _⟩ | ⟨a, b, e1, e2, h⟩; cases e; cases e1; cases e2; exact h, fun h => .inr ⟨b, c, rfl, rfl, h⟩⟩
/-! what is walked, asked, indexed: by what is seen -/
def SeeOk (ds : PSt) : D → Prop
  | .bor a i π d => root d = some a ∧ ∃ e, ds[i]? = some (some e) ∧ getP e π = some d
  | _ => True
def seen : D → D
  | .bor _ _ _ d => d
  | x => x
theorem see_iff : See ds x t ↔ t = seen x ∧ SeeOk ds x := by
  cases x <;> simp [See, seen, SeeOk]
theorem ex_see {R : D → Prop} : (∃ t, See ds x t ∧ R t) ↔ SeeOk ds x ∧ R (seen x) :=
  ⟨fun ⟨t, h, r⟩ => by obtain ⟨rfl, h2⟩ := see_iff.mp h; exact ⟨h2, r⟩, fun ⟨h, r⟩ => ⟨_, see_iff.mpr ⟨rfl, h⟩, r⟩⟩
theorem w_len : sLen x ds Q ↔ SeeOk ds x ∧ ∃ n, LenT (seen x) n ∧ Q (.dat (.int (n : Nat))) ds :=
  ⟨fun ⟨t, n, h, r⟩ => by obtain ⟨rfl, h2⟩ := see_iff.mp h; exact ⟨h2, n, r⟩, fun ⟨h, n, r⟩ => ⟨_, n, see_iff.mpr ⟨rfl, h⟩, r⟩⟩
theorem w_tupO : sTupO x ds Q ↔ SeeOk ds x ∧ ∃ xs, ItemsT (seen x) xs ∧ Q (.dat (.tuple xs)) ds :=
  ⟨fun ⟨t, n, h, r⟩ => by obtain ⟨rfl, h2⟩ := see_iff.mp h; exact ⟨h2, n, r⟩, fun ⟨h, n, r⟩ => ⟨_, n, see_iff.mpr ⟨rfl, h⟩, r⟩⟩
theorem w_lstO : sLstO x ds Q ↔ SeeOk ds x ∧ ∃ xs, ItemsT (seen x) xs ∧ ∀ a, Q (.lst a xs) ds :=
  ⟨fun ⟨t, n, h, r⟩ => by obtain ⟨rfl, h2⟩ := see_iff.mp h; exact ⟨h2, n, r⟩, fun ⟨h, n, r⟩ => ⟨_, n, see_iff.mpr ⟨rfl, h⟩, r⟩⟩
def SeqW (x : D) (ds : PSt) (R : List D → (PSt → Prop) → PSt → Prop) : Prop := ∃ t xs, See ds x t ∧ ItemsT t xs ∧ R (xs.map .dat) (fun ds2 => See ds2 x t) ds
theorem w_seq {R : List D → (PSt → Prop) → PSt → Prop} : iSeq te ds R ↔ te ds fun x ds1 => SeqW x ds1 R := Iff.rfl
theorem w_seqT {R : List D → (PSt → Prop) → PSt → Prop} : SeqW (.dat (.tuple xs)) ds R ↔ R (xs.map .dat) (fun _ => True) ds := by
  have e : (fun ds2 => See ds2 (.dat (.tuple xs)) (.dat (.tuple xs))) = fun _ => True := funext fun _ => propext ⟨fun _ => trivial, fun _ => rfl⟩
  constructor
  · rintro ⟨t, zs, h, i, r⟩
    obtain rfl : t = .dat (.tuple xs) := h
    obtain rfl : zs = xs := i
    rw [e] at r; exact r
  · intro r
    exact ⟨_, xs, rfl, rfl, by rw [e]; exact r⟩
theorem w_seqN {R : List D → (PSt → Prop) → PSt → Prop} : SeqW (.lst a xs) ds R ↔ R (xs.map .dat) (fun _ => True) ds := by
  have e : (fun ds2 => See ds2 (.lst a xs) (.lst a xs)) = fun _ => True := funext fun _ => propext ⟨fun _ => trivial, fun _ => rfl⟩
  constructor
  · rintro ⟨t, zs, h, i, r⟩
    obtain rfl : t = .lst a xs := h
    obtain rfl : zs = xs := i
    rw [e] at r; exact r
  · intro r
    exact ⟨_, xs, rfl, rfl, by rw [e]; exact r⟩
theorem w_seqLi {R : List D → (PSt → Prop) → PSt → Prop} : SeqW (.dat (.list xs)) ds R ↔ R (xs.map .dat) (fun _ => True) ds := by
  have e : (fun ds2 => See ds2 (.dat (.list xs)) (.dat (.list xs))) = fun _ => True := funext fun _ => propext ⟨fun _ => trivial, fun _ => rfl⟩
  constructor
  · rintro ⟨t, zs, h, i, r⟩
    obtain rfl : t = .dat (.list xs) := h
    obtain rfl : zs = xs := i
    rw [e] at r; exact r
  · intro r
    exact ⟨_, xs, rfl, rfl, by rw [e]; exact r⟩
theorem w_seqB {R : List D → (PSt → Prop) → PSt → Prop} : SeqW (.bor a i π (.lst b xs)) ds R ↔ SeeOk ds (.bor a i π (.lst b xs)) ∧ R (xs.map .dat) (fun ds2 => SeeOk ds2 (.bor a i π (.lst b xs))) ds := by
  have e : (fun ds2 => See ds2 (.bor a i π (.lst b xs)) (.lst b xs)) = fun ds2 => SeeOk ds2 (.bor a i π (.lst b xs)) := funext fun _ => propext ⟨fun h => h.2, fun h => ⟨rfl, h⟩⟩
  constructor
  · rintro ⟨t, zs, h, i, r⟩
    obtain ⟨rfl, h2⟩ := see_iff.mp h
    obtain rfl : zs = xs := i
    rw [← e]; exact ⟨h2, r⟩
  · intro ⟨h, r⟩
    exact ⟨_, xs, see_iff.mpr ⟨rfl, h⟩, rfl, by rw [← e] at r; exact r⟩
theorem seen_dat : seen (.dat p) = .dat p := rfl
theorem seen_lst : seen (.lst a xs) = .lst a xs := rfl
theorem seen_lsD {xs : List D} : seen (.lsD a xs) = .lsD a xs := rfl
theorem seen_dk {kvs : List (Key × PyData)} : seen (.dk a kvs) = .dk a kvs := rfl
theorem seen_bor : seen (.bor a i π d) = d := rfl
theorem ok_dat : SeeOk ds (.dat p) ↔ True := Iff.rfl
theorem ok_lst : SeeOk ds (.lst a xs) ↔ True := Iff.rfl
theorem ok_lsD {xs : List D} : SeeOk ds (.lsD a xs) ↔ True := Iff.rfl
theorem ok_dk {kvs : List (Key × PyData)} : SeeOk ds (.dk a kvs) ↔ True := Iff.rfl
theorem ok_bor : SeeOk ds (.bor a i π d) ↔ root d = some a ∧ ∃ e, ds[i]? = some (some e) ∧ getP e π = some d := Iff.rfl
theorem root_lst : root (.lst a xs) = some a := rfl
theorem root_lsD {xs : List D} : root (.lsD a xs) = some a := rfl
theorem root_dk {kvs : List (Key × PyData)} : root (.dk a kvs) = some a := rfl
theorem root_ins {c : Addr} {fs : List (Str × D)} : root (.ins a c fs) = some a := rfl
theorem ld_dat : ldAt i π (.dat p) = some (.dat p) := rfl
theorem ld_lst : ldAt i π (.lst a xs) = some (.bor a i π (.lst a xs)) := rfl
theorem ld_lsD {xs : List D} : ldAt i π (.lsD a xs) = some (.bor a i π (.lsD a xs)) := rfl
theorem ld_dk {kvs : List (Key × PyData)} : ldAt i π (.dk a kvs) = some (.bor a i π (.dk a kvs)) := rfl
theorem ld_bor {ρ : List Stp} : ldAt j ρ (.bor a i π d) = some (.bor a i π d) := rfl
theorem it_tup {zs : List PyData} : ItemsT (.dat (.tuple xs)) zs ↔ zs = xs := Iff.rfl
theorem it_list {zs : List PyData} : ItemsT (.dat (.list xs)) zs ↔ zs = xs := Iff.rfl
theorem it_lst {zs : List PyData} : ItemsT (.lst a xs) zs ↔ zs = xs := Iff.rfl
theorem w_lenT : sLen (.dat (.tuple xs)) ds Q ↔ Q (.dat (.int (xs.length : Nat))) ds := by
  rw [w_len]; exact ⟨fun ⟨_, n, h, q⟩ => by obtain rfl : n = xs.length := h; exact q, fun q => ⟨trivial, _, rfl, q⟩⟩
theorem w_lenL : sLen (.lst a xs) ds Q ↔ Q (.dat (.int (xs.length : Nat))) ds := by
  rw [w_len]; exact ⟨fun ⟨_, n, h, q⟩ => by obtain rfl : n = xs.length := h; exact q, fun q => ⟨trivial, _, rfl, q⟩⟩
theorem w_lenBL : sLen (.bor a i π (.lst b xs)) ds Q ↔ SeeOk ds (.bor a i π (.lst b xs)) ∧ Q (.dat (.int (xs.length : Nat))) ds := by
  rw [w_len]; exact ⟨fun ⟨h0, n, h, q⟩ => by obtain rfl : n = xs.length := h; exact ⟨h0, q⟩, fun ⟨h0, q⟩ => ⟨h0, _, rfl, q⟩⟩
theorem w_lenBD {xs : List D} : sLen (.bor a i π (.lsD b xs)) ds Q ↔ SeeOk ds (.bor a i π (.lsD b xs)) ∧ Q (.dat (.int (xs.length : Nat))) ds := by
  rw [w_len]; exact ⟨fun ⟨h0, n, h, q⟩ => by obtain rfl : n = xs.length := h; exact ⟨h0, q⟩, fun ⟨h0, q⟩ => ⟨h0, _, rfl, q⟩⟩
theorem w_ix : sIx x y ds Q ↔ SeeOk ds x ∧ ∃ d, IxT x (seen x) y d ∧ Q d ds :=
  ⟨fun ⟨t, n, h, r⟩ => by obtain ⟨rfl, h2⟩ := see_iff.mp h; exact ⟨h2, n, r⟩, fun ⟨h, n, r⟩ => ⟨_, n, see_iff.mpr ⟨rfl, h⟩, r⟩⟩
theorem ix_tupI : IxT x (.dat (.tuple xs)) (.dat (.int u)) d ↔ ∃ p, atI xs u = some p ∧ d = .dat p :=
  ⟨fun h => by cases h with
    | items hi hp => obtain rfl := hi; exact ⟨_, hp, rfl⟩
    | key g => (cases g), fun ⟨p, h, e⟩ => by subst e; exact .items (xs := xs) rfl h⟩
theorem ix_lstI : IxT x (.lst a xs) (.dat (.int u)) d ↔ ∃ p, atI xs u = some p ∧ d = .dat p :=
  ⟨fun h => by cases h with
    | items hi hp => obtain rfl := hi; exact ⟨_, hp, rfl⟩
    | key g => (cases g), fun ⟨p, h, e⟩ => by subst e; exact .items (xs := xs) rfl h⟩
theorem ix_ownI {xs : List D} : IxT (.bor a s π t) (.lsD b xs) (.dat (.int u)) d ↔ ∃ m d', ixN xs.length u = some m ∧ xs[m]? = some d' ∧ ldAt s (π ++ [.it m]) d' = some d :=
  ⟨fun h => by cases h with
    | items hi hp => exact hi.elim
    | own h1 h2 h3 => exact ⟨_, _, h1, h2, h3⟩
    | key g => (cases g), fun ⟨m, d', h1, h2, h3⟩ => .own h1 h2 h3⟩
theorem key_int {kvs : List (Key × PyData)} {o : Option PyData} : KeyAt (.dk a kvs) (.int u) o ↔ o = look kvs (.inl u) :=
  ⟨fun h => by cases h with
    | @k _ _ _ k _ e l => cases k with
      | inl i => cases e; exact l.symm
      | inr z => (cases e), fun h => .k (k := .inl u) rfl h.symm⟩
theorem ix_keyI {kvs : List (Key × PyData)} : IxT x (.dk a kvs) (.dat (.int u)) d ↔ ∃ q, look kvs (.inl u) = some q ∧ d = .dat q :=
  ⟨fun h => by cases h with
    | items hi hp => exact hi.elim
    | key g => exact ⟨_, (key_int.mp g).symm, rfl⟩, fun ⟨q, h, e⟩ => by subst e; exact .key (key_int.mpr h.symm)⟩
theorem w_in {neg : Bool} : sInN neg (.dat p) y ds Q ↔ SeeOk ds y ∧
  ((∃ xs, ItemsT (seen y) xs ∧ flatP p = true ∧ xs.all flatP = true ∧ Q (.dat (.bool (if neg then !(xs.any fun z => PyData.eqv z p) else (xs.any fun z => PyData.eqv z p)))) ds) ∨
   (∃ o, KeyAt (seen y) p o ∧ Q (.dat (.bool (if neg then !o.isSome else o.isSome))) ds)) :=
  ⟨fun ⟨p', t, e, h, r⟩ => by cases e; obtain ⟨rfl, h2⟩ := see_iff.mp h; exact ⟨h2, r⟩, fun ⟨h, r⟩ => ⟨p, _, rfl, see_iff.mpr ⟨rfl, h⟩, r⟩⟩
theorem w_inDk {neg : Bool} {kvs : List (Key × PyData)} (hs : seen y = .dk a kvs) : sInN neg (.dat (.int u)) y ds Q ↔ SeeOk ds y ∧ Q (.dat (.bool (if neg then !(look kvs (.inl u)).isSome else (look kvs (.inl u)).isSome))) ds := by
  rw [w_in, hs]
  constructor
  · rintro ⟨h, ⟨xs, hi, _⟩ | ⟨o, ho, q⟩⟩
    · exact hi.elim
    · obtain rfl := key_int.mp ho; exact ⟨h, q⟩
  · rintro ⟨h, q⟩
    exact ⟨h, .inr ⟨_, key_int.mpr rfl, q⟩⟩
theorem w_inDkB {neg : Bool} {kvs : List (Key × PyData)} : sInN neg (.dat (.int u)) (.bor b i π (.dk a kvs)) ds Q ↔ SeeOk ds (.bor b i π (.dk a kvs)) ∧ Q (.dat (.bool (if neg then !(look kvs (.inl u)).isSome else (look kvs (.inl u)).isSome))) ds := w_inDk rfl
theorem w_inTup {neg : Bool} : sInN neg (.dat p) (.dat (.tuple xs)) ds Q ↔ flatP p = true ∧ xs.all flatP = true ∧ Q (.dat (.bool (if neg then !(xs.any fun z => PyData.eqv z p) else (xs.any fun z => PyData.eqv z p)))) ds := by
  rw [w_in]
  constructor
  · rintro ⟨h, ⟨xs, hi, q⟩ | ⟨o, ho, q⟩⟩
    · obtain rfl : xs = _ := hi; exact q
    · cases ho
  · exact fun q => ⟨trivial, .inl ⟨_, rfl, q⟩⟩
theorem w_tru : tTru te ds QT ↔ te ds fun x ds1 => TruW x ds1 fun b => QT b ds1 := Iff.rfl
theorem w_truB {b : Bool} {R : Bool → Prop} : TruW (.dat (.bool b)) ds R ↔ R b :=
  ⟨fun ⟨d, c, e, h, q⟩ => by obtain rfl : d = _ := e; cases (show some b = some c from h); exact q, fun h => ⟨_, b, rfl, rfl, h⟩⟩
theorem w_truI {R : Bool → Prop} : TruW (.dat (.int u)) ds R ↔ R (u != 0) :=
  ⟨fun ⟨d, c, e, h, q⟩ => by obtain rfl : d = _ := e; cases (show some (u != 0) = some c from h); exact q, fun h => ⟨_, _, rfl, rfl, h⟩⟩
theorem w_truT {R : Bool → Prop} : TruW (.dat (.tuple xs)) ds R ↔ R (!xs.isEmpty) :=
  ⟨fun ⟨d, c, e, h, q⟩ => by obtain rfl : d = _ := e; cases (show some (!xs.isEmpty) = some c from h); exact q, fun h => ⟨_, _, rfl, rfl, h⟩⟩
theorem w_truL {R : Bool → Prop} : TruW (.bor a i π (.lst b xs)) ds R ↔ SeeOk ds (.bor a i π (.lst b xs)) ∧ R (!xs.isEmpty) :=
  ⟨fun ⟨d, c, e, h, q⟩ => by obtain ⟨rfl, h0⟩ := see_iff.mp e; cases (show c = !xs.isEmpty from h); exact ⟨h0, q⟩, fun ⟨h0, h⟩ => ⟨_, _, see_iff.mpr ⟨rfl, h0⟩, rfl, h⟩⟩
theorem w_truN {R : Bool → Prop} : TruW (.dat .none) ds R ↔ R false :=
  ⟨fun ⟨d, c, e, h, q⟩ => by obtain rfl : d = _ := e; cases (show some false = some c from h); exact q, fun h => ⟨_, _, rfl, rfl, h⟩⟩
theorem w_and : dAnd tA tB ds QT ↔ tA ds fun c ds1 => if c = true then tB ds1 QT else QT false ds1 := Iff.rfl
theorem w_or : dOr tA tB ds QT ↔ tA ds fun c ds1 => if c = true then QT true ds1 else tB ds1 QT := Iff.rfl
theorem w_not : dNot tA ds QT ↔ tA ds fun c ds1 => QT (!c) ds1 := Iff.rfl
theorem w_eAnd : eAnd ta tb ds Q ↔ ta ds fun x ds1 => BoolW x fun c => if c = true then tb ds1 Q else Q (.dat (.bool false)) ds1 := Iff.rfl
theorem w_eOr : eOr ta tb ds Q ↔ ta ds fun x ds1 => BoolW x fun c => if c = true then Q (.dat (.bool true)) ds1 else tb ds1 Q := Iff.rfl
theorem w_eNot : eNot ta ds Q ↔ ta ds fun x ds1 => BoolW x fun c => Q (.dat (.bool (!c))) ds1 := Iff.rfl


theorem w_if : eIf tA ta tb ds Q ↔ tA ds fun c ds1 => if c = true then ta ds1 Q else tb ds1 Q := Iff.rfl
theorem w_chain {g g' : Int → Int → Bool} : eChainI g g' ta tb tc ds Q ↔ ta ds fun x ds1 => tb ds1 fun y ds2 => As2I [x, y] fun i j => if g i j = true then tc ds2 fun z ds3 => IntW z fun k => Q (.dat (.bool (g' j k))) ds3 else Q (.dat (.bool false)) ds2 := by
  unfold eChainI As2I IntW
  simp only [List.cons.injEq, and_true, and_assoc]
theorem w_aNil : aNil ds QA ↔ QA [] ds := Iff.rfl
theorem w_aCons : aCons ta tr ds QA ↔ ta ds fun x ds1 => tr ds1 fun xs ds2 => QA (x :: xs) ds2 := Iff.rfl
theorem w_tup : eTup tr ds Q ↔ tr ds fun as ds1 => Nat.ble as.length 1000 = true ∧ mkT as Q ds1 := Iff.rfl
theorem w_lst : eLst tr ds Q ↔ tr ds fun as ds1 => Nat.ble as.length 1000 = true ∧ mkL as Q ds1 := Iff.rfl
theorem w_mkT0 : mkT [] Q ds ↔ Q (.dat (.tuple [])) ds := Iff.rfl
theorem w_mkT1 {p1 : PyData} : mkT [.dat p1] Q ds ↔ Q (.dat (.tuple [p1])) ds := Iff.rfl
theorem w_mkT2 {p1 p2 : PyData} : mkT [.dat p1, .dat p2] Q ds ↔ Q (.dat (.tuple [p1, p2])) ds := Iff.rfl
theorem w_mkT3 {p1 p2 p3 : PyData} : mkT [.dat p1, .dat p2, .dat p3] Q ds ↔ Q (.dat (.tuple [p1, p2, p3])) ds := Iff.rfl
theorem w_mkL0 : mkL [] Q ds ↔ ∀ a, Q (.lst a []) ds := Iff.rfl
theorem w_mkL1 {p1 : PyData} : mkL [.dat p1] Q ds ↔ ∀ a, Q (.lst a [p1]) ds := Iff.rfl
theorem w_mkL2 {p1 p2 : PyData} : mkL [.dat p1, .dat p2] Q ds ↔ ∀ a, Q (.lst a [p1, p2]) ds := Iff.rfl
theorem w_call {s : ASem} : eCall s tr ds Q ↔ tr ds fun as ds1 => s as ds1 Q := Iff.rfl
theorem w_s1 {s : D → PSt → (D → PSt → Prop) → Prop} : s1 s [x] ds Q ↔ s x ds Q := ⟨fun ⟨y, e, h⟩ => by cases e; exact h, fun h => ⟨x, rfl, h⟩⟩
theorem w_intF {g : Int → Int} : sIntF g (.dat (.int u)) ds Q ↔ Q (.dat (.int (g u))) ds := ⟨fun ⟨y, e, h⟩ => by cases e; exact h, fun h => ⟨u, rfl, h⟩⟩
theorem w_own {sp : SpD} : eOwn sp tr ds Q ↔ tr ds fun as ds1 => lendK as ds1 fun args ds2 => sp args fun d args' => backK as args' ds2 fun ds3 => Q d ds3 := Iff.rfl
theorem w_out : eOut i ds Q ↔ ∃ d, ds[i]? = some (some d) ∧ Q d (ds.set i none) := Iff.rfl
theorem w_neg : eNeg ta ds Q ↔ ta ds fun x ds1 => IntW x fun i => Q (.dat (.int (-i))) ds1 := Iff.rfl
theorem w_addI : sAdd (.dat (.int u)) (.dat (.int v)) ds Q ↔ Q (.dat (.int (u + v))) ds :=
  ⟨fun h => by
    rcases h with ⟨i, j, e1, e2, h⟩ | ⟨_, _, e, _⟩ | ⟨_, _, _, _, s, _⟩ | ⟨_, _, e, _⟩
    · cases e1; cases e2; exact h
    · cases e
    · cases (show D.lst _ _ = .dat (.int u) from s)
    · (cases e), fun h => .inl ⟨u, v, rfl, rfl, h⟩⟩
theorem w_addT : sAdd (.dat (.tuple xs)) (.dat (.tuple ys)) ds Q ↔ xs.length + ys.length ≤ 16777216 ∧ Q (.dat (.tuple (xs ++ ys))) ds :=
  ⟨fun h => by
    rcases h with ⟨i, j, e1, e2, h⟩ | ⟨_, _, e, e', h⟩ | ⟨_, _, _, _, s, _⟩ | ⟨_, _, e, _⟩
    · cases e1
    · cases e; cases e'; exact h
    · cases (show D.lst _ _ = .dat (.tuple xs) from s)
    · (cases e), fun h => .inr (.inl ⟨xs, ys, rfl, rfl, h⟩)⟩
theorem w_addL : sAdd (.lst a xs) (.lst b ys) ds Q ↔ xs.length + ys.length ≤ 16777216 ∧ ∀ c, Q (.lst c (xs ++ ys)) ds :=
  ⟨fun h => by
    rcases h with ⟨i, j, e1, e2, h⟩ | ⟨_, _, e, e', h⟩ | ⟨_, _, _, _, s, s', h⟩ | ⟨_, _, e, _⟩
    · cases e1
    · cases e
    · cases (show D.lst _ _ = .lst a xs from s); cases (show D.lst _ _ = .lst b ys from s'); exact h
    · (cases e), fun h => .inr (.inr (.inl ⟨a, xs, b, ys, rfl, rfl, h⟩))⟩
theorem w_mulI : sMul (.dat (.int u)) (.dat (.int v)) ds Q ↔ CMul u v ∧ Q (.dat (.int (u * v))) ds :=
  ⟨fun h => by
    rcases h with ⟨i, j, e1, e2, h⟩ | ⟨_, _, _, s, _⟩
    · cases e1; cases e2; exact h
    · (cases (show D.lst _ _ = .dat (.int u) from s)), fun h => .inl ⟨u, v, rfl, rfl, h⟩⟩
theorem w_mulL : sMul (.lst a xs) (.dat (.int v)) ds Q ↔ (0 ≤ v ∧ v < 2 ^ 63) ∧ xs.length * v.toNat ≤ 16777216 ∧ ∀ c, Q (.lst c (List.replicate v.toNat xs).flatten) ds :=
  ⟨fun h => by
    rcases h with ⟨i, j, e1, e2, h⟩ | ⟨_, _, _, s, e, h⟩
    · cases e1
    · cases (show D.lst _ _ = .lst a xs from s); cases e; exact h, fun h => .inr ⟨a, xs, v, rfl, rfl, h⟩⟩
theorem w_dict0 : eDict0 ds Q ↔ ∀ a, Q (.dk a []) ds := Iff.rfl
/-! lending -/
theorem w_lend0 {kk : List D → PSt → Prop} : lendK [] ds kk ↔ kk [] ds := Iff.rfl
theorem w_lendB {xs : List D} {kk : List D → PSt → Prop} : lendK (.bor a i π t :: xs) ds kk ↔ root t = some a ∧ upS ds i π t (.raw (.ref a)) fun ds' => lendK xs ds' fun r ds2 => kk (t :: r) ds2 := Iff.rfl
theorem w_lendD {xs : List D} {kk : List D → PSt → Prop} : lendK (.dat p :: xs) ds kk ↔ lendK xs ds fun r ds2 => kk (.dat p :: r) ds2 := Iff.rfl
theorem w_lendL {ys : List D} {kk : List D → PSt → Prop} : lendK (.lst a xs :: ys) ds kk ↔ lendK ys ds fun r ds2 => kk (.lst a xs :: r) ds2 := Iff.rfl
theorem w_back0 : backK [] [] ds k ↔ k ds := Iff.rfl
theorem w_backB {xs r : List D} : backK (.bor a i π t :: xs) (d :: r) ds k ↔ upS ds i π (.raw (.ref a)) d fun ds' => backK xs r ds' k := Iff.rfl
theorem w_backD {xs r : List D} : backK (.dat p :: xs) (d :: r) ds k ↔ backK xs r ds k := Iff.rfl
theorem w_backL {ys r : List D} : backK (.lst a xs :: ys) (d :: r) ds k ↔ backK ys r ds k := Iff.rfl
/-! slices, ranges -/
theorem w_sl {tl th : TOP} : eSl te tl th ds Q ↔ te ds fun x ds1 => tl ds1 fun lo ds2 => th ds2 fun hi ds3 => SlW x ds3 lo hi Q := Iff.rfl
theorem w_slT {lo hi : Option Int} : SlW (.dat (.tuple ys)) ds lo hi Q ↔ Q (.dat (.tuple (cutP ys lo hi))) ds :=
  ⟨fun ⟨t, xs, s, h⟩ => by
    obtain rfl : t = _ := s
    rcases h with ⟨e, h⟩ | ⟨a, e, h⟩
    · cases e; exact h
    · (cases e), fun h => ⟨_, _, rfl, .inl ⟨rfl, h⟩⟩⟩
theorem w_slL {lo hi : Option Int} : SlW (.bor a i π (.lst b ys)) ds lo hi Q ↔ SeeOk ds (.bor a i π (.lst b ys)) ∧ ∀ c, Q (.lst c (cutP ys lo hi)) ds :=
  ⟨fun ⟨t, xs, s, h⟩ => by
    obtain ⟨rfl, ok⟩ := see_iff.mp s
    rcases h with ⟨e, h⟩ | ⟨a, e, h⟩
    · cases e
    · cases e; exact ⟨ok, h⟩, fun ⟨ok, h⟩ => ⟨_, _, see_iff.mpr ⟨rfl, ok⟩, .inr ⟨_, rfl, h⟩⟩⟩
theorem w_oNone {QO : Option Int → PSt → Prop} : oNone ds QO ↔ QO none ds := Iff.rfl
theorem w_oSome {QO : Option Int → PSt → Prop} : oSome te ds QO ↔ te ds fun x ds1 => IntW x fun i => QO (some i) ds1 := Iff.rfl
theorem w_tupRg : eTupRg te ds Q ↔ te ds fun x ds1 => IntW x fun n => rgOk n ∧ Q (.dat (.tuple ((upto 0 n.toNat).map .int))) ds1 := Iff.rfl
theorem w_lstRg : eLstRg te ds Q ↔ te ds fun x ds1 => IntW x fun n => rgOk n ∧ ∀ a, Q (.lst a ((upto 0 n.toNat).map .int)) ds1 := Iff.rfl
theorem w_lenSet : eLenSet te ds Q ↔ te ds fun x ds1 => ∃ ns : List Int, x = .dat (.tuple (ns.map .int)) ∧ ns.length ≤ 4000 ∧ ∀ ks : List Int, ks.Nodup → (∀ k, k ∈ ks ↔ k ∈ ns) → Q (.dat (.int (ks.length : Nat))) ds1 := Iff.rfl
theorem w_tix : eTix ta te ds Q ↔ ta ds fun x ds1 => TupW x fun xs => te ds1 fun y ds2 => ∃ p j z, y = .dat p ∧ flatP p = true ∧ xs.all flatP = true ∧ xs[j]? = some z ∧ PyData.eqv z p = true ∧ (∀ m z', m < j → xs[m]? = some z' → PyData.eqv z' p = false) ∧ Q (.dat (.int (j : Nat))) ds2 := Iff.rfl
/-! methods -/
theorem w_bm {T : String} {ms : MSem} : eBM T ms ta tr ds Q ↔ ta ds fun x ds1 => (∃ d, See ds1 x d ∧ TyM d T) ∧ tr ds1 fun as ds2 => ms x as ds2 Q := Iff.rfl
theorem w_tyM {T : String} : (∃ d, See ds x d ∧ TyM d T) ↔ SeeOk ds x ∧ TyM (seen x) T := ex_see
theorem w_app : sAppend (.bor a i π (.lst b xs)) [.dat p] ds Q ↔ a = b ∧ xs.length < 16777216 ∧ upS ds i π (.lst a xs) (.lst a (xs ++ [p])) (Q (.dat .none)) :=
  ⟨fun ⟨a', i', π', xs', p', e, e2, h⟩ => by cases e; cases e2; exact ⟨rfl, h⟩, fun ⟨e, h⟩ => by subst e; exact ⟨a, i, π, xs, p, rfl, rfl, h⟩⟩
theorem w_insert : sInsert (.bor a i π (.lst b xs)) [.dat (.int u), .dat p] ds Q ↔ a = b ∧ xs.length < 16777216 ∧ 0 ≤ u ∧ u < 2 ^ 63 ∧ upS ds i π (.lst a xs) (.lst a (xs.take u.toNat ++ [p] ++ xs.drop u.toNat)) (Q (.dat .none)) :=
  ⟨fun ⟨a', i', π', xs', j', p', e, e2, h⟩ => by cases e; cases e2; exact ⟨rfl, h⟩, fun ⟨e, h⟩ => by subst e; exact ⟨a, i, π, xs, u, p, rfl, rfl, h⟩⟩
theorem w_extend {c : Addr} : sExtend (.bor a i π (.lst b xs)) [.lst c ys] ds Q ↔ a = b ∧ xs.length + ys.length ≤ 16777216 ∧ upS ds i π (.lst a xs) (.lst a (xs ++ ys)) (Q (.dat .none)) :=
  ⟨fun ⟨a', i', π', xs', y', b', ys', e, e2, s, h⟩ => by cases e; cases e2; cases (show D.lst b' ys' = .lst c ys from s); exact ⟨rfl, h⟩, fun ⟨e, h⟩ => by subst e; exact ⟨a, i, π, xs, _, c, ys, rfl, rfl, rfl, h⟩⟩
/-! statements -/
theorem w_next : tNextD E ds ↔ E.nx ds := Iff.rfl
theorem w_seqS {t u : TSP} : tSeqD t u E ds ↔ t ⟨fun ds1 => u E ds1, E.rt, E.bk, E.ct⟩ ds := Iff.rfl
theorem w_break : tBreakD E ds ↔ E.bk ds := Iff.rfl
theorem w_cont : tContD E ds ↔ E.ct ds := Iff.rfl
theorem w_drop : tDropD te E ds ↔ te ds fun _ ds1 => E.nx ds1 := Iff.rfl
theorem w_ret : tRetD te E ds ↔ te ds fun d ds1 => E.rt d ds1 := Iff.rfl
theorem w_ifS {t u : TSP} : tIfD tA t u E ds ↔ tA ds fun b ds1 => if b = true then t E ds1 else u E ds1 := Iff.rfl
theorem w_never : tNeverD E ds ↔ False := Iff.rfl
theorem w_asg {g : TGP} : tAsgD te g E ds ↔ te ds fun d ds1 => g d ds1 E.nx := Iff.rfl
theorem w_gN : gN i d ds k ↔ k (ds.set i (some d)) := Iff.rfl
theorem w_gT {g : TGPs} : gT n g d ds k ↔ IsT d n fun ps => g ps ds k := Iff.rfl
theorem w_isT {R : List D → Prop} : IsT (.dat (.tuple xs)) n R ↔ xs.length = n ∧ R (xs.map .dat) := ⟨fun ⟨_, h, r⟩ => ⟨by rw [← h]; exact (List.length_map ..).symm, r⟩, fun ⟨h, r⟩ => ⟨rfl, by rw [← h]; exact List.length_map .., r⟩⟩
theorem w_isTD {R : List D → Prop} {xs : List D} : IsT (.tpD xs) n R ↔ xs.length = n ∧ R xs := ⟨fun ⟨_, h, r⟩ => ⟨h, r⟩, fun ⟨h, r⟩ => ⟨rfl, h, r⟩⟩
theorem w_isTP {R : List D → Prop} : IsT (.pr p q) n R ↔ 2 = n ∧ R [.dat p, .dat q] := ⟨fun ⟨_, h, r⟩ => ⟨h, r⟩, fun ⟨h, r⟩ => ⟨rfl, h, r⟩⟩
theorem w_gs0 : gsNil [] ds k ↔ k ds := ⟨fun h => h.2, fun h => ⟨rfl, h⟩⟩
theorem w_gs1 {g : TGP} {r : TGPs} {xs : List D} : gsCons g r (x :: xs) ds k ↔ g x ds fun ds1 => r xs ds1 k := ⟨fun ⟨d, t, e, h⟩ => by cases e; exact h, fun h => ⟨x, xs, rfl, h⟩⟩
theorem w_par : tParD i j tr E ds ↔ tr ds fun as ds1 => Par2 as fun a b => E.nx ((ds1.set j (some b)).set i (some a)) := Iff.rfl
theorem w_par2 {R : D → D → Prop} : Par2 [x, y] R ↔ R x y := ⟨fun ⟨a, b, e, h⟩ => by cases e; exact h, fun h => ⟨x, y, rfl, h⟩⟩
def subS (x y d : D) (ds : PSt) (k : PSt → Prop) : Prop := ∃ a i π t t', x = .bor a i π t ∧ root t = some a ∧ SetT t y d t' ∧ upS ds i π t t' k
theorem w_gSub' : gSubD ta tb d ds k ↔ ta ds fun x ds1 => tb ds1 fun y ds2 => subS x y d ds2 k := Iff.rfl
theorem w_subL : subS (.bor a i π (.lst b xs)) (.dat (.int u)) (.dat p) ds k ↔ b = a ∧ ∃ j, ixN xs.length u = some j ∧ upS ds i π (.lst b xs) (.lst b (xs.set j p)) k :=
  ⟨fun ⟨a', i', π', t, t', e, r, h, q⟩ => by
    cases e
    cases h with
    | lst hj => cases r; exact ⟨rfl, _, hj, q⟩, fun ⟨e, j, h, q⟩ => by subst e; exact ⟨_, i, π, _, _, rfl, rfl, .lst h, q⟩⟩
theorem w_subO {xs : List D} : subS (.bor a i π (.lsD b xs)) (.dat (.int u)) d ds k ↔ b = a ∧ ∃ j, ixN xs.length u = some j ∧ upS ds i π (.lsD b xs) (.lsD b (xs.set j d)) k :=
  ⟨fun ⟨a', i', π', t, t', e, r, h, q⟩ => by
    cases e
    cases h with
    | own hj => cases r; exact ⟨rfl, _, hj, q⟩, fun ⟨e, j, h, q⟩ => by subst e; exact ⟨_, i, π, _, _, rfl, rfl, .own h, q⟩⟩
theorem w_subK {kvs : List (Key × PyData)} : subS (.bor a i π (.dk b kvs)) (.dat (.int u)) (.dat p) ds k ↔ b = a ∧ kvs.length < 16777216 ∧ upS ds i π (.dk b kvs) (.dk b (store kvs (.inl u) p)) k :=
  ⟨fun ⟨a', i', π', t, t', e, r, h, q⟩ => by
    cases e
    cases h with
    | @key _ _ k0 p0 _ e h2 => cases r; cases k0 with
      | inl i => cases e; exact ⟨rfl, h2, q⟩
      | inr z => (cases e), fun ⟨e, h, q⟩ => by subst e; exact ⟨_, i, π, _, _, rfl, rfl, .key (k := .inl u) rfl h, q⟩⟩
/-! loops -/
def ForW (items : List D) (ok : PSt → Prop) (g : TGP) (tb : TSP) (E : PEnds) (ds1 : PSt) : Prop := ∃ Iv : Nat → PSt → Prop, Iv 0 ds1 ∧ (∀ i ds, i ≤ items.length → Iv i ds → ok ds) ∧
  (∀ i p ds, items[i]? = some p → Iv i ds → g p ds fun ds2 => tb ⟨Iv (i + 1), E.rt, E.nx, Iv (i + 1)⟩ ds2) ∧ ∀ ds, Iv items.length ds → E.nx ds
theorem w_for {ti : TIP} {g : TGP} {tb : TSP} : tForD ti g tb E ds ↔ ti ds fun items ok ds1 => ForW items ok g tb E ds1 := Iff.rfl
def WhileW (c : TTP) (tb : TSP) (E : PEnds) (ds : PSt) : Prop := ∃ Iv : Nat → PSt → Prop, (∃ m, Iv m ds) ∧ ∀ m ds, Iv m ds → c ds fun b ds1 => if b = true then tb ⟨fun ds' => ∃ m', m' < m ∧ Iv m' ds', E.rt, E.nx, fun ds' => ∃ m', m' < m ∧ Iv m' ds'⟩ ds1 else E.nx ds1
theorem w_while {c : TTP} {tb : TSP} : tWhileD c tb E ds ↔ WhileW c tb E ds := Iff.rfl
def LcW (items : List D) (ok : PSt → Prop) (g : TGP) (tt : TTP) (te : TEP) (own : List Nat) (Q : D → PSt → Prop) (ds1 : PSt) : Prop := items.length ≤ 1000000 ∧ ∃ Iv : Nat → List PyData → PSt → Prop, Iv 0 [] ds1 ∧
  (∀ i acc s, i ≤ items.length → Iv i acc s → ok s ∧ acc.length ≤ i) ∧
  (∀ i p acc s, items[i]? = some p → Iv i acc s → g p (wipeD s own) fun s2 => tt s2 fun b s3 => if b = true then te s3 fun y s4 => ∃ q, y = .dat q ∧ Iv (i + 1) (acc ++ [q]) (restore s s4 own) else Iv (i + 1) acc (restore s s3 own)) ∧
  ∀ acc s, Iv items.length acc s → ∀ a, Q (.lst a acc) s
theorem w_lc {ti : TIP} {g : TGP} {tt : TTP} {own : List Nat} : tLcD ti g tt te own ds Q ↔ ti ds fun items ok ds1 => LcW items ok g tt te own Q ds1 := Iff.rfl
theorem w_rg1 {R : List D → (PSt → Prop) → PSt → Prop} : iRg1 tr ds R ↔ tr ds fun as ds1 => As1I as fun n => (n < 2 ^ 62 ∧ -(2 ^ 62) ≤ n) ∧ R ((upto 0 n.toNat).map fun j => .dat (.int j)) (fun _ => True) ds1 := Iff.rfl
theorem w_as1I {R : Int → Prop} : As1I [.dat (.int u)] R ↔ R u := ⟨fun ⟨c, e, h⟩ => by cases e; exact h, fun h => ⟨u, rfl, h⟩⟩
theorem w_rg2 {R : List D → (PSt → Prop) → PSt → Prop} : iRg2 tr ds R ↔ tr ds fun as ds1 => As2I as fun m n => (-(2 ^ 62) ≤ m ∧ m < 2 ^ 62 ∧ -(2 ^ 62) ≤ n ∧ n < 2 ^ 62) ∧ R ((upto m (n - m).toNat).map fun j => .dat (.int j)) (fun _ => True) ds1 := Iff.rfl
theorem w_as2I {R : Int → Int → Prop} : As2I [.dat (.int u), .dat (.int v)] R ↔ R u v := ⟨fun ⟨c, d, e, h⟩ => by cases e; exact h, fun h => ⟨u, v, rfl, h⟩⟩
theorem w_enum {R : List D → (PSt → Prop) → PSt → Prop} : iEnumD tr ds R ↔ tr ds fun as ds1 => EnW as fun xs => R (enumD 0 xs) (fun _ => True) ds1 := Iff.rfl
theorem w_enW {R : List PyData → Prop} : EnW [.dat (.tuple xs)] R ↔ R xs := ⟨fun ⟨x, p, zs, e1, e2, e3, h⟩ => by subst e2 e3; cases e1; exact h, fun h => ⟨_, _, _, rfl, rfl, rfl, h⟩⟩
/-! comprehensions that leave the state as it is; loops by the items behind them -/
theorem lc_filter {α : Type} {items : List D} {ok : PSt → Prop} {g : TGP} {tt : TTP} {own : List Nat} (L : List α) (c : α → D) (P : α → Bool) (r : α → PyData) (hi : items = L.map c) (hz : L.length ≤ 1000000) (hok : ok ds)
    (hs : ∀ x ∈ L, ∀ (k1 : D → PSt → Prop) (k2 : PSt → Prop), (P x = true → ∀ s', restore ds s' own = ds → k1 (.dat (r x)) s') → (P x = false → ∀ s', restore ds s' own = ds → k2 s') → g (c x) (wipeD ds own) fun s2 => tt s2 fun b s3 => if b = true then te s3 k1 else k2 s3)
    (hq : ∀ a, Q (.lst a ((L.filter P).map r)) ds) : LcW items ok g tt te own Q ds := by
  subst hi
  refine ⟨by rwa [List.length_map], fun i acc s => i ≤ L.length ∧ s = ds ∧ acc = ((L.take i).filter P).map r, ⟨Nat.zero_le _, rfl, by simp⟩, fun i acc s _ ⟨_, e, ea⟩ => ?_, fun i p acc s hp ⟨hi, e, ea⟩ => ?_, fun acc s ⟨_, e, ea⟩ a => ?_⟩
  · subst e ea
    refine ⟨hok, ?_⟩
    rw [List.length_map]
    exact Nat.le_trans (List.length_filter_le ..) (by rw [List.length_take]; omega)
  · subst e ea
    rw [List.getElem?_map] at hp
    cases hx : L[i]? with
    | none => rw [hx] at hp; cases hp
    | some x =>
      rw [hx] at hp
      cases hp
      have hi : i < L.length := (List.getElem?_eq_some_iff.mp hx).1
      have et : L.take (i + 1) = L.take i ++ [x] := by rw [List.take_add_one, hx]; rfl
      refine hs x (List.mem_of_getElem? hx) _ _ (fun hP s' e' => ⟨_, rfl, hi, e', ?_⟩) (fun hP s' e' => ⟨hi, e', ?_⟩)
      · rw [et, List.filter_append, List.map_append]; simp [hP]
      · rw [et, List.filter_append, List.map_append]; simp [hP]
  · subst e ea
    rw [List.length_map, List.take_length]
    exact hq a
theorem lc_all {α : Type} {items : List D} {ok : PSt → Prop} {g : TGP} {own : List Nat} (L : List α) (c : α → D) (r : α → PyData) (hi : items = L.map c) (hz : L.length ≤ 1000000) (hok : ok ds)
    (hs : ∀ x ∈ L, ∀ k1 : D → PSt → Prop, (∀ s', restore ds s' own = ds → k1 (.dat (r x)) s') → g (c x) (wipeD ds own) fun s2 => te s2 k1)
    (hq : ∀ a, Q (.lst a (L.map r)) ds) : LcW items ok g tYesD te own Q ds := by
  refine lc_filter L c (fun _ => true) r hi hz hok (fun x hx k1 k2 h1 h2 => ?_) fun a => ?_
  · show g (c x) (wipeD ds own) fun s2 => te s2 k1
    exact hs x hx k1 (h1 rfl)
  · rw [List.filter_eq_self.mpr fun _ _ => rfl]; exact hq a
theorem for_pre {α : Type} {items : List D} {ok : PSt → Prop} {g : TGP} {tb : TSP} (L : List α) (c : α → D) (I : List α → PSt → Prop) (hi : items = L.map c) (h0 : I [] ds) (hok : ∀ pre s, I pre s → ok s)
    (hs : ∀ pre x post s, L = pre ++ x :: post → I pre s → g (c x) s fun s2 => tb ⟨I (pre ++ [x]), E.rt, E.nx, I (pre ++ [x])⟩ s2) (hq : ∀ s, I L s → E.nx s) : ForW items ok g tb E ds := by
  subst hi
  refine ⟨fun i s => i ≤ L.length ∧ I (L.take i) s, ⟨Nat.zero_le _, by simpa using h0⟩, fun i s _ h => hok _ s h.2, fun i p s hp ⟨_, h⟩ => ?_, fun s ⟨_, h⟩ => hq s (by simpa using h)⟩
  rw [List.getElem?_map] at hp
  cases hx : L[i]? with
  | none => rw [hx] at hp; cases hp
  | some x =>
    rw [hx] at hp
    cases hp
    obtain ⟨hi, hx'⟩ := List.getElem?_eq_some_iff.mp hx
    have et : L.take (i + 1) = L.take i ++ [x] := by rw [List.take_add_one, hx]; rfl
    have := hs (L.take i) x (L.drop (i + 1)) s (by rw [← hx']; simp) h
    have e1 : (fun s => i + 1 ≤ L.length ∧ I (L.take (i + 1)) s) = I (L.take i ++ [x]) := funext fun s => propext (by rw [et]; exact ⟨fun h => h.2, fun h => ⟨hi, h⟩⟩)
    show g (c x) s fun ds2 => tb ⟨fun s => i + 1 ≤ L.length ∧ I (L.take (i + 1)) s, E.rt, E.nx, fun s => i + 1 ≤ L.length ∧ I (L.take (i + 1)) s⟩ ds2
    rw [e1]
    exact this
end
end PD
/-! Plain mathematics: turnings as lists of numbers, what they do again and again, their rounds. -/
namespace PM
theorem php : ∀ (n : Nat) (l : List Nat), l.Nodup → (∀ x ∈ l, x < n) → l.length ≤ n
  | 0, l, _, h => by
    cases l with
    | nil => exact Nat.le_refl _
    | cons x r => exact absurd (h x List.mem_cons_self) (Nat.not_lt_zero _)
  | n + 1, l, hn, h => by
    have h1 := php n (l.erase n) (hn.erase n) fun x hx => by
      have h2 := h x (List.mem_of_mem_erase hx)
      have : x ≠ n := fun e => by subst e; exact (List.Nodup.mem_erase_iff hn).mp hx |>.1 rfl
      omega
    rw [List.length_erase] at h1
    split at h1 <;> omega
def ap (p : List Nat) (x : Nat) : Nat := p.getD x 0
structure IsP (p : List Nat) : Prop where
  nd : p.Nodup
  lt : ∀ x ∈ p, x < p.length
theorem IsP.mem {p : List Nat} (h : IsP p) {y : Nat} (hy : y < p.length) : y ∈ p := by
  refine Classical.byContradiction fun q => ?_
  have := php p.length (y :: p) (List.nodup_cons.mpr ⟨q, h.nd⟩) fun x hx => by
    rcases List.mem_cons.mp hx with rfl | hx
    · exact hy
    · exact h.lt x hx
  simp at this
  omega
theorem IsP.of_perm {p : List Nat} {n : Nat} (h : p.Perm (List.range n)) : IsP p ∧ p.length = n := by
  have hl : p.length = n := by rw [h.length_eq, List.length_range]
  exact ⟨⟨h.nodup_iff.mpr List.nodup_range, fun x hx => by rw [hl]; exact List.mem_range.mp (h.mem_iff.mp hx)⟩, hl⟩
theorem ap_get {p : List Nat} {x : Nat} (h : x < p.length) : p[x]? = some (ap p x) := by
  unfold ap
  rw [List.getD_eq_getElem?_getD, List.getElem?_eq_getElem h]; rfl
theorem ap_mem {p : List Nat} {x : Nat} (h : x < p.length) : ap p x ∈ p := List.mem_of_getElem? (ap_get h)
theorem IsP.ap_lt {p : List Nat} (h : IsP p) {x : Nat} (hx : x < p.length) : ap p x < p.length := h.lt _ (ap_mem hx)
theorem IsP.inj {p : List Nat} (h : IsP p) {x y : Nat} (hx : x < p.length) (hy : y < p.length) (e : ap p x = ap p y) : x = y := by
  have h1 := ap_get hx
  have h2 := ap_get hy
  rw [← e] at h2
  exact (List.getElem?_inj hx h.nd).mp (h1.trans h2.symm)
theorem ext_ap {p q : List Nat} (hl : p.length = q.length) (h : ∀ x, x < p.length → ap p x = ap q x) : p = q := by
  refine List.ext_getElem? fun i => ?_
  by_cases hi : i < p.length
  · rw [ap_get hi, ap_get (by omega), h i hi]
  · rw [List.getElem?_eq_none (by omega), List.getElem?_eq_none (by omega)]
def put (p q : List Nat) : List Nat := p.map (ap q)
theorem put_len (p q : List Nat) : (put p q).length = p.length := List.length_map ..
theorem ap_put {p q : List Nat} {x : Nat} (h : x < p.length) : ap (put p q) x = ap q (ap p x) := by
  have h1 : (put p q)[x]? = some (ap q (ap p x)) := by unfold put; rw [List.getElem?_map, ap_get h]; rfl
  rw [ap_get (by rw [put_len]; exact h)] at h1
  exact Option.some.inj h1
theorem isP_of {p : List Nat} (n : Nat) (hl : p.length = n) (h1 : ∀ x, x < n → ap p x < n) (h2 : ∀ x y, x < n → y < n → ap p x = ap p y → x = y) : IsP p := by
  subst hl
  refine ⟨List.nodup_iff_pairwise_ne.mpr (List.pairwise_iff_getElem.mpr fun i j hi hj hij e => ?_), fun x hx => ?_⟩
  · have := h2 i j hi hj (by
      have a := ap_get hi; have b := ap_get hj
      rw [List.getElem?_eq_getElem hi] at a; rw [List.getElem?_eq_getElem hj] at b
      rw [← Option.some.inj a, ← Option.some.inj b]; exact e)
    omega
  · obtain ⟨i, hi, e⟩ := List.getElem_of_mem hx
    have a := ap_get hi
    rw [List.getElem?_eq_getElem hi, e] at a
    rw [Option.some.inj a]
    exact h1 i hi
theorem IsP.puts {p q : List Nat} (hp : IsP p) (hq : IsP q) (hl : p.length = q.length) : IsP (put p q) :=
  isP_of p.length (put_len p q) (fun x hx => by rw [ap_put hx, hl]; exact hq.ap_lt (by rw [← hl]; exact hp.ap_lt hx)) fun x y hx hy e => by
    rw [ap_put hx, ap_put hy] at e
    exact hp.inj hx hy (hq.inj (by rw [← hl]; exact hp.ap_lt hx) (by rw [← hl]; exact hp.ap_lt hy) e)
theorem ap_range {n x : Nat} (h : x < n) : ap (List.range n) x = x := by
  have := ap_get (p := List.range n) (x := x) (by simpa using h)
  rw [List.getElem?_range h] at this
  exact (Option.some.inj this).symm
theorem isP_range (n : Nat) : IsP (List.range n) := ⟨List.nodup_range, fun x hx => by rw [List.length_range]; exact List.mem_range.mp hx⟩
/-- back -/
def bk (p : List Nat) : List Nat := (List.range p.length).map fun y => p.idxOf y
theorem bk_len (p : List Nat) : (bk p).length = p.length := by unfold bk; rw [List.length_map, List.length_range]
theorem ap_bk {p : List Nat} {y : Nat} (h : y < p.length) : ap (bk p) y = p.idxOf y := by
  have h1 : (bk p)[y]? = some (p.idxOf y) := by unfold bk; rw [List.getElem?_map, List.getElem?_range h]; rfl
  rw [ap_get (by rw [bk_len]; exact h)] at h1
  exact Option.some.inj h1
theorem IsP.ap_ap_bk {p : List Nat} (hp : IsP p) {y : Nat} (h : y < p.length) : ap p (ap (bk p) y) = y ∧ ap (bk p) y < p.length := by
  rw [ap_bk h]
  have hi : p.idxOf y < p.length := List.idxOf_lt_length_iff.mpr (hp.mem h)
  have a := ap_get hi
  rw [List.getElem?_eq_getElem hi, List.getElem_idxOf] at a
  exact ⟨(Option.some.inj a).symm, hi⟩
theorem IsP.bks {p : List Nat} (hp : IsP p) : IsP (bk p) :=
  isP_of p.length (bk_len p) (fun x hx => (hp.ap_ap_bk hx).2) fun x y hx hy e => by rw [← (hp.ap_ap_bk hx).1, e, (hp.ap_ap_bk hy).1]
/-! again and again -/
def it (f : Nat → Nat) : Nat → Nat → Nat
  | 0, x => x
  | m + 1, x => f (it f m x)
theorem it_add (f : Nat → Nat) : ∀ a b x, it f (a + b) x = it f a (it f b x)
  | 0, b, x => by rw [Nat.zero_add]; rfl
  | a + 1, b, x => by
    rw [show a + 1 + b = (a + b) + 1 by omega]
    show f (it f (a + b) x) = f (it f a (it f b x))
    rw [it_add f a b x]
theorem it_comm (f : Nat → Nat) (a b x : Nat) : it f a (it f b x) = it f b (it f a x) := by rw [← it_add, ← it_add, Nat.add_comm]
theorem it_fix {f : Nat → Nat} {x : Nat} {a : Nat} (h : it f a x = x) : ∀ b, it f (a * b) x = x
  | 0 => rfl
  | b + 1 => by rw [Nat.mul_succ, it_add, h, it_fix h b]
/-- f turns the numbers below n -/
structure Trn (n : Nat) (f : Nat → Nat) : Prop where
  lt : ∀ x, x < n → f x < n
  inj : ∀ x y, x < n → y < n → f x = f y → x = y
theorem IsP.trn {p : List Nat} (h : IsP p) : Trn p.length (ap p) := ⟨fun _ => h.ap_lt, fun _ _ => h.inj⟩
section
variable {n : Nat} {f g : Nat → Nat}
theorem Trn.it_lt (T : Trn n f) {x : Nat} (hx : x < n) : ∀ m, it f m x < n
  | 0 => hx
  | m + 1 => T.lt _ (T.it_lt hx m)
theorem Trn.it_inj (T : Trn n f) {x y : Nat} (hx : x < n) (hy : y < n) : ∀ m, it f m x = it f m y → x = y
  | 0, e => e
  | m + 1, e => T.it_inj hx hy m (T.inj _ _ (T.it_lt hx m) (T.it_lt hy m) e)
theorem Trn.cancel (T : Trn n f) {x : Nat} (hx : x < n) {a b : Nat} (h : a ≤ b) (e : it f a x = it f b x) : it f (b - a) x = x := by
  have e2 : it f a (it f (b - a) x) = it f a x := by rw [← it_add, show a + (b - a) = b by omega, e]
  exact T.it_inj (T.it_lt hx _) hx a e2
theorem Trn.returns (T : Trn n f) {x : Nat} (hx : x < n) : ∃ m, m < n ∧ it f (m + 1) x = x := by
  refine Classical.byContradiction fun q => ?_
  have nd : ((List.range (n + 1)).map fun i => it f i x).Nodup := by
    refine List.nodup_iff_pairwise_ne.mpr (List.pairwise_map.mpr ((List.pairwise_lt_range (n := n + 1)).imp_of_mem fun {a b} ha hb hab e => q ⟨b - a - 1, ?_, ?_⟩))
    · have := List.mem_range.mp hb; omega
    · rw [show b - a - 1 + 1 = b - a by omega]
      exact T.cancel hx (Nat.le_of_lt hab) e
  have := php n _ nd fun y hy => by
    obtain ⟨i, _, rfl⟩ := List.mem_map.mp hy
    exact T.it_lt hx i
  simp at this
  omega
/-- after how many steps x is back -/
def per (n : Nat) (f : Nat → Nat) (x : Nat) : Nat := ((List.range n).find? fun m => it f (m + 1) x == x).getD 0 + 1
theorem per_pos : 0 < per n f x := Nat.succ_pos _
theorem Trn.per_spec (T : Trn n f) {x : Nat} (hx : x < n) : it f (per n f x) x = x ∧ per n f x ≤ n ∧ ∀ m, 0 < m → m < per n f x → it f m x ≠ x := by
  unfold per
  cases e : (List.range n).find? (fun m => it f (m + 1) x == x) with
  | none =>
    obtain ⟨m, hm, h⟩ := T.returns hx
    have := List.find?_eq_none.mp e m (List.mem_range.mpr hm)
    simp [h] at this
  | some k =>
    have h1 : it f (k + 1) x = x := by simpa using List.find?_some e
    have h2 : k < n := List.mem_range.mp (List.mem_of_find?_eq_some e)
    refine ⟨h1, h2, fun m h0 hm em => ?_⟩
    obtain ⟨_, as, bs, eq, hno⟩ := List.find?_eq_some_iff_append.mp e
    have hm' : m < k + 1 := hm
    have hk : k = as.length := by
      have hle : as.length < n := by have := congrArg List.length eq; simp at this; omega
      have := congrArg (fun l : List Nat => l[as.length]?) eq
      simp only [List.getElem?_range hle, List.getElem?_append_right (Nat.le_refl _), Nat.sub_self, List.getElem?_cons_zero] at this
      exact (Option.some.inj this).symm
    have hm2 : m - 1 ∈ as := by
      have : (List.range n)[m - 1]? = some (m - 1) := List.getElem?_range (by omega)
      rw [eq, List.getElem?_append_left (by omega)] at this
      exact List.mem_of_getElem? this
    have := hno _ hm2
    rw [show m - 1 + 1 = m by omega] at this
    simp [em] at this
theorem Trn.per_dvd (T : Trn n f) {x : Nat} (hx : x < n) {m : Nat} : it f m x = x ↔ per n f x ∣ m := by
  obtain ⟨h1, _, h3⟩ := T.per_spec hx
  constructor
  · intro e
    refine Nat.dvd_of_mod_eq_zero (Classical.byContradiction fun q => ?_)
    have e2 : it f (m % per n f x) x = x := by
      have : it f m x = it f (m % per n f x) (it f (per n f x * (m / per n f x)) x) := by rw [← it_add, Nat.mod_add_div]
      rw [it_fix h1] at this
      rw [← this, e]
    exact h3 _ (Nat.pos_of_ne_zero q) (Nat.mod_lt _ per_pos) e2
  · rintro ⟨k, rfl⟩
    exact it_fix h1 k
theorem Trn.per_uniq (T : Trn n f) {x : Nat} (hx : x < n) {k : Nat} (h : ∀ m, it f m x = x ↔ k ∣ m) : per n f x = k :=
  Nat.dvd_antisymm ((T.per_dvd hx).mp ((h k).mpr (Nat.dvd_refl _))) ((h _).mp (T.per_spec hx).1)
/-- the round of x -/
def cyc (n : Nat) (f : Nat → Nat) (x : Nat) : List Nat := (List.range (per n f x)).map fun i => it f i x
theorem cyc_len (x : Nat) : (cyc n f x).length = per n f x := by unfold cyc; rw [List.length_map, List.length_range]
theorem Trn.mem_cyc (T : Trn n f) {x y : Nat} (hx : x < n) : y ∈ cyc n f x ↔ ∃ i, it f i x = y := by
  unfold cyc
  constructor
  · intro h; obtain ⟨i, _, e⟩ := List.mem_map.mp h; exact ⟨i, e⟩
  · rintro ⟨i, rfl⟩
    refine List.mem_map.mpr ⟨i % per n f x, List.mem_range.mpr (Nat.mod_lt _ per_pos), ?_⟩
    have : it f i x = it f (i % per n f x) (it f (per n f x * (i / per n f x)) x) := by rw [← it_add, Nat.mod_add_div]
    rw [it_fix (T.per_spec hx).1] at this
    exact this.symm
theorem Trn.cyc_nodup (T : Trn n f) {x : Nat} (hx : x < n) : (cyc n f x).Nodup := by
  unfold cyc
  refine List.nodup_iff_pairwise_ne.mpr (List.pairwise_map.mpr ((List.pairwise_lt_range (n := per n f x)).imp_of_mem fun {a b} ha hb hab e => ?_))
  have hb' := List.mem_range.mp hb
  exact (T.per_spec hx).2.2 (b - a) (by omega) (by omega) (T.cancel hx (Nat.le_of_lt hab) e)
theorem Trn.cyc_lt (T : Trn n f) {x y : Nat} (hx : x < n) (h : y ∈ cyc n f x) : y < n := by
  obtain ⟨i, rfl⟩ := (T.mem_cyc hx).mp h
  exact T.it_lt hx i
theorem Trn.back (T : Trn n f) {x y : Nat} (hx : x < n) (h : y ∈ cyc n f x) : x ∈ cyc n f y := by
  have hy := T.cyc_lt hx h
  obtain ⟨i, hi0, rfl⟩ := List.mem_map.mp h
  have hi := List.mem_range.mp hi0
  refine (T.mem_cyc hy).mpr ⟨per n f x - i, ?_⟩
  rw [← it_add, show per n f x - i + i = per n f x by omega]
  exact (T.per_spec hx).1
theorem Trn.self_cyc (T : Trn n f) {x : Nat} (hx : x < n) : x ∈ cyc n f x := (T.mem_cyc hx).mpr ⟨0, rfl⟩
theorem Trn.cyc_trans (T : Trn n f) {x y z : Nat} (hx : x < n) (h : y ∈ cyc n f x) (h2 : z ∈ cyc n f y) : z ∈ cyc n f x := by
  obtain ⟨i, rfl⟩ := (T.mem_cyc hx).mp h
  obtain ⟨j, rfl⟩ := (T.mem_cyc (T.it_lt hx i)).mp h2
  exact (T.mem_cyc hx).mpr ⟨j + i, it_add f j i x⟩
theorem Trn.per_it (T : Trn n f) {x : Nat} (hx : x < n) (i : Nat) : per n f (it f i x) = per n f x := by
  refine T.per_uniq (T.it_lt hx i) fun m => ?_
  rw [← T.per_dvd hx, it_comm]
  exact ⟨fun e => T.it_inj (T.it_lt hx m) hx i e, fun e => by rw [e]⟩
theorem Trn.per_cyc (T : Trn n f) {x y : Nat} (hx : x < n) (h : y ∈ cyc n f x) : per n f y = per n f x := by
  obtain ⟨i, rfl⟩ := (T.mem_cyc hx).mp h
  exact T.per_it hx i
/-- no number of its round is below x -/
def least (n : Nat) (f : Nat → Nat) (x : Nat) : Bool := (cyc n f x).all fun y => decide (x ≤ y)
theorem least_iff {x : Nat} : least n f x = true ↔ ∀ y ∈ cyc n f x, x ≤ y := by unfold least; simp
theorem Trn.ex_least (T : Trn n f) : ∀ (x : Nat), x < n → ∃ m, m ∈ cyc n f x ∧ least n f m = true := by
  intro x
  induction x using Nat.strongRecOn with
  | _ x ih =>
    intro hx
    by_cases h : least n f x = true
    · exact ⟨x, T.self_cyc hx, h⟩
    · obtain ⟨y, hy, hl⟩ : ∃ y, y ∈ cyc n f x ∧ y < x := by
        refine Classical.byContradiction fun q => h (least_iff.mpr fun y hy => ?_)
        exact Nat.le_of_not_lt fun z => q ⟨y, hy, z⟩
      obtain ⟨m, h1, h2⟩ := ih y hl (T.cyc_lt hx hy)
      exact ⟨m, T.cyc_trans hx hy h1, h2⟩
theorem Trn.least_uniq (T : Trn n f) {a b : Nat} (hb : b < n) (ha : least n f a = true) (hb' : least n f b = true) (h : a ∈ cyc n f b) : a = b :=
  Nat.le_antisymm (least_iff.mp ha b (T.back hb h)) (least_iff.mp hb' a h)
def heads (n : Nat) (f : Nat → Nat) : List Nat := (List.range n).filter (least n f)
/-- the rounds, also those of one number, by their least numbers -/
def lots (n : Nat) (f : Nat → Nat) : List (List Nat) := (heads n f).map (cyc n f)
def lens (n : Nat) (f : Nat → Nat) : List Nat := (lots n f).map List.length
theorem lens_eq : lens n f = (heads n f).map (per n f) := by
  unfold lens lots
  rw [List.map_map]
  exact List.map_congr_left fun x _ => cyc_len x
theorem mem_heads {x : Nat} : x ∈ heads n f ↔ x < n ∧ least n f x = true := by unfold heads; rw [List.mem_filter, List.mem_range]
theorem heads_sorted : (heads n f).Pairwise (· < ·) := List.pairwise_lt_range.filter _
theorem Trn.flat_nodup (T : Trn n f) {hs : List Nat} (h1 : ∀ x ∈ hs, x < n ∧ least n f x = true) (h2 : hs.Nodup) : (hs.map (cyc n f)).flatten.Nodup := by
  refine List.nodup_iff_pairwise_ne.mpr (List.pairwise_flatten.mpr ⟨fun l hl => ?_, List.pairwise_map.mpr ((List.nodup_iff_pairwise_ne.mp h2).imp_of_mem fun {a b} ha hb hab x hx y hy e => ?_)⟩)
  · obtain ⟨x, hx, rfl⟩ := List.mem_map.mp hl
    exact List.nodup_iff_pairwise_ne.mp (T.cyc_nodup (h1 x hx).1)
  · subst e
    exact hab (T.least_uniq (h1 b hb).1 (h1 a ha).2 (h1 b hb).2 (T.cyc_trans (h1 b hb).1 hy (T.back (h1 a ha).1 hx)))
/-- the numbers whose rounds have the told length -/
theorem Trn.count (T : Trn n f) (M : Nat) : M * (lens n f).count M = ((List.range n).filter fun x => per n f x == M).length := by
  have e1 : (lens n f).count M = ((heads n f).filter fun x => per n f x == M).length := by
    rw [lens_eq, List.count, List.countP_map, List.countP_eq_length_filter]; rfl
  have hp : (((heads n f).filter fun x => per n f x == M).map (cyc n f)).flatten.Perm ((List.range n).filter fun x => per n f x == M) := by
    refine (List.perm_ext_iff_of_nodup (T.flat_nodup (fun x hx => mem_heads.mp (List.mem_filter.mp hx).1) ((heads_sorted.imp fun h => Nat.ne_of_lt h).filter _)) (List.nodup_range.filter _)).mpr fun a => ?_
    rw [List.mem_flatten, List.mem_filter, List.mem_range]
    constructor
    · rintro ⟨l, hl, ha⟩
      obtain ⟨x, hx, rfl⟩ := List.mem_map.mp hl
      obtain ⟨h1, h2⟩ := List.mem_filter.mp hx
      have hx' := (mem_heads.mp h1).1
      exact ⟨T.cyc_lt hx' ha, by rw [T.per_cyc hx' ha]; exact h2⟩
    · rintro ⟨ha, h2⟩
      obtain ⟨m, h3, h4⟩ := T.ex_least a ha
      have hm := T.cyc_lt ha h3
      exact ⟨cyc n f m, List.mem_map.mpr ⟨m, List.mem_filter.mpr ⟨mem_heads.mpr ⟨hm, h4⟩, by rw [T.per_cyc ha h3]; exact h2⟩, rfl⟩, T.back ha h3⟩
  have hl := hp.length_eq
  rw [List.length_flatten, List.map_map] at hl
  rw [e1, ← hl]
  have e2 : ((heads n f).filter fun x => per n f x == M).map (List.length ∘ cyc n f) = List.replicate ((heads n f).filter fun x => per n f x == M).length M := by
    refine List.eq_replicate_iff.mpr ⟨by rw [List.length_map], fun b hb => ?_⟩
    obtain ⟨x, hx, rfl⟩ := List.mem_map.mp hb
    show (cyc n f x).length = M
    rw [cyc_len]
    simpa using (List.mem_filter.mp hx).2
  rw [e2, List.sum_replicate_nat, Nat.mul_comm]
end
end PM
/-! Plain mathematics: powers, orders, what a power does to the rounds, turnings carried over. -/
namespace PM
/-! sums over rounds -/
section
variable {n : Nat} {f g : Nat → Nat}
/-! the order -/
end
/-! carried over -/
def over (c p : List Nat) : List Nat := put (put (bk c) p) c
section
variable {c p : List Nat}
theorem IsP.over (hc : IsP c) (hp : IsP p) (hl : p.length = c.length) : IsP (over c p) :=
  (hc.bks.puts hp (by rw [bk_len, hl])).puts hc (by rw [put_len, bk_len])
end
/-! a round begun elsewhere -/
section
variable {n : Nat} {f g : Nat → Nat}
theorem cyc_get {x i : Nat} (hi : i < per n f x) : (cyc n f x)[i]? = some (it f i x) := by
  unfold cyc
  rw [List.getElem?_map, List.getElem?_range hi]; rfl
end
end PM
set_option Elab.async false
set_option linter.all false
set_option maxRecDepth 100000
set_option maxHeartbeats 2000000
namespace PD
open PySem L2
/-! data of numbers -/
def intsL (L : List Nat) : List PyData := L.map fun n : Nat => .int (n : Int)
def tupN (L : List Nat) : PyData := .tuple (intsL L)
theorem tupN_of (L : List Nat) : PyData.tuple (intsL L) = tupN L := rfl
theorem intsL_len (L : List Nat) : (intsL L).length = L.length := List.length_map ..
theorem intsL_app (L M : List Nat) : intsL (L ++ M) = intsL L ++ intsL M := List.map_append ..
theorem canLay_ints : ∀ L : List Nat, PyData.canLayAll0 (intsL L) = true
  | [] => by simp [intsL, PyData.canLayAll0]
  | n :: L => by
    have := canLay_ints L
    unfold intsL at *
    simp [PyData.canLayAll0, PyData.canLay0, this]
theorem depth_ints : ∀ L : List Nat, PyData.depthAll (intsL L) ≤ 1
  | [] => by simp [intsL, PyData.depthAll]
  | n :: L => by
    have := depth_ints L
    unfold intsL at *
    simp only [List.map_cons, PyData.depthAll, PyData.depth]
    omega
theorem shaped_of {d : PyData} (h1 : d.canLay0 = true) (h2 : d.depth ≤ 64) : SeqAt.shaped d = true := by
  show (d.canLay0 && decide (d.depth ≤ 64)) = true
  rw [h1, decide_eq_true h2]; rfl
theorem lay_tupN (L : List Nat) : (tupN L).canLay0 = true := by
  have := canLay_ints L
  unfold tupN
  simpa [PyData.canLay0] using this
theorem depth_tupN (L : List Nat) : (tupN L).depth ≤ 2 := by
  have := depth_ints L
  unfold tupN
  simp only [PyData.depth]
  omega
theorem shaped_tupN (L : List Nat) : SeqAt.shaped (tupN L) = true := shaped_of (lay_tupN L) (by have := depth_tupN L; omega)
theorem shaped_int (u : Int) : SeqAt.shaped (.int u) = true := shaped_of (by simp [PyData.canLay0]) (by simp [PyData.depth])
theorem shaped_intsL (L : List Nat) : SeqAt.shaped (.list (intsL L)) = true := shaped_of (by have := canLay_ints L; simpa [PyData.canLay0] using this) (by have := depth_ints L; simp only [PyData.depth]; omega)
theorem eqv_int (u v : Int) : PyData.eqv (.int u) (.int v) = decide (u = v) := by
  simp only [PyData.eqv]
  by_cases h : u = v <;> simp [h]
theorem eqv_ints : ∀ p q : List Nat, PyData.eqvAll (intsL p) (intsL q) = decide (p = q)
  | [], [] => by simp [intsL, PyData.eqvAll]
  | [], y :: ys => by simp [intsL, PyData.eqvAll]
  | x :: xs, [] => by simp [intsL, PyData.eqvAll]
  | x :: xs, y :: ys => by
    have := eqv_ints xs ys
    unfold intsL at *
    simp only [List.map_cons, PyData.eqvAll, this, eqv_int]
    by_cases h1 : x = y
    · by_cases h2 : xs = ys <;> simp [h1, h2]
    · have h3 : ¬ (x : Int) = y := by omega
      simp [h1, h3]
theorem eqv_tupN (p q : List Nat) : PyData.eqv (tupN p) (tupN q) = decide (p = q) := by
  unfold tupN; simp only [PyData.eqv]; exact eqv_ints p q
theorem eqv_intsL (p q : List Nat) : PyData.eqv (.list (intsL p)) (.list (intsL q)) = decide (p = q) := by
  simp only [PyData.eqv]; exact eqv_ints p q
/-- tuples, lists of tuples of numbers -/
def tupsL (Ls : List (List Nat)) : List PyData := Ls.map tupN
def tupT (Ls : List (List Nat)) : PyData := .tuple (tupsL Ls)
theorem canLay_tups : ∀ L : List (List Nat), PyData.canLayAll0 (tupsL L) = true
  | [] => by simp [tupsL, PyData.canLayAll0]
  | n :: L => by
    have := canLay_tups L
    unfold tupsL at *
    simp [PyData.canLayAll0, lay_tupN, this]
theorem depth_tups : ∀ L : List (List Nat), PyData.depthAll (tupsL L) ≤ 2
  | [] => by simp [tupsL, PyData.depthAll]
  | n :: L => by
    have := depth_tups L
    have := depth_tupN n
    unfold tupsL at *
    simp only [List.map_cons, PyData.depthAll]
    omega
theorem shaped_tupT (L : List (List Nat)) : SeqAt.shaped (tupT L) = true := shaped_of (by have := canLay_tups L; unfold tupT; simpa [PyData.canLay0] using this) (by have := depth_tups L; unfold tupT; simp only [PyData.depth]; omega)
theorem eqv_tups : ∀ p q : List (List Nat), PyData.eqvAll (tupsL p) (tupsL q) = decide (p = q)
  | [], [] => by simp [tupsL, PyData.eqvAll]
  | [], y :: ys => by simp [tupsL, PyData.eqvAll]
  | x :: xs, [] => by simp [tupsL, PyData.eqvAll]
  | x :: xs, y :: ys => by
    have := eqv_tups xs ys
    unfold tupsL at *
    simp only [List.map_cons, PyData.eqvAll, this, eqv_tupN]
    by_cases h1 : x = y <;> by_cases h2 : xs = ys <;> simp [h1, h2]
theorem eqv_tupT (p q : List (List Nat)) : PyData.eqv (tupT p) (tupT q) = decide (p = q) := by
  unfold tupT; simp only [PyData.eqv]; exact eqv_tups p q
theorem ixN_nat {n j : Nat} (h : j < n) : ixN n (j : Int) = some j := by
  unfold ixN
  rw [if_pos (by omega), if_pos (by omega)]; rfl
theorem ixN_nat_iff {n x j : Nat} : ixN n (x : Int) = some j ↔ x < n ∧ j = x := by
  constructor
  · intro h
    by_cases q : x < n
    · rw [ixN_nat q] at h; exact ⟨q, (Option.some.inj h).symm⟩
    · unfold ixN at h
      rw [if_pos (by omega), if_neg (by omega)] at h; cases h
  · rintro ⟨q, rfl⟩; exact ixN_nat q
theorem atI_ints {L : List Nat} {x : Nat} {p : PyData} : atI (intsL L) (x : Int) = some p ↔ ∃ y : Nat, L[x]? = some y ∧ p = .int y := by
  unfold atI
  rw [intsL_len]
  by_cases h : x < L.length
  · rw [ixN_nat h]
    show (intsL L)[x]? = some p ↔ _
    unfold intsL
    rw [List.getElem?_map, List.getElem?_eq_getElem h]
    constructor
    · intro e; exact ⟨_, rfl, (Option.some.inj e).symm⟩
    · rintro ⟨y, e, rfl⟩; cases e; rfl
  · constructor
    · intro e
      cases e2 : ixN L.length (x : Int) with
      | none => rw [e2] at e; cases e
      | some j => exact absurd (ixN_nat_iff.mp e2).1 h
    · rintro ⟨y, e, _⟩; rw [List.getElem?_eq_none (by omega)] at e; cases e
section
variable {ds : PSt} {Q : D → PSt → Prop} {a b : Addr} {i s : Nat} {π : List Stp} {x y d t : D} {xs : List PyData} {p : PyData} {u v : Int} {L M : List Nat} {m : Nat}
theorem w_lenN : sLen (.dat (tupN L)) ds Q ↔ Q (.dat (.int (L.length : Nat))) ds := by
  rw [w_len]
  constructor
  · rintro ⟨_, n, h, q⟩; obtain rfl : n = (intsL L).length := h; rw [intsL_len] at q; exact q
  · intro q; exact ⟨trivial, _, rfl, by rw [intsL_len]; exact q⟩
theorem w_seqTN {R : List D → (PSt → Prop) → PSt → Prop} : SeqW (.dat (tupN L)) ds R ↔ R (L.map fun n : Nat => .dat (.int n)) (fun _ => True) ds := by
  unfold tupN
  rw [w_seqT]
  have : (intsL L).map D.dat = L.map fun n : Nat => D.dat (.int n) := by unfold intsL; rw [List.map_map]; rfl
  rw [this]
theorem w_ixT : sIx (.dat (.tuple xs)) (.dat (.int u)) ds Q ↔ ∃ p, atI xs u = some p ∧ Q (.dat p) ds := by
  rw [w_ix]
  constructor
  · rintro ⟨_, d, h, q⟩; obtain ⟨p, e, rfl⟩ := ix_tupI.mp h; exact ⟨p, e, q⟩
  · rintro ⟨p, e, q⟩; exact ⟨trivial, _, ix_tupI.mpr ⟨p, e, rfl⟩, q⟩
theorem w_ixL : sIx (.lst a xs) (.dat (.int u)) ds Q ↔ ∃ p, atI xs u = some p ∧ Q (.dat p) ds := by
  rw [w_ix]
  constructor
  · rintro ⟨_, d, h, q⟩; obtain ⟨p, e, rfl⟩ := ix_lstI.mp h; exact ⟨p, e, q⟩
  · rintro ⟨p, e, q⟩; exact ⟨trivial, _, ix_lstI.mpr ⟨p, e, rfl⟩, q⟩
theorem w_ixBL : sIx (.bor a i π (.lst b xs)) (.dat (.int u)) ds Q ↔ SeeOk ds (.bor a i π (.lst b xs)) ∧ ∃ p, atI xs u = some p ∧ Q (.dat p) ds := by
  rw [w_ix]
  constructor
  · rintro ⟨h0, d, h, q⟩; obtain ⟨p, e, rfl⟩ := ix_lstI.mp h; exact ⟨h0, p, e, q⟩
  · rintro ⟨h0, p, e, q⟩; exact ⟨h0, _, ix_lstI.mpr ⟨p, e, rfl⟩, q⟩
theorem w_ixO {xs : List D} : sIx (.bor a i π (.lsD b xs)) (.dat (.int u)) ds Q ↔ SeeOk ds (.bor a i π (.lsD b xs)) ∧ ∃ m, ixN xs.length u = some m ∧ ∃ d', xs[m]? = some d' ∧ ∃ d, ldAt i (π ++ [.it m]) d' = some d ∧ Q d ds := by
  rw [w_ix]
  constructor
  · rintro ⟨h0, d, h, q⟩; obtain ⟨m, d', e1, e2, e3⟩ := ix_ownI.mp h; exact ⟨h0, m, e1, d', e2, d, e3, q⟩
  · rintro ⟨h0, m, e1, d', e2, d, e3, q⟩; exact ⟨h0, _, ix_ownI.mpr ⟨m, d', e1, e2, e3⟩, q⟩
theorem w_ixK {kvs : List (Key × PyData)} : sIx (.bor a i π (.dk b kvs)) (.dat (.int u)) ds Q ↔ SeeOk ds (.bor a i π (.dk b kvs)) ∧ ∃ q, look kvs (.inl u) = some q ∧ Q (.dat q) ds := by
  rw [w_ix]
  constructor
  · rintro ⟨h0, d, h, q⟩; obtain ⟨p, e, rfl⟩ := ix_keyI.mp h; exact ⟨h0, p, e, q⟩
  · rintro ⟨h0, p, e, q⟩; exact ⟨h0, _, ix_keyI.mpr ⟨p, e, rfl⟩, q⟩
theorem w_ixN : sIx (.dat (tupN L)) (.dat (.int (m : Nat))) ds Q ↔ ∃ y : Nat, L[m]? = some y ∧ Q (.dat (.int y)) ds := by
  unfold tupN
  rw [w_ixT]
  constructor
  · rintro ⟨p, e, q⟩; obtain ⟨y, e2, rfl⟩ := atI_ints.mp e; exact ⟨y, e2, q⟩
  · rintro ⟨y, e, q⟩; exact ⟨_, atI_ints.mpr ⟨y, e, rfl⟩, q⟩
theorem w_eqNN : sEq (.dat (tupN L)) (.dat (tupN M)) ds Q ↔ Q (.dat (.bool (decide (L = M)))) ds := by
  rw [w_eq, eqv_tupN]; simp [shaped_tupN]
theorem w_neNN : sNe (.dat (tupN L)) (.dat (tupN M)) ds Q ↔ Q (.dat (.bool (!decide (L = M)))) ds := by
  rw [w_ne, eqv_tupN]; simp [shaped_tupN]
theorem w_eqTT {A B : List (List Nat)} : sEq (.dat (tupT A)) (.dat (tupT B)) ds Q ↔ Q (.dat (.bool (decide (A = B)))) ds := by
  rw [w_eq, eqv_tupT]; simp [shaped_tupT]
theorem w_neTT {A B : List (List Nat)} : sNe (.dat (tupT A)) (.dat (tupT B)) ds Q ↔ Q (.dat (.bool (!decide (A = B)))) ds := by
  rw [w_ne, eqv_tupT]; simp [shaped_tupT]
theorem w_eqII : sEq (.dat (.int u)) (.dat (.int v)) ds Q ↔ Q (.dat (.bool (decide (u = v)))) ds := by
  rw [w_eq, eqv_int]; simp [shaped_int]
theorem w_neII : sNe (.dat (.int u)) (.dat (.int v)) ds Q ↔ Q (.dat (.bool (!decide (u = v)))) ds := by
  rw [w_ne, eqv_int]; simp [shaped_int]
theorem isi_of {T S : String} {p : PyData} {r : Bool} (ht : ∀ S', TyT (.dat p) S' ↔ S' = S) (hk : kitB S T = some (isB S T)) (hr : isB S T = r) : sIsi [.dat p, .raw (.ty T)] ds Q ↔ Q (.dat (.bool r)) ds := by
  subst hr
  constructor
  · rintro ⟨x, T', t, S', e, s, h, k, q⟩
    cases e
    obtain rfl : t = .dat p := s
    obtain rfl := (ht S').mp h
    exact q
  · intro q
    exact ⟨_, _, _, S, rfl, rfl, (ht S).mpr rfl, hk, q⟩
theorem w_isiI : sIsi [.dat (.int u), .raw (.ty "int")] ds Q ↔ Q (.dat (.bool true)) ds := isi_of (S := "int") (fun _ => Iff.rfl) (by decide +kernel) (by decide +kernel)
theorem w_isiB : sIsi [.dat (.int u), .raw (.ty "bool")] ds Q ↔ Q (.dat (.bool false)) ds := isi_of (S := "int") (fun _ => Iff.rfl) (by decide +kernel) (by decide +kernel)
theorem w_isiT : sIsi [.dat (.tuple xs), .raw (.ty "tuple")] ds Q ↔ Q (.dat (.bool true)) ds := isi_of (S := "tuple") (fun _ => Iff.rfl) (by decide +kernel) (by decide +kernel)
theorem w_isiTN : sIsi [.dat (tupN L), .raw (.ty "tuple")] ds Q ↔ Q (.dat (.bool true)) ds := w_isiT
theorem w_sum : sSum (.lst a xs) ds Q ↔ ∃ ns : List Int, xs = ns.map .int ∧ Q (.dat (.int ns.sum)) ds :=
  ⟨fun ⟨t, ns, e, i, q⟩ => by obtain rfl : t = .lst a xs := e; exact ⟨ns, (show ns.map .int = xs from i).symm, q⟩, fun ⟨ns, e, q⟩ => ⟨_, ns, rfl, e.symm, q⟩⟩
theorem intsL_inj {L : List Nat} {ns : List Int} (h : ns.map PyData.int = intsL L) : ns = L.map fun n : Nat => (n : Int) := by
  have e : intsL L = (L.map fun n : Nat => (n : Int)).map PyData.int := by unfold intsL; rw [List.map_map]; rfl
  rw [e] at h
  exact (List.map_inj_right (fun x y h => by cases h; rfl)).mp h
theorem intsL_eq (L : List Nat) : (L.map fun n : Nat => (n : Int)).map PyData.int = intsL L := by unfold intsL; rw [List.map_map]; rfl
theorem sum_cast (L : List Nat) : (L.map fun n : Nat => (n : Int)).sum = ((L.sum : Nat) : Int) := by
  induction L with
  | nil => rfl
  | cons n L ih => rw [List.map_cons, List.sum_cons, ih, List.sum_cons]; omega
theorem w_sumTN : sSum (.dat (tupN L)) ds Q ↔ Q (.dat (.int (L.sum : Nat))) ds :=
  ⟨fun ⟨t, ns, e, i, q⟩ => by
    obtain rfl : t = .dat (tupN L) := e
    have := intsL_inj (show ns.map PyData.int = intsL L from i)
    subst this
    rw [sum_cast] at q; exact q, fun q => ⟨_, L.map fun n : Nat => (n : Int), rfl, (show _ = intsL L from intsL_eq L), by rw [sum_cast]; exact q⟩⟩
theorem w_all : sAll (.lst a xs) ds Q ↔ ∃ bs : List Bool, xs = bs.map .bool ∧ Q (.dat (.bool (bs.all id))) ds :=
  ⟨fun ⟨b, ns, e, q⟩ => by cases (show D.lst b (ns.map .bool) = .lst a xs from e); exact ⟨ns, rfl, q⟩, fun ⟨ns, e, q⟩ => by subst e; exact ⟨a, ns, rfl, q⟩⟩
theorem w_any : sAny (.lst a xs) ds Q ↔ ∃ bs : List Bool, xs = bs.map .bool ∧ Q (.dat (.bool (bs.any id))) ds :=
  ⟨fun ⟨b, ns, e, q⟩ => by cases (show D.lst b (ns.map .bool) = .lst a xs from e); exact ⟨ns, rfl, q⟩, fun ⟨ns, e, q⟩ => by subst e; exact ⟨a, ns, rfl, q⟩⟩
def srtN (l : List Nat) : List Nat := l.mergeSort fun a b => decide (a ≤ b)
theorem srtN_perm (l : List Nat) : (srtN l).Perm l := List.mergeSort_perm _ _
theorem srtN_sorted (l : List Nat) : (srtN l).Pairwise (· ≤ ·) := by
  have := List.pairwise_mergeSort (le := fun a b : Nat => decide (a ≤ b)) (fun a b c => by simp; omega) (fun a b => by simp; omega) l
  exact this.imp fun h => by simpa using h
theorem sort_ints {L : List Nat} {ms : List Int} (h1 : ms.Perm (L.map fun n : Nat => (n : Int))) (h2 : ms.Pairwise (· ≤ ·)) : ms.map PyData.int = intsL (srtN L) := by
  have e : ms = (srtN L).map fun n : Nat => (n : Int) :=
    List.Perm.eq_of_pairwise (fun a b _ _ h1 h2 => Int.le_antisymm h1 h2) h2 (List.pairwise_map.mpr ((srtN_sorted L).imp fun h => by omega)) (h1.trans ((srtN_perm L).map _).symm)
  rw [e]
  unfold intsL
  rw [List.map_map]; rfl
theorem w_sortI : sSortI (.lst a (intsL L)) ds Q ↔ ∀ b, Q (.lst b (intsL (srtN L))) ds := by
  have e : intsL L = (L.map fun n : Nat => (n : Int)).map PyData.int := by unfold intsL; rw [List.map_map]; rfl
  constructor
  · rintro ⟨c, ns, e2, q⟩ b
    have e3 : D.lst c (ns.map .int) = .lst a (intsL L) := e2
    simp only [D.lst.injEq] at e3
    have e4 : ns = L.map fun n : Nat => (n : Int) := by
      have := e3.2
      rw [e] at this
      exact (List.map_inj_right (fun x y h => by cases h; rfl)).mp this
    subst e4
    have := q b ((srtN L).map fun n : Nat => (n : Int)) ((srtN_perm L).map _) (List.pairwise_map.mpr ((srtN_sorted L).imp fun h => by omega))
    rw [sort_ints ((srtN_perm L).map _) (List.pairwise_map.mpr ((srtN_sorted L).imp fun h => by omega))] at this
    exact this
  · intro q
    refine ⟨a, L.map fun n : Nat => (n : Int), by rw [← e]; rfl, fun b ms h1 h2 => ?_⟩
    rw [sort_ints h1 h2]
    exact q b
theorem upto_nat (n : Nat) : (upto 0 ((n : Int).toNat)).map PyData.int = intsL (List.range n) := by
  unfold upto intsL
  rw [List.map_map, Int.toNat_natCast]
  exact List.map_congr_left fun i _ => by show PyData.int (0 + (i : Nat)) = _; rw [Int.zero_add]
theorem upto_natD (n : Nat) : (upto 0 ((n : Int).toNat)).map (fun j => D.dat (.int j)) = (List.range n).map fun i : Nat => D.dat (.int i) := by
  unfold upto
  rw [List.map_map, Int.toNat_natCast]
  exact List.map_congr_left fun i _ => by show D.dat (PyData.int (0 + (i : Nat))) = _; rw [Int.zero_add]
theorem enum_ints (p : List Nat) : enumD 0 (intsL p) = (List.range p.length).map fun i : Nat => D.pr (.int i) (.int (PM.ap p i : Nat)) := by
  refine List.ext_getElem? fun i => ?_
  rw [enumD_get, List.getElem?_map]
  unfold intsL
  rw [List.getElem?_map]
  by_cases h : i < p.length
  · rw [List.getElem?_range h, PM.ap_get h]; simp
  · rw [List.getElem?_eq_none (by omega), List.getElem?_eq_none (by simpa using h)]; rfl
theorem intsL_set (M : List Nat) (j x : Nat) : (intsL M).set j (.int (x : Nat)) = intsL (M.set j x) := by unfold intsL; rw [List.map_set]
theorem flat_ints (L : List Nat) : (intsL L).all flatP = true := by
  rw [List.all_eq_true]
  intro p hp
  obtain ⟨n, _, rfl⟩ := List.mem_map.mp hp
  rfl
theorem cut_from {L : List Nat} {k : Nat} : cutP (intsL L) (some (k : Int)) none = intsL (L.drop k) := by
  unfold cutP
  rw [HT.sIx_nat, HT.sIx_none, intsL_len]
  have e : ∀ m : Nat, (intsL L).drop m = intsL (L.drop m) := fun m => by unfold intsL; rw [List.map_drop]
  rw [e, List.take_of_length_le (by rw [intsL_len, List.length_drop]; omega)]
  congr 1
  by_cases h : k ≤ L.length
  · rw [Nat.min_eq_left h]
  · rw [Nat.min_eq_right (by omega), List.drop_eq_nil_of_le (by omega), List.drop_eq_nil_of_le (by omega)]
theorem cut_upto {L : List Nat} {k : Nat} : cutP (intsL L) none (some (k : Int)) = intsL (L.take k) := by
  unfold cutP
  rw [HT.sIx_nat, HT.sIx_none, intsL_len, List.drop_zero, Nat.sub_zero]
  have e : ∀ m : Nat, (intsL L).take m = intsL (L.take m) := fun m => by unfold intsL; rw [List.map_take]
  rw [e]
  congr 1
  by_cases h : k ≤ L.length
  · rw [Nat.min_eq_left h]
  · rw [Nat.min_eq_right (by omega), List.take_of_length_le (by omega), List.take_of_length_le (by omega)]
theorem w_slTN {lo hi : Option Int} : SlW (.dat (tupN L)) ds lo hi Q ↔ Q (.dat (.tuple (cutP (intsL L) lo hi))) ds := w_slT
theorem w_seqTT {R : List D → (PSt → Prop) → PSt → Prop} {A : List (List Nat)} : SeqW (.dat (tupT A)) ds R ↔ R (A.map fun l => .dat (tupN l)) (fun _ => True) ds := by
  unfold tupT
  rw [w_seqT]
  have : (tupsL A).map D.dat = A.map fun l => D.dat (tupN l) := by unfold tupsL; rw [List.map_map]; rfl
  rw [this]
theorem ix4_0 : ixN 4 0 = some 0 := rfl
theorem ix4_1 : ixN 4 1 = some 1 := rfl
theorem ix4_2 : ixN 4 2 = some 2 := rfl
theorem ix4_3 : ixN 4 3 = some 3 := rfl
theorem getP_it1 {xs : List D} {j : Nat} : getP (.lsD a xs) [.it j] = xs[j]? := by
  simp only [getP]
  cases xs[j]? with
  | none => rfl
  | some d => exact getP_nil
theorem w_mkLbox {p1 p2 p3 : PyData} : mkL [.dat p1, .dat p2, .dat p3, .lst b xs] Q ds ↔ ∀ a, Q (.lsD a [.dat p1, .dat p2, .dat p3, .lst b xs]) ds := Iff.rfl
theorem w_tupWN {R : List PyData → Prop} : TupW (.dat (tupN L)) R ↔ R (intsL L) := w_tupW
theorem w_truTN {R : Bool → Prop} : TruW (.dat (tupN L)) ds R ↔ R (!L.isEmpty) := by
  have : (intsL L).isEmpty = L.isEmpty := by unfold intsL; cases L <;> rfl
  unfold tupN; rw [w_truT, this]
theorem w_enWN {R : List PyData → Prop} : EnW [.dat (tupN L)] R ↔ R (intsL L) := w_enW
end
end PD
set_option Elab.async false
set_option linter.all false
set_option maxRecDepth 100000
set_option maxHeartbeats 2000000
namespace PD
open PySem L2
open PM
/-! promises -/
section
variable {Q : D → List D → Prop} {p q r : PyData} {d o o1 o2 o3 : D} {s : PSt} {a : Addr} {xs xs' : List D}
theorem rt1 {o : Option D} (h : Q d [.dat p]) : (fnEnds [.dat p] Q).rt d (o :: s) := ⟨_, ArgBack.same (fun x hx => by simp at hx; subst hx; exact fun _ => rfl) (by simp), h⟩
theorem rt2 {o o' : Option D} (h : Q d [.dat p, .dat q]) : (fnEnds [.dat p, .dat q] Q).rt d (o :: o' :: s) := ⟨_, ArgBack.same (fun x hx => by simp at hx; rcases hx with rfl | rfl <;> exact fun _ => rfl) (by simp), h⟩
theorem nx1 {o : Option D} (h : Q (.dat .none) [.dat p]) : (fnEnds [.dat p] Q).nx (o :: s) := ⟨_, ArgBack.same (fun x hx => by simp at hx; subst hx; exact fun _ => rfl) (by simp), h⟩
theorem rtO {o : Option D} (h : Q d [.lsD a xs', .dat q]) : (fnEnds [.lsD a xs, .dat q] Q).rt d (some (.lsD a xs') :: o :: s) :=
  ⟨[.lsD a xs', .dat q], ⟨_, [.dat q], rfl, .inr ⟨rfl, a, rfl, rfl⟩, _, [], rfl, .inl ⟨fun _ => rfl, rfl⟩, rfl⟩, h⟩
theorem rtL {ys : List PyData} (h : Q d [.lst a ys]) : (fnEnds [.lst a ys] Q).rt d (some (.lst a ys) :: s) :=
  ⟨[.lst a ys], ⟨_, [], rfl, .inr ⟨rfl, a, rfl, rfl⟩, rfl⟩, h⟩
end
def sp_is_number : SpD := fun as Q => ∃ u : Int, as = [.dat (.int u)] ∧ Q (.dat (.bool true)) as
def lotsP (p : List Nat) : List (List Nat) := lots p.length (ap p)
def sp_lots : SpD := fun as Q => ∃ p : List Nat, as = [.dat (tupN p)] ∧ IsP p ∧ p.length ≤ 24 ∧ ∀ a, Q (.lst a (tupsL (lotsP p))) as
/-- the box of the law's draws -/
def BoxOk (xs : List D) : Prop := ∃ (x y z : Int) (b : Addr) (cs : List Int), xs = [.dat (.int x), .dat (.int y), .dat (.int z), .lst b (cs.map .int)] ∧ 0 ≤ z
def sp__law_box : SpD := fun as Q => ∃ (d : D) (ns : List Int), as = [d] ∧ (d = .dat (.list (ns.map .int)) ∨ ∃ a, d = .lst a (ns.map .int)) ∧ ns.length ≤ 63 ∧ ∀ a xs, BoxOk xs → Q (.lsD a xs) as
def sp__law_take : SpD := fun as Q => ∃ (a : Addr) (xs : List D) (m : Int), as = [.lsD a xs, .dat (.int m)] ∧ BoxOk xs ∧ 0 < m ∧ m < 1073741824 ∧ ∀ xs' v, BoxOk xs' → 0 ≤ v → v < m → Q (.dat (.int v)) [.lsD a xs', .dat (.int m)]
def sp__law_turning : SpD := fun as Q => ∃ (a : Addr) (xs : List D) (n : Nat), as = [.lsD a xs, .dat (.int n)] ∧ BoxOk xs ∧ n ≤ 1000000 ∧ ∀ xs' p, BoxOk xs' → IsP p → p.length = n → Q (.dat (tupN p)) [.lsD a xs', .dat (.int n)]

def t_is_number : TSP := (tRetD (eAnd (eCall sIsi (aCons (eVar 0) (aCons (eRaw (.ty "int")) aNil))) (eNot (eCall sIsi (aCons (eVar 0) (aCons (eRaw (.ty "bool")) aNil))))))
def t_lots_b1 : TSP := (tSeqD (tAsgD (eC (.bool true)) (gSubD (eVar 1) (eVar 3))) (tSeqD (tDropD (eBM "list" sAppend (eVar 4) (aCons (eVar 3) aNil))) (tAsgD (e2 sIx (eVar 0) (eVar 3)) (gN 3))))
def t_lots_r2 : TSP := (tDropD (eBM "list" sAppend (eVar 2) (aCons (eCall (s1 sTupO) (aCons (eVar 4) aNil)) aNil)))
def t_lots_r3 : TSP := (tSeqD (tAsgD (eLst aNil) (gN 4)) (tSeqD (tWhileD (tBl (e2 (sInN true) (eVar 3) (eVar 1))) t_lots_b1) t_lots_r2))
def t_lots_b4 : TSP := (tSeqD (tIfD (tBl (e2 (sInN false) (eVar 3) (eVar 1))) tContD tNextD) t_lots_r3)
def t_lots : TSP := (tSeqD (tParD 1 2 (aCons eDict0 (aCons (eLst aNil) aNil))) (tSeqD (tForD (iRg1 (aCons (eCall (s1 sLen) (aCons (eVar 0) aNil)) aNil)) (gN 3) t_lots_b4) (tRetD (eOut 2))))
def t__law_box_e1 : TEP := (eCall (s1 (sIntF fun i => if i < 0 then -i else i)) (aCons (eCall (s1 (sIntF fun i => i)) (aCons (eVar 1) aNil)) aNil))
def t__law_box : TSP := (tRetD (eLst (aCons (eC (.int 0)) (aCons (eC (.int 0)) (aCons (eC (.int 0)) (aCons (tLcD (iSeq (eVar 0)) (gN 1) tYesD t__law_box_e1 [1]) aNil))))))
def t__law_take_r1 : TSP := (tSeqD (tAsgD (e2 sAdd (eVar 2) (eC (.int 1))) (gSubD (eVar 0) (eC (.int 2)))) (tSeqD (tAsgD (eVar 3) (gSubD (eVar 0) (eC (.int 0)))) (tIfD (tBl (e2 sEq (e2 sIx (eVar 0) (eC (.int 1))) (eC (.int 0)))) (tRetD (eC (.int 0))) tNextD)))
def t__law_take_i2 : TSP := (tSeqD (tAsgD (e2 sIx (eVar 0) (eC (.int 2))) (gN 2)) (tSeqD (tAsgD (eC (.int 0)) (gN 3)) (tSeqD (tIfD (tBl (e2 sLt (eVar 2) (eCall (s1 sLen) (aCons (e2 sIx (eVar 0) (eC (.int 3))) aNil)))) (tSeqD (tAsgD (e2 sIx (e2 sIx (eVar 0) (eC (.int 3))) (eVar 2)) (gN 3)) (tAsgD (eIf (tBl (e2 sGe (eVar 3) (e2 (sIc CPow fun i j => .int (i ^ j.toNat)) (eC (.int 10)) (eC (.int 18))))) (eC (.int 60)) (eNeg (eC (.int 9)))) (gSubD (eVar 0) (eC (.int 1))))) tNextD) t__law_take_r1)))
def t__law_take_i3 : TSP := (tSeqD (tAsgD (e2 (sIc (fun _ j => 0 < j) fun i j => .int (i % j)) (eCall (s1 (sIntF fun i => i)) (aCons (e2 sIx (eVar 0) (eC (.int 0))) aNil)) (eVar 1)) (gN 4)) (tSeqD (tAsgD (e2 (sIc CDiv fun i j => .int (i / j)) (e2 sIx (eVar 0) (eC (.int 0))) (eVar 1)) (gSubD (eVar 0) (eC (.int 0)))) (tSeqD (tAsgD (eIf (tBl (e2 sGt (e2 sIx (eVar 0) (eC (.int 0))) (eC (.int 0)))) (e2 (sI fun i j => .int (i - j)) (e2 sIx (eVar 0) (eC (.int 1))) (eC (.int 1))) (eC (.int 0))) (gSubD (eVar 0) (eC (.int 1)))) (tRetD (eOut 4)))))
def t__law_take_r4 : TSP := (tSeqD (tAsgD (e2 sAdd (e2 sIx (eVar 0) (eC (.int 1))) (eC (.int 1))) (gSubD (eVar 0) (eC (.int 1)))) (tSeqD (tAsgD (e2 (sIc (fun _ j => 0 < j) fun i j => .int (i % j)) (eCall (s1 (sIntF fun i => i)) (aCons (e2 sAdd (e2 sMul (e2 sIx (eVar 0) (eC (.int 0))) (eC (.int 48271))) (e2 sMul (eC (.int 69621)) (e2 sAdd (e2 sIx (eVar 0) (eC (.int 1))) (eC (.int 20))))) aNil)) (eC (.int 2147483647))) (gSubD (eVar 0) (eC (.int 0)))) (tRetD (e2 (sIc (fun _ j => 0 < j) fun i j => .int (i % j)) (e2 (sIc (fun _ j => 0 < j) fun i j => .int (i % j)) (eCall (s1 (sIntF fun i => i)) (aCons (e2 sAdd (e2 (sIc CDiv fun i j => .int (i / j)) (e2 sIx (eVar 0) (eC (.int 0))) (eC (.int 7))) (e2 sIx (eVar 0) (eC (.int 0)))) aNil)) (eC (.int 1000003))) (eVar 1)))))
def t__law_take_r5 : TSP := (tSeqD (tIfD (tBl (e2 sGt (e2 sIx (eVar 0) (eC (.int 1))) (eC (.int 0)))) t__law_take_i3 tNextD) t__law_take_r4)
def t__law_take : TSP := (tSeqD (tIfD (tBl (e2 sEq (e2 sIx (eVar 0) (eC (.int 1))) (eC (.int 0)))) t__law_take_i2 tNextD) t__law_take_r5)
def t__law_turning_b1 : TSP := (tDropD (eBM "list" sInsert (eVar 2) (aCons (eOwn sp__law_take (aCons (eVar 0) (aCons (e2 sAdd (eVar 3) (eC (.int 1))) aNil))) (aCons (eVar 3) aNil))))
def t__law_turning_r2 : TSP := (tRetD (eCall (s1 sTupO) (aCons (eVar 2) aNil)))
def t__law_turning : TSP := (tSeqD (tAsgD (eLst aNil) (gN 2)) (tSeqD (tForD (iRg1 (aCons (eVar 1) aNil)) (gN 3) t__law_turning_b1) t__law_turning_r2))
end PD
set_option Elab.async false
set_option linter.all false
set_option maxRecDepth 100000
set_option maxHeartbeats 2000000
namespace PD
open PySem L2
local macro_rules | `(tactic| walk_at "pd") => `(tactic| simp only [w_var, w_c, w_raw, w_e2, w_sI, w_sIc, w_tBl, w_boolW, w_intW, w_tupW, w_eqL, w_neL, w_isN, w_isNotN, w_isBB, w_isNotBB, w_tupO, w_lstO, w_seq, w_seqT, w_seqN, w_seqLi, w_seqB, it_tup, it_list, it_lst, w_lenT, w_lenL, w_lenBL, w_lenBD, w_inDkB, w_inTup, w_tru, w_truB, w_truI, w_truT, w_truL, w_truN, w_and, w_or, w_not, w_eAnd, w_eOr, w_eNot, w_if, w_chain, w_aNil, w_aCons, w_tup, w_lst, w_mkT0, w_mkT1, w_mkT2, w_mkT3, w_mkL0, w_mkL1, w_mkL2, w_call, w_s1, w_intF, w_own, w_out, w_neg, w_addI, w_addT, w_addL, w_mulI, w_mulL, w_dict0, w_lend0, w_lendB, w_lendD, w_lendL, w_back0, w_backB, w_backD, w_backL, w_sl, w_slT, w_slL, w_oNone, w_oSome, w_tupRg, w_lstRg, w_lenSet, w_tix, w_bm, w_tyM, w_app, w_insert, w_extend, w_next, w_seqS, w_break, w_cont, w_drop, w_ret, w_ifS, w_never, w_asg, w_gN, w_gT, w_isT, w_isTD, w_isTP, w_gs0, w_gs1, w_par, w_par2, w_gSub', w_subL, w_subO, w_subK, w_for, w_while, w_lc, w_rg1, w_rg2, w_as1I, w_as2I, w_enum, w_enW, upS_nil, upS_it, seen_dat, seen_lst, seen_lsD, seen_dk, seen_bor, ok_dat, ok_lst, ok_lsD, ok_dk, ok_bor, root_lst, root_lsD, root_dk, root_ins, getP_nil, setP_nil, rdS, ld_dat, ld_lst, ld_lsD, ld_dk, ld_bor, ty_lst, ty_lsD, ty_dk, List.getElem?_cons_zero, List.getElem?_cons_succ, List.set_cons_zero, List.set_cons_succ, Option.some.injEq, exists_eq_left', exists_eq_left, true_and, and_true, List.length_cons, List.length_nil, Nat.ble_eq, Nat.zero_add, Nat.reduceAdd, Nat.reduceLeDiff, List.map_cons, List.map_nil, ite_true, ite_false, Bool.false_eq_true, if_false, if_true, Bool.not_true, Bool.not_false, exists_eq, wipeD, Bool.and_true, Bool.and_false, Bool.or_true, Bool.or_false, decide_eq_true_eq, decide_true, decide_false, w_lenN, w_seqTN, w_ixN, w_eqNN, w_neNN, w_eqTT, w_neTT, w_eqII, w_neII, w_isiI, w_isiB, w_isiT, w_isiTN, w_tupWN, w_truTN, w_enWN, w_ixBL, w_ixL, w_ixO, w_ixK, w_ixT, tupN_of, intsL_len, Bool.not_eq_true', decide_eq_false_iff_not, not_true, not_false_iff, and_self, eq_self, Bool.true_eq_false, w_sum, w_all, w_any, w_sortI])
open PM
theorem vc_is_number : ∀ ds Q, sp_is_number ds Q → t_is_number (fnEnds ds Q) (startD 1 ds) := by
  rintro ds Q ⟨u, rfl, h⟩
  change t_is_number _ [some (.dat (.int u))]
  unfold t_is_number
  walk_at "pd"
  exact rt1 h
end PD
set_option Elab.async false
set_option linter.all false
set_option maxRecDepth 100000
set_option maxHeartbeats 2000000
namespace PD
open PySem L2
local macro_rules | `(tactic| walk_at "pd") => `(tactic| simp only [w_var, w_c, w_raw, w_e2, w_sI, w_sIc, w_tBl, w_boolW, w_intW, w_tupW, w_eqL, w_neL, w_isN, w_isNotN, w_isBB, w_isNotBB, w_tupO, w_lstO, w_seq, w_seqT, w_seqN, w_seqLi, w_seqB, it_tup, it_list, it_lst, w_lenT, w_lenL, w_lenBL, w_lenBD, w_inDkB, w_inTup, w_tru, w_truB, w_truI, w_truT, w_truL, w_truN, w_and, w_or, w_not, w_eAnd, w_eOr, w_eNot, w_if, w_chain, w_aNil, w_aCons, w_tup, w_lst, w_mkT0, w_mkT1, w_mkT2, w_mkT3, w_mkL0, w_mkL1, w_mkL2, w_call, w_s1, w_intF, w_own, w_out, w_neg, w_addI, w_addT, w_addL, w_mulI, w_mulL, w_dict0, w_lend0, w_lendB, w_lendD, w_lendL, w_back0, w_backB, w_backD, w_backL, w_sl, w_slT, w_slL, w_oNone, w_oSome, w_tupRg, w_lstRg, w_lenSet, w_tix, w_bm, w_tyM, w_app, w_insert, w_extend, w_next, w_seqS, w_break, w_cont, w_drop, w_ret, w_ifS, w_never, w_asg, w_gN, w_gT, w_isT, w_isTD, w_isTP, w_gs0, w_gs1, w_par, w_par2, w_gSub', w_subL, w_subO, w_subK, w_for, w_while, w_lc, w_rg1, w_rg2, w_as1I, w_as2I, w_enum, w_enW, upS_nil, upS_it, seen_dat, seen_lst, seen_lsD, seen_dk, seen_bor, ok_dat, ok_lst, ok_lsD, ok_dk, ok_bor, root_lst, root_lsD, root_dk, root_ins, getP_nil, setP_nil, rdS, ld_dat, ld_lst, ld_lsD, ld_dk, ld_bor, ty_lst, ty_lsD, ty_dk, List.getElem?_cons_zero, List.getElem?_cons_succ, List.set_cons_zero, List.set_cons_succ, Option.some.injEq, exists_eq_left', exists_eq_left, true_and, and_true, List.length_cons, List.length_nil, Nat.ble_eq, Nat.zero_add, Nat.reduceAdd, Nat.reduceLeDiff, List.map_cons, List.map_nil, ite_true, ite_false, Bool.false_eq_true, if_false, if_true, Bool.not_true, Bool.not_false, exists_eq, wipeD, Bool.and_true, Bool.and_false, Bool.or_true, Bool.or_false, decide_eq_true_eq, decide_true, decide_false, w_lenN, w_seqTN, w_ixN, w_eqNN, w_neNN, w_eqTT, w_neTT, w_eqII, w_neII, w_isiI, w_isiB, w_isiT, w_isiTN, w_tupWN, w_truTN, w_enWN, w_ixBL, w_ixL, w_ixO, w_ixK, w_ixT, tupN_of, intsL_len, Bool.not_eq_true', decide_eq_false_iff_not, not_true, not_false_iff, and_self, eq_self, Bool.true_eq_false, w_sum, w_all, w_any, w_sortI])
open PM
def dkN (S : List Nat) : List (Key × PyData) := S.map fun y : Nat => (.inl (y : Int), .bool true)
theorem look_dkN (S : List Nat) (x : Nat) : (look (dkN S) (.inl (x : Int))).isSome = decide (x ∈ S) := by
  unfold look dkN
  rw [List.find?_map]
  cases e : S.find? ((fun p : Key × PyData => decide (p.1 = .inl (x : Int))) ∘ fun y : Nat => (.inl (y : Int), .bool true)) with
  | none =>
    have := List.find?_eq_none.mp e
    have h : x ∉ S := fun h => this x h (by simp)
    simp [h]
  | some y =>
    have h1 := List.find?_some e
    have h2 := List.mem_of_find?_eq_some e
    have : y = x := by
      have : (Sum.inl (y : Int) : Key) = .inl (x : Int) := by simpa using h1
      have := Sum.inl.inj this
      omega
    subst this
    simp [h2]
theorem store_dkN {S : List Nat} {x : Nat} (h : x ∉ S) : store (dkN S) (.inl (x : Int)) (.bool true) = dkN (S ++ [x]) := by
  have e : (dkN S).any (fun p => decide (p.1 = .inl (x : Int))) = false := by
    rw [List.any_eq_false]
    intro p hp
    obtain ⟨y, hy, rfl⟩ := List.mem_map.mp hp
    simp
    intro e
    exact h (by rw [show x = y by omega]; exact hy)
  unfold store
  rw [e]
  unfold dkN
  simp
theorem dkN_len (S : List Nat) : (dkN S).length = S.length := List.length_map ..
theorem tupsL_app (A B : List (List Nat)) : tupsL (A ++ B) = tupsL A ++ tupsL B := List.map_append ..
theorem tupsL_len (A : List (List Nat)) : (tupsL A).length = A.length := List.length_map ..
/-- what is behind the numbers below x -/
def lotsTo (n : Nat) (f : Nat → Nat) (pre : List Nat) : List (List Nat) := (pre.filter (least n f)).map (cyc n f)
theorem seen_iff {n : Nat} {f : Nat → Nat} (T : Trn n f) {pre : List Nat} (hp : ∀ y ∈ pre, y < n) {x : Nat} : x ∈ (lotsTo n f pre).flatten ↔ ∃ y ∈ pre, least n f y = true ∧ x ∈ cyc n f y := by
  unfold lotsTo
  rw [List.mem_flatten]
  constructor
  · rintro ⟨l, hl, hx⟩
    obtain ⟨y, hy, rfl⟩ := List.mem_map.mp hl
    obtain ⟨h1, h2⟩ := List.mem_filter.mp hy
    exact ⟨y, h1, h2, hx⟩
  · rintro ⟨y, h1, h2, h3⟩
    exact ⟨_, List.mem_map.mpr ⟨y, List.mem_filter.mpr ⟨h1, h2⟩, rfl⟩, h3⟩
def cycTo (f : Nat → Nat) (x m : Nat) : List Nat := (List.range m).map fun i => it f i x
theorem cycTo_succ (f : Nat → Nat) (x m : Nat) : cycTo f x (m + 1) = cycTo f x m ++ [it f m x] := by unfold cycTo; rw [List.range_succ, List.map_append]; rfl
theorem vc_lots : ∀ ds Q, sp_lots ds Q → t_lots (fnEnds ds Q) (startD 5 ds) := by
  rintro ds Q ⟨p, rfl, hp, hl, h⟩
  change t_lots _ [some (.dat (tupN p)), none, none, none, none]
  unfold t_lots
  walk_at "pd"
  intro b
  refine fun c => ⟨⟨by omega, by omega⟩, ?_⟩
  have T := hp.trn
  rw [upto_natD]
  refine for_pre (List.range p.length) (fun i => .dat (.int (i : Nat))) (fun pre s => ∃ (o3 o4 : Option D), s = [some (.dat (tupN p)), some (.dk b (dkN (lotsTo p.length (ap p) pre).flatten)), some (.lst c (tupsL (lotsTo p.length (ap p) pre))), o3, o4])
    rfl ⟨none, none, rfl⟩ (fun _ _ _ => trivial) ?_ ?_
  · rintro pre x post s e ⟨o3, o4, rfl⟩
    have hx : x < p.length := List.mem_range.mp (by rw [e]; simp)
    have hlt : ∀ y ∈ pre, y < p.length := fun y hy => List.mem_range.mp (by rw [e]; simp [hy])
    have hsort : (pre ++ x :: post).Pairwise (· < ·) := by rw [← e]; exact List.pairwise_lt_range
    have hpx : ∀ y ∈ pre, y < x := fun y hy => (List.pairwise_append.mp hsort).2.2 y hy x List.mem_cons_self
    have hpre : ∀ y, y < x → y ∈ pre := fun y hy => by
      have : y ∈ pre ++ x :: post := by rw [← e]; exact List.mem_range.mpr (by omega)
      rcases List.mem_append.mp this with h | h
      · exact h
      · rcases List.mem_cons.mp h with h | h
        · omega
        · have := (List.pairwise_cons.mp (List.pairwise_append.mp hsort).2.1).1 y h
          omega
    unfold t_lots_b4
    walk_at "pd"
    rw [look_dkN]
    by_cases hs : x ∈ (lotsTo p.length (ap p) pre).flatten
    · rw [if_pos (by simp [hs])]
      obtain ⟨y, h1, h2, h3⟩ := (seen_iff T hlt).mp hs
      have hnl : least p.length (ap p) x = false := by
        refine Bool.eq_false_iff.mpr fun q => ?_
        have := T.least_uniq (hlt y h1) q h2 h3
        have := hpx y h1
        omega
      have e2 : lotsTo p.length (ap p) (pre ++ [x]) = lotsTo p.length (ap p) pre := by unfold lotsTo; rw [List.filter_append]; simp [hnl]
      rw [e2]
      exact ⟨_, _, rfl⟩
    · rw [if_neg (by simp [hs])]
      have hle : least p.length (ap p) x = true := by
        obtain ⟨m, h1, h2⟩ := T.ex_least x hx
        by_cases hm : m = x
        · subst hm; exact h2
        · have hmx : m ≤ x := least_iff.mp h2 x (T.back hx h1)
          exact absurd ((seen_iff T hlt).mpr ⟨m, hpre m (by omega), h2, T.back hx h1⟩) hs
      have e2 : lotsTo p.length (ap p) (pre ++ [x]) = lotsTo p.length (ap p) pre ++ [cyc p.length (ap p) x] := by unfold lotsTo; rw [List.filter_append, List.map_append]; simp [hle]
      rw [e2]
      unfold t_lots_r3
      walk_at "pd"
      intro a
      generalize hS : (lotsTo p.length (ap p) pre).flatten = S at hs
      have hbound : S.length + per p.length (ap p) x ≤ p.length := by
        have nd := T.flat_nodup (hs := (pre ++ [x]).filter (least p.length (ap p))) (fun y hy => by
          obtain ⟨h1, h2⟩ := List.mem_filter.mp hy
          refine ⟨?_, h2⟩
          rcases List.mem_append.mp h1 with h | h
          · exact hlt y h
          · obtain rfl : y = x := by simpa using h
            exact hx) ((hsort.sublist (by simp)).imp (fun h => Nat.ne_of_lt h) |>.filter _)
        have := php p.length _ nd fun y hy => by
          obtain ⟨l, hl, hy⟩ := List.mem_flatten.mp hy
          obtain ⟨z, hz, rfl⟩ := List.mem_map.mp hl
          have hz' := (List.mem_filter.mp hz).1
          refine T.cyc_lt ?_ hy
          rcases List.mem_append.mp hz' with h | h
          · exact hlt z h
          · obtain rfl : z = x := by simpa using h
            exact hx
        have e3 : ((pre ++ [x]).filter (least p.length (ap p))).map (cyc p.length (ap p)) = lotsTo p.length (ap p) pre ++ [cyc p.length (ap p) x] := e2
        rw [e3, List.flatten_append, List.length_append, hS] at this
        simpa [cyc_len] using this
      have hnotS : ∀ m, it (ap p) m x ∉ S := fun m q => hs (by
        rw [← hS] at q ⊢
        obtain ⟨y, h1, h2, h3⟩ := (seen_iff T hlt).mp q
        exact (seen_iff T hlt).mpr ⟨y, h1, h2, T.cyc_trans (hlt y h1) h3 (T.back hx ((T.mem_cyc hx).mpr ⟨m, rfl⟩))⟩)
      refine ⟨fun k s => ∃ m, k = per p.length (ap p) x - m ∧ m ≤ per p.length (ap p) x ∧ s = [some (.dat (tupN p)), some (.dk b (dkN (S ++ cycTo (ap p) x m))), some (.lst c (tupsL (lotsTo p.length (ap p) pre))), some (.dat (.int (it (ap p) m x : Nat))), some (.lst a (intsL (cycTo (ap p) x m)))],
        ⟨_, 0, rfl, Nat.zero_le _, by simp [cycTo, intsL, it]⟩, ?_⟩
      rintro k s ⟨m, rfl, hm, rfl⟩
      walk_at "pd"
      rw [look_dkN]
      by_cases hlast : m = per p.length (ap p) x
      · have hin : it (ap p) m x ∈ S ++ cycTo (ap p) x m := by
          rw [hlast, (T.per_spec hx).1]
          exact List.mem_append_right _ (List.mem_map.mpr ⟨0, List.mem_range.mpr per_pos, rfl⟩)
        rw [if_neg (by simp [hin])]
        unfold t_lots_r2
        walk_at "pd"
        have hlen : (lotsTo p.length (ap p) pre).length ≤ p.length := by
          unfold lotsTo
          rw [List.length_map]
          refine Nat.le_trans (List.length_filter_le ..) ?_
          have := congrArg List.length e
          simp at this; omega
        refine ⟨by rw [tupsL_len]; omega, ?_⟩
        have ec : cycTo (ap p) x m = cyc p.length (ap p) x := by rw [hlast]; rfl
        rw [ec, List.flatten_append, hS]
        rw [tupsL_app, show [cyc p.length (ap p) x].flatten = cyc p.length (ap p) x by simp]
        exact ⟨_, _, rfl⟩
      · have hnin : it (ap p) m x ∉ S ++ cycTo (ap p) x m := by
          intro q
          rcases List.mem_append.mp q with q | q
          · exact hnotS m q
          · obtain ⟨i, hi, e4⟩ := List.mem_map.mp q
            have hi' := List.mem_range.mp hi
            exact (T.per_spec hx).2.2 (m - i) (by omega) (by omega) (T.cancel hx (by omega) e4)
        rw [if_pos (by simp [hnin])]
        unfold t_lots_b1
        walk_at "pd"
        have hTl : (S ++ cycTo (ap p) x m).length ≤ p.length := by
          rw [List.length_append]
          have : (cycTo (ap p) x m).length = m := by unfold cycTo; simp
          omega
        refine ⟨by rw [dkN_len]; omega, ?_⟩
        rw [store_dkN hnin]
        refine ⟨by have : (cycTo (ap p) x m).length = m := by unfold cycTo; simp
                   omega, ?_⟩
        refine ⟨_, ap_get (T.it_lt hx m), per p.length (ap p) x - (m + 1), by omega, m + 1, rfl, by omega, ?_⟩
        rw [cycTo_succ, List.append_assoc, intsL_app]; rfl
  · rintro s ⟨o3, o4, rfl⟩
    walk_at "pd"
    exact rt1 (h c)
end PD
set_option Elab.async false
set_option linter.all false
set_option maxRecDepth 100000
set_option maxHeartbeats 2000000
namespace PD
open PySem L2
local macro_rules | `(tactic| walk_at "pd") => `(tactic| try simp only [w_var, w_c, w_raw, w_e2, w_sI, w_sIc, w_tBl, w_boolW, w_intW, w_tupW, w_eqL, w_neL, w_isN, w_isNotN, w_isBB, w_isNotBB, w_tupO, w_lstO, w_seq, w_seqT, w_seqN, w_seqLi, w_seqB, it_tup, it_list, it_lst, w_lenT, w_lenL, w_lenBL, w_lenBD, w_inDkB, w_inTup, w_tru, w_truB, w_truI, w_truT, w_truL, w_truN, w_and, w_or, w_not, w_eAnd, w_eOr, w_eNot, w_if, w_chain, w_aNil, w_aCons, w_tup, w_lst, w_mkT0, w_mkT1, w_mkT2, w_mkT3, w_mkL0, w_mkL1, w_mkL2, w_call, w_s1, w_intF, w_own, w_out, w_neg, w_addI, w_addT, w_addL, w_mulI, w_mulL, w_dict0, w_lend0, w_lendB, w_lendD, w_lendL, w_back0, w_backB, w_backD, w_backL, w_sl, w_slT, w_slL, w_oNone, w_oSome, w_tupRg, w_lstRg, w_lenSet, w_tix, w_bm, w_tyM, w_app, w_insert, w_extend, w_next, w_seqS, w_break, w_cont, w_drop, w_ret, w_ifS, w_never, w_asg, w_gN, w_gT, w_isT, w_isTD, w_isTP, w_gs0, w_gs1, w_par, w_par2, w_gSub', w_subL, w_subO, w_subK, w_for, w_while, w_lc, w_rg1, w_rg2, w_as1I, w_as2I, w_enum, w_enW, upS_nil, upS_it, seen_dat, seen_lst, seen_lsD, seen_dk, seen_bor, ok_dat, ok_lst, ok_lsD, ok_dk, ok_bor, root_lst, root_lsD, root_dk, root_ins, getP_nil, setP_nil, rdS, ld_dat, ld_lst, ld_lsD, ld_dk, ld_bor, ty_lst, ty_lsD, ty_dk, List.getElem?_cons_zero, List.getElem?_cons_succ, List.set_cons_zero, List.set_cons_succ, Option.some.injEq, exists_eq_left', exists_eq_left, true_and, and_true, List.length_cons, List.length_nil, Nat.ble_eq, Nat.zero_add, Nat.reduceAdd, Nat.reduceLeDiff, List.map_cons, List.map_nil, ite_true, ite_false, Bool.false_eq_true, if_false, if_true, Bool.not_true, Bool.not_false, exists_eq, wipeD, Bool.and_true, Bool.and_false, Bool.or_true, Bool.or_false, decide_eq_true_eq, decide_true, decide_false, w_lenN, w_seqTN, w_ixN, w_eqNN, w_neNN, w_eqTT, w_neTT, w_eqII, w_neII, w_isiI, w_isiB, w_isiT, w_isiTN, w_tupWN, w_truTN, w_enWN, w_ixBL, w_ixL, w_ixO, w_ixK, w_ixT, tupN_of, intsL_len, Bool.not_eq_true', decide_eq_false_iff_not, not_true, not_false_iff, and_self, eq_self, ix4_0, ix4_1, ix4_2, ix4_3, getP_it1, w_mkLbox, List.nil_append, Bool.true_eq_false, w_sum, w_all, w_any, w_sortI])
open PM
theorem vc__law_box : ∀ ds Q, sp__law_box ds Q → t__law_box (fnEnds ds Q) (startD 2 ds) := by
  rintro ds Q ⟨d, ns, rfl, hd, hl, h⟩
  have bx : ∀ b, BoxOk [.dat (.int 0), .dat (.int 0), .dat (.int 0), .lst b ((ns.map fun i => if i < 0 then -i else i).map .int)] := fun b => ⟨0, 0, 0, b, _, rfl, by omega⟩
  rcases hd with rfl | ⟨a, rfl⟩
  · change t__law_box _ [some (.dat (.list (ns.map .int))), none]
    unfold t__law_box
    walk_at "pd"
    refine lc_all ns (fun i => .dat (.int i)) (fun i => .int (if i < 0 then -i else i)) (by rw [List.map_map]; rfl) (by omega) trivial (fun i hi k1 hk => ?_) fun b => ?_
    · unfold t__law_box_e1
      walk_at "pd"
      exact hk _ rfl
    · walk_at "pd"
      intro a
      have := h a _ (bx b)
      rw [List.map_map] at this
      exact rt1 this
  · change t__law_box _ [some (.lst a (ns.map .int)), none]
    unfold t__law_box
    walk_at "pd"
    refine lc_all ns (fun i => .dat (.int i)) (fun i => .int (if i < 0 then -i else i)) (by rw [List.map_map]; rfl) (by omega) (by walk_at "pd") (fun i hi k1 hk => ?_) fun b => ?_
    · unfold t__law_box_e1
      walk_at "pd"
      exact hk _ rfl
    · walk_at "pd"
      intro c
      have := h c _ (bx b)
      rw [List.map_map] at this
      exact rtL this
theorem take_r5 {a b : Addr} {x y z : Int} {cs : List Int} {m : Int} {xs0 : List D} {Q : D → List D → Prop} {o2 o3 o4 : Option D} (hz : 0 ≤ z) (hm : 0 < m) (hm2 : m < 1073741824)
    (h : ∀ xs' v, BoxOk xs' → 0 ≤ v → v < m → Q (.dat (.int v)) [.lsD a xs', .dat (.int m)]) :
    t__law_take_r5 (fnEnds [.lsD a xs0, .dat (.int m)] Q) [some (.lsD a [.dat (.int x), .dat (.int y), .dat (.int z), .lst b (cs.map .int)]), some (.dat (.int m)), o2, o3, o4] := by
  unfold t__law_take_r5
  walk_at "pd"
  have bx : ∀ x y : Int, BoxOk [.dat (.int x), .dat (.int y), .dat (.int z), .lst b (cs.map .int)] := fun x y => ⟨x, y, z, b, cs, rfl, hz⟩
  by_cases hy : 0 < y
  · rw [if_pos hy]
    unfold t__law_take_i3
    walk_at "pd"
    refine ⟨hm, ⟨hm, hm2⟩, ?_⟩
    by_cases hx : 0 < x / m
    · rw [if_pos hx]
      walk_at "pd"
      exact rtO (h _ _ (bx _ _) (Int.emod_nonneg _ (by omega)) (Int.emod_lt_of_pos _ hm))
    · rw [if_neg hx]
      walk_at "pd"
      exact rtO (h _ _ (bx _ _) (Int.emod_nonneg _ (by omega)) (Int.emod_lt_of_pos _ hm))
  · rw [if_neg hy]
    unfold t__law_take_r4
    walk_at "pd"
    refine ⟨.inr ⟨by decide, by decide⟩, .inl ⟨by decide, by decide⟩, by decide, ⟨by decide, by decide⟩, by decide, hm, ?_⟩
    exact rtO (h _ _ (bx _ _) (Int.emod_nonneg _ (by omega)) (Int.emod_lt_of_pos _ hm))
theorem take_r1 {a b : Addr} {x y z c : Int} {cs : List Int} {m : Int} {xs0 : List D} {Q : D → List D → Prop} {o4 : Option D} (hz : 0 ≤ z) (hm : 0 < m) (hm2 : m < 1073741824)
    (h : ∀ xs' v, BoxOk xs' → 0 ≤ v → v < m → Q (.dat (.int v)) [.lsD a xs', .dat (.int m)]) :
    t__law_take_r1 ⟨fun ds1 => t__law_take_r5 (fnEnds [.lsD a xs0, .dat (.int m)] Q) ds1, (fnEnds [.lsD a xs0, .dat (.int m)] Q).rt, (fnEnds [.lsD a xs0, .dat (.int m)] Q).bk, (fnEnds [.lsD a xs0, .dat (.int m)] Q).ct⟩
      [some (.lsD a [.dat (.int x), .dat (.int y), .dat (.int z), .lst b (cs.map .int)]), some (.dat (.int m)), some (.dat (.int z)), some (.dat (.int c)), o4] := by
  unfold t__law_take_r1
  walk_at "pd"
  by_cases hy : y = 0
  · rw [if_pos hy]
    exact rtO (h _ _ ⟨c, y, z + 1, b, cs, rfl, by omega⟩ (by omega) hm)
  · rw [if_neg hy]
    exact take_r5 (by omega) hm hm2 h
theorem atI_int {cs : List Int} {z : Int} (h0 : 0 ≤ z) (h1 : z < (cs.map PyData.int).length) : ∃ c, atI (cs.map PyData.int) z = some (.int c) := by
  have h2 : z.toNat < cs.length := by rw [List.length_map] at h1; omega
  refine ⟨cs[z.toNat], ?_⟩
  unfold atI ixN
  rw [if_pos h0, if_pos h1]
  show (cs.map PyData.int)[z.toNat]? = _
  rw [List.getElem?_map, List.getElem?_eq_getElem h2]; rfl
theorem vc__law_take : ∀ ds Q, sp__law_take ds Q → t__law_take (fnEnds ds Q) (startD 5 ds) := by
  rintro ds Q ⟨a, xs, m, rfl, ⟨x, y, z, b, cs, rfl, hz⟩, hm, hm2, h⟩
  change t__law_take _ [some (.lsD a [.dat (.int x), .dat (.int y), .dat (.int z), .lst b (cs.map .int)]), some (.dat (.int m)), none, none, none]
  unfold t__law_take
  walk_at "pd"
  by_cases hy : y = 0
  · rw [if_pos hy]
    unfold t__law_take_i2
    walk_at "pd"
    by_cases hzl : z < (cs.map PyData.int).length
    · rw [if_pos hzl]
      obtain ⟨c, hc⟩ := atI_int hz hzl
      refine ⟨_, hc, ⟨by decide, by decide, by decide⟩, ?_⟩
      walk_at "pd"
      by_cases h9 : (10 : Int) ^ Int.toNat 18 ≤ c
      · rw [if_pos h9]
        walk_at "pd"
        exact take_r1 hz hm hm2 h
      · rw [if_neg h9]
        walk_at "pd"
        exact take_r1 hz hm hm2 h
    · rw [if_neg hzl]
      exact take_r1 hz hm hm2 h
  · rw [if_neg hy]
    exact take_r5 hz hm hm2 h
theorem vc__law_turning : ∀ ds Q, sp__law_turning ds Q → t__law_turning (fnEnds ds Q) (startD 4 ds) := by
  rintro ds Q ⟨a, xs, n, rfl, hb, hn, h⟩
  change t__law_turning _ [some (.lsD a xs), some (.dat (.int (n : Nat))), none, none]
  unfold t__law_turning
  walk_at "pd"
  refine fun c => ⟨⟨by omega, by omega⟩, ?_⟩
  rw [upto_natD]
  refine for_pre (List.range n) (fun i => .dat (.int (i : Nat))) (fun pre s => ∃ (xs' : List D) (row : List Nat) (o3 : Option D), s = [some (.lsD a xs'), some (.dat (.int (n : Nat))), some (.lst c (intsL row)), o3] ∧ BoxOk xs' ∧ row.Perm pre)
    rfl ⟨xs, [], none, rfl, hb, List.Perm.refl _⟩ (fun _ _ _ => trivial) ?_ ?_
  · rintro pre x post s e ⟨xs', row, o3, rfl, hb', hr⟩
    have hx : x < n := List.mem_range.mp (by rw [e]; simp)
    have hlen : row.length ≤ n := by
      rw [hr.length_eq]
      have := congrArg List.length e
      simp at this; omega
    unfold t__law_turning_b1
    walk_at "pd"
    refine ⟨a, xs', (x : Int) + 1, rfl, hb', by omega, by omega, fun xs2 v hb2 h0 h1 => ?_⟩
    walk_at "pd"
    refine ⟨by omega, h0, by omega, xs2, row.take v.toNat ++ [x] ++ row.drop v.toNat, some (.dat (.int (x : Nat))), ?_, hb2, ?_⟩
    · have e1 : (intsL row).take v.toNat ++ [PyData.int (x : Nat)] ++ (intsL row).drop v.toNat = intsL (row.take v.toNat ++ [x] ++ row.drop v.toNat) := by
        unfold intsL; rw [List.map_append, List.map_append, List.map_take, List.map_drop]; rfl
      rw [e1]
    · have : (row.take v.toNat ++ [x] ++ row.drop v.toNat).Perm (row ++ [x]) := by
        conv => rhs; rw [← List.take_append_drop v.toNat row]
        rw [List.append_assoc, List.append_assoc]
        exact List.Perm.append_left _ List.perm_append_comm
      exact this.trans (hr.append_right _)
  · rintro s ⟨xs', row, o3, rfl, hb', hr⟩
    unfold t__law_turning_r2
    walk_at "pd"
    obtain ⟨h1, h2⟩ := IsP.of_perm hr
    exact rtO (h xs' row hb' h1 h2)
end PD
/-! Plain mathematics: crossed pairs, their parity, the parity by rounds. -/
namespace PM
/-- the turning that exchanges a and b -/
def exch (a b x : Nat) : Nat := if x = a then b else if x = b then a else x
/-! one number taken out of its round -/
section
variable {n : Nat} {f : Nat → Nat}
end
end PM
set_option Elab.async false
set_option linter.all false
set_option maxRecDepth 100000
set_option maxHeartbeats 2000000
namespace PD
open PySem L2
local macro_rules | `(tactic| walk_at "pd") => `(tactic| try simp only [w_var, w_c, w_raw, w_e2, w_sI, w_sIc, w_tBl, w_boolW, w_intW, w_tupW, w_eqL, w_neL, w_isN, w_isNotN, w_isBB, w_isNotBB, w_tupO, w_lstO, w_seq, w_seqT, w_seqN, w_seqLi, w_seqB, it_tup, it_list, it_lst, w_lenT, w_lenL, w_lenBL, w_lenBD, w_inDkB, w_inTup, w_tru, w_truB, w_truI, w_truT, w_truL, w_truN, w_and, w_or, w_not, w_eAnd, w_eOr, w_eNot, w_if, w_chain, w_aNil, w_aCons, w_tup, w_lst, w_mkT0, w_mkT1, w_mkT2, w_mkT3, w_mkL0, w_mkL1, w_mkL2, w_call, w_s1, w_intF, w_own, w_out, w_neg, w_addI, w_addT, w_addL, w_mulI, w_mulL, w_dict0, w_lend0, w_lendB, w_lendD, w_lendL, w_back0, w_backB, w_backD, w_backL, w_sl, w_slT, w_slL, w_oNone, w_oSome, w_tupRg, w_lstRg, w_lenSet, w_tix, w_bm, w_tyM, w_app, w_insert, w_extend, w_next, w_seqS, w_break, w_cont, w_drop, w_ret, w_ifS, w_never, w_asg, w_gN, w_gT, w_isT, w_isTD, w_isTP, w_gs0, w_gs1, w_par, w_par2, w_gSub', w_subL, w_subO, w_subK, w_for, w_while, w_lc, w_rg1, w_rg2, w_as1I, w_as2I, w_enum, w_enW, upS_nil, upS_it, seen_dat, seen_lst, seen_lsD, seen_dk, seen_bor, ok_dat, ok_lst, ok_lsD, ok_dk, ok_bor, root_lst, root_lsD, root_dk, root_ins, getP_nil, setP_nil, rdS, ld_dat, ld_lst, ld_lsD, ld_dk, ld_bor, ty_lst, ty_lsD, ty_dk, List.getElem?_cons_zero, List.getElem?_cons_succ, List.set_cons_zero, List.set_cons_succ, Option.some.injEq, exists_eq_left', exists_eq_left, true_and, and_true, List.length_cons, List.length_nil, Nat.ble_eq, Nat.zero_add, Nat.reduceAdd, Nat.reduceLeDiff, List.map_cons, List.map_nil, ite_true, ite_false, Bool.false_eq_true, if_false, if_true, Bool.not_true, Bool.not_false, exists_eq, wipeD, Bool.and_true, Bool.and_false, Bool.or_true, Bool.or_false, decide_eq_true_eq, decide_true, decide_false, w_lenN, w_seqTN, w_ixN, w_eqNN, w_neNN, w_eqTT, w_neTT, w_eqII, w_neII, w_isiI, w_isiB, w_isiT, w_isiTN, w_tupWN, w_truTN, w_enWN, w_ixBL, w_ixL, w_ixO, w_ixK, w_ixT, tupN_of, intsL_len, Bool.not_eq_true', decide_eq_false_iff_not, not_true, not_false_iff, and_self, eq_self, ix4_0, ix4_1, ix4_2, ix4_3, getP_it1, w_mkLbox, List.nil_append, Bool.true_eq_false, w_sum, w_sumTN, w_seqTT, w_slTN, cut_from, cut_upto, w_all, w_any, w_sortI])

open PM
end PD
set_option Elab.async false
set_option linter.all false
set_option maxRecDepth 100000
set_option maxHeartbeats 2000000
/-! PD: defs that raise out, and a try around their calls. -/
namespace PD
open PySem L2 PySem.Spec PyProof.Rows
/-! ### a call that is told of fixed tuples and lists alone keeps all else -/
def Imm2 : HO → Prop
  | .tup _ => True
  | .frz _ (.tup _) => True
  | .frz _ (.lst _) => True
  | _ => False
theorem Imm2.imm {o : HO} (h : Imm2 o) : Imm o := by
  cases o <;> first | trivial | exact h.elim
/-- the abstract heap's fixed tuples and lists -/
def smallH (H : Hp) : Hp := fun a => match H a with
  | some (.tup xs) => some (.tup xs)
  | some (.frz o (.tup xs)) => some (.frz o (.tup xs))
  | some (.frz o (.lst xs)) => some (.frz o (.lst xs))
  | _ => none
theorem small_some {H : Hp} {b : Addr} {o : HO} (h : smallH H b = some o) : H b = some o ∧ Imm2 o := by
  unfold smallH at h
  split at h
  · cases h; rename_i e; exact ⟨e, trivial⟩
  · cases h; rename_i e; exact ⟨e, trivial⟩
  · cases h; rename_i e; exact ⟨e, trivial⟩
  · cases h
theorem small_imm {H : Hp} {b : Addr} {o : HO} (h : H b = some o) (i : Imm2 o) : smallH H b = some o := by
  unfold smallH; rw [h]
  cases o with
  | tup xs => rfl
  | frz ob u => cases u <;> first | rfl | exact i.elim
  | _ => exact i.elim
theorem small_mut {H : Hp} {b : Addr} {o : HO} (h : H b = some o) (i : ¬ Imm2 o) : smallH H b = none := by
  cases e : smallH H b with
  | none => rfl
  | some u =>
    obtain ⟨e1, e2⟩ := small_some e
    rw [h] at e1; cases e1; exact absurd e2 i
theorem small_none {H : Hp} {b : Addr} (h : H b = none) : smallH H b = none := by unfold smallH; rw [h]
theorem objOk2 {P : Program} {w : World} {H H' : Hp} {h : Heap} {a : Addr} {o : HO} (i : Imm2 o) (x : ObjOk P w H h a o) : ObjOk P w H' h a o := by
  cases o with
  | tup xs => exact x
  | frz ob u => cases u <;> first | exact x | exact i.elim
  | _ => exact i.elim
theorem small_hok {P : Program} {w : World} {H : Hp} {h : Heap} (x : HOk P w H h) : HOk P w (smallH H) h := fun b o e => by
  obtain ⟨e1, i⟩ := small_some e
  exact objOk2 i (x b o e1)
mutual
theorem RepP.keep2 {K : KW} {H H' : Hp} (k : ∀ b o, H b = some o → Imm2 o → H' b = some o) : ∀ (d : PyData) (v : V), RepP K H d v → RepP K H' d v
  | .none, _, h => h
  | .bool _, _, h => h
  | .int _, _, h => h
  | .str _, _, h => h
  | .tuple ds, _, ⟨a, xs, e, ⟨o, p, s⟩, r⟩ => ⟨a, xs, e, ⟨o, p, k _ _ s trivial⟩, RepPs.keep2 k ds xs r⟩
  | .list ds, _, ⟨a, xs, e, s, r⟩ => ⟨a, xs, e, by
      rcases s with ⟨o, s⟩ | s
      · exact .inl ⟨o, k _ _ s trivial⟩
      · exact .inr s, RepPs.keep2 k ds xs r⟩
  | .dict _, _, h => h
theorem RepPs.keep2 {K : KW} {H H' : Hp} (k : ∀ b o, H b = some o → Imm2 o → H' b = some o) : ∀ (ds : List PyData) (vs : List V), RepPs K H ds vs → RepPs K H' ds vs
  | [], _, h => h
  | d :: ds, _, ⟨v, r, e, h1, h2⟩ => ⟨v, r, e, RepP.keep2 k d v h1, RepPs.keep2 k ds r h2⟩
end
/-- trees that are data alone -/
def AllDat (as : List D) : Prop := ∀ x ∈ as, ∃ p, x = .dat p
theorem RepDs.keep2 {K : KW} {H H' : Hp} (k : ∀ b o, H b = some o → Imm2 o → H' b = some o) : ∀ {as : List D} {vs : List V}, AllDat as → RepDs K H as vs → RepDs K H' as vs
  | [], _, _, h => h
  | d :: ds, _, a, ⟨v, r, e, h1, h2⟩ => by
    obtain ⟨p, rfl⟩ := a d List.mem_cons_self
    exact ⟨v, r, e, RepP.keep2 k p v h1, RepDs.keep2 k (fun x hx => a x (List.mem_cons_of_mem _ hx)) h2⟩
theorem AllDat.c0 : ∀ {as : List D}, AllDat as → ∀ a, cDs a as = 0
  | [], _, _ => rfl
  | d :: ds, h, a => by
    obtain ⟨p, rfl⟩ := h d List.mem_cons_self
    show 0 + cDs a ds = 0
    rw [AllDat.c0 fun x hx => h x (List.mem_cons_of_mem _ hx)]
/-- an exception out of a call that is told of the fixed alone -/
theorem cx_frame {P : Program} {w : World} {outer : List Env} {H : Hp} {s : Shared} {E : XK} {u : Value} {s' : Shared} (hok : HOk P w H s.heap) (hfr : ∀ b ∈ frs outer, H b = none) (h : L2.CX P w outer (smallH H) s E u s') :
    L2.CX P w outer H s (fun cls d H2 => (∀ b o, H b = some o → H2 b = some o) ∧ ∃ H', E cls d H') u s' := by
  obtain ⟨a, B, H', cls, d, rfl, fl, hB, ub, na, os, ag, hE⟩ := h
  have real : ∀ b o, H b = some o → ∃ ob, s.heap.get? b = some ob := fun b o e => objOk_get (hok b o e)
  have immK : ∀ b o, H b = some o → Imm2 o → H' b = some o := fun b o e i => by
    have e2 := small_imm e i
    cases o with
    | tup xs => exact ub.tups b xs e2
    | frz ob u => exact ub.frzs b ob u e2
    | _ => exact i.elim
  have mutN : ∀ b o, H b = some o → ¬ Imm2 o → H' b = none := fun b o e i => by
    obtain ⟨ob, hb⟩ := real b o e
    exact ub.free b ob hb (small_mut e i)
  have nfr : ∀ b o, H b = some o → b ∉ frs outer := fun b o e hb => by rw [hfr b hb] at e; cases e
  let H2 : Hp := fun b => match H b with
    | some o => some o
    | none => H' b
  have h2some : ∀ b o, H b = some o → H2 b = some o := fun b o e => by show (match H b with | some o => some o | none => H' b) = _; rw [e]
  have h2none : ∀ b, H b = none → H2 b = H' b := fun b e => by show (match H b with | some o => some o | none => H' b) = _; rw [e]
  have up : ∀ b o, H' b = some o → H2 b = some o := fun b o e => by
    cases hb : H b with
    | none => rw [h2none b hb]; exact e
    | some o1 =>
      rw [h2some b o1 hb]
      by_cases i : Imm2 o1
      · rw [immK b o1 hb i] at e; exact e
      · rw [mutN b o1 hb i] at e; cases e
  refine ⟨a, B, H2, cls, d, rfl, fl, fun b o e => ?_, ⟨fun b o e n hb => ub.keep b o e (small_none n) hb, ub.slot, fun b o e n => ?_, ub.there, fun b xs e => h2some _ _ e, fun b o x e => h2some _ _ e, fun b ps e => ⟨#[], by rw [h2some _ _ e]; simp⟩⟩, ?_, os, ag, h2some, _, hE⟩
  · cases hb : H b with
    | none =>
      rw [h2none b hb] at e
      exact (hB b o e).stay (fun _ _ _ q => q) (fun c q => up c _ q) fun c xs q => up c _ q
    | some o1 =>
      rw [h2some b o1 hb] at e
      cases e
      by_cases i : Imm2 o
      · exact objOk2 i (hB b o (immK b o hb i))
      · refine (hok b o hb).stay (fun c v hc q => ?_) (fun c q => h2some c _ q) fun c xs q => h2some c _ q
        rcases hc with rfl | hc
        · exact ub.keep c v q (small_mut hb i) (nfr c o hb)
        · exact ub.keep c v q (small_mut hc id) (nfr c _ hc)
  · rw [h2none b n]; exact ub.free b o e (small_none n)
  · cases ha : H a with
    | none => rw [h2none a ha]; exact na
    | some o =>
      obtain ⟨ob, hr⟩ := real a o ha
      obtain ⟨o', e'⟩ := ub.there a ob hr (nfr a o ha)
      rw [fl.2.1] at e'; cases e'
/-! ### promises of what raises: the arguments, the class's name -/
abbrev SpR := List D → Str → Prop
def liftR (K : KW) (mg : Str → Option Value) (sx : SpR) : Sp := fun vs H _ E => ∃ ds n C, RepDs K H ds vs ∧ (∀ a, cDs a ds ≤ 1) ∧ sx ds n ∧ mg n = some C ∧ ∀ H', E C none H'
/-- what may leave here -/
def Lets (X : Cx) (R : Str → Prop) : Prop := ∃ W : WX, Takes X W ∧ ∀ n, R n → ∃ C, X.mg n = some C ∧ ∀ σ H, W C none σ H
theorem fnR {P : Program} {w : World} {K : PySem.W.Frag} {mg : Str → Option Value} {base : Heap} {x qual : Str} {st : Stmt} {f : Addr} {fd : FuncData} {N ps : List Str} {k : Nat} {sx : SpR} {t : (Str → Prop) → TSP}
    (F : Fun K x qual st f fd) (S : FnScope N ps (defScope st)) (hN : ps.length ≤ N.length) (len : ∀ ds n, sx ds n → ds.length = ps.length)
    (hd : ∀ (cdv : Value) (A : Around) (outer : List Env) (s : Shared) (H : Hp) (E : XK) (R : Str → Prop), Lets (cxOf (L2.CX P w) P w K mg base N qual (defScope st) f cdv A outer s H E) R → Room k (A.deeper (PyProof.Rows.envOfC qual (defScope st) s.heap.objs.size f cdv)) → PSsd (cxOf (L2.CX P w) P w K mg base N qual (defScope st) f cdv A outer s H E) (defBody st) (t R))
    (hp : ∀ ds n, sx ds n → t (fun m => m = n) ⟨fun _ => False, fun _ _ => False, fun _ => False, fun _ => False⟩ (startD N.length ds)) : FnOk P w K mg base (L2.CX P w) (k + 1) f fd ps (liftR ⟨K, P, w⟩ mg sx) := by
  refine F.okX S (fun vs H Q E ⟨ds, n, C, r, _, h, _⟩ => by rw [← r.len]; exact len ds n h) (fun cdv A outer s H vs Q E hr ⟨ds, n, Cv, r, hc, h, hm, hE⟩ => ⟨_, hd cdv A outer s H E (fun m => m = n) ⟨fun cls d _ H => E cls d H, takes_of rfl rfl rfl rfl, fun m e => by subst e; exact ⟨Cv, hm, fun _ H' => hE H'⟩⟩ hr, ?_⟩)
  have hl := len ds n h
  have hlv : vs.length = ds.length := r.len.symm
  have e1 : L2.start N vs = vs.map some ++ List.replicate (N.length - ds.length) none := by unfold L2.start; rw [hlv]
  have sl : RepS ⟨K, P, w⟩ H (startD N.length ds) (L2.start N vs) := by rw [e1]; exact rep_start _ r
  have cn : ∀ a, cS a (startD N.length ds) = cDs a ds := fun a => cS_start a ds _
  have C : Cfg ⟨K, P, w⟩ H (fun a => 1 ≤ cDs a ds) H (L2.start N vs) (startD N.length ds) [] [] :=
    ⟨sl, rfl, fun a => by rw [cn]; have := hc a; show cDs a ds + 0 ≤ 1; omega, fun a h => .inl (by rw [cn] at h; show 1 ≤ cDs a ds; have : cDs a ds + 0 ≥ 1 := h; omega), fun a o _ h => h⟩
  exact ⟨H, _, _, [], [], _, C, hp ds n h, ⟨fun _ _ _ _ q => q.elim, fun _ _ _ _ q => q.elim, fun _ _ _ _ q => q.elim, fun _ _ _ _ _ _ q => q.elim⟩⟩
section
variable {X : Cx} {C : Addr} {bmB : List Value} {B newId initId : String} {R : Str → Prop}
/-- X() -/
theorem pmk_own0 {x : Str} {p pos : Pos} (F : ExcBaseFacts B newId initId bmB) (q : PySem.W.excIn X.K C bmB newId = true) (gC : X.mg x = some (.ref C)) (kC : PySem.W.keepIn X.K (.ref C) = true) (r : Raises X (.ref C)) (hg : Gl X x)
    (hdb : (x == ("__debug__" : Str)) = false := by decide) : PMk X (.Call (.Name x p) [] [] pos) (fun _ H Q => Q (.ref C) none H) := by
  intro pins s σ H Q I h
  refine wpAny_Call_Name_kw (ld_glob I hg gC ?_ hdb)
  refine PySem.W.callWith_K0 I.kIn kC ?_
  show wpAny _ _ (call (.ref C) []) _ _ _
  obtain ⟨bm, N, nm, qn, bs, hdct, sn, sub, ab, col, dd, k0, k1, k2, k3, k5, mN, hC, hN, hni, T⟩ := exc_obj I.kIn q
  refine wpAny_call_exc_subT F T hC hN hni (fun h' e hm => ?_) (Nat.zero_le _)
  exact mk_of I hm r h (I.hok.gone hm.new)
def tRaiseD (R : Str → Prop) (x : Str) : TSP := fun _ _ => R x
theorem ds_raise {x : Str} {p pos pos' : Pos} (hc : X.calm = true) (L : Lets X R) (F : ExcBaseFacts B newId initId bmB) (q : PySem.W.excIn X.K C bmB newId = true) (gC : X.mg x = some (.ref C)) (kC : PySem.W.keepIn X.K (.ref C) = true) (r : Raises X (.ref C)) (hg : Gl X x)
    (hdb : (x == ("__debug__" : Str)) = false := by decide) : PSd X (.Raise (some (.Call (.Name x p) [] [] pos)) none pos') (tRaiseD R x) := by
  obtain ⟨W, tk, hW⟩ := L
  refine ps_imp (ps_raise hc tk (pmk_own0 F q gC kC r hg hdb)) fun D σ H ⟨H0, f0, ds, vs, es, E, Cf, hR, _⟩ => ?_
  obtain ⟨C', hC, hw⟩ := hW x hR
  rw [gC] at hC; cases hC
  exact hw σ H
end
/-! ### a call that raises -/
section
variable {X : Cx} {k k' : Nat} {f : Addr} {fd : FuncData} {ps : List Str} {sp : SpD} {sx : SpR} {x : Str} {p pos : Pos} {e : Expr} {l : List Expr} {t : TAP} {R : Str → Prop}
theorem pe_or {t1 t2 : TE} (h1 : PE X e t1) (h2 : PE X e t2) : PE X e (fun σ H Q => t1 σ H Q ∨ t2 σ H Q) := ⟨fun pins s σ H Q I h => h.elim (h1.run pins s σ H Q I) (h2.run pins s σ H Q I)⟩
def eOwnR (sx : SpR) (R : Str → Prop) (t : TAP) : TEP := fun ds _ => t ds fun as ds1 => lendK as ds1 fun args _ => ∃ n, sx args n ∧ R n
/-- a call that comes back or raises -/
def eOwnB (sp : SpD) (sx : SpR) (R : Str → Prop) (t : TAP) : TEP := fun ds Q => eOwn sp t ds Q ∨ eOwnR sx R t ds Q
theorem d_ownB (h1 : PEd X e (eOwn sp t)) (h2 : PEd X e (eOwnR sx R t)) : PEd X e (eOwnB sp sx R t) :=
  pe_imp (pe_or h1 h2) fun σ H Q ⟨H0, f0, ds, vs, es, Qd, C, q, kk⟩ => q.elim (fun q => .inl ⟨H0, f0, ds, vs, es, Qd, C, q, kk⟩) fun q => .inr ⟨H0, f0, ds, vs, es, Qd, C, q, kk⟩
/-- a call that raises, told of the fixed alone: all else is kept -/
theorem pe_callFr {W : WX} {ta : TA} (F : FnOk X.prog X.w X.K X.mg X.base (L2.CX X.prog X.w) k f fd ps (liftR (kw X) X.mg sx)) (tk : Takes X W) (hr : Room k X.A) (hg : Gl X x) (hm : X.mg x = some (.ref f)) (hk : PySem.W.keepIn X.K (.ref f) = true) (hb : Binds X.K fd ps [])
    (ha : PA X (e :: l) ta) (hdb : (x == ("__debug__" : Str)) = false := by decide) (he : starEach (e :: l) X.env = (false, eval e X.env) :: starEach l X.env := by rfl) (hpl : (backTo pos (starEach l X.env)).any (·.1) = false := by rfl) :
    PE X (.Call (.Name x p) (e :: l) [] pos) (fun σ H Q => ta σ H fun vs H1 => ∃ ds n C, AllDat ds ∧ RepDs (kw X) H1 ds vs ∧ sx ds n ∧ X.mg n = some C ∧ ∀ H', (∀ a o, H1 a = some o → H' a = some o) → W C none σ H') := by
  refine ⟨fun pins s σ H Q I h => ?_⟩
  refine wpAny_Call_Name_kw (ld_glob I hg hm ?_ hdb)
  refine PySem.W.callWith_K (h₀ := X.base) I.ok.mod.kin hk (thn (ha.run pos pins s σ H _ I h) fun us s1 ⟨vs, H1, I1, r, ds, n, C, had, hrep, hs, hC, hW⟩ => ⟨I1.kIn, ?_⟩) he hpl
  have hsp : liftR (kw X) X.mg sx vs (smallH H1) (fun _ _ => False) (fun cls d _ => cls = C ∧ d = none) := ⟨ds, n, C, RepDs.keep2 (fun b o e i => small_imm e i) had hrep, fun a => by rw [had.c0]; omega, hs, hC, fun _ => ⟨rfl, rfl⟩⟩
  have hl : us.length = ps.length := by rw [← r.length]; exact F.len _ _ _ _ hsp
  have b := hb s1 us I1.kIn (by rw [List.append_nil]; exact hl)
  rw [List.append_nil] at b
  have E0 := I1.env0
  have E1 : Env0 X.prog X.w X.K X.mg X.base X.A X.stack s1 (smallH H1) := ⟨E0.frames, E0.mod, fun b o e => ⟨(E0.bs b o e).1, small_none (E0.bs b o e).2⟩, E0.bsz, E0.funs, fun b hb => small_none (E0.frf b hb), small_hok E0.hok, E0.bare⟩
  refine wpAny_call (codeAny_mono (F.run X.A X.stack s1 (smallH H1) ⟨us, []⟩ us vs _ _ hr E1 b r hsp) fun rs s' hq => ?_)
  cases rs with
  | error u =>
    refine tk u s' (XE.of_call I1 (fun cls d H' hh => ?_) (cx_frame E0.hok E0.frf hq))
    obtain ⟨hup, _, rfl, rfl⟩ := hh
    exact hW H' hup
  | ok fl =>
    cases fl with
    | ret u => obtain ⟨_, _, _, _, _, _, _, q⟩ := hq; exact q.elim
    | next => exact False.elim hq
    | brk => exact False.elim hq
    | cont => exact False.elim hq
end
/-! ### try -/
def liftEX (K : KW) (mg : Str → Option Value) (W : WX) (t : (Str → PSt → Prop) → TEP) : TE := fun σ H Q => ∃ H0 f0 ds vs es Qd Wd, Cfg K H0 f0 H σ ds vs es ∧ t Wd ds Qd ∧ (∀ v d H' ds', Cfg K H0 f0 H' σ ds' (v :: vs) (d :: es) → Qd d ds' → Q v H') ∧
  ∀ n H' ds', Cfg K H0 f0 H' σ ds' vs es → Wd n ds' → ∃ C, mg n = some C ∧ W C none σ H'
def PEx (X : Cx) (e : Expr) (t : (Str → PSt → Prop) → TEP) : Prop := ∀ W, Takes X W → PE X e (liftEX (kw X) X.mg W t)
def liftSX (K : KW) (mg : Str → Option Value) (W : WX) (t : (Str → PSt → Prop) → TSP) : TS := fun D σ H => ∃ H0 f0 ds vs es E Wd, Cfg K H0 f0 H σ ds vs es ∧ t Wd E ds ∧ LS K H0 f0 vs es E D ∧
  ∀ n σ' H' ds', Cfg K H0 f0 H' σ' ds' vs es → Wd n ds' → ∃ C, mg n = some C ∧ W C none σ' H'
def PSx (X : Cx) (b : List Stmt) (t : (Str → PSt → Prop) → TSP) : Prop := ∀ W, Takes X W → PSs X b (liftSX (kw X) X.mg W t)
theorem Cfg.popN {K : KW} {H0 H : Hp} {f0 : Addr → Prop} {σ : L2.St} {ds : PSt} : ∀ {as : List D} {ws vs : List V} {es : List D}, Cfg K H0 f0 H σ ds (ws ++ vs) (as ++ es) → as.length = ws.length → Cfg K H0 f0 H σ ds vs es
  | [], [], _, _, C, _ => C
  | [], _ :: _, _, _, _, h => by cases h
  | _ :: _, [], _, _, _, h => by cases h
  | a :: as, w :: ws, vs, es, C, h => Cfg.popN (as := as) (ws := ws) (Cfg.pop (vs := ws ++ vs) (es := as ++ es) C) (by simpa using h)
/-- a call in a try's body: it comes back, or raises and is told of data alone -/
def eOwnT (sp : SpD) (sx : SpR) (t : TAP) (Wd : Str → PSt → Prop) : TEP := fun ds Q => eOwn sp t ds Q ∨ t ds fun as ds1 => AllDat as ∧ ∃ n, sx as n ∧ Wd n ds1
section
variable {X : Cx} {k k' : Nat} {f : Addr} {fd : FuncData} {ps : List Str} {sp : SpD} {sx : SpR} {x : Str} {p pos : Pos} {e : Expr} {l : List Expr} {t : TAP} {te : (Str → PSt → Prop) → TEP}
theorem d_ownT (h1 : PEd X (.Call (.Name x p) (e :: l) [] pos) (eOwn sp t)) (F : FnOk X.prog X.w X.K X.mg X.base (L2.CX X.prog X.w) k f fd ps (liftR (kw X) X.mg sx)) (hr : Room k X.A) (hg : Gl X x) (hm : X.mg x = some (.ref f)) (hk : PySem.W.keepIn X.K (.ref f) = true) (hb : Binds X.K fd ps [])
    (ha : PAd X (e :: l) t) (hdb : (x == ("__debug__" : Str)) = false := by decide) (he : starEach (e :: l) X.env = (false, eval e X.env) :: starEach l X.env := by rfl) (hpl : (backTo pos (starEach l X.env)).any (·.1) = false := by rfl) :
    PEx X (.Call (.Name x p) (e :: l) [] pos) (eOwnT sp sx t) := by
  intro W tk
  refine pe_imp (pe_or h1 (pe_callFr F tk hr hg hm hk hb ha hdb he hpl)) fun σ H Q ⟨H0, f0, ds, vs, es, Qd, Wd, C, q, kk, kw'⟩ => ?_
  rcases q with q | q
  · exact .inl ⟨H0, f0, ds, vs, es, Qd, C, q, kk⟩
  · refine .inr ⟨H0, f0, ds, vs, es, _, C, q, fun ws as H1 ds1 C1 hl ⟨had, n, hs, hw⟩ => ?_⟩
    have C2 := C1.popN hl
    obtain ⟨Cv, hC, _⟩ := kw' n H1 ds1 C2 hw
    refine ⟨as, n, Cv, had, C1.args hl, hs, hC, fun H' hk => ?_⟩
    obtain ⟨C', hC', hw'⟩ := kw' n H' ds1 (C2.grow hk) hw
    rw [hC] at hC'; cases hC'
    exact hw'
theorem dsx_ret (he : PEx X e te) : PSx X [.Return (some e) pos] (fun Wd => tRetD (te Wd)) := fun W tk =>
  pss_one (ps_imp (ps_ret (he W tk)) fun D σ H ⟨H0, f0, ds, vs, es, E, Wd, C, q, L, kw'⟩ => ⟨H0, f0, ds, vs, es, _, Wd, C, q, fun v d H' ds' C' q' => L.rt σ H' ds' v d C' q', fun n H' ds' C' w => kw' n σ H' ds' C' w⟩)
end
/-- the clauses' reading for an exception of class n -/
def wHs (n : Str) : List (Str × TSP) → PEnds → PSt → Prop
  | [], _, _ => False
  | (c, ts) :: r, E, ds => (n = c ∧ ts E ds) ∨ (n ≠ c ∧ wHs n r E ds)
def tTryD (tb : (Str → PSt → Prop) → TSP) (l : List (Str × TSP)) : TSP := fun E ds => tb (fun n ds' => wHs n l E ds') E ds
theorem wHs_mem {n : Str} {E : PEnds} {ds : PSt} : ∀ {l : List (Str × TSP)}, wHs n l E ds → n ∈ l.map (·.1)
  | [], h => h.elim
  | (c, ts) :: r, h => by
    rcases h with ⟨e, _⟩ | ⟨_, h⟩
    · rw [e]; exact List.mem_cons_self
    · exact List.mem_cons_of_mem _ (wHs_mem h)
inductive HdsD (X : Cx) : List ExceptHandler → List (Str × TSP) → Prop
  | nil : HdsD X [] []
  | cons {x : Str} {ts : TSP} {b₀ : Stmt} {suite : List Stmt} {np pos' : Pos} {hds : List ExceptHandler} {l : List (Str × TSP)} (hg : Gl X x) (hdb : (x == ("__debug__" : Str)) = false)
      (hsu : ∀ (a : Addr) (pn : List (Addr × Obj)), PSsd (X.suite a pn) (b₀ :: suite) ts) (r : HdsD X hds l) : HdsD X (.ExceptHandler (some (.Name x np)) none (b₀ :: suite) pos' :: hds) ((x, ts) :: l)
/-- the classes' facts: where each stands, which is one of which -/
structure ExTab (K : PySem.W.Frag) (mg : Str → Option Value) (names : List Str) (ad : Str → Addr) : Prop where
  at_ : ∀ n ∈ names, mg n = some (.ref (ad n))
  exm : ∀ n ∈ names, ∀ c ∈ names, PySem.W.exmOne K (.ref (ad n)) (.ref (ad c)) = some (decide (n = c))
section
variable {X : Cx} {names : List Str} {ad : Str → Addr}
theorem HdsD.ok (T : ExTab X.K X.mg names ad) {hds : List ExceptHandler} {l : List (Str × TSP)} (h : HdsD X hds l) (hn : ∀ c ∈ l.map (·.1), c ∈ names) : HdsOk X hds (l.map fun p => (.ref (ad p.1), fun _ _ _ => liftS (kw X) p.2)) := by
  induction h with
  | nil => exact .nil
  | cons hg hdb hsu r ih =>
    rename_i x ts b₀ suite np pos' hds l
    exact .cons ⟨hg, hdb, .inl (T.at_ x (hn x List.mem_cons_self))⟩ (fun a oe cls d pn _ _ => hsu a _) (ih fun c hc => hn c (List.mem_cons_of_mem _ hc))
theorem wHs_many (T : ExTab X.K X.mg names ad) {Dn : Ends} {E : PEnds} {H0 : Hp} {f0 : Addr → Prop} {vs : List V} {es : List D} {n : Str} (hnn : n ∈ names) {σ : L2.St} {H : Hp} {ds : PSt} (C : Cfg (kw X) H0 f0 H σ ds vs es) (L : LS (kw X) H0 f0 vs es E Dn) :
    ∀ {l : List (Str × TSP)}, (∀ c ∈ l.map (·.1), c ∈ names) → wHs n l E ds → wMany X.K (fun _ _ _ _ => False) Dn (l.map fun p => (.ref (ad p.1), fun _ _ _ => liftS (kw X) p.2)) (.ref (ad n)) none σ H
  | [], _, h => h.elim
  | (c, ts) :: r, hn, h => by
    refine ⟨decide (n = c), T.exm n hnn c (hn c List.mem_cons_self), fun e a _ => ?_, fun e => ?_⟩
    · rcases h with ⟨_, h⟩ | ⟨e2, _⟩
      · exact ⟨H0, f0, ds, vs, es, E, C, h, L⟩
      · exact absurd (of_decide_eq_true e) e2
    · rcases h with ⟨e2, _⟩ | ⟨_, h⟩
      · rw [decide_eq_true e2] at e; cases e
      · exact wHs_many T hnn C L (fun c hc => hn c (List.mem_cons_of_mem _ hc)) h
theorem ds_try {body : List Stmt} {h₀ : ExceptHandler} {hds : List ExceptHandler} {l : List (Str × TSP)} {pos : Pos} {tb : (Str → PSt → Prop) → TSP} (T : ExTab X.K X.mg names ad) (hs : X.stack = X.env :: X.outer) (hf : X.env.frame = some X.env.locals) (hn : ∀ c ∈ l.map (·.1), c ∈ names)
    (hb : ∀ (pn : List (Addr × Obj)) (xe : Value → Shared → Prop), PSx (X.tr pn xe) body tb) (hh : HdsD X (h₀ :: hds) l) : PSd X (.Try body (h₀ :: hds) [] [] pos) (tTryD tb l) := by
  refine ps_imp (ps_try_many (tb := fun W => liftSX (kw X) X.mg W tb) hs hf takes0 (fun W pn xe tk _ => hb pn xe W tk) (hh.ok T hn)) fun D σ H ⟨H0, f0, ds, vs, es, E, C, q, L⟩ => ?_
  refine ⟨H0, f0, ds, vs, es, E, _, C, q, L, fun n σ' H' ds' C' w => ?_⟩
  have hnn := hn n (wHs_mem w)
  exact ⟨_, T.at_ n hnn, wHs_many T hnn C' L hn w⟩
end
/-! ### the words as the printed texts use them -/
/-- an own class of exceptions over ValueError -/
structure ExcOf (K : PySem.W.Frag) (mg : Str → Option Value) (x : Str) (C : Addr) : Prop where
  at_ : mg x = some (.ref C)
  new : PySem.W.excIn K C [.type "ValueError", .type "Exception", .type "BaseException", .type "object"] "ValueError.__new__" = true
  kp : PySem.W.keepIn K (.ref C) = true
  sub : PySem.W.subIn K (.ref C) (.type "BaseException") = some true
  ty : PySem.W.typeIn K (.ref C) = some (.type "type")
def OwnX (P : Program) (w : World) (K : PySem.W.Frag) (mg : Str → Option Value) (base : Heap) (k : Nat) (x : Str) (ps : List Str) (sx : SpR) : Prop :=
  ∃ f fd, FnOk P w K mg base (L2.CX P w) k f fd ps (liftR ⟨K, P, w⟩ mg sx) ∧ mg x = some (.ref f) ∧ PySem.W.keepIn K (.ref f) = true ∧ Binds K fd ps []
section
variable {X : Cx} {k k' : Nat} {ps ps' : List Str} {sp : SpD} {sx : SpR} {x : Str} {p pos pos' : Pos} {e : Expr} {l : List Expr} {t : TAP} {R : Str → Prop} {C : Addr}
theorem ds_raiseX (L : Lets X R) (E : ExcOf X.K X.mg x C) (hc : X.calm = true) (hg : Gl X x) (hdb : (x == ("__debug__" : Str)) = false := by decide) : PSd X (.Raise (some (.Call (.Name x p) [] [] pos)) none pos') (tRaiseD R x) :=
  ds_raise hc L PySem.F.excBase_ValueError E.new E.at_ E.kp (raises_own E.sub E.ty) hg hdb
theorem d_fnT (O : Own X.prog X.w X.K X.mg X.base k' x ps' sp) (OX : OwnX X.prog X.w X.K X.mg X.base k x ps sx) (hr' : Room k' X.A) (hr : Room k X.A) (hg : Gl X x) (ha : PAd X (e :: l) t) (hdb : (x == ("__debug__" : Str)) = false := by decide)
    (he : starEach (e :: l) X.env = (false, eval e X.env) :: starEach l X.env := by rfl) (hpl : (backTo pos (starEach l X.env)).any (·.1) = false := by rfl) : PEx X (.Call (.Name x p) (e :: l) [] pos) (eOwnT sp sx t) := by
  obtain ⟨f, fd, F, hm, hk, hb⟩ := OX
  exact d_ownT (d_fn O hr' hg ha hdb he hpl) F hr hg hm hk hb ha hdb he hpl
end
theorem exm_by {K : PySem.W.Frag} {C D : Addr} {r : Bool} (b : PySem.W.subIn K (.ref D) (.type "BaseException") = some true) (i : PySem.W.isClsIn K D = true) (t : PySem.W.typeIn K (.ref D) = some (.type "type")) (s : PySem.W.subIn K (.ref C) (.ref D) = some r) : PySem.W.exmOne K (.ref C) (.ref D) = some r := by
  have i' : (PySem.W.clsIn K D).isSome = true := i
  unfold PySem.W.exmOne PySem.W.kitCls
  simp [b, i', t, s]
theorem exTab1 {K : PySem.W.Frag} {mg : Str → Option Value} {x : Str} {C : Addr} (at_ : mg x = some (.ref C)) (ex : PySem.W.exmOne K (.ref C) (.ref C) = some true) : ExTab K mg [x] (fun _ => C) where
  at_ := fun n hn => by rw [List.mem_singleton] at hn; subst hn; exact at_
  exm := fun n hn c hc => by
    rw [List.mem_singleton] at hn hc; subst hn; subst hc
    rw [ex]; simp
/-! ### the readings -/
theorem w_ownB {sp : SpD} {sx : SpR} {R : Str → Prop} {t : TAP} {ds : PSt} {Q : D → PSt → Prop} : eOwnB sp sx R t ds Q ↔ (eOwn sp t ds Q ∨ eOwnR sx R t ds Q) := Iff.rfl
theorem w_ownR {sx : SpR} {R : Str → Prop} {t : TAP} {ds : PSt} {Q : D → PSt → Prop} : eOwnR sx R t ds Q ↔ t ds fun as ds1 => lendK as ds1 fun args _ => ∃ n, sx args n ∧ R n := Iff.rfl
theorem w_ownT {sp : SpD} {sx : SpR} {t : TAP} {Wd : Str → PSt → Prop} {ds : PSt} {Q : D → PSt → Prop} : eOwnT sp sx t Wd ds Q ↔ (eOwn sp t ds Q ∨ t ds fun as ds1 => AllDat as ∧ ∃ n, sx as n ∧ Wd n ds1) := Iff.rfl
theorem w_try {tb : (Str → PSt → Prop) → TSP} {l : List (Str × TSP)} {E : PEnds} {ds : PSt} : tTryD tb l E ds ↔ tb (fun n ds' => wHs n l E ds') E ds := Iff.rfl
end PD
set_option Elab.async false
set_option linter.all false
set_option maxRecDepth 100000
set_option maxHeartbeats 2000000
/-! PD: an exception out of a list comprehension's element (a call that raises). -/
namespace PD
open PySem L2 PySem.Spec PyProof.Rows
/-- a block's context, its exceptions taken by P -/
abbrev xblk (X : Cx) (s : Shared) (H : Hp) (scope : Scope) (ce : Env) (fp : List Addr) (P : Value → Shared → Prop) : Cx := { X.blk s H scope ce fp with xe := P }
/-- what a call in a block may let out -/
def LetsF (Y : Cx) (R : Str → Prop) : Prop := (∀ n, R n → ∃ C, Y.mg n = some C) ∧ ∀ σ, PassesAt (L2.CX Y.prog Y.w) Y σ (fun cls d _ => ∃ n, R n ∧ Y.mg n = some cls ∧ d = none)
section
variable {X : Cx} {pins : List (Addr × Obj)} {σ : L2.St} {H : Hp} {s s' : Shared} {E : XK}
/-- a call's exception, in flight -/
theorem flown (I : Inv X pins σ H s) {u : Value} (c : L2.CX X.prog X.w X.stack H s E u s') :
    ∃ (a : Addr) (B : Heap) (sI : Shared) (pins' : List (Addr × Obj)) (σ' : L2.St) (H' : Hp) (cls : Value) (d : Option Addr), u = .ref a ∧ Inv X pins' σ' H' sI ∧ (∀ b o, sI.heap.get? b = some o → b ∉ frs X.stack → B.get? b = some o) ∧ sI.heap.UpToSlots s'.heap ∧
      HandSPX.FlyingZ B X.stack a (Zc cls d) s'.heap ∧ H' a = none ∧ s'.os = sI.os ∧ AllBare s'.gens ∧ E cls d H' := by
  have c0 := c
  obtain ⟨a, _, _, _, _, rfl, ⟨_, _, _, _, ws, T, oT, ts, he, _, hd, h1, _, _, hT, hdT, h3⟩, _⟩ := c0
  obtain ⟨a', B, sI, pins', σ', H', cls, d, e, II, nb, up, sky, na, os, ag, hE⟩ := XE.of_call (W := fun cls d _ H' => E cls d H') I (fun _ _ _ h => h) c
  cases e
  refine ⟨a, B, sI, pins', σ', H', cls, d, rfl, II, nb, up, ?_, na, os, ag, hE⟩
  -- it flies: what is new has no traceback, what is held has a frame's mark
  rcases sky with ⟨_, _, _, oe, vs, e1, _, e2, e3⟩ | fl | ⟨_, _, _, oe, vs, T', oT', ts', e1, _, e2, e3, _, _, e4, e5, e6⟩
  · rw [he] at e1; cases e1
    rw [hd] at e2; cases e2
    rw [h1] at e3; cases e3
  · exact fl
  · rw [he] at e1; cases e1
    rw [hd] at e2; cases e2
    rw [h1] at e3; cases e3
    rw [hT] at e4; cases e4
    rw [hdT] at e5; cases e5
    rw [h3] at e6; cases e6
end
/-- .. and it leaves the block: its names are let go, the def's frame holds it -/
theorem comp_raises {X : Cx} {R : Str → Prop} (L : Lets X R) (hs : X.stack = X.env :: X.outer) (hf : X.env.frame = some X.env.locals) {pins : List (Addr × Obj)} {σ : L2.St} {H3 : Hp} {s3 : Shared} {fp : List Addr} {scope : Scope} {ce : Env}
    (I3 : Inv X pins σ H3 s3) (f3 : ∀ b ∈ fp, FpOk X pins H3 b ∧ b < s3.heap.objs.size) (hcf : ce.frame = X.env.frame) (cL : ce.locals = s3.heap.objs.size) :
    LetsF (xblk X s3 H3 scope ce fp (notedBy (model X.prog X.w) X.A ce (CompFails (model X.prog X.w) X.A X.xe ce))) R := by
  obtain ⟨W, tk, hW⟩ := L
  refine ⟨fun n hn => (hW n hn).imp fun _ h => h.1, ?_⟩
  intro σ₁ pins₁ H s e s' I c
  obtain ⟨a, B, sI, pins', σ', H', cls, d, rfl, II, nb, up, fl, na, os, ag, n, hR, hm, hd⟩ := flown I c
  have hw : ∀ σ H, W cls d σ H := by
    obtain ⟨C', hC, hw⟩ := hW n hR
    have hm : X.mg n = some cls := hm
    rw [hm] at hC; cases hC
    subst hd; exact hw
  have hfr : X.A.frames = some (X.env :: X.outer) := by rw [I3.ok.frames, hs]
  have fl : HandSPX.FlyingZ B X.stack a (Zc cls d) s'.heap := fl
  rw [hs] at fl
  have II : Inv (xblk X s3 H3 scope ce fp (notedBy (model X.prog X.w) X.A ce (CompFails (model X.prog X.w) X.A X.xe ce))) pins' σ' H' sI := II
  obtain ⟨m0, hn0, _⟩ := II.loc
  have hn0 : sI.heap.Ns ce.locals m0 := hn0
  have nC : H' ce.locals = none := II.free
  show wpAny _ X.A (noteFrame (.ref a) ce) _ _ s'
  rw [noteFrame_env _ hcf]
  refine HandSPX.looks_onZ Zc.steady hfr hf fl fun h1 hh up1 => ?_
  have hn1 : h1.Ns ce.locals m0 := (hn0.upToSlots up).upToSlots up1
  refine ⟨m0, hn1, fun h2 m2 hn2 sb => ?_⟩
  obtain ⟨B', b1, b2⟩ := restrict B fun b => decide (b ≠ ce.locals)
  obtain ⟨G, g1, g2⟩ := restrict sI.heap fun b => decide (b ≠ ce.locals)
  have bB : ∀ b o, B'.get? b = some o → b ≠ ce.locals ∧ B.get? b = some o := fun b o e => by
    by_cases z : b = ce.locals
    · rw [b2 b (by simp [z])] at e; cases e
    · exact ⟨z, by rw [b1 b (by simp [z])] at e; exact e⟩
  have bN : ∀ b, B.get? b = none → B'.get? b = none := fun b e => by
    cases q : B'.get? b with
    | none => rfl
    | some o => rw [(bB b o q).2] at e; cases e
  have gB : ∀ b o, G.get? b = some o → b ≠ ce.locals ∧ sI.heap.get? b = some o := fun b o e => by
    by_cases z : b = ce.locals
    · rw [g2 b (by simp [z])] at e; cases e
    · exact ⟨z, by rw [g1 b (by simp [z])] at e; exact e⟩
  obtain ⟨k1, k2, k3, oe, vs, T, oT, ts, he, hz, hdd, hv1, hnT, hTe, hT, hdT, hts⟩ := hh
  have noC : ∀ b o fs, h1.get? b = some o → o.data = .fields fs → b ≠ ce.locals := fun b o fs e1 e2 z => by
    obtain ⟨oL, es, ep, hoL, hdL, _⟩ := hn1
    rw [z, hoL] at e1; cases e1
    rw [hdL] at e2; cases e2
  have he2 : h2.get? a = some oe := (sb.2 a (noC a oe _ he hdd)).trans he
  have hT2 : h2.get? T = some oT := (sb.2 T (noC T oT _ hT hdT)).trans hT
  have fr1 : h1.FunFrames B' (X.env :: X.outer) := funFrames_none k3 fun b hb => bN b (by
    obtain ⟨z, _⟩ := k3.mem hb
    exact z)
  have hh2 : HandSPX.HeldZ B' (X.env :: X.outer) a (Zc cls d) X.env.locals h2 :=
    ⟨fun b o e => (sb.2 b (bB b o e).1).trans (k1 b o (bB b o e).2), bN a k2, Heap.FunFrames.sameBut sb hn2 fr1, oe, vs, T, oT, ts, he2, hz, hdd, hv1, bN T hnT, hTe, hT2, hdT, hts⟩
  unfold PySem.passOn
  refine wpAny_bind (wpAny_field he2 hdd hv1 ?_)
  rw [if_neg (show ¬ ((Value.ref T == Value.none) = true) from by simp)]
  rw [hcf, hf]
  refine wpAny_bind (HandSPX.setFlight_onZ hh2 fun h3 hh3 up3 => wpAny_throw ?_)
  have I7 : Inv X pins σ H' sI := I3.call' (ch := fp) II.os II.base II.hok II.bare fun b hb => ⟨(f3 b hb).1.2.2.2.1, (f3 b hb).1.2.1, (f3 b hb).1.2.2.2.2.1, (f3 b hb).1.2.2.2.2.2⟩
  obtain ⟨f0, f1, f2, f3', f4, f5⟩ : FpOk X pins H' ce.locals := I3.fpOk (by rw [cL]; exact Nat.le_refl _) nC
  have I8 : Inv X pins σ H' { sI with heap := G, toks := sI.toks } := I7.turned (fun b o hb e => by rw [g1 b (by simp [hb])]; exact e) f0 f1 f3' f4 f5
  refine tk _ _ ⟨a, B', { sI with heap := G, toks := sI.toks }, pins, σ, H', cls, d, rfl, I8, fun b o e hb => ?_, fun b o e hnf => ?_, .inr (.inr ?_), na, os, ag, hw _ _⟩
  · obtain ⟨z, e'⟩ := gB b o e
    rw [b1 b (by simp [z])]
    exact nb b o e' hb
  · obtain ⟨z, e'⟩ := gB b o e
    obtain ⟨sl1, e1⟩ := up b o e' hnf
    obtain ⟨sl2, e2⟩ := up1 b _ e1 hnf
    obtain ⟨sl3, e3⟩ := up3 b _ ((sb.2 b z).trans e2) hnf
    exact ⟨sl3, e3⟩
  · rw [hs]; exact hh3
section
variable {X : Cx} {pins : List (Addr × Obj)} {σ : L2.St} {H : Hp} {s : Shared} {Q : VK} {R : Str → Prop}
theorem compEnds_err {M : Model} {A : Around} {E : Value → Shared → Prop} {use : Option (Value → Sem Unit)} {Qf : Value → Shared → Prop} {acc : Value} {ce : Env} : (fun e s' => compEnds M A E use Qf acc ce (.error e) s') = CompFails M A E ce := by
  funext e s'
  cases use <;> rfl
theorem compEnds_ok {M : Model} {A : Around} {E : Value → Shared → Prop} {use : Option (Value → Sem Unit)} {Qf : Value → Shared → Prop} {acc : Value} {ce : Env} {f : Flow} {s' : Shared} (h : compPost M A E use Qf acc ce.locals (.ok f) s') : compEnds M A E use Qf acc ce (.ok f) s' := by
  cases use <;> exact h
theorem lc_coreR {elt tg iter : Expr} {ifs : List Expr} {scope : Scope} {own : List (Str × Nat)} {pos pos' : Pos} {wi : TI} {g : TG} {tt : TT} {te : TE} {use : Option (Value → Sem Unit)} {Qf : Value → Shared → Prop}
    (L : Lets X R) (hst : X.stack = X.env :: X.outer) (hf : X.env.frame = some X.env.locals)
    (hc : X.calm = true) (hN : X.N.Nodup) (I : Inv X pins σ H s) (hi : PI X tg iter wi) (ok : BlkOk X.N X.env.scope scope own)
    (hg : ∀ (s : Shared) (H : Hp) (C : Addr) (cl : List (Str × Addr)) (fp : List Addr) (P : Value → Shared → Prop), PG (xblk X s H scope (compEnvC scope cl C X.env) fp P) tg g) (ht : ∀ (s : Shared) (H : Hp) (C : Addr) (cl : List (Str × Addr)) (fp : List Addr) (P : Value → Shared → Prop), PTs (xblk X s H scope (compEnvC scope cl C X.env) fp P) ifs tt)
    (he : ∀ (s : Shared) (H : Hp) (C : Addr) (cl : List (Str × Addr)) (fp : List Addr) (P : Value → Shared → Prop), LetsF (xblk X s H scope (compEnvC scope cl C X.env) fp P) R → PE (xblk X s H scope (compEnvC scope cl C X.env) fp P) elt te) (hs : ∀ x, foldedSetIterable iter X.env x = pure x)
    (h : tLc wi g tt te (own.map (·.2)) σ H Q)
    (hRR : ∀ D C s' m H', Inv X pins σ H' s' → Q (.ref D) H' → s'.heap.Ns C m → FpOk X pins H' C → compPost (model X.prog X.w) X.A X.xe use Qf (.ref D) C (.ok .next) s') :
    wpAny (model X.prog X.w) X.A (comprehension (.ListComp elt [⟨tg, iter, ifs, 0⟩] scope pos) scope X.env pos' (newList []) false (eval iter X.env) use) Qf X.xe s := by
  have hfree : ∀ y ∈ scope.names, y.2 = .free → ∃ c, X.env.cells.lookup y.1 = some c := fun y hy e => by
    rcases ok.free y hy e with k | k
    · exact I.ok.has _ (.inl k)
    · exact I.ok.has _ (.inr k)
  refine comprehension_at (use := use) rfl hs (closure_ok hfree) ok.kind (fun y hy e => by rw [ok.uniq y hy, e])
    (thn (hi.run pins s σ H _ I h) fun xv s1 hx => thn hx fun itv s2 h2 => ?_)
  obtain ⟨it, fp, tn, J, H2, e, I2, T, st2, f2, q⟩ := h2
  subst e
  refine wpAny_newObj_type (newEnv_comp ?_) (by show 0 ≤ sizeLine; decide)
  generalize hD : s2.heap.objs.size = D
  have hDn : H2 D = none := I2.hok.fresh (Nat.le_of_eq hD)
  obtain ⟨W, ⟨m0, w0⟩, turn⟩ := q D hDn
  -- the new list
  generalize hs3 : ({ s2 with heap := s2.heap.push { cls := .type "list", data := .seq ([] : List Value).toArray } } : Shared) = s3
  have I3 : Inv X pins σ (upd H2 D (.lst [])) s3 := by
    rw [← hs3]
    refine I2.laid (t' := s2.toks) (fun b o e => Heap.get?_push_of_some _ e) (Nat.le_of_eq hD) ⟨Nat.zero_le _, [], 0, .nil, ?_⟩
    rw [← hD]
    exact Heap.get?_push_size _ rfl
  have h3 : s3.heap = s2.heap.push { cls := .type "list", data := .seq ([] : List Value).toArray } := by rw [← hs3]
  have sz : ∀ b ∈ fp, b < s2.heap.objs.size := fun b hb => by
    obtain ⟨o, e, _⟩ := T.obj _ _ st2 b hb
    exact Heap.lt_size e
  have f3 : ∀ b ∈ fp, FpOk X pins (upd H2 D (.lst [])) b ∧ b < s3.heap.objs.size := fun b hb => by
    have hlt := sz b hb
    refine ⟨⟨?_, (f2 b hb).2⟩, by rw [h3, Heap.size_push]; exact Nat.lt_succ_of_lt hlt⟩
    rw [upd_ne (by rw [← hD]; exact Nat.ne_of_lt hlt)]
    exact (f2 b hb).1
  have st3 : tn 0 s3.heap := T.keep _ _ _ st2 fun b _ o e => by rw [h3]; exact Heap.get?_push_of_some _ e
  have I4 := block_start I3 ok hN f3
  have pg := hg s3 (upd H2 D (.lst [])) s3.heap.objs.size (cellsFrom (s3.heap.objs.size + 1) scope.names (cloFrom X.env.cells scope.names [])) fp
  have pt := ht s3 (upd H2 D (.lst [])) s3.heap.objs.size (cellsFrom (s3.heap.objs.size + 1) scope.names (cloFrom X.env.cells scope.names [])) fp
  have pe := he s3 (upd H2 D (.lst [])) s3.heap.objs.size (cellsFrom (s3.heap.objs.size + 1) scope.names (cloFrom X.env.cells scope.names [])) fp
  show codeAny _ _ (.compStart (.ListComp elt [⟨tg, iter, ifs, 0⟩] scope pos) 0 (.ref it) (.ref D) (compEnvC scope (cellsFrom (s3.heap.objs.size + 1) scope.names (cloFrom X.env.cells scope.names [])) s3.heap.objs.size X.env)) (compEnds (model X.prog X.w) X.A X.xe use Qf (.ref D) (compEnvC scope (cellsFrom (s3.heap.objs.size + 1) scope.names (cloFrom X.env.cells scope.names [])) s3.heap.objs.size X.env)) { s3 with heap := pushCells (s3.heap.push { cls := .type "dict", data := .dict #[] }) scope.names }
  have nfp : ∀ b ∈ fp, (upd H2 D (.lst [])) b = none := fun b hb => (f3 b hb).1.1
  have cF : (compEnvC scope (cellsFrom (s3.heap.objs.size + 1) scope.names (cloFrom X.env.cells scope.names [])) s3.heap.objs.size X.env).frame = X.env.frame := rfl
  generalize hce : compEnvC scope (cellsFrom (s3.heap.objs.size + 1) scope.names (cloFrom X.env.cells scope.names [])) s3.heap.objs.size X.env = ce at I4 pg pt pe cF ⊢
  have cL : ce.locals = s3.heap.objs.size := by subst hce; rfl
  generalize hH3 : upd H2 D (.lst []) = H3 at I3 I4 pg pt pe w0 nfp f3
  have LF := comp_raises (scope := scope) L hst hf I3 f3 cF cL
  generalize hP : notedBy (model X.prog X.w) X.A ce (CompFails (model X.prog X.w) X.A X.xe ce) = P at LF
  have hE : notedBy (model X.prog X.w) X.A ce (fun e s' => compEnds (model X.prog X.w) X.A X.xe use Qf (.ref D) ce (.error e) s') = P := by rw [compEnds_err]; exact hP
  have pg := pg P
  have pt := pt P
  have pe := pe P LF
  have I4 : Inv (xblk X s3 H3 scope ce fp P) [] (wipe σ (own.map (·.2))) H3 { s3 with heap := pushCells (s3.heap.push { cls := .type "dict", data := .dict #[] }) scope.names } :=
    ⟨⟨I4.ok.mod, I4.ok.kind, I4.ok.glob, I4.ok.blt, I4.ok.above, I4.ok.inj, I4.ok.has, I4.ok.cab, I4.ok.hd, I4.ok.frames, I4.ok.stk, I4.ok.exf, I4.ok.bs, I4.ok.bsz, I4.ok.noex, I4.ok.exfs, I4.ok.funs, I4.ok.frf⟩, I4.os, I4.bare, I4.base, I4.loc, I4.cell, I4.free, I4.freeC, I4.pin, I4.hok, I4.len⟩
  generalize hs4 : ({ s3 with heap := pushCells (s3.heap.push { cls := .type "dict", data := .dict #[] }) scope.names } : Shared) = s4 at I4 ⊢
  have st4 : tn 0 s4.heap := T.keep _ _ _ st3 fun b _ o e => by rw [← hs4]; exact pushCells_keeps _ _ _ _ (Heap.get?_push_of_some _ e)
  have stat : ∀ {σ' : L2.St} {H' : Hp} {s' : Shared}, Inv (xblk X s3 H3 scope ce fp P) [] σ' H' s' → (∀ b ∈ fp, H' b = none) → ∀ b ∈ fp, FpOk (xblk X s3 H3 scope ce fp P) [] H' b := fun {σ' H' s'} I' hn b hb =>
    ⟨hn b hb, (I'.ok.exf b hb).1, I'.ok.exfs b hb, .inl hb, fun x c e => (I'.ok.exf b hb).2 x c e, fun p hp => absurd (show p ∈ ([] : List (Addr × Obj)) ++ [] from hp) (by simp)⟩
  have loop : codeAny (model X.prog X.w) X.A (.compLoop (.ListComp elt [⟨tg, iter, ifs, 0⟩] scope pos) 0 (.ref it) (.ref D) ce) (compEnds (model X.prog X.w) X.A X.xe use Qf (.ref D) ce) s4 := by
    refine compLoop_any (fun n s' => ∃ i H', Inv (xblk X s3 H3 scope ce fp P) [] (wipe σ (own.map (·.2))) H' s' ∧ tn i s'.heap ∧ (∀ b ∈ fp, H' b = none) ∧ W i n H') ?_ m0 ⟨0, H3, I4, st4, nfp, w0⟩
    rintro n s5 ⟨i, H5, I5, st5, n5, w5⟩
    rw [hE]
    rcases turn i n H5 w5 with ⟨stop, qq⟩ | ⟨go, Nx, hNx, step⟩
    · have td := T.done (xblk X s3 H3 scope ce fp P) rfl rfl rfl hc i [] s5 _ H5 (fun _ _ => False) I5 (stat I5 n5) st5 stop
      refine thnF td fun r s6 ⟨hr, I6⟩ => ?_
      subst hr
      -- back in the def's context
      have I7 : Inv X pins σ H5 s6 := I3.call' (ch := fp) I6.os I6.base I6.hok I6.bare fun b hb => ⟨(f3 b hb).1.2.2.2.1, (f3 b hb).1.2.1, (f3 b hb).1.2.2.2.2.1, (f3 b hb).1.2.2.2.2.2⟩
      have nC : H5 s3.heap.objs.size = none := by
        have z : H5 ce.locals = none := I6.free
        rw [cL] at z
        exact z
      obtain ⟨m, hn, _⟩ := I6.loc
      have hn : s6.heap.Ns ce.locals m := hn
      rw [cL] at hn
      exact compEnds_ok (by rw [cL]; exact hRR D s3.heap.objs.size s6 m H5 I7 qq hn (I3.fpOk (Nat.le_refl _) nC))
    · have ti := T.item (xblk X s3 H3 scope ce fp P) rfl rfl rfl hc i [] s5 _ H5 (fun _ _ => False) I5 (stat I5 n5) st5 go
      refine thnF ti fun r s6 ⟨u, hr, h6⟩ => ?_
      subst hr
      refine thnF h6 fun _ s7 ⟨x, H7, I7, r7, y7, st7, n7⟩ => ?_
      have I7' := I7.pinned (stat I7 n7) (T.obj _ _ st7)
      refine thn (pg.run _ s7 _ H7 x u _ I7' r7 (step x H7 y7)) fun _ s8 ⟨σ8, H8, I8, hw8, q8⟩ => ?_
      refine thn (pt.run _ s8 σ8 H8 _ I8 q8) fun b s9 ⟨H9, I9, q9⟩ => ?_
      -- the turn's end
      have fin : ∀ {s' : Shared} {H' : Hp}, Inv (xblk X s3 H3 scope ce fp P) ([] ++ pinsAt fp s7.heap) σ8 H' s' → Nx H' → ∃ m, m < n ∧ ∃ i H', Inv (xblk X s3 H3 scope ce fp P) [] (wipe σ (own.map (·.2))) H' s' ∧ tn i s'.heap ∧ (∀ b ∈ fp, H' b = none) ∧ W i m H' := fun {s' H'} I' nx => by
        obtain ⟨m', hm, w'⟩ := hNx H' nx
        have pin' : ∀ b ∈ fp, ∀ o, s7.heap.get? b = some o → s'.heap.get? b = some o ∧ H' b = none := fun b hb o e =>
          let z := I'.pin (b, o) (List.mem_append_right _ (List.mem_append_right _ (mem_pinsAt hb e)))
          ⟨z.1, z.2.1⟩
        have hl : (wipe σ (own.map (·.2))).length = σ8.length := by rw [← hw8, wipe_length]
        refine ⟨m', hm, i + 1, H', (I'.unpinned (pins := [])).weak hl (fun j v e => ?_), T.keep _ _ _ st7 fun b hb o e => (pin' b hb o e).1, fun b hb => ?_, w'⟩
        · rw [← hw8] at e
          exact (wipe_some e).1
        · obtain ⟨o, e, _⟩ := T.obj _ _ st7 b hb
          exact (pin' b hb o e).2
      cases b with
      | false =>
        simp only [Bool.false_eq_true, if_false] at q9 ⊢
        exact fin I9 q9
      | true =>
        simp only [if_true] at q9 ⊢
        refine thn (pe.run _ s9 σ8 H9 _ I9 q9) fun z s10 ⟨yv, H10, I10, r10, acc, hD10, hz10, nx⟩ => ?_
        exact app_ok (X := xblk X s3 H3 scope ce fp P) I10 hD10 hz10 r10 fun s11 I11 => fin I11 nx
  exact codeAny_compStart_list loop (T.self X.A 0 _ _ _ st4 loop)
/-- name = [..] on one line, the name a local -/
theorem ps_setLcR {i : Nat} {y : Str} {py : Pos} {elt tg iter : Expr} {ifs : List Expr} {scope : Scope} {own : List (Str × Nat)} {pos spos : Pos} {wi : TI} {g : TG} {tt : TT} {te : TE} (L : Lets X R) (hst : X.stack = X.env :: X.outer) (hf : X.env.frame = some X.env.locals) (hc : X.calm = true) (hN : X.N.Nodup) (hy : X.N[i]? = some y) (hyl : X.env.scope.names.lookup y = some .local)
    (hsw : swapsWith (.ListComp elt [⟨tg, iter, ifs, 0⟩] scope pos) (some (.Name y py)) spos.line X.env = pure true) (hi : PI X tg iter wi) (ok : BlkOk X.N X.env.scope scope own)
    (hg : ∀ (s : Shared) (H : Hp) (C : Addr) (cl : List (Str × Addr)) (fp : List Addr) (P : Value → Shared → Prop), PG (xblk X s H scope (compEnvC scope cl C X.env) fp P) tg g) (ht : ∀ (s : Shared) (H : Hp) (C : Addr) (cl : List (Str × Addr)) (fp : List Addr) (P : Value → Shared → Prop), PTs (xblk X s H scope (compEnvC scope cl C X.env) fp P) ifs tt)
    (he : ∀ (s : Shared) (H : Hp) (C : Addr) (cl : List (Str × Addr)) (fp : List Addr) (P : Value → Shared → Prop), LetsF (xblk X s H scope (compEnvC scope cl C X.env) fp P) R → PE (xblk X s H scope (compEnvC scope cl C X.env) fp P) elt te) (hs : ∀ x, foldedSetIterable iter X.env x = pure x := by intro _; rfl) :
    PS X (.Assign [.Name y py] (.ListComp elt [⟨tg, iter, ifs, 0⟩] scope pos) spos) (tAsg (tLc wi g tt te (own.map (·.2))) (gName i)) := by
  refine ⟨fun pins s σ H D I h => ?_⟩
  rw [exec_Assign_Name_used _ _ _ _ hsw]
  refine wpAny_bind (wpAny_standAt (wpAny_bind ?_))
  show wpAny _ X.A (do let _ ← comprehension (.ListComp elt [⟨tg, iter, ifs, 0⟩] scope pos) scope X.env (firstIterPos [⟨tg, iter, ifs, 0⟩] pos) (newList []) false (eval iter X.env) (some (assign (.Name y py) X.env))) _ _ s
  have h : tLc wi g tt te (own.map (·.2)) σ H (fun x H1 => gName i x σ H1 D.nx) := h
  refine wpAny_bind (thn (lc_coreR (Qf := fun _ s' => SP X pins D .next s') L hst hf hc hN I hi ok hg ht he hs h fun L C s' m H' I' q hn f => ?_) fun _ s' hq => wpAny_pure (wpAny_pure hq))
  show wpAny _ _ (assign (.Name y py) X.env (.ref L)) _ _ _
  refine wpAny_assign_Name (store_ok2 (v := V.ref L) I' hN hy (.inl hyl) rfl (fun s2 I2 ⟨a, sb, ha⟩ => ?_) (.inr hyl))
  obtain ⟨f0, f1, f2, f3, f4, f5⟩ := f
  have haC : C ≠ a := by
    rcases ha with z | z
    · rw [z]; exact f1
    · exact fun e => f4 y a z e.symm
  refine ⟨m, hn.sameBut sb haC, fun h3 sb3 => ?_⟩
  exact ⟨_, H', I2.turned (t' := s2.toks) (fun b o hb e => (sb3.2 b hb).trans e) f0 f1 f3 f4 f5, q⟩
end
section
variable {X : Cx} {R : Str → Prop} {tg iter elt : Expr} {ifs : List Expr} {scope : Scope} {own : List (Str × Nat)} {pos : Pos} {ti : TIP} {js : List Nat} {g : TGP} {tt : TTP} {te : TEP}
theorem ds_setLcR {i : Nat} {y : Str} {py spos : Pos} (L : Lets X R) (hst : X.stack = X.env :: X.outer) (hf : X.env.frame = some X.env.locals) (hc : X.calm = true) (hN : X.N.Nodup) (hy : X.N[i]? = some y) (hyl : X.env.scope.names.lookup y = some .local)
    (hsw : swapsWith (.ListComp elt [⟨tg, iter, ifs, 0⟩] scope pos) (some (.Name y py)) spos.line X.env = pure true) (hi : PId X tg iter ti) (ok : BlkOk X.N X.env.scope scope own) (hj : ∀ j ∈ js, j ∈ own.map (·.2))
    (hg : ∀ (s : Shared) (H : Hp) (C : Addr) (cl : List (Str × Addr)) (fp : List Addr) (P : Value → Shared → Prop), PGd (xblk X s H scope (compEnvC scope cl C X.env) fp P) tg js g)
    (ht : ∀ (s : Shared) (H : Hp) (C : Addr) (cl : List (Str × Addr)) (fp : List Addr) (P : Value → Shared → Prop), PTsd (xblk X s H scope (compEnvC scope cl C X.env) fp P) ifs tt)
    (he : ∀ (s : Shared) (H : Hp) (C : Addr) (cl : List (Str × Addr)) (fp : List Addr) (P : Value → Shared → Prop), LetsF (xblk X s H scope (compEnvC scope cl C X.env) fp P) R → PEd (xblk X s H scope (compEnvC scope cl C X.env) fp P) elt te) (hs : ∀ x, foldedSetIterable iter X.env x = pure x := by intro _; rfl) :
    PSd X (.Assign [.Name y py] (.ListComp elt [⟨tg, iter, ifs, 0⟩] scope pos) spos) (tAsgD (tLcD ti g tt te (own.map (·.2))) (gN i)) :=
  ps_imp (ps_setLcR (wi := liftI (kw X) ti) (g := liftG (kw X) js g) (tt := liftT (kw X) tt) (te := liftE (kw X) te) L hst hf hc hN hy hyl hsw hi ok hg ht he hs) fun D' σ H ⟨H0, f0, ds, vs, es, E, C, q, L⟩ =>
    lift_lc hj (σ := σ) (H := H) (Q := fun x H1 => gName i x σ H1 D'.nx) ⟨H0, f0, ds, vs, es, _, C, q, fun v d H1 ds1 C1 q1 => L.nx _ H1 _ (C1.set i) q1⟩
end
section
variable {X : Cx} {k k' : Nat} {ps ps' : List Str} {sp : SpD} {sx : SpR} {x : Str} {p pos pos' : Pos} {e : Expr} {l : List Expr} {t : TAP} {R : Str → Prop} {f : Addr} {fd : FuncData}
/-- a call in a block that raises -/
theorem d_ownRF (F : FnOk X.prog X.w X.K X.mg X.base (L2.CX X.prog X.w) k f fd ps (liftR (kw X) X.mg sx)) (L : LetsF X R) (hr : Room k X.A) (hg : Gl X x) (hm : X.mg x = some (.ref f)) (hk : PySem.W.keepIn X.K (.ref f) = true) (hb : Binds X.K fd ps [])
    (ha : PAd X (e :: l) t) (hdb : (x == ("__debug__" : Str)) = false := by decide) (he : starEach (e :: l) X.env = (false, eval e X.env) :: starEach l X.env := by rfl) (hpl : (backTo pos (starEach l X.env)).any (·.1) = false := by rfl) :
    PEd X (.Call (.Name x p) (e :: l) [] pos) (eOwnR sx R t) := by
  refine pe_imp (pe_callS (E := fun _ cls d _ => ∃ n, R n ∧ X.mg n = some cls ∧ d = none) F hr hg hm hk hb L.2 ha hdb he hpl) fun σ H Q ⟨H0, f0, ds, vs, es, Qd, C, q, kk⟩ => ?_
  refine ⟨H0, f0, ds, vs, es, _, C, q, fun ws as H1 ds1 C1 hl hL => ?_⟩
  obtain ⟨args, ds2, ⟨n, hs, hR⟩, C2, hl2⟩ := lend_cfg C1 hl hL
  obtain ⟨Cv, hm⟩ := L.1 n hR
  exact ⟨args, n, Cv, C2.args hl2, fun a => by have := C2.nd a; rw [cDs_append] at this; omega, hs, hm, fun H' => ⟨n, hR, hm, rfl⟩⟩
theorem d_fnRF (O : OwnX X.prog X.w X.K X.mg X.base k x ps sx) (L : LetsF X R) (hr : Room k X.A) (hg : Gl X x) (ha : PAd X (e :: l) t) (hdb : (x == ("__debug__" : Str)) = false := by decide)
    (he : starEach (e :: l) X.env = (false, eval e X.env) :: starEach l X.env := by rfl) (hpl : (backTo pos (starEach l X.env)).any (·.1) = false := by rfl) : PEd X (.Call (.Name x p) (e :: l) [] pos) (eOwnR sx R t) := by
  obtain ⟨f, fd, F, hm, hk, hb⟩ := O
  exact d_ownRF F L hr hg hm hk hb ha hdb he hpl
theorem d_fnBF (O : Own X.prog X.w X.K X.mg X.base k' x ps' sp) (OX : OwnX X.prog X.w X.K X.mg X.base k x ps sx) (L : LetsF X R) (hr' : Room k' X.A) (hr : Room k X.A) (hg : Gl X x) (ha : PAd X (e :: l) t) (hdb : (x == ("__debug__" : Str)) = false := by decide)
    (he : starEach (e :: l) X.env = (false, eval e X.env) :: starEach l X.env := by rfl) (hpl : (backTo pos (starEach l X.env)).any (·.1) = false := by rfl) : PEd X (.Call (.Name x p) (e :: l) [] pos) (eOwnB sp sx R t) :=
  d_ownB (d_fn O hr' hg ha hdb he hpl) (d_fnRF OX L hr hg ha hdb he hpl)
end
end PD
set_option Elab.async false
set_option linter.all false
set_option maxRecDepth 100000
set_option maxHeartbeats 2000000
/-! PD: {k: v}, sorted of a dict, dict.update, dict comprehensions, min and max of two, [::-1]. -/
namespace PD
open PySem L2
section
variable {X : Cx} {K : KW} {o e a b : Expr} {l : List Expr} {to ta tb te : TEP} {t : TAP} {pos p : Pos}
/-! ### dict.update -/
/-! ### sorted of a dict: its keys -/
theorem RepKV.keys {H : Hp} : ∀ {kvs : List (Key × PyData)} {ws : List (Key × V)}, RepKV K H kvs ws → ws.map (·.1) = kvs.map (·.1)
  | [], _, h => by subst h; rfl
  | (k, d) :: r, _, ⟨v, rs, e, h1, h2⟩ => by subst e; rw [List.map_cons, List.map_cons, RepKV.keys h2]
/-! ### min, max of two -/
end
end PD
set_option Elab.async false
set_option linter.all false
set_option maxRecDepth 100000
set_option maxHeartbeats 2000000
/-! PD: a temp's own tree written; {k: v}; dict comprehensions. -/
namespace PD
open PySem L2
section
variable {X : Cx} {K : KW} {H0 H : Hp} {f0 : Addr → Prop} {σ : St} {ds s : PSt} {vs : List V} {es : List D} {d d' : D} {v : V} {a : Addr} {o : HO}
end
section
variable {X : Cx} {K : KW} {a b : Expr} {ta tb : TEP} {pos : Pos}
/-! ### dict comprehensions -/
end
end PD
set_option Elab.async false
set_option linter.all false
set_option maxRecDepth 100000
set_option maxHeartbeats 2000000
/-! PD: list comprehensions with two for. -/
namespace PD
open PySem L2
section
variable {X : Cx} {K : KW}
end
end PD
set_option Elab.async false
set_option linter.all false
set_option maxRecDepth 100000
set_option maxHeartbeats 2000000
/-! PD: sorted of a tuple of ints; sorted(set(t)). -/
namespace PDS
open PySem PyProof.Rows
section
variable {prog : Program} {w : World} {A : Around} {E : Value → Shared → Prop} {s : Shared}
end
end PDS
namespace PD
open PySem L2
section
variable {X : Cx} {K : KW} {a : Expr} {ta : TEP} {p pos q p2 : Pos}
end
end PD
set_option Elab.async false
set_option linter.all false
set_option maxRecDepth 100000
set_option maxHeartbeats 2000000
/-! PD: xs.extend(t), t a tuple. -/
namespace PD
open PySem L2
section
variable {X : Cx} {K : KW}
def rExtT : V → List V → Hp → VK → Prop := fun x vs H Q => ∃ l b xs zs, x = .ref l ∧ vs = [.ref b] ∧ H l = some (.lst xs) ∧ TupAt H b zs ∧ xs.length + zs.length ≤ sizeLine ∧ Q .non (upd H l (.lst (xs ++ zs)))
theorem mt_extT : MtR X "list.extend" rExtT := by
  intro pins s σ H x vs v us Q I rx rv ⟨l, b, xs, zs, ex, e0, hH, hB, hz, q⟩
  subst ex e0
  obtain rfl : v = .ref l := rx
  obtain ⟨u, rfl, ru⟩ := Vals.one rv
  obtain rfl : u = .ref b := ru
  obtain ⟨z, its, n, r, hl, e⟩ := I.lstM hH
  obtain ⟨o1, ⟨hd1, hs1⟩, ho1⟩ := id hB
  obtain ⟨g1, z0, its0, rv0, o0, g2, g3, n0, g4⟩ := I.hok b _ ho1
  rw [g1] at g2
  cases g2
  have e2 : s.heap.get? b = some { cls := .type "tuple", dict := none, data := .seq its0.toArray n0, slots := #[] } := by
    rw [g1]
    obtain ⟨cls, dd, dt, sl⟩ := o1
    simp only at g3 g4 hd1 hs1
    subst g3 g4 hd1 hs1
    rfl
  have l1 := r.length
  have l2 := rv0.length
  have hsz : its.toArray.size + its0.toArray.size ≤ sizeLine := by rw [List.size_toArray, List.size_toArray]; omega
  have hlong : ¬ (!its.toArray.isEmpty && Builtin.List.listTooLong (its.toArray.size + its0.toArray.size)) = true := by
    rw [notLongL hsz, Bool.and_false]
    exact Bool.false_ne_true
  refine PySem.call_meets PySem.F.slot_list_extend ⟨_, e, rfl⟩ PySem.F.entry_list_extend (PySem.F.args_list_extend_2 _ _)
    (PySem.AutoSeq1.list_extend_list_tuple_0 l its.toArray n b its0.toArray n0 hlong (by rw [List.size_toArray]; omega) (by omega)) ⟨e, e2, ?_⟩
  refine ⟨.non, _, I.lset (its' := its ++ its0) hH e (by simp) (r.append rv0) ?_, rfl, q⟩
  rw [List.length_append]
  omega
/-- xs.extend(y), y a list or a tuple -/
def sExtendO : MSem := fun x as ds Q => sExtend x as ds Q ∨ ∃ a i π xs ys, x = .bor a i π (.lst a xs) ∧ as = [.dat (.tuple ys)] ∧ xs.length + ys.length ≤ 16777216 ∧ upS ds i π (.lst a xs) (.lst a (xs ++ ys)) (Q (.dat .none))
theorem sem_extO : SemM K sExtendO (fun x vs H Q => rExtend x vs H Q ∨ rExtT x vs H Q) := by
  intro H0 f0 H σ ds ws vs as es v x Qd Q C hl h k
  rcases h with h | ⟨a, i, π, xs, ys, ex, e, hz, up⟩
  · exact .inl (sem_extend C hl h k)
  · obtain ⟨ds', W, q⟩ := up.wr
    obtain ⟨w, rfl⟩ := one_ws hl e
    subst ex e
    have C' : Cfg K H0 f0 H σ ds (w :: v :: vs) (.dat (.tuple ys) :: .bor a i π (.lst a xs) :: es) := C
    obtain rfl : v = .ref a := C'.pop.top
    obtain ⟨zs, h1, h2⟩ := W.there C'
    obtain ⟨b, us, ew, h3, h4⟩ := C'.top
    subst ew
    refine .inr ⟨a, b, zs, us, rfl, rfl, h1, h3, by rw [← h2.len, ← h4.len, sizeLine_eq]; exact hz, k _ _ _ _ (push_none (C'.wrL W fun H' kp => ?_).pop) q⟩
    exact (RepPs.keep kp _ _ h2).append (RepPs.keep kp _ _ h4)
theorem mt_extO : MtR X "list.extend" (fun x vs H Q => rExtend x vs H Q ∨ rExtT x vs H Q) := by
  intro pins s σ H x vs v us Q I rx rv h
  rcases h with h | h
  · exact mt_extend pins s σ H x vs v us Q I rx rv h
  · exact mt_extT pins s σ H x vs v us Q I rx rv h
end
end PD
set_option Elab.async false
set_option linter.all false
set_option maxRecDepth 100000
set_option maxHeartbeats 2000000
/-! PD: t[::-1] of a tuple, xs[::-1] of a list. -/
namespace HT
open PySem PySem.Spec PyProof.Rows
section
variable {prog : Program} {w : World} {A : Around} {E : Value → Shared → Prop} {s : Shared}
theorem applied_rev {sl : Addr} {t : Tok} {n : Nat} {Q : Int × Int × Nat → Shared → Prop} (hs : s.heap.IsSliceOf sl .none .none (.int (-1) t)) (h : Q ((n : Int) - 1, -1, n) s) :
    wpAny (model prog w) A (Builtin.Slice.sliceApplied (.ref sl) (pure (n : Int))) Q E s := by
  obtain ⟨os, hos, hcs, hds⟩ := id hs
  unfold Builtin.Slice.sliceApplied Builtin.Slice.sliceFields
  refine wpAny_bind (wpAny_bind (wpAny_field hos hds (x := .none) rfl (wpAny_bind (wpAny_field hos hds (x := .none) rfl (wpAny_bind (wpAny_field hos hds (x := .int (-1) t) rfl (wpAny_pure ?_)))))))
  refine wpAny_bind (slicePart_ (.int (-1) t) ?_)
  show wpAny _ _ (if ((-1 : Int) == 0) = true then _ else _) _ _ s
  rw [if_neg (by decide)]
  refine wpAny_bind (slicePart_ .none (wpAny_bind (slicePart_ .none (wpAny_bind (wpAny_pure ?_)))))
  have e : Builtin.Slice.sliceAdjust none none (-1) (n : Int) = ((n : Int) - 1, -1) := rfl
  have e2 : Builtin.Slice.slicePlaces ((n : Int) - 1) (-1) (-1) = n := by
    unfold Builtin.Slice.slicePlaces
    rw [if_neg (by decide)]
    by_cases h0 : (n : Int) - 1 > -1
    · rw [if_pos h0]
      have : ((n : Int) - 1 - -1 - 1) / (- -1) = (n : Int) - 1 := by rw [show (- -1 : Int) = 1 by decide, Int.ediv_one]; omega
      rw [this]; omega
    · rw [if_neg h0]; omega
  show wpAny _ _ (match Builtin.Slice.sliceAdjust none none (-1) (n : Int) with | (lo, hi) => pure (lo, (-1 : Int), Builtin.Slice.slicePlaces lo hi (-1))) _ _ s
  rw [e]
  show wpAny _ _ (pure ((n : Int) - 1, (-1 : Int), Builtin.Slice.slicePlaces ((n : Int) - 1) (-1) (-1))) _ _ s
  rw [e2]
  exact wpAny_pure h
theorem fm_congr {α β : Type} {f g : α → Option β} : ∀ (l : List α), (∀ x ∈ l, f x = g x) → l.filterMap f = l.filterMap g
  | [], _ => rfl
  | x :: l, h => by rw [List.filterMap_cons, List.filterMap_cons, h x List.mem_cons_self, fm_congr l fun y hy => h y (List.mem_cons_of_mem _ hy)]
theorem pick_rev (xs : Array Value) : ((List.range xs.size).filterMap fun (m : Nat) => xs[(((xs.size : Int) - 1) + (m : Int) * (-1)).toNat]?).toArray = xs.toList.reverse.toArray := by
  have e : (List.range xs.size).filterMap (fun (m : Nat) => xs[(((xs.size : Int) - 1) + (m : Int) * (-1)).toNat]?) = ((List.range xs.size).map fun k => xs.size - 1 - k).filterMap (xs[·]?) := by
    rw [List.filterMap_map]
    have : ∀ m ∈ List.range xs.size, xs[(((xs.size : Int) - 1) + (m : Int) * (-1)).toNat]? = ((xs[·]?) ∘ fun k => xs.size - 1 - k) m := fun m hm => by
      have := List.mem_range.mp hm
      show _ = xs[xs.size - 1 - m]?
      congr 1; omega
    exact fm_congr _ this
  rw [e, PySem.W.krv_range, List.filterMap_reverse, PySem.W.krv_all]
theorem getItem_tuple_rev {t sl : Addr} {items : Array Value} {tk : Tok} {Q : Value → Shared → Prop} (ht : IsTup s.heap t items) (hs : s.heap.IsSliceOf sl .none .none (.int (-1) tk))
    (h : Q (.ref s.heap.objs.size) { s with heap := s.heap.push { cls := .type "tuple", data := .seq items.toList.reverse.toArray } })
    (hsz : items.size ≤ sizeLine) : wpAny (model prog w) A (getItem (.ref t) (.ref sl)) Q E s := by
  have htake : sizeOk (.seq items.toList.reverse.toArray) := by
    show items.toList.reverse.toArray.size ≤ sizeLine
    rw [List.size_toArray, List.length_reverse, Array.length_toList]
    omega
  obtain ⟨os, hos, hcs, hds⟩ := id hs
  have hTs : s.TypeIs (.ref sl) "slice" := ⟨os, hos, hcs⟩
  unfold getItem
  try with_reducible refine wpAny_holding ?_
  first | refine wpAny_bind (wpAny_pure ?_) | skip
  refine wpAny_bind (wpAny_sequenceKey ht.typeIs (by decide) ?_)
  refine wpAny_bind (wpAny_callSpecial?_slot (name := Str.ofString "__getitem__") ht.typeIs PyProof.Rows.slot_tuple_getitem
    (wpAny_call_entry PyProof.Rows.slot_tuple_getitem ht.typeIs entry_tuple_getitem ?_ (args_tuple_getitem _ _)))
  show wpAny _ _ (Builtin.Tuple.tupleItemsOf (.ref t) >>= _) _ _ s
  refine wpAny_bind (tupleItemsOf_ ht ?_)
  refine wpAny_bind (wpAny_typeOf hTs ?_)
  rw [if_pos (by decide)]
  refine wpAny_bind (applied_rev hs ?_)
  have hno : ¬ ((((items.size : Int) - 1) == 0 && (-1 : Int) == 1 && items.size == items.size) = true) := by
    intro q
    rw [Bool.and_eq_true, Bool.and_eq_true] at q
    exact absurd (eq_of_beq q.1.2) (by decide)
  show wpAny _ _ (if (((items.size : Int) - 1) == 0 && (-1 : Int) == 1 && items.size == items.size) = true then _ else _) _ _ s
  rw [if_neg hno, pick_rev]
  first
    | exact wpAny_bind (m := Builtin.Tuple.tupleExact _) (wpAny_newObj_type (wpAny_pure ⟨_, rfl, wpAny_pure h⟩) htake)
    | exact wpAny_bind (m := Builtin.Tuple.tupleExact _) (wpAny_newObj_type (wpAny_bind (wpAny_pure (wpAny_pure ⟨_, rfl, wpAny_pure h⟩))) htake)
    | exact wpAny_bind (wpAny_bind (m := Builtin.Tuple.tupleExact _) (wpAny_newObj_type (wpAny_pure (wpAny_pure ⟨_, rfl, wpAny_pure h⟩)) htake))
    | exact wpAny_bind (wpAny_bind (m := Builtin.Tuple.tupleExact _) (wpAny_newObj_type (wpAny_pure ⟨_, rfl, wpAny_pure h⟩) htake))
end
end HT
namespace PD
open PySem L2
section
variable {X : Cx} {K : KW} {e : Expr} {te : TEP} {k : Nat} {p1 p2 p3 pos : Pos}
def tRevT (K : PySem.W.Frag) (te : TE) : TE := fun σ H Q => te σ H fun x H1 => ∃ a xs, x = .ref a ∧ ((SqL K H1 a xs ∧ ∀ p, H1 p = none → Q (.ref p) (upd H1 p (.lst xs.reverse))) ∨ (SqT K H1 a xs ∧ ∀ p o, H1 p = none → Plain o → Q (.ref p) (upd H1 p (.frz o (.tup xs.reverse)))))
theorem pe_revT {te : TE} (he : PE X e te) : PE X (.Subscript e (.Slice none none (some (.UnaryOp .USub (.Constant (.int 1) k p1) p2)) p3) pos) (tRevT X.K te) := by
  refine ⟨fun pins s σ H Q I h => ?_⟩
  refine PyProof.Rows.Subscript_ (thn (he.run pins s σ H _ I h) fun v s1 ⟨x, H1, I1, r1, q1⟩ => ?_)
  obtain ⟨a, xs, ex, q⟩ := q1
  subst ex
  obtain rfl : v = .ref a := r1
  have hst : PO X (some (.UnaryOp .USub (.Constant (.int 1) k p1) p2)) (tPart (tUn (rU fun i => .int (-i)) (tC (.int 1)))) := po_some (pe_un un_neg pe_int)
  refine wpAny_Slice (thn (po_none.run pins s1 σ H1 (fun o H2 => o = none ∧ H2 = H1) I1 ⟨rfl, rfl⟩) fun vl s2 ⟨l, H2, I2, pl, el, e2⟩ => ?_)
  subst el e2
  refine thn (po_none.run pins s2 σ H2 (fun o H3 => o = none ∧ H3 = H2) I2 ⟨rfl, rfl⟩) fun vu s3 ⟨u, H3, I3, pu, eu, e3⟩ => ?_
  subst eu e3
  refine thn (hst.run pins s3 σ H3 (fun o H4 => o = some (-1) ∧ H4 = H3) I3 ⟨1, rfl, -1, rfl, rfl, rfl⟩) fun vs s4 ⟨o, H4, I4, ps, eo, e4⟩ => ?_
  subst eo e4
  have I5 : Inv X pins σ H4 { s4 with heap := s4.heap.push { cls := .type "slice", data := .fields #[vl, vu, vs] } } := I4.kept (t' := s4.toks) fun b ob q => Heap.get?_push_of_some _ q
  rcases q with ⟨hx, q⟩ | ⟨hx, q⟩
  · obtain ⟨its, r, ht, hz⟩ := I5.list hx
    have hlen := r.length
    show wpAny (model X.prog X.w) X.A (PyProof.Rows.subscriptTail e (.Slice none none (some (.UnaryOp .USub (.Constant (.int 1) k p1) p2)) p3) (.ref a) (.ref s4.heap.objs.size)) (EP X pins σ Q) X.xe { s4 with heap := s4.heap.push { cls := .type "slice", data := .fields #[vl, vu, vs] } }
    refine PyProof.Rows.tail_any (ops := [.ref a, .ref s4.heap.objs.size]) ht.isList.typeIs (PySem.slot_list_getitem.lookup) ?_ (by with_unfolding_all rfl)
    refine wpAny_getItem_list_slice ht.isList (Heap.IsSliceOf.new _ vl vu vs) pl pu ps (by decide) ?_ (by rw [List.size_toArray]; omega)
    rw [PySem.W.krv_pick]
    refine ⟨.ref _, _, I5.laid (t' := s4.toks) (o := .lst xs.reverse) (fun b ob q => Heap.get?_push_of_some _ q) (Nat.le_refl _) ?_, rfl, q _ (I5.hok.fresh (Nat.le_refl _))⟩
    exact ⟨by rw [List.length_reverse]; exact hz, _, 0, r.reverse, Heap.get?_push_size _ rfl⟩
  · obtain ⟨its, r, ht, hz⟩ := I5.tuple hx
    have hlen := r.length
    cases pl
    cases pu
    cases ps
    show wpAny (model X.prog X.w) X.A (PyProof.Rows.subscriptTail e (.Slice none none (some (.UnaryOp .USub (.Constant (.int 1) k p1) p2)) p3) (.ref a) (.ref s4.heap.objs.size)) (EP X pins σ Q) X.xe { s4 with heap := s4.heap.push { cls := .type "slice", data := .fields #[.none, .none, _] } }
    refine PyProof.Rows.tail_any (ops := [.ref a, .ref s4.heap.objs.size]) ht.typeIs (PyProof.Rows.slot_tuple_getitem.lookup) ?_ (by with_unfolding_all rfl)
    refine HT.getItem_tuple_rev ht (Heap.IsSliceOf.new _ _ _ _) ?_ (by rw [List.size_toArray]; omega)
    exact ⟨.ref _, _, Inv.ftup (tk := s4.toks) I5 r.reverse (by rw [List.length_reverse]; exact hz), rfl, q _ _ (I5.hok.fresh (Nat.le_refl _)) ⟨rfl, rfl⟩⟩
def eRev (te : TEP) : TEP := fun ds Q => te ds fun x ds1 => ∃ t xs, See ds1 x t ∧ ((t = .dat (.tuple xs) ∧ Q (.dat (.tuple xs.reverse)) ds1) ∨ ∃ a, t = .lst a xs ∧ ∀ c, Q (.lst c xs.reverse) ds1)
theorem d_rev (he : PEd X e te) : PEd X (.Subscript e (.Slice none none (some (.UnaryOp .USub (.Constant (.int 1) k p1) p2)) p3) pos) (eRev te) :=
  pe_imp (pe_revT he) fun σ H Q ⟨H0, f0, ds, vs, es, Qd, C, q, k⟩ => ⟨H0, f0, ds, vs, es, _, C, q, fun v x H1 ds1 C1 ⟨t, xs, s, q1⟩ => by
    have r := s.rep C1 C1.top
    rcases q1 with ⟨et, q1⟩ | ⟨a, et, q1⟩
    · subst et
      obtain ⟨a, zs, ev, h1, h2⟩ := r
      subst ev
      exact ⟨a, zs, rfl, .inr ⟨h1.sq, fun p o hp ho => k _ _ _ _ (C1.pop.newT hp ho h2.reverse) q1⟩⟩
    · subst et
      obtain ⟨ev, zs, h1, h2⟩ := r
      subst ev
      exact ⟨a, zs, rfl, .inl ⟨SqL.of h1, fun p hp => k _ _ _ _ (C1.pop.newL hp h2.reverse) (q1 p)⟩⟩⟩
end
end PD
set_option Elab.async false
set_option linter.all false
set_option maxRecDepth 100000
set_option maxHeartbeats 2000000
/-! PD: instances: fields read and stored, methods, instances made. -/
namespace PD
open PySem L2
section
variable {K : KW} {H H' H0 : Hp} {f0 : Addr → Prop} {σ : St} {ds ds2 : PSt} {vs ws : List V} {es as args : List D} {v w : V} {d t x : D} {a : Addr}
theorem RepFs.len : ∀ {fs : List (Str × D)} {ws : List (Str × V)}, RepFs K H fs ws → fs.length = ws.length
  | [], _, e => by subst e; rfl
  | _ :: _, _, ⟨_, _, e, _, h⟩ => by subst e; simp [RepFs.len h]
end
section
variable {X : Cx} {o e value : Expr} {l : List Expr} {f m x : Str} {p pos pos' apos : Pos} {to te : TEP} {t : TAP} {C : Addr} {k : Nat} {fa : Addr} {fd : FuncData} {ps : List Str} {sp : SpD}
end
end PD
set_option Elab.async false
set_option linter.all false
set_option maxRecDepth 100000
set_option maxHeartbeats 2000000
/-! PD: comprehensions that give trees, a tree appended, enumerate of a list or a tuple, list(d.values()), sorted of a dict of any length. -/
namespace PD
open PySem L2
/-! ### what a comprehension gives may be trees -/
section
variable {K : KW} {H H0 : Hp} {f0 : Addr → Prop} {σ : St} {ds : PSt} {vs : List V} {es : List D}
variable {tg iter elt : Expr} {ifs : List Expr} {scope : Scope} {own : List (Str × Nat)} {pos : Pos} {ti : TIP} {js : List Nat} {g : TGP} {tt : TTP} {te : TEP}
end
/-! ### a tree appended to a list of trees -/
/-! ### enumerate of a list or a tuple -/
def iEnO (K : PySem.W.Frag) (ta : TA) : TI := fun σ H R => ta σ H fun vs H1 => ∃ a xs, vs = [.ref a] ∧ ((SqT K H1 a xs ∧ R (IteT K a) H1) ∨ (SqL K H1 a xs ∧ R (Ite K a) H1))
theorem pi_enumO {X : Cx} {e : Expr} {ta : TA} {p pos tpos : Pos} {elts : List Expr} {kk : Nat} (hg : Gl X "enumerate") (hm : X.mg "enumerate" = none) (ha : PA X [e] ta) (hs : starEach [e] X.env = [(false, eval e X.env)] := by rfl) :
    PI X (.Tuple elts kk tpos) (.Call (.Name "enumerate" p) [e] [] pos) (iEnO X.K ta) := by
  refine ⟨fun pins s σ H R I h => PyProof.Rows.Call_ (ld_blt I hg hm PyProof.Rows.boot_enumerate (PyProof.Rows.callWith_type1 (thn (ha.run pos pins s σ H _ I h) fun us s1 ⟨vs, H1, I1, r1, a, xs, ex, q⟩ => ?_) hs rfl))⟩
  subst ex
  obtain ⟨u, rfl, r⟩ := Vals.one r1
  obtain rfl : u = .ref a := r
  have hfp : ∀ b ∈ [s1.heap.objs.size + 1, s1.heap.objs.size], s1.heap.objs.size ≤ b := fun b hb => by
    rcases (show b = s1.heap.objs.size + 1 ∨ b = s1.heap.objs.size by simpa using hb) with z | z
    · rw [z]; exact Nat.le_add_right _ _
    · rw [z]; exact Nat.le_refl _
  rcases q with ⟨hq, q⟩ | ⟨hq, q⟩
  · obtain ⟨its, rv, p', hz⟩ := I1.tuple hq
    have pt : s1.heap.IsTuple a its.toArray := p'
    have al : a < s1.heap.objs.size := p'.lt
    refine call_enumT pt fun h' he hit hsz hk => wpAny_pyIter_enum he ?_
    have I2 : Inv X pins σ H1 { s1 with heap := h' } := I1.kept (t' := s1.toks) hk
    exact ⟨s1.heap.objs.size + 1, [s1.heap.objs.size + 1, s1.heap.objs.size], _, _, H1, rfl, I2, turn_enumT a (s1.heap.objs.size + 1) s1.heap.objs.size (Nat.ne_of_lt al), ⟨⟨.none, he⟩, hit, Nat.succ_ne_self _⟩, fun b hb => I1.fpOk (hfp b hb) (I1.hok.fresh (hfp b hb)), q⟩
  · obtain ⟨its, rv, p', hz⟩ := I1.list hq
    refine call_enumerate_list p'.isList fun h' he hit hsz hk => wpAny_pyIter_enum he ?_
    have I2 : Inv X pins σ H1 { s1 with heap := h' } := I1.kept (t' := s1.toks) hk
    exact ⟨s1.heap.objs.size + 1, [s1.heap.objs.size + 1, s1.heap.objs.size], _, _, H1, rfl, I2, turn_enum a (s1.heap.objs.size + 1) s1.heap.objs.size, ⟨⟨.none, he⟩, hit, Nat.succ_ne_self _⟩, fun b hb => I1.fpOk (hfp b hb) (I1.hok.fresh (hfp b hb)), q⟩
/-- enumerate(t), t a tuple or a list of data -/
def iEnumO (t : TAP) : TIP := fun ds R => t ds fun as ds1 => ∃ x, as = [x] ∧ ((∃ xs, x = .dat (.tuple xs) ∧ R (enumD 0 xs) (fun _ => True) ds1) ∨ ∃ a xs, See ds1 x (.lst a xs) ∧ R (enumD 0 xs) (fun ds2 => See ds2 x (.lst a xs)) ds1)
theorem di_enumO {X : Cx} {e : Expr} {t : TAP} {p pos tpos : Pos} {elts : List Expr} {kk : Nat} (hg : Gl X "enumerate") (hm : X.mg "enumerate" = none) (ha : PAd X [e] t) (hs : starEach [e] X.env = [(false, eval e X.env)] := by rfl) :
    PId X (.Tuple elts kk tpos) (.Call (.Name "enumerate" p) [e] [] pos) (iEnumO t) :=
  pi_imp (pi_enumO hg hm ha hs) fun σ H R ⟨H0, f0, ds, vs, es, Rd, C, q, k⟩ => ⟨H0, f0, ds, vs, es, _, C, q, fun ws as H1 ds1 C1 hl ⟨x, e1, q0⟩ => by
    subst e1
    obtain ⟨w, rfl⟩ := one_ws hl rfl
    rcases q0 with ⟨xs, e2, q1⟩ | ⟨b, xs, hsee, q1⟩
    · subst e2
      have C2 : Cfg (kw X) H0 f0 H1 σ ds1 (w :: vs) (.dat (.tuple xs) :: es) := C1
      obtain ⟨a, zs, ew, h1, h2⟩ := C2.top
      subst ew
      refine ⟨a, zs, rfl, .inl ⟨h1.sq, k (IteT X.K a) H1 ds1 [.ref a] [.dat (.tuple xs)] _ _ C1 rfl ⟨fun i σ' H' s vs' es' hi C' _ => ?_, fun σ' H' s vs' es' C' _ => ?_, fun i σ' H' s vs' es' y H2 p hp C' _ hy => ?_⟩ q1⟩⟩
      · obtain ⟨a2, zs2, e4, h3, h4⟩ := C'.top
        cases e4
        rw [enumD_len] at hi
        obtain ⟨z, hz, _⟩ := h4.get (i := i) (d := xs[i]) (by simp [hi])
        exact ⟨zs2, z, h3.sq, hz⟩
      · obtain ⟨a2, zs2, e4, h3, h4⟩ := C'.top
        cases e4
        exact ⟨zs2, h3.sq, by rw [enumD_len]; exact h4.len.symm⟩
      · obtain ⟨a2, zs2, e4, h3, h4⟩ := C'.top
        cases e4
        obtain ⟨T, z, ey, hT, eH, hz⟩ := hy
        subst ey eH
        rw [enumD_get] at hp
        cases ex : xs[i]? with
        | none => rw [ex] at hp; cases hp
        | some pd =>
          rw [ex] at hp
          cases hp
          obtain ⟨z2, g1, g2⟩ := h4.get ex
          have := hz zs2 h3.sq
          rw [g1] at this
          cases this
          rw [Nat.zero_add]
          exact C'.pair hT rfl g2
    · have C2 : Cfg (kw X) H0 f0 H1 σ ds1 (w :: vs) (x :: es) := C1
      obtain ⟨ew, zs, h1, h2⟩ := hsee.lst C2 C2.top
      subst ew
      refine ⟨b, zs, rfl, .inr ⟨SqL.of h1, k (Ite X.K b) H1 ds1 [.ref b] [x] _ _ C1 rfl ⟨fun i σ' H' s vs' es' hi C' hok => ?_, fun σ' H' s vs' es' C' hok => ?_, fun i σ' H' s vs' es' y H2 p hp C' hok hy => ?_⟩ q1⟩⟩
      · have C'' : Cfg (kw X) H0 f0 H' σ' s (.ref b :: vs') (x :: es') := C'
        obtain ⟨_, zs2, h3, h4⟩ := See.lst C'' C''.top hok
        rw [enumD_len] at hi
        obtain ⟨z, hz, _⟩ := h4.get (i := i) (d := xs[i]) (by simp [hi])
        exact ⟨zs2, z, SqL.of h3, hz⟩
      · have C'' : Cfg (kw X) H0 f0 H' σ' s (.ref b :: vs') (x :: es') := C'
        obtain ⟨_, zs2, h3, h4⟩ := See.lst C'' C''.top hok
        exact ⟨zs2, SqL.of h3, by rw [enumD_len, h4.len]; exact Nat.le_refl _⟩
      · have C'' : Cfg (kw X) H0 f0 H' σ' s (.ref b :: vs') (x :: es') := C'
        obtain ⟨_, zs2, h3, h4⟩ := See.lst C'' C''.top hok
        obtain ⟨T, z, ey, hT, eH, hz⟩ := hy
        subst ey eH
        rw [enumD_get] at hp
        cases ex : xs[i]? with
        | none => rw [ex] at hp; cases hp
        | some pd =>
          rw [ex] at hp
          cases hp
          obtain ⟨z2, g1, g2⟩ := h4.get ex
          have := hz zs2 (SqL.of h3)
          rw [g1] at this
          cases this
          rw [Nat.zero_add]
          exact C'.pair hT rfl g2⟩
/-! ### list(d.values()) -/
section
variable {X : Cx} {e : Expr} {te : TE} {p apos cpos pos : Pos}
end
/-! ### sorted(d), d a dict of ints, of any length -/
section
open PySem PySem.Spec PyProof.Rows
variable {X : Cx}
end
end PD
set_option Elab.async false
set_option linter.all false
set_option maxRecDepth 100000
set_option maxHeartbeats 2000000
/-! PD: words for a class of one's own in the printed terms. -/
namespace PD
open PySem L2
/-- what the top has made of the class Chain: no attribute of the class has a field's name; the empty tuple at T0 -/
structure ChT (K : PySem.W.Frag) (CC T0 : Addr) : Prop where
  cl : Cls K CC
  n_steps : NoAttr K CC "steps"
  n_things : NoAttr K CC "things"
  n_points : NoAttr K CC "points"
  n_strong : NoAttr K CC "strong"
  n_rows : NoAttr K CC "rows"
  t0 : ∀ H, SqT K H T0 []
section
variable {X : Cx} {o e : Expr} {l : List Expr} {m x : Str} {p pos apos : Pos} {to : TEP} {t : TAP} {CC T0 : Addr} {k : Nat} {ps : List Str} {sp : SpD}
end
end PD
set_option Elab.async false
set_option linter.all false
set_option maxRecDepth 100000
set_option maxHeartbeats 2000000
/-! PD: list(x) as data at once: a list that nobody writes. -/
namespace PD
open PySem L2 PySem.Spec PyProof.Rows
section
variable {X : Cx} {K : KW}
end
end PD
set_option Elab.async false
set_option linter.all false
set_option maxRecDepth 100000
set_option maxHeartbeats 2000000
/-! PD: texts: str(i), slices, split, join, startswith, endswith, replace, x or y; [f(..)] in a try; len(set(xs)) of a list that stands in a slot. -/
namespace PD
open PySem L2
def str1 (i : Int) : Str := (toString i : String)
theorem RepPs.of_strs {K : KW} {H : Hp} : ∀ (ys : List Str), RepPs K H (ys.map PyData.str) (ys.map V.str)
  | [] => rfl
  | y :: ys => ⟨_, _, rfl, rfl, RepPs.of_strs ys⟩
theorem RepPs.strs {K : KW} {H : Hp} : ∀ {ys : List Str} {zs : List V}, RepPs K H (ys.map PyData.str) zs → zs = ys.map V.str
  | [], _, h => h
  | y :: ys, _, ⟨v, r, e, h1, h2⟩ => by subst e; rw [RepPs.strs h2]; obtain rfl : v = .str y := h1; rfl
section
variable {X : Cx} {K : KW} {a b o e : Expr} {rest : List Expr} {l : List Expr} {ta tb to te : TEP} {t : TAP} {pos apos p p2 q p3 : Pos}
/-! ### str(i) -/
def sStrI (x : D) (ds : PSt) (Q : D → PSt → Prop) : Prop := ∃ i : Int, x = .dat (.int i) ∧ i.natAbs < 100000 ∧ Q (.dat (.str (str1 i))) ds
theorem log2_lt {n : Nat} (h : n < 100000) : n.log2 < 1920 := by
  by_cases h0 : n = 0
  · subst h0; decide
  · have : n.log2 < 20 := (Nat.log2_lt h0).mpr (Nat.lt_of_lt_of_le h (by decide))
    omega
theorem sem_strI : SemA K (s1 sStrI) (fun xs H Q => ∃ i : Int, xs = [.int i] ∧ i.natAbs.log2 < 1920 ∧ Q (.str (toString i : String)) H) := by
  intro H0 f0 H σ ds ws vs as es Qd Q C hl ⟨x, e, i, ex, hi, q⟩ k
  subst e ex
  obtain ⟨w, rfl⟩ := one_ws hl rfl
  have C2 : Cfg K H0 f0 H σ ds (w :: vs) (.dat (.int i) :: es) := C
  obtain rfl : w = .int i := C2.top
  exact ⟨i, rfl, log2_lt hi, k _ _ _ _ (C2.pop.push (d := .dat (.str _)) rfl fun _ => rfl) q⟩
/-! ### slices of texts -/
def eSlS (te : TEP) (tl th : TOP) : TEP := fun ds Q => te ds fun x ds1 => tl ds1 fun lo ds2 => th ds2 fun hi ds3 => ∃ z : Str, x = .dat (.str z) ∧ z.length ≤ 16777216 ∧ Q (.dat (.str (cutS z lo hi))) ds3
theorem d_slS {lo hi : Option Expr} {tl th : TOP} (he : PEd X e te) (hl : POd X lo tl) (hh : POd X hi th) : PEd X (.Subscript e (.Slice lo hi none p2) pos) (eSlS te tl th) :=
  pe_imp (pe_slice sl_str he hl hh) fun σ H Q ⟨H0, f0, ds, vs, es, Qd, C, q, k⟩ => ⟨H0, f0, ds, vs, es, _, C, q, fun v x H1 ds1 C1 q1 => ⟨H0, f0, ds1, _, _, _, C1, q1, fun l H2 ds2 C2 q2 => ⟨H0, f0, ds2, _, _, _, C2, q2, fun u H3 ds3 C3 ⟨z, ex, hz, q3⟩ => by
    subst ex
    obtain rfl : v = .str z := C3.top
    exact ⟨z, rfl, by rw [sizeLine_eq]; exact hz, k _ _ _ _ (C3.pop.push (d := .dat (.str _)) rfl fun _ => rfl) q3⟩⟩⟩⟩
/-! ### methods of a text and a text -/
abbrev StSem := Str → Str → (D → PSt → Prop) → PSt → Prop
def eStM (r : StSem) (to te : TEP) : TEP := fun ds Q => to ds fun x ds1 => ∃ s : Str, x = .dat (.str s) ∧ te ds1 fun y ds2 => ∃ t : Str, y = .dat (.str t) ∧ r s t Q ds2
def stStarts : StSem := fun s t Q ds => Q (.dat (.bool (Txt.startswith s t))) ds
def stEnds : StSem := fun s t Q ds => Q (.dat (.bool (Txt.endswith s t))) ds
def stSplit : StSem := fun s t Q ds => 0 < t.length ∧ s.length ≤ 16777000 ∧ ∀ a, Q (.lst a ((Txt.split s t).map .str)) ds
theorem lift_stM {r : StSem} {rr : V → List V → Hp → VK → Prop} (hr : ∀ {H0 f0 H σ ds vs es Qd} {Q : VK} (s t : Str), Cfg K H0 f0 H σ ds vs es → r s t Qd ds → (∀ v' d H' ds', Cfg K H0 f0 H' σ ds' (v' :: vs) (d :: es) → Qd d ds' → Q v' H') → rr (.str s) [.str t] H Q)
    {σ : St} {H : Hp} {Q : VK} (h : liftE K (eStM r to te) σ H Q) : tM1 rr (liftE K to) (liftE K te) σ H Q := by
  obtain ⟨H0, f0, ds, vs, es, Qd, C, q, k⟩ := h
  refine ⟨H0, f0, ds, vs, es, _, C, q, fun v x H1 ds1 C1 ⟨s, ex, q1⟩ => ?_⟩
  subst ex
  obtain rfl : v = .str s := C1.top
  refine ⟨⟨s, rfl⟩, H0, f0, ds1, _, _, _, C1, q1, fun w y H2 ds2 C2 ⟨t, ey, q2⟩ => ?_⟩
  subst ey
  obtain rfl : w = .str t := C2.top
  exact hr s t C2.pop.pop q2 k
theorem d_starts (ho : PEd X o to) (he : PEd X e te) (hs : starEach [e] X.env = [(false, eval e X.env)] := by rfl) (hbase : attributeBase o "startswith" X.env (eval o X.env) = eval o X.env := by rfl) (hline : (apos.endLine == pos.line) = true := by rfl) :
    PEd X (.Call (.Attribute o "startswith" apos) [e] [] pos) (eStM stStarts to te) :=
  pe_imp (pe_m1 PySem.F.slot_str_startswith PySem.F.type_str_startswith mt_startswith ho he hs hbase hline) fun σ H Q h => lift_stM (fun s t C q k => ⟨s, t, rfl, rfl, k _ _ _ _ (C.push (d := .dat (.bool _)) rfl fun _ => rfl) q⟩) h
theorem d_ends (ho : PEd X o to) (he : PEd X e te) (hs : starEach [e] X.env = [(false, eval e X.env)] := by rfl) (hbase : attributeBase o "endswith" X.env (eval o X.env) = eval o X.env := by rfl) (hline : (apos.endLine == pos.line) = true := by rfl) :
    PEd X (.Call (.Attribute o "endswith" apos) [e] [] pos) (eStM stEnds to te) :=
  pe_imp (pe_m1 PySem.F.slot_str_endswith PySem.F.type_str_endswith mt_endswith ho he hs hbase hline) fun σ H Q h => lift_stM (fun s t C q k => ⟨s, t, rfl, rfl, k _ _ _ _ (C.push (d := .dat (.bool _)) rfl fun _ => rfl) q⟩) h
theorem d_split (ho : PEd X o to) (he : PEd X e te) (hs : starEach [e] X.env = [(false, eval e X.env)] := by rfl) (hbase : attributeBase o "split" X.env (eval o X.env) = eval o X.env := by rfl) (hline : (apos.endLine == pos.line) = true := by rfl) :
    PEd X (.Call (.Attribute o "split" apos) [e] [] pos) (eStM stSplit to te) :=
  pe_imp (pe_split ho he hs hbase hline) fun σ H Q h => lift_stM (fun s t C ⟨h0, h1, q⟩ k => ⟨s, t, rfl, rfl, by simp; omega, by rw [sizeLine_eq]; omega, fun p hp => k _ _ _ _ (C.newL hp (RepPs.of_strs _)) (q p)⟩) h
/-! ### join -/
def eJoin (to te : TEP) : TEP := fun ds Q => to ds fun x ds1 => ∃ s : Str, x = .dat (.str s) ∧ te ds1 fun y ds2 => ∃ t, ∃ ys : List Str, See ds2 y t ∧ ItemsT t (ys.map .str) ∧ (ys.map (·.length)).sum + ys.length * s.length ≤ 16777216 ∧ Q (.dat (.str (Txt.join s ys))) ds2
theorem d_join (ho : PEd X o to) (he : PEd X e te) (hs : starEach [e] X.env = [(false, eval e X.env)] := by rfl) (hbase : attributeBase o "join" X.env (eval o X.env) = eval o X.env := by rfl) (hline : (apos.endLine == pos.line) = true := by rfl) :
    PEd X (.Call (.Attribute o "join" apos) [e] [] pos) (eJoin to te) :=
  pe_imp (pe_join ho he hs hbase hline) fun σ H Q h => by
    obtain ⟨H0, f0, ds, vs, es, Qd, C, q, k⟩ := h
    refine ⟨H0, f0, ds, vs, es, _, C, q, fun v x H1 ds1 C1 ⟨s, ex, q1⟩ => ?_⟩
    subst ex
    obtain rfl : v = .str s := C1.top
    refine ⟨⟨s, rfl⟩, H0, f0, ds1, _, _, _, C1, q1, fun w y H2 ds2 C2 ⟨t, ys, st, it, hz, q2⟩ => ?_⟩
    obtain ⟨ad, zs, ew, hq, r⟩ := items_rep (st.rep C2 C2.top) it
    subst ew
    obtain rfl := RepPs.strs r
    exact ⟨s, ad, ys, rfl, rfl, hq, hz, k _ _ _ _ (C2.pop.pop.push (d := .dat (.str _)) rfl fun _ => rfl) q2⟩
/-! ### x or y, by truth -/
def eOrV (ta tb : TEP) : TEP := fun ds Q => ta ds fun x ds1 => ∃ d c, See ds1 x d ∧ TruT d c ∧ if c = true then Q x ds1 else (∃ p, x = .dat p) ∧ tb ds1 Q
theorem d_orV (ha : PEd X a ta) (hb : PEd X (.BoolOp .Or (b :: rest) pos) tb) : PEd X (.BoolOp .Or (a :: b :: rest) pos) (eOrV ta tb) :=
  pe_imp (pe_orT ha hb) fun σ H Q ⟨H0, f0, ds, vs, es, Qd, C, q, k⟩ => ⟨H0, f0, ds, vs, es, _, C, q, fun v x H1 ds1 C1 ⟨d, c, s, t, q1⟩ => by
    refine ⟨c, tru_rep (s.rep C1 C1.top) t, ?_⟩
    cases c with
    | true => exact k _ _ _ _ C1 q1
    | false => exact ⟨H0, f0, ds1, vs, es, Qd, C1.pop, q1.2, k⟩⟩
/-! ### replace of written texts: a token must be out, so a written text stands ahead of it -/
def PATd (X : Cx) (l : List Expr) (t : TAP) : Prop := PAT X l (liftA (kw X) t)
def PETd (X : Cx) (e : Expr) (t : TEP) : Prop := PET X e (liftE (kw X) t)
theorem det_of (h : PEd X e te) : PETd X e te := CwR.PET.of h
def eRepl (y z : Str) (to : TEP) : TEP := fun ds Q => to ds fun x ds1 => ∃ s : Str, x = .dat (.str s) ∧ s.length + (s.length + 1) * z.length ≤ 16777216 ∧ Q (.dat (.str (Txt.replace s y z))) ds1
theorem det_repl {y z : Str} {j k : Nat} {c0 c1 : Pos} (ho : PEd X o to) (hyz : (y == z) = false := by decide)
    (hst : starEach [.Constant (.str y) j c0, .Constant (.str z) k c1] X.env = [(false, eval (.Constant (.str y) j c0) X.env), (false, eval (.Constant (.str z) k c1) X.env)] := by rfl)
    (hbase : attributeBase o "replace" X.env (eval o X.env) = eval o X.env := by rfl) (hline : (apos.endLine == pos.line) = true := by rfl) :
    PETd X (.Call (.Attribute o "replace" apos) [.Constant (.str y) j c0, .Constant (.str z) k c1] [] pos) (eRepl y z to) := fun pins s σ H Q h0 I ⟨H0, f0, ds, vs, es, Qd, C, q, kk⟩ =>
  CwR.pet_replC ho hyz hst hbase hline pins s σ H Q h0 I ⟨H0, f0, ds, vs, es, _, C, q, fun v x H1 ds1 C1 ⟨s1, ex, hz, q1⟩ => by
    subst ex
    obtain rfl : v = .str s1 := C1.top
    exact ⟨s1, rfl, hz, kk _ _ _ _ (C1.pop.push (d := .dat (.str _)) rfl fun _ => rfl) q1⟩⟩
theorem dat_nil : PATd X [] aNil := fun pos pins s σ H Q h0 I ⟨H0, f0, ds, vs, es, Qd, C, q, kk⟩ => pat_nil pos pins s σ H Q h0 I (kk [] [] H ds C rfl q)
theorem lift_cons {tr : TAP} {K : KW} {σ : L2.St} {H : Hp} {Q : List V → Hp → Prop} (h : liftA K (aCons ta tr) σ H Q) : tCons (liftE K ta) (liftA K tr) σ H Q := by
  obtain ⟨H0, f0, ds, vs, es, Qd, C, q, kk⟩ := h
  exact ⟨H0, f0, ds, vs, es, _, C, q, fun v x H1 ds1 C1 q1 => ⟨H0, f0, ds1, v :: vs, x :: es, _, C1, q1, fun ws as H2 ds2 C2 hl q2 => kk (v :: ws) (x :: as) H2 ds2 (C2.mid hl) (by simp [hl]) q2⟩⟩
theorem dat_cons {tr : TAP} (ha : PETd X e ta) (hr : PATd X l tr) (hs : starEach (e :: l) X.env = (false, eval e X.env) :: starEach l X.env := by rfl) : PATd X (e :: l) (aCons ta tr) := fun pos pins s σ H Q h0 I h =>
  pat_cons ha hr hs pos pins s σ H Q h0 I (lift_cons h)
/-- a written text: behind it a token is out -/
theorem da_tok {tr : TAP} {c : Str} {j : Nat} {cp : Pos} (hr : PATd X l tr) (hs : starEach (.Constant (.str c) j cp :: l) X.env = (false, eval (.Constant (.str c) j cp) X.env) :: starEach l X.env := by rfl) : PAd X (.Constant (.str c) j cp :: l) (aCons (eC (.str c)) tr) := by
  refine ⟨fun pos pins s σ H Q I h => ?_⟩
  obtain ⟨H0, f0, ds, vs, es, Qd, C, q, kk⟩ := h
  rw [hs]
  show wpAny _ _ (spliced ((false, eval (.Constant (.str c) j cp) X.env) :: backTo pos (starEach l X.env))) _ _ s
  refine Calls.spliced_cons (Calls.Constant_str ?_)
  refine L2.thn (hr pos pins { s with toks := s.toks + 1 } σ H (fun ws H' => Q (.str c :: ws) H') (by show 1 ≤ s.toks + 1; omega) (I.tok _) ⟨H0, f0, ds, .str c :: vs, .dat (.str c) :: es, _, C.push (d := .dat (.str c)) rfl (fun _ => rfl), q, fun ws as H2 ds2 C2 hl q2 => kk (.str c :: ws) (.dat (.str c) :: as) H2 ds2 (C2.mid hl) (by simp [hl]) q2⟩) fun us s2 ⟨xs, H2, I2, r2, q2⟩ => ⟨.str c :: xs, H2, I2, .cons ⟨_, rfl⟩ r2, q2⟩
/-! ### [f(..)] in a try's body -/
def eLst1 (te : (Str → PSt → Prop) → TEP) (Wd : Str → PSt → Prop) : TEP := fun ds Q => te Wd ds fun x ds1 => mkL [x] Q ds1
theorem dx_lst1 {te : (Str → PSt → Prop) → TEP} (he : PEx X e te) (hs : starEach [e] X.env = (false, eval e X.env) :: starEach [] X.env := by rfl) : PEx X (.List [e] pos) (eLst1 te) := fun W tk =>
  pe_imp (pe_lst (pa_cons (he W tk) pa_nil hs)) fun σ H Q ⟨H0, f0, ds, vs, es, Qd, Wd, C, q, k, kw'⟩ => ⟨H0, f0, ds, vs, es, _, Wd, C, q, fun v x H1 ds1 C1 q1 => by
    refine ⟨by show 1 ≤ sizeLine; decide, fun p hp => ?_⟩
    have C2 : Cfg (kw X) H0 f0 H1 σ ds1 ([v] ++ vs) ([x] ++ es) := C1
    unfold mkL at q1
    split at q1
    · rename_i ps e2
      exact k _ _ _ _ ((C2.drop rfl).newL hp (dats_rep e2 (C2.args rfl))) (q1 p)
    · exact k _ _ _ _ (C2.newTrees rfl hp) (q1 p), kw'⟩
end
/-! ### len(set(xs)), xs a list that stands in a slot -/
section
open PySem PySem.Spec PyProof.Rows
theorem dedupV_nodup : ∀ (l acc : List Int), acc.Nodup → (l.foldl step_dedup acc).Nodup
  | [], _, h => h
  | x :: l, acc, h => dedupV_nodup l _ (by
    unfold step_dedup
    split
    · exact h
    · rename_i hx
      refine List.nodup_append.mpr ⟨h, by simp, fun a ha b hb e => ?_⟩
      rw [List.mem_singleton] at hb
      subst hb e
      exact hx (by simpa using ha))
theorem firstMetV_nd (val : Nat → Int) (i : Nat) : (firstMet val i).Nodup := dedupV_nodup _ _ List.nodup_nil
theorem firstMetV_mem (val : Nat → Int) (i : Nat) (k : Int) : k ∈ firstMet val i ↔ k ∈ (List.range i).map val := by
  have := firstMet_any val i k
  have h1 : ∀ l : List Int, (l.any (· == k)) = true ↔ k ∈ l := fun l => by simp
  rw [← h1, this, h1]
variable {X : Cx} {a : Expr} {ta : TEP} {p p2 q pos : Pos}
def tLenSetV (K : PySem.W.Frag) (ta : TE) : TE := fun σ H Q => ta σ H fun x H1 => ∃ (l : Addr) (ns : List Int), x = V.ref l ∧ SqL K H1 l (ns.map V.int) ∧ ns.length ≤ 4000 ∧ ∀ ks : List Int, ks.Nodup → (∀ k, k ∈ ks ↔ k ∈ ns) → Q (.int (ks.length : Nat)) H1
theorem pe_lenSetV {ta : TE} (hc : X.calm = true) (hg : Gl X "len") (hm : X.mg "len" = none) (hg2 : Gl X "set") (hm2 : X.mg "set" = none) (ha : PE X a ta)
    (na : starEach [a] X.env = (false, eval a X.env) :: starEach [] X.env := by rfl) : PE X (.Call (.Name "len" p) [.Call (.Name "set" p2) [a] [] q] [] pos) (tLenSetV X.K ta) := by
  refine ⟨fun pins s σ H Q I h => ?_⟩
  refine Call_ (ld_blt I hg hm PySem.boot_len ?_)
  refine PyProof.Rows.callWith_builtin1 (PyProof.Rows.args_cons ?_ rfl) rfl rfl
  refine Call_ (ld_blt I hg2 hm2 PyProof.Rows.boot_set ?_)
  refine PyProof.Rows.callWith_type1 (PyProof.Rows.args_cons (thn (ha.run pins s σ H _ I h) fun v s1 ⟨x, H1, I1, r1, q1⟩ => PyProof.Rows.args_nil ?_) na) na rfl
  obtain ⟨l, ns, rfl, hq, h1, q1⟩ := q1
  cases r1
  obtain ⟨its, r, pl, hz⟩ := I1.list hq
  have hl : its.toArray.size = ns.length := by rw [List.size_toArray, ← r.length, List.length_map]
  refine call_set_list (I1.ok.hd hc) pl.isList (ns := ns) (by simpa using intsAre_of r) (by unfold scanBound; omega) fun h' tk hS hk => ?_
  refine PyProof.Rows.args_nil ?_
  have hle := firstMet_length_le (fun i => ns.getD i 0) its.toArray.size
  obtain ⟨o, es, ep, t, ho, hex, hd, _, _, _, hf, hn⟩ := hS
  have I2 : Inv X pins σ H1 { s1 with heap := h', toks := tk } := I1.kept fun b o e => hk b o (Heap.lt_size e) e
  have q2 := q1 _ (firstMetV_nd (fun i => ns.getD i 0) its.toArray.size) fun k => by
    rw [firstMetV_mem, hl]
    have e : (List.range ns.length).map (fun i => ns.getD i 0) = ns := by
      refine List.ext_getElem? fun i => ?_
      rw [List.getElem?_map]
      by_cases hi : i < ns.length
      · rw [List.getElem?_range hi, List.getElem?_eq_getElem hi]
        show some (ns.getD i 0) = _
        rw [List.getD_eq_getElem?_getD, List.getElem?_eq_getElem hi]; rfl
      · rw [List.getElem?_eq_none (by simpa using hi), List.getElem?_eq_none (by omega)]; rfl
    rw [e]
  exact call_len_set ho hex hd hf (by have := hl; omega) ⟨.int _, H1, I2.tok _, ⟨_, by rw [hn]⟩, q2⟩
def eLenSetV (te : TEP) : TEP := fun ds Q => te ds fun x ds1 => ∃ (c : Addr) (ns : List Int), See ds1 x (.lst c (ns.map .int)) ∧ ns.length ≤ 4000 ∧ ∀ ks : List Int, ks.Nodup → (∀ k, k ∈ ks ↔ k ∈ ns) → Q (.dat (.int (ks.length : Nat))) ds1
theorem d_lenSetV (hc : X.calm = true) (hg : Gl X "len") (hm : X.mg "len" = none) (hg2 : Gl X "set") (hm2 : X.mg "set" = none) (ha : PEd X a ta)
    (na : starEach [a] X.env = (false, eval a X.env) :: starEach [] X.env := by rfl) : PEd X (.Call (.Name "len" p) [.Call (.Name "set" p2) [a] [] q] [] pos) (eLenSetV ta) :=
  pe_imp (pe_lenSetV hc hg hm hg2 hm2 ha na) fun σ H Q ⟨H0, f0, ds, vs, es, Qd, C, q, k⟩ => ⟨H0, f0, ds, vs, es, _, C, q, fun v x H1 ds1 C1 ⟨c, ns, st, hn, q1⟩ => by
    obtain ⟨ev, zs, h1, h2⟩ := st.rep C1 C1.top
    subst ev
    have := h2.ints
    subst this
    exact ⟨c, ns, rfl, SqL.of h1, hn, fun ks k1 k2 => k _ _ _ _ (C1.pop.push (d := .dat (.int _)) rfl fun _ => rfl) (q1 ks k1 k2)⟩⟩
end
/-! ### a new list, as data (as in PhX) -/
def tLockL (td : TE) : TE := fun σ H Q => td σ H fun x H1 => ∃ d vs, x = .ref d ∧ H1 d = some (.lst vs) ∧ ∀ o, Q x (upd H1 d (.frz o (.lst vs)))
theorem pe_lockL {X : Cx} {e : Expr} {td : TE} (he : PE X e td) : PE X e (tLockL td) := by
  refine ⟨fun pins s σ H Q I h => thn (he.run pins s σ H _ I h) fun u s1 ⟨x, H1, I1, rx, d, vs, ex, hd, q⟩ => ?_⟩
  obtain ⟨od, I2⟩ := I1.lock hd True.intro
  exact ⟨x, _, I2, rx, q od⟩
section
variable {K : KW} {H0 H H' : Hp} {f0 : Addr → Prop} {σ : St} {ds : PSt} {vs : List V} {es : List D}
theorem Cfg.freezeL {a : Addr} {xs : List PyData} (C : Cfg K H0 f0 H σ ds (.ref a :: vs) (.lst a xs :: es)) {ws : List V} {o : Obj} (h : H a = some (.lst ws)) (r : RepPs K H xs ws) :
    Cfg K H0 f0 (upd H a (.frz o (.lst ws))) σ ds (.ref a :: vs) (.dat (.list xs) :: es) := by
  have hm : ∀ u, H a = some u → ¬ Imm u := fun u hu => by rw [h] at hu; cases hu; exact id
  have nd : ∀ b, cS b ds + (one b a + cDs b es) ≤ 1 := C.nd
  have oth : ∀ b u, cS b ds + cDs b es ≥ 1 → H b = some u → upd H a (.frz o (.lst ws)) b = some u := fun b u h1 h2 => by
    rw [upd_ne]
    · exact h2
    · rintro rfl
      have := nd b; rw [one_same] at this; omega
  refine ⟨RepS.keep (keep_upd hm) _ _ (fun b u h1 h2 => oth b u (by omega) h2) C.sl, ⟨.ref a, vs, rfl, ⟨a, ws, rfl, .inl ⟨o, upd_same⟩, RepPs.keep (keep_upd hm) _ _ r⟩, RepDs.keep (keep_upd hm) _ _ (fun b u h1 h2 => oth b u (by omega) h2) C.pop.tm⟩, fun b => ?_, fun b hb => ?_, fun b u h1 h2 => ?_⟩
  · have := nd b
    show cS b ds + (0 + cDs b es) ≤ 1
    omega
  · have hb : 1 ≤ cS b ds + (0 + cDs b es) := hb
    exact C.fr b (by show 1 ≤ cS b ds + (one b a + cDs b es); omega)
  · have h3 := C.kp b u h1 h2
    rw [upd_ne]
    · exact h3
    · rintro rfl
      rcases C.fr b (by show 1 ≤ cS b ds + (one b b + cDs b es); rw [one_same]; omega) with z | z
      · exact h1 z
      · rw [z] at h2; cases h2
end
section
variable {X : Cx} {K : KW} {o e : Expr} {l : List Expr} {to te : TEP} {t : TAP} {pos : Pos}
/-- a new list, as data -/
def eFrz (te : TEP) : TEP := fun ds Q => te ds fun x ds1 => ∃ a xs, x = .lst a xs ∧ Q (.dat (.list xs)) ds1
theorem d_frz (he : PEd X e te) : PEd X e (eFrz te) :=
  pe_imp (pe_lockL he) fun σ H Q ⟨H0, f0, ds, vs, es, Qd, C, q, k⟩ => ⟨H0, f0, ds, vs, es, _, C, q, fun v d H1 ds1 C1 ⟨a, xs, ed, q1⟩ => by
    subst ed
    obtain ⟨ev, ws, h1, h2⟩ := C1.top
    subst ev
    exact ⟨a, ws, rfl, h1, fun o => k _ _ _ _ (C1.freezeL h1 h2) q1⟩⟩
end
end PD
set_option Elab.async false
set_option linter.all false
set_option maxRecDepth 100000
set_option maxHeartbeats 2000000
/-! texts of turnings: how they are cut and read back (k02) -/
namespace PD
open PySem L2
open PM
/-! ### the signs -/
def dec (x : Nat) : Str := str1 (x : Int)
theorem tl_dec (x : Nat) : TL.tl (dec x) = TL.numL x := TL.tl_num x
theorem dec_inj {x y : Nat} (h : dec x = dec y) : x = y := TL.numL_inj (by rw [← tl_dec, ← tl_dec, h])
theorem dec_free {x s : Nat} (h : s < 48 ∨ 57 < s) : s ∉ TL.tl (dec x) := by rw [tl_dec]; exact TL.numL_free h
theorem dec_len {x : Nat} (h : x < 100) : (dec x).length ≤ 2 := by rw [TL.len_tl, tl_dec]; exact TL.numL_len (by decide) h
theorem tl_open : TL.tl ("(" : Str) = [40] := by decide +kernel
theorem tl_close : TL.tl (")" : Str) = [41] := by decide +kernel
theorem tl_mid : TL.tl (")(" : Str) = [41, 40] := by decide +kernel
theorem tl_bl : TL.tl (" " : Str) = [32] := by decide +kernel
theorem tl_non : TL.tl ("" : Str) = [] := by decide +kernel
theorem tl_two : TL.tl ("()" : Str) = [40, 41] := by decide +kernel
theorem len_open : ("(" : Str).length = 1 := by decide +kernel
theorem len_close : (")" : Str).length = 1 := by decide +kernel
theorem len_mid : (")(" : Str).length = 2 := by decide +kernel
theorem len_bl : (" " : Str).length = 1 := by decide +kernel
theorem len_non : ("" : Str).length = 0 := by decide +kernel
theorem len_two : ("()" : Str).length = 2 := by decide +kernel
theorem len_app (x y : Str) : (x ++ y).length = x.length + y.length := by rw [TL.len_tl, TL.tl_append, List.length_append, ← TL.len_tl, ← TL.len_tl]
/-- in brackets -/
def brk (s : Str) : Str := ("(" : Str) ++ s ++ (")" : Str)
theorem tl_brk (s : Str) : TL.tl (brk s) = 40 :: (TL.tl s ++ [41]) := by unfold brk; rw [TL.tl_append, TL.tl_append, tl_open, tl_close]; rfl
theorem len_brk (s : Str) : (brk s).length = s.length + 2 := by unfold brk; rw [len_app, len_app, len_open, len_close]; omega
def inner (one : List Nat) : Str := Txt.join (" " : Str) (one.map dec)
def big (p : List Nat) : List (List Nat) := (lotsP p).filter fun one => decide (1 < one.length)
def txt (p : List Nat) : Str := if big p = [] then ("()" : Str) else Txt.join ("" : Str) ((big p).map fun one => brk (inner one))
theorem joinL_non : ∀ l : List (List Nat), TL.joinL [] l = l.flatten
  | [] => rfl
  | [p] => by simp [TL.joinL]
  | p :: q :: r => by
    show p ++ ([] ++ TL.joinL [] (q :: r)) = _
    rw [joinL_non (q :: r)]; simp
theorem tl_joinT (y : Str) (l : List Str) : TL.tl (Txt.join y l) = TL.joinL (TL.tl y) (l.map TL.tl) := by rw [TL.join_eq, TL.tl_join]
theorem brk_join : ∀ {l : List (List Nat)}, l ≠ [] → (l.map fun x => 40 :: (x ++ [41])).flatten = 40 :: (TL.joinL [41, 40] l ++ [41])
  | [], h => absurd rfl h
  | [p], _ => by simp [TL.joinL]
  | p :: q :: r, _ => by
    rw [List.map_cons, List.flatten_cons, brk_join (l := q :: r) (by simp)]
    show 40 :: (p ++ [41]) ++ 40 :: (TL.joinL [41, 40] (q :: r) ++ [41]) = 40 :: ((p ++ ([41, 40] ++ TL.joinL [41, 40] (q :: r))) ++ [41])
    simp
theorem txt_big {p : List Nat} (h : big p ≠ []) : txt p = brk (Txt.join (")(" : Str) ((big p).map inner)) := by
  refine TL.ext_tl ?_
  unfold txt
  rw [if_neg h, tl_joinT, tl_non, joinL_non, tl_brk, tl_joinT, tl_mid, List.map_map, List.map_map, ← brk_join (by simpa using h), List.map_map]
  congr 1
  exact List.map_congr_left fun one _ => by show TL.tl (brk (inner one)) = _; rw [tl_brk]; rfl
theorem txt_two {p : List Nat} (h : big p = []) : txt p = ("()" : Str) := by unfold txt; rw [if_pos h]
theorem two_brk : ("()" : Str) = brk ("" : Str) := TL.ext_tl (by rw [tl_two, tl_brk, tl_non]; rfl)
theorem txt_brk (p : List Nat) : ∃ s, txt p = brk s := by
  by_cases h : big p = []
  · exact ⟨_, (txt_two h).trans two_brk⟩
  · exact ⟨_, txt_big h⟩
/-! ### tests and cuts -/
theorem starts_brk (s : Str) : Txt.startswith (brk s) ("(" : Str) = true := by
  unfold Txt.startswith
  have h1 : PySem.Builtin.Str.subAt (brk s) ("(" : Str) 0 = true := by
    rw [PySem.StrLaws.subAt_eq, len_open]
    show ((TL.tl (brk s)).drop 0).take 1 == TL.tl ("(" : Str)
    rw [tl_brk, tl_open]; rfl
  have h2 : 0 + ("(" : Str).length ≤ (brk s).length := by rw [len_open, len_brk]; omega
  rw [h1, decide_eq_true h2]; rfl
theorem ends_brk (s : Str) : Txt.endswith (brk s) (")" : Str) = true := by
  unfold Txt.endswith
  have h1 : PySem.Builtin.Str.subAt (brk s) (")" : Str) ((brk s).length - (")" : Str).length) = true := by
    rw [PySem.StrLaws.subAt_eq, len_close, len_brk]
    show ((TL.tl (brk s)).drop (s.length + 2 - 1)).take 1 == TL.tl (")" : Str)
    rw [tl_brk, tl_close, show s.length + 2 - 1 = (TL.tl s).length + 1 by rw [← TL.len_tl]; omega, List.drop_succ_cons, List.drop_left]; rfl
  have h2 : 0 + (")" : Str).length ≤ (brk s).length := by rw [len_close, len_brk]; omega
  rw [h1, decide_eq_true h2]; rfl
theorem six_none (n d : Nat) : HT.sIx n d none = d := rfl
theorem cut_mid (s : Str) : cutS (brk s) (some 1) (some (-1)) = s := by
  refine TL.ext_tl ?_
  have h1 : HT.sIx (brk s).length 0 (some 1) = 1 := by
    show (if (1 : Int) < 0 then ((1 : Int) + ((brk s).length : Nat)).toNat else min (1 : Int).toNat (brk s).length) = 1
    rw [if_neg (by decide), len_brk]
    show min 1 (s.length + 2) = 1
    omega
  have h2 : HT.sIx (brk s).length (brk s).length (some (-1)) = s.length + 1 := by
    show (if (-1 : Int) < 0 then (-1 + ((brk s).length : Int)).toNat else min (-1 : Int).toNat (brk s).length) = s.length + 1
    rw [if_pos (by decide), len_brk]; omega
  unfold cutS
  rw [h1, h2]
  show ((TL.tl (brk s)).drop 1).take (s.length + 1 - 1) = _
  rw [tl_brk, List.drop_succ_cons, List.drop_zero, show s.length + 1 - 1 = (TL.tl s).length by rw [← TL.len_tl]; omega, List.take_left]
theorem cut_head (s : Str) : cutS (brk s) none (some 1) = ("(" : Str) := by
  refine TL.ext_tl ?_
  have h2 : HT.sIx (brk s).length (brk s).length (some 1) = 1 := by
    show (if (1 : Int) < 0 then ((1 : Int) + ((brk s).length : Nat)).toNat else min (1 : Int).toNat (brk s).length) = 1
    rw [if_neg (by decide), len_brk]
    show min 1 (s.length + 2) = 1
    omega
  unfold cutS
  rw [h2, six_none]
  show ((TL.tl (brk s)).drop 0).take (1 - 0) = _
  rw [tl_brk, tl_open]; rfl
theorem cut_last (s : Str) : cutS (brk s) (some (-1)) none = (")" : Str) := by
  refine TL.ext_tl ?_
  have h2 : HT.sIx (brk s).length 0 (some (-1)) = s.length + 1 := by
    show (if (-1 : Int) < 0 then (-1 + ((brk s).length : Int)).toNat else min (-1 : Int).toNat (brk s).length) = s.length + 1
    rw [if_pos (by decide), len_brk]; omega
  unfold cutS
  rw [h2, six_none, len_brk]
  show ((TL.tl (brk s)).drop (s.length + 1)).take (s.length + 2 - (s.length + 1)) = _
  rw [tl_brk, tl_close, List.drop_succ_cons, show s.length = (TL.tl s).length from TL.len_tl s, List.drop_left, show (TL.tl s).length + 2 - ((TL.tl s).length + 1) = 1 by omega]; rfl
/-! ### the parts and the words -/
theorem join_free {s : Nat} {y : Str} (hy : s ∉ TL.tl y) : ∀ {l : List Str}, (∀ x ∈ l, s ∉ TL.tl x) → s ∉ TL.tl (Txt.join y l) := by
  intro l
  rw [tl_joinT]
  induction l with
  | nil => intro _ h; cases h
  | cons a r ih =>
    intro h
    cases r with
    | nil => exact h a List.mem_cons_self
    | cons b r =>
      show s ∉ TL.tl a ++ (TL.tl y ++ TL.joinL (TL.tl y) ((b :: r).map TL.tl))
      intro hm
      rcases List.mem_append.mp hm with hm | hm
      · exact h a List.mem_cons_self hm
      · rcases List.mem_append.mp hm with hm | hm
        · exact hy hm
        · exact ih (fun x hx => h x (List.mem_cons_of_mem _ hx)) hm
theorem inner_free {one : List Nat} {s : Nat} (h : s = 40 ∨ s = 41) : s ∉ TL.tl (inner one) :=
  join_free (by rw [tl_bl]; simp; omega) fun x hx => by
    obtain ⟨y, _, rfl⟩ := List.mem_map.mp hx
    exact dec_free (by omega)
theorem split_parts {Ls : List (List Nat)} (h : Ls ≠ []) : Txt.split (Txt.join (")(" : Str) (Ls.map inner)) (")(" : Str) = Ls.map inner :=
  TL.split_join (s := 41) (S := [40]) tl_mid (by decide +kernel) (by simpa using h) fun p hp => by
    obtain ⟨one, _, rfl⟩ := List.mem_map.mp hp
    exact inner_free (.inr rfl)
theorem split_words {one : List Nat} (h : one ≠ []) : Txt.split (inner one) (" " : Str) = one.map dec :=
  TL.split_join (s := 32) (S := []) tl_bl (by decide +kernel) (by simpa using h) fun p hp => by
    obtain ⟨x, _, rfl⟩ := List.mem_map.mp hp
    exact dec_free (by omega)
/-! ### lengths -/
theorem joinL_len (S : List Nat) : ∀ l : List (List Nat), l ≠ [] → (TL.joinL S l).length + S.length = (l.map List.length).sum + l.length * S.length
  | [], h => absurd rfl h
  | [p], _ => by simp [TL.joinL]
  | p :: q :: r, _ => by
    have ih := joinL_len S (q :: r) (by simp)
    show (p ++ (S ++ TL.joinL S (q :: r))).length + S.length = _
    rw [List.length_append, List.length_append, List.map_cons, List.sum_cons, List.length_cons (a := p), Nat.succ_mul]
    omega
theorem join_len (y : Str) {l : List Str} (h : l ≠ []) : (Txt.join y l).length + y.length = (l.map (·.length)).sum + l.length * y.length := by
  have e := joinL_len (TL.tl y) (l.map TL.tl) (by simpa using h)
  rw [← tl_joinT, ← TL.len_tl, ← TL.len_tl, List.map_map, List.length_map] at e
  rw [e]
  congr 2
theorem join_nil (y : Str) : Txt.join y [] = ("" : Str) := TL.ext_tl (by rw [tl_joinT, tl_non]; rfl)
theorem split_back (x y : Str) : Txt.join y (Txt.split x y) = x := by rw [TL.join_eq]; exact PySem.StrLaws.join_split x y
theorem split_ne (x : Str) {y : Str} (hy : y.length ≠ 0) (hk : y.cps.all (· < 256) = true) : Txt.split x y ≠ [] := fun e => by
  have := TL.split_spl x y (fun z => hy (by rw [TL.len_tl, z]; rfl)) (TL.kind_ok hk)
  rw [e, List.map_nil] at this
  have ne : ∀ (S : List Nat) (k : Nat) (acc l : List Nat), TL.spl S k acc l ≠ [] := by
    intro S k acc l
    induction l generalizing k acc with
    | nil => rw [TL.spl_nil]; simp
    | cons c r ih =>
      cases k with
      | succ k => exact ih k acc
      | zero =>
        show (if TL.pre S (c :: r) = true then acc :: TL.spl S (S.length - 1) [] r else TL.spl S 0 (acc ++ [c]) r) ≠ []
        split
        · simp
        · exact ih _ _
  exact ne _ _ _ _ this.symm
theorem sum_le {l : List Nat} {k : Nat} (h : ∀ x ∈ l, x ≤ k) : l.sum ≤ l.length * k := by
  induction l with
  | nil => simp
  | cons a r ih =>
    have := h a List.mem_cons_self
    have := ih fun x hx => h x (List.mem_cons_of_mem _ hx)
    rw [List.sum_cons, List.length_cons, Nat.succ_mul]; omega
theorem mem_sum {l : List Nat} {x : Nat} (h : x ∈ l) : x ≤ l.sum := by
  induction l with
  | nil => cases h
  | cons a r ih =>
    rw [List.sum_cons]
    rcases List.mem_cons.mp h with rfl | h
    · omega
    · have := ih h; omega
theorem split_bound {x y : Str} (hy : y.length ≠ 0) (hk : y.cps.all (· < 256) = true) : ((Txt.split x y).map (·.length)).sum ≤ x.length ∧ (Txt.split x y).length ≤ x.length + 1 ∧ (∀ z ∈ Txt.split x y, z.length ≤ x.length) := by
  have e := join_len y (split_ne x hy hk)
  rw [split_back] at e
  have h1 : ((Txt.split x y).map (·.length)).sum ≤ x.length ∧ (Txt.split x y).length ≤ x.length + 1 := by
    have hp : 0 < (Txt.split x y).length := List.length_pos_iff.mpr (split_ne x hy hk)
    obtain ⟨m, hm⟩ : ∃ m, (Txt.split x y).length = m + 1 := ⟨_, (Nat.succ_pred_eq_of_pos hp).symm⟩
    rw [hm, Nat.succ_mul] at e
    rw [hm]
    have : m ≤ m * y.length := Nat.le_mul_of_pos_right _ (by omega)
    omega
  exact ⟨h1.1, h1.2, fun z hz => Nat.le_trans (mem_sum (List.mem_map.mpr ⟨z, hz, rfl⟩)) h1.1⟩
theorem ok_mid : (")(" : Str).length ≠ 0 ∧ (")(" : Str).cps.all (· < 256) = true := ⟨by decide +kernel, by decide +kernel⟩
theorem ok_bl : (" " : Str).length ≠ 0 ∧ (" " : Str).cps.all (· < 256) = true := ⟨by decide +kernel, by decide +kernel⟩
theorem inner_len {one : List Nat} (h : ∀ x ∈ one, x < 100) : (inner one).length ≤ one.length * 3 := by
  by_cases h0 : one = []
  · subst h0; unfold inner; rw [List.map_nil, join_nil, len_non]; omega
  · have e := join_len (" " : Str) (l := one.map dec) (by simpa using h0)
    rw [len_bl, List.map_map, List.length_map] at e
    have := sum_le (l := one.map ((·.length) ∘ dec)) (k := 2) fun x hx => by
      obtain ⟨y, hy, rfl⟩ := List.mem_map.mp hx
      exact dec_len (h y hy)
    rw [List.length_map] at this
    show (Txt.join (" " : Str) (one.map dec)).length ≤ _
    omega
theorem mem_big {p one : List Nat} (h : one ∈ big p) : one ∈ lotsP p ∧ 1 < one.length := by
  have := List.mem_filter.mp h
  exact ⟨this.1, of_decide_eq_true this.2⟩
theorem mem_lotsP {p one : List Nat} (h : one ∈ lotsP p) : ∃ x, x < p.length ∧ least p.length (ap p) x = true ∧ one = cyc p.length (ap p) x := by
  unfold lotsP PM.lots at h
  obtain ⟨x, hx, e⟩ := List.mem_map.mp h
  obtain ⟨h1, h2⟩ := mem_heads.mp hx
  exact ⟨x, h1, h2, e.symm⟩
theorem lotsP_len (p : List Nat) : (lotsP p).length ≤ p.length := by
  unfold lotsP PM.lots heads
  rw [List.length_map]
  exact Nat.le_trans (List.length_filter_le _ _) (by rw [List.length_range]; exact Nat.le_refl _)
theorem big_len (p : List Nat) : (big p).length ≤ p.length := Nat.le_trans (List.length_filter_le _ _) (lotsP_len p)
theorem lot_ok {p one : List Nat} (hp : IsP p) (h : one ∈ lotsP p) : one.Nodup ∧ (∀ y ∈ one, y < p.length) ∧ one.length ≤ p.length ∧ one ≠ [] := by
  obtain ⟨x, hx, _, rfl⟩ := mem_lotsP h
  have T := hp.trn
  exact ⟨T.cyc_nodup hx, fun y hy => T.cyc_lt hx hy, php _ _ (T.cyc_nodup hx) fun y hy => T.cyc_lt hx hy, fun e => by
    have := T.self_cyc hx
    rw [e] at this; cases this⟩
theorem txt_len {p : List Nat} (hp : IsP p) (hl : p.length ≤ 24) : (txt p).length ≤ 2000 := by
  unfold txt
  split
  · rw [len_two]; omega
  · rename_i h
    have e := join_len ("" : Str) (l := (big p).map fun one => brk (inner one)) (by simpa using h)
    rw [len_non, Nat.mul_zero, List.map_map] at e
    have := sum_le (l := (big p).map ((·.length) ∘ fun one => brk (inner one))) (k := 74) fun x hx => by
      obtain ⟨one, ho, rfl⟩ := List.mem_map.mp hx
      obtain ⟨h1, h2, h3, _⟩ := lot_ok hp (mem_big ho).1
      show (brk (inner one)).length ≤ 74
      rw [len_brk]
      have := inner_len (one := one) fun y hy => by have := h2 y hy; omega
      omega
    rw [List.length_map] at this
    have := big_len p
    have : (big p).length * 74 ≤ 24 * 74 := Nat.mul_le_mul_right _ (by omega)
    omega
theorem txt_len' {p : List Nat} (hp : IsP p) (hl : p.length ≤ 24) : (txt p).length ≤ 1776 := by
  unfold txt
  split
  · rw [len_two]; omega
  · rename_i h
    have e := join_len ("" : Str) (l := (big p).map fun one => brk (inner one)) (by simpa using h)
    rw [len_non, Nat.mul_zero, List.map_map] at e
    have := sum_le (l := (big p).map ((·.length) ∘ fun one => brk (inner one))) (k := 74) fun x hx => by
      obtain ⟨one, ho, rfl⟩ := List.mem_map.mp hx
      obtain ⟨h1, h2, h3, _⟩ := lot_ok hp (mem_big ho).1
      show (brk (inner one)).length ≤ 74
      rw [len_brk]
      have := inner_len (one := one) fun y hy => by have := h2 y hy; omega
      omega
    rw [List.length_map] at this
    have := big_len p
    have : (big p).length * 74 ≤ 24 * 74 := Nat.mul_le_mul_right _ (by omega)
    omega
/-! ### rounds written into a list -/
def stepR (one o : List Nat) (k : Nat) : List Nat := o.set (ap one k) (ap one ((k + 1) % one.length))
def setR (out one : List Nat) : List Nat := (List.range one.length).foldl (stepR one) out
def nxt (one : List Nat) (x : Nat) : Nat := ap one ((one.idxOf x + 1) % one.length)
theorem foldR_len (one : List Nat) : ∀ (l : List Nat) (out : List Nat), (l.foldl (stepR one) out).length = out.length
  | [], _ => rfl
  | k :: l, out => by rw [List.foldl_cons, foldR_len one l]; exact List.length_set
theorem setR_len (out one : List Nat) : (setR out one).length = out.length := foldR_len _ _ _
theorem foldR_lt {one : List Nat} {n : Nat} (h0 : one ≠ []) (h1 : ∀ y ∈ one, y < n) : ∀ (l : List Nat) (out : List Nat), (∀ y ∈ out, y < n) → ∀ y ∈ l.foldl (stepR one) out, y < n
  | [], _, h => h
  | k :: l, out, h => foldR_lt h0 h1 l _ fun y hy => by
    rcases List.mem_or_eq_of_mem_set hy with hy | rfl
    · exact h y hy
    · exact h1 _ (ap_mem (Nat.mod_lt _ (List.length_pos_iff.mpr h0)))
theorem ap_set {o : List Nat} {a b x : Nat} (ha : a < o.length) : ap (o.set a b) x = if x = a then b else ap o x := by
  unfold ap
  rw [List.getD_eq_getElem?_getD, List.getD_eq_getElem?_getD]
  by_cases h : x = a
  · subst h; rw [if_pos rfl, List.getElem?_set_self ha]; rfl
  · rw [if_neg h, List.getElem?_set_ne fun e => h e.symm]
theorem idx_ap {one : List Nat} (hn : one.Nodup) {m : Nat} (hm : m < one.length) : one.idxOf (ap one m) = m := by
  have hx := List.idxOf_lt_length_of_mem (ap_mem hm)
  have e : one[one.idxOf (ap one m)]? = some (ap one m) := by
    rw [List.getElem?_eq_getElem hx, List.getElem_idxOf]
  exact (List.getElem?_inj hx hn).mp (e.trans (ap_get hm).symm)
theorem ap_setR {out one : List Nat} (hn : one.Nodup) (hb : ∀ y ∈ one, y < out.length) (x : Nat) : ap (setR out one) x = if x ∈ one then nxt one x else ap out x := by
  have key : ∀ m, m ≤ one.length → ap ((List.range m).foldl (stepR one) out) x = if x ∈ one.take m then nxt one x else ap out x := by
    intro m
    induction m with
    | zero => intro _; simp
    | succ m ih =>
      intro hm
      have hlt : m < one.length := by omega
      rw [List.range_succ, List.foldl_append, List.foldl_cons, List.foldl_nil]
      show ap (List.set _ (ap one m) (ap one ((m + 1) % one.length))) x = _
      have hin := ap_mem hlt
      rw [ap_set (by rw [foldR_len]; exact hb _ hin), ih (by omega)]
      have ht : one.take (m + 1) = one.take m ++ [ap one m] := by
        rw [List.take_succ, ap_get hlt]; rfl
      by_cases hx : x = ap one m
      · rw [if_pos hx, if_pos (by rw [ht]; simp [hx])]
        subst hx
        unfold nxt
        rw [idx_ap hn hlt]
      · rw [if_neg hx, ht]
        have : x ∈ one.take m ++ [ap one m] ↔ x ∈ one.take m := by simp [hx]
        simp only [this]
  have := key one.length (Nat.le_refl _)
  rw [List.take_length] at this
  exact this
theorem mem_ap {one : List Nat} {x : Nat} (h : x ∈ one) : ∃ i, i < one.length ∧ ap one i = x := by
  have hx := List.idxOf_lt_length_of_mem h
  refine ⟨_, hx, ?_⟩
  have := ap_get hx
  rw [List.getElem?_eq_getElem hx, List.getElem_idxOf] at this
  exact (Option.some.inj this).symm
theorem nxt_mem {one : List Nat} {x : Nat} (h : x ∈ one) : nxt one x ∈ one := ap_mem (Nat.mod_lt _ (List.length_pos_iff.mpr fun e => by subst e; cases h))
theorem nxt_inj {one : List Nat} (hn : one.Nodup) {x y : Nat} (hx : x ∈ one) (hy : y ∈ one) (e : nxt one x = nxt one y) : x = y := by
  obtain ⟨i, hi, rfl⟩ := mem_ap hx
  obtain ⟨j, hj, rfl⟩ := mem_ap hy
  unfold nxt at e
  rw [idx_ap hn hi, idx_ap hn hj] at e
  have hp : 0 < one.length := by omega
  have h1 := Nat.mod_lt (i + 1) hp
  have h2 := Nat.mod_lt (j + 1) hp
  have e2 : (i + 1) % one.length = (j + 1) % one.length := by
    have a := ap_get h1
    have b := ap_get h2
    rw [← e] at b
    exact (List.getElem?_inj h1 hn).mp (a.trans b.symm)
  have mo : ∀ k, k < one.length → (k + 1) % one.length = if k + 1 = one.length then 0 else k + 1 := fun k hk => by
    split
    · rename_i h; rw [h, Nat.mod_self]
    · rw [Nat.mod_eq_of_lt (by omega)]
  rw [mo i hi, mo j hj] at e2
  have : i = j := by
    split at e2 <;> split at e2 <;> omega
  rw [this]
theorem setR_ok {out one : List Nat} (ho : IsP out) (hn : one.Nodup) (hb : ∀ y ∈ one, y < out.length) (hf : ∀ y ∈ one, ap out y = y) : IsP (setR out one) := by
  refine isP_of out.length (setR_len _ _) (fun x hx => ?_) fun x y hx hy e => ?_
  · rw [ap_setR hn hb]
    split
    · rename_i h; exact hb _ (nxt_mem h)
    · exact ho.ap_lt hx
  · rw [ap_setR hn hb, ap_setR hn hb] at e
    split at e <;> split at e
    · rename_i h1 h2; exact nxt_inj hn h1 h2 e
    · rename_i h1 h2
      have h3 := nxt_mem h1
      have h4 := hf _ h3
      rw [e] at h3 h4
      have := ho.inj (hb _ h3) hy h4
      rw [this] at h3
      exact absurd h3 h2
    · rename_i h1 h2
      have h3 := nxt_mem h2
      have h4 := hf _ h3
      rw [← e] at h3 h4
      have := ho.inj (hb _ h3) hx h4
      rw [this] at h3
      exact absurd h3 h1
    · exact ho.inj hx hy e
theorem nxt_cyc {n : Nat} {f : Nat → Nat} (T : Trn n f) {h : Nat} (hh : h < n) {x : Nat} (hx : x ∈ cyc n f h) : nxt (cyc n f h) x = f x := by
  have hn := T.cyc_nodup hh
  obtain ⟨i, hi, rfl⟩ := mem_ap hx
  unfold nxt
  rw [idx_ap hn hi]
  have hL : (cyc n f h).length = per n f h := cyc_len h
  have gi : ∀ k, k < per n f h → ap (cyc n f h) k = it f k h := fun k hk => by
    have := cyc_get (n := n) (f := f) (x := h) hk
    rw [ap_get (by rw [hL]; exact hk)] at this
    exact Option.some.inj this
  have hi' : i < per n f h := by omega
  rw [gi i hi', hL]
  by_cases he : i + 1 = per n f h
  · rw [he, Nat.mod_self, gi 0 per_pos]
    have := (T.per_spec hh).1
    rw [← he] at this
    exact this.symm
  · rw [Nat.mod_eq_of_lt (by omega), gi (i + 1) (by omega)]; rfl
theorem foldR {p : List Nat} : ∀ {Ls : List (List Nat)} {out : List Nat}, (∀ one ∈ Ls, one.Nodup ∧ (∀ y ∈ one, y < out.length) ∧ ∀ x ∈ one, nxt one x = ap p x) → ∀ x, ap (Ls.foldl setR out) x = if x ∈ Ls.flatten then ap p x else ap out x
  | [], _, _, x => by simp
  | one :: Ls, out, h, x => by
    obtain ⟨h1, h2, h3⟩ := h one List.mem_cons_self
    rw [List.foldl_cons, foldR (Ls := Ls) (out := setR out one) (fun o ho => by rw [setR_len]; exact h o (List.mem_cons_of_mem _ ho)) x, ap_setR h1 h2, List.flatten_cons]
    by_cases hx : x ∈ Ls.flatten
    · rw [if_pos hx, if_pos (List.mem_append_right _ hx)]
    · rw [if_neg hx]
      by_cases hx1 : x ∈ one
      · rw [if_pos hx1, if_pos (List.mem_append_left _ hx1), h3 x hx1]
      · rw [if_neg hx1, if_neg fun hm => (List.mem_append.mp hm).elim hx1 hx]
theorem foldS_len : ∀ (Ls : List (List Nat)) (out : List Nat), (Ls.foldl setR out).length = out.length
  | [], _ => rfl
  | one :: Ls, out => by rw [List.foldl_cons, foldS_len Ls, setR_len]
theorem big_ok {p one : List Nat} (hp : IsP p) (h : one ∈ big p) : one.Nodup ∧ (∀ y ∈ one, y < p.length) ∧ ∀ x ∈ one, nxt one x = ap p x := by
  obtain ⟨h1, h2, _⟩ := lot_ok hp (mem_big h).1
  obtain ⟨x, hx, _, rfl⟩ := mem_lotsP (mem_big h).1
  exact ⟨h1, h2, fun y hy => nxt_cyc hp.trn hx hy⟩
theorem ap_range {n x : Nat} (h : x < n) : ap (List.range n) x = x := by
  have := ap_get (p := List.range n) (x := x) (by simpa using h)
  rw [List.getElem?_range h] at this
  exact (Option.some.inj this).symm
theorem read_back {p : List Nat} (hp : IsP p) : (big p).foldl setR (List.range p.length) = p := by
  refine ext_ap (by rw [foldS_len, List.length_range]) fun x hx => ?_
  rw [foldS_len, List.length_range] at hx
  rw [foldR (p := p) fun one ho => by rw [List.length_range]; exact big_ok hp ho]
  split
  · rfl
  · rename_i hm
    rw [ap_range hx]
    have T := hp.trn
    obtain ⟨m, h3, h4⟩ := T.ex_least x hx
    have hml := T.cyc_lt hx h3
    have hxm : x ∈ cyc p.length (ap p) m := T.back hx h3
    have hlot : cyc p.length (ap p) m ∈ lotsP p := List.mem_map.mpr ⟨m, mem_heads.mpr ⟨hml, h4⟩, rfl⟩
    have hlen : ¬ 1 < (cyc p.length (ap p) m).length := fun hl => hm (List.mem_flatten.mpr ⟨_, List.mem_filter.mpr ⟨hlot, decide_eq_true hl⟩, hxm⟩)
    have e := nxt_cyc T hml hxm
    have hmem := nxt_mem hxm
    generalize cyc p.length (ap p) m = c at hxm hlen e hmem
    match c, hxm, hlen with
    | [y], hxm, _ =>
      rw [List.mem_singleton] at hxm hmem
      rw [← e, hmem, hxm]
    | _ :: _ :: _, _, hlen => exact absurd (by simp) hlen
theorem lots_nodup {p : List Nat} (hp : IsP p) : (lotsP p).flatten.Nodup :=
  hp.trn.flat_nodup (fun x hx => mem_heads.mp hx) (heads_sorted.imp fun h => Nat.ne_of_lt h)
theorem flat_sub {α : Type} (f : List α → Bool) : ∀ l : List (List α), ((l.filter f).flatten).Sublist l.flatten
  | [] => List.Sublist.slnil
  | a :: l => by
    rw [List.filter_cons, List.flatten_cons]
    split
    · rw [List.flatten_cons]; exact (List.Sublist.refl a).append (flat_sub f l)
    · exact (flat_sub f l).trans (List.sublist_append_right _ _)
theorem big_nodup {p : List Nat} (hp : IsP p) : (big p).flatten.Nodup := (lots_nodup hp).sublist (flat_sub _ _)
/-! ### the point that a word tells -/
theorem find_dec {n x : Nat} (h : x < n) : (List.range n).filter (fun y => decide (dec y = dec x)) = [x] := by
  have e : (List.range n).filter (fun y => decide (dec y = dec x)) = (List.range n).filter (fun y => y == x) := List.filter_congr fun y _ => by
    by_cases hy : y = x
    · subst hy; simp
    · have : dec y ≠ dec x := fun e => hy (dec_inj e)
      simp [hy, this]
  rw [e]
  rw [List.filter_beq, List.nodup_range.count, if_pos (List.mem_range.mpr h)]; rfl
theorem find_none {n : Nat} {t : Str} (h : ∀ x, x < n → dec x ≠ t) : (List.range n).filter (fun y => decide (dec y = t)) = [] :=
  List.filter_eq_nil_iff.mpr fun y hy => by simpa using h y (List.mem_range.mp hy)
end PD
set_option Elab.async false
set_option linter.all false
set_option maxRecDepth 100000
set_option maxHeartbeats 2000000
namespace PD
open PySem L2
/-! the readings of texts as equations -/
section
variable {ds : PSt} {Q : D → PSt → Prop} {te ta tb to : TEP} {tl th : TOP} {s t z : Str} {R : Str → Prop} {a b : Addr} {i : Nat} {π : List Stp} {u : Int}
def StrW (x : D) (R : Str → Prop) : Prop := ∃ z : Str, x = .dat (.str z) ∧ R z
theorem w_strW : StrW (.dat (.str z)) R ↔ R z := ⟨fun ⟨y, e, h⟩ => by cases e; exact h, fun h => ⟨z, rfl, h⟩⟩
theorem w_slS : eSlS te tl th ds Q ↔ te ds fun x ds1 => tl ds1 fun lo ds2 => th ds2 fun hi ds3 => StrW x fun z => z.length ≤ 16777216 ∧ Q (.dat (.str (cutS z lo hi))) ds3 := Iff.rfl
theorem w_stM {r : StSem} : eStM r to te ds Q ↔ to ds fun x ds1 => StrW x fun s => te ds1 fun y ds2 => StrW y fun t => r s t Q ds2 := Iff.rfl
theorem w_stStarts : stStarts s t Q ds ↔ Q (.dat (.bool (Txt.startswith s t))) ds := Iff.rfl
theorem w_stEnds : stEnds s t Q ds ↔ Q (.dat (.bool (Txt.endswith s t))) ds := Iff.rfl
theorem w_stSplit : stSplit s t Q ds ↔ 0 < t.length ∧ s.length ≤ 16777000 ∧ ∀ a, Q (.lst a ((Txt.split s t).map .str)) ds := Iff.rfl
def JoinW (s : Str) (y : D) (ds : PSt) (Q : D → PSt → Prop) : Prop := ∃ t, ∃ ys : List Str, See ds y t ∧ ItemsT t (ys.map .str) ∧ (ys.map (·.length)).sum + ys.length * s.length ≤ 16777216 ∧ Q (.dat (.str (Txt.join s ys))) ds
theorem w_join : eJoin to te ds Q ↔ to ds fun x ds1 => StrW x fun s => te ds1 fun y ds2 => JoinW s y ds2 Q := Iff.rfl
theorem joinLs {ys : List Str} (h : (ys.map (·.length)).sum + ys.length * s.length ≤ 16777216) (q : Q (.dat (.str (Txt.join s ys))) ds) : JoinW s (.lst a (ys.map .str)) ds Q := ⟨_, ys, rfl, rfl, h, q⟩
theorem joinBs {ys : List Str} (ok : SeeOk ds (.bor a i π (.lst b (ys.map .str)))) (h : (ys.map (·.length)).sum + ys.length * s.length ≤ 16777216) (q : Q (.dat (.str (Txt.join s ys))) ds) : JoinW s (.bor a i π (.lst b (ys.map .str))) ds Q :=
  ⟨_, ys, see_iff.mpr ⟨rfl, ok⟩, rfl, h, q⟩
def OrW (x : D) (tb : TEP) (ds : PSt) (Q : D → PSt → Prop) : Prop := ∃ d c, See ds x d ∧ TruT d c ∧ if c = true then Q x ds else (∃ p, x = .dat p) ∧ tb ds Q
theorem w_orV : eOrV ta tb ds Q ↔ ta ds fun x ds1 => OrW x tb ds1 Q := Iff.rfl
theorem tru_str (h : z.length ≤ 16777216) : TruT (.dat (.str z)) (decide (z.length ≠ 0)) := by
  show (if z.length ≤ sizeLine then some ((z.length : Int) != 0) else none) = _
  rw [if_pos (by rw [sizeLine_eq]; exact h)]
  congr 1
  by_cases h0 : z.length = 0
  · rw [h0]; rfl
  · rw [decide_eq_true h0]
    have : (z.length : Int) ≠ 0 := by omega
    simpa using this
theorem orS (h : z.length ≤ 16777216) (h1 : z.length ≠ 0 → Q (.dat (.str z)) ds) (h2 : z.length = 0 → tb ds Q) : OrW (.dat (.str z)) tb ds Q := by
  refine ⟨_, _, rfl, tru_str h, ?_⟩
  by_cases h0 : z.length = 0
  · rw [if_neg (by simp [h0])]; exact ⟨⟨_, rfl⟩, h2 h0⟩
  · rw [if_pos (by simp [h0])]; exact h1 h0
theorem w_strI : sStrI (.dat (.int u)) ds Q ↔ u.natAbs < 100000 ∧ Q (.dat (.str (str1 u))) ds := ⟨fun ⟨i, e, h1, h2⟩ => by cases e; exact ⟨h1, h2⟩, fun ⟨h1, h2⟩ => ⟨u, rfl, h1, h2⟩⟩
theorem w_dec {x : Nat} : str1 (x : Int) = dec x := rfl
def SOk (t : Str) : Prop := PyData.strOk t = true
theorem shaped_str : SeqAt.shaped (.str s) = true ↔ SOk s := by
  constructor
  · intro h
    have h : ((PyData.str s).canLay0 && decide ((PyData.str s).depth ≤ 64)) = true := h
    rw [Bool.and_eq_true] at h
    have := h.1
    unfold SOk
    simpa [PyData.canLay0] using this
  · intro h
    unfold SOk at h
    exact shaped_of (by simpa [PyData.canLay0] using h) (by simp [PyData.depth])
theorem eqv_str (s t : Str) : PyData.eqv (.str s) (.str t) = decide (s = t) := by
  simp only [PyData.eqv]
  by_cases h : s = t <;> simp [h]
theorem w_eqSS : sEq (.dat (.str s)) (.dat (.str t)) ds Q ↔ SOk s ∧ SOk t ∧ Q (.dat (.bool (decide (s = t)))) ds := by
  rw [w_eq, eqv_str, shaped_str, shaped_str]
theorem w_neSS : sNe (.dat (.str s)) (.dat (.str t)) ds Q ↔ SOk s ∧ SOk t ∧ Q (.dat (.bool (!decide (s = t)))) ds := by
  rw [w_ne, eqv_str, shaped_str, shaped_str]
theorem w_isiS : sIsi [.dat (.str s), .raw (.ty "str")] ds Q ↔ Q (.dat (.bool true)) ds := isi_of (S := "str") (fun _ => Iff.rfl) (by decide +kernel) (by decide +kernel)
theorem w_truS {R : Bool → Prop} : TruW (.dat (.str z)) ds R ↔ z.length ≤ 16777216 ∧ R (decide (z.length ≠ 0)) := by
  constructor
  · rintro ⟨d, b, h1, h2, h3⟩
    obtain rfl : d = .dat (.str z) := h1
    have h2' : (if z.length ≤ sizeLine then some ((z.length : Int) != 0) else none) = some b := h2
    by_cases h : z.length ≤ sizeLine
    · have h' : z.length ≤ 16777216 := by rw [← sizeLine_eq]; exact h
      have h4 : truP (.str z) = some (decide (z.length ≠ 0)) := tru_str h'
      have h5 : truP (.str z) = some b := h2
      rw [h4] at h5; cases h5
      exact ⟨h', h3⟩
    · rw [if_neg h] at h2'; cases h2'
  · rintro ⟨h, h3⟩
    exact ⟨_, _, rfl, tru_str h, h3⟩
theorem w_lenS : sLen (.dat (.str z)) ds Q ↔ z.length ≤ 16777216 ∧ Q (.dat (.int (z.length : Nat))) ds := by
  constructor
  · rintro ⟨t, n, h1, h2, h3⟩
    obtain rfl : t = .dat (.str z) := h1
    obtain ⟨h2, rfl⟩ : z.length ≤ sizeLine ∧ n = z.length := h2
    exact ⟨by rw [← sizeLine_eq]; exact h2, h3⟩
  · rintro ⟨h, q⟩
    exact ⟨_, z.length, rfl, ⟨by rw [sizeLine_eq]; exact h, rfl⟩, q⟩
theorem w_addS : sAdd (.dat (.str s)) (.dat (.str t)) ds Q ↔ s.length + t.length ≤ 16777216 ∧ Q (.dat (.str (s ++ t))) ds := by
  constructor
  · rintro (⟨_, _, e, _⟩ | ⟨_, _, e, _⟩ | ⟨_, _, _, _, e, _⟩ | ⟨s', t', e1, e2, h, q⟩)
    · cases e
    · cases e
    · cases (show D.lst _ _ = .dat (.str s) from e)
    · cases e1; cases e2; exact ⟨h, q⟩
  · rintro ⟨h, q⟩; exact .inr (.inr (.inr ⟨s, t, rfl, rfl, h, q⟩))
def EnoX (as : List D) (ds : PSt) (R : List D → (PSt → Prop) → PSt → Prop) : Prop := ∃ x, as = [x] ∧ ((∃ xs, x = .dat (.tuple xs) ∧ R (enumD 0 xs) (fun _ => True) ds) ∨ ∃ a xs, See ds x (.lst a xs) ∧ R (enumD 0 xs) (fun ds2 => See ds2 x (.lst a xs)) ds)
theorem w_enumX {tr : TAP} {R : List D → (PSt → Prop) → PSt → Prop} : iEnumO tr ds R ↔ tr ds fun as ds1 => EnoX as ds1 R := Iff.rfl
theorem enoX {xs : List PyData} {R : List D → (PSt → Prop) → PSt → Prop} (ok : SeeOk ds (.bor a i π (.lst b xs))) (h : R (enumD 0 xs) (fun ds2 => SeeOk ds2 (.bor a i π (.lst b xs))) ds) : EnoX [.bor a i π (.lst b xs)] ds R := by
  have e : (fun ds2 => See ds2 (.bor a i π (.lst b xs)) (.lst b xs)) = fun ds2 => SeeOk ds2 (.bor a i π (.lst b xs)) := funext fun _ => propext ⟨fun h => h.2, fun h => ⟨rfl, h⟩⟩
  exact ⟨_, rfl, .inr ⟨b, xs, see_iff.mpr ⟨rfl, ok⟩, by rw [e]; exact h⟩⟩
theorem sok_iff : SOk s ↔ ∀ c ∈ TL.tl s, c < 0x110000 := by
  unfold SOk PyData.strOk
  rw [← Array.all_toList, List.all_eq_true]
  exact ⟨fun h c hc => of_decide_eq_true (h c hc), fun h c hc => decide_eq_true (h c hc)⟩
theorem sok_app (h1 : SOk s) (h2 : SOk t) : SOk (s ++ t) := by
  rw [sok_iff] at *
  intro c hc
  rw [TL.tl_append] at hc
  exact (List.mem_append.mp hc).elim (h1 c) (h2 c)
theorem sok_cut {lo hi : Option Int} (h : SOk s) : SOk (cutS s lo hi) := by
  rw [sok_iff] at *
  intro c hc
  exact h c (List.mem_of_mem_drop (List.mem_of_mem_take hc))
theorem mem_joinL {S : List Nat} {c : Nat} : ∀ {l : List (List Nat)} {x : List Nat}, x ∈ l → c ∈ x → c ∈ TL.joinL S l
  | [], _, h, _ => by cases h
  | [p], x, h, hc => by rw [List.mem_singleton] at h; subst h; exact hc
  | p :: q :: r, x, h, hc => by
    show c ∈ p ++ (S ++ TL.joinL S (q :: r))
    rcases List.mem_cons.mp h with rfl | h
    · exact List.mem_append_left _ hc
    · exact List.mem_append_right _ (List.mem_append_right _ (mem_joinL h hc))
theorem joinL_mem {S : List Nat} {c : Nat} : ∀ {l : List (List Nat)}, c ∈ TL.joinL S l → c ∈ S ∨ ∃ x ∈ l, c ∈ x
  | [], h => by cases h
  | [p], h => .inr ⟨p, List.mem_cons_self, h⟩
  | p :: q :: r, h => by
    have h : c ∈ p ++ (S ++ TL.joinL S (q :: r)) := h
    rcases List.mem_append.mp h with h | h
    · exact .inr ⟨p, List.mem_cons_self, h⟩
    · rcases List.mem_append.mp h with h | h
      · exact .inl h
      · rcases joinL_mem h with h | ⟨x, hx, h⟩
        · exact .inl h
        · exact .inr ⟨x, List.mem_cons_of_mem _ hx, h⟩
theorem sok_split {y : Str} (h : SOk s) : ∀ z ∈ Txt.split s y, SOk z := fun z hz => by
  rw [sok_iff] at *
  intro c hc
  refine h c ?_
  rw [← split_back s y, tl_joinT]
  exact mem_joinL (List.mem_map.mpr ⟨z, hz, rfl⟩) hc
theorem sok_join {y : Str} {l : List Str} (hy : SOk y) (h : ∀ z ∈ l, SOk z) : SOk (Txt.join y l) := by
  rw [sok_iff] at *
  intro c hc
  rw [tl_joinT] at hc
  rcases joinL_mem hc with hc | ⟨x, hx, hc⟩
  · exact hy c hc
  · obtain ⟨z, hz, rfl⟩ := List.mem_map.mp hx
    exact sok_iff.mp (h z hz) c hc
theorem sok_open : SOk ("(" : Str) := by unfold SOk; decide +kernel
theorem sok_close : SOk (")" : Str) := by unfold SOk; decide +kernel
theorem sok_mid : SOk (")(" : Str) := by unfold SOk; decide +kernel
theorem sok_bl : SOk (" " : Str) := by unfold SOk; decide +kernel
theorem sok_non : SOk ("" : Str) := by unfold SOk; decide +kernel
theorem sok_two : SOk ("()" : Str) := by unfold SOk; decide +kernel
theorem sok_dec (x : Nat) : SOk (dec x) := sok_iff.mpr fun c hc => by
  by_cases h : c < 0x110000
  · exact h
  · exact absurd hc (dec_free (by omega))
theorem sok_brk (h : SOk s) : SOk (brk s) := sok_app (sok_app sok_open h) sok_close
theorem sok_inner (one : List Nat) : SOk (inner one) := sok_join sok_bl fun z hz => by
  obtain ⟨x, _, rfl⟩ := List.mem_map.mp hz
  exact sok_dec x
theorem sok_txt (p : List Nat) : SOk (txt p) := by
  unfold txt
  split
  · exact sok_two
  · exact sok_join sok_non fun z hz => by
      obtain ⟨x, _, rfl⟩ := List.mem_map.mp hz
      exact sok_brk (sok_inner x)
theorem w_strApp {p : PyData} {xs : List PyData} : (xs ++ [p]) = xs ++ [p] := rfl
end

local macro_rules | `(tactic| walk_at "pd") => `(tactic| try simp only [w_var, w_strW, w_slS, w_stM, w_stStarts, w_stEnds, w_stSplit, w_join, w_orV, w_strI, w_dec, w_eqSS, w_neSS, w_isiS, w_truS, w_addS, w_lenS, w_enumX, w_strApp, w_c, w_raw, w_e2, w_sI, w_sIc, w_tBl, w_boolW, w_intW, w_tupW, w_eqL, w_neL, w_isN, w_isNotN, w_isBB, w_isNotBB, w_tupO, w_lstO, w_seq, w_seqT, w_seqN, w_seqLi, w_seqB, it_tup, it_list, it_lst, w_lenT, w_lenL, w_lenBL, w_lenBD, w_inDkB, w_inTup, w_tru, w_truB, w_truI, w_truT, w_truL, w_truN, w_and, w_or, w_not, w_eAnd, w_eOr, w_eNot, w_if, w_chain, w_aNil, w_aCons, w_tup, w_lst, w_mkT0, w_mkT1, w_mkT2, w_mkT3, w_mkL0, w_mkL1, w_mkL2, w_call, w_s1, w_intF, w_own, w_out, w_neg, w_addI, w_addT, w_addL, w_mulI, w_mulL, w_dict0, w_lend0, w_lendB, w_lendD, w_lendL, w_back0, w_backB, w_backD, w_backL, w_sl, w_slT, w_slL, w_oNone, w_oSome, w_tupRg, w_lstRg, w_lenSet, w_tix, w_bm, w_tyM, w_app, w_insert, w_extend, w_next, w_seqS, w_break, w_cont, w_drop, w_ret, w_ifS, w_never, w_asg, w_gN, w_gT, w_isT, w_isTD, w_isTP, w_gs0, w_gs1, w_par, w_par2, w_gSub', w_subL, w_subO, w_subK, w_for, w_while, w_lc, w_rg1, w_rg2, w_as1I, w_as2I, w_enum, w_enW, upS_nil, upS_it, seen_dat, seen_lst, seen_lsD, seen_dk, seen_bor, ok_dat, ok_lst, ok_lsD, ok_dk, ok_bor, root_lst, root_lsD, root_dk, root_ins, getP_nil, setP_nil, rdS, ld_dat, ld_lst, ld_lsD, ld_dk, ld_bor, ty_lst, ty_lsD, ty_dk, List.getElem?_cons_zero, List.getElem?_cons_succ, List.set_cons_zero, List.set_cons_succ, Option.some.injEq, exists_eq_left', exists_eq_left, true_and, and_true, List.length_cons, List.length_nil, Nat.ble_eq, Nat.zero_add, Nat.reduceAdd, Nat.reduceLeDiff, List.map_cons, List.map_nil, ite_true, ite_false, Bool.false_eq_true, if_false, if_true, Bool.not_true, Bool.not_false, exists_eq, wipeD, Bool.and_true, Bool.and_false, Bool.or_true, Bool.or_false, decide_eq_true_eq, decide_true, decide_false, w_lenN, w_seqTN, w_ixN, w_eqNN, w_neNN, w_eqTT, w_neTT, w_eqII, w_neII, w_isiI, w_isiB, w_isiT, w_isiTN, w_tupWN, w_truTN, w_enWN, w_ixBL, w_ixL, w_ixO, w_ixK, w_ixT, tupN_of, intsL_len, Bool.not_eq_true', decide_eq_false_iff_not, not_true, not_false_iff, and_self, eq_self, ix4_0, ix4_1, ix4_2, ix4_3, getP_it1, w_mkLbox, List.nil_append, Bool.true_eq_false, w_sum, w_sumTN, w_seqTT, w_slTN, cut_from, cut_upto, w_all, w_any, w_sortI])
open PM
/-! promises of texts (k02) -/
def sp_is_turningX : SpD := fun as Q => ∃ L : List Nat, as = [.dat (.int (L.length : Nat)), .dat (tupN L)] ∧ L.length ≤ 24 ∧ (∀ x ∈ L, x < L.length) ∧ Q (.dat (.bool (decide L.Nodup))) as
def sp_check_someX : SpD := fun as Q => ∃ p : List Nat, as = [.dat (tupN p)] ∧ IsP p ∧ p.length ≤ 24 ∧ Q (.dat .none) as
def sp_shown : SpD := fun as Q => ∃ p : List Nat, as = [.dat (tupN p)] ∧ IsP p ∧ p.length ≤ 24 ∧ Q (.dat (.str (txt p))) as
def sp_point : SpD := fun as Q => ∃ (n x : Nat), as = [.dat (.int (n : Nat)), .dat (.str (dec x))] ∧ x < n ∧ n ≤ 24 ∧ Q (.dat (.int (x : Nat))) as
def sx_point : SpR := fun as m => ∃ (n : Nat) (t : Str), as = [.dat (.int (n : Nat)), .dat (.str t)] ∧ n ≤ 24 ∧ SOk t ∧ (∀ x, x < n → dec x ≠ t) ∧ m = "BadText"
/-- v is the text of the turning p of n points -/
def Tells (n : Nat) (v : PyData) (p : List Nat) : Prop := IsP p ∧ p.length = n ∧ v = .str (txt p)
def sp_read : SpD := fun as Q => ∃ p : List Nat, as = [.dat (.int (p.length : Nat)), .dat (.str (txt p))] ∧ IsP p ∧ p.length ≤ 24 ∧ Q (.dat (tupN p)) as
/-- what is looked at: a text of some length, or no text -/
def LookOk : PyData → Prop
  | .str s => s.length ≤ 3990 ∧ SOk s
  | .dict _ => False
  | _ => True
def sx_read : SpR := fun as m => ∃ (n : Nat) (v : PyData), as = [.dat (.int (n : Nat)), .dat v] ∧ n ≤ 24 ∧ LookOk v ∧ (∀ p, ¬ Tells n v p) ∧ m = "BadText"
def Reads (n : Nat) (v : PyData) (Q : D → Prop) : Prop := (∃ p, Tells n v p ∧ ∀ a, Q (.lst a [tupN p])) ∨ ((∀ p, ¬ Tells n v p) ∧ Q (.dat .none))
def sp__law_pickX : SpD := fun as Q => ∃ (a b : Addr) (xs : List D) (items : List PyData), as = [.lsD a xs, .lst b items] ∧ BoxOk xs ∧ items ≠ [] ∧ items.length < 1000000000 ∧ ∀ xs' p, BoxOk xs' → p ∈ items → Q (.dat p) [.lsD a xs', .lst b items]
def sp__law_text : SpD := fun as Q => ∃ p : List Nat, as = [.dat (tupN p)] ∧ IsP p ∧ p.length ≤ 24 ∧ Q (.dat (.str (txt p))) as
def sp__law_read : SpD := fun as Q => ∃ (n : Nat) (v : PyData), as = [.dat (.int (n : Nat)), .dat v] ∧ n ≤ 24 ∧ LookOk v ∧ Reads n v fun d => Q d as
def sp__law_figures : SpD := fun as Q => ∃ (n : Nat) (t : Str), as = [.dat (.int (n : Nat)), .dat (.str t)] ∧ n ≤ 24 ∧ SOk t ∧ ((∃ x, x < n ∧ t = dec x ∧ Q (.dat (.int (x : Nat))) as) ∨ ((∀ x, x < n → dec x ≠ t) ∧ Q (.dat .none) as))
def sp__law_own : SpD := fun as Q => ∃ (n : Nat) (t : Str), as = [.dat (.int (n : Nat)), .dat (.str t)] ∧ n ≤ 24 ∧ t.length ≤ 3990 ∧ SOk t ∧ Reads n (.str t) fun d => Q d as
def sp__law_bent : SpD := fun as Q => ∃ (a : Addr) (xs : List D) (t : Str), as = [.lsD a xs, .dat (.str t)] ∧ BoxOk xs ∧ t.length ≤ 1776 ∧ SOk t ∧ ∀ xs' t', BoxOk xs' → t'.length ≤ 3990 → SOk t' → Q (.dat (.str t')) [.lsD a xs', .dat (.str t)]

def t_is_turningX_e1 : TEP := (eAnd (eOwn sp_is_number (aCons (eVar 2) aNil)) (eChainI (fun i j => decide (i ≤ j)) (fun i j => decide (i < j)) (eC (.int 0)) (eVar 2) (eVar 0)))
def t_is_turningX_r2 : TSP := (tRetD (e2 sEq (eLenSet (eVar 1)) (eVar 0)))
def t_is_turningX_r3 : TSP := (tSeqD (tIfD (dNot (tTru (eCall (s1 sAll) (aCons (tLcD (iSeq (eVar 1)) (gN 2) tYesD t_is_turningX_e1 [2]) aNil)))) (tRetD (eC (.bool false))) tNextD) t_is_turningX_r2)
def t_is_turningX : TSP := (tSeqD (tIfD (dOr (dNot (tTru (eCall sIsi (aCons (eVar 1) (aCons (eRaw (.ty "tuple")) aNil))))) (dOr (tBl (e2 sNe (eCall (s1 sLen) (aCons (eVar 1) aNil)) (eVar 0))) (dNot (tBl (eChainI (fun i j => decide (i ≤ j)) (fun i j => decide (i ≤ j)) (eC (.int 0)) (eVar 0) (eC (.int 24))))))) (tRetD (eC (.bool false))) tNextD) t_is_turningX_r3)
def t_check_someX : TSP := (tIfD (dOr (dNot (tTru (eCall sIsi (aCons (eVar 0) (aCons (eRaw (.ty "tuple")) aNil))))) (dNot (tTru (eOwn sp_is_turningX (aCons (eCall (s1 sLen) (aCons (eVar 0) aNil)) (aCons (eVar 0) aNil)))))) tNeverD tNextD)
def t_shown_c1 : TTP := (tBl (e2 sGt (eCall (s1 sLen) (aCons (eVar 1) aNil)) (eC (.int 1))))
def t_shown_e2 : TEP := (e2 sAdd (e2 sAdd (eC (.str "(")) (eJoin (eC (.str " ")) (tLcD (iSeq (eVar 1)) (gN 2) tYesD (eCall (s1 sStrI) (aCons (eVar 2) aNil)) [2]))) (eC (.str ")")))
def t_shown : TSP := (tSeqD (tDropD (eOwn sp_check_someX (aCons (eVar 0) aNil))) (tRetD (eOrV (eJoin (eC (.str "")) (tLcD (iSeq (eOwn sp_lots (aCons (eVar 0) aNil))) (gN 1) t_shown_c1 t_shown_e2 [1])) (eC (.str "()")))))
def t_point_c1 : TTP := (tBl (e2 sEq (eCall (s1 sStrI) (aCons (eVar 3) aNil)) (eVar 1)))
def t_point_r2 : TSP := (tSeqD (tIfD (dNot (tTru (eVar 2))) tNeverD tNextD) (tRetD (e2 sIx (eVar 2) (eC (.int 0)))))
def t_point : TSP := (tSeqD (tAsgD (tLcD (iRg1 (aCons (eVar 0) aNil)) (gN 3) t_point_c1 (eVar 3) [3]) (gN 2)) t_point_r2)
def t_read_b1 : TSP := (tAsgD (e2 sIx (eVar 4) (e2 (sIc (fun _ j => 0 < j) fun i j => .int (i % j)) (e2 sAdd (eVar 5) (eC (.int 1))) (eCall (s1 sLen) (aCons (eVar 4) aNil)))) (gSubD (eVar 2) (eVar 6)))
def t_read_r2 : TSP := (tForD (iEnumO (aCons (eVar 4) aNil)) (gT 2 (gsCons (gN 5) (gsCons (gN 6) gsNil))) t_read_b1)
def t_read_b3 : TSP := (tSeqD (tAsgD (tLcD (iSeq (eStM stSplit (eVar 3) (eC (.str " ")))) (gN 8) tYesD (eOwn sp_point (aCons (eVar 0) (aCons (eVar 8) aNil))) [8]) (gN 4)) t_read_r2)
def t_read_r4 : TSP := (tSeqD (tAsgD (eCall (s1 sTupO) (aCons (eVar 2) aNil)) (gN 7)) (tSeqD (tIfD (dOr (dNot (tTru (eOwn sp_is_turningX (aCons (eVar 0) (aCons (eVar 7) aNil))))) (tBl (e2 sNe (eOwn sp_shown (aCons (eVar 7) aNil)) (eVar 1)))) tNeverD tNextD) (tRetD (eOut 7))))
def t_read_r5 : TSP := (tSeqD (tAsgD (eLstRg (eVar 0)) (gN 2)) (tSeqD (tIfD (tBl (e2 sNe (eVar 1) (eC (.str "()")))) (tForD (iSeq (eStM stSplit (eSlS (eVar 1) (oSome (eC (.int 1))) (oSome (eNeg (eC (.int 1))))) (eC (.str ")(")))) (gN 3) t_read_b3) tNextD) t_read_r4))
def t_read : TSP := (tSeqD (tIfD (dOr (dNot (tTru (eCall sIsi (aCons (eVar 1) (aCons (eRaw (.ty "str")) aNil))))) (dOr (dNot (tTru (eStM stStarts (eVar 1) (eC (.str "("))))) (dNot (tTru (eStM stEnds (eVar 1) (eC (.str ")"))))))) tNeverD tNextD) t_read_r5)
def t__law_pickX : TSP := (tRetD (e2 sIx (eVar 1) (eOwn sp__law_take (aCons (eVar 0) (aCons (eCall (s1 sLen) (aCons (eVar 1) aNil)) aNil)))))
def t__law_text_b1 : TSP := (tSeqD (tAsgD (eC (.bool true)) (gSubD (eVar 2) (eVar 3))) (tSeqD (tDropD (eBM "list" sAppend (eVar 4) (aCons (eCall (s1 sStrI) (aCons (eVar 3) aNil)) aNil))) (tAsgD (e2 sIx (eVar 0) (eVar 3)) (gN 3))))
def t__law_text_r2 : TSP := (tIfD (tBl (e2 sGt (eCall (s1 sLen) (aCons (eVar 4) aNil)) (eC (.int 1)))) (tAsgD (e2 sAdd (e2 sAdd (e2 sAdd (eVar 1) (eC (.str "("))) (eJoin (eC (.str " ")) (eVar 4))) (eC (.str ")"))) (gN 1)) tNextD)
def t__law_text_b3 : TSP := (tSeqD (tAsgD (eLst aNil) (gN 4)) (tSeqD (tWhileD (tBl (e2 (sInN true) (eVar 3) (eVar 2))) t__law_text_b1) t__law_text_r2))
def t__law_text_r4 : TSP := (tRetD (eIf (tTru (eVar 1)) (eOut 1) (eC (.str "()"))))
def t__law_text : TSP := (tSeqD (tParD 1 2 (aCons (eC (.str "")) (aCons eDict0 aNil))) (tSeqD (tForD (iRg1 (aCons (eCall (s1 sLen) (aCons (eVar 0) aNil)) aNil)) (gN 3) t__law_text_b3) t__law_text_r4))
def t__law_read : TSP := (tTryD (fun Wd => tRetD (eLst1 (fun Wd => (eOwnT sp_read sx_read (aCons (eVar 0) (aCons (eVar 1) aNil)) Wd)) Wd)) [("BadText", (tRetD (eC .none)))])
def t__law_figures_c1 : TTP := (tBl (e2 sEq (eCall (s1 sStrI) (aCons (eVar 3) aNil)) (eVar 1)))
def t__law_figures_r2 : TSP := (tRetD (eIf (tTru (eVar 2)) (e2 sIx (eVar 2) (eC (.int 0))) (eC .none)))
def t__law_figures : TSP := (tSeqD (tAsgD (tLcD (iRg1 (aCons (eVar 0) aNil)) (gN 3) t__law_figures_c1 (eVar 3) [3]) (gN 2)) t__law_figures_r2)
def t__law_own_e1 : TEP := (eOwn sp__law_figures (aCons (eVar 0) (aCons (eVar 7) aNil)))
def t__law_own_b2 : TSP := (tAsgD (e2 sIx (eVar 5) (e2 (sIc (fun _ j => 0 < j) fun i j => .int (i % j)) (e2 sAdd (eVar 6) (eC (.int 1))) (eCall (s1 sLen) (aCons (eVar 5) aNil)))) (gSubD (eVar 2) (e2 sIx (eVar 5) (eVar 6))))
def t__law_own_r3 : TSP := (tSeqD (tDropD (eBM "list" sExtendO (eVar 3) (aCons (eVar 5) aNil))) (tForD (iRg1 (aCons (eCall (s1 sLen) (aCons (eVar 5) aNil)) aNil)) (gN 6) t__law_own_b2))
def t__law_own_r4 : TSP := (tSeqD (tIfD (dOr (tBl (e2 (sInN false) (eC .none) (eVar 5))) (dOr (tBl (e2 sLt (eCall (s1 sLen) (aCons (eVar 5) aNil)) (eC (.int 2)))) (dOr (tBl (e2 sNe (tLcD (iSeq (eVar 5)) (gN 8) (tBl (e2 (sInN false) (eVar 8) (eVar 3))) (eVar 8) [8]) (eLst aNil))) (tBl (e2 sLt (eLenSetV (eVar 5)) (eCall (s1 sLen) (aCons (eVar 5) aNil))))))) (tRetD (eC .none)) tNextD) t__law_own_r3)
def t__law_own_b5 : TSP := (tSeqD (tAsgD (tLcD (iSeq (eStM stSplit (eVar 4) (eC (.str " ")))) (gN 7) tYesD t__law_own_e1 [7]) (gN 5)) t__law_own_r4)
def t__law_own_r6 : TSP := (tRetD (eIf (tBl (e2 sEq (eOwn sp__law_text (aCons (eCall (s1 sTupO) (aCons (eVar 2) aNil)) aNil)) (eVar 1))) (eLst (aCons (eCall (s1 sTupO) (aCons (eVar 2) aNil)) aNil)) (eC .none)))
def t__law_own_r7 : TSP := (tSeqD (tAsgD (eTup (aCons (eLstRg (eVar 0)) (aCons (eLst aNil) aNil))) (gT 2 (gsCons (gN 2) (gsCons (gN 3) gsNil)))) (tSeqD (tForD (iSeq (eStM stSplit (eSlS (eVar 1) (oSome (eC (.int 1))) (oSome (eNeg (eC (.int 1))))) (eC (.str ")(")))) (gN 4) t__law_own_b5) t__law_own_r6))
def t__law_own_r8 : TSP := (tSeqD (tIfD (dOr (tBl (e2 sNe (eSlS (eVar 1) oNone (oSome (eC (.int 1)))) (eC (.str "(")))) (tBl (e2 sNe (eSlS (eVar 1) (oSome (eNeg (eC (.int 1)))) oNone) (eC (.str ")"))))) (tRetD (eC .none)) tNextD) t__law_own_r7)
def t__law_own : TSP := (tSeqD (tIfD (tBl (e2 sEq (eVar 1) (eC (.str "()")))) (tRetD (eLst (aCons (eTupRg (eVar 0)) aNil))) tNextD) t__law_own_r8)
def t__law_bent_r1 : TSP := (tRetD (e2 sAdd (e2 sAdd (eSlS (eVar 1) oNone (oSome (eVar 2))) (eOwn sp__law_pickX (aCons (eVar 0) (aCons (eLst (aCons (eC (.str "(")) (aCons (eC (.str ")")) (aCons (eC (.str " ")) (aCons (eC (.str "0")) (aCons (eC (.str "1")) (aCons (eC (.str "2")) (aCons (eC (.str "9")) (aCons (eC (.str ")(")) aNil))))))))) aNil)))) (eSlS (eVar 1) (oSome (e2 (sI fun i j => .int (i - j)) (e2 sAdd (eVar 2) (eVar 3)) (eC (.int 1)))) oNone)))
def t__law_bent : TSP := (tSeqD (tParD 2 3 (aCons (eOwn sp__law_take (aCons (eVar 0) (aCons (e2 sAdd (eCall (s1 sLen) (aCons (eVar 1) aNil)) (eC (.int 1))) aNil))) (aCons (eOwn sp__law_take (aCons (eVar 0) (aCons (eC (.int 3)) aNil))) aNil))) (tSeqD (tIfD (tBl (e2 sEq (eVar 3) (eC (.int 0)))) (tRetD (e2 sAdd (eSlS (eVar 1) oNone (oSome (eVar 2))) (eSlS (eVar 1) (oSome (e2 sAdd (eVar 2) (eC (.int 1)))) oNone))) tNextD) t__law_bent_r1))
def tx_point_c1 (R : Str → Prop) : TTP := (tBl (e2 sEq (eCall (s1 sStrI) (aCons (eVar 3) aNil)) (eVar 1)))
def tx_point_r2 (R : Str → Prop) : TSP := (tSeqD (tIfD (dNot (tTru (eVar 2))) (tRaiseD R "BadText") tNextD) tNeverD)
def tx_point (R : Str → Prop) : TSP := (tSeqD (tAsgD (tLcD (iRg1 (aCons (eVar 0) aNil)) (gN 3) (tx_point_c1 R) (eVar 3) [3]) (gN 2)) (tx_point_r2 R))
def tx_read_e1 (R : Str → Prop) : TEP := (eOwnB sp_point sx_point R (aCons (eVar 0) (aCons (eVar 8) aNil)))
def tx_read_b2 (R : Str → Prop) : TSP := (tAsgD (e2 sIx (eVar 4) (e2 (sIc (fun _ j => 0 < j) fun i j => .int (i % j)) (e2 sAdd (eVar 5) (eC (.int 1))) (eCall (s1 sLen) (aCons (eVar 4) aNil)))) (gSubD (eVar 2) (eVar 6)))
def tx_read_r3 (R : Str → Prop) : TSP := (tForD (iEnumO (aCons (eVar 4) aNil)) (gT 2 (gsCons (gN 5) (gsCons (gN 6) gsNil))) (tx_read_b2 R))
def tx_read_b4 (R : Str → Prop) : TSP := (tSeqD (tAsgD (tLcD (iSeq (eStM stSplit (eVar 3) (eC (.str " ")))) (gN 8) tYesD (tx_read_e1 R) [8]) (gN 4)) (tx_read_r3 R))
def tx_read_r5 (R : Str → Prop) : TSP := (tSeqD (tAsgD (eCall (s1 sTupO) (aCons (eVar 2) aNil)) (gN 7)) (tSeqD (tIfD (dOr (dNot (tTru (eOwn sp_is_turningX (aCons (eVar 0) (aCons (eVar 7) aNil))))) (tBl (e2 sNe (eOwn sp_shown (aCons (eVar 7) aNil)) (eVar 1)))) (tRaiseD R "BadText") tNextD) (tRetD (eOut 7))))
def tx_read_r6 (R : Str → Prop) : TSP := (tSeqD (tAsgD (eLstRg (eVar 0)) (gN 2)) (tSeqD (tIfD (tBl (e2 sNe (eVar 1) (eC (.str "()")))) (tForD (iSeq (eStM stSplit (eSlS (eVar 1) (oSome (eC (.int 1))) (oSome (eNeg (eC (.int 1))))) (eC (.str ")(")))) (gN 3) (tx_read_b4 R)) tNextD) (tx_read_r5 R)))
def tx_read (R : Str → Prop) : TSP := (tSeqD (tIfD (dOr (dNot (tTru (eCall sIsi (aCons (eVar 1) (aCons (eRaw (.ty "str")) aNil))))) (dOr (dNot (tTru (eStM stStarts (eVar 1) (eC (.str "("))))) (dNot (tTru (eStM stEnds (eVar 1) (eC (.str ")"))))))) (tRaiseD R "BadText") tNextD) (tx_read_r6 R))
theorem len_is_turningX : ∀ ds Q, sp_is_turningX ds Q → ds.length = 2 := by rintro ds Q ⟨_, rfl, _⟩; rfl
theorem len_check_someX : ∀ ds Q, sp_check_someX ds Q → ds.length = 1 := by rintro ds Q ⟨_, rfl, _⟩; rfl
theorem len_shown : ∀ ds Q, sp_shown ds Q → ds.length = 1 := by rintro ds Q ⟨_, rfl, _⟩; rfl
theorem len_point : ∀ ds Q, sp_point ds Q → ds.length = 2 := by rintro ds Q ⟨_, _, rfl, _⟩; rfl
theorem len_read : ∀ ds Q, sp_read ds Q → ds.length = 2 := by rintro ds Q ⟨_, rfl, _⟩; rfl
theorem lenx_point : ∀ ds m, sx_point ds m → ds.length = 2 := by rintro ds Q ⟨_, _, rfl, _⟩; rfl
theorem lenx_read : ∀ ds m, sx_read ds m → ds.length = 2 := by rintro ds Q ⟨_, _, rfl, _⟩; rfl
theorem vc_point : ∀ ds Q, sp_point ds Q → t_point (fnEnds ds Q) (startD 4 ds) := by
  rintro ds Q ⟨n, x, rfl, hx, hn, h⟩
  change t_point _ [some (.dat (.int (n : Nat))), some (.dat (.str (dec x))), none, none]
  unfold t_point
  walk_at "pd"
  refine ⟨⟨by omega, by omega⟩, ?_⟩
  rw [upto_natD]
  refine lc_filter (List.range n) (fun i : Nat => .dat (.int (i : Nat))) (fun i => decide (dec i = dec x)) (fun i => .int (i : Nat)) rfl (by rw [List.length_range]; omega) trivial ?_ fun a => ?_
  · intro i hi k1 k2 h1 h2
    have := List.mem_range.mp hi
    unfold t_point_c1
    walk_at "pd"
    refine ⟨by omega, sok_dec _, sok_dec _, ?_⟩
    by_cases hd : dec i = dec x
    · rw [if_pos hd]
      exact h1 (by simpa using hd) _ rfl
    · rw [if_neg hd]
      exact h2 (by simpa using hd) _ rfl
  · rw [find_dec hx]
    unfold t_point_r2
    walk_at "pd"
    refine ⟨_, rfl, ?_⟩
    exact rt2 h
theorem vcx_point : ∀ ds m, sx_point ds m → tx_point (fun k => k = m) noE (startD 4 ds) := by
  rintro ds m ⟨n, t, rfl, hn, hs, ht, rfl⟩
  change tx_point _ _ [some (.dat (.int (n : Nat))), some (.dat (.str t)), none, none]
  unfold tx_point
  walk_at "pd"
  refine ⟨⟨by omega, by omega⟩, ?_⟩
  rw [upto_natD]
  refine lc_filter (List.range n) (fun i : Nat => .dat (.int (i : Nat))) (fun i => decide (dec i = t)) (fun i => .int (i : Nat)) rfl (by rw [List.length_range]; omega) trivial ?_ fun a => ?_
  · intro i hi k1 k2 h1 h2
    have := List.mem_range.mp hi
    unfold tx_point_c1
    walk_at "pd"
    refine ⟨by omega, sok_dec _, hs, ?_⟩
    by_cases hd : dec i = t
    · exact absurd hd (ht i this)
    · rw [if_neg hd]
      exact h2 (by simpa using hd) _ rfl
  · rw [find_none ht]
    unfold tx_point_r2
    walk_at "pd"
    rw [if_pos (by simp)]
    exact rfl
theorem sub_len : ∀ {l : List Int}, l.Nodup → ∀ {m : List Int}, (∀ x ∈ l, x ∈ m) → l.length ≤ m.length
  | [], _, _, _ => Nat.zero_le _
  | a :: l, hn, m, h => by
    obtain ⟨h1, h2⟩ := List.nodup_cons.mp hn
    have := sub_len h2 (m := m.erase a) fun x hx => (List.mem_erase_of_ne fun e => h1 (by rw [← e]; exact hx)).mpr (h x (List.mem_cons_of_mem _ hx))
    have ha := h a List.mem_cons_self
    have hp := List.length_pos_of_mem ha
    rw [List.length_erase_of_mem ha] at this
    rw [List.length_cons]; omega
theorem nodup_cover {ks M : List Int} (hk : ks.Nodup) (hm : ∀ k, k ∈ ks ↔ k ∈ M) (hl : ks.length = M.length) : M.Nodup := by
  refine List.nodup_iff_count.mpr fun a => Classical.byContradiction fun hc => ?_
  have ha : a ∈ M := List.count_pos_iff.mp (by omega)
  have h2 : a ∈ M.erase a := List.count_pos_iff.mp (by rw [List.count_erase_self]; omega)
  have := sub_len hk (m := M.erase a) fun x hx => by
    by_cases e : x = a
    · rw [e]; exact h2
    · exact (List.mem_erase_of_ne e).mpr ((hm x).mp hx)
  have hp := List.length_pos_of_mem ha
  rw [List.length_erase_of_mem ha] at this
  omega
theorem len_cover {L : List Nat} {ks : List Int} (hk : ks.Nodup) (hm : ∀ k, k ∈ ks ↔ k ∈ L.map fun n : Nat => (n : Int)) : decide ((ks.length : Int) = L.length) = decide L.Nodup := by
  by_cases hn : L.Nodup
  · have hpm : ks.Perm (L.map fun n : Nat => (n : Int)) := (List.perm_ext_iff_of_nodup hk (List.nodup_iff_pairwise_ne.mpr (List.pairwise_map.mpr ((List.nodup_iff_pairwise_ne.mp hn).imp fun h e => h (by omega))))).mpr hm
    have e2 : ks.length = L.length := by rw [hpm.length_eq, List.length_map]
    rw [decide_eq_true hn, decide_eq_true (by rw [e2])]
  · rw [decide_eq_false hn, decide_eq_false]
    intro e
    have := nodup_cover hk hm (by rw [List.length_map]; omega)
    exact hn (List.nodup_iff_pairwise_ne.mpr ((List.pairwise_map.mp (List.nodup_iff_pairwise_ne.mp this)).imp fun h e => h (by rw [e])))
theorem vc_is_turningX : ∀ ds Q, sp_is_turningX ds Q → t_is_turningX (fnEnds ds Q) (startD 3 ds) := by
  rintro ds Q ⟨L, rfl, hl, hb, h⟩
  change t_is_turningX _ [some (.dat (.int (L.length : Nat))), some (.dat (tupN L)), none]
  unfold t_is_turningX
  walk_at "pd"
  rw [if_pos (by omega), if_neg (by omega)]
  unfold t_is_turningX_r3
  walk_at "pd"
  refine lc_all L (fun n : Nat => .dat (.int n)) (fun _ => .bool true) rfl (by omega) trivial ?_ fun a => ?_
  · intro x hx k1 hk
    have := hb x hx
    unfold t_is_turningX_e1
    walk_at "pd"
    refine ⟨_, rfl, ?_⟩
    walk_at "pd"
    rw [if_pos (by omega), decide_eq_true (show (x : Int) < L.length by omega)]
    exact hk _ rfl
  · walk_at "pd"
    refine ⟨L.map fun _ => true, by rw [List.map_map]; rfl, ?_⟩
    have e : (L.map fun _ => true).all id = true := by simp
    rw [e]
    walk_at "pd"
    unfold t_is_turningX_r2
    walk_at "pd"
    refine ⟨L.map fun n : Nat => (n : Int), by unfold tupN intsL; rw [List.map_map]; rfl, by rw [List.length_map]; omega, fun ks hk hm => ?_⟩
    rw [len_cover hk hm]
    exact rt2 h
theorem vc_check_someX : ∀ ds Q, sp_check_someX ds Q → t_check_someX (fnEnds ds Q) (startD 1 ds) := by
  rintro ds Q ⟨p, rfl, hp, hl, h⟩
  change t_check_someX _ [some (.dat (tupN p))]
  unfold t_check_someX
  walk_at "pd"
  refine ⟨p, rfl, hl, hp.lt, ?_⟩
  rw [decide_eq_true hp.nd]
  walk_at "pd"
  exact nx1 h
theorem join_ok {one : List Nat} (h1 : one.length ≤ 24) (h2 : ∀ y ∈ one, y < 100) : (((one.map dec).map (·.length)).sum + (one.map dec).length * (" " : Str).length ≤ 16777216) := by
  have := sum_le (l := (one.map dec).map (·.length)) (k := 2) fun x hx => by
    rw [List.map_map] at hx
    obtain ⟨y, hy, rfl⟩ := List.mem_map.mp hx
    exact dec_len (h2 y hy)
  rw [List.length_map, List.length_map] at this
  rw [List.length_map, len_bl]; omega
theorem big_sum {p : List Nat} (hp : IsP p) (hl : p.length ≤ 24) : (((big p).map fun one => brk (inner one)).map (·.length)).sum ≤ 2000 := by
  rw [List.map_map]
  have := sum_le (l := (big p).map ((·.length) ∘ fun one => brk (inner one))) (k := 74) fun x hx => by
    obtain ⟨one, ho, rfl⟩ := List.mem_map.mp hx
    obtain ⟨h1, h2, h3, _⟩ := lot_ok hp (mem_big ho).1
    show (brk (inner one)).length ≤ 74
    rw [len_brk]
    have := inner_len (one := one) fun y hy => by have := h2 y hy; omega
    omega
  rw [List.length_map] at this
  have := big_len p
  have : (big p).length * 74 ≤ 24 * 74 := Nat.mul_le_mul_right _ (by omega)
  omega
theorem vc_shown : ∀ ds Q, sp_shown ds Q → t_shown (fnEnds ds Q) (startD 3 ds) := by
  rintro ds Q ⟨p, rfl, hp, hl, h⟩
  change t_shown _ [some (.dat (tupN p)), none, none]
  unfold t_shown
  walk_at "pd"
  refine ⟨p, rfl, hp, hl, ?_⟩
  walk_at "pd"
  refine ⟨p, rfl, hp, hl, fun b => ?_⟩
  walk_at "pd"
  refine lc_filter (lotsP p) (fun one => .dat (tupN one)) (fun one => decide (1 < one.length)) (fun one => .str (brk (inner one))) (by unfold tupsL; rw [List.map_map]; rfl) (by have := lotsP_len p; omega) trivial ?_ fun a => ?_
  · intro one ho k1 k2 h1 h2
    obtain ⟨o1, o2, o3, o4⟩ := lot_ok hp ho
    unfold t_shown_c1
    walk_at "pd"
    by_cases hlen : 1 < one.length
    · rw [if_pos (by omega)]
      unfold t_shown_e2
      walk_at "pd"
      refine lc_all one (fun n : Nat => .dat (.int n)) (fun n => .str (dec n)) rfl (by omega) trivial ?_ fun c => ?_
      · intro y hy k3 hk
        have := o2 y hy
        walk_at "pd"
        exact ⟨by omega, hk _ rfl⟩
      · have e : one.map (fun n => PyData.str (dec n)) = (one.map dec).map .str := by rw [List.map_map]; rfl
        rw [e]
        refine joinLs (join_ok (by omega) fun y hy => by have := o2 y hy; omega) ?_
        walk_at "pd"
        have hi := inner_len (one := one) fun y hy => by have := o2 y hy; omega
        have hi' : (Txt.join (" " : Str) (one.map dec)).length ≤ one.length * 3 := hi
        refine ⟨by rw [len_open]; omega, by rw [len_app, len_open, len_close]; omega, ?_⟩
        exact h1 (by simpa using hlen) _ rfl
    · rw [if_neg (by omega)]
      exact h2 (by simpa using hlen) _ rfl
  · have e : ((lotsP p).filter fun one => decide (1 < one.length)).map (fun one => PyData.str (brk (inner one))) = ((big p).map fun one => brk (inner one)).map .str := by rw [List.map_map]; rfl
    rw [e]
    have hb := big_sum hp hl
    refine joinLs (by rw [len_non]; omega) ?_
    have ht := txt_len hp hl
    have hz : (Txt.join ("" : Str) ((big p).map fun one => brk (inner one))).length ≤ 2000 ∧ (big p = [] ↔ (Txt.join ("" : Str) ((big p).map fun one => brk (inner one))).length = 0) := by
      by_cases hB : big p = []
      · rw [hB, List.map_nil, join_nil, len_non]; exact ⟨by omega, by simp⟩
      · have e1 : txt p = Txt.join ("" : Str) ((big p).map fun one => brk (inner one)) := by unfold txt; rw [if_neg hB]
        rw [← e1]
        refine ⟨ht, ?_⟩
        constructor
        · intro h; exact absurd h hB
        · intro h
          rw [txt_big hB, len_brk] at h; omega
    walk_at "pd"
    refine orS (by omega) (fun h0 => ?_) fun h0 => ?_
    · have hB : ¬ big p = [] := fun e => h0 (hz.2.mp e)
      have e1 : txt p = Txt.join ("" : Str) ((big p).map fun one => brk (inner one)) := by unfold txt; rw [if_neg hB]
      rw [← e1]
      exact rt1 h
    · have hB := hz.2.mpr h0
      walk_at "pd"
      rw [txt_two hB] at h
      exact rt1 h
theorem read_round {E : PEnds} {o0 o1 o3 o5 o6 o7 o8 : Option D} {c b : Addr} {out one : List Nat} (h0 : one ≠ []) (hb : ∀ y ∈ one, y < out.length)
    (hq : ∀ o5 o6, E.nx [o0, o1, some (.lst c (intsL (setR out one))), o3, some (.lst b (intsL one)), o5, o6, o7, o8]) :
    t_read_r2 E [o0, o1, some (.lst c (intsL out)), o3, some (.lst b (intsL one)), o5, o6, o7, o8] := by
  unfold t_read_r2
  walk_at "pd"
  have hp : 0 < one.length := List.length_pos_iff.mpr h0
  refine enoX ⟨rfl, _, rfl, rfl⟩ ?_
  refine for_pre (List.range one.length) (fun i => .pr (.int (i : Nat)) (.int (ap one i : Nat))) (fun pre s => ∃ (o5 o6 : Option D), s = [o0, o1, some (.lst c (intsL (pre.foldl (stepR one) out))), o3, some (.lst b (intsL one)), o5, o6, o7, o8])
    (enum_ints one) ⟨_, _, rfl⟩ (fun pre s ⟨_, _, e⟩ => by subst e; exact ⟨rfl, _, rfl, rfl⟩) ?_ ?_
  · rintro pre x post s e ⟨o5, o6, rfl⟩
    have hx : x < one.length := List.mem_range.mp (by rw [e]; simp)
    unfold t_read_b1
    walk_at "pd"
    refine ⟨by omega, .int (ap one ((x + 1) % one.length) : Nat), ?_, ap one x, ixN_nat (by rw [foldR_len]; exact hb _ (ap_mem hx)), some (.dat (.int (x : Nat))), some (.dat (.int (ap one x : Nat))), ?_⟩
    · rw [show ((x : Int) + 1) % (one.length : Int) = (((x + 1) % one.length : Nat) : Int) from by rw [Int.natCast_emod]; rfl]
      exact atI_ints.mpr ⟨_, ap_get (Nat.mod_lt _ hp), rfl⟩
    · rw [intsL_set, List.foldl_append]; rfl
  · rintro s ⟨o5, o6, rfl⟩
    exact hq _ _
theorem big_two {p : List Nat} (hp : IsP p) (hB : big p ≠ []) : txt p ≠ ("()" : Str) := by
  rw [txt_big hB]
  intro e
  have := congrArg Str.length e
  rw [len_brk, len_two] at this
  have h2 := join_len (")(" : Str) (l := (big p).map inner) (by simpa using hB)
  obtain ⟨one, ho⟩ := List.exists_mem_of_ne_nil _ hB
  have h3 := mem_sum (List.mem_map.mpr ⟨inner one, List.mem_map.mpr ⟨one, ho, rfl⟩, rfl⟩ : (inner one).length ∈ ((big p).map inner).map (·.length))
  have hl := (mem_big ho).2
  have h4 := join_len (" " : Str) (l := one.map dec) (by intro e; rw [List.map_eq_nil_iff] at e; rw [e] at hl; simp at hl)
  rw [List.length_map, len_bl] at h4
  rw [List.length_map, len_mid] at h2
  have h5 : (inner one).length = (Txt.join (" " : Str) (one.map dec)).length := rfl
  have : 0 < (big p).length := List.length_pos_iff.mpr hB
  omega
theorem read_end {p : List Nat} (hp : IsP p) (hl : p.length ≤ 24) {Q : D → List D → Prop} {c : Addr} {o3 o4 o5 o6 o7 o8 : Option D} (h : Q (.dat (tupN p)) [.dat (.int (p.length : Nat)), .dat (.str (txt p))]) :
    t_read_r4 (fnEnds [.dat (.int (p.length : Nat)), .dat (.str (txt p))] Q) [some (.dat (.int (p.length : Nat))), some (.dat (.str (txt p))), some (.lst c (intsL p)), o3, o4, o5, o6, o7, o8] := by
  unfold t_read_r4
  walk_at "pd"
  refine ⟨p, rfl, hl, hp.lt, ?_⟩
  rw [decide_eq_true hp.nd]
  walk_at "pd"
  refine ⟨p, rfl, hp, hl, ?_⟩
  walk_at "pd"
  refine ⟨sok_txt p, sok_txt p, ?_⟩
  exact rt2 h
theorem vc_read : ∀ ds Q, sp_read ds Q → t_read (fnEnds ds Q) (startD 9 ds) := by
  rintro ds Q ⟨p, rfl, hp, hl, h⟩
  change t_read _ [some (.dat (.int (p.length : Nat))), some (.dat (.str (txt p))), none, none, none, none, none, none, none]
  have hs : Txt.startswith (txt p) ("(" : Str) = true := by obtain ⟨s, e⟩ := txt_brk p; rw [e]; exact starts_brk s
  have he : Txt.endswith (txt p) (")" : Str) = true := by obtain ⟨s, e⟩ := txt_brk p; rw [e]; exact ends_brk s
  have ht := txt_len hp hl
  unfold t_read
  walk_at "pd"
  rw [hs, he]
  walk_at "pd"
  unfold t_read_r5
  walk_at "pd"
  refine ⟨⟨by omega, by omega⟩, fun c => ?_⟩
  rw [upto_nat]
  refine ⟨sok_txt p, sok_two, ?_⟩
  by_cases hB : big p = []
  · rw [if_neg (by rw [txt_two hB]; simp)]
    have e : List.range p.length = p := by
      have := read_back hp
      rw [hB] at this; exact this
    rw [e]
    exact read_end hp hl h
  · rw [if_pos (by simpa using big_two hp hB)]
    walk_at "pd"
    refine ⟨by omega, by rw [len_mid]; omega, ?_, fun d => ?_⟩
    · exact Nat.le_trans (cutS_length _ _ _) (by omega)
    rw [show cutS (txt p) (some 1) (some (-1)) = Txt.join (")(" : Str) ((big p).map inner) from by rw [txt_big hB, cut_mid], split_parts hB]
    refine for_pre (big p) (fun one => .dat (.str (inner one))) (fun pre s => ∃ (o3 o4 o5 o6 o7 o8 : Option D), s = [some (.dat (.int (p.length : Nat))), some (.dat (.str (txt p))), some (.lst c (intsL (pre.foldl setR (List.range p.length)))), o3, o4, o5, o6, o7, o8])
      (by rw [List.map_map, List.map_map]; rfl) ⟨_, _, _, _, _, _, rfl⟩ (fun _ _ _ => trivial) ?_ ?_
    · rintro pre one post s e ⟨o3, o4, o5, o6, o7, o8, rfl⟩
      have hone : one ∈ big p := by rw [e]; simp
      obtain ⟨h1, h2, h3, h4⟩ := lot_ok hp (mem_big hone).1
      have hlen := inner_len (one := one) fun y hy => by have := h2 y hy; omega
      walk_at "pd"
      unfold t_read_b3
      walk_at "pd"
      refine ⟨by rw [len_bl]; omega, by omega, fun f => ?_⟩
      rw [split_words h4]
      refine lc_all one (fun x => .dat (.str (dec x))) (fun x => .int (x : Nat)) (by rw [List.map_map, List.map_map]; rfl) (by omega) trivial ?_ fun g => ?_
      · intro y hy k1 hk
        have := h2 y hy
        walk_at "pd"
        refine ⟨p.length, y, rfl, this, hl, ?_⟩
        walk_at "pd"
        exact hk _ rfl
      · exact read_round (c := c) (b := g) (out := pre.foldl setR (List.range p.length)) (one := one) h4 (fun y hy => by rw [foldS_len, List.length_range]; exact h2 y hy) fun o5 o6 => ⟨_, _, _, _, _, _, by rw [List.foldl_append]; rfl⟩
    · rintro s ⟨o3, o4, o5, o6, o7, o8, rfl⟩
      rw [read_back hp]
      exact read_end hp hl h
theorem big_range (n : Nat) : big (List.range n) = [] := by
  refine Classical.byContradiction fun hB => ?_
  obtain ⟨one, ho⟩ := List.exists_mem_of_ne_nil _ hB
  obtain ⟨h1, h2, h3⟩ := big_ok (isP_range n) ho
  have hl := (mem_big ho).2
  have h0 : 0 < one.length := by omega
  have hm := ap_mem h0
  have e := h3 _ hm
  have hlt := h2 _ hm
  rw [List.length_range] at hlt
  rw [ap_range hlt] at e
  unfold nxt at e
  rw [idx_ap h1 h0, Nat.mod_eq_of_lt (by omega : 0 + 1 < one.length)] at e
  have a := ap_get h0
  have b := ap_get (p := one) (x := 0 + 1) (by omega)
  rw [e] at b
  have := (List.getElem?_inj h0 h1).mp (a.trans b.symm)
  omega
theorem isiStr {v : PyData} {ds : PSt} {Q : D → PSt → Prop} (h1 : ∀ s, v ≠ .str s) (h2 : ∀ s, v ≠ .dict s) : sIsi [.dat v, .raw (.ty "str")] ds Q ↔ Q (.dat (.bool false)) ds := by
  cases v with
  | none => exact isi_of (S := "NoneType") (fun _ => Iff.rfl) (by decide +kernel) (by decide +kernel)
  | bool b => exact isi_of (S := "bool") (fun _ => Iff.rfl) (by decide +kernel) (by decide +kernel)
  | int b => exact isi_of (S := "int") (fun _ => Iff.rfl) (by decide +kernel) (by decide +kernel)
  | str b => exact absurd rfl (h1 b)
  | tuple b => exact isi_of (S := "tuple") (fun _ => Iff.rfl) (by decide +kernel) (by decide +kernel)
  | list b => exact isi_of (S := "list") (fun _ => Iff.rfl) (by decide +kernel) (by decide +kernel)
  | dict b => exact absurd rfl (h2 b)
theorem vcx_read : ∀ ds m, sx_read ds m → tx_read (fun k => k = m) noE (startD 9 ds) := by
  rintro ds m ⟨n, v, rfl, hn, hv, hno, rfl⟩
  change tx_read _ _ [some (.dat (.int (n : Nat))), some (.dat v), none, none, none, none, none, none, none]
  unfold tx_read
  walk_at "pd"
  by_cases hstr : ∀ s, v ≠ .str s
  · rw [isiStr hstr (fun s e => by subst e; exact hv)]
    walk_at "pd"
    exact rfl
  obtain ⟨t, rfl⟩ : ∃ t, v = .str t := Classical.byContradiction fun h => hstr fun s e => h ⟨s, e⟩
  obtain ⟨hl, hs⟩ : t.length ≤ 3990 ∧ SOk t := hv
  walk_at "pd"
  by_cases h1 : Txt.startswith t ("(" : Str) = true
  rotate_left
  · rw [if_pos (by simpa using h1)]
    exact rfl
  rw [if_neg (by simpa using h1)]
  by_cases h2 : Txt.endswith t (")" : Str) = true
  rotate_left
  · rw [if_pos (by simpa using h2)]
    exact rfl
  rw [if_neg (by simpa using h2)]
  walk_at "pd"
  unfold tx_read_r6
  walk_at "pd"
  refine ⟨⟨by omega, by omega⟩, fun c => ?_⟩
  rw [upto_nat]
  refine ⟨hs, sok_two, ?_⟩
  have hne : t ≠ ("()" : Str) := fun e => hno (List.range n) ⟨isP_range n, List.length_range, by rw [e, txt_two (big_range n)]⟩
  rw [if_pos (by simpa using hne)]
  walk_at "pd"
  have hcl := cutS_length t (some 1) (some (-1))
  refine ⟨by omega, by rw [len_mid]; omega, by omega, fun d => ?_⟩
  have hb := split_bound (x := cutS t (some 1) (some (-1))) ok_mid.1 ok_mid.2
  have hso := sok_split (y := (")(" : Str)) (sok_cut (lo := some 1) (hi := some (-1)) hs)
  generalize Txt.split (cutS t (some 1) (some (-1))) (")(" : Str) = ps at hb hso
  refine for_pre ps (fun s => .dat (.str s)) (fun pre s => ∃ out : List Nat, out.length = n ∧ (∀ y ∈ out, y < n) ∧ ∃ (o3 o4 o5 o6 o7 o8 : Option D), s = [some (.dat (.int (n : Nat))), some (.dat (.str t)), some (.lst c (intsL out)), o3, o4, o5, o6, o7, o8])
      (by rw [List.map_map]; rfl) ⟨_, List.length_range, fun y hy => List.mem_range.mp hy, _, _, _, _, _, _, rfl⟩ (fun _ _ _ => trivial) ?_ ?_
  · rintro pre w post s e ⟨out, ho, hob, o3, o4, o5, o6, o7, o8, rfl⟩
    have hw : w ∈ ps := by rw [e]; simp
    have hwl := hb.2.2 w hw
    have hwb := split_bound (x := w) ok_bl.1 ok_bl.2
    have hwn := split_ne w ok_bl.1 ok_bl.2
    have hwo := sok_split (y := (" " : Str)) (hso w hw)
    walk_at "pd"
    unfold tx_read_b4
    walk_at "pd"
    refine ⟨by rw [len_bl]; omega, by omega, fun f => ?_⟩
    generalize Txt.split w (" " : Str) = ws at hwb hwn hwo
    refine ⟨by rw [List.length_map, List.length_map]; omega, fun i acc st => i ≤ ws.length ∧ ∃ L : List Nat, L.length = i ∧ (∀ y ∈ L, y < n) ∧ acc = intsL L ∧ st = [some (.dat (.int (n : Nat))), some (.dat (.str t)), some (.lst c (intsL out)), some (.dat (.str w)), o4, o5, o6, o7, o8],
      ⟨Nat.zero_le _, [], rfl, by simp, rfl, rfl⟩, fun i acc st _ ⟨_, L, hL, _, ea, _⟩ => ⟨trivial, by rw [ea, intsL_len, hL]; exact Nat.le_refl _⟩, ?_, ?_⟩
    · rintro i q acc st hq ⟨hi, L, hL, hLb, rfl, rfl⟩
      rw [List.getElem?_map, List.getElem?_map] at hq
      cases hx : ws[i]? with
      | none => rw [hx] at hq; cases hq
      | some u =>
        rw [hx] at hq
        cases hq
        have hlt : i < ws.length := (List.getElem?_eq_some_iff.mp hx).1
        have hu := hwo u (List.mem_of_getElem? hx)
        walk_at "pd"
        unfold tx_read_e1 tYesD
        dsimp only
        rw [if_pos rfl, w_ownB]
        by_cases hd : ∃ x, x < n ∧ dec x = u
        · obtain ⟨x, hxn, rfl⟩ := hd
          left
          walk_at "pd"
          refine ⟨n, x, rfl, hxn, hn, ?_⟩
          walk_at "pd"
          refine ⟨_, rfl, hlt, L ++ [x], by simp [hL], fun y hy => ?_, by rw [intsL_app]; rfl, rfl⟩
          rcases List.mem_append.mp hy with hy | hy
          · exact hLb y hy
          · rw [List.mem_singleton] at hy; rw [hy]; exact hxn
        · right
          rw [w_ownR]
          walk_at "pd"
          exact ⟨_, ⟨n, u, rfl, hn, hu, fun x hxn e => hd ⟨x, hxn, e⟩, rfl⟩, rfl⟩
    · rintro acc st ⟨_, L, hL, hLb, rfl, rfl⟩ g
      have hne : L ≠ [] := fun e => by
        rw [e] at hL
        exact hwn (List.length_eq_zero_iff.mp (by simpa using hL.symm))
      exact read_round (c := c) (b := g) (out := out) (one := L) hne (fun y hy => by rw [ho]; exact hLb y hy) fun o5 o6 => ⟨_, (setR_len _ _).trans ho, foldR_lt hne hLb _ _ hob, _, _, _, _, _, _, rfl⟩
  · rintro s ⟨out, ho, hob, o3, o4, o5, o6, o7, o8, rfl⟩
    unfold tx_read_r5
    walk_at "pd"
    refine ⟨out, by rw [ho], by omega, fun x hx => by rw [ho]; exact hob x hx, ?_⟩
    by_cases hnd : out.Nodup
    · rw [decide_eq_true hnd]
      walk_at "pd"
      have hp : IsP out := ⟨hnd, fun x hx => by rw [ho]; exact hob x hx⟩
      refine ⟨out, rfl, hp, by omega, ?_⟩
      walk_at "pd"
      refine ⟨sok_txt out, hs, ?_⟩
      rw [if_pos (by simpa using fun e => hno out ⟨hp, ho, by rw [e]⟩)]
      exact rfl
    · rw [decide_eq_false hnd]
      walk_at "pd"
      exact rfl

end PD
set_option Elab.async false
set_option linter.all false
set_option maxRecDepth 100000
set_option maxHeartbeats 2000000
namespace PD
open PySem L2
local macro_rules | `(tactic| walk_at "pd") => `(tactic| try simp only [w_var, w_strW, w_slS, w_stM, w_stStarts, w_stEnds, w_stSplit, w_join, w_orV, w_strI, w_dec, w_eqSS, w_neSS, w_isiS, w_truS, w_addS, w_lenS, w_enumX, w_strApp, w_c, w_raw, w_e2, w_sI, w_sIc, w_tBl, w_boolW, w_intW, w_tupW, w_eqL, w_neL, w_isN, w_isNotN, w_isBB, w_isNotBB, w_tupO, w_lstO, w_seq, w_seqT, w_seqN, w_seqLi, w_seqB, it_tup, it_list, it_lst, w_lenT, w_lenL, w_lenBL, w_lenBD, w_inDkB, w_inTup, w_tru, w_truB, w_truI, w_truT, w_truL, w_truN, w_and, w_or, w_not, w_eAnd, w_eOr, w_eNot, w_if, w_chain, w_aNil, w_aCons, w_tup, w_lst, w_mkT0, w_mkT1, w_mkT2, w_mkT3, w_mkL0, w_mkL1, w_mkL2, w_call, w_s1, w_intF, w_own, w_out, w_neg, w_addI, w_addT, w_addL, w_mulI, w_mulL, w_dict0, w_lend0, w_lendB, w_lendD, w_lendL, w_back0, w_backB, w_backD, w_backL, w_sl, w_slT, w_slL, w_oNone, w_oSome, w_tupRg, w_lstRg, w_lenSet, w_tix, w_bm, w_tyM, w_app, w_insert, w_extend, w_next, w_seqS, w_break, w_cont, w_drop, w_ret, w_ifS, w_never, w_asg, w_gN, w_gT, w_isT, w_isTD, w_isTP, w_gs0, w_gs1, w_par, w_par2, w_gSub', w_subL, w_subO, w_subK, w_for, w_while, w_lc, w_rg1, w_rg2, w_as1I, w_as2I, w_enum, w_enW, upS_nil, upS_it, seen_dat, seen_lst, seen_lsD, seen_dk, seen_bor, ok_dat, ok_lst, ok_lsD, ok_dk, ok_bor, root_lst, root_lsD, root_dk, root_ins, getP_nil, setP_nil, rdS, ld_dat, ld_lst, ld_lsD, ld_dk, ld_bor, ty_lst, ty_lsD, ty_dk, List.getElem?_cons_zero, List.getElem?_cons_succ, List.set_cons_zero, List.set_cons_succ, Option.some.injEq, exists_eq_left', exists_eq_left, true_and, and_true, List.length_cons, List.length_nil, Nat.ble_eq, Nat.zero_add, Nat.reduceAdd, Nat.reduceLeDiff, List.map_cons, List.map_nil, ite_true, ite_false, Bool.false_eq_true, if_false, if_true, Bool.not_true, Bool.not_false, exists_eq, wipeD, Bool.and_true, Bool.and_false, Bool.or_true, Bool.or_false, decide_eq_true_eq, decide_true, decide_false, w_lenN, w_seqTN, w_ixN, w_eqNN, w_neNN, w_eqTT, w_neTT, w_eqII, w_neII, w_isiI, w_isiB, w_isiT, w_isiTN, w_tupWN, w_truTN, w_enWN, w_ixBL, w_ixL, w_ixO, w_ixK, w_ixT, tupN_of, intsL_len, Bool.not_eq_true', decide_eq_false_iff_not, not_true, not_false_iff, and_self, eq_self, ix4_0, ix4_1, ix4_2, ix4_3, getP_it1, w_mkLbox, List.nil_append, Bool.true_eq_false, w_sum, w_sumTN, w_seqTT, w_slTN, cut_from, cut_upto, w_all, w_any, w_sortI])
open PM
theorem rtBL' {Q : D → List D → Prop} {d : D} {s : PSt} {a b : Addr} {xs xs' : List D} {ys : List PyData} (h : Q d [.lsD a xs', .lst b ys]) : (fnEnds [.lsD a xs, .lst b ys] Q).rt d (some (.lsD a xs') :: some (.lst b ys) :: s) :=
  ⟨[.lsD a xs', .lst b ys], ⟨_, _, rfl, .inr ⟨rfl, a, rfl, rfl⟩, _, [], rfl, .inr ⟨rfl, b, rfl, rfl⟩, rfl⟩, h⟩
theorem len__law_pickX : ∀ ds Q, sp__law_pickX ds Q → ds.length = 2 := by rintro ds Q ⟨_, _, _, _, rfl, _⟩; rfl
theorem len__law_text : ∀ ds Q, sp__law_text ds Q → ds.length = 1 := by rintro ds Q ⟨_, rfl, _⟩; rfl
theorem len__law_read : ∀ ds Q, sp__law_read ds Q → ds.length = 2 := by rintro ds Q ⟨_, _, rfl, _⟩; rfl
theorem len__law_figures : ∀ ds Q, sp__law_figures ds Q → ds.length = 2 := by rintro ds Q ⟨_, _, rfl, _⟩; rfl
theorem len__law_own : ∀ ds Q, sp__law_own ds Q → ds.length = 2 := by rintro ds Q ⟨_, _, rfl, _⟩; rfl
theorem len__law_bent : ∀ ds Q, sp__law_bent ds Q → ds.length = 2 := by rintro ds Q ⟨_, _, _, rfl, _⟩; rfl
theorem vc__law_pickX : ∀ ds Q, sp__law_pickX ds Q → t__law_pickX (fnEnds ds Q) (startD 2 ds) := by
  rintro ds Q ⟨a, b, xs, items, rfl, hb, hne, hl, h⟩
  change t__law_pickX _ [some (.lsD a xs), some (.lst b items)]
  have hpos : 0 < items.length := List.length_pos_iff.mpr hne
  unfold t__law_pickX
  walk_at "pd"
  refine ⟨a, xs, (items.length : Nat), rfl, hb, by omega, by omega, fun xs' v hb' h0 h1 => ?_⟩
  walk_at "pd"
  obtain ⟨j, rfl⟩ : ∃ j : Nat, v = (j : Int) := ⟨v.toNat, by omega⟩
  have hj : j < items.length := by omega
  refine ⟨items[j], ?_, rtBL' (h xs' _ hb' (List.getElem_mem hj))⟩
  unfold atI
  rw [ixN_nat hj]
  exact List.getElem?_eq_getElem hj
theorem vc__law_figures : ∀ ds Q, sp__law_figures ds Q → t__law_figures (fnEnds ds Q) (startD 4 ds) := by
  rintro ds Q ⟨n, t, rfl, hn, hs, h⟩
  change t__law_figures _ [some (.dat (.int (n : Nat))), some (.dat (.str t)), none, none]
  unfold t__law_figures
  walk_at "pd"
  refine ⟨⟨by omega, by omega⟩, ?_⟩
  rw [upto_natD]
  refine lc_filter (List.range n) (fun i : Nat => .dat (.int (i : Nat))) (fun i => decide (dec i = t)) (fun i => .int (i : Nat)) rfl (by rw [List.length_range]; omega) trivial ?_ fun a => ?_
  · intro i hi k1 k2 h1 h2
    have := List.mem_range.mp hi
    unfold t__law_figures_c1
    walk_at "pd"
    refine ⟨by omega, sok_dec _, hs, ?_⟩
    by_cases hd : dec i = t
    · rw [if_pos hd]
      exact h1 (by simpa using hd) _ rfl
    · rw [if_neg hd]
      exact h2 (by simpa using hd) _ rfl
  · rcases h with ⟨x, hx, rfl, h⟩ | ⟨ht, h⟩
    · rw [find_dec hx]
      unfold t__law_figures_r2
      walk_at "pd"
      rw [if_pos (by simp)]
      refine ⟨_, rfl, ?_⟩
      exact rt2 h
    · rw [find_none ht]
      unfold t__law_figures_r2
      walk_at "pd"
      rw [if_neg (by simp)]
      exact rt2 h
/-! ### the law's own text -/
def bigTo (p pre : List Nat) : List (List Nat) := (lotsTo p.length (ap p) pre).filter fun one => decide (1 < one.length)
def txtTo (p pre : List Nat) : Str := Txt.join ("" : Str) ((bigTo p pre).map fun one => brk (inner one))
theorem join_snoc (l : List Str) (s : Str) : Txt.join ("" : Str) (l ++ [brk s]) = Txt.join ("" : Str) l ++ ("(" : Str) ++ s ++ (")" : Str) := by
  refine TL.ext_tl ?_
  rw [tl_joinT, tl_non, joinL_non, TL.tl_append, TL.tl_append, TL.tl_append, tl_joinT, tl_non, joinL_non, List.map_append, List.flatten_append, tl_open, tl_close, List.map_cons, List.map_nil, List.flatten_cons, List.flatten_nil, List.append_nil, tl_brk]
  simp
theorem txtTo_len {p pre : List Nat} (hp : IsP p) (hl : p.length ≤ 24) (hpre : pre.length ≤ 24) (hlt : ∀ y ∈ pre, y < p.length) : (txtTo p pre).length ≤ 1776 := by
  unfold txtTo
  by_cases h : bigTo p pre = []
  · rw [h, List.map_nil, join_nil, len_non]; omega
  have e := join_len ("" : Str) (l := (bigTo p pre).map fun one => brk (inner one)) (by simpa using h)
  rw [len_non, Nat.mul_zero, List.map_map] at e
  have h2 := sum_le (l := (bigTo p pre).map ((·.length) ∘ fun one => brk (inner one))) (k := 74) fun x hx => by
    obtain ⟨one, ho, rfl⟩ := List.mem_map.mp hx
    have ho := (List.mem_filter.mp ho).1
    unfold lotsTo at ho
    obtain ⟨y, hy, rfl⟩ := List.mem_map.mp ho
    have hy := hlt y (List.mem_filter.mp hy).1
    have T := hp.trn
    have h3 := php _ _ (T.cyc_nodup hy) fun z hz => T.cyc_lt hy hz
    show (brk (inner _)).length ≤ 74
    rw [len_brk]
    have := inner_len (one := cyc p.length (ap p) y) fun z hz => by have := T.cyc_lt hy hz; omega
    omega
  rw [List.length_map] at h2
  have h3 : (bigTo p pre).length ≤ pre.length := by
    refine Nat.le_trans (List.length_filter_le _ _) ?_
    unfold lotsTo
    rw [List.length_map]
    exact List.length_filter_le _ _
  have : (bigTo p pre).length * 74 ≤ 24 * 74 := Nat.mul_le_mul_right _ (by omega)
  omega
theorem vc__law_text : ∀ ds Q, sp__law_text ds Q → t__law_text (fnEnds ds Q) (startD 5 ds) := by
  rintro ds Q ⟨p, rfl, hp, hl, h⟩
  change t__law_text _ [some (.dat (tupN p)), none, none, none, none]
  unfold t__law_text
  walk_at "pd"
  intro b
  refine ⟨⟨by omega, by omega⟩, ?_⟩
  have T := hp.trn
  rw [upto_natD]
  refine for_pre (List.range p.length) (fun i => .dat (.int (i : Nat))) (fun pre s => ∃ (o3 o4 : Option D), s = [some (.dat (tupN p)), some (.dat (.str (txtTo p pre))), some (.dk b (dkN (lotsTo p.length (ap p) pre).flatten)), o3, o4])
    rfl ⟨none, none, by unfold txtTo bigTo lotsTo; rw [List.filter_nil, List.map_nil, List.filter_nil, List.map_nil, join_nil]; rfl⟩ (fun _ _ _ => trivial) ?_ ?_
  · rintro pre x post s e ⟨o3, o4, rfl⟩
    have hx : x < p.length := List.mem_range.mp (by rw [e]; simp)
    have hlt : ∀ y ∈ pre, y < p.length := fun y hy => List.mem_range.mp (by rw [e]; simp [hy])
    have hsort : (pre ++ x :: post).Pairwise (· < ·) := by rw [← e]; exact List.pairwise_lt_range
    have hpx : ∀ y ∈ pre, y < x := fun y hy => (List.pairwise_append.mp hsort).2.2 y hy x List.mem_cons_self
    have hpre : ∀ y, y < x → y ∈ pre := fun y hy => by
      have : y ∈ pre ++ x :: post := by rw [← e]; exact List.mem_range.mpr (by omega)
      rcases List.mem_append.mp this with h | h
      · exact h
      · rcases List.mem_cons.mp h with h | h
        · omega
        · have := (List.pairwise_cons.mp (List.pairwise_append.mp hsort).2.1).1 y h
          omega
    have hpl : pre.length < p.length := by
      have := congrArg List.length e
      simp at this; omega
    have htl := txtTo_len (pre := pre) hp hl (by omega) hlt
    unfold t__law_text_b3
    walk_at "pd"
    intro a
    by_cases hs : x ∈ (lotsTo p.length (ap p) pre).flatten
    · obtain ⟨y, h1, h2, h3⟩ := (seen_iff T hlt).mp hs
      have hnl : least p.length (ap p) x = false := by
        refine Bool.eq_false_iff.mpr fun q => ?_
        have := T.least_uniq (hlt y h1) q h2 h3
        have := hpx y h1
        omega
      have e2 : lotsTo p.length (ap p) (pre ++ [x]) = lotsTo p.length (ap p) pre := by unfold lotsTo; rw [List.filter_append]; simp [hnl]
      have e3 : txtTo p (pre ++ [x]) = txtTo p pre := by unfold txtTo bigTo; rw [e2]
      rw [e2, e3]
      refine ⟨fun k s => s = [some (.dat (tupN p)), some (.dat (.str (txtTo p pre))), some (.dk b (dkN (lotsTo p.length (ap p) pre).flatten)), some (.dat (.int (x : Nat))), some (.lst a [])], ⟨0, rfl⟩, ?_⟩
      rintro k s rfl
      walk_at "pd"
      rw [look_dkN, if_neg (by simp [hs])]
      unfold t__law_text_r2
      walk_at "pd"
      rw [if_neg (by simp)]
      exact ⟨_, _, rfl⟩
    · have hle : least p.length (ap p) x = true := by
        obtain ⟨m, h1, h2⟩ := T.ex_least x hx
        by_cases hm : m = x
        · subst hm; exact h2
        · have hmx : m ≤ x := least_iff.mp h2 x (T.back hx h1)
          exact absurd ((seen_iff T hlt).mpr ⟨m, hpre m (by omega), h2, T.back hx h1⟩) hs
      have e2 : lotsTo p.length (ap p) (pre ++ [x]) = lotsTo p.length (ap p) pre ++ [cyc p.length (ap p) x] := by unfold lotsTo; rw [List.filter_append, List.map_append]; simp [hle]
      rw [e2]
      generalize hS : (lotsTo p.length (ap p) pre).flatten = S at hs
      have hbound : S.length + per p.length (ap p) x ≤ p.length := by
        have nd := T.flat_nodup (hs := (pre ++ [x]).filter (least p.length (ap p))) (fun y hy => by
          obtain ⟨h1, h2⟩ := List.mem_filter.mp hy
          refine ⟨?_, h2⟩
          rcases List.mem_append.mp h1 with h | h
          · exact hlt y h
          · obtain rfl : y = x := by simpa using h
            exact hx) ((hsort.sublist (by simp)).imp (fun h => Nat.ne_of_lt h) |>.filter _)
        have := php p.length _ nd fun y hy => by
          obtain ⟨l, hl, hy⟩ := List.mem_flatten.mp hy
          obtain ⟨z, hz, rfl⟩ := List.mem_map.mp hl
          have hz' := (List.mem_filter.mp hz).1
          refine T.cyc_lt ?_ hy
          rcases List.mem_append.mp hz' with h | h
          · exact hlt z h
          · obtain rfl : z = x := by simpa using h
            exact hx
        have e3 : ((pre ++ [x]).filter (least p.length (ap p))).map (cyc p.length (ap p)) = lotsTo p.length (ap p) pre ++ [cyc p.length (ap p) x] := e2
        rw [e3, List.flatten_append, List.length_append, hS] at this
        simpa [cyc_len] using this
      have hnotS : ∀ m, it (ap p) m x ∉ S := fun m q => hs (by
        rw [← hS] at q ⊢
        obtain ⟨y, h1, h2, h3⟩ := (seen_iff T hlt).mp q
        exact (seen_iff T hlt).mpr ⟨y, h1, h2, T.cyc_trans (hlt y h1) h3 (T.back hx ((T.mem_cyc hx).mpr ⟨m, rfl⟩))⟩)
      refine ⟨fun k s => ∃ m, k = per p.length (ap p) x - m ∧ m ≤ per p.length (ap p) x ∧ s = [some (.dat (tupN p)), some (.dat (.str (txtTo p pre))), some (.dk b (dkN (S ++ cycTo (ap p) x m))), some (.dat (.int (it (ap p) m x : Nat))), some (.lst a (((cycTo (ap p) x m).map dec).map .str))],
        ⟨_, 0, rfl, Nat.zero_le _, by simp [cycTo, it]⟩, ?_⟩
      rintro k s ⟨m, rfl, hm, rfl⟩
      walk_at "pd"
      rw [look_dkN]
      by_cases hlast : m = per p.length (ap p) x
      · have hin : it (ap p) m x ∈ S ++ cycTo (ap p) x m := by
          rw [hlast, (T.per_spec hx).1]
          exact List.mem_append_right _ (List.mem_map.mpr ⟨0, List.mem_range.mpr per_pos, rfl⟩)
        rw [if_neg (by simp [hin])]
        unfold t__law_text_r2
        walk_at "pd"
        have ec : cycTo (ap p) x m = cyc p.length (ap p) x := by rw [hlast]; rfl
        rw [ec, List.flatten_append, hS]
        rw [show [cyc p.length (ap p) x].flatten = cyc p.length (ap p) x by simp]
        have hcl := php _ _ (T.cyc_nodup hx) fun z hz => T.cyc_lt hx hz
        generalize hC : cyc p.length (ap p) x = C at *
        by_cases h1 : 1 < C.length
        · have e3 : txtTo p (pre ++ [x]) = txtTo p pre ++ ("(" : Str) ++ inner C ++ (")" : Str) := by
            unfold txtTo bigTo
            rw [e2, List.filter_append, List.map_append, List.filter_cons, if_pos (decide_eq_true h1), List.filter_nil, List.map_cons, List.map_nil, join_snoc]
          rw [if_pos (by simp only [List.length_map]; omega)]
          have hCb : ∀ y ∈ C, y < 100 := fun y hy => by rw [← hC] at hy; have := T.cyc_lt hx hy; omega
          have hi := inner_len hCb
          refine ⟨by rw [len_open]; omega, joinBs ⟨rfl, _, rfl, rfl⟩ (join_ok (by omega) hCb) ?_⟩
          walk_at "pd"
          have hi' : (Txt.join (" " : Str) (C.map dec)).length ≤ C.length * 3 := hi
          refine ⟨by rw [len_app, len_open]; omega, by rw [len_app, len_app, len_open, len_close]; omega, ?_⟩
          rw [e3]
          exact ⟨_, _, rfl⟩
        · have e3 : txtTo p (pre ++ [x]) = txtTo p pre := by
            unfold txtTo bigTo
            rw [e2, List.filter_append, List.filter_cons, if_neg (by simpa using h1), List.filter_nil, List.append_nil]
          rw [if_neg (by simp only [List.length_map]; omega), e3]
          exact ⟨_, _, rfl⟩
      · have hnin : it (ap p) m x ∉ S ++ cycTo (ap p) x m := by
          intro q
          rcases List.mem_append.mp q with q | q
          · exact hnotS m q
          · obtain ⟨i, hi, e4⟩ := List.mem_map.mp q
            have hi' := List.mem_range.mp hi
            exact (T.per_spec hx).2.2 (m - i) (by omega) (by omega) (T.cancel hx (by omega) e4)
        rw [if_pos (by simp [hnin])]
        unfold t__law_text_b1
        walk_at "pd"
        have hcm : (cycTo (ap p) x m).length = m := by unfold cycTo; simp
        have hTl : (S ++ cycTo (ap p) x m).length ≤ p.length := by
          rw [List.length_append]
          omega
        have hlt2 := T.it_lt hx m
        refine ⟨by rw [dkN_len]; omega, ?_⟩
        rw [store_dkN hnin]
        refine ⟨by omega, by rw [List.length_map, List.length_map]; omega, ?_⟩
        refine ⟨_, ap_get hlt2, per p.length (ap p) x - (m + 1), by omega, m + 1, rfl, by omega, ?_⟩
        rw [cycTo_succ, List.append_assoc, List.map_append, List.map_append]; rfl
  · rintro s ⟨o3, o4, rfl⟩
    unfold t__law_text_r4
    have htl := txtTo_len (pre := List.range p.length) hp hl (by rw [List.length_range]; omega) fun y hy => List.mem_range.mp hy
    have eb : bigTo p (List.range p.length) = big p := rfl
    walk_at "pd"
    refine ⟨by omega, ?_⟩
    by_cases hB : big p = []
    · have e0 : txtTo p (List.range p.length) = ("" : Str) := by unfold txtTo; rw [eb, hB, List.map_nil, join_nil]
      rw [if_neg (by rw [e0, len_non]; simp)]
      rw [txt_two hB] at h
      exact rt1 h
    · have e0 : txtTo p (List.range p.length) = txt p := by unfold txtTo txt; rw [eb, if_neg hB]
      rw [if_pos (by rw [e0, txt_big hB, len_brk]; simp), e0]
      exact rt1 h
theorem vc__law_read : ∀ ds Q, sp__law_read ds Q → t__law_read (fnEnds ds Q) (startD 2 ds) := by
  rintro ds Q ⟨n, v, rfl, hn, hv, h⟩
  change t__law_read _ [some (.dat (.int (n : Nat))), some (.dat v)]
  unfold t__law_read
  rw [w_try, w_ret]
  unfold eLst1
  dsimp only
  rw [w_ownT]
  rcases h with ⟨p, ⟨hp, hpl, rfl⟩, q⟩ | ⟨hno, q⟩
  · left
    walk_at "pd"
    refine ⟨p, by rw [hpl], hp, by omega, ?_⟩
    walk_at "pd"
    intro a
    exact rt2 (q a)
  · right
    walk_at "pd"
    refine ⟨fun x hx => ?_, "BadText", ⟨n, v, rfl, hn, hv, hno, rfl⟩, .inl ⟨rfl, ?_⟩⟩
    · rcases List.mem_cons.mp hx with rfl | hx
      · exact ⟨_, rfl⟩
      · rw [List.mem_singleton] at hx; exact ⟨_, hx⟩
    · walk_at "pd"
      exact rt2 q
/-! ### the law's own reading -/
theorem inner_inj {a b : List Nat} (ha : a ≠ []) (hb : b ≠ []) (h : inner a = inner b) : a = b := by
  have := split_words ha
  rw [h, split_words hb] at this
  exact (List.map_inj_right (fun x y e => dec_inj e)).mp this.symm
theorem inners_inj : ∀ {a b : List (List Nat)}, (∀ x ∈ a, x ≠ []) → (∀ x ∈ b, x ≠ []) → a.map inner = b.map inner → a = b
  | [], [], _, _, _ => rfl
  | [], _ :: _, _, _, h => by simp at h
  | _ :: _, [], _, _, h => by simp at h
  | x :: a, y :: b, ha, hb, h => by
    rw [List.map_cons, List.map_cons] at h
    injection h with h1 h2
    rw [inner_inj (ha x List.mem_cons_self) (hb y List.mem_cons_self) h1, inners_inj (fun z hz => ha z (List.mem_cons_of_mem _ hz)) (fun z hz => hb z (List.mem_cons_of_mem _ hz)) h2]
theorem big_ne {p : List Nat} : ∀ x ∈ big p, x ≠ [] := fun x hx e => by
  have := (mem_big hx).2
  rw [e] at this; simp at this
theorem txt_parts {p : List Nat} (hB : big p ≠ []) : Txt.split (cutS (txt p) (some 1) (some (-1))) (")(" : Str) = (big p).map inner := by
  rw [txt_big hB, cut_mid, split_parts hB]
theorem txt_inj {p q : List Nat} (hp : IsP p) (hq : IsP q) (hl : p.length = q.length) (h : txt p = txt q) : p = q := by
  have hb : big p = big q := by
    by_cases h1 : big p = []
    · by_cases h2 : big q = []
      · rw [h1, h2]
      · rw [txt_two h1] at h; exact absurd h.symm (big_two hq h2)
    · by_cases h2 : big q = []
      · rw [txt_two h2] at h; exact absurd h (big_two hp h1)
      · refine inners_inj big_ne big_ne ?_
        rw [← txt_parts h1, ← txt_parts h2, h]
  rw [← read_back hp, ← read_back hq, hb, hl]
def figL (n : Nat) (u : Str) : PyData := match (List.range n).find? (fun x => decide (dec x = u)) with
  | some x => .int (x : Nat)
  | none => .none
theorem fig_dec {n x : Nat} (h : x < n) : figL n (dec x) = .int (x : Nat) := by
  unfold figL
  cases e : (List.range n).find? (fun y => decide (dec y = dec x)) with
  | none => exact absurd (List.find?_eq_none.mp e x (List.mem_range.mpr h)) (by simp)
  | some y =>
    have := List.find?_some e
    rw [dec_inj (of_decide_eq_true this)]
theorem fig_none {n : Nat} {u : Str} (h : ∀ x, x < n → dec x ≠ u) : figL n u = .none := by
  unfold figL
  cases e : (List.range n).find? (fun y => decide (dec y = u)) with
  | none => rfl
  | some y =>
    have := List.find?_some e
    exact absurd (of_decide_eq_true this) (h y (List.mem_range.mp (List.mem_of_find?_eq_some e)))
theorem own_round {E : PEnds} {o0 o1 o3 o4 o6 o7 o8 : Option D} {c b : Addr} {out one : List Nat} (h0 : one ≠ []) (hl : one.length ≤ 24) (hb : ∀ y ∈ one, y < out.length)
    (hq : ∀ o6, E.nx [o0, o1, some (.lst c (intsL (setR out one))), o3, o4, some (.lst b (intsL one)), o6, o7, o8]) :
    ForW ((List.range one.length).map fun i : Nat => D.dat (.int (i : Nat))) (fun _ => True) (gN 6) t__law_own_b2 E [o0, o1, some (.lst c (intsL out)), o3, o4, some (.lst b (intsL one)), o6, o7, o8] := by
  have hp : 0 < one.length := List.length_pos_iff.mpr h0
  refine for_pre (List.range one.length) (fun i => .dat (.int (i : Nat))) (fun pre s => ∃ (o6 : Option D), s = [o0, o1, some (.lst c (intsL (pre.foldl (stepR one) out))), o3, o4, some (.lst b (intsL one)), o6, o7, o8])
    rfl ⟨_, rfl⟩ (fun _ _ _ => trivial) ?_ ?_
  · rintro pre x post s e ⟨o6, rfl⟩
    have hx : x < one.length := List.mem_range.mp (by rw [e]; simp)
    walk_at "pd"
    unfold t__law_own_b2
    walk_at "pd"
    refine ⟨by omega, .int (ap one ((x + 1) % one.length) : Nat), ?_, .int (ap one x : Nat), ?_, ?_⟩
    · rw [show ((x : Int) + 1) % (one.length : Int) = (((x + 1) % one.length : Nat) : Int) from by rw [Int.natCast_emod]; rfl]
      exact atI_ints.mpr ⟨_, ap_get (Nat.mod_lt _ hp), rfl⟩
    · exact atI_ints.mpr ⟨_, ap_get hx, rfl⟩
    · walk_at "pd"
      refine ⟨ap one x, ixN_nat (by rw [foldR_len]; exact hb _ (ap_mem hx)), some (.dat (.int (x : Nat))), ?_⟩
      rw [intsL_set, List.foldl_append]; rfl
  · rintro s ⟨o6, rfl⟩
    exact hq _
theorem inBs {neg : Bool} {p : PyData} {ds : PSt} {Q : D → PSt → Prop} {a b : Addr} {i : Nat} {π : List Stp} {xs : List PyData} (ok : SeeOk ds (.bor a i π (.lst b xs))) (h1 : flatP p = true) (h2 : xs.all flatP = true)
    (q : Q (.dat (.bool (if neg then !(xs.any fun z => PyData.eqv z p) else (xs.any fun z => PyData.eqv z p)))) ds) : sInN neg (.dat p) (.bor a i π (.lst b xs)) ds Q := w_in.mpr ⟨ok, .inl ⟨xs, rfl, h1, h2, q⟩⟩
theorem flat_fig (n : Nat) (ws : List Str) : (ws.map (figL n)).all flatP = true := by
  rw [List.all_eq_true]
  intro x hx
  obtain ⟨u, _, rfl⟩ := List.mem_map.mp hx
  unfold figL
  split <;> rfl
theorem words_of {n : Nat} : ∀ {ws : List Str}, (∀ y ∈ ws, ∃ x, x < n ∧ dec x = y) → ∃ L : List Nat, ws = L.map dec ∧ ∀ y ∈ L, y < n
  | [], _ => ⟨[], rfl, by simp⟩
  | w :: ws, h => by
    obtain ⟨x, hx, rfl⟩ := h w List.mem_cons_self
    obtain ⟨L, rfl, hL⟩ := words_of fun y hy => h y (List.mem_cons_of_mem _ hy)
    exact ⟨x :: L, rfl, fun y hy => (List.mem_cons.mp hy).elim (fun e => by rw [e]; exact hx) (hL y)⟩
theorem fig_ints {n : Nat} {L : List Nat} (h : ∀ y ∈ L, y < n) : (L.map dec).map (figL n) = intsL L := by
  rw [List.map_map]
  exact List.map_congr_left fun y hy => fig_dec (h y hy)
theorem any_none (L : List Nat) : ((intsL L).any fun z => PyData.eqv z .none) = false := by
  rw [List.any_eq_false]
  intro x hx
  obtain ⟨y, _, rfl⟩ := List.mem_map.mp hx
  simp [PyData.eqv]
theorem any_int (L : List Nat) (y : Nat) : ((intsL L).any fun z => PyData.eqv z (.int (y : Nat))) = decide (y ∈ L) := by
  induction L with
  | nil => simp [intsL]
  | cons a L ih =>
    unfold intsL at *
    rw [List.map_cons, List.any_cons, ih, eqv_int]
    by_cases h : a = y
    · subst h; simp
    · have : ¬ (a : Int) = y := by omega
      have h' : ¬ y = a := fun e => h e.symm
      simp [this, h']
theorem lt_cover {L : List Nat} {ks : List Int} (hk : ks.Nodup) (hm : ∀ k, k ∈ ks ↔ k ∈ L.map fun n : Nat => (n : Int)) : ((ks.length : Int) < L.length) ↔ ¬ L.Nodup := by
  have h1 := len_cover hk hm
  have h2 := sub_len hk (m := L.map fun n : Nat => (n : Int)) fun x hx => (hm x).mp hx
  rw [List.length_map] at h2
  have h3 : ((ks.length : Int) = L.length) ↔ L.Nodup := by
    constructor
    · intro e; rw [decide_eq_true e] at h1; exact of_decide_eq_true h1.symm
    · intro e; rw [decide_eq_true e] at h1; exact of_decide_eq_true h1
  constructor
  · intro h e; have := h3.mpr e; omega
  · intro h
    refine Classical.byContradiction fun hc => h (h3.mp ?_)
    omega
theorem mkT2L {ds : PSt} {Q : D → PSt → Prop} {a b : Addr} {xs ys : List PyData} : mkT [.lst a xs, .lst b ys] Q ds ↔ Q (.tpD [.lst a xs, .lst b ys]) ds := Iff.rfl
theorem vc__law_own : ∀ ds Q, sp__law_own ds Q → t__law_own (fnEnds ds Q) (startD 9 ds) := by
  rintro ds Q ⟨n, t, rfl, hn, htl, hs, h⟩
  change t__law_own _ [some (.dat (.int (n : Nat))), some (.dat (.str t)), none, none, none, none, none, none, none]
  have retN : (∀ p, ¬ Tells n (.str t) p) → Q (.dat .none) [.dat (.int (n : Nat)), .dat (.str t)] := fun hno => by
    rcases h with ⟨p, hp, _⟩ | ⟨_, q⟩
    · exact absurd hp (hno p)
    · exact q
  have retP : ∀ p, Tells n (.str t) p → ∀ a, Q (.lst a [tupN p]) [.dat (.int (n : Nat)), .dat (.str t)] := fun p hp => by
    rcases h with ⟨p', hp', q⟩ | ⟨hno, _⟩
    · obtain ⟨a1, a2, a3⟩ := hp
      obtain ⟨b1, b2, b3⟩ := hp'
      have e : txt p = txt p' := by rw [a3] at b3; exact PyData.str.inj b3
      rw [txt_inj a1 b1 (by omega) e]
      exact q
    · exact absurd hp (hno p)
  have tellT : ∀ {p}, Tells n (.str t) p → t = txt p := fun hp => PyData.str.inj hp.2.2
  unfold t__law_own
  walk_at "pd"
  refine ⟨hs, sok_two, ?_⟩
  by_cases h2 : t = ("()" : Str)
  · rw [if_pos (by simpa using h2)]
    walk_at "pd"
    refine ⟨⟨by omega, by omega⟩, ?_⟩
    walk_at "pd"
    intro a
    have := retP (List.range n) ⟨isP_range n, List.length_range, by rw [h2, txt_two (big_range n)]⟩ a
    rw [upto_nat]
    exact rt2 this
  rw [if_neg (by simpa using h2)]
  unfold t__law_own_r8
  walk_at "pd"
  refine ⟨by omega, sok_cut hs, sok_open, ?_⟩
  by_cases hh : cutS t none (some 1) = ("(" : Str)
  rotate_left
  · rw [if_pos (by simpa using hh)]
    refine rt2 (retN fun p hp => hh ?_)
    obtain ⟨s, e⟩ := txt_brk p
    rw [tellT hp, e, cut_head]
  rw [if_neg (by simpa using hh)]
  refine ⟨by omega, sok_cut hs, sok_close, ?_⟩
  by_cases hk : cutS t (some (-1)) none = (")" : Str)
  rotate_left
  · rw [if_pos (by simpa using hk)]
    refine rt2 (retN fun p hp => hk ?_)
    obtain ⟨s, e⟩ := txt_brk p
    rw [tellT hp, e, cut_last]
  rw [if_neg (by simpa using hk)]
  walk_at "pd"
  unfold t__law_own_r7
  walk_at "pd"
  refine ⟨⟨by omega, by omega⟩, fun c => ?_⟩
  rw [upto_nat]
  intro u
  rw [mkT2L]
  walk_at "pd"
  have hcl := cutS_length t (some 1) (some (-1))
  refine ⟨by omega, by rw [len_mid]; omega, by omega, fun d => ?_⟩
  have hbd := split_bound (x := cutS t (some 1) (some (-1))) ok_mid.1 ok_mid.2
  have hso := sok_split (y := (")(" : Str)) (sok_cut (lo := some 1) (hi := some (-1)) hs)
  have hps : ∀ p, Tells n (.str t) p → Txt.split (cutS t (some 1) (some (-1))) (")(" : Str) = (big p).map inner := fun p hp => by
    have e := tellT hp
    have hB : big p ≠ [] := fun hB => h2 (e.trans (txt_two hB))
    rw [e, txt_parts hB]
  generalize Txt.split (cutS t (some 1) (some (-1))) (")(" : Str) = ps at hbd hso hps
  refine for_pre ps (fun s => .dat (.str s)) (fun pre s => ∃ out used : List Nat, IsP out ∧ out.length = n ∧ (∀ y ∈ used, y < n) ∧ used.Nodup ∧ (∀ y, y < n → y ∉ used → ap out y = y) ∧
      (∀ p, Tells n (.str t) p → ∃ Ls rest, big p = Ls ++ rest ∧ pre = Ls.map inner ∧ used = Ls.flatten ∧ out = Ls.foldl setR (List.range n)) ∧
      ∃ (o4 o5 o6 o7 o8 : Option D), s = [some (.dat (.int (n : Nat))), some (.dat (.str t)), some (.lst c (intsL out)), some (.lst u (intsL used)), o4, o5, o6, o7, o8])
      (by rw [List.map_map]; rfl) ⟨_, [], isP_range n, List.length_range, by simp, List.nodup_nil, fun y hy _ => ap_range hy, fun p hp => ⟨[], big p, rfl, rfl, rfl, rfl⟩, _, _, _, _, _, rfl⟩ (fun _ _ _ => trivial) ?_ ?_
  · rintro pre w post s e ⟨out, used, ho, hol, hub, hun, hfix, htell, o4, o5, o6, o7, o8, rfl⟩
    have hw : w ∈ ps := by rw [e]; simp
    have hwl := hbd.2.2 w hw
    have hwb := split_bound (x := w) ok_bl.1 ok_bl.2
    have hwn := split_ne w ok_bl.1 ok_bl.2
    have hwo := sok_split (y := (" " : Str)) (hso w hw)
    have hone : ∀ p, Tells n (.str t) p → ∃ Ls one rest, big p = Ls ++ one :: rest ∧ pre = Ls.map inner ∧ used = Ls.flatten ∧ out = Ls.foldl setR (List.range n) ∧ Txt.split w (" " : Str) = one.map dec := fun p hp => by
      obtain ⟨Ls, rest, h1, h3, h4, h5⟩ := htell p hp
      have h6 := hps p hp
      rw [e, h1, h3, List.map_append] at h6
      have h7 := List.append_cancel_left h6
      cases rest with
      | nil => cases h7
      | cons one rest =>
        rw [List.map_cons] at h7
        injection h7 with h8 h9
        have hm : one ∈ big p := by rw [h1]; simp
        exact ⟨Ls, one, rest, h1, h3, h4, h5, by rw [h8, split_words (big_ne one hm)]⟩
    walk_at "pd"
    unfold t__law_own_b5
    walk_at "pd"
    refine ⟨by rw [len_bl]; omega, by omega, fun f => ?_⟩
    generalize Txt.split w (" " : Str) = ws at hwb hwn hwo hone
    refine lc_all ws (fun s => .dat (.str s)) (figL n) (by rw [List.map_map]; rfl) (by omega) trivial ?_ fun g => ?_
    · intro y hy k1 hk
      unfold t__law_own_e1
      walk_at "pd"
      refine ⟨n, y, rfl, hn, hwo y hy, ?_⟩
      by_cases hd : ∃ x, x < n ∧ dec x = y
      · obtain ⟨x, hx, rfl⟩ := hd
        refine .inl ⟨x, hx, rfl, ?_⟩
        walk_at "pd"
        have := hk [some (.dat (.int (n : Nat))), some (.dat (.str t)), some (.lst c (intsL out)), some (.lst u (intsL used)), some (.dat (.str w)), o5, o6, some (.dat (.str (dec x))), o8] rfl
        rw [fig_dec hx] at this
        exact this
      · have hd' : ∀ x, x < n → dec x ≠ y := fun x hx e => hd ⟨x, hx, e⟩
        refine .inr ⟨hd', ?_⟩
        walk_at "pd"
        have := hk [some (.dat (.int (n : Nat))), some (.dat (.str t)), some (.lst c (intsL out)), some (.lst u (intsL used)), some (.dat (.str w)), o5, o6, some (.dat (.str y)), o8] rfl
        rw [fig_none hd'] at this
        exact this
    · unfold t__law_own_r4
      walk_at "pd"
      refine inBs ⟨rfl, _, rfl, rfl⟩ rfl (flat_fig n ws) ?_
      by_cases hN : ∃ y ∈ ws, ∀ x, x < n → dec x ≠ y
      · obtain ⟨y, hy, hyn⟩ := hN
        rw [if_neg Bool.false_ne_true, show ((ws.map (figL n)).any fun z => PyData.eqv z .none) = true from List.any_eq_true.mpr ⟨figL n y, List.mem_map.mpr ⟨y, hy, rfl⟩, by rw [fig_none hyn]; simp [PyData.eqv]⟩]
        walk_at "pd"
        refine rt2 (retN fun p hp => ?_)
        obtain ⟨Ls, one, rest, h1, _, _, _, h5⟩ := hone p hp
        rw [h5] at hy
        obtain ⟨z, hz, rfl⟩ := List.mem_map.mp hy
        have hm : one ∈ big p := by rw [h1]; simp
        have := (big_ok hp.1 hm).2.1 z hz
        exact hyn z (by rw [← hp.2.1]; exact this) rfl
      obtain ⟨L, rfl, hL⟩ := words_of (n := n) (ws := ws) fun y hy => Classical.byContradiction fun hc => hN ⟨y, hy, fun x hx e => hc ⟨x, hx, e⟩⟩
      have hLone : ∀ p, Tells n (.str t) p → ∃ Ls rest, big p = Ls ++ L :: rest ∧ pre = Ls.map inner ∧ used = Ls.flatten ∧ out = Ls.foldl setR (List.range n) := fun p hp => by
        obtain ⟨Ls, one, rest, h1, h3, h4, h5, h6⟩ := hone p hp
        have : L = one := (List.map_inj_right (fun x y e => dec_inj e)).mp h6
        subst this
        exact ⟨Ls, rest, h1, h3, h4, h5⟩
      have hLl : L.length ≤ 3991 := by have := hwb.2.1; rw [List.length_map] at this; omega
      rw [fig_ints hL, any_none, if_neg Bool.false_ne_true]
      walk_at "pd"
      by_cases hlen : L.length < 2
      · rw [if_pos (by omega)]
        refine rt2 (retN fun p hp => ?_)
        obtain ⟨Ls, rest, h1, _⟩ := hLone p hp
        have hm : L ∈ big p := by rw [h1]; simp
        have := (mem_big hm).2
        omega
      rw [if_neg (by omega)]
      walk_at "pd"
      refine lc_filter L (fun y => .dat (.int (y : Nat))) (fun y => decide (y ∈ used)) (fun y => .int (y : Nat)) (by unfold intsL; rw [List.map_map]; rfl) (by omega) (by first | exact rfl | exact ⟨_, rfl⟩ | exact ⟨_, rfl, rfl⟩ | exact ⟨rfl, _, rfl, rfl⟩ | trace_state) ?_ fun q => ?_
      · intro y hy k1 k2 e1 e2
        walk_at "pd"
        refine inBs ⟨rfl, _, rfl, rfl⟩ rfl (flat_ints used) ?_
        rw [any_int, if_neg Bool.false_ne_true]
        walk_at "pd"
        by_cases hyu : y ∈ used
        · rw [if_pos hyu]; exact e1 (by simpa using hyu) _ rfl
        · rw [if_neg hyu]; exact e2 (by simpa using hyu) _ rfl
      · walk_at "pd"
        intro q2
        refine ⟨shaped_intsL _, shaped_intsL [], ?_⟩
        have eF : PyData.eqv (.list ((L.filter fun y => decide (y ∈ used)).map fun y : Nat => .int (y : Int))) (.list []) = decide (L.filter (fun y => decide (y ∈ used)) = []) := eqv_intsL _ []
        rw [eF]
        by_cases hF : L.filter (fun y => decide (y ∈ used)) = []
        rotate_left
        · rw [if_pos (by simpa using hF)]
          refine rt2 (retN fun p hp => ?_)
          obtain ⟨Ls, rest, h1, _, h4, _⟩ := hLone p hp
          obtain ⟨y, hy⟩ := List.exists_mem_of_ne_nil _ hF
          obtain ⟨hy1, hy2⟩ := List.mem_filter.mp hy
          have hnd := big_nodup hp.1
          rw [h1, List.flatten_append, List.flatten_cons] at hnd
          have hyu := of_decide_eq_true hy2
          rw [h4] at hyu
          exact (List.nodup_append.mp hnd).2.2 y hyu y (List.mem_append_left _ hy1) rfl
        rw [if_neg (by simp [hF])]
        have hdis : ∀ y ∈ L, y ∉ used := fun y hy => by simpa using List.filter_eq_nil_iff.mp hF y hy
        unfold eLenSetV
        walk_at "pd"
        refine ⟨g, L.map fun n : Nat => (n : Int), see_iff.mpr ⟨by rw [intsL_eq]; rfl, rfl, _, rfl, rfl⟩, by rw [List.length_map]; omega, fun ks hk1 hk2 => ?_⟩
        walk_at "pd"
        by_cases hnd : L.Nodup
        rotate_left
        · rw [if_pos ((lt_cover hk1 hk2).mpr hnd)]
          refine rt2 (retN fun p hp => ?_)
          obtain ⟨Ls, rest, h1, _⟩ := hLone p hp
          have hm : L ∈ big p := by rw [h1]; simp
          exact hnd (big_ok hp.1 hm).1
        rw [if_neg fun e => (lt_cover hk1 hk2).mp e hnd]
        have hL24 : L.length ≤ 24 := Nat.le_trans (php n L hnd hL) hn
        have hu24 : used.length ≤ 24 := Nat.le_trans (php n used hun hub) hn
        unfold t__law_own_r3
        walk_at "pd"
        refine .inl ⟨u, 3, [], intsL used, _, g, intsL L, rfl, rfl, see_iff.mpr ⟨rfl, rfl, _, rfl, rfl⟩, by rw [intsL_len, intsL_len]; omega, ?_⟩
        walk_at "pd"
        refine ⟨⟨by omega, by omega⟩, ?_⟩
        rw [upto_natD]
        have hL0 : L ≠ [] := fun e => by rw [e] at hlen; exact hlen (by simp)
        refine own_round hL0 hL24 (fun y hy => by rw [hol]; exact hL y hy) fun o6 => ?_
        have hLo : ∀ y ∈ L, y < out.length := fun y hy => by rw [hol]; exact hL y hy
        refine ⟨setR out L, used ++ L, setR_ok ho hnd hLo fun y hy => hfix y (hL y hy) (hdis y hy), (setR_len _ _).trans hol, fun y hy => (List.mem_append.mp hy).elim (hub y) (hL y),
          List.nodup_append.mpr ⟨hun, hnd, fun a ha b hb e => hdis b hb (by rw [← e]; exact ha)⟩, fun y hy hyn => ?_, fun p hp => ?_, _, _, _, _, _, by rw [intsL_app]⟩
        · rw [ap_setR hnd hLo, if_neg fun h => hyn (List.mem_append_right _ h)]
          exact hfix y hy fun h => hyn (List.mem_append_left _ h)
        · obtain ⟨Ls, rest, h1, h3, h4, h5⟩ := hLone p hp
          have hwi : w = inner L := by
            have h6 := hps p hp
            rw [e, h1, h3, List.map_append] at h6
            have h7 := List.append_cancel_left h6
            rw [List.map_cons] at h7
            injection h7
          exact ⟨Ls ++ [L], rest, by rw [h1]; simp, by rw [List.map_append, h3, hwi]; rfl, by rw [h4]; simp, by rw [h5, List.foldl_append]; rfl⟩
  · rintro s ⟨out, used, ho, hol, hub, hun, hfix, htell, o4, o5, o6, o7, o8, rfl⟩
    unfold t__law_own_r6
    walk_at "pd"
    refine ⟨out, rfl, ho, by omega, ?_⟩
    walk_at "pd"
    refine ⟨sok_txt out, hs, ?_⟩
    by_cases he : txt out = t
    · rw [if_pos (by simpa using he)]
      walk_at "pd"
      intro a
      exact rt2 (retP out ⟨ho, hol, by rw [he]⟩ a)
    · rw [if_neg (by simpa using he)]
      refine rt2 (retN fun p hp => he ?_)
      obtain ⟨Ls, rest, h1, h3, h4, h5⟩ := htell p hp
      have h6 := hps p hp
      rw [h3, h1] at h6
      have h7 : Ls.length = (Ls ++ rest).length := by have := congrArg List.length h6; simpa using this
      have h8 : rest = [] := by
        rw [List.length_append] at h7
        exact List.length_eq_zero_iff.mp (by omega)
      rw [h8, List.append_nil] at h1
      rw [tellT hp, ← read_back hp.1, h1, hp.2.1, h5]
theorem dats_map : ∀ ps : List PyData, dats (ps.map D.dat) = some ps
  | [] => rfl
  | p :: ps => by
    show (match dats (ps.map D.dat) with
      | some ps => some (p :: ps)
      | none => none) = _
    rw [dats_map ps]
theorem mkLd {ps : List PyData} {Q : D → PSt → Prop} {ds : PSt} : mkL (ps.map D.dat) Q ds ↔ ∀ a, Q (.lst a ps) ds := by
  unfold mkL
  rw [dats_map]
theorem mkTd {ps : List PyData} {Q : D → PSt → Prop} {ds : PSt} : mkT (ps.map D.dat) Q ds ↔ Q (.dat (.tuple ps)) ds := by
  unfold mkT
  rw [dats_map]
theorem pick_ok : ∀ s ∈ ["(", ")", " ", "0", "1", "2", "9", ")("], (Str.ofString s).length ≤ 2 ∧ SOk (Str.ofString s) := by
  unfold SOk
  decide +kernel
theorem vc__law_bent : ∀ ds Q, sp__law_bent ds Q → t__law_bent (fnEnds ds Q) (startD 4 ds) := by
  rintro ds Q ⟨a, xs, t, rfl, hb, htl, hs, h⟩
  change t__law_bent _ [some (.lsD a xs), some (.dat (.str t)), none, none]
  unfold t__law_bent
  walk_at "pd"
  refine ⟨by omega, a, xs, (t.length + 1 : Nat), rfl, hb, by omega, by omega, fun xs1 at' hb1 h0 h1 => ?_⟩
  walk_at "pd"
  refine ⟨a, xs1, 3, rfl, hb1, by omega, by omega, fun xs2 way hb2 h2 h3 => ?_⟩
  walk_at "pd"
  have hc := fun lo hi => cutS_length t lo hi
  by_cases hw : way = 0
  · rw [if_pos hw]
    walk_at "pd"
    refine ⟨by omega, by omega, by have := hc none (some at'); have := hc (some (at' + 1)) none; omega, ?_⟩
    refine rtO (h xs2 _ hb2 ?_ (sok_app (sok_cut hs) (sok_cut hs)))
    rw [len_app]
    have := hc none (some at'); have := hc (some (at' + 1)) none; omega
  · rw [if_neg hw]
    unfold t__law_bent_r1
    walk_at "pd"
    refine ⟨by omega, ?_⟩
    change mkL (List.map D.dat (["(", ")", " ", "0", "1", "2", "9", ")("].map fun s => PyData.str (Str.ofString s))) _ _
    rw [mkLd]
    intro b
    walk_at "pd"
    refine ⟨a, b, xs2, _, rfl, hb2, by simp, by simp, fun xs3 p hb3 hp => ?_⟩
    have hp : p ∈ ["(", ")", " ", "0", "1", "2", "9", ")("].map fun s => PyData.str (Str.ofString s) := hp
    obtain ⟨s, hs1, rfl⟩ := List.mem_map.mp hp
    obtain ⟨hs2, hs3⟩ := pick_ok s hs1
    walk_at "pd"
    have q1 := hc none (some at')
    have q2 := hc (some (at' + way - 1)) none
    refine ⟨by omega, by omega, by rw [len_app]; omega, ?_⟩
    refine rtO (h xs3 _ hb3 ?_ (sok_app (sok_app (sok_cut hs) hs3) (sok_cut hs)))
    rw [len_app, len_app]
    omega
end PD
set_option Elab.async false
set_option linter.all false
set_option maxRecDepth 100000
set_option maxHeartbeats 2000000
namespace PD
open PySem L2

open PM
section
variable {ds : PSt} {Q : D → PSt → Prop} {to te : TEP} {y z : Str} {a b : Addr} {i : Nat} {π : List Stp}
theorem w_repl : eRepl y z to ds Q ↔ to ds fun x ds1 => StrW x fun s => s.length + (s.length + 1) * z.length ≤ 16777216 ∧ Q (.dat (.str (Txt.replace s y z))) ds1 := Iff.rfl
theorem revVs {j : Nat} {xs : List PyData} (h : rdS ds j = some (.bor a i π (.lst b xs))) (ok : SeeOk ds (.bor a i π (.lst b xs))) (q : ∀ c, Q (.lst c xs.reverse) ds) : eRev (eVar j) ds Q :=
  ⟨_, h, _, xs, see_iff.mpr ⟨rfl, ok⟩, .inr ⟨b, rfl, q⟩⟩
end
theorem cutP_tail (xs : List PyData) : cutP xs (some 1) none = xs.drop 1 := by
  unfold cutP
  have e : HT.sIx xs.length 0 (some 1) = min 1 xs.length := rfl
  rw [e, show HT.sIx xs.length xs.length none = xs.length from rfl, show xs.drop (min 1 xs.length) = xs.drop 1 by cases xs <;> simp]
  exact List.take_of_length_le (by rw [List.length_drop]; omega)
theorem cutP_head (xs : List PyData) : cutP xs none (some 1) = xs.take 1 := by
  unfold cutP
  have e : HT.sIx xs.length xs.length (some 1) = min 1 xs.length := rfl
  rw [e, show HT.sIx xs.length 0 none = 0 from rfl, List.drop_zero, Nat.sub_zero]
  cases xs <;> simp
theorem len_perm {y : Str} {l m : List Str} (h : m.Perm l) : (Txt.join y m).length = (Txt.join y l).length := by
  by_cases hl : l = []
  · subst hl
    rw [List.perm_nil.mp h]
  · have hm : m ≠ [] := fun e => hl (by subst e; exact List.nil_perm.mp h)
    have e1 := join_len y hl
    have e2 := join_len y hm
    have e3 : (m.map (·.length)).sum = (l.map (·.length)).sum := (h.map _).sum_nat
    rw [h.length_eq, e3] at e2
    omega

local macro_rules | `(tactic| walk_at "pd") => `(tactic| try simp only [w_var, w_repl, w_strW, w_slS, w_stM, w_stStarts, w_stEnds, w_stSplit, w_join, w_orV, w_strI, w_dec, w_eqSS, w_neSS, w_isiS, w_truS, w_addS, w_lenS, w_enumX, w_strApp, w_c, w_raw, w_e2, w_sI, w_sIc, w_tBl, w_boolW, w_intW, w_tupW, w_eqL, w_neL, w_isN, w_isNotN, w_isBB, w_isNotBB, w_tupO, w_lstO, w_seq, w_seqT, w_seqN, w_seqLi, w_seqB, it_tup, it_list, it_lst, w_lenT, w_lenL, w_lenBL, w_lenBD, w_inDkB, w_inTup, w_tru, w_truB, w_truI, w_truT, w_truL, w_truN, w_and, w_or, w_not, w_eAnd, w_eOr, w_eNot, w_if, w_chain, w_aNil, w_aCons, w_tup, w_lst, w_mkT0, w_mkT1, w_mkT2, w_mkT3, w_mkL0, w_mkL1, w_mkL2, w_call, w_s1, w_intF, w_own, w_out, w_neg, w_addI, w_addT, w_addL, w_mulI, w_mulL, w_dict0, w_lend0, w_lendB, w_lendD, w_lendL, w_back0, w_backB, w_backD, w_backL, w_sl, w_slT, w_slL, w_oNone, w_oSome, w_tupRg, w_lstRg, w_lenSet, w_tix, w_bm, w_tyM, w_app, w_insert, w_extend, w_next, w_seqS, w_break, w_cont, w_drop, w_ret, w_ifS, w_never, w_asg, w_gN, w_gT, w_isT, w_isTD, w_isTP, w_gs0, w_gs1, w_par, w_par2, w_gSub', w_subL, w_subO, w_subK, w_for, w_while, w_lc, w_rg1, w_rg2, w_as1I, w_as2I, w_enum, w_enW, upS_nil, upS_it, seen_dat, seen_lst, seen_lsD, seen_dk, seen_bor, ok_dat, ok_lst, ok_lsD, ok_dk, ok_bor, root_lst, root_lsD, root_dk, root_ins, getP_nil, setP_nil, rdS, ld_dat, ld_lst, ld_lsD, ld_dk, ld_bor, ty_lst, ty_lsD, ty_dk, List.getElem?_cons_zero, List.getElem?_cons_succ, List.set_cons_zero, List.set_cons_succ, Option.some.injEq, exists_eq_left', exists_eq_left, true_and, and_true, List.length_cons, List.length_nil, Nat.ble_eq, Nat.zero_add, Nat.reduceAdd, Nat.reduceLeDiff, List.map_cons, List.map_nil, ite_true, ite_false, Bool.false_eq_true, if_false, if_true, Bool.not_true, Bool.not_false, exists_eq, wipeD, Bool.and_true, Bool.and_false, Bool.or_true, Bool.or_false, decide_eq_true_eq, decide_true, decide_false, w_lenN, w_seqTN, w_ixN, w_eqNN, w_neNN, w_eqTT, w_neTT, w_eqII, w_neII, w_isiI, w_isiB, w_isiT, w_isiTN, w_tupWN, w_truTN, w_enWN, w_ixBL, w_ixL, w_ixO, w_ixK, w_ixT, tupN_of, intsL_len, Bool.not_eq_true', decide_eq_false_iff_not, not_true, not_false_iff, and_self, eq_self, ix4_0, ix4_1, ix4_2, ix4_3, getP_it1, w_mkLbox, List.nil_append, Bool.true_eq_false, w_sum, w_sumTN, w_seqTT, w_slTN, cut_from, cut_upto, w_all, w_any, w_sortI])
def sp_law : SpD := fun as Q => ∃ (d : D) (ns : List Int), as = [d] ∧ (d = .dat (.list (ns.map .int)) ∨ ∃ a, d = .lst a (ns.map .int)) ∧ ns.length ≤ 63 ∧ Q (.dat (.bool true)) as
def t_law_b1 : TSP := (tIfD (tBl (e2 sNe (eOwn sp__law_read (aCons (eVar 2) (aCons (eVar 9) aNil))) (eOwn sp__law_own (aCons (eVar 2) (aCons (eVar 9) aNil))))) (tRetD (eC (.bool false))) tNextD)
def t_law_b2 : TSP := (tSeqD (tAsgD (eOwn sp__law_bent (aCons (eVar 1) (aCons (eVar 4) aNil))) (gN 9)) (tIfD (tBl (e2 sNe (eOwn sp__law_read (aCons (eVar 2) (aCons (eVar 9) aNil))) (eOwn sp__law_own (aCons (eVar 2) (aCons (eVar 9) aNil))))) (tRetD (eC (.bool false))) tNextD))
def t_law_r3 : TSP := (tRetD (e2 sIs (eOwn sp__law_read (aCons (eVar 2) (aCons (eOwn sp__law_pickX (aCons (eVar 1) (aCons (eLst (aCons (eC .none) (aCons (eC (.int 0)) (aCons (eVar 3) (aCons (eTup (aCons (eC (.str "()")) aNil)) (aCons (eFrz (eLst (aCons (eC (.str "()")) aNil))) aNil)))))) aNil))) aNil))) (eC .none)))
def t_law_r4 : TSP := (tSeqD (tForD (iRg1 (aCons (eC (.int 6)) aNil)) (gN 10) t_law_b2) t_law_r3)
def t_law_r5 : TSP := (tSeqD (tAsgD (eStM stSplit (eSlS (eVar 4) (oSome (eC (.int 1))) (oSome (eNeg (eC (.int 1))))) (eC (.str ")("))) (gN 5)) (tSeqD (tAsgD (e2 sAdd (e2 sAdd (eC (.str "(")) (eJoin (eC (.str ")(")) (eRev (eVar 5)))) (eC (.str ")"))) (gN 6)) (tSeqD (tAsgD (eStM stSplit (e2 sIx (eVar 5) (eC (.int 0))) (eC (.str " "))) (gN 7)) (tSeqD (tAsgD (e2 sAdd (e2 sAdd (eC (.str "(")) (eJoin (eC (.str ")(")) (e2 sAdd (eLst (aCons (eJoin (eC (.str " ")) (e2 sAdd (eSl (eVar 7) (oSome (eC (.int 1))) oNone) (eSl (eVar 7) oNone (oSome (eC (.int 1)))))) aNil)) (eSl (eVar 5) (oSome (eC (.int 1))) oNone)))) (eC (.str ")"))) (gN 8)) (tSeqD (tForD (iSeq (eTup (aCons (eVar 6) (aCons (eVar 8) (aCons (e2 sAdd (eVar 4) (eVar 4)) (aCons (eC (.str "")) (aCons (eC (.str "()()")) (aCons (eC (.str "(0)")) (aCons (e2 sAdd (eVar 4) (eC (.str " "))) (aCons (eRepl " " "," (eVar 4)) aNil)))))))))) (gN 9) t_law_b1) t_law_r4)))))
def t_law_r6 : TSP := (tSeqD (tAsgD (eOwn sp__law_pickX (aCons (eVar 1) (aCons (eLst (aCons (eC (.int 0)) (aCons (eC (.int 1)) (aCons (eC (.int 2)) (aCons (eC (.int 3)) (aCons (eC (.int 4)) (aCons (eC (.int 5)) (aCons (eC (.int 7)) (aCons (eC (.int 9)) (aCons (eC (.int 12)) (aCons (eC (.int 20)) aNil))))))))))) aNil))) (gN 2)) (tSeqD (tAsgD (eOwn sp__law_turning (aCons (eVar 1) (aCons (eVar 2) aNil))) (gN 3)) (tSeqD (tAsgD (eOwn sp__law_text (aCons (eVar 3) aNil)) (gN 4)) (tSeqD (tIfD (dOr (tBl (e2 sNe (eOwn sp_shown (aCons (eVar 3) aNil)) (eVar 4))) (tBl (e2 sNe (eOwn sp_read (aCons (eVar 2) (aCons (eVar 4) aNil))) (eVar 3)))) (tRetD (eC (.bool false))) tNextD) t_law_r5))))
def t_law : TSP := (tSeqD (tAsgD (eOwn sp__law_box (aCons (eVar 0) aNil)) (gN 1)) t_law_r6)
theorem atI_zero (a : PyData) (l : List PyData) : atI (a :: l) 0 = some a := by
  unfold atI
  rw [show (0 : Int) = ((0 : Nat) : Int) from rfl, ixN_nat (by simp)]; rfl
theorem reads_or (n : Nat) (v : PyData) : (∃ p, Tells n v p) ∨ ∀ p, ¬ Tells n v p := by
  by_cases h : ∃ p, Tells n v p
  · exact .inl h
  · exact .inr fun p hp => h ⟨p, hp⟩
theorem shaped_one (q : List Nat) : SeqAt.shaped (.list [tupN q]) = true := by
  have h1 := canLay_tups [q]
  have h2 := depth_tups [q]
  refine shaped_of ?_ ?_
  · show (PyData.list (tupsL [q])).canLay0 = true
    simpa [PyData.canLay0] using h1
  · show (PyData.list (tupsL [q])).depth ≤ 64
    simp only [PyData.depth]; omega
theorem shaped_non : SeqAt.shaped .none = true := shaped_of (by simp [PyData.canLay0]) (by simp [PyData.depth])
theorem same_ok {E : PEnds} {o0 o1 o3 o4 o5 o6 o7 o8 o10 : Option D} {n : Nat} {one : Str} (hn : n ≤ 24) (hl : one.length ≤ 3990) (hs : SOk one)
    (hq : E.nx [o0, o1, some (.dat (.int (n : Nat))), o3, o4, o5, o6, o7, o8, some (.dat (.str one)), o10]) :
    t_law_b1 E [o0, o1, some (.dat (.int (n : Nat))), o3, o4, o5, o6, o7, o8, some (.dat (.str one)), o10] := by
  unfold t_law_b1
  walk_at "pd"
  refine ⟨n, .str one, rfl, hn, ⟨hl, hs⟩, ?_⟩
  rcases reads_or n (.str one) with ⟨q, hq1⟩ | hno
  · refine .inl ⟨q, hq1, fun a => ?_⟩
    walk_at "pd"
    refine ⟨n, one, rfl, hn, hl, hs, .inl ⟨q, hq1, fun b => ?_⟩⟩
    walk_at "pd"
    refine ⟨shaped_one q, ?_⟩
    have e : PyData.eqv (.list [tupN q]) (.list [tupN q]) = true := by
      have := eqv_tups [q] [q]
      show PyData.eqvAll (tupsL [q]) (tupsL [q]) = true
      rw [this]; simp
    rw [e]
    walk_at "pd"
    exact ⟨shaped_one q, hq⟩
  · refine .inr ⟨hno, ?_⟩
    walk_at "pd"
    refine ⟨n, one, rfl, hn, hl, hs, .inr ⟨hno, ?_⟩⟩
    walk_at "pd"
    rw [w_ne]
    refine ⟨shaped_non, shaped_non, ?_⟩
    have e : PyData.eqv .none .none = true := by simp [PyData.eqv]
    rw [e]
    walk_at "pd"
    exact hq
theorem law_r3 {E : PEnds} {o0 o4 o5 o6 o7 o8 o9 o10 : Option D} {n : Nat} {p : List Nat} {b : Addr} {xs : List D} (hn : n ≤ 24) (hb : BoxOk xs) (hrt : ∀ s, E.rt (.dat (.bool true)) (o0 :: s)) :
    t_law_r3 E [o0, some (.lsD b xs), some (.dat (.int (n : Nat))), some (.dat (tupN p)), o4, o5, o6, o7, o8, o9, o10] := by
  unfold t_law_r3
  walk_at "pd"
  unfold eFrz
  walk_at "pd"
  intro a
  refine ⟨_, _, rfl, ?_⟩
  change mkL (List.map D.dat [.none, .int 0, tupN p, .tuple [.str ("()" : Str)], .list [.str ("()" : Str)]]) _ _
  rw [mkLd]
  intro c
  walk_at "pd"
  refine ⟨b, c, xs, _, rfl, hb, by simp, by simp, fun xs' v hb' hv => ?_⟩
  walk_at "pd"
  have hns : (∀ s, v ≠ .str s) ∧ ∀ s, v ≠ .dict s := by
    rcases List.mem_cons.mp hv with rfl | hv
    · exact ⟨fun s e => (nomatch e), fun s e => (nomatch e)⟩
    rcases List.mem_cons.mp hv with rfl | hv
    · exact ⟨fun s e => (nomatch e), fun s e => (nomatch e)⟩
    rcases List.mem_cons.mp hv with rfl | hv
    · exact ⟨fun s e => (nomatch e), fun s e => (nomatch e)⟩
    rcases List.mem_cons.mp hv with rfl | hv
    · exact ⟨fun s e => (nomatch e), fun s e => (nomatch e)⟩
    rw [List.mem_singleton] at hv
    subst hv
    exact ⟨fun s e => (nomatch e), fun s e => (nomatch e)⟩
  refine ⟨n, v, rfl, hn, ?_, .inr ⟨fun q hq => hns.1 _ hq.2.2, ?_⟩⟩
  · cases v with
    | str s => exact absurd rfl (hns.1 s)
    | dict s => exact absurd rfl (hns.2 s)
    | _ => trivial
  · walk_at "pd"
    exact hrt _
theorem law_r4 {E : PEnds} {o0 o5 o6 o7 o8 o9 o10 : Option D} {n : Nat} {p : List Nat} {t : Str} {b : Addr} {xs : List D} (hn : n ≤ 24) (hb : BoxOk xs) (ht : t.length ≤ 1776) (hs : SOk t) (hrt : ∀ s, E.rt (.dat (.bool true)) (o0 :: s)) :
    t_law_r4 E [o0, some (.lsD b xs), some (.dat (.int (n : Nat))), some (.dat (tupN p)), some (.dat (.str t)), o5, o6, o7, o8, o9, o10] := by
  unfold t_law_r4
  walk_at "pd"
  refine ⟨⟨by decide, by decide⟩, ?_⟩
  refine for_pre (upto 0 (6 : Int).toNat) (fun j => .dat (.int j)) (fun pre s => ∃ (xs' : List D) (o9 o10 : Option D), BoxOk xs' ∧ s = [o0, some (.lsD b xs'), some (.dat (.int (n : Nat))), some (.dat (tupN p)), some (.dat (.str t)), o5, o6, o7, o8, o9, o10])
    rfl ⟨xs, _, _, hb, rfl⟩ (fun _ _ _ => trivial) ?_ ?_
  · rintro pre x post s e ⟨xs1, o9, o10, hb1, rfl⟩
    walk_at "pd"
    change tSeqD (tAsgD (eOwn sp__law_bent (aCons (eVar 1) (aCons (eVar 4) aNil))) (gN 9)) t_law_b1 _ _
    walk_at "pd"
    refine ⟨b, xs1, t, rfl, hb1, ht, hs, fun xs2 t' hb2 hl2 hs2 => ?_⟩
    walk_at "pd"
    refine same_ok hn hl2 hs2 ?_
    exact ⟨xs2, _, _, hb2, rfl⟩
  · rintro s ⟨xs1, o9, o10, hb1, rfl⟩
    exact law_r3 hn hb1 hrt
theorem sok_lit : ∀ s ∈ ["", "()()", "(0)", " ", ","], SOk (Str.ofString s) ∧ (Str.ofString s).length ≤ 4 := by
  unfold SOk
  decide +kernel
theorem law_r5 {E : PEnds} {o0 o5 o6 o7 o8 o9 o10 : Option D} {n : Nat} {p : List Nat} {b : Addr} {xs : List D} (hn : n ≤ 24) (hp : IsP p) (hpl : p.length = n) (hb : BoxOk xs) (hrt : ∀ s, E.rt (.dat (.bool true)) (o0 :: s)) :
    t_law_r5 E [o0, some (.lsD b xs), some (.dat (.int (n : Nat))), some (.dat (tupN p)), some (.dat (.str (txt p))), o5, o6, o7, o8, o9, o10] := by
  have hl : p.length ≤ 24 := by omega
  have ht := txt_len' hp hl
  have hs := sok_txt p
  generalize hT : txt p = t at ht hs
  unfold t_law_r5
  walk_at "pd"
  have hcl := cutS_length t (some 1) (some (-1))
  refine ⟨by omega, by rw [len_mid]; omega, by omega, fun c => ?_⟩
  have hbd := split_bound (x := cutS t (some 1) (some (-1))) ok_mid.1 ok_mid.2
  have hso := sok_split (y := (")(" : Str)) (sok_cut (lo := some 1) (hi := some (-1)) hs)
  have hne := split_ne (cutS t (some 1) (some (-1))) ok_mid.1 ok_mid.2
  have hjl : (Txt.join (")(" : Str) (Txt.split (cutS t (some 1) (some (-1))) (")(" : Str))).length ≤ 1776 := by rw [split_back]; omega
  generalize Txt.split (cutS t (some 1) (some (-1))) (")(" : Str) = ps at hbd hso hne hjl
  have hpsum := hbd.1
  have hpl2 := hbd.2.1
  refine revVs rfl ⟨rfl, _, rfl, rfl⟩ fun c1 => ?_
  rw [← List.map_reverse]
  have hrl := len_perm (y := (")(" : Str)) (List.reverse_perm ps)
  refine joinLs (by rw [List.length_reverse, len_mid, List.map_reverse, List.sum_reverse]; omega) ?_
  have hro : SOk (Txt.join (")(" : Str) ps.reverse) := sok_join sok_mid fun z hz => hso z (List.mem_reverse.mp hz)
  generalize hR : Txt.join (")(" : Str) ps.reverse = r1 at hrl hro
  walk_at "pd"
  refine ⟨by rw [len_open]; omega, by rw [len_app, len_open, len_close]; omega, ?_⟩
  obtain ⟨p0, pr, rfl⟩ : ∃ p0 pr, ps = p0 :: pr := by
    cases ps with
    | nil => exact absurd rfl hne
    | cons a l => exact ⟨a, l, rfl⟩
  have hp0 := hbd.2.2 p0 List.mem_cons_self
  have hp0s := hso p0 List.mem_cons_self
  have hwb := split_bound (x := p0) ok_bl.1 ok_bl.2
  have hwj := split_back p0 (" " : Str)
  have hwo := sok_split (y := (" " : Str)) hp0s
  refine ⟨.str p0, atI_zero _ _, ?_⟩
  walk_at "pd"
  refine ⟨by rw [len_bl]; omega, by omega, fun c2 => ?_⟩
  generalize Txt.split p0 (" " : Str) = ws at hwb hwj hwo
  intro _ _
  rw [cutP_tail, cutP_head, ← List.map_drop, ← List.map_take]
  have hperm : (ws.drop 1 ++ ws.take 1).Perm ws := by
    refine (List.perm_append_comm).trans ?_
    rw [List.take_append_drop]
  have hq0 := len_perm (y := (" " : Str)) hperm
  rw [hwj] at hq0
  have hqs : SOk (Txt.join (" " : Str) (ws.drop 1 ++ ws.take 1)) := sok_join sok_bl fun z hz => hwo z (hperm.mem_iff.mp hz)
  have hsum : ((ws.drop 1 ++ ws.take 1).map (·.length)).sum = (ws.map (·.length)).sum := (hperm.map _).sum_nat
  have hlen := hperm.length_eq
  have hw1 := hwb.1
  have hw2 := hwb.2.1
  refine ⟨by rw [List.length_map, List.length_map, List.length_drop, List.length_take]; omega, fun c3 => ?_⟩
  rw [← List.map_append]
  refine joinLs (by rw [hsum, hlen, len_bl]; omega) ?_
  generalize Txt.join (" " : Str) (ws.drop 1 ++ ws.take 1) = q0 at hq0 hqs
  walk_at "pd"
  intro _ _
  rw [cutP_tail, List.drop_succ_cons, List.drop_zero]
  rw [List.map_cons, List.sum_cons] at hpsum
  rw [List.length_cons] at hpl2
  refine ⟨by rw [List.length_map]; omega, fun c5 => ?_⟩
  change JoinW _ (.lst c5 ((q0 :: pr).map PyData.str)) _ _
  refine joinLs (by rw [List.map_cons, List.sum_cons, List.length_cons, len_mid]; omega) ?_
  have e1 := join_len (")(" : Str) (l := p0 :: pr) (by simp)
  have e2 := join_len (")(" : Str) (l := q0 :: pr) (by simp)
  rw [List.map_cons, List.sum_cons, List.length_cons, len_mid] at e1 e2
  have hbl : (Txt.join (")(" : Str) (q0 :: pr)).length ≤ 1776 := by omega
  have hbs : SOk (Txt.join (")(" : Str) (q0 :: pr)) := sok_join sok_mid fun z hz => (List.mem_cons.mp hz).elim (fun e => by rw [e]; exact hqs) fun h => hso z (List.mem_cons_of_mem _ h)
  generalize Txt.join (")(" : Str) (q0 :: pr) = b1 at hbl hbs
  walk_at "pd"
  have hrp := TK.replace_len t (" " : Str) ("," : Str)
  have lc : ("," : Str).length = 1 := by decide +kernel
  rw [lc] at hrp
  refine ⟨by rw [len_open]; omega, by rw [len_app, len_open, len_close]; omega, by omega, by rw [len_bl]; omega, by rw [lc]; omega, ?_⟩
  have key : ∀ ones : List Str, (∀ z ∈ ones, z.length ≤ 3990 ∧ SOk z) → mkT ((ones.map PyData.str).map D.dat) (fun x ds1 => SeqW x ds1 fun items ok ds1 => ForW items ok (gN 9) t_law_b1 { nx := fun ds1 => t_law_r4 E ds1, rt := E.rt, bk := E.bk, ct := E.ct } ds1)
      [o0, some (.lsD b xs), some (.dat (.int (n : Nat))), some (.dat (tupN p)), some (.dat (.str t)), some (.lst c (.str p0 :: List.map PyData.str pr)), some (.dat (.str (("(" : Str) ++ r1 ++ (")" : Str)))),
        some (.lst c2 (List.map PyData.str ws)), some (.dat (.str (("(" : Str) ++ b1 ++ (")" : Str)))), o9, o10] := by
    intro ones hok
    rw [mkTd]
    walk_at "pd"
    refine for_pre ones (fun z => .dat (.str z)) (fun pre s => ∃ (o9 : Option D), s = [o0, some (.lsD b xs), some (.dat (.int (n : Nat))), some (.dat (tupN p)), some (.dat (.str t)), some (.lst c (.str p0 :: List.map PyData.str pr)), some (.dat (.str (("(" : Str) ++ r1 ++ (")" : Str)))),
        some (.lst c2 (List.map PyData.str ws)), some (.dat (.str (("(" : Str) ++ b1 ++ (")" : Str)))), o9, o10]) (by rw [List.map_map]; rfl) ⟨_, rfl⟩ (fun _ _ _ => trivial) ?_ ?_
    · rintro pre z post s e ⟨o9, rfl⟩
      obtain ⟨h1, h2⟩ := hok z (by rw [e]; simp)
      walk_at "pd"
      exact same_ok hn h1 h2 ⟨_, rfl⟩
    · rintro s ⟨o9, rfl⟩
      exact law_r4 hn hb ht hs hrt
  refine key [("(" : Str) ++ r1 ++ (")" : Str), ("(" : Str) ++ b1 ++ (")" : Str), t ++ t, ("" : Str), ("()()" : Str), ("(0)" : Str), t ++ (" " : Str), Txt.replace t (" " : Str) ("," : Str)] fun z hz => ?_
  have l1 := sok_lit "" (by simp)
  have l2 := sok_lit "()()" (by simp)
  have l3 := sok_lit "(0)" (by simp)
  have l4 := sok_lit "," (by simp)
  rcases List.mem_cons.mp hz with rfl | hz
  · exact ⟨by rw [len_app, len_app, len_open, len_close]; omega, sok_app (sok_app sok_open hro) sok_close⟩
  rcases List.mem_cons.mp hz with rfl | hz
  · exact ⟨by rw [len_app, len_app, len_open, len_close]; omega, sok_app (sok_app sok_open hbs) sok_close⟩
  rcases List.mem_cons.mp hz with rfl | hz
  · exact ⟨by rw [len_app]; omega, sok_app hs hs⟩
  rcases List.mem_cons.mp hz with rfl | hz
  · exact ⟨by omega, l1.1⟩
  rcases List.mem_cons.mp hz with rfl | hz
  · exact ⟨by omega, l2.1⟩
  rcases List.mem_cons.mp hz with rfl | hz
  · exact ⟨by omega, l3.1⟩
  rcases List.mem_cons.mp hz with rfl | hz
  · exact ⟨by rw [len_app, len_bl]; omega, sok_app hs sok_bl⟩
  rw [List.mem_singleton] at hz
  subst hz
  refine ⟨by omega, ?_⟩
  have eb : (" " : Str) = ⟨#[32]⟩ := TL.ext_tl tl_bl
  rw [eb, PySem.StrLaws.replace_one, ← TL.join_eq]
  exact sok_join l4.1 (sok_split hs)
theorem law_body {E : PEnds} {o0 : Option D} {b : Addr} {xs : List D} (hrt : ∀ s, E.rt (.dat (.bool true)) (o0 :: s)) (hb : BoxOk xs) :
    t_law_r6 E [o0, some (.lsD b xs), none, none, none, none, none, none, none, none, none] := by
  unfold t_law_r6
  walk_at "pd"
  change mkL (List.map D.dat (([0, 1, 2, 3, 4, 5, 7, 9, 12, 20] : List Nat).map fun n : Nat => PyData.int (n : Int))) _ _
  rw [mkLd]
  intro c
  walk_at "pd"
  refine ⟨b, c, xs, _, rfl, hb, by simp, by simp, fun xs1 v hb1 hv => ?_⟩
  have hv : v ∈ ([0, 1, 2, 3, 4, 5, 7, 9, 12, 20] : List Nat).map fun n : Nat => PyData.int (n : Int) := hv
  obtain ⟨n, hn, rfl⟩ := List.mem_map.mp hv
  have hn : n ≤ 24 := by
    have : ∀ n ∈ ([0, 1, 2, 3, 4, 5, 7, 9, 12, 20] : List Nat), n ≤ 24 := by decide
    exact this n hn
  walk_at "pd"
  refine ⟨b, xs1, n, rfl, hb1, by omega, fun xs2 p hb2 hp hpl => ?_⟩
  walk_at "pd"
  refine ⟨p, rfl, hp, by omega, ?_⟩
  walk_at "pd"
  refine ⟨p, rfl, hp, by omega, ?_⟩
  walk_at "pd"
  refine ⟨sok_txt p, sok_txt p, ?_⟩
  refine ⟨p, by rw [hpl], hp, by omega, ?_⟩
  walk_at "pd"
  exact law_r5 hn hp hpl hb2 hrt
theorem vc_law : ∀ ds Q, sp_law ds Q → t_law (fnEnds ds Q) (startD 11 ds) := by
  rintro ds Q ⟨d, ns, rfl, hd, hl, h⟩
  rcases hd with rfl | ⟨a, rfl⟩
  · change t_law _ [some (.dat (.list (ns.map .int))), none, none, none, none, none, none, none, none, none, none]
    unfold t_law
    walk_at "pd"
    refine ⟨_, ns, rfl, .inl rfl, hl, fun b xs hb => ?_⟩
    walk_at "pd"
    exact law_body (fun s => rt1 h) hb
  · change t_law _ [some (.lst a (ns.map .int)), none, none, none, none, none, none, none, none, none, none]
    unfold t_law
    walk_at "pd"
    refine ⟨_, ns, rfl, .inr ⟨a, rfl⟩, hl, fun b xs hb => ?_⟩
    walk_at "pd"
    exact law_body (fun s => rtL h) hb

end PD
set_option Elab.async false
set_option linter.all false
set_option maxRecDepth 100000
set_option maxHeartbeats 4000000
set_option pp.maxSteps 15
namespace TT
open PySem L2 PD
def topS (i : Nat) : Stmt := PySem.Challenge.pw_turnbook_k02_texts_there_and_back.main.body.getD i (.Pass ⟨0, 0, 0, 0⟩)
theorem len_is_number : ∀ ds Q, sp_is_number ds Q → ds.length = 1 := by
  rintro ds Q ⟨_, rfl, _⟩
  rfl
theorem len_is_turningX : ∀ ds Q, sp_is_turningX ds Q → ds.length = 2 := by
  rintro ds Q ⟨_, rfl, _⟩
  rfl
theorem len_check_someX : ∀ ds Q, sp_check_someX ds Q → ds.length = 1 := by
  rintro ds Q ⟨_, rfl, _⟩
  rfl
theorem len_lots : ∀ ds Q, sp_lots ds Q → ds.length = 1 := by
  rintro ds Q ⟨_, rfl, _⟩
  rfl
theorem len_shown : ∀ ds Q, sp_shown ds Q → ds.length = 1 := by
  rintro ds Q ⟨_, rfl, _⟩
  rfl
theorem len_point : ∀ ds Q, sp_point ds Q → ds.length = 2 := by
  rintro ds Q ⟨_, _, rfl, _⟩
  rfl
theorem len_read : ∀ ds Q, sp_read ds Q → ds.length = 2 := by
  rintro ds Q ⟨_, rfl, _⟩
  rfl
theorem len__law_box : ∀ ds Q, sp__law_box ds Q → ds.length = 1 := by
  rintro ds Q ⟨_, _, rfl, _⟩
  rfl
theorem len__law_take : ∀ ds Q, sp__law_take ds Q → ds.length = 2 := by
  rintro ds Q ⟨_, _, _, rfl, _⟩
  rfl
theorem len__law_pickX : ∀ ds Q, sp__law_pickX ds Q → ds.length = 2 := by
  rintro ds Q ⟨_, _, _, _, rfl, _⟩
  rfl
theorem len__law_turning : ∀ ds Q, sp__law_turning ds Q → ds.length = 2 := by
  rintro ds Q ⟨_, _, _, rfl, _⟩
  rfl
theorem len__law_text : ∀ ds Q, sp__law_text ds Q → ds.length = 1 := by
  rintro ds Q ⟨_, rfl, _⟩
  rfl
theorem len__law_read : ∀ ds Q, sp__law_read ds Q → ds.length = 2 := by
  rintro ds Q ⟨_, _, rfl, _⟩
  rfl
theorem len__law_figures : ∀ ds Q, sp__law_figures ds Q → ds.length = 2 := by
  rintro ds Q ⟨_, _, rfl, _⟩
  rfl
theorem len__law_own : ∀ ds Q, sp__law_own ds Q → ds.length = 2 := by
  rintro ds Q ⟨_, _, rfl, _⟩
  rfl
theorem len__law_bent : ∀ ds Q, sp__law_bent ds Q → ds.length = 2 := by
  rintro ds Q ⟨_, _, _, rfl, _⟩
  rfl
theorem len_law : ∀ ds Q, sp_law ds Q → ds.length = 1 := by
  rintro ds Q ⟨_, _, rfl, _⟩
  rfl
section
variable {P : Program} {w : World} {K : PySem.W.Frag} {mg : Str → Option Value} {base : Heap}
abbrev s_is_number : Stmt := topS 6
theorem sc_is_number : FnScope ["x"] ["x"] (defScope s_is_number) := ⟨rfl, rfl, rfl, by decide +kernel, rfl, by decide +kernel, by decide +kernel⟩
theorem ok_is_number {gx : Str} {f : Addr} {fd : FuncData} (F : Fun K "is_number" "is_number" s_is_number f fd) (hm : mg gx = some (.ref f)) (hk : PySem.W.keepIn K (.ref f) = true) (hb : Binds K fd ["x"] []) (z_bool : mg "bool" = none) (z_isinstance : mg "isinstance" = none) (z_int : mg "int" = none) : Own P w K mg base 1 gx ["x"] sp_is_number := by
  have S := sc_is_number
  exact ⟨f, fd, fnD F S (by decide) len_is_number (fun cdv A outer s H E hr => show PSsd _ _ t_is_number from (dss_one (ds_ret (d_and (d_callB call_isi sem_isi rfl z_isinstance b_isinstance (da_cons (dv 0) (da_cons (d_bltn (v := .ty "int") rfl z_int b_int rfl) da_nil))) (d_one (d_not (d_callB call_isi sem_isi rfl z_isinstance b_isinstance (da_cons (dv 0) (da_cons (d_bltn (v := .ty "bool") rfl z_bool b_bool rfl) da_nil))))))))) vc_is_number, hm, hk, hb⟩
abbrev s_is_turningX : Stmt := topS 7
theorem sc_is_turningX : FnScope ["n", "x", "one"] ["n", "x"] (defScope s_is_turningX) := ⟨rfl, rfl, rfl, by decide +kernel, rfl, by decide +kernel, by decide +kernel⟩
theorem ok_is_turningX {gx : Str} {f : Addr} {fd : FuncData} (F : Fun K "is_turning" "is_turning" s_is_turningX f fd) (hm : mg gx = some (.ref f)) (hk : PySem.W.keepIn K (.ref f) = true) (hb : Binds K fd ["n", "x"] []) (z_len : mg "len" = none) (z_tuple : mg "tuple" = none) (z_isinstance : mg "isinstance" = none) (z_all : mg "all" = none) (z_set : mg "set" = none) {tk_MOST_POINTS : Tok} (c_MOST_POINTS : mg "MOST_POINTS" = some (.int 24 tk_MOST_POINTS)) (O_is_number : Own P w K mg base 1 "is_number" ["x"] sp_is_number) : Own P w K mg base 2 gx ["n", "x"] sp_is_turningX := by
  have S := sc_is_turningX
  exact ⟨f, fd, fnD F S (by decide) len_is_turningX (fun cdv A outer s H E hr => show PSsd _ _ t_is_turningX from (dss_cons (ds_if (dw_pt (dw_or (dt_not (dt_tru (d_callB call_isi sem_isi rfl z_isinstance b_isinstance (da_cons (dv 1) (da_cons (d_bltn (v := .ty "tuple") rfl z_tuple b_tuple rfl) da_nil))))) (dw_or (dt_ne hr.units (d_callB call_len1 (sem_1 sem_len) rfl z_len b_len (da_cons (dv 1) da_nil)) (dv 0)) (dw_or1 (dt_not (dt_chainI op_le op_le d_int (dv 0) (d_globI rfl c_MOST_POINTS))))))) (dss_one (ds_ret d_bl)) dss_nil) (dss_cons (ds_if (dt_not (dt_tru (d_callB (call_all1 rfl) (sem_1 sem_all) rfl z_all b_all (da_cons (d_lc (own := [("one", 2)]) rfl S.nd (di_seq (dv 1)) (blkOk_by (by first | decide +kernel | rfl)) (by decide) (fun _ _ _ _ _ => (dgn 2 S.nd)) (fun _ _ _ _ _ => dts_nil) (fun _ _ _ _ _ => (d_and (d_fn O_is_number (hr.mono (by decide)) rfl (da_cons (dv 2) da_nil)) (d_one (d_chainI op_le op_lt d_int (dv 2) (dv 0)))))) da_nil)))) (dss_one (ds_ret d_bl)) dss_nil) (dss_one (ds_ret (d_eq hr.units (d_lenSet rfl z_len rfl z_set (dv 1)) (dv 0))))))) vc_is_turningX, hm, hk, hb⟩
abbrev s_check_someX : Stmt := topS 8
theorem sc_check_someX : FnScope ["p"] ["p"] (defScope s_check_someX) := ⟨rfl, rfl, rfl, by decide +kernel, rfl, by decide +kernel, by decide +kernel⟩
theorem ok_check_someX {gx : Str} {f : Addr} {fd : FuncData} (F : Fun K "check_some" "check_some" s_check_someX f fd) (hm : mg gx = some (.ref f)) (hk : PySem.W.keepIn K (.ref f) = true) (hb : Binds K fd ["p"] []) (z_len : mg "len" = none) (z_tuple : mg "tuple" = none) (z_isinstance : mg "isinstance" = none) (O_is_turning : Own P w K mg base 2 "is_turning" ["n", "x"] sp_is_turningX) : Own P w K mg base 3 gx ["p"] sp_check_someX := by
  have S := sc_check_someX
  exact ⟨f, fd, fnD F S (by decide) len_check_someX (fun cdv A outer s H E hr => show PSsd _ _ t_check_someX from (dss_one (ds_if (dw_pt (dw_or (dt_not (dt_tru (d_callB call_isi sem_isi rfl z_isinstance b_isinstance (da_cons (dv 0) (da_cons (d_bltn (v := .ty "tuple") rfl z_tuple b_tuple rfl) da_nil))))) (dw_or1 (dt_not (dt_tru (d_fn O_is_turning (hr.mono (by decide)) rfl (da_cons (d_callB call_len1 (sem_1 sem_len) rfl z_len b_len (da_cons (dv 0) da_nil)) (da_cons (dv 0) da_nil)))))))) dss_never dss_nil))) vc_check_someX, hm, hk, hb⟩
abbrev s_lots : Stmt := topS 9
theorem sc_lots : FnScope ["p", "seen", "out", "x", "one"] ["p"] (defScope s_lots) := ⟨rfl, rfl, rfl, by decide +kernel, rfl, by decide +kernel, by decide +kernel⟩
theorem ok_lots {gx : Str} {f : Addr} {fd : FuncData} (F : Fun K "lots" "lots" s_lots f fd) (hm : mg gx = some (.ref f)) (hk : PySem.W.keepIn K (.ref f) = true) (hb : Binds K fd ["p"] []) (z_len : mg "len" = none) (z_range : mg "range" = none) (z_tuple : mg "tuple" = none) : Own P w K mg base 1 gx ["p"] sp_lots := by
  have S := sc_lots
  exact ⟨f, fd, fnD F S (by decide) len_lots (fun cdv A outer s H E hr => show PSsd _ _ t_lots from (dss_cons (ds_par (i := 1) (j := 2) rfl S.nd rfl rfl (by decide) rfl rfl (da_cons d_dict0 (da_cons (d_lst da_nil) da_nil)) rfl) (dss_cons (ds_for PassesOwn.never rfl (di_rg1 rfl z_range (da_cons (d_callB call_len1 (sem_1 sem_len) rfl z_len b_len (da_cons (dv 0) da_nil)) da_nil)) (dgn 3 S.nd) (dss_cons (ds_if (dt_in hr.units (dv 3) (dv 1) (by with_unfolding_all rfl)) (dss_one ds_cont) dss_nil) (dss_cons (ds_set (i := 4) S.nd rfl (by first | exact Or.inl rfl | exact Or.inr rfl) (d_lst da_nil)) (dss_cons (ds_while PassesOwn.never (dt_nin hr.units (dv 3) (dv 1) (by with_unfolding_all rfl)) (dss_cons (ds_asg d_bl (dg_sub (hu1 hr.units) (dv 1) (dv 3))) (dss_cons (ds_expr (d_bm PySem.F.plainAttrs_list PySem.F.slot_list_append PySem.F.type_list_append mt_append sem_append (dv 4) (da_cons (dv 3) da_nil))) (dss_one (ds_set (i := 3) S.nd rfl (by first | exact Or.inl rfl | exact Or.inr rfl) (d_ix (hu1 hr.units) (dv 0) (dv 3))))))) (dss_one (ds_expr (d_bm PySem.F.plainAttrs_list PySem.F.slot_list_append PySem.F.type_list_append mt_append sem_append (dv 2) (da_cons (d_callTy call_tupO (sem_1 sem_tupO) rfl z_tuple b_tuple (da_cons (dv 4) da_nil)) da_nil)))))))) (dss_one (ds_ret (dm 2)))))) vc_lots, hm, hk, hb⟩
abbrev s_shown : Stmt := topS 10
theorem sc_shown : FnScope ["p", "one", "x"] ["p"] (defScope s_shown) := ⟨rfl, rfl, rfl, by decide +kernel, rfl, by decide +kernel, by decide +kernel⟩
theorem ok_shown {gx : Str} {f : Addr} {fd : FuncData} (F : Fun K "shown" "shown" s_shown f fd) (hm : mg gx = some (.ref f)) (hk : PySem.W.keepIn K (.ref f) = true) (hb : Binds K fd ["p"] []) (z_len : mg "len" = none) (z_str : mg "str" = none) (O_check_some : Own P w K mg base 3 "check_some" ["p"] sp_check_someX) (O_lots : Own P w K mg base 1 "lots" ["p"] sp_lots) : Own P w K mg base 4 gx ["p"] sp_shown := by
  have S := sc_shown
  exact ⟨f, fd, fnD F S (by decide) len_shown (fun cdv A outer s H E hr => show PSsd _ _ t_shown from (dss_cons (ds_expr (d_fn O_check_some (hr.mono (by decide)) rfl (da_cons (dv 0) da_nil))) (dss_one (ds_ret (d_orV (d_join d_str (d_lc (own := [("one", 1)]) rfl S.nd (di_seq (d_fn O_lots (hr.mono (by decide)) rfl (da_cons (dv 0) da_nil))) (blkOk_by (by first | decide +kernel | rfl)) (by decide) (fun _ _ _ _ _ => (dgn 1 S.nd)) (fun _ _ _ _ _ => (dts_one (dt_gt (d_callB call_len1 (sem_1 sem_len) rfl z_len b_len (da_cons (dv 1) da_nil)) d_int))) (fun _ _ _ _ _ => (d_add (d_add d_str (d_join d_str (d_lc (own := [("x", 2)]) rfl S.nd (di_seq (dv 1)) (blkOk_by (by first | decide +kernel | rfl)) (by decide) (fun _ _ _ _ _ => (dgn 2 S.nd)) (fun _ _ _ _ _ => dts_nil) (fun _ _ _ _ _ => (d_callTy call_str_int sem_strI rfl z_str b_str (da_cons (dv 2) da_nil)))))) d_str)))) (d_one d_str)))))) vc_shown, hm, hk, hb⟩
abbrev s_point : Stmt := topS 11
theorem sc_point : FnScope ["n", "text", "found", "x"] ["n", "text"] (defScope s_point) := ⟨rfl, rfl, rfl, by decide +kernel, rfl, by decide +kernel, by decide +kernel⟩
theorem ok_point {gx : Str} {f : Addr} {fd : FuncData} (F : Fun K "point" "point" s_point f fd) (hm : mg gx = some (.ref f)) (hk : PySem.W.keepIn K (.ref f) = true) (hb : Binds K fd ["n", "text"] []) (z_range : mg "range" = none) (z_str : mg "str" = none) : Own P w K mg base 1 gx ["n", "text"] sp_point := by
  have S := sc_point
  exact ⟨f, fd, fnD F S (by decide) len_point (fun cdv A outer s H E hr => show PSsd _ _ t_point from (dss_cons (ds_setLc (i := 2) (own := [("x", 3)]) rfl S.nd rfl rfl (sw_true rfl rfl rfl (by decide +kernel)) (di_rg1 rfl z_range (da_cons (dv 0) da_nil)) (blkOk_by (by first | decide +kernel | rfl)) (by decide) (fun _ _ _ _ _ => (dgn 3 S.nd)) (fun _ _ _ _ _ => (dts_one (dt_eq hr.units (d_callTy call_str_int sem_strI rfl z_str b_str (da_cons (dv 3) da_nil)) (dv 1)))) (fun _ _ _ _ _ => (dv 3))) (dss_cons (ds_if (dt_not (dt_tru (dv 2))) dss_never dss_nil) (dss_one (ds_ret (d_ix (hu1 hr.units) (dv 2) d_int)))))) vc_point, hm, hk, hb⟩
theorem okx_point {gx : Str} {f : Addr} {fd : FuncData} (F : Fun K "point" "point" s_point f fd) (hm : mg gx = some (.ref f)) (hk : PySem.W.keepIn K (.ref f) = true) (hb : Binds K fd ["n", "text"] []) (z_range : mg "range" = none) (z_str : mg "str" = none) {C_BadText : Addr} (E_BadText : ExcOf K mg "BadText" C_BadText) : OwnX P w K mg base 1 gx ["n", "text"] sx_point := by
  have S := sc_point
  exact ⟨f, fd, fnR F S (by decide) lenx_point (fun cdv A outer s H E R L hr => show PSsd _ _ (tx_point R) from (dss_cons (ds_setLc (i := 2) (own := [("x", 3)]) rfl S.nd rfl rfl (sw_true rfl rfl rfl (by decide +kernel)) (di_rg1 rfl z_range (da_cons (dv 0) da_nil)) (blkOk_by (by first | decide +kernel | rfl)) (by decide) (fun _ _ _ _ _ => (dgn 3 S.nd)) (fun _ _ _ _ _ => (dts_one (dt_eq hr.units (d_callTy call_str_int sem_strI rfl z_str b_str (da_cons (dv 3) da_nil)) (dv 1)))) (fun _ _ _ _ _ => (dv 3))) (dss_cons (ds_if (dt_not (dt_tru (dv 2))) (dss_one (ds_raiseX L E_BadText rfl rfl)) dss_nil) dss_never))) vcx_point, hm, hk, hb⟩
abbrev s_read : Stmt := topS 12
theorem sc_read : FnScope ["n", "text", "out", "part", "one", "k", "x", "p", "word"] ["n", "text"] (defScope s_read) := ⟨rfl, rfl, rfl, by decide +kernel, rfl, by decide +kernel, by decide +kernel⟩
theorem ok_read {gx : Str} {f : Addr} {fd : FuncData} (F : Fun K "read" "read" s_read f fd) (hm : mg gx = some (.ref f)) (hk : PySem.W.keepIn K (.ref f) = true) (hb : Binds K fd ["n", "text"] []) (z_str : mg "str" = none) (z_isinstance : mg "isinstance" = none) (z_list : mg "list" = none) (z_range : mg "range" = none) (z_enumerate : mg "enumerate" = none) (z_len : mg "len" = none) (z_tuple : mg "tuple" = none) (O_point : Own P w K mg base 1 "point" ["n", "text"] sp_point) (O_shown : Own P w K mg base 4 "shown" ["p"] sp_shown) (O_is_turning : Own P w K mg base 2 "is_turning" ["n", "x"] sp_is_turningX) : Own P w K mg base 5 gx ["n", "text"] sp_read := by
  have S := sc_read
  exact ⟨f, fd, fnD F S (by decide) len_read (fun cdv A outer s H E hr => show PSsd _ _ t_read from (dss_cons (ds_if (dw_pt (dw_or (dt_not (dt_tru (d_callB call_isi sem_isi rfl z_isinstance b_isinstance (da_cons (dv 1) (da_cons (d_bltn (v := .ty "str") rfl z_str b_str rfl) da_nil))))) (dw_or (dt_not (dt_tru (d_starts (dv 1) d_str))) (dw_or1 (dt_not (dt_tru (d_ends (dv 1) d_str))))))) dss_never dss_nil) (dss_cons (ds_set (i := 2) S.nd rfl (by first | exact Or.inl rfl | exact Or.inr rfl) (d_lstRg rfl rfl z_list rfl z_range (dv 0))) (dss_cons (ds_if (dt_ne hr.units (dv 1) d_str) (dss_one (ds_for PassesOwn.never rfl (di_seq (d_split (d_slS (dv 1) (do_some d_int) (do_some (d_neg d_int))) d_str)) (dgn 3 S.nd) (dss_cons (ds_setLc (i := 4) (own := [("word", 8)]) rfl S.nd rfl rfl (sw_true rfl rfl rfl (by decide +kernel)) (di_seq (d_split (dv 3) d_str)) (blkOk_by (by first | decide +kernel | rfl)) (by decide) (fun _ _ _ _ _ => (dgn 8 S.nd)) (fun _ _ _ _ _ => dts_nil) (fun _ _ _ _ _ => (d_fn O_point (hr.mono (by decide)) rfl (da_cons (dv 0) (da_cons (dv 8) da_nil))))) (dss_one (ds_for PassesOwn.never rfl (di_enumO rfl z_enumerate (da_cons (dv 4) da_nil)) (dg_tup rfl (dgs_cons (dgn 5 S.nd) (dgs_cons (dgn 6 S.nd) dgs_nil))) (dss_one (ds_asg (d_ix (hu1 hr.units) (dv 4) (d_mod (d_add (dv 5) d_int) (d_callB call_len1 (sem_1 sem_len) rfl z_len b_len (da_cons (dv 4) da_nil)))) (dg_sub (hu1 hr.units) (dv 2) (dv 6))))))))) dss_nil) (dss_cons (ds_set (i := 7) S.nd rfl (by first | exact Or.inl rfl | exact Or.inr rfl) (d_callTy call_tupO (sem_1 sem_tupO) rfl z_tuple b_tuple (da_cons (dv 2) da_nil))) (dss_cons (ds_if (dw_pt (dw_or (dt_not (dt_tru (d_fn O_is_turning (hr.mono (by decide)) rfl (da_cons (dv 0) (da_cons (dv 7) da_nil))))) (dw_or1 (dt_ne hr.units (d_fn O_shown (hr.mono (by decide)) rfl (da_cons (dv 7) da_nil)) (dv 1))))) dss_never dss_nil) (dss_one (ds_ret (dm 7))))))))) vc_read, hm, hk, hb⟩
theorem okx_read {gx : Str} {f : Addr} {fd : FuncData} (F : Fun K "read" "read" s_read f fd) (hm : mg gx = some (.ref f)) (hk : PySem.W.keepIn K (.ref f) = true) (hb : Binds K fd ["n", "text"] []) (z_str : mg "str" = none) (z_isinstance : mg "isinstance" = none) (z_list : mg "list" = none) (z_range : mg "range" = none) (z_enumerate : mg "enumerate" = none) (z_len : mg "len" = none) (z_tuple : mg "tuple" = none) (O_point : Own P w K mg base 1 "point" ["n", "text"] sp_point) (O_shown : Own P w K mg base 4 "shown" ["p"] sp_shown) (O_is_turning : Own P w K mg base 2 "is_turning" ["n", "x"] sp_is_turningX) {C_BadText : Addr} (E_BadText : ExcOf K mg "BadText" C_BadText) (OX_point : OwnX P w K mg base 1 "point" ["n", "text"] sx_point) : OwnX P w K mg base 5 gx ["n", "text"] sx_read := by
  have S := sc_read
  exact ⟨f, fd, fnR F S (by decide) lenx_read (fun cdv A outer s H E R L hr => show PSsd _ _ (tx_read R) from (dss_cons (ds_if (dw_pt (dw_or (dt_not (dt_tru (d_callB call_isi sem_isi rfl z_isinstance b_isinstance (da_cons (dv 1) (da_cons (d_bltn (v := .ty "str") rfl z_str b_str rfl) da_nil))))) (dw_or (dt_not (dt_tru (d_starts (dv 1) d_str))) (dw_or1 (dt_not (dt_tru (d_ends (dv 1) d_str))))))) (dss_one (ds_raiseX L E_BadText rfl rfl)) dss_nil) (dss_cons (ds_set (i := 2) S.nd rfl (by first | exact Or.inl rfl | exact Or.inr rfl) (d_lstRg rfl rfl z_list rfl z_range (dv 0))) (dss_cons (ds_if (dt_ne hr.units (dv 1) d_str) (dss_one (ds_for (passes_of rfl) rfl (di_seq (d_split (d_slS (dv 1) (do_some d_int) (do_some (d_neg d_int))) d_str)) (dgn 3 S.nd) (dss_cons (ds_setLcR (i := 4) (own := [("word", 8)]) L rfl rfl rfl S.nd rfl rfl (sw_true rfl rfl rfl (by decide +kernel)) (di_seq (d_split (dv 3) d_str)) (blkOk_by (by first | decide +kernel | rfl)) (by decide) (fun _ _ _ _ _ _ => (dgn 8 S.nd)) (fun _ _ _ _ _ _ => dts_nil) (fun _ _ _ _ _ _ LF => (d_fnBF O_point OX_point LF (hr.mono (by decide)) (hr.mono (by decide)) rfl (da_cons (dv 0) (da_cons (dv 8) da_nil))))) (dss_one (ds_for (passes_of rfl) rfl (di_enumO rfl z_enumerate (da_cons (dv 4) da_nil)) (dg_tup rfl (dgs_cons (dgn 5 S.nd) (dgs_cons (dgn 6 S.nd) dgs_nil))) (dss_one (ds_asg (d_ix (hu1 hr.units) (dv 4) (d_mod (d_add (dv 5) d_int) (d_callB call_len1 (sem_1 sem_len) rfl z_len b_len (da_cons (dv 4) da_nil)))) (dg_sub (hu1 hr.units) (dv 2) (dv 6))))))))) dss_nil) (dss_cons (ds_set (i := 7) S.nd rfl (by first | exact Or.inl rfl | exact Or.inr rfl) (d_callTy call_tupO (sem_1 sem_tupO) rfl z_tuple b_tuple (da_cons (dv 2) da_nil))) (dss_cons (ds_if (dw_pt (dw_or (dt_not (dt_tru (d_fn O_is_turning (hr.mono (by decide)) rfl (da_cons (dv 0) (da_cons (dv 7) da_nil))))) (dw_or1 (dt_ne hr.units (d_fn O_shown (hr.mono (by decide)) rfl (da_cons (dv 7) da_nil)) (dv 1))))) (dss_one (ds_raiseX L E_BadText rfl rfl)) dss_nil) (dss_one (ds_ret (dm 7))))))))) vcx_read, hm, hk, hb⟩
abbrev s__law_box : Stmt := topS 14
theorem sc__law_box : FnScope ["script", "x"] ["script"] (defScope s__law_box) := ⟨rfl, rfl, rfl, by decide +kernel, rfl, by decide +kernel, by decide +kernel⟩
theorem ok__law_box {gx : Str} {f : Addr} {fd : FuncData} (F : Fun K "_law_box" "_law_box" s__law_box f fd) (hm : mg gx = some (.ref f)) (hk : PySem.W.keepIn K (.ref f) = true) (hb : Binds K fd ["script"] []) (z_int : mg "int" = none) (z_abs : mg "abs" = none) : Own P w K mg base 1 gx ["script"] sp__law_box := by
  have S := sc__law_box
  exact ⟨f, fd, fnD F S (by decide) len__law_box (fun cdv A outer s H E hr => show PSsd _ _ t__law_box from (dss_one (ds_ret (d_lst (da_cons d_int (da_cons d_int (da_cons d_int (da_cons (d_lc (own := [("x", 1)]) rfl S.nd (di_seq (dv 0)) (blkOk_by (by first | decide +kernel | rfl)) (by decide) (fun _ _ _ _ _ => (dgn 1 S.nd)) (fun _ _ _ _ _ => dts_nil) (fun _ _ _ _ _ => (d_callB call_abs1 (sem_1 (sem_intF (g := fun i => if i < 0 then -i else i))) rfl z_abs b_abs (da_cons (d_callTy call_int11 (sem_1 (sem_intF (g := fun i => i))) rfl z_int b_int (da_cons (dv 1) da_nil)) da_nil)))) da_nil)))))))) vc__law_box, hm, hk, hb⟩
abbrev s__law_take : Stmt := topS 15
theorem sc__law_take : FnScope ["box", "m", "at", "cell", "told"] ["box", "m"] (defScope s__law_take) := ⟨rfl, rfl, rfl, by decide +kernel, rfl, by decide +kernel, by decide +kernel⟩
theorem ok__law_take {gx : Str} {f : Addr} {fd : FuncData} (F : Fun K "_law_take" "_law_take" s__law_take f fd) (hm : mg gx = some (.ref f)) (hk : PySem.W.keepIn K (.ref f) = true) (hb : Binds K fd ["box", "m"] []) (z_len : mg "len" = none) (z_int : mg "int" = none) : Own P w K mg base 1 gx ["box", "m"] sp__law_take := by
  have S := sc__law_take
  exact ⟨f, fd, fnD F S (by decide) len__law_take (fun cdv A outer s H E hr => show PSsd _ _ t__law_take from (dss_cons (ds_if (dt_eq hr.units (d_ix (hu1 hr.units) (dv 0) d_int) d_int) (dss_cons (ds_set (i := 2) S.nd rfl (by first | exact Or.inl rfl | exact Or.inr rfl) (d_ix (hu1 hr.units) (dv 0) d_int)) (dss_cons (ds_set (i := 3) S.nd rfl (by first | exact Or.inl rfl | exact Or.inr rfl) d_int) (dss_cons (ds_if (dt_lt (dv 2) (d_callB call_len1 (sem_1 sem_len) rfl z_len b_len (da_cons (d_ix (hu1 hr.units) (dv 0) d_int) da_nil))) (dss_cons (ds_set (i := 3) S.nd rfl (by first | exact Or.inl rfl | exact Or.inr rfl) (d_ix (hu1 hr.units) (d_ix (hu1 hr.units) (dv 0) d_int) (dv 2))) (dss_one (ds_asg (d_if (dt_ge (dv 3) (d_pow d_int d_int)) d_int (d_neg d_int)) (dg_sub (hu1 hr.units) (dv 0) d_int)))) dss_nil) (dss_cons (ds_asg (d_add (dv 2) d_int) (dg_sub (hu1 hr.units) (dv 0) d_int)) (dss_cons (ds_asg (dv 3) (dg_sub (hu1 hr.units) (dv 0) d_int)) (dss_one (ds_if (dt_eq hr.units (d_ix (hu1 hr.units) (dv 0) d_int) d_int) (dss_one (ds_ret d_int)) dss_nil))))))) dss_nil) (dss_cons (ds_if (dt_gt (d_ix (hu1 hr.units) (dv 0) d_int) d_int) (dss_cons (ds_set (i := 4) S.nd rfl (by first | exact Or.inl rfl | exact Or.inr rfl) (d_mod (d_callTy call_int11 (sem_1 (sem_intF (g := fun i => i))) rfl z_int b_int (da_cons (d_ix (hu1 hr.units) (dv 0) d_int) da_nil)) (dv 1))) (dss_cons (ds_asg (d_fdiv (d_ix (hu1 hr.units) (dv 0) d_int) (dv 1)) (dg_sub (hu1 hr.units) (dv 0) d_int)) (dss_cons (ds_asg (d_if (dt_gt (d_ix (hu1 hr.units) (dv 0) d_int) d_int) (d_sub (d_ix (hu1 hr.units) (dv 0) d_int) d_int) d_int) (dg_sub (hu1 hr.units) (dv 0) d_int)) (dss_one (ds_ret (dm 4)))))) dss_nil) (dss_cons (ds_asg (d_add (d_ix (hu1 hr.units) (dv 0) d_int) d_int) (dg_sub (hu1 hr.units) (dv 0) d_int)) (dss_cons (ds_asg (d_mod (d_callTy call_int11 (sem_1 (sem_intF (g := fun i => i))) rfl z_int b_int (da_cons (d_add (d_mul (d_ix (hu1 hr.units) (dv 0) d_int) d_int) (d_mul d_int (d_add (d_ix (hu1 hr.units) (dv 0) d_int) d_int))) da_nil)) d_int) (dg_sub (hu1 hr.units) (dv 0) d_int)) (dss_one (ds_ret (d_mod (d_mod (d_callTy call_int11 (sem_1 (sem_intF (g := fun i => i))) rfl z_int b_int (da_cons (d_add (d_fdiv (d_ix (hu1 hr.units) (dv 0) d_int) d_int) (d_ix (hu1 hr.units) (dv 0) d_int)) da_nil)) d_int) (dv 1))))))))) vc__law_take, hm, hk, hb⟩
abbrev s__law_pickX : Stmt := topS 16
theorem sc__law_pickX : FnScope ["box", "menu"] ["box", "menu"] (defScope s__law_pickX) := ⟨rfl, rfl, rfl, by decide +kernel, rfl, by decide +kernel, by decide +kernel⟩
theorem ok__law_pickX {gx : Str} {f : Addr} {fd : FuncData} (F : Fun K "_law_pick" "_law_pick" s__law_pickX f fd) (hm : mg gx = some (.ref f)) (hk : PySem.W.keepIn K (.ref f) = true) (hb : Binds K fd ["box", "menu"] []) (z_len : mg "len" = none) (O__law_take : Own P w K mg base 1 "_law_take" ["box", "m"] sp__law_take) : Own P w K mg base 2 gx ["box", "menu"] sp__law_pickX := by
  have S := sc__law_pickX
  exact ⟨f, fd, fnD F S (by decide) len__law_pickX (fun cdv A outer s H E hr => show PSsd _ _ t__law_pickX from (dss_one (ds_ret (d_ix (hu1 hr.units) (dv 1) (d_fn O__law_take (hr.mono (by decide)) rfl (da_cons (dv 0) (da_cons (d_callB call_len1 (sem_1 sem_len) rfl z_len b_len (da_cons (dv 1) da_nil)) da_nil))))))) vc__law_pickX, hm, hk, hb⟩
abbrev s__law_turning : Stmt := topS 17
theorem sc__law_turning : FnScope ["box", "n", "row", "x"] ["box", "n"] (defScope s__law_turning) := ⟨rfl, rfl, rfl, by decide +kernel, rfl, by decide +kernel, by decide +kernel⟩
theorem ok__law_turning {gx : Str} {f : Addr} {fd : FuncData} (F : Fun K "_law_turning" "_law_turning" s__law_turning f fd) (hm : mg gx = some (.ref f)) (hk : PySem.W.keepIn K (.ref f) = true) (hb : Binds K fd ["box", "n"] []) (z_range : mg "range" = none) (z_tuple : mg "tuple" = none) (O__law_take : Own P w K mg base 1 "_law_take" ["box", "m"] sp__law_take) : Own P w K mg base 2 gx ["box", "n"] sp__law_turning := by
  have S := sc__law_turning
  exact ⟨f, fd, fnD F S (by decide) len__law_turning (fun cdv A outer s H E hr => show PSsd _ _ t__law_turning from (dss_cons (ds_set (i := 2) S.nd rfl (by first | exact Or.inl rfl | exact Or.inr rfl) (d_lst da_nil)) (dss_cons (ds_for PassesOwn.never rfl (di_rg1 rfl z_range (da_cons (dv 1) da_nil)) (dgn 3 S.nd) (dss_one (ds_expr (d_bm PySem.F.plainAttrs_list PySem.F.slot_list_insert PySem.F.type_list_insert mt_insert sem_insert (dv 2) (da_cons (d_fn O__law_take (hr.mono (by decide)) rfl (da_cons (dv 0) (da_cons (d_add (dv 3) d_int) da_nil))) (da_cons (dv 3) da_nil)))))) (dss_one (ds_ret (d_callTy call_tupO (sem_1 sem_tupO) rfl z_tuple b_tuple (da_cons (dv 2) da_nil))))))) vc__law_turning, hm, hk, hb⟩
abbrev s__law_text : Stmt := topS 18
theorem sc__law_text : FnScope ["p", "text", "seen", "x", "lot"] ["p"] (defScope s__law_text) := ⟨rfl, rfl, rfl, by decide +kernel, rfl, by decide +kernel, by decide +kernel⟩
theorem ok__law_text {gx : Str} {f : Addr} {fd : FuncData} (F : Fun K "_law_text" "_law_text" s__law_text f fd) (hm : mg gx = some (.ref f)) (hk : PySem.W.keepIn K (.ref f) = true) (hb : Binds K fd ["p"] []) (z_len : mg "len" = none) (z_range : mg "range" = none) (z_str : mg "str" = none) : Own P w K mg base 1 gx ["p"] sp__law_text := by
  have S := sc__law_text
  exact ⟨f, fd, fnD F S (by decide) len__law_text (fun cdv A outer s H E hr => show PSsd _ _ t__law_text from (dss_cons (ds_par (i := 1) (j := 2) rfl S.nd rfl rfl (by decide) rfl rfl (da_cons d_str (da_cons d_dict0 da_nil)) rfl) (dss_cons (ds_for PassesOwn.never rfl (di_rg1 rfl z_range (da_cons (d_callB call_len1 (sem_1 sem_len) rfl z_len b_len (da_cons (dv 0) da_nil)) da_nil)) (dgn 3 S.nd) (dss_cons (ds_set (i := 4) S.nd rfl (by first | exact Or.inl rfl | exact Or.inr rfl) (d_lst da_nil)) (dss_cons (ds_while PassesOwn.never (dt_nin hr.units (dv 3) (dv 2) (by with_unfolding_all rfl)) (dss_cons (ds_asg d_bl (dg_sub (hu1 hr.units) (dv 2) (dv 3))) (dss_cons (ds_expr (d_bm PySem.F.plainAttrs_list PySem.F.slot_list_append PySem.F.type_list_append mt_append sem_append (dv 4) (da_cons (d_callTy call_str_int sem_strI rfl z_str b_str (da_cons (dv 3) da_nil)) da_nil))) (dss_one (ds_set (i := 3) S.nd rfl (by first | exact Or.inl rfl | exact Or.inr rfl) (d_ix (hu1 hr.units) (dv 0) (dv 3))))))) (dss_one (ds_if (dt_gt (d_callB call_len1 (sem_1 sem_len) rfl z_len b_len (da_cons (dv 4) da_nil)) d_int) (dss_one (ds_set (i := 1) S.nd rfl (by first | exact Or.inl rfl | exact Or.inr rfl) (d_add (d_add (d_add (dv 1) d_str) (d_join d_str (dv 4))) d_str))) dss_nil))))) (dss_one (ds_ret (d_if (dt_tru (dv 1)) (dm 1) d_str)))))) vc__law_text, hm, hk, hb⟩
abbrev s__law_read : Stmt := topS 19
theorem sc__law_read : FnScope ["n", "text"] ["n", "text"] (defScope s__law_read) := ⟨rfl, rfl, rfl, by decide +kernel, rfl, by decide +kernel, by decide +kernel⟩
theorem ok__law_read {gx : Str} {f : Addr} {fd : FuncData} (F : Fun K "_law_read" "_law_read" s__law_read f fd) (hm : mg gx = some (.ref f)) (hk : PySem.W.keepIn K (.ref f) = true) (hb : Binds K fd ["n", "text"] []) (O_read : Own P w K mg base 5 "read" ["n", "text"] sp_read) {C_BadText : Addr} (E_BadText : ExcOf K mg "BadText" C_BadText) (T_BadText : ExTab K mg ["BadText"] (fun _ => C_BadText)) (OX_read : OwnX P w K mg base 5 "read" ["n", "text"] sx_read) : Own P w K mg base 6 gx ["n", "text"] sp__law_read := by
  have S := sc__law_read
  exact ⟨f, fd, fnD F S (by decide) len__law_read (fun cdv A outer s H E hr => show PSsd _ _ t__law_read from (dss_one (ds_try T_BadText rfl rfl (fun _ h => h) (fun pn xe => dsx_ret (dx_lst1 (d_fnT O_read OX_read (hr.mono (by decide)) (hr.mono (by decide)) rfl (da_cons (dv 0) (da_cons (dv 1) da_nil))))) (.cons rfl rfl (fun a pn => (dss_one (ds_ret d_non))) .nil)))) vc__law_read, hm, hk, hb⟩
abbrev s__law_figures : Stmt := topS 20
theorem sc__law_figures : FnScope ["n", "text", "found", "x"] ["n", "text"] (defScope s__law_figures) := ⟨rfl, rfl, rfl, by decide +kernel, rfl, by decide +kernel, by decide +kernel⟩
theorem ok__law_figures {gx : Str} {f : Addr} {fd : FuncData} (F : Fun K "_law_figures" "_law_figures" s__law_figures f fd) (hm : mg gx = some (.ref f)) (hk : PySem.W.keepIn K (.ref f) = true) (hb : Binds K fd ["n", "text"] []) (z_range : mg "range" = none) (z_str : mg "str" = none) : Own P w K mg base 1 gx ["n", "text"] sp__law_figures := by
  have S := sc__law_figures
  exact ⟨f, fd, fnD F S (by decide) len__law_figures (fun cdv A outer s H E hr => show PSsd _ _ t__law_figures from (dss_cons (ds_setLc (i := 2) (own := [("x", 3)]) rfl S.nd rfl rfl (sw_true rfl rfl rfl (by decide +kernel)) (di_rg1 rfl z_range (da_cons (dv 0) da_nil)) (blkOk_by (by first | decide +kernel | rfl)) (by decide) (fun _ _ _ _ _ => (dgn 3 S.nd)) (fun _ _ _ _ _ => (dts_one (dt_eq hr.units (d_callTy call_str_int sem_strI rfl z_str b_str (da_cons (dv 3) da_nil)) (dv 1)))) (fun _ _ _ _ _ => (dv 3))) (dss_one (ds_ret (d_if (dt_tru (dv 2)) (d_ix (hu1 hr.units) (dv 2) d_int) d_non))))) vc__law_figures, hm, hk, hb⟩
abbrev s__law_own : Stmt := topS 21
theorem sc__law_own : FnScope ["n", "text", "out", "used", "part", "points", "k", "word", "x"] ["n", "text"] (defScope s__law_own) := ⟨rfl, rfl, rfl, by decide +kernel, rfl, by decide +kernel, by decide +kernel⟩
theorem ok__law_own {gx : Str} {f : Addr} {fd : FuncData} (F : Fun K "_law_own" "_law_own" s__law_own f fd) (hm : mg gx = some (.ref f)) (hk : PySem.W.keepIn K (.ref f) = true) (hb : Binds K fd ["n", "text"] []) (z_tuple : mg "tuple" = none) (z_range : mg "range" = none) (z_list : mg "list" = none) (z_len : mg "len" = none) (z_set : mg "set" = none) (O__law_figures : Own P w K mg base 1 "_law_figures" ["n", "text"] sp__law_figures) (O__law_text : Own P w K mg base 1 "_law_text" ["p"] sp__law_text) : Own P w K mg base 2 gx ["n", "text"] sp__law_own := by
  have S := sc__law_own
  exact ⟨f, fd, fnD F S (by decide) len__law_own (fun cdv A outer s H E hr => show PSsd _ _ t__law_own from (dss_cons (ds_if (dt_eq hr.units (dv 1) d_str) (dss_one (ds_ret (d_lst (da_cons (d_tupRg rfl rfl z_tuple rfl z_range (dv 0)) da_nil)))) dss_nil) (dss_cons (ds_if (dw_pt (dw_or (dt_ne hr.units (d_slS (dv 1) do_none (do_some d_int)) d_str) (dw_or1 (dt_ne hr.units (d_slS (dv 1) (do_some (d_neg d_int)) do_none) d_str)))) (dss_one (ds_ret d_non)) dss_nil) (dss_cons (ds_asg (d_tup (da_cons (d_lstRg rfl rfl z_list rfl z_range (dv 0)) (da_cons (d_lst da_nil) da_nil))) (dg_tup rfl (dgs_cons (dgn 2 S.nd) (dgs_cons (dgn 3 S.nd) dgs_nil)))) (dss_cons (ds_for PassesOwn.never rfl (di_seq (d_split (d_slS (dv 1) (do_some d_int) (do_some (d_neg d_int))) d_str)) (dgn 4 S.nd) (dss_cons (ds_setLc (i := 5) (own := [("word", 7)]) rfl S.nd rfl rfl (sw_true rfl rfl rfl (by decide +kernel)) (di_seq (d_split (dv 4) d_str)) (blkOk_by (by first | decide +kernel | rfl)) (by decide) (fun _ _ _ _ _ => (dgn 7 S.nd)) (fun _ _ _ _ _ => dts_nil) (fun _ _ _ _ _ => (d_fn O__law_figures (hr.mono (by decide)) rfl (da_cons (dv 0) (da_cons (dv 7) da_nil))))) (dss_cons (ds_if (dw_pt (dw_or (dt_in hr.units d_non (dv 5) (by with_unfolding_all rfl)) (dw_or (dt_lt (d_callB call_len1 (sem_1 sem_len) rfl z_len b_len (da_cons (dv 5) da_nil)) d_int) (dw_or (dt_ne hr.units (d_lc (own := [("x", 8)]) rfl S.nd (di_seq (dv 5)) (blkOk_by (by first | decide +kernel | rfl)) (by decide) (fun _ _ _ _ _ => (dgn 8 S.nd)) (fun _ _ _ _ _ => (dts_one (dt_in hr.units (dv 8) (dv 3) (by with_unfolding_all rfl)))) (fun _ _ _ _ _ => (dv 8))) (d_lst da_nil)) (dw_or1 (dt_lt (d_lenSetV rfl rfl z_len rfl z_set (dv 5)) (d_callB call_len1 (sem_1 sem_len) rfl z_len b_len (da_cons (dv 5) da_nil)))))))) (dss_one (ds_ret d_non)) dss_nil) (dss_cons (ds_expr (d_bm PySem.F.plainAttrs_list PySem.F.slot_list_extend PySem.F.type_list_extend mt_extO sem_extO (dv 3) (da_cons (dv 5) da_nil))) (dss_one (ds_for PassesOwn.never rfl (di_rg1 rfl z_range (da_cons (d_callB call_len1 (sem_1 sem_len) rfl z_len b_len (da_cons (dv 5) da_nil)) da_nil)) (dgn 6 S.nd) (dss_one (ds_asg (d_ix (hu1 hr.units) (dv 5) (d_mod (d_add (dv 6) d_int) (d_callB call_len1 (sem_1 sem_len) rfl z_len b_len (da_cons (dv 5) da_nil)))) (dg_sub (hu1 hr.units) (dv 2) (d_ix (hu1 hr.units) (dv 5) (dv 6))))))))))) (dss_one (ds_ret (d_if (dt_eq hr.units (d_fn O__law_text (hr.mono (by decide)) rfl (da_cons (d_callTy call_tupO (sem_1 sem_tupO) rfl z_tuple b_tuple (da_cons (dv 2) da_nil)) da_nil)) (dv 1)) (d_lst (da_cons (d_callTy call_tupO (sem_1 sem_tupO) rfl z_tuple b_tuple (da_cons (dv 2) da_nil)) da_nil)) d_non)))))))) vc__law_own, hm, hk, hb⟩
abbrev s__law_bent : Stmt := topS 22
theorem sc__law_bent : FnScope ["box", "text", "at", "way"] ["box", "text"] (defScope s__law_bent) := ⟨rfl, rfl, rfl, by decide +kernel, rfl, by decide +kernel, by decide +kernel⟩
theorem ok__law_bent {gx : Str} {f : Addr} {fd : FuncData} (F : Fun K "_law_bent" "_law_bent" s__law_bent f fd) (hm : mg gx = some (.ref f)) (hk : PySem.W.keepIn K (.ref f) = true) (hb : Binds K fd ["box", "text"] []) (z_len : mg "len" = none) (O__law_take : Own P w K mg base 1 "_law_take" ["box", "m"] sp__law_take) (O__law_pick : Own P w K mg base 2 "_law_pick" ["box", "menu"] sp__law_pickX) : Own P w K mg base 3 gx ["box", "text"] sp__law_bent := by
  have S := sc__law_bent
  exact ⟨f, fd, fnD F S (by decide) len__law_bent (fun cdv A outer s H E hr => show PSsd _ _ t__law_bent from (dss_cons (ds_par (i := 2) (j := 3) rfl S.nd rfl rfl (by decide) rfl rfl (da_cons (d_fn O__law_take (hr.mono (by decide)) rfl (da_cons (dv 0) (da_cons (d_add (d_callB call_len1 (sem_1 sem_len) rfl z_len b_len (da_cons (dv 1) da_nil)) d_int) da_nil))) (da_cons (d_fn O__law_take (hr.mono (by decide)) rfl (da_cons (dv 0) (da_cons d_int da_nil))) da_nil)) rfl) (dss_cons (ds_if (dt_eq hr.units (dv 3) d_int) (dss_one (ds_ret (d_add (d_slS (dv 1) do_none (do_some (dv 2))) (d_slS (dv 1) (do_some (d_add (dv 2) d_int)) do_none)))) dss_nil) (dss_one (ds_ret (d_add (d_add (d_slS (dv 1) do_none (do_some (dv 2))) (d_fn O__law_pick (hr.mono (by decide)) rfl (da_cons (dv 0) (da_cons (d_lst (da_cons d_str (da_cons d_str (da_cons d_str (da_cons d_str (da_cons d_str (da_cons d_str (da_cons d_str (da_cons d_str da_nil))))))))) da_nil)))) (d_slS (dv 1) (do_some (d_sub (d_add (dv 2) (dv 3)) d_int)) do_none))))))) vc__law_bent, hm, hk, hb⟩
abbrev s_law : Stmt := topS 23
theorem sc_law : FnScope ["script", "box", "n", "p", "text", "parts", "other", "words", "begun", "one", "turn"] ["script"] (defScope s_law) := ⟨rfl, rfl, rfl, by decide +kernel, rfl, by decide +kernel, by decide +kernel⟩
theorem ok_law {f : Addr} {fd : FuncData} (F : Fun K "law" "law" s_law f fd) (z_range : mg "range" = none) (O__law_box : Own P w K mg base 1 "_law_box" ["script"] sp__law_box) (O__law_pick : Own P w K mg base 2 "_law_pick" ["box", "menu"] sp__law_pickX) (O__law_turning : Own P w K mg base 2 "_law_turning" ["box", "n"] sp__law_turning) (O__law_text : Own P w K mg base 1 "_law_text" ["p"] sp__law_text) (O_read : Own P w K mg base 5 "read" ["n", "text"] sp_read) (O_shown : Own P w K mg base 4 "shown" ["p"] sp_shown) (O__law_read : Own P w K mg base 6 "_law_read" ["n", "text"] sp__law_read) (O__law_own : Own P w K mg base 2 "_law_own" ["n", "text"] sp__law_own) (O__law_bent : Own P w K mg base 3 "_law_bent" ["box", "text"] sp__law_bent) : FnOk P w K mg base CX0 7 f fd ["script"] (liftSp ⟨K, P, w⟩ sp_law) := by
  have S := sc_law
  exact fnD F S (by decide) len_law (fun cdv A outer s H E hr => show PSsd _ _ t_law from (dss_cons (ds_set (i := 1) S.nd rfl (by first | exact Or.inl rfl | exact Or.inr rfl) (d_fn O__law_box (hr.mono (by decide)) rfl (da_cons (dv 0) da_nil))) (dss_cons (ds_set (i := 2) S.nd rfl (by first | exact Or.inl rfl | exact Or.inr rfl) (d_fn O__law_pick (hr.mono (by decide)) rfl (da_cons (dv 1) (da_cons (d_lst (da_cons d_int (da_cons d_int (da_cons d_int (da_cons d_int (da_cons d_int (da_cons d_int (da_cons d_int (da_cons d_int (da_cons d_int (da_cons d_int da_nil))))))))))) da_nil)))) (dss_cons (ds_set (i := 3) S.nd rfl (by first | exact Or.inl rfl | exact Or.inr rfl) (d_fn O__law_turning (hr.mono (by decide)) rfl (da_cons (dv 1) (da_cons (dv 2) da_nil)))) (dss_cons (ds_set (i := 4) S.nd rfl (by first | exact Or.inl rfl | exact Or.inr rfl) (d_fn O__law_text (hr.mono (by decide)) rfl (da_cons (dv 3) da_nil))) (dss_cons (ds_if (dw_pt (dw_or (dt_ne hr.units (d_fn O_shown (hr.mono (by decide)) rfl (da_cons (dv 3) da_nil)) (dv 4)) (dw_or1 (dt_ne hr.units (d_fn O_read (hr.mono (by decide)) rfl (da_cons (dv 2) (da_cons (dv 4) da_nil))) (dv 3))))) (dss_one (ds_ret d_bl)) dss_nil) (dss_cons (ds_set (i := 5) S.nd rfl (by first | exact Or.inl rfl | exact Or.inr rfl) (d_split (d_slS (dv 4) (do_some d_int) (do_some (d_neg d_int))) d_str)) (dss_cons (ds_set (i := 6) S.nd rfl (by first | exact Or.inl rfl | exact Or.inr rfl) (d_add (d_add d_str (d_join d_str (d_rev (dv 5)))) d_str)) (dss_cons (ds_set (i := 7) S.nd rfl (by first | exact Or.inl rfl | exact Or.inr rfl) (d_split (d_ix (hu1 hr.units) (dv 5) d_int) d_str)) (dss_cons (ds_set (i := 8) S.nd rfl (by first | exact Or.inl rfl | exact Or.inr rfl) (d_add (d_add d_str (d_join d_str (d_add (d_lst (da_cons (d_join d_str (d_add (d_sl (dv 7) (do_some d_int) do_none) (d_sl (dv 7) do_none (do_some d_int)))) da_nil)) (d_sl (dv 5) (do_some d_int) do_none)))) d_str)) (dss_cons (ds_for PassesOwn.never rfl (di_seq (d_tup (da_cons (dv 6) (da_cons (dv 8) (da_cons (d_add (dv 4) (dv 4)) (da_tok (dat_cons (det_of d_str) (dat_cons (det_of d_str) (dat_cons (det_of (d_add (dv 4) d_str)) (dat_cons (det_repl (dv 4)) dat_nil)))))))))) (dgn 9 S.nd) (dss_one (ds_if (dt_ne hr.units (d_fn O__law_read (hr.mono (by decide)) rfl (da_cons (dv 2) (da_cons (dv 9) da_nil))) (d_fn O__law_own (hr.mono (by decide)) rfl (da_cons (dv 2) (da_cons (dv 9) da_nil)))) (dss_one (ds_ret d_bl)) dss_nil))) (dss_cons (ds_for PassesOwn.never rfl (di_rg1 rfl z_range (da_cons d_int da_nil)) (dgn 10 S.nd) (dss_cons (ds_set (i := 9) S.nd rfl (by first | exact Or.inl rfl | exact Or.inr rfl) (d_fn O__law_bent (hr.mono (by decide)) rfl (da_cons (dv 1) (da_cons (dv 4) da_nil)))) (dss_one (ds_if (dt_ne hr.units (d_fn O__law_read (hr.mono (by decide)) rfl (da_cons (dv 2) (da_cons (dv 9) da_nil))) (d_fn O__law_own (hr.mono (by decide)) rfl (da_cons (dv 2) (da_cons (dv 9) da_nil)))) (dss_one (ds_ret d_bl)) dss_nil)))) (dss_one (ds_ret (d_is (d_fn O__law_read (hr.mono (by decide)) rfl (da_cons (dv 2) (da_cons (d_fn O__law_pick (hr.mono (by decide)) rfl (da_cons (dv 1) (da_cons (d_lst (da_cons d_non (da_cons d_int (da_cons (dv 3) (da_cons (d_tup (da_cons d_str da_nil)) (da_cons (d_frz (d_lst (da_cons d_str da_nil))) da_nil)))))) da_nil))) da_nil))) d_non))))))))))))))) vc_law
end
end TT
set_option Elab.async false
set_option linter.all false
set_option maxRecDepth 100000
set_option maxHeartbeats 4000000
set_option pp.maxSteps 15
namespace TT
open PySem L2 PD
theorem only_list {K : KW} {H : Hp} {a : Addr} {ns : List Int} (hS : SqL K.K H a (ns.map V.int)) : ∃ d : D, RepD K H d (.ref a) ∧ (∀ b, cD b d ≤ 1) ∧ (d = .dat (.list (ns.map .int)) ∨ ∃ a, d = .lst a (ns.map .int)) := by
  rcases hS with (h | ⟨o, h⟩) | h
  · exact ⟨.lst a (ns.map .int), ⟨rfl, _, h, RepPs.of_ints ns⟩, fun b => by show one b a ≤ 1; unfold one; split <;> omega, .inr ⟨a, rfl⟩⟩
  · exact ⟨.dat (.list (ns.map .int)), ⟨a, _, rfl, .inl ⟨o, h⟩, RepPs.of_ints ns⟩, fun b => Nat.zero_le _, .inl rfl⟩
  · exact ⟨.dat (.list (ns.map .int)), ⟨a, _, rfl, .inr h, RepPs.of_ints ns⟩, fun b => Nat.zero_le _, .inl rfl⟩
theorem all_mk {l : PySem.W.OpenLaw} {w : World} {K : PySem.W.Frag} {h : Heap} {mg : Str → Option Value} {fa f_is_number f_is_turningX f_check_someX f_lots f_shown f_point f_read f__law_box f__law_take f__law_pickX f__law_turning f__law_text f__law_read f__law_figures f__law_own f__law_bent f_law C_BadText : Addr} (X : K.In h) (G : h.Ns mainGlobals mg) (hfa : mg "law" = some (.ref fa))
    {od_is_number an_is_number : Option Addr} {sl_is_number : Array (Option Value)} {oc_is_number kV_is_number dc_is_number pm_is_number cd_is_number ct_is_number : Value}
    (a_is_number : PySem.W.nsIn K mainGlobals "is_number" = some (some (.ref f_is_number)))
    (l_is_number : K.lookup f_is_number = some ⟨oc_is_number, od_is_number, .func (PySem.W.fnOf "is_number" "is_number" (defArgs s_is_number) (defBody s_is_number) (defScope s_is_number) .none kV_is_number dc_is_number pm_is_number an_is_number cd_is_number ct_is_number), sl_is_number⟩) (k_is_number : PySem.W.codeIn K cd_is_number "is_number" = true) (q_is_number : PySem.W.keepIn K (.ref f_is_number) = true)
    {od_is_turningX an_is_turningX : Option Addr} {sl_is_turningX : Array (Option Value)} {oc_is_turningX kV_is_turningX dc_is_turningX pm_is_turningX cd_is_turningX ct_is_turningX : Value}
    (a_is_turningX : PySem.W.nsIn K mainGlobals "is_turning" = some (some (.ref f_is_turningX)))
    (l_is_turningX : K.lookup f_is_turningX = some ⟨oc_is_turningX, od_is_turningX, .func (PySem.W.fnOf "is_turning" "is_turning" (defArgs s_is_turningX) (defBody s_is_turningX) (defScope s_is_turningX) .none kV_is_turningX dc_is_turningX pm_is_turningX an_is_turningX cd_is_turningX ct_is_turningX), sl_is_turningX⟩) (k_is_turningX : PySem.W.codeIn K cd_is_turningX "is_turning" = true) (q_is_turningX : PySem.W.keepIn K (.ref f_is_turningX) = true)
    {od_check_someX an_check_someX : Option Addr} {sl_check_someX : Array (Option Value)} {oc_check_someX kV_check_someX dc_check_someX pm_check_someX cd_check_someX ct_check_someX : Value}
    (a_check_someX : PySem.W.nsIn K mainGlobals "check_some" = some (some (.ref f_check_someX)))
    (l_check_someX : K.lookup f_check_someX = some ⟨oc_check_someX, od_check_someX, .func (PySem.W.fnOf "check_some" "check_some" (defArgs s_check_someX) (defBody s_check_someX) (defScope s_check_someX) .none kV_check_someX dc_check_someX pm_check_someX an_check_someX cd_check_someX ct_check_someX), sl_check_someX⟩) (k_check_someX : PySem.W.codeIn K cd_check_someX "check_some" = true) (q_check_someX : PySem.W.keepIn K (.ref f_check_someX) = true)
    {od_lots an_lots : Option Addr} {sl_lots : Array (Option Value)} {oc_lots kV_lots dc_lots pm_lots cd_lots ct_lots : Value}
    (a_lots : PySem.W.nsIn K mainGlobals "lots" = some (some (.ref f_lots)))
    (l_lots : K.lookup f_lots = some ⟨oc_lots, od_lots, .func (PySem.W.fnOf "lots" "lots" (defArgs s_lots) (defBody s_lots) (defScope s_lots) .none kV_lots dc_lots pm_lots an_lots cd_lots ct_lots), sl_lots⟩) (k_lots : PySem.W.codeIn K cd_lots "lots" = true) (q_lots : PySem.W.keepIn K (.ref f_lots) = true)
    {od_shown an_shown : Option Addr} {sl_shown : Array (Option Value)} {oc_shown kV_shown dc_shown pm_shown cd_shown ct_shown : Value}
    (a_shown : PySem.W.nsIn K mainGlobals "shown" = some (some (.ref f_shown)))
    (l_shown : K.lookup f_shown = some ⟨oc_shown, od_shown, .func (PySem.W.fnOf "shown" "shown" (defArgs s_shown) (defBody s_shown) (defScope s_shown) .none kV_shown dc_shown pm_shown an_shown cd_shown ct_shown), sl_shown⟩) (k_shown : PySem.W.codeIn K cd_shown "shown" = true) (q_shown : PySem.W.keepIn K (.ref f_shown) = true)
    {od_point an_point : Option Addr} {sl_point : Array (Option Value)} {oc_point kV_point dc_point pm_point cd_point ct_point : Value}
    (a_point : PySem.W.nsIn K mainGlobals "point" = some (some (.ref f_point)))
    (l_point : K.lookup f_point = some ⟨oc_point, od_point, .func (PySem.W.fnOf "point" "point" (defArgs s_point) (defBody s_point) (defScope s_point) .none kV_point dc_point pm_point an_point cd_point ct_point), sl_point⟩) (k_point : PySem.W.codeIn K cd_point "point" = true) (q_point : PySem.W.keepIn K (.ref f_point) = true)
    {od_read an_read : Option Addr} {sl_read : Array (Option Value)} {oc_read kV_read dc_read pm_read cd_read ct_read : Value}
    (a_read : PySem.W.nsIn K mainGlobals "read" = some (some (.ref f_read)))
    (l_read : K.lookup f_read = some ⟨oc_read, od_read, .func (PySem.W.fnOf "read" "read" (defArgs s_read) (defBody s_read) (defScope s_read) .none kV_read dc_read pm_read an_read cd_read ct_read), sl_read⟩) (k_read : PySem.W.codeIn K cd_read "read" = true) (q_read : PySem.W.keepIn K (.ref f_read) = true)
    {od__law_box an__law_box : Option Addr} {sl__law_box : Array (Option Value)} {oc__law_box kV__law_box dc__law_box pm__law_box cd__law_box ct__law_box : Value}
    (a__law_box : PySem.W.nsIn K mainGlobals "_law_box" = some (some (.ref f__law_box)))
    (l__law_box : K.lookup f__law_box = some ⟨oc__law_box, od__law_box, .func (PySem.W.fnOf "_law_box" "_law_box" (defArgs s__law_box) (defBody s__law_box) (defScope s__law_box) .none kV__law_box dc__law_box pm__law_box an__law_box cd__law_box ct__law_box), sl__law_box⟩) (k__law_box : PySem.W.codeIn K cd__law_box "_law_box" = true) (q__law_box : PySem.W.keepIn K (.ref f__law_box) = true)
    {od__law_take an__law_take : Option Addr} {sl__law_take : Array (Option Value)} {oc__law_take kV__law_take dc__law_take pm__law_take cd__law_take ct__law_take : Value}
    (a__law_take : PySem.W.nsIn K mainGlobals "_law_take" = some (some (.ref f__law_take)))
    (l__law_take : K.lookup f__law_take = some ⟨oc__law_take, od__law_take, .func (PySem.W.fnOf "_law_take" "_law_take" (defArgs s__law_take) (defBody s__law_take) (defScope s__law_take) .none kV__law_take dc__law_take pm__law_take an__law_take cd__law_take ct__law_take), sl__law_take⟩) (k__law_take : PySem.W.codeIn K cd__law_take "_law_take" = true) (q__law_take : PySem.W.keepIn K (.ref f__law_take) = true)
    {od__law_pickX an__law_pickX : Option Addr} {sl__law_pickX : Array (Option Value)} {oc__law_pickX kV__law_pickX dc__law_pickX pm__law_pickX cd__law_pickX ct__law_pickX : Value}
    (a__law_pickX : PySem.W.nsIn K mainGlobals "_law_pick" = some (some (.ref f__law_pickX)))
    (l__law_pickX : K.lookup f__law_pickX = some ⟨oc__law_pickX, od__law_pickX, .func (PySem.W.fnOf "_law_pick" "_law_pick" (defArgs s__law_pickX) (defBody s__law_pickX) (defScope s__law_pickX) .none kV__law_pickX dc__law_pickX pm__law_pickX an__law_pickX cd__law_pickX ct__law_pickX), sl__law_pickX⟩) (k__law_pickX : PySem.W.codeIn K cd__law_pickX "_law_pick" = true) (q__law_pickX : PySem.W.keepIn K (.ref f__law_pickX) = true)
    {od__law_turning an__law_turning : Option Addr} {sl__law_turning : Array (Option Value)} {oc__law_turning kV__law_turning dc__law_turning pm__law_turning cd__law_turning ct__law_turning : Value}
    (a__law_turning : PySem.W.nsIn K mainGlobals "_law_turning" = some (some (.ref f__law_turning)))
    (l__law_turning : K.lookup f__law_turning = some ⟨oc__law_turning, od__law_turning, .func (PySem.W.fnOf "_law_turning" "_law_turning" (defArgs s__law_turning) (defBody s__law_turning) (defScope s__law_turning) .none kV__law_turning dc__law_turning pm__law_turning an__law_turning cd__law_turning ct__law_turning), sl__law_turning⟩) (k__law_turning : PySem.W.codeIn K cd__law_turning "_law_turning" = true) (q__law_turning : PySem.W.keepIn K (.ref f__law_turning) = true)
    {od__law_text an__law_text : Option Addr} {sl__law_text : Array (Option Value)} {oc__law_text kV__law_text dc__law_text pm__law_text cd__law_text ct__law_text : Value}
    (a__law_text : PySem.W.nsIn K mainGlobals "_law_text" = some (some (.ref f__law_text)))
    (l__law_text : K.lookup f__law_text = some ⟨oc__law_text, od__law_text, .func (PySem.W.fnOf "_law_text" "_law_text" (defArgs s__law_text) (defBody s__law_text) (defScope s__law_text) .none kV__law_text dc__law_text pm__law_text an__law_text cd__law_text ct__law_text), sl__law_text⟩) (k__law_text : PySem.W.codeIn K cd__law_text "_law_text" = true) (q__law_text : PySem.W.keepIn K (.ref f__law_text) = true)
    {od__law_read an__law_read : Option Addr} {sl__law_read : Array (Option Value)} {oc__law_read kV__law_read dc__law_read pm__law_read cd__law_read ct__law_read : Value}
    (a__law_read : PySem.W.nsIn K mainGlobals "_law_read" = some (some (.ref f__law_read)))
    (l__law_read : K.lookup f__law_read = some ⟨oc__law_read, od__law_read, .func (PySem.W.fnOf "_law_read" "_law_read" (defArgs s__law_read) (defBody s__law_read) (defScope s__law_read) .none kV__law_read dc__law_read pm__law_read an__law_read cd__law_read ct__law_read), sl__law_read⟩) (k__law_read : PySem.W.codeIn K cd__law_read "_law_read" = true) (q__law_read : PySem.W.keepIn K (.ref f__law_read) = true)
    {od__law_figures an__law_figures : Option Addr} {sl__law_figures : Array (Option Value)} {oc__law_figures kV__law_figures dc__law_figures pm__law_figures cd__law_figures ct__law_figures : Value}
    (a__law_figures : PySem.W.nsIn K mainGlobals "_law_figures" = some (some (.ref f__law_figures)))
    (l__law_figures : K.lookup f__law_figures = some ⟨oc__law_figures, od__law_figures, .func (PySem.W.fnOf "_law_figures" "_law_figures" (defArgs s__law_figures) (defBody s__law_figures) (defScope s__law_figures) .none kV__law_figures dc__law_figures pm__law_figures an__law_figures cd__law_figures ct__law_figures), sl__law_figures⟩) (k__law_figures : PySem.W.codeIn K cd__law_figures "_law_figures" = true) (q__law_figures : PySem.W.keepIn K (.ref f__law_figures) = true)
    {od__law_own an__law_own : Option Addr} {sl__law_own : Array (Option Value)} {oc__law_own kV__law_own dc__law_own pm__law_own cd__law_own ct__law_own : Value}
    (a__law_own : PySem.W.nsIn K mainGlobals "_law_own" = some (some (.ref f__law_own)))
    (l__law_own : K.lookup f__law_own = some ⟨oc__law_own, od__law_own, .func (PySem.W.fnOf "_law_own" "_law_own" (defArgs s__law_own) (defBody s__law_own) (defScope s__law_own) .none kV__law_own dc__law_own pm__law_own an__law_own cd__law_own ct__law_own), sl__law_own⟩) (k__law_own : PySem.W.codeIn K cd__law_own "_law_own" = true) (q__law_own : PySem.W.keepIn K (.ref f__law_own) = true)
    {od__law_bent an__law_bent : Option Addr} {sl__law_bent : Array (Option Value)} {oc__law_bent kV__law_bent dc__law_bent pm__law_bent cd__law_bent ct__law_bent : Value}
    (a__law_bent : PySem.W.nsIn K mainGlobals "_law_bent" = some (some (.ref f__law_bent)))
    (l__law_bent : K.lookup f__law_bent = some ⟨oc__law_bent, od__law_bent, .func (PySem.W.fnOf "_law_bent" "_law_bent" (defArgs s__law_bent) (defBody s__law_bent) (defScope s__law_bent) .none kV__law_bent dc__law_bent pm__law_bent an__law_bent cd__law_bent ct__law_bent), sl__law_bent⟩) (k__law_bent : PySem.W.codeIn K cd__law_bent "_law_bent" = true) (q__law_bent : PySem.W.keepIn K (.ref f__law_bent) = true)
    {od_law an_law : Option Addr} {sl_law : Array (Option Value)} {oc_law kV_law dc_law pm_law cd_law ct_law : Value}
    (a_law : PySem.W.nsIn K mainGlobals "law" = some (some (.ref f_law)))
    (l_law : K.lookup f_law = some ⟨oc_law, od_law, .func (PySem.W.fnOf "law" "law" (defArgs s_law) (defBody s_law) (defScope s_law) .none kV_law dc_law pm_law an_law cd_law ct_law), sl_law⟩) (k_law : PySem.W.codeIn K cd_law "law" = true) (q_law : PySem.W.keepIn K (.ref f_law) = true)
    (a_BadText : PySem.W.nsIn K mainGlobals "BadText" = some (some (.ref C_BadText))) (x_BadText : PySem.W.excIn K C_BadText [.type "ValueError", .type "Exception", .type "BaseException", .type "object"] "ValueError.__new__" = true) (kp_BadText : PySem.W.keepIn K (.ref C_BadText) = true) (sb_BadText : PySem.W.subIn K (.ref C_BadText) (.type "BaseException") = some true) (ty_BadText : PySem.W.typeIn K (.ref C_BadText) = some (.type "type")) (ic_BadText : PySem.W.isClsIn K C_BadText = true)
    (em_BadText_BadText : PySem.W.subIn K (.ref C_BadText) (.ref C_BadText) = some true)
    {tk_MOST_POINTS : Tok} (v_MOST_POINTS : PySem.W.nsIn K mainGlobals "MOST_POINTS" = some (some (.int 24 tk_MOST_POINTS)))
    (z_bool : PySem.W.nsIn K mainGlobals "bool" = some none)
    (z_isinstance : PySem.W.nsIn K mainGlobals "isinstance" = some none)
    (z_int : PySem.W.nsIn K mainGlobals "int" = some none)
    (z_len : PySem.W.nsIn K mainGlobals "len" = some none)
    (z_tuple : PySem.W.nsIn K mainGlobals "tuple" = some none)
    (z_all : PySem.W.nsIn K mainGlobals "all" = some none)
    (z_set : PySem.W.nsIn K mainGlobals "set" = some none)
    (z_range : PySem.W.nsIn K mainGlobals "range" = some none)
    (z_str : PySem.W.nsIn K mainGlobals "str" = some none)
    (z_list : PySem.W.nsIn K mainGlobals "list" = some none)
    (z_enumerate : PySem.W.nsIn K mainGlobals "enumerate" = some none)
    (z_abs : PySem.W.nsIn K mainGlobals "abs" = some none) :
    ∃ fd : FuncData, (∀ (s : Shared) (v : Value), BindsTo s fd ⟨[v], []⟩ [("script", v)]) ∧ ∀ base : Heap, K.In base → base.Ns mainGlobals mg → FnOk l.prog w K mg base CX0 7 fa fd ["script"] (liftSp ⟨K, l.prog, w⟩ sp_law) := by
  have e := hfa.symm.trans (PySem.W.mg_of X G a_law)
  cases e
  have y_MOST_POINTS := PySem.W.mg_of X G v_MOST_POINTS
  have w_bool := PySem.W.mg_none_of X G z_bool
  have w_isinstance := PySem.W.mg_none_of X G z_isinstance
  have w_int := PySem.W.mg_none_of X G z_int
  have w_len := PySem.W.mg_none_of X G z_len
  have w_tuple := PySem.W.mg_none_of X G z_tuple
  have w_all := PySem.W.mg_none_of X G z_all
  have w_set := PySem.W.mg_none_of X G z_set
  have w_range := PySem.W.mg_none_of X G z_range
  have w_str := PySem.W.mg_none_of X G z_str
  have w_list := PySem.W.mg_none_of X G z_list
  have w_enumerate := PySem.W.mg_none_of X G z_enumerate
  have w_abs := PySem.W.mg_none_of X G z_abs
  have F_is_number := fun_mk (st := s_is_number) l_is_number k_is_number q_is_number
  have b_is_number := F_is_number.binds (ps := ["x"]) fun _ _ _ _ _ _ us hl => match us, hl with | [_], _ => rfl
  have F_is_turningX := fun_mk (st := s_is_turningX) l_is_turningX k_is_turningX q_is_turningX
  have b_is_turningX := F_is_turningX.binds (ps := ["n", "x"]) fun _ _ _ _ _ _ us hl => match us, hl with | [_, _], _ => rfl
  have F_check_someX := fun_mk (st := s_check_someX) l_check_someX k_check_someX q_check_someX
  have b_check_someX := F_check_someX.binds (ps := ["p"]) fun _ _ _ _ _ _ us hl => match us, hl with | [_], _ => rfl
  have F_lots := fun_mk (st := s_lots) l_lots k_lots q_lots
  have b_lots := F_lots.binds (ps := ["p"]) fun _ _ _ _ _ _ us hl => match us, hl with | [_], _ => rfl
  have F_shown := fun_mk (st := s_shown) l_shown k_shown q_shown
  have b_shown := F_shown.binds (ps := ["p"]) fun _ _ _ _ _ _ us hl => match us, hl with | [_], _ => rfl
  have F_point := fun_mk (st := s_point) l_point k_point q_point
  have b_point := F_point.binds (ps := ["n", "text"]) fun _ _ _ _ _ _ us hl => match us, hl with | [_, _], _ => rfl
  have F_read := fun_mk (st := s_read) l_read k_read q_read
  have b_read := F_read.binds (ps := ["n", "text"]) fun _ _ _ _ _ _ us hl => match us, hl with | [_, _], _ => rfl
  have F__law_box := fun_mk (st := s__law_box) l__law_box k__law_box q__law_box
  have b__law_box := F__law_box.binds (ps := ["script"]) fun _ _ _ _ _ _ us hl => match us, hl with | [_], _ => rfl
  have F__law_take := fun_mk (st := s__law_take) l__law_take k__law_take q__law_take
  have b__law_take := F__law_take.binds (ps := ["box", "m"]) fun _ _ _ _ _ _ us hl => match us, hl with | [_, _], _ => rfl
  have F__law_pickX := fun_mk (st := s__law_pickX) l__law_pickX k__law_pickX q__law_pickX
  have b__law_pickX := F__law_pickX.binds (ps := ["box", "menu"]) fun _ _ _ _ _ _ us hl => match us, hl with | [_, _], _ => rfl
  have F__law_turning := fun_mk (st := s__law_turning) l__law_turning k__law_turning q__law_turning
  have b__law_turning := F__law_turning.binds (ps := ["box", "n"]) fun _ _ _ _ _ _ us hl => match us, hl with | [_, _], _ => rfl
  have F__law_text := fun_mk (st := s__law_text) l__law_text k__law_text q__law_text
  have b__law_text := F__law_text.binds (ps := ["p"]) fun _ _ _ _ _ _ us hl => match us, hl with | [_], _ => rfl
  have F__law_read := fun_mk (st := s__law_read) l__law_read k__law_read q__law_read
  have b__law_read := F__law_read.binds (ps := ["n", "text"]) fun _ _ _ _ _ _ us hl => match us, hl with | [_, _], _ => rfl
  have F__law_figures := fun_mk (st := s__law_figures) l__law_figures k__law_figures q__law_figures
  have b__law_figures := F__law_figures.binds (ps := ["n", "text"]) fun _ _ _ _ _ _ us hl => match us, hl with | [_, _], _ => rfl
  have F__law_own := fun_mk (st := s__law_own) l__law_own k__law_own q__law_own
  have b__law_own := F__law_own.binds (ps := ["n", "text"]) fun _ _ _ _ _ _ us hl => match us, hl with | [_, _], _ => rfl
  have F__law_bent := fun_mk (st := s__law_bent) l__law_bent k__law_bent q__law_bent
  have b__law_bent := F__law_bent.binds (ps := ["box", "text"]) fun _ _ _ _ _ _ us hl => match us, hl with | [_, _], _ => rfl
  have F_law := fun_mk (st := s_law) l_law k_law q_law
  refine ⟨PySem.W.fnOf "law" "law" (defArgs s_law) (defBody s_law) (defScope s_law) .none kV_law dc_law pm_law an_law cd_law ct_law, fun s v => .of_eq rfl, fun base _ _ => ?_⟩
  have E_BadText : ExcOf K mg "BadText" C_BadText := ⟨PySem.W.mg_of X G a_BadText, x_BadText, kp_BadText, sb_BadText, ty_BadText⟩
  have T_BadText := exTab1 E_BadText.at_ (exm_by sb_BadText ic_BadText ty_BadText em_BadText_BadText)
  have O_is_number := ok_is_number (P := l.prog) (w := w) (mg := mg) (base := base) F_is_number (PySem.W.mg_of X G a_is_number) q_is_number b_is_number w_bool w_isinstance w_int
  have O_lots := ok_lots (P := l.prog) (w := w) (mg := mg) (base := base) F_lots (PySem.W.mg_of X G a_lots) q_lots b_lots w_len w_range w_tuple
  have O_point := ok_point (P := l.prog) (w := w) (mg := mg) (base := base) F_point (PySem.W.mg_of X G a_point) q_point b_point w_range w_str
  have OX_point := okx_point (P := l.prog) (w := w) (mg := mg) (base := base) F_point (PySem.W.mg_of X G a_point) q_point b_point w_range w_str E_BadText
  have O__law_box := ok__law_box (P := l.prog) (w := w) (mg := mg) (base := base) F__law_box (PySem.W.mg_of X G a__law_box) q__law_box b__law_box w_int w_abs
  have O__law_take := ok__law_take (P := l.prog) (w := w) (mg := mg) (base := base) F__law_take (PySem.W.mg_of X G a__law_take) q__law_take b__law_take w_len w_int
  have O__law_text := ok__law_text (P := l.prog) (w := w) (mg := mg) (base := base) F__law_text (PySem.W.mg_of X G a__law_text) q__law_text b__law_text w_len w_range w_str
  have O__law_figures := ok__law_figures (P := l.prog) (w := w) (mg := mg) (base := base) F__law_figures (PySem.W.mg_of X G a__law_figures) q__law_figures b__law_figures w_range w_str
  have O_is_turning := ok_is_turningX (P := l.prog) (w := w) (mg := mg) (base := base) F_is_turningX (PySem.W.mg_of X G a_is_turningX) q_is_turningX b_is_turningX w_len w_tuple w_isinstance w_all w_set y_MOST_POINTS O_is_number
  have O__law_pick := ok__law_pickX (P := l.prog) (w := w) (mg := mg) (base := base) F__law_pickX (PySem.W.mg_of X G a__law_pickX) q__law_pickX b__law_pickX w_len O__law_take
  have O__law_turning := ok__law_turning (P := l.prog) (w := w) (mg := mg) (base := base) F__law_turning (PySem.W.mg_of X G a__law_turning) q__law_turning b__law_turning w_range w_tuple O__law_take
  have O__law_own := ok__law_own (P := l.prog) (w := w) (mg := mg) (base := base) F__law_own (PySem.W.mg_of X G a__law_own) q__law_own b__law_own w_tuple w_range w_list w_len w_set O__law_figures O__law_text
  have O_check_some := ok_check_someX (P := l.prog) (w := w) (mg := mg) (base := base) F_check_someX (PySem.W.mg_of X G a_check_someX) q_check_someX b_check_someX w_len w_tuple w_isinstance O_is_turning
  have O__law_bent := ok__law_bent (P := l.prog) (w := w) (mg := mg) (base := base) F__law_bent (PySem.W.mg_of X G a__law_bent) q__law_bent b__law_bent w_len O__law_take O__law_pick
  have O_shown := ok_shown (P := l.prog) (w := w) (mg := mg) (base := base) F_shown (PySem.W.mg_of X G a_shown) q_shown b_shown w_len w_str O_check_some O_lots
  have O_read := ok_read (P := l.prog) (w := w) (mg := mg) (base := base) F_read (PySem.W.mg_of X G a_read) q_read b_read w_str w_isinstance w_list w_range w_enumerate w_len w_tuple O_point O_shown O_is_turning
  have OX_read := okx_read (P := l.prog) (w := w) (mg := mg) (base := base) F_read (PySem.W.mg_of X G a_read) q_read b_read w_str w_isinstance w_list w_range w_enumerate w_len w_tuple O_point O_shown O_is_turning E_BadText OX_point
  have O__law_read := ok__law_read (P := l.prog) (w := w) (mg := mg) (base := base) F__law_read (PySem.W.mg_of X G a__law_read) q__law_read b__law_read O_read E_BadText T_BadText OX_read
  exact ok_law (P := l.prog) (w := w) (mg := mg) (base := base) F_law w_range O__law_box O__law_pick O__law_turning O__law_text O_read O_shown O__law_read O__law_own O__law_bent
theorem walk {l : PySem.W.OpenLaw} {q : Program} {loose : List Str} {XP : (Str → Option Value) → Heap → Prop} {YP : World → Heap → Prop} {d : DefRec} {K : Params → PySem.W.Frag} (hn : l.most = some 63) (hdf : d.params.defaults = [])
    (hY : ∀ (w : World) (h : Heap), YP w h → (K w.params).In h)
    (F : ∀ (w : World) (mg : Str → Option Value) (fa : Addr) (h : Heap), (K w.params).In h → h.Ns mainGlobals mg → mg d.name = some (.ref fa) →
      ∃ fd : FuncData, (∀ (s : Shared) (u : Value), BindsTo s fd ⟨[u], []⟩ [("script", u)]) ∧ ∀ base : Heap, (K w.params).In base → base.Ns mainGlobals mg → FnOk l.prog w (K w.params) mg base CX0 7 fa fd ["script"] (liftSp ⟨K w.params, l.prog, w⟩ sp_law)) :
    PySem.W.WalkO q loose XP YP l.row.toRowW d [] (fun f vs => PySem.call f vs) :=
  L2.walk_of (n := 63) (k := 7) (x := "script") (CX := fun _ => CX0) (sp := fun w => liftSp ⟨K w.params, l.prog, w⟩ sp_law) hn (by decide) hdf ⟨rfl, by decide, by decide⟩ hY F
    (fun w H a ns hl _ hS => by
      obtain ⟨d, h1, h2, h3⟩ := only_list (K := ⟨K w.params, l.prog, w⟩) hS
      exact ⟨[d], fun d _ => d = .dat (.bool true), ⟨.ref a, [], rfl, h1, rfl⟩, fun b => by show cD b d + 0 ≤ 1; have := h2 b; omega, ⟨d, ns, rfl, h3, hl, rfl⟩, fun v d H' ds' r _ _ _ _ e => by subst e; exact r⟩) fun _ _ _ _ _ z => z
end TT
open PySem PySem.W PyProof.Rows
set_option maxRecDepth 100000 in
set_option maxHeartbeats 0 in
theorem PySem.Challenge.cw_turnbook_k02_texts_there_and_back_holds : PySem.Challenge.rw_turnbook_k02_texts_there_and_back.Holds := by
  w_on; o_law; k_head; (case hw => w_witness2)
  k_fill
  refine TT.walk (l := PySem.Challenge.rw_turnbook_k02_texts_there_and_back) rfl rfl (fun w h Y => PySem.W.kIn_of Y) ?F
  case F =>
    intro w mg fa h KX G hmg
    refine' TT.all_mk KX G hmg ?a_is_number ?l_is_number ?k_is_number ?q_is_number ?a_is_turningX ?l_is_turningX ?k_is_turningX ?q_is_turningX ?a_check_someX ?l_check_someX ?k_check_someX ?q_check_someX ?a_lots ?l_lots ?k_lots ?q_lots ?a_shown ?l_shown ?k_shown ?q_shown ?a_point ?l_point ?k_point ?q_point ?a_read ?l_read ?k_read ?q_read ?a__law_box ?l__law_box ?k__law_box ?q__law_box ?a__law_take ?l__law_take ?k__law_take ?q__law_take ?a__law_pickX ?l__law_pickX ?k__law_pickX ?q__law_pickX ?a__law_turning ?l__law_turning ?k__law_turning ?q__law_turning ?a__law_text ?l__law_text ?k__law_text ?q__law_text ?a__law_read ?l__law_read ?k__law_read ?q__law_read ?a__law_figures ?l__law_figures ?k__law_figures ?q__law_figures ?a__law_own ?l__law_own ?k__law_own ?q__law_own ?a__law_bent ?l__law_bent ?k__law_bent ?q__law_bent ?a_law ?l_law ?k_law ?q_law ?a_BadText ?x_BadText ?kp_BadText ?sb_BadText ?ty_BadText ?ic_BadText ?em_BadText_BadText ?v_MOST_POINTS ?z_bool ?z_isinstance ?z_int ?z_len ?z_tuple ?z_all ?z_set ?z_range ?z_str ?z_list ?z_enumerate ?z_abs
    (case a_is_number => k_is)
    (case l_is_number => k_is)
    (case k_is_number => k_is)
    (case q_is_number => k_is)
    (case a_is_turningX => k_is)
    (case l_is_turningX => k_is)
    (case k_is_turningX => k_is)
    (case q_is_turningX => k_is)
    (case a_check_someX => k_is)
    (case l_check_someX => k_is)
    (case k_check_someX => k_is)
    (case q_check_someX => k_is)
    (case a_lots => k_is)
    (case l_lots => k_is)
    (case k_lots => k_is)
    (case q_lots => k_is)
    (case a_shown => k_is)
    (case l_shown => k_is)
    (case k_shown => k_is)
    (case q_shown => k_is)
    (case a_point => k_is)
    (case l_point => k_is)
    (case k_point => k_is)
    (case q_point => k_is)
    (case a_read => k_is)
    (case l_read => k_is)
    (case k_read => k_is)
    (case q_read => k_is)
    (case a__law_box => k_is)
    (case l__law_box => k_is)
    (case k__law_box => k_is)
    (case q__law_box => k_is)
    (case a__law_take => k_is)
    (case l__law_take => k_is)
    (case k__law_take => k_is)
    (case q__law_take => k_is)
    (case a__law_pickX => k_is)
    (case l__law_pickX => k_is)
    (case k__law_pickX => k_is)
    (case q__law_pickX => k_is)
    (case a__law_turning => k_is)
    (case l__law_turning => k_is)
    (case k__law_turning => k_is)
    (case q__law_turning => k_is)
    (case a__law_text => k_is)
    (case l__law_text => k_is)
    (case k__law_text => k_is)
    (case q__law_text => k_is)
    (case a__law_read => k_is)
    (case l__law_read => k_is)
    (case k__law_read => k_is)
    (case q__law_read => k_is)
    (case a__law_figures => k_is)
    (case l__law_figures => k_is)
    (case k__law_figures => k_is)
    (case q__law_figures => k_is)
    (case a__law_own => k_is)
    (case l__law_own => k_is)
    (case k__law_own => k_is)
    (case q__law_own => k_is)
    (case a__law_bent => k_is)
    (case l__law_bent => k_is)
    (case k__law_bent => k_is)
    (case q__law_bent => k_is)
    (case a_law => k_is)
    (case l_law => k_is)
    (case k_law => k_is)
    (case q_law => k_is)
    (case a_BadText => k_is)
    (case x_BadText => k_exc)
    (case kp_BadText => k_is)
    (case sb_BadText => k_is)
    (case ty_BadText => k_is)
    (case ic_BadText => k_is)
    (case em_BadText_BadText => first | rfl | k_is)
    (case v_MOST_POINTS => k_is)
    (case z_bool => k_is)
    (case z_isinstance => k_is)
    (case z_int => k_is)
    (case z_len => k_is)
    (case z_tuple => k_is)
    (case z_all => k_is)
    (case z_set => k_is)
    (case z_range => k_is)
    (case z_str => k_is)
    (case z_list => k_is)
    (case z_enumerate => k_is)
    (case z_abs => k_is)
