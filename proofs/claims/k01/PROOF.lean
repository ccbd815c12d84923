import PyProof.Rows.All
import Wide.All
import OpenK.AllK
import Wide.FinOn
import HandS.ForMost
import HandS.Walk
import HandS.Flow
import HandS.Style
import HandS.TupAny
import HandS.Conv
import HandS.IsInst
import HandS.Deep
import HandS.SortInts
import HandS.Zip
import HandS.More
import HandS.SetFor
import KE.GoesEnum
import HandS.Strs
import HandS.SortRule
import PySem.Challenge.RW_turnbook_k01_turnings_point_by_point
set_option Elab.async false
set_option linter.all false
set_option maxRecDepth 100000
set_option maxHeartbeats 2000000
/-! PD: pure data over the hand layer. What stands in a slot is told by pure data: immutable data (PyData), or a tree that is owned by the slot. -/
namespace PD
open PySem L2
/-- what does not change through a law: the written part, the program, the world -/
structure KW where
  K : PySem.W.Frag
  P : Program
  w : World

/-- a step down a tree -/
inductive Stp where
  | it (j : Nat)
  | fl (f : Str)

inductive D where
  | dat (d : PyData)
  | lst (a : Addr) (xs : List PyData)
  | lsD (a : Addr) (xs : List D)
  | dk (a : Addr) (kvs : List (Key × PyData))
  | dt (a : Addr) (kvs : List (List Key × PyData))
  | ins (a C : Addr) (fs : List (Str × D))
  | tpD (xs : List D)
  | raw (v : V)
  | bor (a : Addr) (i : Nat) (π : List Stp) (d : D)
  | pr (p q : PyData)

/-- what never changes -/
def Imm : HO → Prop
  | .tup _ => True
  | .frz _ _ => True
  | _ => False

/-- a list that nobody writes: the script -/
def FrzL (K : KW) (H : Hp) (a : Addr) (xs : List V) : Prop :=
  (∃ o, H a = some (.frz o (.lst xs))) ∨
    ∃ (o : Obj) (its : Array Value) (n : Nat), K.K.lookup a = some o ∧ o.cls = .type "list" ∧ o.dict = none ∧ o.data = .seq its n ∧ its.size ≤ sizeLine ∧ Vals xs its.toList
theorem FrzL.sq {K : KW} {H : Hp} {a : Addr} {xs : List V} (h : FrzL K H a xs) : SqL K.K H a xs := by
  rcases h with ⟨o, h⟩ | h
  · exact .inl (.inr ⟨o, h⟩)
  · exact .inr h

/-- a tuple: its very object is known, so that it has no dict of its own -/
def TupAt (H : Hp) (a : Addr) (xs : List V) : Prop := ∃ o : Obj, o.dict = none ∧ H a = some (.frz o (.tup xs))
theorem TupAt.sq {K : PySem.W.Frag} {H : Hp} {a : Addr} {xs : List V} (h : TupAt H a xs) : SqT K H a xs := let ⟨o, _, e⟩ := h; .inl (.inr ⟨o, e⟩)
theorem TupAt.keep {H H' : Hp} {a : Addr} {xs : List V} (k : ∀ b o, H b = some o → Imm o → H' b = some o) (h : TupAt H a xs) : TupAt H' a xs := let ⟨o, d, e⟩ := h; ⟨o, d, k _ _ e trivial⟩
/-- a dict whose keys are tuples: xs tells the keys, where their tuples stand, the values -/
def dtφ (K : KW) (a : Addr) (xs : List (List Key × Addr × V)) : Heap → Prop := fun h => ∃ ys : List (List Key × Addr × Value),
  Paired (fun (p : List Key × Addr × V) (q : List Key × Addr × Value) => p.1 = q.1 ∧ p.2.1 = q.2.1 ∧ RelV p.2.2 q.2.2) xs ys ∧ xs.length ≤ sizeLine ∧ (a == sysModules) = false ∧
  ∃ o es ep, h.get? a = some o ∧ o.ExactDict ∧ o.data = .dict es ep ∧ es.toList = ys.map (entryOfKey (tupleKind (mixKind K.P K.w))) ∧ (ys.map (·.1)).Nodup
mutual
def RepP (K : KW) (H : Hp) : PyData → V → Prop
  | .none, v => v = .non
  | .bool b, v => v = .bl b
  | .int i, v => v = .int i
  | .str x, v => v = .str x
  | .tuple ds, v => ∃ a xs, v = .ref a ∧ TupAt H a xs ∧ RepPs K H ds xs
  | .list ds, v => ∃ a xs, v = .ref a ∧ FrzL K H a xs ∧ RepPs K H ds xs
  | .dict _, _ => False
def RepPs (K : KW) (H : Hp) : List PyData → List V → Prop
  | [], vs => vs = []
  | d :: ds, vs => ∃ v r, vs = v :: r ∧ RepP K H d v ∧ RepPs K H ds r
end
def RepKV (K : KW) (H : Hp) {κ : Type} : List (κ × PyData) → List (κ × V) → Prop
  | [], ws => ws = []
  | (k, d) :: r, ws => ∃ v rs, ws = (k, v) :: rs ∧ RepP K H d v ∧ RepKV K H r rs
def RepKT (K : KW) (H : Hp) : List (List Key × PyData) → List (List Key × Addr × V) → Prop
  | [], ws => ws = []
  | (k, d) :: r, ws => ∃ b v rs, ws = (k, b, v) :: rs ∧ TupAt H b (k.map kV) ∧ RepP K H d v ∧ RepKT K H r rs
mutual
def RepD (K : KW) (H : Hp) : D → V → Prop
  | .dat d, v => RepP K H d v
  | .lst a xs, v => v = .ref a ∧ ∃ vs, H a = some (.lst vs) ∧ RepPs K H xs vs
  | .lsD a xs, v => v = .ref a ∧ ∃ vs, H a = some (.lst vs) ∧ RepDs K H xs vs
  | .dk a kvs, v => v = .ref a ∧ ∃ ws, H a = some (.dK ws) ∧ RepKV K H kvs ws
  | .dt a kvs, v => v = .ref a ∧ ∃ xs, H a = some (.ext (dtφ K a xs)) ∧ RepKT K H kvs xs
  | .ins a C fs, v => v = .ref a ∧ ∃ dx ws, H a = some (.ins C dx ws) ∧ RepFs K H fs ws
  | .tpD xs, v => ∃ a vs, v = .ref a ∧ TupAt H a vs ∧ RepDs K H xs vs
  | .raw w, v => v = w
  | .bor a _ _ _, v => v = .ref a
  | .pr p q, v => ∃ a x y, v = .ref a ∧ H a = some (.tup [x, y]) ∧ RepP K H p x ∧ RepP K H q y
def RepDs (K : KW) (H : Hp) : List D → List V → Prop
  | [], vs => vs = []
  | d :: ds, vs => ∃ v r, vs = v :: r ∧ RepD K H d v ∧ RepDs K H ds r
def RepFs (K : KW) (H : Hp) : List (Str × D) → List (Str × V) → Prop
  | [], ws => ws = []
  | (f, d) :: r, ws => ∃ v rs, ws = (f, v) :: rs ∧ RepD K H d v ∧ RepFs K H r rs
end
def one (b a : Addr) : Nat := if b = a then 1 else 0
mutual
/-- how often an address is owned by a tree -/
def cD (b : Addr) : D → Nat
  | .dat _ => 0
  | .lst a _ => one b a
  | .lsD a xs => one b a + cDs b xs
  | .dk a _ => one b a
  | .dt a _ => one b a
  | .ins a _ fs => one b a + cFs b fs
  | .tpD xs => cDs b xs
  | .raw _ => 0
  | .bor _ _ _ _ => 0
  | .pr _ _ => 0
def cDs (b : Addr) : List D → Nat
  | [] => 0
  | d :: ds => cD b d + cDs b ds
def cFs (b : Addr) : List (Str × D) → Nat
  | [] => 0
  | (_, d) :: r => cD b d + cFs b r
end
theorem one_same (a : Addr) : one a a = 1 := by unfold one; rw [if_pos rfl]
theorem one_ne {a b : Addr} (h : b ≠ a) : one b a = 0 := by unfold one; rw [if_neg h]
theorem one_pos {a b : Addr} (h : 1 ≤ one b a) : b = a := by
  unfold one at h
  split at h
  · assumption
  · omega

section
variable {K : KW} {H H' : Hp}
theorem frzL_keep {a : Addr} {xs : List V} (k : ∀ b o, H b = some o → Imm o → H' b = some o) (h : FrzL K H a xs) : FrzL K H' a xs := by
  rcases h with ⟨o, h⟩ | h
  · exact .inl ⟨o, k _ _ h trivial⟩
  · exact .inr h
mutual
theorem RepP.keep (k : ∀ b o, H b = some o → Imm o → H' b = some o) : ∀ (d : PyData) (v : V), RepP K H d v → RepP K H' d v
  | .none, _, h => h
  | .bool _, _, h => h
  | .int _, _, h => h
  | .str _, _, h => h
  | .tuple ds, _, ⟨a, xs, e, s, r⟩ => ⟨a, xs, e, s.keep k, RepPs.keep k ds xs r⟩
  | .list ds, _, ⟨a, xs, e, s, r⟩ => ⟨a, xs, e, frzL_keep k s, RepPs.keep k ds xs r⟩
  | .dict _, _, h => h
theorem RepPs.keep (k : ∀ b o, H b = some o → Imm o → H' b = some o) : ∀ (ds : List PyData) (vs : List V), RepPs K H ds vs → RepPs K H' ds vs
  | [], _, h => h
  | d :: ds, _, ⟨v, r, e, h1, h2⟩ => ⟨v, r, e, RepP.keep k d v h1, RepPs.keep k ds r h2⟩
end
theorem RepKV.keep (k : ∀ b o, H b = some o → Imm o → H' b = some o) {κ : Type} : ∀ (ds : List (κ × PyData)) (vs : List (κ × V)), RepKV K H ds vs → RepKV K H' ds vs
  | [], _, h => h
  | (c, d) :: ds, _, ⟨v, r, e, h1, h2⟩ => ⟨v, r, e, RepP.keep k d v h1, RepKV.keep k ds r h2⟩
theorem RepKT.keep (k : ∀ b o, H b = some o → Imm o → H' b = some o) : ∀ (ds : List (List Key × PyData)) (vs : List (List Key × Addr × V)), RepKT K H ds vs → RepKT K H' ds vs
  | [], _, h => h
  | (c, d) :: ds, _, ⟨b, v, r, e, h0, h1, h2⟩ => ⟨b, v, r, e, h0.keep k, RepP.keep k d v h1, RepKT.keep k ds r h2⟩
mutual
theorem RepD.keep (k : ∀ b o, H b = some o → Imm o → H' b = some o) : ∀ (d : D) (v : V), (∀ b o, 1 ≤ cD b d → H b = some o → H' b = some o) → RepD K H d v → RepD K H' d v
  | .dat d, v, _, h => RepP.keep k d v h
  | .lst a xs, v, c, ⟨e, vs, h1, h2⟩ => ⟨e, vs, c a _ (Nat.le_of_eq (one_same a).symm) h1, RepPs.keep k xs vs h2⟩
  | .lsD a xs, v, c, ⟨e, vs, h1, h2⟩ => ⟨e, vs, c a _ (by show 1 ≤ one a a + _; rw [one_same]; omega) h1, RepDs.keep k xs vs (fun b o hb => c b o (by show 1 ≤ _ + cDs b xs; omega)) h2⟩
  | .dk a kvs, v, c, ⟨e, ws, h1, h2⟩ => ⟨e, ws, c a _ (Nat.le_of_eq (one_same a).symm) h1, RepKV.keep k kvs ws h2⟩
  | .dt a kvs, v, c, ⟨e, ws, h1, h2⟩ => ⟨e, ws, c a _ (Nat.le_of_eq (one_same a).symm) h1, RepKT.keep k kvs ws h2⟩
  | .ins a C fs, v, c, ⟨e, dx, ws, h1, h2⟩ => ⟨e, dx, ws, c a _ (by show 1 ≤ one a a + _; rw [one_same]; omega) h1, RepFs.keep k fs ws (fun b o hb => c b o (by show 1 ≤ _ + cFs b fs; omega)) h2⟩
  | .tpD xs, v, c, ⟨a, vs, e, h1, h2⟩ => ⟨a, vs, e, h1.keep k, RepDs.keep k xs vs c h2⟩
  | .raw w, v, _, h => h
  | .bor _ _ _ _, v, _, h => h
  | .pr p q, v, _, ⟨a, x, y, e, h0, h1, h2⟩ => ⟨a, x, y, e, k _ _ h0 trivial, RepP.keep k p x h1, RepP.keep k q y h2⟩
theorem RepDs.keep (k : ∀ b o, H b = some o → Imm o → H' b = some o) : ∀ (ds : List D) (vs : List V), (∀ b o, 1 ≤ cDs b ds → H b = some o → H' b = some o) → RepDs K H ds vs → RepDs K H' ds vs
  | [], _, _, h => h
  | d :: ds, _, c, ⟨v, r, e, h1, h2⟩ => ⟨v, r, e, RepD.keep k d v (fun b o hb => c b o (by show 1 ≤ cD b d + cDs b ds; omega)) h1, RepDs.keep k ds r (fun b o hb => c b o (by show 1 ≤ cD b d + cDs b ds; omega)) h2⟩
theorem RepFs.keep (k : ∀ b o, H b = some o → Imm o → H' b = some o) : ∀ (ds : List (Str × D)) (vs : List (Str × V)), (∀ b o, 1 ≤ cFs b ds → H b = some o → H' b = some o) → RepFs K H ds vs → RepFs K H' ds vs
  | [], _, _, h => h
  | (f, d) :: ds, _, c, ⟨v, r, e, h1, h2⟩ => ⟨v, r, e, RepD.keep k d v (fun b o hb => c b o (by show 1 ≤ cD b d + cFs b ds; omega)) h1, RepFs.keep k ds r (fun b o hb => c b o (by show 1 ≤ cD b d + cFs b ds; omega)) h2⟩
end
/-! what is owned is tracked, and may change -/
mutual
theorem RepD.own : ∀ (d : D) (v : V), RepD K H d v → ∀ b, 1 ≤ cD b d → ∃ o, H b = some o ∧ ¬ Imm o
  | .dat _, _, _, b, h => absurd h (by show ¬ 1 ≤ 0; omega)
  | .lst a xs, v, ⟨e, vs, h1, h2⟩, b, h => by cases one_pos h; exact ⟨_, h1, id⟩
  | .lsD a xs, v, ⟨e, vs, h1, h2⟩, b, h => by
    by_cases q : b = a
    · subst q; exact ⟨_, h1, id⟩
    · exact RepDs.own xs vs h2 b (by have h' : 1 ≤ one b a + cDs b xs := h; rw [one_ne q] at h'; omega)
  | .dk a _, v, ⟨e, vs, h1, h2⟩, b, h => by cases one_pos h; exact ⟨_, h1, id⟩
  | .dt a _, v, ⟨e, vs, h1, h2⟩, b, h => by cases one_pos h; exact ⟨_, h1, id⟩
  | .ins a C fs, v, ⟨e, dx, ws, h1, h2⟩, b, h => by
    by_cases q : b = a
    · subst q; exact ⟨_, h1, id⟩
    · exact RepFs.own fs ws h2 b (by have h' : 1 ≤ one b a + cFs b fs := h; rw [one_ne q] at h'; omega)
  | .tpD xs, v, ⟨a, vs, e, h1, h2⟩, b, h => RepDs.own xs vs h2 b h
  | .raw _, _, _, b, h => absurd h (by show ¬ 1 ≤ 0; omega)
  | .bor _ _ _ _, _, _, b, h => absurd h (by show ¬ 1 ≤ 0; omega)
  | .pr _ _, _, _, b, h => absurd h (by show ¬ 1 ≤ 0; omega)
theorem RepDs.own : ∀ (ds : List D) (vs : List V), RepDs K H ds vs → ∀ b, 1 ≤ cDs b ds → ∃ o, H b = some o ∧ ¬ Imm o
  | [], _, _, b, h => absurd h (by show ¬ 1 ≤ 0; omega)
  | d :: ds, _, ⟨v, r, e, h1, h2⟩, b, h => by
    by_cases q : 1 ≤ cD b d
    · exact RepD.own d v h1 b q
    · exact RepDs.own ds r h2 b (by have h' : 1 ≤ cD b d + cDs b ds := h; omega)
theorem RepFs.own : ∀ (ds : List (Str × D)) (vs : List (Str × V)), RepFs K H ds vs → ∀ b, 1 ≤ cFs b ds → ∃ o, H b = some o ∧ ¬ Imm o
  | [], _, _, b, h => absurd h (by show ¬ 1 ≤ 0; omega)
  | (f, d) :: ds, _, ⟨v, r, e, h1, h2⟩, b, h => by
    by_cases q : 1 ≤ cD b d
    · exact RepD.own d v h1 b q
    · exact RepFs.own ds r h2 b (by have h' : 1 ≤ cD b d + cFs b ds := h; omega)
end
theorem RepPs.len : ∀ {ds : List PyData} {vs : List V}, RepPs K H ds vs → ds.length = vs.length
  | [], _, h => by subst h; rfl
  | _ :: _, _, ⟨v, r, e, _, h⟩ => by subst e; simp [RepPs.len h]
theorem RepDs.len : ∀ {ds : List D} {vs : List V}, RepDs K H ds vs → ds.length = vs.length
  | [], _, h => by subst h; rfl
  | _ :: _, _, ⟨v, r, e, _, h⟩ => by subst e; simp [RepDs.len h]
theorem RepPs.get : ∀ {ds : List PyData} {vs : List V} {i : Nat} {d : PyData}, RepPs K H ds vs → ds[i]? = some d → ∃ v, vs[i]? = some v ∧ RepP K H d v
  | [], _, _, _, _, e => by simp at e
  | d :: ds, _, 0, _, ⟨v, r, e, h1, _⟩, e2 => by
    simp at e2; subst e2; subst e; exact ⟨v, rfl, h1⟩
  | d :: ds, _, i + 1, _, ⟨v, r, e, _, h2⟩, e2 => by
    subst e
    obtain ⟨w, q1, q2⟩ := RepPs.get (i := i) h2 (by simpa using e2)
    exact ⟨w, by simpa using q1, q2⟩
theorem RepPs.getV {ds : List PyData} {vs : List V} {i : Nat} {v : V} (h : RepPs K H ds vs) (e : vs[i]? = some v) : ∃ d, ds[i]? = some d ∧ RepP K H d v := by
  have hl := h.len
  have hi : i < vs.length := (List.getElem?_eq_some_iff.mp e).1
  obtain ⟨w, q1, q2⟩ := h.get (i := i) (d := ds[i]'(by omega)) (by simp)
  rw [e] at q1; cases q1
  exact ⟨_, by simp, q2⟩
theorem RepPs.append : ∀ {ds es : List PyData} {vs ws : List V}, RepPs K H ds vs → RepPs K H es ws → RepPs K H (ds ++ es) (vs ++ ws)
  | [], _, _, _, h, q => by subst h; exact q
  | d :: ds, _, _, _, ⟨v, r, e, h1, h2⟩, q => by subst e; exact ⟨v, _, rfl, h1, RepPs.append h2 q⟩
theorem RepPs.set : ∀ {ds : List PyData} {vs : List V} {d : PyData} {v : V} (i : Nat), RepPs K H ds vs → RepP K H d v → RepPs K H (ds.set i d) (vs.set i v)
  | [], _, _, _, i, h, _ => by subst h; cases i <;> rfl
  | e :: ds, _, _, _, 0, ⟨w, r, q, h1, h2⟩, h => by subst q; exact ⟨_, _, rfl, h, h2⟩
  | e :: ds, _, _, _, i + 1, ⟨w, r, q, h1, h2⟩, h => by subst q; exact ⟨_, _, rfl, h1, RepPs.set i h2 h⟩
theorem RepPs.take : ∀ {ds : List PyData} {vs : List V} (n : Nat), RepPs K H ds vs → RepPs K H (ds.take n) (vs.take n)
  | _, _, 0, _ => by simp; rfl
  | [], _, n + 1, h => by subst h; rfl
  | d :: ds, _, n + 1, ⟨w, r, q, h1, h2⟩ => by subst q; exact ⟨_, _, rfl, h1, RepPs.take n h2⟩
theorem RepPs.drop : ∀ {ds : List PyData} {vs : List V} (n : Nat), RepPs K H ds vs → RepPs K H (ds.drop n) (vs.drop n)
  | _, _, 0, h => by simpa using h
  | [], _, n + 1, h => by subst h; rfl
  | d :: ds, _, n + 1, ⟨w, r, q, h1, h2⟩ => by subst q; simpa using RepPs.drop n h2
theorem RepPs.reverse {ds : List PyData} {vs : List V} (h : RepPs K H ds vs) : RepPs K H ds.reverse vs.reverse := by
  induction ds generalizing vs with
  | nil => subst h; rfl
  | cons d ds ih =>
    obtain ⟨v, r, e, h1, h2⟩ := h
    subst e
    rw [List.reverse_cons, List.reverse_cons]
    exact (ih h2).append ⟨v, [], rfl, h1, rfl⟩
theorem RepPs.ints : ∀ {ns : List Int} {vs : List V}, RepPs K H (ns.map PyData.int) vs → vs = ns.map V.int
  | [], _, h => h
  | n :: ns, _, ⟨v, r, e, h1, h2⟩ => by subst e; cases h1; rw [RepPs.ints h2]; rfl
theorem RepPs.of_ints : ∀ (ns : List Int), RepPs K H (ns.map PyData.int) (ns.map V.int)
  | [] => rfl
  | n :: ns => ⟨_, _, rfl, rfl, RepPs.of_ints ns⟩
theorem RepDs.append : ∀ {ds es : List D} {vs ws : List V}, RepDs K H ds vs → RepDs K H es ws → RepDs K H (ds ++ es) (vs ++ ws)
  | [], _, _, _, h, q => by subst h; exact q
  | d :: ds, _, _, _, ⟨v, r, e, h1, h2⟩, q => by subst e; exact ⟨v, _, rfl, h1, RepDs.append h2 q⟩
theorem RepDs.get : ∀ {ds : List D} {vs : List V} {i : Nat} {d : D}, RepDs K H ds vs → ds[i]? = some d → ∃ v, vs[i]? = some v ∧ RepD K H d v
  | [], _, _, _, _, e => by simp at e
  | d :: ds, _, 0, _, ⟨v, r, e, h1, _⟩, e2 => by
    simp at e2; subst e2; subst e; exact ⟨v, rfl, h1⟩
  | d :: ds, _, i + 1, _, ⟨v, r, e, _, h2⟩, e2 => by
    subst e
    obtain ⟨w, q1, q2⟩ := RepDs.get (i := i) h2 (by simpa using e2)
    exact ⟨w, by simpa using q1, q2⟩
theorem cDs_append (b : Addr) : ∀ xs ys : List D, cDs b (xs ++ ys) = cDs b xs + cDs b ys
  | [], ys => by show cDs b ys = 0 + _; omega
  | x :: xs, ys => by show cD b x + cDs b (xs ++ ys) = cD b x + cDs b xs + cDs b ys; rw [cDs_append b xs ys]; omega
end

/-! ### the slots -/
abbrev PSt := List (Option D)
def cO (b : Addr) : Option D → Nat
  | none => 0
  | some d => cD b d
def cS (b : Addr) : PSt → Nat
  | [] => 0
  | o :: r => cO b o + cS b r
def RepO (K : KW) (H : Hp) : Option D → Option V → Prop
  | none, _ => True
  | some d, s => ∃ v, s = some v ∧ RepD K H d v
def RepS (K : KW) (H : Hp) : PSt → St → Prop
  | [], σ => σ = []
  | o :: r, σ => ∃ s q, σ = s :: q ∧ RepO K H o s ∧ RepS K H r q
section
variable {K : KW} {H H' : Hp}
theorem RepS.get : ∀ {ds : PSt} {σ : St} {i : Nat} {d : D}, RepS K H ds σ → ds[i]? = some (some d) → ∃ v, σ[i]? = some (some v) ∧ RepD K H d v
  | [], _, _, _, _, e => by simp at e
  | o :: r, _, 0, _, ⟨s, q, e, h1, _⟩, e2 => by
    simp at e2; subst e2; subst e
    obtain ⟨v, e3, h⟩ := h1
    exact ⟨v, by simp [e3], h⟩
  | o :: r, _, i + 1, _, ⟨s, q, e, _, h2⟩, e2 => by
    subst e
    obtain ⟨w, q1, q2⟩ := RepS.get (i := i) h2 (by simpa using e2)
    exact ⟨w, by simpa using q1, q2⟩
theorem RepS.set : ∀ {ds : PSt} {σ : St} {i : Nat} {d : D} {v : V}, RepS K H ds σ → RepD K H d v → RepS K H (ds.set i (some d)) (σ.set i (some v))
  | [], _, i, _, _, h, _ => by subst h; cases i <;> rfl
  | o :: r, _, 0, _, _, ⟨s, q, e, h1, h2⟩, h => by subst e; exact ⟨_, _, rfl, ⟨_, rfl, h⟩, h2⟩
  | o :: r, _, i + 1, _, _, ⟨s, q, e, h1, h2⟩, h => by subst e; exact ⟨_, _, rfl, h1, RepS.set (i := i) h2 h⟩
/-- the tree in a slot is told anew, its value the same -/
theorem RepS.put : ∀ {ds : PSt} {σ : St} {i : Nat} {d : D} {v : V}, RepS K H ds σ → σ[i]? = some (some v) → RepD K H d v → RepS K H (ds.set i (some d)) σ
  | [], _, i, _, _, h, _, _ => by subst h; cases i <;> rfl
  | o :: r, _, 0, _, _, ⟨s, q, e, h1, h2⟩, hv, h => by subst e; exact ⟨_, _, rfl, ⟨_, by simpa using hv, h⟩, h2⟩
  | o :: r, _, i + 1, _, _, ⟨s, q, e, h1, h2⟩, hv, h => by subst e; exact ⟨_, _, rfl, h1, RepS.put (i := i) h2 (by simpa using hv) h⟩
theorem RepS.hole : ∀ {ds : PSt} {σ : St} {i : Nat}, RepS K H ds σ → RepS K H (ds.set i none) σ
  | [], _, i, h => by subst h; cases i <;> rfl
  | o :: r, _, 0, ⟨s, q, e, h1, h2⟩ => by subst e; exact ⟨_, _, rfl, trivial, h2⟩
  | o :: r, _, i + 1, ⟨s, q, e, h1, h2⟩ => by subst e; exact ⟨_, _, rfl, h1, RepS.hole (i := i) h2⟩
/-- a slot emptied on both sides -/
theorem RepS.out : ∀ {ds : PSt} {σ : St} {i : Nat}, RepS K H ds σ → RepS K H (ds.set i none) (σ.set i none)
  | [], _, i, h => by subst h; cases i <;> rfl
  | o :: r, _, 0, ⟨s, q, e, h1, h2⟩ => by subst e; exact ⟨_, _, rfl, trivial, h2⟩
  | o :: r, _, i + 1, ⟨s, q, e, h1, h2⟩ => by subst e; exact ⟨_, _, rfl, h1, RepS.out (i := i) h2⟩
theorem RepS.len : ∀ {ds : PSt} {σ : St}, RepS K H ds σ → ds.length = σ.length
  | [], _, h => by subst h; rfl
  | _ :: _, _, ⟨s, q, e, _, h⟩ => by subst e; simp [RepS.len h]
theorem RepO.keep (k : ∀ b o, H b = some o → Imm o → H' b = some o) : ∀ (o : Option D) (s : Option V), (∀ b u, 1 ≤ cO b o → H b = some u → H' b = some u) → RepO K H o s → RepO K H' o s
  | none, _, _, _ => trivial
  | some d, _, c, ⟨v, e, h⟩ => ⟨v, e, RepD.keep k d v c h⟩
theorem RepS.keep (k : ∀ b o, H b = some o → Imm o → H' b = some o) : ∀ (ds : PSt) (σ : St), (∀ b u, 1 ≤ cS b ds → H b = some u → H' b = some u) → RepS K H ds σ → RepS K H' ds σ
  | [], _, _, h => h
  | o :: r, _, c, ⟨s, q, e, h1, h2⟩ => ⟨s, q, e, RepO.keep k o s (fun b u hb => c b u (by show 1 ≤ cO b o + cS b r; omega)) h1, RepS.keep k r q (fun b u hb => c b u (by show 1 ≤ cO b o + cS b r; omega)) h2⟩
theorem RepS.own : ∀ (ds : PSt) (σ : St), RepS K H ds σ → ∀ b, 1 ≤ cS b ds → ∃ o, H b = some o ∧ ¬ Imm o
  | [], _, _, b, h => absurd h (by show ¬ 1 ≤ 0; omega)
  | o :: r, _, ⟨s, q, e, h1, h2⟩, b, h => by
    by_cases z : 1 ≤ cO b o
    · cases o with
      | none => exact absurd z (by show ¬ 1 ≤ 0; omega)
      | some d =>
        obtain ⟨v, _, h3⟩ := h1
        exact RepD.own d v h3 b z
    · exact RepS.own r q h2 b (by have h' : 1 ≤ cO b o + cS b r := h; omega)
theorem cS_get : ∀ {ds : PSt} {i : Nat} {d : D} (b : Addr), ds[i]? = some (some d) → cS b (ds.set i none) + cD b d = cS b ds
  | [], _, _, _, e => by simp at e
  | o :: r, 0, d, b, e => by
    simp at e; subst e
    show (cO b none + cS b r) + cD b d = cO b (some d) + cS b r
    show (0 + cS b r) + cD b d = cD b d + cS b r
    omega
  | o :: r, i + 1, d, b, e => by
    have := cS_get (ds := r) (i := i) b (by simpa using e)
    show (cO b o + cS b (r.set i none)) + cD b d = cO b o + cS b r
    omega
theorem cS_set : ∀ {ds : PSt} {i : Nat} {d : D} (b : Addr), i < ds.length → cS b (ds.set i (some d)) = cS b (ds.set i none) + cD b d
  | [], _, _, _, e => by simp at e
  | o :: r, 0, d, b, e => by
    show cD b d + cS b r = (0 + cS b r) + cD b d
    omega
  | o :: r, i + 1, d, b, e => by
    have := cS_set (ds := r) (i := i) (d := d) b (by simpa using e)
    show cO b o + cS b (r.set i (some d)) = (cO b o + cS b (r.set i none)) + cD b d
    omega
theorem cS_hole : ∀ {ds : PSt} {i : Nat} (b : Addr), cS b (ds.set i none) ≤ cS b ds
  | [], i, _ => by cases i <;> exact Nat.le_refl _
  | o :: r, 0, b => by
    show 0 + cS b r ≤ cO b o + cS b r
    omega
  | o :: r, i + 1, b => by
    have := cS_hole (ds := r) (i := i) b
    show cO b o + cS b (r.set i none) ≤ cO b o + cS b r
    omega
theorem cS_le : ∀ {ds : PSt} {i : Nat} {d : D} (b : Addr), ds[i]? = some (some d) → cD b d ≤ cS b ds := fun {ds i d} b e => by
  have := cS_get b e
  omega
end

/-- the state: slots and temps told, all that is owned owned once, new or the caller's own; what stood ahead of the call stands -/
structure Cfg (K : KW) (H0 : Hp) (f0 : Addr → Prop) (H : Hp) (σ : St) (ds : PSt) (vs : List V) (es : List D) : Prop where
  sl : RepS K H ds σ
  tm : RepDs K H es vs
  nd : ∀ a, cS a ds + cDs a es ≤ 1
  fr : ∀ a, 1 ≤ cS a ds + cDs a es → f0 a ∨ H0 a = none
  kp : ∀ a o, ¬ f0 a → H0 a = some o → H a = some o
section
variable {K : KW} {H0 H H' : Hp} {f0 : Addr → Prop} {σ : St} {ds : PSt} {vs : List V} {es : List D} {v w : V} {d : D}
theorem Cfg.grow (C : Cfg K H0 f0 H σ ds vs es) (k : ∀ a o, H a = some o → H' a = some o) : Cfg K H0 f0 H' σ ds vs es :=
  ⟨RepS.keep (fun b o h _ => k b o h) _ _ (fun b o _ h => k b o h) C.sl, RepDs.keep (fun b o h _ => k b o h) _ _ (fun b o _ h => k b o h) C.tm, C.nd, C.fr, fun a o h1 h2 => k a o (C.kp a o h1 h2)⟩
theorem Cfg.push (C : Cfg K H0 f0 H σ ds vs es) (r : RepD K H d v) (c : ∀ a, cD a d = 0) : Cfg K H0 f0 H σ ds (v :: vs) (d :: es) :=
  ⟨C.sl, ⟨v, vs, rfl, r, C.tm⟩, fun a => by have := C.nd a; have := c a; show cS a ds + (cD a d + cDs a es) ≤ 1; omega,
    fun a h => C.fr a (by have := c a; have h' : 1 ≤ cS a ds + (cD a d + cDs a es) := h; omega), C.kp⟩
theorem Cfg.tracked (C : Cfg K H0 f0 H σ ds vs es) {a : Addr} (h : 1 ≤ cS a ds + cDs a es) : ∃ o, H a = some o ∧ ¬ Imm o := by
  by_cases q : 1 ≤ cS a ds
  · exact RepS.own _ _ C.sl a q
  · exact RepDs.own _ _ C.tm a (by omega)
theorem Cfg.untracked (C : Cfg K H0 f0 H σ ds vs es) {a : Addr} (h : H a = none) : cS a ds + cDs a es = 0 := by
  by_cases q : 1 ≤ cS a ds + cDs a es
  · obtain ⟨o, e, _⟩ := C.tracked q
    rw [h] at e; cases e
  · omega
/-- a new tree on the temps -/
theorem Cfg.pushNew (C : Cfg K H0 f0 H σ ds vs es) (k : ∀ a o, H a = some o → H' a = some o) (r : RepD K H' d v) (c : ∀ a, cD a d ≤ 1) (n : ∀ a, 1 ≤ cD a d → H a = none) : Cfg K H0 f0 H' σ ds (v :: vs) (d :: es) := by
  have C' := C.grow k
  refine ⟨C'.sl, ⟨v, vs, rfl, r, C'.tm⟩, fun a => ?_, fun a h => ?_, C'.kp⟩
  · show cS a ds + (cD a d + cDs a es) ≤ 1
    by_cases q : 1 ≤ cD a d
    · have := C.untracked (n a q); have := c a; omega
    · have := C.nd a; omega
  · have h' : 1 ≤ cS a ds + (cD a d + cDs a es) := h
    by_cases q : 1 ≤ cD a d
    · by_cases z : f0 a
      · exact .inl z
      · refine .inr ?_
        cases e : H0 a with
        | none => rfl
        | some o =>
          have := C.kp a o z e
          rw [n a q] at this; cases this
    · exact C.fr a (by omega)
theorem Cfg.pop (C : Cfg K H0 f0 H σ ds (v :: vs) (d :: es)) : Cfg K H0 f0 H σ ds vs es := by
  obtain ⟨v', r, e, h1, h2⟩ := C.tm
  cases e
  exact ⟨C.sl, h2, fun a => by have : cS a ds + (cD a d + cDs a es) ≤ 1 := C.nd a; omega, fun a h => C.fr a (by show 1 ≤ cS a ds + (cD a d + cDs a es); omega), C.kp⟩
theorem Cfg.top (C : Cfg K H0 f0 H σ ds (v :: vs) (d :: es)) : RepD K H d v := by
  obtain ⟨v', r, e, h1, h2⟩ := C.tm
  cases e
  exact h1
/-- the top temp told otherwise -/
theorem Cfg.retop {d' : D} (C : Cfg K H0 f0 H σ ds (v :: vs) (d :: es)) (r : RepD K H d' w) (c : ∀ a, cD a d' ≤ cD a d) : Cfg K H0 f0 H σ ds (w :: vs) (d' :: es) := by
  have C' := C.pop
  refine ⟨C.sl, ⟨w, vs, rfl, r, C'.tm⟩, fun a => ?_, fun a h => ?_, C.kp⟩
  · have h1 : cS a ds + (cD a d + cDs a es) ≤ 1 := C.nd a
    have h2 := c a
    show cS a ds + (cD a d' + cDs a es) ≤ 1
    omega
  · have h1 : 1 ≤ cS a ds + (cD a d' + cDs a es) := h
    have h2 := c a
    exact C.fr a (by show 1 ≤ cS a ds + (cD a d + cDs a es); omega)
/-- the top temp into a slot -/
theorem Cfg.set (C : Cfg K H0 f0 H σ ds (v :: vs) (d :: es)) (i : Nat) : Cfg K H0 f0 H (σ.set i (some v)) (ds.set i (some d)) vs es := by
  obtain ⟨v', r, e, h1, h2⟩ := C.tm
  cases e
  have hc : ∀ a, cS a (ds.set i (some d)) ≤ cS a ds + cD a d := fun a => by
    by_cases q : i < ds.length
    · rw [cS_set a q]
      have := cS_hole (ds := ds) (i := i) a
      omega
    · rw [List.set_eq_of_length_le (by omega)]; omega
  refine ⟨C.sl.set h1, h2, fun a => ?_, fun a h => ?_, C.kp⟩
  · have h3 : cS a ds + (cD a d + cDs a es) ≤ 1 := C.nd a
    have := hc a
    omega
  · have := hc a
    exact C.fr a (by show 1 ≤ cS a ds + (cD a d + cDs a es); omega)
/-- what a slot owns is changed, within it -/
theorem Cfg.mut (C : Cfg K H0 f0 H σ ds vs es) {i : Nat} {d' : D} {b : Addr} {o : HO} (hd : ds[i]? = some (some d)) (hb : 1 ≤ cD b d) (hv : ∀ v, σ[i]? = some (some v) → RepD K H d v → RepD K (upd H b o) d' v) (c : ∀ a, cD a d' ≤ cD a d) :
    Cfg K H0 f0 (upd H b o) σ (ds.set i (some d')) vs es := by
  obtain ⟨v, e, hr⟩ := C.sl.get hd
  have hi : i < ds.length := (List.getElem?_eq_some_iff.mp hd).1
  obtain ⟨u, hu, hm⟩ := RepD.own d v hr b hb
  have imm : ∀ a o', H a = some o' → Imm o' → upd H b o a = some o' := fun a o' h1 h2 => by
    rw [upd_ne]
    · exact h1
    · rintro rfl; rw [hu] at h1; cases h1; exact hm h2
  have hole : ∀ a, cS a (ds.set i none) + cD a d = cS a ds := fun a => cS_get a hd
  have oth : ∀ a o', 1 ≤ cS a (ds.set i none) + cDs a es → H a = some o' → upd H b o a = some o' := fun a o' h1 h2 => by
    rw [upd_ne]
    · exact h2
    · rintro rfl; have := C.nd a; have := hole a; omega
  have sl0 : RepS K (upd H b o) (ds.set i none) σ := RepS.keep imm _ _ (fun a o' h1 h2 => oth a o' (by omega) h2) C.sl.hole
  have sl1 : RepS K (upd H b o) ((ds.set i none).set i (some d')) σ := sl0.put e (hv v e hr)
  rw [List.set_set] at sl1
  refine ⟨sl1, RepDs.keep imm _ _ (fun a o' h1 h2 => oth a o' (by omega) h2) C.tm, fun a => ?_, fun a h => ?_, fun a o' h1 h2 => ?_⟩
  · rw [cS_set a hi]; have := C.nd a; have := hole a; have := c a; omega
  · rw [cS_set a hi] at h; have := hole a; have := c a; exact C.fr a (by omega)
  · have h3 := C.kp a o' h1 h2
    rw [upd_ne]
    · exact h3
    · rintro rfl
      rcases C.fr a (by have := hole a; omega) with z | z
      · exact h1 z
      · rw [z] at h2; cases h2
end

/-! ### readings over pure data -/
abbrev TEP := PSt → (D → PSt → Prop) → Prop
abbrev TTP := PSt → (Bool → PSt → Prop) → Prop
abbrev TAP := PSt → (List D → PSt → Prop) → Prop
structure PEnds where
  nx : PSt → Prop
  rt : D → PSt → Prop
  bk : PSt → Prop := fun _ => False
  ct : PSt → Prop := fun _ => False
abbrev TSP := PEnds → PSt → Prop
def liftE (K : KW) (t : TEP) : TE := fun σ H Q => ∃ H0 f0 ds vs es Qd, Cfg K H0 f0 H σ ds vs es ∧ t ds Qd ∧ ∀ v d H' ds', Cfg K H0 f0 H' σ ds' (v :: vs) (d :: es) → Qd d ds' → Q v H'
def liftT (K : KW) (t : TTP) : TT := fun σ H Q => ∃ H0 f0 ds vs es Qd, Cfg K H0 f0 H σ ds vs es ∧ t ds Qd ∧ ∀ b H' ds', Cfg K H0 f0 H' σ ds' vs es → Qd b ds' → Q b H'
/-- arguments: the first on top -/
def liftA (K : KW) (t : TAP) : TA := fun σ H Q => ∃ H0 f0 ds vs es Qd, Cfg K H0 f0 H σ ds vs es ∧ t ds Qd ∧ ∀ ws as H' ds', Cfg K H0 f0 H' σ ds' (ws ++ vs) (as ++ es) → as.length = ws.length → Qd as ds' → Q ws H'
structure LS (K : KW) (H0 : Hp) (f0 : Addr → Prop) (vs : List V) (es : List D) (E : PEnds) (D : Ends) : Prop where
  nx : ∀ σ H ds, Cfg K H0 f0 H σ ds vs es → E.nx ds → D.nx σ H
  bk : ∀ σ H ds, Cfg K H0 f0 H σ ds vs es → E.bk ds → D.bk σ H
  ct : ∀ σ H ds, Cfg K H0 f0 H σ ds vs es → E.ct ds → D.ct σ H
  rt : ∀ σ H ds v d, Cfg K H0 f0 H σ ds (v :: vs) (d :: es) → E.rt d ds → D.rt v H
def liftS (K : KW) (t : TSP) : TS := fun D σ H => ∃ H0 f0 ds vs es E, Cfg K H0 f0 H σ ds vs es ∧ t E ds ∧ LS K H0 f0 vs es E D
/-! an expression, a test, arguments, a statement, a block, by pure data -/
/-- the context's -/
abbrev kw (X : Cx) : KW := ⟨X.K, X.prog, X.w⟩
def PEd (X : Cx) (e : Expr) (t : TEP) : Prop := PE X e (liftE (kw X) t)
def PTd (X : Cx) (e : Expr) (t : TTP) : Prop := PT X e (liftT (kw X) t)
def PAd (X : Cx) (es : List Expr) (t : TAP) : Prop := PA X es (liftA (kw X) t)
def PSd (X : Cx) (st : Stmt) (t : TSP) : Prop := PS X st (liftS (kw X) t)
def PSsd (X : Cx) (st : List Stmt) (t : TSP) : Prop := PSs X st (liftS (kw X) t)
theorem pe_imp {X : Cx} {e : Expr} {t u : TE} (h : PE X e t) (k : ∀ σ H Q, u σ H Q → t σ H Q) : PE X e u := ⟨fun pins s σ H Q I q => h.run pins s σ H Q I (k σ H Q q)⟩
theorem pt_imp {X : Cx} {e : Expr} {t u : TT} (h : PT X e t) (k : ∀ σ H Q, u σ H Q → t σ H Q) : PT X e u := ⟨fun pins s σ H Q I q => h.run pins s σ H Q I (k σ H Q q)⟩
theorem pw_imp {X : Cx} {e : Expr} {t u : TT} (h : PW X e t) (k : ∀ σ H Q, u σ H Q → t σ H Q) : PW X e u := ⟨fun w pins s σ H Q I q => h.run w pins s σ H Q I (k σ H Q q)⟩
theorem pa_imp {X : Cx} {e : List Expr} {t u : TA} (h : PA X e t) (k : ∀ σ H Q, u σ H Q → t σ H Q) : PA X e u := ⟨fun pos pins s σ H Q I q => h.run pos pins s σ H Q I (k σ H Q q)⟩
theorem ps_imp {X : Cx} {e : Stmt} {t u : TS} (h : PS X e t) (k : ∀ D σ H, u D σ H → t D σ H) : PS X e u := ⟨fun pins s σ H D I q => h.run pins s σ H D I (k D σ H q)⟩
theorem pss_imp {X : Cx} {e : List Stmt} {t u : TS} (h : PSs X e t) (k : ∀ D σ H, u D σ H → t D σ H) : PSs X e u := ⟨fun pins s σ H D I q => h.run pins s σ H D I (k D σ H q)⟩
end PD
set_option Elab.async false
set_option linter.all false
set_option maxRecDepth 100000
set_option maxHeartbeats 2000000
/-! PD, second part: trees seen through a reference, written in place; expressions by pure data. -/
namespace PD
open PySem L2

/-! ### a subtree, seen by its address -/
def root : D → Option Addr
  | .lst a _ => some a
  | .lsD a _ => some a
  | .dk a _ => some a
  | .dt a _ => some a
  | .ins a _ _ => some a
  | _ => none
def setF (f : Str) (d : D) : List (Str × D) → List (Str × D)
  | [] => []
  | (g, x) :: r => if f = g then (g, d) :: r else (g, x) :: setF f d r
inductive Sub : D → D → Prop
  | here (d : D) : Sub d d
  | fld {a C : Addr} {fs : List (Str × D)} {f : Str} {d t : D} : fs.lookup f = some d → Sub d t → Sub (.ins a C fs) t
  | item {a : Addr} {xs : List D} {j : Nat} {d t : D} : xs[j]? = some d → Sub d t → Sub (.lsD a xs) t
inductive SubW : D → D → D → D → Prop
  | here (t t' : D) : SubW t t t' t'
  | fld {a C : Addr} {fs : List (Str × D)} {f : Str} {d t t' d' : D} : fs.lookup f = some d → SubW d t t' d' → SubW (.ins a C fs) t t' (.ins a C (setF f d' fs))
  | item {a : Addr} {xs : List D} {j : Nat} {d t t' d' : D} : xs[j]? = some d → SubW d t t' d' → SubW (.lsD a xs) t t' (.lsD a (xs.set j d'))
def getP : D → List Stp → Option D
  | d, [] => some d
  | .lsD _ xs, .it j :: π => match xs[j]? with
    | some d => getP d π
    | none => none
  | .ins _ _ fs, .fl f :: π => match fs.lookup f with
    | some d => getP d π
    | none => none
  | _, _ :: _ => none
def setP : D → List Stp → D → Option D
  | _, [], t => some t
  | .lsD a xs, .it j :: π, t => match xs[j]? with
    | some d => match setP d π t with
      | some d' => some (.lsD a (xs.set j d'))
      | none => none
    | none => none
  | .ins a C fs, .fl f :: π, t => match fs.lookup f with
    | some d => match setP d π t with
      | some d' => some (.ins a C (setF f d' fs))
      | none => none
    | none => none
  | _, _ :: _, _ => none
/-- x tells the tree t: itself, or by a reference to a part of what a slot owns -/
def See (ds : PSt) : D → D → Prop
  | .bor a i π d, t => t = d ∧ root d = some a ∧ ∃ e, ds[i]? = some (some e) ∧ getP e π = some d
  | x, t => t = x
/-- what x refers to, t, is now t' -/
def upS (ds : PSt) (i : Nat) (π : List Stp) (t t' : D) (k : PSt → Prop) : Prop := ∃ e e', ds[i]? = some (some e) ∧ getP e π = some t ∧ setP e π t' = some e' ∧ k (ds.set i (some e'))
/-- the part t of what a slot owns is now t' -/
def Wr (ds : PSt) (t t' : D) (ds' : PSt) : Prop := ∃ (i : Nat) (d d' : D), ds[i]? = some (some d) ∧ SubW d t t' d' ∧ ds' = ds.set i (some d')
section
variable {K : KW} {H H' H0 : Hp} {f0 : Addr → Prop} {σ : St} {ds ds' : PSt} {vs : List V} {es : List D} {v w : V} {d t x : D} {a : Addr}
theorem RepFs.look : ∀ {fs : List (Str × D)} {ws : List (Str × V)} {f : Str} {d : D}, RepFs K H fs ws → fs.lookup f = some d → ∃ v, ws.lookup f = some v ∧ RepD K H d v
  | [], _, _, _, _, e => by simp at e
  | (g, x) :: r, _, f, d, ⟨v, rs, e, h1, h2⟩, q => by
    subst e
    by_cases z : f = g
    · subst z
      simp [List.lookup] at q ⊢
      subst q
      exact h1
    · have z' : (f == g) = false := by simpa using z
      simp only [List.lookup, z'] at q ⊢
      exact RepFs.look h2 q
theorem cFs_look : ∀ {fs : List (Str × D)} {f : Str} {d : D} (b : Addr), fs.lookup f = some d → cD b d ≤ cFs b fs
  | [], _, _, _, e => by simp at e
  | (g, x) :: r, f, d, b, q => by
    show cD b d ≤ cD b x + cFs b r
    by_cases z : f = g
    · subst z
      simp [List.lookup] at q
      subst q
      omega
    · have z' : (f == g) = false := by simpa using z
      simp only [List.lookup, z'] at q
      have := cFs_look b q
      omega
theorem cDs_get : ∀ {xs : List D} {j : Nat} {d : D} (b : Addr), xs[j]? = some d → cD b d ≤ cDs b xs
  | [], _, _, _, e => by simp at e
  | x :: r, 0, d, b, q => by
    simp at q; subst q
    show cD b x ≤ cD b x + cDs b r
    omega
  | x :: r, j + 1, d, b, q => by
    have := cDs_get (xs := r) (j := j) b (by simpa using q)
    show cD b d ≤ cD b x + cDs b r
    omega
theorem Sub.rep (s : Sub d t) : ∀ {v : V}, RepD K H d v → ∃ w, RepD K H t w := by
  induction s with
  | here d => exact fun h => ⟨_, h⟩
  | fld hl _ ih =>
    rintro v ⟨e, dx, ws, h1, h2⟩
    obtain ⟨w, _, h3⟩ := RepFs.look h2 hl
    exact ih h3
  | item hl _ ih =>
    rintro v ⟨e, vs, h1, h2⟩
    obtain ⟨w, _, h3⟩ := RepDs.get h2 hl
    exact ih h3
theorem Sub.cnt (s : Sub d t) (b : Addr) : cD b t ≤ cD b d := by
  induction s with
  | here d => exact Nat.le_refl _
  | fld hl _ ih => exact Nat.le_trans ih (Nat.le_trans (cFs_look b hl) (Nat.le_add_left _ _))
  | item hl _ ih => exact Nat.le_trans ih (Nat.le_trans (cDs_get b hl) (Nat.le_add_left _ _))
theorem root_rep (h : root t = some a) (r : RepD K H t w) : w = .ref a := by
  cases t <;> simp only [root, Option.some.injEq, reduceCtorEq] at h <;> (subst h; exact r.1)
theorem root_own (h : root t = some a) : 1 ≤ cD a t := by
  cases t <;> simp only [root, Option.some.injEq, reduceCtorEq] at h <;> subst h
  · exact Nat.le_of_eq (one_same _).symm
  · show 1 ≤ one _ _ + _; rw [one_same]; omega
  · exact Nat.le_of_eq (one_same _).symm
  · exact Nat.le_of_eq (one_same _).symm
  · show 1 ≤ one _ _ + _; rw [one_same]; omega
theorem getP_sub : ∀ {π : List Stp} {e t : D}, getP e π = some t → Sub e t
  | [], e, t, h => by
    obtain rfl : e = t := by cases e <;> simpa [getP] using h
    exact .here _
  | .it j :: π, e, t, h => by
    cases e with
    | lsD a xs =>
      simp only [getP] at h
      split at h
      · rename_i d hd
        exact .item hd (getP_sub h)
      · cases h
    | _ => simp [getP] at h
  | .fl f :: π, e, t, h => by
    cases e with
    | ins a C fs =>
      simp only [getP] at h
      split at h
      · rename_i d hd
        exact .fld hd (getP_sub h)
      · cases h
    | _ => simp [getP] at h
theorem setP_subW : ∀ {π : List Stp} {e t t' e' : D}, getP e π = some t → setP e π t' = some e' → SubW e t t' e'
  | [], e, t, t', e', h, q => by
    obtain rfl : e = t := by cases e <;> simpa [getP] using h
    obtain rfl : t' = e' := by cases e <;> simpa [setP] using q
    exact .here _ _
  | .it j :: π, e, t, t', e', h, q => by
    cases e with
    | lsD a xs =>
      simp only [getP] at h
      simp only [setP] at q
      split at h
      · rename_i d hd
        rw [hd] at q
        simp only at q
        split at q
        · rename_i d' hd'
          cases q
          exact .item hd (setP_subW h hd')
        · cases q
      · cases h
    | _ => simp [getP] at h
  | .fl f :: π, e, t, t', e', h, q => by
    cases e with
    | ins a C fs =>
      simp only [getP] at h
      simp only [setP] at q
      split at h
      · rename_i d hd
        rw [hd] at q
        simp only at q
        split at q
        · rename_i d' hd'
          cases q
          exact .fld hd (setP_subW h hd')
        · cases q
      · cases h
    | _ => simp [getP] at h
theorem upS.wr {i : Nat} {π : List Stp} {t' : D} {k : PSt → Prop} (h : upS ds i π t t' k) : ∃ ds', Wr ds t t' ds' ∧ k ds' := by
  obtain ⟨e, e', h1, h2, h3, h4⟩ := h
  exact ⟨_, ⟨i, e, e', h1, setP_subW h2 h3, rfl⟩, h4⟩
theorem See.rep (C : Cfg K H0 f0 H σ ds vs es) (r : RepD K H x v) (s : See ds x t) : RepD K H t v := by
  cases x with
  | bor a i π d =>
    obtain ⟨rfl, hr, e, hd, hg⟩ := s
    obtain rfl : v = .ref a := r
    obtain ⟨u, _, h⟩ := C.sl.get hd
    obtain ⟨w, h3⟩ := (getP_sub hg).rep h
    rw [root_rep hr h3] at h3
    exact h3
  | _ => obtain rfl := s; exact r
theorem keep_upd {b : Addr} {o : HO} (hm : ∀ u, H b = some u → ¬ Imm u) : ∀ a u, H a = some u → Imm u → upd H b o a = some u := fun a u h1 h2 => by
  rw [upd_ne]
  · exact h1
  · rintro rfl; exact hm u h1 h2
theorem RepFs.put {f : Str} {d d' : D} {b : Addr} {o : HO} (hm : ∀ u, H b = some u → ¬ Imm u) (k : ∀ v, RepD K H d v → RepD K (upd H b o) d' v) : ∀ {fs : List (Str × D)} {ws : List (Str × V)}, RepFs K H fs ws → fs.lookup f = some d →
    cFs b fs ≤ 1 → 1 ≤ cD b d → RepFs K (upd H b o) (setF f d' fs) ws
  | [], _, _, e, _, _ => by simp at e
  | (g, x) :: r, _, ⟨v, rs, e, h1, h2⟩, q, hc, hb => by
    subst e
    have hc' : cD b x + cFs b r ≤ 1 := hc
    by_cases z : f = g
    · subst z
      simp [List.lookup] at q
      subst q
      unfold setF
      rw [if_pos rfl]
      exact ⟨_, _, rfl, k v h1, RepFs.keep (keep_upd hm) _ _ (fun a u n1 n2 => by
        rw [upd_ne]; · exact n2
        rintro rfl; omega) h2⟩
    · have z' : (f == g) = false := by simpa using z
      simp only [List.lookup, z'] at q
      have := cFs_look b q
      unfold setF
      rw [if_neg z]
      exact ⟨_, _, rfl, RepD.keep (keep_upd hm) _ _ (fun a u n1 n2 => by
        rw [upd_ne]; · exact n2
        rintro rfl; omega) h1, RepFs.put hm k h2 q (by omega) hb⟩
theorem RepDs.put {d d' : D} {b : Addr} {o : HO} (hm : ∀ u, H b = some u → ¬ Imm u) (k : ∀ v, RepD K H d v → RepD K (upd H b o) d' v) : ∀ {xs : List D} {ws : List V} {j : Nat}, RepDs K H xs ws → xs[j]? = some d →
    cDs b xs ≤ 1 → 1 ≤ cD b d → RepDs K (upd H b o) (xs.set j d') ws
  | [], _, _, _, e, _, _ => by simp at e
  | x :: r, _, 0, ⟨v, rs, e, h1, h2⟩, q, hc, hb => by
    subst e
    simp at q; subst q
    have hc' : cD b x + cDs b r ≤ 1 := hc
    exact ⟨_, _, rfl, k v h1, RepDs.keep (keep_upd hm) _ _ (fun a u n1 n2 => by
        rw [upd_ne]; · exact n2
        rintro rfl; omega) h2⟩
  | x :: r, _, j + 1, ⟨v, rs, e, h1, h2⟩, q, hc, hb => by
    subst e
    have q' : r[j]? = some d := by simpa using q
    have hc' : cD b x + cDs b r ≤ 1 := hc
    have := cDs_get b q'
    exact ⟨_, _, rfl, RepD.keep (keep_upd hm) _ _ (fun a u n1 n2 => by
        rw [upd_ne]; · exact n2
        rintro rfl; omega) h1, RepDs.put hm k h2 q' (by omega) hb⟩
theorem cFs_set {f : Str} {d d' : D} (b : Addr) : ∀ {fs : List (Str × D)}, fs.lookup f = some d → cFs b (setF f d' fs) + cD b d = cFs b fs + cD b d'
  | [], e => by simp at e
  | (g, x) :: r, q => by
    by_cases z : f = g
    · subst z
      simp [List.lookup] at q
      subst q
      unfold setF
      rw [if_pos rfl]
      show (cD b d' + cFs b r) + cD b x = (cD b x + cFs b r) + cD b d'
      omega
    · have z' : (f == g) = false := by simpa using z
      simp only [List.lookup, z'] at q
      have := cFs_set (d' := d') b q
      unfold setF
      rw [if_neg z]
      show (cD b x + cFs b (setF f d' r)) + cD b d = (cD b x + cFs b r) + cD b d'
      omega
theorem cDs_set {d d' : D} (b : Addr) : ∀ {xs : List D} {j : Nat}, xs[j]? = some d → cDs b (xs.set j d') + cD b d = cDs b xs + cD b d'
  | [], _, e => by simp at e
  | x :: r, 0, q => by
    simp at q; subst q
    show (cD b d' + cDs b r) + cD b x = (cD b x + cDs b r) + cD b d'
    omega
  | x :: r, j + 1, q => by
    have := cDs_set (d' := d') b (xs := r) (j := j) (by simpa using q)
    show (cD b x + cDs b (r.set j d')) + cD b d = (cD b x + cDs b r) + cD b d'
    omega
theorem SubW.cnt {d t t' d' : D} (s : SubW d t t' d') (b : Addr) : cD b d' + cD b t = cD b d + cD b t' := by
  induction s with
  | here t t' => omega
  | fld hl _ ih =>
    rename_i a C fs f d t t' d' _
    have := cFs_set (d' := d') b hl
    show (one b a + cFs b (setF f d' fs)) + cD b t = (one b a + cFs b fs) + cD b t'
    omega
  | item hl _ ih =>
    rename_i a xs j d t t' d' _
    have := cDs_set (d' := d') b hl
    show (one b a + cDs b (xs.set j d')) + cD b t = (one b a + cDs b xs) + cD b t'
    omega
theorem SubW.sub {d t t' d' : D} (s : SubW d t t' d') : Sub d t := by
  induction s with
  | here t t' => exact .here _
  | fld hl _ ih => exact .fld hl ih
  | item hl _ ih => exact .item hl ih
theorem SubW.rep {d t t' d' : D} {b : Addr} {o : HO} (s : SubW d t t' d') (hm : ∀ u, H b = some u → ¬ Imm u) (hb : root t = some b) (k : RepD K H t (.ref b) → RepD K (upd H b o) t' (.ref b)) :
    ∀ {v : V}, (∀ c, cD c d ≤ 1) → RepD K H d v → RepD K (upd H b o) d' v := by
  induction s with
  | here t t' =>
    intro v _ h
    have e := root_rep hb h
    subst e
    exact k h
  | fld hl s ih =>
    rename_i a C fs f d t t' d'
    rintro v hc ⟨e, dx, ws, h1, h2⟩
    have ht : 1 ≤ cD b t := root_own hb
    have hd : cD b t ≤ cD b d := s.sub.cnt b
    have hf := cFs_look b hl
    have hcb : one b a + cFs b fs ≤ 1 := hc b
    have ne : a ≠ b := by
      rintro rfl
      rw [one_same] at hcb
      omega
    exact ⟨e, dx, ws, by rw [upd_ne ne]; exact h1, RepFs.put hm (fun v' h' => ih hb k (fun c => Nat.le_trans (cFs_look c hl) (by have : one c a + cFs c fs ≤ 1 := hc c; omega)) h') h2 hl (by omega) (by omega)⟩
  | item hl s ih =>
    rename_i a xs j d t t' d'
    rintro v hc ⟨e, ws, h1, h2⟩
    have ht : 1 ≤ cD b t := root_own hb
    have hd : cD b t ≤ cD b d := s.sub.cnt b
    have hf := cDs_get b hl
    have hcb : one b a + cDs b xs ≤ 1 := hc b
    have ne : a ≠ b := by
      rintro rfl
      rw [one_same] at hcb
      omega
    exact ⟨e, ws, by rw [upd_ne ne]; exact h1, RepDs.put hm (fun v' h' => ih hb k (fun c => Nat.le_trans (cDs_get c hl) (by have : one c a + cDs c xs ≤ 1 := hc c; omega)) h') h2 hl (by omega) (by omega)⟩
/-- a write: the part t at b is now t', which may have taken in the top temp y -/
theorem Cfg.wr {y t' : D} {b : Addr} {o : HO} (C : Cfg K H0 f0 H σ ds (w :: vs) (y :: es)) (W : Wr ds t t' ds') (hb : root t = some b)
    (k : RepD K H t (.ref b) → (∀ c, cD c t ≤ 1) → RepD K (upd H b o) y w → RepD K (upd H b o) t' (.ref b)) (c : ∀ a, cD a t' ≤ cD a t + cD a y) : Cfg K H0 f0 (upd H b o) σ ds' vs es := by
  obtain ⟨i, d, d', hd, s, e⟩ := W
  subst e
  obtain ⟨v, ev, hr⟩ := C.sl.get hd
  have hi : i < ds.length := (List.getElem?_eq_some_iff.mp hd).1
  have hbt : 1 ≤ cD b t := root_own hb
  have hbd : 1 ≤ cD b d := Nat.le_trans hbt (s.sub.cnt b)
  obtain ⟨u, hu, hmu⟩ := RepD.own d v hr b hbd
  have hm : ∀ u, H b = some u → ¬ Imm u := fun u' h => by rw [hu] at h; cases h; exact hmu
  obtain ⟨w', r, e2, h1, h2⟩ := C.tm
  cases e2
  have nd : ∀ a, cS a ds + (cD a y + cDs a es) ≤ 1 := C.nd
  have hole : ∀ a, cS a (ds.set i none) + cD a d = cS a ds := fun a => cS_get a hd
  have oth : ∀ a u', cD a y + cDs a es + cS a (ds.set i none) ≥ 1 → H a = some u' → upd H b o a = some u' := fun a u' h3 h4 => by
    rw [upd_ne]
    · exact h4
    · rintro rfl
      have := nd a; have := hole a
      omega
  have hy : RepD K (upd H b o) y w := RepD.keep (keep_upd hm) _ _ (fun a u' h3 h4 => oth a u' (by omega) h4) h1
  have hd' : RepD K (upd H b o) d' v := s.rep hm hb (fun h => k h (fun c => by have := nd c; have := cS_le c hd; have := s.sub.cnt c; omega) hy) (fun c => by have := nd c; have := cS_le c hd; omega) hr
  have sl0 : RepS K (upd H b o) (ds.set i none) σ := RepS.keep (keep_upd hm) _ _ (fun a u' h3 h4 => oth a u' (by omega) h4) C.sl.hole
  have sl1 : RepS K (upd H b o) ((ds.set i none).set i (some d')) σ := sl0.put ev hd'
  rw [List.set_set] at sl1
  have cn : ∀ a, cD a d' + cD a t = cD a d + cD a t' := fun a => s.cnt a
  refine ⟨sl1, RepDs.keep (keep_upd hm) _ _ (fun a u' h3 h4 => oth a u' (by omega) h4) h2, fun a => ?_, fun a h => ?_, fun a u' h3 h4 => ?_⟩
  · rw [cS_set a hi]; have := nd a; have := hole a; have := c a; have := cn a; omega
  · rw [cS_set a hi] at h; have := hole a; have := c a; have := cn a
    exact C.fr a (by show 1 ≤ cS a ds + (cD a y + cDs a es); omega)
  · have h5 := C.kp a u' h3 h4
    rw [upd_ne]
    · exact h5
    · rintro rfl
      rcases C.fr a (by have := hole a; show 1 ≤ cS a ds + (cD a y + cDs a es); omega) with z | z
      · exact h3 z
      · rw [z] at h4; cases h4

/-! ### what is made anew -/
theorem grow_new {p : Addr} {o : HO} (hp : H p = none) : ∀ a u, H a = some u → upd H p o a = some u := fun a u h => by rw [upd_ne (ne_of_none h hp)]; exact h
theorem Cfg.newL {p : Addr} {xs : List PyData} {zs : List V} (C : Cfg K H0 f0 H σ ds vs es) (hp : H p = none) (r : RepPs K H xs zs) : Cfg K H0 f0 (upd H p (.lst zs)) σ ds (.ref p :: vs) (.lst p xs :: es) :=
  C.pushNew (grow_new hp) ⟨rfl, zs, upd_same, RepPs.keep (fun a u h _ => grow_new hp a u h) _ _ r⟩ (fun a => by show one a p ≤ 1; unfold one; split <;> omega) fun a h => by
    have := one_pos (show 1 ≤ one a p from h)
    subst this
    exact hp
theorem Cfg.newT {p : Addr} {o : Obj} {xs : List PyData} {zs : List V} (C : Cfg K H0 f0 H σ ds vs es) (hp : H p = none) (ho : o.dict = none) (r : RepPs K H xs zs) : Cfg K H0 f0 (upd H p (.frz o (.tup zs))) σ ds (.ref p :: vs) (.dat (.tuple xs) :: es) :=
  C.pushNew (grow_new hp) ⟨p, zs, rfl, ⟨o, ho, upd_same⟩, RepPs.keep (fun a u h _ => grow_new hp a u h) _ _ r⟩ (fun a => Nat.zero_le _) fun a h => absurd (show 1 ≤ 0 from h) (by omega)
end

/-! ### names, constants -/
def ldAt (i : Nat) (π : List Stp) : D → Option D
  | .dat d => some (.dat d)
  | .lst a xs => some (.bor a i π (.lst a xs))
  | .lsD a xs => some (.bor a i π (.lsD a xs))
  | .dk a xs => some (.bor a i π (.dk a xs))
  | .dt a xs => some (.bor a i π (.dt a xs))
  | .ins a C fs => some (.bor a i π (.ins a C fs))
  | .tpD _ => none
  | .pr _ _ => none
  | .raw v => some (.raw v)
  | .bor a j ρ d => some (.bor a j ρ d)
def rdS (ds : PSt) (i : Nat) : Option D := match ds[i]? with
  | some (some d) => ldAt i [] d
  | _ => none
def eVar (i : Nat) : TEP := fun ds Q => ∃ d, rdS ds i = some d ∧ Q d ds
def eC (d : PyData) : TEP := fun ds Q => Q (.dat d) ds
def eRaw (v : V) : TEP := fun ds Q => Q (.raw v) ds
section
variable {X : Cx} {a b c : Expr} {ta tb tc : TEP} {pos : Pos} {K : KW}
theorem ld_rep {H : Hp} {d d' : D} {v : V} {i : Nat} {π : List Stp} (h : ldAt i π d = some d') (r : RepD K H d v) : RepD K H d' v ∧ ∀ a, cD a d' = 0 := by
  cases d <;> simp only [ldAt, Option.some.injEq, reduceCtorEq] at h <;> subst h
  · exact ⟨r, fun _ => rfl⟩
  · exact ⟨r.1, fun _ => rfl⟩
  · exact ⟨r.1, fun _ => rfl⟩
  · exact ⟨r.1, fun _ => rfl⟩
  · exact ⟨r.1, fun _ => rfl⟩
  · exact ⟨r.1, fun _ => rfl⟩
  · exact ⟨r, fun _ => rfl⟩
  · exact ⟨r, fun _ => rfl⟩
theorem d_var {i : Nat} {x : Str} (hN : X.N[i]? = some x) (hv : Vis X.env.scope x) (hd : (x == ("__debug__" : Str)) = false := by decide) (hcd : (x == ("__classdict__" : Str)) = false := by decide) : PEd X (.Name x pos) (eVar i) :=
  pe_imp (pe_var hN hv hd hcd) fun σ H Q ⟨H0, f0, ds, vs, es, Qd, C, ⟨d', e, q⟩, k⟩ => by
    unfold rdS at e
    split at e
    · rename_i d h
      obtain ⟨v, h1, h2⟩ := C.sl.get h
      obtain ⟨r, z⟩ := ld_rep e h2
      exact ⟨v, h1, k v d' H ds (C.push r z) q⟩
    · cases e
theorem liftC {d : D} {v : V} {σ : St} {H : Hp} {Q : VK} (hr : ∀ K H, RepD K H d v) (hz : ∀ a, cD a d = 0) (h : liftE K (fun ds Q => Q d ds) σ H Q) : tC v σ H Q := by
  obtain ⟨H0, f0, ds, vs, es, Qd, C, q, k⟩ := h
  exact k v d H ds (C.push (hr K H) hz) q
theorem d_int {i j pos} : PEd X (.Constant (.int i) j pos) (eC (.int i)) := pe_imp pe_int fun σ H Q h => liftC (d := .dat (.int i)) (fun _ _ => rfl) (fun _ => rfl) h
theorem d_bl {b j pos} : PEd X (.Constant (.bool b) j pos) (eC (.bool b)) := pe_imp pe_bl fun σ H Q h => liftC (d := .dat (.bool b)) (fun _ _ => rfl) (fun _ => rfl) h
theorem d_non {j pos} : PEd X (.Constant .none j pos) (eC .none) := pe_imp pe_non fun σ H Q h => liftC (d := .dat .none) (fun _ _ => rfl) (fun _ => rfl) h
theorem d_str {x j pos} : PEd X (.Constant (.str x) j pos) (eC (.str x)) := pe_imp pe_str fun σ H Q h => liftC (d := .dat (.str x)) (fun _ _ => rfl) (fun _ => rfl) h
theorem d_globI {x : Str} {i : Int} {tk : Tok} (hg : Gl X x) (hm : X.mg x = some (.int i tk)) (hd : (x == ("__debug__" : Str)) = false := by decide) : PEd X (.Name x pos) (eC (.int i)) :=
  pe_imp (pe_glob (v := .int i) hg hm ⟨_, rfl⟩ hd) fun σ H Q h => liftC (d := .dat (.int i)) (fun _ _ => rfl) (fun _ => rfl) h
theorem d_bltn {x : Str} {v : V} {u : Value} (hg : Gl X x) (hm : X.mg x = none) (hv : bootBuiltins x = some u) (r : RelV v u) (hn : x ≠ "__name__" := by decide) (hd : (x == ("__debug__" : Str)) = false := by decide) : PEd X (.Name x pos) (eRaw v) :=
  pe_imp (pe_bltn hg hm hv r hn hd) fun σ H Q h => liftC (d := .raw v) (fun _ _ => rfl) (fun _ => rfl) h

/-! ### two operands -/
abbrev BSem := D → D → PSt → (D → PSt → Prop) → Prop
def e2 (s : BSem) (ta tb : TEP) : TEP := fun ds Q => ta ds fun x ds1 => tb ds1 fun y ds2 => s x y ds2 Q
def Sem2 (K : KW) (s : BSem) (r : R2) : Prop := ∀ {H0 f0 H σ ds v w vs x y es Qd} {Q : VK}, Cfg K H0 f0 H σ ds (w :: v :: vs) (y :: x :: es) → s x y ds Qd →
  (∀ v' d H' ds', Cfg K H0 f0 H' σ ds' (v' :: vs) (d :: es) → Qd d ds' → Q v' H') → r v w H Q
theorem lift2 {s : BSem} {r : R2} (hs : Sem2 K s r) {σ : St} {H : Hp} {Q : VK} (h : liftE K (e2 s ta tb) σ H Q) : tOp r (liftE K ta) (liftE K tb) σ H Q := by
  obtain ⟨H0, f0, ds, vs, es, Qd, C, q, k⟩ := h
  exact ⟨H0, f0, ds, vs, es, _, C, q, fun v x H1 ds1 C1 q1 => ⟨H0, f0, ds1, _, _, _, C1, q1, fun w y H2 ds2 C2 q2 => hs C2 q2 k⟩⟩
theorem d_op {op : Operator} {s : BSem} {r : R2} (ho : OpR X (binaryOp op) r) (hs : Sem2 (kw X) s r) (ha : PEd X a ta) (hb : PEd X b tb) : PEd X (.BinOp a op b pos) (e2 s ta tb) :=
  pe_imp (pe_op ho ha hb) fun _ _ _ h => lift2 hs h
theorem d_cmp {op : CmpOp} {s : BSem} {r : R2} (ho : OpR X (compareOp op) r) (hs : Sem2 (kw X) s r) (ha : PEd X a ta) (hb : PEd X b tb) (hm : behindInMarks op b = false) : PEd X (.Compare a [op] [b] pos) (e2 s ta tb) :=
  pe_imp (pe_cmpR ho ha hb hm) fun _ _ _ h => lift2 hs h
/-- a value that is a bool, as a test -/
def tBl (t : TEP) : TTP := fun ds Q => t ds fun x ds1 => ∃ b, x = .dat (.bool b) ∧ Q b ds1
theorem lift_tTest {t : TEP} {te : TE} (h : ∀ σ H Q, liftE K t σ H Q → te σ H Q) {σ : St} {H : Hp} {Q : Bool → Hp → Prop} (q : liftT K (tBl t) σ H Q) : tTest te σ H Q := by
  obtain ⟨H0, f0, ds, vs, es, Qd, C, q, k⟩ := q
  refine h _ _ _ ⟨H0, f0, ds, vs, es, _, C, q, fun v x H1 ds1 C1 ⟨b, e, q1⟩ => ?_⟩
  subst e
  obtain rfl : v = .bl b := C1.top
  exact ⟨b, rfl, k b H1 ds1 C1.pop q1⟩
theorem dt_cmp {op : CmpOp} {s : BSem} {r : R2} (ho : OpR X (compareOp op) r) (hs : Sem2 (kw X) s r) (ha : PEd X a ta) (hb : PEd X b tb) (hm : behindInMarks op b = false) : PTd X (.Compare a [op] [b] pos) (tBl (e2 s ta tb)) :=
  pt_imp (pt_cmpR ho ha hb hm) fun _ _ _ h => lift_tTest (fun _ _ _ h => lift2 hs h) h
/-- a op b op' c, of ints -/
def eChain (s s' : BSem) (ta tb tc : TEP) : TEP := fun ds Q => ta ds fun x ds1 => tb ds1 fun y ds2 => s x y ds2 fun z ds3 => ∃ b, z = .dat (.bool b) ∧ if b = true then tc ds3 fun u ds4 => s' y u ds4 Q else Q (.dat (.bool false)) ds3

/-! ### ints -/
def sI (g : Int → Int → PyData) : BSem := fun x y ds Q => ∃ i j, x = .dat (.int i) ∧ y = .dat (.int j) ∧ Q (.dat (g i j)) ds
def sIc (C : Int → Int → Prop) (g : Int → Int → PyData) : BSem := fun x y ds Q => ∃ i j, x = .dat (.int i) ∧ y = .dat (.int j) ∧ C i j ∧ Q (.dat (g i j)) ds
theorem sem_I0 {g : Int → Int → Int} : Sem2 K (sI fun i j => .int (g i j)) (rI0 fun i j => .int (g i j)) := by
  intro H0 f0 H σ ds v w vs x y es Qd Q C ⟨i, j, ex, ey, q⟩ k
  subst ex ey
  obtain rfl : w = .int j := C.top
  obtain rfl : v = .int i := C.pop.top
  exact ⟨i, j, rfl, rfl, k _ _ _ _ (C.pop.pop.push (d := .dat (.int _)) rfl fun _ => rfl) q⟩
theorem sem_B0 {g : Int → Int → Bool} : Sem2 K (sI fun i j => .bool (g i j)) (rI0 fun i j => .bl (g i j)) := by
  intro H0 f0 H σ ds v w vs x y es Qd Q C ⟨i, j, ex, ey, q⟩ k
  subst ex ey
  obtain rfl : w = .int j := C.top
  obtain rfl : v = .int i := C.pop.top
  exact ⟨i, j, rfl, rfl, k _ _ _ _ (C.pop.pop.push (d := .dat (.bool _)) rfl fun _ => rfl) q⟩
theorem sem_Ic {P : Int → Int → Prop} {g : Int → Int → Int} : Sem2 K (sIc P fun i j => .int (g i j)) (rI P fun i j => .int (g i j)) := by
  intro H0 f0 H σ ds v w vs x y es Qd Q C ⟨i, j, ex, ey, hc, q⟩ k
  subst ex ey
  obtain rfl : w = .int j := C.top
  obtain rfl : v = .int i := C.pop.top
  exact ⟨i, j, rfl, rfl, hc, k _ _ _ _ (C.pop.pop.push (d := .dat (.int _)) rfl fun _ => rfl) q⟩
end
end PD
set_option Elab.async false
set_option linter.all false
set_option maxRecDepth 100000
set_option maxHeartbeats 2000000
/-! PD, third part: equality, membership, subscripts, built-in calls. -/
namespace PD
open PySem L2
/-! ### tables -/
section
variable {κ α : Type} [DecidableEq κ]
def look (kvs : List (κ × α)) (k : κ) : Option α := (kvs.find? fun p => decide (p.1 = k)).map Prod.snd
def store (kvs : List (κ × α)) (k : κ) (v : α) : List (κ × α) :=
  if (kvs.any fun p => decide (p.1 = k)) = true then kvs.map (fun p => if p.1 = k then (p.1, v) else p) else kvs ++ [(k, v)]
end
def keyP : Key → PyData
  | .inl i => .int i
  | .inr s => .str s
section
variable {K : KW} {H H' H0 : Hp} {f0 : Addr → Prop} {σ : St} {ds ds' : PSt} {vs : List V} {es : List D} {v w : V} {d t x : D} {a : Addr}
theorem keyP_rep {k : Key} : RepP K H (keyP k) v → v = kV k := by
  cases k <;> exact id
theorem keyPs_rep : ∀ {ks : List Key} {vs : List V}, RepPs K H (ks.map keyP) vs → vs = ks.map kV
  | [], _, h => h
  | k :: ks, _, ⟨v, r, e, h1, h2⟩ => by rw [e, keyP_rep h1, keyPs_rep h2]; rfl
theorem RepKV.look {κ : Type} [DecidableEq κ] : ∀ {kvs : List (κ × PyData)} {ws : List (κ × V)} (k : κ), RepKV K H kvs ws → (PD.look kvs k = none ∧ valV ws k = none) ∨ ∃ d v, PD.look kvs k = some d ∧ valV ws k = some v ∧ RepP K H d v
  | [], _, k, h => by subst h; exact .inl ⟨rfl, rfl⟩
  | (c, d) :: r, _, k, ⟨v, rs, e, h1, h2⟩ => by
    subst e
    by_cases z : c = k
    · refine .inr ⟨d, v, ?_, valV_pos z, h1⟩
      simp [PD.look, List.find?_cons, z]
    · rw [valV_neg (p := (c, v)) z]
      have : PD.look ((c, d) :: r) k = PD.look r k := by simp [PD.look, List.find?_cons, z]
      rw [this]
      exact RepKV.look k h2
theorem RepKV.any {κ : Type} [DecidableEq κ] : ∀ {kvs : List (κ × PyData)} {ws : List (κ × V)} (k : κ), RepKV K H kvs ws → (kvs.any fun p => decide (p.1 = k)) = ws.any fun p => decide (p.1 = k)
  | [], _, k, h => by subst h; rfl
  | (c, d) :: r, _, k, ⟨v, rs, e, h1, h2⟩ => by subst e; simp only [List.any_cons]; rw [RepKV.any k h2]
theorem RepKV.put {κ : Type} [DecidableEq κ] {p : PyData} {u : V} (hp : RepP K H p u) : ∀ {kvs : List (κ × PyData)} {ws : List (κ × V)} (k : κ), RepKV K H kvs ws →
    RepKV K H (kvs.map fun q => if q.1 = k then (q.1, p) else q) (ws.map fun q => if q.1 = k then (q.1, u) else q)
  | [], _, k, h => by subst h; rfl
  | (c, d) :: r, _, k, ⟨v, rs, e, h1, h2⟩ => by
    subst e
    have ih := RepKV.put hp k h2
    by_cases z : c = k
    · simp only [List.map_cons, if_pos z]
      exact ⟨_, _, rfl, hp, ih⟩
    · simp only [List.map_cons, if_neg z]
      exact ⟨_, _, rfl, h1, ih⟩
theorem RepKV.snoc {κ : Type} {p : PyData} {u : V} (hp : RepP K H p u) (k : κ) : ∀ {kvs : List (κ × PyData)} {ws : List (κ × V)}, RepKV K H kvs ws → RepKV K H (kvs ++ [(k, p)]) (ws ++ [(k, u)])
  | [], _, h => by subst h; exact ⟨_, _, rfl, hp, rfl⟩
  | (c, d) :: r, _, ⟨v, rs, e, h1, h2⟩ => by subst e; exact ⟨_, _, rfl, h1, RepKV.snoc hp k h2⟩
theorem RepKV.store {κ : Type} [DecidableEq κ] {kvs : List (κ × PyData)} {ws : List (κ × V)} {p : PyData} {u : V} (k : κ) (h : RepKV K H kvs ws) (hp : RepP K H p u) : RepKV K H (PD.store kvs k p) (putK ws k u) := by
  unfold PD.store putK
  rw [RepKV.any k h]
  split
  · exact RepKV.put hp k h
  · exact RepKV.snoc hp k h
theorem RepKV.len {κ : Type} : ∀ {kvs : List (κ × PyData)} {ws : List (κ × V)}, RepKV K H kvs ws → kvs.length = ws.length
  | [], _, h => by subst h; rfl
  | (c, d) :: r, _, ⟨v, rs, e, h1, h2⟩ => by subst e; simp [RepKV.len h2]
mutual
theorem RepP.dp : ∀ (d : PyData) (v : V), RepP K H d v → Dp K.K H v d
  | .none, _, h => by obtain rfl := h; exact .non
  | .bool b, _, h => by obtain rfl := h; exact .bl b
  | .int i, _, h => by obtain rfl := h; exact .int i
  | .str x, _, h => by obtain rfl := h; exact .str x
  | .tuple ds, _, ⟨a, xs, e, s, r⟩ => by subst e; exact .tup (TupAt.sq s) (RepPs.dp ds xs r)
  | .list ds, _, ⟨a, xs, e, s, r⟩ => by subst e; exact .lst s.sq (RepPs.dp ds xs r)
  | .dict _, _, h => h.elim
theorem RepPs.dp : ∀ (ds : List PyData) (vs : List V), RepPs K H ds vs → DpAll K.K H vs ds
  | [], _, h => by obtain rfl := h; exact .nil
  | d :: ds, _, ⟨v, r, e, h1, h2⟩ => by subst e; exact .cons (RepP.dp d v h1) (RepPs.dp ds r h2)
end
/-- the plain data that x tells -/
def Pyd (ds : PSt) (x : D) (a : PyData) : Prop := match x with
  | .dat d => a = d
  | _ => ∃ (ad : Addr) (xs : List PyData), See ds x (.lst ad xs) ∧ a = .list xs
theorem Pyd.dp {p : PyData} (C : Cfg K H0 f0 H σ ds vs es) (r : RepD K H x v) (h : Pyd ds x p) : Dp K.K H v p := by
  have go : (∃ (ad : Addr) (xs : List PyData), See ds x (.lst ad xs) ∧ p = .list xs) → Dp K.K H v p := by
    rintro ⟨ad, xs, s, rfl⟩
    obtain ⟨e, zs, h1, h2⟩ := s.rep C r
    subst e
    exact .lst (SqL.of h1) (RepPs.dp _ _ h2)
  cases x with
  | dat d => obtain rfl := h; exact RepP.dp _ _ r
  | _ => exact go h
theorem See.lst {xs : List PyData} (C : Cfg K H0 f0 H σ ds vs es) (r : RepD K H x v) (s : See ds x (.lst a xs)) : v = .ref a ∧ ∃ zs, H a = some (.lst zs) ∧ RepPs K H xs zs := s.rep C r
end
section
variable {X : Cx} {a b c : Expr} {ta tb tc : TEP} {pos : Pos} {K : KW}
def sEq : BSem := fun x y ds Q => ∃ p q, Pyd ds x p ∧ Pyd ds y q ∧ SeqAt.shaped p = true ∧ SeqAt.shaped q = true ∧ Q (.dat (.bool (PyData.eqv p q))) ds
def sNe : BSem := fun x y ds Q => ∃ p q, Pyd ds x p ∧ Pyd ds y q ∧ SeqAt.shaped p = true ∧ SeqAt.shaped q = true ∧ Q (.dat (.bool (!PyData.eqv p q))) ds
theorem sem_eq : Sem2 K sEq (rEqD K.K) := by
  intro H0 f0 H σ ds v w vs x y es Qd Q C ⟨p, q, h1, h2, s1, s2, h⟩ k
  exact ⟨p, q, h1.dp C C.pop.top, h2.dp C C.top, s1, s2, k _ _ _ _ (C.pop.pop.push (d := .dat (.bool _)) rfl fun _ => rfl) h⟩
theorem sem_ne : Sem2 K sNe (rNeD K.K) := by
  intro H0 f0 H σ ds v w vs x y es Qd Q C ⟨p, q, h1, h2, s1, s2, h⟩ k
  exact ⟨p, q, h1.dp C C.pop.top, h2.dp C C.top, s1, s2, k _ _ _ _ (C.pop.pop.push (d := .dat (.bool _)) rfl fun _ => rfl) h⟩
def isN : D → Bool
  | .dat .none => true
  | .raw .non => true
  | _ => false
theorem isN_rep {H : Hp} {x : D} {v : V} (r : RepD K H x v) : decide (v = .non) = isN x := by
  cases x with
  | dat d =>
    cases d with
    | none => obtain rfl := r; rfl
    | bool b => obtain rfl := r; rfl
    | int b => obtain rfl := r; rfl
    | str b => obtain rfl := r; rfl
    | tuple b => obtain ⟨a, xs, e, _⟩ := r; subst e; rfl
    | list b => obtain ⟨a, xs, e, _⟩ := r; subst e; rfl
    | dict b => exact r.elim
  | lst a xs => rw [r.1]; rfl
  | lsD a xs => rw [r.1]; rfl
  | dk a xs => rw [r.1]; rfl
  | dt a xs => rw [r.1]; rfl
  | ins a C fs => rw [r.1]; rfl
  | tpD xs => obtain ⟨a, xs, e, _⟩ := r; subst e; rfl
  | bor a i π d => obtain rfl := r; rfl
  | raw w => obtain rfl := r; cases v <;> rfl
  | pr p q => obtain ⟨a, x, y, e, _⟩ := r; subst e; rfl
def sIsN : BSem := fun x y ds Q => y = .dat .none ∧ Q (.dat (.bool (isN x))) ds
def sNotN : BSem := fun x y ds Q => y = .dat .none ∧ Q (.dat (.bool (!isN x))) ds
theorem sem_isN : Sem2 K sIsN (fun x y H Q => y = .non ∧ Q (.bl (decide (x = .non))) H) := by
  intro H0 f0 H σ ds v w vs x y es Qd Q C ⟨e, h⟩ k
  subst e
  obtain rfl : w = .non := C.top
  refine ⟨rfl, ?_⟩
  rw [isN_rep C.pop.top]
  exact k _ _ _ _ (C.pop.pop.push (d := .dat (.bool _)) rfl fun _ => rfl) h
theorem sem_notN : Sem2 K sNotN (fun x y H Q => y = .non ∧ Q (.bl (!decide (x = .non))) H) := by
  intro H0 f0 H σ ds v w vs x y es Qd Q C ⟨e, h⟩ k
  subst e
  obtain rfl : w = .non := C.top
  refine ⟨rfl, ?_⟩
  rw [isN_rep C.pop.top]
  exact k _ _ _ _ (C.pop.pop.push (d := .dat (.bool _)) rfl fun _ => rfl) h
/-- is, is not of None or of a truth value -/
def sIs : BSem := fun x y ds Q => (sIsN x y ds Q) ∨ ∃ a b, x = .dat (.bool a) ∧ y = .dat (.bool b) ∧ Q (.dat (.bool (decide (a = b)))) ds
def sIsNot : BSem := fun x y ds Q => (sNotN x y ds Q) ∨ ∃ a b, x = .dat (.bool a) ∧ y = .dat (.bool b) ∧ Q (.dat (.bool (!decide (a = b)))) ds
theorem sem_is : Sem2 K sIs (fun x y H Q => (y = .non ∧ Q (.bl (decide (x = .non))) H) ∨ rIsB x y H Q) := by
  intro H0 f0 H σ ds v w vs x y es Qd Q C h k
  rcases h with h | ⟨a, b, e1, e2, h⟩
  · exact .inl (sem_isN C h k)
  · subst e1 e2
    exact .inr ⟨a, b, C.pop.top, C.top, k _ _ _ _ (C.pop.pop.push (d := .dat (.bool _)) rfl fun _ => rfl) h⟩
theorem sem_isNot : Sem2 K sIsNot (fun x y H Q => (y = .non ∧ Q (.bl (!decide (x = .non))) H) ∨ rNotB x y H Q) := by
  intro H0 f0 H σ ds v w vs x y es Qd Q C h k
  rcases h with h | ⟨a, b, e1, e2, h⟩
  · exact .inl (sem_notN C h k)
  · subst e1 e2
    exact .inr ⟨a, b, C.pop.top, C.top, k _ _ _ _ (C.pop.pop.push (d := .dat (.bool _)) rfl fun _ => rfl) h⟩

/-! ### in, not in -/
def rInK (neg : Bool) : R2 := fun y x H Q => ∃ a o, x = .ref a ∧ DGet H a y o ∧ Q (.bl (if neg then !o.isSome else o.isSome)) H
theorem op_inK (hu : X.A.units + 1 < cLine) : OpR X (compareOp .In) (rInK false) := by
  intro pins s σ H x y v u Q I rx ry ⟨a, o, e, g, q⟩
  subst e
  obtain rfl : u = Value.ref a := ry
  exact d_in hu I g rx fun s3 I3 => ⟨.bl o.isSome, H, I3, rfl, q⟩
theorem op_notInK (hu : X.A.units + 1 < cLine) : OpR X (compareOp .NotIn) (rInK true) := by
  intro pins s σ H x y v u Q I rx ry ⟨a, o, e, g, q⟩
  subst e
  obtain rfl : u = Value.ref a := ry
  exact d_notIn hu I g rx fun s3 I3 => ⟨.bl (!o.isSome), H, I3, rfl, q⟩
def flatP : PyData → Bool
  | .none => true
  | .bool _ => true
  | .int _ => true
  | .str _ => true
  | _ => false
/-- the items of a list or a tuple -/
def ItemsT : D → List PyData → Prop
  | .lst _ xs, ys => ys = xs
  | .dat (.tuple xs), ys => ys = xs
  | .dat (.list xs), ys => ys = xs
  | _, _ => False
theorem items_rep {H : Hp} {t : D} {v : V} {xs : List PyData} (r : RepD K H t v) (i : ItemsT t xs) : ∃ a zs, v = .ref a ∧ (SqL K.K H a zs ∨ SqT K.K H a zs) ∧ RepPs K H xs zs := by
  cases t with
  | lst a ys => obtain rfl := i; obtain ⟨e, zs, h1, h2⟩ := r; exact ⟨a, zs, e, .inl (SqL.of h1), h2⟩
  | dat d =>
    cases d with
    | list ys => obtain rfl := i; obtain ⟨a, zs, e, h1, h2⟩ := r; exact ⟨a, zs, e, .inl h1.sq, h2⟩
    | tuple ys => obtain rfl := i; obtain ⟨a, zs, e, h1, h2⟩ := r; exact ⟨a, zs, e, .inr (TupAt.sq h1), h2⟩
    | _ => exact i.elim
  | _ => exact i.elim
theorem flat_rep {H : Hp} {p : PyData} {v : V} (r : RepP K H p v) (f : flatP p = true) : flatV v = true := by
  cases p <;> first | (obtain rfl := r; rfl) | cases f
theorem flat_reps {H : Hp} : ∀ {ps : List PyData} {vs : List V}, RepPs K H ps vs → ps.all flatP = true → vs.all flatV = true
  | [], _, h, _ => by subst h; rfl
  | p :: ps, _, ⟨v, r, e, h1, h2⟩, f => by
    subst e
    rw [List.all_cons, Bool.and_eq_true] at f
    rw [List.all_cons, flat_rep h1 f.1, flat_reps h2 f.2]; rfl
theorem eqV_rep {H : Hp} {p q : PyData} {v u : V} (r : RepP K H p v) (s : RepP K H q u) (f : flatP p = true) (g : flatP q = true) : eqV v u = PyData.eqv p q := by
  cases p <;> first
    | exact absurd f Bool.false_ne_true
    | (cases q <;> first
        | exact absurd g Bool.false_ne_true
        | (obtain rfl := r; obtain rfl := s; simp only [eqV, PyData.eqv]))
theorem inV_rep {H : Hp} {p : PyData} {v : V} (r : RepP K H p v) (f : flatP p = true) : ∀ {ps : List PyData} {vs : List V}, RepPs K H ps vs → ps.all flatP = true → inV v vs = ps.any fun z => PyData.eqv z p
  | [], _, h, _ => by subst h; rfl
  | q :: ps, _, ⟨u, rr, e, h1, h2⟩, g => by
    subst e
    rw [List.all_cons, Bool.and_eq_true] at g
    show (eqV u v || inV v rr) = _
    rw [inV_rep r f h2 g.2, eqV_rep h1 r g.1 f, List.any_cons]
/-- what a dict holds at a key -/
inductive KeyAt : D → PyData → Option PyData → Prop
  | k {a : Addr} {kvs : List (Key × PyData)} {p : PyData} {k : Key} {o : Option PyData} : p = keyP k → look kvs k = o → KeyAt (.dk a kvs) p o
theorem keyAt_rep {H : Hp} {t : D} {p : PyData} {o : Option PyData} {u v : V} (h : KeyAt t p o) (r : RepD K H t u) (s : RepP K H p v) : ∃ a o', u = .ref a ∧ DGet H a v o' ∧ ((o = none ∧ o' = none) ∨ ∃ d z, o = some d ∧ o' = some z ∧ RepP K H d z) := by
  cases h with
  | k e l =>
    subst e
    obtain ⟨eu, ws, h1, h2⟩ := r
    have ev := keyP_rep s
    subst ev
    refine ⟨_, _, eu, DGet.k h1, ?_⟩
    rw [← l]
    exact RepKV.look _ h2
/-- x in y: flat data in a list or tuple; a key in a dict -/
def sInN (neg : Bool) : BSem := fun x y ds Q => ∃ p t, x = .dat p ∧ See ds y t ∧
  ((∃ xs, ItemsT t xs ∧ flatP p = true ∧ xs.all flatP = true ∧ Q (.dat (.bool (if neg then !(xs.any fun z => PyData.eqv z p) else (xs.any fun z => PyData.eqv z p)))) ds) ∨
   (∃ o, KeyAt t p o ∧ Q (.dat (.bool (if neg then !o.isSome else o.isSome))) ds))
theorem sem_inN {neg : Bool} : Sem2 K (sInN neg) (fun x y H Q => rIn K.K neg x y H Q ∨ rInK neg x y H Q) := by
  intro H0 f0 H σ ds v w vs x y es Qd Q C ⟨p, t, e, s, h⟩ k
  subst e
  have rt := s.rep C C.top
  have rp : RepP K H p v := C.pop.top
  have fin : ∀ b, Qd (.dat (.bool b)) ds → Q (.bl b) H := fun b q => k _ _ _ _ (C.pop.pop.push (d := .dat (.bool _)) rfl fun _ => rfl) q
  rcases h with ⟨xs, hi, f1, f2, q⟩ | ⟨o, g, q⟩
  · obtain ⟨a, zs, ev, hq, hr⟩ := items_rep rt hi
    subst ev
    refine .inl ⟨a, zs, rfl, hq, flat_rep rp f1, flat_reps hr f2, ?_⟩
    rw [inV_rep rp f1 hr f2]
    exact fin _ q
  · obtain ⟨a, o', eu, dg, ho⟩ := keyAt_rep g rt rp
    subst eu
    refine .inr ⟨a, o', rfl, dg, ?_⟩
    rcases ho with ⟨e1, e2⟩ | ⟨d, z, e1, e2, _⟩ <;> (subst e1 e2; exact fin _ q)

/-! ### subscripts -/
def rIxK : R2 := fun x y H Q => ∃ a v, x = .ref a ∧ DGet H a y (some v) ∧ Q v H
theorem ix_dict (hu : X.A.units + 1 < cLine) : IxR X rIxK := by
  intro value slice pins s σ H x y v u Q I rx ry ⟨a, z, e, g, q⟩ hs
  subst e
  obtain rfl : v = Value.ref a := rx
  have hT := dict_typeIs I g
  have fin : wpAny (model X.prog X.w) X.A (subscripted slice false (.ref a) u) (fun r s₃ => wpAny (model X.prog X.w) X.A (letTemporaryGo value (.ref a) r >>= fun _ => pure r) (EP X pins σ Q) X.xe s₃) X.xe s := by
    rw [hs]
    exact wpAny_operating (d_getItem hu I g ry fun w' s3 I3 rw' => wpAny_bind (wpAny_letTemporaryGo (wpAny_pure ⟨z, H, I3, rw', q⟩)))
  unfold PyProof.Rows.subscriptTail
  refine wpAny_bind ?_
  rw [getitemInPython_of_ne hT.not_modules]
  refine wpAny_bind (wpAny_specialOf hT PySem.F.slot_dict_getitem.lookup ?_)
  first
    | exact wpAny_pure (wpAny_bind fin)
    | exact wpAny_bind (wpAny_pure (wpAny_bind fin))
    | exact wpAny_bind fin
/-- what stands at an index, a key -/
inductive IxT : D → D → D → D → Prop
  | items {x t : D} {xs : List PyData} {i : Int} {p : PyData} : ItemsT t xs → atI xs i = some p → IxT x t (.dat (.int i)) (.dat p)
  | own {a b : Addr} {s : Nat} {π : List Stp} {t : D} {xs : List D} {i : Int} {m : Nat} {d d' : D} : ixN xs.length i = some m → xs[m]? = some d → ldAt s (π ++ [.it m]) d = some d' → IxT (.bor a s π t) (.lsD b xs) (.dat (.int i)) d'
  | key {x t : D} {p : PyData} {q : PyData} : KeyAt t p (some q) → IxT x t (.dat p) (.dat q)
theorem atI_rep {H : Hp} {xs : List PyData} {zs : List V} {i : Int} {p : PyData} (r : RepPs K H xs zs) (h : atI xs i = some p) : ∃ z, atI zs i = some z ∧ RepP K H p z := by
  unfold atI at h ⊢
  rw [← r.len]
  cases e : ixN xs.length i with
  | none => rw [e] at h; cases h
  | some j =>
    rw [e] at h
    exact r.get h
theorem atI_repD {H : Hp} {xs : List D} {zs : List V} {i : Int} {p : D} (r : RepDs K H xs zs) (h : atI xs i = some p) : ∃ z, atI zs i = some z ∧ RepD K H p z := by
  unfold atI at h ⊢
  rw [← r.len]
  cases e : ixN xs.length i with
  | none => rw [e] at h; cases h
  | some j =>
    rw [e] at h
    exact r.get h
def sIx : BSem := fun x y ds Q => ∃ t d, See ds x t ∧ IxT x t y d ∧ Q d ds
theorem sem_ix : Sem2 K sIx (fun x y H Q => rIxL K.K x y H Q ∨ rIxT K.K x y H Q ∨ rIxK x y H Q) := by
  intro H0 f0 H σ ds v w vs x y es Qd Q C ⟨t, d, s, i, q⟩ k
  have rt := s.rep C C.pop.top
  cases i with
  | items hi hp =>
    obtain ⟨a, zs, ev, hq, hr⟩ := items_rep rt hi
    obtain rfl : w = .int _ := C.top
    subst ev
    obtain ⟨z, h1, h2⟩ := atI_rep hr hp
    have fin := k z _ _ _ (C.pop.pop.push (d := .dat _) h2 fun _ => rfl) q
    rcases hq with hq | hq
    · exact .inl ⟨a, zs, _, z, rfl, rfl, hq, h1, fin⟩
    · exact .inr (.inl ⟨a, zs, _, z, rfl, rfl, hq, h1, fin⟩)
  | own hi hm hl =>
    obtain ⟨ev, zs, hq, hr⟩ := rt
    obtain rfl : w = .int _ := C.top
    subst ev
    obtain ⟨z, h1, h2⟩ := atI_repD hr (show atI _ _ = some _ by unfold atI; rw [hi]; exact hm)
    obtain ⟨h3, h4⟩ := ld_rep hl h2
    exact .inl ⟨_, zs, _, z, rfl, rfl, SqL.of hq, h1, k z _ _ _ (C.pop.pop.push h3 h4) q⟩
  | key g =>
    obtain ⟨a, o', eu, dg, ho⟩ := keyAt_rep g rt C.top
    subst eu
    rcases ho with ⟨e1, _⟩ | ⟨d, z, e1, e2, hz⟩
    · cases e1
    · cases e1
      subst e2
      exact .inr (.inr ⟨a, z, rfl, dg, k z _ _ _ (C.pop.pop.push (d := .dat _) hz fun _ => rfl) q⟩)
theorem d_ix (hu : X.A.units + 1 < cLine) (ha : PEd X a ta) (hb : PEd X b tb) (hs : PlainIx b := by exact fun _ _ => rfl) : PEd X (.Subscript a b pos) (e2 sIx ta tb) :=
  pe_imp (pe_ix (ix_list.or (ix_tup.or (ix_dict hu))) ha hb hs) fun _ _ _ h => lift2 sem_ix h

/-! ### tests, and, or, not, if -/
def truP : PyData → Option Bool
  | .none => some false
  | .bool b => some b
  | .int i => some (i != 0)
  | .str s => if s.length ≤ sizeLine then some ((s.length : Int) != 0) else none
  | .tuple xs => some (!xs.isEmpty)
  | .list xs => some (!xs.isEmpty)
  | _ => none
def TruT : D → Bool → Prop
  | .dat p, b => truP p = some b
  | .lst _ xs, b => b = !xs.isEmpty
  | .lsD _ xs, b => b = !xs.isEmpty
  | .dk _ xs, b => b = !xs.isEmpty
  | _, _ => False
theorem empty_len {α β : Type} {xs : List α} {ys : List β} (h : xs.length = ys.length) : (!xs.isEmpty) = !ys.isEmpty := by
  cases xs <;> cases ys <;> simp at h ⊢
theorem tru_rep {H : Hp} {t : D} {v : V} {b : Bool} (r : RepD K H t v) (h : TruT t b) : TruV K.K v H b := by
  cases t with
  | dat p =>
    cases p with
    | none => obtain rfl := r; cases h; rfl
    | bool c => obtain rfl := r; cases h; rfl
    | int i => obtain rfl := r; cases h; rfl
    | str s =>
      obtain rfl := r
      have h' : (if s.length ≤ sizeLine then some ((s.length : Int) != 0) else none) = some b := h
      split at h'
      · cases h'; exact ⟨by assumption, rfl⟩
      · cases h'
    | tuple xs =>
      obtain ⟨a, zs, e, h1, h2⟩ := r
      subst e
      have h' : some (!xs.isEmpty) = some b := h
      cases h'
      exact .inr (.inl ⟨zs, TupAt.sq h1, empty_len h2.len⟩)
    | list xs =>
      obtain ⟨a, zs, e, h1, h2⟩ := r
      subst e
      have h' : some (!xs.isEmpty) = some b := h
      cases h'
      exact .inl ⟨zs, h1.sq, empty_len h2.len⟩
    | _ => exact r.elim
  | lst a xs =>
    obtain ⟨e, zs, h1, h2⟩ := r
    subst e
    exact .inl ⟨zs, SqL.of h1, Eq.trans h (empty_len h2.len)⟩
  | lsD a xs =>
    obtain ⟨e, zs, h1, h2⟩ := r
    subst e
    exact .inl ⟨zs, SqL.of h1, Eq.trans h (empty_len h2.len)⟩
  | dk a xs =>
    obtain ⟨e, zs, h1, h2⟩ := r
    subst e
    exact .inr (.inr ⟨zs, h1, Eq.trans h (empty_len h2.len)⟩)
  | _ => exact h.elim
def tTru (t : TEP) : TTP := fun ds Q => t ds fun x ds1 => ∃ d b, See ds1 x d ∧ TruT d b ∧ Q b ds1
theorem dt_tru (ha : PEd X a ta) (he : ∀ whole, isTrue a X.env whole = (do let v ← whole; standAt a.pos; holding [v] (truthy v)) := by intro _; rfl) : PTd X a (tTru ta) :=
  pt_imp (pt_truth ha he) fun σ H Q h => by
    obtain ⟨H0, f0, ds, vs, es, Qd, C, q, k⟩ := h
    exact ⟨H0, f0, ds, vs, es, _, C, q, fun v x H1 ds1 C1 ⟨d, b, s, t, q1⟩ => ⟨b, tru_rep (s.rep C1 C1.top) t, k b H1 ds1 C1.pop q1⟩⟩
def dAnd (t u : TTP) : TTP := fun ds Q => t ds fun c ds1 => if c = true then u ds1 Q else Q false ds1
def dOr (t u : TTP) : TTP := fun ds Q => t ds fun c ds1 => if c = true then Q true ds1 else u ds1 Q
def dNot (t : TTP) : TTP := fun ds Q => t ds fun c ds1 => Q (!c) ds1
def PWd (X : Cx) (e : Expr) (t : TTP) : Prop := PW X e (liftT (kw X) t)
theorem lift_if {t u : TT} {tp up : TTP} (ht : ∀ σ H Q, liftT K tp σ H Q → t σ H Q) (hu : ∀ σ H Q, liftT K up σ H Q → u σ H Q) {σ : St} {H : Hp} {Q : Bool → Hp → Prop} :
    (liftT K (dAnd tp up) σ H Q → tAnd t u σ H Q) ∧ (liftT K (dOr tp up) σ H Q → tOr t u σ H Q) := by
  constructor
  · rintro ⟨H0, f0, ds, vs, es, Qd, C, q, k⟩
    refine ht _ _ _ ⟨H0, f0, ds, vs, es, _, C, q, fun b H1 ds1 C1 q1 => ?_⟩
    cases b with
    | true => exact hu _ _ _ ⟨H0, f0, ds1, vs, es, _, C1, q1, k⟩
    | false => exact k _ _ _ C1 q1
  · rintro ⟨H0, f0, ds, vs, es, Qd, C, q, k⟩
    refine ht _ _ _ ⟨H0, f0, ds, vs, es, _, C, q, fun b H1 ds1 C1 q1 => ?_⟩
    cases b with
    | false => exact hu _ _ _ ⟨H0, f0, ds1, vs, es, _, C1, q1, k⟩
    | true => exact k _ _ _ C1 q1
variable {rest : List Expr} {tA tB : TTP}
theorem dw_and1 (ha : PTd X a tA) : PWd X (.BoolOp .And [a] pos) tA := pw_and1 ha
theorem dw_or1 (ha : PTd X a tA) : PWd X (.BoolOp .Or [a] pos) tA := pw_or1 ha
theorem dw_and (ha : PTd X a tA) (hb : PWd X (.BoolOp .And (b :: rest) pos) tB) : PWd X (.BoolOp .And (a :: b :: rest) pos) (dAnd tA tB) :=
  pw_imp (pw_and ha hb) fun _ _ _ h => (lift_if (fun _ _ _ z => z) (fun _ _ _ z => z)).1 h
theorem dw_or (ha : PTd X a tA) (hb : PWd X (.BoolOp .Or (b :: rest) pos) tB) : PWd X (.BoolOp .Or (a :: b :: rest) pos) (dOr tA tB) :=
  pw_imp (pw_or ha hb) fun _ _ _ h => (lift_if (fun _ _ _ z => z) (fun _ _ _ z => z)).2 h
theorem dw_pt {e : Expr} {t : TTP} (h : PWd X e t) : PTd X e t := PW.pt h
theorem dt_not (ha : PTd X a tA) : PTd X (.UnaryOp .Not a pos) (dNot tA) :=
  pt_imp (pt_not ha) fun _ _ _ ⟨H0, f0, ds, vs, es, Qd, C, q, k⟩ => ⟨H0, f0, ds, vs, es, _, C, q, fun b H1 ds1 C1 q1 => k _ _ _ C1 q1⟩
/-- as values -/
def eAnd (ta tb : TEP) : TEP := fun ds Q => ta ds fun x ds1 => ∃ c, x = .dat (.bool c) ∧ if c = true then tb ds1 Q else Q (.dat (.bool false)) ds1
def eOr (ta tb : TEP) : TEP := fun ds Q => ta ds fun x ds1 => ∃ c, x = .dat (.bool c) ∧ if c = true then Q (.dat (.bool true)) ds1 else tb ds1 Q
def eNot (ta : TEP) : TEP := fun ds Q => ta ds fun x ds1 => ∃ c, x = .dat (.bool c) ∧ Q (.dat (.bool (!c))) ds1
theorem d_one {op} (h : PEd X a ta) : PEd X (.BoolOp op [a] pos) ta := pe_one h
theorem d_and (ha : PEd X a ta) (hb : PEd X (.BoolOp .And (b :: rest) pos) tb) : PEd X (.BoolOp .And (a :: b :: rest) pos) (eAnd ta tb) :=
  pe_imp (pe_and ha hb) fun σ H Q ⟨H0, f0, ds, vs, es, Qd, C, q, k⟩ => ⟨H0, f0, ds, vs, es, _, C, q, fun v x H1 ds1 C1 ⟨c, e, q1⟩ => by
    subst e
    obtain rfl : v = .bl c := C1.top
    refine ⟨c, rfl, ?_⟩
    cases c with
    | true => exact ⟨H0, f0, ds1, vs, es, Qd, C1.pop, q1, k⟩
    | false => exact k _ _ _ _ C1 q1⟩
theorem d_or (ha : PEd X a ta) (hb : PEd X (.BoolOp .Or (b :: rest) pos) tb) : PEd X (.BoolOp .Or (a :: b :: rest) pos) (eOr ta tb) :=
  pe_imp (pe_or ha hb) fun σ H Q ⟨H0, f0, ds, vs, es, Qd, C, q, k⟩ => ⟨H0, f0, ds, vs, es, _, C, q, fun v x H1 ds1 C1 ⟨c, e, q1⟩ => by
    subst e
    obtain rfl : v = .bl c := C1.top
    refine ⟨c, rfl, ?_⟩
    cases c with
    | false => exact ⟨H0, f0, ds1, vs, es, Qd, C1.pop, q1, k⟩
    | true => exact k _ _ _ _ C1 q1⟩
theorem d_not (ha : PEd X a ta) : PEd X (.UnaryOp .Not a pos) (eNot ta) :=
  pe_imp (pe_not ha) fun σ H Q ⟨H0, f0, ds, vs, es, Qd, C, q, k⟩ => ⟨H0, f0, ds, vs, es, _, C, q, fun v x H1 ds1 C1 ⟨c, e, q1⟩ => by
    subst e
    obtain rfl : v = .bl c := C1.top
    exact ⟨c, rfl, k _ _ _ _ (C1.pop.push (d := .dat (.bool _)) rfl fun _ => rfl) q1⟩⟩
def eIf (t : TTP) (ta tb : TEP) : TEP := fun ds Q => t ds fun c ds1 => if c = true then ta ds1 Q else tb ds1 Q
theorem d_if (hc : PTd X c tA) (ha : PEd X a ta) (hb : PEd X b tb) : PEd X (.IfExp c a b pos) (eIf tA ta tb) :=
  pe_imp (pe_ifExp hc ha hb) fun σ H Q ⟨H0, f0, ds, vs, es, Qd, C, q, k⟩ => ⟨H0, f0, ds, vs, es, _, C, q, fun b H1 ds1 C1 q1 => by
    cases b with
    | true => exact ⟨H0, f0, ds1, vs, es, Qd, C1, q1, k⟩
    | false => exact ⟨H0, f0, ds1, vs, es, Qd, C1, q1, k⟩⟩
/-- a op b op' c of ints: the middle one is asked once -/
def eChainI (g g' : Int → Int → Bool) (ta tb tc : TEP) : TEP := fun ds Q => ta ds fun x ds1 => tb ds1 fun y ds2 => ∃ i j, x = .dat (.int i) ∧ y = .dat (.int j) ∧
  if g i j = true then tc ds2 fun z ds3 => ∃ k, z = .dat (.int k) ∧ Q (.dat (.bool (g' j k))) ds3 else Q (.dat (.bool false)) ds2
theorem lift_chain {g g' : Int → Int → Bool} {σ : St} {H : Hp} {Q : VK} (h : liftE K (eChainI g g' ta tb tc) σ H Q) :
    tChain (rI0 fun i j => .bl (g i j)) (rI0 fun i j => .bl (g' i j)) (liftE K ta) (liftE K tb) (liftE K tc) σ H Q := by
  obtain ⟨H0, f0, ds, vs, es, Qd, C, q, k⟩ := h
  refine ⟨H0, f0, ds, vs, es, _, C, q, fun v x H1 ds1 C1 q1 => ⟨H0, f0, ds1, _, _, _, C1, q1, fun w y H2 ds2 C2 ⟨i, j, e1, e2, q2⟩ => ?_⟩⟩
  subst e1 e2
  obtain rfl : w = .int j := C2.top
  obtain rfl : v = .int i := C2.pop.top
  refine ⟨i, j, rfl, rfl, g i j, rfl, ?_⟩
  cases hg : g i j with
  | true =>
    rw [hg] at q2
    exact ⟨H0, f0, ds2, vs, es, _, C2.pop.pop, q2, fun u z H3 ds3 C3 ⟨l, e3, q3⟩ => by
      subst e3
      obtain rfl : u = .int l := C3.top
      exact ⟨j, l, rfl, rfl, k _ _ _ _ (C3.pop.push (d := .dat (.bool _)) rfl fun _ => rfl) q3⟩⟩
  | false =>
    rw [hg] at q2
    exact k _ _ _ _ (C2.pop.pop.push (d := .dat (.bool _)) rfl fun _ => rfl) q2
theorem d_chainI {op op' : CmpOp} {g g' : Int → Int → Bool} (ho : OpR X (compareOp op) (rI0 fun i j => .bl (g i j))) (ho' : OpR X (compareOp op') (rI0 fun i j => .bl (g' i j))) (ha : PEd X a ta) (hb : PEd X b tb) (hc : PEd X c tc)
    (hm : lastMarks [op, op'] [b, c] = false := by with_unfolding_all rfl) : PEd X (.Compare a [op, op'] [b, c] pos) (eChainI g g' ta tb tc) :=
  pe_imp (pe_chain ho ho' ha hb hc hm) fun _ _ _ h => lift_chain h
theorem dt_chainI {op op' : CmpOp} {g g' : Int → Int → Bool} (ho : OpR X (compareOp op) (rI0 fun i j => .bl (g i j))) (ho' : OpR X (compareOp op') (rI0 fun i j => .bl (g' i j))) (ha : PEd X a ta) (hb : PEd X b tb) (hc : PEd X c tc)
    (hm : lastMarks [op, op'] [b, c] = false := by with_unfolding_all rfl) : PTd X (.Compare a [op, op'] [b, c] pos) (tBl (eChainI g g' ta tb tc)) :=
  pt_imp (pt_chain ho ho' ha hb hc hm) fun _ _ _ h => lift_tTest (fun _ _ _ z => lift_chain z) h
end
end PD
set_option Elab.async false
set_option linter.all false
set_option maxRecDepth 100000
set_option maxHeartbeats 2000000
/-! PD, fourth part: arguments, displays, built-in calls, methods of lists. -/
namespace PD
open PySem L2
section
variable {K : KW} {H H' H0 : Hp} {f0 : Addr → Prop} {σ : St} {ds ds' : PSt} {vs ws : List V} {es as : List D} {v w : V} {d t x : D} {a : Addr}
theorem RepDs.split : ∀ {as : List D} {ws : List V}, as.length = ws.length → RepDs K H (as ++ es) (ws ++ vs) → RepDs K H as ws ∧ RepDs K H es vs
  | [], [], _, h => ⟨rfl, h⟩
  | [], _ :: _, e, _ => by simp at e
  | _ :: _, [], e, _ => by simp at e
  | a :: as, w :: ws, e, ⟨v, r, q, h1, h2⟩ => by
    injection q with q1 q2
    subst q1 q2
    obtain ⟨h3, h4⟩ := RepDs.split (by simpa using e) h2
    exact ⟨⟨_, _, rfl, h1, h3⟩, h4⟩
theorem Cfg.mid (C : Cfg K H0 f0 H σ ds (ws ++ v :: vs) (as ++ x :: es)) (hl : as.length = ws.length) : Cfg K H0 f0 H σ ds ((v :: ws) ++ vs) ((x :: as) ++ es) := by
  obtain ⟨h1, w', r, e, h2, h3⟩ := RepDs.split (es := x :: es) (vs := v :: vs) hl C.tm
  cases e
  have c : ∀ b, cDs b (x :: (as ++ es)) = cDs b (as ++ x :: es) := fun b => by
    show cD b x + cDs b (as ++ es) = _
    rw [cDs_append, cDs_append]
    show _ = cDs b as + (cD b x + cDs b es)
    omega
  exact ⟨C.sl, ⟨_, _, rfl, h2, h1.append h3⟩, fun b => by have := C.nd b; have := c b; show cS b ds + cDs b (x :: (as ++ es)) ≤ 1; omega,
    fun b h => C.fr b (by have h' : 1 ≤ cS b ds + cDs b (x :: (as ++ es)) := h; have := c b; omega), C.kp⟩
theorem Cfg.args (C : Cfg K H0 f0 H σ ds (ws ++ vs) (as ++ es)) (hl : as.length = ws.length) : RepDs K H as ws := (RepDs.split hl C.tm).1
theorem Cfg.drop (C : Cfg K H0 f0 H σ ds (ws ++ vs) (as ++ es)) (hl : as.length = ws.length) : Cfg K H0 f0 H σ ds vs es := by
  refine ⟨C.sl, (RepDs.split hl C.tm).2, fun a => ?_, fun a h => ?_, C.kp⟩
  · have := C.nd a; rw [cDs_append] at this; omega
  · exact C.fr a (by rw [cDs_append]; omega)
theorem Cfg.newTrees {p : Addr} (C : Cfg K H0 f0 H σ ds (ws ++ vs) (as ++ es)) (hl : as.length = ws.length) (hp : H p = none) : Cfg K H0 f0 (upd H p (.lst ws)) σ ds (.ref p :: vs) (.lsD p as :: es) := by
  have C' := C.grow (grow_new (o := .lst ws) hp)
  obtain ⟨h1, h2⟩ := RepDs.split hl C'.tm
  have z := C.untracked hp
  have c : ∀ b, cDs b (.lsD p as :: es) = one b p + cDs b (as ++ es) := fun b => by
    rw [cDs_append]
    show (one b p + cDs b as) + cDs b es = _
    omega
  refine ⟨C'.sl, ⟨_, _, rfl, ⟨rfl, ws, upd_same, h1⟩, h2⟩, fun b => ?_, fun b h => ?_, C'.kp⟩
  · rw [c]
    by_cases q : b = p
    · subst q; rw [one_same]; omega
    · rw [one_ne q]; have := C.nd b; omega
  · rw [c] at h
    by_cases q : b = p
    · subst q
      by_cases y : f0 b
      · exact .inl y
      · refine .inr ?_
        cases e : H0 b with
        | none => rfl
        | some o => have := C.kp b o y e; rw [hp] at this; cases this
    · rw [one_ne q] at h; exact C.fr b (by omega)
theorem Cfg.newTup {p : Addr} {o : Obj} (C : Cfg K H0 f0 H σ ds (ws ++ vs) (as ++ es)) (hl : as.length = ws.length) (hp : H p = none) (ho : o.dict = none) : Cfg K H0 f0 (upd H p (.frz o (.tup ws))) σ ds (.ref p :: vs) (.tpD as :: es) := by
  have C' := C.grow (grow_new (o := .frz o (.tup ws)) hp)
  obtain ⟨h1, h2⟩ := RepDs.split hl C'.tm
  have c : ∀ b, cDs b (.tpD as :: es) = cDs b (as ++ es) := fun b => by rw [cDs_append]; rfl
  exact ⟨C'.sl, ⟨_, _, rfl, ⟨p, ws, rfl, ⟨o, ho, upd_same⟩, h1⟩, h2⟩, fun b => by rw [c]; exact C.nd b, fun b h => by rw [c] at h; exact C.fr b h, C'.kp⟩
/-- all plain -/
def dats : List D → Option (List PyData)
  | [] => some []
  | .dat p :: r => match dats r with
    | some ps => some (p :: ps)
    | none => none
  | _ :: _ => none
theorem dats_rep : ∀ {as : List D} {ps : List PyData} {ws : List V}, dats as = some ps → RepDs K H as ws → RepPs K H ps ws
  | [], _, _, e, h => by cases e; exact h
  | .dat p :: r, ps, _, e, ⟨v, q, e2, h1, h2⟩ => by
    unfold dats at e
    split at e
    · rename_i ps' e3
      cases e
      exact ⟨v, q, e2, h1, dats_rep e3 h2⟩
    · cases e
  | .lst _ _ :: _, _, _, e, _ => by cases e
  | .lsD _ _ :: _, _, _, e, _ => by cases e
  | .dk _ _ :: _, _, _, e, _ => by cases e
  | .dt _ _ :: _, _, _, e, _ => by cases e
  | .ins _ _ _ :: _, _, _, e, _ => by cases e
  | .tpD _ :: _, _, _, e, _ => by cases e
  | .bor _ _ _ _ :: _, _, _, e, _ => by cases e
  | .raw _ :: _, _, _, e, _ => by cases e
  | .pr _ _ :: _, _, _, e, _ => by cases e
end
/-! ### arguments -/
def aNil : TAP := fun ds Q => Q [] ds
def aCons (ta : TEP) (tr : TAP) : TAP := fun ds Q => ta ds fun x ds1 => tr ds1 fun xs ds2 => Q (x :: xs) ds2
/-- a tuple, a list: of plain data, or of trees -/
def mkT (as : List D) (Q : D → PSt → Prop) (ds : PSt) : Prop := match dats as with
  | some ps => Q (.dat (.tuple ps)) ds
  | none => Q (.tpD as) ds
def mkL (as : List D) (Q : D → PSt → Prop) (ds : PSt) : Prop := match dats as with
  | some ps => ∀ a, Q (.lst a ps) ds
  | none => ∀ a, Q (.lsD a as) ds
def eTup (t : TAP) : TEP := fun ds Q => t ds fun as ds1 => Nat.ble as.length 1000 = true ∧ mkT as Q ds1
def eLst (t : TAP) : TEP := fun ds Q => t ds fun as ds1 => Nat.ble as.length 1000 = true ∧ mkL as Q ds1
abbrev ASem := List D → PSt → (D → PSt → Prop) → Prop
def eCall (s : ASem) (t : TAP) : TEP := fun ds Q => t ds fun as ds1 => s as ds1 Q
def SemA (K : KW) (s : ASem) (r : List V → Hp → VK → Prop) : Prop := ∀ {H0 f0 H σ ds ws vs as es Qd} {Q : VK}, Cfg K H0 f0 H σ ds (ws ++ vs) (as ++ es) → as.length = ws.length → s as ds Qd →
  (∀ v' d H' ds', Cfg K H0 f0 H' σ ds' (v' :: vs) (d :: es) → Qd d ds' → Q v' H') → r ws H Q
theorem le_line {n : Nat} (h : Nat.ble n 1000 = true) : n ≤ sizeLine := Nat.le_trans (Nat.le_of_ble_eq_true h) (by decide)
section
variable {X : Cx} {e : Expr} {l : List Expr} {ta : TEP} {tr t : TAP} {pos p : Pos} {K : KW}
theorem da_nil : PAd X [] aNil := pa_imp pa_nil fun σ H Q ⟨H0, f0, ds, vs, es, Qd, C, q, k⟩ => k [] [] H ds C rfl q
theorem da_cons (ha : PEd X e ta) (hr : PAd X l tr) (hs : starEach (e :: l) X.env = (false, eval e X.env) :: starEach l X.env := by rfl) : PAd X (e :: l) (aCons ta tr) :=
  pa_imp (pa_cons ha hr hs) fun σ H Q ⟨H0, f0, ds, vs, es, Qd, C, q, k⟩ => ⟨H0, f0, ds, vs, es, _, C, q, fun v x H1 ds1 C1 q1 =>
    ⟨H0, f0, ds1, v :: vs, x :: es, _, C1, q1, fun ws as H2 ds2 C2 hl q2 => k (v :: ws) (x :: as) H2 ds2 (C2.mid hl) (by simp [hl]) q2⟩⟩
/-- a tuple made of values: its object known -/
def tTupF (t : TA) : TE := fun σ H Q => t σ H fun xs H1 => xs.length ≤ sizeLine ∧ ∀ p o, H1 p = none → o.dict = none → Q (.ref p) (upd H1 p (.frz o (.tup xs)))
theorem Inv.ftup {pins : List (Addr × Obj)} {σ : St} {H : Hp} {s : Shared} {xs : List V} {us : List Value} {tk : Nat} (I : Inv X pins σ H s) (r : Vals xs us) (z : xs.length ≤ sizeLine) :
    Inv X pins σ (upd H s.heap.objs.size (.frz { cls := .type "tuple", data := .seq us.toArray } (.tup xs))) { s with heap := s.heap.push { cls := .type "tuple", data := .seq us.toArray }, toks := tk } :=
  I.laid (fun b u e => Heap.get?_push_of_some _ e) (Nat.le_refl _) ⟨Heap.get?_push_size _ rfl, z, us, r, ⟨_, Heap.get?_push_size _ rfl, rfl, _, rfl⟩⟩
theorem pe_tupF {x1} {tv : TA} (h : PA X l tv) : PE X (.Tuple l x1 pos) (tTupF tv) := by
  refine ⟨fun pins s σ H Q I hq => wpAny_Tuple_spliced (thn (h.run pos pins s σ H _ I hq) fun us s1 ⟨xs, H1, I1, r, z, q⟩ => ⟨by rw [← r.length]; exact z, ?_⟩)⟩
  exact ⟨.ref _, _, Inv.ftup (tk := s1.toks) I1 r z, rfl, q _ _ (I1.hok.fresh (Nat.le_refl _)) rfl⟩
theorem d_tup {x1} (h : PAd X l t) : PEd X (.Tuple l x1 pos) (eTup t) :=
  pe_imp (pe_tupF h) fun σ H Q ⟨H0, f0, ds, vs, es, Qd, C, q, k⟩ => ⟨H0, f0, ds, vs, es, _, C, q, fun ws as H1 ds1 C1 hl ⟨hz, q1⟩ => by
    refine ⟨by rw [← hl]; exact le_line hz, fun p o hp ho => ?_⟩
    unfold mkT at q1
    split at q1
    · rename_i ps e
      exact k _ _ _ _ ((C1.drop hl).newT hp ho (dats_rep e (C1.args hl))) q1
    · exact k _ _ _ _ (C1.newTup hl hp ho) q1⟩
theorem d_lst (h : PAd X l t) : PEd X (.List l pos) (eLst t) :=
  pe_imp (pe_lst h) fun σ H Q ⟨H0, f0, ds, vs, es, Qd, C, q, k⟩ => ⟨H0, f0, ds, vs, es, _, C, q, fun ws as H1 ds1 C1 hl ⟨hz, q1⟩ => by
    refine ⟨by rw [← hl]; exact le_line hz, fun p hp => ?_⟩
    unfold mkL at q1
    split at q1
    · rename_i ps e
      exact k _ _ _ _ ((C1.drop hl).newL hp (dats_rep e (C1.args hl))) (q1 p)
    · exact k _ _ _ _ (C1.newTrees hl hp) (q1 p)⟩
theorem liftCB {s : ASem} {r : List V → Hp → VK → Prop} (hs : SemA K s r) {σ : St} {H : Hp} {Q : VK} (h : liftE K (eCall s t) σ H Q) : tCB r (liftA K t) σ H Q := by
  obtain ⟨H0, f0, ds, vs, es, Qd, C, q, k⟩ := h
  exact ⟨H0, f0, ds, vs, es, _, C, q, fun ws as H1 ds1 C1 hl q1 => hs C1 hl q1 k⟩
theorem d_callB {x : Str} {id : String} {s : ASem} {r : List V → Hp → VK → Prop} (hc : CallR X (.builtin id) r) (hs : SemA (kw X) s r) (hg : Gl X x) (hm : X.mg x = none) (hv : bootBuiltins x = some (.builtin id)) (ha : PAd X (e :: l) t)
    (hn : x ≠ "__name__" := by decide) (hdb : (x == ("__debug__" : Str)) = false := by decide)
    (he : starEach (e :: l) X.env = (false, eval e X.env) :: starEach l X.env := by rfl) (hpl : (backTo pos (starEach l X.env)).any (·.1) = false := by rfl) : PEd X (.Call (.Name x p) (e :: l) [] pos) (eCall s t) :=
  pe_imp (pe_callB hc hg hm hv ha hn hdb he hpl) fun _ _ _ h => liftCB hs h
theorem d_callTy {x : Str} {T : String} {s : ASem} {r : List V → Hp → VK → Prop} (hc : CallR X (.type T) r) (hs : SemA (kw X) s r) (hg : Gl X x) (hm : X.mg x = none) (hv : bootBuiltins x = some (.type T)) (ha : PAd X (e :: l) t)
    (hn : x ≠ "__name__" := by decide) (hdb : (x == ("__debug__" : Str)) = false := by decide)
    (he : starEach (e :: l) X.env = (false, eval e X.env) :: starEach l X.env := by rfl) (hpl : (backTo pos (starEach l X.env)).any (·.1) = false := by rfl) : PEd X (.Call (.Name x p) (e :: l) [] pos) (eCall s t) :=
  pe_imp (pe_callTy hc hg hm hv ha hn hdb he hpl) fun _ _ _ h => liftCB hs h

/-! ### one argument -/
/-- by the tree that the argument tells -/
def s1 (s : D → PSt → (D → PSt → Prop) → Prop) : ASem := fun as ds Q => ∃ x, as = [x] ∧ s x ds Q
def Sem1 (K : KW) (s : D → PSt → (D → PSt → Prop) → Prop) (r : V → Hp → VK → Prop) : Prop := ∀ {H0 f0 H σ ds v vs x es Qd} {Q : VK}, Cfg K H0 f0 H σ ds (v :: vs) (x :: es) → s x ds Qd →
  (∀ v' d H' ds', Cfg K H0 f0 H' σ ds' (v' :: vs) (d :: es) → Qd d ds' → Q v' H') → r v H Q
theorem sem_1 {s : D → PSt → (D → PSt → Prop) → Prop} {r : V → Hp → VK → Prop} (h : Sem1 K s r) : SemA K (s1 s) (fun ws H Q => ∃ v, ws = [v] ∧ r v H Q) := by
  intro H0 f0 H σ ds ws vs as es Qd Q C hl ⟨x, e, q⟩ k
  subst e
  cases ws with
  | nil => cases hl
  | cons v r =>
    cases r with
    | nil => exact ⟨v, rfl, h C q k⟩
    | cons _ _ => cases hl
def CallR1 (X : Cx) (f : Value) (r : V → Hp → VK → Prop) : Prop := CallR X f (fun ws H Q => ∃ v, ws = [v] ∧ r v H Q)
theorem callR_imp {f : Value} {r r' : List V → Hp → VK → Prop} (h : CallR X f r) (k : ∀ ws H Q, r' ws H Q → r ws H Q) : CallR X f r' :=
  fun pins s σ H xs us Q I rv q => h pins s σ H xs us Q I rv (k _ _ _ q)
def LenT : D → Nat → Prop
  | .dat (.tuple xs), n => n = xs.length
  | .dat (.str s), n => s.length ≤ sizeLine ∧ n = s.length
  | .lst _ xs, n => n = xs.length
  | .lsD _ xs, n => n = xs.length
  | .dat (.list xs), n => n = xs.length
  | _, _ => False
def sLen (x : D) (ds : PSt) (Q : D → PSt → Prop) : Prop := ∃ t n, See ds x t ∧ LenT t n ∧ Q (.dat (.int (n : Nat))) ds
theorem sem_len : Sem1 K sLen (fun v H Q => ∃ n, LenV K.K v H n ∧ Q (.int (n : Nat)) H) := by
  intro H0 f0 H σ ds v vs x es Qd Q C ⟨t, n, s, ht, q⟩ k
  have r := s.rep C C.top
  refine ⟨n, ?_, k _ _ _ _ (C.pop.push (d := .dat (.int _)) rfl fun _ => rfl) q⟩
  cases t with
  | dat p =>
    cases p with
    | tuple xs => obtain ⟨a, zs, e, h1, h2⟩ := r; subst e; exact .inr ⟨zs, h1.sq, Eq.trans ht h2.len⟩
    | str z => obtain rfl := r; exact ht
    | list xs => obtain ⟨a, zs, e, h1, h2⟩ := r; subst e; exact .inl ⟨zs, h1.sq, Eq.trans ht h2.len⟩
    | _ => exact ht.elim
  | lst a xs => obtain ⟨e, zs, h1, h2⟩ := r; subst e; exact .inl ⟨zs, SqL.of h1, Eq.trans ht h2.len⟩
  | lsD a xs => obtain ⟨e, zs, h1, h2⟩ := r; subst e; exact .inl ⟨zs, SqL.of h1, Eq.trans ht h2.len⟩
  | _ => exact ht.elim
theorem call_len1 : CallR1 X (.builtin "len") (fun v H Q => ∃ n, LenV X.K v H n ∧ Q (.int (n : Nat)) H) := callR_imp call_len fun ws H Q ⟨v, e, n, h, q⟩ => ⟨v, n, e, h, q⟩
/-- tuple(x), list(x) -/
def sTupO (x : D) (ds : PSt) (Q : D → PSt → Prop) : Prop := ∃ t xs, See ds x t ∧ ItemsT t xs ∧ Q (.dat (.tuple xs)) ds
def sLstO (x : D) (ds : PSt) (Q : D → PSt → Prop) : Prop := ∃ t xs, See ds x t ∧ ItemsT t xs ∧ ∀ a, Q (.lst a xs) ds
def rTupO (K : PySem.W.Frag) : V → Hp → VK → Prop := fun v H Q => ∃ a zs, v = .ref a ∧ ((SqL K H a zs ∧ ∀ p o, H p = none → o.dict = none → Q (.ref p) (upd H p (.frz o (.tup zs)))) ∨ (SqT K H a zs ∧ Q (.ref a) H))
theorem sem_tupO : Sem1 K sTupO (rTupO K.K) := by
  intro H0 f0 H σ ds v vs x es Qd Q C ⟨t, xs, s, hi, q⟩ k
  have r := s.rep C C.top
  have C0 := C.pop
  cases t with
  | dat p =>
    cases p with
    | tuple ys =>
      obtain rfl := hi
      obtain ⟨a, zs, e, h1, h2⟩ := id r
      subst e
      exact ⟨a, zs, rfl, .inr ⟨h1.sq, k _ _ _ _ (C0.push (d := .dat (.tuple _)) r fun _ => rfl) q⟩⟩
    | list ys =>
      obtain rfl := hi
      obtain ⟨a, zs, e, h1, h2⟩ := r
      subst e
      exact ⟨_, zs, rfl, .inl ⟨h1.sq, fun p o hp ho => k _ _ _ _ (C0.newT hp ho h2) q⟩⟩
    | _ => exact hi.elim
  | lst a ys =>
    obtain rfl := hi
    obtain ⟨e, zs, h1, h2⟩ := r
    subst e
    exact ⟨_, zs, rfl, .inl ⟨SqL.of h1, fun p o hp ho => k _ _ _ _ (C0.newT hp ho h2) q⟩⟩
  | _ => exact hi.elim
theorem call_tupO : CallR1 X (.type "tuple") (rTupO X.K) := by
  intro pins s σ H ws us Q I rv ⟨v, e, a, zs, ev, h⟩
  subst e ev
  obtain ⟨u, rfl, r⟩ := Vals.one rv
  obtain rfl : u = .ref a := r
  rcases h with ⟨hs, q⟩ | ⟨hs, q⟩
  · obtain ⟨its, rv, pl, hz⟩ := I.list hs
    refine call_tuple_list pl.isList (fun h' hk => ?_) (by rw [List.size_toArray, ← rv.length]; exact hz)
    have I1 : Inv X pins σ H { s with heap := h' } := I.kept (t' := s.toks) hk
    exact ⟨.ref _, _, Inv.ftup (tk := s.toks) I1 rv hz, rfl, q _ _ (I1.hok.fresh (Nat.le_refl _)) rfl⟩
  · obtain ⟨its, rv, pl, hz⟩ := I.tuple hs
    exact PyProof.Rows.call_tuple_tup pl ⟨.ref a, H, I, rfl, q⟩
theorem sem_lstO : Sem1 K sLstO (fun v H Q => ∃ p ys, v = .ref p ∧ (SqL K.K H p ys ∨ SqT K.K H p ys) ∧ ∀ l, H l = none → Q (.ref l) (upd H l (.lst ys))) := by
  intro H0 f0 H σ ds v vs x es Qd Q C ⟨t, xs, s, hi, q⟩ k
  obtain ⟨a, zs, e, h1, h2⟩ := items_rep (s.rep C C.top) hi
  exact ⟨a, zs, e, h1, fun l hl => k _ _ _ _ (C.pop.newL hl h2) (q l)⟩
theorem call_lstO : CallR1 X (.type "list") (fun v H Q => ∃ p ys, v = .ref p ∧ (SqL X.K H p ys ∨ SqT X.K H p ys) ∧ ∀ l, H l = none → Q (.ref l) (upd H l (.lst ys))) :=
  callR_imp call_list_of fun ws H Q ⟨v, e, p, ys, ev, h, q⟩ => ⟨p, ys, by rw [e, ev], h, q⟩
/-- sum, all, any, max, min of one list -/
def sSum (x : D) (ds : PSt) (Q : D → PSt → Prop) : Prop := ∃ (t : D) (ns : List Int), See ds x t ∧ ItemsT t (ns.map .int) ∧ Q (.dat (.int ns.sum)) ds
def rSumO (K : PySem.W.Frag) : V → Hp → VK → Prop := fun v H Q => ∃ (a : Addr) (ns : List Int), v = .ref a ∧ (SqL K H a (ns.map V.int) ∨ SqT K H a (ns.map V.int)) ∧ Q (.int ns.sum) H
def sAll (x : D) (ds : PSt) (Q : D → PSt → Prop) : Prop := ∃ (a : Addr) (bs : List Bool), See ds x (.lst a (bs.map .bool)) ∧ Q (.dat (.bool (bs.all id))) ds
def sAny (x : D) (ds : PSt) (Q : D → PSt → Prop) : Prop := ∃ (a : Addr) (bs : List Bool), See ds x (.lst a (bs.map .bool)) ∧ Q (.dat (.bool (bs.any id))) ds
def sMax (x : D) (ds : PSt) (Q : D → PSt → Prop) : Prop := ∃ (a : Addr) (ns : List Int), See ds x (.lst a (ns.map .int)) ∧ 0 < ns.length ∧ ∀ m, m ∈ ns → (∀ y ∈ ns, y ≤ m) → Q (.dat (.int m)) ds
def sMin (x : D) (ds : PSt) (Q : D → PSt → Prop) : Prop := ∃ (a : Addr) (ns : List Int), See ds x (.lst a (ns.map .int)) ∧ 0 < ns.length ∧ ∀ m, m ∈ ns → (∀ y ∈ ns, m ≤ y) → Q (.dat (.int m)) ds
theorem RepPs.bools {H : Hp} : ∀ {bs : List Bool} {vs : List V}, RepPs K H (bs.map PyData.bool) vs → vs = bs.map V.bl
  | [], _, h => h
  | n :: ns, _, ⟨v, r, e, h1, h2⟩ => by subst e; cases h1; rw [RepPs.bools h2]; rfl
theorem sem_sum : Sem1 K sSum (rSumO K.K) := by
  intro H0 f0 H σ ds v vs x es Qd Q C ⟨t, ns, s, i, q⟩ k
  obtain ⟨a, zs, ev, h1, h2⟩ := items_rep (s.rep C C.top) i
  have := h2.ints
  subst this
  exact ⟨a, ns, ev, h1, k _ _ _ _ (C.pop.push (d := .dat (.int _)) rfl fun _ => rfl) q⟩
theorem sem_all : Sem1 K sAll (fun v H Q => rAll K.K [v] H Q) := by
  intro H0 f0 H σ ds v vs x es Qd Q C ⟨a, ns, s, q⟩ k
  obtain ⟨e, zs, h1, h2⟩ := s.rep C C.top
  subst e
  have := RepPs.bools h2
  subst this
  exact ⟨a, ns, rfl, SqL.of h1, k _ _ _ _ (C.pop.push (d := .dat (.bool _)) rfl fun _ => rfl) q⟩
theorem sem_any : Sem1 K sAny (fun v H Q => rAny K.K [v] H Q) := by
  intro H0 f0 H σ ds v vs x es Qd Q C ⟨a, ns, s, q⟩ k
  obtain ⟨e, zs, h1, h2⟩ := s.rep C C.top
  subst e
  have := RepPs.bools h2
  subst this
  exact ⟨a, ns, rfl, SqL.of h1, k _ _ _ _ (C.pop.push (d := .dat (.bool _)) rfl fun _ => rfl) q⟩
theorem sem_max : Sem1 K sMax (fun v H Q => rMax K.K [v] H Q) := by
  intro H0 f0 H σ ds v vs x es Qd Q C ⟨a, ns, s, hn, q⟩ k
  obtain ⟨e, zs, h1, h2⟩ := s.rep C C.top
  subst e
  have := h2.ints
  subst this
  exact ⟨a, ns, rfl, SqL.of h1, hn, fun m hm hy => k _ _ _ _ (C.pop.push (d := .dat (.int _)) rfl fun _ => rfl) (q m hm hy)⟩
theorem sem_min : Sem1 K sMin (fun v H Q => rMin K.K [v] H Q) := by
  intro H0 f0 H σ ds v vs x es Qd Q C ⟨a, ns, s, hn, q⟩ k
  obtain ⟨e, zs, h1, h2⟩ := s.rep C C.top
  subst e
  have := h2.ints
  subst this
  exact ⟨a, ns, rfl, SqL.of h1, hn, fun m hm hy => k _ _ _ _ (C.pop.push (d := .dat (.int _)) rfl fun _ => rfl) (q m hm hy)⟩
theorem call_sum1 (hc : X.calm = true) : CallR1 X (.builtin "sum") (rSumO X.K) := by
  intro pins s σ H ws us Q I r ⟨v, e, a, ns, ev, h, q⟩
  subst e ev
  obtain ⟨u, rfl, ru⟩ := Vals.one r
  obtain rfl : u = .ref a := ru
  rcases h with h | h
  · obtain ⟨its, rv, hl, _⟩ := I.list h
    exact sum_raw (I.ok.hd hc) hl.isList rv.ints fun h' tk t' hk => ⟨.int _, H, I.kept hk, ⟨_, rfl⟩, q⟩
  · obtain ⟨its, rv, hl, _⟩ := I.tuple h
    have hi := intsAre_of rv
    obtain ⟨xs, e⟩ := hi.allInts.items
    have hn : numsOf (intItems xs).toList = ns := by rw [← e]; exact hi.numsOf
    rw [PySem.nums_intItems] at hn
    have hl' : s.heap.IsTuple a (intItems xs) := by rw [← e]; exact hl
    refine PySem.W.ktm_sumG (I.ok.hd hc) hl' fun h' tk t' hk => ?_
    rw [PySem.preSum_eq, List.take_of_length_le (by simp), hn]
    exact ⟨.int _, H, I.kept hk, ⟨_, rfl⟩, q⟩
theorem call_all1 (hc : X.calm = true) : CallR1 X (.builtin "all") (fun v H Q => rAll X.K [v] H Q) := callR_imp (cr_all hc) fun ws H Q ⟨v, e, h⟩ => by rw [e]; exact h
theorem call_any1 (hc : X.calm = true) : CallR1 X (.builtin "any") (fun v H Q => rAny X.K [v] H Q) := callR_imp (cr_any hc) fun ws H Q ⟨v, e, h⟩ => by rw [e]; exact h
theorem call_max1 (hc : X.calm = true) : CallR1 X (.builtin "max") (fun v H Q => rMax X.K [v] H Q) := callR_imp (cr_max hc) fun ws H Q ⟨v, e, h⟩ => by rw [e]; exact h
theorem call_min1 (hc : X.calm = true) : CallR1 X (.builtin "min") (fun v H Q => rMin X.K [v] H Q) := callR_imp (cr_min hc) fun ws H Q ⟨v, e, h⟩ => by rw [e]; exact h
/-- sorted of a list of ints -/
def sSortI (x : D) (ds : PSt) (Q : D → PSt → Prop) : Prop := ∃ (a : Addr) (ns : List Int), See ds x (.lst a (ns.map .int)) ∧ ∀ (b : Addr) (ms : List Int), ms.Perm ns → ms.Pairwise (· ≤ ·) → Q (.lst b (ms.map .int)) ds
theorem sem_sortI : Sem1 K sSortI (fun v H Q => rSortedI K.K [v] H Q) := by
  intro H0 f0 H σ ds v vs x es Qd Q C ⟨a, ns, s, q⟩ k
  obtain ⟨e, zs, h1, h2⟩ := s.rep C C.top
  subst e
  have := h2.ints
  subst this
  exact ⟨a, ns, rfl, SqL.of h1, fun ms p hp hs hn => k _ _ _ _ (C.pop.newL hn (RepPs.of_ints ms)) (q p ms hp hs)⟩
theorem call_sort1 : CallR1 X (.builtin "sorted") (fun v H Q => rSortedI X.K [v] H Q) := callR_imp cr_sortedI fun ws H Q ⟨v, e, h⟩ => by rw [e]; exact h
/-- abs, int of an int -/
def sIntF (g : Int → Int) (x : D) (ds : PSt) (Q : D → PSt → Prop) : Prop := ∃ i, x = .dat (.int i) ∧ Q (.dat (.int (g i))) ds
theorem sem_intF {g : Int → Int} : Sem1 K (sIntF g) (fun v H Q => ∃ i, v = .int i ∧ Q (.int (g i)) H) := by
  intro H0 f0 H σ ds v vs x es Qd Q C ⟨i, e, q⟩ k
  subst e
  exact ⟨i, C.top, k _ _ _ _ (C.pop.push (d := .dat (.int _)) rfl fun _ => rfl) q⟩
theorem call_abs1 : CallR1 X (.builtin "abs") (fun v H Q => ∃ i, v = .int i ∧ Q (.int (if i < 0 then -i else i)) H) := callR_imp call_abs fun ws H Q ⟨v, e, i, ei, h⟩ => ⟨i, by rw [e, ei], h⟩
theorem call_int11 : CallR1 X (.type "int") (fun v H Q => ∃ i, v = .int i ∧ Q (.int i) H) := callR_imp call_int1 fun ws H Q ⟨v, e, i, ei, h⟩ => .inl ⟨i, by rw [e, ei], h⟩
/-- isinstance -/
def tyP : PyData → String
  | .none => "NoneType"
  | .bool _ => "bool"
  | .int _ => "int"
  | .str _ => "str"
  | .tuple _ => "tuple"
  | .list _ => "list"
  | .dict _ => "dict"
def TyT : D → String → Prop
  | .dat (.list _), _ => False
  | .dat p, T => T = tyP p
  | .lst _ _, T => T = "list"
  | .lsD _ _, T => T = "list"
  | _, _ => False
theorem ty_rep {H : Hp} {t : D} {v : V} {T : String} (r : RepD K H t v) (h : TyT t T) : TyX K.K H v (.type T) := by
  cases t with
  | dat p =>
    cases p with
    | none => obtain rfl := h; obtain rfl := r; exact .base .non
    | bool b => obtain rfl := h; obtain rfl := r; exact .base (.bl b)
    | int b => obtain rfl := h; obtain rfl := r; exact .base (.int b)
    | str b => obtain rfl := h; obtain rfl := r; exact .base (.str b)
    | tuple b => obtain rfl := h; obtain ⟨a, xs, e, ⟨o, _, h1⟩, _⟩ := r; subst e; exact .fTuple h1
    | list b => exact h.elim
    | dict b => exact r.elim
  | lst a xs => obtain rfl := h; obtain ⟨e, zs, h1, _⟩ := r; subst e; exact .base (.lst h1)
  | lsD a xs => obtain rfl := h; obtain ⟨e, zs, h1, _⟩ := r; subst e; exact .base (.lst h1)
  | _ => exact h.elim
def isB (S T : String) : Bool := S == T || (S == "bool" && T == "int")
theorem isB_kit : ∀ S ∈ ["NoneType", "bool", "int", "str", "tuple", "list"], ∀ T ∈ ["bool", "int", "str", "tuple", "list"], kitB S T = some (isB S T) := by decide +kernel
def sIsi : ASem := fun as ds Q => ∃ x T t S, as = [x, .raw (.ty T)] ∧ See ds x t ∧ TyT t S ∧ kitB S T = some (isB S T) ∧ Q (.dat (.bool (isB S T))) ds
theorem sem_isi : SemA K sIsi (rIsi K.K) := by
  intro H0 f0 H σ ds ws vs as es Qd Q C hl ⟨x, T, t, S, e, s, ht, hk, q⟩ k
  subst e
  obtain ⟨v, w, rfl⟩ : ∃ v w, ws = [v, w] := by
    match ws, hl with
    | [v, w], _ => exact ⟨v, w, rfl⟩
  have C2 : Cfg K H0 f0 H σ ds (v :: w :: vs) (x :: .raw (.ty T) :: es) := C
  obtain rfl : w = .ty T := C2.pop.top
  exact ⟨v, .ty T, .type S, .type T, isB S T, rfl, .ty T, ty_rep (s.rep C2 C2.top) ht, kit_ty hk, k _ _ _ _ (C2.pop.pop.push (d := .dat (.bool _)) rfl fun _ => rfl) q⟩
end
end PD
set_option Elab.async false
set_option linter.all false
set_option maxRecDepth 100000
set_option maxHeartbeats 2000000
/-! PD, fifth part: targets, what is walked, for, comprehensions, the other statements. -/
namespace PD
open PySem L2
/-! ### targets -/
abbrev TGP := D → PSt → (PSt → Prop) → Prop
abbrev TGPs := List D → PSt → (PSt → Prop) → Prop
/-- the slots at js alone are stored -/
def Keeps (js : List Nat) (σ σ' : St) : Prop := ∀ own : List Nat, (∀ j ∈ js, j ∈ own) → wipe σ' own = wipe σ own
def liftG (K : KW) (js : List Nat) (g : TGP) : TG := fun v σ H Q => ∃ H0 f0 ds vs es d Qd, Cfg K H0 f0 H σ ds (v :: vs) (d :: es) ∧ g d ds Qd ∧ ∀ σ' H' ds', Keeps js σ σ' → Cfg K H0 f0 H' σ' ds' vs es → Qd ds' → Q σ' H'
def liftGs (K : KW) (js : List Nat) (g : TGPs) : TGs := fun ws σ H Q => ∃ H0 f0 ds vs es as Qd, Cfg K H0 f0 H σ ds (ws ++ vs) (as ++ es) ∧ as.length = ws.length ∧ g as ds Qd ∧ ∀ σ' H' ds', Keeps js σ σ' → Cfg K H0 f0 H' σ' ds' vs es → Qd ds' → Q σ' H'
def PGd (X : Cx) (tg : Expr) (js : List Nat) (g : TGP) : Prop := PG X tg (liftG (kw X) js g)
def PGsd (X : Cx) (tgs : List Expr) (js : List Nat) (g : TGPs) : Prop := PGs X tgs (liftGs (kw X) js g)
theorem wipe_comm (σ : St) (i : Nat) : ∀ r : List Nat, (wipe σ r).set i none = wipe (σ.set i none) r
  | [] => rfl
  | j :: r => by
    show ((wipe σ r).set j none).set i none = (wipe (σ.set i none) r).set j none
    rw [← wipe_comm σ i r]
    by_cases h : i = j
    · subst h; rfl
    · rw [List.set_comm _ _ h]
theorem wipe_set {σ : St} {i : Nat} {o : Option V} : ∀ {r : List Nat}, i ∈ r → wipe (σ.set i o) r = wipe σ r
  | [], h => by cases h
  | j :: r, h => by
    show (wipe (σ.set i o) r).set j none = (wipe σ r).set j none
    by_cases e : i = j
    · subst e
      rw [wipe_comm, wipe_comm, List.set_set]
    · rw [wipe_set (List.mem_of_ne_of_mem e h)]
theorem Keeps.refl (js : List Nat) (σ : St) : Keeps js σ σ := fun _ _ => rfl
theorem Keeps.trans {js ks : List Nat} {σ σ' σ2 : St} (a : Keeps js σ σ') (b : Keeps ks σ' σ2) : Keeps (js ++ ks) σ σ2 := fun own h =>
  (b own fun j hj => h j (List.mem_append_right _ hj)).trans (a own fun j hj => h j (List.mem_append_left _ hj))
theorem Keeps.set (i : Nat) (σ : St) (o : Option V) : Keeps [i] σ (σ.set i o) := fun own h => wipe_set (h i List.mem_cons_self)
theorem pg_imp {X : Cx} {tg : Expr} {g g' : TG} (h : PG X tg g) (k : ∀ v σ H Q, g' v σ H Q → g v σ H Q) : PG X tg g' := ⟨fun pins s σ H v u Q I r q => h.run pins s σ H v u Q I r (k _ _ _ _ q)⟩
theorem pgs_imp {X : Cx} {tg : List Expr} {g g' : TGs} (h : PGs X tg g) (k : ∀ v σ H Q, g' v σ H Q → g v σ H Q) : PGs X tg g' := ⟨fun pins s σ H v u Q I r q => h.run pins s σ H v u Q I r (k _ _ _ _ q)⟩
def gN (i : Nat) : TGP := fun d ds Q => Q (ds.set i (some d))
def gsNil : TGPs := fun as ds Q => as = [] ∧ Q ds
def gsCons (g : TGP) (r : TGPs) : TGPs := fun as ds Q => ∃ d t, as = d :: t ∧ g d ds fun ds1 => r t ds1 Q
/-- the parts of what is unpacked -/
def parts : D → List D
  | .dat (.tuple ps) => ps.map .dat
  | .tpD xs => xs
  | .pr p q => [.dat p, .dat q]
  | _ => []
def isTup : D → Bool
  | .dat (.tuple _) => true
  | .tpD _ => true
  | .pr _ _ => true
  | _ => false
def gT (n : Nat) (g : TGPs) : TGP := fun d ds Q => isTup d = true ∧ (parts d).length = n ∧ g (parts d) ds Q
section
variable {X : Cx} {K : KW} {pos : Pos}
theorem dg_name {i : Nat} {x : Str} (hN : X.N.Nodup) (hi : X.N[i]? = some x) (hx : Loc X.env.scope x) (hf : X.fn x = true ∨ X.env.scope.names.lookup x = some .local := by first | exact .inl rfl | exact .inr rfl | assumption) : PGd X (.Name x pos) [i] (gN i) :=
  pg_imp (pg_name hN hi hx hf) fun v σ H Q ⟨H0, f0, ds, vs, es, d, Qd, C, q, k⟩ => k _ _ _ (Keeps.set i σ _) (C.set i) q
theorem dgs_nil : PGsd X [] [] gsNil := pgs_imp pgs_nil fun ws σ H Q ⟨H0, f0, ds, vs, es, as, Qd, C, hl, ⟨e, q⟩, k⟩ => by
  subst e
  cases ws with
  | nil => exact ⟨rfl, k _ _ _ (Keeps.refl _ _) C q⟩
  | cons _ _ => cases hl
theorem dgs_cons {e : Expr} {l : List Expr} {js ks : List Nat} {g : TGP} {r : TGPs} (h1 : PGd X e js g) (h2 : PGsd X l ks r)
    (hs : (assignEach (e :: l) X.env).map (·.2) = assign e X.env :: (assignEach l X.env).map (·.2) := by rfl) : PGsd X (e :: l) (js ++ ks) (gsCons g r) :=
  pgs_imp (pgs_cons h1 h2 hs) fun ws σ H Q ⟨H0, f0, ds, vs, es, as, Qd, C, hl, ⟨d, t, e, q⟩, k⟩ => by
    subst e
    cases ws with
    | nil => cases hl
    | cons v ws =>
      exact ⟨v, ws, rfl, H0, f0, ds, ws ++ vs, t ++ es, d, _, C, q, fun σ' H' ds' kp C' q' => ⟨H0, f0, ds', vs, es, t, _, C', by simpa using hl, q', fun σ2 H2 ds2 kp2 => k σ2 H2 ds2 (kp.trans kp2)⟩⟩
theorem RepDs.of_dats {H : Hp} : ∀ {ps : List PyData} {vs : List V}, RepPs K H ps vs → RepDs K H (ps.map D.dat) vs
  | [], _, h => h
  | p :: ps, _, ⟨v, r, e, h1, h2⟩ => ⟨v, r, e, h1, RepDs.of_dats h2⟩
theorem cDs_dats (b : Addr) : ∀ ps : List PyData, cDs b (ps.map D.dat) = 0
  | [] => rfl
  | p :: ps => by show 0 + cDs b (ps.map D.dat) = 0; rw [cDs_dats b ps]
theorem Cfg.unpack {H0 H : Hp} {f0 : Addr → Prop} {σ : St} {ds : PSt} {vs : List V} {es : List D} {v : V} {d : D} (C : Cfg K H0 f0 H σ ds (v :: vs) (d :: es)) (h : isTup d = true) :
    ∃ a ws, v = .ref a ∧ SqT K.K H a ws ∧ (parts d).length = ws.length ∧ Cfg K H0 f0 H σ ds (ws ++ vs) (parts d ++ es) := by
  have C0 := C.pop
  have go : ∀ (ws : List V), RepDs K H (parts d) ws → (∀ b, cDs b (parts d) = cD b d) → Cfg K H0 f0 H σ ds (ws ++ vs) (parts d ++ es) := fun ws r c =>
    ⟨C.sl, r.append C0.tm, fun b => by have h1 : cS b ds + (cD b d + cDs b es) ≤ 1 := C.nd b; rw [cDs_append, c]; omega,
      fun b h => C.fr b (by rw [cDs_append, c] at h; show 1 ≤ cS b ds + (cD b d + cDs b es); omega), C.kp⟩
  cases d with
  | dat p =>
    cases p with
    | tuple ps =>
      obtain ⟨a, ws, e, h1, h2⟩ := C.top
      exact ⟨a, ws, e, h1.sq, by show (ps.map D.dat).length = _; rw [List.length_map]; exact h2.len, go ws (RepDs.of_dats h2) (fun b => cDs_dats b ps)⟩
    | _ => cases h
  | tpD xs =>
    obtain ⟨a, ws, e, h1, h2⟩ := C.top
    exact ⟨a, ws, e, h1.sq, h2.len, go ws h2 (fun b => rfl)⟩
  | pr p q =>
    obtain ⟨a, x, y, e, h0, h1, h2⟩ := C.top
    exact ⟨a, [x, y], e, SqT.of h0, rfl, go [x, y] ⟨x, [y], rfl, h1, y, [], rfl, h2, rfl⟩ (fun b => rfl)⟩
  | _ => cases h
theorem dg_tup {l : List Expr} {k : Nat} {js : List Nat} {g : TGPs} {n : Nat} (hc : X.calm = true) (h : PGsd X l js g)
    (hn : (assignEach l X.env).length = n := by rfl) (hst : (assignEach l X.env).findIdx? (·.1) = none := by rfl) : PGd X (.Tuple l k pos) js (gT n g) :=
  pg_imp (pg_tup hc h hn hst) fun v σ H Q ⟨H0, f0, ds, vs, es, d, Qd, C, ⟨ht, hl, q⟩, k⟩ => by
    obtain ⟨a, ws, e, h1, h2, C'⟩ := C.unpack ht
    exact ⟨a, ws, e, h1, by rw [← h2, hl], H0, f0, ds, vs, es, _, _, C', h2, q, k⟩
end

/-! ### what is walked -/
structure WalkD (K : KW) (H0 : Hp) (f0 : Addr → Prop) (J : It) (ws : List V) (as : List D) (items : List D) (ok : PSt → Prop) : Prop where
  go : ∀ i σ H ds vs es, i < items.length → Cfg K H0 f0 H σ ds (ws ++ vs) (as ++ es) → ok ds → J.go i H
  stop : ∀ σ H ds vs es, Cfg K H0 f0 H σ ds (ws ++ vs) (as ++ es) → ok ds → J.stop items.length H
  yld : ∀ i σ H ds vs es x H' p, items[i]? = some p → Cfg K H0 f0 H σ ds (ws ++ vs) (as ++ es) → ok ds → J.yld i H x H' → Cfg K H0 f0 H' σ ds (x :: (ws ++ vs)) (p :: (as ++ es))
abbrev TIP := PSt → (List D → (PSt → Prop) → PSt → Prop) → Prop
def liftI (K : KW) (t : TIP) : TI := fun σ H R => ∃ H0 f0 ds vs es Rd, Cfg K H0 f0 H σ ds vs es ∧ t ds Rd ∧
  ∀ J H' ds' ws as items ok, Cfg K H0 f0 H' σ ds' (ws ++ vs) (as ++ es) → as.length = ws.length → WalkD K H0 f0 J ws as items ok → Rd items ok ds' → R J H'
def PId (X : Cx) (tg e : Expr) (t : TIP) : Prop := PI X tg e (liftI (kw X) t)
theorem pi_imp {X : Cx} {tg e : Expr} {t u : TI} (h : PI X tg e t) (k : ∀ σ H R, u σ H R → t σ H R) : PI X tg e u := ⟨fun pins s σ H R I q => h.run pins s σ H R I (k _ _ _ q)⟩
/-- a list or a tuple, by its value -/
def iSq (K : PySem.W.Frag) (tl : TE) : TI := fun σ H R => tl σ H fun x H1 => ∃ a, x = .ref a ∧ ((∃ xs, SqL K H1 a xs ∧ R (Itl K a) H1) ∨ (∃ xs, SqT K H1 a xs ∧ R (Itt K a) H1))
theorem newIter {X : Cx} {pins : List (Addr × Obj)} {σ : St} {H : Hp} {s : Shared} {tg : Expr} {R : It → Hp → Prop} {J : It} {tn : Nat → Heap → Prop} {E : Value → Shared → Prop} (I : Inv X pins σ H s) (o : Obj)
    (T : Turn X.prog X.w X.K tg J [s.heap.objs.size] s.heap.objs.size tn) (h0 : tn 0 (s.heap.push o)) (q : R J H) : PIE X pins σ tg R (.ref s.heap.objs.size) { s with heap := s.heap.push o } :=
  ⟨s.heap.objs.size, [s.heap.objs.size], tn, J, H, rfl, I.kept (t' := s.toks) (fun b u e => Heap.get?_push_of_some _ e), T, h0, fun b hb => by
    obtain rfl : b = s.heap.objs.size := by simpa using hb
    exact I.fpOk (Nat.le_refl _) (I.hok.fresh (Nat.le_refl _)), q⟩
theorem pi_sq {X : Cx} {tg l : Expr} {tl : TE} (hl : PE X l tl) : PI X tg l (iSq X.K tl) := by
  refine ⟨fun pins s σ H R I h => thn (hl.run pins s σ H _ I h) fun v s1 ⟨x, H1, I1, r1, a, e, q⟩ => ?_⟩
  subst e
  obtain rfl : v = .ref a := r1
  rcases q with ⟨xs, hq, q⟩ | ⟨xs, hq, q⟩
  · obtain ⟨its, rv, p, hz⟩ := I1.list hq
    exact wpAny_pyIter_list p.isList (newIter (E := X.xe) I1 _ (turn_list a _) ⟨_, Heap.get?_push_size _ rfl, rfl, rfl⟩ q)
  · obtain ⟨its, rv, p, hz⟩ := I1.tuple hq
    have p' : s1.heap.IsTuple a its.toArray := p
    exact wpAny_pyIter_tuple p' (newIter (E := X.xe) I1 _ (turn_tuple a _) ⟨_, Heap.get?_push_size _ rfl, rfl, rfl⟩ q)
def iSeq (te : TEP) : TIP := fun ds R => te ds fun x ds1 => ∃ t xs, See ds1 x t ∧ ItemsT t xs ∧ R (xs.map .dat) (fun ds2 => See ds2 x t) ds1
section
variable {X : Cx} {K : KW} {e a b : Expr} {te ta tb : TEP} {tg : Expr} {pos p : Pos}
theorem walk_items_of {H0 : Hp} {f0 : Addr → Prop} {x t : D} {v : V} {xs : List PyData} {J : It} {c : Addr}
    (hs : ∀ H, RepD K H t v → ∃ zs, v = .ref c ∧ RepPs K H xs zs ∧ Walk J zs.length (fun H' => H' = H) (YAt zs)) : WalkD K H0 f0 J [v] [x] (xs.map .dat) (fun ds => See ds x t) := by
  refine ⟨fun i σ H ds vs es hi C ok => ?_, fun σ H ds vs es C ok => ?_, fun i σ H ds vs es y H' d hd C ok hy => ?_⟩
  · obtain ⟨zs, _, r, w⟩ := hs H (ok.rep C C.top)
    exact w.goes i H (by rw [← r.len]; simpa using hi) rfl
  · obtain ⟨zs, _, r, w⟩ := hs H (ok.rep C C.top)
    rw [List.length_map, r.len]
    exact w.stops H rfl
  · obtain ⟨zs, _, r, w⟩ := hs H (ok.rep C C.top)
    rw [List.getElem?_map] at hd
    cases e : xs[i]? with
    | none => rw [e] at hd; cases hd
    | some q =>
      rw [e] at hd
      cases hd
      obtain ⟨z, h1, h2⟩ := r.get e
      obtain ⟨e1, e2⟩ := w.yields i H y H' (List.getElem?_eq_some_iff.mp h1).1 rfl hy
      subst e1
      rw [h1] at e2
      cases e2
      exact C.push h2 fun _ => rfl
theorem di_seq (h : PEd X e te) : PId X tg e (iSeq te) :=
  pi_imp (pi_sq h) fun σ H R ⟨H0, f0, ds, vs, es, Rd, C, q, k⟩ => ⟨H0, f0, ds, vs, es, _, C, q, fun v x H1 ds1 C1 ⟨t, xs, s, hi, q1⟩ => by
    have r := s.rep C1 C1.top
    cases t with
    | lst a ys =>
      obtain rfl := hi
      obtain ⟨e, zs, h1, _⟩ := r
      subst e
      refine ⟨a, rfl, .inl ⟨zs, SqL.of h1, k (Itl X.K a) H1 ds1 [.ref a] [x] _ _ C1 rfl ?_ q1⟩⟩
      refine walk_items_of (c := a) (t := .lst a xs) fun H2 r2 => ?_
      obtain ⟨e2, zs2, h3, h4⟩ := r2
      exact ⟨zs2, rfl, h4, walk_list.mono (fun H' hh => by rw [hh]; exact SqL.of h3) fun _ _ _ _ _ _ y => y⟩
    | dat p =>
      cases p with
      | list ys =>
        obtain rfl := hi
        obtain ⟨a, zs, e, h1, _⟩ := r
        subst e
        refine ⟨a, rfl, .inl ⟨zs, h1.sq, k (Itl X.K a) H1 ds1 [.ref a] [x] _ _ C1 rfl ?_ q1⟩⟩
        refine walk_items_of (c := a) (t := .dat (.list xs)) fun H2 r2 => ?_
        obtain ⟨a2, zs2, e2, h3, h4⟩ := r2
        cases e2
        exact ⟨zs2, rfl, h4, walk_list.mono (fun H' hh => by rw [hh]; exact h3.sq) fun _ _ _ _ _ _ y => y⟩
      | tuple ys =>
        obtain rfl := hi
        obtain ⟨a, zs, e, h1, _⟩ := r
        subst e
        refine ⟨a, rfl, .inr ⟨zs, h1.sq, k (Itt X.K a) H1 ds1 [.ref a] [x] _ _ C1 rfl ?_ q1⟩⟩
        refine walk_items_of (c := a) (t := .dat (.tuple xs)) fun H2 r2 => ?_
        obtain ⟨a2, zs2, e2, h3, h4⟩ := r2
        cases e2
        exact ⟨zs2, rfl, h4, walk_tup.mono (fun H' hh => by rw [hh]; exact h3.sq) fun _ _ _ _ _ _ y => y⟩
      | _ => exact hi.elim
    | _ => exact hi.elim⟩
/-- lo, lo + 1, .. -/
def upto (lo : Int) (n : Nat) : List Int := (List.range n).map fun i => lo + (i : Nat)
theorem upto_len (lo : Int) (n : Nat) : (upto lo n).length = n := by unfold upto; rw [List.length_map, List.length_range]
theorem upto_get {lo : Int} {n i : Nat} {d : D} (h : ((upto lo n).map fun j => D.dat (.int j))[i]? = some d) : i < n ∧ d = .dat (.int (lo + (i : Nat))) := by
  unfold upto at h
  rw [List.getElem?_map, List.getElem?_map] at h
  by_cases hi : i < n
  · rw [List.getElem?_range hi] at h
    exact ⟨hi, (Option.some.inj h).symm⟩
  · rw [List.getElem?_eq_none (by rw [List.length_range]; omega)] at h
    cases h
theorem walk_upto {H0 : Hp} {f0 : Addr → Prop} {lo : Int} {n : Nat} : WalkD K H0 f0 (Itr lo n) [] [] ((upto lo n).map fun j => .dat (.int j)) (fun _ => True) := by
  refine ⟨fun i σ H ds vs es hi C ok => ?_, fun σ H ds vs es C ok => ?_, fun i σ H ds vs es y H' d hd C ok hy => ?_⟩
  · rw [List.length_map, upto_len] at hi; exact hi
  · rw [List.length_map, upto_len]; exact Nat.le_refl _
  · obtain ⟨hi, rfl⟩ := upto_get hd
    obtain ⟨e1, e2⟩ := hy
    subst e1 e2
    exact C.push (d := .dat (.int _)) rfl fun _ => rfl
def iRg1 (t : TAP) : TIP := fun ds R => t ds fun as ds1 => ∃ n : Int, as = [.dat (.int n)] ∧ (n < 2 ^ 62 ∧ -(2 ^ 62) ≤ n) ∧ R ((upto 0 n.toNat).map fun j => .dat (.int j)) (fun _ => True) ds1
def iRg2 (t : TAP) : TIP := fun ds R => t ds fun as ds1 => ∃ m n : Int, as = [.dat (.int m), .dat (.int n)] ∧ (-(2 ^ 62) ≤ m ∧ m < 2 ^ 62 ∧ -(2 ^ 62) ≤ n ∧ n < 2 ^ 62) ∧ R ((upto m (n - m).toNat).map fun j => .dat (.int j)) (fun _ => True) ds1
theorem di_rg1 {t : TAP} (hg : Gl X "range") (hm : X.mg "range" = none) (ha : PAd X [a] t) (hs : starEach [a] X.env = [(false, eval a X.env)] := by rfl) : PId X tg (.Call (.Name "range" p) [a] [] pos) (iRg1 t) :=
  pi_imp (pi_range1 hg hm ha hs) fun σ H R ⟨H0, f0, ds, vs, es, Rd, C, q, k⟩ => ⟨H0, f0, ds, vs, es, _, C, q, fun ws as H1 ds1 C1 hl ⟨n, e, hb, q1⟩ => by
    subst e
    match ws, hl with
    | [w], _ =>
      obtain rfl : w = .int n := C1.top
      exact ⟨n, rfl, hb.2, hb.1, k _ _ _ [] [] _ _ (C1.drop (ws := [_]) (as := [_]) rfl) rfl walk_upto q1⟩⟩
theorem di_rg2 {t : TAP} (hg : Gl X "range") (hm : X.mg "range" = none) (ha : PAd X [a, b] t) (hs : starEach [a, b] X.env = [(false, eval a X.env), (false, eval b X.env)] := by rfl) (hs2 : starEach [b] X.env = [(false, eval b X.env)] := by rfl) :
    PId X tg (.Call (.Name "range" p) [a, b] [] pos) (iRg2 t) :=
  pi_imp (pi_range2 hg hm ha hs hs2) fun σ H R ⟨H0, f0, ds, vs, es, Rd, C, q, k⟩ => ⟨H0, f0, ds, vs, es, _, C, q, fun ws as H1 ds1 C1 hl ⟨m, n, e, hb, q1⟩ => by
    subst e
    match ws, hl with
    | [w, u], _ =>
      have C2 : Cfg (kw X) H0 f0 H1 σ ds1 (w :: u :: vs) (.dat (.int m) :: .dat (.int n) :: es) := C1
      obtain rfl : w = .int m := C2.top
      obtain rfl : u = .int n := C2.pop.top
      exact ⟨m, n, rfl, hb, k _ _ _ [] [] _ _ C2.pop.pop rfl walk_upto q1⟩⟩
end
/-! ### for, while -/
def tForD (ti : TIP) (g : TGP) (tb : TSP) : TSP := fun E ds => ti ds fun items ok ds1 => ∃ Iv : Nat → PSt → Prop, Iv 0 ds1 ∧ (∀ i ds, i ≤ items.length → Iv i ds → ok ds) ∧
  (∀ i p ds, items[i]? = some p → Iv i ds → g p ds fun ds2 => tb ⟨Iv (i + 1), E.rt, E.nx, Iv (i + 1)⟩ ds2) ∧ ∀ ds, Iv items.length ds → E.nx ds
def tWhileD (c : TTP) (tb : TSP) : TSP := fun E ds => ∃ Iv : Nat → PSt → Prop, (∃ m, Iv m ds) ∧ ∀ m ds, Iv m ds → c ds fun b ds1 => if b = true then tb ⟨fun ds' => ∃ m', m' < m ∧ Iv m' ds', E.rt, E.nx, fun ds' => ∃ m', m' < m ∧ Iv m' ds'⟩ ds1 else E.nx ds1
section
variable {X : Cx} {K : KW} {tg iter c : Expr} {body rest : List Stmt} {ti : TIP} {g : TGP} {js : List Nat} {tb tu : TSP} {tc : TTP} {pos : Pos}
theorem LS.sub {K : KW} {H0 : Hp} {f0 : Addr → Prop} {vs ws : List V} {es as : List D} {E : PEnds} {D' : Ends} (L : LS K H0 f0 vs es E D') (hl : as.length = ws.length) : LS K H0 f0 (ws ++ vs) (as ++ es) E D' where
  nx := fun σ H ds C q => L.nx σ H ds (C.drop hl) q
  bk := fun σ H ds C q => L.bk σ H ds (C.drop hl) q
  ct := fun σ H ds C q => L.ct σ H ds (C.drop hl) q
  rt := fun σ H ds v d C q => L.rt σ H ds v d (by
    have C' : Cfg K H0 f0 H σ ds ((v :: ws) ++ vs) ((d :: as) ++ es) := C
    obtain ⟨h1, h2⟩ := RepDs.split (as := d :: as) (ws := v :: ws) (by simp [hl]) C'.tm
    obtain ⟨w, r, e, h3, _⟩ := h1
    cases e
    exact ⟨C'.sl, ⟨_, _, rfl, h3, h2⟩, fun b => by have h4 := C'.nd b; rw [cDs_append] at h4; have h5 : cS b ds + ((cD b d + cDs b as) + cDs b es) ≤ 1 := h4; show cS b ds + (cD b d + cDs b es) ≤ 1; omega,
      fun b h => C'.fr b (by rw [cDs_append]; have h5 : 1 ≤ cS b ds + (cD b d + cDs b es) := h; show 1 ≤ cS b ds + ((cD b d + cDs b as) + cDs b es); omega), C'.kp⟩) q
theorem ds_for (hp : PassesOwn (model X.prog X.w) X.A X.env X.xe) (hc : X.calm = true) (hi : PId X tg iter ti) (hg : PGd X tg js g) (hb : PSsd X body tb) (hs : ∀ x, foldedSetIterable iter X.env x = pure x := by intro _; rfl) :
    PSd X (.For tg iter body [] pos) (tForD ti g tb) :=
  ps_imp (ps_for hp hc hi hg hb hs) fun D' σ H ⟨H0, f0, ds, vs, es, E, C, q, L⟩ => ⟨H0, f0, ds, vs, es, _, C, q, fun J H1 ds1 ws as items ok C1 hl W ⟨Iv, h0, hok, hstep, hend⟩ => by
    have L' := L.sub hl
    refine ⟨fun i m σ H => m = items.length - i ∧ i ≤ items.length ∧ ∃ ds, Cfg (kw X) H0 f0 H σ ds (ws ++ vs) (as ++ es) ∧ Iv i ds, ⟨_, rfl, Nat.zero_le _, ds1, C1, h0⟩, ?_⟩
    rintro i m σ2 H2 ⟨rfl, hle, ds2, C2, iv⟩
    have o := hok i ds2 hle iv
    by_cases hlt : i < items.length
    · refine .inr ⟨W.go i σ2 H2 ds2 vs es hlt C2 o, fun σ' H' => ∃ ds', Cfg (kw X) H0 f0 H' σ' ds' (ws ++ vs) (as ++ es) ∧ Iv (i + 1) ds', fun σ' H' ⟨ds', C', iv'⟩ => ⟨_, by omega, rfl, hlt, ds', C', iv'⟩, fun x H' y => ?_⟩
      obtain ⟨p, hpp⟩ : ∃ p, items[i]? = some p := ⟨items[i], by simp [hlt]⟩
      exact ⟨H0, f0, ds2, _, _, p, _, W.yld i σ2 H2 ds2 vs es x H' p hpp C2 o y, hstep i p ds2 hpp iv, fun σ3 H3 ds3 _ C3 q3 =>
        ⟨H0, f0, ds3, _, _, _, C3, q3, ⟨fun _ _ ds' C' iv' => ⟨ds', C', iv'⟩, fun σ H ds C q => L'.nx σ H ds C q, fun _ _ ds' C' iv' => ⟨ds', C', iv'⟩, L'.rt⟩⟩⟩
    · obtain rfl : i = items.length := by omega
      exact .inl ⟨W.stop σ2 H2 ds2 vs es C2 o, L'.nx σ2 H2 ds2 C2 (hend ds2 iv)⟩⟩
theorem ds_while (hp : PassesOwn (model X.prog X.w) X.A X.env X.xe) (hc : PTd X c tc) (hb : PSsd X body tb) : PSd X (.While c body [] pos) (tWhileD tc tb) :=
  ps_imp (ps_while hp hc hb) fun D' σ H ⟨H0, f0, ds, vs, es, E, C, ⟨Iv, ⟨m0, h0⟩, hstep⟩, L⟩ => by
    refine ⟨fun m σ H => ∃ ds, Cfg (kw X) H0 f0 H σ ds vs es ∧ Iv m ds, ⟨m0, ds, C, h0⟩, ?_⟩
    rintro m σ2 H2 ⟨ds2, C2, iv⟩
    refine ⟨H0, f0, ds2, vs, es, _, C2, hstep m ds2 iv, fun b H3 ds3 C3 q3 => ?_⟩
    cases b with
    | true => exact ⟨_, fun σ' H' n => n, H0, f0, ds3, vs, es, _, C3, q3, ⟨fun σ' H' ds' C' ⟨m', hm, iv'⟩ => ⟨m', hm, ds', C', iv'⟩, fun σ H ds C q => L.nx σ H ds C q, fun σ' H' ds' C' ⟨m', hm, iv'⟩ => ⟨m', hm, ds', C', iv'⟩, L.rt⟩⟩
    | false => exact L.nx σ2 H3 ds3 C3 q3

/-! ### small statements, blocks -/
variable {st : Stmt} {t u : TSP} {e : Expr} {te : TEP}
def tNextD : TSP := fun E ds => E.nx ds
def tSeqD (t u : TSP) : TSP := fun E ds => t ⟨fun ds1 => u E ds1, E.rt, E.bk, E.ct⟩ ds
theorem dss_nil : PSsd X [] tNextD := pss_imp pss_nil fun D' σ H ⟨H0, f0, ds, vs, es, E, C, q, L⟩ => L.nx σ H ds C q
theorem dss_cons (h1 : PSd X st t) (h2 : PSsd X rest u) : PSsd X (st :: rest) (tSeqD t u) :=
  pss_imp (pss_cons h1 h2) fun D' σ H ⟨H0, f0, ds, vs, es, E, C, q, L⟩ => ⟨H0, f0, ds, vs, es, _, C, q, ⟨fun σ1 H1 ds1 C1 q1 => ⟨H0, f0, ds1, vs, es, E, C1, q1, L⟩, L.bk, L.ct, L.rt⟩⟩
theorem dss_one (h1 : PSd X st t) : PSsd X [st] t := pss_one h1
def tBreakD : TSP := fun E ds => E.bk ds
def tContD : TSP := fun E ds => E.ct ds
theorem ds_pass : PSd X (.Pass pos) tNextD := ps_imp ps_pass fun D' σ H ⟨H0, f0, ds, vs, es, E, C, q, L⟩ => L.nx σ H ds C q
theorem ds_break : PSd X (.Break pos) tBreakD := ps_imp ps_break fun D' σ H ⟨H0, f0, ds, vs, es, E, C, q, L⟩ => L.bk σ H ds C q
theorem ds_cont : PSd X (.Continue pos) tContD := ps_imp ps_continue fun D' σ H ⟨H0, f0, ds, vs, es, E, C, q, L⟩ => L.ct σ H ds C q
def tDropD (te : TEP) : TSP := fun E ds => te ds fun _ ds1 => E.nx ds1
theorem ds_expr (he : PEd X e te) (hs : swapsWith e none pos.line X.env = pure false := by rfl) : PSd X (.Expr e pos) (tDropD te) :=
  ps_imp (ps_expr he hs) fun D' σ H ⟨H0, f0, ds, vs, es, E, C, q, L⟩ => ⟨H0, f0, ds, vs, es, _, C, q, fun v d H1 ds1 C1 q1 => L.nx σ H1 ds1 C1.pop q1⟩
def tRetD (te : TEP) : TSP := fun E ds => te ds fun d ds1 => E.rt d ds1
theorem ds_ret (he : PEd X e te) : PSd X (.Return (some e) pos) (tRetD te) :=
  ps_imp (ps_ret he) fun D' σ H ⟨H0, f0, ds, vs, es, E, C, q, L⟩ => ⟨H0, f0, ds, vs, es, _, C, q, fun v d H1 ds1 C1 q1 => L.rt σ H1 ds1 v d C1 q1⟩
/-- the tree in a slot is handed over -/
def eOut (i : Nat) : TEP := fun ds Q => ∃ d, ds[i]? = some (some d) ∧ Q d (ds.set i none)
def tRetND : TSP := fun E ds => E.rt (.dat .none) ds
theorem ds_retN : PSd X (.Return none pos) tRetND := ps_imp ps_retN fun D' σ H ⟨H0, f0, ds, vs, es, E, C, q, L⟩ => L.rt σ H ds .non (.dat .none) (C.push (d := .dat .none) rfl fun _ => rfl) q
def tIfD (c : TTP) (t u : TSP) : TSP := fun E ds => c ds fun b ds1 => if b = true then t E ds1 else u E ds1
theorem ds_if {a b : List Stmt} (hc : PTd X c tc) (ha : PSsd X a t) (hb : PSsd X b u) : PSd X (.If c a b pos) (tIfD tc t u) :=
  ps_imp (ps_if hc ha hb) fun D' σ H ⟨H0, f0, ds, vs, es, E, C, q, L⟩ => ⟨H0, f0, ds, vs, es, _, C, q, fun b H1 ds1 C1 q1 => by
    cases b with
    | true => exact ⟨H0, f0, ds1, vs, es, E, C1, q1, L⟩
    | false => exact ⟨H0, f0, ds1, vs, es, E, C1, q1, L⟩⟩
def tNeverD : TSP := fun _ _ => False
theorem ds_never : PSd X st tNeverD := ps_imp ps_never fun D' σ H ⟨H0, f0, ds, vs, es, E, C, q, L⟩ => q
theorem dss_never {l : List Stmt} : PSsd X l tNeverD := pss_imp pss_never fun D' σ H ⟨H0, f0, ds, vs, es, E, C, q, L⟩ => q
def tAsgD (te : TEP) (g : TGP) : TSP := fun E ds => te ds fun d ds1 => g d ds1 E.nx
theorem ds_set {i : Nat} {x : Str} {pos' : Pos} (hN : X.N.Nodup) (hi : X.N[i]? = some x) (hx : Loc X.env.scope x) (he : PEd X e te) (hs : swapsWith e (some (.Name x pos')) pos.line X.env = pure false := by rfl) (hf : X.fn x = true ∨ X.env.scope.names.lookup x = some .local := by first | exact .inl rfl | exact .inr rfl | assumption) :
    PSd X (.Assign [.Name x pos'] e pos) (tAsgD te (gN i)) :=
  ps_imp (ps_set hN hi hx he hs hf) fun D' σ H ⟨H0, f0, ds, vs, es, E, C, q, L⟩ => ⟨H0, f0, ds, vs, es, _, C, q, fun v d H1 ds1 C1 q1 => L.nx _ H1 _ (C1.set i) q1⟩
theorem ds_asg (he : PEd X e te) (hg : PGd X tg js g) (hs : swapsWithSole [tg] e pos.line X.env = pure false := by rfl) (hw : swappedStores [tg] e X.env = pure none := by rfl)
    (h1 : (assignEach [tg] X.env).map (·.2) = [assign tg X.env] := by rfl) : PSd X (.Assign [tg] e pos) (tAsgD te g) :=
  ps_imp (ps_asg he hg hs hw h1) fun D' σ H ⟨H0, f0, ds, vs, es, E, C, q, L⟩ => ⟨H0, f0, ds, vs, es, _, C, q, fun v d H1 ds1 C1 q1 => ⟨H0, f0, ds1, vs, es, d, _, C1, q1, fun σ2 H2 ds2 _ C2 q2 => L.nx σ2 H2 ds2 C2 q2⟩⟩
/-- a, b = x, y of plain local names -/
def tParD (i j : Nat) (t : TAP) : TSP := fun E ds => t ds fun as ds1 => ∃ a b, as = [a, b] ∧ E.nx ((ds1.set j (some b)).set i (some a))
theorem ds_par {i j : Nat} {x y : Str} {a b : Expr} {ta : TAP} {px py pt : Pos} {kt k2 pt2} (hc : X.calm = true) (hN : X.N.Nodup) (hi : X.N[i]? = some x) (hj : X.N[j]? = some y) (hij : i ≠ j)
    (hx : X.env.scope.names.lookup x = some .local) (hy : X.env.scope.names.lookup y = some .local) (ha : PAd X [a, b] ta)
    (hw : swappedStores [.Tuple [.Name x px, .Name y py] kt pt] (.Tuple [a, b] k2 pt2) X.env = pure (some [x, y]))
    (hs : swapsWithSole [.Tuple [.Name x px, .Name y py] kt pt] (.Tuple [a, b] k2 pt2) pos.line X.env = pure false := by rfl) :
    PSd X (.Assign [.Tuple [.Name x px, .Name y py] kt pt] (.Tuple [a, b] k2 pt2) pos) (tParD i j ta) :=
  ps_imp (ps_par hc hN hi hj hij hx hy ha hw hs) fun D' σ H ⟨H0, f0, ds, vs, es, E, C, q, L⟩ => ⟨H0, f0, ds, vs, es, _, C, q, fun ws as H1 ds1 C1 hl ⟨d1, d2, e, q1⟩ => by
    subst e
    match ws, hl with
    | [w, u], _ =>
      refine ⟨w, u, rfl, L.nx _ H1 _ ?_ q1⟩
      have C2 : Cfg (kw X) H0 f0 H1 σ ds1 ([w] ++ u :: vs) ([d1] ++ d2 :: es) := C1
      have C3 : Cfg (kw X) H0 f0 H1 (σ.set j (some u)) (ds1.set j (some d2)) (w :: vs) (d1 :: es) := (C2.mid rfl).set j
      have C4 := C3.set i
      rw [List.set_comm _ _ (Ne.symm hij)] at C4
      exact C4⟩
/-- x op= e -/
def tAugD (i : Nat) (s : BSem) (te : TEP) : TSP := fun E ds => ∃ x, rdS ds i = some x ∧ te ds fun y ds1 => s x y ds1 fun z ds2 => E.nx (ds2.set i (some z))
end
end PD
set_option Elab.async false
set_option linter.all false
set_option maxRecDepth 100000
set_option maxHeartbeats 2000000
/-! PD, sixth part: a def's promise over pure data; its call. -/
namespace PD
open PySem L2
/-- a def's promise: from the arguments' trees; what is wanted of its value and of the arguments behind it -/
abbrev SpD := List D → (D → List D → Prop) → Prop
def liftSp (K : KW) (sp : SpD) : Sp := fun vs H Q _ => ∃ ds Qd, RepDs K H ds vs ∧ (∀ a, cDs a ds ≤ 1) ∧ sp ds Qd ∧
  ∀ v d H' ds', RepD K H' d v → RepDs K H' ds' vs → (∀ a, cD a d + cDs a ds' ≤ 1) → (∀ a, 1 ≤ cD a d + cDs a ds' → 1 ≤ cDs a ds ∨ H a = none) → (∀ a o, cDs a ds = 0 → H a = some o → H' a = some o) → Qd d ds' → Q v H'
/-- what an argument is behind the call: as it was, or what its slot holds -/
def ArgBack : List D → PSt → List D → Prop
  | [], _, ds' => ds' = []
  | _ :: _, [], _ => False
  | d :: r, o :: s, ds' => ∃ d' q, ds' = d' :: q ∧ (((∀ a, cD a d = 0) ∧ d' = d) ∨ (o = some d' ∧ ∃ a, root d = some a ∧ root d' = some a)) ∧ ArgBack r s q
/-- a body's ends, from the promise -/
def fnEnds (ds : List D) (Q : D → List D → Prop) : PEnds := ⟨fun s => ∃ ds', ArgBack ds s ds' ∧ Q (.dat .none) ds', fun d s => ∃ ds', ArgBack ds s ds' ∧ Q d ds', fun _ => False, fun _ => False⟩
def startD (n : Nat) (ds : List D) : PSt := ds.map some ++ List.replicate (n - ds.length) none
theorem ArgBack.same : ∀ {ds : List D} {s : PSt}, (∀ d ∈ ds, ∀ a, cD a d = 0) → ds.length ≤ s.length → ArgBack ds s ds
  | [], _, _, _ => rfl
  | d :: r, [], _, h => by simp at h
  | d :: r, o :: s, c, h => ⟨d, r, rfl, .inl ⟨c d List.mem_cons_self, rfl⟩, ArgBack.same (fun x hx => c x (List.mem_cons_of_mem _ hx)) (by simpa using h)⟩
section
variable {K : KW} {H H' H0 : Hp} {f0 : Addr → Prop} {σ : St} {ds ds' : PSt} {vs ws : List V} {es as : List D} {v w : V} {d t x : D} {a : Addr}
theorem ArgBack.rep (k : ∀ b o, H b = some o → Imm o → H' b = some o) : ∀ {ds ds' : List D} {s : PSt} {σ σr : St} {vs : List V}, RepDs K H ds vs → ArgBack ds s ds' → RepS K H' s σ → σ.length = s.length → (∀ a, cS a s ≤ 1) →
    RepDs K H' ds' vs ∧ ∀ a, cDs a ds' ≤ cS a s
  | [], _, s, _, _, _, h, e, _, _, _ => by subst e; exact ⟨h, fun a => Nat.zero_le _⟩
  | d :: r, _, [], _, _, _, _, e, _, _, _ => e.elim
  | d :: r, _, o :: s, _, σr, _, ⟨v, q, e1, h1, h2⟩, ⟨d', q', e2, hd, hr⟩, ⟨sv, sq, e3, h3, h4⟩, hl, hc => by
    subst e1 e2 e3
    obtain ⟨i1, i2⟩ := ArgBack.rep (σr := σr) k h2 hr h4 (by simpa using hl) (fun a => by have : cO a o + cS a s ≤ 1 := hc a; omega)
    rcases hd with ⟨z, e⟩ | ⟨e, a, ra, ra'⟩
    · subst e
      exact ⟨⟨v, q, rfl, RepD.keep k _ _ (fun b o hb _ => absurd hb (by rw [z]; omega)) h1, i1⟩, fun a => by
        have := i2 a; have := z a
        show cD a d' + cDs a q' ≤ cO a o + cS a s
        omega⟩
    · subst e
      obtain ⟨u, e4, h5⟩ := h3
      have e5 := root_rep ra h1
      have e6 := root_rep ra' h5
      subst e5 e6
      exact ⟨⟨_, q, rfl, h5, i1⟩, fun a => by
        have := i2 a
        show cD a d' + cDs a q' ≤ cD a d' + cS a s
        omega⟩
theorem rep_start : ∀ {ds : List D} {vs : List V} (n : Nat), RepDs K H ds vs → RepS K H (ds.map some ++ List.replicate n none) (vs.map some ++ List.replicate n none)
  | [], _, n, h => by
    subst h
    show RepS K H (List.replicate n none) (List.replicate n none)
    induction n with
    | zero => rfl
    | succ n ih => exact ⟨none, _, rfl, trivial, ih⟩
  | d :: ds, _, n, ⟨v, r, e, h1, h2⟩ => by subst e; exact ⟨some v, _, rfl, ⟨v, rfl, h1⟩, rep_start n h2⟩
theorem cS_start (b : Addr) : ∀ (ds : List D) (n : Nat), cS b (ds.map some ++ List.replicate n none) = cDs b ds
  | [], n => by
    show cS b (List.replicate n none) = 0
    induction n with
    | zero => rfl
    | succ n ih => show 0 + cS b (List.replicate n none) = 0; omega
  | d :: ds, n => by show cD b d + cS b (ds.map some ++ List.replicate n none) = cD b d + cDs b ds; rw [cS_start b ds n]
end
/-- THE RULE for a def: its body's term, and the pure reading of it -/
theorem fnD {P : Program} {w : World} {K : PySem.W.Frag} {mg : Str → Option Value} {base : Heap} {x qual : Str} {st : Stmt} {f : Addr} {fd : FuncData} {N ps : List Str} {k : Nat} {sp : SpD} {t : TSP}
    (F : Fun K x qual st f fd) (S : FnScope N ps (defScope st)) (hN : ps.length ≤ N.length) (len : ∀ ds Q, sp ds Q → ds.length = ps.length)
    (hd : ∀ (cdv : Value) (A : Around) (outer : List Env) (s : Shared) (H : Hp) (E : XK), Room k (A.deeper (PyProof.Rows.envOfC qual (defScope st) s.heap.objs.size f cdv)) → PSsd (cxOf CX0 P w K mg base N qual (defScope st) f cdv A outer s H E).nox (defBody st) t)
    (hp : ∀ ds Q, sp ds Q → t (fnEnds ds Q) (startD N.length ds)) : FnOk P w K mg base CX0 (k + 1) f fd ps (liftSp ⟨K, P, w⟩ sp) := by
  refine F.ok S (fun vs H Q E ⟨ds, Qd, r, _, h, _⟩ => by rw [← r.len]; exact len ds Qd h) (fun cdv A outer s H vs Q E hr ⟨ds, Qd, r, hc, h, hk⟩ => ⟨_, hd cdv A outer s H E hr, ?_⟩)
  have hl := len ds Qd h
  have hlv : vs.length = ds.length := r.len.symm
  have e1 : L2.start N vs = vs.map some ++ List.replicate (N.length - ds.length) none := by unfold L2.start; rw [hlv]
  have sl : RepS ⟨K, P, w⟩ H (startD N.length ds) (L2.start N vs) := by rw [e1]; exact rep_start _ r
  have cn : ∀ a, cS a (startD N.length ds) = cDs a ds := fun a => cS_start a ds _
  have own : ∀ a, 1 ≤ cDs a ds → ∃ o, H a = some o ∧ ¬ Imm o := fun a h => RepDs.own ds vs r a h
  have C : Cfg ⟨K, P, w⟩ H (fun a => 1 ≤ cDs a ds) H (L2.start N vs) (startD N.length ds) [] [] :=
    ⟨sl, rfl, fun a => by rw [cn]; have := hc a; show cDs a ds + 0 ≤ 1; omega, fun a h => .inl (by rw [cn] at h; show 1 ≤ cDs a ds; have : cDs a ds + 0 ≥ 1 := h; omega), fun a o _ h => h⟩
  have fin : ∀ σ' H' s' v d, Cfg ⟨K, P, w⟩ H (fun a => 1 ≤ cDs a ds) H' σ' s' [v] [d] → (∃ ds', ArgBack ds s' ds' ∧ Qd d ds') → Q v H' := fun σ' H' s' v d C' ⟨ds', ab, q⟩ => by
    have imm : ∀ b o, H b = some o → Imm o → H' b = some o := fun b o h1 h2 => C'.kp b o (fun z => by
      obtain ⟨u, h3, h4⟩ := own b z
      rw [h1] at h3; cases h3; exact h4 h2) h1
    have nd : ∀ a, cS a s' + (cD a d + 0) ≤ 1 := C'.nd
    obtain ⟨h1, h2⟩ := ArgBack.rep (σr := σ') imm r ab C'.sl C'.sl.len.symm (fun a => by have := nd a; omega)
    refine hk v d H' ds' C'.top h1 (fun a => by have := nd a; have := h2 a; omega) (fun a h => ?_) (fun a o h1 h2 => C'.kp a o (by omega) h2) q
    exact C'.fr a (by show 1 ≤ cS a s' + (cD a d + 0); have := h2 a; omega)
  exact ⟨H, _, _, [], [], _, C, hp ds Qd h, ⟨fun σ' H' s' C' q => fin σ' H' s' .non (.dat .none) (C'.push (d := .dat .none) rfl fun _ => rfl) q, fun _ _ _ _ q => q, fun _ _ _ _ q => q, fun σ' H' s' v d C' q => fin σ' H' s' v d C' q⟩⟩

/-! ### lending what a slot owns: its place holds the reference alone meanwhile -/
def lendK : List D → PSt → (List D → PSt → Prop) → Prop
  | [], ds, k => k [] ds
  | .bor a i π t :: xs, ds, k => root t = some a ∧ upS ds i π t (.raw (.ref a)) fun ds' => lendK xs ds' fun r ds2 => k (t :: r) ds2
  | x :: xs, ds, k => lendK xs ds fun r ds2 => k (x :: r) ds2
def backK : List D → List D → PSt → (PSt → Prop) → Prop
  | .bor a i π _ :: xs, d :: r, ds, k => upS ds i π (.raw (.ref a)) d fun ds' => backK xs r ds' k
  | _ :: xs, _ :: r, ds, k => backK xs r ds k
  | _, _, ds, k => k ds
def eOwn (sp : SpD) (t : TAP) : TEP := fun ds Q => t ds fun as ds1 => lendK as ds1 fun args ds2 => sp args fun d args' => backK as args' ds2 fun ds3 => Q d ds3
section
variable {K : KW} {H H' H0 : Hp} {f0 : Addr → Prop} {σ : St} {ds ds2 : PSt} {vs ws : List V} {es as args : List D} {v w : V} {d t x : D} {a : Addr}
theorem RepFs.swap {f : Str} {d d' : D} (k : ∀ v, RepD K H d v → RepD K H d' v) : ∀ {fs : List (Str × D)} {ws : List (Str × V)}, RepFs K H fs ws → fs.lookup f = some d → RepFs K H (setF f d' fs) ws
  | [], _, _, e => by simp at e
  | (g, x) :: r, _, ⟨v, rs, e, h1, h2⟩, q => by
    subst e
    by_cases z : f = g
    · subst z
      simp [List.lookup] at q
      subst q
      unfold setF
      rw [if_pos rfl]
      exact ⟨_, _, rfl, k v h1, h2⟩
    · have z' : (f == g) = false := by simpa using z
      simp only [List.lookup, z'] at q
      unfold setF
      rw [if_neg z]
      exact ⟨_, _, rfl, h1, RepFs.swap k h2 q⟩
theorem RepDs.swap {d d' : D} (k : ∀ v, RepD K H d v → RepD K H d' v) : ∀ {xs : List D} {ws : List V} {j : Nat}, RepDs K H xs ws → xs[j]? = some d → RepDs K H (xs.set j d') ws
  | [], _, _, _, e => by simp at e
  | x :: r, _, 0, ⟨v, rs, e, h1, h2⟩, q => by
    subst e
    simp at q; subst q
    exact ⟨_, _, rfl, k v h1, h2⟩
  | x :: r, _, j + 1, ⟨v, rs, e, h1, h2⟩, q => by
    subst e
    exact ⟨_, _, rfl, h1, RepDs.swap k h2 (by simpa using q)⟩
theorem SubW.swap {d t t' d' : D} (s : SubW d t t' d') : (∀ w, RepD K H t w → RepD K H t' w) → ∀ {v : V}, RepD K H d v → RepD K H d' v := by
  induction s with
  | here t t' => exact fun k v h => k v h
  | fld hl s ih =>
    rintro k v ⟨e, dx, ws, h1, h2⟩
    exact ⟨e, dx, ws, h1, RepFs.swap (fun v h => ih k h) h2 hl⟩
  | item hl s ih =>
    rintro k v ⟨e, ws, h1, h2⟩
    exact ⟨e, ws, h1, RepDs.swap (fun v h => ih k h) h2 hl⟩
/-- the tree at a place of a slot changes places with the top temp's, both at w -/
theorem Cfg.exch {y t' : D} {i : Nat} {π : List Stp} {e e' : D} (C : Cfg K H0 f0 H σ ds (w :: vs) (x :: es)) (he : ds[i]? = some (some e)) (hg : getP e π = some t) (hs : setP e π t' = some e') (ht : ∀ u, RepD K H t u → u = w) (h' : RepD K H t' w)
    (hy : RepD K H y w) (c : ∀ b, cD b t' + cD b y ≤ cD b t + cD b x) : Cfg K H0 f0 H σ (ds.set i (some e')) (w :: vs) (y :: es) := by
  obtain ⟨u, eu, hr⟩ := C.sl.get he
  have hi : i < ds.length := (List.getElem?_eq_some_iff.mp he).1
  have hole : ∀ b, cS b (ds.set i none) + cD b e = cS b ds := fun b => cS_get b he
  have sw := setP_subW hg hs
  have cn : ∀ b, cD b e' + cD b t = cD b e + cD b t' := fun b => sw.cnt b
  have sl : RepS K H (ds.set i (some e')) σ := C.sl.put eu (sw.swap (fun z hz => by rw [ht z hz]; exact h') hr)
  refine ⟨sl, ⟨w, vs, rfl, hy, C.pop.tm⟩, fun b => ?_, fun b h => ?_, C.kp⟩
  · have h1 : cS b ds + (cD b x + cDs b es) ≤ 1 := C.nd b
    have := hole b; have := cn b; have := c b
    show cS b (ds.set i (some e')) + (cD b y + cDs b es) ≤ 1
    rw [cS_set b hi]
    omega
  · have h1 : 1 ≤ cS b (ds.set i (some e')) + (cD b y + cDs b es) := h
    rw [cS_set b hi] at h1
    have := hole b; have := cn b; have := c b
    exact C.fr b (by show 1 ≤ cS b ds + (cD b x + cDs b es); omega)
theorem Cfg.unmid (C : Cfg K H0 f0 H σ ds ((v :: ws) ++ vs) ((x :: as) ++ es)) (hl : as.length = ws.length) : Cfg K H0 f0 H σ ds (ws ++ v :: vs) (as ++ x :: es) := by
  obtain ⟨w', r, e, h2, h3⟩ := C.tm
  cases e
  obtain ⟨h4, h5⟩ := RepDs.split hl h3
  have c : ∀ b, cDs b (as ++ x :: es) = cDs b ((x :: as) ++ es) := fun b => by
    show _ = cD b x + cDs b (as ++ es)
    rw [cDs_append, cDs_append]
    show cDs b as + (cD b x + cDs b es) = _
    omega
  exact ⟨C.sl, h4.append ⟨_, _, rfl, h2, h5⟩, fun b => by rw [c]; exact C.nd b, fun b h => C.fr b (by rw [← c]; exact h), C.kp⟩
theorem lend_cfg : ∀ {as : List D} {ws vs : List V} {es : List D} {ds : PSt} {k : List D → PSt → Prop}, Cfg K H0 f0 H σ ds (ws ++ vs) (as ++ es) → as.length = ws.length → lendK as ds k →
    ∃ args ds2, k args ds2 ∧ Cfg K H0 f0 H σ ds2 (ws ++ vs) (args ++ es) ∧ args.length = ws.length
  | [], ws, vs, es, ds, k, C, hl, h => ⟨[], ds, h, C, hl⟩
  | x :: xs, [], vs, es, ds, k, C, hl, h => by cases hl
  | x :: xs, w :: ws, vs, es, ds, k, C, hl, h => by
    have hl' : xs.length = ws.length := by simpa using hl
    have go : ∀ {ds' : PSt} {d : D}, Cfg K H0 f0 H σ ds' (w :: (ws ++ vs)) (d :: (xs ++ es)) → lendK xs ds' (fun r ds2 => k (d :: r) ds2) → ∃ args ds2, k args ds2 ∧ Cfg K H0 f0 H σ ds2 (w :: ws ++ vs) (args ++ es) ∧ args.length = (w :: ws).length := fun {ds' d} C1 h1 => by
      have C2 : Cfg K H0 f0 H σ ds' (ws ++ w :: vs) (xs ++ d :: es) := Cfg.unmid (as := xs) (ws := ws) C1 hl'
      obtain ⟨args, ds2, h2, C3, h3⟩ := lend_cfg C2 hl' h1
      exact ⟨d :: args, ds2, h2, C3.mid h3, by simp [h3]⟩
    cases x with
    | bor a i π t =>
      obtain ⟨hr, e, e', h1, h2, h3, h4⟩ := h
      have ew : w = .ref a := Cfg.top (vs := ws ++ vs) (es := xs ++ es) C
      have Ct : RepD K H t w := See.rep (x := .bor a i π t) (Cfg.pop (vs := ws ++ vs) (es := xs ++ es) C) ew ⟨rfl, hr, e, h1, h2⟩
      exact go (Cfg.exch (x := .bor a i π t) (vs := ws ++ vs) (es := xs ++ es) C h1 h2 h3 (fun u hu => by rw [ew]; exact root_rep hr hu) ew Ct fun b => by show 0 + cD b t ≤ cD b t + 0; omega) h4
    | _ => exact go C h
theorem back_cfg : ∀ {as args : List D} {ws vs : List V} {es : List D} {ds : PSt} {k : PSt → Prop}, Cfg K H0 f0 H σ ds (ws ++ vs) (args ++ es) → args.length = ws.length → as.length = ws.length → (∀ (j : Nat) a i π t, as[j]? = some (.bor a i π t) → ws[j]? = some (.ref a)) →
    backK as args ds k → ∃ ds', k ds' ∧ Cfg K H0 f0 H σ ds' vs es
  | [], [], [], vs, es, ds, k, C, _, _, _, h => ⟨ds, h, C⟩
  | [], _ :: _, [], vs, es, ds, k, C, h, _, _, _ => by cases h
  | [], _, _ :: _, vs, es, ds, k, C, _, h, _, _ => by cases h
  | x :: xs, _, [], vs, es, ds, k, C, _, h, _, _ => by cases h
  | x :: xs, [], _ :: _, vs, es, ds, k, C, h, _, _, _ => by cases h
  | x :: xs, d :: r, w :: ws, vs, es, ds, k, C, h1, h2, hw, h => by
    have h1' : r.length = ws.length := by simpa using h1
    have h2' : xs.length = ws.length := by simpa using h2
    have hw' : ∀ (j : Nat) a i π t, xs[j]? = some (.bor a i π t) → ws[j]? = some (.ref a) := fun j a i π t e => by simpa using hw (j + 1) a i π t (by simpa using e)
    cases x with
    | bor a i π t =>
      obtain ⟨e, e', g1, g2, g3, g4⟩ := h
      have ew : w = .ref a := by simpa using hw 0 a i π t rfl
      have Cd : RepD K H d w := Cfg.top (vs := ws ++ vs) (es := r ++ es) C
      have C2 := Cfg.exch (x := d) (y := .raw w) (vs := ws ++ vs) (es := r ++ es) C g1 g2 g3 (fun u hu => by rw [ew]; exact hu) Cd rfl fun b => by show cD b d + 0 ≤ 0 + cD b d; omega
      exact back_cfg C2.pop h1' h2' hw' g4
    | _ => exact back_cfg (Cfg.pop (vs := ws ++ vs) (es := r ++ es) C) h1' h2' hw' h
/-- behind a call: the value and the arguments as they are now, onto the temps -/
theorem Cfg.called (C : Cfg K H0 f0 H σ ds (ws ++ vs) (args ++ es)) (hl : args.length = ws.length) {args' : List D} (r : RepD K H' d v) (ra : RepDs K H' args' ws) (h1 : ∀ a, cD a d + cDs a args' ≤ 1)
    (h2 : ∀ a, 1 ≤ cD a d + cDs a args' → 1 ≤ cDs a args ∨ H a = none) (h3 : ∀ a o, cDs a args = 0 → H a = some o → H' a = some o) : Cfg K H0 f0 H' σ ds (v :: (ws ++ vs)) (d :: (args' ++ es)) := by
  obtain ⟨g1, g2⟩ := RepDs.split hl C.tm
  have own : ∀ a, 1 ≤ cDs a args → ∃ o, H a = some o ∧ ¬ Imm o := fun a h => RepDs.own args ws g1 a h
  have nd : ∀ a, cS a ds + (cDs a args + cDs a es) ≤ 1 := fun a => by have := C.nd a; rw [cDs_append] at this; exact this
  have imm : ∀ b o, H b = some o → Imm o → H' b = some o := fun b o e i => h3 b o (by
    by_cases q : 1 ≤ cDs b args
    · obtain ⟨u, e2, n⟩ := own b q
      rw [e] at e2; cases e2; exact absurd i n
    · omega) e
  have oth : ∀ b o, 1 ≤ cS b ds + cDs b es → H b = some o → H' b = some o := fun b o q e => h3 b o (by have := nd b; omega) e
  have un : ∀ b, H b = none → cS b ds + (cDs b args + cDs b es) = 0 := fun b e => by have := C.untracked e; rw [cDs_append] at this; exact this
  have c : ∀ b, cDs b (d :: (args' ++ es)) = cD b d + (cDs b args' + cDs b es) := fun b => by
    show cD b d + cDs b (args' ++ es) = _
    rw [cDs_append]
  refine ⟨RepS.keep imm _ _ (fun b o q e => oth b o (by omega) e) C.sl, ⟨v, _, rfl, r, ra.append (RepDs.keep imm _ _ (fun b o q e => oth b o (by omega) e) g2)⟩, fun b => ?_, fun b h => ?_, fun b o n e => ?_⟩
  · rw [c]
    by_cases q : 1 ≤ cD b d + cDs b args'
    · rcases h2 b q with z | z
      · have := nd b; have := h1 b; omega
      · have := un b z; have := h1 b; omega
    · have := nd b; omega
  · rw [c] at h
    by_cases q : 1 ≤ cD b d + cDs b args'
    · rcases h2 b q with z | z
      · exact C.fr b (by rw [cDs_append]; omega)
      · by_cases y : f0 b
        · exact .inl y
        · refine .inr ?_
          cases e : H0 b with
          | none => rfl
          | some o => have := C.kp b o y e; rw [z] at this; cases this
    · exact C.fr b (by rw [cDs_append]; omega)
  · have e2 := C.kp b o n e
    refine h3 b o ?_ e2
    by_cases q : 1 ≤ cDs b args
    · rcases C.fr b (by rw [cDs_append]; omega) with z | z
      · exact absurd z n
      · rw [z] at e; cases e
    · omega
end
section
variable {X : Cx} {k : Nat} {f : Addr} {fd : FuncData} {ps : List Str} {sp : SpD} {x : Str} {p pos : Pos} {e : Expr} {l : List Expr} {t : TAP}
theorem lift_own {K : KW} {E : XK} {σ : St} {H : Hp} {Q : VK} (h : liftE K (eOwn sp t) σ H Q) : tCall (liftSp K sp) [] E (liftA K t) σ H Q := by
  obtain ⟨H0, f0, ds, vs, es, Qd, C, q, k⟩ := h
  refine ⟨H0, f0, ds, vs, es, _, C, q, fun ws as H1 ds1 C1 hl hL => ?_⟩
  obtain ⟨args, ds2, hs, C2, hl2⟩ := lend_cfg C1 hl hL
  rw [List.append_nil]
  refine ⟨args, _, C2.args hl2, fun a => by have := C2.nd a; rw [cDs_append] at this; omega, hs, fun v d H' args' r ra h1 h2 h3 q2 => ?_⟩
  have C3 := C2.called hl2 r ra h1 h2 h3
  have hla : args'.length = ws.length := ra.len
  -- the value below, the arguments on top
  have C4 : Cfg K H0 f0 H' σ ds2 (ws ++ v :: vs) (args' ++ d :: es) := Cfg.unmid (as := args') (ws := ws) C3 hla
  have hw : ∀ (j : Nat) a i π t, as[j]? = some (.bor a i π t) → ws[j]? = some (.ref a) := fun j a i π t e => by
    obtain ⟨u, e1, e2⟩ := (C1.args hl).get e
    rw [e1, show u = .ref a from e2]
  obtain ⟨ds3, q3, C5⟩ := back_cfg C4 hla hl hw q2
  exact k v d H' _ C5 q3
theorem d_own (F : FnOk X.prog X.w X.K X.mg X.base CX0 k f fd ps (liftSp (kw X) sp)) (hr : Room k X.A) (hg : Gl X x) (hm : X.mg x = some (.ref f)) (hk : PySem.W.keepIn X.K (.ref f) = true) (hb : Binds X.K fd ps [])
    (ha : PAd X (e :: l) t) (hdb : (x == ("__debug__" : Str)) = false := by decide) (he : starEach (e :: l) X.env = (false, eval e X.env) :: starEach l X.env := by rfl) (hpl : (backTo pos (starEach l X.env)).any (·.1) = false := by rfl) :
    PEd X (.Call (.Name x p) (e :: l) [] pos) (eOwn sp t) :=
  pe_imp (pe_call F hr hg hm hk hb .nil pass0 ha hdb he hpl) fun _ _ _ h => lift_own h
/-- a slot's tree handed over -/
theorem d_mv {i : Nat} {x : Str} (hN : X.N[i]? = some x) (hv : Vis X.env.scope x) (hd : (x == ("__debug__" : Str)) = false := by decide) (hcd : (x == ("__classdict__" : Str)) = false := by decide) : PEd X (.Name x pos) (eOut i) :=
  pe_imp (pe_var hN hv hd hcd) fun σ H Q ⟨H0, f0, ds, vs, es, Qd, C, ⟨d, e, q⟩, k⟩ => by
    obtain ⟨v, h1, h2⟩ := C.sl.get e
    have hole : ∀ b, cS b (ds.set i none) + cD b d = cS b ds := fun b => cS_get b e
    refine ⟨v, h1, k v d H (ds.set i none) ⟨C.sl.hole, ⟨v, vs, rfl, h2, C.tm⟩, fun b => ?_, fun b h => ?_, C.kp⟩ q⟩
    · have := C.nd b; have := hole b
      show cS b (ds.set i none) + (cD b d + cDs b es) ≤ 1
      omega
    · have h' : 1 ≤ cS b (ds.set i none) + (cD b d + cDs b es) := h
      have := hole b
      exact C.fr b (by omega)
end
end PD
set_option Elab.async false
set_option linter.all false
set_option maxRecDepth 100000
set_option maxHeartbeats 2000000
/-! PD, seventh part: comprehensions, methods of lists, stores, lists by operators, slices, ranges as values. -/
namespace PD
open PySem L2
/-! ### a comprehension's own names put aside -/
def atO (ds : PSt) (i : Nat) : Option D := match ds[i]? with
  | some o => o
  | none => none
def wipeD (ds : PSt) : List Nat → PSt
  | [] => ds
  | i :: r => wipeD (ds.set i none) r
/-- what stood in the own slots stands there again -/
def restore (ds ds4 : PSt) : List Nat → PSt
  | [] => ds4
  | i :: r => (restore (ds.set i none) (ds4.set i none) r).set i (atO ds i)
section
variable {K : KW} {H H' H0 : Hp} {f0 : Addr → Prop} {σ σ' : St} {ds ds4 : PSt} {vs ws : List V} {es as : List D} {v w : V} {d t x : D} {a : Addr}
theorem set_back {σ σ' : St} {i : Nat} {o : Option V} (h : σ'.set i none = σ.set i none) (e : σ[i]? = some o) : σ'.set i o = σ := by
  refine List.ext_getElem? fun j => ?_
  have hj : (σ'.set i none)[j]? = (σ.set i none)[j]? := by rw [h]
  have hl : σ'.length = σ.length := by have := congrArg List.length h; simpa using this
  have hi : i < σ.length := (List.getElem?_eq_some_iff.mp e).1
  by_cases q : i = j
  · subst q
    rw [List.getElem?_set_self (by omega), e]
  · rw [List.getElem?_set_ne q] at hj ⊢
    rw [List.getElem?_set_ne q] at hj
    exact hj
theorem set_out {σ σ' : St} {i : Nat} (h : σ'.set i none = σ.set i none) (e : σ[i]? = none) : σ' = σ := by
  have hl : σ'.length = σ.length := by have := congrArg List.length h; simpa using this
  have hi : σ.length ≤ i := List.getElem?_eq_none_iff.mp e
  rw [List.set_eq_of_length_le (by omega), List.set_eq_of_length_le hi] at h
  exact h
/-- one slot put aside: onto the temps, if something is told of it -/
theorem aside1 (C : Cfg K H0 f0 H σ ds vs es) (i : Nat) : ∃ (ws : List V) (as : List D), as.length = ws.length ∧ Cfg K H0 f0 H (σ.set i none) (ds.set i none) (ws ++ vs) (as ++ es) ∧
    ∀ H' σ' ds4 vs2 es2, Cfg K H0 f0 H' σ' ds4 (ws ++ vs2) (as ++ es2) → σ'.set i none = σ.set i none → Cfg K H0 f0 H' σ (ds4.set i (atO ds i)) vs2 es2 := by
  have plain : (∀ d, ds[i]? ≠ some (some d)) → Cfg K H0 f0 H (σ.set i none) (ds.set i none) vs es ∧ ∀ H' σ' ds4 vs2 es2, Cfg K H0 f0 H' σ' ds4 vs2 es2 → σ'.set i none = σ.set i none → Cfg K H0 f0 H' σ (ds4.set i none) vs2 es2 := fun hn => by
    refine ⟨⟨C.sl.out, C.tm, fun a => ?_, fun a h => ?_, C.kp⟩, fun H' σ' ds4 vs2 es2 C' hs => ?_⟩
    · have := C.nd a; have := cS_hole (ds := ds) (i := i) a; omega
    · have := cS_hole (ds := ds) (i := i) a; exact C.fr a (by omega)
    · have r : RepS K H' (ds4.set i none) σ := by
        have r0 : RepS K H' (ds4.set i none) (σ'.set i none) := C'.sl.out
        rw [hs] at r0
        -- the slot itself is untold
        have go : ∀ (ds5 : PSt) (τ : St) (j : Nat), ds5[j]? = some none ∨ ds5[j]? = none → RepS K H' ds5 (τ.set j none) → RepS K H' ds5 τ := by
          intro ds5
          induction ds5 with
          | nil =>
            intro τ j _ h
            have : τ.set j none = [] := h
            cases τ with
            | nil => rfl
            | cons _ _ => cases j <;> cases this
          | cons o r ih =>
            intro τ j hj h
            obtain ⟨s, q, e, h1, h2⟩ := h
            cases τ with
            | nil => cases j <;> cases e
            | cons s' τ' =>
              cases j with
              | zero =>
                have e' : (none : Option V) :: τ' = s :: q := e
                injection e' with e1 e2
                subst e2
                have ho : o = none := by rcases hj with z | z <;> simpa using z
                subst ho
                exact ⟨s', τ', rfl, trivial, h2⟩
              | succ j =>
                have e' : s' :: τ'.set j none = s :: q := e
                injection e' with e1 e2
                subst e1 e2
                exact ⟨s', τ', rfl, h1, ih τ' j (by simpa using hj) h2⟩
        refine go (ds4.set i none) σ i ?_ r0
        by_cases hi : i < ds4.length
        · exact .inl (by rw [List.getElem?_set_self hi])
        · exact .inr (by rw [List.getElem?_eq_none]; simpa using hi)
      refine ⟨r, C'.tm, fun a => ?_, fun a h => ?_, C'.kp⟩
      · have := C'.nd a; have := cS_hole (ds := ds4) (i := i) a; omega
      · have := cS_hole (ds := ds4) (i := i) a; exact C'.fr a (by omega)
  cases e : ds[i]? with
  | none =>
    obtain ⟨p1, p2⟩ := plain fun d h => by rw [e] at h; cases h
    exact ⟨[], [], rfl, p1, by unfold atO; rw [e]; exact p2⟩
  | some o =>
    cases o with
    | none =>
      obtain ⟨p1, p2⟩ := plain fun d h => by rw [e] at h; cases h
      exact ⟨[], [], rfl, p1, by unfold atO; rw [e]; exact p2⟩
    | some d =>
      obtain ⟨v, hv, hr⟩ := C.sl.get e
      have hole : ∀ b, cS b (ds.set i none) + cD b d = cS b ds := fun b => cS_get b e
      refine ⟨[v], [d], rfl, ⟨C.sl.out, ⟨v, vs, rfl, hr, C.tm⟩, fun b => ?_, fun b h => ?_, C.kp⟩, fun H' σ' ds4 vs2 es2 C' hs => ?_⟩
      · have := C.nd b; have := hole b
        show cS b (ds.set i none) + (cD b d + cDs b es) ≤ 1
        omega
      · have h' : 1 ≤ cS b (ds.set i none) + (cD b d + cDs b es) := h
        have := hole b
        exact C.fr b (by omega)
      · have C2 : Cfg K H0 f0 H' (σ'.set i (some v)) (ds4.set i (some d)) vs2 es2 := Cfg.set (v := v) (d := d) C' i
        rw [set_back hs hv] at C2
        have : atO ds i = some d := by unfold atO; rw [e]
        rw [this]
        exact C2
theorem Cfg.out (C : Cfg K H0 f0 H σ ds vs es) (i : Nat) : Cfg K H0 f0 H (σ.set i none) (ds.set i none) vs es :=
  ⟨C.sl.out, C.tm, fun a => by have := C.nd a; have := cS_hole (ds := ds) (i := i) a; omega, fun a h => by have := cS_hole (ds := ds) (i := i) a; exact C.fr a (by omega), C.kp⟩
theorem aside : ∀ (own : List Nat) {σ : St} {ds : PSt} {vs : List V} {es : List D}, Cfg K H0 f0 H σ ds vs es → ∃ (ws : List V) (as : List D), as.length = ws.length ∧ Cfg K H0 f0 H (wipe σ own) (wipeD ds own) (ws ++ vs) (as ++ es) ∧
    ∀ H' σ' ds4 vs2 es2, Cfg K H0 f0 H' σ' ds4 (ws ++ vs2) (as ++ es2) → wipe σ' own = wipe σ own → Cfg K H0 f0 H' σ (restore ds ds4 own) vs2 es2
  | [], σ, ds, vs, es, C => ⟨[], [], rfl, C, fun H' σ' ds4 vs2 es2 C' h => by
    have e : σ' = σ := h
    subst e
    exact C'⟩
  | i :: r, σ, ds, vs, es, C => by
    obtain ⟨ws1, as1, hl1, C1, b1⟩ := aside1 C i
    obtain ⟨ws, as, hl, C2, b2⟩ := aside r C1
    refine ⟨ws ++ ws1, as ++ as1, by simp [hl, hl1], ?_, fun H' σ' ds4 vs2 es2 C' h => ?_⟩
    · rw [List.append_assoc, List.append_assoc]
      show Cfg K H0 f0 H ((wipe σ r).set i none) _ _ _
      rw [wipe_comm]
      exact C2
    · rw [List.append_assoc, List.append_assoc] at C'
      have h' : (wipe σ' r).set i none = (wipe σ r).set i none := h
      rw [wipe_comm, wipe_comm] at h'
      exact b1 H' (σ.set i none) _ _ _ (b2 H' (σ'.set i none) (ds4.set i none) _ _ (C'.out i) h') (by rw [List.set_set])
end
/-! ### list comprehensions -/
/-- what is given is plain -/
def tLcD (ti : TIP) (g : TGP) (tt : TTP) (te : TEP) (own : List Nat) : TEP := fun ds Q => ti ds fun items ok ds1 => items.length ≤ 1000000 ∧ ∃ Iv : Nat → List PyData → PSt → Prop, Iv 0 [] ds1 ∧
  (∀ i acc s, i ≤ items.length → Iv i acc s → ok s ∧ acc.length ≤ i) ∧
  (∀ i p acc s, items[i]? = some p → Iv i acc s → g p (wipeD s own) fun s2 => tt s2 fun b s3 => if b = true then te s3 fun y s4 => ∃ q, y = .dat q ∧ Iv (i + 1) (acc ++ [q]) (restore s s4 own) else Iv (i + 1) acc (restore s s3 own)) ∧
  ∀ acc s, Iv items.length acc s → ∀ a, Q (.lst a acc) s
def PTsd (X : Cx) (ifs : List Expr) (t : TTP) : Prop := PTs X ifs (liftT (kw X) t)
def tYesD : TTP := fun ds Q => Q true ds
section
variable {X : Cx} {K : KW}
theorem dts_nil : PTsd X [] tYesD := ⟨fun pins s σ H Q I ⟨H0, f0, ds, vs, es, Qd, C, q, k⟩ => pts_nil.run pins s σ H Q I (k _ _ _ C q)⟩
theorem dts_one {c : Expr} {t : TTP} (h : PTd X c t) : PTsd X [c] t := pts_one h
theorem wipe_idem (σ : St) : ∀ r : List Nat, wipe (wipe σ r) r = wipe σ r := fun r => by
  have go : ∀ (q r : List Nat), (∀ j ∈ q, j ∈ r) → wipe (wipe σ q) r = wipe σ r := by
    intro q r
    induction q with
    | nil => intro _; rfl
    | cons i q ih =>
      intro h
      show wipe ((wipe σ q).set i none) r = wipe σ r
      rw [wipe_set (h i List.mem_cons_self)]
      exact ih fun j hj => h j (List.mem_cons_of_mem _ hj)
  exact go r r fun _ h => h
variable {tg iter elt : Expr} {ifs : List Expr} {scope : Scope} {own : List (Str × Nat)} {pos : Pos} {ti : TIP} {js : List Nat} {g : TGP} {tt : TTP} {te : TEP}
theorem Cfg.tmpApp {H0 H : Hp} {f0 : Addr → Prop} {σ : St} {s : PSt} {vs : List V} {es : List D} {a : Addr} {y : V} {q : PyData} {acc : List PyData} (C : Cfg K H0 f0 H σ s (.ref a :: y :: vs) (.lst a acc :: .dat q :: es)) :
    ∃ zs, H a = some (.lst zs) ∧ zs.length = acc.length ∧ Cfg K H0 f0 (upd H a (.lst (zs ++ [y]))) σ s (.ref a :: vs) (.lst a (acc ++ [q]) :: es) := by
  obtain ⟨_, zs, h1, h2⟩ := C.top
  have hq : RepP K H q y := C.pop.top
  have C0 := C.pop.pop
  have nd : ∀ b, cS b s + (one b a + (0 + cDs b es)) ≤ 1 := C.nd
  have hm : ∀ u, H a = some u → ¬ Imm u := fun u e => by rw [h1] at e; cases e; exact id
  have oth : ∀ b u, 1 ≤ cS b s + cDs b es → H b = some u → upd H a (.lst (zs ++ [y])) b = some u := fun b u h e => by
    rw [upd_ne]
    · exact e
    · rintro rfl; have := nd b; rw [one_same] at this; omega
  refine ⟨zs, h1, h2.len.symm, RepS.keep (keep_upd hm) _ _ (fun b u h e => oth b u (by omega) e) C0.sl, ⟨_, vs, rfl, ⟨rfl, _, upd_same, RepPs.append (RepPs.keep (keep_upd hm) _ _ h2) ⟨y, [], rfl, RepP.keep (keep_upd hm) _ _ hq, rfl⟩⟩, RepDs.keep (keep_upd hm) _ _ (fun b u h e => oth b u (by omega) e) C0.tm⟩, fun b => ?_, fun b h => ?_, fun b u n e => ?_⟩
  · have := nd b
    show cS b s + (one b a + cDs b es) ≤ 1
    omega
  · exact C.fr b (by have h' : 1 ≤ cS b s + (one b a + cDs b es) := h; show 1 ≤ cS b s + (one b a + (0 + cDs b es)); omega)
  · have e2 := C.kp b u n e
    rw [upd_ne]
    · exact e2
    · rintro rfl
      rcases C.fr b (by show 1 ≤ cS b s + (one b b + (0 + cDs b es)); rw [one_same]; omega) with z | z
      · exact n z
      · rw [z] at e; cases e
theorem lift_lc (hj : ∀ j ∈ js, j ∈ own.map (·.2)) {σ : St} {H : Hp} {Q : VK} (h : liftE K (tLcD ti g tt te (own.map (·.2))) σ H Q) : tLc (liftI K ti) (liftG K js g) (liftT K tt) (liftE K te) (own.map (·.2)) σ H Q := by
  obtain ⟨H0, f0, ds, vs, es, Qd, C, q, k⟩ := h
  refine ⟨H0, f0, ds, vs, es, _, C, q, fun J H1 ds1 ws as items ok C1 hl W ⟨hz, Iv, h0, hok, hstep, hend⟩ Dl hD => ?_⟩
  -- the list so far is a temp below the iterator's
  have put : ∀ {H σ s acc}, Cfg K H0 f0 H σ s (.ref Dl :: (ws ++ vs)) (.lst Dl acc :: (as ++ es)) → Cfg K H0 f0 H σ s (ws ++ .ref Dl :: vs) (as ++ .lst Dl acc :: es) := fun C => Cfg.unmid (as := as) (ws := ws) C hl
  refine ⟨fun i m H => m = items.length - i ∧ i ≤ items.length ∧ ∃ s acc, Cfg K H0 f0 H σ s (ws ++ .ref Dl :: vs) (as ++ .lst Dl acc :: es) ∧ Iv i acc s, ⟨_, rfl, Nat.zero_le _, ds1, [], put (C1.newL hD rfl), h0⟩, ?_⟩
  rintro i m H2 ⟨rfl, hle, s, acc, C2, iv⟩
  obtain ⟨o, hacc⟩ := hok i acc s hle iv
  by_cases hlt : i < items.length
  · refine .inr ⟨W.go i σ H2 s _ _ hlt C2 o, fun H' => ∃ s' acc', Cfg K H0 f0 H' σ s' (ws ++ .ref Dl :: vs) (as ++ .lst Dl acc' :: es) ∧ Iv (i + 1) acc' s', fun H' ⟨s', acc', C', iv'⟩ => ⟨_, by omega, rfl, hlt, s', acc', C', iv'⟩, fun x H' y => ?_⟩
    obtain ⟨p, hpp⟩ : ∃ p, items[i]? = some p := ⟨items[i], by simp [hlt]⟩
    have C3 := W.yld i σ H2 s _ _ x H' p hpp C2 o y
    obtain ⟨wa, aa, hla, C4, hback⟩ := aside (own.map (·.2)) C3
    -- the item on top of what was put aside
    have C5 : Cfg K H0 f0 H' (wipe σ (own.map (·.2))) (wipeD s (own.map (·.2))) (x :: (wa ++ (ws ++ .ref Dl :: vs))) (p :: (aa ++ (as ++ .lst Dl acc :: es))) := C4.mid hla
    refine ⟨H0, f0, _, _, _, p, _, C5, hstep i p acc s hpp iv, fun σ2 H3 s2 kp C6 q2 => ?_⟩
    have hw : wipe σ2 (own.map (·.2)) = wipe σ (own.map (·.2)) := by
      rw [kp _ hj, wipe_idem]
    refine ⟨hw, H0, f0, s2, _, _, _, C6, q2, fun b H4 s3 C7 q3 => ?_⟩
    cases b with
    | false => exact ⟨_, acc, hback _ _ _ _ _ C7 hw, q3⟩
    | true =>
      refine ⟨H0, f0, s3, _, _, _, C7, q3, fun yv yd H5 s4 C8 ⟨q, e, iv'⟩ => ?_⟩
      subst e
      have C9 := hback H5 σ2 s4 _ _ (Cfg.unmid (as := aa) (ws := wa) C8 hla) hw
      -- y on top of the iterator's temps and the list
      have C10 : Cfg K H0 f0 H5 σ (restore s s4 (own.map (·.2))) (([yv] ++ ws) ++ .ref Dl :: vs) (([.dat q] ++ as) ++ .lst Dl acc :: es) := C9
      have C11 := C10.mid (by simp [hl])
      obtain ⟨zs, h1, h2, C12⟩ := Cfg.tmpApp (vs := ws ++ vs) (es := as ++ es) C11
      exact ⟨zs, h1, by rw [h2, sizeLine_eq]; omega, _, _, put C12, iv'⟩
  · obtain rfl : i = items.length := by omega
    exact .inl ⟨W.stop σ H2 s _ _ C2 o, k _ _ _ _ (C2.drop (ws := ws) (as := as) hl) (hend acc s iv Dl)⟩
theorem d_lc {X : Cx} (hc : X.calm = true) (hN : X.N.Nodup) (hi : PId X tg iter ti) (ok : BlkOk X.N X.env.scope scope own) (hj : ∀ j ∈ js, j ∈ own.map (·.2))
    (hg : ∀ (s : Shared) (H : Hp) (C : Addr) (cl : List (Str × Addr)) (fp : List Addr), PGd (X.blk s H scope (compEnvC scope cl C X.env) fp) tg js g)
    (ht : ∀ (s : Shared) (H : Hp) (C : Addr) (cl : List (Str × Addr)) (fp : List Addr), PTsd (X.blk s H scope (compEnvC scope cl C X.env) fp) ifs tt)
    (he : ∀ (s : Shared) (H : Hp) (C : Addr) (cl : List (Str × Addr)) (fp : List Addr), PEd (X.blk s H scope (compEnvC scope cl C X.env) fp) elt te) (hs : ∀ x, foldedSetIterable iter X.env x = pure x := by intro _; rfl) :
    PEd X (.ListComp elt [⟨tg, iter, ifs, 0⟩] scope pos) (tLcD ti g tt te (own.map (·.2))) :=
  pe_imp (pe_lc (wi := liftI (kw X) ti) (g := liftG (kw X) js g) (tt := liftT (kw X) tt) (te := liftE (kw X) te) hc hN hi ok hg ht he hs) fun _ _ _ h => lift_lc hj h
theorem ds_setLc {X : Cx} {i : Nat} {y : Str} {py spos : Pos} (hc : X.calm = true) (hN : X.N.Nodup) (hy : X.N[i]? = some y) (hyl : X.env.scope.names.lookup y = some .local)
    (hsw : swapsWith (.ListComp elt [⟨tg, iter, ifs, 0⟩] scope pos) (some (.Name y py)) spos.line X.env = pure true) (hi : PId X tg iter ti) (ok : BlkOk X.N X.env.scope scope own) (hj : ∀ j ∈ js, j ∈ own.map (·.2))
    (hg : ∀ (s : Shared) (H : Hp) (C : Addr) (cl : List (Str × Addr)) (fp : List Addr), PGd (X.blk s H scope (compEnvC scope cl C X.env) fp) tg js g)
    (ht : ∀ (s : Shared) (H : Hp) (C : Addr) (cl : List (Str × Addr)) (fp : List Addr), PTsd (X.blk s H scope (compEnvC scope cl C X.env) fp) ifs tt)
    (he : ∀ (s : Shared) (H : Hp) (C : Addr) (cl : List (Str × Addr)) (fp : List Addr), PEd (X.blk s H scope (compEnvC scope cl C X.env) fp) elt te) (hs : ∀ x, foldedSetIterable iter X.env x = pure x := by intro _; rfl) :
    PSd X (.Assign [.Name y py] (.ListComp elt [⟨tg, iter, ifs, 0⟩] scope pos) spos) (tAsgD (tLcD ti g tt te (own.map (·.2))) (gN i)) :=
  ps_imp (ps_setLc (wi := liftI (kw X) ti) (g := liftG (kw X) js g) (tt := liftT (kw X) tt) (te := liftE (kw X) te) hc hN hy hyl hsw hi ok hg ht he hs) fun D' σ H ⟨H0, f0, ds, vs, es, E, C, q, L⟩ =>
    lift_lc hj (σ := σ) (H := H) (Q := fun x H1 => gName i x σ H1 D'.nx) ⟨H0, f0, ds, vs, es, _, C, q, fun v d H1 ds1 C1 q1 => L.nx _ H1 _ (C1.set i) q1⟩
end
end PD
set_option Elab.async false
set_option linter.all false
set_option maxRecDepth 100000
set_option maxHeartbeats 2000000
/-! PD, eighth part: methods of lists, stores, operators on lists and tuples, slices, ranges as values. -/
namespace PD
open PySem L2
abbrev MSem := D → List D → PSt → (D → PSt → Prop) → Prop
/-- the built-in type of a receiver -/
def TyM : D → String → Prop
  | .lst _ _, T => T = "list"
  | .lsD _ _, T => T = "list"
  | .dk _ _, T => T = "dict"
  | .dat (.str _), T => T = "str"
  | _, _ => False
def eBM (T : String) (s : MSem) (to : TEP) (t : TAP) : TEP := fun ds Q => to ds fun x ds1 => (∃ d, See ds1 x d ∧ TyM d T) ∧ t ds1 fun as ds2 => s x as ds2 Q
def SemM (K : KW) (s : MSem) (r : V → List V → Hp → VK → Prop) : Prop := ∀ {H0 f0 H σ ds ws vs as es v x Qd} {Q : VK}, Cfg K H0 f0 H σ ds (ws ++ v :: vs) (as ++ x :: es) → as.length = ws.length → s x as ds Qd →
  (∀ v' d H' ds', Cfg K H0 f0 H' σ ds' (v' :: vs) (d :: es) → Qd d ds' → Q v' H') → r v ws H Q
section
variable {X : Cx} {K : KW} {o e : Expr} {l : List Expr} {to ta tb te : TEP} {t : TAP} {pos : Pos}
theorem tyM_rep {H : Hp} {d : D} {v : V} {T : String} (r : RepD K H d v) (h : TyM d T) : tyV K.K T v H := by
  cases d with
  | lst a xs => obtain ⟨e, zs, h1, _⟩ := r; subst e; exact .inl ⟨h, zs, SqL.of h1⟩
  | lsD a xs => obtain ⟨e, zs, h1, _⟩ := r; subst e; exact .inl ⟨h, zs, SqL.of h1⟩
  | dk a xs => obtain ⟨e, zs, h1, _⟩ := r; subst e; exact .inr (.inr (.inl ⟨h, .inl ⟨zs, h1⟩⟩))
  | dat p =>
    cases p with
    | str z => obtain rfl := r; exact h
    | _ => exact h.elim
  | _ => exact h.elim
theorem lift_bm {T : String} {s : MSem} {r : V → List V → Hp → VK → Prop} (hs : SemM K s r) {σ : St} {H : Hp} {Q : VK} (h : liftE K (eBM T s to t) σ H Q) : tBM K.K T r (liftE K to) (liftA K t) σ H Q := by
  obtain ⟨H0, f0, ds, vs, es, Qd, C, q, k⟩ := h
  exact ⟨H0, f0, ds, vs, es, _, C, q, fun v x H1 ds1 C1 ⟨⟨d, s1, ty⟩, q1⟩ => ⟨tyM_rep (s1.rep C1 C1.top) ty, H0, f0, ds1, v :: vs, x :: es, _, C1, q1, fun ws as H2 ds2 C2 hl q2 => hs C2 hl q2 k⟩⟩
theorem d_bm {T id : String} {name : Str} {apos cpos : Pos} {s : MSem} {r : V → List V → Hp → VK → Prop} (pa : PlainAttrs T) (slot : Slot T name id) (hty : typeOf (.builtin id) = pure (.type "method_descriptor")) (hm : MtR X id r) (hs : SemM (kw X) s r) (ho : PEd X o to) (ha : PAd X (e :: l) t)
    (hbase : attributeBase o name X.env (eval o X.env) = eval o X.env := by rfl)
    (hfew : ((backTo cpos (starEach (e :: l) X.env)).all (fun x => !x.1) && (backToKw cpos (keywordEach [] X.env)).all (fun x => x.1.isSome)
      && decide ((e :: l).length + ([] : List Keyword).length + (if ([] : List Keyword).isEmpty then 0 else 1) < 30)) = true := by rfl)
    (hline : (apos.endLine == cpos.line) = true := by rfl) (hst : starEach (e :: l) X.env = (false, eval e X.env) :: starEach l X.env := by rfl) (hplain : (backTo cpos (starEach l X.env)).any (·.1) = false := by rfl) :
    PEd X (.Call (.Attribute o name apos) (e :: l) [] cpos) (eBM T s to t) :=
  pe_imp (pe_bm pa slot hty hm ho ha hbase hfew hline hst hplain) fun _ _ _ h => lift_bm hs h
theorem d_bm0 {T id : String} {name : Str} {apos cpos : Pos} {s : MSem} {r : V → List V → Hp → VK → Prop} (pa : PlainAttrs T) (slot : Slot T name id) (hty : typeOf (.builtin id) = pure (.type "method_descriptor")) (hm : MtR X id r) (hs : SemM (kw X) s r) (ho : PEd X o to)
    (hbase : attributeBase o name X.env (eval o X.env) = eval o X.env := by rfl) (hline : (apos.endLine == cpos.line) = true := by rfl) :
    PEd X (.Call (.Attribute o name apos) [] [] cpos) (eBM T s to aNil) :=
  pe_imp (pe_bm0 pa slot hty hm ho hbase hline) fun σ H Q ⟨H0, f0, ds, vs, es, Qd, C, q, k⟩ => ⟨H0, f0, ds, vs, es, _, C, q, fun v x H1 ds1 C1 ⟨⟨d, s1, ty⟩, q1⟩ => ⟨tyM_rep (s1.rep C1 C1.top) ty, hs (ws := []) (as := []) C1 rfl q1 k⟩⟩
/-- a write to a list of plain data, by a temp that is used up -/
theorem Cfg.wrL {H0 H : Hp} {f0 : Addr → Prop} {σ : St} {ds ds' : PSt} {vs : List V} {es : List D} {w : V} {y : D} {a : Addr} {xs ys : List PyData} {us : List V} (C : Cfg K H0 f0 H σ ds (w :: vs) (y :: es)) (W : Wr ds (.lst a xs) (.lst a ys) ds')
    (hr : ∀ H', (∀ b u, H b = some u → Imm u → H' b = some u) → RepPs K H' ys us) : Cfg K H0 f0 (upd H a (.lst us)) σ ds' vs es := by
  have tr : ∃ u, H a = some u ∧ ¬ Imm u := by
    obtain ⟨i, d, d', hd, s, _⟩ := id W
    obtain ⟨v, _, h⟩ := C.sl.get hd
    exact RepD.own d v h a (Nat.le_trans (root_own (t := .lst a xs) rfl) (s.sub.cnt a))
  have hm : ∀ u, H a = some u → ¬ Imm u := fun u e => by
    obtain ⟨u', e', n⟩ := tr
    rw [e] at e'; cases e'; exact n
  exact C.wr W rfl (fun _ _ _ => ⟨rfl, us, upd_same, hr _ (keep_upd hm)⟩) fun b => by show one b a ≤ one b a + cD b y; omega
/-- the list that a write is to -/
theorem Wr.there {H0 H : Hp} {f0 : Addr → Prop} {σ : St} {ds ds' : PSt} {vs : List V} {es : List D} {a : Addr} {xs : List PyData} {t' : D} (C : Cfg K H0 f0 H σ ds vs es) (W : Wr ds (.lst a xs) t' ds') : ∃ zs, H a = some (.lst zs) ∧ RepPs K H xs zs := by
  obtain ⟨i, d, d', hd, s, _⟩ := W
  obtain ⟨v, _, h⟩ := C.sl.get hd
  obtain ⟨w, _, zs, h1, h2⟩ := s.sub.rep h
  exact ⟨zs, h1, h2⟩
def sAppend : MSem := fun x as ds Q => ∃ a i π xs p, x = .bor a i π (.lst a xs) ∧ as = [.dat p] ∧ xs.length < 16777216 ∧ upS ds i π (.lst a xs) (.lst a (xs ++ [p])) (Q (.dat .none))
theorem one_ws {α β : Type} {xs : List α} {x : α} {ws : List β} (h : xs.length = ws.length) (e : xs = [x]) : ∃ w, ws = [w] := by
  subst e
  match ws, h with
  | [w], _ => exact ⟨w, rfl⟩
theorem two_ws {α β : Type} {xs : List α} {x y : α} {ws : List β} (h : xs.length = ws.length) (e : xs = [x, y]) : ∃ w u, ws = [w, u] := by
  subst e
  match ws, h with
  | [w, u], _ => exact ⟨w, u, rfl⟩
theorem push_none {H0 H : Hp} {f0 : Addr → Prop} {σ : St} {ds : PSt} {vs : List V} {es : List D} (C : Cfg K H0 f0 H σ ds vs es) : Cfg K H0 f0 H σ ds (.non :: vs) (.dat .none :: es) := C.push (d := .dat .none) rfl fun _ => rfl
theorem sem_append : SemM K sAppend rAppend := by
  intro H0 f0 H σ ds ws vs as es v x Qd Q C hl ⟨a, i, π, xs, p, ex, e, hz, up⟩ k
  obtain ⟨ds', W, q⟩ := up.wr
  obtain ⟨w, rfl⟩ := one_ws hl e
  subst ex e
  have C' : Cfg K H0 f0 H σ ds (w :: v :: vs) (.dat p :: .bor a i π (.lst a xs) :: es) := C
  obtain rfl : v = .ref a := C'.pop.top
  obtain ⟨zs, h1, h2⟩ := W.there C'
  have hp : RepP K H p w := C'.top
  refine ⟨a, zs, w, rfl, rfl, h1, by rw [← h2.len, sizeLine_eq]; exact hz, k _ _ _ _ (push_none (C'.wrL W fun H' kp => ?_).pop) q⟩
  exact (RepPs.keep kp _ _ h2).append ⟨w, [], rfl, RepP.keep kp _ _ hp, rfl⟩
theorem mt_app : MtR X "list.append" rAppend := mt_append
def sInsert : MSem := fun x as ds Q => ∃ a s π xs i p, x = .bor a s π (.lst a xs) ∧ as = [.dat (.int i), .dat p] ∧ xs.length < 16777216 ∧ 0 ≤ i ∧ i < 2 ^ 63 ∧ upS ds s π (.lst a xs) (.lst a (xs.take i.toNat ++ [p] ++ xs.drop i.toNat)) (Q (.dat .none))
theorem sem_insert : SemM K sInsert (fun x vs H Q => ∃ (l : Addr) (xs : List V) (i : Int) (y : V), x = .ref l ∧ vs = [.int i, y] ∧ H l = some (.lst xs) ∧ xs.length < sizeLine ∧ 0 ≤ i ∧ i < 2 ^ 63 ∧
    Q .non (upd H l (.lst (xs.take i.toNat ++ [y] ++ xs.drop i.toNat)))) := by
  intro H0 f0 H σ ds ws vs as es v x Qd Q C hl ⟨a, s0, π, xs, i, p, ex, e, hz, h0, h63, up⟩ k
  obtain ⟨ds', W, q⟩ := up.wr
  obtain ⟨w, u, rfl⟩ := two_ws hl e
  subst ex e
  have C' : Cfg K H0 f0 H σ ds (w :: u :: v :: vs) (.dat (.int i) :: .dat p :: .bor a s0 π (.lst a xs) :: es) := C
  obtain rfl : w = .int i := C'.top
  obtain rfl : v = .ref a := C'.pop.pop.top
  have hp : RepP K H p u := C'.pop.top
  obtain ⟨zs, h1, h2⟩ := W.there C'
  refine ⟨a, zs, i, u, rfl, rfl, h1, by rw [← h2.len, sizeLine_eq]; exact hz, h0, h63, k _ _ _ _ (push_none (C'.pop.wrL W fun H' kp => ?_).pop) q⟩
  exact ((RepPs.take i.toNat (RepPs.keep kp _ _ h2)).append (show RepPs K H' [p] [u] from ⟨u, [], rfl, RepP.keep kp _ _ hp, rfl⟩)).append (RepPs.drop i.toNat (RepPs.keep kp _ _ h2))
/-- xs.extend(ys), ys a list -/
def sExtend : MSem := fun x as ds Q => ∃ a i π xs y b ys, x = .bor a i π (.lst a xs) ∧ as = [y] ∧ See ds y (.lst b ys) ∧ xs.length + ys.length ≤ 16777216 ∧ upS ds i π (.lst a xs) (.lst a (xs ++ ys)) (Q (.dat .none))
theorem sem_extend : SemM K sExtend rExtend := by
  intro H0 f0 H σ ds ws vs as es v x Qd Q C hl ⟨a, i, π, xs, y, b, ys, ex, e, s, hz, up⟩ k
  obtain ⟨ds', W, q⟩ := up.wr
  obtain ⟨w, rfl⟩ := one_ws hl e
  subst ex e
  have C' : Cfg K H0 f0 H σ ds (w :: v :: vs) (y :: .bor a i π (.lst a xs) :: es) := C
  obtain rfl : v = .ref a := C'.pop.top
  obtain ⟨zs, h1, h2⟩ := W.there C'
  obtain ⟨ew, us, h3, h4⟩ := s.rep C' C'.top
  subst ew
  refine ⟨a, b, zs, us, rfl, rfl, h1, h3, by rw [← h2.len, ← h4.len, sizeLine_eq]; exact hz, k _ _ _ _ (push_none (C'.wrL W fun H' kp => ?_).pop) q⟩
  exact (RepPs.keep kp _ _ h2).append (RepPs.keep kp _ _ h4)
/-- xs.pop(), xs.pop(0) -/
def sPop : MSem := fun x as ds Q => ∃ a i π xs p, x = .bor a i π (.lst a (xs ++ [p])) ∧ as = [] ∧ upS ds i π (.lst a (xs ++ [p])) (.lst a xs) (Q (.dat p))
theorem sem_pop : SemM K sPop rPop := by
  intro H0 f0 H σ ds ws vs as es v x Qd Q C hl ⟨a, i, π, xs, p, ex, e, up⟩ k
  obtain ⟨ds', W, q⟩ := up.wr
  subst ex e
  cases ws with
  | cons _ _ => cases hl
  | nil =>
    have C' : Cfg K H0 f0 H σ ds (v :: vs) (.bor a i π (.lst a (xs ++ [p])) :: es) := C
    obtain rfl : v = .ref a := C'.top
    obtain ⟨zs, h1, h2⟩ := W.there C'
    have hlen := h2.len
    rw [List.length_append] at hlen
    have hl1 : ([p] : List PyData).length = 1 := rfl
    obtain ⟨y, g1, g2⟩ := h2.get (i := xs.length) (d := p) (by simp)
    have ez : zs.dropLast = zs.take xs.length := by rw [List.dropLast_eq_take]; congr 1; omega
    have C2 := C'.wrL W (us := zs.dropLast) fun H' kp => by
      rw [ez]
      have := RepPs.take xs.length (RepPs.keep kp _ _ h2)
      rwa [List.take_left] at this
    have hm : ∀ u, H a = some u → ¬ Imm u := fun u e => by rw [h1] at e; cases e; exact id
    refine ⟨a, zs, y, rfl, rfl, h1, by rw [← g1]; congr 1; omega, k _ _ _ _ (C2.push (d := .dat p) (RepP.keep (keep_upd hm) _ _ g2) fun _ => rfl) q⟩
def sPop0 : MSem := fun x as ds Q => ∃ a i π xs p, x = .bor a i π (.lst a (p :: xs)) ∧ as = [.dat (.int 0)] ∧ upS ds i π (.lst a (p :: xs)) (.lst a xs) (Q (.dat p))
theorem sem_pop0 : SemM K sPop0 rPopAt := by
  intro H0 f0 H σ ds ws vs as es v x Qd Q C hl ⟨a, i, π, xs, p, ex, e, up⟩ k
  obtain ⟨ds', W, q⟩ := up.wr
  obtain ⟨w, rfl⟩ := one_ws hl e
  subst ex e
  have C' : Cfg K H0 f0 H σ ds (w :: v :: vs) (.dat (.int 0) :: .bor a i π (.lst a (p :: xs)) :: es) := C
  obtain rfl : v = .ref a := C'.pop.top
  obtain rfl : w = .int 0 := C'.top
  obtain ⟨zs, h1, y, r, e1, h3, h4⟩ := W.there C'
  subst e1
  have hm : ∀ u, H a = some u → ¬ Imm u := fun u e => by rw [h1] at e; cases e; exact id
  have C2 := C'.wrL W (us := r) fun H' kp => RepPs.keep kp _ _ h4
  refine ⟨a, y :: r, (0 : Int), (0 : Nat), y, rfl, rfl, h1, by decide, by decide, ?_, rfl, ?_⟩
  · unfold seqIndex?
    simp
    try omega
  · exact k _ _ _ _ (C2.pop.push (d := .dat p) (RepP.keep (keep_upd hm) _ _ h3) fun _ => rfl) q
/-- xs.index(y), flat -/
def sIndex : MSem := fun x as ds Q => ∃ a xs p j z, as = [.dat p] ∧ See ds x (.lst a xs) ∧ flatP p = true ∧ xs.all flatP = true ∧ xs[j]? = some z ∧ PyData.eqv z p = true ∧ (∀ m z', m < j → xs[m]? = some z' → PyData.eqv z' p = false) ∧ Q (.dat (.int (j : Nat))) ds

/-! ### stores to an item -/
inductive SetT : D → D → D → D → Prop
  | lst {a : Addr} {xs : List PyData} {i : Int} {j : Nat} {p : PyData} : ixN xs.length i = some j → SetT (.lst a xs) (.dat (.int i)) (.dat p) (.lst a (xs.set j p))
  | own {a : Addr} {xs : List D} {i : Int} {j : Nat} {d : D} : ixN xs.length i = some j → SetT (.lsD a xs) (.dat (.int i)) d (.lsD a (xs.set j d))
  | key {a : Addr} {kvs : List (Key × PyData)} {k : Key} {p q : PyData} : p = keyP k → kvs.length < 16777216 → SetT (.dk a kvs) (.dat p) (.dat q) (.dk a (store kvs k q))
def gSubD (to ti : TEP) : TGP := fun d ds Q => to ds fun x ds1 => ti ds1 fun y ds2 => ∃ a i π t t', x = .bor a i π t ∧ root t = some a ∧ SetT t y d t' ∧ upS ds2 i π t t' Q
def rSetK : V → V → V → Hp → (Hp → Prop) → Prop := fun o i v H Q => ∃ a H', o = .ref a ∧ DPut H a i v H' ∧ Q H'
theorem set_dict (hu : X.A.units + 1 < cLine) : PSet X rSetK := by
  intro pins s σ H o i v ov iv u Q I ro ri rv ⟨a, H', e, g, q⟩
  subst e
  obtain rfl : ov = Value.ref a := ro
  exact d_setItem hu I g ri rv fun s4 I4 => ⟨H', I4, q⟩
theorem pset_or {r r' : TSet} (h : PSet X r) (h' : PSet X r') : PSet X (fun o i v H Q => r o i v H Q ∨ r' o i v H Q) := by
  intro pins s σ H o i v ov iv u Q I ro ri rv q
  rcases q with q | q
  · exact h pins s σ H o i v ov iv u Q I ro ri rv q
  · exact h' pins s σ H o i v ov iv u Q I ro ri rv q
theorem setT_root {t y d t' : D} {a : Addr} (h : SetT t y d t') (r : root t = some a) : root t' = some a := by
  cases h <;> exact r
theorem RepDs.setD : ∀ {H : Hp} {ds : List D} {vs : List V} {d : D} {v : V} (i : Nat), RepDs K H ds vs → RepD K H d v → RepDs K H (ds.set i d) (vs.set i v)
  | _, [], _, _, _, i, h, _ => by subst h; cases i <;> rfl
  | _, e :: ds, _, _, _, 0, ⟨w, r, q, h1, h2⟩, h => by subst q; exact ⟨_, _, rfl, h, h2⟩
  | _, e :: ds, _, _, _, i + 1, ⟨w, r, q, h1, h2⟩, h => by subst q; exact ⟨_, _, rfl, h1, RepDs.setD i h2 h⟩
theorem cDs_setLe (b : Addr) : ∀ (xs : List D) (j : Nat) (d : D), cDs b (xs.set j d) ≤ cDs b xs + cD b d
  | [], _, _ => Nat.zero_le _
  | x :: r, 0, d => by show cD b d + cDs b r ≤ (cD b x + cDs b r) + cD b d; omega
  | x :: r, j + 1, d => by
    have := cDs_setLe b r j d
    show cD b x + cDs b (r.set j d) ≤ (cD b x + cDs b r) + cD b d
    omega
theorem dg_sub {o i : Expr} {ti : TEP} {pos : Pos} (hu : X.A.units + 1 < cLine) (ho : PEd X o to) (hi : PEd X i ti)
    (ha : ∀ v, assign (.Subscript o i pos) X.env v = (do
      let ov ← holding [v] (eval o X.env)
      let iv ← holding [v, ov] (eval i X.env)
      standAt pos
      holding [v, ov, iv] (setItem ov iv v)
      release [v, ov, iv] []) := by intro _; rfl) : PGd X (.Subscript o i pos) [] (gSubD to ti) :=
  pg_imp (pg_sub (t := fun o i v H Q => rSetL o i v H Q ∨ rSetK o i v H Q) ho hi (pset_or set_list (set_dict hu)) ha) fun v σ H Q ⟨H0, f0, ds, vs, es, d, Qd, C, q, k⟩ =>
    ⟨H0, f0, ds, _, _, _, C, q, fun w x H1 ds1 C1 q1 => ⟨H0, f0, ds1, _, _, _, C1, q1, fun u y H2 ds2 C2 ⟨a, i0, π, t, t', ex, hr, hs, up⟩ => by
      obtain ⟨ds3, W, q2⟩ := up.wr
      subst ex
      obtain rfl : w = .ref a := C2.pop.top
      have C3 : Cfg (kw X) H0 f0 H2 σ ds2 (v :: vs) (d :: es) := C2.pop.pop
      obtain ⟨i', d0, d', hd, sw, _⟩ := id W
      obtain ⟨v0, _, h0⟩ := C3.sl.get hd
      obtain ⟨w0, ht0⟩ := sw.sub.rep h0
      have ht : RepD (kw X) H2 t (.ref a) := by rw [root_rep hr ht0] at ht0; exact ht0
      cases hs with
      | lst hj =>
        obtain ⟨_, zs, h1, h2⟩ := ht
        cases hr
        obtain rfl : u = .int _ := C2.top
        have hv : RepP (kw X) H2 _ v := C3.top
        refine .inl ⟨_, zs, _, _, rfl, rfl, h1, by rw [← h2.len]; exact hj, k σ _ ds3 (Keeps.refl _ _) (C3.wrL W fun H' kp => RepPs.set _ (RepPs.keep kp _ _ h2) (RepP.keep kp _ _ hv)) q2⟩
      | @own a0 xs i j d1 hj =>
        obtain ⟨_, zs, h1, h2⟩ := ht
        cases hr
        obtain rfl : u = .int _ := C2.top
        have hl : xs.length = zs.length := h2.len
        refine .inl ⟨_, zs, _, _, rfl, rfl, h1, by rw [← hl]; exact hj, k σ _ ds3 (Keeps.refl _ _) (C3.wr W rfl (fun r1 rc r2 => ?_) fun b => ?_) q2⟩
        · obtain ⟨_, zs', h3, h4⟩ := r1
          rw [h1] at h3; cases h3
          have hm : ∀ u, H2 a = some u → ¬ Imm u := fun u e => by rw [h1] at e; cases e; exact id
          refine ⟨rfl, _, upd_same, RepDs.setD _ (RepDs.keep (keep_upd hm) _ _ (fun b u hb e => ?_) h2) r2⟩
          by_cases z : b = a
          · subst z
            have := rc b
            have : one b b + cDs b xs ≤ 1 := this
            rw [one_same] at this
            omega
          · rw [upd_ne z]; exact e
        · have := cDs_setLe b xs j d
          show one b _ + cDs b (xs.set j d) ≤ (one b _ + cDs b xs) + cD b d
          omega
      | @key a0 kvs k0 p0 q0 hk hz =>
        obtain ⟨_, ws, h1, h2⟩ := ht
        cases hr
        subst hk
        have ek := keyP_rep (show RepP (kw X) H2 (keyP _) u from C2.top)
        subst ek
        have hv : RepP (kw X) H2 _ v := C3.top
        have hm : ∀ u, H2 _ = some u → ¬ Imm u := fun u e => by rw [h1] at e; cases e; exact id
        refine .inr ⟨_, _, rfl, DPut.k h1 (by rw [← h2.len, sizeLine_eq]; exact hz), k σ _ ds3 (Keeps.refl _ _) (C3.wr W rfl (fun _ _ _ => ⟨rfl, _, upd_same, ?_⟩) fun b => by show one b _ ≤ one b _ + cD b _; omega) q2⟩
        have keepKV : RepKV (kw X) (upd H2 a (.dK (putK ws k0 v))) kvs ws := RepKV.keep (keep_upd hm) _ _ h2
        exact RepKV.store k0 keepKV (RepP.keep (keep_upd hm) _ _ hv)⟩⟩
end
end PD
set_option Elab.async false
set_option linter.all false
set_option maxRecDepth 100000
set_option maxHeartbeats 2000000
/-! PD, extras at the library's level: enumerate of a tuple, t.index(x) of a tuple, len(set(t)). -/
namespace PD
open PySem L2

/-! ### enumerate(t), t a tuple -/
theorem meets_enumT (l : Addr) (items : Array Value) :
    Meets (Builtin.«enumerate.__new__» ⟨[.type "enumerate", .ref l], []⟩) (fun _ R s => s.heap.IsTuple l items ∧
      R (.ok (.ret (.ref (s.heap.push { cls := .type "tuple_iterator", data := .fields #[.ref l, .int 0 0] }).objs.size)))
        { s with heap := (s.heap.push { cls := .type "tuple_iterator", data := .fields #[.ref l, .int 0 0] }).push { cls := .type "enumerate", data := .fields #[.none, .bool false, .ref s.heap.objs.size, rawInt 0, .none, .none] } }) :=
  .of_wp fun prog w A R s h => by
    obtain ⟨hp, g, d, tk, os⟩ := s; obtain ⟨h1, h⟩ := h
    have hsub := sub_enumerate
    have q1 : ∀ {A' : Around} {E : Value → Shared → Prop} {Q : Value → Shared → Prop}, Q (.ref hp.objs.size) ⟨hp.push { cls := .type "tuple_iterator", data := .fields #[.ref l, .int 0 0] }, g, d, tk, os⟩ → wpAny (model prog w) A' (pyIter (.ref l)) Q E ⟨hp, g, d, tk, os⟩ :=
      fun q => (begins_tuple l items).iter prog w _ _ ⟨hp, g, d, tk, os⟩ _ h1 q
    wp_walk using q1
    refine wpAny_stack_any fun st => wpAny_pure ?_
    split
    · rename_i c _ _ _ _ _
      cases (c == Value.type "enumerate") <;> (wp_walk using q1; exact ⟨_, rfl, h⟩)
    · wp_walk using q1
      exact ⟨_, rfl, h⟩
section
variable {prog : Program} {w : World} {A : Around} {E : Value → Shared → Prop} {s : Shared}
theorem call_enumT {l : Addr} {items : Array Value} {Q : Value → Shared → Prop} (hL : s.heap.IsTuple l items)
    (h : ∀ h', IsEnum h' (s.heap.objs.size + 1) s.heap.objs.size 0 .none → h'.IsTupleIter s.heap.objs.size l 0 → h'.objs.size = s.heap.objs.size + 2 →
      (∀ b o, s.heap.get? b = some o → h'.get? b = some o) → Q (.ref (s.heap.objs.size + 1)) { s with heap := h' }) :
    wpAny (model prog w) A (call (.type "enumerate") [.ref l]) Q E s := by
  refine callType_new F.called_enumerate (by decide) (F.typeCall_enumerate_1 _) (F.newCall_enumerate_1 _) (fun obj => F.args_object_init_2 obj _) F.entry_enumerate_new (meets_enumT l items) ⟨hL, ?_⟩
  generalize hit : ({ cls := .type "tuple_iterator", data := .fields #[.ref l, .int 0 0] } : Obj) = oi
  have hf : oi.isFreed = false := by rw [← hit]; rfl
  have hz : (s.heap.push oi).objs.size = s.heap.objs.size + 1 := Heap.size_push ..
  show _ ∧ _
  rw [hz]
  have he : IsEnum ((s.heap.push oi).push { cls := .type "enumerate", data := .fields #[.none, .bool false, .ref s.heap.objs.size, rawInt 0, .none, .none] }) (s.heap.objs.size + 1) s.heap.objs.size 0 .none := by
    have := Heap.get?_push_size (s.heap.push oi) (o := { cls := .type "enumerate", data := .fields #[.none, .bool false, .ref s.heap.objs.size, rawInt 0, .none, .none] }) rfl
    rw [hz] at this
    exact this
  refine ⟨⟨_, he, rfl⟩, h _ he ⟨oi, Heap.get?_push_of_some _ (Heap.get?_push_size _ hf), (by subst hit; rfl), (by subst hit; rfl)⟩ (by rw [Heap.size_push, hz]) fun b o x => Heap.get?_push_of_some _ (Heap.get?_push_of_some _ x)⟩
end
/-- the tuple at a, the items in new pairs -/
def IteT (K : PySem.W.Frag) (a : Addr) : It :=
  ⟨fun i H => ∃ (xs : List V) (x : V), SqT K H a xs ∧ xs[i]? = some x, fun i H v H' => ∃ T x, v = .ref T ∧ H T = none ∧ H' = upd H T (.tup [.int (i : Nat), x]) ∧ ∀ xs, SqT K H a xs → xs[i]? = some x, fun i H => ∃ xs : List V, SqT K H a xs ∧ xs.length = i⟩
theorem turn_enumT {P : Program} {w : World} {K : PySem.W.Frag} {elts : List Expr} {kk : Nat} {tpos : Pos} (a e it : Addr) (ai : a ≠ it) :
    Turn P w K (.Tuple elts kk tpos) (IteT K a) [e, it] e (fun i h => (∃ old, IsEnum h e it ((i : Nat) : Int) old) ∧ h.IsTupleIter it a i ∧ e ≠ it) where
  mem := by simp
  obj := fun i h ⟨⟨old, he⟩, ⟨o, ho, hc, hd⟩, _⟩ b hb => by
    rcases (show b = e ∨ b = it by simpa using hb) with z | z
    · subst z; exact ⟨_, he, fun v q => nomatch q⟩
    · subst z; exact ⟨o, ho, fun v q => by rw [hd] at q; cases q⟩
  keep := fun i h h' ⟨⟨old, he⟩, hi, hne⟩ k => ⟨⟨old, k e (by simp) _ he⟩, hi.at fun o q => k it (by simp) o q, hne⟩
  item := by
    intro X hP hw hK hc i pins s σ H E I hf ⟨⟨old, he⟩, hit, hne⟩ ⟨xs, x, hq, hx⟩
    subst hP hw hK
    obtain ⟨its, rv, p, hz⟩ := I.tuple hq
    have p' : s.heap.IsTuple a its.toArray := p
    obtain ⟨u, hu, ru⟩ := rv.get hx
    have hi : i < its.toArray.size := by have := (List.getElem?_eq_some_iff.mp hu).1; simpa using this
    have hel : e < s.heap.objs.size := Heap.lt_size he
    have hil : it < s.heap.objs.size := by obtain ⟨_, q, _⟩ := hit; exact Heap.lt_size q
    have ae : e ≠ a := by
      rintro rfl
      obtain ⟨o', q1, q2, _⟩ := p
      have q3 : s.heap.get? e = _ := he
      rw [q3] at q1
      have q4 := Option.some.inj q1
      subst q4
      have q5 : Value.type "enumerate" = .type "tuple" := q2
      exact absurd q5 (by decide +kernel)
    have D := Draws.tuple (prog := X.prog) (w := X.w) (A := X.A.in1) (I.ok.hd hc) it a ai its.toArray
    refine wpAny_pyNext_enum_itemD D he ⟨hit, p'⟩ hi hne (by simp [hne, ae]) fun y h' tk hy ho hst hT hsz hk => ?_
    have ey : y = u := by
      have hy' : its.toArray[i]? = some y := hy
      rw [List.getElem?_toArray, hu] at hy'
      exact (Option.some.inj hy').symm
    subst ey
    refine ⟨_, rfl, wpAny_letOwnedTupleGo_enum (s := { s with heap := h', toks := tk + 1 }) ho fun h2 he2 sb => ?_⟩
    have hT2 : h2.get? s.heap.objs.size = some { cls := .type "tuple", data := .seq #[.int i tk, y] } := (sb.2 _ (Nat.ne_of_gt hel)).trans hT
    have new : ObjOk X.prog X.w (upd H s.heap.objs.size (.tup [.int (i : Nat), x])) h2 s.heap.objs.size (.tup [.int (i : Nat), x]) :=
      ⟨by show 2 ≤ sizeLine; decide, [.int i tk, y], .cons ⟨_, rfl⟩ (.cons ru .nil), ⟨_, hT2, rfl, _, rfl⟩⟩
    have keep : ∀ b ob, b ∉ [e, it] → s.heap.get? b = some ob → h2.get? b = some ob := fun b ob hb q => (sb.2 b (fun z => hb (by simp [z]))).trans (hk b ob (fun z => hb (by simp [z])) (fun z => hb (by simp [z])) q)
    have I1 : Inv X pins σ (upd H s.heap.objs.size (.tup [.int (i : Nat), x])) { s with heap := h2, toks := tk + 1 } := I.turnedNew (ch := [e, it]) keep hf (Nat.le_refl _) new
    refine ⟨.ref s.heap.objs.size, _, I1, rfl, ⟨_, x, rfl, I.hok.fresh (Nat.le_refl _), rfl, fun ys hy => by rw [I.tuple_inj hy hq]; exact hx⟩, ⟨⟨y, ?_⟩, hst.1.at fun o q => (sb.2 it (Ne.symm hne)).trans q, hne⟩, fun b hb => ?_⟩
    · have e1 : ((i + 1 : Nat) : Int) = (i : Int) + 1 := by omega
      rw [e1]; exact he2
    · have hb' : b < s.heap.objs.size := by
        rcases (show b = e ∨ b = it by simpa using hb) with z | z
        · subst z; exact hel
        · subst z; exact hil
      rw [upd_ne (Nat.ne_of_lt hb')]
      exact (hf b hb).1
  done := by
    intro X hP hw hK hc i pins s σ H E I hf ⟨⟨old, he⟩, hit, hne⟩ ⟨xs, hq, hx⟩
    subst hP hw hK
    obtain ⟨its, rv, p, hz⟩ := I.tuple hq
    have p' : s.heap.IsTuple a its.toArray := p
    obtain ⟨f0, f1, f2, f3, f4, f5⟩ := hf it (by simp)
    have D := Draws.tuple (prog := X.prog) (w := X.w) (A := X.A.in1) (I.ok.hd hc) it a ai its.toArray
    have en : i = its.toArray.size := by rw [← hx, rv.length, List.size_toArray]
    exact wpAny_pyNext_enum_endD D he ⟨by rw [← en]; exact hit, p'⟩ fun h' eb => ⟨rfl, I.turned (t' := s.toks) (fun b o hb q => eb b o hb q) f0 f1 f3 f4 f5⟩
  self := fun A i s Q E ⟨⟨_, he⟩, _⟩ h => wpAny_pyIter_enum he h
def iEnT (K : PySem.W.Frag) (ta : TA) : TI := fun σ H R => ta σ H fun vs H1 => ∃ a xs, vs = [.ref a] ∧ SqT K H1 a xs ∧ R (IteT K a) H1
theorem pi_enumT {X : Cx} {e : Expr} {ta : TA} {p pos tpos : Pos} {elts : List Expr} {kk : Nat} (hg : Gl X "enumerate") (hm : X.mg "enumerate" = none) (ha : PA X [e] ta) (hs : starEach [e] X.env = [(false, eval e X.env)] := by rfl) :
    PI X (.Tuple elts kk tpos) (.Call (.Name "enumerate" p) [e] [] pos) (iEnT X.K ta) := by
  refine ⟨fun pins s σ H R I h => PyProof.Rows.Call_ (ld_blt I hg hm PyProof.Rows.boot_enumerate (PyProof.Rows.callWith_type1 (thn (ha.run pos pins s σ H _ I h) fun us s1 ⟨vs, H1, I1, r1, a, xs, ex, hq, q⟩ => ?_) hs rfl))⟩
  subst ex
  obtain ⟨u, rfl, r⟩ := Vals.one r1
  obtain rfl : u = .ref a := r
  obtain ⟨its, rv, p', hz⟩ := I1.tuple hq
  have pt : s1.heap.IsTuple a its.toArray := p'
  have al : a < s1.heap.objs.size := p'.lt
  refine call_enumT pt fun h' he hit hsz hk => wpAny_pyIter_enum he ?_
  have I2 : Inv X pins σ H1 { s1 with heap := h' } := I1.kept (t' := s1.toks) hk
  refine ⟨s1.heap.objs.size + 1, [s1.heap.objs.size + 1, s1.heap.objs.size], _, _, H1, rfl, I2, turn_enumT a (s1.heap.objs.size + 1) s1.heap.objs.size (Nat.ne_of_lt al), ⟨⟨.none, he⟩, hit, Nat.succ_ne_self _⟩, fun b hb => ?_, q⟩
  have hle : s1.heap.objs.size ≤ b := by
    rcases (show b = s1.heap.objs.size + 1 ∨ b = s1.heap.objs.size by simpa using hb) with z | z
    · rw [z]; exact Nat.le_add_right _ _
    · rw [z]; exact Nat.le_refl _
  exact I1.fpOk hle (I1.hok.fresh hle)
/-- enumerate of a list or a tuple, over pure data -/
def enumD : Nat → List PyData → List D
  | _, [] => []
  | i, p :: ps => .pr (.int (i : Nat)) p :: enumD (i + 1) ps
theorem enumD_len : ∀ (i : Nat) (ps : List PyData), (enumD i ps).length = ps.length
  | _, [] => rfl
  | i, p :: ps => by show (enumD (i + 1) ps).length + 1 = ps.length + 1; rw [enumD_len]
theorem enumD_get : ∀ (i : Nat) (ps : List PyData) (j : Nat), (enumD i ps)[j]? = ps[j]?.map fun p => .pr (.int ((i + j : Nat) : Int)) p
  | _, [], j => by simp [enumD]
  | i, p :: ps, 0 => by simp [enumD]
  | i, p :: ps, j + 1 => by
    show (enumD (i + 1) ps)[j]? = ps[j]?.map _
    rw [enumD_get (i + 1) ps j]
    congr 1
    funext q
    have : i + 1 + j = i + (j + 1) := by omega
    rw [this]
def iEnumD (t : TAP) : TIP := fun ds R => t ds fun as ds1 => ∃ x p xs, as = [x] ∧ x = .dat p ∧ p = .tuple xs ∧ R (enumD 0 xs) (fun _ => True) ds1
theorem Cfg.pair {K : KW} {H0 H : Hp} {f0 : Addr → Prop} {σ : St} {ds : PSt} {vs : List V} {es : List D} {T : Addr} {p q : PyData} {x y : V} (C : Cfg K H0 f0 H σ ds vs es) (hT : H T = none) (hp : RepP K H p x) (hq : RepP K H q y) :
    Cfg K H0 f0 (upd H T (.tup [x, y])) σ ds (.ref T :: vs) (.pr p q :: es) :=
  C.pushNew (grow_new hT) ⟨T, x, y, rfl, upd_same, RepP.keep (fun a u h _ => grow_new hT a u h) _ _ hp, RepP.keep (fun a u h _ => grow_new hT a u h) _ _ hq⟩ (fun a => Nat.zero_le _) fun a h => absurd (show 1 ≤ 0 from h) (by omega)
theorem di_enumT {X : Cx} {e : Expr} {t : TAP} {p pos tpos : Pos} {elts : List Expr} {kk : Nat} (hg : Gl X "enumerate") (hm : X.mg "enumerate" = none) (ha : PAd X [e] t) (hs : starEach [e] X.env = [(false, eval e X.env)] := by rfl) :
    PId X (.Tuple elts kk tpos) (.Call (.Name "enumerate" p) [e] [] pos) (iEnumD t) :=
  pi_imp (pi_enumT hg hm ha hs) fun σ H R ⟨H0, f0, ds, vs, es, Rd, C, q, k⟩ => ⟨H0, f0, ds, vs, es, _, C, q, fun ws as H1 ds1 C1 hl ⟨x, d, xs, e1, e2, e3, q1⟩ => by
    subst e1 e2 e3
    obtain ⟨w, rfl⟩ := one_ws hl rfl
    have C2 : Cfg (kw X) H0 f0 H1 σ ds1 (w :: vs) (.dat (.tuple xs) :: es) := C1
    obtain ⟨a, zs, ew, h1, h2⟩ := C2.top
    subst ew
    refine ⟨a, zs, rfl, h1.sq, k (IteT X.K a) H1 ds1 [.ref a] [.dat (.tuple xs)] _ _ C1 rfl ⟨fun i σ' H' s vs' es' hi C' _ => ?_, fun σ' H' s vs' es' C' _ => ?_, fun i σ' H' s vs' es' y H2 p hp C' _ hy => ?_⟩ q1⟩
    · obtain ⟨a2, zs2, e4, h3, h4⟩ := C'.top
      cases e4
      rw [enumD_len] at hi
      obtain ⟨z, hz, _⟩ := h4.get (i := i) (d := xs[i]) (by simp [hi])
      exact ⟨zs2, z, h3.sq, hz⟩
    · obtain ⟨a2, zs2, e4, h3, h4⟩ := C'.top
      cases e4
      exact ⟨zs2, h3.sq, by rw [enumD_len]; exact h4.len.symm⟩
    · obtain ⟨a2, zs2, e4, h3, h4⟩ := C'.top
      cases e4
      obtain ⟨T, z, ey, hT, eH, hz⟩ := hy
      subst ey eH
      rw [enumD_get] at hp
      cases ex : xs[i]? with
      | none => rw [ex] at hp; cases hp
      | some pd =>
        rw [ex] at hp
        cases hp
        obtain ⟨z2, g1, g2⟩ := h4.get ex
        have := hz zs2 h3.sq
        rw [g1] at this
        cases this
        rw [Nat.zero_add]
        exact C'.pair hT rfl g2⟩

/-! ### t.index(x), t a tuple of flat data -/
def tTix (to : TE) (te : TE) : TE := fun σ H Q => to σ H fun x H1 => ∃ a zs, x = .ref a ∧ TupAt H1 a zs ∧ te σ H1 fun y H2 => ∃ zs j z, TupAt H2 a zs ∧ flatV y = true ∧ zs.all flatV = true ∧ zs[j]? = some z ∧ eqV z y = true ∧ (∀ m z', m < j → zs[m]? = some z' → eqV z' y = false) ∧ Q (.int (j : Nat)) H2
theorem pe_tix {X : Cx} {o e : Expr} {to te : TE} {apos cpos : Pos} (ho : PE X o to) (he : PE X e te) (hbase : attributeBase o "index" X.env (eval o X.env) = eval o X.env := by rfl) (hline : (apos.endLine == cpos.line) = true := by rfl)
    (htrees : backTo cpos (starEach [e] X.env) = [(false, eval e X.env)] := by rfl) : PE X (.Call (.Attribute o "index" apos) [e] [] cpos) (tTix to te) := by
  refine ⟨fun pins s σ H Q I h => wpAny_Call_method1_late hbase hline htrees (thn (ho.run pins s σ H _ I h) fun v s1 ⟨x, H1, I1, r1, a, zs, ex, ht, q1⟩ => ?_)⟩
  subst ex
  obtain rfl : v = .ref a := r1
  obtain ⟨o1, hd1, ho1⟩ := id ht
  obtain ⟨g1, z0, its0, rv0, o0, g2, g3, n0, g4⟩ := I1.hok a _ ho1
  refine ⟨"tuple", "tuple.index", PySem.F.plainAttrs_tuple, PySem.F.slot_tuple_index, PySem.F.type_tuple_index, ⟨o0, g2, g3⟩, fun b eb => ?_, Calls.callWith_builtin rfl (Calls.evalArgs_plain (Calls.spliced_cons (thn (he.run pins s1 σ H1 _ I1 q1) fun u s2 ⟨y, H2, I2, r2, zs, j, z, ht2, f1, f2, hj, hz, hno, q2⟩ => Calls.spliced_nil ?_)))⟩
  · cases eb
    exact ⟨o1, g1, hd1⟩
  · obtain ⟨its, rv, p, _⟩ := I2.tuple (TupAt.sq ht2 (K := X.K))
    obtain ⟨⟨cls, dd, dt, sl⟩, hob, hcl, n, hdt⟩ := p
    simp only at hcl hdt
    subst hcl hdt
    obtain ⟨u0, hu0, _⟩ := rv.get hj
    have hjs : j < its.toArray.size := by have := (List.getElem?_eq_some_iff.mp hu0).1; simpa using this
    have at' : ∀ (m : Nat) (hm : m < its.toArray.size) (z' : V), zs[m]? = some z' → eqU y its.toArray[m] = eqV z' y := fun m hm z' e => by
      obtain ⟨w', hw, rw'⟩ := rv.get e
      have e2 := (List.getElem?_eq_some_iff.mp hw).2
      have fz : flatV z' = true := List.all_eq_true.mp f2 z' (List.mem_of_getElem? e)
      rw [← eqU_of rw' fz, ← e2]
      simp
    refine call_meets PySem.F.slot_tuple_index ⟨_, hob, rfl⟩ PySem.F.entry_tuple_index (PySem.F.args_tuple_index_2 _ _) (TI.tuple_indexAt a its.toArray n dd sl u (eqU y) j hjs ?_ ?_)
      ⟨hob, fun w hw => mem_eqAt (x := y) r2 f1 rv f2 w (by simpa using hw), ⟨.int (j : Nat), H2, I2.tok _, ⟨_, rfl⟩, q2⟩⟩
    · rw [at' j hjs z hj]; exact hz
    · intro m hm hmj
      have hl := rv.length
      obtain ⟨z', e⟩ : ∃ z', zs[m]? = some z' := ⟨zs[m]'(by rw [hl]; simpa using hm), by simp⟩
      rw [at' m hm z' e]
      exact hno m z' hmj e
def eTix (to te : TEP) : TEP := fun ds Q => to ds fun x ds1 => ∃ xs, x = .dat (.tuple xs) ∧ te ds1 fun y ds2 => ∃ p j z, y = .dat p ∧ flatP p = true ∧ xs.all flatP = true ∧ xs[j]? = some z ∧ PyData.eqv z p = true ∧ (∀ m z', m < j → xs[m]? = some z' → PyData.eqv z' p = false) ∧ Q (.dat (.int (j : Nat))) ds2
theorem d_tix {X : Cx} {o e : Expr} {to te : TEP} {apos cpos : Pos} (ho : PEd X o to) (he : PEd X e te) (hbase : attributeBase o "index" X.env (eval o X.env) = eval o X.env := by rfl) (hline : (apos.endLine == cpos.line) = true := by rfl)
    (htrees : backTo cpos (starEach [e] X.env) = [(false, eval e X.env)] := by rfl) : PEd X (.Call (.Attribute o "index" apos) [e] [] cpos) (eTix to te) :=
  pe_imp (pe_tix ho he hbase hline htrees) fun σ H Q ⟨H0, f0, ds, vs, es, Qd, C, q, k⟩ => ⟨H0, f0, ds, vs, es, _, C, q, fun v x H1 ds1 C1 ⟨xs, ex, q1⟩ => by
    subst ex
    obtain ⟨a, zs, ev, h1, h2⟩ := C1.top
    subst ev
    refine ⟨a, zs, rfl, h1, H0, f0, ds1, _, _, _, C1, q1, fun w y H2 ds2 C2 ⟨p, j, z, ey, f1, f2, hj, hz, hno, q2⟩ => ?_⟩
    subst ey
    obtain ⟨a2, zs2, ev2, h3, h4⟩ := C2.pop.top
    cases ev2
    have hp : RepP (kw X) H2 p w := C2.top
    obtain ⟨zv, g1, g2⟩ := h4.get hj
    have fz : ∀ z', z' ∈ xs → flatP z' = true := fun z' hm => List.all_eq_true.mp f2 z' hm
    refine ⟨zs2, j, zv, h3, flat_rep hp f1, flat_reps h4 f2, g1, by rw [eqV_rep g2 hp (fz z (List.mem_of_getElem? hj)) f1]; exact hz, fun m z' hm e => ?_, k _ _ _ _ (C2.pop.pop.push (d := .dat (.int _)) rfl fun _ => rfl) q2⟩
    obtain ⟨zd, g3, g4⟩ := h4.getV e
    rw [eqV_rep g4 hp (fz zd (List.mem_of_getElem? g3)) f1]
    exact hno m zd hm g3⟩
end PD
set_option Elab.async false
set_option linter.all false
set_option maxRecDepth 100000
set_option maxHeartbeats 2000000
/-! PD, ninth part: augmented names, + and * of lists and tuples, slices, ranges as values, len(set(..)). -/
namespace PD
open PySem L2
section
variable {X : Cx} {K : KW} {o e a b : Expr} {l : List Expr} {to ta tb te : TEP} {t : TAP} {pos p : Pos}
/-- x op= n of ints -/
def tAugI (i : Nat) (g : Int → Int → Int) (te : TEP) : TSP := fun E ds => ∃ m, ds[i]? = some (some (.dat (.int m))) ∧ te ds fun y ds1 => ∃ n, y = .dat (.int n) ∧ E.nx (ds1.set i (some (.dat (.int (g m n)))))
theorem ds_augI {i : Nat} {x : Str} {op : Operator} {g : Int → Int → Int} {pos' : Pos} (hN : X.N.Nodup) (hi : X.N[i]? = some x) (hx : Loc X.env.scope x) (he : PEd X e te) (ho : PIp X op (ipI g)) (hf : X.fn x = true ∨ X.env.scope.names.lookup x = some .local := by first | exact .inl rfl | exact .inr rfl | assumption) :
    PSd X (.AugAssign (.Name x pos') op e pos) (tAugI i g te) :=
  ps_imp (ps_aug hN hi hx he ho hf) fun D' σ H ⟨H0, f0, ds, vs, es, E, C, ⟨m, e1, q⟩, L⟩ => by
    obtain ⟨v, h1, h2⟩ := C.sl.get e1
    obtain rfl : v = .int m := h2
    refine ⟨_, h1, H0, f0, ds, vs, es, _, C, q, fun u y H1 ds1 C1 ⟨n, e2, q1⟩ => ?_⟩
    subst e2
    obtain rfl : u = .int n := C1.top
    exact ⟨m, n, rfl, rfl, L.nx _ H1 _ ((C1.pop.push (d := .dat (.int (g m n))) (v := .int (g m n)) rfl fun _ => rfl).set i) q1⟩
/-! ### + and * -/
def sAdd : BSem := fun x y ds Q => (∃ i j, x = .dat (.int i) ∧ y = .dat (.int j) ∧ Q (.dat (.int (i + j))) ds) ∨
  (∃ xs ys, x = .dat (.tuple xs) ∧ y = .dat (.tuple ys) ∧ xs.length + ys.length ≤ 16777216 ∧ Q (.dat (.tuple (xs ++ ys))) ds) ∨
  (∃ a xs b ys, See ds x (.lst a xs) ∧ See ds y (.lst b ys) ∧ xs.length + ys.length ≤ 16777216 ∧ ∀ c, Q (.lst c (xs ++ ys)) ds) ∨
  (∃ s t, x = .dat (.str s) ∧ y = .dat (.str t) ∧ s.length + t.length ≤ 16777216 ∧ Q (.dat (.str (s ++ t))) ds)
/-- t + u of tuples, the new one known by its object -/
def rCatF (K : PySem.W.Frag) : R2 := fun x y H Q => ∃ a b xs ys, x = .ref a ∧ y = .ref b ∧ SqT K H a xs ∧ SqT K H b ys ∧ xs.length + ys.length ≤ sizeLine ∧
  (xs = [] → Q (.ref b) H) ∧ (xs ≠ [] → ys = [] → Q (.ref a) H) ∧ (xs ≠ [] → ys ≠ [] → ∀ p o, H p = none → o.dict = none → Q (.ref p) (upd H p (.frz o (.tup (xs ++ ys)))))
theorem op_catF : OpR X (binaryOp .Add) (rCatF X.K) := by
  intro pins s σ H x y v u Q I rx ry ⟨a, b, xs, ys, ex, ey, ha, hb, hz, q0, q1, q2⟩
  subst ex ey
  by_cases hx : xs = []
  · exact op_catA pins s σ H _ _ v u Q I rx ry ⟨a, b, xs, ys, rfl, rfl, ha, hb, hz, q0, q1, fun h => absurd hx h⟩
  · by_cases hy : ys = []
    · exact op_catA pins s σ H _ _ v u Q I rx ry ⟨a, b, xs, ys, rfl, rfl, ha, hb, hz, q0, q1, fun _ h => absurd hy h⟩
    · obtain rfl : v = .ref a := rx
      obtain rfl : u = .ref b := ry
      obtain ⟨its, r1, p1, _⟩ := I.tuple ha
      obtain ⟨its2, r2, p2, _⟩ := I.tuple hb
      refine HT.cat_tup p1 p2 (fun z => hx (r1.nil_iff.mp z)) (fun z => absurd (r2.nil_iff.mp z) hy) (fun z => ?_) (by rw [← r1.length, ← r2.length]; exact hz)
      exact ⟨.ref _, _, Inv.ftup (tk := s.toks) I (r1.append r2) (by rw [List.length_append]; exact hz), rfl, q2 hx hy _ _ (I.hok.fresh (Nat.le_refl _)) rfl⟩
theorem sem_add : Sem2 K sAdd (fun x y H Q => rI0 (fun i j => .int (i + j)) x y H Q ∨ rCatF K.K x y H Q ∨ rCat x y H Q ∨ (∃ i j, x = .str i ∧ y = .str j ∧ i.length + j.length ≤ sizeLine ∧ Q (.str (i ++ j)) H)) := by
  intro H0 f0 H σ ds v w vs x y es Qd Q C h k
  rcases h with ⟨i, j, e1, e2, q⟩ | ⟨xs, ys, e1, e2, hz, q⟩ | ⟨a, xs, b, ys, s1, s2, hz, q⟩ | ⟨s, t, e1, e2, hz, q⟩
  · exact .inl (sem_I0 (K := K) C ⟨i, j, e1, e2, q⟩ k)
  · subst e1 e2
    obtain ⟨b, us, ew, g1, g2⟩ := C.top
    obtain ⟨a, zs, ev, h1, h2⟩ := C.pop.top
    subst ev ew
    refine .inr (.inl ⟨a, b, zs, us, rfl, rfl, h1.sq, g1.sq, by rw [← h2.len, ← g2.len, sizeLine_eq]; exact hz, fun e => ?_, fun _ e => ?_, fun _ _ p o hp ho => k _ _ _ _ (C.pop.pop.newT hp ho (h2.append g2)) q⟩)
    · subst e
      have : xs = [] := by have := h2.len; cases xs with | nil => rfl | cons _ _ => cases this
      subst this
      exact k _ _ _ _ (C.pop.pop.push (d := .dat (.tuple _)) C.top fun _ => rfl) q
    · subst e
      have : ys = [] := by have := g2.len; cases ys with | nil => rfl | cons _ _ => cases this
      subst this
      rw [List.append_nil] at q
      exact k _ _ _ _ (C.pop.pop.push (d := .dat (.tuple _)) C.pop.top fun _ => rfl) q
  · obtain ⟨ev, zs, h1, h2⟩ := s1.rep C C.pop.top
    obtain ⟨ew, us, g1, g2⟩ := s2.rep C C.top
    subst ev ew
    exact .inr (.inr (.inl ⟨a, b, zs, us, rfl, rfl, h1, g1, by rw [← h2.len, ← g2.len, sizeLine_eq]; exact hz, fun p hp => k _ _ _ _ (C.pop.pop.newL hp (h2.append g2)) (q p)⟩))
  · subst e1 e2
    obtain rfl : w = .str t := C.top
    obtain rfl : v = .str s := C.pop.top
    exact .inr (.inr (.inr ⟨s, t, rfl, rfl, by rw [sizeLine_eq]; exact hz, k _ _ _ _ (C.pop.pop.push (d := .dat (.str _)) rfl fun _ => rfl) q⟩))
theorem d_add (ha : PEd X a ta) (hb : PEd X b tb) : PEd X (.BinOp a .Add b pos) (e2 sAdd ta tb) := d_op (op_add.or (op_catF.or (op_cat.or op_add_str))) sem_add ha hb
/-- xs * n of a list; ints -/
def sMul : BSem := fun x y ds Q => (∃ i j, x = .dat (.int i) ∧ y = .dat (.int j) ∧ CMul i j ∧ Q (.dat (.int (i * j))) ds) ∨
  (∃ a xs n, See ds x (.lst a xs) ∧ y = .dat (.int n) ∧ (0 ≤ n ∧ n < 2 ^ 63) ∧ xs.length * n.toNat ≤ 16777216 ∧ ∀ c, Q (.lst c (List.replicate n.toNat xs).flatten) ds)
theorem RepPs.rep {H : Hp} {xs : List PyData} {zs : List V} (r : RepPs K H xs zs) : ∀ n : Nat, RepPs K H (List.replicate n xs).flatten (List.replicate n zs).flatten
  | 0 => rfl
  | n + 1 => by
    rw [List.replicate_succ, List.replicate_succ, List.flatten_cons, List.flatten_cons]
    exact r.append (RepPs.rep r n)
theorem sem_mul : Sem2 K sMul (fun x y H Q => rI CMul (fun i j => .int (i * j)) x y H Q ∨ rRep x y H Q) := by
  intro H0 f0 H σ ds v w vs x y es Qd Q C h k
  rcases h with ⟨i, j, e1, e2, hc, q⟩ | ⟨a, xs, n, s1, e2, hn, hz, q⟩
  · exact .inl (sem_Ic (K := K) C ⟨i, j, e1, e2, hc, q⟩ k)
  · subst e2
    obtain rfl : w = .int n := C.top
    obtain ⟨ev, zs, h1, h2⟩ := s1.rep C C.pop.top
    subst ev
    exact .inr ⟨a, n, zs, rfl, rfl, h1, by omega, hn.2, by rw [← h2.len, sizeLine_eq]; exact hz, fun p hp => k _ _ _ _ (C.pop.pop.newL hp (h2.rep _)) (q p)⟩
theorem d_mul (ha : PEd X a ta) (hb : PEd X b tb) : PEd X (.BinOp a .Mult b pos) (e2 sMul ta tb) := d_op (op_mul.or op_rep) sem_mul ha hb
theorem d_sub (ha : PEd X a ta) (hb : PEd X b tb) : PEd X (.BinOp a .Sub b pos) (e2 (sI fun i j => .int (i - j)) ta tb) := d_op op_sub sem_I0 ha hb
/-- // and % by a positive divisor; // below 2 ^ 30 -/
theorem d_fdiv (ha : PEd X a ta) (hb : PEd X b tb) : PEd X (.BinOp a .FloorDiv b pos) (e2 (sIc CDiv fun i j => .int (i / j)) ta tb) := d_op op_fdiv sem_Ic ha hb
theorem d_mod (ha : PEd X a ta) (hb : PEd X b tb) : PEd X (.BinOp a .Mod b pos) (e2 (sIc (fun _ j => 0 < j) fun i j => .int (i % j)) ta tb) := d_op op_mod sem_Ic ha hb
theorem d_pow (ha : PEd X a ta) (hb : PEd X b tb) : PEd X (.BinOp a .Pow b pos) (e2 (sIc CPow fun i j => .int (i ^ j.toNat)) ta tb) := d_op op_pow sem_Ic ha hb
def eNeg (ta : TEP) : TEP := fun ds Q => ta ds fun x ds1 => ∃ i, x = .dat (.int i) ∧ Q (.dat (.int (-i))) ds1
theorem d_neg (ha : PEd X a ta) : PEd X (.UnaryOp .USub a pos) (eNeg ta) :=
  pe_imp (pe_un un_neg ha) fun σ H Q ⟨H0, f0, ds, vs, es, Qd, C, q, k⟩ => ⟨H0, f0, ds, vs, es, _, C, q, fun v x H1 ds1 C1 ⟨i, e, q1⟩ => by
    subst e
    obtain rfl : v = .int i := C1.top
    exact ⟨i, rfl, k _ _ _ _ (C1.pop.push (d := .dat (.int (-i))) (v := .int (-i)) rfl fun _ => rfl) q1⟩⟩

/-! ### slices -/
def cutP (xs : List PyData) (lo hi : Option Int) : List PyData := (xs.drop (HT.sIx xs.length 0 lo)).take (HT.sIx xs.length xs.length hi - HT.sIx xs.length 0 lo)
theorem cutP_rep {H : Hp} {xs : List PyData} {zs : List V} (r : RepPs K H xs zs) (lo hi : Option Int) : RepPs K H (cutP xs lo hi) (cutV zs lo hi) := by
  unfold cutP cutV
  rw [← r.len]
  exact (r.drop _).take _
abbrev TOP := PSt → (Option Int → PSt → Prop) → Prop
def liftO (K : KW) (t : TOP) : TO := fun σ H Q => ∃ H0 f0 ds vs es Qd, Cfg K H0 f0 H σ ds vs es ∧ t ds Qd ∧ ∀ o H' ds', Cfg K H0 f0 H' σ ds' vs es → Qd o ds' → Q o H'
def POd (X : Cx) (e : Option Expr) (t : TOP) : Prop := PO X e (liftO (kw X) t)
def oNone : TOP := fun ds Q => Q none ds
def oSome (te : TEP) : TOP := fun ds Q => te ds fun x ds1 => ∃ i, x = .dat (.int i) ∧ Q (some i) ds1
theorem po_imp {e : Option Expr} {t u : TO} (h : PO X e t) (k : ∀ σ H Q, u σ H Q → t σ H Q) : PO X e u := ⟨fun pins s σ H Q I q => h.run pins s σ H Q I (k _ _ _ q)⟩
theorem do_none : POd X none oNone := po_imp po_none fun σ H Q ⟨H0, f0, ds, vs, es, Qd, C, q, k⟩ => k _ _ _ C q
theorem do_some (h : PEd X e te) : POd X (some e) (oSome te) := po_imp (po_some h) fun σ H Q ⟨H0, f0, ds, vs, es, Qd, C, q, k⟩ => ⟨H0, f0, ds, vs, es, _, C, q, fun v x H1 ds1 C1 ⟨i, e1, q1⟩ => by
  subst e1
  exact ⟨i, C1.top, k _ _ _ C1.pop q1⟩⟩
def eSl (te : TEP) (tl th : TOP) : TEP := fun ds Q => te ds fun x ds1 => tl ds1 fun lo ds2 => th ds2 fun hi ds3 => ∃ t xs, See ds3 x t ∧ ((t = .dat (.tuple xs) ∧ Q (.dat (.tuple (cutP xs lo hi))) ds3) ∨ ∃ a, t = .lst a xs ∧ ∀ c, Q (.lst c (cutP xs lo hi)) ds3)
def rSlF (K : PySem.W.Frag) : V → Option Int → Option Int → Hp → VK → Prop := fun x lo hi H Q => ∃ a xs, x = .ref a ∧ SqT K H a xs ∧
  (HT.sIx xs.length 0 lo = 0 ∧ HT.sIx xs.length xs.length hi = xs.length → Q (.ref a) H) ∧ (¬ (HT.sIx xs.length 0 lo = 0 ∧ HT.sIx xs.length xs.length hi = xs.length) → ∀ p o, H p = none → o.dict = none → Q (.ref p) (upd H p (.frz o (.tup (cutV xs lo hi)))))
theorem sl_tupF : SlR X (rSlF X.K) := by
  intro pins s σ H x v vl vu lo hi sl Q I rx hs pl pu ⟨a, xs, ex, hx, q1, q2⟩
  subst ex
  by_cases hw : HT.sIx xs.length 0 lo = 0 ∧ HT.sIx xs.length xs.length hi = xs.length
  · exact sl_tupA pins s σ H _ v vl vu lo hi sl Q I rx hs pl pu ⟨a, xs, rfl, hx, q1, fun h => absurd hw h⟩
  · obtain rfl : v = .ref a := rx
    obtain ⟨its, r, ht, hz⟩ := I.tuple hx
    have hlen : its.toArray.size = xs.length := by rw [List.size_toArray]; exact r.length.symm
    refine ⟨"tuple", _, PyProof.Rows.slot_tuple_getitem.lookup, ht.typeIs, HT.getItem_tuple_cut ht hs pl pu (by rw [hlen]; exact hw) ?_ (by rw [hlen]; exact hz)⟩
    rw [hlen]
    exact ⟨.ref _, _, Inv.ftup (tk := s.toks) I ((r.drop _).take _) (Nat.le_trans (cutV_length xs lo hi) hz), rfl, q2 hw _ _ (I.hok.fresh (Nat.le_refl _)) rfl⟩
theorem cut_whole {xs : List PyData} {lo hi : Option Int} (h : HT.sIx xs.length 0 lo = 0 ∧ HT.sIx xs.length xs.length hi = xs.length) : cutP xs lo hi = xs := by
  unfold cutP
  rw [h.1, h.2, List.drop_zero, Nat.sub_zero, List.take_length]
theorem d_sl {lo hi : Option Expr} {tl th : TOP} {p2 : Pos} (he : PEd X e te) (hl : POd X lo tl) (hh : POd X hi th) : PEd X (.Subscript e (.Slice lo hi none p2) pos) (eSl te tl th) :=
  pe_imp (pe_slice (sl_tupF.or sl_list) he hl hh) fun σ H Q ⟨H0, f0, ds, vs, es, Qd, C, q, k⟩ => ⟨H0, f0, ds, vs, es, _, C, q, fun v x H1 ds1 C1 q1 => ⟨H0, f0, ds1, _, _, _, C1, q1, fun l H2 ds2 C2 q2 => ⟨H0, f0, ds2, _, _, _, C2, q2, fun u H3 ds3 C3 ⟨t, xs, s, q3⟩ => by
    have r := s.rep C3 C3.top
    rcases q3 with ⟨et, q3⟩ | ⟨a, et, q3⟩
    · subst et
      obtain ⟨a, zs, ev, h1, h2⟩ := id r
      subst ev
      refine .inl ⟨a, zs, rfl, h1.sq, fun hw => ?_, fun _ p o hp ho => k _ _ _ _ (C3.pop.newT hp ho (cutP_rep h2 _ _)) q3⟩
      rw [← h2.len] at hw
      rw [cut_whole hw] at q3
      exact k _ _ _ _ (C3.pop.push (d := .dat (.tuple xs)) r fun _ => rfl) q3
    · subst et
      obtain ⟨ev, zs, h1, h2⟩ := r
      subst ev
      exact .inr ⟨a, zs, rfl, SqL.of h1, fun p hp => k _ _ _ _ (C3.pop.newL hp (cutP_rep h2 _ _)) (q3 p)⟩⟩⟩⟩

/-! ### list(range(..)), tuple(range(..)) -/
def rgOk (n : Int) : Prop := 0 ≤ n ∧ n ≤ 16777216
def eTupRg (te : TEP) : TEP := fun ds Q => te ds fun x ds1 => ∃ n, x = .dat (.int n) ∧ rgOk n ∧ Q (.dat (.tuple ((upto 0 n.toNat).map .int))) ds1
def eLstRg (te : TEP) : TEP := fun ds Q => te ds fun x ds1 => ∃ n, x = .dat (.int n) ∧ rgOk n ∧ ∀ a, Q (.lst a ((upto 0 n.toNat).map .int)) ds1
theorem rgV_rep {H : Hp} (n : Int) : RepPs K H ((upto 0 n.toNat).map .int) (rgV 0 n) := by
  have e : rgV 0 n = (upto 0 n.toNat).map V.int := by unfold rgV upto; rw [List.map_map, Int.sub_zero]; rfl
  rw [e]
  exact RepPs.of_ints _
def tTupRgF (te : St → Hp → (Int → Int → Hp → Prop) → Prop) : TE := fun σ H Q => te σ H fun a b H1 => RgOk a b ∧ ∀ q o, H1 q = none → o.dict = none → Q (.ref q) (upd H1 q (.frz o (.tup (rgV a b))))
theorem pe_tupRgF {te : St → Hp → (Int → Int → Hp → Prop) → Prop} (hc : X.calm = true) (hg : Gl X "tuple") (hm : X.mg "tuple" = none) (he : PRg X e te) (na : starEach [e] X.env = (false, eval e X.env) :: starEach [] X.env := by rfl) :
    PE X (.Call (.Name "tuple" p) [e] [] pos) (tTupRgF te) := by
  refine ⟨fun pins s σ H Q I h => PyProof.Rows.Call_ (ld_blt I hg hm PyProof.Rows.boot_tuple (PyProof.Rows.callWith_type1 (PyProof.Rows.args_cons (thn (he pins s σ H _ I h) fun x s1 ⟨r, a, b, t, u, v, H1, ex, hr, I1, ⟨b1, b2, b3, b4, b5⟩, q⟩ => PyProof.Rows.args_nil ?_) na) na))⟩
  subst ex
  refine call_tuple_range (n := (b - a).toNat) (I1.ok.hd hc) hr (small_one b1 b2 b3 b4) (PyProof.Rows.rangeSize_nat a b) b5 fun h' tk acc hk hi => ?_
  have I2 : Inv X pins σ H1 { s1 with heap := h', toks := tk } := I1.kept hk
  have hv : Vals (rgV a b) acc.toList := vals_rg hi
  have := Inv.ftup (tk := tk) I2 hv (by rw [rgV_length, sizeLine_eq]; omega)
  rw [Array.toArray_toList] at this
  exact ⟨.ref _, _, this, rfl, q _ _ (I2.hok.fresh (Nat.le_refl _)) rfl⟩
theorem d_tupRg {q pos2 : Pos} (hc : X.calm = true) (hg : Gl X "tuple") (hm : X.mg "tuple" = none) (hg2 : Gl X "range") (hm2 : X.mg "range" = none) (ha : PEd X a ta) (na : starEach [a] X.env = (false, eval a X.env) :: starEach [] X.env := by rfl)
    (nb : starEach [.Call (.Name "range" q) [a] [] pos] X.env = (false, eval (.Call (.Name "range" q) [a] [] pos) X.env) :: starEach [] X.env := by rfl) : PEd X (.Call (.Name "tuple" p) [.Call (.Name "range" q) [a] [] pos] [] pos2) (eTupRg ta) :=
  pe_imp (pe_tupRgF hc hg hm (prg_1 hg2 hm2 ha na) nb) fun σ H Q ⟨H0, f0, ds, vs, es, Qd, C, q, k⟩ => ⟨H0, f0, ds, vs, es, _, C, q, fun v x H1 ds1 C1 ⟨n, e, hn, q1⟩ => by
    subst e
    exact ⟨n, C1.top, .of_le (by decide) hn.2 (by decide) hn.1, fun p o hp ho => k _ _ _ _ (C1.pop.newT hp ho (rgV_rep n)) q1⟩⟩
theorem d_lstRg {q pos2 : Pos} (hc : X.calm = true) (hg : Gl X "list") (hm : X.mg "list" = none) (hg2 : Gl X "range") (hm2 : X.mg "range" = none) (ha : PEd X a ta) (na : starEach [a] X.env = (false, eval a X.env) :: starEach [] X.env := by rfl)
    (nb : starEach [.Call (.Name "range" q) [a] [] pos] X.env = (false, eval (.Call (.Name "range" q) [a] [] pos) X.env) :: starEach [] X.env := by rfl) : PEd X (.Call (.Name "list" p) [.Call (.Name "range" q) [a] [] pos] [] pos2) (eLstRg ta) :=
  pe_imp (pe_listRg hc hg hm (prg_1 hg2 hm2 ha na) nb) fun σ H Q ⟨H0, f0, ds, vs, es, Qd, C, q, k⟩ => ⟨H0, f0, ds, vs, es, _, C, q, fun v x H1 ds1 C1 ⟨n, e, hn, q1⟩ => by
    subst e
    exact ⟨n, C1.top, .of_le (by decide) hn.2 (by decide) hn.1, fun p hp => k _ _ _ _ (C1.pop.newL hp (rgV_rep n)) (q1 p)⟩⟩

/-! ### len(set(t)), t a tuple of ints -/
def eLenSet (te : TEP) : TEP := fun ds Q => te ds fun x ds1 => ∃ ns : List Int, x = .dat (.tuple (ns.map .int)) ∧ ns.length ≤ 4000 ∧ ∀ ks : List Int, ks.Nodup → (∀ k, k ∈ ks ↔ k ∈ ns) → Q (.dat (.int (ks.length : Nat))) ds1
def tLenSet (K : PySem.W.Frag) (ta : TE) : TE := fun σ H Q => ta σ H fun x H1 => ∃ (l : Addr) (ns : List Int), x = .ref l ∧ SqT K H1 l (ns.map V.int) ∧ ns.length ≤ 4000 ∧ ∀ ks : List Int, ks.Nodup → (∀ k, k ∈ ks ↔ k ∈ ns) → Q (.int (ks.length : Nat)) H1
theorem pe_lenSetT {ta : TE} {p2 q : Pos} (hg : Gl X "len") (hm : X.mg "len" = none) (hg2 : Gl X "set") (hm2 : X.mg "set" = none) (ha : PE X a ta) (hc : X.calm = true := by rfl)
    (na : starEach [a] X.env = (false, eval a X.env) :: starEach [] X.env := by rfl) : PE X (.Call (.Name "len" p) [.Call (.Name "set" p2) [a] [] q] [] pos) (tLenSet X.K ta) := by
  refine ⟨fun pins s σ H Q I h => PyProof.Rows.Call_ (ld_blt I hg hm PySem.boot_len (PyProof.Rows.callWith_builtin1 (PyProof.Rows.args_cons (PyProof.Rows.Call_ (ld_blt I hg2 hm2 PyProof.Rows.boot_set ?_)) rfl) rfl rfl))⟩
  refine PyProof.Rows.callWith_type1 (PyProof.Rows.args_cons (thn (ha.run pins s σ H _ I h) fun v s1 ⟨x, H1, I1, r1, l, ns, ex, hq, hl, q1⟩ => PyProof.Rows.args_nil ?_) na) na rfl
  subst ex
  obtain rfl : v = .ref l := r1
  obtain ⟨its, r, pl, hz⟩ := I1.tuple hq
  have pt : s1.heap.IsTuple l its.toArray := pl
  refine call_set_tupI ns (I1.ok.hd hc) pt (by simpa using intsAre_of r) (by unfold scanBound; omega) fun h' tk c hS hc' hk => PyProof.Rows.args_nil ?_
  obtain ⟨o, es, ep, t, ho, hex, hd, hg, hnd, hm3, hb, hf, hn, _, _⟩ := hS
  have I2 : Inv X pins σ H1 { s1 with heap := h', toks := tk } := I1.kept hk
  have q2 := q1 (es.toList.map keyOf) hnd fun k => by rw [← hm3 k]; simp
  rw [List.length_map, Array.length_toList] at q2
  exact call_len_set ho hex hd hf (by have : es.size ≤ ns.length := by omega
                                      omega) ⟨.int (es.size : Nat), H1, I2.tok _, ⟨_, rfl⟩, q2⟩
theorem d_lenSet {p2 q : Pos} (hg : Gl X "len") (hm : X.mg "len" = none) (hg2 : Gl X "set") (hm2 : X.mg "set" = none) (ha : PEd X a ta) (hc : X.calm = true := by rfl)
    (na : starEach [a] X.env = (false, eval a X.env) :: starEach [] X.env := by rfl) : PEd X (.Call (.Name "len" p) [.Call (.Name "set" p2) [a] [] q] [] pos) (eLenSet ta) :=
  pe_imp (pe_lenSetT hg hm hg2 hm2 ha hc na) fun σ H Q ⟨H0, f0, ds, vs, es, Qd, C, q, k⟩ => ⟨H0, f0, ds, vs, es, _, C, q, fun v x H1 ds1 C1 ⟨ns, e, hn, q1⟩ => by
    subst e
    obtain ⟨a, zs, ev, h1, h2⟩ := C1.top
    subst ev
    have := h2.ints
    subst this
    exact ⟨a, ns, rfl, h1.sq, hn, fun ks k1 k2 => k _ _ _ _ (C1.pop.push (d := .dat (.int _)) rfl fun _ => rfl) (q1 ks k1 k2)⟩⟩
end
end PD
set_option Elab.async false
set_option linter.all false
set_option maxRecDepth 100000
set_option maxHeartbeats 2000000
/-! PD, tenth part: {}, xs.index, own functions in one word, small words for the printed terms. -/
namespace PD
open PySem L2
section
variable {X : Cx} {K : KW} {o e a b : Expr} {l : List Expr} {to ta tb te : TEP} {t : TAP} {pos p : Pos}
def eDict0 : TEP := fun ds Q => ∀ a, Q (.dk a []) ds
theorem d_dict0 : PEd X (.Dict [] [] pos) eDict0 :=
  pe_imp pe_dnewK fun σ H Q ⟨H0, f0, ds, vs, es, Qd, C, q, k⟩ p hp =>
    k (.ref p) (.dk p []) _ ds (C.pushNew (grow_new hp) ⟨rfl, [], upd_same, rfl⟩ (fun a => by show one a p ≤ 1; unfold one; split <;> omega) fun a h => by
      have := one_pos (show 1 ≤ one a p from h)
      subst this
      exact hp) (q p)
theorem sem_index : SemM K sIndex (rIndex K.K) := by
  intro H0 f0 H σ ds ws vs as es v x Qd Q C hl ⟨a, xs, p, j, z, e, s, f1, f2, h1, h2, h3, q⟩ k
  obtain ⟨w, rfl⟩ := one_ws hl e
  subst e
  have C' : Cfg K H0 f0 H σ ds (w :: v :: vs) (.dat p :: x :: es) := C
  have rp : RepP K H p w := C'.top
  obtain ⟨ev, zs, g1, g2⟩ := s.rep C' C'.pop.top
  subst ev
  obtain ⟨y, k1, k2⟩ := g2.get h1
  have fz := List.all_eq_true.mp f2
  refine ⟨a, zs, w, j, y, rfl, rfl, SqL.of g1, flat_rep rp f1, flat_reps g2 f2, k1, ?_, fun m y' hm hy' => ?_, k _ _ _ _ (C'.pop.pop.push (d := .dat (.int _)) rfl fun _ => rfl) q⟩
  · rw [eqV_rep k2 rp (fz _ (List.mem_of_getElem? h1)) f1]
    exact h2
  · obtain ⟨z', e1, e2⟩ := g2.getV hy'
    rw [eqV_rep e2 rp (fz _ (List.mem_of_getElem? e1)) f1]
    exact h3 m z' hm e1
/-- an own function, as the top has made it -/
def Own (P : Program) (w : World) (K : PySem.W.Frag) (mg : Str → Option Value) (base : Heap) (k : Nat) (x : Str) (ps : List Str) (sp : SpD) : Prop :=
  ∃ f fd, FnOk P w K mg base CX0 k f fd ps (liftSp ⟨K, P, w⟩ sp) ∧ mg x = some (.ref f) ∧ PySem.W.keepIn K (.ref f) = true ∧ Binds K fd ps []
theorem d_fn {x : Str} {k : Nat} {ps : List Str} {sp : SpD} (O : Own X.prog X.w X.K X.mg X.base k x ps sp) (hr : Room k X.A) (hg : Gl X x) (ha : PAd X (e :: l) t) (hdb : (x == ("__debug__" : Str)) = false := by decide)
    (he : starEach (e :: l) X.env = (false, eval e X.env) :: starEach l X.env := by rfl) (hpl : (backTo pos (starEach l X.env)).any (·.1) = false := by rfl) :
    PEd X (.Call (.Name x p) (e :: l) [] pos) (eOwn sp t) := by
  obtain ⟨f, fd, F, hm, hk, hb⟩ := O
  exact d_own F hr hg hm hk hb ha hdb he hpl
theorem dv (i : Nat) {x : Str} {pos : Pos} (hN : X.N[i]? = some x := by rfl) (hv : Vis X.env.scope x := by first | exact Or.inl rfl | exact Or.inr (Or.inl rfl) | exact Or.inr (Or.inr rfl)) (hd : (x == ("__debug__" : Str)) = false := by decide)
    (hcd : (x == ("__classdict__" : Str)) = false := by decide) : PEd X (.Name x pos) (eVar i) := d_var hN hv hd hcd
theorem dm (i : Nat) {x : Str} {pos : Pos} (hN : X.N[i]? = some x := by rfl) (hv : Vis X.env.scope x := by first | exact Or.inl rfl | exact Or.inr (Or.inl rfl) | exact Or.inr (Or.inr rfl)) (hd : (x == ("__debug__" : Str)) = false := by decide)
    (hcd : (x == ("__classdict__" : Str)) = false := by decide) : PEd X (.Name x pos) (eOut i) := d_mv hN hv hd hcd
theorem dgn (i : Nat) {x : Str} {pos : Pos} (hN : X.N.Nodup) (hi : X.N[i]? = some x := by rfl) (hx : Loc X.env.scope x := by first | exact Or.inl rfl | exact Or.inr rfl) (hf : X.fn x = true ∨ X.env.scope.names.lookup x = some .local := by first | exact .inl rfl | exact .inr rfl) : PGd X (.Name x pos) [i] (gN i) :=
  dg_name hN hi hx hf
end
end PD
set_option Elab.async false
set_option linter.all false
set_option maxRecDepth 100000
set_option maxHeartbeats 2000000
/-! PD: words for the printed terms. -/
namespace PD
open PySem L2
theorem b_len : bootBuiltins "len" = some (.builtin "len") := by decide +kernel
theorem b_isinstance : bootBuiltins "isinstance" = some (.builtin "isinstance") := by decide +kernel
theorem b_sum : bootBuiltins "sum" = some (.builtin "sum") := by decide +kernel
theorem b_all : bootBuiltins "all" = some (.builtin "all") := by decide +kernel
theorem b_any : bootBuiltins "any" = some (.builtin "any") := by decide +kernel
theorem b_max : bootBuiltins "max" = some (.builtin "max") := by decide +kernel
theorem b_min : bootBuiltins "min" = some (.builtin "min") := by decide +kernel
theorem b_abs : bootBuiltins "abs" = some (.builtin "abs") := by decide +kernel
theorem b_sorted : bootBuiltins "sorted" = some (.builtin "sorted") := by decide +kernel
theorem b_tuple : bootBuiltins "tuple" = some (.type "tuple") := by decide +kernel
theorem b_list : bootBuiltins "list" = some (.type "list") := by decide +kernel
theorem b_int : bootBuiltins "int" = some (.type "int") := by decide +kernel
theorem b_bool : bootBuiltins "bool" = some (.type "bool") := by decide +kernel
theorem b_str : bootBuiltins "str" = some (.type "str") := by decide +kernel
section
variable {X : Cx} {a b c e : Expr} {l : List Expr} {ta tb tc te : TEP} {t : TAP} {pos p : Pos}
theorem d_eq (hu : X.A.units + 64 < cLine) (ha : PEd X a ta) (hb : PEd X b tb) : PEd X (.Compare a [.Eq] [b] pos) (e2 sEq ta tb) := d_cmp (op_eqD hu) sem_eq ha hb (nomark _)
theorem d_ne (hu : X.A.units + 64 < cLine) (ha : PEd X a ta) (hb : PEd X b tb) : PEd X (.Compare a [.NotEq] [b] pos) (e2 sNe ta tb) := d_cmp (op_neD hu) sem_ne ha hb (nomark _)
theorem dt_eq (hu : X.A.units + 64 < cLine) (ha : PEd X a ta) (hb : PEd X b tb) : PTd X (.Compare a [.Eq] [b] pos) (tBl (e2 sEq ta tb)) := dt_cmp (op_eqD hu) sem_eq ha hb (nomark _)
theorem dt_ne (hu : X.A.units + 64 < cLine) (ha : PEd X a ta) (hb : PEd X b tb) : PTd X (.Compare a [.NotEq] [b] pos) (tBl (e2 sNe ta tb)) := dt_cmp (op_neD hu) sem_ne ha hb (nomark _)
abbrev sLt : BSem := sI fun i j => .bool (decide (i < j))
abbrev sLe : BSem := sI fun i j => .bool (decide (i ≤ j))
abbrev sGt : BSem := sI fun i j => .bool (decide (j < i))
abbrev sGe : BSem := sI fun i j => .bool (decide (j ≤ i))
theorem d_lt (ha : PEd X a ta) (hb : PEd X b tb) : PEd X (.Compare a [.Lt] [b] pos) (e2 sLt ta tb) := d_cmp op_lt sem_B0 ha hb (nomark _)
theorem d_le (ha : PEd X a ta) (hb : PEd X b tb) : PEd X (.Compare a [.LtE] [b] pos) (e2 sLe ta tb) := d_cmp op_le sem_B0 ha hb (nomark _)
theorem d_gt (ha : PEd X a ta) (hb : PEd X b tb) : PEd X (.Compare a [.Gt] [b] pos) (e2 sGt ta tb) := d_cmp op_gt sem_B0 ha hb (nomark _)
theorem d_ge (ha : PEd X a ta) (hb : PEd X b tb) : PEd X (.Compare a [.GtE] [b] pos) (e2 sGe ta tb) := d_cmp op_ge sem_B0 ha hb (nomark _)
theorem dt_lt (ha : PEd X a ta) (hb : PEd X b tb) : PTd X (.Compare a [.Lt] [b] pos) (tBl (e2 sLt ta tb)) := dt_cmp op_lt sem_B0 ha hb (nomark _)
theorem dt_le (ha : PEd X a ta) (hb : PEd X b tb) : PTd X (.Compare a [.LtE] [b] pos) (tBl (e2 sLe ta tb)) := dt_cmp op_le sem_B0 ha hb (nomark _)
theorem dt_gt (ha : PEd X a ta) (hb : PEd X b tb) : PTd X (.Compare a [.Gt] [b] pos) (tBl (e2 sGt ta tb)) := dt_cmp op_gt sem_B0 ha hb (nomark _)
theorem dt_ge (ha : PEd X a ta) (hb : PEd X b tb) : PTd X (.Compare a [.GtE] [b] pos) (tBl (e2 sGe ta tb)) := dt_cmp op_ge sem_B0 ha hb (nomark _)
theorem hu1 (hu : X.A.units + 64 < cLine) : X.A.units + 1 < cLine := by omega
theorem d_in (hu : X.A.units + 64 < cLine) (ha : PEd X a ta) (hb : PEd X b tb) (hm : behindInMarks .In b = false) : PEd X (.Compare a [.In] [b] pos) (e2 (sInN false) ta tb) := d_cmp (op_in_seq.or (op_inK (hu1 hu))) sem_inN ha hb hm
theorem d_nin (hu : X.A.units + 64 < cLine) (ha : PEd X a ta) (hb : PEd X b tb) (hm : behindInMarks .NotIn b = false) : PEd X (.Compare a [.NotIn] [b] pos) (e2 (sInN true) ta tb) := d_cmp (op_notIn_seq.or (op_notInK (hu1 hu))) sem_inN ha hb hm
theorem dt_in (hu : X.A.units + 64 < cLine) (ha : PEd X a ta) (hb : PEd X b tb) (hm : behindInMarks .In b = false) : PTd X (.Compare a [.In] [b] pos) (tBl (e2 (sInN false) ta tb)) := dt_cmp (op_in_seq.or (op_inK (hu1 hu))) sem_inN ha hb hm
theorem dt_nin (hu : X.A.units + 64 < cLine) (ha : PEd X a ta) (hb : PEd X b tb) (hm : behindInMarks .NotIn b = false) : PTd X (.Compare a [.NotIn] [b] pos) (tBl (e2 (sInN true) ta tb)) := dt_cmp (op_notIn_seq.or (op_notInK (hu1 hu))) sem_inN ha hb hm
theorem d_is (ha : PEd X a ta) (hb : PEd X b tb) : PEd X (.Compare a [.Is] [b] pos) (e2 sIs ta tb) := d_cmp (op_isN.or op_isBl) sem_is ha hb (nomark _)
theorem d_isnot (ha : PEd X a ta) (hb : PEd X b tb) : PEd X (.Compare a [.IsNot] [b] pos) (e2 sIsNot ta tb) := d_cmp (op_notN.or op_notBl) sem_isNot ha hb (nomark _)
theorem dt_is (ha : PEd X a ta) (hb : PEd X b tb) : PTd X (.Compare a [.Is] [b] pos) (tBl (e2 sIs ta tb)) := dt_cmp (op_isN.or op_isBl) sem_is ha hb (nomark _)
theorem dt_isnot (ha : PEd X a ta) (hb : PEd X b tb) : PTd X (.Compare a [.IsNot] [b] pos) (tBl (e2 sIsNot ta tb)) := dt_cmp (op_notN.or op_notBl) sem_isNot ha hb (nomark _)
end
end PD
set_option Elab.async false
set_option linter.all false
set_option maxRecDepth 100000
set_option maxHeartbeats 2000000
/-! PD: sorted of a list of tuples of ints, none of them empty, of any lengths. -/
namespace PDS
open PySem PyProof.Rows
/-- before, by the first place where they differ -/
def lexI : List Int → List Int → Bool
  | [], [] => false
  | [], _ :: _ => true
  | _ :: _, [] => false
  | x :: xs, y :: ys => if x = y then lexI xs ys else decide (x < y)
theorem lexI_asym : ∀ x y : List Int, lexI x y = true → lexI y x = false
  | [], [], h => rfl
  | [], _ :: _, h => rfl
  | _ :: _, [], h => by cases h
  | x :: xs, y :: ys, h => by
    unfold lexI at h ⊢
    by_cases e : x = y
    · rw [if_pos e] at h
      rw [if_pos e.symm]
      exact lexI_asym xs ys h
    · rw [if_neg e, decide_eq_true_eq] at h
      rw [if_neg (Ne.symm e)]
      exact decide_eq_false (by omega)
theorem lexI_tr : ∀ x y z : List Int, lexI y x = false → lexI z y = false → lexI z x = false
  | [], [], z, _, h => h
  | [], y :: ys, [], _, h => by cases h
  | [], y :: ys, _ :: _, _, h => rfl
  | x :: xs, [], z, h, _ => by cases h
  | x :: xs, y :: ys, [], _, h => by cases h
  | x :: xs, y :: ys, z :: zs, h1, h2 => by
    unfold lexI at h1 h2 ⊢
    by_cases e1 : y = x
    · subst e1
      rw [if_pos rfl] at h1
      by_cases e2 : z = y
      · rw [if_pos e2] at h2 ⊢
        exact lexI_tr xs ys zs h1 h2
      · rw [if_neg e2] at h2 ⊢
        exact h2
    · rw [if_neg e1, decide_eq_false_iff_not] at h1
      by_cases e2 : z = y
      · subst e2
        rw [if_neg e1]
        exact decide_eq_false h1
      · rw [if_neg e2, decide_eq_false_iff_not] at h2
        rw [if_neg (by omega)]
        exact decide_eq_false (by omega)
theorem lexI_swo {α : Type} (k : α → List Int) : SrtO.Swo fun u v => lexI (k u) (k v) := ⟨fun x y => lexI_asym _ _, fun x y z => lexI_tr _ _ _⟩
def IsTI (h : Heap) (v : Value) (ns : List Int) : Prop := ∃ a o us n, v = .ref a ∧ h.get? a = some o ∧ o.cls = .type "tuple" ∧ o.data = .seq us n ∧ IntsAre us.toList ns
theorem IsTI.keeps {h h' : Heap} {v : Value} {ns : List Int} (p : IsTI h v ns) (k : ∀ b o, h.get? b = some o → o.cls = .type "tuple" → h'.get? b = some o) : IsTI h' v ns := by
  obtain ⟨a, o, us, n, e, ho, hc, hd, hi⟩ := p
  exact ⟨a, o, us, n, e, k _ _ ho hc, hc, hd, hi⟩
section
variable {prog : Program} {w : World} {A : Around} {E : Value → Shared → Prop} {s : Shared}
theorem kat_ints : ∀ {us vs : List Value} {ns ms : List Int} (i : Nat) (b : Bool), IntsAre us ns → IntsAre vs ms →
    PySem.W.KatLex prog w A b (decide (us.length < vs.length)) (fun r s' => s' = s ∧ r = lexI ns ms) (us.zip vs) i s
  | _, _, _, _, i, b, .nil, .nil => PySem.W.kat_nil ⟨rfl, rfl⟩
  | _, _, _, _, i, b, .nil, .cons _ _ _ => PySem.W.kat_nil ⟨rfl, by simp [lexI]⟩
  | _, _, _, _, i, b, .cons _ _ _, .nil => PySem.W.kat_nil ⟨rfl, by simp [lexI]⟩
  | _, _, _, _, i, b, .cons x t (vs := us) (ns := ns) h1, .cons y u (vs := vs) (ns := ms) h2 => by
    rw [List.zip_cons_cons]
    have el : decide ((Value.int x t :: us).length < (Value.int y u :: vs).length) = decide (us.length < vs.length) := by simp
    rw [el]
    refine PySem.W.kat_cons (SeqAt.EqAt.int_int x t y u prog w _ _ ?_)
    refine PySem.W.kat_go (fun e1 => ?_) (fun e1 => ?_)
    · have ex : x = y := by simpa using e1
      refine PySem.W.kat_yes ?_
      have e2 : lexI (x :: ns) (y :: ms) = lexI ns ms := by show (if x = y then _ else _) = _; rw [if_pos ex]
      rw [e2]
      exact kat_ints (i + 1) b h1 h2
    · have ex : ¬ x = y := by simpa using e1
      have e2 : lexI (x :: ns) (y :: ms) = decide (x < y) := by show (if x = y then _ else _) = _; rw [if_neg ex]
      rw [e2]
      refine PySem.W.kat_no ?_
      by_cases hb : (b && i == 0) = true
      · rw [hb]; exact oneLt_int ⟨rfl, rfl⟩
      · rw [Bool.eq_false_iff.mpr hb]; exact PySem.W.kat_one _ _ (PyProof.Rows.lt_int ⟨rfl, rfl⟩)
theorem ti_cmp {vs : List Value} {k : Value → List Int} (hp : ∀ v ∈ vs, IsTI s.heap v (k v)) : SrtO.Cmp prog w A s (tuples' true) (fun p => p.1 ∈ vs) (SrtO.lt2 fun v u => lexI (k v) (k u)) := by
  intro p q hm hm'
  obtain ⟨a, o, us, n, e, ho, hc, hd, hi⟩ := hp _ hm
  obtain ⟨a', o', us', n', e', ho', hc', hd', hi'⟩ := hp _ hm'
  show wpAny (model prog w) A (keyLt' (tuples' true) p.1 q.1) (fun r s' => s' = s ∧ r = lexI (k p.1) (k q.1)) (fun _ _ => False) s
  generalize k p.1 = ns at hi ⊢
  generalize k q.1 = ms at hi' ⊢
  rw [e, e']
  refine PySem.W.kat_lt ho hd ho' hd' ?_
  have := kat_ints (prog := prog) (w := w) (A := A) (s := s) 0 true hi hi'
  rw [Array.length_toList, Array.length_toList] at this
  exact this
theorem firsts {h : Heap} {k : Value → List Int} : ∀ {vs : List Value}, (∀ v ∈ vs, IsTI h v (k v) ∧ k v ≠ []) → ∃ fs : List Value, PySem.W.KatTups h vs fs ∧ fs.length = vs.length ∧ ∀ f ∈ fs, ∃ x t, f = Value.int x t
  | [], _ => ⟨[], PySem.W.KatTups.nil, rfl, fun _ hm => by simp at hm⟩
  | v :: vs, hp => by
    obtain ⟨fs, h1, h2, h3⟩ := firsts (vs := vs) fun v' hm => hp v' (List.mem_cons_of_mem _ hm)
    obtain ⟨⟨a, o, us, n, e, ho, hc, hd, hi⟩, hne⟩ := hp v (List.mem_cons_self ..)
    generalize k v = ns at hi hne
    subst e
    obtain ⟨x, t, e0⟩ : ∃ x t, us[0]? = some (Value.int x t) := by
      rw [← Array.getElem?_toList]
      generalize us.toList = zs at hi ⊢
      cases hi with
      | nil => exact absurd rfl hne
      | cons x t hr => exact ⟨_, _, rfl⟩
    refine ⟨.int x t :: fs, PySem.W.KatTups.cons ho hc hd e0 h1, by rw [List.length_cons, List.length_cons, h2], fun f hm => ?_⟩
    rcases List.mem_cons.mp hm with rfl | hm
    · exact ⟨x, t, rfl⟩
    · exact h3 f hm
theorem ti_sortable {a : Addr} {vs : List Value} {k : Value → List Int} (h0 : 0 < vs.length) (hp : ∀ v ∈ vs, IsTI s.heap v (k v) ∧ k v ≠ []) (ha : ∀ o, s.heap.get? a = some o → o.cls ≠ .type "tuple") : SrtO.SortableO prog w A s a vs fun v u => lexI (k v) (k u) := by
  intro h' keep
  have hp' : ∀ v ∈ vs, IsTI h' v (k v) ∧ k v ≠ [] := fun v hm => ⟨(hp v hm).1.keeps fun b o e c => keep b o (fun z => by subst z; exact ha o e c) e, (hp v hm).2⟩
  obtain ⟨fs, h1, h2, h3⟩ := firsts hp'
  refine ⟨tuples' true, fun Q E hq => ?_, ti_cmp fun v hv => (hp' v hv).1⟩
  refine PySem.W.kat_kind (T := .type "int") h1 (by omega) (fun f hm => ?_) (by rfl) ?_
  · obtain ⟨x, t, rfl⟩ := h3 f hm
    exact PySem.W.Looks.now
  · have e : (Value.type "int" != Value.type "tuple") = true := by first | decide +kernel | rfl | decide
    rw [e]
    exact hq
theorem sorted_ti {l : Addr} {vs : List Value} {k : Value → List Int} {Q : Value → Shared → Prop} (hl : s.heap.IsList l vs.toArray) (hz : vs.length ≤ sizeLine) (hp : ∀ v ∈ vs, IsTI s.heap v (k v) ∧ k v ≠ [])
    (h : ∀ (h' : Heap) (d : Addr) (out : List Value), SrtO.Srtd (fun v u => lexI (k v) (k u)) out → SrtO.Stb (fun v u => lexI (k v) (k u)) out vs → (∀ b o, s.heap.get? b = some o → h'.get? b = some o) → s.heap.objs.size ≤ d → (∃ n, h'.get? d = some (seqObj "list" out.toArray n)) → Q (.ref d) { s with heap := h' }) :
    wpAny (model prog w) A (call (.builtin "sorted") [.ref l]) Q E s := by
  refine SrtO.sorted_ord (lexI_swo k) hl hz (fun h2 h₁ a ha kk => ?_) fun out hs hb => ?_
  · refine ti_sortable (s := { s with heap := h₁ }) (by omega) (fun v hm => ⟨(hp v hm).1.keeps fun b o e _ => (kk b o e).2, (hp v hm).2⟩) fun o e => ?_
    have e' : some o = some (seqObj "list" vs.toArray 0) := e.symm.trans ha
    cases e'
    intro c
    exact absurd (Value.type.inj c) (by decide)
  · exact h _ _ out hs hb (fun b o e => sortedAll_old e) (Nat.le_succ _) (sortedAll_at s.heap vs out.toArray)
end
end PDS
namespace PD
open PySem L2
def tupI (ns : List Int) : PyData := .tuple (ns.map .int)
def rSortLT (K : PySem.W.Frag) : V → Hp → VK → Prop := fun v H Q => ∃ (a : Addr) (xs : List V) (k : V → List Int), v = .ref a ∧ SqL K H a xs ∧ (∀ x ∈ xs, k x ≠ [] ∧ ∃ t, x = V.ref t ∧ TupAt H t ((k x).map V.int)) ∧
  ∀ ys p, SrtO.Srtd (fun x y => PDS.lexI (k x) (k y)) ys → ys.Perm xs → H p = none → Q (.ref p) (upd H p (.lst ys))
section
variable {X : Cx} {K : KW}
theorem call_sortT : CallR1 X (.builtin "sorted") (rSortLT X.K) := by
  intro pins s σ H ws us Q I r ⟨v, e, a, xs, k, ev, hs, hx, q⟩
  subst e ev
  obtain ⟨its, rv, hl, hz⟩ := I.list hs
  obtain ⟨u, rfl, ru⟩ := Vals.one r
  obtain rfl : u = Value.ref a := ru
  obtain ⟨e1, e2⟩ := refs_back rv fun x m => by
    obtain ⟨_, t, e, _⟩ := hx x m
    exact ⟨t, e⟩
  refine PDS.sorted_ti (k := fun u => k (backV u)) hl.isList (by rw [← rv.length]; exact hz) (fun v hv => ?_) fun h' d out h1 h2 kp hd hn => ?_
  · obtain ⟨t, rfl⟩ := e2 v hv
    have hm : V.ref t ∈ xs := by rw [e1]; exact List.mem_map.mpr ⟨_, hv, rfl⟩
    obtain ⟨hne, t', e, ht⟩ := hx _ hm
    cases e
    obtain ⟨its2, r2, p2, hz2⟩ := I.tuple (TupAt.sq (K := X.K) ht)
    obtain ⟨o, ho, hc, n, hd⟩ := p2
    exact ⟨⟨t, o, _, n, rfl, ho, hc, hd, intsAre_of r2⟩, hne⟩
  · have h3 : ∀ u ∈ out, ∃ a, u = Value.ref a := fun u hu => e2 u (h2.perm.mem_iff.mp hu)
    obtain ⟨n, hn⟩ := hn
    have hb : (out.map backV).Perm xs := by
      rw [e1]
      exact h2.perm.map backV
    refine ⟨.ref d, upd H d (.lst (out.map backV)), I.laid (t' := s.toks) kp hd ⟨?_, out, n, vals_back h3, hn⟩, rfl, q _ d (SrtO.srtd_map h1) hb (I.hok.fresh hd)⟩
    rw [hb.length_eq]
    exact hz
def intsV (H : Hp) : V → List Int
  | .ref a => match H a with
    | some (.frz _ (.tup vs)) => vs.filterMap fun
      | .int i => some i
      | _ => none
    | _ => []
  | _ => []
theorem intsV_rep {H : Hp} {ns : List Int} {v : V} (r : RepP K H (tupI ns) v) : intsV H v = ns ∧ ∃ t, v = .ref t ∧ TupAt H t (ns.map V.int) := by
  obtain ⟨a, xs, e, h1, h2⟩ := r
  subst e
  have e2 := h2.ints
  subst e2
  obtain ⟨o, ho, hh⟩ := id h1
  refine ⟨?_, a, rfl, h1⟩
  unfold intsV
  dsimp only
  rw [hh]
  dsimp only
  rw [List.filterMap_map]
  clear h1 h2 hh
  induction ns with
  | nil => rfl
  | cons n ns ih => simp only [List.filterMap_cons, Function.comp]; rw [ih]
def sSortT (x : D) (ds : PSt) (Q : D → PSt → Prop) : Prop := ∃ (a : Addr) (tss : List (List Int)), See ds x (.lst a (tss.map tupI)) ∧ (∀ t ∈ tss, t ≠ []) ∧ ∀ (b : Addr) (mss : List (List Int)), mss.Perm tss → mss.Pairwise (fun x y => PDS.lexI y x = false) → Q (.lst b (mss.map tupI)) ds
theorem sem_sortT : Sem1 K sSortT (rSortLT K.K) := by
  intro H0 f0 H σ ds v vs x es Qd Q C ⟨a, tss, s, hne, q⟩ k
  obtain ⟨ev, zs, h1, h2⟩ := s.rep C C.top
  subst ev
  have all : ∀ {tss : List (List Int)} {zs : List V}, RepPs K H (tss.map tupI) zs → tss = zs.map (intsV H) ∧ ∀ z ∈ zs, intsV H z ∈ tss ∧ RepP K H (tupI (intsV H z)) z ∧ ∃ t, z = .ref t ∧ TupAt H t ((intsV H z).map V.int) := by
    intro tss
    induction tss with
    | nil => intro zs h; obtain rfl := h; exact ⟨rfl, fun z hz => by cases hz⟩
    | cons t r ih =>
      rintro zs ⟨v, rs, e, g1, g2⟩
      subst e
      obtain ⟨e1, e2⟩ := ih g2
      obtain ⟨e3, e4⟩ := intsV_rep g1
      refine ⟨by rw [List.map_cons, e3, ← e1], fun z hz => ?_⟩
      rcases List.mem_cons.mp hz with e | hz
      · subst e
        rw [e3]
        exact ⟨List.mem_cons_self, g1, e4⟩
      · obtain ⟨f1, f2, f3⟩ := e2 z hz
        exact ⟨List.mem_cons_of_mem _ f1, f2, f3⟩
  obtain ⟨e1, e2⟩ := all h2
  refine ⟨a, zs, intsV H, rfl, SqL.of h1, fun z hz => ⟨hne _ (e2 z hz).1, (e2 z hz).2.2⟩, fun ys p hs hp hn => ?_⟩
  have hr : RepPs K H ((ys.map (intsV H)).map tupI) ys := by
    have hm : ∀ y ∈ ys, RepP K H (tupI (intsV H y)) y := fun y hy => (e2 y (hp.mem_iff.mp hy)).2.1
    clear hs hp
    induction ys with
    | nil => rfl
    | cons y ys ih => exact ⟨y, ys, rfl, hm y List.mem_cons_self, ih fun z hz => hm z (List.mem_cons_of_mem _ hz)⟩
  refine k _ _ _ _ (C.pop.newL hn hr) (q p (ys.map (intsV H)) (by rw [e1]; exact hp.map _) ?_)
  exact List.pairwise_map.mpr (hs.imp fun h => h)
end
end PD
set_option Elab.async false
set_option linter.all false
set_option maxRecDepth 100000
set_option maxHeartbeats 2000000
/-! PD: the readings as equations, for simp. -/
namespace PD
open PySem L2
section
variable {ds ds1 : PSt} {Q : D → PSt → Prop} {QT : Bool → PSt → Prop} {QA : List D → PSt → Prop} {k : PSt → Prop} {E : PEnds} {a b : Addr} {i j s n m : Nat} {π : List Stp} {d t t' x y : D} {xs ys : List PyData} {p q : PyData} {u v : Int} {ta tb tc te : TEP} {tA tB : TTP} {tr : TAP}
/-! a value's shape asked for, in words that simp can open -/
def BoolW (x : D) (R : Bool → Prop) : Prop := ∃ b, x = .dat (.bool b) ∧ R b
def IntW (x : D) (R : Int → Prop) : Prop := ∃ i, x = .dat (.int i) ∧ R i
def TupW (x : D) (R : List PyData → Prop) : Prop := ∃ xs, x = .dat (.tuple xs) ∧ R xs
def TruW (x : D) (ds : PSt) (R : Bool → Prop) : Prop := ∃ d b, See ds x d ∧ TruT d b ∧ R b
def As1I (as : List D) (R : Int → Prop) : Prop := ∃ n : Int, as = [.dat (.int n)] ∧ R n
def As2I (as : List D) (R : Int → Int → Prop) : Prop := ∃ m n : Int, as = [.dat (.int m), .dat (.int n)] ∧ R m n
def EnW (as : List D) (R : List PyData → Prop) : Prop := ∃ x p xs, as = [x] ∧ x = .dat p ∧ p = .tuple xs ∧ R xs
def Par2 (as : List D) (R : D → D → Prop) : Prop := ∃ a b, as = [a, b] ∧ R a b
def SlW (x : D) (ds : PSt) (lo hi : Option Int) (Q : D → PSt → Prop) : Prop := ∃ t xs, See ds x t ∧ ((t = .dat (.tuple xs) ∧ Q (.dat (.tuple (cutP xs lo hi))) ds) ∨ ∃ a, t = .lst a xs ∧ ∀ c, Q (.lst c (cutP xs lo hi)) ds)
def IsT (d : D) (n : Nat) (R : List D → Prop) : Prop := isTup d = true ∧ (parts d).length = n ∧ R (parts d)
/-! see -/
theorem see_dat : See ds (.dat p) t ↔ t = .dat p := Iff.rfl
theorem see_bor : See ds (.bor a i π d) t ↔ t = d ∧ root d = some a ∧ ∃ e, ds[i]? = some (some e) ∧ getP e π = some d := Iff.rfl
theorem see_lst : See ds (.lst a xs) t ↔ t = .lst a xs := Iff.rfl
theorem see_lsD {xs : List D} : See ds (.lsD a xs) t ↔ t = .lsD a xs := Iff.rfl
theorem see_dk {kvs : List (Key × PyData)} : See ds (.dk a kvs) t ↔ t = .dk a kvs := Iff.rfl
theorem see_tpD {xs : List D} : See ds (.tpD xs) t ↔ t = .tpD xs := Iff.rfl
theorem ty_lst : TyM (.lst a xs) "list" ↔ True := ⟨fun _ => trivial, fun _ => rfl⟩
theorem ty_lsD {xs : List D} : TyM (.lsD a xs) "list" ↔ True := ⟨fun _ => trivial, fun _ => rfl⟩
theorem ty_dk {kvs : List (Key × PyData)} : TyM (.dk a kvs) "dict" ↔ True := ⟨fun _ => trivial, fun _ => rfl⟩
theorem tup_dat : isTup (.dat (.tuple xs)) = true := rfl
theorem tup_tpD {xs : List D} : isTup (.tpD xs) = true := rfl
theorem tup_pr : isTup (.pr p q) = true := rfl
theorem parts_dat : parts (.dat (.tuple xs)) = xs.map .dat := rfl
theorem parts_tpD {xs : List D} : parts (.tpD xs) = xs := rfl
theorem parts_pr : parts (.pr p q) = [.dat p, .dat q] := rfl
theorem getP_nil : getP d [] = some d := by cases d <;> rfl
theorem setP_nil : setP d [] t = some t := by cases d <;> rfl
theorem upS_nil : upS ds i [] t t' k ↔ ds[i]? = some (some t) ∧ k (ds.set i (some t')) := by
  unfold upS
  simp only [getP_nil, setP_nil, Option.some.injEq]
  constructor
  · rintro ⟨e, e', h1, rfl, rfl, h4⟩; exact ⟨h1, h4⟩
  · rintro ⟨h1, h4⟩; exact ⟨t, t', h1, rfl, rfl, h4⟩
theorem upS_it {xs : List D} : upS ds i [.it j] t t' k ↔ ∃ a xs, ds[i]? = some (some (.lsD a xs)) ∧ xs[j]? = some t ∧ k (ds.set i (some (.lsD a (xs.set j t')))) := by
  unfold upS
  constructor
  · rintro ⟨e, e', h1, h2, h3, h4⟩
    cases e with
    | lsD a xs =>
      simp only [getP, setP] at h2 h3
      split at h2
      · rename_i d hd
        rw [hd] at h3
        simp only [setP_nil, getP_nil] at h2 h3
        cases h2; cases h3
        exact ⟨a, xs, h1, hd, h4⟩
      · cases h2
    | _ => simp [getP] at h2
  · rintro ⟨a, xs, h1, h2, h3⟩
    refine ⟨_, _, h1, ?_, ?_, h3⟩
    · simp only [getP, h2, getP_nil]
    · simp only [setP, h2, setP_nil]
/-! values -/
theorem w_var : eVar i ds Q ↔ ∃ d, rdS ds i = some d ∧ Q d ds := Iff.rfl
theorem w_c : eC p ds Q ↔ Q (.dat p) ds := Iff.rfl
theorem w_raw {v : V} : eRaw v ds Q ↔ Q (.raw v) ds := Iff.rfl
theorem w_e2 {s : BSem} : e2 s ta tb ds Q ↔ ta ds fun x ds1 => tb ds1 fun y ds2 => s x y ds2 Q := Iff.rfl
theorem w_sI {g : Int → Int → PyData} : sI g (.dat (.int u)) (.dat (.int v)) ds Q ↔ Q (.dat (g u v)) ds :=
  ⟨fun ⟨i, j, e1, e2, h⟩ => by cases e1; cases e2; exact h, fun h => ⟨u, v, rfl, rfl, h⟩⟩
theorem w_sIc {C : Int → Int → Prop} {g : Int → Int → PyData} : sIc C g (.dat (.int u)) (.dat (.int v)) ds Q ↔ C u v ∧ Q (.dat (g u v)) ds :=
  ⟨fun ⟨i, j, e1, e2, c, h⟩ => by cases e1; cases e2; exact ⟨c, h⟩, fun ⟨c, h⟩ => ⟨u, v, rfl, rfl, c, h⟩⟩
theorem w_tBl : tBl te ds QT ↔ te ds fun x ds1 => BoolW x fun b => QT b ds1 := Iff.rfl
theorem w_boolW {b : Bool} {R : Bool → Prop} : BoolW (.dat (.bool b)) R ↔ R b := ⟨fun ⟨c, e, h⟩ => by cases e; exact h, fun h => ⟨b, rfl, h⟩⟩
theorem w_intW {R : Int → Prop} : IntW (.dat (.int u)) R ↔ R u := ⟨fun ⟨c, e, h⟩ => by cases e; exact h, fun h => ⟨u, rfl, h⟩⟩
theorem w_tupW {R : List PyData → Prop} : TupW (.dat (.tuple xs)) R ↔ R xs := ⟨fun ⟨c, e, h⟩ => by cases e; exact h, fun h => ⟨xs, rfl, h⟩⟩
theorem w_eq : sEq (.dat p) (.dat q) ds Q ↔ SeqAt.shaped p = true ∧ SeqAt.shaped q = true ∧ Q (.dat (.bool (PyData.eqv p q))) ds :=
  ⟨fun ⟨p', q', e1, e2, h⟩ => by obtain rfl : p' = p := e1; obtain rfl : q' = q := e2; exact h, fun h => ⟨p, q, rfl, rfl, h⟩⟩
theorem w_ne : sNe (.dat p) (.dat q) ds Q ↔ SeqAt.shaped p = true ∧ SeqAt.shaped q = true ∧ Q (.dat (.bool (!PyData.eqv p q))) ds :=
  ⟨fun ⟨p', q', e1, e2, h⟩ => by obtain rfl : p' = p := e1; obtain rfl : q' = q := e2; exact h, fun h => ⟨p, q, rfl, rfl, h⟩⟩
theorem pyd_lst : Pyd ds (.lst a xs) p ↔ p = .list xs :=
  ⟨fun ⟨ad, ys, s, e⟩ => by cases (show D.lst ad ys = .lst a xs from s); exact e, fun e => ⟨a, xs, rfl, e⟩⟩
theorem pyd_bor : Pyd ds (.bor a i π (.lst b xs)) p ↔ See ds (.bor a i π (.lst b xs)) (.lst b xs) ∧ p = .list xs :=
  ⟨fun ⟨ad, ys, s, e⟩ => by obtain ⟨e1, h⟩ := s; cases e1; exact ⟨⟨rfl, h⟩, e⟩, fun ⟨s, e⟩ => ⟨b, xs, s, e⟩⟩
theorem w_eqL : sEq (.lst a xs) (.lst b ys) ds Q ↔ SeqAt.shaped (.list xs) = true ∧ SeqAt.shaped (.list ys) = true ∧ Q (.dat (.bool (PyData.eqv (.list xs) (.list ys)))) ds :=
  ⟨fun ⟨p', q', e1, e2, h⟩ => by obtain rfl := pyd_lst.mp e1; obtain rfl := pyd_lst.mp e2; exact h, fun h => ⟨_, _, pyd_lst.mpr rfl, pyd_lst.mpr rfl, h⟩⟩
theorem w_neL : sNe (.lst a xs) (.lst b ys) ds Q ↔ SeqAt.shaped (.list xs) = true ∧ SeqAt.shaped (.list ys) = true ∧ Q (.dat (.bool (!PyData.eqv (.list xs) (.list ys)))) ds :=
  ⟨fun ⟨p', q', e1, e2, h⟩ => by obtain rfl := pyd_lst.mp e1; obtain rfl := pyd_lst.mp e2; exact h, fun h => ⟨_, _, pyd_lst.mpr rfl, pyd_lst.mpr rfl, h⟩⟩
theorem w_isN : sIs x (.dat .none) ds Q ↔ Q (.dat (.bool (isN x))) ds :=
  ⟨fun h => by rcases h with ⟨_, h⟩ | ⟨a, b, _, e, _⟩; exact h; (cases e), fun h => .inl ⟨rfl, h⟩⟩
theorem w_isNotN : sIsNot x (.dat .none) ds Q ↔ Q (.dat (.bool (!isN x))) ds :=
  ⟨fun h => by rcases h with ⟨_, h⟩ | ⟨a, b, _, e, _⟩; exact h; (cases e), fun h => .inl ⟨rfl, h⟩⟩
theorem w_isBB {b c : Bool} : sIs (.dat (.bool b)) (.dat (.bool c)) ds Q ↔ Q (.dat (.bool (decide (b = c)))) ds :=
  ⟨fun h => by rcases h with ⟨e, _⟩ | ⟨a, b, e1, e2, h⟩; cases e; cases e1; cases e2; exact h, fun h => .inr ⟨b, c, rfl, rfl, h⟩⟩
theorem w_isNotBB {b c : Bool} : sIsNot (.dat (.bool b)) (.dat (.bool c)) ds Q ↔ Q (.dat (.bool (!decide (b = c)))) ds :=
  ⟨fun h => by rcases h with ⟨e, _⟩ | ⟨a, b, e1, e2, h⟩; cases e; cases e1; cases e2; exact h, fun h => .inr ⟨b, c, rfl, rfl, h⟩⟩
/-! what is walked, asked, indexed: by what is seen -/
def SeeOk (ds : PSt) : D → Prop
  | .bor a i π d => root d = some a ∧ ∃ e, ds[i]? = some (some e) ∧ getP e π = some d
  | _ => True
def seen : D → D
  | .bor _ _ _ d => d
  | x => x
theorem see_iff : See ds x t ↔ t = seen x ∧ SeeOk ds x := by
  cases x <;> simp [See, seen, SeeOk]
theorem ex_see {R : D → Prop} : (∃ t, See ds x t ∧ R t) ↔ SeeOk ds x ∧ R (seen x) :=
  ⟨fun ⟨t, h, r⟩ => by obtain ⟨rfl, h2⟩ := see_iff.mp h; exact ⟨h2, r⟩, fun ⟨h, r⟩ => ⟨_, see_iff.mpr ⟨rfl, h⟩, r⟩⟩
theorem w_len : sLen x ds Q ↔ SeeOk ds x ∧ ∃ n, LenT (seen x) n ∧ Q (.dat (.int (n : Nat))) ds :=
  ⟨fun ⟨t, n, h, r⟩ => by obtain ⟨rfl, h2⟩ := see_iff.mp h; exact ⟨h2, n, r⟩, fun ⟨h, n, r⟩ => ⟨_, n, see_iff.mpr ⟨rfl, h⟩, r⟩⟩
theorem w_tupO : sTupO x ds Q ↔ SeeOk ds x ∧ ∃ xs, ItemsT (seen x) xs ∧ Q (.dat (.tuple xs)) ds :=
  ⟨fun ⟨t, n, h, r⟩ => by obtain ⟨rfl, h2⟩ := see_iff.mp h; exact ⟨h2, n, r⟩, fun ⟨h, n, r⟩ => ⟨_, n, see_iff.mpr ⟨rfl, h⟩, r⟩⟩
theorem w_lstO : sLstO x ds Q ↔ SeeOk ds x ∧ ∃ xs, ItemsT (seen x) xs ∧ ∀ a, Q (.lst a xs) ds :=
  ⟨fun ⟨t, n, h, r⟩ => by obtain ⟨rfl, h2⟩ := see_iff.mp h; exact ⟨h2, n, r⟩, fun ⟨h, n, r⟩ => ⟨_, n, see_iff.mpr ⟨rfl, h⟩, r⟩⟩
def SeqW (x : D) (ds : PSt) (R : List D → (PSt → Prop) → PSt → Prop) : Prop := ∃ t xs, See ds x t ∧ ItemsT t xs ∧ R (xs.map .dat) (fun ds2 => See ds2 x t) ds
theorem w_seq {R : List D → (PSt → Prop) → PSt → Prop} : iSeq te ds R ↔ te ds fun x ds1 => SeqW x ds1 R := Iff.rfl
theorem w_seqT {R : List D → (PSt → Prop) → PSt → Prop} : SeqW (.dat (.tuple xs)) ds R ↔ R (xs.map .dat) (fun _ => True) ds := by
  have e : (fun ds2 => See ds2 (.dat (.tuple xs)) (.dat (.tuple xs))) = fun _ => True := funext fun _ => propext ⟨fun _ => trivial, fun _ => rfl⟩
  constructor
  · rintro ⟨t, zs, h, i, r⟩
    obtain rfl : t = .dat (.tuple xs) := h
    obtain rfl : zs = xs := i
    rw [e] at r; exact r
  · intro r
    exact ⟨_, xs, rfl, rfl, by rw [e]; exact r⟩
theorem w_seqN {R : List D → (PSt → Prop) → PSt → Prop} : SeqW (.lst a xs) ds R ↔ R (xs.map .dat) (fun _ => True) ds := by
  have e : (fun ds2 => See ds2 (.lst a xs) (.lst a xs)) = fun _ => True := funext fun _ => propext ⟨fun _ => trivial, fun _ => rfl⟩
  constructor
  · rintro ⟨t, zs, h, i, r⟩
    obtain rfl : t = .lst a xs := h
    obtain rfl : zs = xs := i
    rw [e] at r; exact r
  · intro r
    exact ⟨_, xs, rfl, rfl, by rw [e]; exact r⟩
theorem w_seqLi {R : List D → (PSt → Prop) → PSt → Prop} : SeqW (.dat (.list xs)) ds R ↔ R (xs.map .dat) (fun _ => True) ds := by
  have e : (fun ds2 => See ds2 (.dat (.list xs)) (.dat (.list xs))) = fun _ => True := funext fun _ => propext ⟨fun _ => trivial, fun _ => rfl⟩
  constructor
  · rintro ⟨t, zs, h, i, r⟩
    obtain rfl : t = .dat (.list xs) := h
    obtain rfl : zs = xs := i
    rw [e] at r; exact r
  · intro r
    exact ⟨_, xs, rfl, rfl, by rw [e]; exact r⟩
theorem w_seqB {R : List D → (PSt → Prop) → PSt → Prop} : SeqW (.bor a i π (.lst b xs)) ds R ↔ SeeOk ds (.bor a i π (.lst b xs)) ∧ R (xs.map .dat) (fun ds2 => SeeOk ds2 (.bor a i π (.lst b xs))) ds := by
  have e : (fun ds2 => See ds2 (.bor a i π (.lst b xs)) (.lst b xs)) = fun ds2 => SeeOk ds2 (.bor a i π (.lst b xs)) := funext fun _ => propext ⟨fun h => h.2, fun h => ⟨rfl, h⟩⟩
  constructor
  · rintro ⟨t, zs, h, i, r⟩
    obtain ⟨rfl, h2⟩ := see_iff.mp h
    obtain rfl : zs = xs := i
    rw [← e]; exact ⟨h2, r⟩
  · intro ⟨h, r⟩
    exact ⟨_, xs, see_iff.mpr ⟨rfl, h⟩, rfl, by rw [← e] at r; exact r⟩
theorem seen_dat : seen (.dat p) = .dat p := rfl
theorem seen_lst : seen (.lst a xs) = .lst a xs := rfl
theorem seen_lsD {xs : List D} : seen (.lsD a xs) = .lsD a xs := rfl
theorem seen_dk {kvs : List (Key × PyData)} : seen (.dk a kvs) = .dk a kvs := rfl
theorem seen_bor : seen (.bor a i π d) = d := rfl
theorem ok_dat : SeeOk ds (.dat p) ↔ True := Iff.rfl
theorem ok_lst : SeeOk ds (.lst a xs) ↔ True := Iff.rfl
theorem ok_lsD {xs : List D} : SeeOk ds (.lsD a xs) ↔ True := Iff.rfl
theorem ok_dk {kvs : List (Key × PyData)} : SeeOk ds (.dk a kvs) ↔ True := Iff.rfl
theorem ok_bor : SeeOk ds (.bor a i π d) ↔ root d = some a ∧ ∃ e, ds[i]? = some (some e) ∧ getP e π = some d := Iff.rfl
theorem root_lst : root (.lst a xs) = some a := rfl
theorem root_lsD {xs : List D} : root (.lsD a xs) = some a := rfl
theorem root_dk {kvs : List (Key × PyData)} : root (.dk a kvs) = some a := rfl
theorem root_ins {c : Addr} {fs : List (Str × D)} : root (.ins a c fs) = some a := rfl
theorem ld_dat : ldAt i π (.dat p) = some (.dat p) := rfl
theorem ld_lst : ldAt i π (.lst a xs) = some (.bor a i π (.lst a xs)) := rfl
theorem ld_lsD {xs : List D} : ldAt i π (.lsD a xs) = some (.bor a i π (.lsD a xs)) := rfl
theorem ld_dk {kvs : List (Key × PyData)} : ldAt i π (.dk a kvs) = some (.bor a i π (.dk a kvs)) := rfl
theorem ld_bor {ρ : List Stp} : ldAt j ρ (.bor a i π d) = some (.bor a i π d) := rfl
theorem it_tup {zs : List PyData} : ItemsT (.dat (.tuple xs)) zs ↔ zs = xs := Iff.rfl
theorem it_list {zs : List PyData} : ItemsT (.dat (.list xs)) zs ↔ zs = xs := Iff.rfl
theorem it_lst {zs : List PyData} : ItemsT (.lst a xs) zs ↔ zs = xs := Iff.rfl
theorem ln_tup : LenT (.dat (.tuple xs)) n ↔ n = xs.length := Iff.rfl
theorem ln_list : LenT (.dat (.list xs)) n ↔ n = xs.length := Iff.rfl
theorem ln_lst : LenT (.lst a xs) n ↔ n = xs.length := Iff.rfl
theorem ln_lsD {xs : List D} : LenT (.lsD a xs) n ↔ n = xs.length := Iff.rfl
theorem ln_str {z : Str} : LenT (.dat (.str z)) n ↔ z.length ≤ sizeLine ∧ n = z.length := Iff.rfl
theorem w_lenT : sLen (.dat (.tuple xs)) ds Q ↔ Q (.dat (.int (xs.length : Nat))) ds := by
  rw [w_len]; exact ⟨fun ⟨_, n, h, q⟩ => by obtain rfl : n = xs.length := h; exact q, fun q => ⟨trivial, _, rfl, q⟩⟩
theorem w_lenL : sLen (.lst a xs) ds Q ↔ Q (.dat (.int (xs.length : Nat))) ds := by
  rw [w_len]; exact ⟨fun ⟨_, n, h, q⟩ => by obtain rfl : n = xs.length := h; exact q, fun q => ⟨trivial, _, rfl, q⟩⟩
theorem w_lenBL : sLen (.bor a i π (.lst b xs)) ds Q ↔ SeeOk ds (.bor a i π (.lst b xs)) ∧ Q (.dat (.int (xs.length : Nat))) ds := by
  rw [w_len]; exact ⟨fun ⟨h0, n, h, q⟩ => by obtain rfl : n = xs.length := h; exact ⟨h0, q⟩, fun ⟨h0, q⟩ => ⟨h0, _, rfl, q⟩⟩
theorem w_lenBD {xs : List D} : sLen (.bor a i π (.lsD b xs)) ds Q ↔ SeeOk ds (.bor a i π (.lsD b xs)) ∧ Q (.dat (.int (xs.length : Nat))) ds := by
  rw [w_len]; exact ⟨fun ⟨h0, n, h, q⟩ => by obtain rfl : n = xs.length := h; exact ⟨h0, q⟩, fun ⟨h0, q⟩ => ⟨h0, _, rfl, q⟩⟩
theorem w_ix : sIx x y ds Q ↔ SeeOk ds x ∧ ∃ d, IxT x (seen x) y d ∧ Q d ds :=
  ⟨fun ⟨t, n, h, r⟩ => by obtain ⟨rfl, h2⟩ := see_iff.mp h; exact ⟨h2, n, r⟩, fun ⟨h, n, r⟩ => ⟨_, n, see_iff.mpr ⟨rfl, h⟩, r⟩⟩
theorem ix_tupI : IxT x (.dat (.tuple xs)) (.dat (.int u)) d ↔ ∃ p, atI xs u = some p ∧ d = .dat p :=
  ⟨fun h => by cases h with
    | items hi hp => obtain rfl := hi; exact ⟨_, hp, rfl⟩
    | key g => (cases g), fun ⟨p, h, e⟩ => by subst e; exact .items (xs := xs) rfl h⟩
theorem ix_lstI : IxT x (.lst a xs) (.dat (.int u)) d ↔ ∃ p, atI xs u = some p ∧ d = .dat p :=
  ⟨fun h => by cases h with
    | items hi hp => obtain rfl := hi; exact ⟨_, hp, rfl⟩
    | key g => (cases g), fun ⟨p, h, e⟩ => by subst e; exact .items (xs := xs) rfl h⟩
theorem ix_ownI {xs : List D} : IxT (.bor a s π t) (.lsD b xs) (.dat (.int u)) d ↔ ∃ m d', ixN xs.length u = some m ∧ xs[m]? = some d' ∧ ldAt s (π ++ [.it m]) d' = some d :=
  ⟨fun h => by cases h with
    | items hi hp => exact hi.elim
    | own h1 h2 h3 => exact ⟨_, _, h1, h2, h3⟩
    | key g => (cases g), fun ⟨m, d', h1, h2, h3⟩ => .own h1 h2 h3⟩
theorem key_int {kvs : List (Key × PyData)} {o : Option PyData} : KeyAt (.dk a kvs) (.int u) o ↔ o = look kvs (.inl u) :=
  ⟨fun h => by cases h with
    | @k _ _ _ k _ e l => cases k with
      | inl i => cases e; exact l.symm
      | inr z => (cases e), fun h => .k (k := .inl u) rfl h.symm⟩
theorem key_str {kvs : List (Key × PyData)} {z : Str} {o : Option PyData} : KeyAt (.dk a kvs) (.str z) o ↔ o = look kvs (.inr z) :=
  ⟨fun h => by cases h with
    | @k _ _ _ k _ e l => cases k with
      | inl i => cases e
      | inr z => cases e; exact l.symm, fun h => .k (k := .inr z) rfl h.symm⟩
theorem ix_keyI {kvs : List (Key × PyData)} : IxT x (.dk a kvs) (.dat (.int u)) d ↔ ∃ q, look kvs (.inl u) = some q ∧ d = .dat q :=
  ⟨fun h => by cases h with
    | items hi hp => exact hi.elim
    | key g => exact ⟨_, (key_int.mp g).symm, rfl⟩, fun ⟨q, h, e⟩ => by subst e; exact .key (key_int.mpr h.symm)⟩
theorem w_in {neg : Bool} : sInN neg (.dat p) y ds Q ↔ SeeOk ds y ∧
  ((∃ xs, ItemsT (seen y) xs ∧ flatP p = true ∧ xs.all flatP = true ∧ Q (.dat (.bool (if neg then !(xs.any fun z => PyData.eqv z p) else (xs.any fun z => PyData.eqv z p)))) ds) ∨
   (∃ o, KeyAt (seen y) p o ∧ Q (.dat (.bool (if neg then !o.isSome else o.isSome))) ds)) :=
  ⟨fun ⟨p', t, e, h, r⟩ => by cases e; obtain ⟨rfl, h2⟩ := see_iff.mp h; exact ⟨h2, r⟩, fun ⟨h, r⟩ => ⟨p, _, rfl, see_iff.mpr ⟨rfl, h⟩, r⟩⟩
theorem w_inDk {neg : Bool} {kvs : List (Key × PyData)} (hs : seen y = .dk a kvs) : sInN neg (.dat (.int u)) y ds Q ↔ SeeOk ds y ∧ Q (.dat (.bool (if neg then !(look kvs (.inl u)).isSome else (look kvs (.inl u)).isSome))) ds := by
  rw [w_in, hs]
  constructor
  · rintro ⟨h, ⟨xs, hi, _⟩ | ⟨o, ho, q⟩⟩
    · exact hi.elim
    · obtain rfl := key_int.mp ho; exact ⟨h, q⟩
  · rintro ⟨h, q⟩
    exact ⟨h, .inr ⟨_, key_int.mpr rfl, q⟩⟩
theorem w_inDkB {neg : Bool} {kvs : List (Key × PyData)} : sInN neg (.dat (.int u)) (.bor b i π (.dk a kvs)) ds Q ↔ SeeOk ds (.bor b i π (.dk a kvs)) ∧ Q (.dat (.bool (if neg then !(look kvs (.inl u)).isSome else (look kvs (.inl u)).isSome))) ds := w_inDk rfl
theorem w_inTup {neg : Bool} : sInN neg (.dat p) (.dat (.tuple xs)) ds Q ↔ flatP p = true ∧ xs.all flatP = true ∧ Q (.dat (.bool (if neg then !(xs.any fun z => PyData.eqv z p) else (xs.any fun z => PyData.eqv z p)))) ds := by
  rw [w_in]
  constructor
  · rintro ⟨h, ⟨xs, hi, q⟩ | ⟨o, ho, q⟩⟩
    · obtain rfl : xs = _ := hi; exact q
    · cases ho
  · exact fun q => ⟨trivial, .inl ⟨_, rfl, q⟩⟩
theorem w_tru : tTru te ds QT ↔ te ds fun x ds1 => TruW x ds1 fun b => QT b ds1 := Iff.rfl
theorem w_truB {b : Bool} {R : Bool → Prop} : TruW (.dat (.bool b)) ds R ↔ R b :=
  ⟨fun ⟨d, c, e, h, q⟩ => by obtain rfl : d = _ := e; cases (show some b = some c from h); exact q, fun h => ⟨_, b, rfl, rfl, h⟩⟩
theorem w_truI {R : Bool → Prop} : TruW (.dat (.int u)) ds R ↔ R (u != 0) :=
  ⟨fun ⟨d, c, e, h, q⟩ => by obtain rfl : d = _ := e; cases (show some (u != 0) = some c from h); exact q, fun h => ⟨_, _, rfl, rfl, h⟩⟩
theorem w_truT {R : Bool → Prop} : TruW (.dat (.tuple xs)) ds R ↔ R (!xs.isEmpty) :=
  ⟨fun ⟨d, c, e, h, q⟩ => by obtain rfl : d = _ := e; cases (show some (!xs.isEmpty) = some c from h); exact q, fun h => ⟨_, _, rfl, rfl, h⟩⟩
theorem w_truL {R : Bool → Prop} : TruW (.bor a i π (.lst b xs)) ds R ↔ SeeOk ds (.bor a i π (.lst b xs)) ∧ R (!xs.isEmpty) :=
  ⟨fun ⟨d, c, e, h, q⟩ => by obtain ⟨rfl, h0⟩ := see_iff.mp e; cases (show c = !xs.isEmpty from h); exact ⟨h0, q⟩, fun ⟨h0, h⟩ => ⟨_, _, see_iff.mpr ⟨rfl, h0⟩, rfl, h⟩⟩
theorem w_truN {R : Bool → Prop} : TruW (.dat .none) ds R ↔ R false :=
  ⟨fun ⟨d, c, e, h, q⟩ => by obtain rfl : d = _ := e; cases (show some false = some c from h); exact q, fun h => ⟨_, _, rfl, rfl, h⟩⟩
theorem w_and : dAnd tA tB ds QT ↔ tA ds fun c ds1 => if c = true then tB ds1 QT else QT false ds1 := Iff.rfl
theorem w_or : dOr tA tB ds QT ↔ tA ds fun c ds1 => if c = true then QT true ds1 else tB ds1 QT := Iff.rfl
theorem w_not : dNot tA ds QT ↔ tA ds fun c ds1 => QT (!c) ds1 := Iff.rfl
theorem w_eAnd : eAnd ta tb ds Q ↔ ta ds fun x ds1 => BoolW x fun c => if c = true then tb ds1 Q else Q (.dat (.bool false)) ds1 := Iff.rfl
theorem w_eOr : eOr ta tb ds Q ↔ ta ds fun x ds1 => BoolW x fun c => if c = true then Q (.dat (.bool true)) ds1 else tb ds1 Q := Iff.rfl
theorem w_eNot : eNot ta ds Q ↔ ta ds fun x ds1 => BoolW x fun c => Q (.dat (.bool (!c))) ds1 := Iff.rfl


theorem w_if : eIf tA ta tb ds Q ↔ tA ds fun c ds1 => if c = true then ta ds1 Q else tb ds1 Q := Iff.rfl
theorem w_chain {g g' : Int → Int → Bool} : eChainI g g' ta tb tc ds Q ↔ ta ds fun x ds1 => tb ds1 fun y ds2 => As2I [x, y] fun i j => if g i j = true then tc ds2 fun z ds3 => IntW z fun k => Q (.dat (.bool (g' j k))) ds3 else Q (.dat (.bool false)) ds2 := by
  unfold eChainI As2I IntW
  simp only [List.cons.injEq, and_true, and_assoc]
theorem w_aNil : aNil ds QA ↔ QA [] ds := Iff.rfl
theorem w_aCons : aCons ta tr ds QA ↔ ta ds fun x ds1 => tr ds1 fun xs ds2 => QA (x :: xs) ds2 := Iff.rfl
theorem w_tup : eTup tr ds Q ↔ tr ds fun as ds1 => Nat.ble as.length 1000 = true ∧ mkT as Q ds1 := Iff.rfl
theorem w_lst : eLst tr ds Q ↔ tr ds fun as ds1 => Nat.ble as.length 1000 = true ∧ mkL as Q ds1 := Iff.rfl
theorem w_mkT0 : mkT [] Q ds ↔ Q (.dat (.tuple [])) ds := Iff.rfl
theorem w_mkT1 {p1 : PyData} : mkT [.dat p1] Q ds ↔ Q (.dat (.tuple [p1])) ds := Iff.rfl
theorem w_mkT2 {p1 p2 : PyData} : mkT [.dat p1, .dat p2] Q ds ↔ Q (.dat (.tuple [p1, p2])) ds := Iff.rfl
theorem w_mkT3 {p1 p2 p3 : PyData} : mkT [.dat p1, .dat p2, .dat p3] Q ds ↔ Q (.dat (.tuple [p1, p2, p3])) ds := Iff.rfl
theorem w_mkL0 : mkL [] Q ds ↔ ∀ a, Q (.lst a []) ds := Iff.rfl
theorem w_mkL1 {p1 : PyData} : mkL [.dat p1] Q ds ↔ ∀ a, Q (.lst a [p1]) ds := Iff.rfl
theorem w_mkL2 {p1 p2 : PyData} : mkL [.dat p1, .dat p2] Q ds ↔ ∀ a, Q (.lst a [p1, p2]) ds := Iff.rfl
theorem w_call {s : ASem} : eCall s tr ds Q ↔ tr ds fun as ds1 => s as ds1 Q := Iff.rfl
theorem w_s1 {s : D → PSt → (D → PSt → Prop) → Prop} : s1 s [x] ds Q ↔ s x ds Q := ⟨fun ⟨y, e, h⟩ => by cases e; exact h, fun h => ⟨x, rfl, h⟩⟩
theorem w_intF {g : Int → Int} : sIntF g (.dat (.int u)) ds Q ↔ Q (.dat (.int (g u))) ds := ⟨fun ⟨y, e, h⟩ => by cases e; exact h, fun h => ⟨u, rfl, h⟩⟩
theorem w_own {sp : SpD} : eOwn sp tr ds Q ↔ tr ds fun as ds1 => lendK as ds1 fun args ds2 => sp args fun d args' => backK as args' ds2 fun ds3 => Q d ds3 := Iff.rfl
theorem w_out : eOut i ds Q ↔ ∃ d, ds[i]? = some (some d) ∧ Q d (ds.set i none) := Iff.rfl
theorem w_neg : eNeg ta ds Q ↔ ta ds fun x ds1 => IntW x fun i => Q (.dat (.int (-i))) ds1 := Iff.rfl
theorem w_addI : sAdd (.dat (.int u)) (.dat (.int v)) ds Q ↔ Q (.dat (.int (u + v))) ds :=
  ⟨fun h => by
    rcases h with ⟨i, j, e1, e2, h⟩ | ⟨_, _, e, _⟩ | ⟨_, _, _, _, s, _⟩ | ⟨_, _, e, _⟩
    · cases e1; cases e2; exact h
    · cases e
    · cases (show D.lst _ _ = .dat (.int u) from s)
    · (cases e), fun h => .inl ⟨u, v, rfl, rfl, h⟩⟩
theorem w_addT : sAdd (.dat (.tuple xs)) (.dat (.tuple ys)) ds Q ↔ xs.length + ys.length ≤ 16777216 ∧ Q (.dat (.tuple (xs ++ ys))) ds :=
  ⟨fun h => by
    rcases h with ⟨i, j, e1, e2, h⟩ | ⟨_, _, e, e', h⟩ | ⟨_, _, _, _, s, _⟩ | ⟨_, _, e, _⟩
    · cases e1
    · cases e; cases e'; exact h
    · cases (show D.lst _ _ = .dat (.tuple xs) from s)
    · (cases e), fun h => .inr (.inl ⟨xs, ys, rfl, rfl, h⟩)⟩
theorem w_addL : sAdd (.lst a xs) (.lst b ys) ds Q ↔ xs.length + ys.length ≤ 16777216 ∧ ∀ c, Q (.lst c (xs ++ ys)) ds :=
  ⟨fun h => by
    rcases h with ⟨i, j, e1, e2, h⟩ | ⟨_, _, e, e', h⟩ | ⟨_, _, _, _, s, s', h⟩ | ⟨_, _, e, _⟩
    · cases e1
    · cases e
    · cases (show D.lst _ _ = .lst a xs from s); cases (show D.lst _ _ = .lst b ys from s'); exact h
    · (cases e), fun h => .inr (.inr (.inl ⟨a, xs, b, ys, rfl, rfl, h⟩))⟩
theorem w_mulI : sMul (.dat (.int u)) (.dat (.int v)) ds Q ↔ CMul u v ∧ Q (.dat (.int (u * v))) ds :=
  ⟨fun h => by
    rcases h with ⟨i, j, e1, e2, h⟩ | ⟨_, _, _, s, _⟩
    · cases e1; cases e2; exact h
    · (cases (show D.lst _ _ = .dat (.int u) from s)), fun h => .inl ⟨u, v, rfl, rfl, h⟩⟩
theorem w_mulL : sMul (.lst a xs) (.dat (.int v)) ds Q ↔ (0 ≤ v ∧ v < 2 ^ 63) ∧ xs.length * v.toNat ≤ 16777216 ∧ ∀ c, Q (.lst c (List.replicate v.toNat xs).flatten) ds :=
  ⟨fun h => by
    rcases h with ⟨i, j, e1, e2, h⟩ | ⟨_, _, _, s, e, h⟩
    · cases e1
    · cases (show D.lst _ _ = .lst a xs from s); cases e; exact h, fun h => .inr ⟨a, xs, v, rfl, rfl, h⟩⟩
theorem w_dict0 : eDict0 ds Q ↔ ∀ a, Q (.dk a []) ds := Iff.rfl
/-! lending -/
theorem w_lend0 {kk : List D → PSt → Prop} : lendK [] ds kk ↔ kk [] ds := Iff.rfl
theorem w_lendB {xs : List D} {kk : List D → PSt → Prop} : lendK (.bor a i π t :: xs) ds kk ↔ root t = some a ∧ upS ds i π t (.raw (.ref a)) fun ds' => lendK xs ds' fun r ds2 => kk (t :: r) ds2 := Iff.rfl
theorem w_lendD {xs : List D} {kk : List D → PSt → Prop} : lendK (.dat p :: xs) ds kk ↔ lendK xs ds fun r ds2 => kk (.dat p :: r) ds2 := Iff.rfl
theorem w_lendL {ys : List D} {kk : List D → PSt → Prop} : lendK (.lst a xs :: ys) ds kk ↔ lendK ys ds fun r ds2 => kk (.lst a xs :: r) ds2 := Iff.rfl
theorem w_back0 : backK [] [] ds k ↔ k ds := Iff.rfl
theorem w_backB {xs r : List D} : backK (.bor a i π t :: xs) (d :: r) ds k ↔ upS ds i π (.raw (.ref a)) d fun ds' => backK xs r ds' k := Iff.rfl
theorem w_backD {xs r : List D} : backK (.dat p :: xs) (d :: r) ds k ↔ backK xs r ds k := Iff.rfl
theorem w_backL {ys r : List D} : backK (.lst a xs :: ys) (d :: r) ds k ↔ backK ys r ds k := Iff.rfl
/-! slices, ranges -/
theorem w_sl {tl th : TOP} : eSl te tl th ds Q ↔ te ds fun x ds1 => tl ds1 fun lo ds2 => th ds2 fun hi ds3 => SlW x ds3 lo hi Q := Iff.rfl
theorem w_slT {lo hi : Option Int} : SlW (.dat (.tuple ys)) ds lo hi Q ↔ Q (.dat (.tuple (cutP ys lo hi))) ds :=
  ⟨fun ⟨t, xs, s, h⟩ => by
    obtain rfl : t = _ := s
    rcases h with ⟨e, h⟩ | ⟨a, e, h⟩
    · cases e; exact h
    · (cases e), fun h => ⟨_, _, rfl, .inl ⟨rfl, h⟩⟩⟩
theorem w_slL {lo hi : Option Int} : SlW (.bor a i π (.lst b ys)) ds lo hi Q ↔ SeeOk ds (.bor a i π (.lst b ys)) ∧ ∀ c, Q (.lst c (cutP ys lo hi)) ds :=
  ⟨fun ⟨t, xs, s, h⟩ => by
    obtain ⟨rfl, ok⟩ := see_iff.mp s
    rcases h with ⟨e, h⟩ | ⟨a, e, h⟩
    · cases e
    · cases e; exact ⟨ok, h⟩, fun ⟨ok, h⟩ => ⟨_, _, see_iff.mpr ⟨rfl, ok⟩, .inr ⟨_, rfl, h⟩⟩⟩
theorem w_oNone {QO : Option Int → PSt → Prop} : oNone ds QO ↔ QO none ds := Iff.rfl
theorem w_oSome {QO : Option Int → PSt → Prop} : oSome te ds QO ↔ te ds fun x ds1 => IntW x fun i => QO (some i) ds1 := Iff.rfl
theorem w_tupRg : eTupRg te ds Q ↔ te ds fun x ds1 => IntW x fun n => rgOk n ∧ Q (.dat (.tuple ((upto 0 n.toNat).map .int))) ds1 := Iff.rfl
theorem w_lstRg : eLstRg te ds Q ↔ te ds fun x ds1 => IntW x fun n => rgOk n ∧ ∀ a, Q (.lst a ((upto 0 n.toNat).map .int)) ds1 := Iff.rfl
theorem w_lenSet : eLenSet te ds Q ↔ te ds fun x ds1 => ∃ ns : List Int, x = .dat (.tuple (ns.map .int)) ∧ ns.length ≤ 4000 ∧ ∀ ks : List Int, ks.Nodup → (∀ k, k ∈ ks ↔ k ∈ ns) → Q (.dat (.int (ks.length : Nat))) ds1 := Iff.rfl
theorem w_tix : eTix ta te ds Q ↔ ta ds fun x ds1 => TupW x fun xs => te ds1 fun y ds2 => ∃ p j z, y = .dat p ∧ flatP p = true ∧ xs.all flatP = true ∧ xs[j]? = some z ∧ PyData.eqv z p = true ∧ (∀ m z', m < j → xs[m]? = some z' → PyData.eqv z' p = false) ∧ Q (.dat (.int (j : Nat))) ds2 := Iff.rfl
/-! methods -/
theorem w_bm {T : String} {ms : MSem} : eBM T ms ta tr ds Q ↔ ta ds fun x ds1 => (∃ d, See ds1 x d ∧ TyM d T) ∧ tr ds1 fun as ds2 => ms x as ds2 Q := Iff.rfl
theorem w_tyM {T : String} : (∃ d, See ds x d ∧ TyM d T) ↔ SeeOk ds x ∧ TyM (seen x) T := ex_see
theorem w_app : sAppend (.bor a i π (.lst b xs)) [.dat p] ds Q ↔ a = b ∧ xs.length < 16777216 ∧ upS ds i π (.lst a xs) (.lst a (xs ++ [p])) (Q (.dat .none)) :=
  ⟨fun ⟨a', i', π', xs', p', e, e2, h⟩ => by cases e; cases e2; exact ⟨rfl, h⟩, fun ⟨e, h⟩ => by subst e; exact ⟨a, i, π, xs, p, rfl, rfl, h⟩⟩
theorem w_insert : sInsert (.bor a i π (.lst b xs)) [.dat (.int u), .dat p] ds Q ↔ a = b ∧ xs.length < 16777216 ∧ 0 ≤ u ∧ u < 2 ^ 63 ∧ upS ds i π (.lst a xs) (.lst a (xs.take u.toNat ++ [p] ++ xs.drop u.toNat)) (Q (.dat .none)) :=
  ⟨fun ⟨a', i', π', xs', j', p', e, e2, h⟩ => by cases e; cases e2; exact ⟨rfl, h⟩, fun ⟨e, h⟩ => by subst e; exact ⟨a, i, π, xs, u, p, rfl, rfl, h⟩⟩
theorem w_extend {c : Addr} : sExtend (.bor a i π (.lst b xs)) [.lst c ys] ds Q ↔ a = b ∧ xs.length + ys.length ≤ 16777216 ∧ upS ds i π (.lst a xs) (.lst a (xs ++ ys)) (Q (.dat .none)) :=
  ⟨fun ⟨a', i', π', xs', y', b', ys', e, e2, s, h⟩ => by cases e; cases e2; cases (show D.lst b' ys' = .lst c ys from s); exact ⟨rfl, h⟩, fun ⟨e, h⟩ => by subst e; exact ⟨a, i, π, xs, _, c, ys, rfl, rfl, rfl, h⟩⟩
/-! statements -/
theorem w_next : tNextD E ds ↔ E.nx ds := Iff.rfl
theorem w_seqS {t u : TSP} : tSeqD t u E ds ↔ t ⟨fun ds1 => u E ds1, E.rt, E.bk, E.ct⟩ ds := Iff.rfl
theorem w_break : tBreakD E ds ↔ E.bk ds := Iff.rfl
theorem w_cont : tContD E ds ↔ E.ct ds := Iff.rfl
theorem w_drop : tDropD te E ds ↔ te ds fun _ ds1 => E.nx ds1 := Iff.rfl
theorem w_ret : tRetD te E ds ↔ te ds fun d ds1 => E.rt d ds1 := Iff.rfl
theorem w_ifS {t u : TSP} : tIfD tA t u E ds ↔ tA ds fun b ds1 => if b = true then t E ds1 else u E ds1 := Iff.rfl
theorem w_never : tNeverD E ds ↔ False := Iff.rfl
theorem w_asg {g : TGP} : tAsgD te g E ds ↔ te ds fun d ds1 => g d ds1 E.nx := Iff.rfl
theorem w_gN : gN i d ds k ↔ k (ds.set i (some d)) := Iff.rfl
theorem w_gT {g : TGPs} : gT n g d ds k ↔ IsT d n fun ps => g ps ds k := Iff.rfl
theorem w_isT {R : List D → Prop} : IsT (.dat (.tuple xs)) n R ↔ xs.length = n ∧ R (xs.map .dat) := ⟨fun ⟨_, h, r⟩ => ⟨by rw [← h]; exact (List.length_map ..).symm, r⟩, fun ⟨h, r⟩ => ⟨rfl, by rw [← h]; exact List.length_map .., r⟩⟩
theorem w_isTD {R : List D → Prop} {xs : List D} : IsT (.tpD xs) n R ↔ xs.length = n ∧ R xs := ⟨fun ⟨_, h, r⟩ => ⟨h, r⟩, fun ⟨h, r⟩ => ⟨rfl, h, r⟩⟩
theorem w_isTP {R : List D → Prop} : IsT (.pr p q) n R ↔ 2 = n ∧ R [.dat p, .dat q] := ⟨fun ⟨_, h, r⟩ => ⟨h, r⟩, fun ⟨h, r⟩ => ⟨rfl, h, r⟩⟩
theorem w_gs0 : gsNil [] ds k ↔ k ds := ⟨fun h => h.2, fun h => ⟨rfl, h⟩⟩
theorem w_gs1 {g : TGP} {r : TGPs} {xs : List D} : gsCons g r (x :: xs) ds k ↔ g x ds fun ds1 => r xs ds1 k := ⟨fun ⟨d, t, e, h⟩ => by cases e; exact h, fun h => ⟨x, xs, rfl, h⟩⟩
theorem w_par : tParD i j tr E ds ↔ tr ds fun as ds1 => Par2 as fun a b => E.nx ((ds1.set j (some b)).set i (some a)) := Iff.rfl
theorem w_par2 {R : D → D → Prop} : Par2 [x, y] R ↔ R x y := ⟨fun ⟨a, b, e, h⟩ => by cases e; exact h, fun h => ⟨x, y, rfl, h⟩⟩
theorem w_gSub : gSubD ta tb d ds k ↔ ta ds fun x ds1 => tb ds1 fun y ds2 => ∃ a i π t t', x = .bor a i π t ∧ root t = some a ∧ SetT t y d t' ∧ upS ds2 i π t t' k := Iff.rfl
def subS (x y d : D) (ds : PSt) (k : PSt → Prop) : Prop := ∃ a i π t t', x = .bor a i π t ∧ root t = some a ∧ SetT t y d t' ∧ upS ds i π t t' k
theorem w_gSub' : gSubD ta tb d ds k ↔ ta ds fun x ds1 => tb ds1 fun y ds2 => subS x y d ds2 k := Iff.rfl
theorem w_subL : subS (.bor a i π (.lst b xs)) (.dat (.int u)) (.dat p) ds k ↔ b = a ∧ ∃ j, ixN xs.length u = some j ∧ upS ds i π (.lst b xs) (.lst b (xs.set j p)) k :=
  ⟨fun ⟨a', i', π', t, t', e, r, h, q⟩ => by
    cases e
    cases h with
    | lst hj => cases r; exact ⟨rfl, _, hj, q⟩, fun ⟨e, j, h, q⟩ => by subst e; exact ⟨_, i, π, _, _, rfl, rfl, .lst h, q⟩⟩
theorem w_subO {xs : List D} : subS (.bor a i π (.lsD b xs)) (.dat (.int u)) d ds k ↔ b = a ∧ ∃ j, ixN xs.length u = some j ∧ upS ds i π (.lsD b xs) (.lsD b (xs.set j d)) k :=
  ⟨fun ⟨a', i', π', t, t', e, r, h, q⟩ => by
    cases e
    cases h with
    | own hj => cases r; exact ⟨rfl, _, hj, q⟩, fun ⟨e, j, h, q⟩ => by subst e; exact ⟨_, i, π, _, _, rfl, rfl, .own h, q⟩⟩
theorem w_subK {kvs : List (Key × PyData)} : subS (.bor a i π (.dk b kvs)) (.dat (.int u)) (.dat p) ds k ↔ b = a ∧ kvs.length < 16777216 ∧ upS ds i π (.dk b kvs) (.dk b (store kvs (.inl u) p)) k :=
  ⟨fun ⟨a', i', π', t, t', e, r, h, q⟩ => by
    cases e
    cases h with
    | @key _ _ k0 p0 _ e h2 => cases r; cases k0 with
      | inl i => cases e; exact ⟨rfl, h2, q⟩
      | inr z => (cases e), fun ⟨e, h, q⟩ => by subst e; exact ⟨_, i, π, _, _, rfl, rfl, .key (k := .inl u) rfl h, q⟩⟩
/-! loops -/
def ForW (items : List D) (ok : PSt → Prop) (g : TGP) (tb : TSP) (E : PEnds) (ds1 : PSt) : Prop := ∃ Iv : Nat → PSt → Prop, Iv 0 ds1 ∧ (∀ i ds, i ≤ items.length → Iv i ds → ok ds) ∧
  (∀ i p ds, items[i]? = some p → Iv i ds → g p ds fun ds2 => tb ⟨Iv (i + 1), E.rt, E.nx, Iv (i + 1)⟩ ds2) ∧ ∀ ds, Iv items.length ds → E.nx ds
theorem w_for {ti : TIP} {g : TGP} {tb : TSP} : tForD ti g tb E ds ↔ ti ds fun items ok ds1 => ForW items ok g tb E ds1 := Iff.rfl
def WhileW (c : TTP) (tb : TSP) (E : PEnds) (ds : PSt) : Prop := ∃ Iv : Nat → PSt → Prop, (∃ m, Iv m ds) ∧ ∀ m ds, Iv m ds → c ds fun b ds1 => if b = true then tb ⟨fun ds' => ∃ m', m' < m ∧ Iv m' ds', E.rt, E.nx, fun ds' => ∃ m', m' < m ∧ Iv m' ds'⟩ ds1 else E.nx ds1
theorem w_while {c : TTP} {tb : TSP} : tWhileD c tb E ds ↔ WhileW c tb E ds := Iff.rfl
def LcW (items : List D) (ok : PSt → Prop) (g : TGP) (tt : TTP) (te : TEP) (own : List Nat) (Q : D → PSt → Prop) (ds1 : PSt) : Prop := items.length ≤ 1000000 ∧ ∃ Iv : Nat → List PyData → PSt → Prop, Iv 0 [] ds1 ∧
  (∀ i acc s, i ≤ items.length → Iv i acc s → ok s ∧ acc.length ≤ i) ∧
  (∀ i p acc s, items[i]? = some p → Iv i acc s → g p (wipeD s own) fun s2 => tt s2 fun b s3 => if b = true then te s3 fun y s4 => ∃ q, y = .dat q ∧ Iv (i + 1) (acc ++ [q]) (restore s s4 own) else Iv (i + 1) acc (restore s s3 own)) ∧
  ∀ acc s, Iv items.length acc s → ∀ a, Q (.lst a acc) s
theorem w_lc {ti : TIP} {g : TGP} {tt : TTP} {own : List Nat} : tLcD ti g tt te own ds Q ↔ ti ds fun items ok ds1 => LcW items ok g tt te own Q ds1 := Iff.rfl
theorem w_rg1 {R : List D → (PSt → Prop) → PSt → Prop} : iRg1 tr ds R ↔ tr ds fun as ds1 => As1I as fun n => (n < 2 ^ 62 ∧ -(2 ^ 62) ≤ n) ∧ R ((upto 0 n.toNat).map fun j => .dat (.int j)) (fun _ => True) ds1 := Iff.rfl
theorem w_as1I {R : Int → Prop} : As1I [.dat (.int u)] R ↔ R u := ⟨fun ⟨c, e, h⟩ => by cases e; exact h, fun h => ⟨u, rfl, h⟩⟩
theorem w_rg2 {R : List D → (PSt → Prop) → PSt → Prop} : iRg2 tr ds R ↔ tr ds fun as ds1 => As2I as fun m n => (-(2 ^ 62) ≤ m ∧ m < 2 ^ 62 ∧ -(2 ^ 62) ≤ n ∧ n < 2 ^ 62) ∧ R ((upto m (n - m).toNat).map fun j => .dat (.int j)) (fun _ => True) ds1 := Iff.rfl
theorem w_as2I {R : Int → Int → Prop} : As2I [.dat (.int u), .dat (.int v)] R ↔ R u v := ⟨fun ⟨c, d, e, h⟩ => by cases e; exact h, fun h => ⟨u, v, rfl, h⟩⟩
theorem w_enum {R : List D → (PSt → Prop) → PSt → Prop} : iEnumD tr ds R ↔ tr ds fun as ds1 => EnW as fun xs => R (enumD 0 xs) (fun _ => True) ds1 := Iff.rfl
theorem w_enW {R : List PyData → Prop} : EnW [.dat (.tuple xs)] R ↔ R xs := ⟨fun ⟨x, p, zs, e1, e2, e3, h⟩ => by subst e2 e3; cases e1; exact h, fun h => ⟨_, _, _, rfl, rfl, rfl, h⟩⟩
/-! comprehensions that leave the state as it is; loops by the items behind them -/
theorem lc_filter {α : Type} {items : List D} {ok : PSt → Prop} {g : TGP} {tt : TTP} {own : List Nat} (L : List α) (c : α → D) (P : α → Bool) (r : α → PyData) (hi : items = L.map c) (hz : L.length ≤ 1000000) (hok : ok ds)
    (hs : ∀ x ∈ L, ∀ (k1 : D → PSt → Prop) (k2 : PSt → Prop), (P x = true → ∀ s', restore ds s' own = ds → k1 (.dat (r x)) s') → (P x = false → ∀ s', restore ds s' own = ds → k2 s') → g (c x) (wipeD ds own) fun s2 => tt s2 fun b s3 => if b = true then te s3 k1 else k2 s3)
    (hq : ∀ a, Q (.lst a ((L.filter P).map r)) ds) : LcW items ok g tt te own Q ds := by
  subst hi
  refine ⟨by rwa [List.length_map], fun i acc s => i ≤ L.length ∧ s = ds ∧ acc = ((L.take i).filter P).map r, ⟨Nat.zero_le _, rfl, by simp⟩, fun i acc s _ ⟨_, e, ea⟩ => ?_, fun i p acc s hp ⟨hi, e, ea⟩ => ?_, fun acc s ⟨_, e, ea⟩ a => ?_⟩
  · subst e ea
    refine ⟨hok, ?_⟩
    rw [List.length_map]
    exact Nat.le_trans (List.length_filter_le ..) (by rw [List.length_take]; omega)
  · subst e ea
    rw [List.getElem?_map] at hp
    cases hx : L[i]? with
    | none => rw [hx] at hp; cases hp
    | some x =>
      rw [hx] at hp
      cases hp
      have hi : i < L.length := (List.getElem?_eq_some_iff.mp hx).1
      have et : L.take (i + 1) = L.take i ++ [x] := by rw [List.take_add_one, hx]; rfl
      refine hs x (List.mem_of_getElem? hx) _ _ (fun hP s' e' => ⟨_, rfl, hi, e', ?_⟩) (fun hP s' e' => ⟨hi, e', ?_⟩)
      · rw [et, List.filter_append, List.map_append]; simp [hP]
      · rw [et, List.filter_append, List.map_append]; simp [hP]
  · subst e ea
    rw [List.length_map, List.take_length]
    exact hq a
theorem lc_all {α : Type} {items : List D} {ok : PSt → Prop} {g : TGP} {own : List Nat} (L : List α) (c : α → D) (r : α → PyData) (hi : items = L.map c) (hz : L.length ≤ 1000000) (hok : ok ds)
    (hs : ∀ x ∈ L, ∀ k1 : D → PSt → Prop, (∀ s', restore ds s' own = ds → k1 (.dat (r x)) s') → g (c x) (wipeD ds own) fun s2 => te s2 k1)
    (hq : ∀ a, Q (.lst a (L.map r)) ds) : LcW items ok g tYesD te own Q ds := by
  refine lc_filter L c (fun _ => true) r hi hz hok (fun x hx k1 k2 h1 h2 => ?_) fun a => ?_
  · show g (c x) (wipeD ds own) fun s2 => te s2 k1
    exact hs x hx k1 (h1 rfl)
  · rw [List.filter_eq_self.mpr fun _ _ => rfl]; exact hq a
theorem for_pre {α : Type} {items : List D} {ok : PSt → Prop} {g : TGP} {tb : TSP} (L : List α) (c : α → D) (I : List α → PSt → Prop) (hi : items = L.map c) (h0 : I [] ds) (hok : ∀ pre s, I pre s → ok s)
    (hs : ∀ pre x post s, L = pre ++ x :: post → I pre s → g (c x) s fun s2 => tb ⟨I (pre ++ [x]), E.rt, E.nx, I (pre ++ [x])⟩ s2) (hq : ∀ s, I L s → E.nx s) : ForW items ok g tb E ds := by
  subst hi
  refine ⟨fun i s => i ≤ L.length ∧ I (L.take i) s, ⟨Nat.zero_le _, by simpa using h0⟩, fun i s _ h => hok _ s h.2, fun i p s hp ⟨_, h⟩ => ?_, fun s ⟨_, h⟩ => hq s (by simpa using h)⟩
  rw [List.getElem?_map] at hp
  cases hx : L[i]? with
  | none => rw [hx] at hp; cases hp
  | some x =>
    rw [hx] at hp
    cases hp
    obtain ⟨hi, hx'⟩ := List.getElem?_eq_some_iff.mp hx
    have et : L.take (i + 1) = L.take i ++ [x] := by rw [List.take_add_one, hx]; rfl
    have := hs (L.take i) x (L.drop (i + 1)) s (by rw [← hx']; simp) h
    have e1 : (fun s => i + 1 ≤ L.length ∧ I (L.take (i + 1)) s) = I (L.take i ++ [x]) := funext fun s => propext (by rw [et]; exact ⟨fun h => h.2, fun h => ⟨hi, h⟩⟩)
    show g (c x) s fun ds2 => tb ⟨fun s => i + 1 ≤ L.length ∧ I (L.take (i + 1)) s, E.rt, E.nx, fun s => i + 1 ≤ L.length ∧ I (L.take (i + 1)) s⟩ ds2
    rw [e1]
    exact this
end
end PD
/-! Plain mathematics: turnings as lists of numbers, what they do again and again, their rounds. -/
namespace PM
theorem php : ∀ (n : Nat) (l : List Nat), l.Nodup → (∀ x ∈ l, x < n) → l.length ≤ n
  | 0, l, _, h => by
    cases l with
    | nil => exact Nat.le_refl _
    | cons x r => exact absurd (h x List.mem_cons_self) (Nat.not_lt_zero _)
  | n + 1, l, hn, h => by
    have h1 := php n (l.erase n) (hn.erase n) fun x hx => by
      have h2 := h x (List.mem_of_mem_erase hx)
      have : x ≠ n := fun e => by subst e; exact (List.Nodup.mem_erase_iff hn).mp hx |>.1 rfl
      omega
    rw [List.length_erase] at h1
    split at h1 <;> omega
def ap (p : List Nat) (x : Nat) : Nat := p.getD x 0
structure IsP (p : List Nat) : Prop where
  nd : p.Nodup
  lt : ∀ x ∈ p, x < p.length
theorem IsP.mem {p : List Nat} (h : IsP p) {y : Nat} (hy : y < p.length) : y ∈ p := by
  refine Classical.byContradiction fun q => ?_
  have := php p.length (y :: p) (List.nodup_cons.mpr ⟨q, h.nd⟩) fun x hx => by
    rcases List.mem_cons.mp hx with rfl | hx
    · exact hy
    · exact h.lt x hx
  simp at this
  omega
theorem IsP.perm {p : List Nat} (h : IsP p) : p.Perm (List.range p.length) :=
  (List.perm_ext_iff_of_nodup h.nd List.nodup_range).mpr fun a => ⟨fun m => List.mem_range.mpr (h.lt a m), fun m => h.mem (List.mem_range.mp m)⟩
theorem IsP.of_perm {p : List Nat} {n : Nat} (h : p.Perm (List.range n)) : IsP p ∧ p.length = n := by
  have hl : p.length = n := by rw [h.length_eq, List.length_range]
  exact ⟨⟨h.nodup_iff.mpr List.nodup_range, fun x hx => by rw [hl]; exact List.mem_range.mp (h.mem_iff.mp hx)⟩, hl⟩
theorem ap_get {p : List Nat} {x : Nat} (h : x < p.length) : p[x]? = some (ap p x) := by
  unfold ap
  rw [List.getD_eq_getElem?_getD, List.getElem?_eq_getElem h]; rfl
theorem ap_mem {p : List Nat} {x : Nat} (h : x < p.length) : ap p x ∈ p := List.mem_of_getElem? (ap_get h)
theorem IsP.ap_lt {p : List Nat} (h : IsP p) {x : Nat} (hx : x < p.length) : ap p x < p.length := h.lt _ (ap_mem hx)
theorem IsP.inj {p : List Nat} (h : IsP p) {x y : Nat} (hx : x < p.length) (hy : y < p.length) (e : ap p x = ap p y) : x = y := by
  have h1 := ap_get hx
  have h2 := ap_get hy
  rw [← e] at h2
  exact (List.getElem?_inj hx h.nd).mp (h1.trans h2.symm)
theorem ext_ap {p q : List Nat} (hl : p.length = q.length) (h : ∀ x, x < p.length → ap p x = ap q x) : p = q := by
  refine List.ext_getElem? fun i => ?_
  by_cases hi : i < p.length
  · rw [ap_get hi, ap_get (by omega), h i hi]
  · rw [List.getElem?_eq_none (by omega), List.getElem?_eq_none (by omega)]
def put (p q : List Nat) : List Nat := p.map (ap q)
theorem put_len (p q : List Nat) : (put p q).length = p.length := List.length_map ..
theorem ap_put {p q : List Nat} {x : Nat} (h : x < p.length) : ap (put p q) x = ap q (ap p x) := by
  have h1 : (put p q)[x]? = some (ap q (ap p x)) := by unfold put; rw [List.getElem?_map, ap_get h]; rfl
  rw [ap_get (by rw [put_len]; exact h)] at h1
  exact Option.some.inj h1
theorem isP_of {p : List Nat} (n : Nat) (hl : p.length = n) (h1 : ∀ x, x < n → ap p x < n) (h2 : ∀ x y, x < n → y < n → ap p x = ap p y → x = y) : IsP p := by
  subst hl
  refine ⟨List.nodup_iff_pairwise_ne.mpr (List.pairwise_iff_getElem.mpr fun i j hi hj hij e => ?_), fun x hx => ?_⟩
  · have := h2 i j hi hj (by
      have a := ap_get hi; have b := ap_get hj
      rw [List.getElem?_eq_getElem hi] at a; rw [List.getElem?_eq_getElem hj] at b
      rw [← Option.some.inj a, ← Option.some.inj b]; exact e)
    omega
  · obtain ⟨i, hi, e⟩ := List.getElem_of_mem hx
    have a := ap_get hi
    rw [List.getElem?_eq_getElem hi, e] at a
    rw [Option.some.inj a]
    exact h1 i hi
theorem IsP.puts {p q : List Nat} (hp : IsP p) (hq : IsP q) (hl : p.length = q.length) : IsP (put p q) :=
  isP_of p.length (put_len p q) (fun x hx => by rw [ap_put hx, hl]; exact hq.ap_lt (by rw [← hl]; exact hp.ap_lt hx)) fun x y hx hy e => by
    rw [ap_put hx, ap_put hy] at e
    exact hp.inj hx hy (hq.inj (by rw [← hl]; exact hp.ap_lt hx) (by rw [← hl]; exact hp.ap_lt hy) e)
theorem put_assoc {p q r : List Nat} (h : ∀ x ∈ p, x < q.length) : put (put p q) r = put p (put q r) := by
  unfold put
  rw [List.map_map]
  refine List.map_congr_left fun x hx => ?_
  exact (ap_put (h x hx)).symm
theorem ap_range {n x : Nat} (h : x < n) : ap (List.range n) x = x := by
  have := ap_get (p := List.range n) (x := x) (by simpa using h)
  rw [List.getElem?_range h] at this
  exact (Option.some.inj this).symm
theorem isP_range (n : Nat) : IsP (List.range n) := ⟨List.nodup_range, fun x hx => by rw [List.length_range]; exact List.mem_range.mp hx⟩
theorem range_put {n : Nat} {p : List Nat} (h : p.length = n) : put (List.range n) p = p :=
  ext_ap (by rw [put_len, List.length_range, h]) fun x hx => by
    rw [put_len, List.length_range] at hx
    rw [ap_put (by simpa using hx), ap_range hx]
theorem put_range {p : List Nat} (n : Nat) (h : ∀ x ∈ p, x < n) : put p (List.range n) = p := by
  unfold put
  have : p.map (ap (List.range n)) = p.map id := List.map_congr_left fun x hx => ap_range (h x hx)
  rw [this, List.map_id]
/-- back -/
def bk (p : List Nat) : List Nat := (List.range p.length).map fun y => p.idxOf y
theorem bk_len (p : List Nat) : (bk p).length = p.length := by unfold bk; rw [List.length_map, List.length_range]
theorem ap_bk {p : List Nat} {y : Nat} (h : y < p.length) : ap (bk p) y = p.idxOf y := by
  have h1 : (bk p)[y]? = some (p.idxOf y) := by unfold bk; rw [List.getElem?_map, List.getElem?_range h]; rfl
  rw [ap_get (by rw [bk_len]; exact h)] at h1
  exact Option.some.inj h1
theorem IsP.ap_ap_bk {p : List Nat} (hp : IsP p) {y : Nat} (h : y < p.length) : ap p (ap (bk p) y) = y ∧ ap (bk p) y < p.length := by
  rw [ap_bk h]
  have hi : p.idxOf y < p.length := List.idxOf_lt_length_iff.mpr (hp.mem h)
  have a := ap_get hi
  rw [List.getElem?_eq_getElem hi, List.getElem_idxOf] at a
  exact ⟨(Option.some.inj a).symm, hi⟩
theorem IsP.ap_bk_ap {p : List Nat} (hp : IsP p) {x : Nat} (h : x < p.length) : ap (bk p) (ap p x) = x := by
  obtain ⟨a, b⟩ := hp.ap_ap_bk (hp.ap_lt h)
  exact hp.inj b h a
theorem IsP.bks {p : List Nat} (hp : IsP p) : IsP (bk p) :=
  isP_of p.length (bk_len p) (fun x hx => (hp.ap_ap_bk hx).2) fun x y hx hy e => by rw [← (hp.ap_ap_bk hx).1, e, (hp.ap_ap_bk hy).1]
theorem IsP.put_bk {p : List Nat} (hp : IsP p) : put p (bk p) = List.range p.length :=
  ext_ap (by rw [put_len, List.length_range]) fun x hx => by
    rw [put_len] at hx
    rw [ap_put hx, hp.ap_bk_ap hx, ap_range hx]
theorem IsP.bk_put {p : List Nat} (hp : IsP p) : put (bk p) p = List.range p.length :=
  ext_ap (by rw [put_len, List.length_range, bk_len]) fun x hx => by
    rw [put_len, bk_len] at hx
    rw [ap_put (by rw [bk_len]; exact hx), (hp.ap_ap_bk hx).1, ap_range hx]
/-- what maps back is back -/
theorem IsP.bk_uniq {p q : List Nat} (hp : IsP p) (hl : q.length = p.length) (h : ∀ x, x < p.length → ap q (ap p x) = x) : q = bk p :=
  ext_ap (by rw [bk_len, hl]) fun y hy => by
    rw [hl] at hy
    obtain ⟨a, b⟩ := hp.ap_ap_bk hy
    have := h _ b
    rw [a] at this
    exact this
theorem IsP.bk_bk {p : List Nat} (hp : IsP p) : bk (bk p) = p :=
  (hp.bks.bk_uniq (by rw [bk_len]) fun x hx => by rw [bk_len] at hx; exact (hp.ap_ap_bk hx).1).symm
/-! again and again -/
def it (f : Nat → Nat) : Nat → Nat → Nat
  | 0, x => x
  | m + 1, x => f (it f m x)
theorem it_add (f : Nat → Nat) : ∀ a b x, it f (a + b) x = it f a (it f b x)
  | 0, b, x => by rw [Nat.zero_add]; rfl
  | a + 1, b, x => by
    rw [show a + 1 + b = (a + b) + 1 by omega]
    show f (it f (a + b) x) = f (it f a (it f b x))
    rw [it_add f a b x]
theorem it_comm (f : Nat → Nat) (a b x : Nat) : it f a (it f b x) = it f b (it f a x) := by rw [← it_add, ← it_add, Nat.add_comm]
theorem it_succ' (f : Nat → Nat) (m x : Nat) : it f (m + 1) x = it f m (f x) := it_add f m 1 x
theorem it_mul (f : Nat → Nat) (a : Nat) : ∀ b x, it f (a * b) x = it (it f a) b x
  | 0, x => rfl
  | b + 1, x => by rw [Nat.mul_succ, Nat.add_comm, it_add, it_mul f a b x]; rfl
theorem it_fix {f : Nat → Nat} {x : Nat} {a : Nat} (h : it f a x = x) : ∀ b, it f (a * b) x = x
  | 0 => rfl
  | b + 1 => by rw [Nat.mul_succ, it_add, h, it_fix h b]
/-- f turns the numbers below n -/
structure Trn (n : Nat) (f : Nat → Nat) : Prop where
  lt : ∀ x, x < n → f x < n
  inj : ∀ x y, x < n → y < n → f x = f y → x = y
theorem IsP.trn {p : List Nat} (h : IsP p) : Trn p.length (ap p) := ⟨fun _ => h.ap_lt, fun _ _ => h.inj⟩
section
variable {n : Nat} {f g : Nat → Nat}
theorem Trn.it_lt (T : Trn n f) {x : Nat} (hx : x < n) : ∀ m, it f m x < n
  | 0 => hx
  | m + 1 => T.lt _ (T.it_lt hx m)
theorem Trn.it_inj (T : Trn n f) {x y : Nat} (hx : x < n) (hy : y < n) : ∀ m, it f m x = it f m y → x = y
  | 0, e => e
  | m + 1, e => T.it_inj hx hy m (T.inj _ _ (T.it_lt hx m) (T.it_lt hy m) e)
theorem Trn.cancel (T : Trn n f) {x : Nat} (hx : x < n) {a b : Nat} (h : a ≤ b) (e : it f a x = it f b x) : it f (b - a) x = x := by
  have e2 : it f a (it f (b - a) x) = it f a x := by rw [← it_add, show a + (b - a) = b by omega, e]
  exact T.it_inj (T.it_lt hx _) hx a e2
theorem Trn.returns (T : Trn n f) {x : Nat} (hx : x < n) : ∃ m, m < n ∧ it f (m + 1) x = x := by
  refine Classical.byContradiction fun q => ?_
  have nd : ((List.range (n + 1)).map fun i => it f i x).Nodup := by
    refine List.nodup_iff_pairwise_ne.mpr (List.pairwise_map.mpr ((List.pairwise_lt_range (n := n + 1)).imp_of_mem fun {a b} ha hb hab e => q ⟨b - a - 1, ?_, ?_⟩))
    · have := List.mem_range.mp hb; omega
    · rw [show b - a - 1 + 1 = b - a by omega]
      exact T.cancel hx (Nat.le_of_lt hab) e
  have := php n _ nd fun y hy => by
    obtain ⟨i, _, rfl⟩ := List.mem_map.mp hy
    exact T.it_lt hx i
  simp at this
  omega
/-- after how many steps x is back -/
def per (n : Nat) (f : Nat → Nat) (x : Nat) : Nat := ((List.range n).find? fun m => it f (m + 1) x == x).getD 0 + 1
theorem per_pos : 0 < per n f x := Nat.succ_pos _
theorem Trn.per_spec (T : Trn n f) {x : Nat} (hx : x < n) : it f (per n f x) x = x ∧ per n f x ≤ n ∧ ∀ m, 0 < m → m < per n f x → it f m x ≠ x := by
  unfold per
  cases e : (List.range n).find? (fun m => it f (m + 1) x == x) with
  | none =>
    obtain ⟨m, hm, h⟩ := T.returns hx
    have := List.find?_eq_none.mp e m (List.mem_range.mpr hm)
    simp [h] at this
  | some k =>
    have h1 : it f (k + 1) x = x := by simpa using List.find?_some e
    have h2 : k < n := List.mem_range.mp (List.mem_of_find?_eq_some e)
    refine ⟨h1, h2, fun m h0 hm em => ?_⟩
    obtain ⟨_, as, bs, eq, hno⟩ := List.find?_eq_some_iff_append.mp e
    have hm' : m < k + 1 := hm
    have hk : k = as.length := by
      have hle : as.length < n := by have := congrArg List.length eq; simp at this; omega
      have := congrArg (fun l : List Nat => l[as.length]?) eq
      simp only [List.getElem?_range hle, List.getElem?_append_right (Nat.le_refl _), Nat.sub_self, List.getElem?_cons_zero] at this
      exact (Option.some.inj this).symm
    have hm2 : m - 1 ∈ as := by
      have : (List.range n)[m - 1]? = some (m - 1) := List.getElem?_range (by omega)
      rw [eq, List.getElem?_append_left (by omega)] at this
      exact List.mem_of_getElem? this
    have := hno _ hm2
    rw [show m - 1 + 1 = m by omega] at this
    simp [em] at this
theorem Trn.per_dvd (T : Trn n f) {x : Nat} (hx : x < n) {m : Nat} : it f m x = x ↔ per n f x ∣ m := by
  obtain ⟨h1, _, h3⟩ := T.per_spec hx
  constructor
  · intro e
    refine Nat.dvd_of_mod_eq_zero (Classical.byContradiction fun q => ?_)
    have e2 : it f (m % per n f x) x = x := by
      have : it f m x = it f (m % per n f x) (it f (per n f x * (m / per n f x)) x) := by rw [← it_add, Nat.mod_add_div]
      rw [it_fix h1] at this
      rw [← this, e]
    exact h3 _ (Nat.pos_of_ne_zero q) (Nat.mod_lt _ per_pos) e2
  · rintro ⟨k, rfl⟩
    exact it_fix h1 k
theorem Trn.per_uniq (T : Trn n f) {x : Nat} (hx : x < n) {k : Nat} (h : ∀ m, it f m x = x ↔ k ∣ m) : per n f x = k :=
  Nat.dvd_antisymm ((T.per_dvd hx).mp ((h k).mpr (Nat.dvd_refl _))) ((h _).mp (T.per_spec hx).1)
/-- the round of x -/
def cyc (n : Nat) (f : Nat → Nat) (x : Nat) : List Nat := (List.range (per n f x)).map fun i => it f i x
theorem cyc_len (x : Nat) : (cyc n f x).length = per n f x := by unfold cyc; rw [List.length_map, List.length_range]
theorem Trn.mem_cyc (T : Trn n f) {x y : Nat} (hx : x < n) : y ∈ cyc n f x ↔ ∃ i, it f i x = y := by
  unfold cyc
  constructor
  · intro h; obtain ⟨i, _, e⟩ := List.mem_map.mp h; exact ⟨i, e⟩
  · rintro ⟨i, rfl⟩
    refine List.mem_map.mpr ⟨i % per n f x, List.mem_range.mpr (Nat.mod_lt _ per_pos), ?_⟩
    have : it f i x = it f (i % per n f x) (it f (per n f x * (i / per n f x)) x) := by rw [← it_add, Nat.mod_add_div]
    rw [it_fix (T.per_spec hx).1] at this
    exact this.symm
theorem Trn.cyc_nodup (T : Trn n f) {x : Nat} (hx : x < n) : (cyc n f x).Nodup := by
  unfold cyc
  refine List.nodup_iff_pairwise_ne.mpr (List.pairwise_map.mpr ((List.pairwise_lt_range (n := per n f x)).imp_of_mem fun {a b} ha hb hab e => ?_))
  have hb' := List.mem_range.mp hb
  exact (T.per_spec hx).2.2 (b - a) (by omega) (by omega) (T.cancel hx (Nat.le_of_lt hab) e)
theorem Trn.cyc_lt (T : Trn n f) {x y : Nat} (hx : x < n) (h : y ∈ cyc n f x) : y < n := by
  obtain ⟨i, rfl⟩ := (T.mem_cyc hx).mp h
  exact T.it_lt hx i
theorem Trn.back (T : Trn n f) {x y : Nat} (hx : x < n) (h : y ∈ cyc n f x) : x ∈ cyc n f y := by
  have hy := T.cyc_lt hx h
  obtain ⟨i, hi0, rfl⟩ := List.mem_map.mp h
  have hi := List.mem_range.mp hi0
  refine (T.mem_cyc hy).mpr ⟨per n f x - i, ?_⟩
  rw [← it_add, show per n f x - i + i = per n f x by omega]
  exact (T.per_spec hx).1
theorem Trn.self_cyc (T : Trn n f) {x : Nat} (hx : x < n) : x ∈ cyc n f x := (T.mem_cyc hx).mpr ⟨0, rfl⟩
theorem Trn.cyc_trans (T : Trn n f) {x y z : Nat} (hx : x < n) (h : y ∈ cyc n f x) (h2 : z ∈ cyc n f y) : z ∈ cyc n f x := by
  obtain ⟨i, rfl⟩ := (T.mem_cyc hx).mp h
  obtain ⟨j, rfl⟩ := (T.mem_cyc (T.it_lt hx i)).mp h2
  exact (T.mem_cyc hx).mpr ⟨j + i, it_add f j i x⟩
theorem Trn.cyc_same (T : Trn n f) {x y z : Nat} (hx : x < n) (h : y ∈ cyc n f x) : z ∈ cyc n f y ↔ z ∈ cyc n f x :=
  ⟨T.cyc_trans hx h, T.cyc_trans (T.cyc_lt hx h) (T.back hx h)⟩
theorem Trn.per_it (T : Trn n f) {x : Nat} (hx : x < n) (i : Nat) : per n f (it f i x) = per n f x := by
  refine T.per_uniq (T.it_lt hx i) fun m => ?_
  rw [← T.per_dvd hx, it_comm]
  exact ⟨fun e => T.it_inj (T.it_lt hx m) hx i e, fun e => by rw [e]⟩
theorem Trn.per_cyc (T : Trn n f) {x y : Nat} (hx : x < n) (h : y ∈ cyc n f x) : per n f y = per n f x := by
  obtain ⟨i, rfl⟩ := (T.mem_cyc hx).mp h
  exact T.per_it hx i
/-- no number of its round is below x -/
def least (n : Nat) (f : Nat → Nat) (x : Nat) : Bool := (cyc n f x).all fun y => decide (x ≤ y)
theorem least_iff {x : Nat} : least n f x = true ↔ ∀ y ∈ cyc n f x, x ≤ y := by unfold least; simp
theorem Trn.ex_least (T : Trn n f) : ∀ (x : Nat), x < n → ∃ m, m ∈ cyc n f x ∧ least n f m = true := by
  intro x
  induction x using Nat.strongRecOn with
  | _ x ih =>
    intro hx
    by_cases h : least n f x = true
    · exact ⟨x, T.self_cyc hx, h⟩
    · obtain ⟨y, hy, hl⟩ : ∃ y, y ∈ cyc n f x ∧ y < x := by
        refine Classical.byContradiction fun q => h (least_iff.mpr fun y hy => ?_)
        exact Nat.le_of_not_lt fun z => q ⟨y, hy, z⟩
      obtain ⟨m, h1, h2⟩ := ih y hl (T.cyc_lt hx hy)
      exact ⟨m, T.cyc_trans hx hy h1, h2⟩
theorem Trn.least_uniq (T : Trn n f) {a b : Nat} (hb : b < n) (ha : least n f a = true) (hb' : least n f b = true) (h : a ∈ cyc n f b) : a = b :=
  Nat.le_antisymm (least_iff.mp ha b (T.back hb h)) (least_iff.mp hb' a h)
def heads (n : Nat) (f : Nat → Nat) : List Nat := (List.range n).filter (least n f)
/-- the rounds, also those of one number, by their least numbers -/
def lots (n : Nat) (f : Nat → Nat) : List (List Nat) := (heads n f).map (cyc n f)
def lens (n : Nat) (f : Nat → Nat) : List Nat := (lots n f).map List.length
theorem lens_eq : lens n f = (heads n f).map (per n f) := by
  unfold lens lots
  rw [List.map_map]
  exact List.map_congr_left fun x _ => cyc_len x
theorem mem_heads {x : Nat} : x ∈ heads n f ↔ x < n ∧ least n f x = true := by unfold heads; rw [List.mem_filter, List.mem_range]
theorem heads_sorted : (heads n f).Pairwise (· < ·) := List.pairwise_lt_range.filter _
theorem Trn.flat_nodup (T : Trn n f) {hs : List Nat} (h1 : ∀ x ∈ hs, x < n ∧ least n f x = true) (h2 : hs.Nodup) : (hs.map (cyc n f)).flatten.Nodup := by
  refine List.nodup_iff_pairwise_ne.mpr (List.pairwise_flatten.mpr ⟨fun l hl => ?_, List.pairwise_map.mpr ((List.nodup_iff_pairwise_ne.mp h2).imp_of_mem fun {a b} ha hb hab x hx y hy e => ?_)⟩)
  · obtain ⟨x, hx, rfl⟩ := List.mem_map.mp hl
    exact List.nodup_iff_pairwise_ne.mp (T.cyc_nodup (h1 x hx).1)
  · subst e
    exact hab (T.least_uniq (h1 b hb).1 (h1 a ha).2 (h1 b hb).2 (T.cyc_trans (h1 b hb).1 hy (T.back (h1 a ha).1 hx)))
/-- the numbers whose rounds have the told length -/
theorem Trn.count (T : Trn n f) (M : Nat) : M * (lens n f).count M = ((List.range n).filter fun x => per n f x == M).length := by
  have e1 : (lens n f).count M = ((heads n f).filter fun x => per n f x == M).length := by
    rw [lens_eq, List.count, List.countP_map, List.countP_eq_length_filter]; rfl
  have hp : (((heads n f).filter fun x => per n f x == M).map (cyc n f)).flatten.Perm ((List.range n).filter fun x => per n f x == M) := by
    refine (List.perm_ext_iff_of_nodup (T.flat_nodup (fun x hx => mem_heads.mp (List.mem_filter.mp hx).1) ((heads_sorted.imp fun h => Nat.ne_of_lt h).filter _)) (List.nodup_range.filter _)).mpr fun a => ?_
    rw [List.mem_flatten, List.mem_filter, List.mem_range]
    constructor
    · rintro ⟨l, hl, ha⟩
      obtain ⟨x, hx, rfl⟩ := List.mem_map.mp hl
      obtain ⟨h1, h2⟩ := List.mem_filter.mp hx
      have hx' := (mem_heads.mp h1).1
      exact ⟨T.cyc_lt hx' ha, by rw [T.per_cyc hx' ha]; exact h2⟩
    · rintro ⟨ha, h2⟩
      obtain ⟨m, h3, h4⟩ := T.ex_least a ha
      have hm := T.cyc_lt ha h3
      exact ⟨cyc n f m, List.mem_map.mpr ⟨m, List.mem_filter.mpr ⟨mem_heads.mpr ⟨hm, h4⟩, by rw [T.per_cyc ha h3]; exact h2⟩, rfl⟩, T.back ha h3⟩
  have hl := hp.length_eq
  rw [List.length_flatten, List.map_map] at hl
  rw [e1, ← hl]
  have e2 : ((heads n f).filter fun x => per n f x == M).map (List.length ∘ cyc n f) = List.replicate ((heads n f).filter fun x => per n f x == M).length M := by
    refine List.eq_replicate_iff.mpr ⟨by rw [List.length_map], fun b hb => ?_⟩
    obtain ⟨x, hx, rfl⟩ := List.mem_map.mp hb
    show (cyc n f x).length = M
    rw [cyc_len]
    simpa using (List.mem_filter.mp hx).2
  rw [e2, List.sum_replicate_nat, Nat.mul_comm]
theorem Trn.flat_perm (T : Trn n f) : (lots n f).flatten.Perm (List.range n) := by
  refine (List.perm_ext_iff_of_nodup (T.flat_nodup (fun x hx => mem_heads.mp hx) (heads_sorted.imp fun h => Nat.ne_of_lt h)) List.nodup_range).mpr fun a => ?_
  rw [List.mem_flatten, List.mem_range]
  constructor
  · rintro ⟨l, hl, ha⟩
    obtain ⟨x, hx, rfl⟩ := List.mem_map.mp hl
    exact T.cyc_lt (mem_heads.mp hx).1 ha
  · intro ha
    obtain ⟨m, h3, h4⟩ := T.ex_least a ha
    exact ⟨cyc n f m, List.mem_map.mpr ⟨m, mem_heads.mpr ⟨T.cyc_lt ha h3, h4⟩, rfl⟩, T.back ha h3⟩
theorem Trn.sum_lens (T : Trn n f) : (lens n f).sum = n := by
  have := T.flat_perm.length_eq
  rw [List.length_flatten, List.length_range] at this
  exact this
theorem Trn.lens_pos {M : Nat} (h : M ∈ lens n f) : 0 < M := by
  rw [lens_eq] at h
  obtain ⟨x, _, rfl⟩ := List.mem_map.mp h
  exact per_pos
theorem Trn.lens_mem (T : Trn n f) {M : Nat} : M ∈ lens n f ↔ ∃ x, x < n ∧ per n f x = M := by
  rw [lens_eq]
  constructor
  · intro h
    obtain ⟨x, hx, rfl⟩ := List.mem_map.mp h
    exact ⟨x, (mem_heads.mp hx).1, rfl⟩
  · rintro ⟨x, hx, rfl⟩
    obtain ⟨m, h3, h4⟩ := T.ex_least x hx
    exact List.mem_map.mpr ⟨m, mem_heads.mpr ⟨T.cyc_lt hx h3, h4⟩, T.per_cyc hx h3⟩
/-- turnings with alike lengths at alike places -/
theorem Trn.lens_perm (T : Trn n f) (U : Trn n g) (c : Nat → Nat) (hc : Trn n c) (h : ∀ x, x < n → per n g (c x) = per n f x) : (lens n g).Perm (lens n f) := by
  refine List.perm_iff_count.mpr fun M => ?_
  by_cases h0 : M = 0
  · subst h0
    rw [List.count_eq_zero.mpr fun z => absurd (Trn.lens_pos z) (Nat.lt_irrefl _), List.count_eq_zero.mpr fun z => absurd (Trn.lens_pos z) (Nat.lt_irrefl _)]
  have hM : 0 < M := Nat.pos_of_ne_zero h0
  refine Nat.eq_of_mul_eq_mul_left hM ?_
  rw [T.count, U.count]
  have hp : ((List.range n).map c).Perm (List.range n) := by
    have nd : ((List.range n).map c).Nodup := List.nodup_iff_pairwise_ne.mpr (List.pairwise_map.mpr ((List.pairwise_lt_range (n := n)).imp_of_mem fun {a b} ha hb hab e => by
      have := hc.inj a b (List.mem_range.mp ha) (List.mem_range.mp hb) e
      omega))
    have : IsP ((List.range n).map c) := ⟨nd, fun x hx => by
      obtain ⟨y, hy, rfl⟩ := List.mem_map.mp hx
      rw [List.length_map, List.length_range]
      exact hc.lt y (List.mem_range.mp hy)⟩
    have := this.perm
    rwa [List.length_map, List.length_range] at this
  have h2 := (hp.filter fun x => per n g x == M).length_eq
  rw [← h2, List.filter_map, List.length_map]
  refine congrArg List.length (List.filter_congr fun x hx => ?_)
  show (per n g (c x) == M) = _
  rw [h x (List.mem_range.mp hx)]
end
end PM
/-! Plain mathematics: powers, orders, what a power does to the rounds, turnings carried over. -/
namespace PM
def npow (p : List Nat) (m : Nat) : List Nat := (List.range p.length).map (it (ap p) m)
theorem npow_len (p : List Nat) (m : Nat) : (npow p m).length = p.length := by unfold npow; rw [List.length_map, List.length_range]
theorem ap_npow {p : List Nat} {m x : Nat} (h : x < p.length) : ap (npow p m) x = it (ap p) m x := by
  have h1 : (npow p m)[x]? = some (it (ap p) m x) := by unfold npow; rw [List.getElem?_map, List.getElem?_range h]; rfl
  rw [ap_get (by rw [npow_len]; exact h)] at h1
  exact Option.some.inj h1
theorem IsP.npow {p : List Nat} (hp : IsP p) (m : Nat) : IsP (npow p m) :=
  isP_of p.length (npow_len p m) (fun x hx => by rw [ap_npow hx]; exact hp.trn.it_lt hx m) fun x y hx hy e => by
    rw [ap_npow hx, ap_npow hy] at e
    exact hp.trn.it_inj hx hy m e
theorem npow_zero {p : List Nat} : PM.npow p 0 = List.range p.length := by
  unfold PM.npow
  have : (List.range p.length).map (it (ap p) 0) = (List.range p.length).map id := rfl
  rw [this, List.map_id]
theorem npow_one {p : List Nat} : PM.npow p 1 = p := ext_ap (npow_len p 1) fun x hx => by rw [npow_len] at hx; rw [ap_npow hx]; rfl
theorem it_congr {f g : Nat → Nat} {n : Nat} (T : Trn n f) (h : ∀ x, x < n → f x = g x) {x : Nat} (hx : x < n) : ∀ m, it f m x = it g m x
  | 0 => rfl
  | m + 1 => by
    show f (it f m x) = g (it g m x)
    rw [← it_congr T h hx m, h _ (T.it_lt hx m)]
/-- the square's powers -/
theorem npow_even {p : List Nat} (hp : IsP p) (m : Nat) : PM.npow (put p p) m = PM.npow p (2 * m) :=
  ext_ap (by rw [npow_len, npow_len, put_len]) fun x hx => by
    rw [npow_len, put_len] at hx
    rw [ap_npow (by rw [put_len]; exact hx), ap_npow hx, it_mul]
    have hs := (hp.puts hp rfl).trn
    rw [put_len] at hs
    exact it_congr hs (fun y hy => ap_put hy) hx m
theorem npow_succ {p : List Nat} (hp : IsP p) (m : Nat) : PM.npow p (m + 1) = put p (PM.npow p m) :=
  ext_ap (by rw [npow_len, put_len]) fun x hx => by
    rw [npow_len] at hx
    rw [ap_npow hx, ap_put hx, ap_npow (hp.ap_lt hx), it_succ']
def pw (p : List Nat) (k : Int) : List Nat := if 0 ≤ k then npow p k.toNat else npow (bk p) (-k).toNat
theorem pw_len (p : List Nat) (k : Int) : (pw p k).length = p.length := by
  unfold pw; split
  · exact npow_len _ _
  · rw [npow_len, bk_len]
theorem IsP.pw {p : List Nat} (hp : IsP p) (k : Int) : IsP (pw p k) := by
  unfold PM.pw; split
  · exact hp.npow _
  · exact hp.bks.npow _
theorem IsP.pw_succ {p : List Nat} (hp : IsP p) (k : Int) {x : Nat} (hx : x < p.length) : ap (PM.pw p (k + 1)) x = ap p (ap (PM.pw p k) x) := by
  unfold PM.pw
  by_cases h : 0 ≤ k
  · rw [if_pos h, if_pos (by omega), ap_npow hx, ap_npow hx, show (k + 1).toNat = k.toNat + 1 by omega]; rfl
  · rw [if_neg h]
    by_cases h1 : k = -1
    · subst h1
      rw [if_pos (by omega), show ((-1 : Int) + 1).toNat = 0 by omega, show (-(-1 : Int)).toNat = 1 by omega, npow_zero, npow_one, ap_range hx, (hp.ap_ap_bk hx).1]
    · rw [if_neg (by omega), ap_npow (by rw [bk_len]; exact hx), ap_npow (by rw [bk_len]; exact hx), show (-k).toNat = (-(k + 1)).toNat + 1 by omega]
      have := hp.bks.trn
      rw [bk_len] at this
      exact (hp.ap_ap_bk (this.it_lt hx _)).1.symm
theorem IsP.pw_lt {p : List Nat} (hp : IsP p) (k : Int) {x : Nat} (hx : x < p.length) : ap (PM.pw p k) x < p.length := by
  have := (hp.pw k).ap_lt (x := x) (by rw [pw_len]; exact hx)
  rwa [pw_len] at this
theorem IsP.pw_pred {p : List Nat} (hp : IsP p) (k : Int) {x : Nat} (hx : x < p.length) : ap (PM.pw p (k - 1)) x = ap (PM.bk p) (ap (PM.pw p k) x) := by
  have := hp.pw_succ (k - 1) hx
  rw [show k - 1 + 1 = k by omega] at this
  rw [this, hp.ap_bk_ap (hp.pw_lt _ hx)]
theorem pw_zero {p : List Nat} : PM.pw p 0 = List.range p.length := npow_zero
theorem IsP.pw_add {p : List Nat} (hp : IsP p) {x : Nat} (hx : x < p.length) (j : Int) : ∀ k : Int, ap (PM.pw p (j + k)) x = ap (PM.pw p k) (ap (PM.pw p j) x) := by
  have hz := hp.pw_lt j hx
  have up : ∀ m : Nat, ap (PM.pw p (j + (m : Int))) x = ap (PM.pw p (m : Int)) (ap (PM.pw p j) x) := by
    intro m
    induction m with
    | zero =>
      show ap (PM.pw p (j + 0)) x = ap (PM.pw p 0) _
      rw [pw_zero, ap_range hz, Int.add_zero]
    | succ m ih =>
      rw [show j + ((m + 1 : Nat) : Int) = (j + (m : Int)) + 1 by omega, hp.pw_succ _ hx, ih, show ((m + 1 : Nat) : Int) = (m : Int) + 1 by omega, hp.pw_succ _ hz]
  have dn : ∀ m : Nat, ap (PM.pw p (j - (m : Int))) x = ap (PM.pw p (-(m : Int))) (ap (PM.pw p j) x) := by
    intro m
    induction m with
    | zero =>
      show ap (PM.pw p (j - 0)) x = ap (PM.pw p 0) _
      rw [pw_zero, ap_range hz, Int.sub_zero]
    | succ m ih =>
      rw [show j - ((m + 1 : Nat) : Int) = (j - (m : Int)) - 1 by omega, hp.pw_pred _ hx, ih, show -((m + 1 : Nat) : Int) = -(m : Int) - 1 by omega, hp.pw_pred _ hz]
  intro k
  by_cases h : 0 ≤ k
  · have := up k.toNat
    rwa [Int.toNat_of_nonneg h] at this
  · have := dn (-k).toNat
    rwa [Int.toNat_of_nonneg (by omega), Int.sub_neg, Int.neg_neg] at this
theorem IsP.put_pw {p : List Nat} (hp : IsP p) (j k : Int) : put (PM.pw p j) (PM.pw p k) = PM.pw p (j + k) :=
  ext_ap (by rw [put_len, pw_len, pw_len]) fun x hx => by
    rw [put_len, pw_len] at hx
    rw [ap_put (by rw [pw_len]; exact hx), hp.pw_add hx]
theorem IsP.bk_pw {p : List Nat} (hp : IsP p) (j : Int) : PM.pw p (-j) = PM.bk (PM.pw p j) :=
  (hp.pw j).bk_uniq (by rw [pw_len, pw_len]) fun x hx => by
    rw [pw_len] at hx
    rw [← hp.pw_add hx, Int.add_right_neg, pw_zero, ap_range hx]
theorem IsP.it_pw {p : List Nat} (hp : IsP p) (j : Int) {x : Nat} (hx : x < p.length) : ∀ m : Nat, it (ap (PM.pw p j)) m x = ap (PM.pw p (j * m)) x
  | 0 => by rw [show j * ((0 : Nat) : Int) = 0 by simp, pw_zero, ap_range hx]; rfl
  | m + 1 => by
    show ap (PM.pw p j) (it (ap (PM.pw p j)) m x) = _
    rw [hp.it_pw j hx m, ← hp.pw_add hx]
    congr 2
    rw [show ((m + 1 : Nat) : Int) = (m : Int) + 1 by omega, Int.mul_add, Int.mul_one]
theorem IsP.pw_pw {p : List Nat} (hp : IsP p) (j k : Int) : PM.pw (PM.pw p j) k = PM.pw p (j * k) :=
  ext_ap (by rw [pw_len, pw_len, pw_len]) fun x hx => by
    rw [pw_len, pw_len] at hx
    rw [show PM.pw (PM.pw p j) k = if 0 ≤ k then PM.npow (PM.pw p j) k.toNat else PM.npow (PM.bk (PM.pw p j)) (-k).toNat from rfl]
    by_cases h : 0 ≤ k
    · rw [if_pos h, ap_npow (by rw [pw_len]; exact hx), hp.it_pw j hx, Int.toNat_of_nonneg h]
    · rw [if_neg h, ← hp.bk_pw, ap_npow (by rw [pw_len]; exact hx), hp.it_pw _ hx, Int.toNat_of_nonneg (by omega), Int.neg_mul_neg]
theorem pw_m1 {p : List Nat} : PM.pw p (-1) = bk p := by
  unfold PM.pw
  rw [if_neg (by omega), show (-(-1 : Int)).toNat = 1 by omega, npow_one]
theorem IsP.pw_fix_one {p : List Nat} (hp : IsP p) {x : Nat} (hx : x < p.length) : ap (PM.pw p 1) x = ap p x := by
  have := hp.pw_succ 0 hx
  rw [pw_zero, ap_range hx] at this
  exact this
/-- when a power leaves x -/
theorem IsP.pw_fix {p : List Nat} (hp : IsP p) (k : Int) {x : Nat} (hx : x < p.length) : ap (PM.pw p k) x = x ↔ per p.length (ap p) x ∣ k.natAbs := by
  have pos : ∀ m : Nat, ap (PM.pw p (m : Int)) x = x ↔ per p.length (ap p) x ∣ m := fun m => by
    rw [← hp.trn.per_dvd hx]
    unfold PM.pw
    rw [if_pos (by omega), ap_npow hx]; rfl
  by_cases h : 0 ≤ k
  · have := pos k.toNat
    rw [Int.toNat_of_nonneg h] at this
    rw [this, show k.natAbs = k.toNat by omega]
  · have := pos (-k).toNat
    rw [Int.toNat_of_nonneg (by omega), show (-k).toNat = k.natAbs by omega] at this
    rw [← this]
    have e1 := hp.pw_add hx k (-k)
    have e2 := hp.pw_add hx (-k) k
    rw [Int.add_right_neg, pw_zero, ap_range hx] at e1
    rw [Int.add_left_neg, pw_zero, ap_range hx] at e2
    constructor
    · intro e; rw [e] at e1; exact e1.symm
    · intro e; rw [e] at e2; exact e2.symm
theorem dvd_div_gcd {L K m : Nat} (hL : 0 < L) : L ∣ K * m ↔ L / Nat.gcd L K ∣ m := by
  have hg : 0 < Nat.gcd L K := Nat.gcd_pos_of_pos_left K hL
  have hco := Nat.coprime_div_gcd_div_gcd hg
  have e1 : Nat.gcd L K * (L / Nat.gcd L K) = L := Nat.mul_div_cancel' (Nat.gcd_dvd_left L K)
  have e2 : Nat.gcd L K * (K / Nat.gcd L K) = K := Nat.mul_div_cancel' (Nat.gcd_dvd_right L K)
  generalize L / Nat.gcd L K = a at *
  generalize K / Nat.gcd L K = b at *
  generalize Nat.gcd L K = g at *
  subst e1 e2
  rw [Nat.mul_assoc]
  constructor
  · intro h
    exact hco.dvd_of_dvd_mul_left (Nat.dvd_of_mul_dvd_mul_left hg h)
  · intro h
    exact Nat.mul_dvd_mul_left g (Nat.dvd_trans h (Nat.dvd_mul_left m b))
theorem IsP.per_pw {p : List Nat} (hp : IsP p) (k : Int) {x : Nat} (hx : x < p.length) : per p.length (ap (PM.pw p k)) x = per p.length (ap p) x / Nat.gcd (per p.length (ap p) x) k.natAbs := by
  have T := (hp.pw k).trn
  rw [pw_len] at T
  refine T.per_uniq hx fun m => ?_
  rw [hp.it_pw k hx, hp.pw_fix _ hx, ← dvd_div_gcd per_pos, Int.natAbs_mul, Int.natAbs_natCast]
/-! sums over rounds -/
section
variable {n : Nat} {f g : Nat → Nat}
theorem Trn.sumφ (T : Trn n f) (φ : Nat → Bool) : ((lens n f).filter φ).sum = ((List.range n).filter fun x => φ (per n f x)).length := by
  have e1 : (lens n f).filter φ = ((heads n f).filter fun x => φ (per n f x)).map (per n f) := by
    rw [lens_eq, List.filter_map]; rfl
  have hp : (((heads n f).filter fun x => φ (per n f x)).map (cyc n f)).flatten.Perm ((List.range n).filter fun x => φ (per n f x)) := by
    refine (List.perm_ext_iff_of_nodup (T.flat_nodup (fun x hx => mem_heads.mp (List.mem_filter.mp hx).1) ((heads_sorted.imp fun h => Nat.ne_of_lt h).filter _)) (List.nodup_range.filter _)).mpr fun a => ?_
    rw [List.mem_flatten, List.mem_filter, List.mem_range]
    constructor
    · rintro ⟨l, hl, ha⟩
      obtain ⟨x, hx, rfl⟩ := List.mem_map.mp hl
      obtain ⟨h1, h2⟩ := List.mem_filter.mp hx
      have hx' := (mem_heads.mp h1).1
      exact ⟨T.cyc_lt hx' ha, by rw [T.per_cyc hx' ha]; exact h2⟩
    · rintro ⟨ha, h2⟩
      obtain ⟨m, h3, h4⟩ := T.ex_least a ha
      have hm := T.cyc_lt ha h3
      exact ⟨cyc n f m, List.mem_map.mpr ⟨m, List.mem_filter.mpr ⟨mem_heads.mpr ⟨hm, h4⟩, by rw [T.per_cyc ha h3]; exact h2⟩, rfl⟩, T.back ha h3⟩
  have hl := hp.length_eq
  rw [List.length_flatten, List.map_map] at hl
  rw [e1, ← hl]
  congr 1
  exact List.map_congr_left fun x _ => (cyc_len x).symm
/-- what a round of one becomes under the K-th power: so many of that length -/
def piece (K L : Nat) : List Nat := List.replicate (Nat.gcd L K) (L / Nat.gcd L K)
theorem count_pieces (K M : Nat) (hM : 0 < M) : ∀ l : List Nat, (∀ L ∈ l, 0 < L) → M * ((l.map (piece K)).flatten.count M) = (l.filter fun L => L / Nat.gcd L K == M).sum
  | [], _ => rfl
  | L :: l, h => by
    have ih := count_pieces K M hM l fun x hx => h x (List.mem_cons_of_mem _ hx)
    rw [List.map_cons, List.flatten_cons, List.count_append, Nat.mul_add, ih, List.filter_cons]
    unfold piece
    rw [List.count_replicate]
    by_cases e : (L / Nat.gcd L K == M) = true
    · rw [if_pos e, if_pos e, List.sum_cons]
      have e' : L / Nat.gcd L K = M := by simpa using e
      rw [← e', Nat.div_mul_cancel (Nat.gcd_dvd_left L K)]
    · rw [if_neg e, if_neg e, Nat.mul_zero, Nat.zero_add]
theorem IsP.pieces {p : List Nat} (hp : IsP p) (k : Int) : (lens p.length (ap (PM.pw p k))).Perm (((lens p.length (ap p)).map (piece k.natAbs)).flatten) := by
  have T := hp.trn
  have U := (hp.pw k).trn
  rw [pw_len] at U
  refine List.perm_iff_count.mpr fun M => ?_
  by_cases h0 : M = 0
  · subst h0
    rw [List.count_eq_zero.mpr fun z => absurd (Trn.lens_pos z) (Nat.lt_irrefl _), List.count_eq_zero.mpr fun z => ?_]
    obtain ⟨l, hl, hz⟩ := List.mem_flatten.mp z
    obtain ⟨L, hL, rfl⟩ := List.mem_map.mp hl
    have := List.eq_of_mem_replicate hz
    have hLp := Trn.lens_pos hL
    have := Nat.div_pos (Nat.le_of_dvd hLp (Nat.gcd_dvd_left L k.natAbs)) (Nat.gcd_pos_of_pos_left k.natAbs hLp)
    omega
  have hM : 0 < M := Nat.pos_of_ne_zero h0
  refine Nat.eq_of_mul_eq_mul_left hM ?_
  rw [U.count, count_pieces _ _ hM _ fun L hL => Trn.lens_pos hL, T.sumφ fun L => L / Nat.gcd L k.natAbs == M]
  refine congrArg List.length (List.filter_congr fun x hx => ?_)
  rw [hp.per_pw k (List.mem_range.mp hx)]
/-! the order -/
def ord (n : Nat) (f : Nat → Nat) : Nat := (lens n f).foldl Nat.lcm 1
theorem foldl_lcm_dvd : ∀ (l : List Nat) (a m : Nat), l.foldl Nat.lcm a ∣ m ↔ a ∣ m ∧ ∀ L ∈ l, L ∣ m
  | [], a, m => by simp
  | L :: l, a, m => by
    rw [List.foldl_cons, foldl_lcm_dvd l, Nat.lcm_dvd_iff]
    simp [and_assoc]
theorem ord_dvd {m : Nat} : ord n f ∣ m ↔ ∀ L ∈ lens n f, L ∣ m := by
  unfold ord
  rw [foldl_lcm_dvd]
  simp
theorem ord_perm (h : (lens n f).Perm (lens n g)) : ord n f = ord n g :=
  Nat.dvd_antisymm (ord_dvd.mpr fun L hL => ord_dvd.mp (Nat.dvd_refl _) L (h.mem_iff.mp hL)) (ord_dvd.mpr fun L hL => ord_dvd.mp (Nat.dvd_refl _) L (h.mem_iff.mpr hL))
theorem foldl_lcm_pos : ∀ (l : List Nat) (a : Nat), 0 < a → (∀ L ∈ l, 0 < L) → 0 < l.foldl Nat.lcm a
  | [], a, h, _ => h
  | L :: l, a, h, h2 => foldl_lcm_pos l _ (Nat.lcm_pos h (h2 L List.mem_cons_self)) fun x hx => h2 x (List.mem_cons_of_mem _ hx)
theorem ord_pos : 0 < ord n f := foldl_lcm_pos _ 1 (by omega) fun L hL => Trn.lens_pos hL
end
theorem IsP.ord_pw {p : List Nat} (hp : IsP p) (d : Nat) : PM.pw p d = List.range p.length ↔ ord p.length (ap p) ∣ d := by
  rw [ord_dvd]
  constructor
  · intro h L hL
    obtain ⟨x, hx, rfl⟩ := hp.trn.lens_mem.mp hL
    have := (hp.pw_fix (d : Int) hx).mp (by rw [h, ap_range hx])
    rwa [Int.natAbs_natCast] at this
  · intro h
    refine ext_ap (by rw [pw_len, List.length_range]) fun x hx => ?_
    rw [pw_len] at hx
    rw [ap_range hx, hp.pw_fix _ hx, Int.natAbs_natCast]
    exact h _ (hp.trn.lens_mem.mpr ⟨x, hx, rfl⟩)
/-! carried over -/
def over (c p : List Nat) : List Nat := put (put (bk c) p) c
section
variable {c p : List Nat}
theorem over_len : (over c p).length = c.length := by unfold over; rw [put_len, put_len, bk_len]
theorem ap_over (hc : IsP c) (hp : IsP p) (hl : p.length = c.length) {x : Nat} (hx : x < c.length) : ap (over c p) (ap c x) = ap c (ap p x) := by
  have h1 := hc.ap_lt hx
  unfold over
  rw [ap_put (by rw [put_len, bk_len]; exact h1), ap_put (by rw [bk_len]; exact h1), hc.ap_bk_ap hx]
theorem IsP.over (hc : IsP c) (hp : IsP p) (hl : p.length = c.length) : IsP (over c p) :=
  (hc.bks.puts hp (by rw [bk_len, hl])).puts hc (by rw [put_len, bk_len])
theorem it_over (hc : IsP c) (hp : IsP p) (hl : p.length = c.length) {x : Nat} (hx : x < c.length) : ∀ m, it (ap (PM.over c p)) m (ap c x) = ap c (it (ap p) m x)
  | 0 => rfl
  | m + 1 => by
    show ap (PM.over c p) (it (ap (PM.over c p)) m (ap c x)) = ap c (ap p (it (ap p) m x))
    have := hp.trn.it_lt (x := x) (by omega) m
    rw [it_over hc hp hl hx m, ap_over hc hp hl (by omega)]
theorem per_over (hc : IsP c) (hp : IsP p) (hl : p.length = c.length) {x : Nat} (hx : x < c.length) : per c.length (ap (PM.over c p)) (ap c x) = per c.length (ap p) x := by
  have U := (hc.over hp hl).trn
  rw [over_len] at U
  have T := hp.trn
  rw [hl] at T
  refine U.per_uniq (hc.ap_lt hx) fun m => ?_
  rw [← T.per_dvd hx, it_over hc hp hl hx]
  exact ⟨fun e => hc.inj (T.it_lt hx m) hx e, fun e => by rw [e]⟩
theorem lens_over (hc : IsP c) (hp : IsP p) (hl : p.length = c.length) : (lens c.length (ap (PM.over c p))).Perm (lens c.length (ap p)) := by
  have U := (hc.over hp hl).trn
  rw [over_len] at U
  have T := hp.trn
  rw [hl] at T
  exact T.lens_perm U (ap c) hc.trn fun x hx => per_over hc hp hl hx
end
/-! a round begun elsewhere -/
def rot (t : List Nat) (i : Nat) : List Nat := t.drop i ++ t.take i
section
variable {n : Nat} {f g : Nat → Nat}
theorem cyc_get {x i : Nat} (hi : i < per n f x) : (cyc n f x)[i]? = some (it f i x) := by
  unfold cyc
  rw [List.getElem?_map, List.getElem?_range hi]; rfl
theorem Trn.rot_cyc (T : Trn n f) {x i : Nat} (hx : x < n) (hi : i < per n f x) : rot (cyc n f x) i = cyc n f (it f i x) := by
  have hL := T.per_it hx i
  have e0 := (T.per_spec hx).1
  unfold rot
  rw [show cyc n f (it f i x) = (List.range (per n f x)).map (fun j => it f j (it f i x)) by unfold cyc; rw [hL]]
  generalize hL' : per n f x = L at *
  obtain ⟨r, rfl⟩ : ∃ r, L = i + r := ⟨L - i, by omega⟩
  have e1 : cyc n f x = (List.range i).map (fun j => it f j x) ++ (List.range r).map (fun j => it f (i + j) x) := by
    unfold cyc
    rw [hL', List.range_add, List.map_append, List.map_map]; rfl
  have l1 : ((List.range i).map (fun j => it f j x)).length = i := by simp
  rw [e1, List.drop_left' l1, List.take_left' l1, Nat.add_comm i r, List.range_add, List.map_append, List.map_map]
  congr 1
  · exact List.map_congr_left fun j _ => by rw [← it_add, Nat.add_comm]
  · refine List.map_congr_left fun j _ => ?_
    show it f j x = it f (r + j) (it f i x)
    rw [← it_add, show r + j + i = j + (i + r) by omega, it_add, e0]
/-- the least number of the round of x -/
def head (n : Nat) (f : Nat → Nat) (x : Nat) : Nat := ((cyc n f x).find? (least n f)).getD 0
theorem Trn.head_spec (T : Trn n f) {x : Nat} (hx : x < n) : head n f x ∈ cyc n f x ∧ least n f (head n f x) = true := by
  unfold head
  cases e : (cyc n f x).find? (least n f) with
  | none =>
    obtain ⟨m, h1, h2⟩ := T.ex_least x hx
    have := List.find?_eq_none.mp e m h1
    exact absurd h2 this
  | some m => exact ⟨List.mem_of_find?_eq_some e, List.find?_some e⟩
theorem Trn.head_mem (T : Trn n f) {x : Nat} (hx : x < n) : head n f x ∈ heads n f := mem_heads.mpr ⟨T.cyc_lt hx (T.head_spec hx).1, (T.head_spec hx).2⟩
/-- the round, begun at its least number -/
theorem Trn.rot_least (T : Trn n f) {x m : Nat} (hx : x < n) (hm : m ∈ cyc n f x) (hl : ∀ y ∈ cyc n f x, m ≤ y) : rot (cyc n f x) ((cyc n f x).idxOf m) = cyc n f (head n f x) ∧ m = head n f x := by
  have hmn := T.cyc_lt hx hm
  have e : m = head n f x := by
    obtain ⟨h1, h2⟩ := T.head_spec hx
    refine T.least_uniq (T.cyc_lt hx h1) ?_ h2 ((T.cyc_same hx h1).mpr hm)
    exact least_iff.mpr fun y hy => hl y ((T.cyc_same hx hm).mp hy)
  refine ⟨?_, e⟩
  have hi : (cyc n f x).idxOf m < (cyc n f x).length := List.idxOf_lt_length_iff.mpr hm
  have hi2 := hi
  rw [cyc_len] at hi2
  rw [T.rot_cyc hx hi2, ← e]
  congr 1
  have h3 : (cyc n f x)[(cyc n f x).idxOf m] = m := List.getElem_idxOf hi
  have h4 := cyc_get (f := f) (x := x) hi2
  rw [List.getElem?_eq_getElem hi, h3] at h4
  exact (Option.some.inj h4).symm
def rnds (n : Nat) (f : Nat → Nat) : List (List Nat) := (lots n f).filter fun l => decide (1 < l.length)
theorem rnds_eq : rnds n f = ((heads n f).filter fun x => decide (1 < per n f x)).map (cyc n f) := by
  unfold rnds lots
  rw [List.filter_map]
  congr 1
  refine List.filter_congr fun x _ => ?_
  show decide (1 < (cyc n f x).length) = _
  rw [cyc_len]
theorem cyc_head (x : Nat) : ∃ r, cyc n f x = x :: r := by
  unfold cyc
  obtain ⟨k, hk⟩ : ∃ k, per n f x = k + 1 := ⟨per n f x - 1, by have := per_pos (n := n) (f := f) (x := x); omega⟩
  rw [hk, List.range_succ_eq_map, List.map_cons]
  exact ⟨_, rfl⟩
end
/-- the rounds carried over and begun anew are the carried turning's, in some order -/
theorem due_perm {c p : List Nat} (hc : IsP c) (hp : IsP p) (hl : p.length = c.length) :
    ((rnds c.length (ap p)).map fun one => cyc c.length (ap (over c p)) (head c.length (ap (over c p)) (ap c (one.headD 0)))).Perm (rnds c.length (ap (over c p))) := by
  have U := (hc.over hp hl).trn
  rw [over_len] at U
  have T := hp.trn
  rw [hl] at T
  have C := hc.trn
  rw [rnds_eq, rnds_eq, List.map_map]
  have e1 : ((heads c.length (ap p)).filter fun x => decide (1 < per c.length (ap p) x)).map ((fun one => cyc c.length (ap (over c p)) (head c.length (ap (over c p)) (ap c (one.headD 0)))) ∘ cyc c.length (ap p)) =
      (((heads c.length (ap p)).filter fun x => decide (1 < per c.length (ap p) x)).map fun x => head c.length (ap (over c p)) (ap c x)).map (cyc c.length (ap (over c p))) := by
    rw [List.map_map]
    refine List.map_congr_left fun x _ => ?_
    show cyc c.length (ap (over c p)) (head c.length (ap (over c p)) (ap c ((cyc c.length (ap p) x).headD 0))) = _
    obtain ⟨r, hr⟩ := cyc_head (n := c.length) (f := ap p) x
    rw [hr]; rfl
  rw [e1]
  refine List.Perm.map _ ?_
  have cycOver : ∀ {x : Nat}, x < c.length → ∀ {y : Nat}, y < c.length → (ap c y ∈ cyc c.length (ap (over c p)) (ap c x) ↔ y ∈ cyc c.length (ap p) x) := fun {x} hx {y} hy => by
    rw [U.mem_cyc (C.lt x hx), T.mem_cyc hx]
    constructor
    · rintro ⟨i, e⟩
      rw [it_over hc hp hl hx] at e
      exact ⟨i, C.inj _ _ (T.it_lt hx i) hy e⟩
    · rintro ⟨i, e⟩
      exact ⟨i, by rw [it_over hc hp hl hx, e]⟩
  refine (List.perm_ext_iff_of_nodup ?_ ((heads_sorted.imp fun h => Nat.ne_of_lt h).filter _)).mpr fun m => ?_
  · refine List.nodup_iff_pairwise_ne.mpr (List.pairwise_map.mpr (((heads_sorted.imp fun h => Nat.ne_of_lt h).filter _).imp_of_mem fun {a b} ha hb hab e => ?_))
    obtain ⟨ha1, ha2⟩ := mem_heads.mp (List.mem_filter.mp ha).1
    obtain ⟨hb1, hb2⟩ := mem_heads.mp (List.mem_filter.mp hb).1
    have h1 := (U.head_spec (C.lt a ha1)).1
    have h2 := (U.head_spec (C.lt b hb1)).1
    rw [e] at h1
    have h3 : ap c a ∈ cyc c.length (ap (over c p)) (ap c b) := U.cyc_trans (C.lt b hb1) h2 (U.back (C.lt a ha1) h1)
    exact hab (T.least_uniq hb1 ha2 hb2 ((cycOver hb1 ha1).mp h3))
  · rw [List.mem_map, List.mem_filter]
    constructor
    · rintro ⟨x, hx, rfl⟩
      obtain ⟨h1, h2⟩ := List.mem_filter.mp hx
      have hx1 := (mem_heads.mp h1).1
      refine ⟨U.head_mem (C.lt x hx1), ?_⟩
      rw [U.per_cyc (C.lt x hx1) (U.head_spec (C.lt x hx1)).1, per_over hc hp hl hx1]
      exact h2
    · rintro ⟨h1, h2⟩
      obtain ⟨hm, hml⟩ := mem_heads.mp h1
      obtain ⟨e, hb⟩ := hc.ap_ap_bk hm
      generalize ap (bk c) m = y at e hb
      obtain ⟨h3, h4⟩ := T.head_spec hb
      have hh := T.cyc_lt hb h3
      have h5 : ap c (head c.length (ap p) y) ∈ cyc c.length (ap (over c p)) m := by rw [← e]; exact (cycOver hb hh).mpr h3
      refine ⟨head c.length (ap p) y, List.mem_filter.mpr ⟨T.head_mem hb, ?_⟩, ?_⟩
      · rw [T.per_cyc hb h3, ← per_over hc hp hl hb, e]; exact h2
      · have h6 := U.head_spec (C.lt _ hh)
        exact U.least_uniq hm h6.2 hml (U.cyc_trans hm h5 h6.1)
end PM
/-! Plain mathematics: crossed pairs, their parity, the parity by rounds. -/
namespace PM
/-- g 0 + .. + g (n - 1) -/
def sm (n : Nat) (g : Nat → Nat) : Nat := ((List.range n).map g).sum
theorem sm_succ (n : Nat) (g : Nat → Nat) : sm (n + 1) g = sm n g + g n := by unfold sm; rw [List.range_succ, List.map_append, List.sum_append]; simp
theorem sm_zero (g : Nat → Nat) : sm 0 g = 0 := rfl
theorem sm_congr {n : Nat} {g h : Nat → Nat} (e : ∀ x, x < n → g x = h x) : sm n g = sm n h := by
  unfold sm
  rw [List.map_congr_left fun x hx => e x (List.mem_range.mp hx)]
theorem sm_add (n : Nat) (g h : Nat → Nat) : sm n (fun x => g x + h x) = sm n g + sm n h := by
  induction n with
  | zero => rfl
  | succ n ih => rw [sm_succ, sm_succ, sm_succ, ih]; omega
theorem sm_mul (n c : Nat) (g : Nat → Nat) : sm n (fun x => c * g x) = c * sm n g := by
  induction n with
  | zero => rfl
  | succ n ih => rw [sm_succ, sm_succ, ih, Nat.mul_add]
theorem sm_null (n : Nat) : sm n (fun _ => 0) = 0 := by
  induction n with
  | zero => rfl
  | succ n ih => rw [sm_succ, ih]
theorem sm_swap (n m : Nat) (g : Nat → Nat → Nat) : sm n (fun x => sm m fun y => g x y) = sm m fun y => sm n fun x => g x y := by
  induction n with
  | zero => rw [sm_zero]; exact (sm_null m).symm
  | succ n ih =>
    rw [sm_succ, ih, ← sm_add]
    exact sm_congr fun y _ => (sm_succ n fun x => g x y).symm
theorem Trn.perm {n : Nat} {f : Nat → Nat} (T : Trn n f) : ((List.range n).map f).Perm (List.range n) := by
  have nd : ((List.range n).map f).Nodup := List.nodup_iff_pairwise_ne.mpr (List.pairwise_map.mpr ((List.pairwise_lt_range (n := n)).imp_of_mem fun {a b} ha hb hab e => by
    have := T.inj a b (List.mem_range.mp ha) (List.mem_range.mp hb) e
    omega))
  have : IsP ((List.range n).map f) := ⟨nd, fun x hx => by
    obtain ⟨y, hy, rfl⟩ := List.mem_map.mp hx
    rw [List.length_map, List.length_range]
    exact T.lt y (List.mem_range.mp hy)⟩
  have := this.perm
  rwa [List.length_map, List.length_range] at this
theorem sm_turn {n : Nat} {f : Nat → Nat} (T : Trn n f) (g : Nat → Nat) : sm n (fun x => g (f x)) = sm n g := by
  have h := (T.perm.map g).sum_nat
  rw [List.map_map] at h
  exact h
/-- the sum over the pairs x < y -/
def lower (n : Nat) (h : Nat → Nat → Nat) : Nat := sm n fun x => sm n fun y => if x < y then h x y else 0
theorem double {n : Nat} {h : Nat → Nat → Nat} (hs : ∀ x y, h x y = h y x) (h0 : ∀ x, h x x = 0) : (sm n fun x => sm n fun y => h x y) = 2 * lower n h := by
  have e : (sm n fun x => sm n fun y => h x y) = lower n h + (sm n fun x => sm n fun y => if y < x then h x y else 0) := by
    unfold lower
    rw [← sm_add]
    refine sm_congr fun x _ => ?_
    rw [← sm_add]
    refine sm_congr fun y _ => ?_
    by_cases h1 : x < y
    · rw [if_pos h1, if_neg (by omega)]; rfl
    · by_cases h2 : y < x
      · rw [if_neg h1, if_pos h2]; omega
      · obtain rfl : x = y := by omega
        rw [if_neg h1, h0]
  have e2 : (sm n fun x => sm n fun y => if y < x then h x y else 0) = lower n h := by
    rw [sm_swap]
    unfold lower
    refine sm_congr fun x _ => sm_congr fun y _ => ?_
    by_cases h1 : x < y
    · rw [if_pos h1, if_pos h1, hs]
    · rw [if_neg h1, if_neg h1]
  rw [e, e2]; omega
/-- the pair is crossed by f -/
def crs (f : Nat → Nat) (x y : Nat) : Nat := if (x < y ∧ f y < f x) ∨ (y < x ∧ f x < f y) then 1 else 0
theorem crs_symm (f : Nat → Nat) (x y : Nat) : crs f x y = crs f y x := by
  unfold crs
  by_cases h : (x < y ∧ f y < f x) ∨ (y < x ∧ f x < f y)
  · rw [if_pos h, if_pos h.symm]
  · rw [if_neg h, if_neg fun q => h q.symm]
theorem crs_self (f : Nat → Nat) (x : Nat) : crs f x x = 0 := by unfold crs; rw [if_neg (by omega)]
/-- how many pairs are crossed -/
def inv (n : Nat) (f : Nat → Nat) : Nat := lower n (crs f)
theorem inv_congr {n : Nat} {f g : Nat → Nat} (e : ∀ x, x < n → f x = g x) : inv n f = inv n g := by
  unfold inv lower
  refine sm_congr fun x hx => sm_congr fun y hy => ?_
  unfold crs
  rw [e x hx, e y hy]
theorem inv_id (n : Nat) : inv n (fun x => x) = 0 := by
  unfold inv lower
  refine (sm_congr fun x hx => (sm_congr fun y hy => ?_).trans (sm_null n)).trans (sm_null n)
  by_cases h : x < y
  · rw [if_pos h]; simp only [crs]; rw [if_neg (by omega)]
  · rw [if_neg h]
theorem inv_comp {n : Nat} {f g : Nat → Nat} (T : Trn n f) (U : Trn n g) : ∃ k, inv n (fun x => g (f x)) + 2 * k = inv n f + inv n g := by
  let kk : Nat → Nat → Nat := fun x y => crs f x y * crs g (f x) (f y)
  have hk1 : ∀ x y, kk x y = kk y x := fun x y => by show crs f x y * crs g (f x) (f y) = _; rw [crs_symm f, crs_symm g]
  have hk2 : ∀ x, kk x x = 0 := fun x => by show crs f x x * _ = 0; rw [crs_self, Nat.zero_mul]
  refine ⟨lower n kk, ?_⟩
  have pt : ∀ x y, x < n → y < n → crs (fun x => g (f x)) x y + 2 * kk x y = crs f x y + crs g (f x) (f y) := by
    intro x y hx hy
    show crs (fun x => g (f x)) x y + 2 * (crs f x y * crs g (f x) (f y)) = _
    by_cases e : x = y
    · subst e; rw [crs_self, crs_self, crs_self]
    · have h1 : f x ≠ f y := fun q => e (T.inj x y hx hy q)
      have h2 : g (f x) ≠ g (f y) := fun q => h1 (U.inj _ _ (T.lt x hx) (T.lt y hy) q)
      simp only [crs]
      by_cases a : x < y <;> by_cases b : f x < f y <;> by_cases c : g (f x) < g (f y) <;>
        (first
          | (rw [if_pos (by omega), if_pos (by omega), if_pos (by omega)])
          | (rw [if_pos (by omega), if_pos (by omega), if_neg (by omega)])
          | (rw [if_pos (by omega), if_neg (by omega), if_pos (by omega)])
          | (rw [if_pos (by omega), if_neg (by omega), if_neg (by omega)])
          | (rw [if_neg (by omega), if_pos (by omega), if_pos (by omega)])
          | (rw [if_neg (by omega), if_pos (by omega), if_neg (by omega)])
          | (rw [if_neg (by omega), if_neg (by omega), if_pos (by omega)])
          | (rw [if_neg (by omega), if_neg (by omega), if_neg (by omega)]))
  have s1 := double (n := n) (crs_symm fun x => g (f x)) (crs_self _)
  have s2 := double (n := n) hk1 hk2
  have s3 := double (n := n) (crs_symm f) (crs_self _)
  have s4 : (sm n fun x => sm n fun y => crs g (f x) (f y)) = 2 * inv n g := by
    have : (sm n fun x => sm n fun y => crs g (f x) (f y)) = sm n fun x => sm n fun y => crs g x y := by
      rw [← sm_turn T fun x => sm n fun y => crs g x y]
      exact sm_congr fun x _ => sm_turn T fun y => crs g (f x) y
    rw [this]
    exact double (crs_symm g) (crs_self _)
  have tot : (sm n fun x => sm n fun y => crs (fun x => g (f x)) x y) + 2 * (sm n fun x => sm n fun y => kk x y) = (sm n fun x => sm n fun y => crs f x y) + (sm n fun x => sm n fun y => crs g (f x) (f y)) := by
    rw [← sm_mul, ← sm_add, ← sm_add]
    refine sm_congr fun x hx => ?_
    rw [← sm_mul, ← sm_add, ← sm_add]
    exact sm_congr fun y hy => pt x y hx hy
  rw [s1, s2, s3, s4] at tot
  show lower n (crs fun x => g (f x)) + 2 * lower n kk = lower n (crs f) + inv n g
  omega
/-- the turning that exchanges a and b -/
def exch (a b x : Nat) : Nat := if x = a then b else if x = b then a else x
theorem exch_lt {n a b x : Nat} (ha : a < n) (hb : b < n) (hx : x < n) : exch a b x < n := by
  unfold exch; split
  · exact hb
  · split
    · exact ha
    · exact hx
theorem exch_exch {a b x : Nat} : exch a b (exch a b x) = x := by
  unfold exch
  by_cases h1 : x = a
  · subst h1; rw [if_pos rfl]
    by_cases h2 : b = x
    · rw [if_pos h2, h2]
    · rw [if_neg h2, if_pos rfl]
  · rw [if_neg h1]
    by_cases h2 : x = b
    · subst h2; rw [if_pos rfl, if_pos rfl]
    · rw [if_neg h2, if_neg h1, if_neg h2]
theorem exch_trn {n a b : Nat} (ha : a < n) (hb : b < n) : Trn n (exch a b) := ⟨fun x hx => exch_lt ha hb hx, fun x y _ _ e => by rw [← exch_exch (a := a) (b := b) (x := x), e, exch_exch]⟩
theorem sm_one {n k : Nat} (hk : k < n) {g : Nat → Nat} (h : ∀ x, x < n → x ≠ k → g x = 0) : sm n g = g k := by
  induction n with
  | zero => omega
  | succ n ih =>
    rw [sm_succ]
    by_cases e : k = n
    · subst e
      rw [sm_congr (h := fun _ => 0) fun x hx => h x (by omega) (by omega), sm_null, Nat.zero_add]
    · rw [ih (by omega) fun x hx hne => h x (by omega) hne, h n (by omega) (Ne.symm e)]
      omega
theorem inv_01 {n : Nat} (hn : 2 ≤ n) : inv n (exch 0 1) = 1 := by
  unfold inv lower
  have ex : ∀ x, exch 0 1 x = if x = 0 then 1 else if x = 1 then 0 else x := fun x => rfl
  rw [sm_one (k := 0) (by omega) fun x hx hne => ?_, sm_one (k := 1) (by omega) fun y hy hne => ?_]
  · rw [if_pos (by omega)]; unfold crs; rw [ex, ex, if_pos (by simp)]
  · by_cases h : 0 < y
    · rw [if_pos h]; unfold crs; rw [ex, ex]
      rw [if_neg (by simp; rw [if_neg (by omega), if_neg hne]; omega)]
    · rw [if_neg h]
  · refine (sm_congr fun y hy => ?_).trans (sm_null n)
    by_cases h : x < y
    · rw [if_pos h]; unfold crs; rw [ex, ex]
      refine if_neg ?_
      by_cases h1 : x = 1
      · subst h1; simp; rw [if_neg (by omega)]; omega
      · rw [if_neg hne, if_neg h1, if_neg (by omega), if_neg (by omega)]; omega
    · rw [if_neg h]
theorem inv_conj {n : Nat} {c t d : Nat → Nat} (C : Trn n c) (T : Trn n t) (D : Trn n d) (h : ∀ x, x < n → d (c x) = x) : ∃ k, inv n (fun x => c (t (d x))) % 2 = inv n t % 2 ∧ k = 0 := by
  refine ⟨0, ?_, rfl⟩
  have TD : Trn n fun x => t (d x) := ⟨fun x hx => T.lt _ (D.lt x hx), fun x y hx hy e => D.inj x y hx hy (T.inj _ _ (D.lt x hx) (D.lt y hy) e)⟩
  obtain ⟨k1, e1⟩ := inv_comp TD C
  obtain ⟨k2, e2⟩ := inv_comp D T
  obtain ⟨k3, e3⟩ := inv_comp C D
  have e4 : inv n (fun x => d (c x)) = 0 := by rw [inv_congr (g := fun x => x) h, inv_id]
  omega
theorem inv_exch {n a b : Nat} (ha : a < n) (hb : b < n) (hab : a ≠ b) : inv n (exch a b) % 2 = 1 := by
  -- c takes 0 to a and 1 to b
  have hn : 2 ≤ n := by omega
  have hb' : exch 0 a b < n := exch_lt (by omega) ha hb
  have hb0 : exch 0 a b ≠ 0 := fun e => by
    have : exch 0 a (exch 0 a b) = exch 0 a 0 := by rw [e]
    rw [exch_exch] at this
    unfold exch at this
    rw [if_pos rfl] at this
    exact hab this.symm
  have S := exch_trn (n := n) (a := 0) (b := a) (by omega) ha
  have R := exch_trn (n := n) (a := 1) (b := exch 0 a b) (by omega) hb'
  have C : Trn n fun x => exch 0 a (exch 1 (exch 0 a b) x) := ⟨fun x hx => S.lt _ (R.lt x hx), fun x y hx hy e => R.inj x y hx hy (S.inj _ _ (R.lt x hx) (R.lt y hy) e)⟩
  have D : Trn n fun x => exch 1 (exch 0 a b) (exch 0 a x) := ⟨fun x hx => R.lt _ (S.lt x hx), fun x y hx hy e => S.inj x y hx hy (R.inj _ _ (S.lt x hx) (S.lt y hy) e)⟩
  obtain ⟨_, h, _⟩ := inv_conj C (exch_trn (n := n) (a := 0) (b := 1) (by omega) (by omega)) D fun x hx => by
    show exch 1 (exch 0 a b) (exch 0 a (exch 0 a (exch 1 (exch 0 a b) x))) = x
    rw [exch_exch, exch_exch]
  rw [inv_01 hn] at h
  have c0 : exch 0 a (exch 1 (exch 0 a b) 0) = a := by
    have : exch 1 (exch 0 a b) 0 = 0 := by
      generalize exch 0 a b = z at hb0
      unfold exch; rw [if_neg (by omega), if_neg (Ne.symm hb0)]
    rw [this]; unfold exch; rw [if_pos rfl]
  have c1 : exch 0 a (exch 1 (exch 0 a b) 1) = b := by
    have : exch 1 (exch 0 a b) 1 = exch 0 a b := by rw [exch.eq_def 1, if_pos rfl]
    rw [this, exch_exch]
  refine Eq.trans (congrArg (· % 2) (inv_congr fun x hx => ?_)) h
  show exch a b x = exch 0 a (exch 1 (exch 0 a b) (exch 0 1 (exch 1 (exch 0 a b) (exch 0 a x))))
  -- both sides at x = c y
  obtain ⟨y, rfl⟩ : ∃ y, exch 0 a (exch 1 (exch 0 a b) y) = x := ⟨exch 1 (exch 0 a b) (exch 0 a x), by rw [exch_exch, exch_exch]⟩
  rw [exch_exch, exch_exch]
  by_cases y0 : y = 0
  · subst y0
    rw [c0, show exch 0 1 0 = 1 from rfl, c1]
    rw [exch.eq_def, if_pos rfl]
  · by_cases y1 : y = 1
    · subst y1
      rw [c1, show exch 0 1 1 = 0 from rfl, c0]
      rw [exch.eq_def, if_neg (Ne.symm hab), if_pos rfl]
    · have e2 : exch 0 1 y = y := by unfold exch; rw [if_neg y0, if_neg y1]
      rw [e2]
      have n1 : exch 0 a (exch 1 (exch 0 a b) y) ≠ a := fun q => y0 (by
        have : exch 0 a (exch 1 (exch 0 a b) y) = exch 0 a (exch 1 (exch 0 a b) 0) := by rw [q, c0]
        have h2 := congrArg (exch 0 a) this
        rw [exch_exch, exch_exch] at h2
        have h3 := congrArg (exch 1 (exch 0 a b)) h2
        rw [exch_exch, exch_exch] at h3
        exact h3)
      have n2 : exch 0 a (exch 1 (exch 0 a b) y) ≠ b := fun q => y1 (by
        have : exch 0 a (exch 1 (exch 0 a b) y) = exch 0 a (exch 1 (exch 0 a b) 1) := by rw [q, c1]
        have h2 := congrArg (exch 0 a) this
        rw [exch_exch, exch_exch] at h2
        have h3 := congrArg (exch 1 (exch 0 a b)) h2
        rw [exch_exch, exch_exch] at h3
        exact h3)
      generalize exch 0 a (exch 1 (exch 0 a b) y) = z at n1 n2
      unfold exch
      rw [if_neg n1, if_neg n2]
/-! one number taken out of its round -/
section
variable {n : Nat} {f : Nat → Nat}
def cut1 (f : Nat → Nat) (x : Nat) : Nat → Nat := fun z => f (exch x (f x) z)
theorem Trn.cut1 (T : Trn n f) {x : Nat} (hx : x < n) : Trn n (cut1 f x) :=
  ⟨fun z hz => T.lt _ (exch_lt hx (T.lt x hx) hz), fun a b ha hb e => (exch_trn hx (T.lt x hx)).inj a b ha hb (T.inj _ _ (exch_lt hx (T.lt x hx) ha) (exch_lt hx (T.lt x hx) hb) e)⟩
theorem cut1_x {x : Nat} : PM.cut1 f x x = f (f x) := by show f (exch x (f x) x) = _; unfold exch; rw [if_pos rfl]
theorem cut1_y {x : Nat} (hne : f x ≠ x) : PM.cut1 f x (f x) = f x := by show f (exch x (f x) (f x)) = _; unfold exch; rw [if_neg hne, if_pos rfl]
theorem cut1_z {x z : Nat} (h1 : z ≠ x) (h2 : z ≠ f x) : PM.cut1 f x z = f z := by show f (exch x (f x) z) = _; unfold exch; rw [if_neg h1, if_neg h2]
theorem per_of {x k : Nat} (T : Trn n f) (hx : x < n) (hk : 0 < k) (h1 : it f k x = x) (h2 : ∀ m, 0 < m → m < k → it f m x ≠ x) : per n f x = k := by
  have hd := (T.per_dvd hx).mp h1
  have hle := Nat.le_of_dvd hk hd
  by_cases e : per n f x = k
  · exact e
  · exact absurd (T.per_spec hx).1 (h2 _ per_pos (by omega))
theorem Trn.per_two (T : Trn n f) {x : Nat} (hx : x < n) (hne : f x ≠ x) : 2 ≤ per n f x := by
  have h1 := per_pos (n := n) (f := f) (x := x)
  by_cases e : per n f x = 1
  · have := (T.per_spec hx).1
    rw [e] at this
    exact absurd this hne
  · omega
theorem Trn.cut_it (T : Trn n f) {x : Nat} (hx : x < n) (hne : f x ≠ x) : ∀ m, 1 ≤ m → m + 1 ≤ per n f x → it (PM.cut1 f x) m x = it f (m + 1) x
  | 0, h, _ => by omega
  | 1, _, _ => cut1_x
  | m + 2, _, h => by
    have ih := T.cut_it hx hne (m + 1) (by omega) (by omega)
    show PM.cut1 f x (it (PM.cut1 f x) (m + 1) x) = f (it f (m + 2) x)
    rw [ih]
    refine cut1_z ((T.per_spec hx).2.2 (m + 2) (by omega) (by omega)) fun e => ?_
    have e2 : it f 1 x = it f (m + 2) x := e.symm
    exact (T.per_spec hx).2.2 (m + 2 - 1) (by omega) (by omega) (T.cancel hx (by omega) e2)
theorem Trn.cut_per_x (T : Trn n f) {x : Nat} (hx : x < n) (hne : f x ≠ x) : per n (PM.cut1 f x) x = per n f x - 1 := by
  have h2 := T.per_two hx hne
  refine per_of (T.cut1 hx) hx (by omega) ?_ fun m h0 hm e => ?_
  · rw [T.cut_it hx hne _ (by omega) (by omega), show per n f x - 1 + 1 = per n f x by omega, (T.per_spec hx).1]
  · rw [T.cut_it hx hne m (by omega) (by omega)] at e
    exact (T.per_spec hx).2.2 (m + 1) (by omega) (by omega) e
theorem Trn.cut_per_y (T : Trn n f) {x : Nat} (hx : x < n) (hne : f x ≠ x) : per n (PM.cut1 f x) (f x) = 1 :=
  per_of (T.cut1 hx) (T.lt x hx) (by omega) (cut1_y hne) fun m h0 hm => by omega
theorem Trn.cut_per_z (T : Trn n f) {x z : Nat} (hx : x < n) (hz : z < n) (h : z ∉ cyc n f x) : per n (PM.cut1 f x) z = per n f z := by
  have hout : ∀ m, it f m z ∉ cyc n f x := fun m q => h (T.cyc_trans hx q (T.back hz ((T.mem_cyc hz).mpr ⟨m, rfl⟩)))
  have e : ∀ m, it (PM.cut1 f x) m z = it f m z := by
    intro m
    induction m with
    | zero => rfl
    | succ m ih =>
      show PM.cut1 f x (it (PM.cut1 f x) m z) = f (it f m z)
      rw [ih]
      exact cut1_z (fun q => hout m (by rw [q]; exact T.self_cyc hx)) fun q => hout m (by rw [q]; exact (T.mem_cyc hx).mpr ⟨1, rfl⟩)
  refine (T.cut1 hx).per_uniq hz fun m => ?_
  rw [e, T.per_dvd hz]
theorem count_if (l : List Nat) (g : Nat → Nat) (M k : Nat) (h : ∀ z ∈ l, g z = k) : (l.filter fun z => g z == M).length = if k = M then l.length else 0 := by
  by_cases e : k = M
  · rw [if_pos e, List.filter_eq_self.mpr fun z hz => by rw [h z hz, e]; simp]
  · rw [if_neg e, List.filter_eq_nil_iff.mpr fun z hz => by rw [h z hz]; simpa using e]; rfl
theorem Trn.cut_lens (T : Trn n f) {x : Nat} (hx : x < n) (hne : f x ≠ x) : (per n f x :: lens n (PM.cut1 f x)).Perm ((per n f x - 1) :: 1 :: lens n f) := by
  have T' := T.cut1 hx
  have h2 := T.per_two hx hne
  have hC : (List.range n).Perm (cyc n f x ++ (List.range n).filter fun z => !decide (z ∈ cyc n f x)) := by
    refine (List.perm_ext_iff_of_nodup List.nodup_range ?_).mpr fun a => ?_
    · refine List.nodup_append.mpr ⟨T.cyc_nodup hx, List.nodup_range.filter _, fun a ha b hb e => ?_⟩
      subst e
      have := (List.mem_filter.mp hb).2
      simp [ha] at this
    · rw [List.mem_append, List.mem_filter, List.mem_range]
      constructor
      · intro ha
        by_cases q : a ∈ cyc n f x
        · exact .inl q
        · exact .inr ⟨ha, by simp [q]⟩
      · rintro (ha | ha)
        · exact T.cyc_lt hx ha
        · exact ha.1
  obtain ⟨L, hL⟩ : ∃ L, per n f x = L + 2 := ⟨per n f x - 2, by omega⟩
  have eC : cyc n f x = x :: f x :: (List.range L).map (fun i => it f (i + 2) x) := by
    unfold cyc
    rw [hL, List.range_succ_eq_map, List.map_cons, List.range_succ_eq_map, List.map_cons, List.map_cons, List.map_map, List.map_map]; rfl
  refine List.perm_iff_count.mpr fun M => ?_
  by_cases h0 : M = 0
  · subst h0
    rw [List.count_eq_zero.mpr fun z => ?_, List.count_eq_zero.mpr fun z => ?_]
    · rcases List.mem_cons.mp z with z | z
      · omega
      · rcases List.mem_cons.mp z with z | z
        · omega
        · exact absurd (Trn.lens_pos z) (Nat.lt_irrefl _)
    · rcases List.mem_cons.mp z with z | z
      · omega
      · exact absurd (Trn.lens_pos z) (Nat.lt_irrefl _)
  have hM : 0 < M := Nat.pos_of_ne_zero h0
  refine Nat.eq_of_mul_eq_mul_left hM ?_
  rw [List.count_cons, List.count_cons, List.count_cons, Nat.mul_add, Nat.mul_add, Nat.mul_add, T'.count, T.count]
  have p1 := (hC.filter fun z => per n (PM.cut1 f x) z == M).length_eq
  have p2 := (hC.filter fun z => per n f z == M).length_eq
  rw [List.filter_append, List.length_append] at p1 p2
  have r : (((List.range n).filter fun z => !decide (z ∈ cyc n f x)).filter fun z => per n (PM.cut1 f x) z == M) = (((List.range n).filter fun z => !decide (z ∈ cyc n f x)).filter fun z => per n f z == M) := by
    refine List.filter_congr fun z hz => ?_
    obtain ⟨h1, h3⟩ := List.mem_filter.mp hz
    rw [T.cut_per_z hx (List.mem_range.mp h1) (by simpa using h3)]
  rw [r] at p1
  have c2 : ((cyc n f x).filter fun z => per n f z == M).length = if L + 2 = M then L + 2 else 0 := by
    rw [count_if (cyc n f x) (per n f) M (L + 2) fun z hz => by rw [T.per_cyc hx hz, hL], cyc_len, hL]
  have c1 : ((cyc n f x).filter fun z => per n (PM.cut1 f x) z == M).length = (if L + 1 = M then L + 1 else 0) + (if 1 = M then 1 else 0) := by
    have hrest : ∀ z ∈ x :: (List.range L).map (fun i => it f (i + 2) x), per n (PM.cut1 f x) z = L + 1 := fun z hz => by
      have hxx := T.cut_per_x hx hne
      rw [hL] at hxx
      rcases List.mem_cons.mp hz with rfl | hz
      · exact hxx
      · obtain ⟨i, hi, rfl⟩ := List.mem_map.mp hz
        have hi' := List.mem_range.mp hi
        rw [← T.cut_it hx hne (i + 1) (by omega) (by omega), T'.per_it hx]
        exact hxx
    have hpm : (cyc n f x).Perm (f x :: x :: (List.range L).map (fun i => it f (i + 2) x)) := by rw [eC]; exact List.Perm.swap _ _ _
    rw [(hpm.filter _).length_eq]
    have q := count_if _ (per n (PM.cut1 f x)) M (L + 1) hrest
    have hl : (x :: (List.range L).map (fun i => it f (i + 2) x)).length = L + 1 := by simp
    rw [hl] at q
    rw [List.filter_cons, T.cut_per_y hx hne]
    by_cases e1 : 1 = M
    · rw [if_pos (by simpa using e1), List.length_cons, q, if_pos e1]
    · rw [if_neg (by simpa using e1), q, if_neg e1]; omega
  rw [c1] at p1
  rw [c2] at p2
  rw [hL, p1, p2]
  simp only [beq_iff_eq]
  have m1 : M * (if L + 2 = M then 1 else 0) = if L + 2 = M then L + 2 else 0 := by split <;> simp_all
  have m2 : M * (if L + 2 - 1 = M then 1 else 0) = if L + 1 = M then L + 1 else 0 := by
    rw [show L + 2 - 1 = L + 1 by omega]
    split
    · rename_i h; rw [h]; omega
    · omega
  have m3 : M * (if 1 = M then 1 else 0) = if 1 = M then 1 else 0 := by
    split
    · rename_i h; rw [← h]
    · omega
  rw [m1, m2, m3]
  omega
/-- the parity by rounds -/
def cyp (n : Nat) (f : Nat → Nat) : Nat := ((lens n f).map fun l => l - 1).sum
theorem cyp_parity : ∀ (k : Nat) (f : Nat → Nat), Trn n f → cyp n f = k → cyp n f % 2 = inv n f % 2 := by
  intro k
  induction k using Nat.strongRecOn with
  | _ k ih =>
    intro f T hk
    by_cases h : ∃ x, x < n ∧ f x ≠ x
    · obtain ⟨x, hx, hne⟩ := h
      have T' := T.cut1 hx
      have hp := ((T.cut_lens hx hne).map fun l => l - 1).sum_nat
      rw [List.map_cons, List.map_cons, List.map_cons, List.sum_cons, List.sum_cons, List.sum_cons] at hp
      have h2 := T.per_two hx hne
      have hc : cyp n (PM.cut1 f x) + 1 = cyp n f := by unfold cyp; omega
      have h3 := ih (cyp n (PM.cut1 f x)) (by omega) _ T' rfl
      obtain ⟨j, hj⟩ := inv_comp (exch_trn hx (T.lt x hx)) T
      have h4 := inv_exch hx (T.lt x hx) (Ne.symm hne)
      have h5 : inv n (PM.cut1 f x) = inv n (fun z => f (exch x (f x) z)) := rfl
      omega
    · have hf : ∀ x, x < n → f x = x := fun x hx => Classical.byContradiction fun q => h ⟨x, hx, q⟩
      have h1 : inv n f = 0 := by rw [inv_congr (g := fun x => x) hf, inv_id]
      have h2 : cyp n f = 0 := by
        unfold cyp
        refine Nat.eq_zero_of_le_zero ?_
        have : ∀ l : List Nat, (∀ L ∈ l, L = 1) → (l.map fun L => L - 1).sum = 0 := by
          intro l
          induction l with
          | nil => intro _; rfl
          | cons L l ihl =>
            intro hl
            rw [List.map_cons, List.sum_cons, ihl fun y hy => hl y (List.mem_cons_of_mem _ hy), hl L List.mem_cons_self]
        rw [this _ fun L hL => ?_]
        · exact Nat.le_refl _
        · obtain ⟨x, hx, rfl⟩ := T.lens_mem.mp hL
          exact per_of T hx (by omega) (hf x hx) fun m h0 hm => by omega
      rw [h1, h2]
end
end PM
set_option Elab.async false
set_option linter.all false
set_option maxRecDepth 100000
set_option maxHeartbeats 2000000
namespace PD
open PySem L2
/-! data of numbers -/
def intsL (L : List Nat) : List PyData := L.map fun n : Nat => .int (n : Int)
def tupN (L : List Nat) : PyData := .tuple (intsL L)
theorem tupN_of (L : List Nat) : PyData.tuple (intsL L) = tupN L := rfl
theorem intsL_len (L : List Nat) : (intsL L).length = L.length := List.length_map ..
theorem intsL_app (L M : List Nat) : intsL (L ++ M) = intsL L ++ intsL M := List.map_append ..
theorem canLay_ints : ∀ L : List Nat, PyData.canLayAll0 (intsL L) = true
  | [] => by simp [intsL, PyData.canLayAll0]
  | n :: L => by
    have := canLay_ints L
    unfold intsL at *
    simp [PyData.canLayAll0, PyData.canLay0, this]
theorem depth_ints : ∀ L : List Nat, PyData.depthAll (intsL L) ≤ 1
  | [] => by simp [intsL, PyData.depthAll]
  | n :: L => by
    have := depth_ints L
    unfold intsL at *
    simp only [List.map_cons, PyData.depthAll, PyData.depth]
    omega
theorem shaped_of {d : PyData} (h1 : d.canLay0 = true) (h2 : d.depth ≤ 64) : SeqAt.shaped d = true := by
  show (d.canLay0 && decide (d.depth ≤ 64)) = true
  rw [h1, decide_eq_true h2]; rfl
theorem lay_tupN (L : List Nat) : (tupN L).canLay0 = true := by
  have := canLay_ints L
  unfold tupN
  simpa [PyData.canLay0] using this
theorem depth_tupN (L : List Nat) : (tupN L).depth ≤ 2 := by
  have := depth_ints L
  unfold tupN
  simp only [PyData.depth]
  omega
theorem shaped_tupN (L : List Nat) : SeqAt.shaped (tupN L) = true := shaped_of (lay_tupN L) (by have := depth_tupN L; omega)
theorem shaped_int (u : Int) : SeqAt.shaped (.int u) = true := shaped_of (by simp [PyData.canLay0]) (by simp [PyData.depth])
theorem shaped_intsL (L : List Nat) : SeqAt.shaped (.list (intsL L)) = true := shaped_of (by have := canLay_ints L; simpa [PyData.canLay0] using this) (by have := depth_ints L; simp only [PyData.depth]; omega)
theorem eqv_int (u v : Int) : PyData.eqv (.int u) (.int v) = decide (u = v) := by
  simp only [PyData.eqv]
  by_cases h : u = v <;> simp [h]
theorem eqv_ints : ∀ p q : List Nat, PyData.eqvAll (intsL p) (intsL q) = decide (p = q)
  | [], [] => by simp [intsL, PyData.eqvAll]
  | [], y :: ys => by simp [intsL, PyData.eqvAll]
  | x :: xs, [] => by simp [intsL, PyData.eqvAll]
  | x :: xs, y :: ys => by
    have := eqv_ints xs ys
    unfold intsL at *
    simp only [List.map_cons, PyData.eqvAll, this, eqv_int]
    by_cases h1 : x = y
    · by_cases h2 : xs = ys <;> simp [h1, h2]
    · have h3 : ¬ (x : Int) = y := by omega
      simp [h1, h3]
theorem eqv_tupN (p q : List Nat) : PyData.eqv (tupN p) (tupN q) = decide (p = q) := by
  unfold tupN; simp only [PyData.eqv]; exact eqv_ints p q
theorem eqv_intsL (p q : List Nat) : PyData.eqv (.list (intsL p)) (.list (intsL q)) = decide (p = q) := by
  simp only [PyData.eqv]; exact eqv_ints p q
/-- tuples, lists of tuples of numbers -/
def tupsL (Ls : List (List Nat)) : List PyData := Ls.map tupN
def tupT (Ls : List (List Nat)) : PyData := .tuple (tupsL Ls)
theorem canLay_tups : ∀ L : List (List Nat), PyData.canLayAll0 (tupsL L) = true
  | [] => by simp [tupsL, PyData.canLayAll0]
  | n :: L => by
    have := canLay_tups L
    unfold tupsL at *
    simp [PyData.canLayAll0, lay_tupN, this]
theorem depth_tups : ∀ L : List (List Nat), PyData.depthAll (tupsL L) ≤ 2
  | [] => by simp [tupsL, PyData.depthAll]
  | n :: L => by
    have := depth_tups L
    have := depth_tupN n
    unfold tupsL at *
    simp only [List.map_cons, PyData.depthAll]
    omega
theorem shaped_tupT (L : List (List Nat)) : SeqAt.shaped (tupT L) = true := shaped_of (by have := canLay_tups L; unfold tupT; simpa [PyData.canLay0] using this) (by have := depth_tups L; unfold tupT; simp only [PyData.depth]; omega)
theorem eqv_tups : ∀ p q : List (List Nat), PyData.eqvAll (tupsL p) (tupsL q) = decide (p = q)
  | [], [] => by simp [tupsL, PyData.eqvAll]
  | [], y :: ys => by simp [tupsL, PyData.eqvAll]
  | x :: xs, [] => by simp [tupsL, PyData.eqvAll]
  | x :: xs, y :: ys => by
    have := eqv_tups xs ys
    unfold tupsL at *
    simp only [List.map_cons, PyData.eqvAll, this, eqv_tupN]
    by_cases h1 : x = y <;> by_cases h2 : xs = ys <;> simp [h1, h2]
theorem eqv_tupT (p q : List (List Nat)) : PyData.eqv (tupT p) (tupT q) = decide (p = q) := by
  unfold tupT; simp only [PyData.eqv]; exact eqv_tups p q
theorem ixN_nat {n j : Nat} (h : j < n) : ixN n (j : Int) = some j := by
  unfold ixN
  rw [if_pos (by omega), if_pos (by omega)]; rfl
theorem ixN_nat_iff {n x j : Nat} : ixN n (x : Int) = some j ↔ x < n ∧ j = x := by
  constructor
  · intro h
    by_cases q : x < n
    · rw [ixN_nat q] at h; exact ⟨q, (Option.some.inj h).symm⟩
    · unfold ixN at h
      rw [if_pos (by omega), if_neg (by omega)] at h; cases h
  · rintro ⟨q, rfl⟩; exact ixN_nat q
theorem atI_ints {L : List Nat} {x : Nat} {p : PyData} : atI (intsL L) (x : Int) = some p ↔ ∃ y : Nat, L[x]? = some y ∧ p = .int y := by
  unfold atI
  rw [intsL_len]
  by_cases h : x < L.length
  · rw [ixN_nat h]
    show (intsL L)[x]? = some p ↔ _
    unfold intsL
    rw [List.getElem?_map, List.getElem?_eq_getElem h]
    constructor
    · intro e; exact ⟨_, rfl, (Option.some.inj e).symm⟩
    · rintro ⟨y, e, rfl⟩; cases e; rfl
  · constructor
    · intro e
      cases e2 : ixN L.length (x : Int) with
      | none => rw [e2] at e; cases e
      | some j => exact absurd (ixN_nat_iff.mp e2).1 h
    · rintro ⟨y, e, _⟩; rw [List.getElem?_eq_none (by omega)] at e; cases e
section
variable {ds : PSt} {Q : D → PSt → Prop} {a b : Addr} {i s : Nat} {π : List Stp} {x y d t : D} {xs : List PyData} {p : PyData} {u v : Int} {L M : List Nat} {m : Nat}
theorem w_lenN : sLen (.dat (tupN L)) ds Q ↔ Q (.dat (.int (L.length : Nat))) ds := by
  rw [w_len]
  constructor
  · rintro ⟨_, n, h, q⟩; obtain rfl : n = (intsL L).length := h; rw [intsL_len] at q; exact q
  · intro q; exact ⟨trivial, _, rfl, by rw [intsL_len]; exact q⟩
theorem w_seqTN {R : List D → (PSt → Prop) → PSt → Prop} : SeqW (.dat (tupN L)) ds R ↔ R (L.map fun n : Nat => .dat (.int n)) (fun _ => True) ds := by
  unfold tupN
  rw [w_seqT]
  have : (intsL L).map D.dat = L.map fun n : Nat => D.dat (.int n) := by unfold intsL; rw [List.map_map]; rfl
  rw [this]
theorem w_ixT : sIx (.dat (.tuple xs)) (.dat (.int u)) ds Q ↔ ∃ p, atI xs u = some p ∧ Q (.dat p) ds := by
  rw [w_ix]
  constructor
  · rintro ⟨_, d, h, q⟩; obtain ⟨p, e, rfl⟩ := ix_tupI.mp h; exact ⟨p, e, q⟩
  · rintro ⟨p, e, q⟩; exact ⟨trivial, _, ix_tupI.mpr ⟨p, e, rfl⟩, q⟩
theorem w_ixL : sIx (.lst a xs) (.dat (.int u)) ds Q ↔ ∃ p, atI xs u = some p ∧ Q (.dat p) ds := by
  rw [w_ix]
  constructor
  · rintro ⟨_, d, h, q⟩; obtain ⟨p, e, rfl⟩ := ix_lstI.mp h; exact ⟨p, e, q⟩
  · rintro ⟨p, e, q⟩; exact ⟨trivial, _, ix_lstI.mpr ⟨p, e, rfl⟩, q⟩
theorem w_ixBL : sIx (.bor a i π (.lst b xs)) (.dat (.int u)) ds Q ↔ SeeOk ds (.bor a i π (.lst b xs)) ∧ ∃ p, atI xs u = some p ∧ Q (.dat p) ds := by
  rw [w_ix]
  constructor
  · rintro ⟨h0, d, h, q⟩; obtain ⟨p, e, rfl⟩ := ix_lstI.mp h; exact ⟨h0, p, e, q⟩
  · rintro ⟨h0, p, e, q⟩; exact ⟨h0, _, ix_lstI.mpr ⟨p, e, rfl⟩, q⟩
theorem w_ixO {xs : List D} : sIx (.bor a i π (.lsD b xs)) (.dat (.int u)) ds Q ↔ SeeOk ds (.bor a i π (.lsD b xs)) ∧ ∃ m, ixN xs.length u = some m ∧ ∃ d', xs[m]? = some d' ∧ ∃ d, ldAt i (π ++ [.it m]) d' = some d ∧ Q d ds := by
  rw [w_ix]
  constructor
  · rintro ⟨h0, d, h, q⟩; obtain ⟨m, d', e1, e2, e3⟩ := ix_ownI.mp h; exact ⟨h0, m, e1, d', e2, d, e3, q⟩
  · rintro ⟨h0, m, e1, d', e2, d, e3, q⟩; exact ⟨h0, _, ix_ownI.mpr ⟨m, d', e1, e2, e3⟩, q⟩
theorem w_ixK {kvs : List (Key × PyData)} : sIx (.bor a i π (.dk b kvs)) (.dat (.int u)) ds Q ↔ SeeOk ds (.bor a i π (.dk b kvs)) ∧ ∃ q, look kvs (.inl u) = some q ∧ Q (.dat q) ds := by
  rw [w_ix]
  constructor
  · rintro ⟨h0, d, h, q⟩; obtain ⟨p, e, rfl⟩ := ix_keyI.mp h; exact ⟨h0, p, e, q⟩
  · rintro ⟨h0, p, e, q⟩; exact ⟨h0, _, ix_keyI.mpr ⟨p, e, rfl⟩, q⟩
theorem w_ixN : sIx (.dat (tupN L)) (.dat (.int (m : Nat))) ds Q ↔ ∃ y : Nat, L[m]? = some y ∧ Q (.dat (.int y)) ds := by
  unfold tupN
  rw [w_ixT]
  constructor
  · rintro ⟨p, e, q⟩; obtain ⟨y, e2, rfl⟩ := atI_ints.mp e; exact ⟨y, e2, q⟩
  · rintro ⟨y, e, q⟩; exact ⟨_, atI_ints.mpr ⟨y, e, rfl⟩, q⟩
theorem w_eqNN : sEq (.dat (tupN L)) (.dat (tupN M)) ds Q ↔ Q (.dat (.bool (decide (L = M)))) ds := by
  rw [w_eq, eqv_tupN]; simp [shaped_tupN]
theorem w_neNN : sNe (.dat (tupN L)) (.dat (tupN M)) ds Q ↔ Q (.dat (.bool (!decide (L = M)))) ds := by
  rw [w_ne, eqv_tupN]; simp [shaped_tupN]
theorem w_eqTT {A B : List (List Nat)} : sEq (.dat (tupT A)) (.dat (tupT B)) ds Q ↔ Q (.dat (.bool (decide (A = B)))) ds := by
  rw [w_eq, eqv_tupT]; simp [shaped_tupT]
theorem w_neTT {A B : List (List Nat)} : sNe (.dat (tupT A)) (.dat (tupT B)) ds Q ↔ Q (.dat (.bool (!decide (A = B)))) ds := by
  rw [w_ne, eqv_tupT]; simp [shaped_tupT]
theorem w_eqII : sEq (.dat (.int u)) (.dat (.int v)) ds Q ↔ Q (.dat (.bool (decide (u = v)))) ds := by
  rw [w_eq, eqv_int]; simp [shaped_int]
theorem w_neII : sNe (.dat (.int u)) (.dat (.int v)) ds Q ↔ Q (.dat (.bool (!decide (u = v)))) ds := by
  rw [w_ne, eqv_int]; simp [shaped_int]
theorem isi_of {T S : String} {p : PyData} {r : Bool} (ht : ∀ S', TyT (.dat p) S' ↔ S' = S) (hk : kitB S T = some (isB S T)) (hr : isB S T = r) : sIsi [.dat p, .raw (.ty T)] ds Q ↔ Q (.dat (.bool r)) ds := by
  subst hr
  constructor
  · rintro ⟨x, T', t, S', e, s, h, k, q⟩
    cases e
    obtain rfl : t = .dat p := s
    obtain rfl := (ht S').mp h
    exact q
  · intro q
    exact ⟨_, _, _, S, rfl, rfl, (ht S).mpr rfl, hk, q⟩
theorem w_isiI : sIsi [.dat (.int u), .raw (.ty "int")] ds Q ↔ Q (.dat (.bool true)) ds := isi_of (S := "int") (fun _ => Iff.rfl) (by decide +kernel) (by decide +kernel)
theorem w_isiB : sIsi [.dat (.int u), .raw (.ty "bool")] ds Q ↔ Q (.dat (.bool false)) ds := isi_of (S := "int") (fun _ => Iff.rfl) (by decide +kernel) (by decide +kernel)
theorem w_isiT : sIsi [.dat (.tuple xs), .raw (.ty "tuple")] ds Q ↔ Q (.dat (.bool true)) ds := isi_of (S := "tuple") (fun _ => Iff.rfl) (by decide +kernel) (by decide +kernel)
theorem w_isiTN : sIsi [.dat (tupN L), .raw (.ty "tuple")] ds Q ↔ Q (.dat (.bool true)) ds := w_isiT
theorem w_sum : sSum (.lst a xs) ds Q ↔ ∃ ns : List Int, xs = ns.map .int ∧ Q (.dat (.int ns.sum)) ds :=
  ⟨fun ⟨t, ns, e, i, q⟩ => by obtain rfl : t = .lst a xs := e; exact ⟨ns, (show ns.map .int = xs from i).symm, q⟩, fun ⟨ns, e, q⟩ => ⟨_, ns, rfl, e.symm, q⟩⟩
theorem intsL_inj {L : List Nat} {ns : List Int} (h : ns.map PyData.int = intsL L) : ns = L.map fun n : Nat => (n : Int) := by
  have e : intsL L = (L.map fun n : Nat => (n : Int)).map PyData.int := by unfold intsL; rw [List.map_map]; rfl
  rw [e] at h
  exact (List.map_inj_right (fun x y h => by cases h; rfl)).mp h
theorem intsL_eq (L : List Nat) : (L.map fun n : Nat => (n : Int)).map PyData.int = intsL L := by unfold intsL; rw [List.map_map]; rfl
theorem sum_cast (L : List Nat) : (L.map fun n : Nat => (n : Int)).sum = ((L.sum : Nat) : Int) := by
  induction L with
  | nil => rfl
  | cons n L ih => rw [List.map_cons, List.sum_cons, ih, List.sum_cons]; omega
theorem w_sumTN : sSum (.dat (tupN L)) ds Q ↔ Q (.dat (.int (L.sum : Nat))) ds :=
  ⟨fun ⟨t, ns, e, i, q⟩ => by
    obtain rfl : t = .dat (tupN L) := e
    have := intsL_inj (show ns.map PyData.int = intsL L from i)
    subst this
    rw [sum_cast] at q; exact q, fun q => ⟨_, L.map fun n : Nat => (n : Int), rfl, (show _ = intsL L from intsL_eq L), by rw [sum_cast]; exact q⟩⟩
theorem w_all : sAll (.lst a xs) ds Q ↔ ∃ bs : List Bool, xs = bs.map .bool ∧ Q (.dat (.bool (bs.all id))) ds :=
  ⟨fun ⟨b, ns, e, q⟩ => by cases (show D.lst b (ns.map .bool) = .lst a xs from e); exact ⟨ns, rfl, q⟩, fun ⟨ns, e, q⟩ => by subst e; exact ⟨a, ns, rfl, q⟩⟩
theorem w_any : sAny (.lst a xs) ds Q ↔ ∃ bs : List Bool, xs = bs.map .bool ∧ Q (.dat (.bool (bs.any id))) ds :=
  ⟨fun ⟨b, ns, e, q⟩ => by cases (show D.lst b (ns.map .bool) = .lst a xs from e); exact ⟨ns, rfl, q⟩, fun ⟨ns, e, q⟩ => by subst e; exact ⟨a, ns, rfl, q⟩⟩
def srtN (l : List Nat) : List Nat := l.mergeSort fun a b => decide (a ≤ b)
theorem srtN_perm (l : List Nat) : (srtN l).Perm l := List.mergeSort_perm _ _
theorem srtN_sorted (l : List Nat) : (srtN l).Pairwise (· ≤ ·) := by
  have := List.pairwise_mergeSort (le := fun a b : Nat => decide (a ≤ b)) (fun a b c => by simp; omega) (fun a b => by simp; omega) l
  exact this.imp fun h => by simpa using h
theorem srtN_uniq {l m : List Nat} (h1 : m.Perm l) (h2 : m.Pairwise (· ≤ ·)) : m = srtN l :=
  List.Perm.eq_of_pairwise (fun a b _ _ h1 h2 => Nat.le_antisymm h1 h2) h2 (srtN_sorted l) (h1.trans (srtN_perm l).symm)
theorem sort_ints {L : List Nat} {ms : List Int} (h1 : ms.Perm (L.map fun n : Nat => (n : Int))) (h2 : ms.Pairwise (· ≤ ·)) : ms.map PyData.int = intsL (srtN L) := by
  have e : ms = (srtN L).map fun n : Nat => (n : Int) :=
    List.Perm.eq_of_pairwise (fun a b _ _ h1 h2 => Int.le_antisymm h1 h2) h2 (List.pairwise_map.mpr ((srtN_sorted L).imp fun h => by omega)) (h1.trans ((srtN_perm L).map _).symm)
  rw [e]
  unfold intsL
  rw [List.map_map]; rfl
theorem w_sortI : sSortI (.lst a (intsL L)) ds Q ↔ ∀ b, Q (.lst b (intsL (srtN L))) ds := by
  have e : intsL L = (L.map fun n : Nat => (n : Int)).map PyData.int := by unfold intsL; rw [List.map_map]; rfl
  constructor
  · rintro ⟨c, ns, e2, q⟩ b
    have e3 : D.lst c (ns.map .int) = .lst a (intsL L) := e2
    simp only [D.lst.injEq] at e3
    have e4 : ns = L.map fun n : Nat => (n : Int) := by
      have := e3.2
      rw [e] at this
      exact (List.map_inj_right (fun x y h => by cases h; rfl)).mp this
    subst e4
    have := q b ((srtN L).map fun n : Nat => (n : Int)) ((srtN_perm L).map _) (List.pairwise_map.mpr ((srtN_sorted L).imp fun h => by omega))
    rw [sort_ints ((srtN_perm L).map _) (List.pairwise_map.mpr ((srtN_sorted L).imp fun h => by omega))] at this
    exact this
  · intro q
    refine ⟨a, L.map fun n : Nat => (n : Int), by rw [← e]; rfl, fun b ms h1 h2 => ?_⟩
    rw [sort_ints h1 h2]
    exact q b
theorem upto_nat (n : Nat) : (upto 0 ((n : Int).toNat)).map PyData.int = intsL (List.range n) := by
  unfold upto intsL
  rw [List.map_map, Int.toNat_natCast]
  exact List.map_congr_left fun i _ => by show PyData.int (0 + (i : Nat)) = _; rw [Int.zero_add]
theorem upto_natD (n : Nat) : (upto 0 ((n : Int).toNat)).map (fun j => D.dat (.int j)) = (List.range n).map fun i : Nat => D.dat (.int i) := by
  unfold upto
  rw [List.map_map, Int.toNat_natCast]
  exact List.map_congr_left fun i _ => by show D.dat (PyData.int (0 + (i : Nat))) = _; rw [Int.zero_add]
theorem enum_ints (p : List Nat) : enumD 0 (intsL p) = (List.range p.length).map fun i : Nat => D.pr (.int i) (.int (PM.ap p i : Nat)) := by
  refine List.ext_getElem? fun i => ?_
  rw [enumD_get, List.getElem?_map]
  unfold intsL
  rw [List.getElem?_map]
  by_cases h : i < p.length
  · rw [List.getElem?_range h, PM.ap_get h]; simp
  · rw [List.getElem?_eq_none (by omega), List.getElem?_eq_none (by simpa using h)]; rfl
theorem intsL_set (M : List Nat) (j x : Nat) : (intsL M).set j (.int (x : Nat)) = intsL (M.set j x) := by unfold intsL; rw [List.map_set]
theorem repl_ints (n : Nat) : (List.replicate ((n : Int).toNat) [PyData.int 0]).flatten = intsL (List.replicate n 0) := by
  rw [Int.toNat_natCast]
  induction n with
  | zero => rfl
  | succ n ih => rw [List.replicate_succ, List.flatten_cons, ih, List.replicate_succ]; rfl
theorem minB {L : List Nat} (ok : SeeOk ds (.bor a i π (.lst b (intsL L)))) (hne : L ≠ []) (q : ∀ m : Nat, m ∈ L → (∀ y ∈ L, m ≤ y) → Q (.dat (.int m)) ds) : sMin (.bor a i π (.lst b (intsL L))) ds Q := by
  refine ⟨b, L.map fun n : Nat => (n : Int), by rw [intsL_eq]; exact see_iff.mpr ⟨rfl, ok⟩, by rw [List.length_map]; exact List.length_pos_iff.mpr hne, fun m hm hle => ?_⟩
  obtain ⟨k, hk, rfl⟩ := List.mem_map.mp hm
  exact q k hk fun y hy => by have := hle (y : Nat) (List.mem_map.mpr ⟨y, hy, rfl⟩); omega
theorem flat_ints (L : List Nat) : (intsL L).all flatP = true := by
  rw [List.all_eq_true]
  intro p hp
  obtain ⟨n, _, rfl⟩ := List.mem_map.mp hp
  rfl
theorem idx_ints {L : List Nat} {m : Nat} (h : m ∈ L) : (intsL L)[L.idxOf m]? = some (.int (m : Nat)) ∧ ∀ k z, k < L.idxOf m → (intsL L)[k]? = some z → PyData.eqv z (.int (m : Nat)) = false := by
  have hi : L.idxOf m < L.length := List.idxOf_lt_length_iff.mpr h
  refine ⟨?_, fun k z hk hz => ?_⟩
  · unfold intsL
    rw [List.getElem?_map, List.getElem?_eq_getElem hi, List.getElem_idxOf]; rfl
  · unfold intsL at hz
    rw [List.getElem?_map] at hz
    have hk2 : k < L.length := by omega
    rw [List.getElem?_eq_getElem hk2] at hz
    cases hz
    rw [eqv_int]
    refine decide_eq_false fun e => ?_
    have e2 : L[k] = m := by omega
    have := List.not_of_lt_findIdx (p := (· == m)) (xs := L) (by simpa [List.idxOf] using hk)
    simp [e2] at this
theorem indexB {L : List Nat} {m : Nat} (ok : SeeOk ds (.bor a i π (.lst b (intsL L)))) (hm : m ∈ L) (q : Q (.dat (.int (L.idxOf m : Nat))) ds) : sIndex (.bor a i π (.lst b (intsL L))) [.dat (.int (m : Nat))] ds Q := by
  obtain ⟨h1, h2⟩ := idx_ints hm
  exact ⟨b, intsL L, .int (m : Nat), _, _, rfl, see_iff.mpr ⟨rfl, ok⟩, rfl, flat_ints L, h1, by rw [eqv_int]; exact decide_eq_true rfl, fun k z hk hz => h2 k z hk hz, q⟩
theorem cut_from {L : List Nat} {k : Nat} : cutP (intsL L) (some (k : Int)) none = intsL (L.drop k) := by
  unfold cutP
  rw [HT.sIx_nat, HT.sIx_none, intsL_len]
  have e : ∀ m : Nat, (intsL L).drop m = intsL (L.drop m) := fun m => by unfold intsL; rw [List.map_drop]
  rw [e, List.take_of_length_le (by rw [intsL_len, List.length_drop]; omega)]
  congr 1
  by_cases h : k ≤ L.length
  · rw [Nat.min_eq_left h]
  · rw [Nat.min_eq_right (by omega), List.drop_eq_nil_of_le (by omega), List.drop_eq_nil_of_le (by omega)]
theorem cut_upto {L : List Nat} {k : Nat} : cutP (intsL L) none (some (k : Int)) = intsL (L.take k) := by
  unfold cutP
  rw [HT.sIx_nat, HT.sIx_none, intsL_len, List.drop_zero, Nat.sub_zero]
  have e : ∀ m : Nat, (intsL L).take m = intsL (L.take m) := fun m => by unfold intsL; rw [List.map_take]
  rw [e]
  congr 1
  by_cases h : k ≤ L.length
  · rw [Nat.min_eq_left h]
  · rw [Nat.min_eq_right (by omega), List.take_of_length_le (by omega), List.take_of_length_le (by omega)]
theorem w_slTN {lo hi : Option Int} : SlW (.dat (tupN L)) ds lo hi Q ↔ Q (.dat (.tuple (cutP (intsL L) lo hi))) ds := w_slT
theorem w_seqTT {R : List D → (PSt → Prop) → PSt → Prop} {A : List (List Nat)} : SeqW (.dat (tupT A)) ds R ↔ R (A.map fun l => .dat (tupN l)) (fun _ => True) ds := by
  unfold tupT
  rw [w_seqT]
  have : (tupsL A).map D.dat = A.map fun l => D.dat (tupN l) := by unfold tupsL; rw [List.map_map]; rfl
  rw [this]
theorem sortIB {L : List Nat} (ok : SeeOk ds (.bor a i π (.lst b (intsL L)))) (q : ∀ c, Q (.lst c (intsL (srtN L))) ds) : sSortI (.bor a i π (.lst b (intsL L))) ds Q :=
  ⟨b, L.map fun n : Nat => (n : Int), by rw [intsL_eq]; exact see_iff.mpr ⟨rfl, ok⟩, fun c ms h1 h2 => by rw [sort_ints h1 h2]; exact q c⟩
theorem lexI_total : ∀ x y : List Int, PDS.lexI y x = false → PDS.lexI x y = false → x = y
  | [], [], _, _ => rfl
  | [], _ :: _, _, h => by cases h
  | _ :: _, [], h, _ => by cases h
  | x :: xs, y :: ys, h1, h2 => by
    unfold PDS.lexI at h1 h2
    by_cases e : x = y
    · subst e
      rw [if_pos rfl] at h1 h2
      rw [lexI_total xs ys h1 h2]
    · rw [if_neg (Ne.symm e), decide_eq_false_iff_not] at h1
      rw [if_neg e, decide_eq_false_iff_not] at h2
      omega
theorem tupI_cast (l : List Nat) : tupI (l.map fun n : Nat => (n : Int)) = tupN l := by unfold tupI tupN; rw [intsL_eq]
/-- sorted of tuples none of which is empty: the one order in which their first numbers rise -/
theorem sortTB {Ls R : List (List Nat)} (ok : SeeOk ds (.bor a i π (.lst b (tupsL Ls)))) (hp : R.Perm Ls) (hne : ∀ l ∈ R, l ≠ []) (hs : R.Pairwise fun x y => x.headD 0 < y.headD 0) (q : ∀ c, Q (.lst c (tupsL R)) ds) :
    sSortT (.bor a i π (.lst b (tupsL Ls))) ds Q := by
  have e : ∀ A : List (List Nat), (A.map fun l => l.map fun n : Nat => (n : Int)).map tupI = tupsL A := fun A => by
    unfold tupsL
    rw [List.map_map]
    exact List.map_congr_left fun l _ => tupI_cast l
  refine ⟨b, Ls.map fun l => l.map fun n : Nat => (n : Int), by rw [e]; exact see_iff.mpr ⟨rfl, ok⟩, fun t ht => ?_, fun c ms h1 h2 => ?_⟩
  · obtain ⟨l, hl, rfl⟩ := List.mem_map.mp ht
    intro z
    exact hne l (hp.mem_iff.mpr hl) (List.map_eq_nil_iff.mp z)
  · have er : ms = R.map fun l => l.map fun n : Nat => (n : Int) := by
      refine List.Perm.eq_of_pairwise (le := fun x y => PDS.lexI y x = false) (fun x y _ _ h1 h2 => lexI_total x y h1 h2) h2 ?_ (h1.trans (hp.map _).symm)
      refine List.pairwise_map.mpr (hs.imp_of_mem fun {x y} hx hy h => ?_)
      obtain ⟨x0, xs, rfl⟩ := List.exists_cons_of_ne_nil (hne x hx)
      obtain ⟨y0, ys, rfl⟩ := List.exists_cons_of_ne_nil (hne y hy)
      have h : x0 < y0 := h
      show (if (y0 : Int) = (x0 : Int) then _ else decide ((y0 : Int) < (x0 : Int))) = false
      rw [if_neg (by omega)]
      exact decide_eq_false (by omega)
    rw [er, e]
    exact q c
theorem ix4_0 : ixN 4 0 = some 0 := rfl
theorem ix4_1 : ixN 4 1 = some 1 := rfl
theorem ix4_2 : ixN 4 2 = some 2 := rfl
theorem ix4_3 : ixN 4 3 = some 3 := rfl
theorem getP_it1 {xs : List D} {j : Nat} : getP (.lsD a xs) [.it j] = xs[j]? := by
  simp only [getP]
  cases xs[j]? with
  | none => rfl
  | some d => exact getP_nil
theorem w_mkLbox {p1 p2 p3 : PyData} : mkL [.dat p1, .dat p2, .dat p3, .lst b xs] Q ds ↔ ∀ a, Q (.lsD a [.dat p1, .dat p2, .dat p3, .lst b xs]) ds := Iff.rfl
theorem w_tupWN {R : List PyData → Prop} : TupW (.dat (tupN L)) R ↔ R (intsL L) := w_tupW
theorem w_truTN {R : Bool → Prop} : TruW (.dat (tupN L)) ds R ↔ R (!L.isEmpty) := by
  have : (intsL L).isEmpty = L.isEmpty := by unfold intsL; cases L <;> rfl
  unfold tupN; rw [w_truT, this]
theorem w_enWN {R : List PyData → Prop} : EnW [.dat (tupN L)] R ↔ R (intsL L) := w_enW
end
end PD
set_option Elab.async false
set_option linter.all false
set_option maxRecDepth 100000
set_option maxHeartbeats 2000000
namespace PD
open PySem L2
open PM
/-! promises -/
section
variable {Q : D → List D → Prop} {p q r : PyData} {d o o1 o2 o3 : D} {s : PSt} {a : Addr} {xs xs' : List D}
theorem rt1 {o : Option D} (h : Q d [.dat p]) : (fnEnds [.dat p] Q).rt d (o :: s) := ⟨_, ArgBack.same (fun x hx => by simp at hx; subst hx; exact fun _ => rfl) (by simp), h⟩
theorem rt2 {o o' : Option D} (h : Q d [.dat p, .dat q]) : (fnEnds [.dat p, .dat q] Q).rt d (o :: o' :: s) := ⟨_, ArgBack.same (fun x hx => by simp at hx; rcases hx with rfl | rfl <;> exact fun _ => rfl) (by simp), h⟩
theorem rt3 {o o' o2 : Option D} (h : Q d [.dat p, .dat q, .dat r]) : (fnEnds [.dat p, .dat q, .dat r] Q).rt d (o :: o' :: o2 :: s) := ⟨_, ArgBack.same (fun x hx => by simp at hx; rcases hx with rfl | rfl | rfl <;> exact fun _ => rfl) (by simp), h⟩
theorem nx1 {o : Option D} (h : Q (.dat .none) [.dat p]) : (fnEnds [.dat p] Q).nx (o :: s) := ⟨_, ArgBack.same (fun x hx => by simp at hx; subst hx; exact fun _ => rfl) (by simp), h⟩
theorem rtO {o : Option D} (h : Q d [.lsD a xs', .dat q]) : (fnEnds [.lsD a xs, .dat q] Q).rt d (some (.lsD a xs') :: o :: s) :=
  ⟨[.lsD a xs', .dat q], ⟨_, [.dat q], rfl, .inr ⟨rfl, a, rfl, rfl⟩, _, [], rfl, .inl ⟨fun _ => rfl, rfl⟩, rfl⟩, h⟩
theorem rtL {ys : List PyData} (h : Q d [.lst a ys]) : (fnEnds [.lst a ys] Q).rt d (some (.lst a ys) :: s) :=
  ⟨[.lst a ys], ⟨_, [], rfl, .inr ⟨rfl, a, rfl, rfl⟩, rfl⟩, h⟩
end
def sp_is_number : SpD := fun as Q => ∃ u : Int, as = [.dat (.int u)] ∧ Q (.dat (.bool true)) as
def sp_is_turning : SpD := fun as Q => ∃ p : List Nat, as = [.dat (.int (p.length : Nat)), .dat (tupN p)] ∧ IsP p ∧ p.length ≤ 24 ∧ Q (.dat (.bool true)) as
def sp_check_some : SpD := fun as Q => ∃ p : List Nat, as = [.dat (tupN p)] ∧ IsP p ∧ p.length ≤ 24 ∧ Q (.dat .none) as
def sp_stay : SpD := fun as Q => ∃ n : Nat, as = [.dat (.int (n : Nat))] ∧ n ≤ 1000000 ∧ Q (.dat (tupN (List.range n))) as
def sp_put : SpD := fun as Q => ∃ p q : List Nat, as = [.dat (tupN p), .dat (tupN q)] ∧ (∀ x ∈ p, x < q.length) ∧ p.length ≤ 1000000 ∧ Q (.dat (tupN (put p q))) as
def sp_turned_back : SpD := fun as Q => ∃ p : List Nat, as = [.dat (tupN p)] ∧ IsP p ∧ p.length ≤ 1000000 ∧ Q (.dat (tupN (bk p))) as
def sp_then : SpD := fun as Q => ∃ p q : List Nat, as = [.dat (tupN p), .dat (tupN q)] ∧ IsP p ∧ IsP q ∧ p.length = q.length ∧ p.length ≤ 24 ∧ Q (.dat (tupN (put p q))) as
def sp_back : SpD := fun as Q => ∃ p : List Nat, as = [.dat (tupN p)] ∧ IsP p ∧ p.length ≤ 24 ∧ Q (.dat (tupN (bk p))) as
def sp_power : SpD := fun as Q => ∃ (p : List Nat) (k : Int), as = [.dat (tupN p), .dat (.int k)] ∧ IsP p ∧ p.length ≤ 24 ∧ Q (.dat (tupN (pw p k))) as
def lotsP (p : List Nat) : List (List Nat) := lots p.length (ap p)
def lensP (p : List Nat) : List Nat := lens p.length (ap p)
def rndsP (p : List Nat) : List (List Nat) := rnds p.length (ap p)
def ordP (p : List Nat) : Nat := ord p.length (ap p)
def sortP (p : List Nat) : List Nat := srtN (lensP p)
def signP (p : List Nat) : Int := if ((lensP p).map fun l => l - 1).sum % 2 = 0 then 1 else -1
def sp_lots : SpD := fun as Q => ∃ p : List Nat, as = [.dat (tupN p)] ∧ IsP p ∧ p.length ≤ 24 ∧ ∀ a, Q (.lst a (tupsL (lotsP p))) as
def sp_rounds : SpD := fun as Q => ∃ p : List Nat, as = [.dat (tupN p)] ∧ IsP p ∧ p.length ≤ 24 ∧ Q (.dat (tupT (rndsP p))) as
def sp_common : SpD := fun as Q => ∃ a b : Nat, as = [.dat (.int a), .dat (.int b)] ∧ Q (.dat (.int (Nat.gcd a b : Nat))) as
def sp_order : SpD := fun as Q => ∃ p : List Nat, as = [.dat (tupN p)] ∧ IsP p ∧ p.length ≤ 24 ∧ Q (.dat (.int (ordP p : Nat))) as
def sp_sort : SpD := fun as Q => ∃ p : List Nat, as = [.dat (tupN p)] ∧ IsP p ∧ p.length ≤ 24 ∧ Q (.dat (tupN (sortP p))) as
def sp_sign : SpD := fun as Q => ∃ p : List Nat, as = [.dat (tupN p)] ∧ IsP p ∧ p.length ≤ 24 ∧ Q (.dat (.int (signP p))) as
/-- the box of the law's draws -/
def BoxOk (xs : List D) : Prop := ∃ (x y z : Int) (b : Addr) (cs : List Int), xs = [.dat (.int x), .dat (.int y), .dat (.int z), .lst b (cs.map .int)] ∧ 0 ≤ z
def sp__law_box : SpD := fun as Q => ∃ (d : D) (ns : List Int), as = [d] ∧ (d = .dat (.list (ns.map .int)) ∨ ∃ a, d = .lst a (ns.map .int)) ∧ ns.length ≤ 63 ∧ ∀ a xs, BoxOk xs → Q (.lsD a xs) as
def sp__law_take : SpD := fun as Q => ∃ (a : Addr) (xs : List D) (m : Int), as = [.lsD a xs, .dat (.int m)] ∧ BoxOk xs ∧ 0 < m ∧ m < 1073741824 ∧ ∀ xs' v, BoxOk xs' → 0 ≤ v → v < m → Q (.dat (.int v)) [.lsD a xs', .dat (.int m)]
def sp__law_turning : SpD := fun as Q => ∃ (a : Addr) (xs : List D) (n : Nat), as = [.lsD a xs, .dat (.int n)] ∧ BoxOk xs ∧ n ≤ 1000000 ∧ ∀ xs' p, BoxOk xs' → IsP p → p.length = n → Q (.dat (tupN p)) [.lsD a xs', .dat (.int n)]

def t_is_number : TSP := (tRetD (eAnd (eCall sIsi (aCons (eVar 0) (aCons (eRaw (.ty "int")) aNil))) (eNot (eCall sIsi (aCons (eVar 0) (aCons (eRaw (.ty "bool")) aNil))))))
def t_is_turning_e1 : TEP := (eAnd (eOwn sp_is_number (aCons (eVar 2) aNil)) (eChainI (fun i j => decide (i ≤ j)) (fun i j => decide (i < j)) (eC (.int 0)) (eVar 2) (eVar 0)))
def t_is_turning_r2 : TSP := (tRetD (e2 sEq (eLenSet (eVar 1)) (eVar 0)))
def t_is_turning_r3 : TSP := (tSeqD (tIfD (dNot (tTru (eCall (s1 sAll) (aCons (tLcD (iSeq (eVar 1)) (gN 2) tYesD t_is_turning_e1 [2]) aNil)))) (tRetD (eC (.bool false))) tNextD) t_is_turning_r2)
def t_is_turning : TSP := (tSeqD (tIfD (dOr (dNot (tTru (eCall sIsi (aCons (eVar 1) (aCons (eRaw (.ty "tuple")) aNil))))) (dOr (tBl (e2 sNe (eCall (s1 sLen) (aCons (eVar 1) aNil)) (eVar 0))) (dNot (tBl (eChainI (fun i j => decide (i ≤ j)) (fun i j => decide (i ≤ j)) (eC (.int 0)) (eVar 0) (eC (.int 24))))))) (tRetD (eC (.bool false))) tNextD) t_is_turning_r3)
def t_check_some : TSP := (tIfD (dOr (dNot (tTru (eCall sIsi (aCons (eVar 0) (aCons (eRaw (.ty "tuple")) aNil))))) (dNot (tTru (eOwn sp_is_turning (aCons (eCall (s1 sLen) (aCons (eVar 0) aNil)) (aCons (eVar 0) aNil)))))) tNeverD tNextD)
def t_stay : TSP := (tRetD (eTupRg (eVar 0)))
def t_put : TSP := (tRetD (eCall (s1 sTupO) (aCons (tLcD (iSeq (eVar 0)) (gN 2) tYesD (e2 sIx (eVar 1) (eVar 2)) [2]) aNil)))
def t_turned_back_b1 : TSP := (tAsgD (eVar 2) (gSubD (eVar 1) (eVar 3)))
def t_turned_back_r2 : TSP := (tRetD (eCall (s1 sTupO) (aCons (eVar 1) aNil)))
def t_turned_back : TSP := (tSeqD (tAsgD (e2 sMul (eLst (aCons (eC (.int 0)) aNil)) (eCall (s1 sLen) (aCons (eVar 0) aNil))) (gN 1)) (tSeqD (tForD (iEnumD (aCons (eVar 0) aNil)) (gT 2 (gsCons (gN 2) (gsCons (gN 3) gsNil))) t_turned_back_b1) t_turned_back_r2))
def t_then_r1 : TSP := (tRetD (eOwn sp_put (aCons (eVar 0) (aCons (eVar 1) aNil))))
def t_then : TSP := (tSeqD (tDropD (eOwn sp_check_some (aCons (eVar 0) aNil))) (tSeqD (tDropD (eOwn sp_check_some (aCons (eVar 1) aNil))) (tSeqD (tIfD (tBl (e2 sNe (eCall (s1 sLen) (aCons (eVar 0) aNil)) (eCall (s1 sLen) (aCons (eVar 1) aNil)))) tNeverD tNextD) t_then_r1)))
def t_back : TSP := (tSeqD (tDropD (eOwn sp_check_some (aCons (eVar 0) aNil))) (tRetD (eOwn sp_turned_back (aCons (eVar 0) aNil))))
def t_power_r1 : TSP := (tSeqD (tAsgD (eOwn sp_put (aCons (eVar 2) (aCons (eVar 2) aNil))) (gN 2)) (tAsgD (e2 (sIc CDiv fun i j => .int (i / j)) (eVar 3) (eC (.int 2))) (gN 3)))
def t_power_b2 : TSP := (tSeqD (tIfD (tBl (e2 sEq (e2 (sIc (fun _ j => 0 < j) fun i j => .int (i % j)) (eVar 3) (eC (.int 2))) (eC (.int 1)))) (tAsgD (eOwn sp_put (aCons (eVar 4) (aCons (eVar 2) aNil))) (gN 4)) tNextD) t_power_r1)
def t_power : TSP := (tSeqD (tDropD (eOwn sp_check_some (aCons (eVar 0) aNil))) (tSeqD (tAsgD (eIf (tBl (e2 sGe (eVar 1) (eC (.int 0)))) (eTup (aCons (eVar 0) (aCons (eVar 1) aNil))) (eTup (aCons (eOwn sp_turned_back (aCons (eVar 0) aNil)) (aCons (eNeg (eVar 1)) aNil)))) (gT 2 (gsCons (gN 2) (gsCons (gN 3) gsNil)))) (tSeqD (tAsgD (eOwn sp_stay (aCons (eCall (s1 sLen) (aCons (eVar 0) aNil)) aNil)) (gN 4)) (tSeqD (tWhileD (tBl (e2 sGt (eVar 3) (eC (.int 0)))) t_power_b2) (tRetD (eOut 4))))))
def t_lots_b1 : TSP := (tSeqD (tAsgD (eC (.bool true)) (gSubD (eVar 1) (eVar 3))) (tSeqD (tDropD (eBM "list" sAppend (eVar 4) (aCons (eVar 3) aNil))) (tAsgD (e2 sIx (eVar 0) (eVar 3)) (gN 3))))
def t_lots_r2 : TSP := (tDropD (eBM "list" sAppend (eVar 2) (aCons (eCall (s1 sTupO) (aCons (eVar 4) aNil)) aNil)))
def t_lots_r3 : TSP := (tSeqD (tAsgD (eLst aNil) (gN 4)) (tSeqD (tWhileD (tBl (e2 (sInN true) (eVar 3) (eVar 1))) t_lots_b1) t_lots_r2))
def t_lots_b4 : TSP := (tSeqD (tIfD (tBl (e2 (sInN false) (eVar 3) (eVar 1))) tContD tNextD) t_lots_r3)
def t_lots : TSP := (tSeqD (tParD 1 2 (aCons eDict0 (aCons (eLst aNil) aNil))) (tSeqD (tForD (iRg1 (aCons (eCall (s1 sLen) (aCons (eVar 0) aNil)) aNil)) (gN 3) t_lots_b4) (tRetD (eOut 2))))
def t_rounds_c1 : TTP := (tBl (e2 sGt (eCall (s1 sLen) (aCons (eVar 1) aNil)) (eC (.int 1))))
def t_rounds : TSP := (tSeqD (tDropD (eOwn sp_check_some (aCons (eVar 0) aNil))) (tRetD (eCall (s1 sTupO) (aCons (tLcD (iSeq (eOwn sp_lots (aCons (eVar 0) aNil))) (gN 1) t_rounds_c1 (eVar 1) [1]) aNil))))
def t_common_b1 : TSP := (tParD 0 1 (aCons (eVar 1) (aCons (e2 (sIc (fun _ j => 0 < j) fun i j => .int (i % j)) (eVar 0) (eVar 1)) aNil)))
def t_common : TSP := (tSeqD (tWhileD (tBl (e2 sGt (eVar 1) (eC (.int 0)))) t_common_b1) (tRetD (eOut 0)))
def t_order_b1 : TSP := (tAsgD (e2 (sIc CDiv fun i j => .int (i / j)) (e2 sMul (eVar 1) (eCall (s1 sLen) (aCons (eVar 2) aNil))) (eOwn sp_common (aCons (eVar 1) (aCons (eCall (s1 sLen) (aCons (eVar 2) aNil)) aNil)))) (gN 1))
def t_order : TSP := (tSeqD (tDropD (eOwn sp_check_some (aCons (eVar 0) aNil))) (tSeqD (tAsgD (eC (.int 1)) (gN 1)) (tSeqD (tForD (iSeq (eOwn sp_lots (aCons (eVar 0) aNil))) (gN 2) t_order_b1) (tRetD (eOut 1)))))
def t_sort : TSP := (tSeqD (tDropD (eOwn sp_check_some (aCons (eVar 0) aNil))) (tRetD (eCall (s1 sTupO) (aCons (eCall (s1 sSortI) (aCons (tLcD (iSeq (eOwn sp_lots (aCons (eVar 0) aNil))) (gN 1) tYesD (eCall (s1 sLen) (aCons (eVar 1) aNil)) [1]) aNil)) aNil))))
def t_sign_e1 : TEP := (e2 (sI fun i j => .int (i - j)) (eCall (s1 sLen) (aCons (eVar 1) aNil)) (eC (.int 1)))
def t_sign : TSP := (tSeqD (tDropD (eOwn sp_check_some (aCons (eVar 0) aNil))) (tRetD (eIf (tBl (e2 sEq (e2 (sIc (fun _ j => 0 < j) fun i j => .int (i % j)) (eCall (s1 sSum) (aCons (tLcD (iSeq (eOwn sp_lots (aCons (eVar 0) aNil))) (gN 1) tYesD t_sign_e1 [1]) aNil)) (eC (.int 2))) (eC (.int 0)))) (eC (.int 1)) (eNeg (eC (.int 1))))))
def t__law_box_e1 : TEP := (eCall (s1 (sIntF fun i => if i < 0 then -i else i)) (aCons (eCall (s1 (sIntF fun i => i)) (aCons (eVar 1) aNil)) aNil))
def t__law_box : TSP := (tRetD (eLst (aCons (eC (.int 0)) (aCons (eC (.int 0)) (aCons (eC (.int 0)) (aCons (tLcD (iSeq (eVar 0)) (gN 1) tYesD t__law_box_e1 [1]) aNil))))))
def t__law_take_r1 : TSP := (tSeqD (tAsgD (e2 sAdd (eVar 2) (eC (.int 1))) (gSubD (eVar 0) (eC (.int 2)))) (tSeqD (tAsgD (eVar 3) (gSubD (eVar 0) (eC (.int 0)))) (tIfD (tBl (e2 sEq (e2 sIx (eVar 0) (eC (.int 1))) (eC (.int 0)))) (tRetD (eC (.int 0))) tNextD)))
def t__law_take_i2 : TSP := (tSeqD (tAsgD (e2 sIx (eVar 0) (eC (.int 2))) (gN 2)) (tSeqD (tAsgD (eC (.int 0)) (gN 3)) (tSeqD (tIfD (tBl (e2 sLt (eVar 2) (eCall (s1 sLen) (aCons (e2 sIx (eVar 0) (eC (.int 3))) aNil)))) (tSeqD (tAsgD (e2 sIx (e2 sIx (eVar 0) (eC (.int 3))) (eVar 2)) (gN 3)) (tAsgD (eIf (tBl (e2 sGe (eVar 3) (e2 (sIc CPow fun i j => .int (i ^ j.toNat)) (eC (.int 10)) (eC (.int 18))))) (eC (.int 60)) (eNeg (eC (.int 9)))) (gSubD (eVar 0) (eC (.int 1))))) tNextD) t__law_take_r1)))
def t__law_take_i3 : TSP := (tSeqD (tAsgD (e2 (sIc (fun _ j => 0 < j) fun i j => .int (i % j)) (eCall (s1 (sIntF fun i => i)) (aCons (e2 sIx (eVar 0) (eC (.int 0))) aNil)) (eVar 1)) (gN 4)) (tSeqD (tAsgD (e2 (sIc CDiv fun i j => .int (i / j)) (e2 sIx (eVar 0) (eC (.int 0))) (eVar 1)) (gSubD (eVar 0) (eC (.int 0)))) (tSeqD (tAsgD (eIf (tBl (e2 sGt (e2 sIx (eVar 0) (eC (.int 0))) (eC (.int 0)))) (e2 (sI fun i j => .int (i - j)) (e2 sIx (eVar 0) (eC (.int 1))) (eC (.int 1))) (eC (.int 0))) (gSubD (eVar 0) (eC (.int 1)))) (tRetD (eOut 4)))))
def t__law_take_r4 : TSP := (tSeqD (tAsgD (e2 sAdd (e2 sIx (eVar 0) (eC (.int 1))) (eC (.int 1))) (gSubD (eVar 0) (eC (.int 1)))) (tSeqD (tAsgD (e2 (sIc (fun _ j => 0 < j) fun i j => .int (i % j)) (eCall (s1 (sIntF fun i => i)) (aCons (e2 sAdd (e2 sMul (e2 sIx (eVar 0) (eC (.int 0))) (eC (.int 48271))) (e2 sMul (eC (.int 69621)) (e2 sAdd (e2 sIx (eVar 0) (eC (.int 1))) (eC (.int 20))))) aNil)) (eC (.int 2147483647))) (gSubD (eVar 0) (eC (.int 0)))) (tRetD (e2 (sIc (fun _ j => 0 < j) fun i j => .int (i % j)) (e2 (sIc (fun _ j => 0 < j) fun i j => .int (i % j)) (eCall (s1 (sIntF fun i => i)) (aCons (e2 sAdd (e2 (sIc CDiv fun i j => .int (i / j)) (e2 sIx (eVar 0) (eC (.int 0))) (eC (.int 7))) (e2 sIx (eVar 0) (eC (.int 0)))) aNil)) (eC (.int 1000003))) (eVar 1)))))
def t__law_take_r5 : TSP := (tSeqD (tIfD (tBl (e2 sGt (e2 sIx (eVar 0) (eC (.int 1))) (eC (.int 0)))) t__law_take_i3 tNextD) t__law_take_r4)
def t__law_take : TSP := (tSeqD (tIfD (tBl (e2 sEq (e2 sIx (eVar 0) (eC (.int 1))) (eC (.int 0)))) t__law_take_i2 tNextD) t__law_take_r5)
def t__law_turning_b1 : TSP := (tDropD (eBM "list" sInsert (eVar 2) (aCons (eOwn sp__law_take (aCons (eVar 0) (aCons (e2 sAdd (eVar 3) (eC (.int 1))) aNil))) (aCons (eVar 3) aNil))))
def t__law_turning_r2 : TSP := (tRetD (eCall (s1 sTupO) (aCons (eVar 2) aNil)))
def t__law_turning : TSP := (tSeqD (tAsgD (eLst aNil) (gN 2)) (tSeqD (tForD (iRg1 (aCons (eVar 1) aNil)) (gN 3) t__law_turning_b1) t__law_turning_r2))
end PD
set_option Elab.async false
set_option linter.all false
set_option maxRecDepth 100000
set_option maxHeartbeats 2000000
namespace PD
open PySem L2
local macro_rules | `(tactic| walk_at "pd") => `(tactic| simp only [w_var, w_c, w_raw, w_e2, w_sI, w_sIc, w_tBl, w_boolW, w_intW, w_tupW, w_eqL, w_neL, w_isN, w_isNotN, w_isBB, w_isNotBB, w_tupO, w_lstO, w_seq, w_seqT, w_seqN, w_seqLi, w_seqB, it_tup, it_list, it_lst, w_lenT, w_lenL, w_lenBL, w_lenBD, w_inDkB, w_inTup, w_tru, w_truB, w_truI, w_truT, w_truL, w_truN, w_and, w_or, w_not, w_eAnd, w_eOr, w_eNot, w_if, w_chain, w_aNil, w_aCons, w_tup, w_lst, w_mkT0, w_mkT1, w_mkT2, w_mkT3, w_mkL0, w_mkL1, w_mkL2, w_call, w_s1, w_intF, w_own, w_out, w_neg, w_addI, w_addT, w_addL, w_mulI, w_mulL, w_dict0, w_lend0, w_lendB, w_lendD, w_lendL, w_back0, w_backB, w_backD, w_backL, w_sl, w_slT, w_slL, w_oNone, w_oSome, w_tupRg, w_lstRg, w_lenSet, w_tix, w_bm, w_tyM, w_app, w_insert, w_extend, w_next, w_seqS, w_break, w_cont, w_drop, w_ret, w_ifS, w_never, w_asg, w_gN, w_gT, w_isT, w_isTD, w_isTP, w_gs0, w_gs1, w_par, w_par2, w_gSub', w_subL, w_subO, w_subK, w_for, w_while, w_lc, w_rg1, w_rg2, w_as1I, w_as2I, w_enum, w_enW, upS_nil, upS_it, seen_dat, seen_lst, seen_lsD, seen_dk, seen_bor, ok_dat, ok_lst, ok_lsD, ok_dk, ok_bor, root_lst, root_lsD, root_dk, root_ins, getP_nil, setP_nil, rdS, ld_dat, ld_lst, ld_lsD, ld_dk, ld_bor, ty_lst, ty_lsD, ty_dk, List.getElem?_cons_zero, List.getElem?_cons_succ, List.set_cons_zero, List.set_cons_succ, Option.some.injEq, exists_eq_left', exists_eq_left, true_and, and_true, List.length_cons, List.length_nil, Nat.ble_eq, Nat.zero_add, Nat.reduceAdd, Nat.reduceLeDiff, List.map_cons, List.map_nil, ite_true, ite_false, Bool.false_eq_true, if_false, if_true, Bool.not_true, Bool.not_false, exists_eq, wipeD, Bool.and_true, Bool.and_false, Bool.or_true, Bool.or_false, decide_eq_true_eq, decide_true, decide_false, w_lenN, w_seqTN, w_ixN, w_eqNN, w_neNN, w_eqTT, w_neTT, w_eqII, w_neII, w_isiI, w_isiB, w_isiT, w_isiTN, w_tupWN, w_truTN, w_enWN, w_ixBL, w_ixL, w_ixO, w_ixK, w_ixT, tupN_of, intsL_len, Bool.not_eq_true', decide_eq_false_iff_not, not_true, not_false_iff, and_self, eq_self, Bool.true_eq_false, w_sum, w_all, w_any, w_sortI])
open PM
theorem vc_is_number : ∀ ds Q, sp_is_number ds Q → t_is_number (fnEnds ds Q) (startD 1 ds) := by
  rintro ds Q ⟨u, rfl, h⟩
  change t_is_number _ [some (.dat (.int u))]
  unfold t_is_number
  walk_at "pd"
  exact rt1 h
theorem vc_stay : ∀ ds Q, sp_stay ds Q → t_stay (fnEnds ds Q) (startD 1 ds) := by
  rintro ds Q ⟨n, rfl, hn, h⟩
  change t_stay _ [some (.dat (.int n))]
  unfold t_stay
  walk_at "pd"
  refine ⟨⟨by omega, by omega⟩, ?_⟩
  rw [upto_nat]
  exact rt1 h
theorem vc_put : ∀ ds Q, sp_put ds Q → t_put (fnEnds ds Q) (startD 3 ds) := by
  rintro ds Q ⟨p, q, rfl, hx, hl, h⟩
  change t_put _ [some (.dat (tupN p)), some (.dat (tupN q)), none]
  unfold t_put
  walk_at "pd"
  refine lc_all p (fun n => .dat (.int (n : Nat))) (fun x => .int (ap q x : Nat)) rfl hl trivial (fun x hx' k1 hk => ?_) fun a => ?_
  · walk_at "pd"
    exact ⟨_, ap_get (hx x hx'), hk _ rfl⟩
  · walk_at "pd"
    have e : p.map (fun x => PyData.int (ap q x : Nat)) = intsL (put p q) := by unfold intsL put; rw [List.map_map]; rfl
    rw [e]
    exact rt2 h
theorem vc_is_turning : ∀ ds Q, sp_is_turning ds Q → t_is_turning (fnEnds ds Q) (startD 3 ds) := by
  rintro ds Q ⟨p, rfl, hp, hl, h⟩
  change t_is_turning _ [some (.dat (.int (p.length : Nat))), some (.dat (tupN p)), none]
  unfold t_is_turning
  walk_at "pd"
  rw [if_pos (by omega), if_neg (by omega)]
  unfold t_is_turning_r3
  walk_at "pd"
  refine lc_all p (fun n => .dat (.int (n : Nat))) (fun x => .bool true) rfl (by omega) trivial (fun x hx k1 hk => ?_) fun a => ?_
  · unfold t_is_turning_e1
    walk_at "pd"
    refine ⟨_, rfl, ?_⟩
    walk_at "pd"
    rw [if_pos (by omega), decide_eq_true (show (x : Int) < p.length from by have := hp.lt x hx; omega)]
    exact hk _ rfl
  · walk_at "pd"
    refine ⟨p.map fun _ => true, by rw [List.map_map]; rfl, ?_⟩
    have e : (p.map fun _ => true).all id = true := by simp
    rw [e]
    walk_at "pd"
    unfold t_is_turning_r2
    walk_at "pd"
    refine ⟨p.map fun n : Nat => (n : Int), by unfold tupN intsL; rw [List.map_map]; rfl, by rw [List.length_map]; omega, fun ks hk hm => ?_⟩
    have hpm : ks.Perm (p.map fun n : Nat => (n : Int)) := (List.perm_ext_iff_of_nodup hk (List.nodup_iff_pairwise_ne.mpr (List.pairwise_map.mpr ((List.nodup_iff_pairwise_ne.mp hp.nd).imp fun h e => h (by omega))))).mpr hm
    have e2 : ks.length = p.length := by rw [hpm.length_eq, List.length_map]
    rw [e2, decide_eq_true rfl]
    exact rt2 h
theorem vc_check_some : ∀ ds Q, sp_check_some ds Q → t_check_some (fnEnds ds Q) (startD 1 ds) := by
  rintro ds Q ⟨p, rfl, hp, hl, h⟩
  change t_check_some _ [some (.dat (tupN p))]
  unfold t_check_some
  walk_at "pd"
  refine ⟨p, rfl, hp, hl, ?_⟩
  walk_at "pd"
  exact nx1 h
theorem vc_turned_back : ∀ ds Q, sp_turned_back ds Q → t_turned_back (fnEnds ds Q) (startD 4 ds) := by
  rintro ds Q ⟨p, rfl, hp, hl, h⟩
  change t_turned_back _ [some (.dat (tupN p)), none, none, none]
  unfold t_turned_back
  walk_at "pd"
  refine fun _ => ⟨⟨by omega, by omega⟩, by rw [Int.toNat_natCast]; omega, fun c => ?_⟩
  rw [repl_ints]
  refine for_pre (List.range p.length) (fun i => .pr (.int (i : Nat)) (.int (ap p i : Nat))) (fun pre s => ∃ (M : List Nat) (o2 o3 : Option D), s = [some (.dat (tupN p)), some (.lst c (intsL M)), o2, o3] ∧ M.length = p.length ∧ ∀ j ∈ pre, M[ap p j]? = some j)
    (enum_ints p) ⟨_, none, none, rfl, List.length_replicate, fun j hj => by cases hj⟩ (fun _ _ _ => trivial) ?_ ?_
  · rintro pre x post s e ⟨M, o2, o3, rfl, hM, hI⟩
    have hx : x < p.length := List.mem_range.mp (by rw [e]; simp)
    have hnd : (pre ++ x :: post).Nodup := by rw [← e]; exact List.nodup_range
    unfold t_turned_back_b1
    walk_at "pd"
    refine ⟨_, ixN_nat (by rw [hM]; exact hp.ap_lt hx), _, _, _, by rw [intsL_set], by rw [List.length_set, hM], fun j hj => ?_⟩
    rcases List.mem_append.mp hj with hj | hj
    · have hjl : j < p.length := List.mem_range.mp (by rw [e]; simp [hj])
      have hne : ap p x ≠ ap p j := fun e2 => by
        have := hp.inj hx hjl e2
        subst this
        exact (List.nodup_append.mp hnd).2.2 x hj x List.mem_cons_self rfl
      rw [List.getElem?_set_ne hne]
      exact hI j hj
    · obtain rfl : j = x := by simpa using hj
      rw [List.getElem?_set_self (by rw [hM]; exact hp.ap_lt hx)]
  · rintro s ⟨M, o2, o3, rfl, hM, hI⟩
    have e : M = bk p := hp.bk_uniq hM fun x hx => by
      have h1 := hI x (List.mem_range.mpr hx)
      rw [ap_get (by rw [hM]; exact hp.ap_lt hx)] at h1
      exact Option.some.inj h1
    subst e
    unfold t_turned_back_r2
    walk_at "pd"
    exact rt1 h
theorem vc_then : ∀ ds Q, sp_then ds Q → t_then (fnEnds ds Q) (startD 2 ds) := by
  rintro ds Q ⟨p, q, rfl, hp, hq, hpq, hl, h⟩
  change t_then _ [some (.dat (tupN p)), some (.dat (tupN q))]
  unfold t_then
  walk_at "pd"
  refine ⟨p, rfl, hp, hl, ?_⟩
  walk_at "pd"
  refine ⟨q, rfl, hq, by omega, ?_⟩
  walk_at "pd"
  rw [if_neg (by omega)]
  unfold t_then_r1
  walk_at "pd"
  refine ⟨p, q, rfl, fun x hx => by rw [← hpq]; exact hp.lt x hx, by omega, ?_⟩
  walk_at "pd"
  exact rt2 h
theorem vc_back : ∀ ds Q, sp_back ds Q → t_back (fnEnds ds Q) (startD 1 ds) := by
  rintro ds Q ⟨p, rfl, hp, hl, h⟩
  change t_back _ [some (.dat (tupN p))]
  unfold t_back
  walk_at "pd"
  refine ⟨p, rfl, hp, hl, ?_⟩
  walk_at "pd"
  refine ⟨p, rfl, hp, by omega, ?_⟩
  walk_at "pd"
  exact rt1 h
theorem power_loop {E : PEnds} {x0 o1 : Option D} {b : List Nat} (hb : IsP b) (hl : b.length ≤ 24) (m : Nat) (h : ∀ o2 o3, E.nx [x0, o1, o2, o3, some (.dat (tupN (npow b m)))]) :
    WhileW (tBl (e2 sGt (eVar 3) (eC (.int 0)))) t_power_b2 E [x0, o1, some (.dat (tupN b)), some (.dat (.int (m : Nat))), some (.dat (tupN (List.range b.length)))] := by
  refine ⟨fun k s => ∃ b' o' : List Nat, s = [x0, o1, some (.dat (tupN b')), some (.dat (.int (k : Nat))), some (.dat (tupN o'))] ∧ IsP b' ∧ b'.length = b.length ∧ IsP o' ∧ o'.length = b.length ∧ put o' (npow b' k) = npow b m,
    ⟨m, b, _, rfl, hb, rfl, isP_range _, by simp, range_put (npow_len b m)⟩, ?_⟩
  rintro k s ⟨b', o', rfl, hb', hbl, ho', hol, e⟩
  walk_at "pd"
  by_cases hk : (0 : Int) < k
  · rw [if_pos hk]
    unfold t_power_b2
    walk_at "pd"
    have hlt : k / 2 < k := by omega
    have e2 : ((k : Int) / 2) = ((k / 2 : Nat) : Int) := by omega
    by_cases h1 : (k : Int) % 2 = 1
    · refine ⟨by decide, ?_⟩
      rw [if_pos h1]
      refine ⟨o', b', rfl, fun x hx => by rw [hbl, ← hol]; exact ho'.lt x hx, by omega, ?_⟩
      unfold t_power_r1
      walk_at "pd"
      refine ⟨b', b', rfl, hb'.lt, by omega, ?_⟩
      walk_at "pd"
      refine ⟨⟨by decide, by decide⟩, k / 2, hlt, put b' b', put o' b', by rw [e2], hb'.puts hb' rfl, by rw [put_len, hbl], ho'.puts hb' (by rw [hol, hbl]), by rw [put_len, hol], ?_⟩
      rw [← e, npow_even hb', put_assoc (fun x hx => by rw [hbl, ← hol]; exact ho'.lt x hx), ← npow_succ hb', show 2 * (k / 2) + 1 = k by omega]
    · refine ⟨by decide, ?_⟩
      rw [if_neg h1]
      unfold t_power_r1
      walk_at "pd"
      refine ⟨b', b', rfl, hb'.lt, by omega, ?_⟩
      walk_at "pd"
      refine ⟨⟨by decide, by decide⟩, k / 2, hlt, put b' b', o', by rw [e2], hb'.puts hb' rfl, by rw [put_len, hbl], ho', hol, ?_⟩
      rw [← e, npow_even hb', show 2 * (k / 2) = k by omega]
  · rw [if_neg hk]
    obtain rfl : k = 0 := by omega
    rw [npow_zero, put_range _ fun x hx => by rw [hbl, ← hol]; exact ho'.lt x hx] at e
    subst e
    exact h _ _
theorem vc_power : ∀ ds Q, sp_power ds Q → t_power (fnEnds ds Q) (startD 5 ds) := by
  rintro ds Q ⟨p, k, rfl, hp, hl, h⟩
  change t_power _ [some (.dat (tupN p)), some (.dat (.int k)), none, none, none]
  unfold t_power
  walk_at "pd"
  refine ⟨p, rfl, hp, hl, ?_⟩
  walk_at "pd"
  by_cases hk : 0 ≤ k
  · rw [if_pos hk]
    refine ⟨p.length, rfl, by omega, ?_⟩
    walk_at "pd"
    have e := power_loop (E := ⟨fun ds1 => tRetD (eOut 4) (fnEnds [.dat (tupN p), .dat (.int k)] Q) ds1, (fnEnds [.dat (tupN p), .dat (.int k)] Q).rt, (fnEnds [.dat (tupN p), .dat (.int k)] Q).bk, (fnEnds [.dat (tupN p), .dat (.int k)] Q).ct⟩) (x0 := some (.dat (tupN p))) (o1 := some (.dat (.int k))) hp hl k.toNat fun o2 o3 => by
      walk_at "pd"
      have e : npow p k.toNat = pw p k := by unfold pw; rw [if_pos hk]
      rw [e]
      exact rt2 h
    rw [Int.toNat_of_nonneg hk] at e
    exact e
  · rw [if_neg hk]
    refine ⟨p, rfl, hp, by omega, ?_⟩
    walk_at "pd"
    refine ⟨p.length, rfl, by omega, ?_⟩
    walk_at "pd"
    have e := power_loop (E := ⟨fun ds1 => tRetD (eOut 4) (fnEnds [.dat (tupN p), .dat (.int k)] Q) ds1, (fnEnds [.dat (tupN p), .dat (.int k)] Q).rt, (fnEnds [.dat (tupN p), .dat (.int k)] Q).bk, (fnEnds [.dat (tupN p), .dat (.int k)] Q).ct⟩) (x0 := some (.dat (tupN p))) (o1 := some (.dat (.int k))) hp.bks (by rw [bk_len]; exact hl) (-k).toNat fun o2 o3 => by
      walk_at "pd"
      have e : npow (bk p) (-k).toNat = pw p k := by unfold pw; rw [if_neg hk]
      rw [e]
      exact rt2 h
    rw [Int.toNat_of_nonneg (by omega), bk_len] at e
    exact e
end PD
set_option Elab.async false
set_option linter.all false
set_option maxRecDepth 100000
set_option maxHeartbeats 2000000
namespace PD
open PySem L2
local macro_rules | `(tactic| walk_at "pd") => `(tactic| simp only [w_var, w_c, w_raw, w_e2, w_sI, w_sIc, w_tBl, w_boolW, w_intW, w_tupW, w_eqL, w_neL, w_isN, w_isNotN, w_isBB, w_isNotBB, w_tupO, w_lstO, w_seq, w_seqT, w_seqN, w_seqLi, w_seqB, it_tup, it_list, it_lst, w_lenT, w_lenL, w_lenBL, w_lenBD, w_inDkB, w_inTup, w_tru, w_truB, w_truI, w_truT, w_truL, w_truN, w_and, w_or, w_not, w_eAnd, w_eOr, w_eNot, w_if, w_chain, w_aNil, w_aCons, w_tup, w_lst, w_mkT0, w_mkT1, w_mkT2, w_mkT3, w_mkL0, w_mkL1, w_mkL2, w_call, w_s1, w_intF, w_own, w_out, w_neg, w_addI, w_addT, w_addL, w_mulI, w_mulL, w_dict0, w_lend0, w_lendB, w_lendD, w_lendL, w_back0, w_backB, w_backD, w_backL, w_sl, w_slT, w_slL, w_oNone, w_oSome, w_tupRg, w_lstRg, w_lenSet, w_tix, w_bm, w_tyM, w_app, w_insert, w_extend, w_next, w_seqS, w_break, w_cont, w_drop, w_ret, w_ifS, w_never, w_asg, w_gN, w_gT, w_isT, w_isTD, w_isTP, w_gs0, w_gs1, w_par, w_par2, w_gSub', w_subL, w_subO, w_subK, w_for, w_while, w_lc, w_rg1, w_rg2, w_as1I, w_as2I, w_enum, w_enW, upS_nil, upS_it, seen_dat, seen_lst, seen_lsD, seen_dk, seen_bor, ok_dat, ok_lst, ok_lsD, ok_dk, ok_bor, root_lst, root_lsD, root_dk, root_ins, getP_nil, setP_nil, rdS, ld_dat, ld_lst, ld_lsD, ld_dk, ld_bor, ty_lst, ty_lsD, ty_dk, List.getElem?_cons_zero, List.getElem?_cons_succ, List.set_cons_zero, List.set_cons_succ, Option.some.injEq, exists_eq_left', exists_eq_left, true_and, and_true, List.length_cons, List.length_nil, Nat.ble_eq, Nat.zero_add, Nat.reduceAdd, Nat.reduceLeDiff, List.map_cons, List.map_nil, ite_true, ite_false, Bool.false_eq_true, if_false, if_true, Bool.not_true, Bool.not_false, exists_eq, wipeD, Bool.and_true, Bool.and_false, Bool.or_true, Bool.or_false, decide_eq_true_eq, decide_true, decide_false, w_lenN, w_seqTN, w_ixN, w_eqNN, w_neNN, w_eqTT, w_neTT, w_eqII, w_neII, w_isiI, w_isiB, w_isiT, w_isiTN, w_tupWN, w_truTN, w_enWN, w_ixBL, w_ixL, w_ixO, w_ixK, w_ixT, tupN_of, intsL_len, Bool.not_eq_true', decide_eq_false_iff_not, not_true, not_false_iff, and_self, eq_self, Bool.true_eq_false, w_sum, w_all, w_any, w_sortI])
open PM
def dkN (S : List Nat) : List (Key × PyData) := S.map fun y : Nat => (.inl (y : Int), .bool true)
theorem look_dkN (S : List Nat) (x : Nat) : (look (dkN S) (.inl (x : Int))).isSome = decide (x ∈ S) := by
  unfold look dkN
  rw [List.find?_map]
  cases e : S.find? ((fun p : Key × PyData => decide (p.1 = .inl (x : Int))) ∘ fun y : Nat => (.inl (y : Int), .bool true)) with
  | none =>
    have := List.find?_eq_none.mp e
    have h : x ∉ S := fun h => this x h (by simp)
    simp [h]
  | some y =>
    have h1 := List.find?_some e
    have h2 := List.mem_of_find?_eq_some e
    have : y = x := by
      have : (Sum.inl (y : Int) : Key) = .inl (x : Int) := by simpa using h1
      have := Sum.inl.inj this
      omega
    subst this
    simp [h2]
theorem store_dkN {S : List Nat} {x : Nat} (h : x ∉ S) : store (dkN S) (.inl (x : Int)) (.bool true) = dkN (S ++ [x]) := by
  have e : (dkN S).any (fun p => decide (p.1 = .inl (x : Int))) = false := by
    rw [List.any_eq_false]
    intro p hp
    obtain ⟨y, hy, rfl⟩ := List.mem_map.mp hp
    simp
    intro e
    exact h (by rw [show x = y by omega]; exact hy)
  unfold store
  rw [e]
  unfold dkN
  simp
theorem dkN_len (S : List Nat) : (dkN S).length = S.length := List.length_map ..
theorem tupsL_app (A B : List (List Nat)) : tupsL (A ++ B) = tupsL A ++ tupsL B := List.map_append ..
theorem tupsL_len (A : List (List Nat)) : (tupsL A).length = A.length := List.length_map ..
/-- what is behind the numbers below x -/
def lotsTo (n : Nat) (f : Nat → Nat) (pre : List Nat) : List (List Nat) := (pre.filter (least n f)).map (cyc n f)
theorem seen_iff {n : Nat} {f : Nat → Nat} (T : Trn n f) {pre : List Nat} (hp : ∀ y ∈ pre, y < n) {x : Nat} : x ∈ (lotsTo n f pre).flatten ↔ ∃ y ∈ pre, least n f y = true ∧ x ∈ cyc n f y := by
  unfold lotsTo
  rw [List.mem_flatten]
  constructor
  · rintro ⟨l, hl, hx⟩
    obtain ⟨y, hy, rfl⟩ := List.mem_map.mp hl
    obtain ⟨h1, h2⟩ := List.mem_filter.mp hy
    exact ⟨y, h1, h2, hx⟩
  · rintro ⟨y, h1, h2, h3⟩
    exact ⟨_, List.mem_map.mpr ⟨y, List.mem_filter.mpr ⟨h1, h2⟩, rfl⟩, h3⟩
def cycTo (f : Nat → Nat) (x m : Nat) : List Nat := (List.range m).map fun i => it f i x
theorem cycTo_succ (f : Nat → Nat) (x m : Nat) : cycTo f x (m + 1) = cycTo f x m ++ [it f m x] := by unfold cycTo; rw [List.range_succ, List.map_append]; rfl
theorem vc_lots : ∀ ds Q, sp_lots ds Q → t_lots (fnEnds ds Q) (startD 5 ds) := by
  rintro ds Q ⟨p, rfl, hp, hl, h⟩
  change t_lots _ [some (.dat (tupN p)), none, none, none, none]
  unfold t_lots
  walk_at "pd"
  intro b
  refine fun c => ⟨⟨by omega, by omega⟩, ?_⟩
  have T := hp.trn
  rw [upto_natD]
  refine for_pre (List.range p.length) (fun i => .dat (.int (i : Nat))) (fun pre s => ∃ (o3 o4 : Option D), s = [some (.dat (tupN p)), some (.dk b (dkN (lotsTo p.length (ap p) pre).flatten)), some (.lst c (tupsL (lotsTo p.length (ap p) pre))), o3, o4])
    rfl ⟨none, none, rfl⟩ (fun _ _ _ => trivial) ?_ ?_
  · rintro pre x post s e ⟨o3, o4, rfl⟩
    have hx : x < p.length := List.mem_range.mp (by rw [e]; simp)
    have hlt : ∀ y ∈ pre, y < p.length := fun y hy => List.mem_range.mp (by rw [e]; simp [hy])
    have hsort : (pre ++ x :: post).Pairwise (· < ·) := by rw [← e]; exact List.pairwise_lt_range
    have hpx : ∀ y ∈ pre, y < x := fun y hy => (List.pairwise_append.mp hsort).2.2 y hy x List.mem_cons_self
    have hpre : ∀ y, y < x → y ∈ pre := fun y hy => by
      have : y ∈ pre ++ x :: post := by rw [← e]; exact List.mem_range.mpr (by omega)
      rcases List.mem_append.mp this with h | h
      · exact h
      · rcases List.mem_cons.mp h with h | h
        · omega
        · have := (List.pairwise_cons.mp (List.pairwise_append.mp hsort).2.1).1 y h
          omega
    unfold t_lots_b4
    walk_at "pd"
    rw [look_dkN]
    by_cases hs : x ∈ (lotsTo p.length (ap p) pre).flatten
    · rw [if_pos (by simp [hs])]
      obtain ⟨y, h1, h2, h3⟩ := (seen_iff T hlt).mp hs
      have hnl : least p.length (ap p) x = false := by
        refine Bool.eq_false_iff.mpr fun q => ?_
        have := T.least_uniq (hlt y h1) q h2 h3
        have := hpx y h1
        omega
      have e2 : lotsTo p.length (ap p) (pre ++ [x]) = lotsTo p.length (ap p) pre := by unfold lotsTo; rw [List.filter_append]; simp [hnl]
      rw [e2]
      exact ⟨_, _, rfl⟩
    · rw [if_neg (by simp [hs])]
      have hle : least p.length (ap p) x = true := by
        obtain ⟨m, h1, h2⟩ := T.ex_least x hx
        by_cases hm : m = x
        · subst hm; exact h2
        · have hmx : m ≤ x := least_iff.mp h2 x (T.back hx h1)
          exact absurd ((seen_iff T hlt).mpr ⟨m, hpre m (by omega), h2, T.back hx h1⟩) hs
      have e2 : lotsTo p.length (ap p) (pre ++ [x]) = lotsTo p.length (ap p) pre ++ [cyc p.length (ap p) x] := by unfold lotsTo; rw [List.filter_append, List.map_append]; simp [hle]
      rw [e2]
      unfold t_lots_r3
      walk_at "pd"
      intro a
      generalize hS : (lotsTo p.length (ap p) pre).flatten = S at hs
      have hbound : S.length + per p.length (ap p) x ≤ p.length := by
        have nd := T.flat_nodup (hs := (pre ++ [x]).filter (least p.length (ap p))) (fun y hy => by
          obtain ⟨h1, h2⟩ := List.mem_filter.mp hy
          refine ⟨?_, h2⟩
          rcases List.mem_append.mp h1 with h | h
          · exact hlt y h
          · obtain rfl : y = x := by simpa using h
            exact hx) ((hsort.sublist (by simp)).imp (fun h => Nat.ne_of_lt h) |>.filter _)
        have := php p.length _ nd fun y hy => by
          obtain ⟨l, hl, hy⟩ := List.mem_flatten.mp hy
          obtain ⟨z, hz, rfl⟩ := List.mem_map.mp hl
          have hz' := (List.mem_filter.mp hz).1
          refine T.cyc_lt ?_ hy
          rcases List.mem_append.mp hz' with h | h
          · exact hlt z h
          · obtain rfl : z = x := by simpa using h
            exact hx
        have e3 : ((pre ++ [x]).filter (least p.length (ap p))).map (cyc p.length (ap p)) = lotsTo p.length (ap p) pre ++ [cyc p.length (ap p) x] := e2
        rw [e3, List.flatten_append, List.length_append, hS] at this
        simpa [cyc_len] using this
      have hnotS : ∀ m, it (ap p) m x ∉ S := fun m q => hs (by
        rw [← hS] at q ⊢
        obtain ⟨y, h1, h2, h3⟩ := (seen_iff T hlt).mp q
        exact (seen_iff T hlt).mpr ⟨y, h1, h2, T.cyc_trans (hlt y h1) h3 (T.back hx ((T.mem_cyc hx).mpr ⟨m, rfl⟩))⟩)
      refine ⟨fun k s => ∃ m, k = per p.length (ap p) x - m ∧ m ≤ per p.length (ap p) x ∧ s = [some (.dat (tupN p)), some (.dk b (dkN (S ++ cycTo (ap p) x m))), some (.lst c (tupsL (lotsTo p.length (ap p) pre))), some (.dat (.int (it (ap p) m x : Nat))), some (.lst a (intsL (cycTo (ap p) x m)))],
        ⟨_, 0, rfl, Nat.zero_le _, by simp [cycTo, intsL, it]⟩, ?_⟩
      rintro k s ⟨m, rfl, hm, rfl⟩
      walk_at "pd"
      rw [look_dkN]
      by_cases hlast : m = per p.length (ap p) x
      · have hin : it (ap p) m x ∈ S ++ cycTo (ap p) x m := by
          rw [hlast, (T.per_spec hx).1]
          exact List.mem_append_right _ (List.mem_map.mpr ⟨0, List.mem_range.mpr per_pos, rfl⟩)
        rw [if_neg (by simp [hin])]
        unfold t_lots_r2
        walk_at "pd"
        have hlen : (lotsTo p.length (ap p) pre).length ≤ p.length := by
          unfold lotsTo
          rw [List.length_map]
          refine Nat.le_trans (List.length_filter_le ..) ?_
          have := congrArg List.length e
          simp at this; omega
        refine ⟨by rw [tupsL_len]; omega, ?_⟩
        have ec : cycTo (ap p) x m = cyc p.length (ap p) x := by rw [hlast]; rfl
        rw [ec, List.flatten_append, hS]
        rw [tupsL_app, show [cyc p.length (ap p) x].flatten = cyc p.length (ap p) x by simp]
        exact ⟨_, _, rfl⟩
      · have hnin : it (ap p) m x ∉ S ++ cycTo (ap p) x m := by
          intro q
          rcases List.mem_append.mp q with q | q
          · exact hnotS m q
          · obtain ⟨i, hi, e4⟩ := List.mem_map.mp q
            have hi' := List.mem_range.mp hi
            exact (T.per_spec hx).2.2 (m - i) (by omega) (by omega) (T.cancel hx (by omega) e4)
        rw [if_pos (by simp [hnin])]
        unfold t_lots_b1
        walk_at "pd"
        have hTl : (S ++ cycTo (ap p) x m).length ≤ p.length := by
          rw [List.length_append]
          have : (cycTo (ap p) x m).length = m := by unfold cycTo; simp
          omega
        refine ⟨by rw [dkN_len]; omega, ?_⟩
        rw [store_dkN hnin]
        refine ⟨by have : (cycTo (ap p) x m).length = m := by unfold cycTo; simp
                   omega, ?_⟩
        refine ⟨_, ap_get (T.it_lt hx m), per p.length (ap p) x - (m + 1), by omega, m + 1, rfl, by omega, ?_⟩
        rw [cycTo_succ, List.append_assoc, intsL_app]; rfl
  · rintro s ⟨o3, o4, rfl⟩
    walk_at "pd"
    exact rt1 (h c)
theorem lot_len {p : List Nat} (hp : IsP p) {l : List Nat} (h : l ∈ lotsP p) : 0 < l.length ∧ l.length ≤ p.length := by
  obtain ⟨x, hx, rfl⟩ := List.mem_map.mp h
  rw [cyc_len]
  exact ⟨per_pos, (hp.trn.per_spec (mem_heads.mp hx).1).2.1⟩
theorem lots_len {p : List Nat} : (lotsP p).length ≤ p.length := by
  unfold lotsP lots heads
  rw [List.length_map]
  exact Nat.le_trans (List.length_filter_le ..) (by simp)
theorem tupsD (A : List (List Nat)) : (tupsL A).map D.dat = A.map fun l => D.dat (tupN l) := by unfold tupsL; rw [List.map_map]; rfl
theorem vc_rounds : ∀ ds Q, sp_rounds ds Q → t_rounds (fnEnds ds Q) (startD 2 ds) := by
  rintro ds Q ⟨p, rfl, hp, hl, h⟩
  change t_rounds _ [some (.dat (tupN p)), none]
  unfold t_rounds
  walk_at "pd"
  refine ⟨p, rfl, hp, hl, ?_⟩
  walk_at "pd"
  refine ⟨p, rfl, hp, hl, fun a => ?_⟩
  walk_at "pd"
  have hll := lots_len (p := p)
  refine lc_filter (lotsP p) (fun l => .dat (tupN l)) (fun l => decide (1 < l.length)) tupN (tupsD _) (by omega) trivial (fun l hm k1 k2 h1 h2 => ?_) fun a => ?_
  · unfold t_rounds_c1
    walk_at "pd"
    by_cases hl1 : 1 < l.length
    · rw [if_pos (by omega)]; exact h1 (by simp [hl1]) _ rfl
    · rw [if_neg (by omega)]; exact h2 (by simp [hl1]) _ rfl
  · walk_at "pd"
    exact rt1 h
theorem vc_common : ∀ ds Q, sp_common ds Q → t_common (fnEnds ds Q) (startD 2 ds) := by
  rintro ds Q ⟨a, b, rfl, h⟩
  change t_common _ [some (.dat (.int (a : Nat))), some (.dat (.int (b : Nat)))]
  unfold t_common
  walk_at "pd"
  refine ⟨fun k s => ∃ a' : Nat, s = [some (.dat (.int (a' : Nat))), some (.dat (.int (k : Nat)))] ∧ Nat.gcd a' k = Nat.gcd a b, ⟨b, a, rfl, rfl⟩, ?_⟩
  rintro k s ⟨a', rfl, e⟩
  walk_at "pd"
  by_cases hk : (0 : Int) < k
  · rw [if_pos hk]
    unfold t_common_b1
    walk_at "pd"
    refine ⟨hk, a' % k, Nat.mod_lt _ (by omega), k, by rw [Int.natCast_emod], ?_⟩
    rw [← e, Nat.gcd_comm a' k, Nat.gcd_rec k a', Nat.gcd_comm]
  · rw [if_neg hk]
    obtain rfl : k = 0 := by omega
    rw [Nat.gcd_zero_right] at e
    subst e
    exact rt2 h
theorem vc_order : ∀ ds Q, sp_order ds Q → t_order (fnEnds ds Q) (startD 3 ds) := by
  rintro ds Q ⟨p, rfl, hp, hl, h⟩
  change t_order _ [some (.dat (tupN p)), none, none]
  unfold t_order
  walk_at "pd"
  refine ⟨p, rfl, hp, hl, ?_⟩
  walk_at "pd"
  refine ⟨p, rfl, hp, hl, fun a => ?_⟩
  walk_at "pd"
  have hll := lots_len (p := p)
  refine for_pre (lotsP p) (fun l => .dat (tupN l)) (fun pre s => ∃ o2, s = [some (.dat (tupN p)), some (.dat (.int (((pre.map List.length).foldl Nat.lcm 1 : Nat)))), o2]) (tupsD _) ⟨none, rfl⟩ (fun _ _ _ => trivial) ?_ ?_
  · rintro pre l post s e ⟨o2, rfl⟩
    obtain ⟨h1, h2⟩ := lot_len hp (l := l) (by rw [e]; simp)
    unfold t_order_b1
    walk_at "pd"
    refine ⟨.inr ⟨by omega, by omega⟩, _, _, rfl, ?_⟩
    walk_at "pd"
    have hg : 0 < Nat.gcd ((pre.map List.length).foldl Nat.lcm 1) l.length := Nat.gcd_pos_of_pos_right _ h1
    have hg2 : Nat.gcd ((pre.map List.length).foldl Nat.lcm 1) l.length ≤ l.length := Nat.le_of_dvd h1 (Nat.gcd_dvd_right _ _)
    refine ⟨⟨by omega, by omega⟩, some (.dat (tupN l)), ?_⟩
    rw [List.map_append, List.foldl_append]
    show _ = [some (D.dat (tupN p)), some (D.dat (PyData.int ((Nat.lcm ((pre.map List.length).foldl Nat.lcm 1) l.length : Nat)))), _]
    unfold Nat.lcm
    rw [Int.natCast_ediv, Int.natCast_mul]
  · rintro s ⟨o2, rfl⟩
    walk_at "pd"
    exact rt1 h
theorem vc_sort : ∀ ds Q, sp_sort ds Q → t_sort (fnEnds ds Q) (startD 2 ds) := by
  rintro ds Q ⟨p, rfl, hp, hl, h⟩
  change t_sort _ [some (.dat (tupN p)), none]
  unfold t_sort
  walk_at "pd"
  refine ⟨p, rfl, hp, hl, ?_⟩
  walk_at "pd"
  refine ⟨p, rfl, hp, hl, fun a => ?_⟩
  walk_at "pd"
  have hll := lots_len (p := p)
  refine lc_all (lotsP p) (fun l => .dat (tupN l)) (fun l => .int (l.length : Nat)) (tupsD _) (by omega) trivial (fun l hm k1 hk => ?_) fun a => ?_
  · walk_at "pd"
    exact hk _ rfl
  · have e : (lotsP p).map (fun l => PyData.int (l.length : Nat)) = intsL (lensP p) := by unfold intsL lensP lens lotsP; rw [List.map_map]; rfl
    rw [e]
    walk_at "pd"
    exact fun _ => rt1 h
theorem vc_sign : ∀ ds Q, sp_sign ds Q → t_sign (fnEnds ds Q) (startD 2 ds) := by
  rintro ds Q ⟨p, rfl, hp, hl, h⟩
  change t_sign _ [some (.dat (tupN p)), none]
  unfold t_sign
  walk_at "pd"
  refine ⟨p, rfl, hp, hl, ?_⟩
  walk_at "pd"
  refine ⟨p, rfl, hp, hl, fun a => ?_⟩
  walk_at "pd"
  have hll := lots_len (p := p)
  refine lc_all (lotsP p) (fun l => .dat (tupN l)) (fun l => .int ((l.length : Nat) - 1)) (tupsD _) (by omega) trivial (fun l hm k1 hk => ?_) fun a => ?_
  · unfold t_sign_e1
    walk_at "pd"
    exact hk _ rfl
  · walk_at "pd"
    refine ⟨(lotsP p).map fun l => ((l.length : Nat) : Int) - 1, by rw [List.map_map]; rfl, ?_⟩
    have es : ((lotsP p).map fun l => ((l.length : Nat) : Int) - 1).sum = (((lensP p).map fun l => l - 1).sum : Nat) := by
      have : ∀ A : List (List Nat), (∀ l ∈ A, 0 < l.length) → (A.map fun l => ((l.length : Nat) : Int) - 1).sum = (((A.map List.length).map fun l => l - 1).sum : Nat) := by
        intro A
        induction A with
        | nil => intro _; rfl
        | cons l A ih =>
          intro hA
          have := hA l List.mem_cons_self
          rw [List.map_cons, List.sum_cons, ih fun x hx => hA x (List.mem_cons_of_mem _ hx), List.map_cons, List.map_cons, List.sum_cons]
          omega
      exact this _ fun l hm => (lot_len hp hm).1
    rw [es]
    unfold signP at h
    by_cases hm : ((lensP p).map fun l => l - 1).sum % 2 = 0
    · rw [if_pos hm] at h
      rw [if_pos (by omega)]
      exact ⟨by decide, rt1 h⟩
    · rw [if_neg hm] at h
      rw [if_neg (by omega)]
      exact ⟨by decide, rt1 h⟩
end PD
set_option Elab.async false
set_option linter.all false
set_option maxRecDepth 100000
set_option maxHeartbeats 2000000
namespace PD
open PySem L2
local macro_rules | `(tactic| walk_at "pd") => `(tactic| try simp only [w_var, w_c, w_raw, w_e2, w_sI, w_sIc, w_tBl, w_boolW, w_intW, w_tupW, w_eqL, w_neL, w_isN, w_isNotN, w_isBB, w_isNotBB, w_tupO, w_lstO, w_seq, w_seqT, w_seqN, w_seqLi, w_seqB, it_tup, it_list, it_lst, w_lenT, w_lenL, w_lenBL, w_lenBD, w_inDkB, w_inTup, w_tru, w_truB, w_truI, w_truT, w_truL, w_truN, w_and, w_or, w_not, w_eAnd, w_eOr, w_eNot, w_if, w_chain, w_aNil, w_aCons, w_tup, w_lst, w_mkT0, w_mkT1, w_mkT2, w_mkT3, w_mkL0, w_mkL1, w_mkL2, w_call, w_s1, w_intF, w_own, w_out, w_neg, w_addI, w_addT, w_addL, w_mulI, w_mulL, w_dict0, w_lend0, w_lendB, w_lendD, w_lendL, w_back0, w_backB, w_backD, w_backL, w_sl, w_slT, w_slL, w_oNone, w_oSome, w_tupRg, w_lstRg, w_lenSet, w_tix, w_bm, w_tyM, w_app, w_insert, w_extend, w_next, w_seqS, w_break, w_cont, w_drop, w_ret, w_ifS, w_never, w_asg, w_gN, w_gT, w_isT, w_isTD, w_isTP, w_gs0, w_gs1, w_par, w_par2, w_gSub', w_subL, w_subO, w_subK, w_for, w_while, w_lc, w_rg1, w_rg2, w_as1I, w_as2I, w_enum, w_enW, upS_nil, upS_it, seen_dat, seen_lst, seen_lsD, seen_dk, seen_bor, ok_dat, ok_lst, ok_lsD, ok_dk, ok_bor, root_lst, root_lsD, root_dk, root_ins, getP_nil, setP_nil, rdS, ld_dat, ld_lst, ld_lsD, ld_dk, ld_bor, ty_lst, ty_lsD, ty_dk, List.getElem?_cons_zero, List.getElem?_cons_succ, List.set_cons_zero, List.set_cons_succ, Option.some.injEq, exists_eq_left', exists_eq_left, true_and, and_true, List.length_cons, List.length_nil, Nat.ble_eq, Nat.zero_add, Nat.reduceAdd, Nat.reduceLeDiff, List.map_cons, List.map_nil, ite_true, ite_false, Bool.false_eq_true, if_false, if_true, Bool.not_true, Bool.not_false, exists_eq, wipeD, Bool.and_true, Bool.and_false, Bool.or_true, Bool.or_false, decide_eq_true_eq, decide_true, decide_false, w_lenN, w_seqTN, w_ixN, w_eqNN, w_neNN, w_eqTT, w_neTT, w_eqII, w_neII, w_isiI, w_isiB, w_isiT, w_isiTN, w_tupWN, w_truTN, w_enWN, w_ixBL, w_ixL, w_ixO, w_ixK, w_ixT, tupN_of, intsL_len, Bool.not_eq_true', decide_eq_false_iff_not, not_true, not_false_iff, and_self, eq_self, ix4_0, ix4_1, ix4_2, ix4_3, getP_it1, w_mkLbox, List.nil_append, Bool.true_eq_false, w_sum, w_all, w_any, w_sortI])
open PM
theorem vc__law_box : ∀ ds Q, sp__law_box ds Q → t__law_box (fnEnds ds Q) (startD 2 ds) := by
  rintro ds Q ⟨d, ns, rfl, hd, hl, h⟩
  have bx : ∀ b, BoxOk [.dat (.int 0), .dat (.int 0), .dat (.int 0), .lst b ((ns.map fun i => if i < 0 then -i else i).map .int)] := fun b => ⟨0, 0, 0, b, _, rfl, by omega⟩
  rcases hd with rfl | ⟨a, rfl⟩
  · change t__law_box _ [some (.dat (.list (ns.map .int))), none]
    unfold t__law_box
    walk_at "pd"
    refine lc_all ns (fun i => .dat (.int i)) (fun i => .int (if i < 0 then -i else i)) (by rw [List.map_map]; rfl) (by omega) trivial (fun i hi k1 hk => ?_) fun b => ?_
    · unfold t__law_box_e1
      walk_at "pd"
      exact hk _ rfl
    · walk_at "pd"
      intro a
      have := h a _ (bx b)
      rw [List.map_map] at this
      exact rt1 this
  · change t__law_box _ [some (.lst a (ns.map .int)), none]
    unfold t__law_box
    walk_at "pd"
    refine lc_all ns (fun i => .dat (.int i)) (fun i => .int (if i < 0 then -i else i)) (by rw [List.map_map]; rfl) (by omega) (by walk_at "pd") (fun i hi k1 hk => ?_) fun b => ?_
    · unfold t__law_box_e1
      walk_at "pd"
      exact hk _ rfl
    · walk_at "pd"
      intro c
      have := h c _ (bx b)
      rw [List.map_map] at this
      exact rtL this
theorem take_r5 {a b : Addr} {x y z : Int} {cs : List Int} {m : Int} {xs0 : List D} {Q : D → List D → Prop} {o2 o3 o4 : Option D} (hz : 0 ≤ z) (hm : 0 < m) (hm2 : m < 1073741824)
    (h : ∀ xs' v, BoxOk xs' → 0 ≤ v → v < m → Q (.dat (.int v)) [.lsD a xs', .dat (.int m)]) :
    t__law_take_r5 (fnEnds [.lsD a xs0, .dat (.int m)] Q) [some (.lsD a [.dat (.int x), .dat (.int y), .dat (.int z), .lst b (cs.map .int)]), some (.dat (.int m)), o2, o3, o4] := by
  unfold t__law_take_r5
  walk_at "pd"
  have bx : ∀ x y : Int, BoxOk [.dat (.int x), .dat (.int y), .dat (.int z), .lst b (cs.map .int)] := fun x y => ⟨x, y, z, b, cs, rfl, hz⟩
  by_cases hy : 0 < y
  · rw [if_pos hy]
    unfold t__law_take_i3
    walk_at "pd"
    refine ⟨hm, ⟨hm, hm2⟩, ?_⟩
    by_cases hx : 0 < x / m
    · rw [if_pos hx]
      walk_at "pd"
      exact rtO (h _ _ (bx _ _) (Int.emod_nonneg _ (by omega)) (Int.emod_lt_of_pos _ hm))
    · rw [if_neg hx]
      walk_at "pd"
      exact rtO (h _ _ (bx _ _) (Int.emod_nonneg _ (by omega)) (Int.emod_lt_of_pos _ hm))
  · rw [if_neg hy]
    unfold t__law_take_r4
    walk_at "pd"
    refine ⟨.inr ⟨by decide, by decide⟩, .inl ⟨by decide, by decide⟩, by decide, ⟨by decide, by decide⟩, by decide, hm, ?_⟩
    exact rtO (h _ _ (bx _ _) (Int.emod_nonneg _ (by omega)) (Int.emod_lt_of_pos _ hm))
theorem take_r1 {a b : Addr} {x y z c : Int} {cs : List Int} {m : Int} {xs0 : List D} {Q : D → List D → Prop} {o4 : Option D} (hz : 0 ≤ z) (hm : 0 < m) (hm2 : m < 1073741824)
    (h : ∀ xs' v, BoxOk xs' → 0 ≤ v → v < m → Q (.dat (.int v)) [.lsD a xs', .dat (.int m)]) :
    t__law_take_r1 ⟨fun ds1 => t__law_take_r5 (fnEnds [.lsD a xs0, .dat (.int m)] Q) ds1, (fnEnds [.lsD a xs0, .dat (.int m)] Q).rt, (fnEnds [.lsD a xs0, .dat (.int m)] Q).bk, (fnEnds [.lsD a xs0, .dat (.int m)] Q).ct⟩
      [some (.lsD a [.dat (.int x), .dat (.int y), .dat (.int z), .lst b (cs.map .int)]), some (.dat (.int m)), some (.dat (.int z)), some (.dat (.int c)), o4] := by
  unfold t__law_take_r1
  walk_at "pd"
  by_cases hy : y = 0
  · rw [if_pos hy]
    exact rtO (h _ _ ⟨c, y, z + 1, b, cs, rfl, by omega⟩ (by omega) hm)
  · rw [if_neg hy]
    exact take_r5 (by omega) hm hm2 h
theorem atI_int {cs : List Int} {z : Int} (h0 : 0 ≤ z) (h1 : z < (cs.map PyData.int).length) : ∃ c, atI (cs.map PyData.int) z = some (.int c) := by
  have h2 : z.toNat < cs.length := by rw [List.length_map] at h1; omega
  refine ⟨cs[z.toNat], ?_⟩
  unfold atI ixN
  rw [if_pos h0, if_pos h1]
  show (cs.map PyData.int)[z.toNat]? = _
  rw [List.getElem?_map, List.getElem?_eq_getElem h2]; rfl
theorem vc__law_take : ∀ ds Q, sp__law_take ds Q → t__law_take (fnEnds ds Q) (startD 5 ds) := by
  rintro ds Q ⟨a, xs, m, rfl, ⟨x, y, z, b, cs, rfl, hz⟩, hm, hm2, h⟩
  change t__law_take _ [some (.lsD a [.dat (.int x), .dat (.int y), .dat (.int z), .lst b (cs.map .int)]), some (.dat (.int m)), none, none, none]
  unfold t__law_take
  walk_at "pd"
  by_cases hy : y = 0
  · rw [if_pos hy]
    unfold t__law_take_i2
    walk_at "pd"
    by_cases hzl : z < (cs.map PyData.int).length
    · rw [if_pos hzl]
      obtain ⟨c, hc⟩ := atI_int hz hzl
      refine ⟨_, hc, ⟨by decide, by decide, by decide⟩, ?_⟩
      walk_at "pd"
      by_cases h9 : (10 : Int) ^ Int.toNat 18 ≤ c
      · rw [if_pos h9]
        walk_at "pd"
        exact take_r1 hz hm hm2 h
      · rw [if_neg h9]
        walk_at "pd"
        exact take_r1 hz hm hm2 h
    · rw [if_neg hzl]
      exact take_r1 hz hm hm2 h
  · rw [if_neg hy]
    exact take_r5 hz hm hm2 h
theorem vc__law_turning : ∀ ds Q, sp__law_turning ds Q → t__law_turning (fnEnds ds Q) (startD 4 ds) := by
  rintro ds Q ⟨a, xs, n, rfl, hb, hn, h⟩
  change t__law_turning _ [some (.lsD a xs), some (.dat (.int (n : Nat))), none, none]
  unfold t__law_turning
  walk_at "pd"
  refine fun c => ⟨⟨by omega, by omega⟩, ?_⟩
  rw [upto_natD]
  refine for_pre (List.range n) (fun i => .dat (.int (i : Nat))) (fun pre s => ∃ (xs' : List D) (row : List Nat) (o3 : Option D), s = [some (.lsD a xs'), some (.dat (.int (n : Nat))), some (.lst c (intsL row)), o3] ∧ BoxOk xs' ∧ row.Perm pre)
    rfl ⟨xs, [], none, rfl, hb, List.Perm.refl _⟩ (fun _ _ _ => trivial) ?_ ?_
  · rintro pre x post s e ⟨xs', row, o3, rfl, hb', hr⟩
    have hx : x < n := List.mem_range.mp (by rw [e]; simp)
    have hlen : row.length ≤ n := by
      rw [hr.length_eq]
      have := congrArg List.length e
      simp at this; omega
    unfold t__law_turning_b1
    walk_at "pd"
    refine ⟨a, xs', (x : Int) + 1, rfl, hb', by omega, by omega, fun xs2 v hb2 h0 h1 => ?_⟩
    walk_at "pd"
    refine ⟨by omega, h0, by omega, xs2, row.take v.toNat ++ [x] ++ row.drop v.toNat, some (.dat (.int (x : Nat))), ?_, hb2, ?_⟩
    · have e1 : (intsL row).take v.toNat ++ [PyData.int (x : Nat)] ++ (intsL row).drop v.toNat = intsL (row.take v.toNat ++ [x] ++ row.drop v.toNat) := by
        unfold intsL; rw [List.map_append, List.map_append, List.map_take, List.map_drop]; rfl
      rw [e1]
    · have : (row.take v.toNat ++ [x] ++ row.drop v.toNat).Perm (row ++ [x]) := by
        conv => rhs; rw [← List.take_append_drop v.toNat row]
        rw [List.append_assoc, List.append_assoc]
        exact List.Perm.append_left _ List.perm_append_comm
      exact this.trans (hr.append_right _)
  · rintro s ⟨xs', row, o3, rfl, hb', hr⟩
    unfold t__law_turning_r2
    walk_at "pd"
    obtain ⟨h1, h2⟩ := IsP.of_perm hr
    exact rtO (h xs' row hb' h1 h2)
end PD
set_option Elab.async false
set_option linter.all false
set_option maxRecDepth 100000
set_option maxHeartbeats 2000000
namespace PD
open PySem L2
local macro_rules | `(tactic| walk_at "pd") => `(tactic| try simp only [w_var, w_c, w_raw, w_e2, w_sI, w_sIc, w_tBl, w_boolW, w_intW, w_tupW, w_eqL, w_neL, w_isN, w_isNotN, w_isBB, w_isNotBB, w_tupO, w_lstO, w_seq, w_seqT, w_seqN, w_seqLi, w_seqB, it_tup, it_list, it_lst, w_lenT, w_lenL, w_lenBL, w_lenBD, w_inDkB, w_inTup, w_tru, w_truB, w_truI, w_truT, w_truL, w_truN, w_and, w_or, w_not, w_eAnd, w_eOr, w_eNot, w_if, w_chain, w_aNil, w_aCons, w_tup, w_lst, w_mkT0, w_mkT1, w_mkT2, w_mkT3, w_mkL0, w_mkL1, w_mkL2, w_call, w_s1, w_intF, w_own, w_out, w_neg, w_addI, w_addT, w_addL, w_mulI, w_mulL, w_dict0, w_lend0, w_lendB, w_lendD, w_lendL, w_back0, w_backB, w_backD, w_backL, w_sl, w_slT, w_slL, w_oNone, w_oSome, w_tupRg, w_lstRg, w_lenSet, w_tix, w_bm, w_tyM, w_app, w_insert, w_extend, w_next, w_seqS, w_break, w_cont, w_drop, w_ret, w_ifS, w_never, w_asg, w_gN, w_gT, w_isT, w_isTD, w_isTP, w_gs0, w_gs1, w_par, w_par2, w_gSub', w_subL, w_subO, w_subK, w_for, w_while, w_lc, w_rg1, w_rg2, w_as1I, w_as2I, w_enum, w_enW, upS_nil, upS_it, seen_dat, seen_lst, seen_lsD, seen_dk, seen_bor, ok_dat, ok_lst, ok_lsD, ok_dk, ok_bor, root_lst, root_lsD, root_dk, root_ins, getP_nil, setP_nil, rdS, ld_dat, ld_lst, ld_lsD, ld_dk, ld_bor, ty_lst, ty_lsD, ty_dk, List.getElem?_cons_zero, List.getElem?_cons_succ, List.set_cons_zero, List.set_cons_succ, Option.some.injEq, exists_eq_left', exists_eq_left, true_and, and_true, List.length_cons, List.length_nil, Nat.ble_eq, Nat.zero_add, Nat.reduceAdd, Nat.reduceLeDiff, List.map_cons, List.map_nil, ite_true, ite_false, Bool.false_eq_true, if_false, if_true, Bool.not_true, Bool.not_false, exists_eq, wipeD, Bool.and_true, Bool.and_false, Bool.or_true, Bool.or_false, decide_eq_true_eq, decide_true, decide_false, w_lenN, w_seqTN, w_ixN, w_eqNN, w_neNN, w_eqTT, w_neTT, w_eqII, w_neII, w_isiI, w_isiB, w_isiT, w_isiTN, w_tupWN, w_truTN, w_enWN, w_ixBL, w_ixL, w_ixO, w_ixK, w_ixT, tupN_of, intsL_len, Bool.not_eq_true', decide_eq_false_iff_not, not_true, not_false_iff, and_self, eq_self, ix4_0, ix4_1, ix4_2, ix4_3, getP_it1, w_mkLbox, List.nil_append, Bool.true_eq_false, w_sum, w_sumTN, w_seqTT, w_slTN, cut_from, cut_upto, w_all, w_any, w_sortI])

open PM
def nextP (pts : List Nat) (x : Nat) : Nat := pts.getD ((pts.idxOf x + 1) % pts.length) 0
def roundP (n : Nat) (pts : List Nat) : List Nat := (List.range n).map fun x => if x ∈ pts then nextP pts x else x
def sp__law_put : SpD := fun as Q => ∃ p q : List Nat, as = [.dat (tupN p), .dat (tupN q)] ∧ (∀ x ∈ p, x < q.length) ∧ p.length ≤ 1000000 ∧ Q (.dat (tupN (put p q))) as
def sp__law_back : SpD := fun as Q => ∃ p : List Nat, as = [.dat (tupN p)] ∧ IsP p ∧ p.length ≤ 1000000 ∧ Q (.dat (tupN (bk p))) as
def sp__law_round : SpD := fun as Q => ∃ (n : Nat) (pts : List Nat), as = [.dat (.int (n : Nat)), .dat (tupN pts)] ∧ pts.Nodup ∧ (∀ x ∈ pts, x < n) ∧ n ≤ 1000000 ∧ Q (.dat (tupN (roundP n pts))) as
def sp__law_times : SpD := fun as Q => ∃ (p : List Nat) (k : Int), as = [.dat (tupN p), .dat (.int k)] ∧ IsP p ∧ p.length ≤ 1000000 ∧ k.natAbs ≤ 1000000 ∧ Q (.dat (tupN (pw p k))) as
def sp__law_lots : SpD := fun as Q => ∃ p : List Nat, as = [.dat (tupN p)] ∧ IsP p ∧ p.length ≤ 1000000 ∧ ∀ a, Q (.lst a (tupsL (lotsP p))) as
def sp__law_order : SpD := fun as Q => ∃ p : List Nat, as = [.dat (tupN p)] ∧ IsP p ∧ p.length ≤ 1000000 ∧ Q (.dat (.int (ordP p : Nat))) as

def t__law_put : TSP := (tRetD (eCall (s1 sTupO) (aCons (tLcD (iSeq (eVar 0)) (gN 2) tYesD (e2 sIx (eVar 1) (eVar 2)) [2]) aNil)))
def t__law_back : TSP := (tRetD (eCall (s1 sTupO) (aCons (tLcD (iRg1 (aCons (eCall (s1 sLen) (aCons (eVar 0) aNil)) aNil)) (gN 1) tYesD (eTix (eVar 0) (eVar 1)) [1]) aNil)))
def t__law_round_b1 : TSP := (tAsgD (e2 sIx (eVar 1) (e2 (sIc (fun _ j => 0 < j) fun i j => .int (i % j)) (e2 sAdd (eVar 3) (eC (.int 1))) (eCall (s1 sLen) (aCons (eVar 1) aNil)))) (gSubD (eVar 2) (e2 sIx (eVar 1) (eVar 3))))
def t__law_round_r2 : TSP := (tRetD (eCall (s1 sTupO) (aCons (eVar 2) aNil)))
def t__law_round : TSP := (tSeqD (tAsgD (eLstRg (eVar 0)) (gN 2)) (tSeqD (tForD (iRg1 (aCons (eCall (s1 sLen) (aCons (eVar 1) aNil)) aNil)) (gN 3) t__law_round_b1) t__law_round_r2))
def t__law_times_b1 : TSP := (tAsgD (eOwn sp__law_put (aCons (eVar 2) (aCons (eVar 3) aNil))) (gN 2))
def t__law_times : TSP := (tSeqD (tParD 2 3 (aCons (eTupRg (eCall (s1 sLen) (aCons (eVar 0) aNil))) (aCons (eIf (tBl (e2 sGe (eVar 1) (eC (.int 0)))) (eVar 0) (eOwn sp__law_back (aCons (eVar 0) aNil))) aNil))) (tSeqD (tForD (iRg1 (aCons (eCall (s1 (sIntF fun i => if i < 0 then -i else i)) (aCons (eVar 1) aNil)) aNil)) (gN 4) t__law_times_b1) (tRetD (eOut 2))))
def t__law_lots_b1 : TSP := (tSeqD (tAsgD (eC (.bool true)) (gSubD (eVar 2) (eVar 3))) (tSeqD (tDropD (eBM "list" sAppend (eVar 4) (aCons (eVar 3) aNil))) (tAsgD (e2 sIx (eVar 0) (eVar 3)) (gN 3))))
def t__law_lots_r2 : TSP := (tIfD (tTru (eVar 4)) (tDropD (eBM "list" sAppend (eVar 1) (aCons (eCall (s1 sTupO) (aCons (eVar 4) aNil)) aNil))) tNextD)
def t__law_lots_b3 : TSP := (tSeqD (tAsgD (eLst aNil) (gN 4)) (tSeqD (tWhileD (tBl (e2 (sInN true) (eVar 3) (eVar 2))) t__law_lots_b1) t__law_lots_r2))
def t__law_lots : TSP := (tSeqD (tParD 1 2 (aCons (eLst aNil) (aCons eDict0 aNil))) (tSeqD (tForD (iRg1 (aCons (eCall (s1 sLen) (aCons (eVar 0) aNil)) aNil)) (gN 3) t__law_lots_b3) (tRetD (eOut 1))))
def t__law_order_b1 : TSP := (tParD 1 2 (aCons (eOwn sp__law_put (aCons (eVar 1) (aCons (eVar 0) aNil))) (aCons (e2 sAdd (eVar 2) (eC (.int 1))) aNil)))
def t__law_order : TSP := (tSeqD (tParD 1 2 (aCons (eVar 0) (aCons (eC (.int 1)) aNil))) (tSeqD (tWhileD (tBl (e2 sNe (eVar 1) (eTupRg (eCall (s1 sLen) (aCons (eVar 0) aNil))))) t__law_order_b1) (tRetD (eOut 2))))
theorem vc__law_put : ∀ ds Q, sp__law_put ds Q → t__law_put (fnEnds ds Q) (startD 3 ds) := by
  rintro ds Q ⟨p, q, rfl, hx, hl, h⟩
  change t__law_put _ [some (.dat (tupN p)), some (.dat (tupN q)), none]
  unfold t__law_put
  walk_at "pd"
  refine lc_all p (fun n => .dat (.int (n : Nat))) (fun x => .int (ap q x : Nat)) rfl hl trivial (fun x hx' k1 hk => ?_) fun a => ?_
  · walk_at "pd"
    exact ⟨_, ap_get (hx x hx'), hk _ rfl⟩
  · walk_at "pd"
    have e : p.map (fun x => PyData.int (ap q x : Nat)) = intsL (put p q) := by unfold intsL put; rw [List.map_map]; rfl
    rw [e]
    exact rt2 h
theorem vc__law_back : ∀ ds Q, sp__law_back ds Q → t__law_back (fnEnds ds Q) (startD 2 ds) := by
  rintro ds Q ⟨p, rfl, hp, hl, h⟩
  change t__law_back _ [some (.dat (tupN p)), none]
  unfold t__law_back
  walk_at "pd"
  refine ⟨⟨by omega, by omega⟩, ?_⟩
  rw [upto_natD]
  refine lc_all (List.range p.length) (fun n => .dat (.int (n : Nat))) (fun x => .int (p.idxOf x : Nat)) rfl (by simpa using hl) trivial (fun x hx' k1 hk => ?_) fun a => ?_
  · walk_at "pd"
    have hm := hp.mem (List.mem_range.mp hx')
    obtain ⟨h1, h2⟩ := idx_ints hm
    exact ⟨_, _, _, rfl, rfl, flat_ints p, h1, by rw [eqv_int]; exact decide_eq_true rfl, h2, hk _ rfl⟩
  · walk_at "pd"
    have e : (List.range p.length).map (fun x => PyData.int (p.idxOf x : Nat)) = intsL (bk p) := by unfold intsL bk; rw [List.map_map]; rfl
    rw [e]
    exact rt1 h
theorem idx_nodup {l : List Nat} (h : l.Nodup) {k : Nat} (hk : k < l.length) : l.idxOf l[k] = k := by
  have hi : l.idxOf l[k] < l.length := List.idxOf_lt_length_iff.mpr (List.getElem_mem hk)
  refine (List.getElem?_inj hi h).mp ?_
  rw [List.getElem?_eq_getElem hi, List.getElem_idxOf, List.getElem?_eq_getElem hk]
theorem vc__law_round : ∀ ds Q, sp__law_round ds Q → t__law_round (fnEnds ds Q) (startD 4 ds) := by
  rintro ds Q ⟨n, pts, rfl, hnd, hlt, hn, h⟩
  change t__law_round _ [some (.dat (.int (n : Nat))), some (.dat (tupN pts)), none, none]
  unfold t__law_round
  walk_at "pd"
  refine ⟨⟨by omega, by omega⟩, fun a => ?_⟩
  have hlen := php n pts hnd hlt
  refine ⟨⟨by omega, by omega⟩, ?_⟩
  rw [upto_nat, upto_natD]
  refine for_pre (List.range pts.length) (fun i => .dat (.int (i : Nat))) (fun pre s => ∃ (M : List Nat) (o3 : Option D), s = [some (.dat (.int (n : Nat))), some (.dat (tupN pts)), some (.lst a (intsL M)), o3] ∧ M.length = n ∧ ∀ x, x < n → M[x]? = some (if x ∈ pts ∧ pts.idxOf x ∈ pre then nextP pts x else x))
    rfl ⟨List.range n, none, rfl, by simp, fun x hx => by rw [List.getElem?_range hx, if_neg (by simp)]⟩ (fun _ _ _ => trivial) ?_ ?_
  · rintro pre k post s e ⟨M, o3, rfl, hM, hI⟩
    have hk : k < pts.length := List.mem_range.mp (by rw [e]; simp)
    have hL : 0 < pts.length := by omega
    unfold t__law_round_b1
    walk_at "pd"
    refine ⟨by omega, ?_⟩
    have e1 : ((k : Int) + 1) % (pts.length : Int) = (((k + 1) % pts.length : Nat) : Int) := by rw [Int.natCast_emod]; rfl
    rw [e1]
    have hk2 : (k + 1) % pts.length < pts.length := Nat.mod_lt _ hL
    walk_at "pd"
    refine ⟨pts[(k + 1) % pts.length], List.getElem?_eq_getElem hk2, pts[k], List.getElem?_eq_getElem hk, _, ixN_nat (by rw [hM]; exact hlt _ (List.getElem_mem hk)), _, some (.dat (.int (k : Nat))), by rw [intsL_set], by rw [List.length_set, hM], fun x hx => ?_⟩
    by_cases hxk : pts[k] = x
    · subst hxk
      rw [List.getElem?_set_self (by rw [hM]; exact hx), if_pos ⟨List.getElem_mem hk, by rw [idx_nodup hnd hk]; simp⟩]
      unfold nextP
      rw [idx_nodup hnd hk, List.getD_eq_getElem?_getD, List.getElem?_eq_getElem hk2]; rfl
    · rw [List.getElem?_set_ne hxk, hI x hx]
      congr 1
      have : (x ∈ pts ∧ pts.idxOf x ∈ pre ++ [k]) ↔ (x ∈ pts ∧ pts.idxOf x ∈ pre) := by
        constructor
        · rintro ⟨h1, h2⟩
          refine ⟨h1, ?_⟩
          rcases List.mem_append.mp h2 with h2 | h2
          · exact h2
          · have h3 : pts.idxOf x = k := by simpa using h2
            have h4 : pts[pts.idxOf x]'(List.idxOf_lt_length_iff.mpr h1) = x := List.getElem_idxOf _
            simp only [h3] at h4
            exact absurd h4 hxk
        · rintro ⟨h1, h2⟩; exact ⟨h1, List.mem_append_left _ h2⟩
      simp only [this]
  · rintro s ⟨M, o3, rfl, hM, hI⟩
    have e : M = roundP n pts := by
      refine List.ext_getElem? fun x => ?_
      by_cases hx : x < n
      · rw [hI x hx]
        unfold roundP
        rw [List.getElem?_map, List.getElem?_range hx]
        congr 1
        by_cases hm : x ∈ pts
        · rw [if_pos ⟨hm, List.mem_range.mpr (List.idxOf_lt_length_iff.mpr hm)⟩]; simp [hm]
        · rw [if_neg fun q => hm q.1]; simp [hm]
      · rw [List.getElem?_eq_none (by omega), List.getElem?_eq_none (by unfold roundP; simp; omega)]
    subst e
    unfold t__law_round_r2
    walk_at "pd"
    exact rt2 h
theorem roundP_len (n : Nat) (pts : List Nat) : (roundP n pts).length = n := by unfold roundP; simp
theorem ap_roundP {n x : Nat} {pts : List Nat} (hx : x < n) : ap (roundP n pts) x = if x ∈ pts then nextP pts x else x := by
  have h1 : (roundP n pts)[x]? = some (if x ∈ pts then nextP pts x else x) := by unfold roundP; rw [List.getElem?_map, List.getElem?_range hx]; rfl
  rw [ap_get (by rw [roundP_len]; exact hx)] at h1
  exact Option.some.inj h1
theorem nextP_mem {pts : List Nat} {x : Nat} (h : x ∈ pts) : nextP pts x ∈ pts := by
  unfold nextP
  have hL : 0 < pts.length := List.length_pos_of_mem h
  have hk : (pts.idxOf x + 1) % pts.length < pts.length := Nat.mod_lt _ hL
  rw [List.getD_eq_getElem?_getD, List.getElem?_eq_getElem hk]
  exact List.getElem_mem hk
theorem nextP_inj {pts : List Nat} (hnd : pts.Nodup) {x y : Nat} (hx : x ∈ pts) (hy : y ∈ pts) (e : nextP pts x = nextP pts y) : x = y := by
  unfold nextP at e
  have hL : 0 < pts.length := List.length_pos_of_mem hx
  have hk : (pts.idxOf x + 1) % pts.length < pts.length := Nat.mod_lt _ hL
  have hk2 : (pts.idxOf y + 1) % pts.length < pts.length := Nat.mod_lt _ hL
  have e1 : (pts.idxOf x + 1) % pts.length = (pts.idxOf y + 1) % pts.length := by
    refine (List.getElem?_inj hk hnd).mp ?_
    rw [List.getD_eq_getElem?_getD, List.getElem?_eq_getElem hk, List.getD_eq_getElem?_getD, List.getElem?_eq_getElem hk2] at e
    rw [List.getElem?_eq_getElem hk, List.getElem?_eq_getElem hk2]
    exact congrArg some e
  have hix := List.idxOf_lt_length_iff.mpr hx
  have hiy := List.idxOf_lt_length_iff.mpr hy
  have e2 : pts.idxOf x = pts.idxOf y := by
    by_cases a : pts.idxOf x + 1 = pts.length
    · by_cases b : pts.idxOf y + 1 = pts.length
      · omega
      · rw [a, Nat.mod_self, Nat.mod_eq_of_lt (by omega)] at e1; omega
    · by_cases b : pts.idxOf y + 1 = pts.length
      · rw [b, Nat.mod_self, Nat.mod_eq_of_lt (by omega)] at e1; omega
      · rw [Nat.mod_eq_of_lt (by omega), Nat.mod_eq_of_lt (by omega)] at e1; omega
  have h1 : pts[pts.idxOf x] = x := List.getElem_idxOf hix
  have h2 : pts[pts.idxOf y] = y := List.getElem_idxOf hiy
  rw [← h1, ← h2]
  simp only [e2]
theorem isP_round {n : Nat} {pts : List Nat} (hnd : pts.Nodup) (hlt : ∀ x ∈ pts, x < n) : IsP (roundP n pts) :=
  isP_of n (roundP_len n pts) (fun x hx => by
    rw [ap_roundP hx]; split
    · rename_i h; exact hlt _ (nextP_mem h)
    · exact hx) fun x y hx hy e => by
    rw [ap_roundP hx, ap_roundP hy] at e
    by_cases a : x ∈ pts <;> by_cases b : y ∈ pts
    · rw [if_pos a, if_pos b] at e; exact nextP_inj hnd a b e
    · rw [if_pos a, if_neg b] at e; exact absurd (e ▸ nextP_mem a) b
    · rw [if_neg a, if_pos b] at e; exact absurd (e ▸ nextP_mem b) a
    · rw [if_neg a, if_neg b] at e; exact e
theorem vc__law_times : ∀ ds Q, sp__law_times ds Q → t__law_times (fnEnds ds Q) (startD 5 ds) := by
  rintro ds Q ⟨p, k, rfl, hp, hl, hk, h⟩
  change t__law_times _ [some (.dat (tupN p)), some (.dat (.int k)), none, none, none]
  have loop : ∀ b : List Nat, IsP b → b.length = p.length → npow b k.natAbs = pw p k → ∀ {E : PEnds}, (∀ o4, E.nx [some (.dat (tupN p)), some (.dat (.int k)), some (.dat (tupN (pw p k))), some (.dat (tupN b)), o4]) →
      ForW ((upto 0 (if k < 0 then -k else k).toNat).map fun j => .dat (.int j)) (fun _ => True) (gN 4) t__law_times_b1 E [some (.dat (tupN p)), some (.dat (.int k)), some (.dat (tupN (List.range p.length))), some (.dat (tupN b)), none] := by
    intro b hb hbl hpw E hE
    have eabs : (if k < 0 then -k else k) = ((k.natAbs : Nat) : Int) := by split <;> omega
    rw [eabs, upto_natD]
    refine for_pre (List.range k.natAbs) (fun i => .dat (.int (i : Nat))) (fun pre s => ∃ o4, s = [some (.dat (tupN p)), some (.dat (.int k)), some (.dat (tupN (npow b pre.length))), some (.dat (tupN b)), o4])
      rfl ⟨none, by rw [List.length_nil, npow_zero, hbl]⟩ (fun _ _ _ => trivial) ?_ ?_
    · rintro pre i post s e ⟨o4, rfl⟩
      unfold t__law_times_b1
      walk_at "pd"
      have hb1 := hb.npow pre.length
      refine ⟨npow b pre.length, b, rfl, fun x hx => by have := hb1.lt x hx; rwa [npow_len] at this, by rw [npow_len, hbl]; exact hl, ?_⟩
      walk_at "pd"
      have e2 : put (npow b pre.length) b = npow b (pre ++ [i]).length := by
        rw [List.length_append, List.length_singleton]
        refine ext_ap (by rw [put_len, npow_len, npow_len]) fun x hx => ?_
        rw [put_len, npow_len] at hx
        rw [ap_put (by rw [npow_len]; exact hx), ap_npow hx, ap_npow hx]; rfl
      rw [e2]
      exact ⟨_, rfl⟩
    · rintro s ⟨o4, rfl⟩
      rw [List.length_range, hpw]
      exact hE o4
  unfold t__law_times
  walk_at "pd"
  refine ⟨⟨by omega, by omega⟩, ?_⟩
  rw [upto_nat]
  by_cases h0 : 0 ≤ k
  · rw [if_pos h0]
    refine ⟨⟨by split <;> omega, by split <;> omega⟩, ?_⟩
    refine loop p hp rfl (by unfold pw; rw [if_pos h0, show k.toNat = k.natAbs by omega]) fun o4 => ?_
    walk_at "pd"
    exact rt2 h
  · rw [if_neg h0]
    refine ⟨p, rfl, hp, hl, ?_⟩
    walk_at "pd"
    refine ⟨⟨by split <;> omega, by split <;> omega⟩, ?_⟩
    refine loop (bk p) hp.bks (bk_len p) (by unfold pw; rw [if_neg h0, show (-k).toNat = k.natAbs by omega]) fun o4 => ?_
    walk_at "pd"
    exact rt2 h
theorem vc__law_order : ∀ ds Q, sp__law_order ds Q → t__law_order (fnEnds ds Q) (startD 3 ds) := by
  rintro ds Q ⟨p, rfl, hp, hl, h⟩
  change t__law_order _ [some (.dat (tupN p)), none, none]
  unfold t__law_order
  walk_at "pd"
  have hpos : 0 < ordP p := ord_pos
  refine ⟨fun m s => ∃ k : Nat, m = ordP p - k ∧ 1 ≤ k ∧ k ≤ ordP p ∧ s = [some (.dat (tupN p)), some (.dat (tupN (npow p k))), some (.dat (.int (k : Nat)))], ⟨_, 1, rfl, Nat.le_refl _, hpos, by rw [npow_one]; rfl⟩, ?_⟩
  rintro m s ⟨k, rfl, h1, h2, rfl⟩
  walk_at "pd"
  refine ⟨⟨by omega, by omega⟩, ?_⟩
  rw [upto_nat]
  walk_at "pd"
  have hpw : pw p (k : Nat) = npow p k := by unfold pw; rw [if_pos (by omega), Int.toNat_natCast]
  have hdv := hp.ord_pw k
  rw [hpw] at hdv
  by_cases hk : k = ordP p
  · rw [if_neg (by rw [hdv.mpr (by rw [hk]; exact Nat.dvd_refl _)]; simp)]
    rw [← hk] at h
    exact rt1 h
  · rw [if_pos (fun e => hk (Nat.le_antisymm h2 (Nat.le_of_dvd (by omega) (hdv.mp e))))]
    unfold t__law_order_b1
    walk_at "pd"
    have hb1 := hp.npow k
    refine ⟨npow p k, p, rfl, fun x hx => by have := hb1.lt x hx; rwa [npow_len] at this, by rw [npow_len]; exact hl, ?_⟩
    walk_at "pd"
    refine ⟨ordP p - (k + 1), by omega, k + 1, rfl, by omega, by omega, ?_⟩
    have e2 : put (npow p k) p = npow p (k + 1) := by
      refine ext_ap (by rw [put_len, npow_len, npow_len]) fun x hx => ?_
      rw [put_len, npow_len] at hx
      rw [ap_put (by rw [npow_len]; exact hx), ap_npow hx, ap_npow hx]; rfl
    rw [e2]; rfl
theorem vc__law_lots : ∀ ds Q, sp__law_lots ds Q → t__law_lots (fnEnds ds Q) (startD 5 ds) := by
  rintro ds Q ⟨p, rfl, hp, hl, h⟩
  change t__law_lots _ [some (.dat (tupN p)), none, none, none, none]
  unfold t__law_lots
  walk_at "pd"
  intro c
  refine fun b => ⟨⟨by omega, by omega⟩, ?_⟩
  have T := hp.trn
  rw [upto_natD]
  refine for_pre (List.range p.length) (fun i => .dat (.int (i : Nat))) (fun pre s => ∃ (o3 o4 : Option D), s = [some (.dat (tupN p)), some (.lst c (tupsL (lotsTo p.length (ap p) pre))), some (.dk b (dkN (lotsTo p.length (ap p) pre).flatten)), o3, o4])
    rfl ⟨none, none, rfl⟩ (fun _ _ _ => trivial) ?_ ?_
  · rintro pre x post s e ⟨o3, o4, rfl⟩
    have hx : x < p.length := List.mem_range.mp (by rw [e]; simp)
    have hlt : ∀ y ∈ pre, y < p.length := fun y hy => List.mem_range.mp (by rw [e]; simp [hy])
    have hsort : (pre ++ x :: post).Pairwise (· < ·) := by rw [← e]; exact List.pairwise_lt_range
    have hpx : ∀ y ∈ pre, y < x := fun y hy => (List.pairwise_append.mp hsort).2.2 y hy x List.mem_cons_self
    have hpre : ∀ y, y < x → y ∈ pre := fun y hy => by
      have : y ∈ pre ++ x :: post := by rw [← e]; exact List.mem_range.mpr (by omega)
      rcases List.mem_append.mp this with h | h
      · exact h
      · rcases List.mem_cons.mp h with h | h
        · omega
        · have := (List.pairwise_cons.mp (List.pairwise_append.mp hsort).2.1).1 y h
          omega
    unfold t__law_lots_b3
    walk_at "pd"
    intro a
    by_cases hs : x ∈ (lotsTo p.length (ap p) pre).flatten
    · obtain ⟨y, h1, h2, h3⟩ := (seen_iff T hlt).mp hs
      have hnl : least p.length (ap p) x = false := by
        refine Bool.eq_false_iff.mpr fun q => ?_
        have := T.least_uniq (hlt y h1) q h2 h3
        have := hpx y h1
        omega
      have e2 : lotsTo p.length (ap p) (pre ++ [x]) = lotsTo p.length (ap p) pre := by unfold lotsTo; rw [List.filter_append]; simp [hnl]
      rw [e2]
      refine ⟨fun k s => s = [some (.dat (tupN p)), some (.lst c (tupsL (lotsTo p.length (ap p) pre))), some (.dk b (dkN (lotsTo p.length (ap p) pre).flatten)), some (.dat (.int (x : Nat))), some (.lst a [])], ⟨0, rfl⟩, ?_⟩
      rintro k s rfl
      walk_at "pd"
      rw [look_dkN, if_neg (by simp [hs])]
      unfold t__law_lots_r2
      walk_at "pd"
      rw [if_neg (by simp)]
      exact ⟨_, _, rfl⟩
    · have hle : least p.length (ap p) x = true := by
        obtain ⟨m, h1, h2⟩ := T.ex_least x hx
        by_cases hm : m = x
        · subst hm; exact h2
        · have hmx : m ≤ x := least_iff.mp h2 x (T.back hx h1)
          exact absurd ((seen_iff T hlt).mpr ⟨m, hpre m (by omega), h2, T.back hx h1⟩) hs
      have e2 : lotsTo p.length (ap p) (pre ++ [x]) = lotsTo p.length (ap p) pre ++ [cyc p.length (ap p) x] := by unfold lotsTo; rw [List.filter_append, List.map_append]; simp [hle]
      rw [e2]
      generalize hS : (lotsTo p.length (ap p) pre).flatten = S at hs
      have hbound : S.length + per p.length (ap p) x ≤ p.length := by
        have nd := T.flat_nodup (hs := (pre ++ [x]).filter (least p.length (ap p))) (fun y hy => by
          obtain ⟨h1, h2⟩ := List.mem_filter.mp hy
          refine ⟨?_, h2⟩
          rcases List.mem_append.mp h1 with h | h
          · exact hlt y h
          · obtain rfl : y = x := by simpa using h
            exact hx) ((hsort.sublist (by simp)).imp (fun h => Nat.ne_of_lt h) |>.filter _)
        have := php p.length _ nd fun y hy => by
          obtain ⟨l, hl, hy⟩ := List.mem_flatten.mp hy
          obtain ⟨z, hz, rfl⟩ := List.mem_map.mp hl
          have hz' := (List.mem_filter.mp hz).1
          refine T.cyc_lt ?_ hy
          rcases List.mem_append.mp hz' with h | h
          · exact hlt z h
          · obtain rfl : z = x := by simpa using h
            exact hx
        have e3 : ((pre ++ [x]).filter (least p.length (ap p))).map (cyc p.length (ap p)) = lotsTo p.length (ap p) pre ++ [cyc p.length (ap p) x] := e2
        rw [e3, List.flatten_append, List.length_append, hS] at this
        simpa [cyc_len] using this
      have hnotS : ∀ m, it (ap p) m x ∉ S := fun m q => hs (by
        rw [← hS] at q ⊢
        obtain ⟨y, h1, h2, h3⟩ := (seen_iff T hlt).mp q
        exact (seen_iff T hlt).mpr ⟨y, h1, h2, T.cyc_trans (hlt y h1) h3 (T.back hx ((T.mem_cyc hx).mpr ⟨m, rfl⟩))⟩)
      refine ⟨fun k s => ∃ m, k = per p.length (ap p) x - m ∧ m ≤ per p.length (ap p) x ∧ s = [some (.dat (tupN p)), some (.lst c (tupsL (lotsTo p.length (ap p) pre))), some (.dk b (dkN (S ++ cycTo (ap p) x m))), some (.dat (.int (it (ap p) m x : Nat))), some (.lst a (intsL (cycTo (ap p) x m)))],
        ⟨_, 0, rfl, Nat.zero_le _, by simp [cycTo, intsL, it]⟩, ?_⟩
      rintro k s ⟨m, rfl, hm, rfl⟩
      walk_at "pd"
      rw [look_dkN]
      by_cases hlast : m = per p.length (ap p) x
      · have hin : it (ap p) m x ∈ S ++ cycTo (ap p) x m := by
          rw [hlast, (T.per_spec hx).1]
          exact List.mem_append_right _ (List.mem_map.mpr ⟨0, List.mem_range.mpr per_pos, rfl⟩)
        rw [if_neg (by simp [hin])]
        have ec : cycTo (ap p) x m = cyc p.length (ap p) x := by rw [hlast]; rfl
        rw [ec]
        unfold t__law_lots_r2
        walk_at "pd"
        have hlen : (lotsTo p.length (ap p) pre).length ≤ p.length := by
          unfold lotsTo
          rw [List.length_map]
          refine Nat.le_trans (List.length_filter_le ..) ?_
          have := congrArg List.length e
          simp at this; omega
        have hne : (intsL (cyc p.length (ap p) x)).isEmpty = false := by
          obtain ⟨r, hr⟩ := cyc_head (n := p.length) (f := ap p) x
          rw [hr]; rfl
        rw [if_pos (by simp [hne])]
        refine ⟨by rw [tupsL_len]; omega, ?_⟩
        rw [List.flatten_append, hS, tupsL_app, show [cyc p.length (ap p) x].flatten = cyc p.length (ap p) x by simp]
        exact ⟨_, _, rfl⟩
      · have hnin : it (ap p) m x ∉ S ++ cycTo (ap p) x m := by
          intro q
          rcases List.mem_append.mp q with q | q
          · exact hnotS m q
          · obtain ⟨i, hi, e4⟩ := List.mem_map.mp q
            have hi' := List.mem_range.mp hi
            exact (T.per_spec hx).2.2 (m - i) (by omega) (by omega) (T.cancel hx (by omega) e4)
        rw [if_pos (by simp [hnin])]
        unfold t__law_lots_b1
        walk_at "pd"
        have hTl : (S ++ cycTo (ap p) x m).length ≤ p.length := by
          rw [List.length_append]
          have : (cycTo (ap p) x m).length = m := by unfold cycTo; simp
          omega
        refine ⟨by rw [dkN_len]; omega, ?_⟩
        rw [store_dkN hnin]
        refine ⟨by have : (cycTo (ap p) x m).length = m := by unfold cycTo; simp
                   omega, ?_⟩
        refine ⟨_, ap_get (T.it_lt hx m), per p.length (ap p) x - (m + 1), by omega, m + 1, rfl, by omega, ?_⟩
        rw [cycTo_succ, List.append_assoc, intsL_app]; rfl
  · rintro s ⟨o3, o4, rfl⟩
    walk_at "pd"
    exact rt1 (h c)

end PD
set_option Elab.async false
set_option linter.all false
set_option maxRecDepth 100000
set_option maxHeartbeats 2000000
namespace PD
open PySem L2
local macro_rules | `(tactic| walk_at "pd") => `(tactic| try simp only [w_var, w_c, w_raw, w_e2, w_sI, w_sIc, w_tBl, w_boolW, w_intW, w_tupW, w_eqL, w_neL, w_isN, w_isNotN, w_isBB, w_isNotBB, w_tupO, w_lstO, w_seq, w_seqT, w_seqN, w_seqLi, w_seqB, it_tup, it_list, it_lst, w_lenT, w_lenL, w_lenBL, w_lenBD, w_inDkB, w_inTup, w_tru, w_truB, w_truI, w_truT, w_truL, w_truN, w_and, w_or, w_not, w_eAnd, w_eOr, w_eNot, w_if, w_chain, w_aNil, w_aCons, w_tup, w_lst, w_mkT0, w_mkT1, w_mkT2, w_mkT3, w_mkL0, w_mkL1, w_mkL2, w_call, w_s1, w_intF, w_own, w_out, w_neg, w_addI, w_addT, w_addL, w_mulI, w_mulL, w_dict0, w_lend0, w_lendB, w_lendD, w_lendL, w_back0, w_backB, w_backD, w_backL, w_sl, w_slT, w_slL, w_oNone, w_oSome, w_tupRg, w_lstRg, w_lenSet, w_tix, w_bm, w_tyM, w_app, w_insert, w_extend, w_next, w_seqS, w_break, w_cont, w_drop, w_ret, w_ifS, w_never, w_asg, w_gN, w_gT, w_isT, w_isTD, w_isTP, w_gs0, w_gs1, w_par, w_par2, w_gSub', w_subL, w_subO, w_subK, w_for, w_while, w_lc, w_rg1, w_rg2, w_as1I, w_as2I, w_enum, w_enW, upS_nil, upS_it, seen_dat, seen_lst, seen_lsD, seen_dk, seen_bor, ok_dat, ok_lst, ok_lsD, ok_dk, ok_bor, root_lst, root_lsD, root_dk, root_ins, getP_nil, setP_nil, rdS, ld_dat, ld_lst, ld_lsD, ld_dk, ld_bor, ty_lst, ty_lsD, ty_dk, List.getElem?_cons_zero, List.getElem?_cons_succ, List.set_cons_zero, List.set_cons_succ, Option.some.injEq, exists_eq_left', exists_eq_left, true_and, and_true, List.length_cons, List.length_nil, Nat.ble_eq, Nat.zero_add, Nat.reduceAdd, Nat.reduceLeDiff, List.map_cons, List.map_nil, ite_true, ite_false, Bool.false_eq_true, if_false, if_true, Bool.not_true, Bool.not_false, exists_eq, wipeD, Bool.and_true, Bool.and_false, Bool.or_true, Bool.or_false, decide_eq_true_eq, decide_true, decide_false, w_lenN, w_seqTN, w_ixN, w_eqNN, w_neNN, w_eqTT, w_neTT, w_eqII, w_neII, w_isiI, w_isiB, w_isiT, w_isiTN, w_tupWN, w_truTN, w_enWN, w_ixBL, w_ixL, w_ixO, w_ixK, w_ixT, tupN_of, intsL_len, Bool.not_eq_true', decide_eq_false_iff_not, not_true, not_false_iff, and_self, eq_self, ix4_0, ix4_1, ix4_2, ix4_3, getP_it1, w_mkLbox, List.nil_append, Bool.true_eq_false, w_sum, w_sumTN, w_seqTT, w_slTN, cut_from, cut_upto, w_all, w_any, w_sortI])

open PM
def sp_law : SpD := fun as Q => ∃ (d : D) (ns : List Int), as = [d] ∧ (d = .dat (.list (ns.map .int)) ∨ ∃ a, d = .lst a (ns.map .int)) ∧ ns.length ≤ 63 ∧ Q (.dat (.bool true)) as
def t_law_c1 : TTP := (tBl (e2 sGt (eCall (s1 sLen) (aCons (eVar 10) aNil)) (eC (.int 1))))
def t_law_c2 : TTP := (tBl (e2 sGt (e2 sIx (eVar 3) (eVar 9)) (e2 sIx (eVar 3) (eVar 11))))
def t_law_b3 : TSP := (tAsgD (e2 sAdd (eVar 8) (eCall (s1 sLen) (aCons (tLcD (iRg2 (aCons (e2 sAdd (eVar 9) (eC (.int 1))) (aCons (eVar 2) aNil))) (gN 11) t_law_c2 (eVar 11) [11]) aNil))) (gN 8))
def t_law_r4 : TSP := (tRetD (eAnd (e2 sEq (eOwn sp_sign (aCons (eVar 3) aNil)) (eIf (tBl (e2 sEq (e2 (sIc (fun _ j => 0 < j) fun i j => .int (i % j)) (eVar 8) (eC (.int 2))) (eC (.int 0)))) (eC (.int 1)) (eNeg (eC (.int 1))))) (e2 sEq (eOwn sp_sign (aCons (eOwn sp_then (aCons (eVar 3) (aCons (eVar 4) aNil))) aNil)) (e2 sMul (eOwn sp_sign (aCons (eVar 3) aNil)) (eOwn sp_sign (aCons (eVar 4) aNil))))))
def t_law_r5 : TSP := (tSeqD (tAsgD (eC (.int 0)) (gN 8)) (tSeqD (tForD (iRg1 (aCons (eVar 2) aNil)) (gN 9) t_law_b3) t_law_r4))
def t_law_r6 : TSP := (tSeqD (tAsgD (eOwn sp__law_lots (aCons (eVar 3) aNil)) (gN 7)) (tSeqD (tIfD (dOr (tBl (e2 sNe (eOwn sp_rounds (aCons (eVar 3) aNil)) (eCall (s1 sTupO) (aCons (tLcD (iSeq (eVar 7)) (gN 10) t_law_c1 (eVar 10) [10]) aNil)))) (tBl (e2 sNe (eOwn sp_sort (aCons (eVar 3) aNil)) (eCall (s1 sTupO) (aCons (eCall (s1 sSortI) (aCons (tLcD (iSeq (eVar 7)) (gN 10) tYesD (eCall (s1 sLen) (aCons (eVar 10) aNil)) [10]) aNil)) aNil))))) (tRetD (eC (.bool false))) tNextD) t_law_r5))
def t_law_r7 : TSP := (tSeqD (tAsgD (eOwn sp__law_order (aCons (eVar 3) aNil)) (gN 6)) (tSeqD (tIfD (dOr (tBl (e2 sNe (eOwn sp_order (aCons (eVar 3) aNil)) (eVar 6))) (dOr (tBl (e2 sNe (eOwn sp_power (aCons (eVar 3) (aCons (e2 sAdd (e2 sMul (eVar 6) (e2 (sIc CPow fun i j => .int (i ^ j.toNat)) (eC (.int 10)) (eC (.int 6)))) (eC (.int 1))) aNil))) (eVar 3))) (tBl (e2 sNe (eOwn sp_power (aCons (eVar 3) (aCons (e2 (sI fun i j => .int (i - j)) (e2 sMul (eNeg (eVar 6)) (e2 (sIc CPow fun i j => .int (i ^ j.toNat)) (eC (.int 10)) (eC (.int 6)))) (eC (.int 1))) aNil))) (eOwn sp__law_back (aCons (eVar 3) aNil)))))) (tRetD (eC (.bool false))) tNextD) t_law_r6))
def t_law_r8 : TSP := (tSeqD (tAsgD (e2 (sI fun i j => .int (i - j)) (eOwn sp__law_take (aCons (eVar 1) (aCons (eC (.int 81)) aNil))) (eC (.int 40))) (gN 5)) (tSeqD (tIfD (tBl (e2 sNe (eOwn sp_power (aCons (eVar 3) (aCons (eVar 5) aNil))) (eOwn sp__law_times (aCons (eVar 3) (aCons (eVar 5) aNil))))) (tRetD (eC (.bool false))) tNextD) t_law_r7))
def t_law_r9 : TSP := (tSeqD (tIfD (dOr (tBl (e2 sNe (eOwn sp_then (aCons (eVar 3) (aCons (eOwn sp_back (aCons (eVar 3) aNil)) aNil))) (eOwn sp_stay (aCons (eVar 2) aNil)))) (tBl (e2 sNe (eOwn sp_back (aCons (eOwn sp_then (aCons (eVar 3) (aCons (eVar 4) aNil))) aNil)) (eOwn sp_then (aCons (eOwn sp_back (aCons (eVar 4) aNil)) (aCons (eOwn sp_back (aCons (eVar 3) aNil)) aNil)))))) (tRetD (eC (.bool false))) tNextD) t_law_r8)
def t_law_r10 : TSP := (tSeqD (tIfD (dOr (tBl (e2 sNe (eOwn sp_stay (aCons (eVar 2) aNil)) (eTupRg (eVar 2)))) (dOr (tBl (e2 sIsNot (eOwn sp_is_turning (aCons (eVar 2) (aCons (eVar 3) aNil))) (eC (.bool true)))) (dOr (tBl (e2 sNe (eOwn sp_then (aCons (eVar 3) (aCons (eVar 4) aNil))) (eOwn sp__law_put (aCons (eVar 3) (aCons (eVar 4) aNil))))) (tBl (e2 sNe (eOwn sp_back (aCons (eVar 3) aNil)) (eOwn sp__law_back (aCons (eVar 3) aNil))))))) (tRetD (eC (.bool false))) tNextD) t_law_r9)
def t_law_r11 : TSP := (tSeqD (tAsgD (eTup (aCons (eOwn sp__law_turning (aCons (eVar 1) (aCons (eVar 2) aNil))) (aCons (eOwn sp__law_turning (aCons (eVar 1) (aCons (eVar 2) aNil))) aNil))) (gT 2 (gsCons (gN 3) (gsCons (gN 4) gsNil)))) (tSeqD (tIfD (tBl (e2 sGt (eVar 2) (eC (.int 9)))) (tAsgD (eOwn sp__law_round (aCons (eVar 2) (aCons (eSl (eVar 3) oNone (oSome (e2 sAdd (eC (.int 1)) (eOwn sp__law_take (aCons (eVar 1) (aCons (eC (.int 6)) aNil)))))) aNil))) (gN 3)) tNextD) t_law_r10))
def t_law_r12 : TSP := (tSeqD (tAsgD (eIf (tBl (e2 sEq (eOwn sp__law_take (aCons (eVar 1) (aCons (eC (.int 6)) aNil))) (eC (.int 0)))) (eC (.int 20)) (eOwn sp__law_take (aCons (eVar 1) (aCons (eC (.int 13)) aNil)))) (gN 2)) t_law_r11)
def t_law : TSP := (tSeqD (tAsgD (eOwn sp__law_box (aCons (eVar 0) aNil)) (gN 1)) t_law_r12)
theorem signP_eq {p : List Nat} (hp : IsP p) : signP p = if inv p.length (ap p) % 2 = 0 then 1 else -1 := by
  have := cyp_parity _ _ hp.trn rfl
  unfold signP
  have e : ((lensP p).map fun l => l - 1).sum = cyp p.length (ap p) := rfl
  rw [e, this]
theorem signP_put {p q : List Nat} (hp : IsP p) (hq : IsP q) (hl : p.length = q.length) : signP (put p q) = signP p * signP q := by
  rw [signP_eq (hp.puts hq hl), signP_eq hp, signP_eq hq, put_len]
  have U := hq.trn
  rw [← hl] at U
  obtain ⟨k, hk⟩ := inv_comp hp.trn U
  have e : inv p.length (ap (put p q)) = inv p.length (fun x => ap q (ap p x)) := inv_congr fun x hx => ap_put hx
  rw [e, ← hl]
  by_cases a : inv p.length (ap p) % 2 = 0 <;> by_cases b : inv p.length (ap q) % 2 = 0
  · rw [if_pos a, if_pos b, if_pos (by omega)]; rfl
  · rw [if_pos a, if_neg b, if_neg (by omega)]; rfl
  · rw [if_neg a, if_pos b, if_neg (by omega)]; rfl
  · rw [if_neg a, if_neg b, if_pos (by omega)]; rfl
theorem filter_sm (n : Nat) (g : Nat → Bool) : ((List.range n).filter g).length = sm n fun y => if g y = true then 1 else 0 := by
  induction n with
  | zero => rfl
  | succ n ih =>
    rw [List.range_succ, List.filter_append, List.length_append, ih, sm_succ]
    congr 1
    by_cases h : g n = true
    · simp [h]
    · simp [h]
theorem upto_filter (x n : Nat) (hx : x < n) (g : Int → Bool) : ((upto ((x : Int) + 1) ((n : Int) - ((x : Int) + 1)).toNat).filter g).length = ((List.range n).filter fun y => decide (x < y) && g (y : Int)).length := by
  obtain ⟨r, rfl⟩ : ∃ r, n = (x + 1) + r := ⟨n - (x + 1), by omega⟩
  have e0 : (((x + 1 + r : Nat) : Int) - ((x : Int) + 1)).toNat = r := by omega
  rw [e0, List.range_add, List.filter_append, List.length_append]
  have e1 : (List.range (x + 1)).filter (fun y => decide (x < y) && g (y : Int)) = [] := List.filter_eq_nil_iff.mpr fun y hy q => by
    have := List.mem_range.mp hy
    have h2 := (Bool.and_eq_true_iff.mp q).1
    simp at h2; omega
  rw [e1, List.length_nil, Nat.zero_add]
  unfold upto
  rw [List.filter_map, List.length_map, List.filter_map, List.length_map]
  refine congrArg List.length (List.filter_congr fun i _ => ?_)
  show g ((x : Int) + 1 + (i : Nat)) = (decide (x < x + 1 + i) && g ((x + 1 + i : Nat) : Int))
  rw [decide_eq_true (by omega), Bool.true_and]
  congr 1
theorem inv_row {p : List Nat} (x n : Nat) (hx : x < n) : ((upto ((x : Int) + 1) ((n : Int) - ((x : Int) + 1)).toNat).filter fun y => decide (ap p y.toNat < ap p x)).length = sm n fun y => if x < y then crs (ap p) x y else 0 := by
  rw [upto_filter x n hx, filter_sm]
  refine sm_congr fun y _ => ?_
  unfold crs
  rw [Int.toNat_natCast]
  by_cases h1 : x < y
  · by_cases h2 : ap p y < ap p x
    · rw [if_pos (by simp [h1, h2]), if_pos h1, if_pos (.inl ⟨h1, h2⟩)]
    · rw [if_neg (by simp [h2]), if_pos h1, if_neg (by omega)]
  · rw [if_neg (by simp [h1]), if_neg h1]
theorem law_tail {E : PEnds} {o0 : Option D} (hE : ∀ s, E.rt (.dat (.bool true)) (o0 :: s)) {a : Addr} {xs : List D} (hb : BoxOk xs) {n : Nat} (hn : n ≤ 20) {p q : List Nat} (hp : IsP p) (hpl : p.length = n) (hq : IsP q) (hql : q.length = n) :
    t_law_r10 E [o0, some (.lsD a xs), some (.dat (.int (n : Nat))), some (.dat (tupN p)), some (.dat (tupN q)), none, none, none, none, none, none, none] := by
  have ok : ∀ {q : List Nat}, q.length = n → q.length ≤ 24 := fun h => by omega
  have hpq : p.length = q.length := by omega
  unfold t_law_r10
  walk_at "pd"
  refine ⟨n, rfl, by omega, ?_⟩
  walk_at "pd"
  refine ⟨⟨by omega, by omega⟩, ?_⟩
  rw [upto_nat]
  walk_at "pd"
  refine ⟨p, by rw [hpl], hp, ok hpl, ?_⟩
  walk_at "pd"
  refine ⟨p, q, rfl, hp, hq, hpq, ok hpl, ?_⟩
  walk_at "pd"
  refine ⟨p, q, rfl, fun x hx => by rw [← hpq]; exact hp.lt x hx, by omega, ?_⟩
  walk_at "pd"
  refine ⟨p, rfl, hp, ok hpl, ?_⟩
  walk_at "pd"
  refine ⟨p, rfl, hp, by omega, ?_⟩
  walk_at "pd"
  unfold t_law_r9
  walk_at "pd"
  refine ⟨p, rfl, hp, ok hpl, ?_⟩
  walk_at "pd"
  refine ⟨p, bk p, rfl, hp, hp.bks, by rw [bk_len], ok hpl, ?_⟩
  walk_at "pd"
  refine ⟨n, rfl, by omega, ?_⟩
  walk_at "pd"
  rw [if_neg (by simp [hp.put_bk, hpl])]
  refine ⟨p, q, rfl, hp, hq, hpq, ok hpl, ?_⟩
  walk_at "pd"
  refine ⟨put p q, rfl, hp.puts hq hpq, ok (by rw [put_len, hpl]), ?_⟩
  walk_at "pd"
  refine ⟨q, rfl, hq, ok hql, ?_⟩
  walk_at "pd"
  refine ⟨p, rfl, hp, ok hpl, ?_⟩
  walk_at "pd"
  refine ⟨bk q, bk p, rfl, hq.bks, hp.bks, by rw [bk_len, bk_len, hpq], ok (by rw [bk_len, hql]), ?_⟩
  walk_at "pd"
  have hbb : bk (put p q) = put (bk q) (bk p) := ((hp.puts hq hpq).bk_uniq (by rw [put_len, bk_len, put_len, hpq]) fun x hx => by
    rw [put_len] at hx
    have h1 := hp.ap_lt hx
    have h2 := hq.ap_lt (x := ap p x) (by omega)
    rw [ap_put hx, ap_put (by rw [bk_len]; exact h2), hq.ap_bk_ap (by omega), hp.ap_bk_ap hx]).symm
  rw [if_neg (by simp [hbb])]
  unfold t_law_r8
  walk_at "pd"
  refine ⟨a, xs, 81, rfl, hb, by decide, by decide, fun xs1 v hb1 v0 v1 => ?_⟩
  walk_at "pd"
  have hk2 : (v - 40).natAbs ≤ 1000 := by omega
  generalize v - 40 = k at hk2
  refine ⟨p, k, rfl, hp, ok hpl, ?_⟩
  walk_at "pd"
  refine ⟨p, k, rfl, hp, by omega, by omega, ?_⟩
  walk_at "pd"
  unfold t_law_r7
  walk_at "pd"
  refine ⟨p, rfl, hp, by omega, ?_⟩
  walk_at "pd"
  refine ⟨p, rfl, hp, ok hpl, ?_⟩
  walk_at "pd"
  refine ⟨⟨by decide, by decide, by decide⟩, .inr ⟨by decide, by decide⟩, p, _, rfl, hp, ok hpl, ?_⟩
  walk_at "pd"
  have h6 : (10 : Int) ^ Int.toNat 6 = 1000000 := by decide
  rw [h6]
  have hord : ∀ j : Int, pw p ((ordP p : Int) * j) = List.range p.length := fun j => by
    refine ext_ap (by rw [pw_len, List.length_range]) fun x hx => ?_
    rw [pw_len] at hx
    rw [ap_range hx, hp.pw_fix _ hx, Int.natAbs_mul, Int.natAbs_natCast]
    exact Nat.dvd_trans (ord_dvd.mp (Nat.dvd_refl _) _ (hp.trn.lens_mem.mpr ⟨x, hx, rfl⟩)) (Nat.dvd_mul_right _ _)
  have hp1 : pw p ((ordP p : Int) * 1000000 + 1) = p := by
    rw [← hp.put_pw, hord, range_put (pw_len _ _)]
    exact ext_ap (pw_len _ _) fun x hx => by rw [pw_len] at hx; rw [hp.pw_fix_one hx]
  have hp2 : pw p (-(ordP p : Int) * 1000000 - 1) = bk p := by
    rw [show -(ordP p : Int) * 1000000 - 1 = -((ordP p : Int) * 1000000 + 1) by omega, hp.bk_pw, hp1]
  rw [if_neg (by simp [hp1])]
  refine ⟨⟨by decide, by decide, by decide⟩, .inr ⟨by decide, by decide⟩, p, _, rfl, hp, ok hpl, ?_⟩
  walk_at "pd"
  rw [hp2]
  refine ⟨p, rfl, hp, by omega, ?_⟩
  walk_at "pd"
  unfold t_law_r6
  walk_at "pd"
  refine ⟨p, rfl, hp, by omega, fun b => ?_⟩
  walk_at "pd"
  refine ⟨p, rfl, hp, ok hpl, ?_⟩
  walk_at "pd"
  have hll := lots_len (p := p)
  refine lc_filter (lotsP p) (fun l => .dat (tupN l)) (fun l => decide (1 < l.length)) tupN (tupsD _) (by omega) (by walk_at "pd") (fun l hm k1 k2 h1 h2 => ?_) fun c => ?_
  · unfold t_law_c1
    walk_at "pd"
    by_cases hl1 : 1 < l.length
    · rw [if_pos (by omega)]; exact h1 (by simp [hl1]) _ rfl
    · rw [if_neg (by omega)]; exact h2 (by simp [hl1]) _ rfl
  walk_at "pd"
  rw [show PyData.tuple (((lotsP p).filter fun l => decide (1 < l.length)).map tupN) = tupT (rndsP p) from rfl]
  walk_at "pd"
  refine ⟨p, rfl, hp, ok hpl, ?_⟩
  walk_at "pd"
  refine lc_all (lotsP p) (fun l => .dat (tupN l)) (fun l => .int (l.length : Nat)) (tupsD _) (by omega) (by walk_at "pd") (fun l hm k1 hk => ?_) fun c2 => ?_
  · walk_at "pd"
    exact hk _ rfl
  have e : (lotsP p).map (fun l => PyData.int (l.length : Nat)) = intsL (lensP p) := by unfold intsL lensP lens lotsP; rw [List.map_map]; rfl
  rw [e]
  walk_at "pd"
  intro c3
  rw [if_neg (by unfold sortP; simp)]
  unfold t_law_r5
  walk_at "pd"
  refine ⟨⟨by omega, by omega⟩, ?_⟩
  rw [upto_natD]
  refine for_pre (List.range n) (fun i => .dat (.int (i : Nat))) (fun pre s => ∃ o9, s = [o0, some (.lsD a xs1), some (.dat (.int (n : Nat))), some (.dat (tupN p)), some (.dat (tupN q)), some (.dat (.int k)), some (.dat (.int (ordP p : Nat))), some (.lst b (tupsL (lotsP p))),
    some (.dat (.int ((pre.map fun x => sm n fun y => if x < y then crs (ap p) x y else 0).sum : Nat))), o9, none, none]) rfl ⟨none, rfl⟩ (fun _ _ _ => trivial) ?_ ?_
  · rintro pre x post s e ⟨o9, rfl⟩
    have hx : x < n := List.mem_range.mp (by rw [e]; simp)
    unfold t_law_b3
    walk_at "pd"
    refine ⟨⟨by omega, by omega, by omega, by omega⟩, ?_⟩
    refine lc_filter (upto ((x : Int) + 1) ((n : Int) - ((x : Int) + 1)).toNat) (fun y => .dat (.int y)) (fun y => decide (ap p y.toNat < ap p x)) (fun y => .int y) rfl (by rw [upto_len]; omega) trivial (fun y hy k1 k2 h1 h2 => ?_) fun c5 => ?_
    · obtain ⟨i, hi, rfl⟩ := List.mem_map.mp hy
      have hi' := List.mem_range.mp hi
      obtain ⟨y, hy⟩ : ∃ y : Nat, (x : Int) + 1 + (i : Nat) = (y : Nat) := ⟨x + 1 + i, by omega⟩
      rw [hy] at h1 h2 ⊢
      rw [Int.toNat_natCast] at h1 h2
      have hyn : y < n := by omega
      unfold t_law_c2
      walk_at "pd"
      refine ⟨_, ap_get (by omega), _, ap_get (by omega), ?_⟩
      by_cases hc : ap p y < ap p x
      · rw [if_pos (by omega)]; exact h1 (by simp [hc]) _ rfl
      · rw [if_neg (by omega)]; exact h2 (by simp [hc]) _ rfl
    · walk_at "pd"
      rw [List.length_map, inv_row x n hx, List.map_append, List.sum_append]
      refine ⟨some (.dat (.int (x : Nat))), ?_⟩
      simp
  · rintro s ⟨o9, rfl⟩
    have ei : ((List.range n).map fun x => sm n fun y => if x < y then crs (ap p) x y else 0).sum = inv n (ap p) := rfl
    rw [ei]
    unfold t_law_r4
    walk_at "pd"
    refine ⟨p, rfl, hp, ok hpl, ?_⟩
    have hs := signP_eq hp
    rw [hpl] at hs
    walk_at "pd"
    refine ⟨by decide, ?_⟩
    have fin : sp_then [D.dat (tupN p), D.dat (tupN q)] = sp_then [D.dat (tupN p), D.dat (tupN q)] := rfl
    by_cases hm : inv n (ap p) % 2 = 0
    · rw [if_pos (by omega)]
      rw [if_pos hm] at hs
      rw [hs]
      walk_at "pd"
      refine ⟨p, q, rfl, hp, hq, hpq, ok hpl, ?_⟩
      walk_at "pd"
      refine ⟨put p q, rfl, hp.puts hq hpq, ok (by rw [put_len, hpl]), ?_⟩
      walk_at "pd"
      refine ⟨p, rfl, hp, ok hpl, ?_⟩
      walk_at "pd"
      refine ⟨q, rfl, hq, ok hql, ?_⟩
      walk_at "pd"
      refine ⟨by rw [hs]; exact .inl ⟨by decide, by decide⟩, ?_⟩
      rw [signP_put hp hq hpq, decide_eq_true rfl]
      exact hE _
    · rw [if_neg (by omega)]
      rw [if_neg hm] at hs
      rw [hs]
      walk_at "pd"
      refine ⟨p, q, rfl, hp, hq, hpq, ok hpl, ?_⟩
      walk_at "pd"
      refine ⟨put p q, rfl, hp.puts hq hpq, ok (by rw [put_len, hpl]), ?_⟩
      walk_at "pd"
      refine ⟨p, rfl, hp, ok hpl, ?_⟩
      walk_at "pd"
      refine ⟨q, rfl, hq, ok hql, ?_⟩
      walk_at "pd"
      refine ⟨by rw [hs]; exact .inl ⟨by decide, by decide⟩, ?_⟩
      rw [signP_put hp hq hpq, decide_eq_true rfl]
      exact hE _
theorem law_mid {E : PEnds} {o0 : Option D} (hE : ∀ s, E.rt (.dat (.bool true)) (o0 :: s)) {a : Addr} {xs : List D} (hb : BoxOk xs) {n : Nat} (hn : n ≤ 20) :
    t_law_r11 E [o0, some (.lsD a xs), some (.dat (.int (n : Nat))), none, none, none, none, none, none, none, none, none] := by
  unfold t_law_r11
  walk_at "pd"
  refine ⟨a, xs, n, rfl, hb, by omega, fun xs2 p hb2 hp hpl => ?_⟩
  walk_at "pd"
  refine ⟨a, xs2, n, rfl, hb2, by omega, fun xs3 q hb3 hq hql => ?_⟩
  walk_at "pd"
  by_cases h9 : (9 : Int) < n
  · rw [if_pos h9]
    refine ⟨a, xs3, 6, rfl, hb3, by decide, by decide, fun xs4 v hb4 v0 v1 => ?_⟩
    walk_at "pd"
    obtain ⟨k, hk⟩ : ∃ k : Nat, 1 + v = (k : Nat) := ⟨(1 + v).toNat, by omega⟩
    rw [hk]
    walk_at "pd"
    have hnd : (p.take k).Nodup := hp.nd.sublist (List.take_sublist k p)
    have hlt : ∀ x ∈ p.take k, x < n := fun x hx => by rw [← hpl]; exact hp.lt x (List.mem_of_mem_take hx)
    refine ⟨n, p.take k, rfl, hnd, hlt, by omega, ?_⟩
    walk_at "pd"
    exact law_tail hE hb4 hn (isP_round hnd hlt) (roundP_len _ _) hq hql
  · rw [if_neg h9]
    exact law_tail hE hb3 hn hp hpl hq hql
theorem law_body {E : PEnds} {o0 : Option D} (hE : ∀ s, E.rt (.dat (.bool true)) (o0 :: s)) {a : Addr} {xs : List D} (hb : BoxOk xs) :
    t_law_r12 E [o0, some (.lsD a xs), none, none, none, none, none, none, none, none, none, none] := by
  unfold t_law_r12
  walk_at "pd"
  refine ⟨a, xs, 6, rfl, hb, by decide, by decide, fun xs1 v hb1 h0 h1 => ?_⟩
  walk_at "pd"
  by_cases hv : v = 0
  · rw [if_pos hv]
    exact law_mid (n := 20) hE hb1 (by omega)
  · rw [if_neg hv]
    refine ⟨a, xs1, 13, rfl, hb1, by decide, by decide, fun xs2 v hb2 h0 h1 => ?_⟩
    obtain ⟨n, rfl⟩ : ∃ n : Nat, v = (n : Nat) := ⟨v.toNat, by omega⟩
    walk_at "pd"
    exact law_mid hE hb2 (by omega)
theorem vc_law : ∀ ds Q, sp_law ds Q → t_law (fnEnds ds Q) (startD 12 ds) := by
  rintro ds Q ⟨d, ns, rfl, hd, hl, h⟩
  rcases hd with rfl | ⟨a, rfl⟩
  · change t_law _ [some (.dat (.list (ns.map .int))), none, none, none, none, none, none, none, none, none, none, none]
    unfold t_law
    walk_at "pd"
    refine ⟨_, ns, rfl, .inl rfl, hl, fun b xs hb => ?_⟩
    walk_at "pd"
    exact law_body (fun s => rt1 h) hb
  · change t_law _ [some (.lst a (ns.map .int)), none, none, none, none, none, none, none, none, none, none, none]
    unfold t_law
    walk_at "pd"
    refine ⟨_, ns, rfl, .inr ⟨a, rfl⟩, hl, fun b xs hb => ?_⟩
    walk_at "pd"
    exact law_body (fun s => rtL h) hb

end PD
set_option Elab.async false
set_option linter.all false
set_option maxRecDepth 100000
set_option maxHeartbeats 4000000
namespace TT
open PySem L2 PD
def topS (i : Nat) : Stmt := PySem.Challenge.pw_turnbook_k01_turnings_point_by_point.main.body.getD i (.Pass ⟨0, 0, 0, 0⟩)
theorem len_is_number : ∀ ds Q, sp_is_number ds Q → ds.length = 1 := by
  rintro ds Q ⟨_, rfl, _⟩
  rfl
theorem len_is_turning : ∀ ds Q, sp_is_turning ds Q → ds.length = 2 := by
  rintro ds Q ⟨_, rfl, _⟩
  rfl
theorem len_check_some : ∀ ds Q, sp_check_some ds Q → ds.length = 1 := by
  rintro ds Q ⟨_, rfl, _⟩
  rfl
theorem len_stay : ∀ ds Q, sp_stay ds Q → ds.length = 1 := by
  rintro ds Q ⟨_, rfl, _⟩
  rfl
theorem len_put : ∀ ds Q, sp_put ds Q → ds.length = 2 := by
  rintro ds Q ⟨_, _, rfl, _⟩
  rfl
theorem len_turned_back : ∀ ds Q, sp_turned_back ds Q → ds.length = 1 := by
  rintro ds Q ⟨_, rfl, _⟩
  rfl
theorem len_then : ∀ ds Q, sp_then ds Q → ds.length = 2 := by
  rintro ds Q ⟨_, _, rfl, _⟩
  rfl
theorem len_back : ∀ ds Q, sp_back ds Q → ds.length = 1 := by
  rintro ds Q ⟨_, rfl, _⟩
  rfl
theorem len_power : ∀ ds Q, sp_power ds Q → ds.length = 2 := by
  rintro ds Q ⟨_, _, rfl, _⟩
  rfl
theorem len_lots : ∀ ds Q, sp_lots ds Q → ds.length = 1 := by
  rintro ds Q ⟨_, rfl, _⟩
  rfl
theorem len_rounds : ∀ ds Q, sp_rounds ds Q → ds.length = 1 := by
  rintro ds Q ⟨_, rfl, _⟩
  rfl
theorem len_common : ∀ ds Q, sp_common ds Q → ds.length = 2 := by
  rintro ds Q ⟨_, _, rfl, _⟩
  rfl
theorem len_order : ∀ ds Q, sp_order ds Q → ds.length = 1 := by
  rintro ds Q ⟨_, rfl, _⟩
  rfl
theorem len_sort : ∀ ds Q, sp_sort ds Q → ds.length = 1 := by
  rintro ds Q ⟨_, rfl, _⟩
  rfl
theorem len_sign : ∀ ds Q, sp_sign ds Q → ds.length = 1 := by
  rintro ds Q ⟨_, rfl, _⟩
  rfl
theorem len__law_box : ∀ ds Q, sp__law_box ds Q → ds.length = 1 := by
  rintro ds Q ⟨_, _, rfl, _⟩
  rfl
theorem len__law_take : ∀ ds Q, sp__law_take ds Q → ds.length = 2 := by
  rintro ds Q ⟨_, _, _, rfl, _⟩
  rfl
theorem len__law_turning : ∀ ds Q, sp__law_turning ds Q → ds.length = 2 := by
  rintro ds Q ⟨_, _, _, rfl, _⟩
  rfl
theorem len__law_put : ∀ ds Q, sp__law_put ds Q → ds.length = 2 := by
  rintro ds Q ⟨_, _, rfl, _⟩
  rfl
theorem len__law_back : ∀ ds Q, sp__law_back ds Q → ds.length = 1 := by
  rintro ds Q ⟨_, rfl, _⟩
  rfl
theorem len__law_round : ∀ ds Q, sp__law_round ds Q → ds.length = 2 := by
  rintro ds Q ⟨_, _, rfl, _⟩
  rfl
theorem len__law_times : ∀ ds Q, sp__law_times ds Q → ds.length = 2 := by
  rintro ds Q ⟨_, _, rfl, _⟩
  rfl
theorem len__law_lots : ∀ ds Q, sp__law_lots ds Q → ds.length = 1 := by
  rintro ds Q ⟨_, rfl, _⟩
  rfl
theorem len__law_order : ∀ ds Q, sp__law_order ds Q → ds.length = 1 := by
  rintro ds Q ⟨_, rfl, _⟩
  rfl
theorem len_law : ∀ ds Q, sp_law ds Q → ds.length = 1 := by
  rintro ds Q ⟨_, _, rfl, _⟩
  rfl
section
variable {P : Program} {w : World} {K : PySem.W.Frag} {mg : Str → Option Value} {base : Heap}
abbrev s_is_number : Stmt := topS 5
theorem sc_is_number : FnScope ["x"] ["x"] (defScope s_is_number) := ⟨rfl, rfl, rfl, by decide +kernel, rfl, by decide +kernel, by decide +kernel⟩
theorem ok_is_number {f : Addr} {fd : FuncData} (F : Fun K "is_number" "is_number" s_is_number f fd) (hm : mg "is_number" = some (.ref f)) (hk : PySem.W.keepIn K (.ref f) = true) (hb : Binds K fd ["x"] []) (z_bool : mg "bool" = none) (z_isinstance : mg "isinstance" = none) (z_int : mg "int" = none) : Own P w K mg base 1 "is_number" ["x"] sp_is_number := by
  have S := sc_is_number
  exact ⟨f, fd, fnD F S (by decide) len_is_number (fun cdv A outer s H E hr => show PSsd _ _ t_is_number from (dss_one (ds_ret (d_and (d_callB call_isi sem_isi rfl z_isinstance b_isinstance (da_cons (dv 0) (da_cons (d_bltn (v := .ty "int") rfl z_int b_int rfl) da_nil))) (d_one (d_not (d_callB call_isi sem_isi rfl z_isinstance b_isinstance (da_cons (dv 0) (da_cons (d_bltn (v := .ty "bool") rfl z_bool b_bool rfl) da_nil))))))))) vc_is_number, hm, hk, hb⟩
abbrev s_is_turning : Stmt := topS 6
theorem sc_is_turning : FnScope ["n", "x", "one"] ["n", "x"] (defScope s_is_turning) := ⟨rfl, rfl, rfl, by decide +kernel, rfl, by decide +kernel, by decide +kernel⟩
theorem ok_is_turning {f : Addr} {fd : FuncData} (F : Fun K "is_turning" "is_turning" s_is_turning f fd) (hm : mg "is_turning" = some (.ref f)) (hk : PySem.W.keepIn K (.ref f) = true) (hb : Binds K fd ["n", "x"] []) (z_len : mg "len" = none) (z_tuple : mg "tuple" = none) (z_isinstance : mg "isinstance" = none) (z_all : mg "all" = none) (z_set : mg "set" = none) {tk_MOST_POINTS : Tok} (c_MOST_POINTS : mg "MOST_POINTS" = some (.int 24 tk_MOST_POINTS)) (O_is_number : Own P w K mg base 1 "is_number" ["x"] sp_is_number) : Own P w K mg base 2 "is_turning" ["n", "x"] sp_is_turning := by
  have S := sc_is_turning
  exact ⟨f, fd, fnD F S (by decide) len_is_turning (fun cdv A outer s H E hr => show PSsd _ _ t_is_turning from (dss_cons (ds_if (dw_pt (dw_or (dt_not (dt_tru (d_callB call_isi sem_isi rfl z_isinstance b_isinstance (da_cons (dv 1) (da_cons (d_bltn (v := .ty "tuple") rfl z_tuple b_tuple rfl) da_nil))))) (dw_or (dt_ne hr.units (d_callB call_len1 (sem_1 sem_len) rfl z_len b_len (da_cons (dv 1) da_nil)) (dv 0)) (dw_or1 (dt_not (dt_chainI op_le op_le d_int (dv 0) (d_globI rfl c_MOST_POINTS))))))) (dss_one (ds_ret d_bl)) dss_nil) (dss_cons (ds_if (dt_not (dt_tru (d_callB (call_all1 rfl) (sem_1 sem_all) rfl z_all b_all (da_cons (d_lc (own := [("one", 2)]) rfl S.nd (di_seq (dv 1)) (blkOk_by (by first | decide +kernel | rfl)) (by decide) (fun _ _ _ _ _ => (dgn 2 S.nd)) (fun _ _ _ _ _ => dts_nil) (fun _ _ _ _ _ => (d_and (d_fn O_is_number (hr.mono (by decide)) rfl (da_cons (dv 2) da_nil)) (d_one (d_chainI op_le op_lt d_int (dv 2) (dv 0)))))) da_nil)))) (dss_one (ds_ret d_bl)) dss_nil) (dss_one (ds_ret (d_eq hr.units (d_lenSet rfl z_len rfl z_set (dv 1)) (dv 0))))))) vc_is_turning, hm, hk, hb⟩
abbrev s_check_some : Stmt := topS 7
theorem sc_check_some : FnScope ["p"] ["p"] (defScope s_check_some) := ⟨rfl, rfl, rfl, by decide +kernel, rfl, by decide +kernel, by decide +kernel⟩
theorem ok_check_some {f : Addr} {fd : FuncData} (F : Fun K "check_some" "check_some" s_check_some f fd) (hm : mg "check_some" = some (.ref f)) (hk : PySem.W.keepIn K (.ref f) = true) (hb : Binds K fd ["p"] []) (z_len : mg "len" = none) (z_tuple : mg "tuple" = none) (z_isinstance : mg "isinstance" = none) (O_is_turning : Own P w K mg base 2 "is_turning" ["n", "x"] sp_is_turning) : Own P w K mg base 3 "check_some" ["p"] sp_check_some := by
  have S := sc_check_some
  exact ⟨f, fd, fnD F S (by decide) len_check_some (fun cdv A outer s H E hr => show PSsd _ _ t_check_some from (dss_one (ds_if (dw_pt (dw_or (dt_not (dt_tru (d_callB call_isi sem_isi rfl z_isinstance b_isinstance (da_cons (dv 0) (da_cons (d_bltn (v := .ty "tuple") rfl z_tuple b_tuple rfl) da_nil))))) (dw_or1 (dt_not (dt_tru (d_fn O_is_turning (hr.mono (by decide)) rfl (da_cons (d_callB call_len1 (sem_1 sem_len) rfl z_len b_len (da_cons (dv 0) da_nil)) (da_cons (dv 0) da_nil)))))))) dss_never dss_nil))) vc_check_some, hm, hk, hb⟩
abbrev s_stay : Stmt := topS 8
theorem sc_stay : FnScope ["n"] ["n"] (defScope s_stay) := ⟨rfl, rfl, rfl, by decide +kernel, rfl, by decide +kernel, by decide +kernel⟩
theorem ok_stay {f : Addr} {fd : FuncData} (F : Fun K "stay" "stay" s_stay f fd) (hm : mg "stay" = some (.ref f)) (hk : PySem.W.keepIn K (.ref f) = true) (hb : Binds K fd ["n"] []) (z_tuple : mg "tuple" = none) (z_range : mg "range" = none) : Own P w K mg base 1 "stay" ["n"] sp_stay := by
  have S := sc_stay
  exact ⟨f, fd, fnD F S (by decide) len_stay (fun cdv A outer s H E hr => show PSsd _ _ t_stay from (dss_one (ds_ret (d_tupRg rfl rfl z_tuple rfl z_range (dv 0))))) vc_stay, hm, hk, hb⟩
abbrev s_put : Stmt := topS 9
theorem sc_put : FnScope ["p", "q", "x"] ["p", "q"] (defScope s_put) := ⟨rfl, rfl, rfl, by decide +kernel, rfl, by decide +kernel, by decide +kernel⟩
theorem ok_put {f : Addr} {fd : FuncData} (F : Fun K "put" "put" s_put f fd) (hm : mg "put" = some (.ref f)) (hk : PySem.W.keepIn K (.ref f) = true) (hb : Binds K fd ["p", "q"] []) (z_tuple : mg "tuple" = none) : Own P w K mg base 1 "put" ["p", "q"] sp_put := by
  have S := sc_put
  exact ⟨f, fd, fnD F S (by decide) len_put (fun cdv A outer s H E hr => show PSsd _ _ t_put from (dss_one (ds_ret (d_callTy call_tupO (sem_1 sem_tupO) rfl z_tuple b_tuple (da_cons (d_lc (own := [("x", 2)]) rfl S.nd (di_seq (dv 0)) (blkOk_by (by first | decide +kernel | rfl)) (by decide) (fun _ _ _ _ _ => (dgn 2 S.nd)) (fun _ _ _ _ _ => dts_nil) (fun _ _ _ _ _ => (d_ix (hu1 hr.units) (dv 1) (dv 2)))) da_nil))))) vc_put, hm, hk, hb⟩
abbrev s_turned_back : Stmt := topS 10
theorem sc_turned_back : FnScope ["p", "out", "x", "y"] ["p"] (defScope s_turned_back) := ⟨rfl, rfl, rfl, by decide +kernel, rfl, by decide +kernel, by decide +kernel⟩
theorem ok_turned_back {f : Addr} {fd : FuncData} (F : Fun K "turned_back" "turned_back" s_turned_back f fd) (hm : mg "turned_back" = some (.ref f)) (hk : PySem.W.keepIn K (.ref f) = true) (hb : Binds K fd ["p"] []) (z_len : mg "len" = none) (z_enumerate : mg "enumerate" = none) (z_tuple : mg "tuple" = none) : Own P w K mg base 1 "turned_back" ["p"] sp_turned_back := by
  have S := sc_turned_back
  exact ⟨f, fd, fnD F S (by decide) len_turned_back (fun cdv A outer s H E hr => show PSsd _ _ t_turned_back from (dss_cons (ds_set (i := 1) S.nd rfl (by first | exact Or.inl rfl | exact Or.inr rfl) (d_mul (d_lst (da_cons d_int da_nil)) (d_callB call_len1 (sem_1 sem_len) rfl z_len b_len (da_cons (dv 0) da_nil)))) (dss_cons (ds_for PassesOwn.never rfl (di_enumT rfl z_enumerate (da_cons (dv 0) da_nil)) (dg_tup rfl (dgs_cons (dgn 2 S.nd) (dgs_cons (dgn 3 S.nd) dgs_nil))) (dss_one (ds_asg (dv 2) (dg_sub (hu1 hr.units) (dv 1) (dv 3))))) (dss_one (ds_ret (d_callTy call_tupO (sem_1 sem_tupO) rfl z_tuple b_tuple (da_cons (dv 1) da_nil))))))) vc_turned_back, hm, hk, hb⟩
abbrev s_then : Stmt := topS 11
theorem sc_then : FnScope ["p", "q"] ["p", "q"] (defScope s_then) := ⟨rfl, rfl, rfl, by decide +kernel, rfl, by decide +kernel, by decide +kernel⟩
theorem ok_then {f : Addr} {fd : FuncData} (F : Fun K "then" "then" s_then f fd) (hm : mg "then" = some (.ref f)) (hk : PySem.W.keepIn K (.ref f) = true) (hb : Binds K fd ["p", "q"] []) (z_len : mg "len" = none) (O_check_some : Own P w K mg base 3 "check_some" ["p"] sp_check_some) (O_put : Own P w K mg base 1 "put" ["p", "q"] sp_put) : Own P w K mg base 4 "then" ["p", "q"] sp_then := by
  have S := sc_then
  exact ⟨f, fd, fnD F S (by decide) len_then (fun cdv A outer s H E hr => show PSsd _ _ t_then from (dss_cons (ds_expr (d_fn O_check_some (hr.mono (by decide)) rfl (da_cons (dv 0) da_nil))) (dss_cons (ds_expr (d_fn O_check_some (hr.mono (by decide)) rfl (da_cons (dv 1) da_nil))) (dss_cons (ds_if (dt_ne hr.units (d_callB call_len1 (sem_1 sem_len) rfl z_len b_len (da_cons (dv 0) da_nil)) (d_callB call_len1 (sem_1 sem_len) rfl z_len b_len (da_cons (dv 1) da_nil))) dss_never dss_nil) (dss_one (ds_ret (d_fn O_put (hr.mono (by decide)) rfl (da_cons (dv 0) (da_cons (dv 1) da_nil))))))))) vc_then, hm, hk, hb⟩
abbrev s_back : Stmt := topS 12
theorem sc_back : FnScope ["p"] ["p"] (defScope s_back) := ⟨rfl, rfl, rfl, by decide +kernel, rfl, by decide +kernel, by decide +kernel⟩
theorem ok_back {f : Addr} {fd : FuncData} (F : Fun K "back" "back" s_back f fd) (hm : mg "back" = some (.ref f)) (hk : PySem.W.keepIn K (.ref f) = true) (hb : Binds K fd ["p"] []) (O_check_some : Own P w K mg base 3 "check_some" ["p"] sp_check_some) (O_turned_back : Own P w K mg base 1 "turned_back" ["p"] sp_turned_back) : Own P w K mg base 4 "back" ["p"] sp_back := by
  have S := sc_back
  exact ⟨f, fd, fnD F S (by decide) len_back (fun cdv A outer s H E hr => show PSsd _ _ t_back from (dss_cons (ds_expr (d_fn O_check_some (hr.mono (by decide)) rfl (da_cons (dv 0) da_nil))) (dss_one (ds_ret (d_fn O_turned_back (hr.mono (by decide)) rfl (da_cons (dv 0) da_nil)))))) vc_back, hm, hk, hb⟩
abbrev s_power : Stmt := topS 13
theorem sc_power : FnScope ["p", "k", "base", "left", "out"] ["p", "k"] (defScope s_power) := ⟨rfl, rfl, rfl, by decide +kernel, rfl, by decide +kernel, by decide +kernel⟩
theorem ok_power {f : Addr} {fd : FuncData} (F : Fun K "power" "power" s_power f fd) (hm : mg "power" = some (.ref f)) (hk : PySem.W.keepIn K (.ref f) = true) (hb : Binds K fd ["p", "k"] []) (z_len : mg "len" = none) (O_check_some : Own P w K mg base 3 "check_some" ["p"] sp_check_some) (O_turned_back : Own P w K mg base 1 "turned_back" ["p"] sp_turned_back) (O_stay : Own P w K mg base 1 "stay" ["n"] sp_stay) (O_put : Own P w K mg base 1 "put" ["p", "q"] sp_put) : Own P w K mg base 4 "power" ["p", "k"] sp_power := by
  have S := sc_power
  exact ⟨f, fd, fnD F S (by decide) len_power (fun cdv A outer s H E hr => show PSsd _ _ t_power from (dss_cons (ds_expr (d_fn O_check_some (hr.mono (by decide)) rfl (da_cons (dv 0) da_nil))) (dss_cons (ds_asg (d_if (dt_ge (dv 1) d_int) (d_tup (da_cons (dv 0) (da_cons (dv 1) da_nil))) (d_tup (da_cons (d_fn O_turned_back (hr.mono (by decide)) rfl (da_cons (dv 0) da_nil)) (da_cons (d_neg (dv 1)) da_nil)))) (dg_tup rfl (dgs_cons (dgn 2 S.nd) (dgs_cons (dgn 3 S.nd) dgs_nil)))) (dss_cons (ds_set (i := 4) S.nd rfl (by first | exact Or.inl rfl | exact Or.inr rfl) (d_fn O_stay (hr.mono (by decide)) rfl (da_cons (d_callB call_len1 (sem_1 sem_len) rfl z_len b_len (da_cons (dv 0) da_nil)) da_nil))) (dss_cons (ds_while PassesOwn.never (dt_gt (dv 3) d_int) (dss_cons (ds_if (dt_eq hr.units (d_mod (dv 3) d_int) d_int) (dss_one (ds_set (i := 4) S.nd rfl (by first | exact Or.inl rfl | exact Or.inr rfl) (d_fn O_put (hr.mono (by decide)) rfl (da_cons (dv 4) (da_cons (dv 2) da_nil))))) dss_nil) (dss_cons (ds_set (i := 2) S.nd rfl (by first | exact Or.inl rfl | exact Or.inr rfl) (d_fn O_put (hr.mono (by decide)) rfl (da_cons (dv 2) (da_cons (dv 2) da_nil)))) (dss_one (ds_set (i := 3) S.nd rfl (by first | exact Or.inl rfl | exact Or.inr rfl) (d_fdiv (dv 3) d_int)))))) (dss_one (ds_ret (dm 4)))))))) vc_power, hm, hk, hb⟩
abbrev s_lots : Stmt := topS 14
theorem sc_lots : FnScope ["p", "seen", "out", "x", "one"] ["p"] (defScope s_lots) := ⟨rfl, rfl, rfl, by decide +kernel, rfl, by decide +kernel, by decide +kernel⟩
theorem ok_lots {f : Addr} {fd : FuncData} (F : Fun K "lots" "lots" s_lots f fd) (hm : mg "lots" = some (.ref f)) (hk : PySem.W.keepIn K (.ref f) = true) (hb : Binds K fd ["p"] []) (z_len : mg "len" = none) (z_range : mg "range" = none) (z_tuple : mg "tuple" = none) : Own P w K mg base 1 "lots" ["p"] sp_lots := by
  have S := sc_lots
  exact ⟨f, fd, fnD F S (by decide) len_lots (fun cdv A outer s H E hr => show PSsd _ _ t_lots from (dss_cons (ds_par (i := 1) (j := 2) rfl S.nd rfl rfl (by decide) rfl rfl (da_cons d_dict0 (da_cons (d_lst da_nil) da_nil)) rfl) (dss_cons (ds_for PassesOwn.never rfl (di_rg1 rfl z_range (da_cons (d_callB call_len1 (sem_1 sem_len) rfl z_len b_len (da_cons (dv 0) da_nil)) da_nil)) (dgn 3 S.nd) (dss_cons (ds_if (dt_in hr.units (dv 3) (dv 1) (by with_unfolding_all rfl)) (dss_one ds_cont) dss_nil) (dss_cons (ds_set (i := 4) S.nd rfl (by first | exact Or.inl rfl | exact Or.inr rfl) (d_lst da_nil)) (dss_cons (ds_while PassesOwn.never (dt_nin hr.units (dv 3) (dv 1) (by with_unfolding_all rfl)) (dss_cons (ds_asg d_bl (dg_sub (hu1 hr.units) (dv 1) (dv 3))) (dss_cons (ds_expr (d_bm PySem.F.plainAttrs_list PySem.F.slot_list_append PySem.F.type_list_append mt_append sem_append (dv 4) (da_cons (dv 3) da_nil))) (dss_one (ds_set (i := 3) S.nd rfl (by first | exact Or.inl rfl | exact Or.inr rfl) (d_ix (hu1 hr.units) (dv 0) (dv 3))))))) (dss_one (ds_expr (d_bm PySem.F.plainAttrs_list PySem.F.slot_list_append PySem.F.type_list_append mt_append sem_append (dv 2) (da_cons (d_callTy call_tupO (sem_1 sem_tupO) rfl z_tuple b_tuple (da_cons (dv 4) da_nil)) da_nil)))))))) (dss_one (ds_ret (dm 2)))))) vc_lots, hm, hk, hb⟩
abbrev s_rounds : Stmt := topS 15
theorem sc_rounds : FnScope ["p", "one"] ["p"] (defScope s_rounds) := ⟨rfl, rfl, rfl, by decide +kernel, rfl, by decide +kernel, by decide +kernel⟩
theorem ok_rounds {f : Addr} {fd : FuncData} (F : Fun K "rounds" "rounds" s_rounds f fd) (hm : mg "rounds" = some (.ref f)) (hk : PySem.W.keepIn K (.ref f) = true) (hb : Binds K fd ["p"] []) (z_len : mg "len" = none) (z_tuple : mg "tuple" = none) (O_check_some : Own P w K mg base 3 "check_some" ["p"] sp_check_some) (O_lots : Own P w K mg base 1 "lots" ["p"] sp_lots) : Own P w K mg base 4 "rounds" ["p"] sp_rounds := by
  have S := sc_rounds
  exact ⟨f, fd, fnD F S (by decide) len_rounds (fun cdv A outer s H E hr => show PSsd _ _ t_rounds from (dss_cons (ds_expr (d_fn O_check_some (hr.mono (by decide)) rfl (da_cons (dv 0) da_nil))) (dss_one (ds_ret (d_callTy call_tupO (sem_1 sem_tupO) rfl z_tuple b_tuple (da_cons (d_lc (own := [("one", 1)]) rfl S.nd (di_seq (d_fn O_lots (hr.mono (by decide)) rfl (da_cons (dv 0) da_nil))) (blkOk_by (by first | decide +kernel | rfl)) (by decide) (fun _ _ _ _ _ => (dgn 1 S.nd)) (fun _ _ _ _ _ => (dts_one (dt_gt (d_callB call_len1 (sem_1 sem_len) rfl z_len b_len (da_cons (dv 1) da_nil)) d_int))) (fun _ _ _ _ _ => (dv 1))) da_nil)))))) vc_rounds, hm, hk, hb⟩
abbrev s_common : Stmt := topS 16
theorem sc_common : FnScope ["a", "b"] ["a", "b"] (defScope s_common) := ⟨rfl, rfl, rfl, by decide +kernel, rfl, by decide +kernel, by decide +kernel⟩
theorem ok_common {f : Addr} {fd : FuncData} (F : Fun K "common" "common" s_common f fd) (hm : mg "common" = some (.ref f)) (hk : PySem.W.keepIn K (.ref f) = true) (hb : Binds K fd ["a", "b"] []) : Own P w K mg base 1 "common" ["a", "b"] sp_common := by
  have S := sc_common
  exact ⟨f, fd, fnD F S (by decide) len_common (fun cdv A outer s H E hr => show PSsd _ _ t_common from (dss_cons (ds_while PassesOwn.never (dt_gt (dv 1) d_int) (dss_one (ds_par (i := 0) (j := 1) rfl S.nd rfl rfl (by decide) rfl rfl (da_cons (dv 1) (da_cons (d_mod (dv 0) (dv 1)) da_nil)) rfl))) (dss_one (ds_ret (dm 0))))) vc_common, hm, hk, hb⟩
abbrev s_order : Stmt := topS 17
theorem sc_order : FnScope ["p", "out", "one"] ["p"] (defScope s_order) := ⟨rfl, rfl, rfl, by decide +kernel, rfl, by decide +kernel, by decide +kernel⟩
theorem ok_order {f : Addr} {fd : FuncData} (F : Fun K "order" "order" s_order f fd) (hm : mg "order" = some (.ref f)) (hk : PySem.W.keepIn K (.ref f) = true) (hb : Binds K fd ["p"] []) (z_len : mg "len" = none) (O_check_some : Own P w K mg base 3 "check_some" ["p"] sp_check_some) (O_lots : Own P w K mg base 1 "lots" ["p"] sp_lots) (O_common : Own P w K mg base 1 "common" ["a", "b"] sp_common) : Own P w K mg base 4 "order" ["p"] sp_order := by
  have S := sc_order
  exact ⟨f, fd, fnD F S (by decide) len_order (fun cdv A outer s H E hr => show PSsd _ _ t_order from (dss_cons (ds_expr (d_fn O_check_some (hr.mono (by decide)) rfl (da_cons (dv 0) da_nil))) (dss_cons (ds_set (i := 1) S.nd rfl (by first | exact Or.inl rfl | exact Or.inr rfl) d_int) (dss_cons (ds_for PassesOwn.never rfl (di_seq (d_fn O_lots (hr.mono (by decide)) rfl (da_cons (dv 0) da_nil))) (dgn 2 S.nd) (dss_one (ds_set (i := 1) S.nd rfl (by first | exact Or.inl rfl | exact Or.inr rfl) (d_fdiv (d_mul (dv 1) (d_callB call_len1 (sem_1 sem_len) rfl z_len b_len (da_cons (dv 2) da_nil))) (d_fn O_common (hr.mono (by decide)) rfl (da_cons (dv 1) (da_cons (d_callB call_len1 (sem_1 sem_len) rfl z_len b_len (da_cons (dv 2) da_nil)) da_nil))))))) (dss_one (ds_ret (dm 1))))))) vc_order, hm, hk, hb⟩
abbrev s_sort : Stmt := topS 18
theorem sc_sort : FnScope ["p", "one"] ["p"] (defScope s_sort) := ⟨rfl, rfl, rfl, by decide +kernel, rfl, by decide +kernel, by decide +kernel⟩
theorem ok_sort {f : Addr} {fd : FuncData} (F : Fun K "sort" "sort" s_sort f fd) (hm : mg "sort" = some (.ref f)) (hk : PySem.W.keepIn K (.ref f) = true) (hb : Binds K fd ["p"] []) (z_len : mg "len" = none) (z_sorted : mg "sorted" = none) (z_tuple : mg "tuple" = none) (O_check_some : Own P w K mg base 3 "check_some" ["p"] sp_check_some) (O_lots : Own P w K mg base 1 "lots" ["p"] sp_lots) : Own P w K mg base 4 "sort" ["p"] sp_sort := by
  have S := sc_sort
  exact ⟨f, fd, fnD F S (by decide) len_sort (fun cdv A outer s H E hr => show PSsd _ _ t_sort from (dss_cons (ds_expr (d_fn O_check_some (hr.mono (by decide)) rfl (da_cons (dv 0) da_nil))) (dss_one (ds_ret (d_callTy call_tupO (sem_1 sem_tupO) rfl z_tuple b_tuple (da_cons (d_callB call_sort1 (sem_1 sem_sortI) rfl z_sorted b_sorted (da_cons (d_lc (own := [("one", 1)]) rfl S.nd (di_seq (d_fn O_lots (hr.mono (by decide)) rfl (da_cons (dv 0) da_nil))) (blkOk_by (by first | decide +kernel | rfl)) (by decide) (fun _ _ _ _ _ => (dgn 1 S.nd)) (fun _ _ _ _ _ => dts_nil) (fun _ _ _ _ _ => (d_callB call_len1 (sem_1 sem_len) rfl z_len b_len (da_cons (dv 1) da_nil)))) da_nil)) da_nil)))))) vc_sort, hm, hk, hb⟩
abbrev s_sign : Stmt := topS 19
theorem sc_sign : FnScope ["p", "one"] ["p"] (defScope s_sign) := ⟨rfl, rfl, rfl, by decide +kernel, rfl, by decide +kernel, by decide +kernel⟩
theorem ok_sign {f : Addr} {fd : FuncData} (F : Fun K "sign" "sign" s_sign f fd) (hm : mg "sign" = some (.ref f)) (hk : PySem.W.keepIn K (.ref f) = true) (hb : Binds K fd ["p"] []) (z_len : mg "len" = none) (z_sum : mg "sum" = none) (O_check_some : Own P w K mg base 3 "check_some" ["p"] sp_check_some) (O_lots : Own P w K mg base 1 "lots" ["p"] sp_lots) : Own P w K mg base 4 "sign" ["p"] sp_sign := by
  have S := sc_sign
  exact ⟨f, fd, fnD F S (by decide) len_sign (fun cdv A outer s H E hr => show PSsd _ _ t_sign from (dss_cons (ds_expr (d_fn O_check_some (hr.mono (by decide)) rfl (da_cons (dv 0) da_nil))) (dss_one (ds_ret (d_if (dt_eq hr.units (d_mod (d_callB (call_sum1 rfl) (sem_1 sem_sum) rfl z_sum b_sum (da_cons (d_lc (own := [("one", 1)]) rfl S.nd (di_seq (d_fn O_lots (hr.mono (by decide)) rfl (da_cons (dv 0) da_nil))) (blkOk_by (by first | decide +kernel | rfl)) (by decide) (fun _ _ _ _ _ => (dgn 1 S.nd)) (fun _ _ _ _ _ => dts_nil) (fun _ _ _ _ _ => (d_sub (d_callB call_len1 (sem_1 sem_len) rfl z_len b_len (da_cons (dv 1) da_nil)) d_int))) da_nil)) d_int) d_int) d_int (d_neg d_int)))))) vc_sign, hm, hk, hb⟩
abbrev s__law_box : Stmt := topS 21
theorem sc__law_box : FnScope ["script", "x"] ["script"] (defScope s__law_box) := ⟨rfl, rfl, rfl, by decide +kernel, rfl, by decide +kernel, by decide +kernel⟩
theorem ok__law_box {f : Addr} {fd : FuncData} (F : Fun K "_law_box" "_law_box" s__law_box f fd) (hm : mg "_law_box" = some (.ref f)) (hk : PySem.W.keepIn K (.ref f) = true) (hb : Binds K fd ["script"] []) (z_int : mg "int" = none) (z_abs : mg "abs" = none) : Own P w K mg base 1 "_law_box" ["script"] sp__law_box := by
  have S := sc__law_box
  exact ⟨f, fd, fnD F S (by decide) len__law_box (fun cdv A outer s H E hr => show PSsd _ _ t__law_box from (dss_one (ds_ret (d_lst (da_cons d_int (da_cons d_int (da_cons d_int (da_cons (d_lc (own := [("x", 1)]) rfl S.nd (di_seq (dv 0)) (blkOk_by (by first | decide +kernel | rfl)) (by decide) (fun _ _ _ _ _ => (dgn 1 S.nd)) (fun _ _ _ _ _ => dts_nil) (fun _ _ _ _ _ => (d_callB call_abs1 (sem_1 (sem_intF (g := fun i => if i < 0 then -i else i))) rfl z_abs b_abs (da_cons (d_callTy call_int11 (sem_1 (sem_intF (g := fun i => i))) rfl z_int b_int (da_cons (dv 1) da_nil)) da_nil)))) da_nil)))))))) vc__law_box, hm, hk, hb⟩
abbrev s__law_take : Stmt := topS 22
theorem sc__law_take : FnScope ["box", "m", "at", "cell", "told"] ["box", "m"] (defScope s__law_take) := ⟨rfl, rfl, rfl, by decide +kernel, rfl, by decide +kernel, by decide +kernel⟩
theorem ok__law_take {f : Addr} {fd : FuncData} (F : Fun K "_law_take" "_law_take" s__law_take f fd) (hm : mg "_law_take" = some (.ref f)) (hk : PySem.W.keepIn K (.ref f) = true) (hb : Binds K fd ["box", "m"] []) (z_len : mg "len" = none) (z_int : mg "int" = none) : Own P w K mg base 1 "_law_take" ["box", "m"] sp__law_take := by
  have S := sc__law_take
  exact ⟨f, fd, fnD F S (by decide) len__law_take (fun cdv A outer s H E hr => show PSsd _ _ t__law_take from (dss_cons (ds_if (dt_eq hr.units (d_ix (hu1 hr.units) (dv 0) d_int) d_int) (dss_cons (ds_set (i := 2) S.nd rfl (by first | exact Or.inl rfl | exact Or.inr rfl) (d_ix (hu1 hr.units) (dv 0) d_int)) (dss_cons (ds_set (i := 3) S.nd rfl (by first | exact Or.inl rfl | exact Or.inr rfl) d_int) (dss_cons (ds_if (dt_lt (dv 2) (d_callB call_len1 (sem_1 sem_len) rfl z_len b_len (da_cons (d_ix (hu1 hr.units) (dv 0) d_int) da_nil))) (dss_cons (ds_set (i := 3) S.nd rfl (by first | exact Or.inl rfl | exact Or.inr rfl) (d_ix (hu1 hr.units) (d_ix (hu1 hr.units) (dv 0) d_int) (dv 2))) (dss_one (ds_asg (d_if (dt_ge (dv 3) (d_pow d_int d_int)) d_int (d_neg d_int)) (dg_sub (hu1 hr.units) (dv 0) d_int)))) dss_nil) (dss_cons (ds_asg (d_add (dv 2) d_int) (dg_sub (hu1 hr.units) (dv 0) d_int)) (dss_cons (ds_asg (dv 3) (dg_sub (hu1 hr.units) (dv 0) d_int)) (dss_one (ds_if (dt_eq hr.units (d_ix (hu1 hr.units) (dv 0) d_int) d_int) (dss_one (ds_ret d_int)) dss_nil))))))) dss_nil) (dss_cons (ds_if (dt_gt (d_ix (hu1 hr.units) (dv 0) d_int) d_int) (dss_cons (ds_set (i := 4) S.nd rfl (by first | exact Or.inl rfl | exact Or.inr rfl) (d_mod (d_callTy call_int11 (sem_1 (sem_intF (g := fun i => i))) rfl z_int b_int (da_cons (d_ix (hu1 hr.units) (dv 0) d_int) da_nil)) (dv 1))) (dss_cons (ds_asg (d_fdiv (d_ix (hu1 hr.units) (dv 0) d_int) (dv 1)) (dg_sub (hu1 hr.units) (dv 0) d_int)) (dss_cons (ds_asg (d_if (dt_gt (d_ix (hu1 hr.units) (dv 0) d_int) d_int) (d_sub (d_ix (hu1 hr.units) (dv 0) d_int) d_int) d_int) (dg_sub (hu1 hr.units) (dv 0) d_int)) (dss_one (ds_ret (dm 4)))))) dss_nil) (dss_cons (ds_asg (d_add (d_ix (hu1 hr.units) (dv 0) d_int) d_int) (dg_sub (hu1 hr.units) (dv 0) d_int)) (dss_cons (ds_asg (d_mod (d_callTy call_int11 (sem_1 (sem_intF (g := fun i => i))) rfl z_int b_int (da_cons (d_add (d_mul (d_ix (hu1 hr.units) (dv 0) d_int) d_int) (d_mul d_int (d_add (d_ix (hu1 hr.units) (dv 0) d_int) d_int))) da_nil)) d_int) (dg_sub (hu1 hr.units) (dv 0) d_int)) (dss_one (ds_ret (d_mod (d_mod (d_callTy call_int11 (sem_1 (sem_intF (g := fun i => i))) rfl z_int b_int (da_cons (d_add (d_fdiv (d_ix (hu1 hr.units) (dv 0) d_int) d_int) (d_ix (hu1 hr.units) (dv 0) d_int)) da_nil)) d_int) (dv 1))))))))) vc__law_take, hm, hk, hb⟩
abbrev s__law_turning : Stmt := topS 23
theorem sc__law_turning : FnScope ["box", "n", "row", "x"] ["box", "n"] (defScope s__law_turning) := ⟨rfl, rfl, rfl, by decide +kernel, rfl, by decide +kernel, by decide +kernel⟩
theorem ok__law_turning {f : Addr} {fd : FuncData} (F : Fun K "_law_turning" "_law_turning" s__law_turning f fd) (hm : mg "_law_turning" = some (.ref f)) (hk : PySem.W.keepIn K (.ref f) = true) (hb : Binds K fd ["box", "n"] []) (z_range : mg "range" = none) (z_tuple : mg "tuple" = none) (O__law_take : Own P w K mg base 1 "_law_take" ["box", "m"] sp__law_take) : Own P w K mg base 2 "_law_turning" ["box", "n"] sp__law_turning := by
  have S := sc__law_turning
  exact ⟨f, fd, fnD F S (by decide) len__law_turning (fun cdv A outer s H E hr => show PSsd _ _ t__law_turning from (dss_cons (ds_set (i := 2) S.nd rfl (by first | exact Or.inl rfl | exact Or.inr rfl) (d_lst da_nil)) (dss_cons (ds_for PassesOwn.never rfl (di_rg1 rfl z_range (da_cons (dv 1) da_nil)) (dgn 3 S.nd) (dss_one (ds_expr (d_bm PySem.F.plainAttrs_list PySem.F.slot_list_insert PySem.F.type_list_insert mt_insert sem_insert (dv 2) (da_cons (d_fn O__law_take (hr.mono (by decide)) rfl (da_cons (dv 0) (da_cons (d_add (dv 3) d_int) da_nil))) (da_cons (dv 3) da_nil)))))) (dss_one (ds_ret (d_callTy call_tupO (sem_1 sem_tupO) rfl z_tuple b_tuple (da_cons (dv 2) da_nil))))))) vc__law_turning, hm, hk, hb⟩
abbrev s__law_put : Stmt := topS 24
theorem sc__law_put : FnScope ["p", "q", "x"] ["p", "q"] (defScope s__law_put) := ⟨rfl, rfl, rfl, by decide +kernel, rfl, by decide +kernel, by decide +kernel⟩
theorem ok__law_put {f : Addr} {fd : FuncData} (F : Fun K "_law_put" "_law_put" s__law_put f fd) (hm : mg "_law_put" = some (.ref f)) (hk : PySem.W.keepIn K (.ref f) = true) (hb : Binds K fd ["p", "q"] []) (z_tuple : mg "tuple" = none) : Own P w K mg base 1 "_law_put" ["p", "q"] sp__law_put := by
  have S := sc__law_put
  exact ⟨f, fd, fnD F S (by decide) len__law_put (fun cdv A outer s H E hr => show PSsd _ _ t__law_put from (dss_one (ds_ret (d_callTy call_tupO (sem_1 sem_tupO) rfl z_tuple b_tuple (da_cons (d_lc (own := [("x", 2)]) rfl S.nd (di_seq (dv 0)) (blkOk_by (by first | decide +kernel | rfl)) (by decide) (fun _ _ _ _ _ => (dgn 2 S.nd)) (fun _ _ _ _ _ => dts_nil) (fun _ _ _ _ _ => (d_ix (hu1 hr.units) (dv 1) (dv 2)))) da_nil))))) vc__law_put, hm, hk, hb⟩
abbrev s__law_back : Stmt := topS 25
theorem sc__law_back : FnScope ["p", "x"] ["p"] (defScope s__law_back) := ⟨rfl, rfl, rfl, by decide +kernel, rfl, by decide +kernel, by decide +kernel⟩
theorem ok__law_back {f : Addr} {fd : FuncData} (F : Fun K "_law_back" "_law_back" s__law_back f fd) (hm : mg "_law_back" = some (.ref f)) (hk : PySem.W.keepIn K (.ref f) = true) (hb : Binds K fd ["p"] []) (z_len : mg "len" = none) (z_range : mg "range" = none) (z_tuple : mg "tuple" = none) : Own P w K mg base 1 "_law_back" ["p"] sp__law_back := by
  have S := sc__law_back
  exact ⟨f, fd, fnD F S (by decide) len__law_back (fun cdv A outer s H E hr => show PSsd _ _ t__law_back from (dss_one (ds_ret (d_callTy call_tupO (sem_1 sem_tupO) rfl z_tuple b_tuple (da_cons (d_lc (own := [("x", 1)]) rfl S.nd (di_rg1 rfl z_range (da_cons (d_callB call_len1 (sem_1 sem_len) rfl z_len b_len (da_cons (dv 0) da_nil)) da_nil)) (blkOk_by (by first | decide +kernel | rfl)) (by decide) (fun _ _ _ _ _ => (dgn 1 S.nd)) (fun _ _ _ _ _ => dts_nil) (fun _ _ _ _ _ => (d_tix (dv 0) (dv 1)))) da_nil))))) vc__law_back, hm, hk, hb⟩
abbrev s__law_round : Stmt := topS 26
theorem sc__law_round : FnScope ["n", "points", "out", "k"] ["n", "points"] (defScope s__law_round) := ⟨rfl, rfl, rfl, by decide +kernel, rfl, by decide +kernel, by decide +kernel⟩
theorem ok__law_round {f : Addr} {fd : FuncData} (F : Fun K "_law_round" "_law_round" s__law_round f fd) (hm : mg "_law_round" = some (.ref f)) (hk : PySem.W.keepIn K (.ref f) = true) (hb : Binds K fd ["n", "points"] []) (z_list : mg "list" = none) (z_range : mg "range" = none) (z_len : mg "len" = none) (z_tuple : mg "tuple" = none) : Own P w K mg base 1 "_law_round" ["n", "points"] sp__law_round := by
  have S := sc__law_round
  exact ⟨f, fd, fnD F S (by decide) len__law_round (fun cdv A outer s H E hr => show PSsd _ _ t__law_round from (dss_cons (ds_set (i := 2) S.nd rfl (by first | exact Or.inl rfl | exact Or.inr rfl) (d_lstRg rfl rfl z_list rfl z_range (dv 0))) (dss_cons (ds_for PassesOwn.never rfl (di_rg1 rfl z_range (da_cons (d_callB call_len1 (sem_1 sem_len) rfl z_len b_len (da_cons (dv 1) da_nil)) da_nil)) (dgn 3 S.nd) (dss_one (ds_asg (d_ix (hu1 hr.units) (dv 1) (d_mod (d_add (dv 3) d_int) (d_callB call_len1 (sem_1 sem_len) rfl z_len b_len (da_cons (dv 1) da_nil)))) (dg_sub (hu1 hr.units) (dv 2) (d_ix (hu1 hr.units) (dv 1) (dv 3)))))) (dss_one (ds_ret (d_callTy call_tupO (sem_1 sem_tupO) rfl z_tuple b_tuple (da_cons (dv 2) da_nil))))))) vc__law_round, hm, hk, hb⟩
abbrev s__law_times : Stmt := topS 27
theorem sc__law_times : FnScope ["p", "k", "out", "one", "turn"] ["p", "k"] (defScope s__law_times) := ⟨rfl, rfl, rfl, by decide +kernel, rfl, by decide +kernel, by decide +kernel⟩
theorem ok__law_times {f : Addr} {fd : FuncData} (F : Fun K "_law_times" "_law_times" s__law_times f fd) (hm : mg "_law_times" = some (.ref f)) (hk : PySem.W.keepIn K (.ref f) = true) (hb : Binds K fd ["p", "k"] []) (z_len : mg "len" = none) (z_tuple : mg "tuple" = none) (z_range : mg "range" = none) (z_abs : mg "abs" = none) (O__law_back : Own P w K mg base 1 "_law_back" ["p"] sp__law_back) (O__law_put : Own P w K mg base 1 "_law_put" ["p", "q"] sp__law_put) : Own P w K mg base 2 "_law_times" ["p", "k"] sp__law_times := by
  have S := sc__law_times
  exact ⟨f, fd, fnD F S (by decide) len__law_times (fun cdv A outer s H E hr => show PSsd _ _ t__law_times from (dss_cons (ds_par (i := 2) (j := 3) rfl S.nd rfl rfl (by decide) rfl rfl (da_cons (d_tupRg rfl rfl z_tuple rfl z_range (d_callB call_len1 (sem_1 sem_len) rfl z_len b_len (da_cons (dv 0) da_nil))) (da_cons (d_if (dt_ge (dv 1) d_int) (dv 0) (d_fn O__law_back (hr.mono (by decide)) rfl (da_cons (dv 0) da_nil))) da_nil)) rfl) (dss_cons (ds_for PassesOwn.never rfl (di_rg1 rfl z_range (da_cons (d_callB call_abs1 (sem_1 (sem_intF (g := fun i => if i < 0 then -i else i))) rfl z_abs b_abs (da_cons (dv 1) da_nil)) da_nil)) (dgn 4 S.nd) (dss_one (ds_set (i := 2) S.nd rfl (by first | exact Or.inl rfl | exact Or.inr rfl) (d_fn O__law_put (hr.mono (by decide)) rfl (da_cons (dv 2) (da_cons (dv 3) da_nil)))))) (dss_one (ds_ret (dm 2)))))) vc__law_times, hm, hk, hb⟩
abbrev s__law_lots : Stmt := topS 28
theorem sc__law_lots : FnScope ["p", "found", "seen", "x", "lot"] ["p"] (defScope s__law_lots) := ⟨rfl, rfl, rfl, by decide +kernel, rfl, by decide +kernel, by decide +kernel⟩
theorem ok__law_lots {f : Addr} {fd : FuncData} (F : Fun K "_law_lots" "_law_lots" s__law_lots f fd) (hm : mg "_law_lots" = some (.ref f)) (hk : PySem.W.keepIn K (.ref f) = true) (hb : Binds K fd ["p"] []) (z_len : mg "len" = none) (z_range : mg "range" = none) (z_tuple : mg "tuple" = none) : Own P w K mg base 1 "_law_lots" ["p"] sp__law_lots := by
  have S := sc__law_lots
  exact ⟨f, fd, fnD F S (by decide) len__law_lots (fun cdv A outer s H E hr => show PSsd _ _ t__law_lots from (dss_cons (ds_par (i := 1) (j := 2) rfl S.nd rfl rfl (by decide) rfl rfl (da_cons (d_lst da_nil) (da_cons d_dict0 da_nil)) rfl) (dss_cons (ds_for PassesOwn.never rfl (di_rg1 rfl z_range (da_cons (d_callB call_len1 (sem_1 sem_len) rfl z_len b_len (da_cons (dv 0) da_nil)) da_nil)) (dgn 3 S.nd) (dss_cons (ds_set (i := 4) S.nd rfl (by first | exact Or.inl rfl | exact Or.inr rfl) (d_lst da_nil)) (dss_cons (ds_while PassesOwn.never (dt_nin hr.units (dv 3) (dv 2) (by with_unfolding_all rfl)) (dss_cons (ds_asg d_bl (dg_sub (hu1 hr.units) (dv 2) (dv 3))) (dss_cons (ds_expr (d_bm PySem.F.plainAttrs_list PySem.F.slot_list_append PySem.F.type_list_append mt_append sem_append (dv 4) (da_cons (dv 3) da_nil))) (dss_one (ds_set (i := 3) S.nd rfl (by first | exact Or.inl rfl | exact Or.inr rfl) (d_ix (hu1 hr.units) (dv 0) (dv 3))))))) (dss_one (ds_if (dt_tru (dv 4)) (dss_one (ds_expr (d_bm PySem.F.plainAttrs_list PySem.F.slot_list_append PySem.F.type_list_append mt_append sem_append (dv 1) (da_cons (d_callTy call_tupO (sem_1 sem_tupO) rfl z_tuple b_tuple (da_cons (dv 4) da_nil)) da_nil)))) dss_nil))))) (dss_one (ds_ret (dm 1)))))) vc__law_lots, hm, hk, hb⟩
abbrev s__law_order : Stmt := topS 29
theorem sc__law_order : FnScope ["p", "out", "k"] ["p"] (defScope s__law_order) := ⟨rfl, rfl, rfl, by decide +kernel, rfl, by decide +kernel, by decide +kernel⟩
theorem ok__law_order {f : Addr} {fd : FuncData} (F : Fun K "_law_order" "_law_order" s__law_order f fd) (hm : mg "_law_order" = some (.ref f)) (hk : PySem.W.keepIn K (.ref f) = true) (hb : Binds K fd ["p"] []) (z_len : mg "len" = none) (z_tuple : mg "tuple" = none) (z_range : mg "range" = none) (O__law_put : Own P w K mg base 1 "_law_put" ["p", "q"] sp__law_put) : Own P w K mg base 2 "_law_order" ["p"] sp__law_order := by
  have S := sc__law_order
  exact ⟨f, fd, fnD F S (by decide) len__law_order (fun cdv A outer s H E hr => show PSsd _ _ t__law_order from (dss_cons (ds_par (i := 1) (j := 2) rfl S.nd rfl rfl (by decide) rfl rfl (da_cons (dv 0) (da_cons d_int da_nil)) rfl) (dss_cons (ds_while PassesOwn.never (dt_ne hr.units (dv 1) (d_tupRg rfl rfl z_tuple rfl z_range (d_callB call_len1 (sem_1 sem_len) rfl z_len b_len (da_cons (dv 0) da_nil)))) (dss_one (ds_par (i := 1) (j := 2) rfl S.nd rfl rfl (by decide) rfl rfl (da_cons (d_fn O__law_put (hr.mono (by decide)) rfl (da_cons (dv 1) (da_cons (dv 0) da_nil))) (da_cons (d_add (dv 2) d_int) da_nil)) rfl))) (dss_one (ds_ret (dm 2)))))) vc__law_order, hm, hk, hb⟩
abbrev s_law : Stmt := topS 30
theorem sc_law : FnScope ["script", "box", "n", "p", "q", "k", "many", "lots_v", "crossed", "x", "lot", "y"] ["script"] (defScope s_law) := ⟨rfl, rfl, rfl, by decide +kernel, rfl, by decide +kernel, by decide +kernel⟩
theorem ok_law {f : Addr} {fd : FuncData} (F : Fun K "law" "law" s_law f fd) (z_tuple : mg "tuple" = none) (z_range : mg "range" = none) (z_len : mg "len" = none) (z_sorted : mg "sorted" = none) (O__law_box : Own P w K mg base 1 "_law_box" ["script"] sp__law_box) (O__law_take : Own P w K mg base 1 "_law_take" ["box", "m"] sp__law_take) (O__law_turning : Own P w K mg base 2 "_law_turning" ["box", "n"] sp__law_turning) (O__law_round : Own P w K mg base 1 "_law_round" ["n", "points"] sp__law_round) (O_back : Own P w K mg base 4 "back" ["p"] sp_back) (O__law_back : Own P w K mg base 1 "_law_back" ["p"] sp__law_back) (O_then : Own P w K mg base 4 "then" ["p", "q"] sp_then) (O__law_put : Own P w K mg base 1 "_law_put" ["p", "q"] sp__law_put) (O_is_turning : Own P w K mg base 2 "is_turning" ["n", "x"] sp_is_turning) (O_stay : Own P w K mg base 1 "stay" ["n"] sp_stay) (O_power : Own P w K mg base 4 "power" ["p", "k"] sp_power) (O__law_times : Own P w K mg base 2 "_law_times" ["p", "k"] sp__law_times) (O__law_order : Own P w K mg base 2 "_law_order" ["p"] sp__law_order) (O_order : Own P w K mg base 4 "order" ["p"] sp_order) (O__law_lots : Own P w K mg base 1 "_law_lots" ["p"] sp__law_lots) (O_sort : Own P w K mg base 4 "sort" ["p"] sp_sort) (O_rounds : Own P w K mg base 4 "rounds" ["p"] sp_rounds) (O_sign : Own P w K mg base 4 "sign" ["p"] sp_sign) : FnOk P w K mg base CX0 5 f fd ["script"] (liftSp ⟨K, P, w⟩ sp_law) := by
  have S := sc_law
  exact fnD F S (by decide) len_law (fun cdv A outer s H E hr => show PSsd _ _ t_law from (dss_cons (ds_set (i := 1) S.nd rfl (by first | exact Or.inl rfl | exact Or.inr rfl) (d_fn O__law_box (hr.mono (by decide)) rfl (da_cons (dv 0) da_nil))) (dss_cons (ds_set (i := 2) S.nd rfl (by first | exact Or.inl rfl | exact Or.inr rfl) (d_if (dt_eq hr.units (d_fn O__law_take (hr.mono (by decide)) rfl (da_cons (dv 1) (da_cons d_int da_nil))) d_int) d_int (d_fn O__law_take (hr.mono (by decide)) rfl (da_cons (dv 1) (da_cons d_int da_nil))))) (dss_cons (ds_asg (d_tup (da_cons (d_fn O__law_turning (hr.mono (by decide)) rfl (da_cons (dv 1) (da_cons (dv 2) da_nil))) (da_cons (d_fn O__law_turning (hr.mono (by decide)) rfl (da_cons (dv 1) (da_cons (dv 2) da_nil))) da_nil))) (dg_tup rfl (dgs_cons (dgn 3 S.nd) (dgs_cons (dgn 4 S.nd) dgs_nil)))) (dss_cons (ds_if (dt_gt (dv 2) d_int) (dss_one (ds_set (i := 3) S.nd rfl (by first | exact Or.inl rfl | exact Or.inr rfl) (d_fn O__law_round (hr.mono (by decide)) rfl (da_cons (dv 2) (da_cons (d_sl (dv 3) do_none (do_some (d_add d_int (d_fn O__law_take (hr.mono (by decide)) rfl (da_cons (dv 1) (da_cons d_int da_nil)))))) da_nil))))) dss_nil) (dss_cons (ds_if (dw_pt (dw_or (dt_ne hr.units (d_fn O_stay (hr.mono (by decide)) rfl (da_cons (dv 2) da_nil)) (d_tupRg rfl rfl z_tuple rfl z_range (dv 2))) (dw_or (dt_isnot (d_fn O_is_turning (hr.mono (by decide)) rfl (da_cons (dv 2) (da_cons (dv 3) da_nil))) d_bl) (dw_or (dt_ne hr.units (d_fn O_then (hr.mono (by decide)) rfl (da_cons (dv 3) (da_cons (dv 4) da_nil))) (d_fn O__law_put (hr.mono (by decide)) rfl (da_cons (dv 3) (da_cons (dv 4) da_nil)))) (dw_or1 (dt_ne hr.units (d_fn O_back (hr.mono (by decide)) rfl (da_cons (dv 3) da_nil)) (d_fn O__law_back (hr.mono (by decide)) rfl (da_cons (dv 3) da_nil)))))))) (dss_one (ds_ret d_bl)) dss_nil) (dss_cons (ds_if (dw_pt (dw_or (dt_ne hr.units (d_fn O_then (hr.mono (by decide)) rfl (da_cons (dv 3) (da_cons (d_fn O_back (hr.mono (by decide)) rfl (da_cons (dv 3) da_nil)) da_nil))) (d_fn O_stay (hr.mono (by decide)) rfl (da_cons (dv 2) da_nil))) (dw_or1 (dt_ne hr.units (d_fn O_back (hr.mono (by decide)) rfl (da_cons (d_fn O_then (hr.mono (by decide)) rfl (da_cons (dv 3) (da_cons (dv 4) da_nil))) da_nil)) (d_fn O_then (hr.mono (by decide)) rfl (da_cons (d_fn O_back (hr.mono (by decide)) rfl (da_cons (dv 4) da_nil)) (da_cons (d_fn O_back (hr.mono (by decide)) rfl (da_cons (dv 3) da_nil)) da_nil))))))) (dss_one (ds_ret d_bl)) dss_nil) (dss_cons (ds_set (i := 5) S.nd rfl (by first | exact Or.inl rfl | exact Or.inr rfl) (d_sub (d_fn O__law_take (hr.mono (by decide)) rfl (da_cons (dv 1) (da_cons d_int da_nil))) d_int)) (dss_cons (ds_if (dt_ne hr.units (d_fn O_power (hr.mono (by decide)) rfl (da_cons (dv 3) (da_cons (dv 5) da_nil))) (d_fn O__law_times (hr.mono (by decide)) rfl (da_cons (dv 3) (da_cons (dv 5) da_nil)))) (dss_one (ds_ret d_bl)) dss_nil) (dss_cons (ds_set (i := 6) S.nd rfl (by first | exact Or.inl rfl | exact Or.inr rfl) (d_fn O__law_order (hr.mono (by decide)) rfl (da_cons (dv 3) da_nil))) (dss_cons (ds_if (dw_pt (dw_or (dt_ne hr.units (d_fn O_order (hr.mono (by decide)) rfl (da_cons (dv 3) da_nil)) (dv 6)) (dw_or (dt_ne hr.units (d_fn O_power (hr.mono (by decide)) rfl (da_cons (dv 3) (da_cons (d_add (d_mul (dv 6) (d_pow d_int d_int)) d_int) da_nil))) (dv 3)) (dw_or1 (dt_ne hr.units (d_fn O_power (hr.mono (by decide)) rfl (da_cons (dv 3) (da_cons (d_sub (d_mul (d_neg (dv 6)) (d_pow d_int d_int)) d_int) da_nil))) (d_fn O__law_back (hr.mono (by decide)) rfl (da_cons (dv 3) da_nil))))))) (dss_one (ds_ret d_bl)) dss_nil) (dss_cons (ds_set (i := 7) S.nd rfl (by first | exact Or.inl rfl | exact Or.inr rfl) (d_fn O__law_lots (hr.mono (by decide)) rfl (da_cons (dv 3) da_nil))) (dss_cons (ds_if (dw_pt (dw_or (dt_ne hr.units (d_fn O_rounds (hr.mono (by decide)) rfl (da_cons (dv 3) da_nil)) (d_callTy call_tupO (sem_1 sem_tupO) rfl z_tuple b_tuple (da_cons (d_lc (own := [("lot", 10)]) rfl S.nd (di_seq (dv 7)) (blkOk_by (by first | decide +kernel | rfl)) (by decide) (fun _ _ _ _ _ => (dgn 10 S.nd)) (fun _ _ _ _ _ => (dts_one (dt_gt (d_callB call_len1 (sem_1 sem_len) rfl z_len b_len (da_cons (dv 10) da_nil)) d_int))) (fun _ _ _ _ _ => (dv 10))) da_nil))) (dw_or1 (dt_ne hr.units (d_fn O_sort (hr.mono (by decide)) rfl (da_cons (dv 3) da_nil)) (d_callTy call_tupO (sem_1 sem_tupO) rfl z_tuple b_tuple (da_cons (d_callB call_sort1 (sem_1 sem_sortI) rfl z_sorted b_sorted (da_cons (d_lc (own := [("lot", 10)]) rfl S.nd (di_seq (dv 7)) (blkOk_by (by first | decide +kernel | rfl)) (by decide) (fun _ _ _ _ _ => (dgn 10 S.nd)) (fun _ _ _ _ _ => dts_nil) (fun _ _ _ _ _ => (d_callB call_len1 (sem_1 sem_len) rfl z_len b_len (da_cons (dv 10) da_nil)))) da_nil)) da_nil)))))) (dss_one (ds_ret d_bl)) dss_nil) (dss_cons (ds_set (i := 8) S.nd rfl (by first | exact Or.inl rfl | exact Or.inr rfl) d_int) (dss_cons (ds_for PassesOwn.never rfl (di_rg1 rfl z_range (da_cons (dv 2) da_nil)) (dgn 9 S.nd) (dss_one (ds_set (i := 8) S.nd rfl (by first | exact Or.inl rfl | exact Or.inr rfl) (d_add (dv 8) (d_callB call_len1 (sem_1 sem_len) rfl z_len b_len (da_cons (d_lc (own := [("y", 11)]) rfl S.nd (di_rg2 rfl z_range (da_cons (d_add (dv 9) d_int) (da_cons (dv 2) da_nil))) (blkOk_by (by first | decide +kernel | rfl)) (by decide) (fun _ _ _ _ _ => (dgn 11 S.nd)) (fun _ _ _ _ _ => (dts_one (dt_gt (d_ix (hu1 hr.units) (dv 3) (dv 9)) (d_ix (hu1 hr.units) (dv 3) (dv 11))))) (fun _ _ _ _ _ => (dv 11))) da_nil)))))) (dss_one (ds_ret (d_and (d_eq hr.units (d_fn O_sign (hr.mono (by decide)) rfl (da_cons (dv 3) da_nil)) (d_if (dt_eq hr.units (d_mod (dv 8) d_int) d_int) d_int (d_neg d_int))) (d_one (d_eq hr.units (d_fn O_sign (hr.mono (by decide)) rfl (da_cons (d_fn O_then (hr.mono (by decide)) rfl (da_cons (dv 3) (da_cons (dv 4) da_nil))) da_nil)) (d_mul (d_fn O_sign (hr.mono (by decide)) rfl (da_cons (dv 3) da_nil)) (d_fn O_sign (hr.mono (by decide)) rfl (da_cons (dv 4) da_nil))))))))))))))))))))))) vc_law
end
theorem all_mk {l : PySem.W.OpenLaw} {w : World} {K : PySem.W.Frag} {h : Heap} {mg : Str → Option Value} {fa f_is_number f_is_turning f_check_some f_stay f_put f_turned_back f_then f_back f_power f_lots f_rounds f_common f_order f_sort f_sign f__law_box f__law_take f__law_turning f__law_put f__law_back f__law_round f__law_times f__law_lots f__law_order f_law : Addr} (X : K.In h) (G : h.Ns mainGlobals mg) (hfa : mg "law" = some (.ref fa))
    {od_is_number an_is_number : Option Addr} {sl_is_number : Array (Option Value)} {oc_is_number kV_is_number dc_is_number pm_is_number cd_is_number ct_is_number : Value}
    (a_is_number : PySem.W.nsIn K mainGlobals "is_number" = some (some (.ref f_is_number))) (l_is_number : K.lookup f_is_number = some ⟨oc_is_number, od_is_number, .func (PySem.W.fnOf "is_number" "is_number" (defArgs s_is_number) (defBody s_is_number) (defScope s_is_number) .none kV_is_number dc_is_number pm_is_number an_is_number cd_is_number ct_is_number), sl_is_number⟩) (k_is_number : PySem.W.codeIn K cd_is_number "is_number" = true) (q_is_number : PySem.W.keepIn K (.ref f_is_number) = true)
    {od_is_turning an_is_turning : Option Addr} {sl_is_turning : Array (Option Value)} {oc_is_turning kV_is_turning dc_is_turning pm_is_turning cd_is_turning ct_is_turning : Value}
    (a_is_turning : PySem.W.nsIn K mainGlobals "is_turning" = some (some (.ref f_is_turning))) (l_is_turning : K.lookup f_is_turning = some ⟨oc_is_turning, od_is_turning, .func (PySem.W.fnOf "is_turning" "is_turning" (defArgs s_is_turning) (defBody s_is_turning) (defScope s_is_turning) .none kV_is_turning dc_is_turning pm_is_turning an_is_turning cd_is_turning ct_is_turning), sl_is_turning⟩) (k_is_turning : PySem.W.codeIn K cd_is_turning "is_turning" = true) (q_is_turning : PySem.W.keepIn K (.ref f_is_turning) = true)
    {od_check_some an_check_some : Option Addr} {sl_check_some : Array (Option Value)} {oc_check_some kV_check_some dc_check_some pm_check_some cd_check_some ct_check_some : Value}
    (a_check_some : PySem.W.nsIn K mainGlobals "check_some" = some (some (.ref f_check_some))) (l_check_some : K.lookup f_check_some = some ⟨oc_check_some, od_check_some, .func (PySem.W.fnOf "check_some" "check_some" (defArgs s_check_some) (defBody s_check_some) (defScope s_check_some) .none kV_check_some dc_check_some pm_check_some an_check_some cd_check_some ct_check_some), sl_check_some⟩) (k_check_some : PySem.W.codeIn K cd_check_some "check_some" = true) (q_check_some : PySem.W.keepIn K (.ref f_check_some) = true)
    {od_stay an_stay : Option Addr} {sl_stay : Array (Option Value)} {oc_stay kV_stay dc_stay pm_stay cd_stay ct_stay : Value}
    (a_stay : PySem.W.nsIn K mainGlobals "stay" = some (some (.ref f_stay))) (l_stay : K.lookup f_stay = some ⟨oc_stay, od_stay, .func (PySem.W.fnOf "stay" "stay" (defArgs s_stay) (defBody s_stay) (defScope s_stay) .none kV_stay dc_stay pm_stay an_stay cd_stay ct_stay), sl_stay⟩) (k_stay : PySem.W.codeIn K cd_stay "stay" = true) (q_stay : PySem.W.keepIn K (.ref f_stay) = true)
    {od_put an_put : Option Addr} {sl_put : Array (Option Value)} {oc_put kV_put dc_put pm_put cd_put ct_put : Value}
    (a_put : PySem.W.nsIn K mainGlobals "put" = some (some (.ref f_put))) (l_put : K.lookup f_put = some ⟨oc_put, od_put, .func (PySem.W.fnOf "put" "put" (defArgs s_put) (defBody s_put) (defScope s_put) .none kV_put dc_put pm_put an_put cd_put ct_put), sl_put⟩) (k_put : PySem.W.codeIn K cd_put "put" = true) (q_put : PySem.W.keepIn K (.ref f_put) = true)
    {od_turned_back an_turned_back : Option Addr} {sl_turned_back : Array (Option Value)} {oc_turned_back kV_turned_back dc_turned_back pm_turned_back cd_turned_back ct_turned_back : Value}
    (a_turned_back : PySem.W.nsIn K mainGlobals "turned_back" = some (some (.ref f_turned_back))) (l_turned_back : K.lookup f_turned_back = some ⟨oc_turned_back, od_turned_back, .func (PySem.W.fnOf "turned_back" "turned_back" (defArgs s_turned_back) (defBody s_turned_back) (defScope s_turned_back) .none kV_turned_back dc_turned_back pm_turned_back an_turned_back cd_turned_back ct_turned_back), sl_turned_back⟩) (k_turned_back : PySem.W.codeIn K cd_turned_back "turned_back" = true) (q_turned_back : PySem.W.keepIn K (.ref f_turned_back) = true)
    {od_then an_then : Option Addr} {sl_then : Array (Option Value)} {oc_then kV_then dc_then pm_then cd_then ct_then : Value}
    (a_then : PySem.W.nsIn K mainGlobals "then" = some (some (.ref f_then))) (l_then : K.lookup f_then = some ⟨oc_then, od_then, .func (PySem.W.fnOf "then" "then" (defArgs s_then) (defBody s_then) (defScope s_then) .none kV_then dc_then pm_then an_then cd_then ct_then), sl_then⟩) (k_then : PySem.W.codeIn K cd_then "then" = true) (q_then : PySem.W.keepIn K (.ref f_then) = true)
    {od_back an_back : Option Addr} {sl_back : Array (Option Value)} {oc_back kV_back dc_back pm_back cd_back ct_back : Value}
    (a_back : PySem.W.nsIn K mainGlobals "back" = some (some (.ref f_back))) (l_back : K.lookup f_back = some ⟨oc_back, od_back, .func (PySem.W.fnOf "back" "back" (defArgs s_back) (defBody s_back) (defScope s_back) .none kV_back dc_back pm_back an_back cd_back ct_back), sl_back⟩) (k_back : PySem.W.codeIn K cd_back "back" = true) (q_back : PySem.W.keepIn K (.ref f_back) = true)
    {od_power an_power : Option Addr} {sl_power : Array (Option Value)} {oc_power kV_power dc_power pm_power cd_power ct_power : Value}
    (a_power : PySem.W.nsIn K mainGlobals "power" = some (some (.ref f_power))) (l_power : K.lookup f_power = some ⟨oc_power, od_power, .func (PySem.W.fnOf "power" "power" (defArgs s_power) (defBody s_power) (defScope s_power) .none kV_power dc_power pm_power an_power cd_power ct_power), sl_power⟩) (k_power : PySem.W.codeIn K cd_power "power" = true) (q_power : PySem.W.keepIn K (.ref f_power) = true)
    {od_lots an_lots : Option Addr} {sl_lots : Array (Option Value)} {oc_lots kV_lots dc_lots pm_lots cd_lots ct_lots : Value}
    (a_lots : PySem.W.nsIn K mainGlobals "lots" = some (some (.ref f_lots))) (l_lots : K.lookup f_lots = some ⟨oc_lots, od_lots, .func (PySem.W.fnOf "lots" "lots" (defArgs s_lots) (defBody s_lots) (defScope s_lots) .none kV_lots dc_lots pm_lots an_lots cd_lots ct_lots), sl_lots⟩) (k_lots : PySem.W.codeIn K cd_lots "lots" = true) (q_lots : PySem.W.keepIn K (.ref f_lots) = true)
    {od_rounds an_rounds : Option Addr} {sl_rounds : Array (Option Value)} {oc_rounds kV_rounds dc_rounds pm_rounds cd_rounds ct_rounds : Value}
    (a_rounds : PySem.W.nsIn K mainGlobals "rounds" = some (some (.ref f_rounds))) (l_rounds : K.lookup f_rounds = some ⟨oc_rounds, od_rounds, .func (PySem.W.fnOf "rounds" "rounds" (defArgs s_rounds) (defBody s_rounds) (defScope s_rounds) .none kV_rounds dc_rounds pm_rounds an_rounds cd_rounds ct_rounds), sl_rounds⟩) (k_rounds : PySem.W.codeIn K cd_rounds "rounds" = true) (q_rounds : PySem.W.keepIn K (.ref f_rounds) = true)
    {od_common an_common : Option Addr} {sl_common : Array (Option Value)} {oc_common kV_common dc_common pm_common cd_common ct_common : Value}
    (a_common : PySem.W.nsIn K mainGlobals "common" = some (some (.ref f_common))) (l_common : K.lookup f_common = some ⟨oc_common, od_common, .func (PySem.W.fnOf "common" "common" (defArgs s_common) (defBody s_common) (defScope s_common) .none kV_common dc_common pm_common an_common cd_common ct_common), sl_common⟩) (k_common : PySem.W.codeIn K cd_common "common" = true) (q_common : PySem.W.keepIn K (.ref f_common) = true)
    {od_order an_order : Option Addr} {sl_order : Array (Option Value)} {oc_order kV_order dc_order pm_order cd_order ct_order : Value}
    (a_order : PySem.W.nsIn K mainGlobals "order" = some (some (.ref f_order))) (l_order : K.lookup f_order = some ⟨oc_order, od_order, .func (PySem.W.fnOf "order" "order" (defArgs s_order) (defBody s_order) (defScope s_order) .none kV_order dc_order pm_order an_order cd_order ct_order), sl_order⟩) (k_order : PySem.W.codeIn K cd_order "order" = true) (q_order : PySem.W.keepIn K (.ref f_order) = true)
    {od_sort an_sort : Option Addr} {sl_sort : Array (Option Value)} {oc_sort kV_sort dc_sort pm_sort cd_sort ct_sort : Value}
    (a_sort : PySem.W.nsIn K mainGlobals "sort" = some (some (.ref f_sort))) (l_sort : K.lookup f_sort = some ⟨oc_sort, od_sort, .func (PySem.W.fnOf "sort" "sort" (defArgs s_sort) (defBody s_sort) (defScope s_sort) .none kV_sort dc_sort pm_sort an_sort cd_sort ct_sort), sl_sort⟩) (k_sort : PySem.W.codeIn K cd_sort "sort" = true) (q_sort : PySem.W.keepIn K (.ref f_sort) = true)
    {od_sign an_sign : Option Addr} {sl_sign : Array (Option Value)} {oc_sign kV_sign dc_sign pm_sign cd_sign ct_sign : Value}
    (a_sign : PySem.W.nsIn K mainGlobals "sign" = some (some (.ref f_sign))) (l_sign : K.lookup f_sign = some ⟨oc_sign, od_sign, .func (PySem.W.fnOf "sign" "sign" (defArgs s_sign) (defBody s_sign) (defScope s_sign) .none kV_sign dc_sign pm_sign an_sign cd_sign ct_sign), sl_sign⟩) (k_sign : PySem.W.codeIn K cd_sign "sign" = true) (q_sign : PySem.W.keepIn K (.ref f_sign) = true)
    {od__law_box an__law_box : Option Addr} {sl__law_box : Array (Option Value)} {oc__law_box kV__law_box dc__law_box pm__law_box cd__law_box ct__law_box : Value}
    (a__law_box : PySem.W.nsIn K mainGlobals "_law_box" = some (some (.ref f__law_box))) (l__law_box : K.lookup f__law_box = some ⟨oc__law_box, od__law_box, .func (PySem.W.fnOf "_law_box" "_law_box" (defArgs s__law_box) (defBody s__law_box) (defScope s__law_box) .none kV__law_box dc__law_box pm__law_box an__law_box cd__law_box ct__law_box), sl__law_box⟩) (k__law_box : PySem.W.codeIn K cd__law_box "_law_box" = true) (q__law_box : PySem.W.keepIn K (.ref f__law_box) = true)
    {od__law_take an__law_take : Option Addr} {sl__law_take : Array (Option Value)} {oc__law_take kV__law_take dc__law_take pm__law_take cd__law_take ct__law_take : Value}
    (a__law_take : PySem.W.nsIn K mainGlobals "_law_take" = some (some (.ref f__law_take))) (l__law_take : K.lookup f__law_take = some ⟨oc__law_take, od__law_take, .func (PySem.W.fnOf "_law_take" "_law_take" (defArgs s__law_take) (defBody s__law_take) (defScope s__law_take) .none kV__law_take dc__law_take pm__law_take an__law_take cd__law_take ct__law_take), sl__law_take⟩) (k__law_take : PySem.W.codeIn K cd__law_take "_law_take" = true) (q__law_take : PySem.W.keepIn K (.ref f__law_take) = true)
    {od__law_turning an__law_turning : Option Addr} {sl__law_turning : Array (Option Value)} {oc__law_turning kV__law_turning dc__law_turning pm__law_turning cd__law_turning ct__law_turning : Value}
    (a__law_turning : PySem.W.nsIn K mainGlobals "_law_turning" = some (some (.ref f__law_turning))) (l__law_turning : K.lookup f__law_turning = some ⟨oc__law_turning, od__law_turning, .func (PySem.W.fnOf "_law_turning" "_law_turning" (defArgs s__law_turning) (defBody s__law_turning) (defScope s__law_turning) .none kV__law_turning dc__law_turning pm__law_turning an__law_turning cd__law_turning ct__law_turning), sl__law_turning⟩) (k__law_turning : PySem.W.codeIn K cd__law_turning "_law_turning" = true) (q__law_turning : PySem.W.keepIn K (.ref f__law_turning) = true)
    {od__law_put an__law_put : Option Addr} {sl__law_put : Array (Option Value)} {oc__law_put kV__law_put dc__law_put pm__law_put cd__law_put ct__law_put : Value}
    (a__law_put : PySem.W.nsIn K mainGlobals "_law_put" = some (some (.ref f__law_put))) (l__law_put : K.lookup f__law_put = some ⟨oc__law_put, od__law_put, .func (PySem.W.fnOf "_law_put" "_law_put" (defArgs s__law_put) (defBody s__law_put) (defScope s__law_put) .none kV__law_put dc__law_put pm__law_put an__law_put cd__law_put ct__law_put), sl__law_put⟩) (k__law_put : PySem.W.codeIn K cd__law_put "_law_put" = true) (q__law_put : PySem.W.keepIn K (.ref f__law_put) = true)
    {od__law_back an__law_back : Option Addr} {sl__law_back : Array (Option Value)} {oc__law_back kV__law_back dc__law_back pm__law_back cd__law_back ct__law_back : Value}
    (a__law_back : PySem.W.nsIn K mainGlobals "_law_back" = some (some (.ref f__law_back))) (l__law_back : K.lookup f__law_back = some ⟨oc__law_back, od__law_back, .func (PySem.W.fnOf "_law_back" "_law_back" (defArgs s__law_back) (defBody s__law_back) (defScope s__law_back) .none kV__law_back dc__law_back pm__law_back an__law_back cd__law_back ct__law_back), sl__law_back⟩) (k__law_back : PySem.W.codeIn K cd__law_back "_law_back" = true) (q__law_back : PySem.W.keepIn K (.ref f__law_back) = true)
    {od__law_round an__law_round : Option Addr} {sl__law_round : Array (Option Value)} {oc__law_round kV__law_round dc__law_round pm__law_round cd__law_round ct__law_round : Value}
    (a__law_round : PySem.W.nsIn K mainGlobals "_law_round" = some (some (.ref f__law_round))) (l__law_round : K.lookup f__law_round = some ⟨oc__law_round, od__law_round, .func (PySem.W.fnOf "_law_round" "_law_round" (defArgs s__law_round) (defBody s__law_round) (defScope s__law_round) .none kV__law_round dc__law_round pm__law_round an__law_round cd__law_round ct__law_round), sl__law_round⟩) (k__law_round : PySem.W.codeIn K cd__law_round "_law_round" = true) (q__law_round : PySem.W.keepIn K (.ref f__law_round) = true)
    {od__law_times an__law_times : Option Addr} {sl__law_times : Array (Option Value)} {oc__law_times kV__law_times dc__law_times pm__law_times cd__law_times ct__law_times : Value}
    (a__law_times : PySem.W.nsIn K mainGlobals "_law_times" = some (some (.ref f__law_times))) (l__law_times : K.lookup f__law_times = some ⟨oc__law_times, od__law_times, .func (PySem.W.fnOf "_law_times" "_law_times" (defArgs s__law_times) (defBody s__law_times) (defScope s__law_times) .none kV__law_times dc__law_times pm__law_times an__law_times cd__law_times ct__law_times), sl__law_times⟩) (k__law_times : PySem.W.codeIn K cd__law_times "_law_times" = true) (q__law_times : PySem.W.keepIn K (.ref f__law_times) = true)
    {od__law_lots an__law_lots : Option Addr} {sl__law_lots : Array (Option Value)} {oc__law_lots kV__law_lots dc__law_lots pm__law_lots cd__law_lots ct__law_lots : Value}
    (a__law_lots : PySem.W.nsIn K mainGlobals "_law_lots" = some (some (.ref f__law_lots))) (l__law_lots : K.lookup f__law_lots = some ⟨oc__law_lots, od__law_lots, .func (PySem.W.fnOf "_law_lots" "_law_lots" (defArgs s__law_lots) (defBody s__law_lots) (defScope s__law_lots) .none kV__law_lots dc__law_lots pm__law_lots an__law_lots cd__law_lots ct__law_lots), sl__law_lots⟩) (k__law_lots : PySem.W.codeIn K cd__law_lots "_law_lots" = true) (q__law_lots : PySem.W.keepIn K (.ref f__law_lots) = true)
    {od__law_order an__law_order : Option Addr} {sl__law_order : Array (Option Value)} {oc__law_order kV__law_order dc__law_order pm__law_order cd__law_order ct__law_order : Value}
    (a__law_order : PySem.W.nsIn K mainGlobals "_law_order" = some (some (.ref f__law_order))) (l__law_order : K.lookup f__law_order = some ⟨oc__law_order, od__law_order, .func (PySem.W.fnOf "_law_order" "_law_order" (defArgs s__law_order) (defBody s__law_order) (defScope s__law_order) .none kV__law_order dc__law_order pm__law_order an__law_order cd__law_order ct__law_order), sl__law_order⟩) (k__law_order : PySem.W.codeIn K cd__law_order "_law_order" = true) (q__law_order : PySem.W.keepIn K (.ref f__law_order) = true)
    {od_law an_law : Option Addr} {sl_law : Array (Option Value)} {oc_law kV_law dc_law pm_law cd_law ct_law : Value}
    (a_law : PySem.W.nsIn K mainGlobals "law" = some (some (.ref f_law))) (l_law : K.lookup f_law = some ⟨oc_law, od_law, .func (PySem.W.fnOf "law" "law" (defArgs s_law) (defBody s_law) (defScope s_law) .none kV_law dc_law pm_law an_law cd_law ct_law), sl_law⟩) (k_law : PySem.W.codeIn K cd_law "law" = true) (q_law : PySem.W.keepIn K (.ref f_law) = true)
    {tk_MOST_POINTS : Tok} (v_MOST_POINTS : PySem.W.nsIn K mainGlobals "MOST_POINTS" = some (some (.int 24 tk_MOST_POINTS)))
    (z_bool : PySem.W.nsIn K mainGlobals "bool" = some none)
    (z_isinstance : PySem.W.nsIn K mainGlobals "isinstance" = some none)
    (z_int : PySem.W.nsIn K mainGlobals "int" = some none)
    (z_len : PySem.W.nsIn K mainGlobals "len" = some none)
    (z_tuple : PySem.W.nsIn K mainGlobals "tuple" = some none)
    (z_all : PySem.W.nsIn K mainGlobals "all" = some none)
    (z_set : PySem.W.nsIn K mainGlobals "set" = some none)
    (z_range : PySem.W.nsIn K mainGlobals "range" = some none)
    (z_enumerate : PySem.W.nsIn K mainGlobals "enumerate" = some none)
    (z_sorted : PySem.W.nsIn K mainGlobals "sorted" = some none)
    (z_sum : PySem.W.nsIn K mainGlobals "sum" = some none)
    (z_abs : PySem.W.nsIn K mainGlobals "abs" = some none)
    (z_list : PySem.W.nsIn K mainGlobals "list" = some none) :
    ∃ fd : FuncData, (∀ (s : Shared) (v : Value), BindsTo s fd ⟨[v], []⟩ [("script", v)]) ∧ ∀ base : Heap, K.In base → base.Ns mainGlobals mg → FnOk l.prog w K mg base CX0 5 fa fd ["script"] (liftSp ⟨K, l.prog, w⟩ sp_law) := by
  have e := hfa.symm.trans (PySem.W.mg_of X G a_law)
  cases e
  have y_MOST_POINTS := PySem.W.mg_of X G v_MOST_POINTS
  have w_bool := PySem.W.mg_none_of X G z_bool
  have w_isinstance := PySem.W.mg_none_of X G z_isinstance
  have w_int := PySem.W.mg_none_of X G z_int
  have w_len := PySem.W.mg_none_of X G z_len
  have w_tuple := PySem.W.mg_none_of X G z_tuple
  have w_all := PySem.W.mg_none_of X G z_all
  have w_set := PySem.W.mg_none_of X G z_set
  have w_range := PySem.W.mg_none_of X G z_range
  have w_enumerate := PySem.W.mg_none_of X G z_enumerate
  have w_sorted := PySem.W.mg_none_of X G z_sorted
  have w_sum := PySem.W.mg_none_of X G z_sum
  have w_abs := PySem.W.mg_none_of X G z_abs
  have w_list := PySem.W.mg_none_of X G z_list
  have F_is_number := fun_mk (st := s_is_number) l_is_number k_is_number q_is_number
  have b_is_number := F_is_number.binds (ps := ["x"]) fun _ _ _ _ _ _ us hl => match us, hl with | [_], _ => rfl
  have F_is_turning := fun_mk (st := s_is_turning) l_is_turning k_is_turning q_is_turning
  have b_is_turning := F_is_turning.binds (ps := ["n", "x"]) fun _ _ _ _ _ _ us hl => match us, hl with | [_, _], _ => rfl
  have F_check_some := fun_mk (st := s_check_some) l_check_some k_check_some q_check_some
  have b_check_some := F_check_some.binds (ps := ["p"]) fun _ _ _ _ _ _ us hl => match us, hl with | [_], _ => rfl
  have F_stay := fun_mk (st := s_stay) l_stay k_stay q_stay
  have b_stay := F_stay.binds (ps := ["n"]) fun _ _ _ _ _ _ us hl => match us, hl with | [_], _ => rfl
  have F_put := fun_mk (st := s_put) l_put k_put q_put
  have b_put := F_put.binds (ps := ["p", "q"]) fun _ _ _ _ _ _ us hl => match us, hl with | [_, _], _ => rfl
  have F_turned_back := fun_mk (st := s_turned_back) l_turned_back k_turned_back q_turned_back
  have b_turned_back := F_turned_back.binds (ps := ["p"]) fun _ _ _ _ _ _ us hl => match us, hl with | [_], _ => rfl
  have F_then := fun_mk (st := s_then) l_then k_then q_then
  have b_then := F_then.binds (ps := ["p", "q"]) fun _ _ _ _ _ _ us hl => match us, hl with | [_, _], _ => rfl
  have F_back := fun_mk (st := s_back) l_back k_back q_back
  have b_back := F_back.binds (ps := ["p"]) fun _ _ _ _ _ _ us hl => match us, hl with | [_], _ => rfl
  have F_power := fun_mk (st := s_power) l_power k_power q_power
  have b_power := F_power.binds (ps := ["p", "k"]) fun _ _ _ _ _ _ us hl => match us, hl with | [_, _], _ => rfl
  have F_lots := fun_mk (st := s_lots) l_lots k_lots q_lots
  have b_lots := F_lots.binds (ps := ["p"]) fun _ _ _ _ _ _ us hl => match us, hl with | [_], _ => rfl
  have F_rounds := fun_mk (st := s_rounds) l_rounds k_rounds q_rounds
  have b_rounds := F_rounds.binds (ps := ["p"]) fun _ _ _ _ _ _ us hl => match us, hl with | [_], _ => rfl
  have F_common := fun_mk (st := s_common) l_common k_common q_common
  have b_common := F_common.binds (ps := ["a", "b"]) fun _ _ _ _ _ _ us hl => match us, hl with | [_, _], _ => rfl
  have F_order := fun_mk (st := s_order) l_order k_order q_order
  have b_order := F_order.binds (ps := ["p"]) fun _ _ _ _ _ _ us hl => match us, hl with | [_], _ => rfl
  have F_sort := fun_mk (st := s_sort) l_sort k_sort q_sort
  have b_sort := F_sort.binds (ps := ["p"]) fun _ _ _ _ _ _ us hl => match us, hl with | [_], _ => rfl
  have F_sign := fun_mk (st := s_sign) l_sign k_sign q_sign
  have b_sign := F_sign.binds (ps := ["p"]) fun _ _ _ _ _ _ us hl => match us, hl with | [_], _ => rfl
  have F__law_box := fun_mk (st := s__law_box) l__law_box k__law_box q__law_box
  have b__law_box := F__law_box.binds (ps := ["script"]) fun _ _ _ _ _ _ us hl => match us, hl with | [_], _ => rfl
  have F__law_take := fun_mk (st := s__law_take) l__law_take k__law_take q__law_take
  have b__law_take := F__law_take.binds (ps := ["box", "m"]) fun _ _ _ _ _ _ us hl => match us, hl with | [_, _], _ => rfl
  have F__law_turning := fun_mk (st := s__law_turning) l__law_turning k__law_turning q__law_turning
  have b__law_turning := F__law_turning.binds (ps := ["box", "n"]) fun _ _ _ _ _ _ us hl => match us, hl with | [_, _], _ => rfl
  have F__law_put := fun_mk (st := s__law_put) l__law_put k__law_put q__law_put
  have b__law_put := F__law_put.binds (ps := ["p", "q"]) fun _ _ _ _ _ _ us hl => match us, hl with | [_, _], _ => rfl
  have F__law_back := fun_mk (st := s__law_back) l__law_back k__law_back q__law_back
  have b__law_back := F__law_back.binds (ps := ["p"]) fun _ _ _ _ _ _ us hl => match us, hl with | [_], _ => rfl
  have F__law_round := fun_mk (st := s__law_round) l__law_round k__law_round q__law_round
  have b__law_round := F__law_round.binds (ps := ["n", "points"]) fun _ _ _ _ _ _ us hl => match us, hl with | [_, _], _ => rfl
  have F__law_times := fun_mk (st := s__law_times) l__law_times k__law_times q__law_times
  have b__law_times := F__law_times.binds (ps := ["p", "k"]) fun _ _ _ _ _ _ us hl => match us, hl with | [_, _], _ => rfl
  have F__law_lots := fun_mk (st := s__law_lots) l__law_lots k__law_lots q__law_lots
  have b__law_lots := F__law_lots.binds (ps := ["p"]) fun _ _ _ _ _ _ us hl => match us, hl with | [_], _ => rfl
  have F__law_order := fun_mk (st := s__law_order) l__law_order k__law_order q__law_order
  have b__law_order := F__law_order.binds (ps := ["p"]) fun _ _ _ _ _ _ us hl => match us, hl with | [_], _ => rfl
  have F_law := fun_mk (st := s_law) l_law k_law q_law
  refine ⟨PySem.W.fnOf "law" "law" (defArgs s_law) (defBody s_law) (defScope s_law) .none kV_law dc_law pm_law an_law cd_law ct_law, fun s v => .of_eq rfl, fun base _ _ => ?_⟩
  have O_is_number := ok_is_number (P := l.prog) (w := w) (mg := mg) (base := base) F_is_number (PySem.W.mg_of X G a_is_number) q_is_number b_is_number w_bool w_isinstance w_int
  have O_stay := ok_stay (P := l.prog) (w := w) (mg := mg) (base := base) F_stay (PySem.W.mg_of X G a_stay) q_stay b_stay w_tuple w_range
  have O_put := ok_put (P := l.prog) (w := w) (mg := mg) (base := base) F_put (PySem.W.mg_of X G a_put) q_put b_put w_tuple
  have O_turned_back := ok_turned_back (P := l.prog) (w := w) (mg := mg) (base := base) F_turned_back (PySem.W.mg_of X G a_turned_back) q_turned_back b_turned_back w_len w_enumerate w_tuple
  have O_lots := ok_lots (P := l.prog) (w := w) (mg := mg) (base := base) F_lots (PySem.W.mg_of X G a_lots) q_lots b_lots w_len w_range w_tuple
  have O_common := ok_common (P := l.prog) (w := w) (mg := mg) (base := base) F_common (PySem.W.mg_of X G a_common) q_common b_common
  have O__law_box := ok__law_box (P := l.prog) (w := w) (mg := mg) (base := base) F__law_box (PySem.W.mg_of X G a__law_box) q__law_box b__law_box w_int w_abs
  have O__law_take := ok__law_take (P := l.prog) (w := w) (mg := mg) (base := base) F__law_take (PySem.W.mg_of X G a__law_take) q__law_take b__law_take w_len w_int
  have O__law_put := ok__law_put (P := l.prog) (w := w) (mg := mg) (base := base) F__law_put (PySem.W.mg_of X G a__law_put) q__law_put b__law_put w_tuple
  have O__law_back := ok__law_back (P := l.prog) (w := w) (mg := mg) (base := base) F__law_back (PySem.W.mg_of X G a__law_back) q__law_back b__law_back w_len w_range w_tuple
  have O__law_round := ok__law_round (P := l.prog) (w := w) (mg := mg) (base := base) F__law_round (PySem.W.mg_of X G a__law_round) q__law_round b__law_round w_list w_range w_len w_tuple
  have O__law_lots := ok__law_lots (P := l.prog) (w := w) (mg := mg) (base := base) F__law_lots (PySem.W.mg_of X G a__law_lots) q__law_lots b__law_lots w_len w_range w_tuple
  have O_is_turning := ok_is_turning (P := l.prog) (w := w) (mg := mg) (base := base) F_is_turning (PySem.W.mg_of X G a_is_turning) q_is_turning b_is_turning w_len w_tuple w_isinstance w_all w_set y_MOST_POINTS O_is_number
  have O__law_turning := ok__law_turning (P := l.prog) (w := w) (mg := mg) (base := base) F__law_turning (PySem.W.mg_of X G a__law_turning) q__law_turning b__law_turning w_range w_tuple O__law_take
  have O__law_times := ok__law_times (P := l.prog) (w := w) (mg := mg) (base := base) F__law_times (PySem.W.mg_of X G a__law_times) q__law_times b__law_times w_len w_tuple w_range w_abs O__law_back O__law_put
  have O__law_order := ok__law_order (P := l.prog) (w := w) (mg := mg) (base := base) F__law_order (PySem.W.mg_of X G a__law_order) q__law_order b__law_order w_len w_tuple w_range O__law_put
  have O_check_some := ok_check_some (P := l.prog) (w := w) (mg := mg) (base := base) F_check_some (PySem.W.mg_of X G a_check_some) q_check_some b_check_some w_len w_tuple w_isinstance O_is_turning
  have O_then := ok_then (P := l.prog) (w := w) (mg := mg) (base := base) F_then (PySem.W.mg_of X G a_then) q_then b_then w_len O_check_some O_put
  have O_back := ok_back (P := l.prog) (w := w) (mg := mg) (base := base) F_back (PySem.W.mg_of X G a_back) q_back b_back O_check_some O_turned_back
  have O_power := ok_power (P := l.prog) (w := w) (mg := mg) (base := base) F_power (PySem.W.mg_of X G a_power) q_power b_power w_len O_check_some O_turned_back O_stay O_put
  have O_rounds := ok_rounds (P := l.prog) (w := w) (mg := mg) (base := base) F_rounds (PySem.W.mg_of X G a_rounds) q_rounds b_rounds w_len w_tuple O_check_some O_lots
  have O_order := ok_order (P := l.prog) (w := w) (mg := mg) (base := base) F_order (PySem.W.mg_of X G a_order) q_order b_order w_len O_check_some O_lots O_common
  have O_sort := ok_sort (P := l.prog) (w := w) (mg := mg) (base := base) F_sort (PySem.W.mg_of X G a_sort) q_sort b_sort w_len w_sorted w_tuple O_check_some O_lots
  have O_sign := ok_sign (P := l.prog) (w := w) (mg := mg) (base := base) F_sign (PySem.W.mg_of X G a_sign) q_sign b_sign w_len w_sum O_check_some O_lots
  exact ok_law (P := l.prog) (w := w) (mg := mg) (base := base) F_law w_tuple w_range w_len w_sorted O__law_box O__law_take O__law_turning O__law_round O_back O__law_back O_then O__law_put O_is_turning O_stay O_power O__law_times O__law_order O_order O__law_lots O_sort O_rounds O_sign
theorem only_list {K : KW} {H : Hp} {a : Addr} {ns : List Int} (hS : SqL K.K H a (ns.map V.int)) : ∃ d : D, RepD K H d (.ref a) ∧ (∀ b, cD b d ≤ 1) ∧ (d = .dat (.list (ns.map .int)) ∨ ∃ a, d = .lst a (ns.map .int)) := by
  rcases hS with (h | ⟨o, h⟩) | h
  · exact ⟨.lst a (ns.map .int), ⟨rfl, _, h, RepPs.of_ints ns⟩, fun b => by show one b a ≤ 1; unfold one; split <;> omega, .inr ⟨a, rfl⟩⟩
  · exact ⟨.dat (.list (ns.map .int)), ⟨a, _, rfl, .inl ⟨o, h⟩, RepPs.of_ints ns⟩, fun b => Nat.zero_le _, .inl rfl⟩
  · exact ⟨.dat (.list (ns.map .int)), ⟨a, _, rfl, .inr h, RepPs.of_ints ns⟩, fun b => Nat.zero_le _, .inl rfl⟩
theorem walk {l : PySem.W.OpenLaw} {q : Program} {loose : List Str} {XP : (Str → Option Value) → Heap → Prop} {YP : World → Heap → Prop} {d : DefRec} {K : Params → PySem.W.Frag} (hn : l.most = some 63) (hdf : d.params.defaults = [])
    (hY : ∀ (w : World) (h : Heap), YP w h → (K w.params).In h)
    (F : ∀ (w : World) (mg : Str → Option Value) (fa : Addr) (h : Heap), (K w.params).In h → h.Ns mainGlobals mg → mg d.name = some (.ref fa) →
      ∃ fd : FuncData, (∀ (s : Shared) (u : Value), BindsTo s fd ⟨[u], []⟩ [("script", u)]) ∧ ∀ base : Heap, (K w.params).In base → base.Ns mainGlobals mg → FnOk l.prog w (K w.params) mg base CX0 5 fa fd ["script"] (liftSp ⟨K w.params, l.prog, w⟩ sp_law)) :
    PySem.W.WalkO q loose XP YP l.row.toRowW d [] (fun f vs => PySem.call f vs) :=
  L2.walk_of (n := 63) (k := 5) (x := "script") (CX := fun _ => CX0) (sp := fun w => liftSp ⟨K w.params, l.prog, w⟩ sp_law) hn (by decide) hdf ⟨rfl, by decide, by decide⟩ hY F
    (fun w H a ns hl _ hS => by
      obtain ⟨d, h1, h2, h3⟩ := only_list (K := ⟨K w.params, l.prog, w⟩) hS
      exact ⟨[d], fun d _ => d = .dat (.bool true), ⟨.ref a, [], rfl, h1, rfl⟩, fun b => by show cD b d + 0 ≤ 1; have := h2 b; omega, ⟨d, ns, rfl, h3, hl, rfl⟩, fun v d H' ds' r _ _ _ _ e => by subst e; exact r⟩) fun _ _ _ _ _ z => z
end TT
open PySem PySem.W PyProof.Rows
set_option maxRecDepth 100000 in
set_option maxHeartbeats 0 in
theorem PySem.Challenge.cw_turnbook_k01_turnings_point_by_point_holds : PySem.Challenge.rw_turnbook_k01_turnings_point_by_point.Holds := by
  w_on; o_law; k_head; (case hw => w_witness2)
  k_fill
  refine TT.walk (l := PySem.Challenge.rw_turnbook_k01_turnings_point_by_point) rfl rfl (fun w h Y => PySem.W.kIn_of Y) ?F
  case F =>
    intro w mg fa h KX G hmg
    refine' TT.all_mk KX G hmg ?a_is_number ?l_is_number ?k_is_number ?q_is_number ?a_is_turning ?l_is_turning ?k_is_turning ?q_is_turning ?a_check_some ?l_check_some ?k_check_some ?q_check_some ?a_stay ?l_stay ?k_stay ?q_stay ?a_put ?l_put ?k_put ?q_put ?a_turned_back ?l_turned_back ?k_turned_back ?q_turned_back ?a_then ?l_then ?k_then ?q_then ?a_back ?l_back ?k_back ?q_back ?a_power ?l_power ?k_power ?q_power ?a_lots ?l_lots ?k_lots ?q_lots ?a_rounds ?l_rounds ?k_rounds ?q_rounds ?a_common ?l_common ?k_common ?q_common ?a_order ?l_order ?k_order ?q_order ?a_sort ?l_sort ?k_sort ?q_sort ?a_sign ?l_sign ?k_sign ?q_sign ?a__law_box ?l__law_box ?k__law_box ?q__law_box ?a__law_take ?l__law_take ?k__law_take ?q__law_take ?a__law_turning ?l__law_turning ?k__law_turning ?q__law_turning ?a__law_put ?l__law_put ?k__law_put ?q__law_put ?a__law_back ?l__law_back ?k__law_back ?q__law_back ?a__law_round ?l__law_round ?k__law_round ?q__law_round ?a__law_times ?l__law_times ?k__law_times ?q__law_times ?a__law_lots ?l__law_lots ?k__law_lots ?q__law_lots ?a__law_order ?l__law_order ?k__law_order ?q__law_order ?a_law ?l_law ?k_law ?q_law ?v_MOST_POINTS ?z_bool ?z_isinstance ?z_int ?z_len ?z_tuple ?z_all ?z_set ?z_range ?z_enumerate ?z_sorted ?z_sum ?z_abs ?z_list
    (case a_is_number => k_is)
    (case l_is_number => k_is)
    (case k_is_number => k_is)
    (case q_is_number => k_is)
    (case a_is_turning => k_is)
    (case l_is_turning => k_is)
    (case k_is_turning => k_is)
    (case q_is_turning => k_is)
    (case a_check_some => k_is)
    (case l_check_some => k_is)
    (case k_check_some => k_is)
    (case q_check_some => k_is)
    (case a_stay => k_is)
    (case l_stay => k_is)
    (case k_stay => k_is)
    (case q_stay => k_is)
    (case a_put => k_is)
    (case l_put => k_is)
    (case k_put => k_is)
    (case q_put => k_is)
    (case a_turned_back => k_is)
    (case l_turned_back => k_is)
    (case k_turned_back => k_is)
    (case q_turned_back => k_is)
    (case a_then => k_is)
    (case l_then => k_is)
    (case k_then => k_is)
    (case q_then => k_is)
    (case a_back => k_is)
    (case l_back => k_is)
    (case k_back => k_is)
    (case q_back => k_is)
    (case a_power => k_is)
    (case l_power => k_is)
    (case k_power => k_is)
    (case q_power => k_is)
    (case a_lots => k_is)
    (case l_lots => k_is)
    (case k_lots => k_is)
    (case q_lots => k_is)
    (case a_rounds => k_is)
    (case l_rounds => k_is)
    (case k_rounds => k_is)
    (case q_rounds => k_is)
    (case a_common => k_is)
    (case l_common => k_is)
    (case k_common => k_is)
    (case q_common => k_is)
    (case a_order => k_is)
    (case l_order => k_is)
    (case k_order => k_is)
    (case q_order => k_is)
    (case a_sort => k_is)
    (case l_sort => k_is)
    (case k_sort => k_is)
    (case q_sort => k_is)
    (case a_sign => k_is)
    (case l_sign => k_is)
    (case k_sign => k_is)
    (case q_sign => k_is)
    (case a__law_box => k_is)
    (case l__law_box => k_is)
    (case k__law_box => k_is)
    (case q__law_box => k_is)
    (case a__law_take => k_is)
    (case l__law_take => k_is)
    (case k__law_take => k_is)
    (case q__law_take => k_is)
    (case a__law_turning => k_is)
    (case l__law_turning => k_is)
    (case k__law_turning => k_is)
    (case q__law_turning => k_is)
    (case a__law_put => k_is)
    (case l__law_put => k_is)
    (case k__law_put => k_is)
    (case q__law_put => k_is)
    (case a__law_back => k_is)
    (case l__law_back => k_is)
    (case k__law_back => k_is)
    (case q__law_back => k_is)
    (case a__law_round => k_is)
    (case l__law_round => k_is)
    (case k__law_round => k_is)
    (case q__law_round => k_is)
    (case a__law_times => k_is)
    (case l__law_times => k_is)
    (case k__law_times => k_is)
    (case q__law_times => k_is)
    (case a__law_lots => k_is)
    (case l__law_lots => k_is)
    (case k__law_lots => k_is)
    (case q__law_lots => k_is)
    (case a__law_order => k_is)
    (case l__law_order => k_is)
    (case k__law_order => k_is)
    (case q__law_order => k_is)
    (case a_law => k_is)
    (case l_law => k_is)
    (case k_law => k_is)
    (case q_law => k_is)
    (case v_MOST_POINTS => k_is)
    (case z_bool => k_is)
    (case z_isinstance => k_is)
    (case z_int => k_is)
    (case z_len => k_is)
    (case z_tuple => k_is)
    (case z_all => k_is)
    (case z_set => k_is)
    (case z_range => k_is)
    (case z_enumerate => k_is)
    (case z_sorted => k_is)
    (case z_sum => k_is)
    (case z_abs => k_is)
    (case z_list => k_is)
