import PyProof.Rows.All
import Wide.All
import OpenK.AllK
import Wide.FinOn
import PySem.Challenge.RW_idealtwin_k13_rhythms_kept
import HandS.ForMost
import HandS.Wide
import HandS.WideBits
import HandS.Flow
import HandS.Style
import HandS.Deep
import HandS.TupLe
import KE.LtSeq
import HandS.TupAny
import HandS.IsInst
import HandS.SortInts
import KE.OsSort
import KE.SortData
import KE.DataMinMax
import HandS.Defaults
import HandS.Conv
import HandS.TryOnly
import PyProof.ListRange
import PyProof.LongRange
import HandS.SetFor
import HandS.Ends
import HandS.Words
import HandS.WordsExc
import HandS.More
import HandS.Codes
import HandS.Head0
import HandS.Head1
import HandS.Head2
import HandS.HeadEnd
import HandS.HeadHook1
import HandS.HeadHook2
import HandS.Iter
import HandS.Zip
import KE.KDictZip
import HandS.Strs
import HandS.Star
import KE.KDictWalk
set_option Elab.async false
set_option linter.all false
set_option maxRecDepth 100000
set_option maxHeartbeats 1000000
/-! DL1: data D over the abstract heap: Rep; the environments of a def's names: EnvOk. -/
namespace DL
open PySem PySem.Spec PyProof.Rows L2

abbrev D := PyData
abbrev Frag := PySem.W.Frag

mutual
def flat : D → Bool
  | .list _ => false
  | .dict _ => false
  | .tuple ds => flats ds
  | .none => true
  | .bool _ => true
  | .int _ => true
  | .str _ => true
def flats : List D → Bool
  | [] => true
  | d :: ds => flat d && flats ds
end

/-- a key as data -/
def keyD : Key → D
  | .inl i => .int i
  | .inr x => .str x

/-- a tuple that stands at a -/
def TN (K : Frag) (H : Hp) (P : Addr → Prop) (a : Addr) (xs : List V) : Prop :=
  (H a = some (.tup xs) ∧ P a) ∨
    ∃ (o : Obj) (its : Array Value) (n : Nat), K.lookup a = some o ∧ o.cls = .type "tuple" ∧ o.data = .seq its n ∧ its.size ≤ sizeLine ∧ Vals xs its.toList
/-- a list -/
def LN (K : Frag) (H : Hp) (P : Addr → Prop) (a : Addr) (xs : List V) : Prop :=
  ((H a = some (.lst xs) ∨ ∃ o, H a = some (.frz o (.lst xs))) ∧ P a) ∨
    ∃ (its : List Value) (n : Nat), K.lookup a = some { cls := .type "list", data := .seq its.toArray n } ∧ its.length ≤ sizeLine ∧ Vals xs its
/-- a dict: its pairs, the keys as data; one whose keys are tuples is marked by a pair ahead -/
def DO (H : Hp) (a : Addr) (ks : List (D × V)) : Prop :=
  (∃ l : List (Key × V), H a = some (.dK l) ∧ ks = l.map fun p => (keyD p.1, p.2)) ∨
    ∃ l : List (List Key × V), H a = some (.dT l) ∧ ks = (.tuple [], .non) :: l.map fun p => (.tuple (p.1.map keyD), p.2)

mutual
def Rep (K : Frag) (H : Hp) (P : Addr → Prop) : D → V → Prop
  | .none, v => v = .non
  | .bool b, v => v = .bl b
  | .int i, v => v = .int i
  | .str x, v => v = .str x
  | .tuple ds, v => ∃ a xs, v = .ref a ∧ TN K H P a xs ∧ Reps K H P ds xs
  | .list ds, v => ∃ a xs, v = .ref a ∧ LN K H P a xs ∧ Reps K H P ds xs
  | .dict kvs, v => ∃ a ks, v = .ref a ∧ (DO H a ks ∧ P a) ∧ RepKv K H P kvs ks
def Reps (K : Frag) (H : Hp) (P : Addr → Prop) : List D → List V → Prop
  | [], xs => xs = []
  | d :: ds, xs => ∃ x r, xs = x :: r ∧ Rep K H P d x ∧ Reps K H P ds r
def RepKv (K : Frag) (H : Hp) (P : Addr → Prop) : List (D × D) → List (D × V) → Prop
  | [], ks => ks = []
  | (dk, dv) :: r, ks => ∃ x t, ks = (dk, x) :: t ∧ Rep K H P dv x ∧ RepKv K H P r t
end

section
variable {K : Frag} {H H' : Hp} {P P' : Addr → Prop}

theorem TN.imp (h : ∀ a u, H a = some u → P a → H' a = some u ∧ P' a) {a : Addr} {xs : List V} (q : TN K H P a xs) : TN K H' P' a xs := by
  rcases q with ⟨q, p⟩ | q
  · exact .inl (h a _ q p)
  · exact .inr q
theorem LN.imp (h : ∀ a u, H a = some u → P a → H' a = some u ∧ P' a) {a : Addr} {xs : List V} (q : LN K H P a xs) : LN K H' P' a xs := by
  rcases q with ⟨q | ⟨o, q⟩, p⟩ | q
  · exact .inl ⟨.inl (h a _ q p).1, (h a _ q p).2⟩
  · exact .inl ⟨.inr ⟨o, (h a _ q p).1⟩, (h a _ q p).2⟩
  · exact .inr q
theorem DO.imp (h : ∀ a u, H a = some u → P a → H' a = some u ∧ P' a) {a : Addr} {ks : List (D × V)} (q : DO H a ks ∧ P a) : DO H' a ks ∧ P' a := by
  obtain ⟨⟨l, q, e⟩ | ⟨l, q, e⟩, p⟩ := q
  · exact ⟨.inl ⟨l, (h a _ q p).1, e⟩, (h a _ q p).2⟩
  · exact ⟨.inr ⟨l, (h a _ q p).1, e⟩, (h a _ q p).2⟩

mutual
theorem Rep.imp (h : ∀ a u, H a = some u → P a → H' a = some u ∧ P' a) : ∀ {d : D} {v : V}, Rep K H P d v → Rep K H' P' d v
  | .none, _, q => by unfold Rep at q ⊢; exact q
  | .bool _, _, q => by unfold Rep at q ⊢; exact q
  | .int _, _, q => by unfold Rep at q ⊢; exact q
  | .str _, _, q => by unfold Rep at q ⊢; exact q
  | .tuple ds, _, q => by
    unfold Rep at q ⊢
    obtain ⟨a, xs, e, n, r⟩ := q
    exact ⟨a, xs, e, n.imp h, Reps.imp h r⟩
  | .list ds, _, q => by
    unfold Rep at q ⊢
    obtain ⟨a, xs, e, n, r⟩ := q
    exact ⟨a, xs, e, n.imp h, Reps.imp h r⟩
  | .dict kvs, _, q => by
    unfold Rep at q ⊢
    obtain ⟨a, xs, e, n, r⟩ := q
    exact ⟨a, xs, e, DO.imp h n, RepKv.imp h r⟩
theorem Reps.imp (h : ∀ a u, H a = some u → P a → H' a = some u ∧ P' a) : ∀ {ds : List D} {vs : List V}, Reps K H P ds vs → Reps K H' P' ds vs
  | [], _, q => by unfold Reps at q ⊢; exact q
  | d :: ds, _, q => by
    unfold Reps at q ⊢
    obtain ⟨x, r, e, q1, q2⟩ := q
    exact ⟨x, r, e, Rep.imp h q1, Reps.imp h q2⟩
theorem RepKv.imp (h : ∀ a u, H a = some u → P a → H' a = some u ∧ P' a) : ∀ {ds : List (D × D)} {vs : List (D × V)}, RepKv K H P ds vs → RepKv K H' P' ds vs
  | [], _, q => by unfold RepKv at q ⊢; exact q
  | (k, d) :: ds, _, q => by
    unfold RepKv at q ⊢
    obtain ⟨x, r, e, q1, q2⟩ := q
    exact ⟨x, r, e, Rep.imp h q1, RepKv.imp h q2⟩
end
theorem Rep.mono (h : ∀ a u, H a = some u → P a → P' a) {d : D} {v : V} (q : Rep K H P d v) : Rep K H P' d v := q.imp fun a u e p => ⟨e, h a u e p⟩
theorem Reps.mono (h : ∀ a u, H a = some u → P a → P' a) {d : List D} {v : List V} (q : Reps K H P d v) : Reps K H P' d v := q.imp fun a u e p => ⟨e, h a u e p⟩

theorem Reps.nil : Reps K H P [] [] := by unfold Reps; rfl
theorem Reps.cons {d : D} {v : V} {ds : List D} {vs : List V} (a : Rep K H P d v) (b : Reps K H P ds vs) : Reps K H P (d :: ds) (v :: vs) := by
  unfold Reps; exact ⟨v, vs, rfl, a, b⟩
theorem Reps.nil_inv {vs : List V} (q : Reps K H P [] vs) : vs = [] := by unfold Reps at q; exact q
theorem Reps.cons_inv {d : D} {ds : List D} {vs : List V} (q : Reps K H P (d :: ds) vs) : ∃ x r, vs = x :: r ∧ Rep K H P d x ∧ Reps K H P ds r := by unfold Reps at q; exact q
theorem Reps.length : ∀ {ds : List D} {vs : List V}, Reps K H P ds vs → vs.length = ds.length
  | [], _, q => by rw [q.nil_inv]; rfl
  | d :: ds, _, q => by
    obtain ⟨x, r, rfl, _, q⟩ := q.cons_inv
    simp [q.length]
theorem Reps.append : ∀ {ds es : List D} {vs ws : List V}, Reps K H P ds vs → Reps K H P es ws → Reps K H P (ds ++ es) (vs ++ ws)
  | [], _, _, _, q, r => by rw [q.nil_inv]; exact r
  | d :: ds, _, _, _, q, r => by
    obtain ⟨x, t, rfl, a, q⟩ := q.cons_inv
    exact .cons a (q.append r)
theorem Reps.get : ∀ {ds : List D} {vs : List V} {i : Nat} {d : D}, Reps K H P ds vs → ds[i]? = some d → ∃ v, vs[i]? = some v ∧ Rep K H P d v
  | [], _, _, _, _, e => by simp at e
  | d :: ds, _, 0, _, q, e => by
    obtain ⟨x, t, rfl, a, q⟩ := q.cons_inv
    simp at e; subst e
    exact ⟨x, rfl, a⟩
  | d :: ds, _, i + 1, _, q, e => by
    obtain ⟨x, t, rfl, a, q⟩ := q.cons_inv
    obtain ⟨v, h1, h2⟩ := q.get (i := i) (by simpa using e)
    exact ⟨v, by simpa using h1, h2⟩
theorem Reps.get' : ∀ {ds : List D} {vs : List V} {i : Nat} {v : V}, Reps K H P ds vs → vs[i]? = some v → ∃ d, ds[i]? = some d ∧ Rep K H P d v
  | [], _, _, _, q, e => by rw [q.nil_inv] at e; simp at e
  | d :: ds, _, 0, _, q, e => by
    obtain ⟨x, t, rfl, a, q⟩ := q.cons_inv
    simp at e; subst e
    exact ⟨d, rfl, a⟩
  | d :: ds, _, i + 1, _, q, e => by
    obtain ⟨x, t, rfl, a, q⟩ := q.cons_inv
    obtain ⟨v, h1, h2⟩ := q.get' (i := i) (by simpa using e)
    exact ⟨v, by simpa using h1, h2⟩
theorem Reps.set : ∀ {ds : List D} {vs : List V} {i : Nat} {d : D} {v : V}, Reps K H P ds vs → Rep K H P d v → Reps K H P (ds.set i d) (vs.set i v)
  | [], _, _, _, _, q, _ => by rw [q.nil_inv]; exact .nil
  | d :: ds, _, 0, _, _, q, r => by
    obtain ⟨x, t, rfl, a, q⟩ := q.cons_inv
    exact .cons r q
  | d :: ds, _, i + 1, _, _, q, r => by
    obtain ⟨x, t, rfl, a, q⟩ := q.cons_inv
    exact .cons a (q.set r)
theorem Reps.take : ∀ {ds : List D} {vs : List V} (n : Nat), Reps K H P ds vs → Reps K H P (ds.take n) (vs.take n)
  | _, _, 0, _ => by simp; exact .nil
  | [], _, n + 1, q => by rw [q.nil_inv]; exact .nil
  | d :: ds, _, n + 1, q => by
    obtain ⟨x, t, rfl, a, q⟩ := q.cons_inv
    exact .cons a (q.take n)
theorem Reps.drop : ∀ {ds : List D} {vs : List V} (n : Nat), Reps K H P ds vs → Reps K H P (ds.drop n) (vs.drop n)
  | _, _, 0, q => by simpa using q
  | [], _, n + 1, q => by rw [q.nil_inv]; exact .nil
  | d :: ds, _, n + 1, q => by
    obtain ⟨x, t, rfl, a, q⟩ := q.cons_inv
    simpa using q.drop n
theorem Reps.eraseIdx : ∀ {ds : List D} {vs : List V} (n : Nat), Reps K H P ds vs → Reps K H P (ds.eraseIdx n) (vs.eraseIdx n)
  | [], _, _, q => by rw [q.nil_inv]; exact .nil
  | d :: ds, _, 0, q => by
    obtain ⟨x, t, rfl, a, q⟩ := q.cons_inv
    simpa using q
  | d :: ds, _, n + 1, q => by
    obtain ⟨x, t, rfl, a, q⟩ := q.cons_inv
    exact .cons a (q.eraseIdx n)
theorem Reps.reverse {ds : List D} {vs : List V} (q : Reps K H P ds vs) : Reps K H P ds.reverse vs.reverse := by
  induction ds generalizing vs with
  | nil => rw [q.nil_inv]; exact .nil
  | cons d ds ih =>
    obtain ⟨x, t, rfl, a, q⟩ := q.cons_inv
    rw [List.reverse_cons, List.reverse_cons]
    exact (ih q).append (.cons a .nil)
theorem Reps.rep {ds : List D} {vs : List V} (q : Reps K H P ds vs) : ∀ k : Nat, Reps K H P (List.replicate k ds).flatten (List.replicate k vs).flatten
  | 0 => .nil
  | k + 1 => by
    rw [List.replicate_succ, List.replicate_succ, List.flatten_cons, List.flatten_cons]
    exact q.append (q.rep k)

theorem Rep.ints : ∀ {ns : List Int} {vs : List V}, Reps K H P (ns.map PyData.int) vs → vs = ns.map V.int
  | [], _, q => q.nil_inv
  | n :: ns, _, q => by
    obtain ⟨x, t, rfl, a, q⟩ := q.cons_inv
    unfold Rep at a
    rw [a, Rep.ints q]; rfl
theorem Rep.of_ints : ∀ {ns : List Int}, Reps K H P (ns.map PyData.int) (ns.map V.int)
  | [] => .nil
  | n :: ns => .cons (by unfold Rep; rfl) Rep.of_ints
theorem Rep.bools : ∀ {ns : List Bool} {vs : List V}, Reps K H P (ns.map PyData.bool) vs → vs = ns.map V.bl
  | [], _, q => q.nil_inv
  | n :: ns, _, q => by
    obtain ⟨x, t, rfl, a, q⟩ := q.cons_inv
    unfold Rep at a
    rw [a, Rep.bools q]; rfl

theorem TN.sq {a : Addr} {xs : List V} (q : TN K H P a xs) : SqT K H a xs := by
  rcases q with ⟨q, _⟩ | q
  · exact .inl (.inl q)
  · exact .inr q
theorem LN.sq {a : Addr} {xs : List V} (q : LN K H P a xs) : SqL K H a xs := by
  rcases q with ⟨q | ⟨o, q⟩, _⟩ | ⟨its, n, q, z, r⟩
  · exact .inl (.inl q)
  · exact .inl (.inr ⟨o, q⟩)
  · exact .inr ⟨_, its.toArray, n, q, rfl, rfl, rfl, by simpa using z, by simpa using r⟩

/-! flat data bear no lists -/
mutual
theorem Rep.flat_ok (h : ∀ a xs, H a = some (.tup xs) → P a → P' a) : ∀ {d : D} {v : V}, flat d = true → Rep K H P d v → Rep K H P' d v
  | .none, _, _, q => by unfold Rep at q ⊢; exact q
  | .bool _, _, _, q => by unfold Rep at q ⊢; exact q
  | .int _, _, _, q => by unfold Rep at q ⊢; exact q
  | .str _, _, _, q => by unfold Rep at q ⊢; exact q
  | .tuple ds, _, f, q => by
    unfold Rep at q ⊢
    unfold flat at f
    obtain ⟨a, xs, e, n, r⟩ := q
    refine ⟨a, xs, e, ?_, Reps.flat_ok h f r⟩
    rcases n with ⟨n, p⟩ | n
    · exact .inl ⟨n, h _ _ n p⟩
    · exact .inr n
  | .list ds, _, f, q => by unfold flat at f; cases f
  | .dict kvs, _, f, q => by unfold flat at f; cases f
theorem Reps.flat_ok (h : ∀ a xs, H a = some (.tup xs) → P a → P' a) : ∀ {ds : List D} {vs : List V}, flats ds = true → Reps K H P ds vs → Reps K H P' ds vs
  | [], _, _, q => by unfold Reps at q ⊢; exact q
  | d :: ds, _, f, q => by
    unfold Reps at q ⊢
    unfold flats at f
    obtain ⟨x, r, e, q1, q2⟩ := q
    obtain ⟨f1, f2⟩ := Bool.and_eq_true_iff.mp f
    exact ⟨x, r, e, Rep.flat_ok h f1 q1, Reps.flat_ok h f2 q2⟩
end
end

/-! ### the data bridge to HandS's Dp -/
/-! data without dicts -/
mutual
def nodict : D → Bool
  | .dict _ => false
  | .tuple ds => nodicts ds
  | .list ds => nodicts ds
  | .none => true
  | .bool _ => true
  | .int _ => true
  | .str _ => true
def nodicts : List D → Bool
  | [] => true
  | d :: ds => nodict d && nodicts ds
end
section
variable {K : Frag} {H : Hp} {P : Addr → Prop}
mutual
theorem Rep.dp : ∀ {d : D} {v : V}, nodict d = true → Rep K H P d v → Dp K H v d
  | .none, _, _, q => by unfold Rep at q; subst q; exact .non
  | .bool b, _, _, q => by unfold Rep at q; subst q; exact .bl b
  | .int i, _, _, q => by unfold Rep at q; subst q; exact .int i
  | .str x, _, _, q => by unfold Rep at q; subst q; exact .str x
  | .tuple ds, _, f, q => by
    unfold Rep at q
    unfold nodict at f
    obtain ⟨a, xs, rfl, n, r⟩ := q
    exact .tup n.sq (Reps.dp f r)
  | .list ds, _, f, q => by
    unfold Rep at q
    unfold nodict at f
    obtain ⟨a, xs, rfl, n, r⟩ := q
    exact .lst n.sq (Reps.dp f r)
  | .dict _, _, f, _ => by unfold nodict at f; cases f
theorem Reps.dp : ∀ {ds : List D} {vs : List V}, nodicts ds = true → Reps K H P ds vs → DpAll K H vs ds
  | [], _, _, q => by rw [q.nil_inv]; exact .nil
  | d :: ds, _, f, q => by
    unfold nodicts at f
    obtain ⟨x, r, rfl, q1, q2⟩ := q.cons_inv
    obtain ⟨f1, f2⟩ := Bool.and_eq_true_iff.mp f
    exact .cons (Rep.dp f1 q1) (Reps.dp f2 q2)
end
end

/-! ### environments -/
/-- what the reading knows of a name: nothing; data that nobody changes; a list (a dict) that this def alone holds; one that its caller handed in to be changed -/
inductive Slot where
  | un
  | frz (d : D)
  | own (d : D)
  | io (d : D)
abbrev DEnv := List Slot
/-- the objects at a that may be changed -/
def Own (env : DEnv) (σ : L2.St) (a : Addr) : Prop := ∃ (i : Nat) (d : D), (env[i]? = some (Slot.own d) ∨ env[i]? = some (Slot.io d)) ∧ σ[i]? = some (some (.ref a))
/-- a list, a dict to be changed -/
def OwnO (K : Frag) (H : Hp) (P : Addr → Prop) (a : Addr) (d : D) : Prop :=
  (∃ ds xs, d = .list ds ∧ H a = some (.lst xs) ∧ Reps K H P ds xs) ∨ ∃ kvs ks, d = .dict kvs ∧ DO H a ks ∧ RepKv K H P kvs ks
theorem OwnO.imp {K : Frag} {H H' : Hp} {P P' : Addr → Prop} (h : ∀ a u, H a = some u → P a → H' a = some u ∧ P' a) {a : Addr} {d : D} (ha : ∀ u, H a = some u → H' a = some u) (q : OwnO K H P a d) : OwnO K H' P' a d := by
  rcases q with ⟨ds, xs, e, q, r⟩ | ⟨kvs, ks, e, q, r⟩
  · exact .inl ⟨ds, xs, e, ha _ q, r.imp h⟩
  · refine .inr ⟨kvs, ks, e, ?_, r.imp h⟩
    rcases q with ⟨l, q, z⟩ | ⟨l, q, z⟩
    · exact .inl ⟨l, ha _ q, z⟩
    · exact .inr ⟨l, ha _ q, z⟩
theorem OwnO.there {K : Frag} {H : Hp} {P : Addr → Prop} {a : Addr} {d : D} (q : OwnO K H P a d) : ∃ u, H a = some u ∧ ∀ xs, u ≠ .tup xs := by
  rcases q with ⟨ds, xs, e, q, r⟩ | ⟨kvs, ks, e, ⟨l, q, z⟩ | ⟨l, q, z⟩, r⟩ <;> exact ⟨_, q, fun _ => by intro z; cases z⟩

/-- G: where data may stand; N: what is new since the def's entry -/
structure EnvOk (K : Frag) (G N : Addr → Prop) (H : Hp) (σ : L2.St) (env : DEnv) : Prop where
  len : σ.length = env.length
  new : ∀ a, H a = none → G a ∧ N a
  frz : ∀ (i : Nat) (d : D), env[i]? = some (Slot.frz d) → ∃ v, σ[i]? = some (some v) ∧ Rep K H (fun a => G a ∧ ¬ Own env σ a) d v
  own : ∀ (i : Nat) (d : D), env[i]? = some (Slot.own d) → ∃ a, σ[i]? = some (some (.ref a)) ∧ G a ∧ N a ∧ OwnO K H (fun a => G a ∧ ¬ Own env σ a) a d
  io : ∀ (i : Nat) (d : D), env[i]? = some (Slot.io d) → ∃ a, σ[i]? = some (some (.ref a)) ∧ OwnO K H (fun a => G a ∧ ¬ Own env σ a) a d
  dis : ∀ (i j : Nat) (a : Addr), (∃ d : D, env[i]? = some (Slot.own d) ∨ env[i]? = some (Slot.io d)) → (∃ d : D, env[j]? = some (Slot.own d) ∨ env[j]? = some (Slot.io d)) → σ[i]? = some (some (.ref a)) → σ[j]? = some (some (.ref a)) → i = j

section
variable {K : Frag} {G N G' : Addr → Prop} {H H' : Hp} {σ σ' : L2.St} {env env' : DEnv}

theorem EnvOk.own_there (E : EnvOk K G N H σ env) {a : Addr} (h : Own env σ a) : ∃ u, H a = some u ∧ ∀ xs, u ≠ .tup xs := by
  obtain ⟨i, d, h | h, e⟩ := h
  · obtain ⟨b, e', _, _, q⟩ := E.own i d h
    rw [e] at e'; cases e'
    exact q.there
  · obtain ⟨b, e', q⟩ := E.io i d h
    rw [e] at e'; cases e'
    exact q.there
theorem EnvOk.new_own (E : EnvOk K G N H σ env) {a : Addr} (h : H a = none) : ¬ Own env σ a := fun z => by
  obtain ⟨u, e, _⟩ := E.own_there z
  rw [h] at e; cases e
/-- the heap grows, nothing that stood is changed; the places may be others -/
theorem EnvOk.mv (E : EnvOk K G N H σ env) (h : ∀ a o, H a = some o → H' a = some o) (hg : ∀ a o, H a = some o → G a → G' a) (hn : ∀ a, H' a = none → H a = none → G' a) : EnvOk K G' N H' σ env := by
  have k : ∀ a u, H a = some u → (G a ∧ ¬ Own env σ a) → H' a = some u ∧ (G' a ∧ ¬ Own env σ a) := fun a u e p => ⟨h a u e, hg a u e p.1, p.2⟩
  have back : ∀ a, H' a = none → H a = none := fun a e => by
    cases q : H a with
    | none => rfl
    | some o => rw [h a o q] at e; cases e
  refine ⟨E.len, fun a e => ⟨hn a e (back a e), (E.new a (back a e)).2⟩, fun i d e => ?_, fun i d e => ?_, fun i d e => ?_, E.dis⟩
  · obtain ⟨v, e', r⟩ := E.frz i d e
    exact ⟨v, e', r.imp k⟩
  · obtain ⟨a, e', g, n, q⟩ := E.own i d e
    obtain ⟨u, hu, _⟩ := q.there
    exact ⟨a, e', hg a u hu g, n, q.imp k fun u z => h a u z⟩
  · obtain ⟨a, e', q⟩ := E.io i d e
    exact ⟨a, e', q.imp k fun u z => h a u z⟩
theorem EnvOk.grow (E : EnvOk K G N H σ env) (h : ∀ a o, H a = some o → H' a = some o) : EnvOk K G N H' σ env :=
  E.mv h (fun _ _ _ z => z) fun a _ e => (E.new a e).1
theorem EnvOk.less (E : EnvOk K G N H σ env) (h : ∀ a u, H a = some u → G a → G' a) (hn : ∀ a, H a = none → G' a) : EnvOk K G' N H σ env :=
  E.mv (fun _ _ z => z) h fun a e _ => hn a e
end
end DL

/-! DL2: a small language over data: what a def's text says, read over data alone (rdE, rdS). -/
namespace DL
open PySem PySem.Spec PyProof.Rows L2

inductive B2 where
  | add | sub | mul | fdiv | mod | pow | shl | shr | band
  deriving DecidableEq
inductive C2 where
  | eq | ne | lt | le | gt | ge | inn | nin | is | nis
  deriving DecidableEq
/-- built-in functions by their names -/
inductive Bi where
  | len | abs | int | max | min | sum | any | all | list | tuple | sorted | divmod | repr | str | isIntT | isBoolT | isListT | isTupT | isStrT
  deriving DecidableEq
/-- methods that change nothing -/
inductive Mt where
  | count | index | get
  deriving DecidableEq
/-- methods that change a list -/
inductive Mm where
  | append | extend | remove
  deriving DecidableEq

mutual
inductive T where
  | nm (i : Nat)
  | tp (ts : Ts)
inductive Ts where
  | nil
  | cons (t : T) (ts : Ts)
end
mutual
inductive E where
  | var (i : Nat)
  | mv (i : Nat)
  | int (i : Int)
  | bl (b : Bool)
  | non
  | str (x : Str)
  | gi (x : Str) (i : Int)
  | tup (es : Es)
  | lst (es : Es)
  | bin (o : B2) (a b : E)
  | neg (a : E)
  | cmp (o : C2) (a b : E)
  | chain (o p : C2) (a b c : E)
  | isN (a : E)
  | notN (a : E)
  | not (a : E)
  | ands (es : Es)
  | ors (es : Es)
  | ife (c a b : E)
  | idx (a b : E)
  | idxv (i : Nat) (b : E)
  | sl (a : E) (lo hi : OE)
  | call (f : Str) (es : Es) (dv : List D)
  | callio (f : Str) (i : Nat) (es : Es)
  | callk (f : Str) (es : Es) (ks : List Str) (pm : List Nat)
  | bi (b : Bi) (es : Es)
  | ist (b : Bi) (e : E)
  | mt (m : Mt) (o : E) (es : Es)
  | lrng1 (a : E)
  | lrng2 (a b : E)
  | sset (a : E)
  | dnewT
  | dinT (neg : Bool) (es : Es) (i : Nat)
  | dgetT (i : Nat) (es : Es) (n : Int)
  | rev (a : E)
  | cat (a : E) (es : Es)
  | cat2 (a b : E)
  | popv (i : Nat)
  | lc (elt : E) (t : T) (it : It) (cs : Es)
inductive Es where
  | nil
  | cons (e : E) (es : Es)
inductive OE where
  | no
  | so (e : E)
inductive It where
  | lst (e : E)
  | tup (e : E)
  | rng1 (a : E)
  | rng2 (a b : E)
  | enum (e : E)
  | zip (a b : E)
end
mutual
inductive S where
  | asg (i : Nat) (ow : Bool) (e : E)
  | asgT (ts : Ts) (e : E)
  | par (is : List (Nat × Bool)) (es : Es)
  | setv (i : Nat) (ie e : E)
  | aug (i : Nat) (o : B2) (e : E)
  | expr (e : E)
  | mut (m : Mm) (i : Nat) (e : E)
  | iff (c : E) (a b : Ss)
  | dputT (i : Nat) (es : Es) (v : E)
  | forr (t : T) (it : It) (b : Ss) (wl : List Nat)
  | ford (a b c : Nat) (e : E) (bd : Ss) (wl : List Nat)
  | whl (c : E) (b : Ss) (wl : List Nat)
  | ret (e : E)
  | retN
  | brk
  | cont
  | pas
inductive Ss where
  | nil
  | cons (s : S) (ss : Ss)
  | frz (i : Nat) (ss : Ss)
  | cntT (i j : Nat) (es : Es) (ss : Ss)
  | nev
end

/-! ### values -/
/-- what a reading knows of a value: data that stands; a list made just now, held by nobody; one that may hold a list of this def's own -/
inductive Kd where
  | z | t | b
  deriving DecidableEq

/-- a def over data: does it change its first argument; is its answer a list of its own; what it promises (the changed argument, the answer) -/
structure FSpec where
  io : Bool := false
  fr : Bool := false
  sp : List D → (D → D → Prop) → Prop
abbrev Phi := Str → FSpec

def setD (env : DEnv) (i : Nat) (s : Slot) : Option DEnv :=
  match env[i]? with
  | some (.io _) => none
  | some _ => some (env.set i s)
  | none => none
/-- a list, a dict of one's own changes -/
def putD (env : DEnv) (i : Nat) (d : D) : Option DEnv :=
  match env[i]? with
  | some (.io _) => some (env.set i (.io d))
  | some (.own _) => some (env.set i (.own d))
  | _ => none
def ownD (env : DEnv) (i : Nat) : Option D :=
  match env[i]? with
  | some (.io d) => some d
  | some (.own d) => some d
  | _ => none
def wk : Kd → Kd
  | .b => .b
  | _ => .z
def kdOf (k : Kd) (d : D) : Kd := if flat d then .z else wk k
def varD (env : DEnv) (i : Nat) : Option (Kd × D) :=
  match env[i]? with
  | some (.frz d) => some (.z, d)
  | some (.own d) => some (.b, d)
  | some (.io d) => some (.b, d)
  | _ => none
/-- its items, flat -/
def shal : D → Bool
  | .list ds => flats ds
  | d => flat d

def b2i (b : Bool) : Int := if b then 1 else 0
def int? : D → Option Int
  | .int i => some i
  | .bool b => some (b2i b)
  | _ => none

/-- a op b: is the answer a list made just now; the answer -/
def binD : B2 → D → D → Option (Bool × D)
  | .add, .int i, .int j => some (false, .int (i + j))
  | .add, .list xs, .list ys => if xs.length + ys.length ≤ sizeLine then some (true, .list (xs ++ ys)) else none
  | .sub, .int i, .int j => some (false, .int (i - j))
  | .mul, .int i, .int j => if i.natAbs.log2 + j.natAbs.log2 < 1000000 then some (false, .int (i * j)) else none
  | .mul, .list xs, .int k => if -(2 ^ 63) ≤ k ∧ k < 2 ^ 63 ∧ xs.length * k.toNat ≤ sizeLine then some (true, .list (List.replicate k.toNat xs).flatten) else none
  | .fdiv, .int i, .int j => if 0 < j ∧ j.natAbs.log2 < 9000 then some (false, .int (i / j)) else none
  | .mod, .int i, .int j => if 0 < j then some (false, .int (i % j)) else none
  | .pow, .int i, .int j => if 0 ≤ j ∧ j ≤ 1000 ∧ i.natAbs.log2 < 1000 then some (false, .int (i ^ j.toNat)) else none
  | _, _, _ => none

def intsOf : List D → Option (List Int)
  | [] => some []
  | .int i :: r => (intsOf r).map (i :: ·)
  | _ :: _ => none

def cmpD : C2 → D → D → Option Bool
  | .eq, a, b => if SeqAt.shaped a = true ∧ SeqAt.shaped b = true then some (PyData.eqv a b) else none
  | .ne, a, b => if SeqAt.shaped a = true ∧ SeqAt.shaped b = true then some (!PyData.eqv a b) else none
  | .is, .bool a, .bool b => some (decide (a = b))
  | .nis, .bool a, .bool b => some (!decide (a = b))
  | .lt, .int i, .int j => some (decide (i < j))
  | .le, .int i, .int j => some (decide (i ≤ j))
  | .gt, .int i, .int j => some (decide (j < i))
  | .ge, .int i, .int j => some (decide (j ≤ i))
  | .lt, .tuple xs, .tuple ys => (intsOf xs).bind fun a => (intsOf ys).map fun b => HT.lexLt a b
  | .lt, .list xs, .list ys => (intsOf xs).bind fun a => (intsOf ys).map fun b => HT.lexLt a b
  | .gt, .tuple xs, .tuple ys => (intsOf xs).bind fun a => (intsOf ys).map fun b => HT.lexLt b a
  | .le, .tuple xs, .tuple ys => (intsOf xs).bind fun a => (intsOf ys).map fun b => !HT.lexLt b a
  | .ge, .tuple xs, .tuple ys => (intsOf xs).bind fun a => (intsOf ys).map fun b => !HT.lexLt a b
  | .inn, a, .list ds => if SeqAt.shaped a = true ∧ SeqAt.shaped (.list ds) = true then some (ds.any fun z => PyData.eqv z a) else none
  | .nin, a, .list ds => if SeqAt.shaped a = true ∧ SeqAt.shaped (.list ds) = true then some (!ds.any fun z => PyData.eqv z a) else none
  | .inn, .int i, .tuple ds => (intsOf ds).map fun ms => decide (i ∈ ms)
  | .nin, .int i, .tuple ds => (intsOf ds).map fun ms => !decide (i ∈ ms)
  | _, _, _ => none

def truthD : D → Option Bool
  | .none => some false
  | .bool b => some b
  | .int i => some (i != 0)
  | .str x => if x.length ≤ sizeLine then some ((x.length : Int) != 0) else none
  | .list ds => some (!ds.isEmpty)
  | .tuple ds => some (!ds.isEmpty)
  | .dict _ => none

def isNonD : D → Bool
  | .none => true
  | _ => false
/-- an item at a place -/
def idxD : D → D → Option D
  | .list ds, .int i => atI ds i
  | .tuple ds, .int i => atI ds i
  | _, _ => none

def cutD (xs : List D) (lo hi : Option Int) : List D := (xs.drop (HT.sIx xs.length 0 lo)).take (HT.sIx xs.length xs.length hi - HT.sIx xs.length 0 lo)

def boolsOf : List D → Option (List Bool)
  | [] => some []
  | .bool i :: r => (boolsOf r).map (i :: ·)
  | _ :: _ => none

def sortI (ns : List Int) : List Int := ns.mergeSort fun x y => decide (x ≤ y)
def maxI : Int → List Int → Int
  | n, [] => n
  | n, m :: r => maxI (if m > n then m else n) r
def minI : Int → List Int → Int
  | n, [] => n
  | n, m :: r => minI (if m < n then m else n) r
/-- pairs of numbers -/
def pairsOf : List D → Option (List (Int × Int))
  | [] => some []
  | .tuple [.int a, .int b] :: r => (pairsOf r).map ((a, b) :: ·)
  | _ :: _ => none
def pD (p : Int × Int) : D := .tuple [.int p.1, .int p.2]
def lt2P (y a : Int × Int) : Bool := decide (y.1 < a.1 ∨ (y.1 = a.1 ∧ y.2 < a.2))
def minP (p : Int × Int) (r : List (Int × Int)) : Int × Int := r.foldl (fun a y => if lt2P y a = true then y else a) p
/-- built-in functions: is the answer a list made just now; the answer -/
def biD : Bi → List D → Option (Bool × D)
  | .len, [.list ds] => some (false, .int ds.length)
  | .len, [.tuple ds] => some (false, .int ds.length)
  | .abs, [.int i] => some (false, .int (if i < 0 then -i else i))
  | .int, [.int i] => some (false, .int i)
  | .int, [.bool b] => some (false, .int (b2i b))
  | .max, [.int i, .int j] => some (false, .int (if j > i then j else i))
  | .min, [.int i, .int j] => some (false, .int (if j < i then j else i))
  | .max, [.list ds] => (intsOf ds).bind fun ns => match ns with
    | n :: r => some (false, .int (maxI n r))
    | [] => none
  | .max, [.tuple ds] => (intsOf ds).bind fun ns => match ns with
    | n :: r => some (false, .int (maxI n r))
    | [] => none
  | .min, [.list ds] => ((intsOf ds).bind fun ns => match ns with
    | n :: r => some (false, .int (minI n r))
    | [] => none).or ((pairsOf ds).bind fun ps => match ps with
    | p :: r => some (false, pD (minP p r))
    | [] => none)
  | .sum, [.list ds] => (intsOf ds).map fun ns => (false, .int ns.sum)
  | .any, [.list ds] => (boolsOf ds).map fun bs => (false, .bool (bs.any id))
  | .all, [.list ds] => (boolsOf ds).map fun bs => (false, .bool (bs.all id))
  | .sorted, [.list ds] => (intsOf ds).map fun ns => (true, .list ((sortI ns).map .int))
  | .divmod, [.int i, .int j] => if 0 < j ∧ j.natAbs.log2 < 9000 then some (false, .tuple [.int (i / j), .int (i % j)]) else none
  | .list, [.list ds] => some (true, .list ds)
  | .list, [.tuple ds] => some (true, .list ds)
  | .tuple, [.list ds] => some (false, .tuple ds)
  | .tuple, [.tuple ds] => some (false, .tuple ds)
  | .repr, [d] => if d.showable = true ∧ nodict d = true ∧ d.depth ≤ 64 ∧ d.shown.length ≤ sizeLine then some (false, .str d.shown) else none
  | .isIntT, [.int _] => some (false, .bool true)
  | .isIntT, [.bool _] => some (false, .bool true)
  | .isIntT, [_] => some (false, .bool false)
  | .isBoolT, [.bool _] => some (false, .bool true)
  | .isBoolT, [_] => some (false, .bool false)
  | .isListT, [.list _] => some (false, .bool true)
  | .isListT, [_] => some (false, .bool false)
  | .isTupT, [.tuple _] => some (false, .bool true)
  | .isTupT, [_] => some (false, .bool false)
  | .isStrT, [.str _] => some (false, .bool true)
  | .isStrT, [_] => some (false, .bool false)
  | _, _ => none

/-- where an item stands first -/
def firstAt (p : D → Bool) : List D → Option Nat
  | [] => none
  | d :: r => if p d = true then some 0 else (firstAt p r).map (· + 1)
/-- methods that change nothing -/
def mtD : Mt → D → List D → Option D
  | .index, .list ds, [d] => if SeqAt.shaped (.list ds) = true ∧ SeqAt.shaped d = true then (firstAt (fun z => PyData.eqv z d) ds).map fun j => .int (j : Nat) else none
  | .count, .list ds, [.int i] => (intsOf ds).map fun ns => .int (ns.count i : Nat)
  | _, _, _ => none
/-- a dict with tuples of ints for keys -/
def dT (l : List (List Int × D)) : D := .dict ((.tuple [], .none) :: l.map fun p => (.tuple (p.1.map .int), p.2))
def hasT (l : List (List Int × D)) (k : List Int) : Bool := l.any fun p => decide (p.1 = k)
/-- d.get(k, n), of whole numbers -/
def getT (l : List (List Int × D)) (k : List Int) (n : Int) : Option Int := match l.find? fun p => decide (p.1 = k) with
  | none => some n
  | some p => match p.2 with
    | .int m => some m
    | _ => none
/-- (a, b), c as targets -/
def T3 (a b c : Nat) : T := .tp (.cons (.tp (.cons (.nm a) (.cons (.nm b) .nil))) (.cons (.nm c) .nil))
/-- the items of a dict of pairs -/
def dP (l : List ((Int × Int) × Int)) : D := dT (l.map fun p => ([p.1.1, p.1.2], .int p.2))
def putT (l : List (List Int × D)) (k : List Int) (d : D) : List (List Int × D) := if hasT l k = true then l.map (fun p => if p.1 = k then (p.1, d) else p) else l ++ [(k, d)]

def isLst : D → Bool
  | .list _ => true
  | _ => false
def rangeD (lo : Int) (n : Nat) : List D := (List.range n).map fun i => .int (lo + (i : Nat))

/-! ### targets -/
mutual
def tgD : T → D → DEnv → Option DEnv
  | .nm i, d, env => setD env i (.frz d)
  | .tp ts, .tuple ds, env => tgsD ts ds env
  | .tp ts, .list ds, env => tgsD ts ds env
  | .tp _, _, _ => none
def tgsD : Ts → List D → DEnv → Option DEnv
  | .nil, [], env => some env
  | .cons t ts, d :: ds, env => (tgD t d env).bind fun env' => tgsD ts ds env'
  | _, _, _ => none
end
mutual
def T.names : T → List Nat
  | .nm i => [i]
  | .tp ts => ts.names
def Ts.names : Ts → List Nat
  | .nil => []
  | .cons t ts => t.names ++ ts.names
end
def Ts.len : Ts → Nat
  | .nil => 0
  | .cons _ ts => ts.len + 1
def Es.len : Es → Nat
  | .nil => 0
  | .cons _ es => es.len + 1
/-- names that hold nothing of one's own -/
def freeD (env : DEnv) (is : List Nat) : Bool := is.all fun i => match env[i]? with
  | some .un => true
  | some (.frz _) => true
  | _ => false
def wipeD (env : DEnv) : List Nat → DEnv
  | [] => env
  | v :: vs => (wipeD env vs).set v .un
/-- names that are not wanted any more -/
def wipeAt (wl : List Nat) : Nat → DEnv → DEnv
  | _, [] => []
  | i, s :: r => (if wl.contains i = true then (match s with | .io d => .io d | _ => .un) else s) :: wipeAt wl (i + 1) r
def wipeF (env : DEnv) (wl : List Nat) : DEnv := wipeAt wl 0 env
/-- the names of a block as they were ahead of it -/
def backD (env₀ env : DEnv) : List Nat → DEnv
  | [] => env
  | v :: vs => (backD env₀ env vs).set v (env₀.getD v .un)

/-! ### what changes nothing -/
mutual
def E.pur : E → Bool
  | .var _ => true
  | .mv _ => false
  | .int _ => true
  | .bl _ => true
  | .non => true
  | .str _ => true
  | .gi _ _ => true
  | .tup es => es.pur
  | .lst es => es.pur
  | .bin _ a b => a.pur && b.pur
  | .neg a => a.pur
  | .cmp _ a b => a.pur && b.pur
  | .chain _ _ a b c => a.pur && b.pur && c.pur
  | .isN a => a.pur
  | .notN a => a.pur
  | .not a => a.pur
  | .ands es => es.pur
  | .ors es => es.pur
  | .ife c a b => c.pur && a.pur && b.pur
  | .idx a b => a.pur && b.pur
  | .idxv _ b => b.pur
  | .sl a lo hi => a.pur && lo.pur && hi.pur
  | .call _ es _ => es.pur
  | .callio _ _ _ => false
  | .callk _ es _ _ => es.pur
  | .bi _ es => es.pur
  | .ist _ e => e.pur
  | .mt _ o es => o.pur && es.pur
  | .lrng1 a => a.pur
  | .lrng2 a b => a.pur && b.pur
  | .sset a => a.pur
  | .dnewT => true
  | .dinT _ es _ => es.pur
  | .dgetT _ es _ => es.pur
  | .rev a => a.pur
  | .cat a es => a.pur && es.pur
  | .cat2 a b => a.pur && b.pur
  | .popv _ => false
  | .lc elt _ it cs => elt.pur && it.pur && cs.pur
def Es.pur : Es → Bool
  | .nil => true
  | .cons e es => e.pur && es.pur
def OE.pur : OE → Bool
  | .no => true
  | .so e => e.pur
def It.pur : It → Bool
  | .lst e => e.pur
  | .tup e => e.pur
  | .rng1 a => a.pur
  | .rng2 a b => a.pur && b.pur
  | .enum e => e.pur
  | .zip a b => a.pur && b.pur
end

/-- the items at these places -/
def pick {α : Type} (pm : List Nat) (l : List α) : List α := pm.filterMap fun i => l[i]?
def okRng (n : Int) : Prop := -(2 ^ 62) ≤ n ∧ n < 2 ^ 62

/-! ### the readings -/
section
variable (Φ : Phi)
mutual
def rdE : E → DEnv → (Kd → D → DEnv → Prop) → Prop
  | .var i, env, Q => ∃ k d, varD env i = some (k, d) ∧ Q (kdOf k d) d env
  | .mv i, env, Q => ∃ d, env[i]? = some (.own d) ∧ Q .t d (env.set i .un)
  | .int i, env, Q => Q .z (.int i) env
  | .bl b, env, Q => Q .z (.bool b) env
  | .non, env, Q => Q .z .none env
  | .str x, env, Q => Q .z (.str x) env
  | .gi _ i, env, Q => Q .z (.int i) env
  | .tup es, env, Q => rdEs es env fun k ds env' => ds.length ≤ sizeLine ∧ Q (kdOf k (.tuple ds)) (.tuple ds) env'
  | .lst es, env, Q => rdEs es env fun k ds env' => ds.length ≤ sizeLine ∧ Q (if k = .b then .b else .t) (.list ds) env'
  | .bin o a b, env, Q => rdE a env fun k x env1 => rdE b env1 fun k' y env2 => (k ≠ .b ∨ b.pur = true) ∧ ∃ t r, binD o x y = some (t, r) ∧ ((k ≠ .b ∧ k' ≠ .b) ∨ shal r = true) ∧ Q (if t then .t else .z) r env2
  | .neg a, env, Q => rdE a env fun _ x env1 => ∃ i, x = .int i ∧ Q .z (.int (-i)) env1
  | .cmp o a b, env, Q => rdE a env fun k x env1 => rdE b env1 fun _ y env2 => (k ≠ .b ∨ b.pur = true) ∧ ∃ r, cmpD o x y = some r ∧ Q .z (.bool r) env2
  | .chain o p a b c, env, Q => rdE a env fun k x env1 => rdE b env1 fun k' y env2 => (k ≠ .b ∨ b.pur = true) ∧ (k' ≠ .b ∨ c.pur = true) ∧ ∃ r, cmpD o x y = some r ∧
      if r = true then rdE c env2 fun _ z env3 => ∃ r', cmpD p y z = some r' ∧ Q .z (.bool r') env3 else Q .z (.bool false) env2
  | .isN a, env, Q => rdE a env fun _ x env1 => Q .z (.bool (isNonD x)) env1
  | .notN a, env, Q => rdE a env fun _ x env1 => Q .z (.bool (!isNonD x)) env1
  | .not a, env, Q => rdE a env fun _ x env1 => ∃ b, truthD x = some b ∧ Q .z (.bool (!b)) env1
  | .ands es, env, Q => rdAnd es env Q
  | .ors es, env, Q => rdOr es env Q
  | .ife c a b, env, Q => rdE c env fun _ x env1 => ∃ t, truthD x = some t ∧ if t = true then rdE a env1 Q else rdE b env1 Q
  | .idx a b, env, Q => rdE a env fun k x env1 => rdE b env1 fun _ y env2 => (k ≠ .b ∨ b.pur = true) ∧ ∃ r, idxD x y = some r ∧ Q (kdOf k r) r env2
  | .idxv i b, env, Q => (varD env i).isSome = true ∧ rdE b env fun _ y env1 => ∃ k x, varD env1 i = some (k, x) ∧ ∃ r, idxD x y = some r ∧ Q (match x with | .list _ => .z | _ => kdOf k r) r env1
  | .sl a lo hi, env, Q => rdE a env fun k x env1 => rdO lo env1 fun l env2 => rdO hi env2 fun h env3 => (k ≠ .b ∨ (lo.pur = true ∧ hi.pur = true)) ∧
      match x with
      | .list ds => (k ≠ .b ∨ flats ds = true) ∧ Q .t (.list (cutD ds l h)) env3
      | .tuple ds => Q (kdOf k (.tuple (cutD ds l h))) (.tuple (cutD ds l h)) env3
      | _ => False
  | .call f es dv, env, Q => rdEs es env fun k ds env1 => (Φ f).io = false ∧ (Φ f).sp (ds ++ dv) fun _ r => (k ≠ .b ∨ flat r = true) ∧ Q (if (Φ f).fr then .t else .z) r env1
  | .callio f i es, env, Q => (ownD env i).isSome = true ∧ rdEs es env fun k ds env1 => (Φ f).io = true ∧ k ≠ .b ∧ ∃ ns : List Int, ownD env1 i = some (.list (ns.map .int)) ∧ (Φ f).sp (.list (ns.map .int) :: ds) fun d' r => ∃ env2, putD env1 i d' = some env2 ∧ Q (if (Φ f).fr then .t else .z) r env2
  | .callk f es ks pm, env, Q => rdEs es env fun k ds env1 => ds.length = ks.length ∧ (Φ f).io = false ∧ (Φ f).sp (pick pm ds) fun _ r => (k ≠ .b ∨ flat r = true) ∧ Q (if (Φ f).fr then .t else .z) r env1
  | .bi b es, env, Q => rdEs es env fun k ds env1 => ∃ t r, biD b ds = some (t, r) ∧ (k ≠ .b ∨ (if t = true then shal r else flat r) = true) ∧ Q (if t then .t else .z) r env1
  | .ist b e, env, Q => rdE e env fun _ x env1 => ∃ t r, biD b [x] = some (t, r) ∧ Q .z r env1
  | .mt m o es, env, Q => rdE o env fun k x env1 => isLst x = true ∧ rdEs es env1 fun _ ds env2 => (k ≠ .b ∨ es.pur = true) ∧ ∃ r, mtD m x ds = some r ∧ Q (kdOf k r) r env2
  | .lrng1 a, env, Q => rdE a env fun _ x env1 => ∃ n, x = .int n ∧ okRng n ∧ n ≤ 1000000 ∧ Q .t (.list (rangeD 0 n.toNat)) env1
  | .lrng2 a b, env, Q => rdE a env fun _ x env1 => rdE b env1 fun _ y env2 => ∃ n m, x = .int n ∧ y = .int m ∧ m - n ≤ 1000000 ∧ Q .t (.list (rangeD n (m - n).toNat)) env2
  | .sset a, env, Q => rdE a env fun _ x env1 => ∃ ns ms : List Int, x = .list (ns.map .int) ∧ ns.length ≤ 1000 ∧ ms.Pairwise (· < ·) ∧ (∀ k, k ∈ ms ↔ k ∈ ns) ∧ ms.length < 64 ∧ Q .t (.list (ms.map .int)) env1
  | .dnewT, env, Q => Q .t (dT []) env
  | .dinT neg es i, env, Q => rdEs es env fun _ ds env1 => ∃ (ks : List Int) (k : Kd) (l : List (List Int × D)), ds = ks.map .int ∧ ks.length ≤ 1000 ∧ varD env1 i = some (k, dT l) ∧ Q .z (.bool (if neg = true then !hasT l ks else hasT l ks)) env1
  | .dgetT i es n, env, Q => (∃ (k : Kd) (l : List (List Int × D)), varD env i = some (k, dT l)) ∧ rdEs es env fun _ ds env1 => ∃ (ks : List Int) (k : Kd) (l : List (List Int × D)) (m : Int), ds = ks.map .int ∧ ks.length ≤ 1000 ∧ varD env1 i = some (k, dT l) ∧ getT l ks n = some m ∧ Q .z (.int m) env1
  | .rev a, env, Q => rdE a env fun k x env1 => ∃ ds, x = .list ds ∧ (k ≠ .b ∨ flats ds = true) ∧ Q .t (.list ds.reverse) env1
  | .cat a es, env, Q => rdE a env fun k x env1 => ∃ xs, x = .list xs ∧ (k ≠ .b ∨ flats xs = true) ∧ rdEs es env1 fun k' ds env2 => k' ≠ .b ∧ xs.length + ds.length ≤ 100000 ∧ Q .t (.list (xs ++ ds)) env2
  | .cat2 a b, env, Q => rdE a env fun k x env1 => ∃ xs, x = .list xs ∧ (k ≠ .b ∨ flats xs = true) ∧ rdE b env1 fun k' y env2 => ∃ ys, y = .list ys ∧ (k' ≠ .b ∨ flats ys = true) ∧ xs.length + ys.length ≤ 100000 ∧ Q .t (.list (xs ++ ys)) env2
  | .popv i, env, Q => ∃ ds d env', ownD env i = some (.list ds) ∧ ds[ds.length - 1]? = some d ∧ putD env i (.list ds.dropLast) = some env' ∧ Q .z d env'
  | .lc elt t it cs, env, Q => rdI it env fun k its env1 => freeD env1 t.names = true ∧ (k ≠ .b ∨ (flats its = true ∧ elt.pur = true ∧ cs.pur = true)) ∧
      ∃ W : Nat → List D → DEnv → Prop, W 0 [] (wipeD env1 t.names) ∧
        (∀ j acc env x, its[j]? = some x → W j acc env → ∃ env2, tgD t x env = some env2 ∧ rdC cs env2 fun b env3 =>
          if b = true then rdE elt env3 fun k d env4 => k ≠ .b ∧ acc.length < sizeLine ∧ W (j + 1) (acc ++ [d]) (wipeD env4 t.names) else W (j + 1) acc (wipeD env3 t.names)) ∧
        ∀ acc env, W its.length acc env → Q .t (.list acc) (backD env1 env t.names)
def rdEs : Es → DEnv → (Kd → List D → DEnv → Prop) → Prop
  | .nil, env, Q => Q .z [] env
  | .cons e es, env, Q => rdE e env fun k d env1 => rdEs es env1 fun k' ds env2 => (k ≠ .b ∨ es.pur = true) ∧ Q (if k = .b then .b else k') (d :: ds) env2
def rdO : OE → DEnv → (Option Int → DEnv → Prop) → Prop
  | .no, env, Q => Q none env
  | .so e, env, Q => rdE e env fun _ x env1 => ∃ i, x = .int i ∧ Q (some i) env1
def rdAnd : Es → DEnv → (Kd → D → DEnv → Prop) → Prop
  | .nil, _, _ => False
  | .cons e .nil, env, Q => rdE e env Q
  | .cons e es, env, Q => rdE e env fun k x env1 => ∃ b, truthD x = some b ∧ if b = true then rdAnd es env1 Q else Q k x env1
def rdOr : Es → DEnv → (Kd → D → DEnv → Prop) → Prop
  | .nil, _, _ => False
  | .cons e .nil, env, Q => rdE e env Q
  | .cons e es, env, Q => rdE e env fun k x env1 => ∃ b, truthD x = some b ∧ if b = true then Q k x env1 else rdOr es env1 Q
/-- a comprehension's tests -/
def rdC : Es → DEnv → (Bool → DEnv → Prop) → Prop
  | .nil, env, Q => Q true env
  | .cons e .nil, env, Q => rdE e env fun _ x env1 => ∃ b, truthD x = some b ∧ Q b env1
  | _, _, _ => False
def rdI : It → DEnv → (Kd → List D → DEnv → Prop) → Prop
  | .lst e, env, Q => rdE e env fun k x env1 => ∃ ds, x = .list ds ∧ Q k ds env1
  | .tup e, env, Q => rdE e env fun k x env1 => ∃ ds, x = .tuple ds ∧ Q (kdOf k x) ds env1
  | .rng1 a, env, Q => rdE a env fun _ x env1 => ∃ n, x = .int n ∧ okRng n ∧ Q .z (rangeD 0 n.toNat) env1
  | .rng2 a b, env, Q => rdE a env fun _ x env1 => rdE b env1 fun _ y env2 => ∃ n m, x = .int n ∧ y = .int m ∧ Q .z (rangeD n (m - n).toNat) env2
  | .enum e, env, Q => rdE e env fun k x env1 => ∃ ds, x = .list ds ∧ Q k (ds.zipIdx.map fun p => .tuple [.int (p.2 : Nat), p.1]) env1
  | .zip a b, env, Q => rdE a env fun k x env1 => rdE b env1 fun k' y env2 => (k ≠ .b ∨ b.pur = true) ∧ ∃ ds es, x = .list ds ∧ y = .list es ∧ Q (if k = .b then .b else k') ((ds.zip es).map fun p => .tuple [p.1, p.2]) env2
end

/-- what is wanted behind a statement -/
structure DEnds where
  nx : DEnv → Prop
  rt : Kd → D → DEnv → Prop
  bk : DEnv → Prop := fun _ => False
  ct : DEnv → Prop := fun _ => False

/-- x = e: the name's slot from now on -/
def asgD (env : DEnv) (i : Nat) (ow : Bool) (k : Kd) (d : D) : Option DEnv :=
  match ow, k with
  | _, .b => none
  | true, .z => none
  | true, .t => setD env i (.own d)
  | false, _ => setD env i (.frz d)
/-- names get their values -/
def setsD : DEnv → List (Nat × Bool) → List D → Option DEnv
  | env, [], [] => some env
  | env, (i, ow) :: is, d :: ds => (setD env i (if ow = true then .own d else .frz d)).bind fun env1 => setsD env1 is ds
  | _, _, _ => none
def augI : B2 → Int → Int → Option Int
  | .add, i, j => some (i + j)
  | .sub, i, j => some (i - j)
  | .mul, i, j => if i.natAbs.log2 + j.natAbs.log2 < 1000000 then some (i * j) else none
  | _, _, _ => none
/-- a list changed by a method -/
def mutD : Mm → List D → D → Option (List D)
  | .append, ds, d => if ds.length < sizeLine then some (ds ++ [d]) else none
  | .extend, ds, .list es => if ds.length + es.length ≤ sizeLine then some (ds ++ es) else none
  | .remove, ds, .int i => match intsOf ds with
    | some ns => if i ∈ ns then some ((ns.erase i).map .int) else none
    | none => none
  | _, _, _ => none

/-- values to be stored, one by one: which of them are lists made just now -/
def rdPs : Es → List Bool → DEnv → (List D → DEnv → Prop) → Prop
  | .nil, [], env, Q => Q [] env
  | .cons e es, ow :: os, env, Q => rdE Φ e env fun k d env1 => (if ow = true then k = .t else k ≠ .b) ∧ rdPs es os env1 fun ds env2 => Q (d :: ds) env2
  | _, _, _, _ => False
mutual
def rdS : S → DEnv → DEnds → Prop
  | .asg i ow e, env, R => rdE Φ e env fun k d env1 => ∃ env2, asgD env1 i ow k d = some env2 ∧ R.nx env2
  | .asgT ts e, env, R => rdE Φ e env fun k d env1 => k ≠ .b ∧ ∃ env2, tgD (.tp ts) d env1 = some env2 ∧ R.nx env2
  | .par is es, env, R => rdPs Φ es (is.map (·.2)) env fun ds env1 => ∃ env2, setsD env1 is ds = some env2 ∧ R.nx env2
  | .setv i ie e, env, R => (ownD env i).isSome = true ∧ rdE Φ e env fun k d env1 => rdE Φ ie env1 fun _ y env2 => k ≠ .b ∧ ∃ ds n j env3, ownD env2 i = some (.list ds) ∧ y = .int n ∧ ixN ds.length n = some j ∧ putD env2 i (.list (ds.set j d)) = some env3 ∧ R.nx env3
  | .aug i o e, env, R => ∃ x, env[i]? = some (.frz (.int x)) ∧ rdE Φ e env fun _ y env1 => ∃ j r env2, y = .int j ∧ augI o x j = some r ∧ setD env1 i (.frz (.int r)) = some env2 ∧ R.nx env2
  | .expr e, env, R => rdE Φ e env fun _ _ env1 => R.nx env1
  | .mut m i e, env, R => (∃ ds0, ownD env i = some (.list ds0)) ∧ rdE Φ e env fun k y env1 => k ≠ .b ∧ (m = .extend → k = .t) ∧ ∃ ds ds' env2, ownD env1 i = some (.list ds) ∧ mutD m ds y = some ds' ∧ putD env1 i (.list ds') = some env2 ∧ R.nx env2
  | .iff c a b, env, R => rdE Φ c env fun _ x env1 => ∃ t, truthD x = some t ∧ if t = true then rdSs a env1 R else rdSs b env1 R
  | .dputT i es v, env, R => (ownD env i).isSome = true ∧ rdE Φ v env fun k d env1 => rdEs Φ es env1 fun _ ds env2 => k ≠ .b ∧ ∃ (ks : List Int) (l : List (List Int × D)) (env3 : DEnv), ds = ks.map .int ∧ ks.length ≤ 1000 ∧ ownD env2 i = some (dT l) ∧ l.length < sizeLine ∧ putD env2 i (dT (putT l ks d)) = some env3 ∧ R.nx env3
  | .forr t it b wl, env, R => rdI Φ it env fun k its env1 => k ≠ .b ∧ ∃ W : Nat → DEnv → Prop, W 0 (wipeF env1 wl) ∧
      (∀ j env x, its[j]? = some x → W j env → ∃ env2, tgD t x env = some env2 ∧ rdSs b env2 { nx := fun e => W (j + 1) (wipeF e wl), ct := fun e => W (j + 1) (wipeF e wl), bk := fun e => R.nx (wipeF e wl), rt := R.rt }) ∧ ∀ env, W its.length env → R.nx env
  | .ford a b c e bd wl, env, R => rdE Φ e env fun k x env1 => k = .t ∧ ∃ l : List ((Int × Int) × Int), x = dP l ∧ ∃ W : Nat → DEnv → Prop, W 0 (wipeF env1 wl) ∧
      (∀ j env p, l[j]? = some p → W j env → ∃ env2, tgD (T3 a b c) (.tuple [.tuple [.int p.1.1, .int p.1.2], .int p.2]) env = some env2 ∧ rdSs bd env2 { nx := fun e => W (j + 1) (wipeF e wl), ct := fun e => W (j + 1) (wipeF e wl), bk := fun e => R.nx (wipeF e wl), rt := R.rt }) ∧ ∀ env, W l.length env → R.nx env
  | .whl c b wl, env, R => ∃ W : Nat → DEnv → Prop, (∃ m, W m (wipeF env wl)) ∧ ∀ m env, W m env → rdE Φ c env fun _ x env1 => ∃ t, truthD x = some t ∧
      if t = true then rdSs b env1 { nx := fun e => ∃ m', m' < m ∧ W m' (wipeF e wl), ct := fun e => ∃ m', m' < m ∧ W m' (wipeF e wl), bk := fun e => R.nx (wipeF e wl), rt := R.rt } else R.nx env1
  | .ret e, env, R => rdE Φ e env R.rt
  | .retN, env, R => R.rt .z .none env
  | .brk, env, R => R.bk env
  | .cont, env, R => R.ct env
  | .pas, env, R => R.nx env
def rdSs : Ss → DEnv → DEnds → Prop
  | .nil, env, R => R.nx env
  | .cons s ss, env, R => rdS s env { R with nx := fun env1 => rdSs ss env1 R }
  | .nev, _, _ => False
  | .frz i ss, env, R => ∃ d, env[i]? = some (.own d) ∧ rdSs ss (env.set i (.frz d)) R
  | .cntT i j es ss, env, R => rdEs Φ es env fun _ ds env1 => ∃ (ks : List Int) (l : List (List Int × D)) (m : Int) (env2 env3 : DEnv), ds = ks.map .int ∧ ks.length ≤ 1000 ∧ setD env1 j (.frz (.tuple ds)) = some env2 ∧
      ownD env2 i = some (dT l) ∧ i ≠ j ∧ l.length < sizeLine ∧ getT l ks 0 = some m ∧ putD env2 i (dT (putT l ks (.int (m + 1)))) = some env3 ∧ rdSs ss env3 R
end
end
end DL

/-! DL3: what an expression's reading leaves (Stp, Res, Post), and how the pieces go together. -/
namespace DL
open PySem PySem.Spec PyProof.Rows L2

/-- from the heap H and the slots env to H', env' -/
structure Stp (σ : L2.St) (H : Hp) (env : DEnv) (pu : Bool) (H' : Hp) (env' : DEnv) : Prop where
  step : ∀ a o, H a = some o → ¬ Own env σ a → H' a = some o
  pur : pu = true → env' = env ∧ ∀ a o, H a = some o → H' a = some o
  own : ∀ a, Own env' σ a → Own env σ a
  trk : ∀ a, H a ≠ none → H' a ≠ none
  io : ∀ (i : Nat) (d : D), env[i]? = some (Slot.io d) → ∃ d', env'[i]? = some (Slot.io d')
  len : env'.length = env.length
  sl : ∀ i : Nat, (∃ d, env'[i]? = some (Slot.own d)) → ∃ d, env[i]? = some (Slot.own d)
  si : ∀ i : Nat, (∃ d, env'[i]? = some (Slot.io d)) → ∃ d, env[i]? = some (Slot.io d)

/-- a value of a kind -/
def RepK (K : Frag) (G : Addr → Prop) (σ : L2.St) (k : Kd) (H : Hp) (env : DEnv) (d : D) (v : V) : Prop :=
  match k with
  | .b => Rep K H (fun a => (G a ∧ ¬ Own env σ a) ∨ Own env σ a) d v
  | _ => Rep K H (fun a => G a ∧ ¬ Own env σ a) d v
/-- a list made just now stands at a, nobody else holds it -/
structure FreshAt (K : Frag) (G N : Addr → Prop) (σ : L2.St) (H : Hp) (env : DEnv) (d : D) (a : Addr) : Prop where
  g : G a
  n : N a
  no : ¬ Own env σ a
  ob : OwnO K H (fun b => (G b ∧ b ≠ a) ∧ ¬ Own env σ b) a d
  ok : EnvOk K (fun b => G b ∧ b ≠ a) N H σ env
def Res (K : Frag) (G N : Addr → Prop) (σ : L2.St) (k : Kd) (H : Hp) (env : DEnv) (d : D) (v : V) : Prop :=
  match k with
  | .t => ∃ a, v = .ref a ∧ FreshAt K G N σ H env d a
  | k => EnvOk K G N H σ env ∧ RepK K G σ k H env d v
structure Post (K : Frag) (G N : Addr → Prop) (σ : L2.St) (H : Hp) (env : DEnv) (pu : Bool) (k : Kd) (d : D) (env' : DEnv) (v : V) (H' : Hp) : Prop where
  s : Stp σ H env pu H' env'
  r : Res K G N σ k H' env' d v

section
variable {K : Frag} {G N : Addr → Prop} {σ : L2.St} {H H1 H2 : Hp} {env env1 env2 : DEnv} {p q : Bool}

theorem Stp.refl : Stp σ H env true H env := ⟨fun _ _ h _ => h, fun _ => ⟨rfl, fun _ _ h => h⟩, fun _ h => h, fun _ h => h, fun _ d h => ⟨d, h⟩, rfl, fun _ h => h, fun _ h => h⟩
theorem Stp.trans (a : Stp σ H env p H1 env1) (b : Stp σ H1 env1 q H2 env2) : Stp σ H env (p && q) H2 env2 where
  step := fun c o h n => b.step c o (a.step c o h n) fun z => n (a.own c z)
  pur := fun h => by
    obtain ⟨h1, h2⟩ := Bool.and_eq_true_iff.mp h
    obtain ⟨e1, k1⟩ := a.pur h1
    obtain ⟨e2, k2⟩ := b.pur h2
    exact ⟨e2.trans e1, fun c o z => k2 c o (k1 c o z)⟩
  own := fun c h => a.own c (b.own c h)
  trk := fun c h => b.trk c (a.trk c h)
  io := fun i d h => let ⟨d', h'⟩ := a.io i d h; b.io i d' h'
  len := b.len.trans a.len
  sl := fun i h => a.sl i (b.sl i h)
  si := fun i h => a.si i (b.si i h)
/-- new objects alone -/
theorem Stp.grow {H' : Hp} (h : ∀ a o, H a = some o → H' a = some o) : Stp σ H env true H' env :=
  ⟨fun a o e _ => h a o e, fun _ => ⟨rfl, h⟩, fun _ z => z, fun a z e => by
    cases q : H a with
    | none => exact z q
    | some o => (rw [h a o q] at e; cases e), fun _ d h => ⟨d, h⟩, rfl, fun _ h => h, fun _ h => h⟩
theorem Stp.weak (a : Stp σ H env true H1 env1) : Stp σ H env p H1 env1 := ⟨a.step, fun _ => a.pur rfl, a.own, a.trk, a.io, a.len, a.sl, a.si⟩
theorem Stp.cast (a : Stp σ H env p H1 env1) (e : p = q) : Stp σ H env q H1 env1 := e ▸ a
theorem Stp.imp (a : Stp σ H env p H1 env1) (e : q = true → p = true) : Stp σ H env q H1 env1 := ⟨a.step, fun h => a.pur (e h), a.own, a.trk, a.io, a.len, a.sl, a.si⟩

theorem carryZ {d : D} {v : V} (s : Stp σ H env p H1 env1) (r : Rep K H (fun a => G a ∧ ¬ Own env σ a) d v) : Rep K H1 (fun a => G a ∧ ¬ Own env1 σ a) d v :=
  r.imp fun a u e z => ⟨s.step a u e z.2, z.1, fun y => z.2 (s.own a y)⟩
theorem carryZs {d : List D} {v : List V} (s : Stp σ H env p H1 env1) (r : Reps K H (fun a => G a ∧ ¬ Own env σ a) d v) : Reps K H1 (fun a => G a ∧ ¬ Own env1 σ a) d v :=
  r.imp fun a u e z => ⟨s.step a u e z.2, z.1, fun y => z.2 (s.own a y)⟩
theorem RepK.carry {k : Kd} {d : D} {v : V} (r : RepK K G σ k H env d v) (s : Stp σ H env p H1 env1) (c : k ≠ .b ∨ p = true) : RepK K G σ k H1 env1 d v := by
  cases k with
  | z => exact carryZ s r
  | t => exact carryZ s r
  | b =>
    rcases c with c | c
    · exact absurd rfl c
    · obtain ⟨e, h⟩ := s.pur c
      subst e
      exact Rep.imp (fun a u e z => ⟨h a u e, z⟩) r
/-- .. of one kind as of the widest -/
theorem RepK.wide {k : Kd} {d : D} {v : V} (r : RepK K G σ k H env d v) : Rep K H (fun a => (G a ∧ ¬ Own env σ a) ∨ Own env σ a) d v := by
  cases k with
  | z => exact Rep.mono (fun a u e z => .inl z) r
  | t => exact Rep.mono (fun a u e z => .inl z) r
  | b => exact r
theorem RepK.z {k : Kd} {d : D} {v : V} (r : RepK K G σ k H env d v) (h : k ≠ .b) : Rep K H (fun a => G a ∧ ¬ Own env σ a) d v := by
  cases k with
  | z => exact r
  | t => exact r
  | b => exact absurd rfl h
/-- flat data are of any kind -/
theorem wide_flat (E : EnvOk K G N H σ env) {d : D} {v : V} (f : flat d = true) (r : Rep K H (fun a => (G a ∧ ¬ Own env σ a) ∨ Own env σ a) d v) : Rep K H (fun a => G a ∧ ¬ Own env σ a) d v :=
  r.flat_ok (fun a xs e z => by
    rcases z with z | z
    · exact z
    · obtain ⟨u, hu, hn⟩ := E.own_there z
      rw [e] at hu; cases hu
      exact absurd rfl (hn xs)) f
theorem wide_flats (E : EnvOk K G N H σ env) {d : List D} {v : List V} (f : flats d = true) (r : Reps K H (fun a => (G a ∧ ¬ Own env σ a) ∨ Own env σ a) d v) : Reps K H (fun a => G a ∧ ¬ Own env σ a) d v :=
  r.flat_ok (fun a xs e z => by
    rcases z with z | z
    · exact z
    · obtain ⟨u, hu, hn⟩ := E.own_there z
      rw [e] at hu; cases hu
      exact absurd rfl (hn xs)) f
theorem RepK.kdOf {k : Kd} {d : D} {v : V} (E : EnvOk K G N H σ env) (r : RepK K G σ k H env d v) : RepK K G σ (kdOf k d) H env d v := by
  unfold DL.kdOf
  by_cases f : flat d = true
  · rw [if_pos f]; exact wide_flat E f r.wide
  · rw [if_neg f]
    cases k with
    | z => exact r
    | t => exact r
    | b => exact r
theorem RepK.flat {k k' : Kd} {d : D} {v : V} (E : EnvOk K G N H σ env) (f : flat d = true) (r : RepK K G σ k H env d v) : RepK K G σ k' H env d v := by
  have z := wide_flat E f r.wide
  cases k' with
  | z => exact z
  | t => exact z
  | b => exact Rep.mono (fun a u e y => .inl y) z

theorem res_kd {k : Kd} {d : D} {v : V} (E : EnvOk K G N H σ env) (r : RepK K G σ k H env d v) : Res K G N σ (kdOf k d) H env d v := by
  have h := r.kdOf E
  have n : kdOf k d ≠ .t := by
    unfold DL.kdOf
    split
    · exact fun z => nomatch z
    · cases k <;> exact fun z => nomatch z
  generalize kdOf k d = kk at h n ⊢
  cases kk with
  | z => exact ⟨E, h⟩
  | b => exact ⟨E, h⟩
  | t => exact absurd rfl n
theorem FreshAt.weak {d : D} {a : Addr} (f : FreshAt K G N σ H env d a) : EnvOk K G N H σ env ∧ Rep K H (fun a => G a ∧ ¬ Own env σ a) d (.ref a) := by
  refine ⟨f.ok.less (fun b _ _ z => z.1) fun b e => ?_, ?_⟩
  · exact (f.ok.new b e).1.1
  · have up : ∀ b u, H b = some u → ((G b ∧ b ≠ a) ∧ ¬ Own env σ b) → (G b ∧ ¬ Own env σ b) := fun b u e z => ⟨z.1.1, z.2⟩
    rcases f.ob with ⟨ds, xs, e, q, r⟩ | ⟨kvs, ks, e, q, r⟩
    · subst e
      unfold Rep
      exact ⟨a, xs, rfl, .inl ⟨.inl q, f.g, f.no⟩, r.mono up⟩
    · subst e
      unfold Rep
      exact ⟨a, ks, rfl, ⟨q, f.g, f.no⟩, r.imp fun b u e z => ⟨e, up b u e z⟩⟩
theorem Res.weak {k : Kd} {d : D} {v : V} (r : Res K G N σ k H env d v) : EnvOk K G N H σ env ∧ RepK K G σ k H env d v := by
  cases k with
  | z => exact r
  | b => exact r
  | t =>
    obtain ⟨a, rfl, f⟩ := r
    exact f.weak
theorem Post.ok {k : Kd} {d : D} {v : V} (h : Post K G N σ H env p k d env1 v H1) : EnvOk K G N H1 σ env1 := h.r.weak.1
theorem Post.rep {k : Kd} {d : D} {v : V} (h : Post K G N σ H env p k d env1 v H1) : RepK K G σ k H1 env1 d v := h.r.weak.2

/-- a new list at a free place -/
theorem fresh_list {ds : List D} {xs : List V} {a : Addr} (E : EnvOk K G N H σ env) (r : Reps K H (fun a => G a ∧ ¬ Own env σ a) ds xs) (n : H a = none) :
    FreshAt K G N σ (upd H a (.lst xs)) env (.list ds) a := by
  have grow : ∀ b o, H b = some o → upd H a (.lst xs) b = some o := fun b o e => by rw [upd_ne (ne_of_none e n)]; exact e
  refine ⟨(E.new a n).1, (E.new a n).2, E.new_own n, .inl ⟨ds, xs, rfl, upd_same, r.imp fun b u e z => ⟨grow b u e, ⟨z.1, ne_of_none e n⟩, z.2⟩⟩, ?_⟩
  refine E.mv grow (fun b u e z => ⟨z, ne_of_none e n⟩) fun b e e' => ⟨(E.new b e').1, fun y => ?_⟩
  subst y
  rw [upd_same] at e
  cases e
end
end DL

/-! DL4: operators, comparisons, truth, built-ins by values: each on represented data gives represented data. -/
namespace DL
open PySem PySem.Spec PyProof.Rows L2

def opOf : B2 → Operator
  | .add => .Add | .sub => .Sub | .mul => .Mult | .fdiv => .FloorDiv | .mod => .Mod | .pow => .Pow | .shl => .LShift | .shr => .RShift | .band => .BitAnd
def cOf : C2 → CmpOp
  | .eq => .Eq | .ne => .NotEq | .lt => .Lt | .le => .LtE | .gt => .Gt | .ge => .GtE | .inn => .In | .nin => .NotIn | .is => .Is | .nis => .IsNot

section
variable {X : Cx} {pins : List (Addr × Obj)} {σ : L2.St} {H : Hp} {s : Shared} {P : Addr → Prop}

/-- a list that is read, as an object -/
theorem ln_obj (I : Inv X pins σ H s) {a : Addr} {xs : List V} (h : LN X.K H P a xs) : xs.length ≤ sizeLine ∧ ∃ (its : List Value) (n : Nat), Vals xs its ∧ xs.length = its.length ∧ s.heap.get? a = some { cls := .type "list", data := .seq its.toArray n } := by
  rcases h with h | ⟨its, n, q, z, r⟩
  · have rd : Rd H a (.lst xs) := h.1
    obtain ⟨z, its, n, r, e⟩ := rd.ok I.hok
    exact ⟨z, its, n, r, r.length, e⟩
  · exact ⟨by rw [r.length]; exact z, its, n, r, r.length, I.kIn a _ q⟩
/-- what is wanted of a new list -/
def NewL (H : Hp) (ys : List V) (Q : VK) : Prop := ∀ p, H p = none → Q (.ref p) (upd H p (.lst ys))

theorem cat_ok {x y : V} {v u : Value} {Q : VK} {a b : Addr} {xs ys : List V} (I : Inv X pins σ H s) (ha : LN X.K H P a xs) (hb : LN X.K H P b ys) (rx : RelV (.ref a) v) (ry : RelV (.ref b) u)
    (hl : xs.length + ys.length ≤ sizeLine) (q : NewL H (xs ++ ys) Q) : wpAny (model X.prog X.w) X.A (binaryOp .Add v u) (EP X pins σ Q) X.xe s := by
  cases rx
  cases ry
  obtain ⟨_, i1, n1, r1, l1, e1⟩ := ln_obj I ha
  obtain ⟨_, i2, n2, r2, l2, e2⟩ := ln_obj I hb
  have fit : i1.toArray.size + i2.toArray.size ≤ sizeLine := by
    rw [List.size_toArray, List.size_toArray, ← l1, ← l2]; exact hl
  have one : i1.toArray ++ i2.toArray = (i1 ++ i2).toArray := List.append_toArray i1 i2
  have fin : EP X pins σ Q (.ref s.heap.objs.size) { s with heap := s.heap.push { cls := .type "list", data := .seq (i1 ++ i2).toArray } } :=
    ⟨.ref _, _, I.lnew (t' := s.toks) (r1.append r2) (by rw [List.length_append]; exact hl), rfl, q _ I.fresh⟩
  exact PySem.P.add_list e1 e2 (by rw [one]; exact fin) fit
theorem len_flat_rep {α : Type} (xs : List α) : ∀ k : Nat, (List.replicate k xs).flatten.length = xs.length * k
  | 0 => rfl
  | k + 1 => by rw [List.replicate_succ, List.flatten_cons, List.length_append, len_flat_rep xs k, Nat.mul_succ, Nat.add_comm]
theorem rep_ok {v u : Value} {Q : VK} {a : Addr} {k : Int} {xs : List V} (I : Inv X pins σ H s) (ha : LN X.K H P a xs) (rx : RelV (.ref a) v) (ry : RelV (.int k) u)
    (h1 : -(2 ^ 63) ≤ k) (h2 : k < 2 ^ 63) (hl : xs.length * k.toNat ≤ sizeLine) (q : NewL H (List.replicate k.toNat xs).flatten Q) : wpAny (model X.prog X.w) X.A (binaryOp .Mult v u) (EP X pins σ Q) X.xe s := by
  cases rx
  obtain ⟨t, rfl⟩ := ry
  obtain ⟨_, its, n, r, l1, e1⟩ := ln_obj I ha
  have sz : its.toArray.size * k.toNat ≤ sizeLine := by rw [List.size_toArray, ← l1]; exact hl
  have cap : ¬ its.toArray.size * k.toNat > (2 ^ 63 - 1) / 8 := by
    have : (sizeLine : Nat) ≤ (2 ^ 63 - 1) / 8 := by decide
    omega
  have fit : ¬ (!Builtin.List.listFitsIndex k) = true := by rw [fitsIndex_both h1 h2]; decide
  have lng : ¬ Builtin.List.listTooLong (its.toArray.size * k.toNat) = true := by rw [notLongL sz]; decide
  have folded : ∀ m : Nat, List.foldl (fun x1 x2 => x1 ++ x2) #[] (List.replicate m its.toArray) = (List.replicate m its).flatten.toArray := fun m => foldl_rep its m []
  have made : List.foldl (fun x1 x2 => x1 ++ x2) #[] (List.replicate (if its.toArray.isEmpty = true then 0 else k.toNat) its.toArray) = (List.replicate k.toNat its).flatten.toArray := by
    rw [folded]
    cases its with
    | nil => simp
    | cons c r' => rw [if_neg (by simp)]
  have fin : EP X pins σ Q (.ref s.heap.objs.size) { s with heap := s.heap.push { cls := .type "list", data := .seq (List.replicate k.toNat its).flatten.toArray } } :=
    ⟨.ref _, _, I.lnew (t' := s.toks) (r.rep k.toNat) (by rw [len_flat_rep]; exact hl), rfl, q _ I.fresh⟩
  have inner := AutoListH.list___mul___list_int_3 a its.toArray n k t fit cap lng
  have isL : s.TypeIs (.ref a) "list" := ⟨_, e1, rfl⟩
  refine wpAny_binaryOp_repeat_ref (T := "list") (U := "int") (by decide) isL (fun s' => typeIs_int s' k t) noFill_list_mul F.fills_int_mul F.slot_int_rmul repeat_list F.slot_int_index.lookup ?_
  refine call_meets F.slot_int_rmul (typeIs_int s k t) F.entry_int_rmul (F.args_int_rmul_2 _ _) (int___rmul___int_list k t a its.toArray n) ⟨e1, rfl, isL, ?_⟩
  refine call_meets F.slot_list_mul isL F.entry_list_mul (F.args_list_mul_2 _ _) inner ⟨e1, ?_⟩
  rw [made]
  exact fin

theorem Rep.int_inv {K : Frag} {i : Int} {v : V} (h : Rep K H P (.int i) v) : v = .int i := by unfold Rep at h; exact h
theorem Rep.bool_inv {K : Frag} {i : Bool} {v : V} (h : Rep K H P (.bool i) v) : v = .bl i := by unfold Rep at h; exact h
theorem Rep.str_inv {K : Frag} {i : Str} {v : V} (h : Rep K H P (.str i) v) : v = .str i := by unfold Rep at h; exact h
theorem Rep.non_inv {K : Frag} {v : V} (h : Rep K H P .none v) : v = .non := by unfold Rep at h; exact h
theorem Rep.list_inv {K : Frag} {ds : List D} {v : V} (h : Rep K H P (.list ds) v) : ∃ a xs, v = .ref a ∧ LN K H P a xs ∧ Reps K H P ds xs := by unfold Rep at h; exact h
theorem Rep.tuple_inv {K : Frag} {ds : List D} {v : V} (h : Rep K H P (.tuple ds) v) : ∃ a xs, v = .ref a ∧ TN K H P a xs ∧ Reps K H P ds xs := by unfold Rep at h; exact h

/-- a op b over data -/
def rBin (K : Frag) (o : B2) : R2 := fun x y H Q => ∃ (P : Addr → Prop) (dx dy : D) (t : Bool) (r : D), Rep K H P dx x ∧ Rep K H P dy y ∧ binD o dx dy = some (t, r) ∧
  (t = false → ∀ i, r = .int i → Q (.int i) H) ∧ (t = true → ∀ ds xs, r = .list ds → Reps K H P ds xs → NewL H xs Q)
theorem op_bin (o : B2) : OpR X (binaryOp (opOf o)) (rBin X.K o) := by
  intro pins s σ H x y v u Q I rx ry h
  obtain ⟨P, dx, dy, t, r, hx, hy, e, q1, q2⟩ := h
  cases o <;> cases dx <;> cases dy <;> simp only [binD, reduceCtorEq] at e
  case add.int.int i j =>
    cases e
    rw [hx.int_inv] at rx; rw [hy.int_inv] at ry
    exact op_add pins s σ H _ _ v u Q I rx ry ⟨i, j, rfl, rfl, q1 rfl _ rfl⟩
  case add.list.list xs ys =>
    split at e
    · rename_i hl
      cases e
      obtain ⟨a, vs, rfl, la, ra⟩ := hx.list_inv
      obtain ⟨b, ws, rfl, lb, rb⟩ := hy.list_inv
      exact cat_ok (x := .non) (y := .non) I la lb rx ry (by rw [ra.length, rb.length]; exact hl) (q2 rfl _ _ rfl (ra.append rb))
    · cases e
  case sub.int.int i j =>
    cases e
    rw [hx.int_inv] at rx; rw [hy.int_inv] at ry
    exact op_sub pins s σ H _ _ v u Q I rx ry ⟨i, j, rfl, rfl, q1 rfl _ rfl⟩
  case mul.int.int i j =>
    split at e
    · rename_i hl
      cases e
      rw [hx.int_inv] at rx; rw [hy.int_inv] at ry
      exact op_mulW pins s σ H _ _ v u Q I rx ry ⟨i, j, rfl, rfl, hl, q1 rfl _ rfl⟩
    · cases e
  case mul.list.int xs k =>
    split at e
    · rename_i hl
      cases e
      obtain ⟨a, vs, rfl, la, ra⟩ := hx.list_inv
      rw [hy.int_inv] at ry
      exact rep_ok I la rx ry hl.1 hl.2.1 (by rw [ra.length]; exact hl.2.2) (q2 rfl _ _ rfl (ra.rep _))
    · cases e
  case fdiv.int.int i j =>
    split at e
    · rename_i hl
      cases e
      rw [hx.int_inv] at rx; rw [hy.int_inv] at ry
      exact op_fdivW pins s σ H _ _ v u Q I rx ry ⟨i, j, rfl, rfl, hl, q1 rfl _ rfl⟩
    · cases e
  case mod.int.int i j =>
    split at e
    · rename_i hl
      cases e
      rw [hx.int_inv] at rx; rw [hy.int_inv] at ry
      exact op_mod pins s σ H _ _ v u Q I rx ry ⟨i, j, rfl, rfl, hl, q1 rfl _ rfl⟩
    · cases e
  case pow.int.int i j =>
    split at e
    · rename_i hl
      cases e
      rw [hx.int_inv] at rx; rw [hy.int_inv] at ry
      obtain ⟨t, rfl⟩ := rx
      obtain ⟨t', rfl⟩ := ry
      refine pow_int hl.1 ?_ ⟨.int _, H, I.tok _, ⟨_, rfl⟩, q1 rfl _ rfl⟩
      have b : Builtin.Int.intBits i ≤ i.natAbs.log2 + 1 := by unfold Builtin.Int.intBits; split <;> omega
      obtain ⟨h0, h1, h2⟩ := hl
      have b2 : (Builtin.Int.intBits i : Int) ≤ 1000 := by omega
      have m1 : (Builtin.Int.intBits i : Int) * j ≤ 1000 * 1000 := Int.mul_le_mul b2 h1 h0 (by decide)
      omega
    · cases e

theorem op_bin_ok (K : Frag) (o : B2) : ∀ {dx dy r : D}, binD o dx dy = some (false, r) → ∃ i, r = .int i := by
  intro dx dy r e
  cases o <;> cases dx <;> cases dy <;> simp only [binD, reduceCtorEq] at e <;> first
    | (cases e; exact ⟨_, rfl⟩)
    | (split at e <;> first | (cases e; exact ⟨_, rfl⟩) | cases e)

/-! ### comparisons -/
mutual
theorem nodict_of_lay : ∀ {d : D}, d.canLay0 = true → nodict d = true
  | .none, _ => by unfold nodict; rfl
  | .bool _, _ => by unfold nodict; rfl
  | .int _, _ => by unfold nodict; rfl
  | .str _, _ => by unfold nodict; rfl
  | .tuple ds, h => by unfold nodict; unfold PyData.canLay0 at h; exact nodicts_of_lay h
  | .list ds, h => by unfold nodict; unfold PyData.canLay0 at h; exact nodicts_of_lay h
  | .dict _, h => by unfold PyData.canLay0 at h; cases h
theorem nodicts_of_lay : ∀ {ds : List D}, PyData.canLayAll0 ds = true → nodicts ds = true
  | [], _ => by unfold nodicts; rfl
  | d :: ds, h => by
    unfold nodicts
    unfold PyData.canLayAll0 at h
    obtain ⟨h1, h2⟩ := Bool.and_eq_true_iff.mp h
    rw [nodict_of_lay h1, nodicts_of_lay h2]; rfl
end
theorem nodict_of_shaped {d : D} (h : SeqAt.shaped d = true) : nodict d = true := nodict_of_lay (SeqAt.canLay_of_shaped h)

theorem intsOf_some : ∀ {ds : List D} {ns : List Int}, intsOf ds = some ns → ds = ns.map PyData.int
  | [], ns, h => by unfold intsOf at h; cases h; rfl
  | d :: ds, ns, h => by
    cases d <;> unfold intsOf at h <;> try (cases h; done)
    obtain ⟨ms, e, rfl⟩ := Option.map_eq_some_iff.mp h
    rw [intsOf_some e]; rfl
theorem intsOf_map : ∀ ns : List Int, intsOf (ns.map PyData.int) = some ns
  | [] => rfl
  | n :: ns => by
    show (intsOf (ns.map PyData.int)).map (n :: ·) = some (n :: ns)
    rw [intsOf_map ns]; rfl
theorem boolsOf_some : ∀ {ds : List D} {ns : List Bool}, boolsOf ds = some ns → ds = ns.map PyData.bool
  | [], ns, h => by unfold boolsOf at h; cases h; rfl
  | d :: ds, ns, h => by
    cases d <;> unfold boolsOf at h <;> try (cases h; done)
    obtain ⟨ms, e, rfl⟩ := Option.map_eq_some_iff.mp h
    rw [boolsOf_some e]; rfl
theorem boolsOf_map : ∀ ns : List Bool, boolsOf (ns.map PyData.bool) = some ns
  | [] => rfl
  | n :: ns => by
    show (boolsOf (ns.map PyData.bool)).map (n :: ·) = some (n :: ns)
    rw [boolsOf_map ns]; rfl

theorem lexAt_shift {e r : Nat → Bool} {z : Bool} : ∀ (k i : Nat), Ob.lexAt e r z (i + 1) k = Ob.lexAt (fun j => e (j + 1)) (fun j => r (j + 1)) z i k
  | 0, _ => rfl
  | k + 1, i => by rw [Ob.lexAt_succ, Ob.lexAt_succ, lexAt_shift k (i + 1)]
/-- an order of tuples by that of ints -/
theorem lex_ints (r : Int → Int → Bool) (zl : Nat → Nat → Bool) (b : List Int → List Int → Bool)
    (h0 : ∀ ms, b [] ms = zl 0 ms.length) (h1 : ∀ n ns, b (n :: ns) [] = zl (ns.length + 1) 0) (h2 : ∀ n ns m ms, b (n :: ns) (m :: ms) = if n = m then b ns ms else r n m)
    (hz : ∀ n m, zl (n + 1) (m + 1) = zl n m) : ∀ (ns ms : List Int),
      Ob.lexAt (fun j => decide (ns.getD j 0 = ms.getD j 0)) (fun j => r (ns.getD j 0) (ms.getD j 0)) (zl ns.length ms.length) 0 (min ns.length ms.length) = b ns ms
  | [], ms => by rw [List.length_nil, Nat.zero_min, Ob.lexAt_zero, h0]
  | n :: ns, [] => by rw [List.length_nil, Nat.min_zero, Ob.lexAt_zero, h1]; rfl
  | n :: ns, m :: ms => by
    rw [List.length_cons, List.length_cons, Nat.succ_min_succ, Ob.lexAt_succ, lexAt_shift, h2, hz]
    have ih := lex_ints r zl b h0 h1 h2 hz ns ms
    simp only [List.getD_cons_zero, List.getD_cons_succ] at ih ⊢
    by_cases e : n = m
    · rw [if_pos (decide_eq_true e), if_pos e]
      exact ih
    · rw [if_neg (by simp [e]), if_neg e]
/-- two tuples of ints, by an order -/
theorem tup_ints (hu : X.A.units < cLine) {op : CmpOp} {a b : Addr} {ns ms : List Int} {Q : VK} {r : Int → Int → Bool} {z : Nat → Nat → Bool} {c : Bool} (I : Inv X pins σ H s) (ha : SqT X.K H a (ns.map V.int)) (hb : SqT X.K H b (ms.map V.int))
    (rule : ∀ {its its2 : Array Value} {e r' : Nat → Bool}, s.heap.IsTuple a its → s.heap.IsTuple b its2 → (∀ j (h1 : j < its.size) (h2 : j < its2.size), SeqAt.EqAt X.A.in1 s its[j] its2[j] (e j)) →
      (∀ j (h1 : j < its.size) (h2 : j < its2.size), e j = false → Ob.RcOp op X.A.in1 s its[j] its2[j] (r' j)) → Ob.RcOp op X.A s (.ref a) (.ref b) (Ob.lexAt e r' (z its.size its2.size) 0 (min its.size its2.size)))
    (one : ∀ (i j : Int) (t u : Tok), Ob.RcOp op X.A.in1 s (.int i t) (.int j u) (r i j)) (cmp : ∀ v u, compareOp op v u = richCompare op v u)
    (hc : Ob.lexAt (fun j => decide (ns.getD j 0 = ms.getD j 0)) (fun j => r (ns.getD j 0) (ms.getD j 0)) (z ns.length ms.length) 0 (min ns.length ms.length) = c) (q : Q (.bl c) H) :
    wpAny (model X.prog X.w) X.A (compareOp op (.ref a) (.ref b)) (EP X pins σ Q) X.xe s := by
  obtain ⟨its, r1, p1, _⟩ := I.tuple ha
  obtain ⟨its2, r2, p2, _⟩ := I.tuple hb
  have i1 : IntsAre its ns := Vals.ints r1
  have i2 : IntsAre its2 ms := Vals.ints r2
  have e1 : its.toArray.size = ns.length := by rw [List.size_toArray, i1.length]
  have e2 : its2.toArray.size = ms.length := by rw [List.size_toArray, i2.length]
  have at1 : ∀ j (h1 : j < its.toArray.size), ∃ t, its.toArray[j] = .int (ns.getD j 0) t := fun j h1 => PyProof.Rows.IntsAre.int_at i1 _ _ (by simp at h1; simp [h1])
  have at2 : ∀ j (h1 : j < its2.toArray.size), ∃ t, its2.toArray[j] = .int (ms.getD j 0) t := fun j h1 => PyProof.Rows.IntsAre.int_at i2 _ _ (by simp at h1; simp [h1])
  have R := rule (its := its.toArray) (its2 := its2.toArray) (e := fun j => decide (ns.getD j 0 = ms.getD j 0)) (r' := fun j => r (ns.getD j 0) (ms.getD j 0)) p1 p2 (fun j h1 h2 => by
    obtain ⟨t, et⟩ := at1 j h1
    obtain ⟨t', et'⟩ := at2 j h2
    rw [et, et', show decide (ns.getD j 0 = ms.getD j 0) = (ns.getD j 0 == ms.getD j 0) from by rw [Bool.beq_eq_decide_eq]]
    exact SeqAt.EqAt.int_int _ _ _ _) (fun j h1 h2 _ => by
    obtain ⟨t, et⟩ := at1 j h1
    obtain ⟨t', et'⟩ := at2 j h2
    rw [et, et']
    exact one _ _ _ _)
  rw [e1, e2, hc] at R
  rw [cmp]
  exact R X.prog X.w X.xe (EP X pins σ Q) ⟨.bl _, H, I, rfl, q⟩

/-- the first place that differs, as the order of lists of ints -/
theorem first_lex : ∀ ns ms : List Int, SeqAt.firstLt (fun j => decide (ns.getD j 0 = ms.getD j 0)) (fun j => decide (ns.getD j 0 < ms.getD j 0)) (decide (ns.length < ms.length)) (List.range (min ns.length ms.length)) = HT.lexLt ns ms
  | [], [] => rfl
  | [], m :: ms => by simp [SeqAt.firstLt, HT.lexLt]
  | n :: ns, [] => by simp [SeqAt.firstLt, HT.lexLt]
  | n :: ns, m :: ms => by
    have ih := first_lex ns ms
    have fm : ∀ (e r : Nat → Bool) (fin : Bool) (f : Nat → Nat) (l : List Nat), SeqAt.firstLt e r fin (l.map f) = SeqAt.firstLt (fun j => e (f j)) (fun j => r (f j)) fin l := fun e r fin f l => by
      induction l with
      | nil => rfl
      | cons j l ih =>
        show (if e (f j) = true then SeqAt.firstLt e r fin (l.map f) else r (f j)) = (if e (f j) = true then SeqAt.firstLt (fun j => e (f j)) (fun j => r (f j)) fin l else r (f j))
        rw [ih]
    have hm : min (n :: ns).length (m :: ms).length = min ns.length ms.length + 1 := by simp only [List.length_cons]; omega
    rw [hm, List.range_succ_eq_map]
    show (if decide (n = m) = true then SeqAt.firstLt _ _ _ ((List.range (min ns.length ms.length)).map Nat.succ) else decide (n < m)) = _
    rw [fm, HT.lexLt_cons]
    have hd : decide ((n :: ns).length < (m :: ms).length) = decide (ns.length < ms.length) := by rw [decide_eq_decide]; simp only [List.length_cons]; omega
    rw [hd]
    by_cases h : n = m
    · rw [if_pos (decide_eq_true h), if_pos h]
      exact ih
    · rw [if_neg (by simp [h]), if_neg h]
/-- two lists of ints -/
theorem lists_lt (hu : X.A.units < cLine) {a b : Addr} {ns ms : List Int} {Q : VK} {c : Bool} (I : Inv X pins σ H s) (ha : SqL X.K H a (ns.map V.int)) (hb : SqL X.K H b (ms.map V.int)) (hc : HT.lexLt ns ms = c) (q : Q (.bl c) H) :
    wpAny (model X.prog X.w) X.A (compareOp .Lt (.ref a) (.ref b)) (EP X pins σ Q) X.xe s := by
  obtain ⟨its, r1, p1, _⟩ := I.list ha
  obtain ⟨its2, r2, p2, _⟩ := I.list hb
  have i1 : IntsAre its ns := Vals.ints r1
  have i2 : IntsAre its2 ms := Vals.ints r2
  have e1 : its.toArray.size = ns.length := by rw [List.size_toArray, i1.length]
  have e2 : its2.toArray.size = ms.length := by rw [List.size_toArray, i2.length]
  have at1 : ∀ j (h1 : j < its.toArray.size), ∃ t, its.toArray[j] = .int (ns.getD j 0) t := fun j h1 => PyProof.Rows.IntsAre.int_at i1 _ _ (by simp at h1; simp [h1])
  have at2 : ∀ j (h1 : j < its2.toArray.size), ∃ t, its2.toArray[j] = .int (ms.getD j 0) t := fun j h1 => PyProof.Rows.IntsAre.int_at i2 _ _ (by simp at h1; simp [h1])
  have R := SeqAt.RcLt.lists (A := X.A) (e := fun j => decide (ns.getD j 0 = ms.getD j 0)) (r := fun j => decide (ns.getD j 0 < ms.getD j 0)) p1.isList p2.isList hu (fun j h1 h2 => by
    obtain ⟨t, et⟩ := at1 j h1
    obtain ⟨t', et'⟩ := at2 j h2
    rw [et, et', show decide (ns.getD j 0 = ms.getD j 0) = (ns.getD j 0 == ms.getD j 0) from by rw [Bool.beq_eq_decide_eq]]
    exact SeqAt.EqAt.int_int _ _ _ _) (fun j h1 h2 _ => by
    obtain ⟨t, et⟩ := at1 j h1
    obtain ⟨t', et'⟩ := at2 j h2
    rw [et, et']
    exact fun _ _ _ _ h => PyProof.Rows.lt_int h)
  rw [e1, e2, first_lex, hc] at R
  exact R X.prog X.w X.xe (EP X pins σ Q) ⟨.bl _, H, I, rfl, q⟩
theorem flat_ints (ms : List Int) : (ms.map V.int).all flatV = true := List.all_eq_true.mpr fun x hx => by
  obtain ⟨i, _, rfl⟩ := List.mem_map.mp hx
  rfl
theorem inV_ints (i : Int) (ms : List Int) : inV (.int i) (ms.map V.int) = decide (i ∈ ms) := by
  unfold inV
  rw [Bool.eq_iff_iff, List.any_eq_true, decide_eq_true_eq]
  constructor
  · rintro ⟨v, hv, e⟩
    obtain ⟨j, hj, rfl⟩ := List.mem_map.mp hv
    have : j = i := by simpa [eqV] using e
    exact this ▸ hj
  · exact fun h => ⟨_, List.mem_map.mpr ⟨i, h, rfl⟩, by simp [eqV]⟩
/-- a comparison over data -/
def rCmp (K : Frag) (o : C2) : R2 := fun x y H Q => ∃ (P : Addr → Prop) (dx dy : D) (r : Bool), Rep K H P dx x ∧ Rep K H P dy y ∧ cmpD o dx dy = some r ∧ Q (.bl r) H
theorem op_cmp (hu : X.A.units + 65 < cLine) (o : C2) : OpR X (compareOp (cOf o)) (rCmp X.K o) := by
  intro pins s σ H x y v u Q I rx ry h
  obtain ⟨P, dx, dy, r, hx, hy, e, q⟩ := h
  have tups : ∀ {xs ys : List D} {f : List Int → List Int → Bool}, ((intsOf xs).bind fun a => (intsOf ys).map fun b => f a b) = some r → dx = .tuple xs → dy = .tuple ys →
      ∃ a b ns ms, x = .ref a ∧ y = .ref b ∧ SqT X.K H a (ns.map V.int) ∧ SqT X.K H b (ms.map V.int) ∧ f ns ms = r := fun {xs ys f} e1 e2 e3 => by
    subst e2; subst e3
    obtain ⟨ns, h1, h2⟩ := Option.bind_eq_some_iff.mp e1
    obtain ⟨ms, h3, h4⟩ := Option.map_eq_some_iff.mp h2
    obtain ⟨a, vs, rfl, la, ra⟩ := hx.tuple_inv
    obtain ⟨b, ws, rfl, lb, rb⟩ := hy.tuple_inv
    rw [intsOf_some h1] at ra
    rw [intsOf_some h3] at rb
    have e4 := Rep.ints ra
    have e5 := Rep.ints rb
    subst e4; subst e5
    exact ⟨a, b, ns, ms, rfl, rfl, la.sq, lb.sq, h4⟩
  have hu0 : X.A.units < cLine := by omega
  cases o
  case is =>
    cases dx <;> cases dy <;> simp only [cmpD, reduceCtorEq, Option.some.injEq] at e
    subst e
    exact op_isBl pins s σ H x y v u Q I rx ry ⟨_, _, hx.bool_inv, hy.bool_inv, q⟩
  case nis =>
    cases dx <;> cases dy <;> simp only [cmpD, reduceCtorEq, Option.some.injEq] at e
    subst e
    exact op_notBl pins s σ H x y v u Q I rx ry ⟨_, _, hx.bool_inv, hy.bool_inv, q⟩
  case eq =>
    simp only [cmpD] at e
    split at e
    · rename_i hs
      cases e
      exact op_eqD (by omega) pins s σ H x y v u Q I rx ry ⟨dx, dy, hx.dp (nodict_of_shaped hs.1), hy.dp (nodict_of_shaped hs.2), hs.1, hs.2, q⟩
    · cases e
  case ne =>
    simp only [cmpD] at e
    split at e
    · rename_i hs
      cases e
      exact op_neD (by omega) pins s σ H x y v u Q I rx ry ⟨dx, dy, hx.dp (nodict_of_shaped hs.1), hy.dp (nodict_of_shaped hs.2), hs.1, hs.2, q⟩
    · cases e
  case inn =>
    cases dy <;> simp only [cmpD, reduceCtorEq] at e
    · split at e
      · rename_i hs
        cases e
        exact op_inD hu pins s σ H x y v u Q I rx ry ⟨dx, _, hx.dp (nodict_of_shaped hs.1), hy.dp (nodict_of_shaped hs.2), hs.1, hs.2, q⟩
      · cases e
    · cases dx <;> simp only [cmpD, reduceCtorEq] at e
      obtain ⟨ms, h1, h2⟩ := Option.map_eq_some_iff.mp e
      obtain ⟨b, ws, rfl, lb, rb⟩ := hy.tuple_inv
      rw [intsOf_some h1] at rb
      have e5 := Rep.ints rb
      subst e5
      rw [hx.int_inv] at rx
      refine op_in_seq pins s σ H _ _ v u Q I rx ry ⟨b, _, rfl, .inr lb.sq, rfl, flat_ints ms, ?_⟩
      rw [← h2] at q
      rw [if_neg Bool.false_ne_true, inV_ints]
      exact q
  case nin =>
    cases dy <;> simp only [cmpD, reduceCtorEq] at e
    · split at e
      · rename_i hs
        cases e
        exact op_notInD hu pins s σ H x y v u Q I rx ry ⟨dx, _, hx.dp (nodict_of_shaped hs.1), hy.dp (nodict_of_shaped hs.2), hs.1, hs.2, q⟩
      · cases e
    · cases dx <;> simp only [cmpD, reduceCtorEq] at e
      obtain ⟨ms, h1, h2⟩ := Option.map_eq_some_iff.mp e
      obtain ⟨b, ws, rfl, lb, rb⟩ := hy.tuple_inv
      rw [intsOf_some h1] at rb
      have e5 := Rep.ints rb
      subst e5
      rw [hx.int_inv] at rx
      refine op_notIn_seq pins s σ H _ _ v u Q I rx ry ⟨b, _, rfl, .inr lb.sq, rfl, flat_ints ms, ?_⟩
      rw [← h2] at q
      rw [if_pos rfl, inV_ints]
      exact q
  case lt =>
    cases dx <;> cases dy <;> simp only [cmpD, reduceCtorEq] at e
    · cases e
      rw [hx.int_inv] at rx; rw [hy.int_inv] at ry
      exact op_lt pins s σ H _ _ v u Q I rx ry ⟨_, _, rfl, rfl, q⟩
    · first
      | (obtain ⟨a, b, ns, ms, rfl, rfl, ha, hb, e4⟩ := tups e rfl rfl
         exact op_ltT hu0 pins s σ H _ _ v u Q I rx ry ⟨a, b, ns, ms, rfl, rfl, ha, hb, by rw [e4]; exact q⟩)
      | (obtain ⟨ns, h1, h2⟩ := Option.bind_eq_some_iff.mp e
         obtain ⟨ms, h3, h4⟩ := Option.map_eq_some_iff.mp h2
         obtain ⟨a, vs, rfl, la, ra⟩ := hx.list_inv
         obtain ⟨b, ws, rfl, lb, rb⟩ := hy.list_inv
         rw [intsOf_some h1] at ra
         rw [intsOf_some h3] at rb
         have e4 := Rep.ints ra
         have e5 := Rep.ints rb
         subst e4; subst e5
         cases rx; cases ry
         exact lists_lt hu0 I la.sq lb.sq h4 q)
    · first
      | (obtain ⟨a, b, ns, ms, rfl, rfl, ha, hb, e4⟩ := tups e rfl rfl
         exact op_ltT hu0 pins s σ H _ _ v u Q I rx ry ⟨a, b, ns, ms, rfl, rfl, ha, hb, by rw [e4]; exact q⟩)
      | (obtain ⟨ns, h1, h2⟩ := Option.bind_eq_some_iff.mp e
         obtain ⟨ms, h3, h4⟩ := Option.map_eq_some_iff.mp h2
         obtain ⟨a, vs, rfl, la, ra⟩ := hx.list_inv
         obtain ⟨b, ws, rfl, lb, rb⟩ := hy.list_inv
         rw [intsOf_some h1] at ra
         rw [intsOf_some h3] at rb
         have e4 := Rep.ints ra
         have e5 := Rep.ints rb
         subst e4; subst e5
         cases rx; cases ry
         exact lists_lt hu0 I la.sq lb.sq h4 q)
  case le =>
    cases dx <;> cases dy <;> simp only [cmpD, reduceCtorEq] at e
    · cases e
      rw [hx.int_inv] at rx; rw [hy.int_inv] at ry
      exact op_le pins s σ H _ _ v u Q I rx ry ⟨_, _, rfl, rfl, q⟩
    · obtain ⟨a, b, ns, ms, rfl, rfl, ha, hb, e4⟩ := tups (f := fun a b => !HT.lexLt b a) e rfl rfl
      cases rx; cases ry
      refine tup_ints (z := fun n m => decide (n ≤ m)) (r := fun i j => decide (i ≤ j)) hu0 I ha hb (fun h1 h2 h3 h4 => Ob.RcOp.tuples_le h1 h2 hu0 h3 h4) (fun i j t u => Ob.RcOp.le_int i j t u) (fun _ _ => rfl) ?_ q
      refine (lex_ints (fun i j => decide (i ≤ j)) (fun n m => decide (n ≤ m)) (fun a b => !HT.lexLt b a) (fun ms => ?_) (fun n ns => ?_) (fun n ns m ms => ?_) (fun n m => ?_) ns ms).trans e4
      · cases ms <;> simp [HT.lexLt]
      · simp [HT.lexLt]
      · rw [HT.lexLt_cons]
        by_cases h : n = m
        · rw [if_pos h.symm, if_pos h]
        · rw [if_neg (Ne.symm h), if_neg h]
          rw [← decide_not]
          exact decide_eq_decide.mpr (by omega)
      · simp
  case gt =>
    cases dx <;> cases dy <;> simp only [cmpD, reduceCtorEq] at e
    · cases e
      rw [hx.int_inv] at rx; rw [hy.int_inv] at ry
      exact op_gt pins s σ H _ _ v u Q I rx ry ⟨_, _, rfl, rfl, q⟩
    · obtain ⟨a, b, ns, ms, rfl, rfl, ha, hb, e4⟩ := tups (f := fun a b => HT.lexLt b a) e rfl rfl
      cases rx; cases ry
      refine tup_ints (z := fun n m => decide (n > m)) (r := fun i j => decide (j < i)) hu0 I ha hb (fun h1 h2 h3 h4 => Ob.RcOp.tuples_gt h1 h2 hu0 h3 h4) (fun i j t u => Ob.RcOp.gt_int i j t u) (fun _ _ => rfl) ?_ q
      refine (lex_ints (fun i j => decide (j < i)) (fun n m => decide (n > m)) (fun a b => HT.lexLt b a) (fun ms => ?_) (fun n ns => ?_) (fun n ns m ms => ?_) (fun n m => ?_) ns ms).trans e4
      · cases ms <;> simp [HT.lexLt]
      · simp [HT.lexLt]
      · rw [HT.lexLt_cons]
        by_cases h : n = m
        · rw [if_pos h.symm, if_pos h]
        · rw [if_neg (Ne.symm h), if_neg h]
      · simp
  case ge =>
    cases dx <;> cases dy <;> simp only [cmpD, reduceCtorEq] at e
    · cases e
      rw [hx.int_inv] at rx; rw [hy.int_inv] at ry
      exact op_ge pins s σ H _ _ v u Q I rx ry ⟨_, _, rfl, rfl, q⟩
    · obtain ⟨a, b, ns, ms, rfl, rfl, ha, hb, e4⟩ := tups (f := fun a b => !HT.lexLt a b) e rfl rfl
      cases rx; cases ry
      refine tup_ints (z := fun n m => decide (n ≥ m)) (r := fun i j => decide (j ≤ i)) hu0 I ha hb (fun h1 h2 h3 h4 => Ob.RcOp.tuples_ge h1 h2 hu0 h3 h4) (fun i j t u => Ob.RcOp.ge_int i j t u) (fun _ _ => rfl) ?_ q
      refine (lex_ints (fun i j => decide (j ≤ i)) (fun n m => decide (n ≥ m)) (fun a b => !HT.lexLt a b) (fun ms => ?_) (fun n ns => ?_) (fun n ns m ms => ?_) (fun n m => ?_) ns ms).trans e4
      · cases ms <;> simp [HT.lexLt]
      · simp [HT.lexLt]
      · rw [HT.lexLt_cons]
        by_cases h : n = m
        · rw [if_pos h, if_pos h]
        · rw [if_neg h, if_neg h]
          rw [← decide_not]
          exact decide_eq_decide.mpr (by omega)
      · simp
end
end DL

/-! DL5: truth, items, slices, built-in functions over data. -/
namespace DL
open PySem PySem.Spec PyProof.Rows L2
section
variable {X : Cx} {pins : List (Addr × Obj)} {σ : L2.St} {H : Hp} {s : Shared} {P : Addr → Prop} {K : Frag}

theorem empty_reps {ds : List D} {xs : List V} (r : Reps K H P ds xs) : xs.isEmpty = ds.isEmpty := by
  have h := r.length
  cases ds <;> cases xs <;> first | rfl | (simp at h)
theorem truth_ok {d : D} {v : V} {b : Bool} (h : truthD d = some b) (r : Rep K H P d v) : TruV K v H b := by
  cases d with
  | none => rw [r.non_inv]; cases h; rfl
  | bool c => rw [r.bool_inv]; cases h; rfl
  | int i => rw [r.int_inv]; cases h; rfl
  | str x =>
    rw [r.str_inv]
    simp only [truthD] at h
    split at h
    · rename_i hl; cases h; exact ⟨hl, rfl⟩
    · cases h
  | list ds =>
    cases h
    obtain ⟨a, xs, rfl, l, q⟩ := r.list_inv
    exact .inl ⟨xs, l.sq, by rw [empty_reps q]⟩
  | tuple ds =>
    cases h
    obtain ⟨a, xs, rfl, l, q⟩ := r.tuple_inv
    exact .inr (.inl ⟨xs, l.sq, by rw [empty_reps q]⟩)
  | dict _ => cases h

theorem atI_reps {ds : List D} {xs : List V} {i : Int} {d : D} (r : Reps K H P ds xs) (h : atI ds i = some d) : ∃ v, atI xs i = some v ∧ Rep K H P d v := by
  unfold atI at h ⊢
  rw [r.length]
  obtain ⟨j, h1, h2⟩ := Option.bind_eq_some_iff.mp h
  obtain ⟨v, h3, h4⟩ := r.get h2
  exact ⟨v, Option.bind_eq_some_iff.mpr ⟨j, h1, h3⟩, h4⟩
/-- an item by data -/
theorem idx_ok {dx dy d : D} {x y : V} (hx : Rep K H P dx x) (hy : Rep K H P dy y) (h : idxD dx dy = some d) : ∃ v, Rep K H P d v ∧ ∀ Q : VK, Q v H → rIx K x y H Q := by
  cases dx <;> cases dy <;> simp only [idxD, reduceCtorEq] at h
  case list.int ds i =>
    obtain ⟨a, xs, rfl, l, q⟩ := hx.list_inv
    rw [hy.int_inv]
    obtain ⟨v, h1, h2⟩ := atI_reps q h
    exact ⟨v, h2, fun Q hQ => .inl ⟨a, xs, i, v, rfl, rfl, l.sq, h1, hQ⟩⟩
  case tuple.int ds i =>
    obtain ⟨a, xs, rfl, l, q⟩ := hx.tuple_inv
    rw [hy.int_inv]
    obtain ⟨v, h1, h2⟩ := atI_reps q h
    exact ⟨v, h2, fun Q hQ => .inr (.inl ⟨a, xs, i, v, rfl, rfl, l.sq, h1, hQ⟩)⟩

theorem cut_reps {ds : List D} {xs : List V} {lo hi : Option Int} (r : Reps K H P ds xs) : Reps K H P (cutD ds lo hi) (cutV xs lo hi) := by
  unfold cutD cutV
  rw [r.length]
  exact (r.drop _).take _

/-- what is wanted of a built-in's answer: a new list; any other data -/
def rBi (K : Frag) (b : Bi) : List V → Hp → VK → Prop := fun vs H Q => ∃ (P : Addr → Prop) (ds : List D) (t : Bool) (r : D), Reps K H P ds vs ∧ biD b ds = some (t, r) ∧
  (t = true → ∀ es xs, r = .list es → Reps K H P es xs → NewL H xs Q) ∧
  (t = false → ∀ v H', (∀ a o, H a = some o → H' a = some o) → Rep K H' (fun a => P a ∨ H a = none) r v → Q v H')

theorem Reps.one {d : D} {vs : List V} (r : Reps K H P [d] vs) : ∃ v, vs = [v] ∧ Rep K H P d v := by
  obtain ⟨x, t, rfl, a, q⟩ := r.cons_inv
  rw [q.nil_inv]
  exact ⟨x, rfl, a⟩
theorem Reps.two {d e : D} {vs : List V} (r : Reps K H P [d, e] vs) : ∃ v w, vs = [v, w] ∧ Rep K H P d v ∧ Rep K H P e w := by
  obtain ⟨x, t, rfl, a, q⟩ := r.cons_inv
  obtain ⟨w, rfl, b⟩ := q.one
  exact ⟨x, w, rfl, a, b⟩
theorem Rep.int_ {P' : Addr → Prop} {i : Int} : Rep K H P' (.int i) (.int i) := by unfold Rep; rfl
theorem Rep.bool_ {P' : Addr → Prop} {i : Bool} : Rep K H P' (.bool i) (.bl i) := by unfold Rep; rfl
theorem Rep.str_ {P' : Addr → Prop} {i : Str} : Rep K H P' (.str i) (.str i) := by unfold Rep; rfl
theorem Rep.non_ {P' : Addr → Prop} : Rep K H P' .none .non := by unfold Rep; rfl

/-- a value's type -/
def tyN : D → String
  | .none => "NoneType"
  | .bool _ => "bool"
  | .int _ => "int"
  | .str _ => "str"
  | .list _ => "list"
  | .tuple _ => "tuple"
  | .dict _ => "dict"
theorem ty_of {d : D} {x : V} (h : Rep K H P d x) : TyX K H x (.type (tyN d)) := by
  cases d with
  | none => rw [h.non_inv]; exact .base .non
  | bool b => rw [h.bool_inv]; exact .base (.bl b)
  | int i => rw [h.int_inv]; exact .base (.int i)
  | str x => rw [h.str_inv]; exact .base (.str x)
  | list ds =>
    obtain ⟨a, xs, rfl, l, q⟩ := h.list_inv
    rcases l with ⟨e | ⟨o, e⟩, _⟩ | ⟨its, n, e, _⟩
    · exact .base (.lst e)
    · exact .base (.frz e)
    · exact .kList e rfl
  | tuple ds =>
    obtain ⟨a, xs, rfl, l, q⟩ := h.tuple_inv
    rcases l with ⟨e, _⟩ | ⟨o, its, n, e, c, _⟩
    · exact .base (.tup e)
    · exact .kTuple e c
  | dict kvs =>
    unfold Rep at h
    obtain ⟨a, ks, rfl, ⟨⟨l, e, _⟩ | ⟨l, e, _⟩, _⟩, _⟩ := h
    · exact .base (.dK e)
    · exact .base (.dT e)

mutual
theorem hasDict_of : ∀ {d : D}, nodict d = true → d.hasDict = false
  | .none, _ => by unfold PyData.hasDict; rfl
  | .bool _, _ => by unfold PyData.hasDict; rfl
  | .int _, _ => by unfold PyData.hasDict; rfl
  | .str _, _ => by unfold PyData.hasDict; rfl
  | .tuple ds, h => by unfold PyData.hasDict; unfold nodict at h; exact hasDicts_of h
  | .list ds, h => by unfold PyData.hasDict; unfold nodict at h; exact hasDicts_of h
  | .dict _, h => by unfold nodict at h; cases h
theorem hasDicts_of : ∀ {ds : List D}, nodicts ds = true → PyData.hasDictAll ds = false
  | [], _ => by unfold PyData.hasDictAll; rfl
  | d :: ds, h => by
    unfold PyData.hasDictAll
    unfold nodicts at h
    obtain ⟨h1, h2⟩ := Bool.and_eq_true_iff.mp h
    rw [hasDict_of h1, hasDicts_of h2]; rfl
end
/-- the class that an isinstance asks -/
def isT : Bi → Option String
  | .isIntT => some "int"
  | .isBoolT => some "bool"
  | .isListT => some "list"
  | .isTupT => some "tuple"
  | .isStrT => some "str"
  | _ => none
theorem isT_ok {b : Bi} {n : String} {d r : D} {t : Bool} (hb : isT b = some n) (h : biD b [d] = some (t, r)) : ∃ k, r = .bool k ∧ t = false ∧ kitB (tyN d) n = some k := by
  cases b <;> simp only [isT, reduceCtorEq, Option.some.injEq] at hb <;> subst hb <;> cases d <;> simp only [biD, Option.some.injEq, Prod.mk.injEq] at h <;> obtain ⟨rfl, rfl⟩ := h <;> exact ⟨_, rfl, rfl, by simp only [tyN]; decide +kernel⟩

/-- a built-in by its name -/
def biFn : Bi → Value
  | .len => .builtin "len"
  | .abs => .builtin "abs"
  | .int => .type "int"
  | .max => .builtin "max"
  | .min => .builtin "min"
  | .sum => .builtin "sum"
  | .any => .builtin "any"
  | .all => .builtin "all"
  | .list => .type "list"
  | .tuple => .type "tuple"
  | .sorted => .builtin "sorted"
  | .divmod => .builtin "divmod"
  | .repr => .builtin "repr"
  | .str => .type "str"
  | _ => .none

theorem grown {Q : VK} {H' : Hp} {v : V} {r : D} (q : ∀ v H', (∀ a o, H a = some o → H' a = some o) → Rep K H' (fun a => P a ∨ H a = none) r v → Q v H') (h : Rep K H (fun a => P a ∨ H a = none) r v) : Q v H :=
  q v H (fun _ _ e => e) h

theorem maxI_ok : ∀ (r : List Int) (n : Int), (maxI n r = n ∨ maxI n r ∈ r) ∧ n ≤ maxI n r ∧ ∀ y ∈ r, y ≤ maxI n r
  | [], n => ⟨.inl rfl, Int.le_refl _, fun y h => by cases h⟩
  | m :: r, n => by
    obtain ⟨h1, h2, h3⟩ := maxI_ok r (if m > n then m else n)
    show (maxI (if m > n then m else n) r = n ∨ maxI (if m > n then m else n) r ∈ m :: r) ∧ n ≤ maxI (if m > n then m else n) r ∧ ∀ y ∈ m :: r, y ≤ maxI (if m > n then m else n) r
    generalize maxI (if m > n then m else n) r = z at h1 h2 h3
    by_cases hm : m > n
    · rw [if_pos hm] at h1 h2
      exact ⟨.inr (h1.elim (fun e => by rw [e]; exact List.mem_cons_self) fun e => List.mem_cons_of_mem _ e), by omega, fun y hy => (List.mem_cons.mp hy).elim (fun e => by rw [e]; exact h2) (h3 y)⟩
    · rw [if_neg hm] at h1 h2
      exact ⟨h1.imp (fun e => e) fun e => List.mem_cons_of_mem _ e, h2, fun y hy => (List.mem_cons.mp hy).elim (fun e => by rw [e]; omega) (h3 y)⟩
theorem minI_ok : ∀ (r : List Int) (n : Int), (minI n r = n ∨ minI n r ∈ r) ∧ minI n r ≤ n ∧ ∀ y ∈ r, minI n r ≤ y
  | [], n => ⟨.inl rfl, Int.le_refl _, fun y h => by cases h⟩
  | m :: r, n => by
    obtain ⟨h1, h2, h3⟩ := minI_ok r (if m < n then m else n)
    show (minI (if m < n then m else n) r = n ∨ minI (if m < n then m else n) r ∈ m :: r) ∧ minI (if m < n then m else n) r ≤ n ∧ ∀ y ∈ m :: r, minI (if m < n then m else n) r ≤ y
    generalize minI (if m < n then m else n) r = z at h1 h2 h3
    by_cases hm : m < n
    · rw [if_pos hm] at h1 h2
      exact ⟨.inr (h1.elim (fun e => by rw [e]; exact List.mem_cons_self) fun e => List.mem_cons_of_mem _ e), by omega, fun y hy => (List.mem_cons.mp hy).elim (fun e => by rw [e]; exact h2) (h3 y)⟩
    · rw [if_neg hm] at h1 h2
      exact ⟨h1.imp (fun e => e) fun e => List.mem_cons_of_mem _ e, h2, fun y hy => (List.mem_cons.mp hy).elim (fun e => by rw [e]; omega) (h3 y)⟩
theorem pairsOf_some : ∀ {ds : List D} {ps : List (Int × Int)}, pairsOf ds = some ps → ds = ps.map pD
  | [], _, h => by cases h; rfl
  | .tuple [.int a, .int b] :: r, _, h => by
    obtain ⟨l, h1, rfl⟩ := Option.map_eq_some_iff.mp (show (pairsOf r).map ((a, b) :: ·) = some _ from h)
    rw [pairsOf_some h1]; rfl
theorem nodict_pair (p : Int × Int) : nodict (pD p) = true := rfl
theorem nodicts_pairs : ∀ ps : List (Int × Int), nodicts (ps.map pD) = true
  | [] => rfl
  | p :: ps => by
    rw [List.map_cons]
    unfold nodicts
    rw [nodicts_pairs ps]; rfl
theorem depth_pairs : ∀ ps : List (Int × Int), PyData.depthAll (ps.map pD) ≤ 2
  | [] => Nat.zero_le _
  | p :: ps => by
    rw [List.map_cons]
    unfold PyData.depthAll
    have := depth_pairs ps
    have : (pD p).depth ≤ 2 := by
      unfold pD
      simp [PyData.depth, PyData.depthAll]
    omega
theorem alike_pairs (ps : List (Int × Int)) : PySem.W.AlikeAll (ps.map pD) := by
  refine ⟨fun x hx y hy => ?_, fun x hx => ?_⟩
  · obtain ⟨p, _, rfl⟩ := List.mem_map.mp hx
    obtain ⟨q, _, rfl⟩ := List.mem_map.mp hy
    simp [pD, PySem.W.alike, PySem.W.alikeAll]
  · obtain ⟨p, _, rfl⟩ := List.mem_map.mp hx
    exact fun z => by cases z
theorem minD_pairs (p : Int × Int) (ps : List (Int × Int)) : PySem.W.minD (pD p) (ps.map pD) = pD (minP p ps) := by
  unfold PySem.W.minD minP
  induction ps generalizing p with
  | nil => rfl
  | cons q r ih =>
    rw [List.map_cons, List.foldl_cons, List.foldl_cons]
    have e : (if PySem.W.dataLt (pD q) (pD p) = true then pD q else pD p) = pD (if lt2P q p = true then q else p) := by
      unfold pD lt2P
      rw [PySem.W.dataLt_ii]
      split <;> rfl
    rw [e]
    exact ih _
theorem nodicts_is : ∀ ns : List Int, nodicts (ns.map .int) = true
  | [] => rfl
  | n :: ns => by
    rw [List.map_cons]
    unfold nodicts
    rw [nodicts_is ns]; rfl
theorem depth_is : ∀ ns : List Int, PyData.depthAll (ns.map .int) ≤ 1
  | [] => Nat.zero_le _
  | n :: ns => by
    rw [List.map_cons]
    unfold PyData.depthAll
    have := depth_is ns
    simp [PyData.depth]
    omega
theorem alike_is (ns : List Int) : PySem.W.AlikeAll (ns.map .int) := by
  refine ⟨fun x hx y hy => ?_, fun x hx => ?_⟩
  · obtain ⟨p, _, rfl⟩ := List.mem_map.mp hx
    obtain ⟨q, _, rfl⟩ := List.mem_map.mp hy
    simp [PySem.W.alike]
  · obtain ⟨p, _, rfl⟩ := List.mem_map.mp hx
    exact fun z => by cases z
theorem maxD_is (n : Int) (ns : List Int) : PySem.W.maxD (.int n) (ns.map .int) = .int (maxI n ns) := by
  unfold PySem.W.maxD
  induction ns generalizing n with
  | nil => rfl
  | cons q r ih =>
    rw [List.map_cons, List.foldl_cons]
    show _ = PyData.int (maxI (if q > n then q else n) r)
    have e : (if PySem.W.dataLt (.int n) (.int q) = true then PyData.int q else .int n) = .int (if q > n then q else n) := by
      rw [PySem.W.dataLt_int]
      by_cases h : n < q
      · rw [if_pos (decide_eq_true h), if_pos h]
      · rw [if_neg (by rw [decide_eq_true_eq]; exact h), if_neg h]
    rw [e]
    exact ih _
theorem bi_ok (hc : X.calm = true) (hg : X.A.guards = some []) (hu : X.A.units + 70 < cLine) (b : Bi) (hb : isT b = none) : CallR X (biFn b) (rBi X.K b) := by
  intro pins s σ H vs us Q I rv h
  obtain ⟨P, ds, t, r, hr, e, q1, q2⟩ := h
  cases b <;> simp only [isT, reduceCtorEq] at hb
  case len =>
    rcases ds with _ | ⟨d, _ | ⟨d2, ds⟩⟩ <;> try (simp [biD] at e; done)
    · cases d <;> simp only [biD, reduceCtorEq] at e <;> cases e <;> obtain ⟨v, rfl, hv⟩ := hr.one
      · obtain ⟨a, xs, rfl, l, z⟩ := hv.list_inv
        exact call_len_seq pins s σ H _ us Q I rv ⟨a, xs, rfl, .inl l.sq, by rw [z.length]; exact grown (H' := H) (q2 rfl) .int_⟩
      · obtain ⟨a, xs, rfl, l, z⟩ := hv.tuple_inv
        exact call_len_seq pins s σ H _ us Q I rv ⟨a, xs, rfl, .inr l.sq, by rw [z.length]; exact grown (H' := H) (q2 rfl) .int_⟩
  case abs =>
    rcases ds with _ | ⟨d, _ | ⟨d2, ds⟩⟩ <;> try (simp [biD] at e; done)
    · cases d <;> simp only [biD, reduceCtorEq] at e
      cases e
      obtain ⟨v, rfl, hv⟩ := hr.one
      rw [hv.int_inv] at rv
      exact call_abs pins s σ H _ us Q I rv ⟨_, rfl, grown (H' := H) (q2 rfl) .int_⟩
  case int =>
    rcases ds with _ | ⟨d, _ | ⟨d2, ds⟩⟩ <;> try (simp [biD] at e; done)
    · cases d <;> simp only [biD, reduceCtorEq] at e <;> cases e <;> obtain ⟨v, rfl, hv⟩ := hr.one
      · rw [hv.bool_inv] at rv
        exact call_int1 pins s σ H _ us Q I rv (.inr ⟨_, rfl, grown (H' := H) (q2 rfl) .int_⟩)
      · rw [hv.int_inv] at rv
        exact call_int1 pins s σ H _ us Q I rv (.inl ⟨_, rfl, grown (H' := H) (q2 rfl) .int_⟩)
  case max =>
    rcases ds with _ | ⟨d, _ | ⟨d2, _ | ⟨d3, ds⟩⟩⟩ <;> try (simp [biD] at e; done)
    · cases d <;> simp only [biD, reduceCtorEq] at e
      · obtain ⟨ns, h1, h2⟩ := Option.bind_eq_some_iff.mp e
        cases ns with
        | nil => cases h2
        | cons n ns =>
          cases h2
          obtain ⟨v, rfl, hv⟩ := hr.one
          obtain ⟨a, xs, rfl, l, z⟩ := hv.list_inv
          rw [intsOf_some h1] at z
          have z' := Rep.ints z
          subst z'
          obtain ⟨k1, k2, k3⟩ := maxI_ok ns n
          refine cr_max hc pins s σ H _ us Q I rv ⟨a, n :: ns, rfl, l.sq, Nat.succ_pos _, fun m hm hy => ?_⟩
          have em : m = maxI n ns := by
            have b1 := hy (maxI n ns) (k1.elim (fun e => by rw [e]; exact List.mem_cons_self) fun e => List.mem_cons_of_mem _ e)
            rcases List.mem_cons.mp hm with q | q
            · omega
            · have b2 := k3 m q
              omega
          rw [em]
          exact grown (H' := H) (q2 rfl) .int_
      · obtain ⟨ns, h1, h2⟩ := Option.bind_eq_some_iff.mp e
        cases ns with
        | nil => cases h2
        | cons n ns =>
          cases h2
          obtain ⟨v, rfl, hv⟩ := hr.one
          obtain ⟨u, rfl, ru⟩ := vals1 rv
          obtain ⟨a, xs, rfl, l, z⟩ := hv.tuple_inv
          cases ru
          obtain ⟨its, rvx, hl, _⟩ := I.tuple l.sq
          rw [intsOf_some h1] at z
          obtain ⟨as, rd⟩ := Dp.readsAll I _ xs its (Reps.dp (nodicts_is _) z) rvx
          have rd : ReadsAll s.heap its.toArray.toList (.int n :: ns.map .int) as := rd
          have hu2 : X.A.units + 1 + PyData.depthAll (.int n :: ns.map .int) < cLine := by
            have := depth_is (n :: ns)
            rw [List.map_cons] at this
            omega
          refine PySem.W.max_tuple_data (I.ok.hd hc) hl rd (alike_is (n :: ns)) hu2 fun i v h' tk bs hi hrd hk => ?_
          have hi' : its[i]? = some v := by simpa using hi
          obtain ⟨x, hx⟩ : ∃ x, xs[i]? = some x := ⟨_, List.getElem?_eq_getElem (by rw [rvx.length]; exact (List.getElem?_eq_some_iff.mp hi').1)⟩
          obtain ⟨v', hv', rx⟩ := Vals.get rvx hx
          rw [hi'] at hv'
          cases hv'
          obtain ⟨d, hd, rdx⟩ := z.get' hx
          have hmem := List.mem_of_getElem? hd
          obtain ⟨q, _, rfl⟩ := List.mem_map.mp hmem
          obtain ⟨bs2, rd2⟩ := Dp.reads I (.int q) x v (rdx.dp rfl) rx
          have e1 : PySem.W.maxD (.int n) (ns.map .int) = .int q := (Reads.unique hrd _ _ (PySem.W.reads_keeps hk rd2)).1
          rw [maxD_is] at e1
          rw [e1] at q2
          exact ⟨x, H, I.kept hk, rx, q2 rfl _ _ (fun _ _ e => e) (rdx.mono fun b u e pb => .inl pb)⟩
    · cases d <;> cases d2 <;> simp only [biD, reduceCtorEq] at e
      cases e
      obtain ⟨v, w, rfl, hv, hw⟩ := hr.two
      rw [hv.int_inv, hw.int_inv] at rv
      exact call_max2 hc pins s σ H _ us Q I rv ⟨_, _, rfl, grown (H' := H) (q2 rfl) .int_⟩
  case min =>
    rcases ds with _ | ⟨d, _ | ⟨d2, _ | ⟨d3, ds⟩⟩⟩ <;> try (simp [biD] at e; done)
    · cases d <;> simp only [biD, reduceCtorEq] at e
      rcases Option.or_eq_some_iff.mp e with e | ⟨_, e⟩
      · obtain ⟨ns, h1, h2⟩ := Option.bind_eq_some_iff.mp e
        cases ns with
        | nil => cases h2
        | cons n ns =>
          cases h2
          obtain ⟨v, rfl, hv⟩ := hr.one
          obtain ⟨a, xs, rfl, l, z⟩ := hv.list_inv
          rw [intsOf_some h1] at z
          have z' := Rep.ints z
          subst z'
          obtain ⟨k1, k2, k3⟩ := minI_ok ns n
          refine cr_min hc pins s σ H _ us Q I rv ⟨a, n :: ns, rfl, l.sq, Nat.succ_pos _, fun m hm hy => ?_⟩
          have em : m = minI n ns := by
            have b1 := hy (minI n ns) (k1.elim (fun e => by rw [e]; exact List.mem_cons_self) fun e => List.mem_cons_of_mem _ e)
            rcases List.mem_cons.mp hm with q | q
            · omega
            · have b2 := k3 m q
              omega
          rw [em]
          exact grown (H' := H) (q2 rfl) .int_
      · obtain ⟨ps, h1, h2⟩ := Option.bind_eq_some_iff.mp e
        cases ps with
        | nil => cases h2
        | cons p ps =>
          cases h2
          obtain ⟨v, rfl, hv⟩ := hr.one
          obtain ⟨u, rfl, ru⟩ := vals1 rv
          obtain ⟨a, xs, rfl, l, z⟩ := hv.list_inv
          cases ru
          obtain ⟨its, rvx, hl, _⟩ := I.list l.sq
          rw [pairsOf_some h1] at z
          obtain ⟨as, rd⟩ := Dp.readsAll I _ xs its (Reps.dp (nodicts_pairs _) z) rvx
          have rd : ReadsAll s.heap its.toArray.toList (pD p :: ps.map pD) as := rd
          have hu2 : X.A.units + 1 + PyData.depthAll (pD p :: ps.map pD) < cLine := by
            have := depth_pairs (p :: ps)
            rw [List.map_cons] at this
            omega
          refine PySem.W.min_list_data (I.ok.hd hc) hl.isList rd (alike_pairs (p :: ps)) hu2 fun i v h' tk bs hi hrd hk => ?_
          have hi' : its[i]? = some v := by simpa using hi
          obtain ⟨x, hx⟩ : ∃ x, xs[i]? = some x := ⟨_, List.getElem?_eq_getElem (by rw [rvx.length]; exact (List.getElem?_eq_some_iff.mp hi').1)⟩
          obtain ⟨v', hv', rx⟩ := Vals.get rvx hx
          rw [hi'] at hv'
          cases hv'
          obtain ⟨d, hd, rdx⟩ := z.get' hx
          have hmem := List.mem_of_getElem? hd
          obtain ⟨q, _, rfl⟩ := List.mem_map.mp hmem
          obtain ⟨bs2, rd2⟩ := Dp.reads I (pD q) x v (rdx.dp (nodict_pair q)) rx
          have e1 : PySem.W.minD (pD p) (ps.map pD) = pD q := (Reads.unique hrd _ _ (PySem.W.reads_keeps hk rd2)).1
          rw [minD_pairs] at e1
          rw [e1] at q2
          exact ⟨x, H, I.kept hk, rx, q2 rfl _ _ (fun _ _ e => e) (rdx.mono fun b u e pb => .inl pb)⟩
    · cases d <;> cases d2 <;> simp only [biD, reduceCtorEq] at e
      cases e
      obtain ⟨v, w, rfl, hv, hw⟩ := hr.two
      rw [hv.int_inv, hw.int_inv] at rv
      exact call_min2 hc pins s σ H _ us Q I rv ⟨_, _, rfl, grown (H' := H) (q2 rfl) .int_⟩
  case sum =>
    rcases ds with _ | ⟨d, _ | ⟨d2, ds⟩⟩ <;> try (simp [biD] at e; done)
    · cases d <;> simp only [biD, reduceCtorEq] at e
      obtain ⟨ns, h1, h2⟩ := Option.map_eq_some_iff.mp e
      cases h2
      obtain ⟨v, rfl, hv⟩ := hr.one
      obtain ⟨a, xs, rfl, l, z⟩ := hv.list_inv
      rw [intsOf_some h1] at z
      have z' := Rep.ints z
      subst z'
      exact cr_sum hc pins s σ H _ us Q I rv ⟨a, ns, rfl, l.sq, grown (H' := H) (q2 rfl) .int_⟩
  case any =>
    rcases ds with _ | ⟨d, _ | ⟨d2, ds⟩⟩ <;> try (simp [biD] at e; done)
    · cases d <;> simp only [biD, reduceCtorEq] at e
      obtain ⟨ns, h1, h2⟩ := Option.map_eq_some_iff.mp e
      cases h2
      obtain ⟨v, rfl, hv⟩ := hr.one
      obtain ⟨a, xs, rfl, l, z⟩ := hv.list_inv
      rw [boolsOf_some h1] at z
      have z' := Rep.bools z
      subst z'
      exact cr_any hc pins s σ H _ us Q I rv ⟨a, ns, rfl, l.sq, grown (H' := H) (q2 rfl) .bool_⟩
  case all =>
    rcases ds with _ | ⟨d, _ | ⟨d2, ds⟩⟩ <;> try (simp [biD] at e; done)
    · cases d <;> simp only [biD, reduceCtorEq] at e
      obtain ⟨ns, h1, h2⟩ := Option.map_eq_some_iff.mp e
      cases h2
      obtain ⟨v, rfl, hv⟩ := hr.one
      obtain ⟨a, xs, rfl, l, z⟩ := hv.list_inv
      rw [boolsOf_some h1] at z
      have z' := Rep.bools z
      subst z'
      exact cr_all hc pins s σ H _ us Q I rv ⟨a, ns, rfl, l.sq, grown (H' := H) (q2 rfl) .bool_⟩
  case list =>
    rcases ds with _ | ⟨d, _ | ⟨d2, ds⟩⟩ <;> try (simp [biD] at e; done)
    · cases d <;> simp only [biD, reduceCtorEq] at e <;> cases e <;> obtain ⟨v, rfl, hv⟩ := hr.one
      · obtain ⟨a, xs, rfl, l, z⟩ := hv.list_inv
        exact call_list_of pins s σ H _ us Q I rv ⟨a, xs, rfl, .inl l.sq, q1 rfl _ _ rfl z⟩
      · obtain ⟨a, xs, rfl, l, z⟩ := hv.tuple_inv
        exact call_list_of pins s σ H _ us Q I rv ⟨a, xs, rfl, .inr l.sq, q1 rfl _ _ rfl z⟩
  case tuple =>
    rcases ds with _ | ⟨d, _ | ⟨d2, ds⟩⟩ <;> try (simp [biD] at e; done)
    · cases d <;> simp only [biD, reduceCtorEq] at e <;> cases e <;> obtain ⟨v, rfl, hv⟩ := hr.one
      · obtain ⟨a, xs, rfl, l, z⟩ := hv.list_inv
        refine call_tuple_of pins s σ H _ us Q I rv ⟨a, xs, rfl, .inl ⟨l.sq, fun p np => ?_⟩⟩
        have up : ∀ b o, H b = some o → upd H p (.tup xs) b = some o := fun b o e => by rw [upd_ne (ne_of_none e np)]; exact e
        refine q2 rfl _ _ up ?_
        unfold Rep
        exact ⟨p, xs, rfl, .inl ⟨upd_same, .inr np⟩, z.imp fun b u e pb => ⟨up b u e, .inl pb⟩⟩
      · obtain ⟨a, xs, rfl, l, z⟩ := hv.tuple_inv
        refine call_tuple_of pins s σ H _ us Q I rv ⟨a, xs, rfl, .inr ⟨l.sq, ?_⟩⟩
        refine grown (H' := H) (q2 rfl) ?_
        exact hv.mono fun b u e pb => .inl pb
  case repr =>
    rcases ds with _ | ⟨d, _ | ⟨d2, ds⟩⟩ <;> try (simp [biD] at e; done)
    simp only [biD] at e
    split at e
    · rename_i hs
      cases e
      obtain ⟨s1, s2, s3, s4⟩ := hs
      obtain ⟨v, rfl, hv⟩ := hr.one
      obtain ⟨u, rfl, ru⟩ := vals1 rv
      obtain ⟨as, rd⟩ := Dp.reads I d v u (hv.dp s2) ru
      have fin : ∀ h' (u : Tok) tk, (∀ b o, s.heap.get? b = some o → h'.get? b = some o) → EP X pins σ Q (.str d.shown u) { s with heap := h', toks := tk } := fun h' u tk k =>
        ⟨.str d.shown, H, I.kept (t' := tk) k, ⟨u, rfl⟩, grown (H' := H) (q2 rfl) .str_⟩
      have nd : d.hasDict = false := hasDict_of s2
      cases d with
      | none => cases rd; exact PySem.P.repr_of_none (fin s.heap _ _ fun _ _ z => z)
      | bool b => cases rd; exact PySem.P.repr_of_bool (fin s.heap _ _ fun _ _ z => z)
      | int i =>
        cases rd
        exact PySem.P.repr_of_int (of_decide_eq_true (by simpa [PyData.showable] using s1)) (fin s.heap _ _ fun _ _ z => z)
      | str x => cases rd; exact PySem.P.repr_of_str (fin s.heap _ _ fun _ _ z => z) s4
      | list ds =>
        obtain ⟨a, xs, rfl, l, z⟩ := hv.list_inv
        cases ru
        exact repr_of_reads' rd s1 (fun z => by rw [nd] at z; cases z) hg (by omega) (fun _ _ z => z) fin s4
      | tuple ds =>
        obtain ⟨a, xs, rfl, l, z⟩ := hv.tuple_inv
        cases ru
        exact repr_of_reads' rd s1 (fun z => by rw [nd] at z; cases z) hg (by omega) (fun _ _ z => z) fin s4
      | dict _ => unfold nodict at s2; cases s2
    · cases e
  case divmod =>
    rcases ds with _ | ⟨d, _ | ⟨d2, _ | ⟨d3, ds⟩⟩⟩ <;> try (simp [biD] at e; done)
    · cases d <;> cases d2 <;> simp only [biD, reduceCtorEq] at e
      split at e
      · rename_i i j hs
        cases e
        obtain ⟨v, w, rfl, hv, hw⟩ := hr.two
        rw [hv.int_inv, hw.int_inv] at rv
        refine call_divmodW pins s σ H _ us Q I rv ⟨i, j, rfl, ⟨hs.1, PyProof.noPylong_of_log2 hs.2⟩, fun p np => ?_⟩
        have up : ∀ b o, H b = some o → upd H p (.tup [V.int (i / j), V.int (i % j)]) b = some o := fun b o e => by rw [upd_ne (ne_of_none e np)]; exact e
        refine q2 rfl _ _ up ?_
        unfold Rep
        exact ⟨p, [V.int (i / j), V.int (i % j)], rfl, .inl ⟨upd_same, .inr np⟩, .cons .int_ (.cons .int_ .nil)⟩
      · cases e
  case sorted =>
    rcases ds with _ | ⟨d, _ | ⟨d2, ds⟩⟩ <;> try (simp [biD] at e; done)
    · cases d <;> simp only [biD, reduceCtorEq] at e
      obtain ⟨ns, h1, h2⟩ := Option.map_eq_some_iff.mp e
      cases h2
      obtain ⟨v, rfl, hv⟩ := hr.one
      obtain ⟨a, xs, rfl, l, z⟩ := hv.list_inv
      rw [intsOf_some h1] at z
      have z' := Rep.ints z
      subst z'
      exact cr_sortedI pins s σ H _ us Q I rv ⟨a, ns, rfl, l.sq, fun ns' p pm pw np => by
        rw [PySem.W.os_sorted_mergeSort pm pw]
        exact q1 rfl _ _ rfl Rep.of_ints p np⟩
  case str => simp [biD] at e
end
end DL

/-! DL6: the context of a body, what a def promises (FnG, spOf), the check of a text (chkE). -/
namespace DL
open PySem PySem.Spec PyProof.Rows L2

/-! ### defs -/
/-- the def at f keeps its promise, wherever no display is being written -/
structure FnG (P : Program) (w : World) (K : Frag) (mg : Str → Option Value) (base : Heap) (k : Nat) (f : Addr) (fd : FuncData) (ps : List Str) (sp : List V → Hp → VK → Prop) : Prop where
  len : ∀ vs H Q, sp vs H Q → vs.length = ps.length
  run : ∀ (A : Around) (outer : List Env) (s : Shared) (H : Hp) (args : Args) (us : List Value) (vs : List V) (Q : VK), A.guards = some [] → Room k A →
    Env0 P w K mg base A outer s H → BindsTo s fd args (ps.zip us) → Vals vs us → sp vs H Q → codeAny (model P w) A (.call (.ref f) args) (CR CX0 outer P w H s Q E0) s
theorem FnG.up {P : Program} {w : World} {K : Frag} {mg : Str → Option Value} {base : Heap} {j k : Nat} {f : Addr} {fd : FuncData} {ps : List Str} {sp : List V → Hp → VK → Prop} (F : FnG P w K mg base j f fd ps sp) (h : j ≤ k) : FnG P w K mg base k f fd ps sp :=
  ⟨F.len, fun A outer s H args us vs Q hg hr => F.run A outer s H args us vs Q hg (hr.mono h)⟩

/-- an answer by data -/
def AnsR (K : Frag) (P : Addr → Prop) (H : Hp) (fr : Bool) (r : D) (v : V) (H' : Hp) : Prop :=
  match fr with
  | true => ∃ c, v = .ref c ∧ H c = none ∧ OwnO K H' (fun b => (P b ∨ H b = none) ∧ b ≠ c) c r
  | false => Rep K H' (fun b => P b ∨ H b = none) r v
/-- a def's promise by data -/
def spOf (K : Frag) (F : FSpec) : List V → Hp → VK → Prop := fun vs H Q => ∃ (P : Addr → Prop) (ds : List D) (post : D → D → Prop), F.sp ds post ∧
  match F.io with
  | false => Reps K H P ds vs ∧ ∀ d' r v H', post d' r → (∀ b o, H b = some o → H' b = some o) → AnsR K P H F.fr r v H' → Q v H'
  | true => ∃ (a : Addr) (vr : List V) (ns : List Int) (dr : List D), vs = .ref a :: vr ∧ ds = .list (ns.map .int) :: dr ∧ ¬ P a ∧ H a = some (.lst (ns.map .int)) ∧ Reps K H P dr vr ∧
      ∀ (ns' : List Int) r v H', post (.list (ns'.map .int)) r → (∀ b o, H b = some o → b ≠ a → H' b = some o) → H' a = some (.lst (ns'.map .int)) → AnsR K P H F.fr r v H' → Q v H'

/-- a def that the text may call: its name, its parameters, its defaults -/
structure GFn where
  name : Str
  ps : List Str
  dfl : List D := []
  kws : List (List Str × List Nat) := []
/-- what the text may lean on: constants, built-ins, defs -/
structure GEnv where
  nums : List (Str × Int) := []
  bis : List Str := []
  fns : List GFn := []
/-- a default as a value -/
def dV : D → V
  | .int i => .int i
  | .bool b => .bl b
  | .str x => .str x
  | _ => .non
def dOk : D → Bool
  | .int _ => true
  | .bool _ => true
  | .str _ => true
  | .none => true
  | _ => false

def dEq : D → D → Bool
  | .int i, .int j => decide (i = j)
  | .bool i, .bool j => i == j
  | .str i, .str j => decide (i = j)
  | .none, .none => true
  | _, _ => false
def dEqs : List D → List D → Bool
  | [], [] => true
  | a :: l, b :: m => dEq a b && dEqs l m
  | _, _ => false
theorem dEqs_ok : ∀ {l m : List D}, dEqs l m = true → l = m ∧ l.all dOk = true
  | [], [], _ => ⟨rfl, rfl⟩
  | [], _ :: _, h => by simp only [dEqs, Bool.false_eq_true] at h
  | _ :: _, [], h => by simp only [dEqs, Bool.false_eq_true] at h
  | a :: l, b :: m, h => by
    simp only [dEqs] at h
    obtain ⟨h1, h2⟩ := Bool.and_eq_true_iff.mp h
    obtain ⟨e, o⟩ := dEqs_ok h2
    have z : a = b ∧ dOk a = true := by
      cases a <;> cases b <;> simp only [dEq, Bool.false_eq_true, decide_eq_true_eq, beq_iff_eq] at h1 <;> (try subst h1) <;> exact ⟨rfl, rfl⟩
    exact ⟨by rw [z.1, e], by rw [List.all_cons, z.2, o]; rfl⟩

structure GOk (X : Cx) (Γ : GEnv) (Φ : Phi) (k : Nat) : Prop where
  nums : ∀ p ∈ Γ.nums, ∃ t, X.mg p.1 = some (.int p.2 t)
  bis : ∀ x ∈ Γ.bis, X.mg x = none
  fns : ∀ f ∈ Γ.fns, ∃ (a : Addr) (fd : FuncData), FnG X.prog X.w X.K X.mg X.base k a fd f.ps (spOf X.K (Φ f.name)) ∧ X.mg f.name = some (.ref a) ∧ PySem.W.keepIn X.K (.ref a) = true ∧
    (∀ j, j ≤ f.dfl.length → ∃ ds, Vals ((f.dfl.drop j).map dV) ds ∧ Binds X.K fd f.ps ds) ∧
    ∀ p ∈ f.kws, ∀ (s : Shared) (ws : List Value), X.K.In s.heap → ws.length = p.1.length → BindsTo s fd ⟨[], p.1.zip ws⟩ (f.ps.zip (pick p.2 ws))
structure CtxOk (X : Cx) (Γ : GEnv) (Φ : Phi) (k : Nat) (N : List Str) (sc : Scope) : Prop where
  calm : X.calm = true
  names : X.N = N
  nd : N.Nodup
  scope : X.env.scope = sc
  room : Room k X.A
  gd : X.A.guards = some []
  g : GOk X Γ Φ k

/-! ### the check -/
def visB (sc : Scope) (x : Str) : Bool := match sc.names.lookup x with
  | some .local => true
  | some .cell => true
  | some .free => true
  | _ => false
def glB (sc : Scope) (x : Str) : Bool := match sc.names.lookup x with
  | some .globalImplicit => true
  | _ => false
def okN (x : Str) : Bool := !(x == ("__debug__" : Str)) && !(x == ("__classdict__" : Str))
def chkV (N : List Str) (sc : Scope) (i : Nat) (x : Str) : Bool := decide (N[i]? = some x) && visB sc x && okN x
/-- a built-in's name -/
def biNm : Bi → Str
  | .len => "len" | .abs => "abs" | .int => "int" | .max => "max" | .min => "min" | .sum => "sum" | .any => "any" | .all => "all"
  | .list => "list" | .tuple => "tuple" | .sorted => "sorted" | .divmod => "divmod" | .repr => "repr" | .str => "str"
  | .isIntT => "int" | .isBoolT => "bool" | .isListT => "list" | .isTupT => "tuple" | .isStrT => "str"
/-- the built-in x is itself -/
def biOk (Γ : GEnv) (sc : Scope) (x : Str) : Bool := glB sc x && decide (x ∈ Γ.bis) && okN x && !(x == ("__name__" : Str))
def E.isIf : E → Bool
  | .ife _ _ _ => true
  | _ => false
def fnAt (Γ : GEnv) (f : Str) : Option GFn := Γ.fns.find? fun g => decide (g.name = f)

def opB (o : Operator) : B2 → Bool
  | .add => (match o with | .Add => true | _ => false)
  | .sub => (match o with | .Sub => true | _ => false)
  | .mul => (match o with | .Mult => true | _ => false)
  | .fdiv => (match o with | .FloorDiv => true | _ => false)
  | .mod => (match o with | .Mod => true | _ => false)
  | .pow => (match o with | .Pow => true | _ => false)
  | .shl => (match o with | .LShift => true | _ => false)
  | .shr => (match o with | .RShift => true | _ => false)
  | .band => (match o with | .BitAnd => true | _ => false)
theorem opB_ok {o : Operator} {b : B2} (h : opB o b = true) : o = opOf b := by cases b <;> cases o <;> first | rfl | cases h
def cmB (o : CmpOp) : C2 → Bool
  | .eq => (match o with | .Eq => true | _ => false)
  | .ne => (match o with | .NotEq => true | _ => false)
  | .lt => (match o with | .Lt => true | _ => false)
  | .le => (match o with | .LtE => true | _ => false)
  | .gt => (match o with | .Gt => true | _ => false)
  | .ge => (match o with | .GtE => true | _ => false)
  | .inn => (match o with | .In => true | _ => false)
  | .nin => (match o with | .NotIn => true | _ => false)
  | .is => (match o with | .Is => true | _ => false)
  | .nis => (match o with | .IsNot => true | _ => false)
theorem cmB_ok {o : CmpOp} {b : C2} (h : cmB o b = true) : o = cOf b := by cases b <;> cases o <;> first | rfl | cases h

def mtNm : Mt → Str
  | .count => "count" | .index => "index" | .get => "get"
def mtOk : Mt → Bool
  | .get => false
  | _ => true
mutual
/-- the targets of a loop -/
def chkT (N : List Str) (sc : Scope) (fn : Str → Bool) : T → Expr → Bool
  | .nm i, .Name x _ => decide (N[i]? = some x) && (decide (sc.names.lookup x = some .local) || (decide (sc.names.lookup x = some .cell) && fn x))
  | .tp ts, .Tuple es _ _ => chkTs N sc fn ts es
  | _, _ => false
def chkTs (N : List Str) (sc : Scope) (fn : Str → Bool) : Ts → List Expr → Bool
  | .nil, [] => true
  | .cons t ts, e :: es => chkT N sc fn t e && chkTs N sc fn ts es
  | _, _ => false
end
def T.isTp : T → Bool
  | .tp _ => true
  | _ => false
/-- a block's own names, with their places -/
def ownOf (N : List Str) (is : List Nat) : List (Str × Nat) := is.map fun i => (N.getD i Str.empty, i)

mutual
def chkE (Γ : GEnv) (N : List Str) (sc : Scope) : E → Expr → Bool
  | .var i, .Name x _ => chkV N sc i x
  | .mv i, .Name x _ => chkV N sc i x
  | .int i, .Constant (.int j) _ _ => decide (i = j)
  | .bl b, .Constant (.bool c) _ _ => b == c
  | .non, .Constant .none _ _ => true
  | .str x, .Constant (.str y) _ _ => decide (x = y)
  | .gi x i, .Name y _ => decide (x = y) && glB sc y && decide ((x, i) ∈ Γ.nums) && okN y
  | .tup es, .Tuple as _ _ => chkEs Γ N sc es as
  | .lst es, .List as _ => chkEs Γ N sc es as
  | .bin o a b, .BinOp a' o' b' _ => opB o' o && chkE Γ N sc a a' && chkE Γ N sc b b'
  | .neg a, .UnaryOp .USub a' _ => chkE Γ N sc a a'
  | .cmp o a b, .Compare a' [o'] [b'] _ => cmB o' o && chkE Γ N sc a a' && chkE Γ N sc b b'
  | .chain o p a b c, .Compare a' [o', p'] [b', c'] _ => cmB o' o && cmB p' p && chkE Γ N sc a a' && chkE Γ N sc b b' && chkE Γ N sc c c'
  | .isN a, .Compare a' [.Is] [.Constant .none _ _] _ => chkE Γ N sc a a'
  | .notN a, .Compare a' [.IsNot] [.Constant .none _ _] _ => chkE Γ N sc a a'
  | .not a, .UnaryOp .Not a' _ => chkE Γ N sc a a' && !a.isIf
  | .ands es, .BoolOp .And as _ => chkL Γ N sc es as
  | .ors es, .BoolOp .Or as _ => chkL Γ N sc es as
  | .ife c a b, .IfExp c' a' b' _ => chkE Γ N sc c c' && !c.isIf && chkE Γ N sc a a' && chkE Γ N sc b b'
  | .idx a b, .Subscript a' b' _ => chkE Γ N sc a a' && chkE Γ N sc b b'
  | .idxv i b, .Subscript (.Name x _) b' _ => chkV N sc i x && chkE Γ N sc b b'
  | .sl a lo hi, .Subscript a' (.Slice lo' hi' none _) _ => chkE Γ N sc a a' && chkO Γ N sc lo lo' && chkO Γ N sc hi hi'
  | .call f es dv, .Call (.Name x _) as [] _ => decide (f = x) && glB sc x && okN x && chkEs Γ N sc es as && !as.isEmpty &&
      (match fnAt Γ f with | some g => dEqs dv (g.dfl.drop (g.dfl.length - dv.length)) | none => false)
  | .callk f es ks pm, .Call (.Name x _) [] kws _ => decide (f = x) && glB sc x && okN x && chkKs Γ N sc es ks kws &&
      (match fnAt Γ f with | some g => decide ((ks, pm) ∈ g.kws) | none => false)
  | .callio f i es, .Call (.Name x _) (.Name y _ :: as) [] _ => decide (f = x) && glB sc x && okN x && chkV N sc i y && chkEs Γ N sc es as &&
      (match fnAt Γ f with | some g => g.dfl.isEmpty | none => false)
  | .bi b es, .Call (.Name x _) as [] _ => decide (isT b = none) && decide (x = biNm b) && biOk Γ sc x && chkEs Γ N sc es as && !as.isEmpty
  | .ist b e, .Call (.Name x _) [a, .Name y _] [] _ => (isT b).isSome && decide (x = "isinstance") && decide (y = biNm b) && biOk Γ sc x && biOk Γ sc y && chkE Γ N sc e a
  | .lc elt t it cs,   .ListComp elt' [⟨tg, iter, ifs, n⟩] csc _ => decide (n = 0) && chkI Γ N sc t.isTp it iter && chkT N (relS csc sc) (fun x => csc.names.lookup x == some .cell) t tg && blkC N sc csc (ownOf N t.names) &&
      chkL0 Γ N (relS csc sc) cs ifs && chkE Γ N (relS csc sc) elt elt'
  | .lrng1 e, .Call (.Name l _) [.Call (.Name x _) [a] [] _] [] _ => decide (l = "list") && biOk Γ sc l && decide (x = "range") && biOk Γ sc x && chkE Γ N sc e a
  | .lrng2 e f, .Call (.Name l _) [.Call (.Name x _) [a, b] [] _] [] _ => decide (l = "list") && biOk Γ sc l && decide (x = "range") && biOk Γ sc x && chkE Γ N sc e a && chkE Γ N sc f b
  | .sset e, .Call (.Name l _) [.Call (.Name x _) [a] [] _] [] _ => decide (l = "sorted") && biOk Γ sc l && decide (x = "set") && biOk Γ sc x && chkE Γ N sc e a
  | .dnewT, .Dict [] [] _ => true
  | .dinT neg es i, .Compare (.Tuple as _ _) [o] [.Name x _] _ => (if neg = true then cmB o .nin else cmB o .inn) && chkEs Γ N sc es as && chkV N sc i x
  | .dgetT i es n, .Call (.Attribute (.Name x _) nm apos) [.Tuple as _ _, .Constant (.int m) _ _] [] cpos => decide (nm = "get") && decide (m = n) && (apos.endLine == cpos.line) && chkV N sc i x && chkEs Γ N sc es as
  | .rev e, .Subscript a (.Slice none none (some (.UnaryOp .USub (.Constant (.int j) _ _) _)) _) _ => decide (j = 1) && chkE Γ N sc e a
  | .cat e es, .List (.Starred a _ :: as) _ => chkE Γ N sc e a && chkEs Γ N sc es as
  | .cat2 e f, .List [.Starred a _, .Starred b _] _ => chkE Γ N sc e a && chkE Γ N sc f b
  | .mt m (.var i) (.cons e .nil), .Call (.Attribute (.Name x _) nm apos) [b] [] cpos => decide (nm = mtNm m) && mtOk m && (apos.endLine == cpos.line) && chkV N sc i x && chkE Γ N sc e b
  | .popv i, .Call (.Attribute (.Name x _) nm apos) [] [] cpos => decide (nm = "pop") && (apos.endLine == cpos.line) && chkV N sc i x
  | _, _ => false
def chkEs (Γ : GEnv) (N : List Str) (sc : Scope) : Es → List Expr → Bool
  | .nil, [] => true
  | .cons e es, a :: as => chkE Γ N sc e a && chkEs Γ N sc es as
  | _, _ => false
def chkKs (Γ : GEnv) (N : List Str) (sc : Scope) : Es → List Str → List Keyword → Bool
  | .nil, [], [] => true
  | .cons e es, k :: ks, ⟨some n, a, _⟩ :: r => decide (k = n) && chkE Γ N sc e a && chkKs Γ N sc es ks r
  | _, _, _ => false
/-- one or more, as tests -/
def chkL (Γ : GEnv) (N : List Str) (sc : Scope) : Es → List Expr → Bool
  | .cons e .nil, [a] => chkE Γ N sc e a && !e.isIf
  | .cons e es, a :: as => chkE Γ N sc e a && !e.isIf && chkL Γ N sc es as
  | _, _ => false
/-- a comprehension's tests: none or one -/
def chkL0 (Γ : GEnv) (N : List Str) (sc : Scope) : Es → List Expr → Bool
  | .nil, [] => true
  | .cons e .nil, [a] => chkE Γ N sc e a && !e.isIf
  | _, _ => false
def chkO (Γ : GEnv) (N : List Str) (sc : Scope) : OE → Option Expr → Bool
  | .no, none => true
  | .so e, some a => chkE Γ N sc e a
  | _, _ => false
/-- what is walked; tp: the target is written as a tuple -/
def chkI (Γ : GEnv) (N : List Str) (sc : Scope) (tp : Bool) : It → Expr → Bool
  | .lst e, a => chkE Γ N sc e a
  | .tup e, a => chkE Γ N sc e a
  | .rng1 e, .Call (.Name x _) [a] [] _ => decide (x = "range") && biOk Γ sc x && chkE Γ N sc e a
  | .rng2 e f, .Call (.Name x _) [a, b] [] _ => decide (x = "range") && biOk Γ sc x && chkE Γ N sc e a && chkE Γ N sc f b
  | .enum e, .Call (.Name x _) [a] [] _ => tp && decide (x = "enumerate") && biOk Γ sc x && chkE Γ N sc e a
  | .zip e f, .Call (.Name x _) [a, b] [] _ => decide (x = "zip") && biOk Γ sc x && chkE Γ N sc e a && chkE Γ N sc f b
  | _, _ => false
end
end DL

/-! DL7: a checked expression does what its reading says. -/
namespace DL
open PySem PySem.Spec PyProof.Rows L2

/-- an expression's reading as a reading of the layer -/
def tE (Φ : Phi) (K : Frag) (e : E) : TE := fun σ H Q => ∃ (G N : Addr → Prop) (env : DEnv) (Q' : Kd → D → DEnv → Prop), EnvOk K G N H σ env ∧ rdE Φ e env Q' ∧
  ∀ k d env' v H', Q' k d env' → Post K G N σ H env e.pur k d env' v H' → Q v H'
/-- as a test -/
def tT (Φ : Phi) (K : Frag) (e : E) : TT := fun σ H Q => ∃ (G N : Addr → Prop) (env : DEnv) (R : Bool → DEnv → Prop), EnvOk K G N H σ env ∧
  rdE Φ e env (fun _ x env' => ∃ t, truthD x = some t ∧ R t env') ∧ ∀ t env' H', R t env' → Stp σ H env e.pur H' env' → EnvOk K G N H' σ env' → Q t H'
def RepsK (K : Frag) (G : Addr → Prop) (σ : L2.St) (k : Kd) (H : Hp) (env : DEnv) (d : List D) (v : List V) : Prop :=
  match k with
  | .b => Reps K H (fun a => (G a ∧ ¬ Own env σ a) ∨ Own env σ a) d v
  | _ => Reps K H (fun a => G a ∧ ¬ Own env σ a) d v
structure PostS (K : Frag) (G N : Addr → Prop) (σ : L2.St) (H : Hp) (env : DEnv) (pu : Bool) (k : Kd) (d : List D) (env' : DEnv) (v : List V) (H' : Hp) : Prop where
  s : Stp σ H env pu H' env'
  ok : EnvOk K G N H' σ env'
  r : RepsK K G σ k H' env' d v
def tEs (Φ : Phi) (K : Frag) (es : Es) : TA := fun σ H Q => ∃ (G N : Addr → Prop) (env : DEnv) (Q' : Kd → List D → DEnv → Prop), EnvOk K G N H σ env ∧ rdEs Φ es env Q' ∧
  ∀ k ds env' vs H', Q' k ds env' → PostS K G N σ H env es.pur k ds env' vs H' → Q vs H'

section
variable {X : Cx}
theorem pe_of {e : Expr} {t t' : TE} (h : PE X e t) (i : ∀ σ H Q, t' σ H Q → t σ H Q) : PE X e t' := ⟨fun pins s σ H Q I q => h.run pins s σ H Q I (i σ H Q q)⟩
theorem pt_of {e : Expr} {t t' : TT} (h : PT X e t) (i : ∀ σ H Q, t' σ H Q → t σ H Q) : PT X e t' := ⟨fun pins s σ H Q I q => h.run pins s σ H Q I (i σ H Q q)⟩
theorem pa_of {e : List Expr} {t t' : TA} (h : PA X e t) (i : ∀ σ H Q, t' σ H Q → t σ H Q) : PA X e t' := ⟨fun pos pins s σ H Q I q => h.run pos pins s σ H Q I (i σ H Q q)⟩
end

section
variable {Φ : Phi} {K : Frag} {G N : Addr → Prop} {σ : L2.St} {H H1 H2 : Hp} {env env1 env2 : DEnv} {p q : Bool} {Q : VK}

theorem post_z {d : D} {v : V} (E : EnvOk K G N H1 σ env1) (s : Stp σ H env p H1 env1) (r : Rep K H1 (fun a => G a ∧ ¬ Own env1 σ a) d v) : Post K G N σ H env p .z d env1 v H1 := ⟨s, E, r⟩
theorem post_int {i : Int} (E : EnvOk K G N H1 σ env1) (s : Stp σ H env p H1 env1) : Post K G N σ H env p .z (.int i) env1 (.int i) H1 := post_z E s .int_
theorem post_bool {i : Bool} (E : EnvOk K G N H1 σ env1) (s : Stp σ H env p H1 env1) : Post K G N σ H env p .z (.bool i) env1 (.bl i) H1 := post_z E s .bool_
theorem Post.trans {k : Kd} {d : D} {v : V} (s : Stp σ H env p H1 env1) (b : Post K G N σ H1 env1 q k d env2 v H2) : Post K G N σ H env (p && q) k d env2 v H2 := ⟨s.trans b.s, b.r⟩

/-! ### names, constants -/
theorem var_sound {i : Nat} {x : Str} {pos : Pos} {X : Cx} (h : PE X (.Name x pos) (tVar i)) : PE X (.Name x pos) (tE Φ X.K (.var i)) := by
  refine pe_of h fun σ H Q ⟨G, N, env, Q', E, rd, fin⟩ => ?_
  simp only [rdE] at rd
  obtain ⟨k, d, e, hQ⟩ := rd
  unfold varD at e
  split at e <;> cases e
  · rename_i h
    obtain ⟨v, e1, r⟩ := E.frz i _ h
    refine ⟨v, e1, fin _ _ _ _ _ hQ ⟨Stp.refl.weak, ?_⟩⟩
    have z : kdOf .z d = .z := by unfold kdOf; split <;> rfl
    rw [z]
    exact ⟨E, r⟩
  · rename_i h
    obtain ⟨a, e1, g, n, o⟩ := E.own i _ h
    refine ⟨_, e1, fin _ _ _ _ _ hQ ⟨Stp.refl.weak, ?_⟩⟩
    have own : Own env σ a := ⟨i, _, .inl h, e1⟩
    have w : RepK X.K G σ .b H env d (.ref a) := by
      have up : ∀ b u, H b = some u → (G b ∧ ¬ Own env σ b) → (G b ∧ ¬ Own env σ b) ∨ Own env σ b := fun b u e z => .inl z
      rcases o with ⟨ds, xs, rfl, q, r⟩ | ⟨kvs, ks, rfl, q, r⟩
      · show Rep _ _ _ (.list ds) _
        unfold Rep
        exact ⟨a, xs, rfl, .inl ⟨.inl q, .inr own⟩, r.mono up⟩
      · show Rep _ _ _ (.dict kvs) _
        unfold Rep
        exact ⟨a, ks, rfl, ⟨q, .inr own⟩, r.imp fun b u e z => ⟨e, up b u e z⟩⟩
    have f : flat d = false := by rcases o with ⟨ds, xs, rfl, q, r⟩ | ⟨kvs, ks, rfl, q, r⟩ <;> (unfold flat; rfl)
    have z : kdOf .b d = .b := by unfold kdOf; rw [f]; rfl
    rw [z]
    exact ⟨E, w⟩
  · rename_i h
    obtain ⟨a, e1, o⟩ := E.io i _ h
    refine ⟨_, e1, fin _ _ _ _ _ hQ ⟨Stp.refl.weak, ?_⟩⟩
    have own : Own env σ a := ⟨i, _, .inr h, e1⟩
    have w : RepK X.K G σ .b H env d (.ref a) := by
      have up : ∀ b u, H b = some u → (G b ∧ ¬ Own env σ b) → (G b ∧ ¬ Own env σ b) ∨ Own env σ b := fun b u e z => .inl z
      rcases o with ⟨ds, xs, rfl, q, r⟩ | ⟨kvs, ks, rfl, q, r⟩
      · show Rep _ _ _ (.list ds) _
        unfold Rep
        exact ⟨a, xs, rfl, .inl ⟨.inl q, .inr own⟩, r.mono up⟩
      · show Rep _ _ _ (.dict kvs) _
        unfold Rep
        exact ⟨a, ks, rfl, ⟨q, .inr own⟩, r.imp fun b u e z => ⟨e, up b u e z⟩⟩
    have f : flat d = false := by rcases o with ⟨ds, xs, rfl, q, r⟩ | ⟨kvs, ks, rfl, q, r⟩ <;> (unfold flat; rfl)
    have z : kdOf .b d = .b := by unfold kdOf; rw [f]; rfl
    rw [z]
    exact ⟨E, w⟩

theorem set_un_get {i j : Nat} {s : Slot} (hj : (env.set i .un)[j]? = some s) (hs : s ≠ .un) : j ≠ i ∧ env[j]? = some s := by
  have ne : j ≠ i := fun z => by
    subst z
    by_cases hl : j < env.length
    · rw [List.getElem?_set_self hl] at hj; cases hj; exact hs rfl
    · rw [List.getElem?_eq_none (by simpa using hl)] at hj; cases hj
  exact ⟨ne, by simpa [List.getElem?_set_ne (Ne.symm ne)] using hj⟩
/-- a name given up -/
theorem own_set_un {i : Nat} {a : Addr} (h : Own (env.set i .un) σ a) : Own env σ a := by
  obtain ⟨j, d, h, e⟩ := h
  have ne : j ≠ i := fun z => by
    subst z
    by_cases hj : j < env.length
    · simp [List.getElem?_set_self hj] at h
    · rw [List.getElem?_eq_none (by simpa using hj)] at h; simp at h
  exact ⟨j, d, by simpa [List.getElem?_set_ne (Ne.symm ne)] using h, e⟩
theorem mv_fresh {i : Nat} {d : D} {a : Addr} (E : EnvOk K G N H σ env) (h : env[i]? = some (Slot.own d)) (e : σ[i]? = some (some (.ref a))) : FreshAt K G N σ H (env.set i .un) d a := by
  obtain ⟨a', e', g, n, o⟩ := E.own i _ h
  rw [e] at e'; cases e'
  have own : Own env σ a := ⟨i, _, .inl h, e⟩
  have get : ∀ {j : Nat} {s : Slot}, (env.set i .un)[j]? = some s → s ≠ .un → j ≠ i ∧ env[j]? = some s := fun {j s} hj hs => by
    have ne : j ≠ i := fun z => by
      subst z
      by_cases hl : j < env.length
      · rw [List.getElem?_set_self hl] at hj; cases hj; exact hs rfl
      · rw [List.getElem?_eq_none (by simpa using hl)] at hj; cases hj
    exact ⟨ne, by simpa [List.getElem?_set_ne (Ne.symm ne)] using hj⟩
  have no : ¬ Own (env.set i .un) σ a := fun ⟨j, d', hj, ej⟩ => by
    rcases hj with hj | hj
    · obtain ⟨ne, hj⟩ := get hj (fun z => nomatch z)
      exact ne (E.dis j i a ⟨_, .inl hj⟩ ⟨_, .inl h⟩ ej e)
    · obtain ⟨ne, hj⟩ := get hj (fun z => nomatch z)
      exact ne (E.dis j i a ⟨_, .inr hj⟩ ⟨_, .inl h⟩ ej e)
  have up : ∀ b u, H b = some u → (G b ∧ ¬ Own env σ b) → H b = some u ∧ ((G b ∧ b ≠ a) ∧ ¬ Own (env.set i .un) σ b) := fun b u e z => ⟨e, ⟨z.1, fun y => z.2 (y ▸ own)⟩, fun y => z.2 (own_set_un y)⟩
  refine ⟨g, n, no, o.imp up fun u z => z, ⟨by rw [List.length_set]; exact E.len, fun b hb => ⟨⟨(E.new b hb).1, fun y => ?_⟩, (E.new b hb).2⟩, fun j d' hj => ?_, fun j d' hj => ?_, fun j d' hj => ?_, fun j l b hj hl => ?_⟩⟩
  · subst y
    obtain ⟨u, hu, _⟩ := o.there
    rw [hb] at hu; cases hu
  · obtain ⟨ne, hj⟩ := get hj (fun z => nomatch z)
    obtain ⟨v, e1, r⟩ := E.frz j d' hj
    exact ⟨v, e1, r.imp up⟩
  · obtain ⟨ne, hj⟩ := get hj (fun z => nomatch z)
    obtain ⟨b, e1, g1, n1, o1⟩ := E.own j d' hj
    exact ⟨b, e1, ⟨g1, fun y => ne (E.dis j i a ⟨_, .inl hj⟩ ⟨_, .inl h⟩ (y ▸ e1) e)⟩, n1, o1.imp up fun u z => z⟩
  · obtain ⟨ne, hj⟩ := get hj (fun z => nomatch z)
    obtain ⟨b, e1, o1⟩ := E.io j d' hj
    exact ⟨b, e1, o1.imp up fun u z => z⟩
  · have back : ∀ {j : Nat}, (∃ d : D, (env.set i .un)[j]? = some (Slot.own d) ∨ (env.set i .un)[j]? = some (Slot.io d)) → ∃ d : D, env[j]? = some (Slot.own d) ∨ env[j]? = some (Slot.io d) := fun {j} ⟨d, hj⟩ => by
      rcases hj with hj | hj
      · exact ⟨d, .inl (get hj (fun z => nomatch z)).2⟩
      · exact ⟨d, .inr (get hj (fun z => nomatch z)).2⟩
    exact E.dis j l b (back hj) (back hl)
theorem mv_sound {i : Nat} {x : Str} {pos : Pos} {X : Cx} (h : PE X (.Name x pos) (tVar i)) : PE X (.Name x pos) (tE Φ X.K (.mv i)) := by
  refine pe_of h fun σ H Q ⟨G, N, env, Q', E, rd, fin⟩ => ?_
  simp only [rdE] at rd
  obtain ⟨d, e, hQ⟩ := rd
  obtain ⟨a, e1, g, n, o⟩ := E.own i _ e
  refine ⟨_, e1, fin _ _ _ _ _ hQ ⟨⟨fun b o h _ => h, fun z => ?_, fun b z => own_set_un z, fun b z => z, fun j d' hj => ?_, by rw [List.length_set], fun j ⟨d', hj⟩ => ⟨d', (set_un_get hj (fun z => nomatch z)).2⟩, fun j ⟨d', hj⟩ => ⟨d', (set_un_get hj (fun z => nomatch z)).2⟩⟩, ?_⟩⟩
  · unfold DL.E.pur at z; cases z
  · have ne : i ≠ j := fun z => by subst z; rw [e] at hj; cases hj
    exact ⟨d', by simpa [List.getElem?_set_ne ne] using hj⟩
  · exact ⟨a, rfl, mv_fresh E e e1⟩

/-! ### displays -/
theorem nil_sound {X : Cx} : PA X [] (tEs Φ X.K .nil) := by
  refine pa_of pa_nil fun σ H Q ⟨G, N, env, Q', E, rd, fin⟩ => ?_
  simp only [rdEs] at rd
  exact fin _ _ _ _ _ rd ⟨Stp.refl.weak, E, show Reps X.K H (fun a => G a ∧ ¬ Own env σ a) [] [] from .nil⟩
theorem RepK.reps {k : Kd} {d : D} {v : V} {ds : List D} {vs : List V} {k' : Kd} (a : RepK K G σ k H env d v) (b : RepsK K G σ k' H env ds vs) : RepsK K G σ (if k = .b then .b else k') H env (d :: ds) (v :: vs) := by
  have up : ∀ {ds : List D} {vs : List V}, Reps K H (fun a => G a ∧ ¬ Own env σ a) ds vs → Reps K H (fun a => (G a ∧ ¬ Own env σ a) ∨ Own env σ a) ds vs := fun r => r.mono fun a u e z => .inl z
  by_cases h : k = .b
  · rw [if_pos h]
    refine .cons a.wide ?_
    cases k' with
    | b => exact b
    | z => exact up b
    | t => exact up b
  · rw [if_neg h]
    cases k' with
    | b => exact .cons a.wide b
    | z => exact .cons (a.z h) b
    | t => exact .cons (a.z h) b
theorem cons_sound {X : Cx} {e : E} {es : Es} {a : Expr} {as : List Expr} (he : PE X a (tE Φ X.K e)) (hs : PA X as (tEs Φ X.K es)) (st : starEach (a :: as) X.env = (false, eval a X.env) :: starEach as X.env) : PA X (a :: as) (tEs Φ X.K (.cons e es)) := by
  refine pa_of (pa_cons he hs st) fun σ H Q ⟨G, N, env, Q', E, rd, fin⟩ => ?_
  simp only [rdEs] at rd
  refine ⟨G, N, env, _, E, rd, fun k d env1 v H1 rd1 p1 => ?_⟩
  refine ⟨G, N, env1, _, p1.ok, rd1, fun k' ds env2 vs H2 ⟨c, hQ⟩ p2 => ?_⟩
  exact fin _ _ _ _ _ hQ ⟨p1.s.trans p2.s, p2.ok, (p1.rep.carry p2.s c).reps p2.r⟩
theorem reps_list {k : Kd} {ds : List D} {vs : List V} (r : RepsK K G σ k H env ds vs) (h : k ≠ .b) : Reps K H (fun a => G a ∧ ¬ Own env σ a) ds vs := by
  cases k with
  | z => exact r
  | t => exact r
  | b => exact absurd rfl h
theorem RepsK.wide {k : Kd} {ds : List D} {vs : List V} (r : RepsK K G σ k H env ds vs) : Reps K H (fun a => (G a ∧ ¬ Own env σ a) ∨ Own env σ a) ds vs := by
  cases k with
  | z => exact Reps.mono (fun a u e z => .inl z) r
  | t => exact Reps.mono (fun a u e z => .inl z) r
  | b => exact r
theorem grow_upd {p : Addr} {o : HO} (n : H p = none) : ∀ b u, H b = some u → upd H p o b = some u := fun b u e => by rw [upd_ne (ne_of_none e n)]; exact e
theorem tup_sound {X : Cx} {es : Es} {as : List Expr} {k pos} (h : PA X as (tEs Φ X.K es)) : PE X (.Tuple as k pos) (tE Φ X.K (.tup es)) := by
  refine pe_of (pe_tup h) fun σ H Q ⟨G, N, env, Q', E, rd, fin⟩ => ?_
  simp only [rdE] at rd
  refine ⟨G, N, env, _, E, rd, fun k ds env1 vs H1 ⟨hl, hQ⟩ p1 => ⟨by rw [p1.r.wide.length]; exact hl, fun p np => fin _ _ _ _ _ hQ ?_⟩⟩
  have gr := grow_upd (o := .tup vs) np
  have E2 := p1.ok.grow gr
  have s2 : Stp σ H env es.pur (upd H1 p (.tup vs)) env1 := (p1.s.trans (Stp.grow gr)).imp fun h => by rw [h]; rfl
  refine ⟨s2, ?_⟩
  have no : ¬ Own env1 σ p := p1.ok.new_own np
  have g : G p := (p1.ok.new p np).1
  have rk : RepK X.K G σ k (upd H1 p (.tup vs)) env1 (.tuple ds) (.ref p) := by
    cases k with
    | b =>
      show Rep _ _ _ _ _
      unfold Rep
      exact ⟨p, vs, rfl, .inl ⟨upd_same, .inl ⟨g, no⟩⟩, p1.r.wide.imp fun b u e z => ⟨gr b u e, z⟩⟩
    | z =>
      show Rep _ _ _ _ _
      unfold Rep
      exact ⟨p, vs, rfl, .inl ⟨upd_same, g, no⟩, (reps_list p1.r (fun z => nomatch z)).imp fun b u e z => ⟨gr b u e, z⟩⟩
    | t =>
      show Rep _ _ _ _ _
      unfold Rep
      exact ⟨p, vs, rfl, .inl ⟨upd_same, g, no⟩, (reps_list p1.r (fun z => nomatch z)).imp fun b u e z => ⟨gr b u e, z⟩⟩
  exact res_kd E2 rk
end
end DL

/-! DL8: expressions, further: lists, operators, tests, items, slices, built-ins. -/
namespace DL
open PySem PySem.Spec PyProof.Rows L2
section
variable {Φ : Phi} {X : Cx} {G N : Addr → Prop} {σ : L2.St} {H H1 H2 : Hp} {env env1 env2 : DEnv} {p q : Bool}

/-- a new list behind a step -/
theorem post_new {ds : List D} {vs : List V} {a : Addr} (E : EnvOk X.K G N H1 σ env1) (s : Stp σ H env p H1 env1) (r : Reps X.K H1 (fun a => G a ∧ ¬ Own env1 σ a) ds vs) (n : H1 a = none) :
    Post X.K G N σ H env p .t (.list ds) env1 (.ref a) (upd H1 a (.lst vs)) :=
  ⟨(s.trans (Stp.grow (grow_upd n))).imp fun h => by rw [h]; rfl, a, rfl, fresh_list E r n⟩
theorem post_step {k : Kd} {d : D} {v : V} (s : Stp σ H env p H1 env1) (b : Post X.K G N σ H1 env1 true k d env2 v H2) : Post X.K G N σ H env p k d env2 v H2 :=
  ⟨(s.trans b.s).imp fun h => by rw [h]; rfl, b.r⟩

theorem lst_sound {es : Es} {as : List Expr} {pos} (h : PA X as (tEs Φ X.K es)) : PE X (.List as pos) (tE Φ X.K (.lst es)) := by
  refine pe_of (pe_lst h) fun σ H Q ⟨G, N, env, Q', E, rd, fin⟩ => ?_
  simp only [rdE] at rd
  refine ⟨G, N, env, _, E, rd, fun k ds env1 vs H1 ⟨hl, hQ⟩ p1 => ⟨by rw [p1.r.wide.length]; exact hl, fun p np => fin _ _ _ _ _ hQ ?_⟩⟩
  by_cases hk : k = .b
  · rw [if_pos hk]
    have gr := grow_upd (o := .lst vs) np
    refine ⟨(p1.s.trans (Stp.grow gr)).imp fun h => by rw [show es.pur = true from h]; rfl, p1.ok.grow gr, ?_⟩
    show Rep _ _ _ _ _
    unfold Rep
    exact ⟨p, vs, rfl, .inl ⟨.inl upd_same, .inl ⟨(p1.ok.new p np).1, p1.ok.new_own np⟩⟩, p1.r.wide.imp fun b u e z => ⟨gr b u e, z⟩⟩
  · rw [if_neg hk]
    exact post_new p1.ok p1.s (reps_list p1.r hk) np

theorem shal_reps {ds : List D} {vs : List V} (E : EnvOk X.K G N H σ env) (r : Reps X.K H (fun a => (G a ∧ ¬ Own env σ a) ∨ Own env σ a) ds vs) (f : shal (.list ds) = true) : Reps X.K H (fun a => G a ∧ ¬ Own env σ a) ds vs := wide_flats E f r

theorem bin_sound {o : B2} {a b : DL.E} {a' b' : Expr} {pos} (ha : PE X a' (tE Φ X.K a)) (hb : PE X b' (tE Φ X.K b)) : PE X (.BinOp a' (opOf o) b' pos) (tE Φ X.K (.bin o a b)) := by
  refine pe_of (pe_op (op_bin o) ha hb) fun σ H Q ⟨G, N, env, Q', E, rd, fin⟩ => ?_
  simp only [rdE] at rd
  refine ⟨G, N, env, _, E, rd, fun k dx env1 x H1 rd1 p1 => ⟨G, N, env1, _, p1.ok, rd1, fun k' dy env2 y H2 ⟨c, t, r, e, fl, hQ⟩ p2 => ?_⟩⟩
  have s := p1.s.trans p2.s
  by_cases hb : k ≠ .b ∧ k' ≠ .b
  · refine ⟨_, dx, dy, t, r, (p1.rep.carry p2.s c).z hb.1, p2.rep.z hb.2, e, fun ht i hi => ?_, fun ht ds xs hr rr p np => ?_⟩
    · subst ht hi
      exact fin _ _ _ _ _ hQ (post_int p2.ok s)
    · subst ht hr
      exact fin _ _ _ _ _ hQ (post_new p2.ok s rr np)
  · refine ⟨_, dx, dy, t, r, (p1.rep.carry p2.s c).wide, p2.rep.wide, e, fun ht i hi => ?_, fun ht ds xs hr rr p np => ?_⟩
    · subst ht hi
      exact fin _ _ _ _ _ hQ (post_int p2.ok s)
    · subst ht hr
      have f : shal (.list ds) = true := by
        rcases fl with z | z
        · exact absurd z hb
        · exact z
      exact fin _ _ _ _ _ hQ (post_new p2.ok s (shal_reps p2.ok rr f) np)
theorem neg_sound {a : DL.E} {a' : Expr} {pos} (ha : PE X a' (tE Φ X.K a)) : PE X (.UnaryOp .USub a' pos) (tE Φ X.K (.neg a)) := by
  refine pe_of (pe_un un_neg ha) fun σ H Q ⟨G, N, env, Q', E, rd, fin⟩ => ?_
  simp only [rdE] at rd
  refine ⟨G, N, env, _, E, rd, fun k dx env1 x H1 ⟨i, e, hQ⟩ p1 => ?_⟩
  subst e
  exact ⟨i, (p1.rep.wide).int_inv, fin _ _ _ _ _ hQ (post_int p1.ok p1.s)⟩

/-! ### comparisons -/
/-- what a reading whose answer is a bool asks -/
def BoolEnd (Φ : Phi) (K : Frag) (e : DL.E) (σ : L2.St) (H : Hp) (Q : Bool → Hp → Prop) : Prop := ∃ (G N : Addr → Prop) (env : DEnv) (Q' : Kd → D → DEnv → Prop), EnvOk K G N H σ env ∧ rdE Φ e env Q' ∧
    ∀ r env' H', Q' .z (.bool r) env' → Stp σ H env e.pur H' env' → EnvOk K G N H' σ env' → Q r H'
theorem BoolEnd.ofE {e : DL.E} {Q : VK} (h : tE Φ X.K e σ H Q) : BoolEnd Φ X.K e σ H fun r H' => Q (.bl r) H' := by
  obtain ⟨G, N, env, Q', E, rd, fin⟩ := h
  exact ⟨G, N, env, Q', E, rd, fun r env' H' hQ s E' => fin _ _ _ _ _ hQ (post_bool E' s)⟩
theorem BoolEnd.ofT {e : DL.E} {Q : Bool → Hp → Prop} (h : tT Φ X.K e σ H Q) : BoolEnd Φ X.K e σ H Q := by
  obtain ⟨G, N, env, R, E, rd, fin⟩ := h
  refine ⟨G, N, env, _, E, rd, fun r env' H' ⟨t, ht, hR⟩ s E' => ?_⟩
  cases ht
  exact fin _ _ _ hR s E'

theorem cmp_reads {o : C2} {a b : DL.E} {Q : VK} (h : BoolEnd Φ X.K (.cmp o a b) σ H fun r H' => Q (.bl r) H') : tOp (rCmp X.K o) (tE Φ X.K a) (tE Φ X.K b) σ H Q := by
  obtain ⟨G, N, env, Q', E, rd, fin⟩ := h
  simp only [rdE] at rd
  refine ⟨G, N, env, _, E, rd, fun k dx env1 x H1 rd1 p1 => ⟨G, N, env1, _, p1.ok, rd1, fun k' dy env2 y H2 ⟨c, r, e, hQ⟩ p2 => ?_⟩⟩
  exact ⟨_, dx, dy, r, (p1.rep.carry p2.s c).wide, p2.rep.wide, e, fin _ _ _ hQ (p1.s.trans p2.s) p2.ok⟩
theorem cOf_in (o : C2) (b : Expr) (hb : ∀ es k p, b ≠ .Set es k p) : behindInMarks (cOf o) b = false := by
  unfold behindInMarks
  cases b <;> first | rfl | exact absurd rfl (hb _ _ _)
theorem cmp_sound (hu : X.A.units + 65 < cLine) {o : C2} {a b : DL.E} {a' b' : Expr} {pos} (ha : PE X a' (tE Φ X.K a)) (hb : PE X b' (tE Φ X.K b)) (hs : ∀ es k p, b' ≠ .Set es k p) :
    PE X (.Compare a' [cOf o] [b'] pos) (tE Φ X.K (.cmp o a b)) := pe_of (pe_cmpR (op_cmp hu o) ha hb (cOf_in o b' hs)) fun σ H Q h => cmp_reads (.ofE h)
theorem cmpT_sound (hu : X.A.units + 65 < cLine) {o : C2} {a b : DL.E} {a' b' : Expr} {pos} (ha : PE X a' (tE Φ X.K a)) (hb : PE X b' (tE Φ X.K b)) (hs : ∀ es k p, b' ≠ .Set es k p) :
    PT X (.Compare a' [cOf o] [b'] pos) (tT Φ X.K (.cmp o a b)) := pt_of (pt_cmpR (op_cmp hu o) ha hb (cOf_in o b' hs)) fun σ H Q h => by
  obtain ⟨G, N, env, Q', E, rd, fin⟩ := BoolEnd.ofT h
  exact cmp_reads (Q := fun x H' => ∃ k, x = .bl k ∧ Q k H') ⟨G, N, env, Q', E, rd, fun r env' H' hQ s E' => ⟨r, rfl, fin r env' H' hQ s E'⟩⟩

theorem chain_reads {o p : C2} {a b c : DL.E} {Q : VK} (h : BoolEnd Φ X.K (.chain o p a b c) σ H fun r H' => Q (.bl r) H') : tChain (rCmp X.K o) (rCmp X.K p) (tE Φ X.K a) (tE Φ X.K b) (tE Φ X.K c) σ H Q := by
  obtain ⟨G, N, env, Q', E, rd, fin⟩ := h
  simp only [rdE] at rd
  refine ⟨G, N, env, _, E, rd, fun k dx env1 x H1 rd1 p1 => ⟨G, N, env1, _, p1.ok, rd1, fun k' dy env2 y H2 ⟨c1, c2, r, e, hQ⟩ p2 => ?_⟩⟩
  have s := p1.s.trans p2.s
  refine ⟨_, dx, dy, r, (p1.rep.carry p2.s c1).wide, p2.rep.wide, e, r, rfl, ?_⟩
  cases r with
  | false =>
    rw [if_neg Bool.false_ne_true]
    rw [if_neg Bool.false_ne_true] at hQ
    refine fin _ _ _ hQ (s.imp fun h => ?_) p2.ok
    unfold DL.E.pur at h
    exact (Bool.and_eq_true_iff.mp h).1
  | true =>
    rw [if_pos rfl]
    rw [if_pos rfl] at hQ
    refine ⟨G, N, env2, _, p2.ok, hQ, fun k3 dz env3 z H3 ⟨r', e', hQ'⟩ p3 => ?_⟩
    exact ⟨_, dy, dz, r', (p2.rep.carry p3.s c2).wide, p3.rep.wide, e', fin _ _ _ hQ' (s.trans p3.s) p3.ok⟩
theorem last_in (o p : C2) (b c : Expr) (hb : ∀ es k p, c ≠ .Set es k p) : lastMarks [cOf o, cOf p] [b, c] = false := cOf_in p c hb
theorem chain_sound (hu : X.A.units + 65 < cLine) {o p : C2} {a b c : DL.E} {a' b' c' : Expr} {pos} (ha : PE X a' (tE Φ X.K a)) (hb : PE X b' (tE Φ X.K b)) (hc : PE X c' (tE Φ X.K c)) (hs : ∀ es k p, c' ≠ .Set es k p) :
    PE X (.Compare a' [cOf o, cOf p] [b', c'] pos) (tE Φ X.K (.chain o p a b c)) := pe_of (pe_chain (op_cmp hu o) (op_cmp hu p) ha hb hc (last_in o p b' c' hs)) fun σ H Q h => chain_reads (.ofE h)
theorem chainT_sound (hu : X.A.units + 65 < cLine) {o p : C2} {a b c : DL.E} {a' b' c' : Expr} {pos} (ha : PE X a' (tE Φ X.K a)) (hb : PE X b' (tE Φ X.K b)) (hc : PE X c' (tE Φ X.K c)) (hs : ∀ es k p, c' ≠ .Set es k p) :
    PT X (.Compare a' [cOf o, cOf p] [b', c'] pos) (tT Φ X.K (.chain o p a b c)) := pt_of (pt_chain (op_cmp hu o) (op_cmp hu p) ha hb hc (last_in o p b' c' hs)) fun σ H Q h => by
  obtain ⟨G, N, env, Q', E, rd, fin⟩ := BoolEnd.ofT h
  exact chain_reads (Q := fun x H' => ∃ k, x = .bl k ∧ Q k H') ⟨G, N, env, Q', E, rd, fun r env' H' hQ s E' => ⟨r, rfl, fin r env' H' hQ s E'⟩⟩

theorem non_iff {K : Frag} {P : Addr → Prop} {d : D} {x : V} (h : Rep K H P d x) : decide (x = .non) = isNonD d := by
  cases d with
  | none => rw [h.non_inv]; rfl
  | bool b => rw [h.bool_inv]; rfl
  | int i => rw [h.int_inv]; rfl
  | str s => rw [h.str_inv]; rfl
  | list ds => obtain ⟨a, xs, rfl, _⟩ := h.list_inv; rfl
  | tuple ds => obtain ⟨a, xs, rfl, _⟩ := h.tuple_inv; rfl
  | dict ds => unfold Rep at h; obtain ⟨a, ks, rfl, _⟩ := h; rfl
theorem isN_reads {a : DL.E} {Q : VK} (h : BoolEnd Φ X.K (.isN a) σ H fun r H' => Q (.bl r) H') : tIsN (tE Φ X.K a) σ H Q := by
  obtain ⟨G, N, env, Q', E, rd, fin⟩ := h
  simp only [rdE] at rd
  refine ⟨G, N, env, _, E, rd, fun k dx env1 x H1 hQ p1 => ?_⟩
  show Q (.bl (decide (x = .non))) H1
  rw [non_iff p1.rep.wide]
  exact fin _ _ _ hQ p1.s p1.ok
theorem notN_reads {a : DL.E} {Q : VK} (h : BoolEnd Φ X.K (.notN a) σ H fun r H' => Q (.bl r) H') : tNotN (tE Φ X.K a) σ H Q := by
  obtain ⟨G, N, env, Q', E, rd, fin⟩ := h
  simp only [rdE] at rd
  refine ⟨G, N, env, _, E, rd, fun k dx env1 x H1 hQ p1 => ?_⟩
  show Q (.bl (!decide (x = .non))) H1
  rw [non_iff p1.rep.wide]
  exact fin _ _ _ hQ p1.s p1.ok
theorem isN_sound {a : DL.E} {a' : Expr} {j p pos} (ha : PE X a' (tE Φ X.K a)) : PE X (.Compare a' [.Is] [.Constant .none j p] pos) (tE Φ X.K (.isN a)) := pe_of (pe_cmp (pc_isN ha) rfl) fun σ H Q h => isN_reads (.ofE h)
theorem notN_sound {a : DL.E} {a' : Expr} {j p pos} (ha : PE X a' (tE Φ X.K a)) : PE X (.Compare a' [.IsNot] [.Constant .none j p] pos) (tE Φ X.K (.notN a)) := pe_of (pe_cmp (pc_notN ha) rfl) fun σ H Q h => notN_reads (.ofE h)
theorem isNT_sound {a : DL.E} {a' : Expr} {j p pos} (ha : PE X a' (tE Φ X.K a)) : PT X (.Compare a' [.Is] [.Constant .none j p] pos) (tT Φ X.K (.isN a)) := pt_of (pt_cmp (pc_isN ha) rfl) fun σ H Q h => by
  obtain ⟨G, N, env, Q', E, rd, fin⟩ := BoolEnd.ofT h
  exact isN_reads (Q := fun x H' => ∃ k, x = .bl k ∧ Q k H') ⟨G, N, env, Q', E, rd, fun r env' H' hQ s E' => ⟨r, rfl, fin r env' H' hQ s E'⟩⟩
theorem notNT_sound {a : DL.E} {a' : Expr} {j p pos} (ha : PE X a' (tE Φ X.K a)) : PT X (.Compare a' [.IsNot] [.Constant .none j p] pos) (tT Φ X.K (.notN a)) := pt_of (pt_cmp (pc_notN ha) rfl) fun σ H Q h => by
  obtain ⟨G, N, env, Q', E, rd, fin⟩ := BoolEnd.ofT h
  exact notN_reads (Q := fun x H' => ∃ k, x = .bl k ∧ Q k H') ⟨G, N, env, Q', E, rd, fun r env' H' hQ s E' => ⟨r, rfl, fin r env' H' hQ s E'⟩⟩

/-! ### not, and, or, if -/
theorem not_sound {a : DL.E} {a' : Expr} {pos} (ha : PE X a' (tE Φ X.K a)) : PE X (.UnaryOp .Not a' pos) (tE Φ X.K (.not a)) := by
  refine pe_of (pe_notT ha) fun σ H Q ⟨G, N, env, Q', E, rd, fin⟩ => ?_
  simp only [rdE] at rd
  refine ⟨G, N, env, _, E, rd, fun k dx env1 x H1 ⟨b, e, hQ⟩ p1 => ⟨b, truth_ok e p1.rep.wide, fin _ _ _ _ _ hQ (post_bool p1.ok p1.s)⟩⟩
theorem notT_sound {a : DL.E} {a' : Expr} {pos} (ha : PT X a' (tT Φ X.K a)) : PT X (.UnaryOp .Not a' pos) (tT Φ X.K (.not a)) := by
  refine pt_of (pt_not ha) fun σ H Q ⟨G, N, env, R, E, rd, fin⟩ => ?_
  simp only [rdE] at rd
  refine ⟨G, N, env, fun b env' => R (!b) env', E, ?_, fun t env' H' hR s E' => fin _ _ _ hR s E'⟩
  have e : (fun (_ : Kd) (x : D) env1 => ∃ b, truthD x = some b ∧ ∃ t, truthD (.bool !b) = some t ∧ R t env1) = fun _ x env' => ∃ t, truthD x = some t ∧ R (!t) env' := by
    funext k x env1
    refine propext ⟨fun ⟨b, h, t, h2, h3⟩ => ⟨b, h, by cases h2; exact h3⟩, fun ⟨b, h, h3⟩ => ⟨b, h, _, rfl, h3⟩⟩
  rw [← e]
  exact rd
theorem ife_sound {c a b : DL.E} {c' a' b' : Expr} {pos} (hc : PT X c' (tT Φ X.K c)) (ha : PE X a' (tE Φ X.K a)) (hb : PE X b' (tE Φ X.K b)) : PE X (.IfExp c' a' b' pos) (tE Φ X.K (.ife c a b)) := by
  refine pe_of (pe_ifExp hc ha hb) fun σ H Q ⟨G, N, env, Q', E, rd, fin⟩ => ?_
  simp only [rdE] at rd
  refine ⟨G, N, env, fun t env1 => if t = true then rdE Φ a env1 Q' else rdE Φ b env1 Q', E, rd, fun t env1 H1 hR s E1 => ?_⟩
  cases t with
  | true =>
    rw [if_pos rfl] at hR ⊢
    refine ⟨G, N, env1, Q', E1, hR, fun k d env2 v H2 hQ p2 => fin _ _ _ _ _ hQ ⟨(s.trans p2.s).imp fun h => ?_, p2.r⟩⟩
    unfold DL.E.pur at h
    obtain ⟨h1, h2⟩ := Bool.and_eq_true_iff.mp h
    exact h1
  | false =>
    rw [if_neg Bool.false_ne_true] at hR ⊢
    refine ⟨G, N, env1, Q', E1, hR, fun k d env2 v H2 hQ p2 => fin _ _ _ _ _ hQ ⟨(s.trans p2.s).imp fun h => ?_, p2.r⟩⟩
    unfold DL.E.pur at h
    obtain ⟨h1, h2⟩ := Bool.and_eq_true_iff.mp h
    rw [(Bool.and_eq_true_iff.mp h1).1, h2]; rfl
/-- lists of tests: as values -/
def tAnd' (Φ : Phi) (K : Frag) (es : Es) : TE := fun σ H Q => ∃ (G N : Addr → Prop) (env : DEnv) (Q' : Kd → D → DEnv → Prop), EnvOk K G N H σ env ∧ rdAnd Φ es env Q' ∧
  ∀ k d env' v H', Q' k d env' → Post K G N σ H env es.pur k d env' v H' → Q v H'
def tOr' (Φ : Phi) (K : Frag) (es : Es) : TE := fun σ H Q => ∃ (G N : Addr → Prop) (env : DEnv) (Q' : Kd → D → DEnv → Prop), EnvOk K G N H σ env ∧ rdOr Φ es env Q' ∧
  ∀ k d env' v H', Q' k d env' → Post K G N σ H env es.pur k d env' v H' → Q v H'
def tAndT (Φ : Phi) (K : Frag) (es : Es) : TT := fun σ H Q => ∃ (G N : Addr → Prop) (env : DEnv) (R : Bool → DEnv → Prop), EnvOk K G N H σ env ∧
  rdAnd Φ es env (fun _ x env' => ∃ t, truthD x = some t ∧ R t env') ∧ ∀ t env' H', R t env' → Stp σ H env es.pur H' env' → EnvOk K G N H' σ env' → Q t H'
def tOrT (Φ : Phi) (K : Frag) (es : Es) : TT := fun σ H Q => ∃ (G N : Addr → Prop) (env : DEnv) (R : Bool → DEnv → Prop), EnvOk K G N H σ env ∧
  rdOr Φ es env (fun _ x env' => ∃ t, truthD x = some t ∧ R t env') ∧ ∀ t env' H', R t env' → Stp σ H env es.pur H' env' → EnvOk K G N H' σ env' → Q t H'
theorem pur_one {e : DL.E} (h : (Es.cons e .nil).pur = true) : e.pur = true := by unfold Es.pur at h; exact (Bool.and_eq_true_iff.mp h).1
theorem and1_sound {e : DL.E} {a : Expr} {pos} (h : PE X a (tE Φ X.K e)) : PE X (.BoolOp .And [a] pos) (tAnd' Φ X.K (.cons e .nil)) := by
  refine pe_of (pe_one h) fun σ H Q ⟨G, N, env, Q', E, rd, fin⟩ => ?_
  simp only [rdAnd] at rd
  exact ⟨G, N, env, Q', E, rd, fun k d env' v H' hQ p => fin _ _ _ _ _ hQ ⟨p.s.imp pur_one, p.r⟩⟩
theorem or1_sound {e : DL.E} {a : Expr} {pos} (h : PE X a (tE Φ X.K e)) : PE X (.BoolOp .Or [a] pos) (tOr' Φ X.K (.cons e .nil)) := by
  refine pe_of (pe_one h) fun σ H Q ⟨G, N, env, Q', E, rd, fin⟩ => ?_
  simp only [rdOr] at rd
  exact ⟨G, N, env, Q', E, rd, fun k d env' v H' hQ p => fin _ _ _ _ _ hQ ⟨p.s.imp pur_one, p.r⟩⟩
theorem and1T_sound {e : DL.E} {a : Expr} {pos} (h : PT X a (tT Φ X.K e)) : PW X (.BoolOp .And [a] pos) (tAndT Φ X.K (.cons e .nil)) := by
  refine ⟨fun wh pins s σ H Q I ⟨G, N, env, R, E, rd, fin⟩ => (pw_and1 h).run wh pins s σ H Q I ?_⟩
  simp only [rdAnd] at rd
  exact ⟨G, N, env, R, E, rd, fun t env' H' hR s E' => fin _ _ _ hR (s.imp pur_one) E'⟩
theorem or1T_sound {e : DL.E} {a : Expr} {pos} (h : PT X a (tT Φ X.K e)) : PW X (.BoolOp .Or [a] pos) (tOrT Φ X.K (.cons e .nil)) := by
  refine ⟨fun wh pins s σ H Q I ⟨G, N, env, R, E, rd, fin⟩ => (pw_or1 h).run wh pins s σ H Q I ?_⟩
  simp only [rdOr] at rd
  exact ⟨G, N, env, R, E, rd, fun t env' H' hR s E' => fin _ _ _ hR (s.imp pur_one) E'⟩
theorem pur_tail {e e2 : DL.E} {es : Es} (h : (Es.cons e (.cons e2 es)).pur = true) : e.pur = true ∧ (Es.cons e2 es).pur = true := by
  rw [Es.pur] at h; exact Bool.and_eq_true_iff.mp h
theorem rdAnd_two {e e2 : DL.E} {es : Es} {env : DEnv} {Q : Kd → D → DEnv → Prop} : rdAnd Φ (.cons e (.cons e2 es)) env Q = rdE Φ e env fun k x env1 => ∃ b, truthD x = some b ∧ if b = true then rdAnd Φ (.cons e2 es) env1 Q else Q k x env1 := rfl
theorem rdOr_two {e e2 : DL.E} {es : Es} {env : DEnv} {Q : Kd → D → DEnv → Prop} : rdOr Φ (.cons e (.cons e2 es)) env Q = rdE Φ e env fun k x env1 => ∃ b, truthD x = some b ∧ if b = true then Q k x env1 else rdOr Φ (.cons e2 es) env1 Q := rfl
theorem andC_sound {e e2 : DL.E} {es : Es} {a a2 : Expr} {as : List Expr} {pos} (h : PE X a (tE Φ X.K e)) (hs : PE X (.BoolOp .And (a2 :: as) pos) (tAnd' Φ X.K (.cons e2 es))) :
    PE X (.BoolOp .And (a :: a2 :: as) pos) (tAnd' Φ X.K (.cons e (.cons e2 es))) := by
  refine pe_of (pe_andT h hs) fun σ H Q ⟨G, N, env, Q', E, rd, fin⟩ => ?_
  rw [rdAnd_two] at rd
  refine ⟨G, N, env, _, E, rd, fun k d env1 v H1 ⟨b, e', hb⟩ p1 => ⟨b, truth_ok e' p1.rep.wide, ?_⟩⟩
  cases b with
  | true =>
    rw [if_pos rfl] at hb ⊢
    exact ⟨G, N, env1, Q', p1.ok, hb, fun k d env2 v H2 hQ p2 => fin _ _ _ _ _ hQ ⟨(p1.s.trans p2.s).imp fun h => by rw [(pur_tail h).1, (pur_tail h).2]; rfl, p2.r⟩⟩
  | false =>
    rw [if_neg Bool.false_ne_true] at hb ⊢
    exact fin _ _ _ _ _ hb ⟨p1.s.imp fun h => (pur_tail h).1, p1.r⟩
theorem orC_sound {e e2 : DL.E} {es : Es} {a a2 : Expr} {as : List Expr} {pos} (h : PE X a (tE Φ X.K e)) (hs : PE X (.BoolOp .Or (a2 :: as) pos) (tOr' Φ X.K (.cons e2 es))) :
    PE X (.BoolOp .Or (a :: a2 :: as) pos) (tOr' Φ X.K (.cons e (.cons e2 es))) := by
  refine pe_of (pe_orT h hs) fun σ H Q ⟨G, N, env, Q', E, rd, fin⟩ => ?_
  rw [rdOr_two] at rd
  refine ⟨G, N, env, _, E, rd, fun k d env1 v H1 ⟨b, e', hb⟩ p1 => ⟨b, truth_ok e' p1.rep.wide, ?_⟩⟩
  cases b with
  | false =>
    rw [if_neg Bool.false_ne_true] at hb ⊢
    exact ⟨G, N, env1, Q', p1.ok, hb, fun k d env2 v H2 hQ p2 => fin _ _ _ _ _ hQ ⟨(p1.s.trans p2.s).imp fun h => by rw [(pur_tail h).1, (pur_tail h).2]; rfl, p2.r⟩⟩
  | true =>
    rw [if_pos rfl] at hb ⊢
    exact fin _ _ _ _ _ hb ⟨p1.s.imp fun h => (pur_tail h).1, p1.r⟩
theorem andTC_sound {e e2 : DL.E} {es : Es} {a a2 : Expr} {as : List Expr} {pos} (h : PT X a (tT Φ X.K e)) (hs : PW X (.BoolOp .And (a2 :: as) pos) (tAndT Φ X.K (.cons e2 es))) :
    PW X (.BoolOp .And (a :: a2 :: as) pos) (tAndT Φ X.K (.cons e (.cons e2 es))) := by
  refine ⟨fun wh pins s σ H Q I ⟨G, N, env, R, E, rd, fin⟩ => (pw_and h hs).run wh pins s σ H Q I ?_⟩
  rw [rdAnd_two] at rd
  refine ⟨G, N, env, fun b env1 => if b = true then rdAnd Φ (.cons e2 es) env1 (fun _ x env' => ∃ t, truthD x = some t ∧ R t env') else R false env1, E, ?_, fun b env1 H1 hb s1 E1 => ?_⟩
  · have e : (fun (k : Kd) (x : D) env1 => ∃ b, truthD x = some b ∧ if b = true then rdAnd Φ (.cons e2 es) env1 (fun _ x env' => ∃ t, truthD x = some t ∧ R t env') else ∃ t, truthD x = some t ∧ R t env1) =
        fun _ x env1 => ∃ b, truthD x = some b ∧ if b = true then rdAnd Φ (.cons e2 es) env1 (fun _ x env' => ∃ t, truthD x = some t ∧ R t env') else R false env1 := by
      funext k x env1
      refine propext ⟨fun ⟨b, h, q⟩ => ⟨b, h, ?_⟩, fun ⟨b, h, q⟩ => ⟨b, h, ?_⟩⟩
      · cases b with
        | true => exact q
        | false =>
          obtain ⟨t, h2, h3⟩ := q
          rw [h] at h2; cases h2
          exact h3
      · cases b with
        | true => exact q
        | false => exact ⟨false, h, q⟩
    rw [← e]
    exact rd
  · cases b with
    | true =>
      rw [if_pos rfl] at hb ⊢
      exact ⟨G, N, env1, R, E1, hb, fun t env2 H2 hR s2 E2 => fin _ _ _ hR ((s1.trans s2).imp fun h => by rw [(pur_tail h).1, (pur_tail h).2]; rfl) E2⟩
    | false =>
      rw [if_neg Bool.false_ne_true] at hb ⊢
      exact fin _ _ _ hb (s1.imp fun h => (pur_tail h).1) E1
theorem orTC_sound {e e2 : DL.E} {es : Es} {a a2 : Expr} {as : List Expr} {pos} (h : PT X a (tT Φ X.K e)) (hs : PW X (.BoolOp .Or (a2 :: as) pos) (tOrT Φ X.K (.cons e2 es))) :
    PW X (.BoolOp .Or (a :: a2 :: as) pos) (tOrT Φ X.K (.cons e (.cons e2 es))) := by
  refine ⟨fun wh pins s σ H Q I ⟨G, N, env, R, E, rd, fin⟩ => (pw_or h hs).run wh pins s σ H Q I ?_⟩
  rw [rdOr_two] at rd
  refine ⟨G, N, env, fun b env1 => if b = true then R true env1 else rdOr Φ (.cons e2 es) env1 (fun _ x env' => ∃ t, truthD x = some t ∧ R t env'), E, ?_, fun b env1 H1 hb s1 E1 => ?_⟩
  · have e : (fun (k : Kd) (x : D) env1 => ∃ b, truthD x = some b ∧ if b = true then ∃ t, truthD x = some t ∧ R t env1 else rdOr Φ (.cons e2 es) env1 (fun _ x env' => ∃ t, truthD x = some t ∧ R t env')) =
        fun _ x env1 => ∃ b, truthD x = some b ∧ if b = true then R true env1 else rdOr Φ (.cons e2 es) env1 (fun _ x env' => ∃ t, truthD x = some t ∧ R t env') := by
      funext k x env1
      refine propext ⟨fun ⟨b, h, q⟩ => ⟨b, h, ?_⟩, fun ⟨b, h, q⟩ => ⟨b, h, ?_⟩⟩
      · cases b with
        | false => exact q
        | true =>
          obtain ⟨t, h2, h3⟩ := q
          rw [h] at h2; cases h2
          exact h3
      · cases b with
        | false => exact q
        | true => exact ⟨true, h, q⟩
    rw [← e]
    exact rd
  · cases b with
    | false =>
      rw [if_neg Bool.false_ne_true] at hb ⊢
      exact ⟨G, N, env1, R, E1, hb, fun t env2 H2 hR s2 E2 => fin _ _ _ hR ((s1.trans s2).imp fun h => by rw [(pur_tail h).1, (pur_tail h).2]; rfl) E2⟩
    | true =>
      rw [if_pos rfl] at hb ⊢
      exact fin _ _ _ hb (s1.imp fun h => (pur_tail h).1) E1
/-- a test by the value's truth -/
theorem truth_sound {e : DL.E} {a : Expr} (h : PE X a (tE Φ X.K e)) (he : ∀ whole, isTrue a X.env whole = (do let v ← whole; standAt a.pos; holding [v] (truthy v))) : PT X a (tT Φ X.K e) := by
  refine pt_of (pt_truth h he) fun σ H Q ⟨G, N, env, R, E, rd, fin⟩ => ?_
  exact ⟨G, N, env, _, E, rd, fun k d env1 v H1 ⟨t, ht, hR⟩ p1 => ⟨t, truth_ok ht p1.rep.wide, fin _ _ _ hR p1.s p1.ok⟩⟩
end
end DL

/-! DL9: items, slices, built-ins, calls. -/
namespace DL
open PySem PySem.Spec PyProof.Rows L2
section
variable {Φ : Phi} {X : Cx} {G N : Addr → Prop} {σ : L2.St} {H H1 H2 : Hp} {env env1 env2 : DEnv} {p q : Bool}

/-! ### items, slices -/
theorem plainIx {b : Expr} (hb : ∀ l u s p, b ≠ .Slice l u s p) : PlainIx b := by
  intro o i
  unfold subscripted
  cases b <;> first | rfl | exact absurd rfl (hb _ _ _ _)
theorem idx_sound {a b : DL.E} {a' b' : Expr} {pos} (ha : PE X a' (tE Φ X.K a)) (hb : PE X b' (tE Φ X.K b)) (hs : ∀ l u s p, b' ≠ .Slice l u s p) : PE X (.Subscript a' b' pos) (tE Φ X.K (.idx a b)) := by
  refine pe_of (pe_ix ix_seq ha hb (plainIx hs)) fun σ H Q ⟨G, N, env, Q', E, rd, fin⟩ => ?_
  simp only [rdE] at rd
  refine ⟨G, N, env, _, E, rd, fun k dx env1 x H1 rd1 p1 => ⟨G, N, env1, _, p1.ok, rd1, fun k' dy env2 y H2 ⟨c, r, e, hQ⟩ p2 => ?_⟩⟩
  have rx := p1.rep.carry p2.s c
  have rk : ∃ v, RepK X.K G σ k H2 env2 r v ∧ ∀ Q : VK, Q v H2 → rIx X.K x y H2 Q := by
    cases k with
    | b => exact idx_ok rx p2.rep.wide e
    | z =>
      obtain ⟨v, h1, h2⟩ := idx_ok (P := fun a => G a ∧ ¬ Own env2 σ a) rx (y := y) (dy := dy) (by
        cases dy <;> (cases dx <;> simp only [idxD, reduceCtorEq] at e) <;> (rw [p2.rep.wide.int_inv]; exact .int_)) e
      exact ⟨v, h1, h2⟩
    | t =>
      obtain ⟨v, h1, h2⟩ := idx_ok (P := fun a => G a ∧ ¬ Own env2 σ a) rx (y := y) (dy := dy) (by
        cases dy <;> (cases dx <;> simp only [idxD, reduceCtorEq] at e) <;> (rw [p2.rep.wide.int_inv]; exact .int_)) e
      exact ⟨v, h1, h2⟩
  obtain ⟨v, h1, h2⟩ := rk
  exact h2 _ (fin _ _ _ _ _ hQ ⟨p1.s.trans p2.s, res_kd p2.ok h1⟩)

/-- a name's value, as it stands -/
theorem var_val {i : Nat} {k : Kd} {d : D} (E : EnvOk X.K G N H σ env) (h : varD env i = some (k, d)) : ∃ v, σ[i]? = some (some v) ∧ RepK X.K G σ k H env d v ∧
    ∀ ds, d = .list ds → ∃ a xs, v = .ref a ∧ SqL X.K H a xs ∧ Reps X.K H (fun a => G a ∧ ¬ Own env σ a) ds xs := by
  have own : ∀ {a : Addr}, σ[i]? = some (some (.ref a)) → (env[i]? = some (Slot.own d) ∨ env[i]? = some (Slot.io d)) → OwnO X.K H (fun a => G a ∧ ¬ Own env σ a) a d →
      RepK X.K G σ .b H env d (.ref a) ∧ ∀ ds, d = .list ds → ∃ a' xs, (V.ref a) = .ref a' ∧ SqL X.K H a' xs ∧ Reps X.K H (fun a => G a ∧ ¬ Own env σ a) ds xs := fun {a} e1 hi o => by
    have ow : Own env σ a := ⟨i, _, hi, e1⟩
    have up : ∀ b u, H b = some u → (G b ∧ ¬ Own env σ b) → (G b ∧ ¬ Own env σ b) ∨ Own env σ b := fun b u e z => .inl z
    rcases o with ⟨ds, xs, rfl, q, r⟩ | ⟨kvs, ks, rfl, q, r⟩
    · refine ⟨?_, fun ds' e => ?_⟩
      · show Rep _ _ _ (.list ds) _
        unfold Rep
        exact ⟨a, xs, rfl, .inl ⟨.inl q, .inr ow⟩, r.mono up⟩
      · cases e
        exact ⟨a, xs, rfl, .of q, r⟩
    · refine ⟨?_, fun ds' e => nomatch e⟩
      show Rep _ _ _ (.dict kvs) _
      unfold Rep
      exact ⟨a, ks, rfl, ⟨q, .inr ow⟩, r.imp fun b u e z => ⟨e, up b u e z⟩⟩
  unfold varD at h
  split at h <;> cases h
  · rename_i h
    obtain ⟨v, e1, r⟩ := E.frz i _ h
    refine ⟨v, e1, r, fun ds e => ?_⟩
    subst e
    obtain ⟨a, xs, rfl, l, q⟩ := r.list_inv
    exact ⟨a, xs, rfl, l.sq, q⟩
  · rename_i h
    obtain ⟨a, e1, _, _, o⟩ := E.own i _ h
    exact ⟨_, e1, own e1 (.inl h) o⟩
  · rename_i h
    obtain ⟨a, e1, o⟩ := E.io i _ h
    exact ⟨_, e1, own e1 (.inr h) o⟩
theorem idxD_int {dx dy r : D} (e : idxD dx dy = some r) : ∃ n, dy = .int n := by
  cases dx <;> cases dy <;> simp only [idxD, reduceCtorEq] at e <;> exact ⟨_, rfl⟩
theorem idxv_sound {i : Nat} {b : DL.E} {x : Str} {b' : Expr} {p pos} (hx : PE X (.Name x p) (tVar i)) (hb : PE X b' (tE Φ X.K b)) (hs : ∀ l u s p, b' ≠ .Slice l u s p) : PE X (.Subscript (.Name x p) b' pos) (tE Φ X.K (.idxv i b)) := by
  refine pe_of (pe_ix ix_seq hx hb (plainIx hs)) fun σ H Q ⟨G, N, env, Q', E, rd, fin⟩ => ?_
  simp only [rdE] at rd
  obtain ⟨h0, rd⟩ := rd
  obtain ⟨⟨k0, d0⟩, h0⟩ := Option.isSome_iff_exists.mp h0
  obtain ⟨v, e1, _⟩ := var_val E h0
  refine ⟨v, e1, G, N, env, _, E, rd, fun k' dy env1 y H1 ⟨k, dx, hv, r, e, hQ⟩ p1 => ?_⟩
  obtain ⟨v', e1', rk, rl⟩ := var_val p1.ok hv
  rw [e1] at e1'
  cases e1'
  cases dx with
  | list ds =>
    obtain ⟨a, xs, rfl, l, q⟩ := rl ds rfl
    obtain ⟨n, rfl⟩ := idxD_int e
    simp only [idxD] at e
    obtain ⟨w, h1, h2⟩ := atI_reps q e
    rw [p1.rep.wide.int_inv]
    exact .inl ⟨a, xs, n, w, rfl, rfl, l, h1, fin _ _ _ _ _ hQ ⟨p1.s, p1.ok, h2⟩⟩
  | tuple ds =>
    obtain ⟨n, rfl⟩ := idxD_int e
    have z : ∃ w, RepK X.K G σ k H1 env1 r w ∧ ∀ Q : VK, Q w H1 → rIx X.K v y H1 Q := by
      have hy : ∀ {P : Addr → Prop}, Rep X.K H1 P (.int n) y := by rw [p1.rep.wide.int_inv]; exact .int_
      cases k with
      | b => exact idx_ok rk hy (dx := .tuple ds) (dy := .int n) e
      | z => exact idx_ok (P := fun a => G a ∧ ¬ Own env1 σ a) rk hy (dx := .tuple ds) (dy := .int n) e
      | t => exact idx_ok (P := fun a => G a ∧ ¬ Own env1 σ a) rk hy (dx := .tuple ds) (dy := .int n) e
    obtain ⟨w, h1, h2⟩ := z
    exact h2 _ (fin _ _ _ _ _ hQ ⟨p1.s, res_kd p1.ok h1⟩)
  | _ => cases dy <;> simp only [idxD, reduceCtorEq] at e

/-- a part of a slice -/
def tO (Φ : Phi) (K : Frag) (e : OE) : TO := fun σ H Q => ∃ (G N : Addr → Prop) (env : DEnv) (Q' : Option Int → DEnv → Prop), EnvOk K G N H σ env ∧ rdO Φ e env Q' ∧
  ∀ i env' H', Q' i env' → Stp σ H env e.pur H' env' → EnvOk K G N H' σ env' → Q i H'
theorem no_sound : PO X none (tO Φ X.K .no) := by
  have h : PO X none tNoPart := po_none
  refine ⟨fun pins s σ H Q I ⟨G, N, env, Q', E, rd, fin⟩ => h.run pins s σ H Q I ?_⟩
  simp only [rdO] at rd
  exact fin _ _ _ rd Stp.refl.weak E
theorem so_sound {e : DL.E} {a : Expr} (ha : PE X a (tE Φ X.K e)) : PO X (some a) (tO Φ X.K (.so e)) := by
  refine ⟨fun pins s σ H Q I ⟨G, N, env, Q', E, rd, fin⟩ => (po_some ha).run pins s σ H Q I ?_⟩
  simp only [rdO] at rd
  refine ⟨G, N, env, _, E, rd, fun k d env1 v H1 ⟨i, e, hQ⟩ p1 => ?_⟩
  subst e
  exact ⟨i, p1.rep.wide.int_inv, fin _ _ _ hQ p1.s p1.ok⟩
theorem sl_sound {a : DL.E} {lo hi : OE} {a' : Expr} {lo' hi' : Option Expr} {p2 pos} (ha : PE X a' (tE Φ X.K a)) (hl : PO X lo' (tO Φ X.K lo)) (hh : PO X hi' (tO Φ X.K hi)) :
    PE X (.Subscript a' (.Slice lo' hi' none p2) pos) (tE Φ X.K (.sl a lo hi)) := by
  refine pe_of (pe_slice (sl_list.or sl_tupA) ha hl hh) fun σ H Q ⟨G, N, env, Q', E, rd, fin⟩ => ?_
  simp only [rdE] at rd
  refine ⟨G, N, env, _, E, rd, fun k dx env1 x H1 rd1 p1 => ⟨G, N, env1, _, p1.ok, rd1, fun l env2 H2 rd2 s2 E2 => ⟨G, N, env2, _, E2, rd2, fun h env3 H3 ⟨c, hQ⟩ s3 E3 => ?_⟩⟩⟩
  have s23 := s2.trans s3
  have s : Stp σ H env (DL.E.sl a lo hi).pur H3 env3 := (p1.s.trans s23).imp fun h => by
    unfold DL.E.pur at h
    rw [Bool.and_assoc] at h
    exact h
  have c2 : k ≠ .b ∨ (lo.pur && hi.pur) = true := c.imp (fun z => z) fun ⟨h1, h2⟩ => by rw [h1, h2]; rfl
  have rx := p1.rep.carry s23 c2
  cases dx with
  | list ds =>
    obtain ⟨f, hQ⟩ := hQ
    have two : ∃ a xs, x = .ref a ∧ SqL X.K H3 a xs ∧ Reps X.K H3 (fun a => G a ∧ ¬ Own env3 σ a) (cutD ds l h) (cutV xs l h) := by
      by_cases hk : k = .b
      · have f2 : flats ds = true := f.resolve_left fun z => z hk
        obtain ⟨a, xs, e, ln, r⟩ := rx.wide.list_inv
        exact ⟨a, xs, e, ln.sq, cut_reps (wide_flats E3 f2 r)⟩
      · obtain ⟨a, xs, e, ln, r⟩ := (rx.z hk).list_inv
        exact ⟨a, xs, e, ln.sq, cut_reps r⟩
    obtain ⟨a, xs, rfl, ln, rz⟩ := two
    exact .inl ⟨a, xs, rfl, ln, fun p np => fin _ _ _ _ _ hQ (post_new E3 s rz np)⟩
  | tuple ds =>
    have key : ∀ {P : Addr → Prop}, Rep X.K H3 P (.tuple ds) x → (∀ a, H3 a = none → P a) → ∀ (R : VK), (∀ v H', (∀ b u, H3 b = some u → H' b = some u) → Rep X.K H' P (.tuple (cutD ds l h)) v → R v H') → rSlA X.K x l h H3 R := fun {P} rr hn R hR => by
      obtain ⟨a, xs, rfl, tn, r⟩ := rr.tuple_inv
      refine ⟨a, xs, rfl, tn.sq, fun ⟨e1, e2⟩ => hR _ _ (fun _ _ z => z) ?_, fun _ p np => hR _ _ (grow_upd np) ?_⟩
      · have e : cutD ds l h = ds := by
          unfold cutD
          rw [r.length] at e1 e2
          rw [e1, e2]
          simp
        rw [e]
        exact rr
      · unfold Rep
        exact ⟨p, cutV xs l h, rfl, .inl ⟨upd_same, hn p np⟩, (cut_reps r).imp fun b u e z => ⟨grow_upd np b u e, z⟩⟩
    have fin2 : ∀ v H', (∀ b u, H3 b = some u → H' b = some u) → RepK X.K G σ k H' env3 (.tuple (cutD ds l h)) v → Q v H' := fun v H' gr rk =>
      fin _ _ _ _ _ hQ ⟨(s.trans (Stp.grow gr)).imp fun h => by rw [h]; rfl, res_kd (E3.grow gr) rk⟩
    refine .inr ?_
    cases k with
    | b => exact key rx (fun a ha => .inl ⟨(E3.new a ha).1, E3.new_own ha⟩) Q fun v H' gr rr => fin2 v H' gr rr
    | z => exact key (P := fun a => G a ∧ ¬ Own env3 σ a) rx (fun a ha => ⟨(E3.new a ha).1, E3.new_own ha⟩) Q fun v H' gr rr => fin2 v H' gr rr
    | t => exact key (P := fun a => G a ∧ ¬ Own env3 σ a) rx (fun a ha => ⟨(E3.new a ha).1, E3.new_own ha⟩) Q fun v H' gr rr => fin2 v H' gr rr
  | _ => exact hQ.elim
end
end DL

/-! DL10: built-ins called, isinstance, defs called. -/
namespace DL
open PySem PySem.Spec PyProof.Rows L2

/-- none of these is starred -/
def NoStar (as : List Expr) : Prop := ∀ a ∈ as, ∀ e p, a ≠ .Starred e p
theorem NoStar.cons {a : Expr} {as : List Expr} (h : NoStar (a :: as)) (env : Env) : starEach (a :: as) env = (false, eval a env) :: starEach as env := by
  have h1 := h a List.mem_cons_self
  cases a <;> first | rfl | exact absurd rfl (h1 _ _)
theorem NoStar.tail {a : Expr} {as : List Expr} (h : NoStar (a :: as)) : NoStar as := fun b hb => h b (List.mem_cons_of_mem _ hb)
theorem NoStar.any : ∀ {as : List Expr} (_ : NoStar as) (env : Env) (pos : Pos), (backTo pos (starEach as env)).any (·.1) = false
  | [], _, _, _ => rfl
  | a :: as, h, env, pos => by
    rw [h.cons env]
    show (false || (backTo pos (starEach as env)).any (·.1)) = false
    rw [NoStar.any h.tail env pos]; rfl

theorem biBoot : ∀ b : Bi, isT b = none → bootBuiltins (biNm b) = some (biFn b) := by
  intro b hb
  cases b <;> simp only [isT, reduceCtorEq] at hb <;> decide +kernel
theorem biKind : ∀ b : Bi, isT b = none → (∃ id, biFn b = .builtin id) ∨ ∃ T, biFn b = .type T := by
  intro b hb
  cases b <;> simp only [isT, reduceCtorEq] at hb <;> first | exact .inl ⟨_, rfl⟩ | exact .inr ⟨_, rfl⟩
theorem biTyBoot : ∀ (b : Bi) (n : String), isT b = some n → bootBuiltins (biNm b) = some (.type n) := by
  intro b n hb
  cases b <;> simp only [isT, reduceCtorEq, Option.some.injEq] at hb <;> subst hb <;> decide +kernel

section
variable {Φ : Phi} {X : Cx} {G N : Addr → Prop} {σ : L2.St} {H H1 H2 : Hp} {env env1 env2 : DEnv} {p q : Bool}

theorem bi_reads {b : Bi} {es : Es} {Q : VK} (h : tE Φ X.K (.bi b es) σ H Q) : tCB (rBi X.K b) (tEs Φ X.K es) σ H Q := by
  obtain ⟨G, N, env, Q', E, rd, fin⟩ := h
  simp only [rdE] at rd
  refine ⟨G, N, env, _, E, rd, fun k ds env1 vs H1 ⟨t, r, e, c, hQ⟩ p1 => ?_⟩
  have s : Stp σ H env (DL.E.bi b es).pur H1 env1 := p1.s.imp fun h => by unfold DL.E.pur at h; exact h
  by_cases hk : k = .b
  · subst hk
    have sh := c.resolve_left fun z => z rfl
    refine ⟨_, ds, t, r, p1.r.wide, e, fun ht el xs hr rr p np => ?_, fun ht v H' gr rr => ?_⟩
    · subst ht hr
      exact fin _ _ _ _ _ hQ (post_new p1.ok s (wide_flats p1.ok sh rr) np)
    · subst ht
      have E2 := p1.ok.grow gr
      have w : Rep X.K H' (fun a => (G a ∧ ¬ Own env1 σ a) ∨ Own env1 σ a) r v := by
        refine Rep.mono (fun b u e z => ?_) (Rep.imp (P' := fun a => ((G a ∧ ¬ Own env1 σ a) ∨ Own env1 σ a) ∨ H1 a = none) (fun b u e z => ⟨e, z⟩) rr)
        rcases z with z | z
        · exact z
        · exact .inl ⟨(p1.ok.new b z).1, p1.ok.new_own z⟩
      exact fin _ _ _ _ _ hQ ⟨(s.trans (Stp.grow gr)).imp fun h => by rw [h]; rfl, E2, wide_flat E2 sh w⟩
  · refine ⟨_, ds, t, r, reps_list p1.r hk, e, fun ht el xs hr rr p np => ?_, fun ht v H' gr rr => ?_⟩
    · subst ht hr
      exact fin _ _ _ _ _ hQ (post_new p1.ok s rr np)
    · subst ht
      refine fin _ _ _ _ _ hQ ⟨(s.trans (Stp.grow gr)).imp fun h => by rw [h]; rfl, p1.ok.grow gr, ?_⟩
      exact rr.mono fun b u e z => by
        rcases z with z | z
        · exact z
        · exact ⟨(p1.ok.new b z).1, p1.ok.new_own z⟩
theorem bi_sound {b : Bi} {es : Es} {x : Str} {a : Expr} {as : List Expr} {p pos : Pos} (hc : X.calm = true) (hg : X.A.guards = some []) (hu : X.A.units + 70 < cLine) (hb : isT b = none) (gl : Gl X x) (hx : x = biNm b) (hm : X.mg x = none)
    (hn : x ≠ "__name__") (hdb : (x == ("__debug__" : Str)) = false) (ns : NoStar (a :: as)) (ha : PA X (a :: as) (tEs Φ X.K es)) : PE X (.Call (.Name x p) (a :: as) [] pos) (tE Φ X.K (.bi b es)) := by
  have hv := biBoot b hb
  rw [← hx] at hv
  have hr := bi_ok hc hg hu b hb
  rcases biKind b hb with ⟨id, e⟩ | ⟨T, e⟩
  · rw [e] at hv hr
    exact pe_of (pe_callB hr gl hm hv ha hn hdb (ns.cons X.env) (ns.tail.any X.env pos)) fun σ H Q h => bi_reads h
  · rw [e] at hv hr
    exact pe_of (pe_callTy hr gl hm hv ha hn hdb (ns.cons X.env) (ns.tail.any X.env pos)) fun σ H Q h => bi_reads h
theorem isT_sound {b : Bi} {n : String} {e : DL.E} {x y : Str} {a : Expr} {p p2 pos : Pos} (hb : isT b = some n) (gl : Gl X x) (gy : Gl X y) (hx : x = "isinstance") (hy : y = biNm b) (hm : X.mg x = none) (hmy : X.mg y = none)
    (hn : x ≠ "__name__") (hdb : (x == ("__debug__" : Str)) = false) (hny : y ≠ "__name__") (hdy : (y == ("__debug__" : Str)) = false) (ns : NoStar [a]) (ha : PE X a (tE Φ X.K e)) :
    PE X (.Call (.Name x p) [a, .Name y p2] [] pos) (tE Φ X.K (.ist b e)) := by
  have hv : bootBuiltins y = some (.type n) := hy ▸ biTyBoot b n hb
  have hi : bootBuiltins x = some (.builtin "isinstance") := by rw [hx]; decide +kernel
  have ns2 : NoStar [a, .Name y p2] := fun c hc e q => by
    rcases List.mem_cons.mp hc with z | z
    · rw [z]; exact ns a List.mem_cons_self e q
    · have z2 : c = .Name y p2 := by simpa using z
      rw [z2]; exact fun z => nomatch z
  have cl : PE X (.Name y p2) (tC (.ty n)) := pe_bltn (v := .ty n) gy hmy hv rfl hny hdy
  have pa : PA X [a, .Name y p2] (tCons (tE Φ X.K e) (tCons (tC (.ty n)) tNil)) := pa_cons ha (pa_cons cl pa_nil (ns2.tail.cons X.env)) (ns2.cons X.env)
  refine pe_of (pe_callB call_isi gl hm hi pa hn hdb (ns2.cons X.env) (ns2.tail.any X.env pos)) fun σ H Q ⟨G, N, env, Q', E, rd, fin⟩ => ?_
  simp only [rdE] at rd
  refine ⟨G, N, env, _, E, rd, fun k d env1 v H1 ⟨t, r, e1, hQ⟩ p1 => ?_⟩
  obtain ⟨c, rfl, rfl, hk⟩ := isT_ok hb e1
  refine ⟨v, .ty n, _, _, c, rfl, .ty n, ty_of p1.rep.wide, kit_ty hk, fin _ _ _ _ _ hQ (post_bool p1.ok (p1.s.imp fun h => ?_))⟩
  unfold DL.E.pur at h
  exact h

/-! ### defs called -/
theorem pe_callG {k : Nat} {f : Addr} {fd : FuncData} {ps : List Str} {sp : List V → Hp → VK → Prop} {dvs : List V} {ds : List Value} {x : Str} {p pos : Pos} {a : Expr} {as : List Expr} {t : TA} (F : FnG X.prog X.w X.K X.mg X.base k f fd ps sp)
    (hr : Room k X.A) (hgd : X.A.guards = some []) (hg : Gl X x) (hm : X.mg x = some (.ref f)) (hk : PySem.W.keepIn X.K (.ref f) = true) (hb : Binds X.K fd ps ds) (hd : Vals dvs ds) (ha : PA X (a :: as) t) (hdb : (x == ("__debug__" : Str)) = false) (ns : NoStar (a :: as)) :
    PE X (.Call (.Name x p) (a :: as) [] pos) (fun σ H Q => t σ H fun vs H1 => sp (vs ++ dvs) H1 Q) := by
  refine ⟨fun pins s σ H Q I h => wpAny_Call_Name_kw (ld_glob I hg hm ?_ hdb)⟩
  have go : ∀ (us : List Value) (s1 : Shared) (vs : List V) (H1 : Hp), Inv X pins σ H1 s1 → Vals vs us → sp (vs ++ dvs) H1 Q → wpAny (model X.prog X.w) X.A (call (.ref f) us) (EP X pins σ Q) X.xe s1 := fun us s1 vs H1 I1 r q => by
    have both := r.append hd
    have hl : (us ++ ds).length = ps.length := both.length.symm.trans (F.len _ _ _ q)
    refine wpAny_call (codeAny_mono (F.run X.A X.stack s1 H1 ⟨us, []⟩ (us ++ ds) (vs ++ dvs) Q hgd hr I1.env0 (hb s1 us I1.kIn hl) both q) fun res s2 hq => ?_)
    rcases res with e | fl
    · exact False.elim hq
    · cases fl <;> first | exact I1.after hq | exact False.elim hq
  refine PySem.W.callWith_K (h₀ := X.base) I.ok.mod.kin hk (thn (ha.run pos pins s σ H _ I h) fun us s1 ⟨vs, H1, I1, r, q⟩ => ⟨I1.kIn, ?_⟩) (ns.cons X.env) (ns.tail.any X.env pos)
  exact go us s1 vs H1 I1 r q

/-- the places where a caller's values of a kind stand -/
def PK (G : Addr → Prop) (σ : L2.St) (k : Kd) (env : DEnv) (a : Addr) : Prop :=
  match k with
  | .b => (G a ∧ ¬ Own env σ a) ∨ Own env σ a
  | _ => G a ∧ ¬ Own env σ a
theorem pk_reps {k : Kd} {K : Frag} {ds : List D} {vs : List V} (r : RepsK K G σ k H env ds vs) : Reps K H (PK G σ k env) ds vs := by
  cases k with
  | b => exact r
  | z => exact r
  | t => exact r
/-- an answer, as a value of the caller's -/
theorem ans_post {fr : Bool} {k : Kd} {r : D} {v : V} {H' : Hp} {pu : Bool} (E : EnvOk X.K G N H1 σ env1)
    (EE : ∀ G' : Addr → Prop, (∀ b o, H1 b = some o → G b → G' b) → (∀ b, H' b = none → H1 b = none → G' b) → EnvOk X.K G' N H' σ env2) (s : Stp σ H env pu H' env2) (hk : k ≠ .b ∨ flat r = true)
    (own : ∀ a, Own env2 σ a ↔ Own env1 σ a) (h : AnsR X.K (PK G σ k env1) H1 fr r v H') : Post X.K G N σ H env pu (if fr then .t else .z) r env2 v H' := by
  have E2 : EnvOk X.K G N H' σ env2 := EE G (fun _ _ _ z => z) fun b _ z => (E.new b z).1
  refine ⟨s, ?_⟩
  have nn : ∀ b, H1 b = none → G b ∧ ¬ Own env2 σ b := fun b z => ⟨(E.new b z).1, fun y => E.new_own z ((own b).mp y)⟩
  cases fr with
  | false =>
    refine ⟨E2, ?_⟩
    have h : Rep X.K H' _ r v := h
    by_cases hb : k = .b
    · subst hb
      have f : flat r = true := hk.resolve_left fun z => z rfl
      refine wide_flat E2 f (h.mono fun b u e z => ?_)
      rcases z with (z | z) | z
      · exact .inl ⟨z.1, fun y => z.2 ((own b).mp y)⟩
      · exact .inr ((own b).mpr z)
      · exact .inl (nn b z)
    · have h2 : Rep X.K H' (fun b => (G b ∧ ¬ Own env1 σ b) ∨ H1 b = none) r v := by
        cases k with
        | b => exact absurd rfl hb
        | z => exact h
        | t => exact h
      refine h2.mono fun b u e z => ?_
      rcases z with z | z
      · exact ⟨z.1, fun y => z.2 ((own b).mp y)⟩
      · exact nn b z
  | true =>
    obtain ⟨c, rfl, hc, o⟩ := h
    have nf : flat r = false := by rcases o with ⟨ds, xs, rfl, q, r⟩ | ⟨kvs, ks, rfl, q, r⟩ <;> (unfold flat; rfl)
    have hb : k ≠ .b := hk.resolve_right fun z => by rw [nf] at z; cases z
    obtain ⟨u, hu, _⟩ := o.there
    have up : ∀ b u, H' b = some u → ((PK G σ k env1 b ∨ H1 b = none) ∧ b ≠ c) → H' b = some u ∧ ((G b ∧ b ≠ c) ∧ ¬ Own env2 σ b) := fun b u e z => by
      refine ⟨e, ?_⟩
      rcases z.1 with y | y
      · have y2 : G b ∧ ¬ Own env1 σ b := by
          cases k with
          | b => exact absurd rfl hb
          | z => exact y
          | t => exact y
        exact ⟨⟨y2.1, z.2⟩, fun w => y2.2 ((own b).mp w)⟩
      · exact ⟨⟨(nn b y).1, z.2⟩, (nn b y).2⟩
    refine ⟨c, rfl, (E.new c hc).1, (E.new c hc).2, (nn c hc).2, o.imp up fun u e => e, EE _ (fun b o' e g => ⟨g, fun z => ?_⟩) fun b e e' => ⟨(E.new b e').1, fun z => ?_⟩⟩
    · subst z; rw [hc] at e; cases e
    · subst z; rw [e] at hu; cases hu
theorem call_sound {k : Nat} {f : Addr} {fd : FuncData} {ps : List Str} {dvs : List D} {dfs : List V} {ds : List Value} {x : Str} {p pos : Pos} {es : Es} {a : Expr} {as : List Expr} (F : FnG X.prog X.w X.K X.mg X.base k f fd ps (spOf X.K (Φ x)))
    (hr : Room k X.A) (hgd : X.A.guards = some []) (hg : Gl X x) (hm : X.mg x = some (.ref f)) (hk : PySem.W.keepIn X.K (.ref f) = true) (hb : Binds X.K fd ps ds) (hd : Vals dfs ds) (hdb : (x == ("__debug__" : Str)) = false) (ns : NoStar (a :: as))
    (ha : PA X (a :: as) (tEs Φ X.K es)) (hdf : ∀ (H : Hp) (P : Addr → Prop), Reps X.K H P dvs dfs) :
    PE X (.Call (.Name x p) (a :: as) [] pos) (tE Φ X.K (.call x es dvs)) := by
  refine pe_of (pe_callG F hr hgd hg hm hk hb hd ha hdb ns) fun σ H Q ⟨G, N, env, Q', E, rd, fin⟩ => ?_
  simp only [rdE] at rd
  refine ⟨G, N, env, _, E, rd, fun k ds env1 vs H1 ⟨hio, hsp⟩ p1 => ?_⟩
  refine ⟨PK G σ k env1, ds ++ dvs, _, hsp, ?_⟩
  rw [hio]
  refine ⟨(pk_reps p1.r).append (hdf _ _), fun d' r v H' ⟨c, hQ⟩ gr ans => fin _ _ _ _ _ hQ ?_⟩
  refine ans_post p1.ok (fun G' h1 h2 => p1.ok.mv gr h1 h2) ((p1.s.trans (Stp.grow gr)).imp fun h => ?_) c (fun _ => Iff.rfl) ans
  unfold DL.E.pur at h
  rw [h]; rfl

/-! ### .. by names -/
theorem pick_reps {K : Frag} {P : Addr → Prop} {ds : List D} {vs : List V} (r : Reps K H P ds vs) : ∀ pm : List Nat, Reps K H P (pick pm ds) (pick pm vs)
  | [] => .nil
  | i :: pm => by
    have ih := pick_reps r pm
    have hl := r.length
    unfold pick at ih ⊢
    rw [List.filterMap_cons, List.filterMap_cons]
    cases h : ds[i]? with
    | none =>
      have h2 : vs[i]? = none := by
        rw [List.getElem?_eq_none_iff] at h ⊢
        omega
      rw [h2]
      exact ih
    | some d =>
      obtain ⟨v, e, q⟩ := r.get h
      rw [e]
      exact .cons q ih
theorem pick_vals {vs : List V} {us : List Value} (r : Vals vs us) : ∀ pm : List Nat, Vals (pick pm vs) (pick pm us)
  | [] => .nil
  | i :: pm => by
    have ih := pick_vals r pm
    have hl := r.length
    unfold pick at ih ⊢
    rw [List.filterMap_cons, List.filterMap_cons]
    cases h : vs[i]? with
    | none =>
      have h2 : us[i]? = none := by
        rw [List.getElem?_eq_none_iff] at h ⊢
        omega
      rw [h2]
      exact ih
    | some d =>
      obtain ⟨v, e, q⟩ := r.get h
      rw [e]
      exact .cons q ih
theorem keys_all (pos : Pos) (env : Env) : ∀ (kws : List Keyword) (ks : List Str), kws.map (·.1) = ks.map some → (backToKw pos (keywordEach kws env)).all (·.1.isSome) = true ∧ (backToKw pos (keywordEach kws env)).filterMap (·.1) = ks ∧
    (backToKw pos (keywordEach kws env)).any (·.1.isNone) = false
  | [], [], _ => ⟨rfl, rfl, rfl⟩
  | [], _ :: _, h => by cases h
  | _ :: _, [], h => by cases h
  | ⟨n, a, p⟩ :: kws, k :: ks, h => by
    rw [List.map_cons, List.map_cons] at h
    injection h with h1 h2
    have h1 : n = some k := h1
    subst h1
    obtain ⟨i1, i2, i3⟩ := keys_all pos env kws ks h2
    refine ⟨?_, ?_, ?_⟩
    · show (true && (backToKw pos (keywordEach kws env)).all (·.1.isSome)) = true
      rw [i1]; rfl
    · show k :: (backToKw pos (keywordEach kws env)).filterMap (·.1) = k :: ks
      rw [i2]
    · show (false || (backToKw pos (keywordEach kws env)).any (·.1.isNone)) = false
      rw [i3]; rfl
theorem pk_of {kws : List Keyword} {t t' : TA} (h : L2.PK X kws t) (i : ∀ σ H Q, t' σ H Q → t σ H Q) : L2.PK X kws t' := ⟨fun pos pins s σ H Q I q => h.run pos pins s σ H Q I (i σ H Q q)⟩
theorem knil_sound : L2.PK X [] (tEs Φ X.K .nil) := by
  refine pk_of pk_nil fun σ H Q ⟨G, N, env, Q', E, rd, fin⟩ => ?_
  simp only [rdEs] at rd
  exact fin _ _ _ _ _ rd ⟨Stp.refl.weak, E, show Reps X.K H (fun a => G a ∧ ¬ Own env σ a) [] [] from .nil⟩
theorem kcons_sound {e : DL.E} {es : Es} {a : Expr} {nm : Option Str} {kpos : Pos} {kws : List Keyword} (he : PE X a (tE Φ X.K e)) (hs : L2.PK X kws (tEs Φ X.K es)) : L2.PK X (⟨nm, a, kpos⟩ :: kws) (tEs Φ X.K (.cons e es)) := by
  refine pk_of (pk_cons he hs) fun σ H Q ⟨G, N, env, Q', E, rd, fin⟩ => ?_
  simp only [rdEs] at rd
  refine ⟨G, N, env, _, E, rd, fun k d env1 v H1 rd1 p1 => ?_⟩
  refine ⟨G, N, env1, _, p1.ok, rd1, fun k' ds env2 vs H2 ⟨c, hQ⟩ p2 => ?_⟩
  exact fin _ _ _ _ _ hQ ⟨p1.s.trans p2.s, p2.ok, (p1.rep.carry p2.s c).reps p2.r⟩
theorem callk_sound {k : Nat} {f : Addr} {fd : FuncData} {ps ks : List Str} {pm : List Nat} {x : Str} {p pos : Pos} {es : Es} {kws : List Keyword} (F : FnG X.prog X.w X.K X.mg X.base k f fd ps (spOf X.K (Φ x)))
    (hr : Room k X.A) (hgd : X.A.guards = some []) (hg : Gl X x) (hm : X.mg x = some (.ref f)) (hk : PySem.W.keepIn X.K (.ref f) = true)
    (hb : ∀ (s : Shared) (ws : List Value), X.K.In s.heap → ws.length = ks.length → BindsTo s fd ⟨[], ks.zip ws⟩ (ps.zip (pick pm ws))) (hdb : (x == ("__debug__" : Str)) = false)
    (hks : kws.map (·.1) = ks.map some) (ha : L2.PK X kws (tEs Φ X.K es)) : PE X (.Call (.Name x p) [] kws pos) (tE Φ X.K (.callk x es ks pm)) := by
  obtain ⟨k1, k2, k3⟩ := keys_all pos X.env kws ks hks
  refine ⟨fun pins s σ H Q I h => wpAny_Call_Name_kw (ld_glob I hg hm ?_ hdb)⟩
  obtain ⟨G, N, env, Q', E, rd, fin⟩ := h
  simp only [rdE] at rd
  refine PySem.W.callWith_KW0 (h₀ := X.base) I.ok.mod.kin hk k1 (thn (ha.run pos pins s σ H (fun vs H1 => vs.length = ks.length ∧ spOf X.K (Φ x) (pick pm vs) H1 Q) I ⟨G, N, env, _, E, rd, fun k ds env1 vs H1 ⟨hdl, hio, hsp⟩ p1 => ?_⟩) fun ws s2 ⟨zs, H2, I2, rz, hz, q2⟩ => ⟨I2.kIn, ?_⟩) (by rw [k3]; rfl)
  · refine ⟨?_, PK G σ k env1, pick pm ds, _, hsp, ?_⟩
    · rw [p1.r.wide.length]; exact hdl
    · rw [hio]
      refine ⟨pick_reps (pk_reps p1.r) pm, fun d' r v H' ⟨c, hQ⟩ gr ans => fin _ _ _ _ _ hQ ?_⟩
      refine ans_post p1.ok (fun G' h1 h2 => p1.ok.mv gr h1 h2) ((p1.s.trans (Stp.grow gr)).imp fun h => ?_) c (fun _ => Iff.rfl) ans
      unfold DL.E.pur at h
      rw [h]; rfl
  · rw [k2]
    have hlen : ws.length = ks.length := by rw [← rz.length, hz]
    refine wpAny_call (codeAny_mono (F.run X.A X.stack s2 H2 ⟨[], ks.zip ws⟩ (pick pm ws) (pick pm zs) Q hgd hr I2.env0 (hb s2 ws I2.kIn hlen) (pick_vals rz pm) q2) fun res s3 hq => ?_)
    rcases res with e | fl
    · exact False.elim hq
    · cases fl <;> first | exact I2.after hq | exact False.elim hq

/-! ### a list handed in to be changed -/
theorem put_own {i : Nat} {d : D} (h : putD env i d = some env2) : ∀ a, Own env2 σ a ↔ Own env σ a := by
  have key : ∀ (s : Slot), ((∃ d, s = .own d) ∨ ∃ d, s = .io d) → ((∃ d, env[i]? = some (Slot.own d)) ∨ ∃ d, env[i]? = some (Slot.io d)) → ∀ a, Own (env.set i s) σ a ↔ Own env σ a := fun s hs hi a => by
    have hl : i < env.length := by
      rcases hi with ⟨d, e⟩ | ⟨d, e⟩ <;> exact (List.getElem?_eq_some_iff.mp e).1
    constructor
    · rintro ⟨j, d', hj, e⟩
      by_cases ne : j = i
      · subst ne
        rcases hi with ⟨d, z⟩ | ⟨d, z⟩
        · exact ⟨j, d, .inl z, e⟩
        · exact ⟨j, d, .inr z, e⟩
      · rw [List.getElem?_set_ne (Ne.symm ne)] at hj
        exact ⟨j, d', hj, e⟩
    · rintro ⟨j, d', hj, e⟩
      by_cases ne : j = i
      · subst ne
        rcases hs with ⟨d, rfl⟩ | ⟨d, rfl⟩
        · exact ⟨j, d, .inl (List.getElem?_set_self hl), e⟩
        · exact ⟨j, d, .inr (List.getElem?_set_self hl), e⟩
      · exact ⟨j, d', by rw [List.getElem?_set_ne (Ne.symm ne)]; exact hj, e⟩
  unfold putD at h
  split at h <;> cases h
  · rename_i d' e
    exact key _ (.inr ⟨_, rfl⟩) (.inr ⟨_, e⟩)
  · rename_i d' e
    exact key _ (.inl ⟨_, rfl⟩) (.inl ⟨_, e⟩)
theorem own_at {i : Nat} {d : D} (E : EnvOk X.K G N H σ env) (h : ownD env i = some d) : ∃ a, σ[i]? = some (some (.ref a)) ∧ Own env σ a ∧ OwnO X.K H (fun a => G a ∧ ¬ Own env σ a) a d := by
  unfold ownD at h
  split at h <;> cases h
  · rename_i e
    obtain ⟨a, e1, o⟩ := E.io i _ e
    exact ⟨a, e1, ⟨i, _, .inr e, e1⟩, o⟩
  · rename_i e
    obtain ⟨a, e1, _, _, o⟩ := E.own i _ e
    exact ⟨a, e1, ⟨i, _, .inl e, e1⟩, o⟩
/-- the list at a, the name i's, changes -/
theorem EnvOk.put {i : Nat} {d : D} {a : Addr} {H' : Hp} {G' : Addr → Prop} (E : EnvOk X.K G N H σ env) (h : putD env i d = some env2) (ha : σ[i]? = some (some (.ref a))) (gr : ∀ b o, H b = some o → b ≠ a → H' b = some o)
    (o : OwnO X.K H' (fun b => G' b ∧ ¬ Own env2 σ b) a d) (hg : ∀ b o, H b = some o → G b → G' b) (hn : ∀ b, H' b = none → H b = none → G' b) : EnvOk X.K G' N H' σ env2 := by
  have ow := put_own (σ := σ) h
  have isOwn : Own env σ a := by
    unfold putD at h
    split at h <;> cases h
    · rename_i d' e; exact ⟨i, d', .inr e, ha⟩
    · rename_i d' e; exact ⟨i, d', .inl e, ha⟩
  have up : ∀ b u, H b = some u → (G b ∧ ¬ Own env σ b) → H' b = some u ∧ (G' b ∧ ¬ Own env2 σ b) := fun b u e z => ⟨gr b u e fun y => z.2 (y ▸ isOwn), hg b u e z.1, fun y => z.2 ((ow b).mp y)⟩
  have back : ∀ b, H' b = none → H b = none := fun b e => by
    cases q : H b with
    | none => rfl
    | some u =>
      by_cases hb : b = a
      · subst hb
        obtain ⟨u', hu', _⟩ := o.there
        rw [e] at hu'; cases hu'
      · rw [gr b u q hb] at e; cases e
  -- the other names
  have get : ∀ {j : Nat}, j ≠ i → env2[j]? = env[j]? := fun {j} ne => by
    unfold putD at h
    split at h <;> cases h <;> rw [List.getElem?_set_ne (Ne.symm ne)]
  have len : env2.length = env.length := by
    unfold putD at h
    split at h <;> cases h <;> rw [List.length_set]
  have here : (∃ d0, env[i]? = some (Slot.own d0) ∧ env2[i]? = some (.own d)) ∨ ∃ d0, env[i]? = some (Slot.io d0) ∧ env2[i]? = some (.io d) := by
    unfold putD at h
    split at h <;> cases h
    · rename_i d' e
      exact .inr ⟨_, e, List.getElem?_set_self (List.getElem?_eq_some_iff.mp e).1⟩
    · rename_i d' e
      exact .inl ⟨_, e, List.getElem?_set_self (List.getElem?_eq_some_iff.mp e).1⟩
  have other : ∀ {j : Nat} {b : Addr}, j ≠ i → (∃ d : D, env[j]? = some (Slot.own d) ∨ env[j]? = some (Slot.io d)) → σ[j]? = some (some (.ref b)) → b ≠ a := fun {j b} ne hj e z => by
    subst z
    refine ne (E.dis j i b hj ?_ e ha)
    rcases here with ⟨d0, e0, _⟩ | ⟨d0, e0, _⟩
    · exact ⟨d0, .inl e0⟩
    · exact ⟨d0, .inr e0⟩
  refine ⟨by rw [len]; exact E.len, fun b e => ⟨hn b e (back b e), (E.new b (back b e)).2⟩, fun j d' hj => ?_, fun j d' hj => ?_, fun j d' hj => ?_, fun j l b hj hl e1 e2 => ?_⟩
  · have ne : j ≠ i := fun z => by
      subst z
      rcases here with ⟨_, _, e⟩ | ⟨_, _, e⟩ <;> (rw [hj] at e; cases e)
    rw [get ne] at hj
    obtain ⟨v, e1, r⟩ := E.frz j d' hj
    exact ⟨v, e1, r.imp up⟩
  · by_cases ne : j = i
    · subst ne
      rcases here with ⟨d0, e0, e⟩ | ⟨d0, e0, e⟩
      · rw [hj] at e; cases e
        obtain ⟨b, e1, g, n, o0⟩ := E.own j _ e0
        rw [ha] at e1; cases e1
        obtain ⟨u, hu, _⟩ := o0.there
        exact ⟨a, ha, hg a u hu g, n, o⟩
      · rw [hj] at e; cases e
    · rw [get ne] at hj
      obtain ⟨b, e1, g, n, o0⟩ := E.own j d' hj
      obtain ⟨u, hu, _⟩ := o0.there
      exact ⟨b, e1, hg b u hu g, n, o0.imp up fun u z => gr b u z (other ne ⟨_, .inl hj⟩ e1)⟩
  · by_cases ne : j = i
    · subst ne
      rcases here with ⟨d0, e0, e⟩ | ⟨d0, e0, e⟩
      · rw [hj] at e; cases e
      · rw [hj] at e; cases e
        exact ⟨a, ha, o⟩
    · rw [get ne] at hj
      obtain ⟨b, e1, o0⟩ := E.io j d' hj
      exact ⟨b, e1, o0.imp up fun u z => gr b u z (other ne ⟨_, .inr hj⟩ e1)⟩
  · have bk : ∀ {j : Nat}, (∃ d : D, env2[j]? = some (Slot.own d) ∨ env2[j]? = some (Slot.io d)) → ∃ d : D, env[j]? = some (Slot.own d) ∨ env[j]? = some (Slot.io d) := fun {j} hj => by
      by_cases ne : j = i
      · subst ne
        rcases here with ⟨d0, e0, _⟩ | ⟨d0, e0, _⟩
        · exact ⟨d0, .inl e0⟩
        · exact ⟨d0, .inr e0⟩
      · rw [get ne] at hj; exact hj
    exact E.dis j l b (bk hj) (bk hl) e1 e2
theorem put_step {i : Nat} {d : D} {a : Addr} {H' : Hp} (E : EnvOk X.K G N H σ env) (h : putD env i d = some env2) (ha : σ[i]? = some (some (.ref a))) (gr : ∀ b o, H b = some o → b ≠ a → H' b = some o) (na : H' a ≠ none) : Stp σ H env false H' env2 := by
  have isOwn : Own env σ a := by
    unfold putD at h
    split at h <;> cases h
    · rename_i d' e; exact ⟨i, d', .inr e, ha⟩
    · rename_i d' e; exact ⟨i, d', .inl e, ha⟩
  refine ⟨fun b o e n => gr b o e fun z => n (z ▸ isOwn), (fun z => nomatch z), fun b z => (put_own h b).mp z, fun b z => ?_, fun j d' hj => ?_, ?_, fun j ⟨d', hj⟩ => ?_, fun j ⟨d', hj⟩ => ?_⟩
  · by_cases hb : b = a
    · rw [hb]; exact na
    · cases q : H b with
      | none => exact absurd q z
      | some u => rw [gr b u q hb]; exact fun z => nomatch z
  · unfold putD at h
    split at h <;> cases h
    · rename_i d0 e
      by_cases ne : j = i
      · subst ne; exact ⟨d, List.getElem?_set_self (List.getElem?_eq_some_iff.mp e).1⟩
      · exact ⟨d', by rw [List.getElem?_set_ne (Ne.symm ne)]; exact hj⟩
    · rename_i d0 e
      have ne : j ≠ i := fun z => by subst z; rw [e] at hj; cases hj
      exact ⟨d', by rw [List.getElem?_set_ne (Ne.symm ne)]; exact hj⟩
  · unfold putD at h
    split at h <;> cases h <;> rw [List.length_set]
  · unfold putD at h
    split at h <;> cases h <;> rename_i d0 e _ <;> by_cases ne : j = i
    · subst ne; rw [List.getElem?_set_self (List.getElem?_eq_some_iff.mp e).1] at hj; cases hj
    · rw [List.getElem?_set_ne (Ne.symm ne)] at hj; exact ⟨d', hj⟩
    · subst ne; exact ⟨d0, e⟩
    · rw [List.getElem?_set_ne (Ne.symm ne)] at hj; exact ⟨d', hj⟩
  · unfold putD at h
    split at h <;> cases h <;> rename_i d0 e _ <;> by_cases ne : j = i
    · subst ne; exact ⟨d0, e⟩
    · rw [List.getElem?_set_ne (Ne.symm ne)] at hj; exact ⟨d', hj⟩
    · subst ne; rw [List.getElem?_set_self (List.getElem?_eq_some_iff.mp e).1] at hj; cases hj
    · rw [List.getElem?_set_ne (Ne.symm ne)] at hj; exact ⟨d', hj⟩
theorem callio_sound {k : Nat} {f : Addr} {fd : FuncData} {ps : List Str} {x y : Str} {i : Nat} {p p2 pos : Pos} {es : Es} {as : List Expr} (F : FnG X.prog X.w X.K X.mg X.base k f fd ps (spOf X.K (Φ x)))
    (hr : Room k X.A) (hgd : X.A.guards = some []) (hg : Gl X x) (hm : X.mg x = some (.ref f)) (hk : PySem.W.keepIn X.K (.ref f) = true) (hb : Binds X.K fd ps []) (hdb : (x == ("__debug__" : Str)) = false) (ns : NoStar as)
    (hi : PE X (.Name y p2) (tVar i)) (ha : PA X as (tEs Φ X.K es)) : PE X (.Call (.Name x p) (.Name y p2 :: as) [] pos) (tE Φ X.K (.callio x i es)) := by
  have ns2 : NoStar (.Name y p2 :: as) := fun c hc e q => by
    rcases List.mem_cons.mp hc with z | z
    · rw [z]; exact fun z => nomatch z
    · exact ns c z e q
  refine pe_of (pe_callG F hr hgd hg hm hk hb (dvs := []) .nil (pa_cons hi ha (ns2.cons X.env)) hdb ns2) fun σ H Q ⟨G, N, env, Q', E, rd, fin⟩ => ?_
  simp only [rdE] at rd
  obtain ⟨h0, rd⟩ := rd
  obtain ⟨d0, h0⟩ := Option.isSome_iff_exists.mp h0
  obtain ⟨a, ea, _, _⟩ := own_at E h0
  refine ⟨_, ea, G, N, env, _, E, rd, fun k ds env1 vs H1 ⟨hio, hkb, ns0, hd, hsp⟩ p1 => ?_⟩
  obtain ⟨a', ea', ow, o⟩ := own_at p1.ok hd
  rw [ea] at ea'; cases ea'
  have o2 : H1 a = some (.lst (ns0.map .int)) := by
    rcases o with ⟨ds, xs, e, q, r⟩ | ⟨kvs, ks, e, q, r⟩
    · cases e
      rw [Rep.ints r] at q
      exact q
    · cases e
  show spOf X.K (Φ x) ((V.ref a :: vs) ++ []) H1 Q
  rw [List.append_nil]
  refine ⟨fun b => G b ∧ ¬ Own env1 σ b, _, _, hsp, ?_⟩
  rw [hio]
  refine ⟨a, vs, ns0, ds, rfl, rfl, fun z => z.2 ow, o2, reps_list p1.r hkb, fun ns' r v H' ⟨env2, hp, hQ⟩ gr hl ans => fin _ _ _ _ _ hQ ?_⟩
  have s2 : Stp σ H1 env1 false H' env2 := put_step p1.ok hp ea gr (by rw [hl]; exact fun z => nomatch z)
  refine ans_post (k := .z) p1.ok (fun G' h1 h2 => p1.ok.put hp ea gr (.inl ⟨_, _, rfl, hl, Rep.of_ints⟩) h1 h2) ((p1.s.trans s2).imp fun h => ?_) (.inl fun z => nomatch z) (put_own hp) ans
  unfold DL.E.pur at h
  cases h
end
end DL

/-! DL11: targets, what is walked, comprehensions. -/
namespace DL
open PySem PySem.Spec PyProof.Rows L2

/-! ### targets -/
mutual
def gT (K : Frag) : T → TG
  | .nm i => gName i
  | .tp ts => fun v σ H Q => gTup K ts.len (gTs K ts) v σ H Q ∨ gLst K ts.len (gTs K ts) v σ H Q
def gTs (K : Frag) : Ts → TGs
  | .nil => gNil
  | .cons t ts => gCons (gT K t) (gTs K ts)
end
/-- names get new values -/
structure TgSt (σ : L2.St) (env : DEnv) (is : List Nat) (σ' : L2.St) (env' : DEnv) : Prop where
  own : ∀ a, Own env' σ' a → Own env σ a
  io : ∀ (i : Nat) (d : D), env[i]? = some (Slot.io d) → env'[i]? = some (Slot.io d) ∧ σ'[i]? = σ[i]?
  oth : ∀ j, j ∉ is → σ'[j]? = σ[j]? ∧ env'[j]? = env[j]?
  frz : ∀ i, i ∈ is → ∃ d, env'[i]? = some (Slot.frz d)
  len : σ'.length = σ.length
  lenE : env'.length = env.length
section
variable {K : Frag} {G N : Addr → Prop} {σ σ' σ2 : L2.St} {H : Hp} {env env1 env2 : DEnv}
theorem TgSt.nil : TgSt σ env [] σ env := ⟨fun _ h => h, fun _ _ h => ⟨h, rfl⟩, fun _ _ => ⟨rfl, rfl⟩, (fun _ h => nomatch h), rfl, rfl⟩
theorem TgSt.trans {is js : List Nat} (a : TgSt σ env is σ' env1) (b : TgSt σ' env1 js σ2 env2) : TgSt σ env (is ++ js) σ2 env2 where
  own := fun c h => a.own c (b.own c h)
  io := fun i d h => by
    obtain ⟨h1, h2⟩ := a.io i d h
    obtain ⟨h3, h4⟩ := b.io i d h1
    exact ⟨h3, h4.trans h2⟩
  oth := fun j h => by
    obtain ⟨h1, h2⟩ := a.oth j fun z => h (List.mem_append_left _ z)
    obtain ⟨h3, h4⟩ := b.oth j fun z => h (List.mem_append_right _ z)
    exact ⟨h3.trans h1, h4.trans h2⟩
  frz := fun i h => by
    by_cases hj : i ∈ js
    · exact b.frz i hj
    · rcases List.mem_append.mp h with z | z
      · obtain ⟨d, e⟩ := a.frz i z
        exact ⟨d, by rw [(b.oth i hj).2]; exact e⟩
      · exact absurd z hj
  len := b.len.trans a.len
  lenE := b.lenE.trans a.lenE

/-- x = d: from now on the name i holds data that stand -/
theorem set_frz {i : Nat} {d : D} {v : V} (E : EnvOk K G N H σ env) (h : setD env i (.frz d) = some env2) (r : Rep K H (fun a => G a ∧ ¬ Own env σ a) d v) : EnvOk K G N H (σ.set i (some v)) env2 ∧ TgSt σ env [i] (σ.set i (some v)) env2 := by
  have hi : i < env.length ∧ env2 = env.set i (.frz d) ∧ ∀ d', env[i]? ≠ some (Slot.io d') := by
    unfold setD at h
    split at h
    · cases h
    · rename_i s hs e
      cases h
      exact ⟨(List.getElem?_eq_some_iff.mp e).1, rfl, fun d' z => by rw [e] at z; cases z; exact hs _ rfl⟩
    · cases h
  obtain ⟨hl, rfl, nio⟩ := hi
  have hls : i < σ.length := by rw [E.len]; exact hl
  have get : ∀ {j : Nat} {s : Slot}, (env.set i (.frz d))[j]? = some s → (∀ d', s ≠ .frz d') → j ≠ i ∧ env[j]? = some s := fun {j s} hj hs => by
    have ne : j ≠ i := fun z => by
      subst z
      rw [List.getElem?_set_self hl] at hj; cases hj; exact hs _ rfl
    exact ⟨ne, by rwa [List.getElem?_set_ne (Ne.symm ne)] at hj⟩
  have sg : ∀ {j : Nat}, j ≠ i → (σ.set i (some v))[j]? = σ[j]? := fun {j} ne => List.getElem?_set_ne (Ne.symm ne)
  have ow : ∀ a, Own (env.set i (.frz d)) (σ.set i (some v)) a → Own env σ a := fun a ⟨j, d', hj, e⟩ => by
    rcases hj with hj | hj
    · obtain ⟨ne, hj⟩ := get hj (fun _ z => nomatch z)
      rw [sg ne] at e
      exact ⟨j, d', .inl hj, e⟩
    · obtain ⟨ne, hj⟩ := get hj (fun _ z => nomatch z)
      rw [sg ne] at e
      exact ⟨j, d', .inr hj, e⟩
  have up : ∀ b u, H b = some u → (G b ∧ ¬ Own env σ b) → H b = some u ∧ (G b ∧ ¬ Own (env.set i (.frz d)) (σ.set i (some v)) b) := fun b u e z => ⟨e, z.1, fun y => z.2 (ow b y)⟩
  refine ⟨⟨by rw [List.length_set, List.length_set]; exact E.len, E.new, fun j d' hj => ?_, fun j d' hj => ?_, fun j d' hj => ?_, fun j l b hj hl' e1 e2 => ?_⟩, ow, fun j d' hj => ?_, fun j hj => ?_, fun j hj => ?_, by rw [List.length_set], by rw [List.length_set]⟩
  · by_cases ne : j = i
    · subst ne
      rw [List.getElem?_set_self hl] at hj; cases hj
      exact ⟨v, List.getElem?_set_self hls, r.imp up⟩
    · rw [List.getElem?_set_ne (Ne.symm ne)] at hj
      obtain ⟨w, e1, r1⟩ := E.frz j d' hj
      exact ⟨w, by rw [sg ne]; exact e1, r1.imp up⟩
  · obtain ⟨ne, hj⟩ := get hj (fun _ z => nomatch z)
    obtain ⟨b, e1, g, n, o⟩ := E.own j d' hj
    exact ⟨b, by rw [sg ne]; exact e1, g, n, o.imp up fun u z => z⟩
  · obtain ⟨ne, hj⟩ := get hj (fun _ z => nomatch z)
    obtain ⟨b, e1, o⟩ := E.io j d' hj
    exact ⟨b, by rw [sg ne]; exact e1, o.imp up fun u z => z⟩
  · have bk : ∀ {j : Nat}, (∃ d' : D, (env.set i (.frz d))[j]? = some (Slot.own d') ∨ (env.set i (.frz d))[j]? = some (Slot.io d')) → j ≠ i ∧ ∃ d : D, env[j]? = some (Slot.own d) ∨ env[j]? = some (Slot.io d) := fun {j} ⟨d', hj⟩ => by
      rcases hj with hj | hj
      · obtain ⟨ne, hj⟩ := get hj (fun _ z => nomatch z)
        exact ⟨ne, d', .inl hj⟩
      · obtain ⟨ne, hj⟩ := get hj (fun _ z => nomatch z)
        exact ⟨ne, d', .inr hj⟩
    obtain ⟨n1, h1⟩ := bk hj
    obtain ⟨n2, h2⟩ := bk hl'
    rw [sg n1] at e1
    rw [sg n2] at e2
    exact E.dis j l b h1 h2 e1 e2
  · have ne : j ≠ i := fun z => nio d' (z ▸ hj)
    exact ⟨by rw [List.getElem?_set_ne (Ne.symm ne)]; exact hj, sg ne⟩
  · have ne : j ≠ i := fun z => hj (by simp [z])
    exact ⟨sg ne, List.getElem?_set_ne (Ne.symm ne)⟩
  · have e : j = i := by simpa using hj
    subst e
    exact ⟨d, List.getElem?_set_self hl⟩

theorem Ts.len_reps {P : Addr → Prop} : ∀ {ts : Ts} {ds : List D} {env env2 : DEnv}, tgsD ts ds env = some env2 → ds.length = ts.len
  | .nil, [], _, _, _ => rfl
  | .nil, _ :: _, _, _, h => by simp only [tgsD, reduceCtorEq] at h
  | .cons _ _, [], _, _, h => by simp only [tgsD, reduceCtorEq] at h
  | .cons t ts, d :: ds, env, env2, h => by
    simp only [tgsD] at h
    obtain ⟨e1, h1, h2⟩ := Option.bind_eq_some_iff.mp h
    show ds.length + 1 = ts.len + 1
    rw [Ts.len_reps (P := P) h2]
mutual
theorem tg_reads : ∀ {t : T} {d : D} {v : V} {σ : L2.St} {env env2 : DEnv} {Q : L2.St → Hp → Prop}, EnvOk K G N H σ env → tgD t d env = some env2 → Rep K H (fun a => G a ∧ ¬ Own env σ a) d v →
    (∀ σ', EnvOk K G N H σ' env2 → TgSt σ env t.names σ' env2 → Q σ' H) → gT K t v σ H Q
  | .nm i, d, v, σ, env, env2, Q, E, h, r, fin => by
    simp only [tgD] at h
    obtain ⟨E2, s⟩ := set_frz E h r
    exact fin _ E2 s
  | .tp ts, d, v, σ, env, env2, Q, E, h, r, fin => by
    cases d <;> simp only [tgD, reduceCtorEq] at h
    · first
      | (obtain ⟨a, xs, rfl, tn, rs⟩ := r.tuple_inv
         exact .inl ⟨a, xs, rfl, tn.sq, by rw [rs.length]; exact Ts.len_reps (P := G) h, tgs_reads E h rs fin⟩)
      | (obtain ⟨a, xs, rfl, tn, rs⟩ := r.list_inv
         exact .inr ⟨a, xs, rfl, tn.sq, by rw [rs.length]; exact Ts.len_reps (P := G) h, tgs_reads E h rs fin⟩)
    · first
      | (obtain ⟨a, xs, rfl, tn, rs⟩ := r.tuple_inv
         exact .inl ⟨a, xs, rfl, tn.sq, by rw [rs.length]; exact Ts.len_reps (P := G) h, tgs_reads E h rs fin⟩)
      | (obtain ⟨a, xs, rfl, tn, rs⟩ := r.list_inv
         exact .inr ⟨a, xs, rfl, tn.sq, by rw [rs.length]; exact Ts.len_reps (P := G) h, tgs_reads E h rs fin⟩)
theorem tgs_reads : ∀ {ts : Ts} {ds : List D} {vs : List V} {σ : L2.St} {env env2 : DEnv} {Q : L2.St → Hp → Prop}, EnvOk K G N H σ env → tgsD ts ds env = some env2 → Reps K H (fun a => G a ∧ ¬ Own env σ a) ds vs →
    (∀ σ', EnvOk K G N H σ' env2 → TgSt σ env ts.names σ' env2 → Q σ' H) → gTs K ts vs σ H Q
  | .nil, [], vs, σ, env, env2, Q, E, h, r, fin => by
    simp only [tgsD] at h
    cases h
    exact ⟨r.nil_inv, fin _ E .nil⟩
  | .nil, _ :: _, _, _, _, _, _, _, h, _, _ => by simp only [tgsD, reduceCtorEq] at h
  | .cons _ _, [], _, _, _, _, _, _, h, _, _ => by simp only [tgsD, reduceCtorEq] at h
  | .cons t ts, d :: ds, vs, σ, env, env2, Q, E, h, r, fin => by
    simp only [tgsD] at h
    obtain ⟨env1, h1, h2⟩ := Option.bind_eq_some_iff.mp h
    obtain ⟨x, rest, rfl, r1, r2⟩ := r.cons_inv
    refine ⟨x, rest, rfl, tg_reads E h1 r1 fun σ1 E1 s1 => tgs_reads E1 h2 (r2.mono fun a u e z => ⟨z.1, fun y => z.2 (s1.own a y)⟩) fun σ2 E2 s2 => fin σ2 E2 (s1.trans s2)⟩
end

theorem noStarT : ∀ {N : List Str} {sc : Scope} {fn : Str → Bool} {ts : Ts} {es : List Expr}, chkTs N sc fn ts es = true → ∀ (env : Env), ((assignEach es env).length = ts.len ∧ (assignEach es env).findIdx? (·.1) = none)
  | _, _, _, .nil, [], _, _ => ⟨rfl, rfl⟩
  | _, _, _, .nil, _ :: _, h, _ => by simp only [chkTs, Bool.false_eq_true] at h
  | _, _, _, .cons _ _, [], h, _ => by simp only [chkTs, Bool.false_eq_true] at h
  | N, sc, fn, .cons t ts, e :: es, h, env => by
    simp only [chkTs] at h
    obtain ⟨h1, h2⟩ := Bool.and_eq_true_iff.mp h
    obtain ⟨i1, i2⟩ := noStarT h2 env
    have hs : assignEach (e :: es) env = (false, assign e env) :: assignEach es env := by
      cases e <;> first | rfl | (cases t <;> simp only [chkT, Bool.false_eq_true] at h1)
    rw [hs]
    refine ⟨by rw [List.length_cons, i1]; rfl, ?_⟩
    rw [List.findIdx?_cons]
    simp [i2]
mutual
theorem tg_sound {X : Cx} {N : List Str} {sc : Scope} (hc : X.calm = true) (hN : X.N = N) (nd : N.Nodup) (hs : X.env.scope = sc) : ∀ {t : T} {e : Expr}, chkT N sc X.fn t e = true → PG X e (gT X.K t)
  | .nm i, e, h => by
    cases e <;> simp only [chkT, Bool.false_eq_true] at h
    rename_i x pos
    obtain ⟨h1, h2⟩ := Bool.and_eq_true_iff.mp h
    have hi : X.N[i]? = some x := by rw [hN]; exact of_decide_eq_true h1
    have nd' : X.N.Nodup := by rw [hN]; exact nd
    rcases Bool.or_eq_true_iff.mp h2 with z | z
    · have z := of_decide_eq_true z
      rw [← hs] at z
      exact pg_name nd' hi (.inl z) (.inr z)
    · obtain ⟨z1, z2⟩ := Bool.and_eq_true_iff.mp z
      have z1 := of_decide_eq_true z1
      rw [← hs] at z1
      exact pg_name nd' hi (.inr z1) (.inl z2)
  | .tp ts, e, h => by
    cases e <;> simp only [chkT, Bool.false_eq_true] at h
    rename_i es k pos
    obtain ⟨i1, i2⟩ := noStarT h X.env
    have p1 := pg_tup (pos := pos) (k := k) hc (tgs_sound hc hN nd hs h) i1 i2
    have p2 := pg_lst (pos := pos) (k := k) hc (tgs_sound hc hN nd hs h) i1 i2
    exact ⟨fun pins s σ H v u Q I r w => w.elim (p1.run pins s σ H v u Q I r) (p2.run pins s σ H v u Q I r)⟩
theorem tgs_sound {X : Cx} {N : List Str} {sc : Scope} (hc : X.calm = true) (hN : X.N = N) (nd : N.Nodup) (hs : X.env.scope = sc) : ∀ {ts : Ts} {es : List Expr}, chkTs N sc X.fn ts es = true → PGs X es (gTs X.K ts)
  | .nil, [], _ => pgs_nil
  | .nil, _ :: _, h => by simp only [chkTs, Bool.false_eq_true] at h
  | .cons _ _, [], h => by simp only [chkTs, Bool.false_eq_true] at h
  | .cons t ts, e :: es, h => by
    simp only [chkTs] at h
    obtain ⟨h1, h2⟩ := Bool.and_eq_true_iff.mp h
    have st : (assignEach (e :: es) X.env).map (·.2) = assign e X.env :: (assignEach es X.env).map (·.2) := by
      cases e <;> first | rfl | (cases t <;> simp only [chkT, Bool.false_eq_true] at h1)
    exact pgs_cons (tg_sound hc hN nd hs h1) (tgs_sound hc hN nd hs h2) st
end
end
end DL

/-! DL25: list(range(a, b)) of ends of any size. -/
namespace PySem
open Sem (wp)
section
variable {prog : Program} {w : World} {A : Around} {E : Value → Shared → Prop} {z : Shared}
/-- the iterator of a long range, as it is made -/
abbrev longIt (a b c : Int) : Obj := { cls := .type "longrange_iterator", data := .fields #[rawInt a, rawInt (Builtin.Range.rangeSize a b c), rawInt c] }
theorem extend_long {R : Result → Shared → Prop} {r : Addr} {a b c : Int} {t u v : Tok} {n : Nat} (noH : A.handled = none) (isR : IsRange z.heap r a b c t u v) (big : Builtin.Range.small a b c = false)
    (hn : Builtin.Range.rangeSize a b c = n) (few : n ≤ 2 ^ 24) (S : Addr) (res : Value) (c0 : Nat) (atS : z.heap.get? S = some { cls := .type "list", data := .seq #[] c0 })
    (go : ∀ h' tk acc' c', (∀ b o, b ≠ S → z.heap.get? b = some o → h'.get? b = some o) → h'.get? S = some { cls := .type "list", dict := none, data := .seq acc' c', slots := #[] } →
      ItemsOf (fun i v => ∃ t, v = .int (a + i * c) t) acc' n → R (.ok (.ret res)) { z with heap := h', toks := tk }) :
    wpAny (model prog w) A.in1 (Builtin.List.listExtendWith (.ref S) (.ref r) res)
      (fun fin s' => match fin with | .done f => R (.ok f) s' | .again c' => c'.quiet = true ∧ codeAny (model prog w) A c' R s') (fun e s' => R (.error e) s') z := by
  have ne1 : S ≠ r := fun e => by rw [e, isR] at atS; simp at atS
  have lt1 : S < z.heap.objs.size := Heap.lt_size atS
  have ne2 : S ≠ z.heap.objs.size := Nat.ne_of_lt lt1
  have off : S ∉ [z.heap.objs.size] := fun hm => ne2 (List.mem_singleton.mp hm)
  have W := (Walks.longrange (prog := prog) (w := w) (A := A.in1) noH z.heap.objs.size a c n).toS
  have walk : ∀ (h : Heap) (c1 tk : Nat), IsLongIter h z.heap.objs.size (a + ((0 : Nat) : Int) * c) ((n : Int) - ((0 : Nat) : Int)) c → (∀ b o, b ≠ S → z.heap.get? b = some o → h.get? b = some o) →
      h.get? S = some { cls := .type "list", data := .seq #[] c1 } → codeAny (model prog w) A (.builtin "list.extend.loop" ⟨[.ref S, .ref z.heap.objs.size, res], []⟩) R { z with heap := h, toks := tk } := by
    intro h c1 tk it kp at1
    refine codeAny_extend_loopS W (by rw [sizeLine_eq]; omega) S off res n 0 _ #[] c1 rfl (Nat.zero_le _) it at1 (ItemsOf.nil _) fun z' acc' c' hm at' hacc => ?_
    rw [Moved.eq_with hm]
    refine go z'.heap z'.toks acc' c' (fun b o hb e => hm.heap b o (fun hmem => ?_) (kp b o hb e)) at' hacc
    rcases List.mem_cons.mp hmem with y | y
    · exact hb y
    · rw [List.mem_singleton.mp y] at e
      exact Nat.lt_irrefl _ (Heap.lt_size e)
  unfold Builtin.List.listExtendWith
  refine wpAny_bind (wpAny_typeOf (T := "range") ⟨_, isR, rfl⟩ ?_)
  have k1 : Builtin.List.listSameRef (.ref S) (.ref r) = false := by simp [Builtin.List.listSameRef, ne1]
  have k2 : (Value.type "range" == Value.type "list") = false := by decide
  have k3 : (Value.type "range" == Value.type "tuple") = false := by decide
  simp only [k1, k2, k3, Bool.or_false, Bool.false_eq_true, if_false]
  refine wpAny_bind (wpAny_pyIter_longrange isR big ?_)
  refine wpAny_bind (wpAny_holding (wpAny_hint_range (n := n) (Heap.get?_push_of_some _ isR) hn few ?_))
  have it1 : IsLongIter (z.heap.push (longIt a b c)) z.heap.objs.size (a + ((0 : Nat) : Int) * c) ((n : Int) - ((0 : Nat) : Int)) c := by
    show IsLongIter _ _ _ _ _
    unfold longIt
    rw [hn]
    simpa using Heap.get?_push_size _ rfl
  have at1 := Heap.get?_push_of_some (longIt a b c) atS
  refine wpAny_ite_split (fun _ => ?_) (fun _ => wpAny_pure ⟨plainId_quiet F.plain_extend_loop _, walk _ c0 _ it1 (fun b o _ e => Heap.get?_push_of_some _ e) at1⟩)
  refine wpAny_bind (wpAny_rule ?_)
  refine wpAny_bind ?_
  show wpAny _ _ (updateSeq S (·.push .none) >>= fun _ => updateSeq S (·.pop)) _ _ _
  refine wpAny_bind (wpAny_updateSeq at1 rfl ?_)
  have at2 := Heap.get?_update_self (Obj.mapSeq (·.push Value.none)) at1 rfl
  refine wpAny_updateSeq (hz := by seq_fits) at2 rfl ?_
  have at3 := Heap.get?_update_self (Obj.mapSeq (·.pop)) at2 rfl
  refine wpAny_pure ⟨plainId_quiet F.plain_extend_loop _, walk _ _ _ ?_ (fun b o hb e => ?_) at3⟩
  · exact (Heap.get?_update_other _ _ ne2).trans ((Heap.get?_update_other _ _ ne2).trans it1)
  · exact (Heap.get?_update_other _ _ (Ne.symm hb)).trans ((Heap.get?_update_other _ _ (Ne.symm hb)).trans (Heap.get?_push_of_some _ e))
theorem init_long {R : Result → Shared → Prop} {r : Addr} {a b c : Int} {t u v : Tok} {n : Nat} (noH : A.handled = none) (isR : IsRange z.heap r a b c t u v) (big : Builtin.Range.small a b c = false)
    (hn : Builtin.Range.rangeSize a b c = n) (few : n ≤ 2 ^ 24) (S : Addr) (atS : z.heap.get? S = some { cls := .type "list", data := .seq #[] })
    (go : ∀ h' tk acc' c', (∀ b o, b ≠ S → z.heap.get? b = some o → h'.get? b = some o) → h'.get? S = some { cls := .type "list", dict := none, data := .seq acc' c', slots := #[] } →
      ItemsOf (fun i v => ∃ t, v = .int (a + i * c) t) acc' n → R (.ok (.ret .none)) { z with heap := h', toks := tk }) :
    wpAny (model prog w) A.in1 (Builtin.«list.__init__» ⟨[.ref S, .ref r], []⟩)
      (fun fin s' => match fin with | .done f => R (.ok f) s' | .again c' => c'.quiet = true ∧ codeAny (model prog w) A c' R s') (fun e s' => R (.error e) s') z := by
  have ne1 : S ≠ r := fun e => by rw [e, isR] at atS; simp at atS
  show wpAny _ _ (do let old ← Builtin.List.listItems (.ref S); Builtin.List.listUpdate (.ref S) (fun _ => #[]); letGo old.toList.reverse; Builtin.List.listExtendWith (.ref S) (.ref r) .none) _ _ z
  refine wpAny_bind ?_
  unfold Builtin.List.listItems
  refine wpAny_bind (wpAny_seqItems atS rfl (wpAny_pure ?_))
  show wpAny _ _ (updateSeq S (fun _ => #[]) >>= fun _ => letGo (#[] : Array Value).toList.reverse >>= fun _ => Builtin.List.listExtendWith (.ref S) (.ref r) .none) _ _ z
  refine wpAny_bind (wpAny_updateSeq atS rfl ?_)
  have at2 := Heap.get?_update_self (Obj.mapSeq (fun _ => (#[] : Array Value))) atS rfl
  have oth : ∀ b o, b ≠ S → z.heap.get? b = some o → (z.heap.update S (Obj.mapSeq (fun _ => (#[] : Array Value)))).get? b = some o := fun b o hb e => (Heap.get?_update_other _ _ (Ne.symm hb)).trans e
  refine wpAny_bind (wpAny_letGo ?_)
  exact extend_long noH (oth r _ (Ne.symm ne1) isR) big hn few S .none _ at2 fun h' tk acc' c' hk hS' hacc => go h' tk acc' c' (fun b o hb e => hk b o hb (oth b o hb e)) hS' hacc
theorem call_list_long {Q : Value → Shared → Prop} {r : Addr} {a b c : Int} {t u v : Tok} {n : Nat} (noH : A.handled = none) (isR : IsRange z.heap r a b c t u v) (big : Builtin.Range.small a b c = false)
    (hn : Builtin.Range.rangeSize a b c = n) (few : n ≤ 2 ^ 24)
    (go : ∀ h' tk acc' c', (∀ b o, z.heap.get? b = some o → h'.get? b = some o) →
      h'.get? z.heap.objs.size = some { cls := .type "list", dict := none, data := .seq acc' c', slots := #[] } → ItemsOf (fun i v => ∃ t, v = .int (a + i * c) t) acc' n → Q (.ref z.heap.objs.size) { z with heap := h', toks := tk }) :
    wpAny (model prog w) A (call (.type "list") [.ref r]) Q E z := by
  refine callType_codes (Q₁ := fun ob z1 => ob = .ref z.heap.objs.size ∧ z1 = { z with heap := z.heap.push { cls := .type "list", data := .seq #[] } }) F.called_list (F.typeCall_list_1 _) F.entry_list_init (code_list_new _ ⟨rfl, rfl⟩) fun ob z1 h1 => ?_
  obtain ⟨rfl, rfl⟩ := h1
  have at0 : (z.heap.push { cls := .type "list", data := .seq #[] }).get? z.heap.objs.size = some { cls := .type "list", data := .seq #[] } := Heap.get?_push_size _ rfl
  refine ⟨⟨_, at0, rfl⟩, F.args_list_init_2 _ _, init_long (A := A.in1) noH (Heap.get?_push_of_some _ isR) big hn few _ at0 fun h' tk acc' c' hk hS' hacc => ?_⟩
  exact ⟨rfl, go h' tk acc' c' (fun b o e => hk b o (Nat.ne_of_lt (Heap.lt_size e)) (Heap.get?_push_of_some _ e)) hS' hacc⟩
end
end PySem
namespace L2
open PySem PySem.Spec PyProof.Rows
section
variable {X : Cx} {e : Expr} {te : St → Hp → (Int → Int → Hp → Prop) → Prop}
def tLstRgA (te : St → Hp → (Int → Int → Hp → Prop) → Prop) : TE := fun σ H Q => te σ H fun a b H1 => (b - a).toNat ≤ 1000000 ∧ ∀ q, H1 q = none → Q (.ref q) (upd H1 q (.lst (rgV a b)))
theorem pe_listRgA {p pos : Pos} (hc : X.calm = true) (hg : Gl X "list") (hm : X.mg "list" = none) (he : PRg X e te) (na : starEach [e] X.env = (false, eval e X.env) :: starEach [] X.env := by rfl) : PE X (.Call (.Name "list" p) [e] [] pos) (tLstRgA te) := by
  refine ⟨fun pins s σ H Q I h => ?_⟩
  refine Call_ (ld_blt I hg hm boot_list (PyProof.Rows.callWith_type1 (args_cons (thn (he pins s σ H _ I h) fun x s1 ⟨r, a, b, t, u, v, H1, ex, hr, I1, ok, q⟩ => args_nil ?_) na) na))
  subst ex
  have fin : ∀ h' tk acc c', (∀ b o, s1.heap.get? b = some o → h'.get? b = some o) → h'.get? s1.heap.objs.size = some { cls := .type "list", dict := none, data := .seq acc c', slots := #[] } → ItemsOf (fun i v => ∃ t, v = .int (a + i * 1) t) acc (b - a).toNat →
      EP X pins σ Q (.ref s1.heap.objs.size) { s1 with heap := h', toks := tk } := fun h' tk acc c' hk e' hi => by
    refine ⟨.ref s1.heap.objs.size, upd H1 s1.heap.objs.size (.lst (rgV a b)), I1.laid hk (Nat.le_refl _) (show ObjOk X.prog X.w _ _ _ (.lst (rgV a b)) from ⟨?_, acc.toList, c', vals_rg hi, ?_⟩), rfl, q _ (I1.hok.fresh (Nat.le_refl _))⟩
    · rw [rgV_length, sizeLine_eq]; omega
    · rw [Array.toArray_toList]; exact e'
  cases hs : Builtin.Range.small a b 1 with
  | true => exact call_list_range (n := (b - a).toNat) (I1.ok.hd hc) hr hs (rangeSize_nat a b) (by omega) fin
  | false => exact call_list_long (n := (b - a).toNat) (I1.ok.hd hc) hr hs (rangeSize_nat a b) (by omega) fin
end
end L2

/-! DL26: for i in range(a, b), of ends of any size. -/
namespace L2
open PySem PySem.Spec PyProof.Rows
theorem turn_long {P : Program} {w : World} {K : PySem.W.Frag} {tg : Expr} (it : Addr) (lo : Int) (n : Nat) : Turn P w K tg (Itr lo n) [it] it (fun i h => IsLongIter h it (lo + (i : Nat) * 1) ((n : Int) - (i : Nat)) 1) where
  mem := List.mem_singleton.mpr rfl
  obj := fun i h st b hb => by
    obtain rfl : b = it := List.mem_singleton.mp hb
    exact ⟨_, st, fun v z => nomatch (show Data.fields _ = Data.cell v from z)⟩
  keep := fun i h h' st k => k it (List.mem_singleton.mpr rfl) _ st
  item := by
    rintro X rfl rfl rfl hc i pins s σ H E I hf st hg
    obtain ⟨f0, f1, f2, f3, f4, f5⟩ := hf it (List.mem_singleton.mpr rfl)
    refine (Walks.longrange (prog := X.prog) (w := X.w) (I.ok.hd hc) it lo 1 n).item i s _ _ hg st fun v h' tk hv st' kk => ?_
    obtain ⟨t, rfl⟩ := hv
    have J : Inv X pins σ H { s with heap := h', toks := tk } := I.turned (fun b o hb e => kk b o (by simpa using hb) e) f0 f1 f3 f4 f5
    exact ⟨_, rfl, go_of (s := { s with heap := h', toks := tk }) (n := "longrange_iterator") st' rfl rfl (by decide) ⟨.int (lo + i), H, J, ⟨t, by rw [Int.mul_one]⟩, ⟨rfl, rfl⟩, st', fun b hb => (hf b hb).1⟩⟩
  done := by
    rintro X rfl rfl rfl hc i pins s σ H E I hf st hg
    obtain ⟨f0, f1, f2, f3, f4, f5⟩ := hf it (List.mem_singleton.mpr rfl)
    exact wpAny_pyNext_long_end (I.ok.hd hc) st (by have : n ≤ i := hg; omega) fun h' eb => ⟨rfl, I.turned (t' := s.toks) (fun b o hb e => eb b o hb e) f0 f1 f3 f4 f5⟩
  self := fun _ _ _ _ _ st h => wpAny_pyIter_longiter st h
/-- a range as it is made -/
abbrev rgO (lo hi : Int) (t u v : Tok) : Obj := { cls := .type "range", data := .fields #[.int lo t, .int hi u, .int 1 v] }
section
variable {X : Cx} {tg : Expr}
theorem range_itL {pins : List (Addr × Obj)} {σ : St} {H : Hp} {s : Shared} {R : It → Hp → Prop} {E : Value → Shared → Prop} {lo hi : Int} {t u v : Tok} {tk : Nat} (I : Inv X pins σ H s) (big : Builtin.Range.small lo hi 1 = false)
    (q : R (Itr lo (hi - lo).toNat) H) : wpAny (model X.prog X.w) X.A (pyIter (.ref s.heap.objs.size)) (PIE X pins σ tg R) E { s with heap := s.heap.push (rgO lo hi t u v), toks := tk } := by
  refine wpAny_pyIter_longrange (IsRange.new ..) big ?_
  have J : Inv X pins σ H { s with heap := s.heap.push (rgO lo hi t u v), toks := tk } := I.kept fun b o e => Heap.get?_push_of_some _ e
  refine ⟨(s.heap.push (rgO lo hi t u v)).objs.size, [(s.heap.push (rgO lo hi t u v)).objs.size], _, _, H, rfl, J.kept (t' := tk) fun b o e => Heap.get?_push_of_some _ e, turn_long _ lo (hi - lo).toNat, ?_, fun b hb => ?_, q⟩
  · have e1 : lo + ((0 : Nat) : Int) * 1 = lo := by simp
    have e2 : (((hi - lo).toNat : Nat) : Int) - ((0 : Nat) : Int) = Builtin.Range.rangeSize lo hi 1 := by rw [rangeSize_one]; split <;> omega
    show IsLongIter _ _ (lo + ((0 : Nat) : Int) * 1) ((((hi - lo).toNat : Nat) : Int) - ((0 : Nat) : Int)) 1
    rw [e1, e2]
    exact Heap.get?_push_size _ rfl
  · obtain rfl : b = (s.heap.push (rgO lo hi t u v)).objs.size := List.mem_singleton.mp hb
    exact J.fpOk (Nat.le_refl _) (J.hok.fresh (Nat.le_refl _))
theorem range_itS {pins : List (Addr × Obj)} {σ : St} {H : Hp} {s : Shared} {R : It → Hp → Prop} {E : Value → Shared → Prop} {lo hi : Int} {t u v : Tok} {tk : Nat} (I : Inv X pins σ H s) (few : Builtin.Range.small lo hi 1 = true)
    (q : R (Itr lo (hi - lo).toNat) H) : wpAny (model X.prog X.w) X.A (pyIter (.ref s.heap.objs.size)) (PIE X pins σ tg R) E { s with heap := s.heap.push (rgO lo hi t u v), toks := tk } := by
  refine wpAny_pyIter_range (IsRange.new ..) few ?_
  have J : Inv X pins σ H { s with heap := s.heap.push (rgO lo hi t u v), toks := tk } := I.kept fun b o e => Heap.get?_push_of_some _ e
  refine ⟨(s.heap.push (rgO lo hi t u v)).objs.size, [(s.heap.push (rgO lo hi t u v)).objs.size], _, _, H, rfl, J.kept (t' := tk) fun b o e => Heap.get?_push_of_some _ e, turn_range _ lo (hi - lo).toNat, ?_, fun b hb => ?_, q⟩
  · have e1 : lo + ((0 : Nat) : Int) * 1 = lo := by simp
    have e2 : (((hi - lo).toNat : Nat) : Int) - ((0 : Nat) : Int) = Builtin.Range.rangeSize lo hi 1 := by rw [rangeSize_one]; split <;> omega
    show IsRangeIter _ _ (lo + ((0 : Nat) : Int) * 1) ((((hi - lo).toNat : Nat) : Int) - ((0 : Nat) : Int)) 1
    rw [e1, e2]
    exact Heap.get?_push_size _ rfl
  · obtain rfl : b = (s.heap.push (rgO lo hi t u v)).objs.size := List.mem_singleton.mp hb
    exact J.fpOk (Nat.le_refl _) (J.hok.fresh (Nat.le_refl _))
/-- range(a, b) -/
def iRng2A (ta : TA) : TI := fun σ H R => ta σ H fun vs H1 => ∃ i j : Int, vs = [.int i, .int j] ∧ R (Itr i (j - i).toNat) H1
theorem pi_range2A {a b : Expr} {ta : TA} {p pos : Pos} (hg : Gl X "range") (hm : X.mg "range" = none) (ha : PA X [a, b] ta) (hs : starEach [a, b] X.env = [(false, eval a X.env), (false, eval b X.env)] := by rfl) (hs2 : starEach [b] X.env = [(false, eval b X.env)] := by rfl) :
    PI X tg (.Call (.Name "range" p) [a, b] [] pos) (iRng2A ta) := by
  refine ⟨fun pins s σ H R I h => ?_⟩
  refine Call_ (ld_blt I hg hm boot_range (PyProof.Rows.callWith_type1 (thn (ha.run pos pins s σ H _ I h) fun us s1 ⟨vs, H1, I1, r1, i, j, e, q⟩ => ?_) (by rw [hs, hs2]) (by rw [hs2]; rfl)))
  subst e
  cases r1 with
  | cons r rr =>
    cases rr with
    | cons r' rr =>
      cases rr
      obtain ⟨t, rfl⟩ := r
      obtain ⟨t', rfl⟩ := r'
      cases hsm : Builtin.Range.small i j 1 with
      | false => exact call_range_2 (range_itL I1 hsm q)
      | true => exact call_range_2 (range_itS I1 hsm q)
end
end L2

/-! zip under one name: the pair given out stays the name's own -/
namespace ZN
open PySem PySem.Spec PyProof.Rows L2
/-- a zip over two iterators: what it has given out, and whether it knows that this is still there -/
abbrev ZipF (h : Heap) (u p q : Addr) (a : Value) (f : Bool) : Prop := h.get? u = some { cls := .type "zip", dict := none, data := .fields #[a, .bool f, .bool false, .ref p, .ref q], slots := #[] }
section
variable {prog : Program} {w : World} {A : Around} {E : Value → Shared → Prop} {s : Shared}
theorem look_gone {T : Addr} {R : Option Obj → Shared → Prop} (gone : s.heap.get? T = none) (h : R none s) : wpAny (model prog w) A (loadIfAlive T) R E s := by
  have hR : R (s.heap.get? T) s := by rw [gone]; exact h
  exact fun _ _ _ => hR
theorem free_gone {u p q T : Addr} {f : Bool} {R : Bool → Shared → Prop} (hu : ZipF s.heap u p q (rawInt T) f) (gone : s.heap.get? T = none) (h : R true s) : wpAny (model prog w) A (Builtin.SmallTypes.ownedTupleIsFree (.ref u)) R E s := by
  unfold Builtin.SmallTypes.ownedTupleIsFree
  refine wpAny_bind (wpAny_field (x := rawInt T) hu rfl rfl ?_)
  show wpAny _ _ (loadIfAlive (Int.toNat (T : Int)) >>= _) _ _ _
  rw [Int.toNat_natCast]
  refine wpAny_bind (look_gone gone ?_)
  simp only [Option.isNone_none, if_true]
  exact wpAny_pure h
theorem item_gone {u p q i j l m T : Addr} {f : Bool} {n k : Nat} {xs ys : Array Value} {x y a b : Value} {R : Value → Shared → Prop} (D : ZipApart u p q i j l m)
    (hu : ZipF s.heap u p q (rawInt T) f) (gone : s.heap.get? T = none) (hp : IsPair s.heap p (.ref i) (.ref j)) (hq : IsPair s.heap q a b)
    (hi : s.heap.IsListIter i l n) (hj : s.heap.IsListIter j m k) (hl : s.heap.IsList l xs) (hm : s.heap.IsList m ys) (ex : xs[n]? = some x) (ey : ys[k]? = some y)
    (hR : ∀ h', ZipF h' u p q (rawInt s.heap.objs.size) false → IsPair h' q x y → h'.IsListIter i l (n + 1) → h'.IsListIter j m (k + 1) → IsPair h' s.heap.objs.size x y → h'.objs.size = s.heap.objs.size + 1 →
      (∀ c o, c ≠ u → c ≠ q → c ≠ i → c ≠ j → s.heap.get? c = some o → h'.get? c = some o) → R (.ref s.heap.objs.size) { s with heap := h' }) :
    wpAny (model prog w) A (Builtin.«zip.__next__» ⟨[.ref u], []⟩) (fun fin s' => ∃ v, fin = .done (.ret v) ∧ R v s') E s := by
  show wpAny _ _ (field (.ref u) 2 >>= _) _ _ _
  refine wpAny_bind (wpAny_field (x := .bool false) hu rfl rfl ?_)
  show wpAny _ _ (field (.ref u) 3 >>= _) _ _ _
  refine wpAny_bind (wpAny_field (x := .ref p) hu rfl rfl ?_)
  refine wpAny_bind (wpAny_seqItems hp rfl ?_)
  show wpAny _ _ (Builtin.SmallTypes.ownedTupleIsFree (.ref u) >>= _) _ _ _
  refine wpAny_bind (free_gone hu gone ?_)
  simp only [if_true]
  refine wpAny_bind (wpAny_rule ?_)
  refine wpAny_bind (wpAny_field (x := .ref q) hu rfl rfl ?_)
  refine wpAny_bind (wpAny_setField_rec hu (by simp) fun h1 hu1 s1 => ?_)
  replace hu1 : ZipF h1 u p q .ellipsis f := hu1
  refine wpAny_bind ?_
  simp only [List.zipIdx_cons, List.zipIdx_nil, List.forIn_cons, List.forIn_nil]
  refine wpAny_bind (wpAny_bind (wpAny_onRaise ?_))
  show wpAny _ _ (Builtin.SmallTypes.nextOf (.ref i) >>= _) _ _ _
  refine wpAny_bind (wpAny_nextOf_list_item (hi.extBut s1.extBut D.i1z) (hl.extBut s1.extBut D.l1z) ex fun h2 hi2 s2 => wpAny_pure ?_)
  have hq2 : IsPair h2 q a b := s2.extBut _ _ D.TOi1 (s1.extBut _ _ D.TOz hq)
  refine wpAny_bind (wpAny_seqItems hq2 rfl ?_)
  refine wpAny_bind (wpAny_updateSeq_pair hq2 fun h3 hq3 s3 => ?_)
  replace hq3 : IsPair h3 q x b := hq3
  refine wpAny_bind (wpAny_letGo (wpAny_pure ?_))
  refine wpAny_bind (wpAny_bind (wpAny_onRaise ?_))
  show wpAny _ _ (Builtin.SmallTypes.nextOf (.ref j) >>= _) _ _ _
  refine wpAny_bind (wpAny_nextOf_list_item (((hj.extBut s1.extBut D.i2z).extBut s2.extBut D.i12.symm).extBut s3.extBut D.TOi2.symm) (((hm.extBut s1.extBut D.l2z).extBut s2.extBut D.l2i1).extBut s3.extBut D.l2TO) ey fun h4 hj4 s4 => wpAny_pure ?_)
  have hq4 : IsPair h4 q x b := s4.extBut _ _ D.TOi2 hq3
  refine wpAny_bind (wpAny_seqItems hq4 rfl ?_)
  refine wpAny_bind (wpAny_updateSeq_pair hq4 fun h5 hq5 s5 => ?_)
  replace hq5 : IsPair h5 q x y := hq5
  refine wpAny_bind (wpAny_letGo (wpAny_pure (wpAny_pure ?_)))
  refine wpAny_bind (wpAny_seqItems hq5 rfl ?_)
  refine wpAny_bind (wpAny_newTuple ?_)
  have z5 : h5.objs.size = s.heap.objs.size := by rw [s5.1, s4.1, s3.1, s2.1, s1.1]
  have hu5 : ZipF h5 u p q .ellipsis f := s5.extBut _ _ D.TOz.symm (s4.extBut _ _ D.i2z.symm (s3.extBut _ _ D.TOz.symm (s2.extBut _ _ D.i1z.symm hu1)))
  have k5 : ∀ c o, c ≠ u → c ≠ q → c ≠ i → c ≠ j → s.heap.get? c = some o → h5.get? c = some o := fun c o n1 n2 n3 n4 e =>
    s5.extBut _ _ n2 (s4.extBut _ _ n4 (s3.extBut _ _ n2 (s2.extBut _ _ n3 (s1.extBut _ _ n1 e))))
  have hi5 : h5.IsListIter i l (n + 1) := ((hi2.extBut s3.extBut D.TOi1.symm).extBut s4.extBut D.i12).extBut s5.extBut D.TOi1.symm
  have hj5 : h5.IsListIter j m (k + 1) := hj4.extBut s5.extBut D.TOi2.symm
  have ult : u < h5.objs.size := Heap.lt_size hu5
  show wpAny _ _ (Builtin.SmallTypes.ownedTupleHandOut (.ref u) (.ref h5.objs.size) >>= _) _ _ _
  refine wpAny_bind ?_
  unfold Builtin.SmallTypes.ownedTupleHandOut
  have hu6 : ZipF (h5.push { cls := .type "tuple", data := .seq #[x, y] }) u p q .ellipsis f := Heap.get?_push_of_some _ hu5
  refine wpAny_bind (wpAny_setField_rec hu6 (by simp) fun h7 hu7 s7 => ?_)
  replace hu7 : ZipF h7 u p q (rawInt h5.objs.size) f := hu7
  refine wpAny_setField_rec hu7 (by simp) fun h8 hu8 s8 => ?_
  replace hu8 : ZipF h8 u p q (rawInt h5.objs.size) false := hu8
  have up : ∀ c o, c ≠ u → h5.get? c = some o → h8.get? c = some o := fun c o n1 e => s8.extBut _ _ n1 (s7.extBut _ _ n1 (Heap.get?_push_of_some _ e))
  have T8 : IsPair h8 h5.objs.size x y := s8.extBut _ _ (Nat.ne_of_gt ult) (s7.extBut _ _ (Nat.ne_of_gt ult) (Heap.get?_push_size _ rfl))
  have z8 : h8.objs.size = h5.objs.size + 1 := by rw [s8.1, s7.1, Heap.size_push]
  rw [z5] at hu8 T8 z8
  refine wpAny_pure ⟨_, rfl, ?_⟩
  show R (.ref h5.objs.size) _
  rw [z5]
  exact hR h8 hu8 (up _ _ D.TOz hq5) (hi5.at fun o e => up _ o D.i1z e) (hj5.at fun o e => up _ o D.i2z e) T8 z8 fun c o n1 n2 n3 n4 e => up c o n1 (k5 c o n1 n2 n3 n4 e)
theorem end_gone {u p q i j l m T : Addr} {f : Bool} {n k : Nat} {xs ys : Array Value} {a b : Value} {R : Fin → Shared → Prop} (hh : A.handled = none) (D : ZipApart u p q i j l m)
    (hu : ZipF s.heap u p q (rawInt T) f) (gone : s.heap.get? T = none) (hp : IsPair s.heap p (.ref i) (.ref j)) (hq : IsPair s.heap q a b)
    (hi : s.heap.IsListIter i l n) (hj : s.heap.IsListIter j m k) (hl : s.heap.IsList l xs) (hm : s.heap.IsList m ys) (stop : xs[n]? = none ∨ ys[k]? = none)
    (hE : ∀ h' e, (∀ c o, c ≠ u → c ≠ q → c ≠ i → c ≠ j → s.heap.get? c = some o → h'.get? c = some o) → (∃ o, h'.get? e = some o ∧ o.cls = .type "StopIteration") → E (.ref e) { s with heap := h' }) :
    wpAny (model prog w) A (Builtin.«zip.__next__» ⟨[.ref u], []⟩) R E s := by
  show wpAny _ _ (field (.ref u) 2 >>= _) _ _ _
  refine wpAny_bind (wpAny_field (x := .bool false) hu rfl rfl ?_)
  show wpAny _ _ (field (.ref u) 3 >>= _) _ _ _
  refine wpAny_bind (wpAny_field (x := .ref p) hu rfl rfl ?_)
  refine wpAny_bind (wpAny_seqItems hp rfl ?_)
  show wpAny _ _ (Builtin.SmallTypes.ownedTupleIsFree (.ref u) >>= _) _ _ _
  refine wpAny_bind (free_gone hu gone ?_)
  simp only [if_true]
  refine wpAny_bind (wpAny_rule ?_)
  refine wpAny_bind (wpAny_field (x := .ref q) hu rfl rfl ?_)
  refine wpAny_bind (wpAny_setField_rec hu (by simp) fun h1 hu1 s1 => ?_)
  replace hu1 : ZipF h1 u p q .ellipsis f := hu1
  refine wpAny_bind ?_
  simp only [List.zipIdx_cons, List.zipIdx_nil, List.forIn_cons, List.forIn_nil]
  refine wpAny_bind (wpAny_bind (wpAny_onRaise ?_))
  show wpAny _ _ (Builtin.SmallTypes.nextOf (.ref i) >>= _) _ _ _
  cases ex : xs[n]? with
  | none =>
    refine wpAny_bind (wpAny_nextOf_list_end hh (hi.extBut s1.extBut D.i1z) (hl.extBut s1.extBut D.l1z) ex fun h2 e s2 he => ?_)
    obtain ⟨oe, f1, f2⟩ := he
    have hu2 : ZipF h2 u p q .ellipsis f := s2 _ _ D.i1z.symm hu1
    have ne : e ≠ u := fun z => by subst z; rw [hu2] at f1; cases f1; simp at f2
    refine wpAny_setField_rec hu2 (by simp) fun h3 _ s3 => hE h3 e (fun c o n1 _ n3 _ z => s3.extBut _ _ n1 (s2 _ _ n3 (s1.extBut _ _ n1 z))) ⟨oe, s3.extBut _ _ ne f1, f2⟩
  | some x =>
    have ey : ys[k]? = none := by rcases stop with z | z; rw [ex] at z; cases z; exact z
    refine wpAny_bind (wpAny_nextOf_list_item (hi.extBut s1.extBut D.i1z) (hl.extBut s1.extBut D.l1z) ex fun h2 hi2 s2 => wpAny_pure ?_)
    have hq2 : IsPair h2 q a b := s2.extBut _ _ D.TOi1 (s1.extBut _ _ D.TOz hq)
    refine wpAny_bind (wpAny_seqItems hq2 rfl ?_)
    refine wpAny_bind (wpAny_updateSeq_pair hq2 fun h3 hq3 s3 => ?_)
    refine wpAny_bind (wpAny_letGo (wpAny_pure ?_))
    refine wpAny_bind (wpAny_bind (wpAny_onRaise ?_))
    show wpAny _ _ (Builtin.SmallTypes.nextOf (.ref j) >>= _) _ _ _
    refine wpAny_bind (wpAny_nextOf_list_end hh (((hj.extBut s1.extBut D.i2z).extBut s2.extBut D.i12.symm).extBut s3.extBut D.TOi2.symm) (((hm.extBut s1.extBut D.l2z).extBut s2.extBut D.l2i1).extBut s3.extBut D.l2TO) ey fun h4 e s4 he => ?_)
    obtain ⟨oe, f1, f2⟩ := he
    have hu4 : ZipF h4 u p q .ellipsis f := s4 _ _ D.i2z.symm (s3.extBut _ _ D.TOz.symm (s2.extBut _ _ D.i1z.symm hu1))
    have ne : e ≠ u := fun z => by subst z; rw [hu4] at f1; cases f1; simp at f2
    refine wpAny_setField_rec hu4 (by simp) fun h5 _ s5 => hE h5 e (fun c o n1 n2 n3 n4 z => s5.extBut _ _ n1 (s4 _ _ n4 (s3.extBut _ _ n2 (s2.extBut _ _ n3 (s1.extBut _ _ n1 z))))) ⟨oe, s5.extBut _ _ ne f1, f2⟩
/-- what a zip has given out -/
def Out (h : Heap) (u p q : Addr) : Prop := ∃ a f, ZipF h u p q a f ∧ (a = .none ∧ f = false ∨ ∃ T : Addr, a = rawInt T)
theorem next_any {u p q i j l m : Addr} {n k : Nat} {xs ys : Array Value} {x y a b : Value} {R : Option Value → Shared → Prop} (D : ZipApart u p q i j l m)
    (hu : Out s.heap u p q) (hp : IsPair s.heap p (.ref i) (.ref j)) (hq : IsPair s.heap q a b)
    (hi : s.heap.IsListIter i l n) (hj : s.heap.IsListIter j m k) (hl : s.heap.IsList l xs) (hm : s.heap.IsList m ys) (ex : xs[n]? = some x) (ey : ys[k]? = some y)
    (hR : ∀ h', Out h' u p q → (∃ a' b', IsPair h' q a' b') → h'.IsListIter i l (n + 1) → h'.IsListIter j m (k + 1) → IsPair h' s.heap.objs.size x y → h'.objs.size = s.heap.objs.size + 1 →
      (∀ c o, c ≠ u → c ≠ q → c ≠ i → c ≠ j → s.heap.get? c = some o → h'.get? c = some o) → R (some (.ref s.heap.objs.size)) { s with heap := h' }) :
    wpAny (model prog w) A (pyNext (.ref u)) R E s := by
  obtain ⟨v, f, hz, ho⟩ := hu
  rcases ho with ⟨rfl, rfl⟩ | ⟨T, rfl⟩
  · exact wpAny_pyNext_zip_item D hz hp hq hi hj hl hm ex ey fun h' b1 b2 b3 b4 b5 b6 b7 => hR h' ⟨_, _, b1, .inr ⟨_, rfl⟩⟩ ⟨_, _, b2⟩ b3 b4 b5 b6 b7
  · cases hT : s.heap.get? T with
    | some oT =>
      exact wpAny_pyNext_zip_item_held D hz hT hp hi hj hl hm ex ey fun h' b1 b3 b4 b5 b6 b7 => hR h' ⟨_, _, b1, .inr ⟨_, rfl⟩⟩ ⟨_, _, b7 _ _ D.TOz D.TOi1 D.TOi2 hq⟩ b3 b4 b5 b6 fun c o n1 _ n3 n4 e => b7 c o n1 n3 n4 e
    | none =>
      have ty : s.TypeIs (.ref u) "zip" := ⟨_, hz, rfl⟩
      unfold pyNext
      exact wpAny_bind (wpAny_attempt (wpAny_callSpecial?_slot (name := Str.ofString "__next__") ty F.slot_zip_next (wpAny_call_entry F.slot_zip_next ty F.entry_zip_next
        (item_gone D hz hT hp hq hi hj hl hm ex ey fun h' b1 b2 b3 b4 b5 b6 b7 => wpAny_pure (hR h' ⟨_, _, b1, .inr ⟨_, rfl⟩⟩ ⟨_, _, b2⟩ b3 b4 b5 b6 b7)) (F.args_zip_next_1 _))))
theorem end_any {u p q i j l m : Addr} {n k : Nat} {xs ys : Array Value} {a b : Value} {R : Option Value → Shared → Prop} (hh : A.handled = none) (D : ZipApart u p q i j l m)
    (hu : Out s.heap u p q) (hp : IsPair s.heap p (.ref i) (.ref j)) (hq : IsPair s.heap q a b)
    (hi : s.heap.IsListIter i l n) (hj : s.heap.IsListIter j m k) (hl : s.heap.IsList l xs) (hm : s.heap.IsList m ys) (stop : xs[n]? = none ∨ ys[k]? = none)
    (hR : ∀ h', (∀ c o, c ≠ u → c ≠ q → c ≠ i → c ≠ j → s.heap.get? c = some o → h'.get? c = some o) → R none { s with heap := h' }) :
    wpAny (model prog w) A (pyNext (.ref u)) R E s := by
  obtain ⟨v, f, hz, ho⟩ := hu
  rcases ho with ⟨rfl, rfl⟩ | ⟨T, rfl⟩
  · exact wpAny_pyNext_zip_end hh D hz hp hq hi hj hl hm stop hR
  · cases hT : s.heap.get? T with
    | some oT => exact wpAny_pyNext_zip_end_held hh D hz hT hp hi hj hl hm stop fun h' b => hR h' fun c o n1 _ n3 n4 e => b c o n1 n3 n4 e
    | none =>
      have ty : s.TypeIs (.ref u) "zip" := ⟨_, hz, rfl⟩
      unfold pyNext
      refine wpAny_bind (wpAny_attempt (wpAny_callSpecial?_slot (name := Str.ofString "__next__") ty F.slot_zip_next (wpAny_call_entry F.slot_zip_next ty F.entry_zip_next (end_gone hh D hz hT hp hq hi hj hl hm stop fun h' e b he => ?_) (F.args_zip_next_1 _))))
      obtain ⟨o, f1, f2⟩ := he
      refine wpAny_bind (wpAny_isInstance (T := "StopIteration") (b := true) ⟨o, f1, f2⟩ isSubtype_stop ?_)
      exact wpAny_pure (hR _ b)
end
theorem Out.at {h h' : Heap} {u p q : Addr} (o : Out h u p q) (k : ∀ b, h.get? u = some b → h'.get? u = some b) : Out h' u p q :=
  let ⟨a, f, z, y⟩ := o; ⟨a, f, k _ z, y⟩
theorem turn_zipN {P : Program} {w : World} {K : PySem.W.Frag} {x : Str} {np : Pos} {l m u p q i j : Addr} (D : ZipApart u p q i j l m) :
    Turn P w K (.Name x np) (Itz K l m) [u, p, q, i, j] u (fun n h => Out h u p q ∧ IsPair h p (.ref i) (.ref j) ∧ (∃ a b, IsPair h q a b) ∧ h.IsListIter i l n ∧ h.IsListIter j m n) where
  mem := by simp
  obj := fun n h st c hc => by
    obtain ⟨⟨a0, f0, hz, _⟩, hp, ⟨a, b, hq⟩, ⟨o1, e1, _, d1⟩, ⟨o2, e2, _, d2⟩⟩ := st
    have e' : c = u ∨ c = p ∨ c = q ∨ c = i ∨ c = j := by simpa using hc
    rcases e' with z | z | z | z | z <;> rw [z]
    · exact ⟨_, hz, fun v q => nomatch q⟩
    · exact ⟨_, hp, fun v q => nomatch q⟩
    · exact ⟨_, hq, fun v q => nomatch q⟩
    · exact ⟨o1, e1, fun v q => by rw [d1] at q; cases q⟩
    · exact ⟨o2, e2, fun v q => by rw [d2] at q; cases q⟩
  keep := fun n h h' st k => by
    obtain ⟨hz, hp, ⟨a, b, hq⟩, h1, h2⟩ := st
    exact ⟨hz.at fun o e => k u (by simp) o e, k p (by simp) _ hp, ⟨a, b, k q (by simp) _ hq⟩, h1.at fun o e => k i (by simp) o e, h2.at fun o e => k j (by simp) o e⟩
  item := by
    intro X hP hw hK hc n pins s σ H E I hf st hg
    subst hP hw hK
    obtain ⟨hz, hp, ⟨a, b, hq⟩, h1, h2⟩ := st
    obtain ⟨xs, ys, v, v2, qx, qy, hx, hy⟩ := hg
    obtain ⟨its, rv, pl, _⟩ := I.list qx
    obtain ⟨its2, rv2, pm, _⟩ := I.list qy
    obtain ⟨c, hu, ru⟩ := rv.get hx
    obtain ⟨c2, hu2, ru2⟩ := rv2.get hy
    refine next_any D hz hp hq h1 h2 pl.isList pm.isList (x := c) (y := c2) (by simpa using hu) (by simpa using hu2) fun h' b1 b2 b3 b4 hT b6 hk => ?_
    have new : ObjOk X.prog X.w (upd H s.heap.objs.size (.tup [v, v2])) h' s.heap.objs.size (.tup [v, v2]) :=
      ⟨by show 2 ≤ sizeLine; decide, [c, c2], .cons ru (.cons ru2 .nil), ⟨_, hT, rfl, _, rfl⟩⟩
    have I1 : Inv X pins σ (upd H s.heap.objs.size (.tup [v, v2])) { s with heap := h' } :=
      I.turnedNew (t' := s.toks) (ch := [u, p, q, i, j]) (fun d o hb e => hk d o (fun z => hb (by simp [z])) (fun z => hb (by simp [z])) (fun z => hb (by simp [z])) (fun z => hb (by simp [z])) e) hf (Nat.le_refl _) new
    have pk : IsPair h' p (.ref i) (.ref j) := hk _ _ D.TIz D.TITO D.TIi1 D.TIi2 hp
    refine ⟨_, rfl, ?_⟩
    show wpAny _ _ (letOwnedTupleGo (.Name x np) (.ref u) (.ref s.heap.objs.size)) _ _ _
    unfold letOwnedTupleGo
    refine wpAny_pure ⟨.ref s.heap.objs.size, _, I1, rfl, ⟨_, v, v2, rfl, I.hok.fresh (Nat.le_refl _), rfl, fun t ht => by rw [I.list_inj ht qx]; exact hx, fun t ht => by rw [I.list_inj ht qy]; exact hy⟩, ⟨b1, pk, b2, b3, b4⟩, fun d hd => ?_⟩
    have hlt : d < s.heap.objs.size := by
      have e' : d = u ∨ d = p ∨ d = q ∨ d = i ∨ d = j := by simpa using hd
      obtain ⟨a0, f0, hz0, _⟩ := hz
      rcases e' with z | z | z | z | z <;> rw [z]
      · exact Heap.lt_size hz0
      · exact Heap.lt_size hp
      · exact Heap.lt_size hq
      · obtain ⟨_, e1, _⟩ := h1; exact Heap.lt_size e1
      · obtain ⟨_, e2, _⟩ := h2; exact Heap.lt_size e2
    rw [upd_ne (Nat.ne_of_lt hlt)]
    exact (hf d hd).1
  done := by
    intro X hP hw hK hc n pins s σ H E I hf st hg
    subst hP hw hK
    obtain ⟨hz, hp, ⟨a, b, hq⟩, h1, h2⟩ := st
    obtain ⟨xs, ys, qx, qy, stop⟩ := hg
    obtain ⟨its, rv, pl, _⟩ := I.list qx
    obtain ⟨its2, rv2, pm, _⟩ := I.list qy
    have l1 := rv.length
    have l2 := rv2.length
    have he : its.toArray[n]? = none ∨ its2.toArray[n]? = none := by
      rcases stop with z | z
      · exact .inl (by simp; omega)
      · exact .inr (by simp; omega)
    exact end_any (I.ok.hd hc) D hz hp hq h1 h2 pl.isList pm.isList he fun h' hk => ⟨rfl, I.turnedL (t' := s.toks) (ch := [u, p, q, i, j]) (fun d o hb e => hk d o (fun z => hb (by simp [z])) (fun z => hb (by simp [z])) (fun z => hb (by simp [z])) (fun z => hb (by simp [z])) e) hf⟩
  self := fun A n s Q E st h => let ⟨⟨_, _, hz, _⟩, _⟩ := st; by
    have ty : s.TypeIs (.ref u) "zip" := ⟨_, hz, rfl⟩
    refine wpAny_pyIter_slot ty F.slot_zip_iter (wpAny_call_entry F.slot_zip_iter ty F.entry_zip_iter ?_ (F.args_zip_iter_1 _))
    show wpAny _ _ (ret (.ref u)) _ _ s
    exact wpAny_pure ⟨_, rfl, "zip", _, ty, F.slot_zip_next.lookup, h⟩
theorem pi_zipN {X : Cx} {e e2 : Expr} {ta : TA} {p pos np : Pos} {x : Str} (hg : Gl X "zip") (hm : X.mg "zip" = none) (ha : PA X [e, e2] ta)
    (hs : starEach [e, e2] X.env = (false, eval e X.env) :: starEach [e2] X.env := by rfl) (hpl : (backTo pos (starEach [e2] X.env)).any (·.1) = false := by rfl) :
    PI X (.Name x np) (.Call (.Name "zip" p) [e, e2] [] pos) (iZip X.K ta) := by
  refine ⟨fun pins s σ H R I h => ?_⟩
  refine Call_ (ld_blt I hg hm PyProof.Rows.boot_zip (PyProof.Rows.callWith_type1 (thn (ha.run pos pins s σ H _ I h) fun us s1 ⟨vs, H1, I1, r1, q1⟩ => ?_) hs hpl))
  obtain ⟨a, b, xs, ys, ex, qx, qy, last⟩ := q1
  subst ex
  cases r1 with
  | cons ra rr =>
    cases rr with
    | cons rb rr =>
      cases rr
      cases ra
      cases rb
      obtain ⟨its, rv, pl, _⟩ := I1.list qx
      obtain ⟨its2, rv2, pm, _⟩ := I1.list qy
      have la : a < s1.heap.objs.size := pl.lt
      have lb : b < s1.heap.objs.size := pm.lt
      refine call_zip_2 pl.isList pm.isList fun h' hz hp hq h1 h2 hsz hk => wpAny_pyIter_zip hz ?_
      have I2 : Inv X pins σ H1 { s1 with heap := h' } := I1.kept (t' := s1.toks) hk
      refine ⟨s1.heap.objs.size + 4, [s1.heap.objs.size + 4, s1.heap.objs.size + 2, s1.heap.objs.size + 3, s1.heap.objs.size, s1.heap.objs.size + 1], _, _, H1, rfl, I2, turn_zipN (PySem.W.ktu_apart s1.heap.objs.size a b la lb), ⟨⟨_, _, hz, .inl ⟨rfl, rfl⟩⟩, hp, ⟨_, _, hq⟩, h1, h2⟩, fun c hcm => ?_, last⟩
      have e' : c = s1.heap.objs.size + 4 ∨ c = s1.heap.objs.size + 2 ∨ c = s1.heap.objs.size + 3 ∨ c = s1.heap.objs.size ∨ c = s1.heap.objs.size + 1 := by simpa using hcm
      have hle : s1.heap.objs.size ≤ c := by rcases e' with z | z | z | z | z <;> rw [z] <;> first | exact Nat.le_add_right _ _ | exact Nat.le_refl _
      exact I1.fpOk hle (I1.hok.fresh hle)
end ZN

/-! DL12: what is walked, comprehensions. -/
namespace DL
open PySem PySem.Spec PyProof.Rows L2

/-- the iterator J walks the items its, while Live holds of the places and the heap -/
structure WalkOk (K : Frag) (J : L2.It) (its : List D) (Live : (Addr → Prop) → Hp → Prop) : Prop where
  go : ∀ P i H, Live P H → i < its.length → J.go i H
  stop : ∀ P i H, Live P H → its.length ≤ i → J.stop i H
  yld : ∀ P i H x H', Live P H → i < its.length → J.yld i H x H' → (∀ b u, H b = some u → H' b = some u) ∧ ∃ d, its[i]? = some d ∧ Rep K H' (fun a => P a ∨ H a = none) d x
  mono : ∀ (P P' : Addr → Prop) (H H' : Hp), Live P H → (∀ b u, H b = some u → P b → H' b = some u ∧ P' b) → Live P' H'

def tI (Φ : Phi) (K : Frag) (it : DL.It) : TI := fun σ H R => ∃ (G N : Addr → Prop) (env : DEnv) (Q' : Kd → List D → DEnv → Prop), EnvOk K G N H σ env ∧ rdI Φ it env Q' ∧
  ∀ k its env1 J H1 Live, Q' k its env1 → Stp σ H env it.pur H1 env1 → EnvOk K G N H1 σ env1 → WalkOk K J its Live → Live (PK G σ k env1) H1 → R J H1

section
variable {Φ : Phi} {X : Cx} {K : Frag} {G N : Addr → Prop} {σ σ2 : L2.St} {H H1 H2 : Hp} {env env1 env2 : DEnv} {p q : Bool}

theorem pi_of {tg e : Expr} {w w' : TI} (h : PI X tg e w) (i : ∀ σ H R, w' σ H R → w σ H R) : PI X tg e w' := ⟨fun pins s σ H R I q => h.run pins s σ H R I (i σ H R q)⟩
theorem pk_rep {k : Kd} {d : D} {v : V} (r : RepK K G σ k H env d v) : Rep K H (PK G σ k env) d v := by
  cases k with
  | b => exact r
  | z => exact r
  | t => exact r
/-! ### iterators -/
theorem walk_list {a : Addr} {ds : List D} : WalkOk K (Itl K a) ds (fun P H => ∃ xs, LN K H P a xs ∧ Reps K H P ds xs) where
  go := fun P i H ⟨xs, l, r⟩ hi => by
    have hx : i < xs.length := by rw [r.length]; exact hi
    exact ⟨xs, xs[i], l.sq, by simp [hx]⟩
  stop := fun P i H ⟨xs, l, r⟩ hi => ⟨xs, l.sq, by rw [r.length]; exact hi⟩
  yld := fun P i H x H' ⟨xs, l, r⟩ hi ⟨e, y⟩ => by
    subst e
    refine ⟨fun _ _ z => z, ?_⟩
    obtain ⟨d, h1, h2⟩ := r.get' (y xs l.sq)
    exact ⟨d, h1, h2.mono fun a u e z => .inl z⟩
  mono := fun P P' H H' ⟨xs, l, r⟩ h => ⟨xs, l.imp h, r.imp h⟩
theorem walk_tup {a : Addr} {ds : List D} : WalkOk K (Itt K a) ds (fun P H => ∃ xs, TN K H P a xs ∧ Reps K H P ds xs) where
  go := fun P i H ⟨xs, l, r⟩ hi => by
    have hx : i < xs.length := by rw [r.length]; exact hi
    exact ⟨xs, xs[i], l.sq, by simp [hx]⟩
  stop := fun P i H ⟨xs, l, r⟩ hi => ⟨xs, l.sq, by rw [r.length]; exact hi⟩
  yld := fun P i H x H' ⟨xs, l, r⟩ hi ⟨e, y⟩ => by
    subst e
    refine ⟨fun _ _ z => z, ?_⟩
    obtain ⟨d, h1, h2⟩ := r.get' (y xs l.sq)
    exact ⟨d, h1, h2.mono fun a u e z => .inl z⟩
  mono := fun P P' H H' ⟨xs, l, r⟩ h => ⟨xs, l.imp h, r.imp h⟩
theorem rangeD_length {lo : Int} {n : Nat} : (rangeD lo n).length = n := by simp [rangeD]
theorem rangeD_get {lo : Int} {n i : Nat} (h : i < n) : (rangeD lo n)[i]? = some (.int (lo + (i : Nat))) := by simp [rangeD, h]
theorem walk_range {lo : Int} {n : Nat} : WalkOk K (Itr lo n) (rangeD lo n) (fun _ _ => True) where
  go := fun P i H _ hi => by rw [rangeD_length] at hi; exact hi
  stop := fun P i H _ hi => by rw [rangeD_length] at hi; exact hi
  yld := fun P i H x H' _ hi ⟨e, y⟩ => by
    subst e y
    rw [rangeD_length] at hi
    exact ⟨fun _ _ z => z, _, rangeD_get hi, .int_⟩
  mono := fun _ _ _ _ _ _ => trivial
def enumD (ds : List D) : List D := ds.zipIdx.map fun p => .tuple [.int (p.2 : Nat), p.1]
theorem enumD_get {ds : List D} {i : Nat} {d : D} (h : ds[i]? = some d) : (ds.zipIdx.map fun p => PyData.tuple [.int (p.2 : Nat), p.1])[i]? = some (.tuple [.int (i : Nat), d]) := by
  rw [List.getElem?_map, List.getElem?_zipIdx, h]
  simp
theorem walk_enum {a : Addr} {ds : List D} : WalkOk K (Ite K a) (ds.zipIdx.map fun p => .tuple [.int (p.2 : Nat), p.1]) (fun P H => ∃ xs, LN K H P a xs ∧ Reps K H P ds xs) where
  go := fun P i H ⟨xs, l, r⟩ hi => by
    have hx : i < xs.length := by rw [r.length]; simpa using hi
    exact ⟨xs, xs[i], l.sq, by simp [hx]⟩
  stop := fun P i H ⟨xs, l, r⟩ hi => ⟨xs, l.sq, by rw [r.length]; simpa using hi⟩
  yld := fun P i H x H' ⟨xs, l, r⟩ hi ⟨T, y, e, hT, eH, hy⟩ => by
    subst e eH
    obtain ⟨d, h1, h2⟩ := r.get' (hy xs l.sq)
    refine ⟨grow_upd hT, _, enumD_get h1, ?_⟩
    unfold Rep
    exact ⟨T, _, rfl, .inl ⟨upd_same, .inr hT⟩, .cons .int_ (.cons (h2.imp fun b u e z => ⟨grow_upd hT b u e, .inl z⟩) .nil)⟩
  mono := fun P P' H H' ⟨xs, l, r⟩ h => ⟨xs, l.imp h, r.imp h⟩
theorem walk_zip {a b : Addr} {ds es : List D} : WalkOk K (Itz K a b) ((ds.zip es).map fun p => .tuple [p.1, p.2]) (fun P H => ∃ xs ys, LN K H P a xs ∧ Reps K H P ds xs ∧ LN K H P b ys ∧ Reps K H P es ys) where
  go := fun P i H ⟨xs, ys, l, r, l2, r2⟩ hi => by
    have hz : i < ds.length ∧ i < es.length := by simpa [Nat.lt_min] using hi
    have h1 : i < xs.length := by rw [r.length]; exact hz.1
    have h2 : i < ys.length := by rw [r2.length]; exact hz.2
    exact ⟨xs, ys, xs[i], ys[i], l.sq, l2.sq, by simp [h1], by simp [h2]⟩
  stop := fun P i H ⟨xs, ys, l, r, l2, r2⟩ hi => by
    refine ⟨xs, ys, l.sq, l2.sq, ?_⟩
    rw [r.length, r2.length]
    simp at hi
    omega
  yld := fun P i H x H' ⟨xs, ys, l, r, l2, r2⟩ hi ⟨T, y, z, e, hT, eH, hy, hz⟩ => by
    subst e eH
    obtain ⟨d, h1, h2⟩ := r.get' (hy xs l.sq)
    obtain ⟨d', h3, h4⟩ := r2.get' (hz ys l2.sq)
    refine ⟨grow_upd hT, .tuple [d, d'], ?_, ?_⟩
    · have z : (ds.zip es)[i]? = some (d, d') := List.getElem?_zip_eq_some.mpr ⟨h1, h3⟩
      rw [List.getElem?_map, z]; rfl
    · unfold Rep
      exact ⟨T, _, rfl, .inl ⟨upd_same, .inr hT⟩, .cons (h2.imp fun b u e z => ⟨grow_upd hT b u e, .inl z⟩) (.cons (h4.imp fun b u e z => ⟨grow_upd hT b u e, .inl z⟩) .nil)⟩
  mono := fun P P' H H' ⟨xs, ys, l, r, l2, r2⟩ h => ⟨xs, ys, l.imp h, r.imp h, l2.imp h, r2.imp h⟩

theorem list_I {e : DL.E} {a tg : Expr} (h : PE X a (tE Φ X.K e)) : PI X tg a (tI Φ X.K (.lst e)) := by
  refine pi_of (pi_list h) fun σ H R ⟨G, N, env, Q', E, rd, fin⟩ => ?_
  simp only [rdI] at rd
  refine ⟨G, N, env, _, E, rd, fun k d env1 v H1 ⟨ds, e, hQ⟩ p1 => ?_⟩
  subst e
  obtain ⟨a, xs, rfl, l, r⟩ := (pk_rep p1.rep).list_inv
  exact ⟨a, rfl, ⟨xs, l.sq⟩, fin _ _ _ _ _ _ hQ p1.s p1.ok walk_list ⟨xs, l, r⟩⟩
theorem tup_I {e : DL.E} {a tg : Expr} (h : PE X a (tE Φ X.K e)) : PI X tg a (tI Φ X.K (.tup e)) := by
  refine pi_of (pi_tup h) fun σ H R ⟨G, N, env, Q', E, rd, fin⟩ => ?_
  simp only [rdI] at rd
  refine ⟨G, N, env, _, E, rd, fun k d env1 v H1 ⟨ds, e, hQ⟩ p1 => ?_⟩
  subst e
  obtain ⟨a, xs, rfl, l, r⟩ := (pk_rep (p1.rep.kdOf p1.ok)).tuple_inv
  exact ⟨a, rfl, ⟨xs, l.sq⟩, fin _ _ _ _ _ _ hQ p1.s p1.ok walk_tup ⟨xs, l, r⟩⟩
theorem one_arg {e : DL.E} {a : Expr} (h : PE X a (tE Φ X.K e)) (ns : NoStar [a]) : PA X [a] (tCons (tE Φ X.K e) tNil) := pa_cons h pa_nil (ns.cons X.env)
theorem ns_one {a : Expr} (ns : NoStar [a]) (env : Env) : starEach [a] env = [(false, eval a env)] := ns.cons env
theorem rng1_I {e : DL.E} {a tg : Expr} {x : Str} {p pos : Pos} (hx : x = "range") (gl : Gl X x) (hm : X.mg x = none) (h : PE X a (tE Φ X.K e)) (ns : NoStar [a]) : PI X tg (.Call (.Name x p) [a] [] pos) (tI Φ X.K (.rng1 e)) := by
  subst hx
  refine pi_of (pi_range1 gl hm (one_arg h ns) (ns_one ns X.env)) fun σ H R ⟨G, N, env, Q', E, rd, fin⟩ => ?_
  simp only [rdI] at rd
  refine ⟨G, N, env, _, E, rd, fun k d env1 v H1 ⟨n, e, ok, hQ⟩ p1 => ?_⟩
  subst e
  exact ⟨n, by rw [p1.rep.wide.int_inv], ok.1, ok.2, fin _ _ _ _ _ _ hQ p1.s p1.ok walk_range trivial⟩
theorem rng2_I {e f : DL.E} {a b tg : Expr} {x : Str} {p pos : Pos} (hx : x = "range") (gl : Gl X x) (hm : X.mg x = none) (h : PE X a (tE Φ X.K e)) (h2 : PE X b (tE Φ X.K f)) (ns : NoStar [a, b]) : PI X tg (.Call (.Name x p) [a, b] [] pos) (tI Φ X.K (.rng2 e f)) := by
  subst hx
  refine pi_of (pi_range2A gl hm (pa_cons h (one_arg h2 ns.tail) (ns.cons X.env)) (by rw [ns.cons, ns_one ns.tail]) (ns_one ns.tail X.env)) fun σ H R ⟨G, N, env, Q', E, rd, fin⟩ => ?_
  simp only [rdI] at rd
  refine ⟨G, N, env, _, E, rd, fun k d env1 v H1 rd1 p1 => ⟨G, N, env1, _, p1.ok, rd1, fun k' d' env2 v' H2 ⟨n, m, e, e', hQ⟩ p2 => ?_⟩⟩
  subst e e'
  refine ⟨n, m, by rw [p1.rep.wide.int_inv, p2.rep.wide.int_inv], fin _ _ _ _ _ _ hQ (p1.s.trans p2.s) p2.ok walk_range trivial⟩
theorem rg_reps {K : Frag} {H : Hp} {P : Addr → Prop} {lo : Int} : ∀ l : List Nat, Reps K H P (l.map fun i => PyData.int (lo + (i : Nat))) (l.map fun i => V.int (lo + (i : Nat)))
  | [] => .nil
  | i :: l => .cons .int_ (rg_reps l)
theorem lrng1_sound {e : DL.E} {a : Expr} {l x : Str} {p q pos pos' : Pos} (hc : X.calm = true) (hl : l = "list") (gl : Gl X l) (ml : X.mg l = none) (hx : x = "range") (gx : Gl X x) (mx : X.mg x = none) (h : PE X a (tE Φ X.K e)) (ns : NoStar [a]) :
    PE X (.Call (.Name l p) [.Call (.Name x q) [a] [] pos'] [] pos) (tE Φ X.K (.lrng1 e)) := by
  subst hl hx
  refine pe_of (pe_listRg hc gl ml (prg_1 gx mx h (ns_one ns X.env))) fun σ H Q ⟨G, N, env, Q', E, rd, fin⟩ => ?_
  simp only [rdE] at rd
  refine ⟨G, N, env, _, E, rd, fun k d env1 v H1 ⟨n, e, ok, le, hQ⟩ p1 => ?_⟩
  subst e
  refine ⟨n, by rw [p1.rep.wide.int_inv], ⟨by omega, by omega, ok.1, ok.2, by omega⟩, fun q np => fin _ _ _ _ _ hQ (post_new p1.ok p1.s ?_ np)⟩
  unfold rgV
  rw [Int.sub_zero]
  exact rg_reps _
theorem lrng2_sound {e f : DL.E} {a b : Expr} {l x : Str} {p q pos pos' : Pos} (hc : X.calm = true) (hl : l = "list") (gl : Gl X l) (ml : X.mg l = none) (hx : x = "range") (gx : Gl X x) (mx : X.mg x = none) (h : PE X a (tE Φ X.K e)) (h2 : PE X b (tE Φ X.K f)) (ns : NoStar [a, b]) :
    PE X (.Call (.Name l p) [.Call (.Name x q) [a, b] [] pos'] [] pos) (tE Φ X.K (.lrng2 e f)) := by
  subst hl hx
  refine pe_of (pe_listRgA hc gl ml (prg_2 gx mx h h2 (ns.cons X.env) (ns_one ns.tail X.env) (ns.tail.any X.env pos'))) fun σ H Q ⟨G, N, env, Q', E, rd, fin⟩ => ?_
  simp only [rdE] at rd
  refine ⟨G, N, env, _, E, rd, fun k d env1 v H1 rd1 p1 => ⟨G, N, env1, _, p1.ok, rd1, fun k' d' env2 v' H2 ⟨n, m, e, e', le, hQ⟩ p2 => ?_⟩⟩
  subst e e'
  refine ⟨n, m, by rw [p1.rep.wide.int_inv], by rw [p2.rep.wide.int_inv], by omega, fun q np => fin _ _ _ _ _ hQ (post_new p2.ok (p1.s.trans p2.s) (rg_reps _) np)⟩
theorem enum_I {e : DL.E} {a : Expr} {elts : List Expr} {kk : Nat} {tpos : Pos} {x : Str} {p pos : Pos} (hx : x = "enumerate") (gl : Gl X x) (hm : X.mg x = none) (h : PE X a (tE Φ X.K e)) (ns : NoStar [a]) :
    PI X (.Tuple elts kk tpos) (.Call (.Name x p) [a] [] pos) (tI Φ X.K (.enum e)) := by
  subst hx
  refine pi_of (pi_enum gl hm (one_arg h ns) (ns_one ns X.env)) fun σ H R ⟨G, N, env, Q', E, rd, fin⟩ => ?_
  simp only [rdI] at rd
  refine ⟨G, N, env, _, E, rd, fun k d env1 v H1 ⟨ds, e, hQ⟩ p1 => ?_⟩
  subst e
  obtain ⟨a, xs, rfl, l, r⟩ := (pk_rep p1.rep).list_inv
  exact ⟨a, xs, rfl, l.sq, fin _ _ _ _ _ _ hQ p1.s p1.ok walk_enum ⟨xs, l, r⟩⟩
theorem pk_or {k k' : Kd} {b : Addr} : (PK G σ k env b → PK G σ (if k = .b then .b else k') env b) ∧ (PK G σ k' env b → PK G σ (if k = .b then .b else k') env b) := by
  cases k <;> cases k' <;> simp only [reduceCtorEq, if_true, if_false, PK] <;> constructor <;> intro h <;> first | exact h | exact .inl h
theorem zip_I {e f : DL.E} {a b : Expr} {elts : List Expr} {kk : Nat} {tpos : Pos} {x : Str} {p pos : Pos} (hx : x = "zip") (gl : Gl X x) (hm : X.mg x = none) (h : PE X a (tE Φ X.K e)) (h2 : PE X b (tE Φ X.K f)) (ns : NoStar [a, b]) :
    PI X (.Tuple elts kk tpos) (.Call (.Name x p) [a, b] [] pos) (tI Φ X.K (.zip e f)) := by
  subst hx
  refine pi_of (pi_zip gl hm (pa_cons h (one_arg h2 ns.tail) (ns.cons X.env)) (ns.cons X.env) (ns.tail.any X.env pos)) fun σ H R ⟨G, N, env, Q', E, rd, fin⟩ => ?_
  simp only [rdI] at rd
  refine ⟨G, N, env, _, E, rd, fun k d env1 v H1 rd1 p1 => ⟨G, N, env1, _, p1.ok, rd1, fun k' d' env2 v' H2 ⟨c, ds, es, e, e', hQ⟩ p2 => ?_⟩⟩
  subst e e'
  obtain ⟨a, xs, rfl, l, r⟩ := (pk_rep (p1.rep.carry p2.s c)).list_inv
  obtain ⟨b, ys, rfl, l2, r2⟩ := (pk_rep p2.rep).list_inv
  have u1 : ∀ c u, H2 c = some u → PK G σ k env2 c → H2 c = some u ∧ PK G σ (if k = .b then .b else k') env2 c := fun c u e z => ⟨e, (pk_or (k' := k')).1 z⟩
  have u2 : ∀ c u, H2 c = some u → PK G σ k' env2 c → H2 c = some u ∧ PK G σ (if k = .b then .b else k') env2 c := fun c u e z => ⟨e, (pk_or (k := k)).2 z⟩
  exact ⟨a, b, xs, ys, rfl, l.sq, l2.sq, fin _ _ _ _ _ _ hQ (p1.s.trans p2.s) p2.ok walk_zip ⟨xs, ys, l.imp u1, r.imp u1, l2.imp u2, r2.imp u2⟩⟩

theorem zipN_I {e f : DL.E} {a b : Expr} {y : Str} {np : Pos} {x : Str} {p pos : Pos} (hx : x = "zip") (gl : Gl X x) (hm : X.mg x = none) (h : PE X a (tE Φ X.K e)) (h2 : PE X b (tE Φ X.K f)) (ns : NoStar [a, b]) :
    PI X (.Name y np) (.Call (.Name x p) [a, b] [] pos) (tI Φ X.K (.zip e f)) := by
  subst hx
  refine pi_of (ZN.pi_zipN gl hm (pa_cons h (one_arg h2 ns.tail) (ns.cons X.env)) (ns.cons X.env) (ns.tail.any X.env pos)) fun σ H R ⟨G, N, env, Q', E, rd, fin⟩ => ?_
  simp only [rdI] at rd
  refine ⟨G, N, env, _, E, rd, fun k d env1 v H1 rd1 p1 => ⟨G, N, env1, _, p1.ok, rd1, fun k' d' env2 v' H2 ⟨c, ds, es, e, e', hQ⟩ p2 => ?_⟩⟩
  subst e e'
  obtain ⟨a, xs, rfl, l, r⟩ := (pk_rep (p1.rep.carry p2.s c)).list_inv
  obtain ⟨b, ys, rfl, l2, r2⟩ := (pk_rep p2.rep).list_inv
  have u1 : ∀ c u, H2 c = some u → PK G σ k env2 c → H2 c = some u ∧ PK G σ (if k = .b then .b else k') env2 c := fun c u e z => ⟨e, (pk_or (k' := k')).1 z⟩
  have u2 : ∀ c u, H2 c = some u → PK G σ k' env2 c → H2 c = some u ∧ PK G σ (if k = .b then .b else k') env2 c := fun c u e z => ⟨e, (pk_or (k := k)).2 z⟩
  exact ⟨a, b, xs, ys, rfl, l.sq, l2.sq, fin _ _ _ _ _ _ hQ (p1.s.trans p2.s) p2.ok walk_zip ⟨xs, ys, l.imp u1, r.imp u1, l2.imp u2, r2.imp u2⟩⟩

/-! ### comprehensions -/
theorem wipeD_len (env : DEnv) : ∀ vs, (wipeD env vs).length = env.length
  | [] => rfl
  | v :: vs => by unfold wipeD; rw [List.length_set, wipeD_len env vs]
theorem wipeD_get (env : DEnv) {j : Nat} : ∀ {vs : List Nat}, j ∉ vs → (wipeD env vs)[j]? = env[j]?
  | [], _ => rfl
  | v :: vs, h => by
    unfold wipeD
    rw [List.getElem?_set_ne (fun z => h (by simp [z]))]
    exact wipeD_get env fun z => h (List.mem_cons_of_mem _ z)
theorem wipeD_in (env : DEnv) {j : Nat} {s : Slot} : ∀ {vs : List Nat}, j ∈ vs → (wipeD env vs)[j]? = some s → s = .un
  | v :: vs, h, e => by
    unfold wipeD at e
    by_cases ne : v = j
    · subst ne
      by_cases hl : v < (wipeD env vs).length
      · rw [List.getElem?_set_self hl] at e; cases e; rfl
      · rw [List.getElem?_eq_none (by simpa using hl)] at e; cases e
    · rw [List.getElem?_set_ne ne] at e
      exact wipeD_in env ((List.mem_cons.mp h).resolve_left fun z => ne z.symm) e
theorem wipe_get (σ : L2.St) {j : Nat} : ∀ {vs : List Nat}, j ∉ vs → (wipe σ vs)[j]? = σ[j]?
  | [], _ => rfl
  | v :: vs, h => by
    unfold wipe
    rw [List.getElem?_set_ne (fun z => h (by simp [z]))]
    exact wipe_get σ fun z => h (List.mem_cons_of_mem _ z)
theorem wipe_in (σ : L2.St) {j : Nat} {s : Option V} : ∀ {vs : List Nat}, j ∈ vs → (wipe σ vs)[j]? = some s → s = none
  | v :: vs, h, e => by
    unfold wipe at e
    by_cases ne : v = j
    · subst ne
      by_cases hl : v < (wipe σ vs).length
      · rw [List.getElem?_set_self hl] at e; cases e; rfl
      · rw [List.getElem?_eq_none (by simpa using hl)] at e; cases e
    · rw [List.getElem?_set_ne ne] at e
      exact wipe_in σ ((List.mem_cons.mp h).resolve_left fun z => ne z.symm) e
theorem backD_get (env0 env : DEnv) {j : Nat} : ∀ {vs : List Nat}, j ∉ vs → (backD env0 env vs)[j]? = env[j]?
  | [], _ => rfl
  | v :: vs, h => by
    unfold backD
    rw [List.getElem?_set_ne (fun z => h (by simp [z]))]
    exact backD_get env0 env fun z => h (List.mem_cons_of_mem _ z)
theorem backD_len (env0 env : DEnv) : ∀ vs, (backD env0 env vs).length = env.length
  | [] => rfl
  | v :: vs => by unfold backD; rw [List.length_set, backD_len env0 env vs]
theorem backD_in (env0 env : DEnv) (hl : env.length = env0.length) {j : Nat} {s : Slot} : ∀ {vs : List Nat}, j ∈ vs → (backD env0 env vs)[j]? = some s → env0[j]? = some s
  | v :: vs, h, e => by
    unfold backD at e
    by_cases ne : v = j
    · subst ne
      by_cases hb : v < (backD env0 env vs).length
      · rw [List.getElem?_set_self hb] at e
        cases e
        have h2 : v < env0.length := by rw [← hl, ← backD_len env0 env vs]; exact hb
        rw [List.getD_eq_getElem?_getD, List.getElem?_eq_getElem h2]; rfl
      · rw [List.getElem?_eq_none (by simpa using hb)] at e; cases e
    · rw [List.getElem?_set_ne ne] at e
      exact backD_in env0 env hl ((List.mem_cons.mp h).resolve_left fun z => ne z.symm) e
/-- the names is hold nothing of one's own -/
def Free (env : DEnv) (is : List Nat) : Prop := ∀ i ∈ is, ∀ d : D, env[i]? ≠ some (Slot.own d) ∧ env[i]? ≠ some (Slot.io d)
theorem freeD_ok {is : List Nat} (h : freeD env is = true) : Free env is := fun i hi d => by
  unfold freeD at h
  have z := List.all_eq_true.mp h i hi
  constructor <;> intro e <;> (rw [e] at z; cases z)
theorem wipe_own {is : List Nat} (f : Free env is) : ∀ a, Own (wipeD env is) (wipe σ is) a ↔ Own env σ a := fun a => by
  constructor
  · rintro ⟨j, d, h, e⟩
    have ne : j ∉ is := fun z => by
      rcases h with h | h <;> (have := wipeD_in env z h; cases this)
    rw [wipeD_get env ne] at h
    rw [wipe_get σ ne] at e
    exact ⟨j, d, h, e⟩
  · rintro ⟨j, d, h, e⟩
    have ne : j ∉ is := fun z => by
      rcases h with h | h
      · exact (f j z d).1 h
      · exact (f j z d).2 h
    exact ⟨j, d, by rw [wipeD_get env ne]; exact h, by rw [wipe_get σ ne]; exact e⟩
theorem wipe_ok {is : List Nat} (f : Free env is) (E : EnvOk K G N H σ env) : EnvOk K G N H (wipe σ is) (wipeD env is) := by
  have ow := wipe_own (σ := σ) f
  have up : ∀ b u, H b = some u → (G b ∧ ¬ Own env σ b) → H b = some u ∧ (G b ∧ ¬ Own (wipeD env is) (wipe σ is) b) := fun b u e z => ⟨e, z.1, fun y => z.2 ((ow b).mp y)⟩
  have get : ∀ {j : Nat} {s : Slot}, (wipeD env is)[j]? = some s → s ≠ .un → j ∉ is ∧ env[j]? = some s := fun {j s} h hs => by
    have ne : j ∉ is := fun z => hs (wipeD_in env z h)
    exact ⟨ne, by rwa [wipeD_get env ne] at h⟩
  refine ⟨by rw [wipeD_len, wipe_length]; exact E.len, E.new, fun j d h => ?_, fun j d h => ?_, fun j d h => ?_, fun j l b hj hl e1 e2 => ?_⟩
  · obtain ⟨ne, h⟩ := get h (fun z => nomatch z)
    obtain ⟨v, e, r⟩ := E.frz j d h
    exact ⟨v, by rw [wipe_get σ ne]; exact e, r.imp up⟩
  · obtain ⟨ne, h⟩ := get h (fun z => nomatch z)
    obtain ⟨b, e, g, n, o⟩ := E.own j d h
    exact ⟨b, by rw [wipe_get σ ne]; exact e, g, n, o.imp up fun u z => z⟩
  · obtain ⟨ne, h⟩ := get h (fun z => nomatch z)
    obtain ⟨b, e, o⟩ := E.io j d h
    exact ⟨b, by rw [wipe_get σ ne]; exact e, o.imp up fun u z => z⟩
  · have bk : ∀ {j : Nat}, (∃ d : D, (wipeD env is)[j]? = some (Slot.own d) ∨ (wipeD env is)[j]? = some (Slot.io d)) → j ∉ is ∧ ∃ d : D, env[j]? = some (Slot.own d) ∨ env[j]? = some (Slot.io d) := fun {j} ⟨d, h⟩ => by
      rcases h with h | h
      · obtain ⟨ne, h⟩ := get h (fun z => nomatch z)
        exact ⟨ne, d, .inl h⟩
      · obtain ⟨ne, h⟩ := get h (fun z => nomatch z)
        exact ⟨ne, d, .inr h⟩
    obtain ⟨n1, h1⟩ := bk hj
    obtain ⟨n2, h2⟩ := bk hl
    rw [wipe_get σ n1] at e1
    rw [wipe_get σ n2] at e2
    exact E.dis j l b h1 h2 e1 e2
/-- behind a block: its names as they were -/
theorem back_ok {is : List Nat} {env0 : DEnv} {H0 : Hp} (f : Free env0 is) (f1 : Free env is) (hl : env.length = env0.length) (E0 : EnvOk K G N H0 σ env0) (E : EnvOk K G N H (wipe σ is) env) (un : ∀ i ∈ is, ∀ s, env[i]? = some s → s = .un)
    (ow : ∀ a, Own env (wipe σ is) a → Own env0 σ a) (step : ∀ b u, H0 b = some u → G b → ¬ Own env0 σ b → H b = some u) : EnvOk K G N H σ (backD env0 env is) ∧ ∀ a, Own (backD env0 env is) σ a ↔ Own env (wipe σ is) a := by
  have get : ∀ {j : Nat} {s : Slot}, (backD env0 env is)[j]? = some s → (j ∈ is ∧ env0[j]? = some s) ∨ (j ∉ is ∧ env[j]? = some s) := fun {j s} h => by
    by_cases hj : j ∈ is
    · exact .inl ⟨hj, backD_in env0 env hl hj h⟩
    · exact .inr ⟨hj, by rwa [backD_get env0 env hj] at h⟩
  have own : ∀ a, Own (backD env0 env is) σ a ↔ Own env (wipe σ is) a := fun a => by
    constructor
    · rintro ⟨j, d, h, e⟩
      have z : j ∉ is ∧ (env[j]? = some (Slot.own d) ∨ env[j]? = some (Slot.io d)) := by
        rcases h with h | h <;> rcases get h with ⟨hj, h0⟩ | ⟨hj, h0⟩
        · exact absurd h0 (f j hj d).1
        · exact ⟨hj, .inl h0⟩
        · exact absurd h0 (f j hj d).2
        · exact ⟨hj, .inr h0⟩
      exact ⟨j, d, z.2, by rw [wipe_get σ z.1]; exact e⟩
    · rintro ⟨j, d, h, e⟩
      have ne : j ∉ is := fun z => by
        rcases h with h | h <;> (have := un j z _ h; cases this)
      exact ⟨j, d, by rw [backD_get env0 env ne]; exact h, by rw [wipe_get σ ne] at e; exact e⟩
  have up : ∀ b u, H b = some u → (G b ∧ ¬ Own env (wipe σ is) b) → H b = some u ∧ (G b ∧ ¬ Own (backD env0 env is) σ b) := fun b u e z => ⟨e, z.1, fun y => z.2 ((own b).mp y)⟩
  have up0 : ∀ b u, H0 b = some u → (G b ∧ ¬ Own env0 σ b) → H b = some u ∧ (G b ∧ ¬ Own (backD env0 env is) σ b) := fun b u e z => ⟨step b u e z.1 z.2, z.1, fun y => z.2 (ow b ((own b).mp y))⟩
  refine ⟨⟨by rw [backD_len, hl]; exact E0.len, E.new, fun j d h => ?_, fun j d h => ?_, fun j d h => ?_, fun j l b hj hl' e1 e2 => ?_⟩, own⟩
  · rcases get h with ⟨hj, h0⟩ | ⟨hj, h0⟩
    · obtain ⟨v, e, r⟩ := E0.frz j d h0
      exact ⟨v, e, r.imp up0⟩
    · obtain ⟨v, e, r⟩ := E.frz j d h0
      exact ⟨v, by rw [wipe_get σ hj] at e; exact e, r.imp up⟩
  · rcases get h with ⟨hj, h0⟩ | ⟨hj, h0⟩
    · exact absurd h0 (f j hj d).1
    · obtain ⟨b, e, g, n, o⟩ := E.own j d h0
      exact ⟨b, by rw [wipe_get σ hj] at e; exact e, g, n, o.imp up fun u z => z⟩
  · rcases get h with ⟨hj, h0⟩ | ⟨hj, h0⟩
    · exact absurd h0 (f j hj d).2
    · obtain ⟨b, e, o⟩ := E.io j d h0
      exact ⟨b, by rw [wipe_get σ hj] at e; exact e, o.imp up fun u z => z⟩
  · have bk : ∀ {j : Nat}, (∃ d : D, (backD env0 env is)[j]? = some (Slot.own d) ∨ (backD env0 env is)[j]? = some (Slot.io d)) → j ∉ is ∧ ∃ d : D, env[j]? = some (Slot.own d) ∨ env[j]? = some (Slot.io d) := fun {j} ⟨d, h⟩ => by
      rcases h with h | h <;> rcases get h with ⟨hj, h0⟩ | ⟨hj, h0⟩
      · exact absurd h0 (f j hj d).1
      · exact ⟨hj, d, .inl h0⟩
      · exact absurd h0 (f j hj d).2
      · exact ⟨hj, d, .inr h0⟩
    obtain ⟨n1, h1⟩ := bk hj
    obtain ⟨n2, h2⟩ := bk hl'
    exact E.dis j l b h1 h2 (by rw [wipe_get σ n1]; exact e1) (by rw [wipe_get σ n2]; exact e2)
end
end DL

/-! DL13: list comprehensions. -/
namespace DL
open PySem PySem.Spec PyProof.Rows L2
/-- a comprehension's tests -/
def tCs (Φ : Phi) (K : Frag) (cs : Es) : TT := fun σ H Q => ∃ (G N : Addr → Prop) (env : DEnv) (R : Bool → DEnv → Prop), EnvOk K G N H σ env ∧ rdC Φ cs env R ∧
  ∀ t env' H', R t env' → Stp σ H env cs.pur H' env' → EnvOk K G N H' σ env' → Q t H'
section
variable {Φ : Phi} {X : Cx} {K : Frag} {G N : Addr → Prop} {σ σ2 : L2.St} {H H1 H2 : Hp} {env env1 env2 : DEnv} {p q : Bool}
theorem cs_nil : PTs X [] (tCs Φ X.K .nil) := ⟨fun pins s σ H Q I ⟨G, N, env, R, E, rd, fin⟩ => by
  simp only [rdC] at rd
  exact pts_nil.run pins s σ H Q I (fin _ _ _ rd Stp.refl.weak E)⟩
theorem cs_one {e : DL.E} {a : Expr} (h : PT X a (tT Φ X.K e)) : PTs X [a] (tCs Φ X.K (.cons e .nil)) := ⟨fun pins s σ H Q I ⟨G, N, env, R, E, rd, fin⟩ => by
  simp only [rdC] at rd
  exact (pts_one h).run pins s σ H Q I ⟨G, N, env, R, E, rd, fun t env' H' hR s E' => fin _ _ _ hR (s.imp pur_one) E'⟩⟩

theorem list_ext_get {α : Type} {l m : List α} (h : ∀ j : Nat, l[j]? = m[j]?) : l = m := List.ext_getElem? h
/-- the heap changes at D alone, where nothing of ours stands -/
theorem EnvOk.side {D : Addr} {H' : Hp} (E : EnvOk K G N H σ env) (h : ∀ b u, H b = some u → b ≠ D → H' b = some u) (nG : ¬ G D) (nO : ¬ Own env σ D) (nD : H' D ≠ none) : EnvOk K G N H' σ env := by
  have up : ∀ b u, H b = some u → (G b ∧ ¬ Own env σ b) → H' b = some u ∧ (G b ∧ ¬ Own env σ b) := fun b u e z => ⟨h b u e fun y => nG (y ▸ z.1), z⟩
  have back : ∀ b, H' b = none → H b = none := fun b e => by
    cases q : H b with
    | none => rfl
    | some u =>
      by_cases hb : b = D
      · subst hb; exact absurd e nD
      · rw [h b u q hb] at e; cases e
  refine ⟨E.len, fun b e => E.new b (back b e), fun j d e => ?_, fun j d e => ?_, fun j d e => ?_, E.dis⟩
  · obtain ⟨v, e1, r⟩ := E.frz j d e
    exact ⟨v, e1, r.imp up⟩
  · obtain ⟨a, e1, g, n, o⟩ := E.own j d e
    exact ⟨a, e1, g, n, o.imp up fun u z => h a u z fun y => nG (y ▸ g)⟩
  · obtain ⟨a, e1, o⟩ := E.io j d e
    exact ⟨a, e1, o.imp up fun u z => h a u z fun y => nO (y ▸ ⟨j, d, .inr e, e1⟩)⟩
theorem wipe_eq {is : List Nat} (hl : σ2.length = σ.length) (h : ∀ j, j ∉ is → σ2[j]? = σ[j]?) : wipe σ2 is = wipe σ is := list_ext_get fun j => by
  by_cases hj : j ∈ is
  · have l1 : (wipe σ2 is).length = (wipe σ is).length := by rw [wipe_length, wipe_length, hl]
    by_cases hb : j < (wipe σ is).length
    · have e1 := wipe_in σ2 hj (List.getElem?_eq_getElem (l1 ▸ hb))
      have e2 := wipe_in σ hj (List.getElem?_eq_getElem hb)
      rw [List.getElem?_eq_getElem hb, List.getElem?_eq_getElem (l1 ▸ hb), e1, e2]
    · rw [List.getElem?_eq_none (by omega), List.getElem?_eq_none (by omega)]
  · rw [wipe_get σ2 hj, wipe_get σ hj, h j hj]
theorem wipeD_eq {is : List Nat} (hl : env2.length = env.length) (h : ∀ j, j ∉ is → env2[j]? = env[j]?) (un : ∀ i ∈ is, ∀ s, env[i]? = some s → s = .un) : wipeD env2 is = env := list_ext_get fun j => by
  by_cases hj : j ∈ is
  · have l1 : (wipeD env2 is).length = env.length := by rw [wipeD_len, hl]
    by_cases hb : j < env.length
    · have e1 := wipeD_in env2 hj (List.getElem?_eq_getElem (l1 ▸ hb))
      have e2 := un j hj _ (List.getElem?_eq_getElem hb)
      rw [List.getElem?_eq_getElem hb, List.getElem?_eq_getElem (l1 ▸ hb), e1, e2]
    · rw [List.getElem?_eq_none (by omega), List.getElem?_eq_none (by omega)]
  · rw [wipeD_get env2 hj, h j hj]
theorem backD_wipe {is : List Nat} : backD env (wipeD env is) is = env := list_ext_get fun j => by
  by_cases hj : j ∈ is
  · by_cases hb : j < env.length
    · have l1 : (backD env (wipeD env is) is).length = env.length := by rw [backD_len, wipeD_len]
      have e1 := backD_in env (wipeD env is) (wipeD_len env is) hj (List.getElem?_eq_getElem (l1 ▸ hb))
      rw [List.getElem?_eq_getElem (l1 ▸ hb)]
      exact e1.symm
    · rw [List.getElem?_eq_none (by rw [backD_len, wipeD_len]; omega), List.getElem?_eq_none (by omega)]
  · rw [backD_get _ _ hj, wipeD_get _ hj]

theorem flats_get : ∀ {l : List D} {j : Nat} {d : D}, flats l = true → l[j]? = some d → flat d = true
  | [], _, _, _, e => by simp at e
  | c :: l, 0, d, f, e => by
    unfold flats at f
    simp at e; subst e
    exact (Bool.and_eq_true_iff.mp f).1
  | c :: l, j + 1, d, f, e => by
    unfold flats at f
    exact flats_get (Bool.and_eq_true_iff.mp f).2 (by simpa using e)
theorem lc_reads {elt : DL.E} {t : T} {it : DL.It} {cs : Es} {Q : VK} (h : tE Φ K (.lc elt t it cs) σ H Q) : tLc (tI Φ K it) (gT K t) (tCs Φ K cs) (tE Φ K elt) t.names σ H Q := by
  obtain ⟨G, N, env, Q', E, rd, fin⟩ := h
  simp only [rdE] at rd
  refine ⟨G, N, env, _, E, rd, fun k its env1 J H1 Live ⟨fr, ck, W, w0, wt, wd⟩ s1 E1 wk lv A0 hD => ?_⟩
  have free1 := freeD_ok fr
  generalize hvs : t.names = vs at *
  generalize hG : (fun a => G a ∧ a ≠ A0) = G'
  have gD : ¬ G' A0 := by rw [← hG]; exact fun z => z.2 rfl
  have gUp : ∀ b u, H1 b = some u → G b → G' b := fun b u e g => by rw [← hG]; exact ⟨g, ne_of_none e hD⟩
  have E1' : EnvOk K G' N (upd H1 A0 (.lst [])) σ env1 := E1.mv (grow_upd hD) gUp fun b e e' => by
    rw [← hG]
    exact ⟨(E1.new b e').1, fun z => by subst z; rw [upd_same] at e; cases e⟩
  have ow1 := wipe_own (σ := σ) free1
  have Ew := wipe_ok free1 E1'
  have nD0 : ∀ {e' : DEnv}, (∀ a, Own e' (wipe σ vs) a → Own (wipeD env1 vs) (wipe σ vs) a) → ¬ Own e' (wipe σ vs) A0 := fun {e'} h z => E1.new_own hD ((ow1 A0).mp (h A0 z))
  have unW : ∀ i ∈ vs, ∀ s, (wipeD env1 vs)[i]? = some s → s = .un := fun i hi s e => wipeD_in env1 hi e
  refine ⟨fun i m H' => m = its.length - i ∧ i ≤ its.length ∧ ∃ accD envi acc, W i accD envi ∧ EnvOk K G' N H' (wipe σ vs) envi ∧ H' A0 = some (.lst acc) ∧
      Reps K H' (fun a => G' a ∧ ¬ Own envi (wipe σ vs) a) accD acc ∧ Stp (wipe σ vs) H1 (wipeD env1 vs) (elt.pur && cs.pur) H' envi ∧ Live (PK G' (wipe σ vs) k envi) H' ∧ ∀ i ∈ vs, ∀ s, envi[i]? = some s → s = .un,
    ⟨_, rfl, Nat.zero_le _, [], wipeD env1 vs, [], w0, Ew, upd_same, .nil, (Stp.grow (grow_upd hD)).weak, ?_, unW⟩, ?_⟩
  · refine wk.mono _ _ _ _ lv fun b u e z => ⟨grow_upd hD b u e, ?_⟩
    cases k with
    | b =>
      rcases z with z | z
      · exact .inl ⟨gUp b u e z.1, fun y => z.2 ((ow1 b).mp y)⟩
      · exact .inr ((ow1 b).mpr z)
    | z => exact ⟨gUp b u e z.1, fun y => z.2 ((ow1 b).mp y)⟩
    | t => exact ⟨gUp b u e z.1, fun y => z.2 ((ow1 b).mp y)⟩
  rintro i m H' ⟨rfl, hi, accD, envi, acc, hw, Ei, hDi, ra, si, li, uni⟩
  have noD : ¬ Own envi (wipe σ vs) A0 := nD0 si.own
  by_cases hlt : i < its.length
  · -- a turn
    refine .inr ⟨wk.go _ _ _ li hlt, fun H5 => ∃ accD envi acc, W (i + 1) accD envi ∧ EnvOk K G' N H5 (wipe σ vs) envi ∧ H5 A0 = some (.lst acc) ∧
      Reps K H5 (fun a => G' a ∧ ¬ Own envi (wipe σ vs) a) accD acc ∧ Stp (wipe σ vs) H1 (wipeD env1 vs) (elt.pur && cs.pur) H5 envi ∧ Live (PK G' (wipe σ vs) k envi) H5 ∧ ∀ i ∈ vs, ∀ s, envi[i]? = some s → s = .un,
      fun H5 h5 => ⟨_, by omega, rfl, hlt, h5⟩, fun x H2 y => ?_⟩
    obtain ⟨g2, d, hd, rx⟩ := wk.yld _ _ _ _ _ li hlt y
    obtain ⟨env2, ht, hc⟩ := wt i accD envi d hd hw
    have Ei2 : EnvOk K G' N H2 (wipe σ vs) envi := Ei.grow g2
    -- the item may be kept as data that stand
    have rx2 : Rep K H2 (fun a => G' a ∧ ¬ Own envi (wipe σ vs) a) d x := by
      have nn : ∀ b u, H2 b = some u → H' b = none → (G' b ∧ ¬ Own envi (wipe σ vs) b) := fun b u e z => ⟨(Ei.new b z).1, Ei.new_own z⟩
      by_cases hk : k = .b
      · subst hk
        have fl : flat d = true := by
          have f := (ck.resolve_left fun z => z rfl).1
          exact flats_get f hd
        refine wide_flat Ei2 fl (rx.mono fun b u e z => ?_)
        rcases z with z | z
        · exact z
        · exact .inl (nn b u e z)
      · refine rx.mono fun b u e z => ?_
        rcases z with z | z
        · cases k with
          | b => exact absurd rfl hk
          | z => exact z
          | t => exact z
        · exact nn b u e z
    refine tg_reads Ei2 ht rx2 fun σ2 E2 ts => ?_
    rw [hvs] at ts
    have hwσ : wipe σ2 vs = wipe σ vs := by
      rw [wipe_eq ts.len fun j hj => (ts.oth j hj).1]
      exact wipe_eq (wipe_length σ vs) fun j hj => wipe_get σ hj
    refine ⟨hwσ, G', N, env2, _, E2, hc, fun b env3 H3 hR s3 E3 => ?_⟩
    -- what a turn's end asks
    have fin5 : ∀ {env4 : DEnv} {H4 H5 : Hp} {pu : Bool} {accD' : List DL.D} {acc' : List V}, Stp σ2 H2 env2 pu H4 env4 → ((elt.pur && cs.pur) = true → pu = true) → EnvOk K G' N H4 σ2 env4 → (∀ b u, H4 b = some u → b ≠ A0 → H5 b = some u) → H5 A0 = some (.lst acc') →
        Reps K H4 (fun a => G' a ∧ ¬ Own env4 σ2 a) accD' acc' → W (i + 1) accD' (wipeD env4 vs) → ∃ accD envi acc, W (i + 1) accD envi ∧ EnvOk K G' N H5 (wipe σ vs) envi ∧ H5 A0 = some (.lst acc) ∧
      Reps K H5 (fun a => G' a ∧ ¬ Own envi (wipe σ vs) a) accD acc ∧ Stp (wipe σ vs) H1 (wipeD env1 vs) (elt.pur && cs.pur) H5 envi ∧ Live (PK G' (wipe σ vs) k envi) H5 ∧ ∀ i ∈ vs, ∀ s, envi[i]? = some s → s = .un := fun {env4 H4 H5 pu accD' acc'} s4 hpu E4 h45 hD5 ra4 w5 => by
      have free4 : Free env4 vs := fun j hj d' => by
        obtain ⟨d0, e0⟩ := ts.frz j hj
        constructor
        · intro e
          obtain ⟨d1, e1⟩ := s4.sl j ⟨d', e⟩
          rw [e0] at e1; cases e1
        · intro e
          obtain ⟨d1, e1⟩ := s4.si j ⟨d', e⟩
          rw [e0] at e1; cases e1
      have ow4 : ∀ a, Own (wipeD env4 vs) (wipe σ vs) a ↔ Own env4 σ2 a := fun a => by rw [← hwσ]; exact wipe_own free4 a
      have Ew4 : EnvOk K G' N H4 (wipe σ vs) (wipeD env4 vs) := by rw [← hwσ]; exact wipe_ok free4 E4
      have own5 : ∀ a, Own (wipeD env4 vs) (wipe σ vs) a → Own envi (wipe σ vs) a := fun a z => ts.own a (s4.own a ((ow4 a).mp z))
      have keep : ∀ b u, H' b = some u → ¬ Own envi (wipe σ vs) b → b ≠ A0 → H5 b = some u := fun b u e n ne => h45 b u (s4.step b u (g2 b u e) fun z => n (ts.own b z)) ne
      have nO5 : ¬ Own (wipeD env4 vs) (wipe σ vs) A0 := fun z => noD (own5 A0 z)
      have pure5 : (elt.pur && cs.pur) = true → wipeD env4 vs = envi ∧ ∀ b u, H' b = some u → b ≠ A0 → H5 b = some u := fun h => by
        obtain ⟨e4, k4⟩ := s4.pur (hpu h)
        refine ⟨?_, fun b u e ne => h45 b u (k4 b u (g2 b u e)) ne⟩
        rw [e4]
        exact wipeD_eq ts.lenE (fun j hj => (ts.oth j hj).2) uni
      refine ⟨accD', wipeD env4 vs, acc', w5, Ew4.side h45 gD nO5 (by rw [hD5]; exact fun z => nomatch z), hD5, ra4.imp fun b u e z => ⟨h45 b u e fun y => gD (y ▸ z.1), z.1, fun y => z.2 ((ow4 b).mp y)⟩, ⟨?_, ?_, ?_, ?_, ?_, ?_, ?_, ?_⟩, ?_, fun j hj s e => wipeD_in env4 hj e⟩
      · exact fun a o e n => keep a o (si.step a o e n) (fun z => n (si.own a z)) (ne_of_none e hD)
      · intro h
        obtain ⟨e5, k5⟩ := pure5 h
        obtain ⟨ei, ki⟩ := si.pur h
        exact ⟨e5.trans ei, fun a o e => k5 a o (ki a o e) (ne_of_none e hD)⟩
      · exact fun a z => si.own a (own5 a z)
      · intro a z
        have z2 : H4 a ≠ none := s4.trk a (fun y => by
          cases q : H' a with
          | none => exact si.trk a z q
          | some u => rw [g2 a u q] at y; cases y)
        by_cases hb : a = A0
        · rw [hb, hD5]; exact fun z => nomatch z
        · cases q : H4 a with
          | none => exact absurd q z2
          | some u => rw [h45 a u q hb]; exact fun z => nomatch z
      · intro j d' e
        obtain ⟨d1, e1⟩ := si.io j d' e
        have nj : j ∉ vs := fun z => by have := uni j z _ e1; cases this
        obtain ⟨d2, e2⟩ := s4.io j d1 (ts.io j d1 e1).1
        exact ⟨d2, by rw [wipeD_get env4 nj]; exact e2⟩
      · rw [wipeD_len, s4.len, ts.lenE, si.len]
      · intro j ⟨d', e⟩
        have nj : j ∉ vs := fun z => by have := wipeD_in env4 z e; cases this
        rw [wipeD_get env4 nj] at e
        obtain ⟨d1, e1⟩ := s4.sl j ⟨d', e⟩
        rw [(ts.oth j nj).2] at e1
        exact si.sl j ⟨d1, e1⟩
      · intro j ⟨d', e⟩
        have nj : j ∉ vs := fun z => by have := wipeD_in env4 z e; cases this
        rw [wipeD_get env4 nj] at e
        obtain ⟨d1, e1⟩ := s4.si j ⟨d', e⟩
        rw [(ts.oth j nj).2] at e1
        exact si.si j ⟨d1, e1⟩
      · refine wk.mono _ _ _ _ li fun b u e z => ?_
        by_cases hk : k = .b
        · subst hk
          obtain ⟨_, p1, p2⟩ := ck.resolve_left fun z => z rfl
          obtain ⟨e5, k5⟩ := pure5 (by rw [p1, p2]; rfl)
          rw [e5]
          refine ⟨k5 b u e fun y => ?_, z⟩
          subst y
          rcases z with z | z
          · exact gD z.1
          · exact noD z
        · have z2 : G' b ∧ ¬ Own envi (wipe σ vs) b := by
            cases k with
            | b => exact absurd rfl hk
            | z => exact z
            | t => exact z
          refine ⟨keep b u e z2.2 fun y => gD (y ▸ z2.1), ?_⟩
          have z3 : G' b ∧ ¬ Own (wipeD env4 vs) (wipe σ vs) b := ⟨z2.1, fun y => z2.2 (own5 b y)⟩
          cases k with
          | b => exact absurd rfl hk
          | z => exact z3
          | t => exact z3
    have carryA : ∀ {env4 : DEnv} {H4 : Hp} {pu : Bool}, Stp σ2 H2 env2 pu H4 env4 → Reps K H4 (fun a => G' a ∧ ¬ Own env4 σ2 a) accD acc := fun {env4 H4 pu} s4 =>
      ra.imp fun b u e z => ⟨s4.step b u (g2 b u e) fun y => z.2 (ts.own b y), z.1, fun y => z.2 (ts.own b (s4.own b y))⟩
    have keepD : ∀ {env4 : DEnv} {H4 : Hp} {pu : Bool}, Stp σ2 H2 env2 pu H4 env4 → H4 A0 = some (.lst acc) := fun {env4 H4 pu} s4 => s4.step A0 _ (g2 A0 _ hDi) fun y => noD (ts.own A0 y)
    cases b with
    | false =>
      exact iteF (fin5 s3 (fun h => (Bool.and_eq_true_iff.mp h).2) E3 (fun b u e _ => e) (keepD s3) (carryA s3) hR)
    | true =>
      rw [if_pos rfl] at hR
      refine iteT ?_
      refine ⟨G', N, env3, _, E3, hR, fun kk d' env4 v H4 ⟨hkk, hsz, hW⟩ p4 => ?_⟩
      have s4 := s3.trans p4.s
      refine ⟨acc, keepD s4, by rw [ra.length]; exact hsz, ?_⟩
      refine fin5 s4 (fun h => ?_) p4.ok (fun b u e ne => by rw [upd_ne ne]; exact e) upd_same ((carryA s4).append (.cons (p4.rep.z hkk) .nil)) hW
      obtain ⟨h1, h2⟩ := Bool.and_eq_true_iff.mp h
      rw [h1, h2]; rfl
  · -- the end
    have ei : i = its.length := by omega
    subst ei
    refine .inl ⟨wk.stop _ _ _ li (Nat.le_refl _), fin _ _ _ _ _ (wd accD envi hw) ?_⟩
    have freeI : Free envi vs := fun j hj d' => by
      constructor <;> (intro e; have := uni j hj _ e; cases this)
    have lenI : envi.length = env1.length := by rw [si.len, wipeD_len]
    obtain ⟨Eb, owb⟩ := back_ok free1 freeI lenI E1' Ei uni (fun a z => (ow1 a).mp (si.own a z)) fun b u e g n => by
      have ne : b ≠ A0 := fun z => gD (z ▸ g)
      rw [upd_ne ne] at e
      exact si.step b u e fun z => n ((ow1 b).mp z)
    refine ⟨⟨?_, ?_, ?_, ?_, ?_, ?_, ?_, ?_⟩, A0, rfl, ?_⟩
    · exact fun a o e n => si.step a o (s1.step a o e n) fun z => n (s1.own a ((ow1 a).mp z))
    · intro h
      unfold DL.E.pur at h
      obtain ⟨h12, h3⟩ := Bool.and_eq_true_iff.mp h
      obtain ⟨h1, h2⟩ := Bool.and_eq_true_iff.mp h12
      obtain ⟨e1, k1⟩ := s1.pur h2
      obtain ⟨e2, k2⟩ := si.pur (by rw [h1, h3]; rfl)
      exact ⟨by rw [e2, backD_wipe, e1], fun a o e => k2 a o (k1 a o e)⟩
    · exact fun a z => s1.own a ((ow1 a).mp (si.own a ((owb a).mp z)))
    · exact fun a z => si.trk a (s1.trk a z)
    · intro j d' e
      obtain ⟨d1, e1⟩ := s1.io j d' e
      have nj : j ∉ vs := fun z => (free1 j z d1).2 e1
      obtain ⟨d2, e2⟩ := si.io j d1 (by rw [wipeD_get env1 nj]; exact e1)
      exact ⟨d2, by rw [backD_get env1 envi nj]; exact e2⟩
    · rw [backD_len, lenI, s1.len]
    · intro j ⟨d', e⟩
      by_cases nj : j ∈ vs
      · exact s1.sl j ⟨d', backD_in env1 envi lenI nj e⟩
      · rw [backD_get env1 envi nj] at e
        obtain ⟨d1, e1⟩ := si.sl j ⟨d', e⟩
        rw [wipeD_get env1 nj] at e1
        exact s1.sl j ⟨d1, e1⟩
    · intro j ⟨d', e⟩
      by_cases nj : j ∈ vs
      · exact s1.si j ⟨d', backD_in env1 envi lenI nj e⟩
      · rw [backD_get env1 envi nj] at e
        obtain ⟨d1, e1⟩ := si.si j ⟨d', e⟩
        rw [wipeD_get env1 nj] at e1
        exact s1.si j ⟨d1, e1⟩
    · have ra2 : Reps K H' (fun b => (G b ∧ b ≠ A0) ∧ ¬ Own (backD env1 envi vs) σ b) accD acc := ra.imp fun b u e z => ⟨e, by
        have z1 := z.1
        rw [← hG] at z1
        exact z1, fun y => z.2 ((owb b).mp y)⟩
      have Eb2 : EnvOk K (fun b => G b ∧ b ≠ A0) N H' σ (backD env1 envi vs) := by
        have := Eb
        rw [← hG] at this
        exact this
      exact ⟨(E1.new A0 hD).1, (E1.new A0 hD).2, fun z => noD ((owb A0).mp z), .inl ⟨accD, acc, rfl, hDi, ra2⟩, Eb2⟩
end
end DL

/-! DL22: set(l) of a list of ints, its sorted list. -/
namespace L2
open PySem PySem.Spec PyProof.Rows
section
variable {P : Program} {w : World} {A : Around} {E : Value → Shared → Prop} {z : Shared}
/-- an empty set's object -/
abbrev noneYet (w : World) : Obj := { cls := .type "set", dict := none, data := .set #[] 0 (.fresh 0 0 (!w.params.followText "set-order")) }
set_option maxHeartbeats 4000000 in
theorem set_of_list {l : Addr} {its : Array Value} (qs : List Int) {Q : Value → Shared → Prop} (noH : A.handled = none) (isL : z.heap.IsList l its) (are : IntsAre its.toList qs) (few : qs.length + 1 < scanBound)
    (go : ∀ (h' : Heap) (tk c : Nat), SetR w h' z.heap.objs.size (fun j => decide (j ∈ qs)) c → c ≤ qs.length → (∀ b o, z.heap.get? b = some o → h'.get? b = some o) → Q (.ref z.heap.objs.size) { z with heap := h', toks := tk }) :
    wpAny (model P w) A (call (.type "set") [.ref l]) Q E z := by
  have size : its.size = qs.length := (Array.length_toList (xs := its)).symm.trans (IntsAre.length are)
  obtain ⟨c0, tl0, mro0⟩ := F.called_set.mro
  have f1 := F.called_set.made; have f2 := F.called_set.sub
  refine wpAny_call (codeAny_of_tree ?_); show wpAny _ _ (callAny (.type "set") _) _ _ _
  refine wpAny_pure ⟨Code.quiet_builtin _ (by decide +kernel), (codeAny_builtin F.entry_type_call ?_)⟩
  rw [(Around.under_plain (weight_type_call_type "set" [.ref l] []) rfl)]
  have f3 := F.called_set.notType; have f4 := F.called_set.canCreate; have f5 := F.typeCall_set_1 (.ref l)
  repeat (any_goals (first | assumption | wp_step))
  refine codeAny_mono (code_set_led1 (.ref l) (E := E) (Q₁ := fun ob z1 => ob = .ref z.heap.objs.size ∧ z1 = { z with heap := z.heap.push (noneYet w) }) ⟨rfl, rfl⟩) fun r z1 hr => ?_
  cases r with
  | error e => exact hr
  | ok fl =>
    cases fl with
    | ret ob =>
      obtain ⟨rfl, rfl⟩ := hr
      have at0 : (z.heap.push (noneYet w)).get? z.heap.objs.size = some (noneYet w) := Heap.get?_push_size _ rfl
      have ty0 : Shared.TypeIs { z with heap := z.heap.push (noneYet w) } (.ref z.heap.objs.size) "set" := ⟨_, at0, rfl⟩
      have i1 := F.called_set.init.lookup; have i2 := F.called_set.init.bind (.ref z.heap.objs.size)
      repeat (any_goals (first | assumption | wp_step))
      refine codeAny_mono (codeAny_call_builtin (R := wants (fun r z2 => r = .none ∧ ∃ h' tk c, z2 = { z with heap := h', toks := tk } ∧ SetR w h' z.heap.objs.size (fun j => decide (j ∈ qs)) c ∧ c ≤ qs.length ∧
          (∀ b o, z.heap.get? b = some o → h'.get? b = some o)) E) F.called_set.init.plain F.entry_set_init (check_set_init_1 ty0 ?_)) fun r2 z2 hr2 => ?_
      · obtain ⟨ol, hol, hcl, nl, hdl⟩ := isL
        obtain ⟨ocls, odict, odata, oslots⟩ := ol
        simp only at hcl hdl
        subst hcl hdl
        have there : (z.heap.push (noneYet w)).get? l = some { cls := .type "list", dict := odict, data := .seq its nl, slots := oslots } := Heap.get?_push_of_some _ hol
        have g1 := F.sub_list_set; have g2 := F.sub_list_frozenset
        have g3 : (Value.type "list" == Value.type "dict") = false := by decide
        have isL1 : (z.heap.push (noneYet w)).IsList l its := ⟨_, there, rfl, nl, rfl⟩
        unfold Builtin.«set.__init__» noKeywords Builtin.Frozenset.updateFrom
        generalize kept : pyIter = walkIt
        wp_walk
        subst kept
        refine wpAny_pyIter_list isL1 ?_
        refine wpAny_bind (wpAny_runValue ?_)
        have ltS : l < z.heap.objs.size := Heap.lt_size hol
        have no3 : A.in1.in1.in1.handled = none := by simp [noH]
        have neI : l ≠ (z.heap.push (noneYet w)).objs.size := by
          rw [Heap.size_push]; exact Nat.ne_of_lt (Nat.lt_succ_of_lt ltS)
        have offS : z.heap.objs.size ∉ [(z.heap.push (noneYet w)).objs.size, l] := by
          rw [Heap.size_push]
          simp only [List.mem_cons, List.not_mem_nil, or_false, not_or]
          exact .intro (Nat.ne_of_lt (Nat.lt_succ_self _)) (Nat.ne_of_gt ltS)
        have vals : ∀ (i : Nat) (v : Value), its[i]? = some v → ∃ k t, qs[i]? = some k ∧ v = .int k t := fun i v hv => by
          have hi : i < qs.length := size ▸ (Array.getElem?_eq_some_iff.mp hv).1
          obtain ⟨t, e⟩ := PyProof.Rows.IntsAre.int_at are i v ((Array.getElem?_toList ..).trans hv)
          exact ⟨qs[i], t, List.getElem?_eq_getElem hi, by rw [e, List.getD_eq_getElem?_getD, List.getElem?_eq_getElem hi]; rfl⟩
        refine set_update_ints ((Walks.list no3 _ l neI its).toS) z.heap.objs.size offS qs size few vals (its.size - 0) 0 _ (by omega) (Nat.zero_le _) ⟨⟨_, Heap.get?_push_size _ rfl, rfl, rfl⟩, isL1.push _⟩ ?st ?en
        case st => exact ⟨0, Nat.le_refl 0, setR_new_at (Heap.get?_push_of_some _ at0)⟩
        case en =>
          intro z3 c3 hm hc3 hS3
          obtain ⟨h', g', d', tk', os'⟩ := z3
          obtain rfl : g' = z.gens := hm.gens
          obtain rfl : d' = z.drawn := hm.drawn
          obtain rfl : os' = z.os := hm.os
          show wpAny _ _ _ _ _ _
          refine wpAny_pure ?_; show wpAny _ _ (ret Value.none) _ _ _
          rw [size] at hc3
          refine wpAny_pure ⟨rfl, h', tk', c3, rfl, hS3, hc3, fun b o e => hm.heap b o ?_ (Heap.get?_push_of_some _ (Heap.get?_push_of_some _ e))⟩
          have hb0 : b < z.heap.objs.size := Heap.lt_size e
          rw [Heap.size_push]
          simp only [List.mem_cons, List.not_mem_nil, or_false, not_or]
          exact .intro (Nat.ne_of_lt hb0) (Nat.ne_of_lt (Nat.lt_succ_of_lt hb0))
      · cases r2 with
        | error e => exact hr2
        | ok fl2 =>
          cases fl2 with
          | ret r =>
            obtain ⟨rfl, h', tk, c, rfl, hS', hc', hk'⟩ := hr2
            repeat (any_goals (first | assumption | wp_step))
            exact go _ _ _ hS' hc' hk'
          | _ => exact hr2.elim
    | _ => exact hr.elim
end
section
variable {X : Cx}
/-- set(l) of a list of ints -/
def rSetIL (K : PySem.W.Frag) (w : World) : List V → Hp → VK → Prop := fun vs H Q => ∃ (l : Addr) (ns : List Int), vs = [.ref l] ∧ SqL K H l (ns.map V.int) ∧ ns.length ≤ 1000 ∧
  ∀ p c, H p = none → (∀ ms : List Int, ms.Nodup → (∀ k, k ∈ ms ↔ k ∈ ns) → ms.length = c) → Q (.ref p) (upd H p (SetO w p (fun j => decide (j ∈ ns)) c))
theorem cr_setL (hc : X.calm = true) : CallR X (.type "set") (rSetIL X.K X.w) := by
  intro pins s σ H vs us Q I r h
  obtain ⟨l, ns, rfl, hs, hz, q⟩ := h
  obtain ⟨its, rv, hl, _⟩ := I.list hs
  rw [Vals.ref1 r]
  refine set_of_list ns (I.ok.hd hc) hl.isList rv.ints (by unfold scanBound; omega) fun h' tk c R hcn k => ?_
  refine ⟨.ref _, upd H s.heap.objs.size (SetO X.w s.heap.objs.size (fun j => decide (j ∈ ns)) c), I.laid (t' := tk) k (Nat.le_refl _) (setO_new R), rfl, q _ _ (I.hok.fresh (Nat.le_refl _)) fun ms hn hm => ?_⟩
  obtain ⟨o, es, ep, t, ho, hex, hdt, g, nd, hm2, hb, hf, hsz, hr, hl2⟩ := R
  have pm : ms.Perm (es.toList.map keyOf) := (List.perm_ext_iff_of_nodup hn nd).mpr fun k => by
    rw [hm k, ← hm2 k]
    simp
  rw [pm.length_eq, List.length_map, Array.length_toList]
  exact hsz
/-- one ascending list alone has these members -/
theorem strict_one : ∀ {a b : List Int}, a.Pairwise (· < ·) → b.Pairwise (· < ·) → (∀ k, k ∈ a ↔ k ∈ b) → a = b
  | [], [], _, _, _ => rfl
  | [], y :: b, _, _, h => absurd ((h y).mpr List.mem_cons_self) List.not_mem_nil
  | x :: a, [], _, _, h => absurd ((h x).mp List.mem_cons_self) List.not_mem_nil
  | x :: a, y :: b, ha, hb, h => by
    obtain ⟨ha1, ha2⟩ := List.pairwise_cons.mp ha
    obtain ⟨hb1, hb2⟩ := List.pairwise_cons.mp hb
    have e : x = y := by
      rcases List.mem_cons.mp ((h x).mp List.mem_cons_self) with e | e
      · exact e
      · rcases List.mem_cons.mp ((h y).mpr List.mem_cons_self) with e2 | e2
        · exact e2.symm
        · have := hb1 x e
          have := ha1 y e2
          omega
    subst e
    rw [strict_one ha2 hb2 fun k => ?_]
    constructor
    · intro hk
      rcases List.mem_cons.mp ((h k).mp (List.mem_cons_of_mem _ hk)) with e | e
      · have := ha1 k hk
        omega
      · exact e
    · intro hk
      rcases List.mem_cons.mp ((h k).mpr (List.mem_cons_of_mem _ hk)) with e | e
      · have := hb1 k hk
        omega
      · exact e
end
end L2

/-! DL23: sorted(set(l)), dicts with tuple keys, l[::-1], [*l, x], methods that change nothing. -/
namespace DL
open PySem PySem.Spec PyProof.Rows L2

/-! ### dicts with tuple keys -/
abbrev kI (k : List Int) : List Key := k.map Sum.inl
theorem kI_inj {a b : List Int} (h : kI a = kI b) : a = b := (List.map_inj_right fun x y e => by cases e; rfl).mp h
theorem kI_kV (k : List Int) : (kI k).map kV = k.map V.int := by unfold kI; rw [List.map_map]; rfl
theorem kI_keyD (k : List Int) : (kI k).map keyD = k.map PyData.int := by unfold kI; rw [List.map_map]; rfl
theorem keyD_ints : ∀ {ks : List Key} {k : List Int}, ks.map keyD = k.map PyData.int → ks = kI k
  | [], [], _ => rfl
  | [], _ :: _, h => by cases h
  | _ :: _, [], h => by cases h
  | x :: ks, i :: k, h => by
    rw [List.map_cons, List.map_cons] at h
    injection h with h1 h2
    cases x with
    | inl j =>
      have e : j = i := by injection h1
      rw [e, keyD_ints h2]; rfl
    | inr j => cases h1
def RT (K : Frag) (H : Hp) (P : Addr → Prop) : List (List Int × D) → List (List Key × V) → Prop
  | [], l' => l' = []
  | p :: l, l' => ∃ v r, l' = (kI p.1, v) :: r ∧ Rep K H P p.2 v ∧ RT K H P l r
section
variable {K : Frag} {H H' : Hp} {P P' : Addr → Prop}
theorem RT.imp (h : ∀ a u, H a = some u → P a → H' a = some u ∧ P' a) : ∀ {l : List (List Int × D)} {l' : List (List Key × V)}, RT K H P l l' → RT K H' P' l l'
  | [], _, q => q
  | p :: l, _, q => let ⟨v, r, e, a, b⟩ := q; ⟨v, r, e, a.imp h, RT.imp h b⟩
theorem RT.length : ∀ {l : List (List Int × D)} {l' : List (List Key × V)}, RT K H P l l' → l'.length = l.length
  | [], _, q => by rw [show _ = [] from q]; rfl
  | p :: l, _, q => by obtain ⟨v, r, rfl, _, b⟩ := q; rw [List.length_cons, List.length_cons, b.length]
theorem RT.to : ∀ {l : List (List Int × D)} {l' : List (List Key × V)}, RT K H P l l' → RepKv K H P (l.map fun p => (PyData.tuple (p.1.map .int), p.2)) (l'.map fun p => (PyData.tuple (p.1.map keyD), p.2))
  | [], _, q => by rw [show _ = [] from q]; unfold RepKv; rfl
  | p :: l, _, q => by
    obtain ⟨v, r, rfl, a, b⟩ := q
    rw [List.map_cons, List.map_cons]
    unfold RepKv
    exact ⟨v, _, by rw [kI_keyD], a, b.to⟩
theorem RT.of : ∀ {l : List (List Int × D)} {l' : List (List Key × V)}, RepKv K H P (l.map fun p => (PyData.tuple (p.1.map .int), p.2)) (l'.map fun p => (PyData.tuple (p.1.map keyD), p.2)) → RT K H P l l'
  | [], l', q => by
    rw [List.map_nil] at q
    unfold RepKv at q
    exact List.map_eq_nil_iff.mp q
  | p :: l, [], q => by
    rw [List.map_cons] at q
    unfold RepKv at q
    obtain ⟨v, r, e, _⟩ := q
    cases e
  | p :: l, (k, x) :: l', q => by
    rw [List.map_cons, List.map_cons] at q
    unfold RepKv at q
    obtain ⟨v, r, e, a, b⟩ := q
    injection e with e1 e2
    injection e1 with e3 e4
    injection e3 with e5
    have ek : k = kI p.1 := keyD_ints e5
    subst e2 e4 ek
    exact ⟨x, l', rfl, a, RT.of b⟩
/-- a dict of tuple keys in the heap -/
theorem dT_to {a : Addr} {l : List (List Int × D)} {l' : List (List Key × V)} (h : H a = some (.dT l')) (q : RT K H P l l') : OwnO K H P a (dT l) := by
  refine .inr ⟨_, _, rfl, .inr ⟨l', h, rfl⟩, ?_⟩
  unfold RepKv
  exact ⟨.non, _, rfl, by unfold Rep; rfl, q.to⟩
theorem dT_kv {a : Addr} {l : List (List Int × D)} {ks : List (D × V)} (d : DO H a ks) (q : RepKv K H P ((PyData.tuple [], PyData.none) :: l.map fun p => (PyData.tuple (p.1.map .int), p.2)) ks) : ∃ l', H a = some (.dT l') ∧ RT K H P l l' := by
  unfold RepKv at q
  obtain ⟨v, r, e, a, b⟩ := q
  rcases d with ⟨l', h, e2⟩ | ⟨l', h, e2⟩
  · rw [e2] at e
    cases l' with
    | nil => cases e
    | cons p l' =>
      rw [List.map_cons] at e
      injection e with e3 e4
      injection e3 with e5 e6
      cases hk : p.1 <;> (rw [hk] at e5; cases e5)
  · rw [e2] at e
    injection e with e3 e4
    subst e4
    exact ⟨l', h, RT.of b⟩
theorem dT_of {a : Addr} {l : List (List Int × D)} (o : OwnO K H P a (dT l)) : ∃ l', H a = some (.dT l') ∧ RT K H P l l' := by
  rcases o with ⟨ds, xs, e, q, r⟩ | ⟨kvs, ks, e, q, r⟩
  · cases e
  · cases e
    exact dT_kv q r
theorem dT_rep {v : V} {l : List (List Int × D)} (q : Rep K H P (dT l) v) : ∃ a l', v = .ref a ∧ H a = some (.dT l') ∧ RT K H P l l' := by
  unfold dT Rep at q
  obtain ⟨a, ks, rfl, ⟨d, _⟩, r⟩ := q
  obtain ⟨l', h, t⟩ := dT_kv d r
  exact ⟨a, l', rfl, h, t⟩
theorem RT.has (k : List Int) : ∀ {l : List (List Int × D)} {l' : List (List Key × V)}, RT K H P l l' → (valV l' (kI k)).isSome = hasT l k
  | [], _, q => by rw [show _ = [] from q]; rfl
  | p :: l, _, q => by
    obtain ⟨v, r, rfl, _, b⟩ := q
    by_cases e : p.1 = k
    · rw [valV_pos (by rw [e])]
      simp [hasT, e]
    · rw [valV_neg (fun z => e (kI_inj z)), b.has k]
      simp [hasT, e]
theorem RT.snoc {l : List (List Int × D)} {l' : List (List Key × V)} {k : List Int} {d : D} {v : V} (q : RT K H P l l') (r : Rep K H P d v) : RT K H P (l ++ [(k, d)]) (l' ++ [(kI k, v)]) := by
  induction l generalizing l' with
  | nil => rw [show l' = [] from q]; exact ⟨v, [], rfl, r, rfl⟩
  | cons p l ih =>
    obtain ⟨w, t, rfl, a, b⟩ := q
    exact ⟨w, _, rfl, a, ih b⟩
theorem RT.map {k : List Int} {d : D} {v : V} (r : Rep K H P d v) : ∀ {l : List (List Int × D)} {l' : List (List Key × V)}, RT K H P l l' → RT K H P (l.map fun p => if p.1 = k then (p.1, d) else p) (l'.map fun p => if p.1 = kI k then (p.1, v) else p)
  | [], _, q => by rw [show _ = [] from q]; rfl
  | p :: l, _, q => by
    obtain ⟨w, t, rfl, a, b⟩ := q
    rw [List.map_cons, List.map_cons]
    by_cases e : p.1 = k
    · rw [if_pos e, if_pos (by rw [e])]
      exact ⟨v, _, rfl, r, b.map r⟩
    · rw [if_neg e, if_neg (fun z => e (kI_inj z))]
      exact ⟨w, _, rfl, a, b.map r⟩
theorem RT.put {l : List (List Int × D)} {l' : List (List Key × V)} {k : List Int} {d : D} {v : V} (q : RT K H P l l') (r : Rep K H P d v) : RT K H P (putT l k d) (putK l' (kI k) v) := by
  unfold putT putK
  have e : (l'.any fun kv => decide (kv.1 = kI k)) = hasT l k := by rw [valV_any, q.has k]
  rw [e]
  split
  · exact q.map r
  · exact q.snoc r
end

section
variable {Φ : Phi} {X : Cx} {G N : Addr → Prop} {σ : L2.St} {H H1 H2 : Hp} {env env1 env2 : DEnv} {p q : Bool}
theorem dnewT_sound {pos : Pos} : PE X (.Dict [] [] pos) (tE Φ X.K .dnewT) := by
  refine pe_of pe_dnewT fun σ H Q ⟨G, N, env, Q', E, rd, fin⟩ => fun a na => ?_
  simp only [rdE] at rd
  have gr := grow_upd (o := HO.dT []) na
  refine fin _ _ _ _ _ rd ⟨(Stp.grow gr).imp fun _ => rfl, a, rfl, (E.new a na).1, (E.new a na).2, E.new_own na, dT_to upd_same rfl, ?_⟩
  refine E.mv gr (fun b u e z => ⟨z, ne_of_none e na⟩) fun b e e' => ⟨(E.new b e').1, fun y => ?_⟩
  subst y
  rw [upd_same] at e
  cases e
theorem dinT_reads {es : Es} {i : Nat} {neg : Bool} {as : List Expr} {Q : VK} (h : BoolEnd Φ X.K (.dinT neg es i) σ H fun r H' => Q (.bl r) H') :
    (tTup (tEs Φ X.K es)) σ H fun y H1 => tVar i σ H1 fun x H2 => ∃ a o, x = .ref a ∧ DGet H2 a y o ∧ Q (.bl (if neg = true then !o.isSome else o.isSome)) H2 := by
  obtain ⟨G, N, env, Q', E, rd, fin⟩ := h
  simp only [rdE] at rd
  refine ⟨G, N, env, _, E, rd, fun k' ds env1 vs H1 ⟨ks, k, l, ed, hz, hv, hQ⟩ p1 => ?_⟩
  subst ed
  have ev : vs = ks.map V.int := Rep.ints p1.r.wide
  subst ev
  have hz2 : sizeLine ≥ 1000 := by decide
  refine ⟨by rw [List.length_map]; omega, fun t nt => ?_⟩
  have gr := grow_upd (o := HO.tup (ks.map V.int)) nt
  have E2 := p1.ok.grow gr
  obtain ⟨v, ev, rk, _⟩ := var_val E2 hv
  obtain ⟨a, l', rfl, ha, rt⟩ := dT_rep rk.wide
  refine ⟨.ref a, ev, a, valV l' (kI ks), rfl, DGet.t ha (by rw [kI_kV]; exact upd_same), ?_⟩
  rw [rt.has ks]
  exact fin _ _ _ hQ ((p1.s.trans (Stp.grow gr)).imp fun h => by rw [show es.pur = true from h]; rfl) E2
theorem din_in (b : Expr) (hb : ∀ es k p, b ≠ .Set es k p) (o : CmpOp) : behindInMarks o b = false := by
  unfold behindInMarks
  cases b <;> first | rfl | (cases o <;> rfl) | exact absurd rfl (hb _ _ _)
theorem dinT_sound (hu : X.A.units + 1 < cLine) {es : Es} {i : Nat} {as : List Expr} {x : Str} {kk : Nat} {tp p2 pos : Pos} (ha : PA X as (tEs Φ X.K es)) (hx : PE X (.Name x p2) (tVar i)) :
    PE X (.Compare (.Tuple as kk tp) [.In] [.Name x p2] pos) (tE Φ X.K (.dinT false es i)) ∧ PT X (.Compare (.Tuple as kk tp) [.In] [.Name x p2] pos) (tT Φ X.K (.dinT false es i)) := by
  refine ⟨pe_of (pe_cmp (pc_din hu (pe_tup ha) hx) rfl) fun σ H Q h => dinT_reads (as := as) (.ofE h), pt_of (pt_cmp (pc_din hu (pe_tup ha) hx) rfl) fun σ H Q h => ?_⟩
  obtain ⟨G, N, env, Q', E, rd, fin⟩ := BoolEnd.ofT h
  exact dinT_reads (as := as) (Q := fun x H' => ∃ k, x = .bl k ∧ Q k H') ⟨G, N, env, Q', E, rd, fun r env' H' hQ s E' => ⟨r, rfl, fin r env' H' hQ s E'⟩⟩
theorem dninT_sound (hu : X.A.units + 1 < cLine) {es : Es} {i : Nat} {as : List Expr} {x : Str} {kk : Nat} {tp p2 pos : Pos} (ha : PA X as (tEs Φ X.K es)) (hx : PE X (.Name x p2) (tVar i)) :
    PE X (.Compare (.Tuple as kk tp) [.NotIn] [.Name x p2] pos) (tE Φ X.K (.dinT true es i)) ∧ PT X (.Compare (.Tuple as kk tp) [.NotIn] [.Name x p2] pos) (tT Φ X.K (.dinT true es i)) := by
  refine ⟨pe_of (pe_cmp (pc_dnotin hu (pe_tup ha) hx) rfl) fun σ H Q h => dinT_reads (as := as) (.ofE h), pt_of (pt_cmp (pc_dnotin hu (pe_tup ha) hx) rfl) fun σ H Q h => ?_⟩
  obtain ⟨G, N, env, Q', E, rd, fin⟩ := BoolEnd.ofT h
  exact dinT_reads (as := as) (Q := fun x H' => ∃ k, x = .bl k ∧ Q k H') ⟨G, N, env, Q', E, rd, fun r env' H' hQ s E' => ⟨r, rfl, fin r env' H' hQ s E'⟩⟩
theorem sset_sound {e : DL.E} {a : Expr} {l x : Str} {p q pos pos' : Pos} (hc : X.calm = true) (hl : l = "sorted") (gl : Gl X l) (ml : X.mg l = none) (hx : x = "set") (gx : Gl X x) (mx : X.mg x = none) (h : PE X a (tE Φ X.K e)) (ns : NoStar [a]) :
    PE X (.Call (.Name l p) [.Call (.Name x q) [a] [] pos'] [] pos) (tE Φ X.K (.sset e)) := by
  subst hl hx
  have inner := pe_callTy (p := q) (pos := pos') (cr_setL hc) gx mx (by rfl) (one_arg h ns) (by decide) (by rfl) (ns.cons X.env) (ns.tail.any X.env pos')
  have ns2 : NoStar [.Call (.Name "set" q) [a] [] pos'] := fun c hc' e p z => by
    have y : c = .Call (.Name "set" q) [a] [] pos' := by simpa using hc'
    rw [y] at z; cases z
  refine pe_of (pe_callB (cr_sortedSet hc) gl ml (by rfl) (pa_cons inner pa_nil (ns2.cons X.env)) (by decide) (by rfl) (ns2.cons X.env) (ns2.tail.any X.env pos)) fun σ H Q ⟨G, N, env, Q', E, rd, fin⟩ => ?_
  simp only [rdE] at rd
  refine ⟨G, N, env, _, E, rd, fun k d env1 v H1 ⟨is, ms, ed, hz, h1, h2, h3, hQ⟩ p1 => ?_⟩
  subst ed
  obtain ⟨l, xs, rfl, ln, r⟩ := p1.rep.wide.list_inv
  have ex : xs = is.map V.int := Rep.ints r
  subst ex
  refine ⟨l, is, rfl, ln.sq, hz, fun t c nt hcn => ?_⟩
  have hcl : ms.length = c := hcn ms (h1.imp fun h => by omega) h2
  have gr := grow_upd (o := SetO X.w t (fun j => decide (j ∈ is)) c) nt
  refine ⟨t, fun j => decide (j ∈ is), c, rfl, upd_same, by omega, fun ms' t2 s1 s2 s3 nt2 => ?_⟩
  have e : ms' = ms := strict_one s1 h1 fun k => by rw [s2 k, h2 k]; simp
  subst e
  exact fin _ _ _ _ _ hQ (post_new (p1.ok.grow gr) ((p1.s.trans (Stp.grow gr)).imp fun h => by rw [show e.pur = true from h]; rfl) Rep.of_ints nt2)
theorem list_frz {k : Kd} {ds : List D} {x : V} (E : EnvOk X.K G N H σ env) (rx : RepK X.K G σ k H env (.list ds) x) (f : k ≠ .b ∨ flats ds = true) : ∃ a xs, x = .ref a ∧ SqL X.K H a xs ∧ Reps X.K H (fun a => G a ∧ ¬ Own env σ a) ds xs := by
  rcases f with hk | hk
  · obtain ⟨a, xs, e, ln, r⟩ := (rx.z hk).list_inv
    exact ⟨a, xs, e, ln.sq, r⟩
  · obtain ⟨a, xs, e, ln, r⟩ := rx.wide.list_inv
    exact ⟨a, xs, e, ln.sq, wide_flats E hk r⟩
theorem rev_sound {e : DL.E} {a : Expr} {k : Nat} {p1 p2 p3 pos : Pos} (h : PE X a (tE Φ X.K e)) : PE X (.Subscript a (.Slice none none (some (.UnaryOp .USub (.Constant (.int 1) k p1) p2)) p3) pos) (tE Φ X.K (.rev e)) := by
  refine pe_of (pe_revL h) fun σ H Q ⟨G, N, env, Q', E, rd, fin⟩ => ?_
  simp only [rdE] at rd
  refine ⟨G, N, env, _, E, rd, fun k d env1 v H1 ⟨ds, ed, hk, hQ⟩ p1 => ?_⟩
  subst ed
  obtain ⟨l, xs, rfl, ln, r⟩ := list_frz p1.ok p1.rep hk
  exact ⟨l, xs, rfl, ln, fun t nt => fin _ _ _ _ _ hQ (post_new p1.ok p1.s r.reverse nt)⟩
theorem cat_sound {e : DL.E} {es : Es} {a : Expr} {as : List Expr} {p pos : Pos} (ha : PE X a (tE Φ X.K e)) (hs : PA X as (tEs Φ X.K es)) : PE X (.List (.Starred a p :: as) pos) (tE Φ X.K (.cat e es)) := by
  refine pe_of (pe_lst (StX.pa_star ha hs)) fun σ H Q ⟨G, N, env, Q', E, rd, fin⟩ => ?_
  simp only [rdE] at rd
  refine ⟨G, N, env, _, E, rd, fun k d env1 v H1 ⟨xs, ed, hk, rd1⟩ p1 => ?_⟩
  subst ed
  obtain ⟨l, ws, rfl, ln, r⟩ := list_frz p1.ok p1.rep hk
  refine ⟨l, ws, rfl, .inr ln, G, N, env1, _, p1.ok, rd1, fun k' ds env2 vs H2 ⟨hk', hl, hQ⟩ p2 => ?_⟩
  have r2 := (carryZs p2.s r).append (reps_list p2.r hk')
  have hz : sizeLine ≥ 100000 := by decide
  refine ⟨?_, fun t nt => fin _ _ _ _ _ hQ (post_new p2.ok (p1.s.trans p2.s) r2 nt)⟩
  rw [r2.length, List.length_append]
  omega
theorem cat2_sound {e f : DL.E} {a b : Expr} {p q pos : Pos} (ha : PE X a (tE Φ X.K e)) (hb : PE X b (tE Φ X.K f)) : PE X (.List [.Starred a p, .Starred b q] pos) (tE Φ X.K (.cat2 e f)) := by
  refine pe_of (pe_lst (StX.pa_star ha (StX.pa_star hb pa_nil))) fun σ H Q ⟨G, N, env, Q', E, rd, fin⟩ => ?_
  simp only [rdE] at rd
  refine ⟨G, N, env, _, E, rd, fun k d env1 v H1 ⟨xs, ed, hk, rd1⟩ p1 => ?_⟩
  subst ed
  obtain ⟨l, ws, rfl, ln, r⟩ := list_frz p1.ok p1.rep hk
  refine ⟨l, ws, rfl, .inr ln, G, N, env1, _, p1.ok, rd1, fun k' d env2 v2 H2 ⟨ys, ed2, hk', hl, hQ⟩ p2 => ?_⟩
  subst ed2
  obtain ⟨l2, ws2, rfl, ln2, r2⟩ := list_frz p2.ok p2.rep hk'
  have r3 := (carryZs p2.s r).append r2
  have hz : sizeLine ≥ 100000 := by decide
  refine ⟨l2, ws2, rfl, .inr ln2, ?_, fun t nt => fin _ _ _ _ _ hQ (post_new p2.ok (p1.s.trans p2.s) ?_ nt)⟩
  · rw [List.append_nil, r3.length, List.length_append]
    omega
  · rw [List.append_nil]
    exact r3
/-! ### methods that change nothing -/
theorem firstAt_ok {p : D → Bool} : ∀ {ds : List D} {j : Nat}, firstAt p ds = some j → ∃ z, ds[j]? = some z ∧ p z = true ∧ ∀ (m : Nat) (z' : D), m < j → ds[m]? = some z' → p z' = false
  | [], _, h => by cases h
  | d :: r, j, h => by
    unfold firstAt at h
    split at h
    · rename_i hp
      cases h
      exact ⟨d, rfl, hp, fun m z' hm => absurd hm (Nat.not_lt_zero m)⟩
    · rename_i hp
      obtain ⟨i, hi, rfl⟩ := Option.map_eq_some_iff.mp h
      obtain ⟨z, h1, h2, h3⟩ := firstAt_ok hi
      refine ⟨z, by simpa using h1, h2, fun m z' hm hz => ?_⟩
      cases m with
      | zero =>
        have e : d = z' := by simpa using hz
        rw [← e]; simpa using hp
      | succ m => exact h3 m z' (by omega) (by simpa using hz)
def rMt (K : Frag) (m : Mt) : V → List V → Hp → VK → Prop :=
  match m with
  | .index => rIndexD K
  | .count => rCntI K
  | .get => fun _ _ _ _ => False
theorem mt_reads {m : Mt} {o e : DL.E} {Q : VK} (h : tE Φ X.K (.mt m o (.cons e .nil)) σ H Q) : tBM X.K "list" (rMt X.K m) (tE Φ X.K o) (tCons (tE Φ X.K e) tNil) σ H Q := by
  obtain ⟨G, N, env, Q', E, rd, fin⟩ := h
  simp only [rdE, rdEs] at rd
  refine ⟨G, N, env, _, E, rd, fun k x env1 v H1 ⟨hty, rd1⟩ p1 => ?_⟩
  obtain ⟨ds0, ed0⟩ : ∃ ds, x = .list ds := by cases x <;> first | exact ⟨_, rfl⟩ | cases hty
  refine ⟨?_, G, N, env1, _, p1.ok, rd1, fun k2 y env2 w H2 ⟨c0, c, r, hr, hQ⟩ p2 => ?_⟩
  · subst ed0
    obtain ⟨l, xs, rfl, ln, _⟩ := p1.rep.wide.list_inv
    exact .inl ⟨rfl, xs, ln.sq⟩
  show rMt X.K m v [w] H2 _
  subst ed0
  have cc : k ≠ .b ∨ e.pur = true := c.imp (fun z => z) fun z => by
    unfold Es.pur at z
    exact (Bool.and_eq_true_iff.mp z).1
  have rx := (p1.rep.carry p2.s cc).wide
  have stp : Stp σ H env (DL.E.mt m o (.cons e .nil)).pur H2 env2 := (p1.s.trans p2.s).imp fun z => by
    unfold DL.E.pur Es.pur Es.pur at z
    simpa using z
  cases m with
  | index =>
    simp only [mtD] at hr
    split at hr
    · rename_i hs
      obtain ⟨j, hj, rfl⟩ := Option.map_eq_some_iff.mp hr
      obtain ⟨z, h1, h2, h3⟩ := firstAt_ok hj
      have dp1 := rx.dp (nodict_of_shaped hs.1)
      have dp2 := p2.rep.wide.dp (nodict_of_shaped hs.2)
      obtain ⟨l, xs, rfl, ln, _⟩ := p1.rep.wide.list_inv
      exact ⟨l, w, _, ds0, j, z, rfl, rfl, dp1, dp2, hs.1, hs.2, h1, h2, h3, fin _ _ _ _ _ hQ (post_int p2.ok stp)⟩
    · cases hr
  | count =>
    obtain ⟨i, rfl⟩ : ∃ i, y = .int i := by cases y <;> first | exact ⟨_, rfl⟩ | (simp only [mtD, reduceCtorEq] at hr)
    simp only [mtD] at hr
    obtain ⟨ns, hn, rfl⟩ := Option.map_eq_some_iff.mp hr
    have e0 := intsOf_some hn
    subst e0
    obtain ⟨l, xs, rfl, ln, r⟩ := rx.list_inv
    have ex := Rep.ints r
    subst ex
    exact ⟨l, ns, i, rfl, by rw [p2.rep.wide.int_inv], ln.sq, fin _ _ _ _ _ hQ (post_int p2.ok stp)⟩
  | get => simp only [mtD, reduceCtorEq] at hr
theorem popv_reads {i : Nat} {Q : VK} (h : tE Φ X.K (.popv i) σ H Q) : tBM0 X.K "list" rPop (tVar i) σ H Q := by
  obtain ⟨G, N, env, Q', E, rd, fin⟩ := h
  simp only [rdE] at rd
  obtain ⟨ds, d, env', ho, hd, hp, hQ⟩ := rd
  obtain ⟨a, ea, ow, o⟩ := own_at E ho
  obtain ⟨xs, hl, r⟩ : ∃ xs, H a = some (.lst xs) ∧ Reps X.K H (fun a => G a ∧ ¬ Own env σ a) ds xs := by
    rcases o with ⟨ds', xs, e, q, r⟩ | ⟨kvs, ks, e, q, r⟩
    · cases e; exact ⟨xs, q, r⟩
    · cases e
  obtain ⟨v, hv, rv⟩ := r.get hd
  have gr : ∀ b o, H b = some o → b ≠ a → upd H a (.lst xs.dropLast) b = some o := fun b o e ne => by rw [upd_ne ne]; exact e
  have isO : Own env σ a := by
    unfold ownD at ho
    split at ho <;> cases ho
    · rename_i e; exact ⟨i, _, .inr e, ea⟩
    · rename_i e; exact ⟨i, _, .inl e, ea⟩
  have up : ∀ b u, H b = some u → (G b ∧ ¬ Own env σ b) → upd H a (.lst xs.dropLast) b = some u ∧ (G b ∧ ¬ Own env' σ b) := fun b u e z => ⟨gr b u e fun y => z.2 (y ▸ isO), z.1, fun y => z.2 ((put_own hp b).mp y)⟩
  have rl : Reps X.K H (fun a => G a ∧ ¬ Own env σ a) ds.dropLast xs.dropLast := by
    rw [List.dropLast_eq_take, List.dropLast_eq_take, r.length]
    exact r.take _
  have E2 : EnvOk X.K G N (upd H a (.lst xs.dropLast)) σ env' := E.put hp ea gr (.inl ⟨_, _, rfl, upd_same, rl.imp up⟩) (fun _ _ _ z => z) fun b _ z => (E.new b z).1
  have s2 : Stp σ H env false (upd H a (.lst xs.dropLast)) env' := put_step E hp ea gr (by rw [upd_same]; exact fun z => nomatch z)
  refine ⟨.ref a, ea, .inl ⟨rfl, xs, .of hl⟩, a, xs, v, rfl, rfl, hl, by rw [r.length]; exact hv, fin _ _ _ _ _ hQ (post_z E2 s2 (rv.imp up))⟩
end
end DL

/-! the items of a dict with tuple keys; the dict is locked from its walk on -/
namespace ZD
open PySem PySem.Spec PyProof.Rows L2
section
variable {X : Cx} {pins : List (Addr × Obj)} {σ : L2.St} {H : Hp} {s : Shared} {d : Addr} {o : Obj}
theorem frzTV {kvs : List (List Key × V)} (I : Inv X pins σ H s) (h : H d = some (.frz o (.dT kvs))) :
    (d == sysModules) = false ∧ s.heap.get? d = some o ∧ o.ExactDict ∧ ∃ (es : Array DictEntry) (ep : Nat), o.data = .dict es ep ∧ es.size = kvs.length ∧
      ∀ (i : Nat) (k : List Key) (v : V), kvs[i]? = some (k, v) → ∃ (en : DictEntry) (q : Addr), es[i]? = some en ∧ en.key = .ref q ∧ H q = some (.tup (k.map kV)) ∧ RelV v en.val := by
  obtain ⟨hd, z, hs, xs, pr, o', es, ep, ho, hx, hdt, he, _⟩ := I.hok d _ h
  rw [hd] at ho
  cases ho
  refine ⟨hs, hd, hx, es, ep, hdt, ?_, fun i k v e => ?_⟩
  · have l1 : es.size = xs.length := size_of_entries he
    have l2 : kvs.length = xs.length := Paired.length pr
    omega
  · obtain ⟨b, hb, e1, e2, e3⟩ := paired_get pr e
    have q := entry_at he i
    rw [hb] at q
    exact ⟨_, b.2.1, q, rfl, e2, e3⟩
end
/-- the pairs of the locked dict at d, each a new tuple of the key's own tuple and the value -/
def ItiT (d : Addr) (o : Obj) (kvs : List (List Key × V)) : It :=
  ⟨fun i H => H d = some (.frz o (.dT kvs)) ∧ i < kvs.length, fun i H x H' => ∃ (T q : Addr) (k : List Key) (v : V), kvs[i]? = some (k, v) ∧ x = .ref T ∧ H T = none ∧ H q = some (.tup (k.map kV)) ∧ H' = upd H T (.tup [.ref q, v]), fun i H => H d = some (.frz o (.dT kvs)) ∧ kvs.length ≤ i⟩
section
variable {P : Program} {w : World} {K : PySem.W.Frag} {d : Addr} {o : Obj} {es : Array DictEntry} {ep : Nat}
theorem turn_itemsT {kvs : List (List Key × V)} {elts : List Expr} {kk : Nat} {tpos : Pos} (it : Addr) (hx : o.ExactDict) (hod : o.data = .dict es ep) :
    Turn P w K (.Tuple elts kk tpos) (ItiT d o kvs) [it] it (fun i h => ∃ ok ov, IsItemIter h it d i es.size ep ok ov) where
  mem := by simp
  obj := fun i h st b hb => by
    have e : b = it := by simpa using hb
    subst e
    obtain ⟨ok, ov, e⟩ := st
    exact ⟨_, e, fun v z => nomatch z⟩
  keep := fun i h h' st k => let ⟨ok, ov, e⟩ := st; ⟨ok, ov, k it (by simp) _ e⟩
  item := by
    intro X hP hw hK hc i pins s σ H E I hf st hg
    subst hP hw hK
    obtain ⟨hd, hi⟩ := hg
    obtain ⟨hs, hgd, _, es', ep', hdt, hsz, ent⟩ := frzTV I hd
    obtain ⟨rfl, rfl⟩ := dict_ep hod hdt
    obtain ⟨⟨k, v⟩, hkv⟩ : ∃ p, kvs[i]? = some p := ⟨kvs[i], List.getElem?_eq_getElem hi⟩
    obtain ⟨en, q, hen, hkey, hq, rv⟩ := ent i k v hkv
    obtain ⟨ok, ov, he⟩ := st
    have hlt : it < s.heap.objs.size := Heap.lt_size he
    have hi2 : i < es'.size := by omega
    have hen2 : es'[i] = en := by
      rw [Array.getElem?_eq_getElem hi2] at hen
      exact Option.some.inj hen
    refine wpAny_pyNext_items_item_raw he ⟨o, hgd, hx, hod⟩ hi2 fun h' ho hT hz hk => ?_
    rw [hen2] at ho hT
    refine ⟨_, rfl, wpAny_letOwnedTupleGo_items (s := { s with heap := h' }) ho fun h'' he' sb => ?_⟩
    have hT2 : h''.get? s.heap.objs.size = some { cls := .type "tuple", data := .seq #[en.key, en.val] } := (sb.2 _ (Nat.ne_of_gt hlt)).trans hT
    have new : ObjOk X.prog X.w (upd H s.heap.objs.size (.tup [.ref q, v])) h'' s.heap.objs.size (.tup [.ref q, v]) :=
      ⟨by show 2 ≤ sizeLine; decide, [en.key, en.val], .cons (show RelV (.ref q) en.key from hkey) (.cons rv .nil), ⟨_, hT2, rfl, _, rfl⟩⟩
    have I1 : Inv X pins σ (upd H s.heap.objs.size (.tup [.ref q, v])) { s with heap := h'' } :=
      I.turnedNew (t' := s.toks) (ch := [it]) (fun b ob hb e => (sb.2 b (by simpa using hb)).trans (hk b ob (by simpa using hb) e)) hf (Nat.le_refl _) new
    refine ⟨.ref s.heap.objs.size, _, I1, rfl, ⟨_, q, k, v, hkv, rfl, I.hok.fresh (Nat.le_refl _), hq, rfl⟩, ⟨en.key, en.val, he'⟩, fun b hb => ?_⟩
    have e : b = it := by simpa using hb
    rw [e, upd_ne (Nat.ne_of_lt hlt)]
    exact (hf it (by simp)).1
  done := by
    intro X hP hw hK hc i pins s σ H E I hf st hg
    subst hP hw hK
    obtain ⟨hd, hi⟩ := hg
    obtain ⟨f0, f1, f2, f3, f4, f5⟩ := hf it (by simp)
    obtain ⟨hs, hgd, _, es', ep', hdt, hsz, ent⟩ := frzTV I hd
    obtain ⟨rfl, rfl⟩ := dict_ep hod hdt
    obtain ⟨ok, ov, he⟩ := st
    exact wpAny_pyNext_items_end_raw (I.ok.hd hc) he ⟨o, hgd, hx, hod⟩ (by omega) fun h' eb => ⟨rfl, I.turned (t' := s.toks) (fun b ob hb e => eb b ob hb e) f0 f1 f3 f4 f5⟩
  self := fun A i s Q E st h => let ⟨_, _, e⟩ := st; PySem.W.kcp_self e h
end
/-- the dict is locked from here on -/
def iItemsT (td : TE) : TI := fun σ H R => td σ H fun x H1 => ∃ d kvs, x = .ref d ∧ H1 d = some (.dT kvs) ∧ ∀ o, R (ItiT d o kvs) (upd H1 d (.frz o (.dT kvs)))
theorem pi_itemsT {X : Cx} {e : Expr} {td : TE} {apos cpos : Pos} {elts : List Expr} {kk : Nat} {tpos : Pos} (he : PE X e td) (hbase : attributeBase e "items" X.env (eval e X.env) = eval e X.env := by rfl) (hline : (apos.endLine == cpos.line) = true := by rfl) :
    PI X (.Tuple elts kk tpos) (.Call (.Attribute e "items" apos) [] [] cpos) (iItemsT td) := by
  refine ⟨fun pins s σ H R I h => ?_⟩
  refine wpAny_Call_method (T := "dict") (id := "dict.items") hbase rfl hline F.plainAttrs_dict F.slot_dict_items F.type_dict_items (thn (he.run pins s σ H _ I h) fun u s1 ⟨x, H0, I0, rx, d, kvs, ex, hd0, q⟩ => ?_)
  subst ex
  obtain rfl : u = Value.ref d := rx
  obtain ⟨o, I1⟩ := I0.lock hd0 (by trivial)
  have hd : upd H0 d (.frz o (.dT kvs)) d = some (.frz o (.dT kvs)) := upd_same
  have q := q o
  obtain ⟨hs, hgd, hx, es, ep, hdt, hsz, ent⟩ := frzTV I1 hd
  have raw : s1.heap.DictRaw d es ep := ⟨o, hgd, hx, hdt⟩
  refine ⟨raw.typeIs, ?_, ?_⟩
  · intro b q
    cases q
    exact ⟨o, hgd, hx.2.1⟩
  have I2 : Inv X pins σ (upd H0 d (.frz o (.dT kvs))) { s1 with heap := s1.heap.push { cls := .type "dict_items", data := .fields #[.ref d] } } := I1.kept (t' := s1.toks) fun b ob q => Heap.get?_push_of_some _ q
  have raw2 : (s1.heap.push { cls := .type "dict_items", data := .fields #[.ref d] }).DictRaw d es ep := raw.at fun o q => Heap.get?_push_of_some _ q
  have fin : wpAny (model X.prog X.w) X.A (pyIter (.ref s1.heap.objs.size)) (PIE X pins σ (.Tuple elts kk tpos) R) X.xe { s1 with heap := s1.heap.push { cls := .type "dict_items", data := .fields #[.ref d] } } := by
    refine wpAny_pyIter_items_raw (d := d) ⟨_, Heap.get?_push_size _ rfl, rfl, rfl⟩ raw2 (pi_one (tk := s1.toks) I2 _ (turn_itemsT _ hx hdt) ⟨.none, .none, ?_⟩ q)
    exact Heap.get?_push_size _ rfl
  show wpAny _ _ (callWith cpos (.builtin "dict.items") [.ref d] [] []) _ X.xe s1
  exact method_meetsIn F.slot_dict_items F.entry_dict_items rfl (PySem.evalArgs_none ⟨rfl, raw.typeIs, F.args_dict_items_1 _, _, meets_dict_items_raw d hs, ⟨es, ep, raw⟩, fin⟩)
end ZD

/-! DL30: d.get(k, n) of a dict with tuple keys. -/
namespace DL
open PySem PySem.Spec PyProof.Rows L2
section
variable {K : Frag} {H H' : Hp} {P P' : Addr → Prop}
theorem RT.getI (k : List Int) (n m : Int) : ∀ {l : List (List Int × D)} {l' : List (List Key × V)}, RT K H P l l' → getT l k n = some m → (valV l' (kI k)).getD (.int n) = .int m
  | [], _, q, h => by
    rw [show _ = [] from q]
    simp only [getT, List.find?_nil, Option.some.injEq] at h
    subst h
    rfl
  | p :: l, _, q, h => by
    obtain ⟨v, r, rfl, a, b⟩ := q
    unfold getT at h
    rw [List.find?_cons] at h
    by_cases e : p.1 = k
    · rw [decide_eq_true e] at h
      simp only at h
      rw [valV_pos (by rw [e])]
      split at h
      · rename_i m' hm
        cases h
        rw [hm] at a
        show v = _
        exact a.int_inv
      · cases h
    · rw [decide_eq_false e] at h
      rw [valV_neg (fun z => e (kI_inj z))]
      exact RT.getI k n m b h
end
section
variable {Φ : Phi} {X : Cx} {G N : Addr → Prop} {σ : L2.St} {H H1 H2 : Hp} {env env1 env2 : DEnv} {p q : Bool}
theorem dgetT_reads {i : Nat} {es : Es} {n : Int} {Q : VK} (h : tE Φ X.K (.dgetT i es n) σ H Q) : tDGet2 (tVar i) (tTup (tEs Φ X.K es)) (tC (.int n)) σ H Q := by
  obtain ⟨G, N, env, Q', E, rd, fin⟩ := h
  simp only [rdE] at rd
  obtain ⟨⟨k0, l0, hv0⟩, rd⟩ := rd
  obtain ⟨v0, ev0, rk0, _⟩ := var_val E hv0
  obtain ⟨a, l', rfl, ha, _⟩ := dT_rep rk0.wide
  refine ⟨.ref a, ev0, a, rfl, .inr ⟨l', .inl ha⟩, G, N, env, _, E, rd, fun k' ds env1 vs H1 ⟨ks, k, l, m, ed, hz, hv, hg, hQ⟩ p1 => ?_⟩
  subst ed
  have ev : vs = ks.map V.int := Rep.ints p1.r.wide
  subst ev
  have hz2 : sizeLine ≥ 1000 := by decide
  refine ⟨by rw [List.length_map]; omega, fun t nt => ?_⟩
  have gr := grow_upd (o := HO.tup (ks.map V.int)) nt
  have E2 := p1.ok.grow gr
  obtain ⟨v, ev, rk, _⟩ := var_val E2 hv
  rw [ev0] at ev
  cases ev
  obtain ⟨a', l2, ea, ha2, rt⟩ := dT_rep rk.wide
  cases ea
  refine ⟨valV l2 (kI ks), DGet.t ha2 (by rw [kI_kV]; exact upd_same), ?_⟩
  rw [rt.getI ks n m hg]
  exact fin _ _ _ _ _ hQ (post_int E2 ((p1.s.trans (Stp.grow gr)).imp fun h => by rw [show es.pur = true from h]; rfl))
end
end DL

/-! DL14: every checked expression does what its reading says. -/
namespace DL
open PySem PySem.Spec PyProof.Rows L2

structure Snd (X : Cx) (Φ : Phi) (e : DL.E) (a : Expr) : Prop where
  v : PE X a (tE Φ X.K e)
  t : e.isIf = false → PT X a (tT Φ X.K e)

section
variable {X : Cx} {Γ : GEnv} {Φ : Phi} {k : Nat} {N : List Str} {sc : Scope}
theorem okN_of {x : Str} (h : okN x = true) : (x == ("__debug__" : Str)) = false ∧ (x == ("__classdict__" : Str)) = false := by
  unfold okN at h
  obtain ⟨h1, h2⟩ := Bool.and_eq_true_iff.mp h
  exact ⟨by simpa using h1, by simpa using h2⟩
theorem gl_of (C : CtxOk X Γ Φ k N sc) {x : Str} (h : glB sc x = true) : Gl X x := by
  unfold glB at h
  unfold Gl Env.kindOf
  rw [C.scope]
  split at h
  · assumption
  · cases h
theorem vis_of (C : CtxOk X Γ Φ k N sc) {x : Str} (h : visB sc x = true) : Vis X.env.scope x := by
  unfold visB at h
  rw [C.scope]
  split at h
  · exact .inl (by assumption)
  · exact .inr (.inl (by assumption))
  · exact .inr (.inr (by assumption))
  · cases h
theorem var_of (C : CtxOk X Γ Φ k N sc) {i : Nat} {x : Str} {pos : Pos} (h : chkV N sc i x = true) : PE X (.Name x pos) (tVar i) := by
  unfold chkV at h
  obtain ⟨h1, h3⟩ := Bool.and_eq_true_iff.mp h
  obtain ⟨h1, h2⟩ := Bool.and_eq_true_iff.mp h1
  obtain ⟨n1, n2⟩ := okN_of h3
  exact pe_var (by rw [C.names]; exact of_decide_eq_true h1) (vis_of C h2) n1 n2
theorem bi_of (C : CtxOk X Γ Φ k N sc) {x : Str} (h : biOk Γ sc x = true) : Gl X x ∧ X.mg x = none ∧ (x == ("__debug__" : Str)) = false ∧ x ≠ "__name__" := by
  unfold biOk at h
  obtain ⟨h1, h4⟩ := Bool.and_eq_true_iff.mp h
  obtain ⟨h1, h3⟩ := Bool.and_eq_true_iff.mp h1
  obtain ⟨h1, h2⟩ := Bool.and_eq_true_iff.mp h1
  exact ⟨gl_of C h1, C.g.bis x (of_decide_eq_true h2), (okN_of h3).1, by simpa using h4⟩
theorem fn_of' (C : CtxOk X Γ Φ k N sc) {f : Str} {g : GFn} (h : fnAt Γ f = some g) : g ∈ Γ.fns ∧ g.name = f := by
  unfold fnAt at h
  have z := List.find?_some h
  exact ⟨List.mem_of_find?_eq_some h, by simpa using z⟩

theorem noStarE {e : DL.E} {b : Expr} {p : Pos} : chkE Γ N sc e (.Starred b p) ≠ true := fun h => by cases e <;> simp only [chkE, Bool.false_eq_true] at h
theorem noSetE {e : DL.E} {es : List Expr} {j : Nat} {p : Pos} : chkE Γ N sc e (.Set es j p) ≠ true := fun h => by cases e <;> simp only [chkE, Bool.false_eq_true] at h
theorem noSlE {e : DL.E} {l u s : Option Expr} {p : Pos} : chkE Γ N sc e (.Slice l u s p) ≠ true := fun h => by cases e <;> simp only [chkE, Bool.false_eq_true] at h
theorem noStar_of : ∀ {es : Es} {as : List Expr}, chkEs Γ N sc es as = true → NoStar as
  | .nil, [], _ => fun a h => by cases h
  | .nil, _ :: _, h => by simp only [chkEs, Bool.false_eq_true] at h
  | .cons _ _, [], h => by simp only [chkEs, Bool.false_eq_true] at h
  | .cons e es, a :: as, h => by
    simp only [chkEs] at h
    obtain ⟨h1, h2⟩ := Bool.and_eq_true_iff.mp h
    intro c hc b p z
    rcases List.mem_cons.mp hc with y | y
    · subst y; subst z; exact noStarE h1
    · exact noStar_of h2 c y b p z
theorem keys_of : ∀ {es : Es} {ks : List Str} {kws : List Keyword}, chkKs Γ N sc es ks kws = true → kws.map (·.1) = ks.map some
  | .nil, [], [], _ => rfl
  | .nil, _ :: _, _, h => by simp only [chkKs, Bool.false_eq_true] at h
  | .nil, [], _ :: _, h => by simp only [chkKs, Bool.false_eq_true] at h
  | .cons _ _, [], _, h => by simp only [chkKs, Bool.false_eq_true] at h
  | .cons _ _, _ :: _, [], h => by simp only [chkKs, Bool.false_eq_true] at h
  | .cons _ _, _ :: _, ⟨none, _, _⟩ :: _, h => by simp only [chkKs, Bool.false_eq_true] at h
  | .cons e es, k :: ks, ⟨some n, a, p⟩ :: r, h => by
    simp only [chkKs] at h
    obtain ⟨h1, h3⟩ := Bool.and_eq_true_iff.mp h
    obtain ⟨h1, h2⟩ := Bool.and_eq_true_iff.mp h1
    rw [List.map_cons, List.map_cons, keys_of h3, of_decide_eq_true h1]
theorem two_star {a b : Expr} (h1 : ∀ c p, a ≠ .Starred c p) (h2 : ∀ c p, b ≠ .Starred c p) : NoStar [a, b] := fun c hc e q => by
  rcases List.mem_cons.mp hc with z | z
  · rw [z]; exact h1 e q
  · have z : c = b := by simpa using z
    rw [z]; exact h2 e q
theorem one_star {a : Expr} (h1 : ∀ c p, a ≠ .Starred c p) : NoStar [a] := fun c hc e q => by
  have z : c = a := by simpa using hc
  rw [z]; exact h1 e q

/-- inside a comprehension's block -/
theorem CtxOk.blk (C : CtxOk X Γ Φ k N sc) (s : Shared) (H : Hp) (csc : Scope) (cl : List (Str × Addr)) (A : Addr) (fp : List Addr) : CtxOk (X.blk s H csc (compEnvC csc cl A X.env) fp) Γ Φ k N (relS csc sc) where
  calm := C.calm
  names := C.names
  nd := C.nd
  scope := by rw [← C.scope]; rfl
  room := C.room
  gd := C.gd
  g := ⟨C.g.nums, C.g.bis, C.g.fns⟩
theorem CtxOk.u (C : CtxOk X Γ Φ k N sc) : X.A.units + 70 < cLine := by have := C.room.un; omega
theorem dOk_reps {K : Frag} {H : Hp} {P : Addr → Prop} : ∀ {l : List D}, l.all dOk = true → Reps K H P l (l.map dV)
  | [], _ => .nil
  | d :: l, h => by
    rw [List.all_cons] at h
    obtain ⟨h1, h2⟩ := Bool.and_eq_true_iff.mp h
    refine .cons ?_ (dOk_reps h2)
    cases d <;> simp only [dOk, Bool.false_eq_true] at h1 <;> (unfold Rep; rfl)
theorem ownOf_ix (N : List Str) (is : List Nat) : (ownOf N is).map (·.2) = is := by
  unfold ownOf
  rw [List.map_map]
  exact List.map_id _

theorem const_sound {e : DL.E} {a : Expr} {v : V} {d : D} (h : PE X a (tC v)) (hr : ∀ env Q, rdE Φ e env Q → Q .z d env) (hp : e.pur = true) (r : ∀ (H : Hp) (P : Addr → Prop), Rep X.K H P d v) : PE X a (tE Φ X.K e) := by
  refine pe_of h fun σ H Q ⟨G, N, env, Q', E, rd, fin⟩ => ?_
  exact fin _ _ _ _ _ (hr _ _ rd) (post_z E Stp.refl.weak (r _ _))
theorem plain {e : DL.E} {a : Expr} (h : PE X a (tE Φ X.K e)) (he : ∀ whole, isTrue a X.env whole = (do let v ← whole; standAt a.pos; holding [v] (truthy v))) : Snd X Φ e a := ⟨h, fun _ => truth_sound h he⟩
end

/-- how a target is written -/
def TgK (tp : Bool) (tg : Expr) : Prop := match tp with
  | true => ∃ es k p, tg = .Tuple es k p
  | false => ∃ x p, tg = .Name x p
theorem tgK {N : List Str} {sc : Scope} {fn : Str → Bool} {t : T} {tg : Expr} (h : chkT N sc fn t tg = true) : TgK t.isTp tg := by
  cases t with
  | nm i =>
    cases tg <;> simp only [chkT, Bool.false_eq_true] at h
    exact ⟨_, _, rfl⟩
  | tp ts =>
    cases tg <;> simp only [chkT, Bool.false_eq_true] at h
    exact ⟨_, _, _, rfl⟩
theorem notSetI {Γ : GEnv} {N : List Str} {sc : Scope} {tp : Bool} {it : DL.It} {a : Expr} {env : Env} (h : chkI Γ N sc tp it a = true) : ∀ x, foldedSetIterable a env x = pure x := by
  have key : ∀ es k p, a ≠ .Set es k p := fun es k p z => by
    subst z
    cases it <;> simp only [chkI, Bool.false_eq_true] at h <;> exact noSetE h
  intro x
  cases a <;> first | rfl | exact absurd rfl (key _ _ _)
mutual
theorem snd {Γ : GEnv} {Φ : Phi} {N : List Str} : ∀ {e : DL.E} {a : Expr} {X : Cx} {k : Nat} {sc : Scope}, chkE Γ N sc e a = true → CtxOk X Γ Φ k N sc → Snd X Φ e a
  | .var i, a, X, k, sc, h, C => by
    cases a <;> (first | (simp only [chkE, Bool.false_eq_true] at h; done) | skip)
    simp only [chkE] at h
    exact plain (var_sound (var_of C h)) fun _ => rfl
  | .mv i, a, X, k, sc, h, C => by
    cases a <;> (first | (simp only [chkE, Bool.false_eq_true] at h; done) | skip)
    simp only [chkE] at h
    exact plain (mv_sound (var_of C h)) fun _ => rfl
  | .int i, a, X, k, sc, h, C => by
    cases a <;> (first | (simp only [chkE, Bool.false_eq_true] at h; done) | skip)
    rename_i c j p
    cases c <;> (first | (simp only [chkE, Bool.false_eq_true] at h; done) | skip)
    simp only [chkE] at h
    have e := of_decide_eq_true h
    subst e
    exact plain (const_sound pe_int (fun _ _ z => by simp only [rdE] at z; exact z) rfl fun _ _ => .int_) fun _ => rfl
  | .bl i, a, X, k, sc, h, C => by
    cases a <;> (first | (simp only [chkE, Bool.false_eq_true] at h; done) | skip)
    rename_i c j p
    cases c <;> (first | (simp only [chkE, Bool.false_eq_true] at h; done) | skip)
    simp only [chkE] at h
    have e := eq_of_beq h
    subst e
    exact plain (const_sound pe_bl (fun _ _ z => by simp only [rdE] at z; exact z) rfl fun _ _ => .bool_) fun _ => rfl
  | .non, a, X, k, sc, h, C => by
    cases a <;> (first | (simp only [chkE, Bool.false_eq_true] at h; done) | skip)
    rename_i c j p
    cases c <;> (first | (simp only [chkE, Bool.false_eq_true] at h; done) | skip)
    simp only [chkE] at h
    exact plain (const_sound pe_non (fun _ _ z => by simp only [rdE] at z; exact z) rfl fun _ _ => .non_) fun _ => rfl
  | .str x, a, X, k, sc, h, C => by
    cases a <;> (first | (simp only [chkE, Bool.false_eq_true] at h; done) | skip)
    rename_i c j p
    cases c <;> (first | (simp only [chkE, Bool.false_eq_true] at h; done) | skip)
    simp only [chkE] at h
    have e := of_decide_eq_true h
    subst e
    exact plain (const_sound pe_str (fun _ _ z => by simp only [rdE] at z; exact z) rfl fun _ _ => .str_) fun _ => rfl
  | .gi x i, a, X, k, sc, h, C => by
    cases a <;> (first | (simp only [chkE, Bool.false_eq_true] at h; done) | skip)
    rename_i y p
    simp only [chkE] at h
    obtain ⟨h1, h4⟩ := Bool.and_eq_true_iff.mp h
    obtain ⟨h1, h3⟩ := Bool.and_eq_true_iff.mp h1
    obtain ⟨h1, h2⟩ := Bool.and_eq_true_iff.mp h1
    have e := of_decide_eq_true h1
    subst e
    obtain ⟨t, ht⟩ := C.g.nums _ (of_decide_eq_true h3)
    exact plain (const_sound (pe_glob (v := .int i) (gl_of C h2) ht ⟨t, rfl⟩ (okN_of h4).1) (fun _ _ z => by simp only [rdE] at z; exact z) rfl fun _ _ => .int_) fun _ => rfl
  | .tup es, a, X, k, sc, h, C => by
    cases a <;> (first | (simp only [chkE, Bool.false_eq_true] at h; done) | skip)
    simp only [chkE] at h
    exact plain (tup_sound (snds h C)) fun _ => rfl
  | .lst es, a, X, k, sc, h, C => by
    cases a <;> (first | (simp only [chkE, Bool.false_eq_true] at h; done) | skip)
    simp only [chkE] at h
    exact plain (lst_sound (snds h C)) fun _ => rfl
  | .bin o x y, a, X, k, sc, h, C => by
    cases a <;> (first | (simp only [chkE, Bool.false_eq_true] at h; done) | skip)
    simp only [chkE] at h
    obtain ⟨h1, h3⟩ := Bool.and_eq_true_iff.mp h
    obtain ⟨h1, h2⟩ := Bool.and_eq_true_iff.mp h1
    have e := opB_ok h1
    subst e
    exact plain (bin_sound (snd h2 C).v (snd h3 C).v) fun _ => rfl
  | .neg x, a, X, k, sc, h, C => by
    cases a <;> (first | (simp only [chkE, Bool.false_eq_true] at h; done) | skip)
    rename_i o b p
    cases o <;> (first | (simp only [chkE, Bool.false_eq_true] at h; done) | skip)
    simp only [chkE] at h
    exact plain (neg_sound (snd h C).v) fun _ => rfl
  | .cmp o x y, a, X, k, sc, h, C => by
    cases a <;> (first | (simp only [chkE, Bool.false_eq_true] at h; done) | skip)
    rename_i b os bs p
    rcases os with _ | ⟨o1, _ | ⟨o2, os⟩⟩ <;> rcases bs with _ | ⟨b1, _ | ⟨b2, bs⟩⟩ <;> (first | (simp only [chkE, Bool.false_eq_true] at h; done) | skip)
    simp only [chkE] at h
    obtain ⟨h1, h3⟩ := Bool.and_eq_true_iff.mp h
    obtain ⟨h1, h2⟩ := Bool.and_eq_true_iff.mp h1
    have e := cmB_ok h1
    subst e
    have u : X.A.units + 65 < cLine := by have := C.u; omega
    have hs : ∀ es k p, b1 ≠ .Set es k p := fun es k p z => by subst z; exact noSetE h3
    exact ⟨cmp_sound u (snd h2 C).v (snd h3 C).v hs, fun _ => cmpT_sound u (snd h2 C).v (snd h3 C).v hs⟩
  | .chain o q x y z, a, X, k, sc, h, C => by
    cases a <;> (first | (simp only [chkE, Bool.false_eq_true] at h; done) | skip)
    rename_i b os bs p
    rcases os with _ | ⟨o1, _ | ⟨o2, _ | ⟨o3, os⟩⟩⟩ <;> rcases bs with _ | ⟨b1, _ | ⟨b2, _ | ⟨b3, bs⟩⟩⟩ <;> (first | (simp only [chkE, Bool.false_eq_true] at h; done) | skip)
    simp only [chkE] at h
    obtain ⟨h1, h5⟩ := Bool.and_eq_true_iff.mp h
    obtain ⟨h1, h4⟩ := Bool.and_eq_true_iff.mp h1
    obtain ⟨h1, h3⟩ := Bool.and_eq_true_iff.mp h1
    obtain ⟨h1, h2⟩ := Bool.and_eq_true_iff.mp h1
    have e := cmB_ok h1
    subst e
    have e := cmB_ok h2
    subst e
    have u : X.A.units + 65 < cLine := by have := C.u; omega
    have hs : ∀ es k p, b2 ≠ .Set es k p := fun es k p z => by subst z; exact noSetE h5
    exact ⟨chain_sound u (snd h3 C).v (snd h4 C).v (snd h5 C).v hs, fun _ => chainT_sound u (snd h3 C).v (snd h4 C).v (snd h5 C).v hs⟩
  | .isN x, a, X, k, sc, h, C => by
    cases a <;> (first | (simp only [chkE, Bool.false_eq_true] at h; done) | skip)
    rename_i b os bs p
    rcases os with _ | ⟨o1, _ | ⟨o2, os⟩⟩ <;> rcases bs with _ | ⟨b1, _ | ⟨b2, bs⟩⟩ <;> (first | (simp only [chkE, Bool.false_eq_true] at h; done) | skip)
    cases o1 <;> (first | (simp only [chkE, Bool.false_eq_true] at h; done) | skip)
    cases b1 <;> (first | (simp only [chkE, Bool.false_eq_true] at h; done) | skip)
    rename_i c j p2
    cases c <;> (first | (simp only [chkE, Bool.false_eq_true] at h; done) | skip)
    simp only [chkE] at h
    exact ⟨isN_sound (snd h C).v, fun _ => isNT_sound (snd h C).v⟩
  | .notN x, a, X, k, sc, h, C => by
    cases a <;> (first | (simp only [chkE, Bool.false_eq_true] at h; done) | skip)
    rename_i b os bs p
    rcases os with _ | ⟨o1, _ | ⟨o2, os⟩⟩ <;> rcases bs with _ | ⟨b1, _ | ⟨b2, bs⟩⟩ <;> (first | (simp only [chkE, Bool.false_eq_true] at h; done) | skip)
    cases o1 <;> (first | (simp only [chkE, Bool.false_eq_true] at h; done) | skip)
    cases b1 <;> (first | (simp only [chkE, Bool.false_eq_true] at h; done) | skip)
    rename_i c j p2
    cases c <;> (first | (simp only [chkE, Bool.false_eq_true] at h; done) | skip)
    simp only [chkE] at h
    exact ⟨notN_sound (snd h C).v, fun _ => notNT_sound (snd h C).v⟩
  | .not x, a, X, k, sc, h, C => by
    cases a <;> (first | (simp only [chkE, Bool.false_eq_true] at h; done) | skip)
    rename_i o b p
    cases o <;> (first | (simp only [chkE, Bool.false_eq_true] at h; done) | skip)
    simp only [chkE] at h
    obtain ⟨h1, h2⟩ := Bool.and_eq_true_iff.mp h
    have hi : x.isIf = false := by simpa using h2
    exact ⟨not_sound (snd h1 C).v, fun _ => notT_sound ((snd h1 C).t hi)⟩
  | .ands es, a, X, k, sc, h, C => by
    cases a <;> (first | (simp only [chkE, Bool.false_eq_true] at h; done) | skip)
    rename_i o as p
    cases o <;> (first | (simp only [chkE, Bool.false_eq_true] at h; done) | skip)
    simp only [chkE] at h
    obtain ⟨h1, h2⟩ := sndAnd (pos := p) h C
    exact ⟨pe_of h1 fun σ H Q ⟨G, N, env, Q', E, rd, fin⟩ => ⟨G, N, env, Q', E, by simp only [rdE] at rd; exact rd, fun k d env' v H' q z => fin k d env' v H' q ⟨z.s.imp fun y => by unfold DL.E.pur at y; exact y, z.r⟩⟩,
      fun _ => pt_of h2.pt fun σ H Q ⟨G, N, env, R, E, rd, fin⟩ => ⟨G, N, env, R, E, by simp only [rdE] at rd; exact rd, fun t env' H' q z E' => fin t env' H' q (z.imp fun y => by unfold DL.E.pur at y; exact y) E'⟩⟩
  | .ors es, a, X, k, sc, h, C => by
    cases a <;> (first | (simp only [chkE, Bool.false_eq_true] at h; done) | skip)
    rename_i o as p
    cases o <;> (first | (simp only [chkE, Bool.false_eq_true] at h; done) | skip)
    simp only [chkE] at h
    obtain ⟨h1, h2⟩ := sndOr (pos := p) h C
    exact ⟨pe_of h1 fun σ H Q ⟨G, N, env, Q', E, rd, fin⟩ => ⟨G, N, env, Q', E, by simp only [rdE] at rd; exact rd, fun k d env' v H' q z => fin k d env' v H' q ⟨z.s.imp fun y => by unfold DL.E.pur at y; exact y, z.r⟩⟩,
      fun _ => pt_of h2.pt fun σ H Q ⟨G, N, env, R, E, rd, fin⟩ => ⟨G, N, env, R, E, by simp only [rdE] at rd; exact rd, fun t env' H' q z E' => fin t env' H' q (z.imp fun y => by unfold DL.E.pur at y; exact y) E'⟩⟩
  | .ife c x y, a, X, k, sc, h, C => by
    cases a <;> (first | (simp only [chkE, Bool.false_eq_true] at h; done) | skip)
    simp only [chkE] at h
    obtain ⟨h1, h4⟩ := Bool.and_eq_true_iff.mp h
    obtain ⟨h1, h3⟩ := Bool.and_eq_true_iff.mp h1
    obtain ⟨h1, h2⟩ := Bool.and_eq_true_iff.mp h1
    have hi : c.isIf = false := by simpa using h2
    exact ⟨ife_sound ((snd h1 C).t hi) (snd h3 C).v (snd h4 C).v, fun z => nomatch z⟩
  | .idx x y, a, X, k, sc, h, C => by
    cases a <;> (first | (simp only [chkE, Bool.false_eq_true] at h; done) | skip)
    simp only [chkE] at h
    obtain ⟨h1, h2⟩ := Bool.and_eq_true_iff.mp h
    exact plain (idx_sound (snd h1 C).v (snd h2 C).v fun l u s p z => by subst z; exact noSlE h2) fun _ => rfl
  | .idxv i y, a, X, k, sc, h, C => by
    cases a <;> (first | (simp only [chkE, Bool.false_eq_true] at h; done) | skip)
    rename_i o b p
    cases o <;> (first | (simp only [chkE, Bool.false_eq_true] at h; done) | skip)
    simp only [chkE] at h
    obtain ⟨h1, h2⟩ := Bool.and_eq_true_iff.mp h
    exact plain (idxv_sound (var_of C h1) (snd h2 C).v fun l u s p z => by subst z; exact noSlE h2) fun _ => rfl
  | .sl x lo hi, a, X, k, sc, h, C => by
    cases a <;> (first | (simp only [chkE, Bool.false_eq_true] at h; done) | skip)
    rename_i o b p
    cases b <;> (first | (simp only [chkE, Bool.false_eq_true] at h; done) | skip)
    rename_i l u st p2
    cases st <;> (first | (simp only [chkE, Bool.false_eq_true] at h; done) | skip)
    simp only [chkE] at h
    obtain ⟨h1, h3⟩ := Bool.and_eq_true_iff.mp h
    obtain ⟨h1, h2⟩ := Bool.and_eq_true_iff.mp h1
    exact plain (sl_sound (snd h1 C).v (sndO h2 C) (sndO h3 C)) fun _ => rfl
  | .call f es dv, a, X, k, sc, h, C => by
    cases a <;> (first | (simp only [chkE, Bool.false_eq_true] at h; done) | skip)
    rename_i o as kws p
    cases o <;> (first | (simp only [chkE, Bool.false_eq_true] at h; done) | skip)
    cases kws <;> (first | (simp only [chkE, Bool.false_eq_true] at h; done) | skip)
    rename_i x p2
    simp only [chkE] at h
    obtain ⟨h1, h6⟩ := Bool.and_eq_true_iff.mp h
    obtain ⟨h1, h5⟩ := Bool.and_eq_true_iff.mp h1
    obtain ⟨h1, h4⟩ := Bool.and_eq_true_iff.mp h1
    obtain ⟨h1, h3⟩ := Bool.and_eq_true_iff.mp h1
    obtain ⟨h1, h2⟩ := Bool.and_eq_true_iff.mp h1
    have e := of_decide_eq_true h1
    subst e
    split at h6
    · rename_i g hg
      obtain ⟨hm, hn⟩ := fn_of' C hg
      obtain ⟨fa, fd, F, m1, m2, m3, _⟩ := C.g.fns g hm
      obtain ⟨he, ho⟩ := dEqs_ok h6
      obtain ⟨ds, v1, v2⟩ := m3 (g.dfl.length - dv.length) (Nat.sub_le _ _)
      rw [← he] at v1
      rw [hn] at F m1
      cases as with
      | nil => simp at h5
      | cons b bs => exact plain (call_sound F C.room C.gd (gl_of C h2) m1 m2 v2 v1 (okN_of h3).1 (noStar_of h4) (snds h4 C) fun _ _ => dOk_reps ho) fun _ => rfl
    · cases h6
  | .callk f es ks pm, a, X, k, sc, h, C => by
    cases a <;> (first | (simp only [chkE, Bool.false_eq_true] at h; done) | skip)
    rename_i o as kws p
    cases o <;> (first | (simp only [chkE, Bool.false_eq_true] at h; done) | skip)
    cases as <;> (first | (simp only [chkE, Bool.false_eq_true] at h; done) | skip)
    rename_i x p2
    simp only [chkE] at h
    obtain ⟨h1, h6⟩ := Bool.and_eq_true_iff.mp h
    obtain ⟨h1, h4⟩ := Bool.and_eq_true_iff.mp h1
    obtain ⟨h1, h3⟩ := Bool.and_eq_true_iff.mp h1
    obtain ⟨h1, h2⟩ := Bool.and_eq_true_iff.mp h1
    have e := of_decide_eq_true h1
    subst e
    split at h6
    · rename_i g hg
      obtain ⟨hm, hn⟩ := fn_of' C hg
      obtain ⟨fa, fd, F, m1, m2, _, m3⟩ := C.g.fns g hm
      rw [hn] at F m1
      exact plain (callk_sound F C.room C.gd (gl_of C h2) m1 m2 (m3 (ks, pm) (of_decide_eq_true h6)) (okN_of h3).1 (keys_of h4) (sndK h4 C)) fun _ => rfl
    · cases h6
  | .callio f i es, a, X, k, sc, h, C => by
    cases a <;> (first | (simp only [chkE, Bool.false_eq_true] at h; done) | skip)
    rename_i o as kws p
    cases o <;> (first | (simp only [chkE, Bool.false_eq_true] at h; done) | skip)
    rcases as with _ | ⟨b, as⟩ <;> (first | (simp only [chkE, Bool.false_eq_true] at h; done) | skip)
    cases b <;> (first | (simp only [chkE, Bool.false_eq_true] at h; done) | skip)
    cases kws <;> (first | (simp only [chkE, Bool.false_eq_true] at h; done) | skip)
    rename_i x p2 y p3
    simp only [chkE] at h
    obtain ⟨h1, h6⟩ := Bool.and_eq_true_iff.mp h
    obtain ⟨h1, h5⟩ := Bool.and_eq_true_iff.mp h1
    obtain ⟨h1, h4⟩ := Bool.and_eq_true_iff.mp h1
    obtain ⟨h1, h3⟩ := Bool.and_eq_true_iff.mp h1
    obtain ⟨h1, h2⟩ := Bool.and_eq_true_iff.mp h1
    have e := of_decide_eq_true h1
    subst e
    split at h6
    · rename_i g hg
      obtain ⟨hm, hn⟩ := fn_of' C hg
      obtain ⟨fa, fd, F, m1, m2, m3, _⟩ := C.g.fns g hm
      obtain ⟨ds, v1, v2⟩ := m3 0 (Nat.zero_le _)
      rw [hn] at F m1
      have hd : g.dfl = [] := List.isEmpty_iff.mp h6
      rw [hd] at v1
      cases v1
      exact plain (callio_sound F C.room C.gd (gl_of C h2) m1 m2 v2 (okN_of h3).1 (noStar_of h5) (var_of C h4) (snds h5 C)) fun _ => rfl
    · cases h6
  | .bi b es, a, X, k, sc, h, C => by
    cases a <;> (first | (simp only [chkE, Bool.false_eq_true] at h; done) | skip)
    rename_i o as kws p
    cases o <;> (first | (simp only [chkE, Bool.false_eq_true] at h; done) | skip)
    cases kws <;> (first | (simp only [chkE, Bool.false_eq_true] at h; done) | skip)
    rename_i x p2
    simp only [chkE] at h
    obtain ⟨g1, h4⟩ := Bool.and_eq_true_iff.mp h
    obtain ⟨g2, h3⟩ := Bool.and_eq_true_iff.mp g1
    obtain ⟨g3, h2⟩ := Bool.and_eq_true_iff.mp g2
    obtain ⟨h0, g4⟩ := Bool.and_eq_true_iff.mp g3
    obtain ⟨b1, b2, b3, b4⟩ := bi_of C h2
    cases as with
    | nil => simp at h4
    | cons c cs => exact plain (bi_sound C.calm C.gd C.u (of_decide_eq_true h0) b1 (of_decide_eq_true g4) b2 b4 b3 (noStar_of h3) (snds h3 C)) fun _ => rfl
  | .ist b e, a, X, k, sc, h, C => by
    cases a <;> (first | (simp only [chkE, Bool.false_eq_true] at h; done) | skip)
    rename_i o as kws p
    cases o <;> (first | (simp only [chkE, Bool.false_eq_true] at h; done) | skip)
    rcases as with _ | ⟨c, _ | ⟨d, _ | ⟨d2, as⟩⟩⟩ <;> (first | (simp only [chkE, Bool.false_eq_true] at h; done) | skip)
    cases d <;> (first | (simp only [chkE, Bool.false_eq_true] at h; done) | skip)
    cases kws <;> (first | (simp only [chkE, Bool.false_eq_true] at h; done) | skip)
    simp only [chkE] at h
    obtain ⟨h1, h5⟩ := Bool.and_eq_true_iff.mp h
    obtain ⟨h1, h4⟩ := Bool.and_eq_true_iff.mp h1
    obtain ⟨h1, h3⟩ := Bool.and_eq_true_iff.mp h1
    obtain ⟨h1, h2⟩ := Bool.and_eq_true_iff.mp h1
    obtain ⟨h0, h1⟩ := Bool.and_eq_true_iff.mp h1
    obtain ⟨n, hb⟩ := Option.isSome_iff_exists.mp h0
    obtain ⟨b1, b2, b3, b4⟩ := bi_of C h3
    obtain ⟨c1, c2, c3, c4⟩ := bi_of C h4
    exact plain (isT_sound hb b1 c1 (of_decide_eq_true h1) (of_decide_eq_true h2) b2 c2 b4 b3 c4 c3 (one_star fun _ _ z => by subst z; exact noStarE h5) (snd h5 C).v) fun _ => rfl
  | .lrng1 e, a, X, k, sc, h, C => by
    cases a <;> (first | (simp only [chkE, Bool.false_eq_true] at h; done) | skip)
    rename_i o as kws p
    cases o <;> (first | (simp only [chkE, Bool.false_eq_true] at h; done) | skip)
    rcases as with _ | ⟨y, _ | ⟨d2, as⟩⟩ <;> (first | (simp only [chkE, Bool.false_eq_true] at h; done) | skip)
    cases y <;> (first | (simp only [chkE, Bool.false_eq_true] at h; done) | skip)
    rename_i o2 as2 kws2 p2
    cases o2 <;> (first | (simp only [chkE, Bool.false_eq_true] at h; done) | skip)
    rcases as2 with _ | ⟨b, _ | ⟨c, as⟩⟩ <;> (first | (simp only [chkE, Bool.false_eq_true] at h; done) | skip)
    cases kws2 <;> (first | (simp only [chkE, Bool.false_eq_true] at h; done) | skip)
    cases kws <;> (first | (simp only [chkE, Bool.false_eq_true] at h; done) | skip)
    simp only [chkE] at h
    obtain ⟨h, h5⟩ := Bool.and_eq_true_iff.mp h
    obtain ⟨h, h4⟩ := Bool.and_eq_true_iff.mp h
    obtain ⟨h, h3⟩ := Bool.and_eq_true_iff.mp h
    obtain ⟨h1, h2⟩ := Bool.and_eq_true_iff.mp h
    obtain ⟨b1, b2, b3, b4⟩ := bi_of C h2
    obtain ⟨c1, c2, c3, c4⟩ := bi_of C h4
    exact plain (lrng1_sound C.calm (of_decide_eq_true h1) b1 b2 (of_decide_eq_true h3) c1 c2 (snd h5 C).v (one_star fun _ _ z => by subst z; exact noStarE h5)) fun _ => rfl
  | .lrng2 e f, a, X, k, sc, h, C => by
    cases a <;> (first | (simp only [chkE, Bool.false_eq_true] at h; done) | skip)
    rename_i o as kws p
    cases o <;> (first | (simp only [chkE, Bool.false_eq_true] at h; done) | skip)
    rcases as with _ | ⟨y, _ | ⟨d2, as⟩⟩ <;> (first | (simp only [chkE, Bool.false_eq_true] at h; done) | skip)
    cases y <;> (first | (simp only [chkE, Bool.false_eq_true] at h; done) | skip)
    rename_i o2 as2 kws2 p2
    cases o2 <;> (first | (simp only [chkE, Bool.false_eq_true] at h; done) | skip)
    rcases as2 with _ | ⟨b, _ | ⟨c, _ | ⟨d, as⟩⟩⟩ <;> (first | (simp only [chkE, Bool.false_eq_true] at h; done) | skip)
    cases kws2 <;> (first | (simp only [chkE, Bool.false_eq_true] at h; done) | skip)
    cases kws <;> (first | (simp only [chkE, Bool.false_eq_true] at h; done) | skip)
    simp only [chkE] at h
    obtain ⟨h, h6⟩ := Bool.and_eq_true_iff.mp h
    obtain ⟨h, h5⟩ := Bool.and_eq_true_iff.mp h
    obtain ⟨h, h4⟩ := Bool.and_eq_true_iff.mp h
    obtain ⟨h, h3⟩ := Bool.and_eq_true_iff.mp h
    obtain ⟨h1, h2⟩ := Bool.and_eq_true_iff.mp h
    obtain ⟨b1, b2, b3, b4⟩ := bi_of C h2
    obtain ⟨c1, c2, c3, c4⟩ := bi_of C h4
    exact plain (lrng2_sound C.calm (of_decide_eq_true h1) b1 b2 (of_decide_eq_true h3) c1 c2 (snd h5 C).v (snd h6 C).v (two_star (fun _ _ z => by subst z; exact noStarE h5) fun _ _ z => by subst z; exact noStarE h6)) fun _ => rfl
  | .sset e, a, X, k, sc, h, C => by
    cases a <;> (first | (simp only [chkE, Bool.false_eq_true] at h; done) | skip)
    rename_i o as kws p
    cases o <;> (first | (simp only [chkE, Bool.false_eq_true] at h; done) | skip)
    rcases as with _ | ⟨y, _ | ⟨d2, as⟩⟩ <;> (first | (simp only [chkE, Bool.false_eq_true] at h; done) | skip)
    cases y <;> (first | (simp only [chkE, Bool.false_eq_true] at h; done) | skip)
    rename_i o2 as2 kws2 p2
    cases o2 <;> (first | (simp only [chkE, Bool.false_eq_true] at h; done) | skip)
    rcases as2 with _ | ⟨b, _ | ⟨c, as⟩⟩ <;> (first | (simp only [chkE, Bool.false_eq_true] at h; done) | skip)
    cases kws2 <;> (first | (simp only [chkE, Bool.false_eq_true] at h; done) | skip)
    cases kws <;> (first | (simp only [chkE, Bool.false_eq_true] at h; done) | skip)
    simp only [chkE] at h
    obtain ⟨h, h5⟩ := Bool.and_eq_true_iff.mp h
    obtain ⟨h, h4⟩ := Bool.and_eq_true_iff.mp h
    obtain ⟨h, h3⟩ := Bool.and_eq_true_iff.mp h
    obtain ⟨h1, h2⟩ := Bool.and_eq_true_iff.mp h
    obtain ⟨b1, b2, b3, b4⟩ := bi_of C h2
    obtain ⟨c1, c2, c3, c4⟩ := bi_of C h4
    exact plain (sset_sound C.calm (of_decide_eq_true h1) b1 b2 (of_decide_eq_true h3) c1 c2 (snd h5 C).v (one_star fun _ _ z => by subst z; exact noStarE h5)) fun _ => rfl
  | .dnewT, a, X, k, sc, h, C => by
    cases a <;> (first | (simp only [chkE, Bool.false_eq_true] at h; done) | skip)
    rename_i ks vs p
    cases ks <;> (first | (simp only [chkE, Bool.false_eq_true] at h; done) | skip)
    cases vs <;> (first | (simp only [chkE, Bool.false_eq_true] at h; done) | skip)
    exact plain dnewT_sound fun _ => rfl
  | .dinT neg es i, a, X, k, sc, h, C => by
    cases a <;> (first | (simp only [chkE, Bool.false_eq_true] at h; done) | skip)
    rename_i b os bs p
    cases b <;> (first | (simp only [chkE, Bool.false_eq_true] at h; done) | skip)
    rcases os with _ | ⟨o1, _ | ⟨o2, os⟩⟩ <;> rcases bs with _ | ⟨b1, _ | ⟨b2, bs⟩⟩ <;> (first | (simp only [chkE, Bool.false_eq_true] at h; done) | skip)
    cases b1 <;> (first | (simp only [chkE, Bool.false_eq_true] at h; done) | skip)
    simp only [chkE] at h
    obtain ⟨h, h3⟩ := Bool.and_eq_true_iff.mp h
    obtain ⟨h1, h2⟩ := Bool.and_eq_true_iff.mp h
    have u : X.A.units + 1 < cLine := by have := C.u; omega
    cases neg with
    | true =>
      rw [if_pos rfl] at h1
      have e := cmB_ok h1
      subst e
      obtain ⟨z1, z2⟩ := dninT_sound u (snds h2 C) (var_of C h3)
      exact ⟨z1, fun _ => z2⟩
    | false =>
      rw [if_neg Bool.false_ne_true] at h1
      have e := cmB_ok h1
      subst e
      obtain ⟨z1, z2⟩ := dinT_sound u (snds h2 C) (var_of C h3)
      exact ⟨z1, fun _ => z2⟩
  | .dgetT i es n, a, X, k, sc, h, C => by
    cases a <;> (first | (simp only [chkE, Bool.false_eq_true] at h; done) | skip)
    rename_i f as kws cpos
    cases f <;> (first | (simp only [chkE, Bool.false_eq_true] at h; done) | skip)
    rename_i ao nm apos
    cases ao <;> (first | (simp only [chkE, Bool.false_eq_true] at h; done) | skip)
    rcases as with _ | ⟨b, _ | ⟨b2, _ | ⟨b3, as⟩⟩⟩ <;> (first | (simp only [chkE, Bool.false_eq_true] at h; done) | skip)
    all_goals (cases b <;> (first | (simp only [chkE, Bool.false_eq_true] at h; done) | skip))
    all_goals (cases b2 <;> (first | (simp only [chkE, Bool.false_eq_true] at h; done) | skip))
    all_goals (rename_i cst _ _; cases cst <;> (first | (simp only [chkE, Bool.false_eq_true] at h; done) | skip))
    cases kws <;> (first | (simp only [chkE, Bool.false_eq_true] at h; done) | skip)
    simp only [chkE] at h
    obtain ⟨h, h5⟩ := Bool.and_eq_true_iff.mp h
    obtain ⟨h, h4⟩ := Bool.and_eq_true_iff.mp h
    obtain ⟨h, h3⟩ := Bool.and_eq_true_iff.mp h
    obtain ⟨h1, h2⟩ := Bool.and_eq_true_iff.mp h
    have hn := of_decide_eq_true h1
    subst hn
    have hm := of_decide_eq_true h2
    subst hm
    have u : X.A.units + 1 < cLine := by have := C.u; omega
    exact plain (pe_of (pe_dget2 u (var_of C h4) (pe_tup (snds h5 C)) pe_int ⟨rfl, rfl, h3, rfl⟩) fun σ H Q z => dgetT_reads z) fun _ => rfl
  | .rev e, a, X, k, sc, h, C => by
    cases a <;> (first | (simp only [chkE, Bool.false_eq_true] at h; done) | skip)
    rename_i o b p
    cases b <;> (first | (simp only [chkE, Bool.false_eq_true] at h; done) | skip)
    rename_i l u st p2
    cases l <;> (first | (simp only [chkE, Bool.false_eq_true] at h; done) | skip)
    cases u <;> (first | (simp only [chkE, Bool.false_eq_true] at h; done) | skip)
    cases st <;> (first | (simp only [chkE, Bool.false_eq_true] at h; done) | skip)
    rename_i st
    cases st <;> (first | (simp only [chkE, Bool.false_eq_true] at h; done) | skip)
    rename_i op c p3
    cases op <;> (first | (simp only [chkE, Bool.false_eq_true] at h; done) | skip)
    cases c <;> (first | (simp only [chkE, Bool.false_eq_true] at h; done) | skip)
    rename_i c j p4
    cases c <;> (first | (simp only [chkE, Bool.false_eq_true] at h; done) | skip)
    simp only [chkE] at h
    obtain ⟨h1, h2⟩ := Bool.and_eq_true_iff.mp h
    have e := of_decide_eq_true h1
    subst e
    exact plain (rev_sound (snd h2 C).v) fun _ => rfl
  | .cat e es, a, X, k, sc, h, C => by
    cases a <;> (first | (simp only [chkE, Bool.false_eq_true] at h; done) | skip)
    rename_i as p
    rcases as with _ | ⟨b, as⟩ <;> (first | (simp only [chkE, Bool.false_eq_true] at h; done) | skip)
    cases b <;> (first | (simp only [chkE, Bool.false_eq_true] at h; done) | skip)
    simp only [chkE] at h
    obtain ⟨h1, h2⟩ := Bool.and_eq_true_iff.mp h
    exact plain (cat_sound (snd h1 C).v (snds h2 C)) fun _ => rfl
  | .cat2 e f, a, X, k, sc, h, C => by
    cases a <;> (first | (simp only [chkE, Bool.false_eq_true] at h; done) | skip)
    rename_i as p
    rcases as with _ | ⟨b, _ | ⟨c, as⟩⟩
    · simp only [chkE, Bool.false_eq_true] at h
    · cases b <;> simp only [chkE, Bool.false_eq_true] at h
    · cases b <;> (first | (simp only [chkE, Bool.false_eq_true] at h; done) | skip)
      cases c <;> (first | (simp only [chkE, Bool.false_eq_true] at h; done) | skip)
      cases as <;> (first | (simp only [chkE, Bool.false_eq_true] at h; done) | skip)
      simp only [chkE] at h
      obtain ⟨h1, h2⟩ := Bool.and_eq_true_iff.mp h
      exact plain (cat2_sound (snd h1 C).v (snd h2 C).v) fun _ => rfl
  | .mt m o es, a, X, k, sc, h, C => by
    rcases es with _ | ⟨e, _ | ⟨e2, es⟩⟩
    · cases a <;> cases o <;> simp only [chkE, Bool.false_eq_true] at h
    · cases o <;> (first | (cases a <;> simp only [chkE, Bool.false_eq_true] at h; done) | skip)
      rename_i i
      cases a <;> (first | (simp only [chkE, Bool.false_eq_true] at h; done) | skip)
      rename_i f as kws cpos
      cases f <;> (first | (simp only [chkE, Bool.false_eq_true] at h; done) | skip)
      rename_i ao nm apos
      cases ao <;> (first | (simp only [chkE, Bool.false_eq_true] at h; done) | skip)
      rcases as with _ | ⟨b, _ | ⟨b2, as⟩⟩ <;> (first | (simp only [chkE, Bool.false_eq_true] at h; done) | skip)
      cases kws <;> (first | (simp only [chkE, Bool.false_eq_true] at h; done) | skip)
      simp only [chkE] at h
      obtain ⟨h, h5⟩ := Bool.and_eq_true_iff.mp h
      obtain ⟨h, h4⟩ := Bool.and_eq_true_iff.mp h
      obtain ⟨h, h3⟩ := Bool.and_eq_true_iff.mp h
      obtain ⟨h1, h2⟩ := Bool.and_eq_true_iff.mp h
      have hn := of_decide_eq_true h1
      subst hn
      have ns : NoStar [b] := one_star fun _ _ z => by subst z; exact noStarE h5
      have pa := pa_cons (snd h5 C).v pa_nil (ns.cons X.env)
      have hst := ns.cons X.env
      have u : X.A.units + 65 < cLine := by have := C.u; omega
      have hfew : ((backTo cpos (starEach [b] X.env)).all (fun x => !x.1) && (backToKw cpos (keywordEach [] X.env)).all (fun x => x.1.isSome) && decide ([b].length + ([] : List Keyword).length + (if ([] : List Keyword).isEmpty then 0 else 1) < 30)) = true := by
        rw [hst]; rfl
      refine plain (pe_of (t := tBM X.K "list" (rMt X.K m) (tE Φ X.K (.var i)) (tCons (tE Φ X.K e) tNil)) ?_ fun σ H Q z => mt_reads z) fun _ => rfl
      cases m with
      | get => cases h2
      | index => exact pe_bm PySem.F.plainAttrs_list PySem.F.slot_list_index PySem.F.type_list_index (mt_indexD u) (var_sound (var_of C h4)) pa rfl hfew h3 hst rfl
      | count => exact pe_bm PySem.F.plainAttrs_list PySem.F.slot_list_count PySem.F.type_list_count mt_lcount (var_sound (var_of C h4)) pa rfl hfew h3 hst rfl
    · cases a <;> cases o <;> simp only [chkE, Bool.false_eq_true] at h
  | .popv i, a, X, k, sc, h, C => by
    cases a <;> (first | (simp only [chkE, Bool.false_eq_true] at h; done) | skip)
    rename_i f as kws cpos
    cases f <;> (first | (simp only [chkE, Bool.false_eq_true] at h; done) | skip)
    rename_i ao nm apos
    cases ao <;> (first | (simp only [chkE, Bool.false_eq_true] at h; done) | skip)
    cases as <;> (first | (simp only [chkE, Bool.false_eq_true] at h; done) | skip)
    cases kws <;> (first | (simp only [chkE, Bool.false_eq_true] at h; done) | skip)
    simp only [chkE] at h
    obtain ⟨h, h3⟩ := Bool.and_eq_true_iff.mp h
    obtain ⟨h1, h2⟩ := Bool.and_eq_true_iff.mp h
    have hn := of_decide_eq_true h1
    subst hn
    exact plain (pe_of (pe_bm0 PySem.F.plainAttrs_list PySem.F.slot_list_pop PySem.F.type_list_pop mt_pop (var_of C h3) rfl h2) fun σ H Q z => popv_reads z) fun _ => rfl
  | .lc elt t it cs, a, X, k, sc, h, C => by
    cases a <;> (first | (simp only [chkE, Bool.false_eq_true] at h; done) | skip)
    rename_i elt' gens csc p
    rcases gens with _ | ⟨⟨tg, iter, ifs, n⟩, _ | ⟨g2, gs⟩⟩ <;> (first | (simp only [chkE, Bool.false_eq_true] at h; done) | skip)
    simp only [chkE] at h
    obtain ⟨h1, h5⟩ := Bool.and_eq_true_iff.mp h
    obtain ⟨h1, h4⟩ := Bool.and_eq_true_iff.mp h1
    obtain ⟨h1, h3⟩ := Bool.and_eq_true_iff.mp h1
    obtain ⟨h1, h2⟩ := Bool.and_eq_true_iff.mp h1
    obtain ⟨h0, h1⟩ := Bool.and_eq_true_iff.mp h1
    have hn := of_decide_eq_true h0
    subst hn
    have ok : BlkOk X.N X.env.scope csc (ownOf N t.names) := by
      rw [C.names, C.scope]
      exact blkOk_by h3
    have z := pe_lc (pos := p) C.calm (by rw [C.names]; exact C.nd) (sndI h1 C (tgK h2)) ok (g := gT X.K t) (tt := tCs Φ X.K cs) (te := tE Φ X.K elt)
      (fun s H A cl fp => tg_sound (X := X.blk s H csc (compEnvC csc cl A X.env) fp) C.calm C.names C.nd (C.blk s H csc cl A fp).scope h2)
      (fun s H A cl fp => sndC h4 (C.blk s H csc cl A fp))
      (fun s H A cl fp => (snd h5 (C.blk s H csc cl A fp)).v)
      (notSetI h1)
    rw [ownOf_ix] at z
    exact plain (pe_of z fun σ H Q q => lc_reads q) fun _ => rfl
theorem snds {Γ : GEnv} {Φ : Phi} {N : List Str} : ∀ {es : Es} {as : List Expr} {X : Cx} {k : Nat} {sc : Scope}, chkEs Γ N sc es as = true → CtxOk X Γ Φ k N sc → PA X as (tEs Φ X.K es)
  | .nil, [], X, k, sc, h, C => nil_sound
  | .nil, _ :: _, X, k, sc, h, C => by simp only [chkEs, Bool.false_eq_true] at h
  | .cons _ _, [], X, k, sc, h, C => by simp only [chkEs, Bool.false_eq_true] at h
  | .cons e es, a :: as, X, k, sc, h, C => by
    have ns := noStar_of h
    simp only [chkEs] at h
    obtain ⟨h1, h2⟩ := Bool.and_eq_true_iff.mp h
    exact cons_sound (snd h1 C).v (snds h2 C) (ns.cons X.env)
theorem sndK {Γ : GEnv} {Φ : Phi} {N : List Str} : ∀ {es : Es} {ks : List Str} {kws : List Keyword} {X : Cx} {k : Nat} {sc : Scope}, chkKs Γ N sc es ks kws = true → CtxOk X Γ Φ k N sc → L2.PK X kws (tEs Φ X.K es)
  | .nil, [], [], X, k, sc, h, C => knil_sound
  | .nil, _ :: _, _, _, _, _, h, _ => by simp only [chkKs, Bool.false_eq_true] at h
  | .nil, [], _ :: _, _, _, _, h, _ => by simp only [chkKs, Bool.false_eq_true] at h
  | .cons _ _, [], _, _, _, _, h, _ => by simp only [chkKs, Bool.false_eq_true] at h
  | .cons _ _, _ :: _, [], _, _, _, h, _ => by simp only [chkKs, Bool.false_eq_true] at h
  | .cons _ _, _ :: _, ⟨none, _, _⟩ :: _, _, _, _, h, _ => by simp only [chkKs, Bool.false_eq_true] at h
  | .cons e es, kk :: ks, ⟨some n, a, p⟩ :: r, X, k, sc, h, C => by
    simp only [chkKs] at h
    obtain ⟨h1, h3⟩ := Bool.and_eq_true_iff.mp h
    obtain ⟨h1, h2⟩ := Bool.and_eq_true_iff.mp h1
    exact kcons_sound (snd h2 C).v (sndK h3 C)
theorem sndAnd {Γ : GEnv} {Φ : Phi} {N : List Str} : ∀ {es : Es} {as : List Expr} {pos : Pos} {X : Cx} {k : Nat} {sc : Scope}, chkL Γ N sc es as = true → CtxOk X Γ Φ k N sc → PE X (.BoolOp .And as pos) (tAnd' Φ X.K es) ∧ PW X (.BoolOp .And as pos) (tAndT Φ X.K es)
  | .nil, _, _, _, _, _, h, _ => by simp only [chkL, Bool.false_eq_true] at h
  | .cons _ .nil, [], _, _, _, _, h, _ => by simp only [chkL, Bool.false_eq_true] at h
  | .cons _ (.cons _ _), [], _, _, _, _, h, _ => by simp only [chkL, Bool.false_eq_true] at h
  | .cons e .nil, [a], pos, X, k, sc, h, C => by
    simp only [chkL] at h
    obtain ⟨h1, h2⟩ := Bool.and_eq_true_iff.mp h
    have hi : e.isIf = false := by simpa using h2
    exact ⟨and1_sound (snd h1 C).v, and1T_sound ((snd h1 C).t hi)⟩
  | .cons e .nil, a :: b :: as, _, _, _, _, h, _ => by
    simp only [chkL, Bool.and_false, Bool.false_eq_true] at h
  | .cons e (.cons e2 es), [a], pos, X, k, sc, h, C => by
    cases es <;> simp only [chkL, Bool.and_false, Bool.false_eq_true] at h
  | .cons e (.cons e2 es), a :: b :: as, pos, X, k, sc, h, C => by
    rw [chkL] at h
    · obtain ⟨h1, h3⟩ := Bool.and_eq_true_iff.mp h
      obtain ⟨h1, h2⟩ := Bool.and_eq_true_iff.mp h1
      have hi : e.isIf = false := by simpa using h2
      obtain ⟨i1, i2⟩ := sndAnd (pos := pos) h3 C
      exact ⟨andC_sound (snd h1 C).v i1, andTC_sound ((snd h1 C).t hi) i2⟩
    all_goals (intros; simp_all)
theorem sndOr {Γ : GEnv} {Φ : Phi} {N : List Str} : ∀ {es : Es} {as : List Expr} {pos : Pos} {X : Cx} {k : Nat} {sc : Scope}, chkL Γ N sc es as = true → CtxOk X Γ Φ k N sc → PE X (.BoolOp .Or as pos) (tOr' Φ X.K es) ∧ PW X (.BoolOp .Or as pos) (tOrT Φ X.K es)
  | .nil, _, _, _, _, _, h, _ => by simp only [chkL, Bool.false_eq_true] at h
  | .cons _ .nil, [], _, _, _, _, h, _ => by simp only [chkL, Bool.false_eq_true] at h
  | .cons _ (.cons _ _), [], _, _, _, _, h, _ => by simp only [chkL, Bool.false_eq_true] at h
  | .cons e .nil, [a], pos, X, k, sc, h, C => by
    simp only [chkL] at h
    obtain ⟨h1, h2⟩ := Bool.and_eq_true_iff.mp h
    have hi : e.isIf = false := by simpa using h2
    exact ⟨or1_sound (snd h1 C).v, or1T_sound ((snd h1 C).t hi)⟩
  | .cons e .nil, a :: b :: as, _, _, _, _, h, _ => by
    simp only [chkL, Bool.and_false, Bool.false_eq_true] at h
  | .cons e (.cons e2 es), [a], pos, X, k, sc, h, C => by
    cases es <;> simp only [chkL, Bool.and_false, Bool.false_eq_true] at h
  | .cons e (.cons e2 es), a :: b :: as, pos, X, k, sc, h, C => by
    rw [chkL] at h
    · obtain ⟨h1, h3⟩ := Bool.and_eq_true_iff.mp h
      obtain ⟨h1, h2⟩ := Bool.and_eq_true_iff.mp h1
      have hi : e.isIf = false := by simpa using h2
      obtain ⟨i1, i2⟩ := sndOr (pos := pos) h3 C
      exact ⟨orC_sound (snd h1 C).v i1, orTC_sound ((snd h1 C).t hi) i2⟩
    all_goals (intros; simp_all)
theorem sndC {Γ : GEnv} {Φ : Phi} {N : List Str} : ∀ {es : Es} {as : List Expr} {X : Cx} {k : Nat} {sc : Scope}, chkL0 Γ N sc es as = true → CtxOk X Γ Φ k N sc → PTs X as (tCs Φ X.K es)
  | .nil, [], X, k, sc, h, C => cs_nil
  | .nil, _ :: _, _, _, _, h, _ => by simp only [chkL0, Bool.false_eq_true] at h
  | .cons _ .nil, [], _, _, _, h, _ => by simp only [chkL0, Bool.false_eq_true] at h
  | .cons _ (.cons _ _), _, _, _, _, h, _ => by simp only [chkL0, Bool.false_eq_true] at h
  | .cons _ .nil, _ :: _ :: _, _, _, _, h, _ => by simp only [chkL0, Bool.false_eq_true] at h
  | .cons e .nil, [a], X, k, sc, h, C => by
    simp only [chkL0] at h
    obtain ⟨h1, h2⟩ := Bool.and_eq_true_iff.mp h
    have hi : e.isIf = false := by simpa using h2
    exact cs_one ((snd h1 C).t hi)
theorem sndO {Γ : GEnv} {Φ : Phi} {N : List Str} : ∀ {o : OE} {a : Option Expr} {X : Cx} {k : Nat} {sc : Scope}, chkO Γ N sc o a = true → CtxOk X Γ Φ k N sc → PO X a (tO Φ X.K o)
  | .no, none, X, k, sc, h, C => no_sound
  | .no, some _, _, _, _, h, _ => by simp only [chkO, Bool.false_eq_true] at h
  | .so _, none, _, _, _, h, _ => by simp only [chkO, Bool.false_eq_true] at h
  | .so e, some a, X, k, sc, h, C => by
    simp only [chkO] at h
    exact so_sound (snd h C).v
theorem sndI {Γ : GEnv} {Φ : Phi} {N : List Str} : ∀ {it : DL.It} {a tg : Expr} {tp : Bool} {X : Cx} {k : Nat} {sc : Scope}, chkI Γ N sc tp it a = true → CtxOk X Γ Φ k N sc → TgK tp tg → PI X tg a (tI Φ X.K it)
  | .lst e, a, tg, tp, X, k, sc, h, C, ht => by
    simp only [chkI] at h
    exact list_I (snd h C).v
  | .tup e, a, tg, tp, X, k, sc, h, C, ht => by
    simp only [chkI] at h
    exact tup_I (snd h C).v
  | .rng1 e, a, tg, tp, X, k, sc, h, C, ht => by
    cases a <;> (first | (simp only [chkI, Bool.false_eq_true] at h; done) | skip)
    rename_i o as kws p
    cases o <;> (first | (simp only [chkI, Bool.false_eq_true] at h; done) | skip)
    rcases as with _ | ⟨b, _ | ⟨c, as⟩⟩ <;> (first | (simp only [chkI, Bool.false_eq_true] at h; done) | skip)
    cases kws <;> (first | (simp only [chkI, Bool.false_eq_true] at h; done) | skip)
    simp only [chkI] at h
    obtain ⟨h1, h3⟩ := Bool.and_eq_true_iff.mp h
    obtain ⟨h1, h2⟩ := Bool.and_eq_true_iff.mp h1
    obtain ⟨b1, b2, b3, b4⟩ := bi_of C h2
    exact rng1_I (of_decide_eq_true h1) b1 b2 (snd h3 C).v (one_star fun _ _ z => by subst z; exact noStarE h3)
  | .rng2 e f, a, tg, tp, X, k, sc, h, C, ht => by
    cases a <;> (first | (simp only [chkI, Bool.false_eq_true] at h; done) | skip)
    rename_i o as kws p
    cases o <;> (first | (simp only [chkI, Bool.false_eq_true] at h; done) | skip)
    rcases as with _ | ⟨b, _ | ⟨c, _ | ⟨d, as⟩⟩⟩ <;> (first | (simp only [chkI, Bool.false_eq_true] at h; done) | skip)
    cases kws <;> (first | (simp only [chkI, Bool.false_eq_true] at h; done) | skip)
    simp only [chkI] at h
    obtain ⟨h1, h4⟩ := Bool.and_eq_true_iff.mp h
    obtain ⟨h1, h3⟩ := Bool.and_eq_true_iff.mp h1
    obtain ⟨h1, h2⟩ := Bool.and_eq_true_iff.mp h1
    obtain ⟨b1, b2, b3, b4⟩ := bi_of C h2
    exact rng2_I (of_decide_eq_true h1) b1 b2 (snd h3 C).v (snd h4 C).v (two_star (fun _ _ z => by subst z; exact noStarE h3) fun _ _ z => by subst z; exact noStarE h4)
  | .enum e, a, tg, tp, X, k, sc, h, C, ht => by
    cases a <;> (first | (simp only [chkI, Bool.false_eq_true] at h; done) | skip)
    rename_i o as kws p
    cases o <;> (first | (simp only [chkI, Bool.false_eq_true] at h; done) | skip)
    rcases as with _ | ⟨b, _ | ⟨c, as⟩⟩ <;> (first | (simp only [chkI, Bool.false_eq_true] at h; done) | skip)
    cases kws <;> (first | (simp only [chkI, Bool.false_eq_true] at h; done) | skip)
    simp only [chkI] at h
    obtain ⟨h1, h4⟩ := Bool.and_eq_true_iff.mp h
    obtain ⟨h1, h3⟩ := Bool.and_eq_true_iff.mp h1
    obtain ⟨h1, h2⟩ := Bool.and_eq_true_iff.mp h1
    obtain ⟨b1, b2, b3, b4⟩ := bi_of C h3
    subst h1
    obtain ⟨es, kk, p3, rfl⟩ := ht
    exact enum_I (of_decide_eq_true h2) b1 b2 (snd h4 C).v (one_star fun _ _ z => by subst z; exact noStarE h4)
  | .zip e f, a, tg, tp, X, k, sc, h, C, ht => by
    cases a <;> (first | (simp only [chkI, Bool.false_eq_true] at h; done) | skip)
    rename_i o as kws p
    cases o <;> (first | (simp only [chkI, Bool.false_eq_true] at h; done) | skip)
    rcases as with _ | ⟨b, _ | ⟨c, _ | ⟨d, as⟩⟩⟩ <;> (first | (simp only [chkI, Bool.false_eq_true] at h; done) | skip)
    cases kws <;> (first | (simp only [chkI, Bool.false_eq_true] at h; done) | skip)
    simp only [chkI] at h
    obtain ⟨h1, h5⟩ := Bool.and_eq_true_iff.mp h
    obtain ⟨h1, h4⟩ := Bool.and_eq_true_iff.mp h1
    obtain ⟨h2, h3⟩ := Bool.and_eq_true_iff.mp h1
    obtain ⟨b1, b2, b3, b4⟩ := bi_of C h3
    have st : NoStar [b, c] := two_star (fun _ _ z => by subst z; exact noStarE h4) fun _ _ z => by subst z; exact noStarE h5
    cases tp with
    | true =>
      obtain ⟨es, kk, p3, rfl⟩ := ht
      exact zip_I (of_decide_eq_true h2) b1 b2 (snd h4 C).v (snd h5 C).v st
    | false =>
      obtain ⟨y, np, rfl⟩ := ht
      exact zipN_I (of_decide_eq_true h2) b1 b2 (snd h4 C).v (snd h5 C).v st
end
end DL

/-! DL15: statements: what they leave. -/
namespace DL
open PySem PySem.Spec PyProof.Rows L2

/-- what statements leave -/
structure SStp (σ : L2.St) (H : Hp) (env : DEnv) (σ' : L2.St) (H' : Hp) (env' : DEnv) : Prop where
  step : ∀ a o, H a = some o → ¬ Own env σ a → H' a = some o
  own : ∀ a, Own env' σ' a → Own env σ a ∨ H a = none
  trk : ∀ a, H a ≠ none → H' a ≠ none
  io : ∀ (i : Nat) (d : D), env[i]? = some (Slot.io d) → ∃ d', env'[i]? = some (Slot.io d') ∧ σ'[i]? = σ[i]?
section
variable {K : Frag} {G N : Addr → Prop} {σ σ1 σ2 : L2.St} {H H1 H2 : Hp} {env env1 env2 : DEnv} {p q : Bool}
theorem SStp.refl : SStp σ H env σ H env := ⟨fun _ _ h _ => h, fun _ h => .inl h, fun _ h => h, fun _ d h => ⟨d, h, rfl⟩⟩
theorem back_none {H H1 : Hp} (t : ∀ a : Addr, H a ≠ none → H1 a ≠ none) {a : Addr} (h : H1 a = none) : H a = none := by
  cases q : H a with
  | none => rfl
  | some o => exact absurd h (t a (by rw [q]; exact fun z => nomatch z))
theorem SStp.trans (a : SStp σ H env σ1 H1 env1) (b : SStp σ1 H1 env1 σ2 H2 env2) : SStp σ H env σ2 H2 env2 where
  step := fun c o h n => b.step c o (a.step c o h n) fun z => by
    rcases a.own c z with y | y
    · exact n y
    · rw [h] at y; cases y
  own := fun c z => by
    rcases b.own c z with y | y
    · exact a.own c y
    · exact .inr (back_none a.trk y)
  trk := fun c h => b.trk c (a.trk c h)
  io := fun i d h => by
    obtain ⟨d1, e1, s1⟩ := a.io i d h
    obtain ⟨d2, e2, s2⟩ := b.io i d1 e1
    exact ⟨d2, e2, s2.trans s1⟩
theorem Stp.ss (a : Stp σ H env p H1 env1) : SStp σ H env σ H1 env1 := ⟨a.step, fun c h => .inl (a.own c h), a.trk, fun i d h => by
  obtain ⟨d', e⟩ := a.io i d h
  exact ⟨d', e, rfl⟩⟩
theorem TgSt.ss {is : List Nat} (a : TgSt σ env is σ1 env1) : SStp σ H env σ1 H env1 := ⟨fun _ _ h _ => h, fun c h => .inl (a.own c h), fun _ h => h, fun i d h => ⟨d, a.io i d h⟩⟩
theorem SStp.grow {H' : Hp} (h : ∀ a o, H a = some o → H' a = some o) : SStp σ H env σ H' env := (Stp.grow (σ := σ) (env := env) h).ss

/-- the slot i holds s from now on -/
theorem setD_ok {i : Nat} {s : Slot} (h : setD env i s = some env2) : i < env.length ∧ env2 = env.set i s ∧ ∀ d', env[i]? ≠ some (Slot.io d') := by
  unfold setD at h
  split at h
  · cases h
  · rename_i s0 hs e
    cases h
    exact ⟨(List.getElem?_eq_some_iff.mp e).1, rfl, fun d' z => by rw [e] at z; cases z; exact hs _ rfl⟩
  · cases h
/-- x = a list made just now, held by nobody: the name's own from now on -/
theorem set_own {i : Nat} {d : D} {a : Addr} (E : EnvOk K (fun b => G b ∧ b ≠ a) N H σ env) (h : setD env i (.own d) = some env2) (g : G a) (n : N a) (no : ¬ Own env σ a) (o : OwnO K H (fun b => (G b ∧ b ≠ a) ∧ ¬ Own env σ b) a d) :
    EnvOk K G N H (σ.set i (some (.ref a))) env2 ∧ (∀ b, Own env2 (σ.set i (some (.ref a))) b → Own env σ b ∨ b = a) ∧ (∀ (j : Nat) (d' : D), env[j]? = some (Slot.io d') → env2[j]? = some (Slot.io d') ∧ (σ.set i (some (.ref a)))[j]? = σ[j]?) := by
  obtain ⟨hl, rfl, nio⟩ := setD_ok h
  have hls : i < σ.length := by rw [E.len]; exact hl
  have get : ∀ {j : Nat} {s : Slot}, (env.set i (.own d))[j]? = some s → j ≠ i → env[j]? = some s := fun {j s} hj ne => by rwa [List.getElem?_set_ne (Ne.symm ne)] at hj
  have sg : ∀ {j : Nat}, j ≠ i → (σ.set i (some (.ref a)))[j]? = σ[j]? := fun {j} ne => List.getElem?_set_ne (Ne.symm ne)
  have ow : ∀ b, Own (env.set i (.own d)) (σ.set i (some (.ref a))) b → Own env σ b ∨ b = a := fun b ⟨j, d', hj, e⟩ => by
    by_cases ne : j = i
    · subst ne
      rw [List.getElem?_set_self hls] at e
      cases e; exact .inr rfl
    · rw [sg ne] at e
      rcases hj with hj | hj
      · exact .inl ⟨j, d', .inl (get hj ne), e⟩
      · exact .inl ⟨j, d', .inr (get hj ne), e⟩
  have up : ∀ b u, H b = some u → ((G b ∧ b ≠ a) ∧ ¬ Own env σ b) → H b = some u ∧ (G b ∧ ¬ Own (env.set i (.own d)) (σ.set i (some (.ref a))) b) := fun b u e z => ⟨e, z.1.1, fun y => by
    rcases ow b y with y | y
    · exact z.2 y
    · exact z.1.2 y⟩
  refine ⟨⟨by rw [List.length_set, List.length_set]; exact E.len, fun b e => ⟨(E.new b e).1.1, (E.new b e).2⟩, fun j d' hj => ?_, fun j d' hj => ?_, fun j d' hj => ?_, fun j l b hj hl' e1 e2 => ?_⟩, ow, fun j d' hj => ?_⟩
  · have ne : j ≠ i := fun z => by
      subst z
      rw [List.getElem?_set_self hl] at hj; cases hj
    obtain ⟨w, e1, r1⟩ := E.frz j d' (get hj ne)
    exact ⟨w, by rw [sg ne]; exact e1, r1.imp up⟩
  · by_cases ne : j = i
    · subst ne
      rw [List.getElem?_set_self hl] at hj; cases hj
      exact ⟨a, List.getElem?_set_self hls, g, n, o.imp up fun u z => z⟩
    · obtain ⟨b, e1, g1, n1, o1⟩ := E.own j d' (get hj ne)
      exact ⟨b, by rw [sg ne]; exact e1, g1.1, n1, o1.imp up fun u z => z⟩
  · have ne : j ≠ i := fun z => by
      subst z
      rw [List.getElem?_set_self hl] at hj; cases hj
    obtain ⟨b, e1, o1⟩ := E.io j d' (get hj ne)
    exact ⟨b, by rw [sg ne]; exact e1, o1.imp up fun u z => z⟩
  · have key : ∀ {j : Nat} {b : Addr}, (∃ d' : D, (env.set i (.own d))[j]? = some (Slot.own d') ∨ (env.set i (.own d))[j]? = some (Slot.io d')) → (σ.set i (some (.ref a)))[j]? = some (some (.ref b)) → (j = i ∧ b = a) ∨ (j ≠ i ∧ Own env σ b ∧ (∃ d : D, env[j]? = some (Slot.own d) ∨ env[j]? = some (Slot.io d)) ∧ σ[j]? = some (some (.ref b))) := fun {j b} ⟨d', hj⟩ e => by
      by_cases ne : j = i
      · subst ne
        rw [List.getElem?_set_self hls] at e
        cases e; exact .inl ⟨rfl, rfl⟩
      · rw [sg ne] at e
        rcases hj with hj | hj
        · exact .inr ⟨ne, ⟨j, d', .inl (get hj ne), e⟩, ⟨d', .inl (get hj ne)⟩, e⟩
        · exact .inr ⟨ne, ⟨j, d', .inr (get hj ne), e⟩, ⟨d', .inr (get hj ne)⟩, e⟩
    rcases key hj e1 with ⟨z1, y1⟩ | ⟨z1, w1, x1, s1⟩ <;> rcases key hl' e2 with ⟨z2, y2⟩ | ⟨z2, w2, x2, s2⟩
    · rw [z1, z2]
    · subst y1; exact absurd w2 no
    · subst y2; exact absurd w1 no
    · exact E.dis j l b x1 x2 s1 s2
  · have ne : j ≠ i := fun z => nio d' (z ▸ hj)
    exact ⟨by rw [List.getElem?_set_ne (Ne.symm ne)]; exact hj, sg ne⟩
/-- a list of one's own is changed no more -/
theorem frz_ok {i : Nat} {d : D} (E : EnvOk K G N H σ env) (h : env[i]? = some (Slot.own d)) : EnvOk K G N H σ (env.set i (.frz d)) ∧ ∀ b, Own (env.set i (.frz d)) σ b → Own env σ b := by
  have hl : i < env.length := (List.getElem?_eq_some_iff.mp h).1
  obtain ⟨a, ea, ga, na, oa⟩ := E.own i d h
  have isO : Own env σ a := ⟨i, d, .inl h, ea⟩
  have get : ∀ {j : Nat} {s : Slot}, (env.set i (.frz d))[j]? = some s → (∀ d', s ≠ .frz d') → j ≠ i ∧ env[j]? = some s := fun {j s} hj hs => by
    have ne : j ≠ i := fun z => by
      subst z
      rw [List.getElem?_set_self hl] at hj; cases hj; exact hs _ rfl
    exact ⟨ne, by rwa [List.getElem?_set_ne (Ne.symm ne)] at hj⟩
  have ow : ∀ b, Own (env.set i (.frz d)) σ b → Own env σ b := fun b ⟨j, d', hj, e⟩ => by
    rcases hj with hj | hj
    · exact ⟨j, d', .inl (get hj fun _ z => nomatch z).2, e⟩
    · exact ⟨j, d', .inr (get hj fun _ z => nomatch z).2, e⟩
  have noA : ¬ Own (env.set i (.frz d)) σ a := fun ⟨j, d', hj, e⟩ => by
    rcases hj with hj | hj
    · obtain ⟨ne, hj⟩ := get hj fun _ z => nomatch z
      exact ne (E.dis j i a ⟨_, .inl hj⟩ ⟨_, .inl h⟩ e ea)
    · obtain ⟨ne, hj⟩ := get hj fun _ z => nomatch z
      exact ne (E.dis j i a ⟨_, .inr hj⟩ ⟨_, .inl h⟩ e ea)
  have up : ∀ b u, H b = some u → (G b ∧ ¬ Own env σ b) → H b = some u ∧ (G b ∧ ¬ Own (env.set i (.frz d)) σ b) := fun b u e z => ⟨e, z.1, fun y => z.2 (ow b y)⟩
  refine ⟨⟨by rw [List.length_set]; exact E.len, E.new, fun j d' hj => ?_, fun j d' hj => ?_, fun j d' hj => ?_, fun j l b hj hl' e1 e2 => ?_⟩, ow⟩
  · by_cases ne : j = i
    · subst ne
      rw [List.getElem?_set_self hl] at hj; cases hj
      refine ⟨_, ea, ?_⟩
      rcases oa.imp up fun u z => z with ⟨ds, xs, e, q, r⟩ | ⟨kvs, ks, e, q, r⟩
      · subst e
        unfold Rep
        exact ⟨a, xs, rfl, .inl ⟨.inl q, ga, noA⟩, r⟩
      · subst e
        unfold Rep
        exact ⟨a, ks, rfl, ⟨q, ga, noA⟩, r⟩
    · rw [List.getElem?_set_ne (Ne.symm ne)] at hj
      obtain ⟨w, e1, r1⟩ := E.frz j d' hj
      exact ⟨w, e1, r1.imp up⟩
  · obtain ⟨ne, hj⟩ := get hj fun _ z => nomatch z
    obtain ⟨b, e1, g, n, o⟩ := E.own j d' hj
    exact ⟨b, e1, g, n, o.imp up fun u z => z⟩
  · obtain ⟨ne, hj⟩ := get hj fun _ z => nomatch z
    obtain ⟨b, e1, o⟩ := E.io j d' hj
    exact ⟨b, e1, o.imp up fun u z => z⟩
  · have bk : ∀ {j : Nat}, (∃ d' : D, (env.set i (.frz d))[j]? = some (Slot.own d') ∨ (env.set i (.frz d))[j]? = some (Slot.io d')) → ∃ d : D, env[j]? = some (Slot.own d) ∨ env[j]? = some (Slot.io d) := fun {j} ⟨d', hj⟩ => by
      rcases hj with hj | hj
      · exact ⟨d', .inl (get hj fun _ z => nomatch z).2⟩
      · exact ⟨d', .inr (get hj fun _ z => nomatch z).2⟩
    exact E.dis j l b (bk hj) (bk hl') e1 e2
theorem frz_ss {i : Nat} {d : D} (E : EnvOk K G N H σ env) (h : env[i]? = some (Slot.own d)) : SStp σ H env σ H (env.set i (.frz d)) :=
  ⟨fun _ _ h _ => h, fun b z => .inl ((frz_ok E h).2 b z), fun _ z => z, fun j d' hj => by
    have ne : j ≠ i := fun z => by subst z; rw [h] at hj; cases hj
    exact ⟨d', by rw [List.getElem?_set_ne (Ne.symm ne)]; exact hj, rfl⟩⟩

/-- names are not wanted any more -/
theorem weak_ok {env' : DEnv} (E : EnvOk K G N H σ env) (hl : env'.length = env.length) (get : ∀ (j : Nat) (s : Slot), env'[j]? = some s → s ≠ .un → env[j]? = some s) (io : ∀ (j : Nat) (d : D), env[j]? = some (Slot.io d) → env'[j]? = some (Slot.io d)) :
    EnvOk K G N H σ env' ∧ SStp σ H env σ H env' := by
  have ow : ∀ b, Own env' σ b → Own env σ b := fun b ⟨j, d, hj, e⟩ => by
    rcases hj with hj | hj
    · exact ⟨j, d, .inl (get j _ hj fun z => nomatch z), e⟩
    · exact ⟨j, d, .inr (get j _ hj fun z => nomatch z), e⟩
  have up : ∀ b u, H b = some u → (G b ∧ ¬ Own env σ b) → H b = some u ∧ (G b ∧ ¬ Own env' σ b) := fun b u e z => ⟨e, z.1, fun y => z.2 (ow b y)⟩
  refine ⟨⟨E.len.trans hl.symm, E.new, fun j d' hj => ?_, fun j d' hj => ?_, fun j d' hj => ?_, fun j l b hj hl' e1 e2 => ?_⟩, fun _ _ h _ => h, fun b z => .inl (ow b z), fun _ z => z, fun j d' hj => ⟨d', io j d' hj, rfl⟩⟩
  · obtain ⟨w, e1, r1⟩ := E.frz j d' (get j _ hj fun z => nomatch z)
    exact ⟨w, e1, r1.imp up⟩
  · obtain ⟨b, e1, g, n, o⟩ := E.own j d' (get j _ hj fun z => nomatch z)
    exact ⟨b, e1, g, n, o.imp up fun u z => z⟩
  · obtain ⟨b, e1, o⟩ := E.io j d' (get j _ hj fun z => nomatch z)
    exact ⟨b, e1, o.imp up fun u z => z⟩
  · have bk : ∀ {j : Nat}, (∃ d' : D, env'[j]? = some (Slot.own d') ∨ env'[j]? = some (Slot.io d')) → ∃ d : D, env[j]? = some (Slot.own d) ∨ env[j]? = some (Slot.io d) := fun {j} ⟨d', hj⟩ => by
      rcases hj with hj | hj
      · exact ⟨d', .inl (get j _ hj fun z => nomatch z)⟩
      · exact ⟨d', .inr (get j _ hj fun z => nomatch z)⟩
    exact E.dis j l b (bk hj) (bk hl') e1 e2
theorem wipeAt_get (wl : List Nat) : ∀ (env : DEnv) (k i : Nat), (wipeAt wl k env)[i]? = (env[i]?).map fun s => if wl.contains (k + i) = true then (match s with | .io d => .io d | _ => .un) else s
  | [], _, _ => rfl
  | s :: r, k, 0 => rfl
  | s :: r, k, i + 1 => by
    show (wipeAt wl (k + 1) r)[i]? = _
    rw [wipeAt_get wl r (k + 1) i, show k + 1 + i = k + (i + 1) by omega]
    rfl
theorem wipeAt_len (wl : List Nat) : ∀ (env : DEnv) (k : Nat), (wipeAt wl k env).length = env.length
  | [], _ => rfl
  | s :: r, k => by
    show (wipeAt wl (k + 1) r).length + 1 = r.length + 1
    rw [wipeAt_len wl r (k + 1)]
theorem wipeF_ok (E : EnvOk K G N H σ env) (wl : List Nat) : EnvOk K G N H σ (wipeF env wl) ∧ SStp σ H env σ H (wipeF env wl) := by
  refine weak_ok E (wipeAt_len wl env 0) (fun j s hj hs => ?_) fun j d hj => ?_
  · unfold wipeF at hj
    rw [wipeAt_get] at hj
    obtain ⟨s0, e, h⟩ := Option.map_eq_some_iff.mp hj
    rw [e]
    split at h
    · split at h
      · rw [h]
      · exact absurd h.symm hs
    · rw [h]
  · unfold wipeF
    rw [wipeAt_get, hj, Option.map_some]
    split <;> rfl

/-! ### several values at once -/
/-- values that wait to be stored: Go with the lists made just now, Gi without them -/
def Pend (K : Frag) (N : Addr → Prop) (σ : L2.St) (H : Hp) (env : DEnv) (Gi : Addr → Prop) : (Addr → Prop) → List Bool → List D → List V → Prop
  | Go, [], ds, vs => ds = [] ∧ vs = [] ∧ ∀ b, Go b ↔ Gi b
  | Go, ow :: os, ds, vs => ∃ d dr v vr, ds = d :: dr ∧ vs = v :: vr ∧
      if ow = true then ∃ a, v = .ref a ∧ Go a ∧ N a ∧ ¬ Own env σ a ∧ OwnO K H (fun b => Gi b ∧ ¬ Own env σ b) a d ∧ Pend K N σ H env Gi (fun b => Go b ∧ b ≠ a) os dr vr
      else Rep K H (fun b => Gi b ∧ ¬ Own env σ b) d v ∧ Pend K N σ H env Gi Go os dr vr
theorem OwnO.there' {a : Addr} {d : D} {P : Addr → Prop} (o : OwnO K H P a d) : ∃ u, H a = some u := let ⟨u, h, _⟩ := o.there; ⟨u, h⟩
theorem Pend.inn {Gi : Addr → Prop} : ∀ {os : List Bool} {Go : Addr → Prop} {ds : List D} {vs : List V}, Pend K N σ H env Gi Go os ds vs → ∀ b, Gi b → Go b
  | [], _, _, _, h, b, g => (h.2.2 b).mpr g
  | ow :: os, Go, ds, vs, h, b, g => by
    obtain ⟨d, dr, v, vr, _, _, h⟩ := h
    cases ow with
    | true =>
      obtain ⟨a, _, _, _, _, _, h⟩ := h
      exact (h.inn b g).1
    | false => exact Pend.inn h.2 b g
theorem Pend.mono {Gi Gi' : Addr → Prop} {σ' : L2.St} {env' : DEnv} {H' : Hp} (h1 : ∀ b u, H b = some u → ¬ Own env σ b → H' b = some u) (hO : ∀ b, Own env' σ' b → Own env σ b) (hG : ∀ b u, H b = some u → Gi b → ¬ Own env σ b → Gi' b) :
    ∀ {os : List Bool} {Go Go' : Addr → Prop} {ds : List D} {vs : List V}, (∀ b, Go' b ↔ (Gi' b ∨ (Go b ∧ ¬ Gi b))) → (∀ b, Gi' b → Go b → Gi b) → Pend K N σ H env Gi Go os ds vs → Pend K N σ' H' env' Gi' Go' os ds vs
  | [], Go, Go', _, _, e, e2, h => ⟨h.1, h.2.1, fun b => by
    rw [e b]
    constructor
    · rintro (z | z)
      · exact z
      · exact absurd ((h.2.2 b).mp z.1) z.2
    · exact .inl⟩
  | ow :: os, Go, Go', ds, vs, e, e2, h => by
    obtain ⟨d, dr, v, vr, rfl, rfl, h⟩ := h
    refine ⟨d, dr, v, vr, rfl, rfl, ?_⟩
    cases ow with
    | true =>
      obtain ⟨a, rfl, g, n, no, o, h⟩ := h
      have ngi : ¬ Gi a := fun z => (h.inn a z).2 rfl
      refine ⟨a, rfl, (e a).mpr (.inr ⟨g, ngi⟩), n, fun z => no (hO a z), o.imp (fun b u hb z => ⟨h1 b u hb z.2, hG b u hb z.1 z.2, fun y => z.2 (hO b y)⟩) fun u hu => h1 a u hu no, Pend.mono h1 hO hG (fun b => ?_) (fun b z y => e2 b z y.1) h⟩
      rw [e b]
      constructor
      · rintro ⟨z | z, ne⟩
        · exact .inl z
        · exact .inr ⟨⟨z.1, ne⟩, z.2⟩
      · rintro (z | z)
        · exact ⟨.inl z, fun y => ngi (e2 a (y ▸ z) g)⟩
        · exact ⟨.inr ⟨z.1.1, z.2⟩, z.1.2⟩
    | false => exact ⟨h.1.imp fun b u hb z => ⟨h1 b u hb z.2, hG b u hb z.1 z.2, fun y => z.2 (hO b y)⟩, Pend.mono h1 hO hG e e2 h.2⟩
/-- .. are stored -/
def setsS : L2.St → List Nat → List V → L2.St
  | σ, i :: is, v :: vs => setsS (σ.set i (some v)) is vs
  | σ, _, _ => σ
theorem sets_ok : ∀ {is : List (Nat × Bool)} {ds : List D} {vs : List V} {Gi Go : Addr → Prop} {σ : L2.St} {env env2 : DEnv}, EnvOk K Gi N H σ env → Pend K N σ H env Gi Go (is.map (·.2)) ds vs → setsD env is ds = some env2 →
    EnvOk K Go N H (setsS σ (is.map (·.1)) vs) env2 ∧ (∀ a, Own env2 (setsS σ (is.map (·.1)) vs) a → Own env σ a ∨ (Go a ∧ ¬ Gi a)) ∧
      ∀ (j : Nat) (d' : D), env[j]? = some (Slot.io d') → env2[j]? = some (Slot.io d') ∧ (setsS σ (is.map (·.1)) vs)[j]? = σ[j]?
  | [], ds, vs, Gi, Go, σ, env, env2, E, h, e => by
    obtain ⟨rfl, rfl, hg⟩ := h
    simp only [setsD, Option.some.injEq] at e
    subst e
    have hG : Go = Gi := funext fun b => propext (hg b)
    rw [hG]
    exact ⟨E, fun a z => .inl z, fun j d' hj => ⟨hj, rfl⟩⟩
  | (i, ow) :: is, ds, vs, Gi, Go, σ, env, env2, E, h, e => by
    obtain ⟨d, dr, v, vr, rfl, rfl, h⟩ := h
    simp only [setsD] at e
    obtain ⟨env1, e1, e9⟩ := Option.bind_eq_some_iff.mp e
    cases ow with
    | false =>
      obtain ⟨h1, h2⟩ := h
      obtain ⟨E1, t1⟩ := set_frz E e1 h1
      obtain ⟨E2, o2, io2⟩ := sets_ok E1 (Pend.mono (fun _ _ z _ => z) t1.own (fun _ _ _ z _ => z) (fun b => ⟨fun z => (Classical.em (Gi b)).elim .inl fun y => .inr ⟨z, y⟩, fun z => z.elim (h2.inn b) fun y => y.1⟩) (fun _ z _ => z) h2) e9
      refine ⟨E2, fun a z => (o2 a z).imp (t1.own a) fun y => y, fun j d' hj => ?_⟩
      obtain ⟨y1, y2⟩ := t1.io j d' hj
      obtain ⟨y3, y4⟩ := io2 j d' y1
      exact ⟨y3, y4.trans y2⟩
    | true =>
      obtain ⟨a, rfl, g, n, no, o, h2⟩ := h
      have ngi : ¬ Gi a := fun z => (h2.inn a z).2 rfl
      have hG : Gi = fun b => (Gi b ∨ b = a) ∧ b ≠ a := funext fun b => propext ⟨fun z => ⟨.inl z, fun y => ngi (y ▸ z)⟩, fun z => z.1.resolve_right z.2⟩
      have Ea : EnvOk K (fun b => (Gi b ∨ b = a) ∧ b ≠ a) N H σ env := hG ▸ E
      have oa : OwnO K H (fun b => ((Gi b ∨ b = a) ∧ b ≠ a) ∧ ¬ Own env σ b) a d := o.imp (fun b u hb z => ⟨hb, ⟨.inl z.1, fun y => ngi (y ▸ z.1)⟩, z.2⟩) fun u hu => hu
      obtain ⟨E1, t1, t2⟩ := set_own (G := fun b => Gi b ∨ b = a) Ea e1 (.inr rfl) n no oa
      -- the others wait on
      have p2 : Pend K N (σ.set i (some (.ref a))) H env1 (fun b => Gi b ∨ b = a) Go (is.map (·.2)) dr vr := by
        have key : ∀ {os : List Bool} {G1 G2 : Addr → Prop} {ds : List D} {vs : List V}, (∀ b, G2 b ↔ (G1 b ∨ b = a)) → ¬ G1 a → Pend K N σ H env Gi G1 os ds vs → Pend K N (σ.set i (some (.ref a))) H env1 (fun b => Gi b ∨ b = a) G2 os ds vs := by
          intro os
          induction os with
          | nil =>
            intro G1 G2 ds vs e na h
            refine ⟨h.1, h.2.1, fun b => ?_⟩
            rw [e b, h.2.2 b]
          | cons ow os ih =>
            intro G1 G2 ds vs e na h
            obtain ⟨d, dr, v, vr, rfl, rfl, h⟩ := h
            refine ⟨d, dr, v, vr, rfl, rfl, ?_⟩
            have up : ∀ b u, H b = some u → (Gi b ∧ ¬ Own env σ b) → H b = some u ∧ ((Gi b ∨ b = a) ∧ ¬ Own env1 (σ.set i (some (.ref a))) b) := fun b u hb z => ⟨hb, .inl z.1, fun y => by
              rcases t1 b y with y | y
              · exact z.2 y
              · exact ngi (y ▸ z.1)⟩
            cases ow with
            | true =>
              obtain ⟨c, rfl, g, n, no, o, h⟩ := h
              have ca : c ≠ a := fun z => na (z ▸ g)
              refine ⟨c, rfl, (e c).mpr (.inl g), n, fun y => ?_, o.imp up fun u hu => hu, ih (fun b => ?_) (fun z => na z.1) h⟩
              · rcases t1 c y with y | y
                · exact no y
                · exact ca y
              · rw [e b]
                constructor
                · rintro ⟨z | z, ne⟩
                  · exact .inl ⟨z, ne⟩
                  · exact .inr z
                · rintro (z | z)
                  · exact ⟨.inl z.1, z.2⟩
                  · exact ⟨.inr z, fun y => ca (y.symm.trans z)⟩
            | false => exact ⟨h.1.imp up, ih e na h.2⟩
        refine key (fun b => ?_) (fun z => z.2 rfl) h2
        constructor
        · intro z
          by_cases y : b = a
          · exact .inr y
          · exact .inl ⟨z, y⟩
        · rintro (z | z)
          · exact z.1
          · rw [z]; exact g
      obtain ⟨E2, o2, io2⟩ := sets_ok E1 p2 e9
      refine ⟨E2, fun b z => ?_, fun j d' hj => ?_⟩
      · rcases o2 b z with y | y
        · rcases t1 b y with y | y
          · exact .inl y
          · exact .inr ⟨y ▸ g, y ▸ ngi⟩
        · exact .inr ⟨y.1, fun w => y.2 (.inl w)⟩
      · obtain ⟨y1, y2⟩ := t2 j d' hj
        obtain ⟨y3, y4⟩ := io2 j d' y1
        exact ⟨y3, y4.trans y2⟩

/-- several values, one by one -/
def tPs (Φ : Phi) (K : Frag) (es : Es) (os : List Bool) : TA := fun σ H Q => ∃ (G N : Addr → Prop) (env : DEnv) (Q' : List D → DEnv → Prop), EnvOk K G N H σ env ∧ rdPs Φ es os env Q' ∧
  ∀ ds env' vs H' Gi, Q' ds env' → Stp σ H env false H' env' → EnvOk K Gi N H' σ env' → Pend K N σ H' env' Gi G os ds vs → (∀ b u, H b = some u → ¬ Own env σ b → G b → Gi b) → Q vs H'
theorem EnvOk.withN {N' : Addr → Prop} (E : EnvOk K G N H σ env) (hO : ∀ a, Own env σ a → N a → N' a) (hn : ∀ a, H a = none → N' a) : EnvOk K G N' H σ env :=
  ⟨E.len, fun b e => ⟨(E.new b e).1, hn b e⟩, E.frz, fun j d hj => by
    obtain ⟨a, e1, g, n, o⟩ := E.own j d hj
    exact ⟨a, e1, g, hO a ⟨j, d, .inl hj, e1⟩ n, o⟩, E.io, E.dis⟩
theorem EnvOk.wideN {N' : Addr → Prop} (E : EnvOk K G N H σ env) (h : ∀ a, N a → N' a) : EnvOk K G N' H σ env := ⟨E.len, fun b e => ⟨(E.new b e).1, h b (E.new b e).2⟩, E.frz, fun j d hj => by
    obtain ⟨a, e1, g, n, o⟩ := E.own j d hj
    exact ⟨a, e1, g, h a n, o⟩, E.io, E.dis⟩
theorem snil_sound {Φ : Phi} {X : Cx} {os : List Bool} : PA X [] (tPs Φ X.K .nil os) := by
  refine pa_of pa_nil fun σ H Q ⟨G, N, env, Q', E, rd, fin⟩ => ?_
  cases os with
  | nil =>
    simp only [rdPs] at rd
    exact fin _ _ _ _ G rd Stp.refl.weak E ⟨rfl, rfl, fun _ => Iff.rfl⟩ fun _ _ _ _ z => z
  | cons _ _ =>
    simp only [rdPs] at rd
theorem scons_sound {Φ : Phi} {X : Cx} {e : DL.E} {es : Es} {a : Expr} {as : List Expr} {ow : Bool} {os : List Bool} (he : PE X a (tE Φ X.K e)) (hs : PA X as (tPs Φ X.K es os)) (st : starEach (a :: as) X.env = (false, eval a X.env) :: starEach as X.env) :
    PA X (a :: as) (tPs Φ X.K (.cons e es) (ow :: os)) := by
  refine pa_of (pa_cons he hs st) fun σ H Q ⟨G, N, env, Q', E, rd, fin⟩ => ?_
  simp only [rdPs] at rd
  have E0 : EnvOk X.K G (fun b => N b ∧ (Own env σ b ∨ H b = none)) H σ env := E.withN (fun a h n => ⟨n, .inl h⟩) fun a h => ⟨(E.new a h).2, .inr h⟩
  refine ⟨G, _, env, _, E0, rd, fun k d env1 v H1 ⟨hk, rd1⟩ p1 => ?_⟩
  cases ow with
  | true =>
    rw [if_pos rfl] at hk
    subst hk
    obtain ⟨a, rfl, f⟩ := p1.r
    refine ⟨fun b => G b ∧ b ≠ a, N, env1, _, f.ok.wideN fun b z => z.1, rd1, fun ds env2 vs H2 Gi hQ s2 E2 p2 kp => ?_⟩
    refine fin _ _ _ _ Gi hQ ((p1.s.trans s2).imp fun z => nomatch z) E2 ⟨d, ds, _, vs, rfl, rfl, ?_⟩ fun b u e n g => ?_
    · rw [if_pos rfl]
      exact ⟨a, rfl, f.g, f.n.1, fun z => f.no (s2.own a z), f.ob.imp (fun b u e z => ⟨s2.step b u e z.2, kp b u e z.2 z.1, fun y => z.2 (s2.own b y)⟩) fun u e => s2.step a u e f.no, p2⟩
    · refine kp b u (p1.s.step b u e n) (fun z => n (p1.s.own b z)) ⟨g, fun z => ?_⟩
      subst z
      rcases f.n.2 with y | y
      · exact n y
      · rw [e] at y; cases y
  | false =>
    rw [if_neg Bool.false_ne_true] at hk
    refine ⟨G, N, env1, _, p1.ok.wideN fun b z => z.1, rd1, fun ds env2 vs H2 Gi hQ s2 E2 p2 kp => ?_⟩
    refine fin _ _ _ _ Gi hQ ((p1.s.trans s2).imp fun z => nomatch z) E2 ⟨d, ds, _, vs, rfl, rfl, ?_⟩ fun b u e n g => kp b u (p1.s.step b u e n) (fun z => n (p1.s.own b z)) g
    rw [if_neg Bool.false_ne_true]
    exact ⟨(p1.rep.z hk).imp fun b u e z => ⟨s2.step b u e z.2, kp b u e z.2 z.1, fun y => z.2 (s2.own b y)⟩, p2⟩
end
end DL

/-! DL16: checked statements do what their reading says. -/
namespace DL
open PySem PySem.Spec PyProof.Rows L2

/-- where a body's statements stand -/
structure BCtx (X : Cx) (Γ : GEnv) (Φ : Phi) (k : Nat) (N : List Str) (sc : Scope) : Prop extends CtxOk X Γ Φ k N sc where
  fn : ∀ x, X.fn x = true
  kind : sc.kind = .function
  pass : PassesOwn (model X.prog X.w) X.A X.env X.xe

structure EndsOk (K : Frag) (G N : Addr → Prop) (σ : L2.St) (H : Hp) (env : DEnv) (R : DEnds) (D : Ends) : Prop where
  nx : ∀ env' σ' H', R.nx env' → SStp σ H env σ' H' env' → EnvOk K G N H' σ' env' → D.nx σ' H'
  rt : ∀ k d env' v σ' H', R.rt k d env' → SStp σ H env σ' H' env' → Res K G N σ' k H' env' d v → D.rt v H'
  bk : ∀ env' σ' H', R.bk env' → SStp σ H env σ' H' env' → EnvOk K G N H' σ' env' → D.bk σ' H'
  ct : ∀ env' σ' H', R.ct env' → SStp σ H env σ' H' env' → EnvOk K G N H' σ' env' → D.ct σ' H'
def tS (Φ : Phi) (K : Frag) (s : DL.S) : TS := fun D σ H => ∃ (G N : Addr → Prop) (env : DEnv) (R : DEnds), EnvOk K G N H σ env ∧ rdS Φ s env R ∧ EndsOk K G N σ H env R D
def tSs (Φ : Phi) (K : Frag) (s : Ss) : TS := fun D σ H => ∃ (G N : Addr → Prop) (env : DEnv) (R : DEnds), EnvOk K G N H σ env ∧ rdSs Φ s env R ∧ EndsOk K G N σ H env R D

section
variable {Φ : Phi} {X : Cx} {G N : Addr → Prop} {σ σ1 σ2 : L2.St} {H H1 H2 : Hp} {env env1 env2 : DEnv} {p q : Bool} {R : DEnds} {D : Ends}
theorem EndsOk.after (F : EndsOk X.K G N σ H env R D) (s : SStp σ H env σ1 H1 env1) : EndsOk X.K G N σ1 H1 env1 R D :=
  ⟨fun _ _ _ h t E => F.nx _ _ _ h (s.trans t) E, fun _ _ _ _ _ _ h t E => F.rt _ _ _ _ _ _ h (s.trans t) E, fun _ _ _ h t E => F.bk _ _ _ h (s.trans t) E, fun _ _ _ h t E => F.ct _ _ _ h (s.trans t) E⟩
theorem ps_ofD {st : Stmt} {t t' : TS} (h : PS X st t) (i : ∀ D σ H, t' D σ H → t D σ H) : PS X st t' := ⟨fun pins s σ H D I q => h.run pins s σ H D I (i D σ H q)⟩
theorem pss_ofD {st : List Stmt} {t t' : TS} (h : PSs X st t) (i : ∀ D σ H, t' D σ H → t D σ H) : PSs X st t' := ⟨fun pins s σ H D I q => h.run pins s σ H D I (i D σ H q)⟩

/-! ### stores -/
theorem asg_reads {i : Nat} {ow : Bool} {e : DL.E} (h : tS Φ X.K (.asg i ow e) D σ H) : tAsg (tE Φ X.K e) (gName i) D σ H := by
  obtain ⟨G, N, env, R, E, rd, fin⟩ := h
  simp only [rdS] at rd
  have E0 : EnvOk X.K G (fun b => N b ∧ (Own env σ b ∨ H b = none)) H σ env := E.withN (fun a h n => ⟨n, .inl h⟩) fun a h => ⟨(E.new a h).2, .inr h⟩
  refine ⟨G, _, env, _, E0, rd, fun k d env1 v H1 ⟨env2, ha, hR⟩ p1 => ?_⟩
  have fz : k ≠ .b → setD env1 i (.frz d) = some env2 → D.nx (σ.set i (some v)) H1 := fun hk hs => by
    obtain ⟨E2, t⟩ := set_frz p1.ok hs (p1.rep.z hk)
    exact fin.nx _ _ _ hR (p1.s.ss.trans t.ss) (E2.wideN fun b z => z.1)
  cases ow with
  | false =>
    cases k with
    | b => simp only [asgD, reduceCtorEq] at ha
    | z => exact fz (fun z => nomatch z) (by simpa only [asgD] using ha)
    | t => exact fz (fun z => nomatch z) (by simpa only [asgD] using ha)
  | true =>
    cases k with
    | b => simp only [asgD, reduceCtorEq] at ha
    | z => simp only [asgD, reduceCtorEq] at ha
    | t =>
      simp only [asgD] at ha
      obtain ⟨s, a, rfl, f⟩ := p1
      obtain ⟨E2, o2, io2⟩ := set_own f.ok ha f.g f.n f.no f.ob
      refine fin.nx _ _ _ hR ⟨s.step, fun b z => ?_, s.trk, fun j d' hj => ?_⟩ (E2.wideN fun b z => z.1)
      · rcases o2 b z with y | y
        · exact .inl (s.own b y)
        · exact y ▸ f.n.2
      · obtain ⟨d1, e1⟩ := s.io j d' hj
        obtain ⟨y1, y2⟩ := io2 j d1 e1
        exact ⟨d1, y1, y2⟩
theorem asgT_reads {ts : DL.Ts} {e : DL.E} (h : tS Φ X.K (.asgT ts e) D σ H) : tAsg (tE Φ X.K e) (gT X.K (.tp ts)) D σ H := by
  obtain ⟨G, N, env, R, E, rd, fin⟩ := h
  simp only [rdS] at rd
  refine ⟨G, N, env, _, E, rd, fun k d env1 v H1 ⟨hk, env2, ht, hR⟩ p1 => ?_⟩
  exact tg_reads p1.ok ht (p1.rep.z hk) fun σ2 E2 t => fin.nx _ _ _ hR (p1.s.ss.trans t.ss) E2

/-- several names at once; one more object may stand (the tuple) -/
def tParN (js : List Nat) (ta : TA) : TS := fun D σ H => ta σ H fun vs H1 => vs.length = js.length ∧ ∀ H2, (∀ b o, H1 b = some o → H2 b = some o) → D.nx (setsS σ js vs) H2
theorem Pend.lens {Gi : Addr → Prop} : ∀ {os : List Bool} {Go : Addr → Prop} {ds : List DL.D} {vs : List V}, Pend X.K N σ H env Gi Go os ds vs → vs.length = os.length
  | [], _, _, _, h => by rw [h.2.1]; rfl
  | ow :: os, Go, ds, vs, h => by
    obtain ⟨d, dr, v, vr, rfl, rfl, h⟩ := h
    cases ow with
    | true =>
      obtain ⟨a, _, _, _, _, _, h⟩ := h
      rw [List.length_cons, h.lens]; rfl
    | false => rw [List.length_cons, Pend.lens h.2]; rfl
theorem Pend.grow {Gi : Addr → Prop} {H' : Hp} (gr : ∀ b u, H b = some u → H' b = some u) : ∀ {os : List Bool} {Go : Addr → Prop} {ds : List DL.D} {vs : List V}, Pend X.K N σ H env Gi Go os ds vs → Pend X.K N σ H' env Gi Go os ds vs
  | [], _, _, _, h => h
  | ow :: os, Go, ds, vs, h => by
    obtain ⟨d, dr, v, vr, rfl, rfl, h⟩ := h
    refine ⟨d, dr, v, vr, rfl, rfl, ?_⟩
    cases ow with
    | true =>
      obtain ⟨a, e, g, n, no, o, h⟩ := h
      exact ⟨a, e, g, n, no, o.imp (fun b u e z => ⟨gr b u e, z⟩) fun u e => gr a u e, h.grow gr⟩
    | false => exact ⟨h.1.imp fun b u e z => ⟨gr b u e, z⟩, Pend.grow gr h.2⟩
theorem Pend.fresh {Gi : Addr → Prop} : ∀ {os : List Bool} {Go : Addr → Prop} {ds : List DL.D} {vs : List V} {b : Addr}, Pend X.K N σ H env Gi Go os ds vs → Go b → ¬ Gi b → N b
  | [], _, _, _, b, h, g, n => absurd ((h.2.2 b).mp g) n
  | ow :: os, Go, ds, vs, b, h, g, n => by
    obtain ⟨d, dr, v, vr, rfl, rfl, h⟩ := h
    cases ow with
    | true =>
      obtain ⟨a, e, ga, na, no, o, h⟩ := h
      by_cases y : b = a
      · exact y ▸ na
      · exact h.fresh ⟨g, y⟩ n
    | false => exact Pend.fresh h.2 g n
theorem par_reads {is : List (Nat × Bool)} {es : Es} (h : tS Φ X.K (.par is es) D σ H) : tParN (is.map (·.1)) (tPs Φ X.K es (is.map (·.2))) D σ H := by
  obtain ⟨G, N, env, R, E, rd, fin⟩ := h
  simp only [rdS] at rd
  have E0 : EnvOk X.K G (fun b => N b ∧ (Own env σ b ∨ H b = none)) H σ env := E.withN (fun a h n => ⟨n, .inl h⟩) fun a h => ⟨(E.new a h).2, .inr h⟩
  refine ⟨G, _, env, _, E0, rd, fun ds env1 vs H1 Gi ⟨env2, hs, hR⟩ s1 E1 p1 kp => ⟨by rw [p1.lens, List.length_map, List.length_map], fun H2 gr => ?_⟩⟩
  obtain ⟨E2, o2, io2⟩ := sets_ok (E1.grow gr) (p1.grow gr) hs
  refine fin.nx _ _ _ hR ⟨fun a o e n => gr a o (s1.step a o e n), fun b z => ?_, fun b z e => ?_, fun j d' hj => ?_⟩ (E2.wideN fun b z => z.1)
  · rcases o2 b z with y | y
    · exact .inl (s1.own b y)
    · exact (p1.fresh y.1 y.2).2
  · cases q : H1 b with
    | none => exact s1.trk b z q
    | some u => rw [gr b u q] at e; cases e
  · obtain ⟨d1, e1⟩ := s1.io j d' hj
    obtain ⟨y1, y2⟩ := io2 j d1 e1
    exact ⟨d1, y1, y2⟩

/-! ### a list of one's own changes -/
theorem own_back {i : Nat} {d : DL.D} (s : Stp σ H env p H1 env1) (h : ownD env1 i = some d) : ∃ d0, ownD env i = some d0 := by
  unfold ownD at h
  split at h <;> cases h
  · rename_i e
    obtain ⟨d0, e0⟩ := s.si i ⟨_, e⟩
    exact ⟨d0, by unfold ownD; rw [e0]⟩
  · rename_i e
    obtain ⟨d0, e0⟩ := s.sl i ⟨_, e⟩
    exact ⟨d0, by unfold ownD; rw [e0]⟩
theorem own_list {ds : List DL.D} {a : Addr} {P : Addr → Prop} (o : OwnO X.K H P a (.list ds)) : ∃ xs, H a = some (.lst xs) ∧ Reps X.K H P ds xs := by
  rcases o with ⟨ds', xs, e, q, r⟩ | ⟨kvs, ks, e, q, r⟩
  · cases e; exact ⟨xs, q, r⟩
  · cases e
theorem own_list' {d : DL.D} {a : Addr} {P : Addr → Prop} (o : OwnO X.K H P a d) (hl : ∃ ds, d = .list ds) : ∃ xs, H a = some (.lst xs) := by
  obtain ⟨ds, rfl⟩ := hl
  obtain ⟨xs, h, _⟩ := own_list o
  exact ⟨xs, h⟩
/-- the list at a, the name i's, has new items -/
theorem chg {i : Nat} {a : Addr} {ds' : List DL.D} {xs' : List V} (E : EnvOk X.K G N H σ env) (ea : σ[i]? = some (some (.ref a))) (ho : ownD env i ≠ none) (hp : putD env i (.list ds') = some env2) (r : Reps X.K H (fun b => G b ∧ ¬ Own env σ b) ds' xs') :
    EnvOk X.K G N (upd H a (.lst xs')) σ env2 ∧ Stp σ H env false (upd H a (.lst xs')) env2 := by
  have gr : ∀ b o, H b = some o → b ≠ a → upd H a (.lst xs') b = some o := fun b o e ne => by rw [upd_ne ne]; exact e
  have isO : Own env σ a := by
    unfold putD at hp
    split at hp <;> cases hp
    · rename_i e; exact ⟨i, _, .inr e, ea⟩
    · rename_i e; exact ⟨i, _, .inl e, ea⟩
  refine ⟨E.put hp ea gr (.inl ⟨ds', xs', rfl, upd_same, r.imp fun b u e z => ⟨gr b u e fun y => z.2 (y ▸ isO), z.1, fun y => z.2 ((put_own hp b).mp y)⟩⟩) (fun _ _ _ z => z) fun b _ z => (E.new b z).1, put_step E hp ea gr (by rw [upd_same]; exact fun z => nomatch z)⟩
theorem setv_reads {i : Nat} {ie e : DL.E} (h : tS Φ X.K (.setv i ie e) D σ H) : tAsg (tE Φ X.K e) (gSub (tVar i) (tE Φ X.K ie) rSetL) D σ H := by
  obtain ⟨G, N, env, R, E, rd, fin⟩ := h
  simp only [rdS] at rd
  obtain ⟨h0, rd⟩ := rd
  obtain ⟨d0, h0⟩ := Option.isSome_iff_exists.mp h0
  obtain ⟨a, ea, _, _⟩ := own_at E h0
  refine ⟨G, N, env, _, E, rd, fun k d env1 v H1 rd1 p1 => ⟨.ref a, ea, ?_⟩⟩
  refine ⟨G, N, env1, _, p1.ok, rd1, fun k2 y env2 w H2 ⟨hk, ds, n, j, env3, ho, hy, hj, hp, hR⟩ p2 => ?_⟩
  subst hy
  obtain ⟨a', ea', ow, o⟩ := own_at p2.ok ho
  rw [ea] at ea'; cases ea'
  obtain ⟨xs, hl, r⟩ := own_list o
  have rv := carryZ p2.s (p1.rep.z hk)
  obtain ⟨E3, s3⟩ := chg p2.ok ea (by rw [ho]; exact fun z => nomatch z) hp (r.set rv)
  exact ⟨a, xs, n, j, rfl, p2.rep.wide.int_inv, hl, by rw [r.length]; exact hj, fin.nx _ _ _ hR ((p1.s.ss.trans p2.s.ss).trans s3.ss) E3⟩
theorem aug_reads {i : Nat} {o : B2} {e : DL.E} {f : Int → Int → Int} (hf : ∀ x j r, augI o x j = some r → r = f x j) (h : tS Φ X.K (.aug i o e) D σ H) : tAug i (tE Φ X.K e) (ipI f) D σ H := by
  obtain ⟨G, N, env, R, E, rd, fin⟩ := h
  simp only [rdS] at rd
  obtain ⟨x, hx, rd⟩ := rd
  obtain ⟨v, ev, rv⟩ := E.frz i _ hx
  refine ⟨.int x, by rw [ev, rv.int_inv], G, N, env, _, E, rd, fun k y env1 w H1 ⟨j, r, env2, hy, hr, hs, hR⟩ p1 => ?_⟩
  subst hy
  obtain ⟨E2, t⟩ := set_frz p1.ok hs (v := .int r) .int_
  exact ⟨x, j, rfl, p1.rep.wide.int_inv, by rw [← hf x j r hr]; exact fin.nx _ _ _ hR (p1.s.ss.trans t.ss) E2⟩
def ipM : TIp := fun x y H Q => ∃ i j, x = .int i ∧ y = .int j ∧ CMulW i j ∧ Q (.int (i * j)) H
theorem ip_mulW : PIp X .Mult ipM := by
  intro pins s σ H x y v u Q I r1 r2 h
  obtain ⟨i, j, e1, e2, hc, q⟩ := h
  subst e1; subst e2
  obtain ⟨t, rfl⟩ := r1
  obtain ⟨t', rfl⟩ := r2
  exact imul_int (hm := hc.ok) ⟨.int _, H, I.tok _, ⟨_, rfl⟩, q⟩
theorem augM_reads {i : Nat} {e : DL.E} (h : tS Φ X.K (.aug i .mul e) D σ H) : tAug i (tE Φ X.K e) ipM D σ H := by
  obtain ⟨G, N, env, R, E, rd, fin⟩ := h
  simp only [rdS] at rd
  obtain ⟨x, hx, rd⟩ := rd
  obtain ⟨v, ev, rv⟩ := E.frz i _ hx
  refine ⟨.int x, by rw [ev, rv.int_inv], G, N, env, _, E, rd, fun k y env1 w H1 ⟨j, r, env2, hy, hr, hs, hR⟩ p1 => ?_⟩
  subst hy
  simp only [augI] at hr
  split at hr
  · rename_i hc
    cases hr
    obtain ⟨E2, t⟩ := set_frz p1.ok hs (v := .int (x * j)) .int_
    exact ⟨x, j, rfl, p1.rep.wide.int_inv, hc, fin.nx _ _ _ hR (p1.s.ss.trans t.ss) E2⟩
  · cases hr
/-- the dict at a, the name i's, has new entries -/
theorem chgT {i : Nat} {a : Addr} {l : List (List Int × DL.D)} {l' : List (List Key × V)} (E : EnvOk X.K G N H σ env) (ea : σ[i]? = some (some (.ref a))) (hp : putD env i (dT l) = some env2) (r : RT X.K H (fun b => G b ∧ ¬ Own env σ b) l l') :
    EnvOk X.K G N (upd H a (.dT l')) σ env2 ∧ Stp σ H env false (upd H a (.dT l')) env2 := by
  have gr : ∀ b o, H b = some o → b ≠ a → upd H a (.dT l') b = some o := fun b o e ne => by rw [upd_ne ne]; exact e
  have isO : Own env σ a := by
    unfold putD at hp
    split at hp <;> cases hp
    · rename_i e; exact ⟨i, _, .inr e, ea⟩
    · rename_i e; exact ⟨i, _, .inl e, ea⟩
  refine ⟨E.put hp ea gr (dT_to upd_same (r.imp fun b u e z => ⟨gr b u e fun y => z.2 (y ▸ isO), z.1, fun y => z.2 ((put_own hp b).mp y)⟩)) (fun _ _ _ z => z) fun b _ z => (E.new b z).1, put_step E hp ea gr (by rw [upd_same]; exact fun z => nomatch z)⟩
theorem dputT_reads {i : Nat} {es : Es} {v : DL.E} (h : tS Φ X.K (.dputT i es v) D σ H) : sDPut (tVar i) (tTup (tEs Φ X.K es)) (tE Φ X.K v) D σ H := by
  obtain ⟨G, N, env, R, E, rd, fin⟩ := h
  simp only [rdS] at rd
  obtain ⟨h0, rd⟩ := rd
  obtain ⟨d0, h0⟩ := Option.isSome_iff_exists.mp h0
  obtain ⟨a, ea, _, _⟩ := own_at E h0
  refine ⟨G, N, env, _, E, rd, fun k d env1 v H1 rd1 p1 => ⟨.ref a, ea, ?_⟩⟩
  refine ⟨G, N, env1, _, p1.ok, rd1, fun k2 ds env2 vs H2 ⟨hk, ks, l, env3, ed, hz, ho, hl, hp, hR⟩ p2 => ?_⟩
  subst ed
  have ev : vs = ks.map V.int := Rep.ints p2.r.wide
  subst ev
  have hz2 : sizeLine ≥ 1000 := by decide
  refine ⟨by rw [List.length_map]; omega, fun t nt => ?_⟩
  have gr := grow_upd (o := HO.tup (ks.map V.int)) nt
  have E2 := p2.ok.grow gr
  obtain ⟨a', ea', ow, o⟩ := own_at E2 ho
  rw [ea] at ea'; cases ea'
  obtain ⟨l', ha, rt⟩ := dT_of o
  have rv := (carryZ p2.s (p1.rep.z hk)).imp (fun b u e z => ⟨gr b u e, z⟩)
  obtain ⟨E3, s3⟩ := chgT E2 ea hp (rt.put rv)
  exact ⟨a, _, rfl, DPut.t ha (by rw [kI_kV]; exact upd_same) (by rw [rt.length]; exact hl), fin.nx _ _ _ hR (((p1.s.ss.trans p2.s.ss).trans (SStp.grow gr)).trans s3.ss) E3⟩
theorem expr_reads {e : DL.E} (h : tS Φ X.K (.expr e) D σ H) : tDrop (tE Φ X.K e) D σ H := by
  obtain ⟨G, N, env, R, E, rd, fin⟩ := h
  simp only [rdS] at rd
  exact ⟨G, N, env, _, E, rd, fun k d env1 v H1 hR p1 => fin.nx _ _ _ hR p1.s.ss p1.ok⟩
theorem ret_reads {e : DL.E} (h : tS Φ X.K (.ret e) D σ H) : tRet (tE Φ X.K e) D σ H := by
  obtain ⟨G, N, env, R, E, rd, fin⟩ := h
  simp only [rdS] at rd
  exact ⟨G, N, env, _, E, rd, fun k d env1 v H1 hR p1 => fin.rt _ _ _ _ _ _ hR p1.s.ss p1.r⟩
theorem retN_reads (h : tS Φ X.K .retN D σ H) : tRetN D σ H := by
  obtain ⟨G, N, env, R, E, rd, fin⟩ := h
  simp only [rdS] at rd
  exact fin.rt _ _ _ _ _ _ rd SStp.refl (show Res X.K G N σ .z H env .none .non from ⟨E, (Rep.non_ : Rep X.K H (fun a => G a ∧ ¬ Own env σ a) .none .non)⟩)
/-- which method, by values -/
def rMm : Mm → V → List V → Hp → VK → Prop
  | .append => rAppend
  | .extend => rExtend
  | .remove => rRemI
theorem erase_ix : ∀ {ns : List Int} {i : Int}, i ∈ ns → ∃ j, ns[j]? = some i ∧ (∀ m : Nat, m < j → ns[m]? ≠ some i) ∧ ns.eraseIdx j = ns.erase i
  | [], i, h => by cases h
  | n :: ns, i, h => by
    by_cases e : n = i
    · subst e
      exact ⟨0, rfl, fun m hm => absurd hm (Nat.not_lt_zero m), by simp⟩
    · have h2 : i ∈ ns := (List.mem_cons.mp h).resolve_left fun z => e z.symm
      obtain ⟨j, h1, hn, hj⟩ := erase_ix h2
      refine ⟨j + 1, by simpa using h1, fun m hm => ?_, ?_⟩
      · cases m with
        | zero => simpa using e
        | succ m => simpa using hn m (by omega)
      · rw [List.eraseIdx_cons_succ, hj, List.erase_cons]
        simp [e]
theorem mut_reads {m : Mm} {i : Nat} {e : DL.E} (h : tS Φ X.K (.mut m i e) D σ H) : tDrop (tBM X.K "list" (rMm m) (tVar i) (tCons (tE Φ X.K e) tNil)) D σ H := by
  obtain ⟨G, N, env, R, E, rd, fin⟩ := h
  simp only [rdS] at rd
  obtain ⟨⟨ds0, h0⟩, rd⟩ := rd
  obtain ⟨a, ea, _, o0⟩ := own_at E h0
  obtain ⟨xs0, hl0, _⟩ := own_list o0
  refine ⟨.ref a, ea, .inl ⟨rfl, xs0, .of hl0⟩, G, N, env, _, E, rd, fun k y env1 v H1 ⟨hk, hext, ds, ds', env2, ho, hm, hp, hR⟩ p1 => ?_⟩
  obtain ⟨a', ea', ow, o⟩ := own_at p1.ok ho
  rw [ea] at ea'; cases ea'
  obtain ⟨xs, hl, r⟩ := own_list o
  have hne : ownD env1 i ≠ none := by rw [ho]; exact fun z => nomatch z
  have rv := p1.rep.z hk
  show rMm m (.ref a) [v] H1 _
  cases m with
  | append =>
    simp only [mutD] at hm
    split at hm <;> cases hm
    rename_i hz
    obtain ⟨E2, s2⟩ := chg p1.ok ea hne hp (r.append (.cons rv .nil))
    exact ⟨a, xs, v, rfl, rfl, hl, by rw [r.length]; exact hz, fin.nx _ _ _ hR (p1.s.ss.trans s2.ss) E2⟩
  | extend =>
    have ey : ∃ es, y = .list es := by cases y <;> simp only [mutD, reduceCtorEq] at hm <;> exact ⟨_, rfl⟩
    obtain ⟨es, rfl⟩ := ey
    simp only [mutD] at hm
    split at hm <;> cases hm
    rename_i hz
    have hkt := hext rfl
    subst hkt
    obtain ⟨b, rfl, f⟩ := p1.r
    obtain ⟨zs, hb, rz⟩ := own_list f.ob
    have rz2 : Reps X.K H1 (fun b => G b ∧ ¬ Own env1 σ b) es zs := rz.imp fun c u e z => ⟨e, z.1.1, z.2⟩
    obtain ⟨E2, s2⟩ := chg p1.ok ea hne hp (r.append rz2)
    exact ⟨a, b, xs, zs, rfl, rfl, hl, hb, by rw [r.length, rz2.length]; exact hz, fin.nx _ _ _ hR (p1.s.ss.trans s2.ss) E2⟩
  | remove =>
    have ey : ∃ z, y = .int z := by cases y <;> simp only [mutD, reduceCtorEq] at hm <;> exact ⟨_, rfl⟩
    obtain ⟨z, rfl⟩ := ey
    simp only [mutD] at hm
    split at hm
    · rename_i ns hns
      split at hm <;> cases hm
      rename_i hz
      have e1 : xs = ns.map .int := by
        have q := intsOf_some hns
        subst q
        exact Rep.ints r
      subst e1
      obtain ⟨j, h1, h2, h3⟩ := erase_ix hz
      obtain ⟨E2, s2⟩ := chg p1.ok ea hne hp (xs' := (ns.erase z).map .int) Rep.of_ints
      exact ⟨a, ns, z, j, rfl, by rw [rv.int_inv], hl, h1, h2, by rw [h3]; exact fin.nx _ _ _ hR (p1.s.ss.trans s2.ss) E2⟩
    · cases hm

/-! ### ifs and loops -/
theorem iff_reads {c : DL.E} {a b : Ss} (h : tS Φ X.K (.iff c a b) D σ H) : tIfS (tT Φ X.K c) (tSs Φ X.K a) (tSs Φ X.K b) D σ H := by
  obtain ⟨G, N, env, R, E, rd, fin⟩ := h
  simp only [rdS] at rd
  refine ⟨G, N, env, fun t env1 => if t = true then rdSs Φ a env1 R else rdSs Φ b env1 R, E, rd, fun t env1 H1 hR s E1 => ?_⟩
  cases t with
  | true =>
    rw [if_pos rfl] at hR ⊢
    exact ⟨G, N, env1, R, E1, hR, fin.after s.ss⟩
  | false =>
    rw [if_neg Bool.false_ne_true] at hR ⊢
    exact ⟨G, N, env1, R, E1, hR, fin.after s.ss⟩
theorem whl_reads {c : DL.E} {b : Ss} {wl : List Nat} (h : tS Φ X.K (.whl c b wl) D σ H) : tWhile (tT Φ X.K c) (tSs Φ X.K b) D σ H := by
  obtain ⟨G, N, env, R, E, rd, fin⟩ := h
  simp only [rdS] at rd
  obtain ⟨W, ⟨m0, w0⟩, turn⟩ := rd
  refine ⟨fun m σ' H' => ∃ envi, W m envi ∧ EnvOk X.K G N H' σ' envi ∧ SStp σ H env σ' H' envi, ⟨m0, wipeF env wl, w0, (wipeF_ok E wl).1, (wipeF_ok E wl).2⟩, fun m σ' H' ⟨envi, wi, Ei, si⟩ => ?_⟩
  refine ⟨G, N, envi, _, Ei, turn m envi wi, fun t env1 H1 hR s E1 => ?_⟩
  cases t with
  | true =>
    rw [if_pos rfl] at hR ⊢
    refine ⟨fun σ' H' => ∃ m', m' < m ∧ ∃ envi, W m' envi ∧ EnvOk X.K G N H' σ' envi ∧ SStp σ H env σ' H' envi, fun σ2 H2 ⟨m', hm, z⟩ => ⟨m', hm, z⟩, G, N, env1, _, E1, hR, ?_⟩
    have s1 := si.trans s.ss
    exact ⟨fun env2 σ2 H2 ⟨m', hm, w⟩ t E2 => ⟨m', hm, _, w, (wipeF_ok E2 wl).1, s1.trans (t.trans (wipeF_ok E2 wl).2)⟩, fun _ _ _ _ _ _ h t r => fin.rt _ _ _ _ _ _ h (s1.trans t) r, fun _ _ _ h t E2 => fin.nx _ _ _ h (s1.trans (t.trans (wipeF_ok E2 wl).2)) (wipeF_ok E2 wl).1,
      fun env2 σ2 H2 ⟨m', hm, w⟩ t E2 => ⟨m', hm, _, w, (wipeF_ok E2 wl).1, s1.trans (t.trans (wipeF_ok E2 wl).2)⟩⟩
  | false =>
    rw [if_neg Bool.false_ne_true] at hR ⊢
    exact fin.nx _ _ _ hR (si.trans s.ss) E1
theorem for_reads {t : DL.T} {it : DL.It} {b : Ss} {wl : List Nat} (h : tS Φ X.K (.forr t it b wl) D σ H) : tFor (tI Φ X.K it) (gT X.K t) (tSs Φ X.K b) D σ H := by
  obtain ⟨G, N, env, R, E, rd, fin⟩ := h
  simp only [rdS] at rd
  refine ⟨G, N, env, _, E, rd, fun k its env1 J H1 Live ⟨hk, W, w0, turn, done⟩ s1 E1 wk lv => ?_⟩
  have f1 := fin.after s1.ss
  refine ⟨fun i m σ' H' => m = its.length - i ∧ i ≤ its.length ∧ ∃ envi, W i envi ∧ EnvOk X.K G N H' σ' envi ∧ SStp σ H1 env1 σ' H' envi ∧ Live (fun a => (G a ∧ ¬ Own env1 σ a) ∧ H1 a ≠ none) H',
    ⟨_, rfl, Nat.zero_le _, _, w0, (wipeF_ok E1 wl).1, (wipeF_ok E1 wl).2, ?_⟩, ?_⟩
  · refine wk.mono _ _ _ _ lv fun b u e z => ⟨e, ?_, by rw [e]; exact fun z => nomatch z⟩
    cases k with
    | b => exact absurd rfl hk
    | z => exact z
    | t => exact z
  rintro i m σ' H' ⟨rfl, hi, envi, wi, Ei, si, li⟩
  by_cases hlt : i < its.length
  · refine .inr ⟨wk.go _ _ _ li hlt, fun σ5 H5 => ∃ envi, W (i + 1) envi ∧ EnvOk X.K G N H5 σ5 envi ∧ SStp σ H1 env1 σ5 H5 envi ∧ Live (fun a => (G a ∧ ¬ Own env1 σ a) ∧ H1 a ≠ none) H5, fun σ5 H5 h5 => ⟨_, by omega, rfl, hlt, h5⟩, fun x H2 y => ?_⟩
    obtain ⟨g2, d, hd, rx⟩ := wk.yld _ _ _ _ _ li hlt y
    obtain ⟨env2, ht, hc⟩ := turn i envi d hd wi
    have Ei2 := Ei.grow g2
    have noI : ∀ b, ((G b ∧ ¬ Own env1 σ b) ∧ H1 b ≠ none) → ¬ Own envi σ' b := fun b z y => by
      rcases si.own b y with w | w
      · exact z.1.2 w
      · exact z.2 w
    have rx2 : Rep X.K H2 (fun a => G a ∧ ¬ Own envi σ' a) d x := rx.mono fun b u e z => by
      rcases z with z | z
      · exact ⟨z.1.1, noI b z⟩
      · exact ⟨(Ei.new b z).1, Ei.new_own z⟩
    refine tg_reads Ei2 ht rx2 fun σ2 E2 ts => ?_
    have s2 : SStp σ H1 env1 σ2 H2 env2 := (si.trans (SStp.grow g2)).trans ts.ss
    have l2 : Live (fun a => (G a ∧ ¬ Own env1 σ a) ∧ H1 a ≠ none) H2 := wk.mono _ _ _ _ li fun b u e z => ⟨g2 b u e, z⟩
    have nx : ∀ env3 σ3 H3, W (i + 1) (wipeF env3 wl) → SStp σ2 H2 env2 σ3 H3 env3 → EnvOk X.K G N H3 σ3 env3 → ∃ envi, W (i + 1) envi ∧ EnvOk X.K G N H3 σ3 envi ∧ SStp σ H1 env1 σ3 H3 envi ∧ Live (fun a => (G a ∧ ¬ Own env1 σ a) ∧ H1 a ≠ none) H3 := fun env3 σ3 H3 w t E3 =>
      ⟨_, w, (wipeF_ok E3 wl).1, s2.trans (t.trans (wipeF_ok E3 wl).2), wk.mono _ _ _ _ l2 fun b u e z => ⟨t.step b u e fun y => by
        rcases s2.own b y with w | w
        · exact z.1.2 w
        · exact z.2 w, z⟩⟩
    exact ⟨G, N, env2, _, E2, hc, nx, fun _ _ _ _ _ _ h t r => f1.rt _ _ _ _ _ _ h (s2.trans t) r, fun _ _ _ h t E3 => f1.nx _ _ _ h (s2.trans (t.trans (wipeF_ok E3 wl).2)) (wipeF_ok E3 wl).1, nx⟩
  · have ei : i = its.length := by omega
    subst ei
    exact .inl ⟨wk.stop _ _ _ li (Nat.le_refl _), f1.nx _ _ _ (done envi wi) si Ei⟩

/-! ### blocks -/
theorem nil_reads (h : tSs Φ X.K .nil D σ H) : tNext D σ H := by
  obtain ⟨G, N, env, R, E, rd, fin⟩ := h
  simp only [rdSs] at rd
  exact fin.nx _ _ _ rd SStp.refl E
theorem cons_reads {s : DL.S} {ss : Ss} (h : tSs Φ X.K (.cons s ss) D σ H) : tSeq (tS Φ X.K s) (tSs Φ X.K ss) D σ H := by
  obtain ⟨G, N, env, R, E, rd, fin⟩ := h
  simp only [rdSs] at rd
  exact ⟨G, N, env, _, E, rd, fun env' σ' H' h t E' => ⟨G, N, env', R, E', h, fin.after t⟩, fin.rt, fin.bk, fin.ct⟩
theorem frz_reads {i : Nat} {ss : Ss} (h : tSs Φ X.K (.frz i ss) D σ H) : tSs Φ X.K ss D σ H := by
  obtain ⟨G, N, env, R, E, rd, fin⟩ := h
  simp only [rdSs] at rd
  obtain ⟨d, hd, rd⟩ := rd
  exact ⟨G, N, _, R, (frz_ok E hd).1, rd, fin.after (frz_ss E hd)⟩
end
end DL

/-! DL31: counts under tuple keys, items of a dict made just now. -/
namespace DL
open PySem PySem.Spec PyProof.Rows L2
section
variable {K : Frag} {G G2 N : Addr → Prop} {σ : L2.St} {H H' : Hp} {P P' : Addr → Prop} {env env1 env2 : DEnv}
theorem res_less {k : Kd} {d : D} {v : V} (h : ∀ b, G b → G2 b) (r : Res K G N σ k H env d v) : Res K G2 N σ k H env d v := by
  have up : ∀ b u, H b = some u → (G b ∧ ¬ Own env σ b) → (G2 b ∧ ¬ Own env σ b) := fun b u e z => ⟨h b z.1, z.2⟩
  cases k with
  | z =>
    obtain ⟨E, q⟩ := r
    exact ⟨E.less (fun b u e z => h b z) fun b e => h b (E.new b e).1, Rep.mono up q⟩
  | b =>
    obtain ⟨E, q⟩ := r
    refine ⟨E.less (fun b u e z => h b z) fun b e => h b (E.new b e).1, Rep.mono (fun b u e z => ?_) q⟩
    exact z.imp (up b u e) fun y => y
  | t =>
    obtain ⟨a, e, f⟩ := r
    exact ⟨a, e, h a f.g, f.n, f.no, f.ob.imp (fun b u e z => ⟨e, ⟨h b z.1.1, z.1.2⟩, z.2⟩) (fun u e => e), f.ok.less (fun b u e z => ⟨h b z.1, z.2⟩) fun b e => ⟨h b (f.ok.new b e).1.1, (f.ok.new b e).1.2⟩⟩
theorem RT.at : ∀ {l : List (List Int × D)} {l' : List (List Key × V)} {i : Nat} {p : List Int × D}, RT K H P l l' → l[i]? = some p → ∃ v, l'[i]? = some (kI p.1, v) ∧ Rep K H P p.2 v
  | [], _, _, _, _, e => by cases e
  | p :: l, _, 0, _, q, e => by
    obtain ⟨v, r, rfl, a, b⟩ := q
    cases e
    exact ⟨v, rfl, a⟩
  | p :: l, _, i + 1, _, q, e => by
    obtain ⟨v, r, rfl, a, b⟩ := q
    exact b.at (i := i) (by simpa using e)
theorem setD_lt {i : Nat} {s : Slot} (h : setD env i s = some env2) : i < env.length := by
  unfold setD at h
  split at h
  · cases h
  · rename_i e; exact (List.getElem?_eq_some_iff.mp e).1
  · cases h
theorem t3_reads {a b c : Nat} {x y m : Int} {T q : Addr} {Q : L2.St → Hp → Prop} (E : EnvOk K G N H σ env) (h : tgD (T3 a b c) (.tuple [.tuple [.int x, .int y], .int m]) env = some env2)
    (hT : H T = some (.tup [.ref q, .int m])) (hq : H q = some (.tup [.int x, .int y])) (fin : ∀ σ', EnvOk K G N H σ' env2 → TgSt σ env (T3 a b c).names σ' env2 → Q σ' H) : gT K (T3 a b c) (.ref T) σ H Q := by
  unfold T3 at h
  simp only [tgD, tgsD] at h
  obtain ⟨e2, h, h3⟩ := Option.bind_eq_some_iff.mp h
  obtain ⟨e3, h3, h4⟩ := Option.bind_eq_some_iff.mp h3
  obtain ⟨e1, h1, h2⟩ := Option.bind_eq_some_iff.mp h
  obtain ⟨e4, h5, h6⟩ := Option.bind_eq_some_iff.mp h2
  cases h4
  cases h6
  have tT : TN K H (fun _ => True) T [.ref q, .int m] := .inl ⟨hT, trivial⟩
  have tq : TN K H (fun _ => True) q [.int x, .int y] := .inl ⟨hq, trivial⟩
  obtain ⟨E1, s1⟩ := set_frz E h1 (v := .int x) .int_
  obtain ⟨E2, s2⟩ := set_frz E1 h5 (v := .int y) .int_
  obtain ⟨E3, s3⟩ := set_frz E2 h3 (v := .int m) .int_
  refine .inl ⟨T, _, rfl, tT.sq, rfl, _, _, rfl, .inl ⟨q, _, rfl, tq.sq, rfl, _, _, rfl, ?_⟩⟩
  refine ⟨_, _, rfl, rfl, ?_⟩
  refine ⟨_, _, rfl, rfl, ?_⟩
  exact fin _ E3 ((s1.trans s2).trans s3)
end
section
variable {Φ : Phi} {X : Cx} {G N : Addr → Prop} {σ σ1 σ2 : L2.St} {H H1 H2 : Hp} {env env1 env2 : DEnv} {p q : Bool} {R : DEnds} {D : Ends}
theorem cnt_reads {i j : Nat} {es : Es} {ss : Ss} (h : tSs Φ X.K (.cntT i j es ss) D σ H) :
    tSeq (tAsg (tTup (tEs Φ X.K es)) (gName j)) (tSeq (sDPut (tVar i) (tVar j) (tAdd (tDGet2 (tVar i) (tVar j) (tC (.int 0))) (tC (.int 1)))) (tSs Φ X.K ss)) D σ H := by
  obtain ⟨G, N, env, R, E, rd, fin⟩ := h
  simp only [rdSs] at rd
  refine ⟨G, N, env, _, E, rd, fun k ds env1 vs H1 ⟨ks, l, m, env2, env3, ed, hz, hs, ho, hij, hl, hg, hp, hR⟩ p1 => ?_⟩
  subst ed
  have ev : vs = ks.map V.int := Rep.ints p1.r.wide
  subst ev
  have hz2 : sizeLine ≥ 1000 := by decide
  refine ⟨by rw [List.length_map]; omega, fun t nt => ?_⟩
  have gr := grow_upd (o := HO.tup (ks.map V.int)) nt
  have E2 := p1.ok.grow gr
  have rt : Rep X.K (upd H1 t (.tup (ks.map V.int))) (fun a => G a ∧ ¬ Own env1 σ a) (.tuple (ks.map .int)) (.ref t) := by
    unfold Rep
    exact ⟨t, _, rfl, .inl ⟨upd_same, (p1.ok.new t nt).1, p1.ok.new_own nt⟩, Rep.of_ints⟩
  obtain ⟨E3, ts⟩ := set_frz E2 hs rt
  have hj : j < σ.length := by rw [E2.len]; exact setD_lt hs
  have ej : (σ.set j (some (V.ref t)))[j]? = some (some (.ref t)) := List.getElem?_set_self hj
  obtain ⟨a, ea, ow, o⟩ := own_at E3 ho
  obtain ⟨l', ha, rtl⟩ := dT_of o
  have kt : upd H1 t (HO.tup (ks.map V.int)) t = some (.tup ((kI ks).map kV)) := by rw [kI_kV]; exact upd_same
  refine ⟨.ref a, ea, a, rfl, .inr ⟨l', .inl ha⟩, .ref t, ej, valV l' (kI ks), DGet.t ha kt, ?_⟩
  rw [rtl.getI ks 0 m hg]
  refine ⟨m, 1, rfl, rfl, .ref a, ea, .ref t, ej, ?_⟩
  obtain ⟨E4, s4⟩ := chgT E3 ea hp (rtl.put .int_)
  exact ⟨a, _, rfl, DPut.t ha kt (by rw [rtl.length]; exact hl), G, N, env3, R, E4, hR, fin.after (((p1.s.ss.trans (SStp.grow gr)).trans ts.ss).trans s4.ss)⟩
theorem ford_reads {a b c : Nat} {e : DL.E} {bd : Ss} {wl : List Nat} (h : tS Φ X.K (.ford a b c e bd wl) D σ H) : tFor (ZD.iItemsT (tE Φ X.K e)) (gT X.K (T3 a b c)) (tSs Φ X.K bd) D σ H := by
  obtain ⟨G, N, env, R, E, rd, fin⟩ := h
  simp only [rdS] at rd
  have E0 : EnvOk X.K G (fun b => N b ∧ (Own env σ b ∨ H b = none)) H σ env := E.withN (fun a h n => ⟨n, .inl h⟩) fun a h => ⟨(E.new a h).2, .inr h⟩
  refine ⟨G, _, env, _, E0, rd, fun k x env1 v H1 ⟨hk, l, ex, W, w0, turn, done⟩ p1 => ?_⟩
  subst hk ex
  obtain ⟨d, rfl, f⟩ := p1.r
  obtain ⟨l', hd, rt⟩ := dT_of f.ob
  refine ⟨d, l', rfl, hd, fun o => ?_⟩
  have h2d : upd H1 d (HO.frz o (.dT l')) d = some (.frz o (.dT l')) := upd_same
  have h2n : ∀ b u, H1 b = some u → b ≠ d → upd H1 d (HO.frz o (.dT l')) b = some u := fun b u e ne => by rw [upd_ne ne]; exact e
  generalize upd H1 d (HO.frz o (.dT l')) = H2 at h2d h2n
  have Ef : EnvOk X.K (fun b => G b ∧ b ≠ d) N H2 σ env1 := (f.ok.side h2n (fun z => z.2 rfl) f.no (by rw [h2d]; exact fun z => nomatch z)).wideN fun b z => z.1
  have s1 : SStp σ H env σ H2 env1 := by
    refine ⟨fun b u e no => h2n b u (p1.s.ss.step b u e no) fun y => ?_, p1.s.ss.own, fun b e => ?_, p1.s.ss.io⟩
    · subst y
      rcases f.n.2 with w | w
      · exact no w
      · rw [w] at e; cases e
    · have z := p1.s.ss.trk b e
      cases q : H1 b with
      | none => exact absurd q z
      | some u =>
        by_cases y : b = d
        · subst y; rw [h2d]; exact fun z => nomatch z
        · rw [h2n b u q y]; exact fun z => nomatch z
  have f1 := fin.after s1
  have ll : l'.length = l.length := by rw [rt.length, List.length_map]
  refine ⟨fun i m σ' H' => m = l.length - i ∧ i ≤ l.length ∧ ∃ envi, W i envi ∧ EnvOk X.K (fun b => G b ∧ b ≠ d) N H' σ' envi ∧ SStp σ H2 env1 σ' H' envi,
    ⟨_, rfl, Nat.zero_le _, _, w0, (wipeF_ok Ef wl).1, (wipeF_ok Ef wl).2⟩, ?_⟩
  rintro i m σ' H' ⟨rfl, hi, envi, wi, Ei, si⟩
  have hd' : H' d = some (.frz o (.dT l')) := si.step d _ h2d f.no
  have back : ∀ {σ3 : L2.St} {H3 : Hp} {env3 : DEnv}, EnvOk X.K (fun b => G b ∧ b ≠ d) N H3 σ3 env3 → EnvOk X.K G N H3 σ3 env3 := fun E3 => E3.less (fun b u e z => z.1) fun b e => (E3.new b e).1.1
  by_cases hlt : i < l.length
  · refine .inr ⟨⟨hd', by rw [ll]; exact hlt⟩, fun σ5 H5 => ∃ envi, W (i + 1) envi ∧ EnvOk X.K (fun b => G b ∧ b ≠ d) N H5 σ5 envi ∧ SStp σ H2 env1 σ5 H5 envi, fun σ5 H5 h5 => ⟨_, by omega, rfl, hlt, h5⟩, fun x Hx y => ?_⟩
    obtain ⟨T, q, k, v, hkv, rfl, hT, hq, rfl⟩ := y
    obtain ⟨v', hv', rv⟩ := rt.at (i := i) (p := ([l[i].1.1, l[i].1.2], .int l[i].2)) (by rw [List.getElem?_map, List.getElem?_eq_getElem hlt]; rfl)
    rw [hkv] at hv'
    cases hv'
    have ev := rv.int_inv
    subst ev
    have g2 := grow_upd (o := HO.tup [.ref q, .int l[i].2]) hT
    obtain ⟨env2, ht, hc⟩ := turn i envi l[i] (List.getElem?_eq_getElem hlt) wi
    have Ei2 := Ei.grow g2
    refine t3_reads Ei2 ht upd_same (g2 _ _ (by rw [kI_kV] at hq; exact hq)) fun σ2 E2 ts => ?_
    have s2 := (si.trans (SStp.grow g2)).trans ts.ss
    have nx : ∀ env3 σ3 H3, W (i + 1) (wipeF env3 wl) → SStp σ2 _ env2 σ3 H3 env3 → EnvOk X.K (fun b => G b ∧ b ≠ d) N H3 σ3 env3 → ∃ envi, W (i + 1) envi ∧ EnvOk X.K (fun b => G b ∧ b ≠ d) N H3 σ3 envi ∧ SStp σ H2 env1 σ3 H3 envi := fun env3 σ3 H3 w t E3 =>
      ⟨_, w, (wipeF_ok E3 wl).1, s2.trans (t.trans (wipeF_ok E3 wl).2)⟩
    exact ⟨_, N, env2, _, E2, hc, nx, fun _ _ _ _ _ _ h t r => f1.rt _ _ _ _ _ _ h (s2.trans t) (res_less (fun b z => z.1) r), fun _ _ _ h t E3 => f1.nx _ _ _ h (s2.trans (t.trans (wipeF_ok E3 wl).2)) (back (wipeF_ok E3 wl).1), nx⟩
  · have ei : i = l.length := by omega
    subst ei
    exact .inl ⟨⟨hd', by rw [ll]; exact Nat.le_refl _⟩, f1.nx _ _ _ (done envi wi) si (back Ei)⟩
end
end DL

/-! DL17: the check of statements. -/
namespace DL
open PySem PySem.Spec PyProof.Rows L2

/-- y = [..] on one line: the list is stored ahead of the block's names -/
def isSwap (sc : Scope) (x : Str) (p : Pos) : Expr → Bool
  | .ListComp _ _ csc q => sc.names.lookup x == some .local && p.line == q.line && !(csc.names.any fun (n, k) => n == x && (k == .local || k == .cell))
  | _ => false
def locB (sc : Scope) (x : Str) : Bool := match sc.names.lookup x with
  | some .local => true
  | some .cell => true
  | _ => false
def isTupE : Expr → Bool
  | .Tuple _ _ _ => true
  | _ => false
def isCompE : Expr → Bool
  | .ListComp _ _ _ _ => true
  | .SetComp _ _ _ _ => true
  | .DictComp _ _ _ _ _ => true
  | _ => false
def mmNm : Mm → Str
  | .append => "append" | .extend => "extend" | .remove => "remove"
/-- the names of a tuple's targets -/
def nmOf : List Expr → List Str
  | [] => []
  | .Name x _ :: r => x :: nmOf r
  | _ :: r => nmOf r
def isStarE : Expr → Bool
  | .Starred _ _ => true
  | _ => false
def nmAt (sc : Scope) (line : Nat) : Expr → Option Str
  | .Name id pos => if (sc.names.lookup id == some .local && pos.line == line) = true then some id else none
  | _ => none
/-- a, b = x, y where the stores are from the right -/
def swOk (sc : Scope) (ts vs : List Expr) : Bool :=
  !(!(ts.length == 2 || ts.length == 3) || vs.length != ts.length) && !(vs.any isStarE) && !((ts.filterMap (nmAt sc ((ts.head?.map (·.pos.line)).getD 0))).length != ts.length || (ts.filterMap (nmAt sc ((ts.head?.map (·.pos.line)).getD 0))).eraseDups.length != (ts.filterMap (nmAt sc ((ts.head?.map (·.pos.line)).getD 0))).length) &&
    !(vs.all (foldedForSure 8)) && !(vs.all (constantsAlone 8)) && decide (ts.filterMap (nmAt sc ((ts.head?.map (·.pos.line)).getD 0)) = nmOf ts)
/-- .. where they are not -/
def plOk (sc : Scope) (ts vs : List Expr) : Bool := !(ts.length == 2 || ts.length == 3) || vs.all (foldedForSure 8) || (ts.filterMap (nmAt sc ((ts.head?.map (·.pos.line)).getD 0))).length != ts.length
/-- key = (..); found[key] = found.get(key, 0) + 1 -/
def chkC (Γ : GEnv) (N : List Str) (sc : Scope) (i j : Nat) (es : Es) : Stmt → Stmt → Bool
  | .Assign [.Name x _] (.Tuple ks _ _) _, .Assign [.Subscript (.Name d _) (.Name x2 _) _] (.BinOp (.Call (.Attribute (.Name d2 _) nm apos) [.Name x3 _, .Constant (.int n0) _ _] [] cpos) .Add (.Constant (.int n1) _ _) _) _ =>
    decide (N[j]? = some x) && locB sc x && chkEs Γ N sc es ks && chkV N sc i d && chkV N sc j x2 && chkV N sc i d2 && chkV N sc j x3 && decide (nm = "get") && (apos.endLine == cpos.line) && decide (n0 = 0) && decide (n1 = 1)
  | _, _ => false
/-- f(..).items() -/
def chkItm (Γ : GEnv) (N : List Str) (sc : Scope) (e : E) : Expr → Bool
  | .Call (.Attribute (.Call f (a1 :: as) kws p2) nm apos) [] [] cpos => decide (nm = "items") && (apos.endLine == cpos.line) && chkE Γ N sc e (.Call f (a1 :: as) kws p2)
  | _ => false
mutual
def chkS (Γ : GEnv) (N : List Str) (sc : Scope) : DL.S → Stmt → Bool
  | .asg i _ e, .Assign [.Name x p] a _ => chkE Γ N sc e a && decide (N[i]? = some x) && locB sc x
  | .asgT ts e, .Assign [.Tuple es k p] a _ => chkE Γ N sc e a && chkT N sc (fun _ => true) (.tp ts) (.Tuple es k p) && !isTupE a
  | .par is es, .Assign [.Tuple ts _ _] (.Tuple as _ _) _ => chkPs Γ N sc es as && decide (es.len = is.length) && decide ((is.map (·.1)).map (fun i => N[i]?) = (nmOf ts).map some) && decide ((nmOf ts).length = ts.length) &&
      (nmOf ts).all (fun x => locB sc x) && decide ((is.map (·.1)).Nodup) && decide (is.length ≤ 100) && (swOk sc ts as || plOk sc ts as)
  | .setv i ie e, .Assign [.Subscript (.Name x _) ia _] a _ => chkV N sc i x && chkE Γ N sc ie ia && chkE Γ N sc e a
  | .aug i o e, .AugAssign (.Name x _) op a _ => decide (N[i]? = some x) && locB sc x && opB op o && (match o with | .add => true | .sub => true | .mul => true | _ => false) && chkE Γ N sc e a
  | .expr e, .Expr a _ => chkE Γ N sc e a && !isCompE a
  | .mut m i e, .Expr (.Call (.Attribute (.Name x _) nm apos) [a] [] cpos) _ => decide (nm = mmNm m) && (apos.endLine == cpos.line) && chkV N sc i x && chkE Γ N sc e a
  | .dputT i es v, .Assign [.Subscript (.Name x _) (.Tuple ks _ _) _] a _ => chkV N sc i x && chkEs Γ N sc es ks && chkE Γ N sc v a
  | .iff c a b, .If c' a' b' _ => chkE Γ N sc c c' && !c.isIf && chkSs Γ N sc a a' && chkSs Γ N sc b b'
  | .forr t it b _, .For tg iter b' [] _ => chkI Γ N sc t.isTp it iter && chkT N sc (fun _ => true) t tg && chkSs Γ N sc b b'
  | .ford a b c e bd _, .For tg iter b' [] _ => chkItm Γ N sc e iter && chkT N sc (fun _ => true) (T3 a b c) tg && chkSs Γ N sc bd b'
  | .whl c b _, .While c' b' [] _ => chkE Γ N sc c c' && !c.isIf && chkSs Γ N sc b b'
  | .ret e, .Return (some a) _ => chkE Γ N sc e a
  | .retN, .Return none _ => true
  | .brk, .Break _ => true
  | .cont, .Continue _ => true
  | .pas, .Pass _ => true
  | _, _ => false
def chkSs (Γ : GEnv) (N : List Str) (sc : Scope) : Ss → List Stmt → Bool
  | .nil, [] => true
  | .cons s ss, st :: sts => chkS Γ N sc s st && chkSs Γ N sc ss sts
  | .frz _ ss, sts => chkSs Γ N sc ss sts
  | .cntT i j es ss, st1 :: st2 :: sts => chkC Γ N sc i j es st1 st2 && chkSs Γ N sc ss sts
  | .nev, _ => true
  | _, _ => false
/-- values to be stored, one by one -/
def chkPs (Γ : GEnv) (N : List Str) (sc : Scope) : Es → List Expr → Bool
  | .nil, [] => true
  | .cons e es, a :: as => chkE Γ N sc e a && chkPs Γ N sc es as
  | _, _ => false
end

section
variable {Γ : GEnv} {Φ : Phi} {X : Cx} {k : Nat} {N : List Str} {sc : Scope}
theorem loc_of (C : BCtx X Γ Φ k N sc) {x : Str} (h : locB sc x = true) : Loc X.env.scope x := by
  unfold locB at h
  rw [C.scope]
  split at h
  · exact .inl (by assumption)
  · exact .inr (by assumption)
  · cases h
theorem block_of (C : BCtx X Γ Φ k N sc) : X.env.blockKind = .function := by
  have h := C.kind
  rw [← C.scope] at h
  unfold Env.blockKind
  rw [h]
  rfl
theorem noSC {e : DL.E} {a b : Expr} {g : List Comprehension} {s : Scope} {p : Pos} : chkE Γ N sc e (.SetComp a g s p) ≠ true := fun h => by cases e <;> simp only [chkE, Bool.false_eq_true] at h
theorem noDC {e : DL.E} {a b : Expr} {g : List Comprehension} {s : Scope} {p : Pos} : chkE Γ N sc e (.DictComp a b g s p) ≠ true := fun h => by cases e <;> simp only [chkE, Bool.false_eq_true] at h
theorem swap_of (C : BCtx X Γ Φ k N sc) {e : DL.E} {a : Expr} (h : chkE Γ N sc e a = true) (x : Str) (p : Pos) (l : Nat) : swapsWith a (some (.Name x p)) l X.env = pure (isSwap sc x p a) := by
  cases a with
  | ListComp elt g csc q =>
    show (pure (X.env.blockKind == .function && X.env.kindOf x == some .local && p.line == q.line && !(csc.names.any fun (n, k) => n == x && (k == .local || k == .cell))) : Sem Bool) = _
    rw [block_of C]
    unfold isSwap Env.kindOf
    rw [C.scope]
    rfl
  | SetComp elt g s q => exact absurd h (noSC (b := elt))
  | DictComp a b g s q => exact absurd h noDC
  | _ => rfl
theorem swap_local {x : Str} {p : Pos} {a : Expr} (h : isSwap sc x p a = true) : ∃ elt g csc q, a = .ListComp elt g csc q ∧ sc.names.lookup x = some .local := by
  cases a <;> simp only [isSwap, Bool.false_eq_true] at h
  rename_i elt g csc q
  refine ⟨elt, g, csc, q, rfl, ?_⟩
  obtain ⟨h1, h2⟩ := Bool.and_eq_true_iff.mp h
  obtain ⟨h1, h3⟩ := Bool.and_eq_true_iff.mp h1
  cases z : sc.names.lookup x with
  | none => rw [z] at h1; cases h1
  | some k =>
    rw [z] at h1
    cases k <;> first | rfl | exact absurd h1 (by decide)
theorem chkC_sound (C : BCtx X Γ Φ k N sc) {i j : Nat} {es : Es} {st1 st2 : Stmt} (h : chkC Γ N sc i j es st1 st2 = true) :
    PS X st1 (tAsg (tTup (tEs Φ X.K es)) (gName j)) ∧ PS X st2 (sDPut (tVar i) (tVar j) (tAdd (tDGet2 (tVar i) (tVar j) (tC (.int 0))) (tC (.int 1)))) := by
  unfold chkC at h
  split at h
  · obtain ⟨h, h11⟩ := Bool.and_eq_true_iff.mp h
    obtain ⟨h, h10⟩ := Bool.and_eq_true_iff.mp h
    obtain ⟨h, h9⟩ := Bool.and_eq_true_iff.mp h
    obtain ⟨h, h8⟩ := Bool.and_eq_true_iff.mp h
    obtain ⟨h, h7⟩ := Bool.and_eq_true_iff.mp h
    obtain ⟨h, h6⟩ := Bool.and_eq_true_iff.mp h
    obtain ⟨h, h5⟩ := Bool.and_eq_true_iff.mp h
    obtain ⟨h, h4⟩ := Bool.and_eq_true_iff.mp h
    obtain ⟨h, h3⟩ := Bool.and_eq_true_iff.mp h
    obtain ⟨h1, h2⟩ := Bool.and_eq_true_iff.mp h
    have e8 := of_decide_eq_true h8
    have e10 := of_decide_eq_true h10
    have e11 := of_decide_eq_true h11
    subst e8 e10 e11
    have hN : X.N.Nodup := by rw [C.names]; exact C.nd
    have u : X.A.units + 1 < cLine := by have := C.toCtxOk.u; omega
    exact ⟨ps_set hN (by rw [C.names]; exact of_decide_eq_true h1) (loc_of C h2) (pe_tup (snds h3 C.toCtxOk)) rfl (.inl (C.fn _)),
      ps_dput u (var_of C.toCtxOk h4) (var_of C.toCtxOk h5) (pe_add (pe_dget2 u (var_of C.toCtxOk h6) (var_of C.toCtxOk h7) pe_int ⟨rfl, rfl, h9, rfl⟩) pe_int) rfl⟩
  · cases h
theorem itm_sound (C : BCtx X Γ Φ k N sc) {e : DL.E} {iter : Expr} (h : chkItm Γ N sc e iter = true) :
    (∀ (elts : List Expr) (kk : Nat) (tpos : Pos), PI X (.Tuple elts kk tpos) iter (ZD.iItemsT (tE Φ X.K e))) ∧ ∀ x, foldedSetIterable iter X.env x = pure x := by
  unfold chkItm at h
  split at h
  · rename_i f a1 as kws p2 nm apos cpos
    obtain ⟨h, h3⟩ := Bool.and_eq_true_iff.mp h
    obtain ⟨h1, h2⟩ := Bool.and_eq_true_iff.mp h
    have hn := of_decide_eq_true h1
    subst hn
    exact ⟨fun elts kk tpos => ZD.pi_itemsT (snd h3 C.toCtxOk).v (by cases f <;> rfl) h2, fun x => rfl⟩
  · cases h
/-- x = e -/
theorem asg_sound (C : BCtx X Γ Φ k N sc) {i : Nat} {e : DL.E} {a : Expr} {x : Str} {p pos : Pos} (h : chkE Γ N sc e a = true) (hi : N[i]? = some x) (hl : locB sc x = true) : PS X (.Assign [.Name x p] a pos) (tAsg (tE Φ X.K e) (gName i)) := by
  have hN : X.N.Nodup := by rw [C.names]; exact C.nd
  have hi' : X.N[i]? = some x := by rw [C.names]; exact hi
  cases hs : isSwap sc x p a with
  | false => exact ps_set hN hi' (loc_of C hl) (snd h C.toCtxOk).v (by rw [swap_of C h, hs]) (.inl (C.fn x))
  | true =>
    obtain ⟨elt', gens, csc, q, rfl, hloc⟩ := swap_local hs
    have hsw := swap_of C h x p pos.line
    rw [hs] at hsw
    cases e <;> (first | (simp only [chkE, Bool.false_eq_true] at h; done) | skip)
    rename_i elt t it cs
    rcases gens with _ | ⟨⟨tg, iter, ifs, n⟩, _ | ⟨g2, gs⟩⟩ <;> (first | (simp only [chkE, Bool.false_eq_true] at h; done) | skip)
    simp only [chkE] at h
    obtain ⟨h1, h5⟩ := Bool.and_eq_true_iff.mp h
    obtain ⟨h1, h4⟩ := Bool.and_eq_true_iff.mp h1
    obtain ⟨h1, h3⟩ := Bool.and_eq_true_iff.mp h1
    obtain ⟨h1, h2⟩ := Bool.and_eq_true_iff.mp h1
    obtain ⟨h0, h1⟩ := Bool.and_eq_true_iff.mp h1
    have hn := of_decide_eq_true h0
    subst hn
    have ok : BlkOk X.N X.env.scope csc (ownOf N t.names) := by
      rw [C.names, C.scope]
      exact blkOk_by h3
    have z := ps_setLc C.calm hN hi' (by rw [C.scope]; exact hloc) hsw (sndI h1 C.toCtxOk (tgK h2)) ok (g := gT X.K t) (tt := tCs Φ X.K cs) (te := tE Φ X.K elt)
      (fun s H A cl fp => tg_sound (X := X.blk s H csc (compEnvC csc cl A X.env) fp) C.calm C.names C.nd (C.toCtxOk.blk s H csc cl A fp).scope h2)
      (fun s H A cl fp => sndC h4 (C.toCtxOk.blk s H csc cl A fp))
      (fun s H A cl fp => (snd h5 (C.toCtxOk.blk s H csc cl A fp)).v)
      (notSetI h1)
    rw [ownOf_ix] at z
    exact ps_ofD z fun D σ H q => lc_reads q
theorem swapT (a : Expr) (es : List Expr) (k : Nat) (p : Pos) (l : Nat) (env : Env) : swapsWithSole [.Tuple es k p] a l env = pure false := by cases a <;> rfl
theorem swapS (a o i : Expr) (p : Pos) (l : Nat) (env : Env) : swapsWithSole [.Subscript o i p] a l env = pure false := by cases a <;> rfl

/-! ### several names -/
def nmT : List Nat → DL.Ts
  | [] => .nil
  | i :: r => .cons (.nm i) (nmT r)
theorem nmT_reads {K : Frag} : ∀ {js : List Nat} {vs : List V} {σ : L2.St} {H : Hp} {Q : L2.St → Hp → Prop}, vs.length = js.length → Q (setsS σ js vs) H → gTs K (nmT js) vs σ H Q
  | [], [], _, _, _, _, q => ⟨rfl, q⟩
  | [], _ :: _, _, _, _, h, _ => by cases h
  | _ :: _, [], _, _, _, h, _ => by cases h
  | j :: js, v :: vs, σ, H, Q, h, q => ⟨v, vs, rfl, nmT_reads (Nat.succ.inj h) q⟩
theorem nmT_len : ∀ js : List Nat, (nmT js).len = js.length
  | [] => rfl
  | _ :: js => by show (nmT js).len + 1 = _; rw [nmT_len js]; rfl
theorem nmT_chk : ∀ {ts : List Expr} {js : List Nat}, js.map (fun i => N[i]?) = (nmOf ts).map some → (nmOf ts).length = ts.length → (∀ x ∈ nmOf ts, locB sc x = true) → chkTs N sc (fun _ => true) (nmT js) ts = true
  | [], [], _, _, _ => by simp only [nmT, chkTs]
  | [], _ :: _, h, _, _ => by cases h
  | t :: ts, js, h, hl, hx => by
    cases t with
    | Name x p =>
      cases js with
      | nil => cases h
      | cons j js =>
        have h1 : N[j]? = some x := by injection h
        have h2 : js.map (fun i => N[i]?) = (nmOf ts).map some := by injection h
        show chkTs N sc (fun _ => true) (.cons (.nm j) (nmT js)) (.Name x p :: ts) = true
        simp only [chkTs, chkT]
        rw [nmT_chk h2 (Nat.succ.inj hl) fun y hy => hx y (List.mem_cons_of_mem _ hy)]
        have z := hx x List.mem_cons_self
        unfold locB at z
        rw [h1]
        split at z
        · rename_i e; rw [e]; simp
        · rename_i e; rw [e]; simp
        · cases z
    | _ =>
      have hle : ∀ l : List Expr, (nmOf l).length ≤ l.length := fun l => by
        induction l with
        | nil => exact Nat.le_refl _
        | cons t l ih => cases t <;> simp only [nmOf, List.length_cons] <;> omega
      have z := hle ts
      simp only [nmOf, List.length_cons] at hl
      omega
/-- the same, stored from the right -/
def setsR : L2.St → List Nat → List V → L2.St
  | σ, i :: is, v :: vs => (setsR σ is vs).set i (some v)
  | σ, _, _ => σ
theorem setsS_out {j : Nat} {v : V} : ∀ {js : List Nat} {vs : List V} {σ : L2.St}, j ∉ js → setsS (σ.set j (some v)) js vs = (setsS σ js vs).set j (some v)
  | [], [], _, _ => rfl
  | [], _ :: _, _, _ => rfl
  | _ :: _, [], _, _ => rfl
  | i :: js, w :: vs, σ, h => by
    have hij : j ≠ i := fun z => h (by simp [z])
    show setsS ((σ.set j (some v)).set i (some w)) js vs = (setsS (σ.set i (some w)) js vs).set j (some v)
    rw [List.set_comm _ _ hij, setsS_out fun z => h (List.mem_cons_of_mem _ z)]
theorem setsR_eq : ∀ {js : List Nat} {vs : List V} {σ : L2.St}, js.Nodup → setsR σ js vs = setsS σ js vs
  | [], [], _, _ => rfl
  | [], _ :: _, _, _ => rfl
  | _ :: _, [], _, _ => rfl
  | i :: js, v :: vs, σ, h => by
    obtain ⟨h1, h2⟩ := List.nodup_cons.mp h
    show (setsR σ js vs).set i (some v) = setsS (σ.set i (some v)) js vs
    rw [setsR_eq h2, setsS_out h1]
theorem put_all (hN : X.N.Nodup) {pins : List (Addr × Obj)} {H : Hp} : ∀ {js : List Nat} {ns : List Str} {vs : List V} {us : List Value} {σ : L2.St} {s : Shared} {fs : List (Value → Sem Unit)} {ws : List Value} {Q : Unit → Shared → Prop}, js.map (fun i => X.N[i]?) = ns.map some →
    (∀ x ∈ ns, X.env.scope.names.lookup x = some .local) → Vals vs us → vs.length = js.length → Inv X pins σ H s → (∀ s', Inv X pins (setsR σ js vs) H s' → wpAny (model X.prog X.w) X.A (assignInOrder fs ws) Q X.xe s') →
    wpAny (model X.prog X.w) X.A (assignInOrder ((ns.reverse.map fun n => bindName X.env n) ++ fs) (us.reverse ++ ws)) Q X.xe s
  | [], [], _, _, _, s, _, _, _, _, _, .nil, _, I, go => go s I
  | [], _ :: _, _, _, _, _, _, _, _, h, _, _, _, _, _ => by cases h
  | _ :: _, [], _, _, _, _, _, _, _, h, _, _, _, _, _ => by cases h
  | [], [], _, _, _, _, _, _, _, _, _, .cons _ _, h, _, _ => by cases h
  | _ :: _, _ :: _, _, _, _, _, _, _, _, _, _, .nil, h, _, _ => by cases h
  | j :: js, x :: ns, v :: vs, u :: us, σ, s, fs, ws, Q, h, hx, .cons r rr, hl, I, go => by
    have h1 : X.N[j]? = some x := by injection h
    have h2 : js.map (fun i => X.N[i]?) = ns.map some := by injection h
    rw [List.reverse_cons, List.map_append, List.append_assoc, List.reverse_cons, List.append_assoc]
    refine put_all hN h2 (fun y hy => hx y (List.mem_cons_of_mem _ hy)) rr (Nat.succ.inj hl) I fun s' I' => ?_
    have hxl := hx x List.mem_cons_self
    exact assignInOrder_cons (wpAny_bindName (store_ok I' hN h1 (.inl hxl) r (fun s2 I2 => go s2 I2) (.inr hxl)))
theorem par_swap (hc : X.calm = true) (hN : X.N.Nodup) {ts as : List Expr} {kt k2 : Nat} {pt pt2 pos : Pos} {js : List Nat} {ns : List Str} {ta : TA} (hj : js.map (fun i => X.N[i]?) = ns.map some) (hx : ∀ x ∈ ns, X.env.scope.names.lookup x = some .local)
    (nd : js.Nodup) (hsz : js.length ≤ 100) (ha : PA X as ta) (hw : swappedStores [.Tuple ts kt pt] (.Tuple as k2 pt2) X.env = pure (some ns)) : PS X (.Assign [.Tuple ts kt pt] (.Tuple as k2 pt2) pos) (tParN js ta) := by
  have hjl : js.length = ns.length := by have := congrArg List.length hj; simpa using this
  refine ⟨fun pins s σ H D I h => ?_⟩
  rw [exec_Assign_arm, swapT]
  refine wpAny_bind (wpAny_standAt (wpAny_bind (wpAny_pure ?_)))
  rw [if_neg Bool.false_ne_true]
  refine wpAny_bind (Tuple_ (thn (ha.run _ pins s σ H _ I h) fun us s1 ⟨vs, H1, I1, r1, hl, q1⟩ => ?_))
  have hul : us.length = ns.length := by rw [← r1.length, hl, hjl]
  have hz : sizeLine ≥ 100 := by decide
  refine wpAny_newObj_type ?_ (by show us.length ≤ sizeLine; omega)
  have I2 : Inv X pins σ H1 { s1 with heap := s1.heap.push { cls := .type "tuple", data := .seq us.toArray } } := I1.kept (t' := s1.toks) fun b o e => Heap.get?_push_of_some _ e
  rw [hw]
  refine wpAny_bind (wpAny_pure ?_)
  show wpAny (model X.prog X.w) X.A (do rule "assign.swapped-stores"; let items ← unpackItems (.ref s1.heap.objs.size) ns.length none; assignInOrder (ns.reverse.map fun n => bindName X.env n) items.reverse; pure Flow.next) _ _ _
  refine wpAny_bind (wpAny_rule (wpAny_bind ?_))
  rw [← hul, show us.length = us.toArray.size by simp]
  refine unpackItems_tuple (I.ok.hd hc) (IsTup.new s1.heap _) fun h' hx' => ?_
  have I3 := I2.kept (h' := h') (t' := s1.toks) fun b o e => hx' b o (Nat.ne_of_lt (Heap.lt_size e)) e
  have z := put_all hN (fs := []) (ws := []) (Q := fun _ s' => wpAny (model X.prog X.w) X.A (pure Flow.next) (SP X pins D) X.xe s') hj hx r1 hl I3 fun s' I' => assignInOrder_nil (wpAny_pure ?_)
  · rw [List.append_nil, List.append_nil] at z
    exact wpAny_bind z
  · rw [setsR_eq nd] at I'
    exact ⟨_, H1, I', q1 H1 fun _ _ z => z⟩
theorem par_plain (C : BCtx X Γ Φ k N sc) {ts as : List Expr} {kt k2 : Nat} {pt pt2 pos : Pos} {js : List Nat} {es : Es} {os : List Bool} (hj : js.map (fun i => N[i]?) = (nmOf ts).map some) (hx : ∀ x ∈ nmOf ts, locB sc x = true) (hl : (nmOf ts).length = ts.length)
    (hsz : js.length ≤ 100) (ha : PA X as (tPs Φ X.K es os)) (hw : swappedStores [.Tuple ts kt pt] (.Tuple as k2 pt2) X.env = pure none) : PS X (.Assign [.Tuple ts kt pt] (.Tuple as k2 pt2) pos) (tParN js (tPs Φ X.K es os)) := by
  have hc := nmT_chk (sc := sc) hj hl hx
  have hfn : X.fn = fun _ => true := funext C.fn
  rw [← hfn] at hc
  obtain ⟨i1, i2⟩ := noStarT hc X.env
  have pg : PG X (.Tuple ts kt pt) (gTup X.K (nmT js).len (gTs X.K (nmT js))) := pg_tup C.calm (tgs_sound C.calm C.names C.nd C.scope hc) i1 i2
  refine ps_ofD (ps_asg (pe_tup ha) pg (swapT _ _ _ _ _ _) hw) fun D σ H h => ?_
  obtain ⟨G, N, env, Q', E, rd, fin⟩ := h
  refine ⟨G, N, env, Q', E, rd, fun ds env' vs H' Gi a b c d e => ?_⟩
  obtain ⟨hl, q⟩ := fin ds env' vs H' Gi a b c d e
  have hz : sizeLine ≥ 100 := by decide
  exact ⟨by omega, fun p np => ⟨p, vs, rfl, TN.sq (P := fun _ => True) (.inl ⟨upd_same, trivial⟩), by rw [nmT_len]; exact hl, nmT_reads hl (q _ (grow_upd np))⟩⟩

theorem sw_none (C : BCtx X Γ Φ k N sc) {ts as : List Expr} {kt k2 : Nat} {pt pt2 : Pos} (h : plOk sc ts as = true) : swappedStores [.Tuple ts kt pt] (.Tuple as k2 pt2) X.env = pure none := by
  have hs := C.scope
  subst hs
  unfold plOk at h
  unfold swappedStores
  dsimp only
  have e3 : ∀ f : Expr → Option Str, (∀ x, f x = nmAt X.env.scope ((ts.head?.map (·.pos.line)).getD 0) x) → ts.filterMap f = ts.filterMap (nmAt X.env.scope ((ts.head?.map (·.pos.line)).getD 0)) := fun f hf => congrArg (fun g => ts.filterMap g) (funext hf)
  rw [e3 _ (fun x => by cases x <;> rfl)]
  rcases Bool.or_eq_true_iff.mp h with h | h
  · rcases Bool.or_eq_true_iff.mp h with h | h
    · rw [h]; rfl
    · rw [h]
      repeat' split
      all_goals first | rfl | contradiction | simp_all
  · rw [h]
    repeat' split
    all_goals first | rfl | contradiction | simp_all
theorem sw_local {ts as : List Expr} (h : swOk sc ts as = true) : ∀ x ∈ nmOf ts, sc.names.lookup x = some .local := fun x hx => by
  unfold swOk at h
  obtain ⟨_, h6⟩ := Bool.and_eq_true_iff.mp h
  rw [← of_decide_eq_true h6] at hx
  obtain ⟨t, _, ht⟩ := List.mem_filterMap.mp hx
  cases t <;> simp only [nmAt, reduceCtorEq] at ht
  split at ht
  · rename_i hc
    cases ht
    obtain ⟨h1, _⟩ := Bool.and_eq_true_iff.mp hc
    cases z : sc.names.lookup x with
    | none => rw [z] at h1; cases h1
    | some k =>
      rw [z] at h1
      cases k <;> first | rfl | exact absurd h1 (by decide)
  · cases ht
theorem sw_some (C : BCtx X Γ Φ k N sc) {ts as : List Expr} {kt k2 : Nat} {pt pt2 : Pos} (h : swOk sc ts as = true) : swappedStores [.Tuple ts kt pt] (.Tuple as k2 pt2) X.env = pure (some (nmOf ts)) := by
  have hs := C.scope
  subst hs
  unfold swOk at h
  obtain ⟨h, h6⟩ := Bool.and_eq_true_iff.mp h
  obtain ⟨h, h5⟩ := Bool.and_eq_true_iff.mp h
  obtain ⟨h, h4⟩ := Bool.and_eq_true_iff.mp h
  obtain ⟨h, h3⟩ := Bool.and_eq_true_iff.mp h
  obtain ⟨h1, h2⟩ := Bool.and_eq_true_iff.mp h
  have h6 := of_decide_eq_true h6
  rw [Bool.not_eq_true'] at h1 h2 h3 h4 h5
  have hb := block_of C
  unfold swappedStores
  dsimp only
  have e1 : ((!(ts.length == 2 || ts.length == 3) || as.length != ts.length || X.env.blockKind != .function)) = false := by
    rw [hb, h1]
    rfl
  have e2 : ∀ f : Expr → Bool, (∀ x, f x = isStarE x) → as.any f = as.any isStarE := fun f hf => congrArg _ (funext hf)
  have e3 : ∀ f : Expr → Option Str, (∀ x, f x = nmAt X.env.scope ((ts.head?.map (·.pos.line)).getD 0) x) → ts.filterMap f = ts.filterMap (nmAt X.env.scope ((ts.head?.map (·.pos.line)).getD 0)) := fun f hf => congrArg (fun g => ts.filterMap g) (funext hf)
  rw [if_neg (by rw [e1]; decide), e2 _ (fun x => by cases x <;> rfl), if_neg (by rw [h2]; decide), e3 _ (fun x => by cases x <;> rfl), if_neg (by rw [h3]; decide), if_neg (by rw [h4]; decide), if_neg (by rw [h5]; decide), h6]

theorem sndP {Γ : GEnv} {Φ : Phi} {N : List Str} {X : Cx} {k : Nat} {sc : Scope} (C : CtxOk X Γ Φ k N sc) : ∀ {es : Es} {as : List Expr} {os : List Bool}, chkPs Γ N sc es as = true → es.len = os.length → PA X as (tPs Φ X.K es os)
  | .nil, [], os, h, hl => snil_sound
  | .nil, _ :: _, _, h, _ => by simp only [chkPs, Bool.false_eq_true] at h
  | .cons _ _, [], _, h, _ => by simp only [chkPs, Bool.false_eq_true] at h
  | .cons e es, a :: as, [], h, hl => by cases hl
  | .cons e es, a :: as, ow :: os, h, hl => by
    simp only [chkPs] at h
    obtain ⟨h1, h2⟩ := Bool.and_eq_true_iff.mp h
    refine scons_sound (snd h1 C).v (sndP C h2 (Nat.succ.inj hl)) ?_
    cases a <;> first | rfl | exact absurd h1 noStarE
/-- the slots of methods -/
theorem mm_sound (C : CtxOk X Γ Φ k N sc) {m : Mm} {i : Nat} {e : DL.E} {x nm : Str} {a : Expr} {xp apos cpos : Pos} (h1 : nm = mmNm m) (h2 : (apos.endLine == cpos.line) = true) (h3 : chkV N sc i x = true) (h4 : chkE Γ N sc e a = true) :
    PE X (.Call (.Attribute (.Name x xp) nm apos) [a] [] cpos) (tBM X.K "list" (rMm m) (tVar i) (tCons (tE Φ X.K e) tNil)) := by
  have pa : PA X [a] (tCons (tE Φ X.K e) tNil) := pa_cons (snd h4 C).v pa_nil ((one_star fun _ _ z => by subst z; exact noStarE h4 : NoStar [a]).cons X.env)
  have hst : starEach [a] X.env = (false, eval a X.env) :: starEach [] X.env := (one_star fun _ _ z => by subst z; exact noStarE h4 : NoStar [a]).cons X.env
  have hfew : ((backTo cpos (starEach [a] X.env)).all (fun x => !x.1) && (backToKw cpos (keywordEach [] X.env)).all (fun x => x.1.isSome) && decide ([a].length + ([] : List Keyword).length + (if ([] : List Keyword).isEmpty then 0 else 1) < 30)) = true := by
    rw [hst]; rfl
  subst h1
  cases m with
  | append => exact pe_bm PySem.F.plainAttrs_list PySem.F.slot_list_append PySem.F.type_list_append mt_append (var_of C h3) pa rfl hfew h2 hst rfl
  | extend => exact pe_bm PySem.F.plainAttrs_list PySem.F.slot_list_extend PySem.F.type_list_extend mt_extend (var_of C h3) pa rfl hfew h2 hst rfl
  | remove => exact pe_bm PySem.F.plainAttrs_list PySem.F.slot_list_remove PySem.F.type_list_remove mt_remove (var_of C h3) pa rfl hfew h2 hst rfl
end

mutual
theorem sndS {Γ : GEnv} {Φ : Phi} {N : List Str} {X : Cx} {k : Nat} {sc : Scope} (C : BCtx X Γ Φ k N sc) : ∀ {s : DL.S} {st : Stmt}, chkS Γ N sc s st = true → PS X st (tS Φ X.K s)
  | .asg i ow e, st, h => by
    cases st <;> (first | (simp only [chkS, Bool.false_eq_true] at h; done) | skip)
    rename_i tgs a pos
    rcases tgs with _ | ⟨t, tgs⟩ <;> (first | (simp only [chkS, Bool.false_eq_true] at h; done) | skip)
    cases t <;> (first | (simp only [chkS, Bool.false_eq_true] at h; done) | skip)
    cases tgs <;> (first | (simp only [chkS, Bool.false_eq_true] at h; done) | skip)
    simp only [chkS] at h
    obtain ⟨h1, h3⟩ := Bool.and_eq_true_iff.mp h
    obtain ⟨h1, h2⟩ := Bool.and_eq_true_iff.mp h1
    exact ps_ofD (asg_sound C h1 (of_decide_eq_true h2) h3) fun D σ H q => asg_reads q
  | .asgT ts e, st, h => by
    cases st <;> (first | (simp only [chkS, Bool.false_eq_true] at h; done) | skip)
    rename_i tgs a pos
    rcases tgs with _ | ⟨t, tgs⟩ <;> (first | (simp only [chkS, Bool.false_eq_true] at h; done) | skip)
    cases t <;> (first | (simp only [chkS, Bool.false_eq_true] at h; done) | skip)
    cases tgs <;> (first | (simp only [chkS, Bool.false_eq_true] at h; done) | skip)
    rename_i es kk p
    simp only [chkS] at h
    obtain ⟨h1, h3⟩ := Bool.and_eq_true_iff.mp h
    obtain ⟨h1, h2⟩ := Bool.and_eq_true_iff.mp h1
    have hfn : X.fn = fun _ => true := funext C.fn
    rw [← hfn] at h2
    have hw : swappedStores [.Tuple es kk p] a X.env = pure none := by cases a <;> first | rfl | (simp only [isTupE, Bool.not_true, Bool.false_eq_true] at h3)
    exact ps_ofD (ps_asg (snd h1 C.toCtxOk).v (tg_sound (t := .tp ts) C.calm C.names C.nd C.scope h2) (swapT _ _ _ _ _ _) hw) fun D σ H q => asgT_reads q
  | .par is es, st, h => by
    cases st <;> (first | (simp only [chkS, Bool.false_eq_true] at h; done) | skip)
    rename_i tgs a pos
    rcases tgs with _ | ⟨t, tgs⟩ <;> (first | (simp only [chkS, Bool.false_eq_true] at h; done) | skip)
    cases t <;> (first | (simp only [chkS, Bool.false_eq_true] at h; done) | skip)
    cases tgs <;> (first | (simp only [chkS, Bool.false_eq_true] at h; done) | skip)
    cases a <;> (first | (simp only [chkS, Bool.false_eq_true] at h; done) | skip)
    simp only [chkS] at h
    obtain ⟨h, h8⟩ := Bool.and_eq_true_iff.mp h
    obtain ⟨h, h7⟩ := Bool.and_eq_true_iff.mp h
    obtain ⟨h, h6⟩ := Bool.and_eq_true_iff.mp h
    obtain ⟨h, h5⟩ := Bool.and_eq_true_iff.mp h
    obtain ⟨h, h4⟩ := Bool.and_eq_true_iff.mp h
    obtain ⟨h, h3⟩ := Bool.and_eq_true_iff.mp h
    obtain ⟨h1, h2⟩ := Bool.and_eq_true_iff.mp h
    have h2 := of_decide_eq_true h2
    have h3 := of_decide_eq_true h3
    have h4 := of_decide_eq_true h4
    have h6 := of_decide_eq_true h6
    have h7 := of_decide_eq_true h7
    have hx : ∀ x ∈ nmOf _, locB sc x = true := fun x hx => List.all_eq_true.mp h5 x hx
    have pa := sndP C.toCtxOk (os := is.map (·.2)) h1 (by rw [h2, List.length_map])
    have hjl : (is.map (·.1)).length ≤ 100 := by rw [List.length_map]; exact h7
    refine ps_ofD ?_ fun D σ H q => par_reads q
    rcases Bool.or_eq_true_iff.mp h8 with z | z
    · exact par_swap C.calm (by rw [C.names]; exact C.nd) (by rw [C.names]; exact h3) (by rw [C.scope]; exact sw_local z) h6 hjl pa (sw_some C z)
    · exact par_plain C h3 hx h4 hjl pa (sw_none C z)
  | .setv i ie e, st, h => by
    cases st <;> (first | (simp only [chkS, Bool.false_eq_true] at h; done) | skip)
    rename_i tgs a pos
    rcases tgs with _ | ⟨t, tgs⟩ <;> (first | (simp only [chkS, Bool.false_eq_true] at h; done) | skip)
    cases t <;> (first | (simp only [chkS, Bool.false_eq_true] at h; done) | skip)
    rename_i o ia p
    cases o <;> (first | (simp only [chkS, Bool.false_eq_true] at h; done) | skip)
    cases tgs <;> (first | (simp only [chkS, Bool.false_eq_true] at h; done) | skip)
    simp only [chkS] at h
    obtain ⟨h1, h3⟩ := Bool.and_eq_true_iff.mp h
    obtain ⟨h1, h2⟩ := Bool.and_eq_true_iff.mp h1
    exact ps_ofD (ps_asg (snd h3 C.toCtxOk).v (pg_sub (var_of C.toCtxOk h1) (snd h2 C.toCtxOk).v set_list fun _ => by cases ia <;> first | rfl | exact absurd h2 noSlE) (swapS _ _ _ _ _ _) rfl) fun D σ H q => setv_reads q
  | .aug i o e, st, h => by
    cases st <;> (first | (simp only [chkS, Bool.false_eq_true] at h; done) | skip)
    rename_i t op a pos
    cases t <;> (first | (simp only [chkS, Bool.false_eq_true] at h; done) | skip)
    simp only [chkS] at h
    obtain ⟨h, h5⟩ := Bool.and_eq_true_iff.mp h
    obtain ⟨h, h4⟩ := Bool.and_eq_true_iff.mp h
    obtain ⟨h, h3⟩ := Bool.and_eq_true_iff.mp h
    obtain ⟨h1, h2⟩ := Bool.and_eq_true_iff.mp h
    have hN : X.N.Nodup := by rw [C.names]; exact C.nd
    have eo := opB_ok h3
    subst eo
    cases o <;> (first | (simp only [Bool.false_eq_true] at h4; done) | skip)
    · exact ps_ofD (ps_aug hN (by rw [C.names]; exact of_decide_eq_true h1) (loc_of C h2) (snd h5 C.toCtxOk).v ip_add (.inl (C.fn _))) fun D σ H q => aug_reads (fun x j r e => by simp only [augI, Option.some.injEq] at e; exact e.symm) q
    · exact ps_ofD (ps_aug hN (by rw [C.names]; exact of_decide_eq_true h1) (loc_of C h2) (snd h5 C.toCtxOk).v ip_sub (.inl (C.fn _))) fun D σ H q => aug_reads (fun x j r e => by simp only [augI, Option.some.injEq] at e; exact e.symm) q
    · exact ps_ofD (ps_aug hN (by rw [C.names]; exact of_decide_eq_true h1) (loc_of C h2) (snd h5 C.toCtxOk).v ip_mulW (.inl (C.fn _))) fun D σ H q => augM_reads q
  | .dputT i es v, st, h => by
    cases st <;> (first | (simp only [chkS, Bool.false_eq_true] at h; done) | skip)
    rename_i tgs a pos
    rcases tgs with _ | ⟨t, tgs⟩ <;> (first | (simp only [chkS, Bool.false_eq_true] at h; done) | skip)
    cases t <;> (first | (simp only [chkS, Bool.false_eq_true] at h; done) | skip)
    rename_i o ia p
    cases o <;> (first | (simp only [chkS, Bool.false_eq_true] at h; done) | skip)
    cases ia <;> (first | (simp only [chkS, Bool.false_eq_true] at h; done) | skip)
    cases tgs <;> (first | (simp only [chkS, Bool.false_eq_true] at h; done) | skip)
    simp only [chkS] at h
    obtain ⟨h, h3⟩ := Bool.and_eq_true_iff.mp h
    obtain ⟨h1, h2⟩ := Bool.and_eq_true_iff.mp h
    have u : X.A.units + 1 < cLine := by have := C.toCtxOk.u; omega
    exact ps_ofD (ps_dput u (var_of C.toCtxOk h1) (pe_tup (snds h2 C.toCtxOk)) (snd h3 C.toCtxOk).v (by cases a <;> first | rfl | exact absurd h3 (noSC (b := a)) | exact absurd h3 noDC)) fun D σ H q => dputT_reads q
  | .expr e, st, h => by
    cases st <;> (first | (simp only [chkS, Bool.false_eq_true] at h; done) | skip)
    rename_i a pos
    simp only [chkS] at h
    obtain ⟨h1, h2⟩ := Bool.and_eq_true_iff.mp h
    exact ps_ofD (ps_expr (snd h1 C.toCtxOk).v (by cases a <;> first | rfl | (simp only [isCompE, Bool.not_true, Bool.false_eq_true] at h2))) fun D σ H q => expr_reads q
  | .mut m i e, st, h => by
    cases st <;> (first | (simp only [chkS, Bool.false_eq_true] at h; done) | skip)
    rename_i c pos
    cases c <;> (first | (simp only [chkS, Bool.false_eq_true] at h; done) | skip)
    rename_i f as kws cpos
    cases f <;> (first | (simp only [chkS, Bool.false_eq_true] at h; done) | skip)
    rename_i o nm apos
    cases o <;> (first | (simp only [chkS, Bool.false_eq_true] at h; done) | skip)
    rcases as with _ | ⟨a, _ | ⟨a2, as⟩⟩ <;> (first | (simp only [chkS, Bool.false_eq_true] at h; done) | skip)
    cases kws <;> (first | (simp only [chkS, Bool.false_eq_true] at h; done) | skip)
    simp only [chkS] at h
    obtain ⟨h, h4⟩ := Bool.and_eq_true_iff.mp h
    obtain ⟨h, h3⟩ := Bool.and_eq_true_iff.mp h
    obtain ⟨h1, h2⟩ := Bool.and_eq_true_iff.mp h
    exact ps_ofD (ps_expr (mm_sound C.toCtxOk (of_decide_eq_true h1) h2 h3 h4) rfl) fun D σ H q => mut_reads q
  | .iff c a b, st, h => by
    cases st <;> (first | (simp only [chkS, Bool.false_eq_true] at h; done) | skip)
    simp only [chkS] at h
    obtain ⟨h, h4⟩ := Bool.and_eq_true_iff.mp h
    obtain ⟨h, h3⟩ := Bool.and_eq_true_iff.mp h
    obtain ⟨h1, h2⟩ := Bool.and_eq_true_iff.mp h
    exact ps_ofD (ps_if ((snd h1 C.toCtxOk).t (by simpa using h2)) (sndSs C h3) (sndSs C h4)) fun D σ H q => iff_reads q
  | .forr t it b wl, st, h => by
    cases st <;> (first | (simp only [chkS, Bool.false_eq_true] at h; done) | skip)
    rename_i tg iter body orelse pos
    cases orelse <;> (first | (simp only [chkS, Bool.false_eq_true] at h; done) | skip)
    simp only [chkS] at h
    obtain ⟨h, h3⟩ := Bool.and_eq_true_iff.mp h
    obtain ⟨h1, h2⟩ := Bool.and_eq_true_iff.mp h
    have hfn : X.fn = fun _ => true := funext C.fn
    rw [← hfn] at h2
    exact ps_ofD (ps_for C.pass C.calm (sndI h1 C.toCtxOk (tgK h2)) (tg_sound C.calm C.names C.nd C.scope h2) (sndSs C h3) (notSetI h1)) fun D σ H q => for_reads q
  | .ford a b c e bd wl, st, h => by
    cases st <;> (first | (simp only [chkS, Bool.false_eq_true] at h; done) | skip)
    rename_i tg iter body orelse pos
    cases orelse <;> (first | (simp only [chkS, Bool.false_eq_true] at h; done) | skip)
    simp only [chkS] at h
    obtain ⟨h, h5⟩ := Bool.and_eq_true_iff.mp h
    obtain ⟨h1, h4⟩ := Bool.and_eq_true_iff.mp h
    have hfn : X.fn = fun _ => true := funext C.fn
    rw [← hfn] at h4
    have pg := tg_sound C.calm C.names C.nd C.scope h4
    obtain ⟨p1, p2⟩ := itm_sound C h1
    have ht : ∃ elts kk tpos, tg = .Tuple elts kk tpos := by
      cases tg <;> (first | (simp only [T3, chkT, Bool.false_eq_true] at h4; done) | exact ⟨_, _, _, rfl⟩)
    obtain ⟨elts, kk, tpos, rfl⟩ := ht
    exact ps_ofD (ps_for C.pass C.calm (p1 elts kk tpos) pg (sndSs C h5) p2) fun D σ H q => ford_reads q
  | .whl c b wl, st, h => by
    cases st <;> (first | (simp only [chkS, Bool.false_eq_true] at h; done) | skip)
    rename_i test body orelse pos
    cases orelse <;> (first | (simp only [chkS, Bool.false_eq_true] at h; done) | skip)
    simp only [chkS] at h
    obtain ⟨h, h3⟩ := Bool.and_eq_true_iff.mp h
    obtain ⟨h1, h2⟩ := Bool.and_eq_true_iff.mp h
    exact ps_ofD (ps_while C.pass ((snd h1 C.toCtxOk).t (by simpa using h2)) (sndSs C h3)) fun D σ H q => whl_reads q
  | .ret e, st, h => by
    cases st <;> (first | (simp only [chkS, Bool.false_eq_true] at h; done) | skip)
    rename_i v pos
    cases v <;> (first | (simp only [chkS, Bool.false_eq_true] at h; done) | skip)
    simp only [chkS] at h
    exact ps_ofD (ps_ret (snd h C.toCtxOk).v) fun D σ H q => ret_reads q
  | .retN, st, h => by
    cases st <;> (first | (simp only [chkS, Bool.false_eq_true] at h; done) | skip)
    rename_i v pos
    cases v <;> (first | (simp only [chkS, Bool.false_eq_true] at h; done) | skip)
    exact ps_ofD ps_retN fun D σ H q => retN_reads q
  | .brk, st, h => by
    cases st <;> (first | (simp only [chkS, Bool.false_eq_true] at h; done) | skip)
    exact ps_ofD ps_break fun D σ H ⟨G, N, env, R, E, rd, fin⟩ => fin.bk _ _ _ (by simp only [rdS] at rd; exact rd) SStp.refl E
  | .cont, st, h => by
    cases st <;> (first | (simp only [chkS, Bool.false_eq_true] at h; done) | skip)
    exact ps_ofD ps_continue fun D σ H ⟨G, N, env, R, E, rd, fin⟩ => fin.ct _ _ _ (by simp only [rdS] at rd; exact rd) SStp.refl E
  | .pas, st, h => by
    cases st <;> (first | (simp only [chkS, Bool.false_eq_true] at h; done) | skip)
    exact ps_ofD ps_pass fun D σ H ⟨G, N, env, R, E, rd, fin⟩ => fin.nx _ _ _ (by simp only [rdS] at rd; exact rd) SStp.refl E
theorem sndSs {Γ : GEnv} {Φ : Phi} {N : List Str} {X : Cx} {k : Nat} {sc : Scope} (C : BCtx X Γ Φ k N sc) : ∀ {ss : Ss} {sts : List Stmt}, chkSs Γ N sc ss sts = true → PSs X sts (tSs Φ X.K ss)
  | .nil, [], h => pss_ofD pss_nil fun D σ H q => nil_reads q
  | .nil, _ :: _, h => by simp only [chkSs, Bool.false_eq_true] at h
  | .cons _ _, [], h => by simp only [chkSs, Bool.false_eq_true] at h
  | .cons s ss, st :: sts, h => by
    simp only [chkSs] at h
    obtain ⟨h1, h2⟩ := Bool.and_eq_true_iff.mp h
    exact pss_ofD (pss_cons (sndS C h1) (sndSs C h2)) fun D σ H q => cons_reads q
  | .frz i ss, sts, h => by
    simp only [chkSs] at h
    exact pss_ofD (sndSs C h) fun D σ H q => frz_reads q
  | .cntT _ _ _ _, [], h => by simp only [chkSs, Bool.false_eq_true] at h
  | .cntT _ _ _ _, [_], h => by simp only [chkSs, Bool.false_eq_true] at h
  | .cntT i j es ss, st1 :: st2 :: sts, h => by
    simp only [chkSs] at h
    obtain ⟨h1, h2⟩ := Bool.and_eq_true_iff.mp h
    obtain ⟨c1, c2⟩ := chkC_sound C h1
    exact pss_ofD (pss_cons c1 (pss_cons c2 (sndSs C h2))) fun D σ H q => cnt_reads q
  | .nev, sts, h => pss_ofD pss_never fun D σ H ⟨G, N, env, R, E, rd, fin⟩ => by simp only [rdSs] at rd
end
end DL

/-! DL18: a def by its body; a law by its def. -/
namespace DL
open PySem PySem.Spec PyProof.Rows L2

/-- the names at the entry -/
def env0 (io : Bool) (n : Nat) (ds : List D) : DEnv :=
  (match io, ds with
    | true, d :: r => .io d :: r.map .frz
    | _, ds => ds.map .frz) ++ List.replicate (n - ds.length) .un
/-- the changed argument at the end -/
def ioD (F : FSpec) (env : DEnv) (d' : D) : Prop := F.io = true → ∃ ns : List Int, d' = .list (ns.map .int) ∧ env[0]? = some (.io d')
def fnEnds (F : FSpec) (post : D → D → Prop) : DEnds where
  nx := fun env => F.fr = false ∧ ∃ d', ioD F env d' ∧ post d' .none
  rt := fun k d env => (if F.fr = true then k = .t else (k ≠ .b ∨ flat d = true)) ∧ ∃ d', ioD F env d' ∧ post d' d

/-- what a text may lean on holds -/
structure GOkP (P : Program) (w : World) (K : Frag) (mg : Str → Option Value) (base : Heap) (Γ : GEnv) (Φ : Phi) (k : Nat) : Prop where
  nums : ∀ p ∈ Γ.nums, ∃ t, mg p.1 = some (.int p.2 t)
  bis : ∀ x ∈ Γ.bis, mg x = none
  fns : ∀ f ∈ Γ.fns, ∃ (a : Addr) (fd : FuncData), FnG P w K mg base k a fd f.ps (spOf K (Φ f.name)) ∧ mg f.name = some (.ref a) ∧ PySem.W.keepIn K (.ref a) = true ∧
    (∀ j, j ≤ f.dfl.length → ∃ ds, Vals ((f.dfl.drop j).map dV) ds ∧ Binds K fd f.ps ds) ∧
    ∀ p ∈ f.kws, ∀ (s : Shared) (ws : List Value), K.In s.heap → ws.length = p.1.length → BindsTo s fd ⟨[], p.1.zip ws⟩ (f.ps.zip (pick p.2 ws))

section
variable {K : Frag} {H : Hp} {vs : List V} {ds : List D} {N : List Str}
theorem start_get {j : Nat} {v : V} (h : vs[j]? = some v) : (L2.start N vs)[j]? = some (some v) := by
  have hl := (List.getElem?_eq_some_iff.mp h).1
  unfold L2.start
  rw [List.getElem?_append_left (by simpa using hl), List.getElem?_map, h]; rfl
theorem start_len (h : vs.length ≤ N.length) : (L2.start N vs).length = N.length := by unfold L2.start; simp; omega
theorem env0_len {io : Bool} {n : Nat} (h : ds.length ≤ n) : (env0 io n ds).length = n := by
  unfold env0
  cases io <;> cases ds <;> simp at h ⊢ <;> omega
theorem env0_no {n j : Nat} {s : Slot} (h : (env0 false n ds)[j]? = some s) : s = .un ∨ ∃ d, ds[j]? = some d ∧ s = .frz d := by
  unfold env0 at h
  by_cases hj : j < ds.length
  · rw [List.getElem?_append_left (by simpa using hj), List.getElem?_map] at h
    obtain ⟨d, e, q⟩ := Option.map_eq_some_iff.mp h
    exact .inr ⟨d, e, q.symm⟩
  · rw [List.getElem?_append_right (by simpa using hj)] at h
    exact .inl (List.eq_of_mem_replicate (List.mem_of_getElem? h))
theorem env0_io {d : D} {dr : List D} {n j : Nat} {s : Slot} (h : (env0 true n (d :: dr))[j]? = some s) : s = .un ∨ (j = 0 ∧ s = .io d) ∨ ∃ i d', j = i + 1 ∧ dr[i]? = some d' ∧ s = .frz d' := by
  unfold env0 at h
  cases j with
  | zero => simp at h; exact .inr (.inl ⟨rfl, h.symm⟩)
  | succ i =>
    by_cases hj : i < dr.length
    · rw [List.getElem?_append_left (by simpa using hj)] at h
      rw [List.getElem?_cons_succ, List.getElem?_map] at h
      obtain ⟨d, e, q⟩ := Option.map_eq_some_iff.mp h
      exact .inr (.inr ⟨i, d, rfl, e, q.symm⟩)
    · rw [List.getElem?_append_right (by simpa using hj)] at h
      exact .inl (List.eq_of_mem_replicate (List.mem_of_getElem? h))
theorem entry_no {P : Addr → Prop} (r : Reps K H P ds vs) (hl : ds.length ≤ N.length) : EnvOk K (fun b => P b ∨ H b = none) (fun b => H b = none) H (L2.start N vs) (env0 false N.length ds) ∧ ∀ a, ¬ Own (env0 false N.length ds) (L2.start N vs) a := by
  have no : ∀ a, ¬ Own (env0 false N.length ds) (L2.start N vs) a := fun a ⟨j, d, hj, _⟩ => by
    rcases hj with hj | hj <;> rcases env0_no hj with z | ⟨_, _, z⟩ <;> cases z
  refine ⟨⟨by rw [start_len (by rw [r.length]; exact hl), env0_len hl], fun b e => ⟨.inr e, e⟩, fun j d hj => ?_, fun j d hj => ?_, fun j d hj => ?_, fun j l b ⟨d, hj⟩ _ _ _ => ?_⟩, no⟩
  · rcases env0_no hj with z | ⟨d', e, z⟩ <;> cases z
    obtain ⟨v, ev, rv⟩ := r.get e
    exact ⟨v, start_get ev, rv.mono fun b u e z => ⟨.inl z, no b⟩⟩
  · rcases env0_no hj with z | ⟨_, _, z⟩ <;> cases z
  · rcases env0_no hj with z | ⟨_, _, z⟩ <;> cases z
  · rcases hj with hj | hj <;> rcases env0_no hj with z | ⟨_, _, z⟩ <;> cases z
theorem entry_io {P : Addr → Prop} {a : Addr} {vr : List V} {dr : List D} {ns : List Int} (na : ¬ P a) (ha : H a = some (.lst (ns.map .int))) (r : Reps K H P dr vr) (hl : dr.length + 1 ≤ N.length) :
    EnvOk K (fun b => P b ∨ H b = none) (fun b => H b = none) H (L2.start N (.ref a :: vr)) (env0 true N.length (.list (ns.map .int) :: dr)) ∧ ∀ b, Own (env0 true N.length (.list (ns.map .int) :: dr)) (L2.start N (.ref a :: vr)) b → b = a := by
  have ow : ∀ b, Own (env0 true N.length (.list (ns.map .int) :: dr)) (L2.start N (.ref a :: vr)) b → b = a := fun b ⟨j, d, hj, e⟩ => by
    rcases hj with hj | hj <;> rcases env0_io hj with z | ⟨z0, z⟩ | ⟨_, _, _, _, z⟩ <;> (first | (cases z; done) | skip)
    subst z0
    rw [start_get (v := .ref a) rfl] at e
    cases e; rfl
  have up : ∀ b u, H b = some u → P b → H b = some u ∧ ((P b ∨ H b = none) ∧ ¬ Own (env0 true N.length (.list (ns.map .int) :: dr)) (L2.start N (.ref a :: vr)) b) := fun b u e z => ⟨e, .inl z, fun y => na (ow b y ▸ z)⟩
  refine ⟨⟨by rw [start_len (by rw [List.length_cons, r.length]; exact hl), env0_len (by rw [List.length_cons]; exact hl)], fun b e => ⟨.inr e, e⟩, fun j d hj => ?_, fun j d hj => ?_, fun j d hj => ?_, fun j l b ⟨d, hj⟩ ⟨d2, hl⟩ _ _ => ?_⟩, ow⟩
  · rcases env0_io hj with z | ⟨_, z⟩ | ⟨i, d', rfl, e, z⟩ <;> cases z
    obtain ⟨v, ev, rv⟩ := r.get e
    exact ⟨v, start_get (by rw [List.getElem?_cons_succ]; exact ev), rv.imp up⟩
  · rcases env0_io hj with z | ⟨_, z⟩ | ⟨_, _, _, _, z⟩ <;> cases z
  · rcases env0_io hj with z | ⟨z0, z⟩ | ⟨_, _, _, _, z⟩ <;> cases z
    subst z0
    exact ⟨a, start_get rfl, .inl ⟨_, _, rfl, ha, Rep.of_ints⟩⟩
  · have key : ∀ {j : Nat} {d : D}, ((env0 true N.length (.list (ns.map .int) :: dr))[j]? = some (Slot.own d) ∨ (env0 true N.length (.list (ns.map .int) :: dr))[j]? = some (Slot.io d)) → j = 0 := fun {j d} hj => by
      rcases hj with hj | hj <;> rcases env0_io hj with z | ⟨z0, z⟩ | ⟨_, _, _, _, z⟩ <;> (first | (cases z; done) | exact z0)
    rw [key hj, key hl]
/-- an answer, told to the caller -/
theorem ans_of {G : Addr → Prop} {P : Addr → Prop} {F : FSpec} {k : Kd} {d : D} {v : V} {H' : Hp} {σ' : L2.St} {env' : DEnv} (hG : G = fun b => P b ∨ H b = none) (hk : if F.fr = true then k = .t else (k ≠ .b ∨ flat d = true)) (r : Res K G (fun b => H b = none) σ' k H' env' d v) : AnsR K P H F.fr d v H' := by
  subst hG
  cases hf : F.fr with
  | true =>
    rw [hf, if_pos rfl] at hk
    subst hk
    obtain ⟨c, rfl, f⟩ := r
    exact ⟨c, rfl, f.n, f.ob.imp (fun b u e z => ⟨e, z.1⟩) fun u e => e⟩
  | false =>
    rw [hf, if_neg Bool.false_ne_true] at hk
    obtain ⟨E, rk⟩ := r.weak
    have z : Rep K H' (fun a => (P a ∨ H a = none) ∧ ¬ Own env' σ' a) d v := by
      rcases hk with hk | hk
      · exact rk.z hk
      · exact wide_flat E hk rk.wide
    exact z.mono fun b u e y => y.1
end

/-- a def by its body -/
theorem fnG_of {P : Program} {w : World} {K : Frag} {mg : Str → Option Value} {base : Heap} {x qual : Str} {params : Arguments} {body : List Stmt} {scope : Scope} {dvs : List V} {kws : List (Str × V)} {f : Addr} {fd : FuncData} {N ps : List Str} {Γ : GEnv} {Φ : Phi} {k : Nat} {b : Ss} {F : FSpec}
    (FD : FunD K x qual params body scope dvs kws f fd) (S : FnScope N ps scope) (g : GOkP P w K mg base Γ Φ k) (hc : chkSs Γ N scope b body = true)
    (law : ∀ ds post, F.sp ds post → ds.length = ps.length ∧ rdSs Φ b (env0 F.io N.length ds) (fnEnds F post)) : FnG P w K mg base (k + 1) f fd ps (spOf K F) := by
  have len : ∀ vs H Q, spOf K F vs H Q → vs.length = ps.length := fun vs H Q ⟨P, ds, post, hsp, hm⟩ => by
    rw [← (law ds post hsp).1]
    cases hio : F.io with
    | false =>
      rw [hio] at hm
      exact hm.1.length
    | true =>
      rw [hio] at hm
      obtain ⟨a, vr, ns, dr, rfl, rfl, _, _, r, _⟩ := hm
      rw [List.length_cons, List.length_cons, r.length]
  refine ⟨len, fun A outer s H args us vs Q hg hr e0 hb r hsp => ?_⟩
  obtain ⟨oc, od, dV, kV, doc, pm, an, cdv, ct, osl, rfl, lk, hcd, _, _⟩ := FD.ex
  have hl := len _ _ _ hsp
  have pre : ps.length ≤ N.length := by
    have z := congrArg List.length S.pre
    rw [List.length_take] at z; omega
  have inK : K.In s.heap := e0.mod.kin.keeps fun b o e => (e0.bs b o e).1
  have nolim : s.heap.NoLimit := e0.mod.nolimit.keeps fun b o e => (e0.bs b o e).1
  have kinds : ∀ y ∈ ps.zip us, scope.names.lookup y.1 = some .local ∨ (scope.names.lookup y.1 = some .cell ∧ ((cellsFrom (s.heap.objs.size + 1) scope.names []).lookup y.1).isSome = true) := fun y hy => by
    rcases S.par y.1 (List.of_mem_zip (show (y.1, y.2) ∈ _ from hy)).1 with q | q
    · exact .inl q
    · exact .inr ⟨q, PySem.W.cellsFrom_some _ _ _ (.inl q)⟩
  refine codeAny_call_function hr.depth (inK _ _ lk) rfl S.co S.gen rfl (PySem.W.codeRec_of inK hcd) (hb _ _ _ _ ?_)
  refine wpAny_newFunctionEnv_cells S.kind kinds fun env he s1 x => ?_
  subst he
  refine ⟨nolim.keeps x.toInCall.keep, codeAny_func ?_⟩
  have I0 : Inv (cxOf CX0 P w K mg base N qual scope f cdv A outer s H E0) [] (L2.start N vs) H s1 := inv_start S hr.hd e0 hl r x
  have C : BCtx (cxOf CX0 P w K mg base N qual scope f cdv A outer s H E0).nox Γ Φ k N scope :=
    { calm := rfl, names := rfl, nd := S.nd, scope := rfl, room := hr.deeper _, gd := hg, g := ⟨g.nums, g.bis, g.fns⟩, fn := fun _ => rfl, kind := S.kind, pass := PassesOwn.never }
  have body_ok := (sndSs C hc).nox
  have entry : tSs Φ K b { nx := fun _ H' => Q .non H', rt := Q } (L2.start N vs) H := by
    obtain ⟨P', ds, post, hs, hm⟩ := hsp
    obtain ⟨hdl, rd⟩ := law ds post hs
    cases hio : F.io with
    | false =>
      rw [hio] at hm rd
      obtain ⟨rp, fin⟩ := hm
      obtain ⟨E, no⟩ := entry_no rp (N := N) (by rw [hdl]; exact pre)
      have kp : ∀ {σ' : L2.St} {H' : Hp} {env' : DEnv}, SStp (L2.start N vs) H (env0 false N.length ds) σ' H' env' → ∀ b o, H b = some o → H' b = some o := fun t b o e => t.step b o e (no b)
      refine ⟨_, _, _, _, E, rd, ⟨fun env' σ' H' ⟨h1, d', _, h3⟩ t E' => ?_, fun k d env' v σ' H' ⟨hk, d', _, h3⟩ t rs => ?_, fun _ _ _ h => h.elim, fun _ _ _ h => h.elim⟩⟩
      · refine fin _ _ _ _ h3 (kp t) ?_
        rw [h1]
        exact (show Rep K H' (fun b => P' b ∨ H b = none) .none V.non by unfold Rep; rfl)
      · exact fin _ _ _ _ h3 (kp t) (ans_of rfl hk rs)
    | true =>
      rw [hio] at hm rd
      obtain ⟨a, vr, ns, dr, rfl, rfl, na, ha, rp, fin⟩ := hm
      obtain ⟨E, ow⟩ := entry_io (N := N) na ha rp (by rw [List.length_cons] at hdl; omega)
      have kp : ∀ {σ' : L2.St} {H' : Hp} {env' : DEnv}, SStp (L2.start N (.ref a :: vr)) H (env0 true N.length (.list (ns.map .int) :: dr)) σ' H' env' → ∀ b o, H b = some o → b ≠ a → H' b = some o := fun t b o e ne => t.step b o e fun y => ne (ow b y)
      have e00 : (env0 true N.length (.list (ns.map .int) :: dr))[0]? = some (.io (.list (ns.map .int))) := rfl
      have here : ∀ {σ' : L2.St} {H' : Hp} {env' : DEnv} {d' : D}, SStp (L2.start N (.ref a :: vr)) H (env0 true N.length (.list (ns.map .int) :: dr)) σ' H' env' → EnvOk K (fun b => P' b ∨ H b = none) (fun b => H b = none) H' σ' env' → ioD F env' d' → ∃ ns' : List Int, d' = .list (ns'.map .int) ∧ H' a = some (.lst (ns'.map .int)) := fun {σ' H' env' d'} t E' hd => by
        obtain ⟨ns', rfl, e'⟩ := hd hio
        obtain ⟨b, eb, o⟩ := E'.io 0 _ e'
        obtain ⟨_, _, es⟩ := t.io 0 _ e00
        rw [es, start_get (v := .ref a) rfl] at eb
        cases eb
        rcases o with ⟨ds', xs, e2, hx, rx⟩ | ⟨kvs, ks, e2, _⟩
        · cases e2
          rw [Rep.ints rx] at hx
          exact ⟨ns', rfl, hx⟩
        · cases e2
      refine ⟨_, _, _, _, E, rd, ⟨fun env' σ' H' ⟨h1, d', h2, h3⟩ t E' => ?_, fun k d env' v σ' H' ⟨hk, d', h2, h3⟩ t rs => ?_, fun _ _ _ h => h.elim, fun _ _ _ h => h.elim⟩⟩
      · obtain ⟨ns', rfl, hx⟩ := here t E' h2
        refine fin _ _ _ _ h3 (kp t) hx ?_
        rw [h1]
        exact (show Rep K H' (fun b => P' b ∨ H b = none) .none V.non by unfold Rep; rfl)
      · obtain ⟨ns', rfl, hx⟩ := here t rs.weak.1 h2
        exact fin _ _ _ _ h3 (kp t) hx (ans_of rfl hk rs)
  have tell : ∀ {σ' : L2.St} {H' : Hp} {v : V} {u : Value} {s' : Shared}, Inv (cxOf CX0 P w K mg base N qual scope f cdv A outer s H E0) [] σ' H' s' → RelV v u → Q v H' → CE outer P w H s Q u s' :=
    fun {σ' H' v u s'} J rv q => ⟨v, H', J.os, J.bare, J.base, J.hok, rv, q⟩
  refine wpAny_mono (body_ok.run [] s1 (L2.start N vs) H _ I0 entry) (fun fl s' hs => ?_) fun e s' hs => hs
  cases fl with
  | brk => obtain ⟨_, _, _, q⟩ := hs; exact q.elim
  | cont => obtain ⟨_, _, _, q⟩ := hs; exact q.elim
  | next => obtain ⟨σ', H', J, q⟩ := hs; exact tell (v := V.non) (u := Value.none) J rfl q
  | ret u => obtain ⟨v, σ', H', J, rv, q⟩ := hs; exact tell J rv q

/-! ### the law's own call -/
/-- the script, untouched: as an object of the layer or of the fragment -/
theorem law_of {P : Program} {w : World} {K : Frag} {mg mb : Str → Option Value} {k : Nat} {fa a : Addr} {fd : FuncData} {x : Str} {F : FSpec} {s₁ : Shared} {vs : List Value} {ns : List Int} (inK : K.In s₁.heap) (hns : s₁.heap.Ns mainGlobals mg) (hb : s₁.heap.Ns builtinsNs mb)
    (hbb : ∀ x : Str, x ≠ "__name__" → mb x = bootBuiltins x) (nolim : s₁.heap.NoLimit) (hg : s₁.gens = #[]) (ha : s₁.heap.get? a = some { cls := .type "list", data := .seq vs.toArray }) (hi : IntsAre vs ns) (hl : ns.length ≤ sizeLine) (hr : Room k callerA)
    (made : ∀ base : Heap, K.In base → base.Ns mainGlobals mg → FnG P w K mg base k fa fd [x] (spOf K F)) (hbind : ∀ (s : Shared) (u : Value), BindsTo s fd ⟨[u], []⟩ [(x, u)])
    (io : F.io = false) (fr : F.fr = false) (good : F.sp [.list (ns.map .int)] fun _ r => r = .bool true) :
    codeAny (model P w) callerA (.call (.ref fa) ⟨[.ref a], []⟩) (fun r s' => r = .ok (.ret (.bool true)) ∧ OldK s₁.heap s'.heap ∧ s'.os = s₁.os ∧ AllBare s'.gens) s₁ := by
  have rv := vals_ints hi
  have lv := hi.length
  have reads : ∀ (H : Hp), LN K H (fun b => H b ≠ none) a (ns.map V.int) → spOf K F [.ref a] H fun v _ => v = .bl true := fun H l => by
    refine ⟨fun b => H b ≠ none, _, _, good, ?_⟩
    rw [io]
    refine ⟨.cons ?_ .nil, fun d' r v H' hr _ an => ?_⟩
    · unfold Rep
      exact ⟨a, _, rfl, l, Rep.of_ints⟩
    · subst hr
      rw [fr] at an
      exact Rep.bool_inv (show Rep K H' (fun b => H b ≠ none ∨ H b = none) (.bool true) v from an)
  have go : ∀ H : Hp, (∀ b, H b = none ∨ (b = a ∧ ∃ o xs, H b = some (.frz o (.lst xs)))) → spOf K F [.ref a] H (fun v _ => v = .bl true) → HOk P w H s₁.heap → (H a ≠ none → K.lookup a = none) →
      codeAny (model P w) callerA (.call (.ref fa) ⟨[.ref a], []⟩) (fun r s' => r = .ok (.ret (.bool true)) ∧ OldK s₁.heap s'.heap ∧ s'.os = s₁.os ∧ AllBare s'.gens) s₁ := fun H only hsp hok hK => by
    have none_of : ∀ {b : Addr}, b ≠ a → H b = none := fun {b} ne => (only b).resolve_right fun z => ne z.1
    have hid : ∀ {b : Addr} {o : Obj}, s₁.heap.get? b = some o → H b = none → (hidT s₁.heap H).get? b = some o := fun e n => hidT_get e n
    have hidN : ∀ {b : Addr} {m : Str → Option Value}, s₁.heap.Ns b m → (hidT s₁.heap H).Ns b m := fun {b m} ⟨o, es, ep, e, d, r⟩ => by
      refine ⟨o, es, ep, hid e ?_, d, r⟩
      by_cases hba : b = a
      · subst hba
        rw [ha] at e
        cases e
        exact absurd d (fun z => nomatch z)
      · exact none_of hba
    have hidK : K.In (hidT s₁.heap H) := fun b o e => hid (inK b o e) (by
      by_cases hba : b = a
      · subst hba
        cases q : H b with
        | none => rfl
        | some u =>
          rw [hK (by rw [q]; exact fun z => nomatch z)] at e
          cases e
      · exact none_of hba)
    have md : Mod K mg (hidT s₁.heap H) := ⟨hidK, hidN hns, ⟨mb, hidN hb, hbb⟩, let ⟨mc, h1, h2⟩ := nolim; ⟨mc, hidN h1, h2⟩⟩
    have en : Env0 P w K mg (hidT s₁.heap H) callerA [] s₁ H :=
      ⟨rfl, md, fun b o e => of_hidT e, Nat.le_of_eq (hidT_size _ _), trivial, fun b hb => absurd hb List.not_mem_nil, hok, .of_eq hg⟩
    refine codeAny_mono ((made _ hidK (hidN hns)).run callerA [] s₁ H ⟨[.ref a], []⟩ [.ref a] [.ref a] _ rfl hr en (hbind s₁ (.ref a)) (.cons rfl .nil) hsp) fun r s' h => ?_
    rcases r with e | fl
    · exact h.elim
    cases fl with
    | next => exact h.elim
    | brk => exact h.elim
    | cont => exact h.elim
    | ret u =>
      obtain ⟨v, H', os, bare, un, hok', r', q⟩ := h
      have q' : v = .bl true := q
      subst q'
      obtain rfl : u = Value.bool true := r'
      refine ⟨rfl, OldK.of_keep fun b o e => ?_, os, bare⟩
      rcases only b with z | ⟨rfl, ob, xs, z⟩
      · exact un.keep b o e z (fun y => absurd y List.not_mem_nil) (by simp)
      · obtain ⟨e1, _⟩ := hok _ _ z
        obtain ⟨e2, _⟩ := hok' _ _ (un.frzs _ ob _ z)
        rw [e] at e1
        cases e1
        exact e2
  cases hk : K.lookup a with
  | some o =>
    have e := inK a o hk
    rw [ha] at e
    cases e
    exact go (fun _ => none) (fun _ => .inl rfl) (reads _ (.inr ⟨vs, _, hk, by rw [lv]; exact hl, rv⟩)) (fun b u z => absurd z (fun z => nomatch z)) fun z => absurd rfl z
  | none =>
    have at_a : (if a = a then some (HO.frz { cls := .type "list", data := .seq vs.toArray } (.lst (ns.map V.int))) else none) = some (HO.frz { cls := .type "list", data := .seq vs.toArray } (.lst (ns.map V.int))) := if_pos rfl
    refine go (fun b => if b = a then some (.frz { cls := .type "list", data := .seq vs.toArray } (.lst (ns.map V.int))) else none) (fun b => ?_) (reads _ (.inl ⟨.inr ⟨_, if_pos rfl⟩, fun z => nomatch at_a.symm.trans z⟩)) (fun b u z => ?_) fun _ => hk
    · by_cases hba : b = a
      · exact .inr ⟨hba, _, _, if_pos hba⟩
      · exact .inl (if_neg hba)
    · by_cases hba : b = a
      · subst hba
        cases (if_pos rfl).symm.trans z
        exact ⟨ha, by rw [List.length_map]; exact hl, vs, _, rv, ha⟩
      · cases (if_neg hba).symm.trans z

/-- a law: what the head leaves -/
theorem walk_dl {l : PySem.W.OpenLaw} {n k : Nat} {q : Program} {loose : List Str} {XP : (Str → Option Value) → Heap → Prop} {YP : World → Heap → Prop} {d : DefRec} {x : Str} {F : FSpec} (hn : l.most = some n) (hn2 : n ≤ sizeLine) (hdf : d.params.defaults = []) (hr : Room k callerA)
    (io : F.io = false) (fr : F.fr = false) (good : ∀ ns : List Int, ns.length ≤ n → F.sp [.list (ns.map .int)] fun _ r => r = .bool true)
    (facts : ∀ (w : World) (mg : Str → Option Value) (fa : Addr) (h : Heap), YP w h → h.Ns mainGlobals mg → mg d.name = some (.ref fa) → ∃ (K : Frag) (fd : FuncData), K.In h ∧ (∀ (s : Shared) (u : Value), BindsTo s fd ⟨[u], []⟩ [(x, u)]) ∧
      ∀ base : Heap, K.In base → base.Ns mainGlobals mg → FnG l.prog w K mg base k fa fd [x] (spOf K F)) : PySem.W.WalkO q loose XP YP l.row.toRowW d [] (fun f vs => PySem.call f vs) := by
  refine Att.attach_call hn hdf fun w s₀ s₁ mg mb fa o pm cd doc a vs ns G Y ho hd hcd hmg hobj hints hlen hg => ?_
  obtain ⟨K, fd, inK, hb, hF⟩ := facts w mg fa _ Y G.T.g hmg
  exact law_of inK G.T.g G.T.b G.T.builtins G.T.nolimit hg hobj hints (Nat.le_trans hlen hn2) hr hF hb io fr (good ns hlen)
end DL

/-! DL19: the defs of a text, one behind another. -/
namespace DL
open PySem PySem.Spec PyProof.Rows L2
section
variable {P : Program} {w : World} {K : Frag} {mg : Str → Option Value} {base : Heap} {Φ : Phi} {k : Nat} {nums : List (Str × Int)} {bis : List Str} {l : List GFn}
/-- one more def -/
theorem GOkP.add (g : GOkP P w K mg base { nums := nums, bis := bis, fns := l } Φ k) {f : GFn} {fa : Addr} {fd : FuncData} (F : FnG P w K mg base (k + 1) fa fd f.ps (spOf K (Φ f.name))) (hm : mg f.name = some (.ref fa)) (hk : PySem.W.keepIn K (.ref fa) = true)
    (hd : ∀ j, j ≤ f.dfl.length → ∃ ds, Vals ((f.dfl.drop j).map dV) ds ∧ Binds K fd f.ps ds) (hw : ∀ p ∈ f.kws, ∀ (s : Shared) (ws : List Value), K.In s.heap → ws.length = p.1.length → BindsTo s fd ⟨[], p.1.zip ws⟩ (f.ps.zip (pick p.2 ws))) :
    GOkP P w K mg base { nums := nums, bis := bis, fns := l ++ [f] } Φ (k + 1) where
  nums := g.nums
  bis := g.bis
  fns := fun f' hf' => by
    rcases List.mem_append.mp hf' with z | z
    · obtain ⟨a, fd', F', r⟩ := g.fns f' z
      exact ⟨a, fd', F'.up (Nat.le_succ k), r⟩
    · have e : f' = f := by simpa using z
      subst e
      exact ⟨fa, fd, F, hm, hk, hd, hw⟩
/-- a def without defaults: its arguments -/
theorem bd0 {x qual : Str} {params : Arguments} {body : List Stmt} {scope : Scope} {kws : List (Str × V)} {f : Addr} {fd : FuncData} {ps : List Str} (F : FunD K x qual params body scope [] kws f fd)
    (h : ∀ (kV doc pm : Value) (an : Option Addr) (cdv ct : Value) (us : List Value), us.length = ps.length → bindArgs (PySem.W.fnOf x qual params body scope .none kV doc pm an cdv ct) ⟨us, []⟩ = pure (ps.zip us)) : ∀ j, j ≤ ([] : List D).length → ∃ ds, Vals ((([] : List D).drop j).map dV) ds ∧ Binds K fd ps ds := fun j hj => by
  have e : j = 0 := Nat.le_zero.mp hj
  subst e
  exact ⟨[], .nil, F.bindsN h⟩
/-- by names -/
theorem kwA {x qual : Str} {params : Arguments} {body : List Stmt} {scope : Scope} {kws : List (Str × V)} {f : Addr} {fd : FuncData} (F : FunD K x qual params body scope [] kws f fd) {args : Args} {bs : List (Str × Value)}
    (h : ∀ (kV doc pm : Value) (an : Option Addr) (cdv ct : Value), bindArgs (PySem.W.fnOf x qual params body scope .none kV doc pm an cdv ct) args = pure bs) (s : Shared) : BindsTo s fd args bs := by
  obtain ⟨oc, od, dV, kV, doc, pm, an, cdv, ct, osl, rfl, lk, hcd, hD, hK⟩ := F.ex
  rcases hD with ⟨_, rfl⟩ | ⟨e, _⟩
  · exact .of_eq (h kV doc pm an cdv ct)
  · exact absurd rfl e
theorem no_kws {p : List Str × List Nat} {Q : Prop} (h : p ∈ ([] : List (List Str × List Nat))) : Q := by cases h
end
end DL

namespace CA
open PySem PySem.Spec PyProof.Rows L2 DL
def N_is_integer : List Str := ["value", "low", "high"]
abbrev k_is_integer : Nat := 3
def b_is_integer : Ss :=
  .cons (.iff (.ors (.cons (.not (.ist .isIntT (.var 0))) (.cons (.ist .isBoolT (.var 0)) (.nil)))) (.cons (.ret (.bl false)) (
    .nil)) (.nil)) (
    .cons (.ret (.ands (.cons (.ors (.cons (.isN (.var 1)) (.cons (.cmp .ge (.var 0) (.var 1)) (.nil)))) (.cons (.ors (.cons (.isN (.var 2)) (.cons (.cmp .le (.var 0) (.var 2)) (.nil)))) (.nil))))) (
    .nil))
def N_need_size : List Str := ["size"]
abbrev k_need_size : Nat := 1
def b_need_size : Ss :=
  .cons (.iff (.not (.call "is_integer" (.cons (.var 0) (.cons (.int 1) (.cons (.gi "MOST_SIZE" (8)) (.nil)))) [])) (.nev) (.nil)) (
    .nil)
def N_is_cell : List Str := ["size", "value", "slot", "entry", "outlet"]
abbrev k_is_cell : Nat := 2
def b_is_cell : Ss :=
  .cons (.iff (.ors (.cons (.not (.ist .isTupT (.var 1))) (.cons (.cmp .ne (.bi .len (.cons (.var 1) (.nil))) (.int 3)) (.nil)))) (.cons (.ret (.bl false)) (
    .nil)) (.nil)) (
    .cons (.asgT (.cons (.nm 2) (.cons (.nm 3) (.cons (.nm 4) (.nil)))) (.var 1)) (
    .cons (.ret (.ands (.cons (.call "is_integer" (.cons (.var 2) (.cons (.int 0) (.cons (.gi "MOST_SLOT" (999999999999999999999999999999)) (.nil)))) []) (.cons (.call "is_integer" (.cons (.var 3) (.cons (.int 0) (.cons (.bin .sub (.var 0) (.int 1)) (.nil)))) []) (.cons (.call "is_integer" (.cons (.var 4) (.cons (.int 0) (.cons (.bin .sub (.var 0) (.int 1)) (.nil)))) []) (.nil)))))) (
    .nil)))
def N_cells_fault : List Str := ["size", "value", "index", "cell"]
abbrev k_cells_fault : Nat := 2
def b_cells_fault : Ss :=
  .cons (.iff (.ors (.cons (.not (.ist .isListT (.var 1))) (.cons (.cmp .gt (.bi .len (.cons (.var 1) (.nil))) (.gi "MOST_CELLS" (60))) (.nil)))) (.cons (.ret (.tup (.cons (.non) (.nil)))) (
    .nil)) (.nil)) (
    .cons (.forr (.tp (.cons (.nm 2) (.cons (.nm 3) (.nil)))) (.enum (.var 1)) (.cons (.iff (.ors (.cons (.not (.call "is_cell" (.cons (.var 0) (.cons (.var 3) (.nil))) [])) (.cons (.ands (.cons (.cmp .gt (.var 2) (.int 0)) (.cons (.cmp .ge (.sl (.idxv 1 (.bin .sub (.var 2) (.int 1))) (.no) (.so (.int 2))) (.sl (.var 3) (.no) (.so (.int 2)))) (.nil)))) (.nil)))) (.cons (.ret (.tup (.cons (.var 2) (.nil)))) (
    .nil)) (.nil)) (
    .nil)) [2, 3]) (
    .cons (.ret (.tup (.nil))) (
    .nil)))
def N_need_cells : List Str := ["size", "cells", "fault"]
abbrev k_need_cells : Nat := 2
def b_need_cells : Ss :=
  .cons (.expr (.call "need_size" (.cons (.var 0) (.nil)) [])) (
    .cons (.asg 2 false (.call "cells_fault" (.cons (.var 0) (.cons (.var 1) (.nil))) [])) (
    .cons (.iff (.cmp .ne (.var 2) (.tup (.nil))) (.nev) (.nil)) (
    .nil)))
def N_row_fault : List Str := ["cells", "value", "known", "index", "slot", "start", "entry", "outlet"]
abbrev k_row_fault : Nat := 2
def b_row_fault : Ss :=
  .cons (.iff (.ors (.cons (.not (.ist .isListT (.var 1))) (.cons (.cmp .ne (.bi .len (.cons (.var 1) (.nil))) (.bi .len (.cons (.var 0) (.nil)))) (.nil)))) (.cons (.ret (.tup (.cons (.non) (.nil)))) (
    .nil)) (.nil)) (
    .cons (.asg 2 true (.dnewT)) (
    .cons (.forr (.tp (.cons (.nm 3) (.cons (.nm 4) (.nil)))) (.enum (.var 1)) (.cons (.asgT (.cons (.nm 5) (.cons (.nm 6) (.cons (.nm 7) (.nil)))) (.idxv 0 (.var 3))) (
    .cons (.iff (.ors (.cons (.not (.call "is_integer" (.cons (.var 4) (.cons (.var 5) (.cons (.gi "MOST_LEAVING" (9999999999999999999999999999999)) (.nil)))) [])) (.cons (.dinT false (.cons (.var 7) (.cons (.var 4) (.nil))) 2) (.nil)))) (.cons (.ret (.tup (.cons (.var 3) (.nil)))) (
    .nil)) (.nil)) (
    .cons (.dputT 2 (.cons (.var 7) (.cons (.var 4) (.nil))) (.bl true)) (
    .nil)))) [3, 4, 5, 6, 7]) (
    .cons (.ret (.tup (.nil))) (
    .nil))))
def N_need_row : List Str := ["size", "cells", "row", "fault"]
abbrev k_need_row : Nat := 3
def b_need_row : Ss :=
  .cons (.expr (.call "need_cells" (.cons (.var 0) (.cons (.var 1) (.nil))) [])) (
    .cons (.asg 3 false (.call "row_fault" (.cons (.var 1) (.cons (.var 2) (.nil))) [])) (
    .cons (.iff (.cmp .ne (.var 3) (.tup (.nil))) (.nev) (.nil)) (
    .nil)))
def N_slots_fault : List Str := ["cells", "value", "index", "slot"]
abbrev k_slots_fault : Nat := 2
def b_slots_fault : Ss :=
  .cons (.iff (.ors (.cons (.not (.ist .isListT (.var 1))) (.cons (.cmp .ne (.bi .len (.cons (.var 1) (.nil))) (.bi .len (.cons (.var 0) (.nil)))) (.nil)))) (.cons (.ret (.tup (.cons (.non) (.nil)))) (
    .nil)) (.nil)) (
    .cons (.forr (.tp (.cons (.nm 2) (.cons (.nm 3) (.nil)))) (.enum (.var 1)) (.cons (.iff (.not (.call "is_integer" (.cons (.var 3) (.cons (.idx (.idxv 0 (.var 2)) (.int 0)) (.cons (.gi "MOST_LEAVING" (9999999999999999999999999999999)) (.nil)))) [])) (.cons (.ret (.tup (.cons (.var 2) (.nil)))) (
    .nil)) (.nil)) (
    .nil)) [2, 3]) (
    .cons (.ret (.tup (.nil))) (
    .nil)))
def N_check_crossings : List Str := ["cells", "crossings", "fault"]
abbrev k_check_crossings : Nat := 2
def b_check_crossings : Ss :=
  .cons (.asg 2 false (.call "slots_fault" (.cons (.var 0) (.cons (.var 1) (.nil))) [])) (
    .cons (.iff (.cmp .ne (.var 2) (.tup (.nil))) (.nev) (.nil)) (
    .nil))
def N_need_crossings : List Str := ["size", "cells", "crossings"]
abbrev k_need_crossings : Nat := 3
def b_need_crossings : Ss :=
  .cons (.expr (.call "need_cells" (.cons (.var 0) (.cons (.var 1) (.nil))) [])) (
    .cons (.expr (.call "check_crossings" (.cons (.var 1) (.cons (.var 2) (.nil))) [])) (
    .nil))
def N_need_port : List Str := ["size", "port"]
abbrev k_need_port : Nat := 2
def b_need_port : Ss :=
  .cons (.iff (.not (.call "is_integer" (.cons (.var 1) (.cons (.int 0) (.cons (.bin .sub (.var 0) (.int 1)) (.nil)))) [])) (.nev) (.nil)) (
    .nil)
def N_need_slot : List Str := ["slot"]
abbrev k_need_slot : Nat := 1
def b_need_slot : Ss :=
  .cons (.iff (.not (.call "is_integer" (.cons (.var 0) (.cons (.int 0) (.cons (.gi "MOST_LEAVING" (9999999999999999999999999999999)) (.nil)))) [])) (.nev) (.nil)) (
    .nil)
def N_need_number : List Str := ["number", "low", "high"]
abbrev k_need_number : Nat := 3
def b_need_number : Ss :=
  .cons (.iff (.not (.call "is_integer" (.cons (.var 0) (.cons (.var 1) (.cons (.var 2) (.nil)))) [])) (.nev) (.nil)) (
    .nil)
def N_need_rhythm : List Str := ["rhythm", "index", "many"]
abbrev k_need_rhythm : Nat := 1
def b_need_rhythm : Ss :=
  .cons (.iff (.ors (.cons (.not (.ist .isListT (.var 0))) (.cons (.not (.chain .le .le (.int 1) (.bi .len (.cons (.var 0) (.nil))) (.gi "MOST_LENGTH" (40)))) (.nil)))) (.nev) (.nil)) (
    .cons (.forr (.tp (.cons (.nm 1) (.cons (.nm 2) (.nil)))) (.enum (.var 0)) (.cons (.iff (.not (.call "is_integer" (.cons (.var 2) (.cons (.int 0) (.cons (.gi "MOST_PAIRINGS" (9)) (.nil)))) [])) (.nev) (.nil)) (
    .nil)) [1, 2]) (
    .nil))
def N__law_source : List Str := ["cell", "k", "great"]
abbrev k__law_source : Nat := 2
def b__law_source : Ss :=
  .cons (.asg 2 false (.bi .abs (.cons (.var 0) (.nil)))) (
    .cons (.ret (.lst (.cons (.bi .max (.cons (.int 0) (.cons (.bin .sub (.var 2) (.bin .pow (.int 10) (.int 18))) (.nil)))) (.cons (.bin .add (.bin .add (.bin .mul (.bin .mod (.bi .int (.cons (.var 2) (.nil))) (.bin .add (.bin .pow (.int 10) (.int 45)) (.int 9))) (.int 83)) (.bin .mul (.int 2) (.var 1))) (.bi .int (.cons (.cmp .lt (.var 0) (.int 0)) (.nil)))) (.cons (.int 0) (.nil)))))) (
    .nil))
def N__law_draw : List Str := ["source", "count", "digit", "mixed"]
abbrev k__law_draw : Nat := 2
def b__law_draw : Ss :=
  .cons (.iff (.cmp .gt (.idxv 0 (.int 0)) (.int 0)) (.cons (.asg 2 false (.bin .mod (.bi .int (.cons (.idxv 0 (.int 0)) (.nil))) (.var 1))) (
    .cons (.setv 0 (.int 0) (.bin .fdiv (.idxv 0 (.int 0)) (.var 1))) (
    .cons (.ret (.var 2)) (
    .nil)))) (.nil)) (
    .cons (.setv 0 (.int 2) (.bin .add (.idxv 0 (.int 2)) (.int 1))) (
    .cons (.asg 3 false (.bin .mod (.bi .int (.cons (.bin .pow (.bin .add (.idxv 0 (.int 1)) (.bin .mul (.int 800011) (.idxv 0 (.int 2)))) (.int 3)) (.nil))) (.bin .add (.bin .pow (.int 10) (.int 38)) (.int 133)))) (
    .cons (.asg 3 false (.bin .mod (.bi .int (.cons (.bin .pow (.bin .add (.bin .mul (.var 3) (.idxv 0 (.int 2))) (.int 70051)) (.int 3)) (.nil))) (.bin .add (.bin .pow (.int 10) (.int 40)) (.int 121)))) (
    .cons (.ret (.bin .mod (.bi .int (.cons (.bin .fdiv (.var 3) (.int 98317)) (.nil))) (.var 1))) (
    .nil)))))
def N__law_lot : List Str := ["source", "wide", "span", "way", "goal", "found", "at", "is_full", "port", "other"]
abbrev k__law_lot : Nat := 3
def b__law_lot : Ss :=
  .cons (.par [(3, false), (4, false), (5, true)] (.cons (.callio "_law_draw" 0 (.cons (.int 4) (.nil))) (.cons (.callio "_law_draw" 0 (.cons (.var 1) (.nil))) (.cons (.lst (.nil)) (.nil))))) (
    .cons (.forr (.nm 6) (.rng1 (.var 2)) (.cons (.asg 7 false (.ands (.cons (.cmp .eq (.var 3) (.int 3)) (.cons (.cmp .eq (.callio "_law_draw" 0 (.cons (.int 2) (.nil))) (.int 0)) (.nil))))) (
    .cons (.forr (.nm 8) (.rng1 (.var 1)) (.cons (.iff (.ors (.cons (.var 7) (.cons (.ands (.cons (.cmp .lt (.var 3) (.int 3)) (.cons (.cmp .eq (.callio "_law_draw" 0 (.cons (.idx (.lst (.cons (.int 2) (.cons (.int 2) (.cons (.int 4) (.nil))))) (.var 3)) (.nil))) (.int 0)) (.nil)))) (.nil)))) (.cons (.asg 9 false (.callio "_law_draw" 0 (.cons (.var 1) (.nil)))) (
    .cons (.mut .append 5 (.tup (.cons (.var 6) (.cons (.var 8) (.cons (.ife (.ands (.cons (.cmp .eq (.var 3) (.int 1)) (.cons (.cmp .gt (.callio "_law_draw" 0 (.cons (.int 3) (.nil))) (.int 0)) (.nil)))) (.var 4) (.var 9)) (.nil)))))) (
    .nil))) (.nil)) (
    .nil)) [8, 9]) (
    .nil))) [6, 7, 8, 9]) (
    .frz 5 (.cons (.ret (.sl (.var 5) (.no) (.so (.int 60)))) (
    .nil))))
def N__law_line : List Str := ["source", "lot", "way", "line", "left", "at", "goal", "k", "some"]
abbrev k__law_line : Nat := 3
def b__law_line : Ss :=
  .cons (.par [(3, true), (4, true), (5, false)] (.cons (.bin .mul (.lst (.cons (.int 0) (.nil))) (.bi .len (.cons (.var 1) (.nil)))) (.cons (.lrng1 (.bi .len (.cons (.var 1) (.nil)))) (.cons (.int 0) (.nil))))) (
    .cons (.whl (.cmp .ne (.var 4) (.lst (.nil))) (.cons (.forr (.nm 6) (.rng1 (.int 8)) (.cons (.asg 8 false (.lc (.var 7) (.nm 7) (.lst (.var 4)) (.cons (.ands (.cons (.cmp .eq (.idx (.idxv 1 (.var 7)) (.int 2)) (.var 6)) (.cons (.cmp .le (.idx (.idxv 1 (.var 7)) (.int 0)) (.var 5)) (.nil)))) (.nil)))) (
    .cons (.iff (.ands (.cons (.cmp .ne (.var 8) (.lst (.nil))) (.cons (.ors (.cons (.cmp .lt (.var 2) (.int 3)) (.cons (.cmp .gt (.var 5) (.int 40)) (.cons (.cmp .gt (.callio "_law_draw" 0 (.cons (.int 4) (.nil))) (.int 0)) (.nil))))) (.nil)))) (.cons (.asg 7 false (.idxv 8 (.idx (.lst (.cons (.int 0) (.cons (.bin .sub (.bi .len (.cons (.var 8) (.nil))) (.int 1)) (.cons (.callio "_law_draw" 0 (.cons (.bi .len (.cons (.var 8) (.nil))) (.nil))) (.nil))))) (.bi .min (.cons (.var 2) (.cons (.int 2) (.nil))))))) (
    .cons (.setv 3 (.var 7) (.var 5)) (
    .cons (.mut .remove 4 (.var 7)) (
    .nil)))) (.nil)) (
    .nil))) [6, 7, 8]) (
    .cons (.asg 5 false (.bin .add (.var 5) (.int 1))) (
    .nil))) [6, 7, 8]) (
    .cons (.ret (.mv 3)) (
    .nil)))
def N__law_later : List Str := ["lot", "line", "base", "at", "port", "goal"]
abbrev k__law_later : Nat := 3
def b__law_later : Ss :=
  .cons (.ret (.tup (.cons (.lc (.tup (.cons (.bin .add (.var 3) (.var 2)) (.cons (.var 4) (.cons (.var 5) (.nil))))) (.tp (.cons (.nm 3) (.cons (.nm 4) (.cons (.nm 5) (.nil))))) (.lst (.var 0)) (.nil)) (.cons (.lc (.bin .add (.var 3) (.var 2)) (.nm 3) (.lst (.var 1)) (.nil)) (.nil))))) (
    .nil)
end CA

namespace CR
open PySem PySem.Spec PyProof.Rows L2 DL
def N_pairings_in : List Str := ["rhythm", "first", "last", "whole", "length", "ends", "slot"]
abbrev k_pairings_in : Nat := 3
def b_pairings_in : Ss :=
  .cons (.par [(3, false), (4, false)] (.cons (.bi .sum (.cons (.var 0) (.nil))) (.cons (.bi .len (.cons (.var 0) (.nil))) (.nil)))) (
    .cons (.asg 5 true (.lst (.nil))) (
    .cons (.forr (.nm 6) (.tup (.tup (.cons (.var 1) (.cons (.bin .add (.var 2) (.int 1)) (.nil))))) (.cons (.mut .append 5 (.bin .add (.bin .mul (.bin .fdiv (.var 6) (.var 4)) (.var 3)) (.bi .sum (.cons (.sl (.var 0) (.no) (.so (.bin .mod (.var 6) (.var 4)))) (.nil))))) (
    .nil)) [6]) (
    .frz 5 (.cons (.ret (.bin .sub (.idxv 5 (.int 1)) (.idxv 5 (.int 0)))) (
    .nil)))))
def N_unsure : List Str := ["size", "cells", "row", "rhythm", "found", "index", "cell"]
abbrev k_unsure : Nat := 4
def b_unsure : Ss :=
  .cons (.expr (.call "need_row" (.cons (.var 0) (.cons (.var 1) (.cons (.var 2) (.nil)))) [])) (
    .cons (.expr (.call "need_rhythm" (.cons (.var 3) (.nil)) [])) (
    .cons (.asg 4 true (.lst (.nil))) (
    .cons (.forr (.tp (.cons (.nm 5) (.cons (.nm 6) (.nil)))) (.enum (.var 1)) (.cons (.iff (.cmp .lt (.call "pairings_in" (.cons (.var 3) (.cons (.idxv 6 (.int 0)) (.cons (.idxv 2 (.var 5)) (.nil)))) []) (.bin .add (.bin .mul (.int 2) (.bin .sub (.idxv 2 (.var 5)) (.idxv 6 (.int 0)))) (.int 1))) (.cons (.mut .append 4 (.var 5)) (
    .nil)) (.nil)) (
    .nil)) [5, 6]) (
    .cons (.ret (.mv 4)) (
    .nil)))))
def N__law_beat : List Str := ["source", "top", "turn", "beat"]
abbrev k__law_beat : Nat := 2
def b__law_beat : Ss :=
  .cons (.asg 3 false (.lc (.callio "_law_draw" 0 (.cons (.bin .add (.var 1) (.int 1)) (.nil))) (.nm 2) (.rng1 (.bin .add (.int 1) (.callio "_law_draw" 0 (.cons (.int 5) (.nil))))) (.nil))) (
    .cons (.ret (.ife (.cmp .gt (.bi .sum (.cons (.var 3) (.nil))) (.int 0)) (.var 3) (.bin .add (.lst (.cons (.int 1) (.nil))) (.var 3)))) (
    .nil))
end CR

namespace K13
open PySem PySem.Spec PyProof.Rows L2 DL
def g__law_source : GFn := { name := "_law_source", ps := ["cell", "k"] }
def g__law_draw : GFn := { name := "_law_draw", ps := ["source", "count"] }
def g__law_lot : GFn := { name := "_law_lot", ps := ["source", "wide", "span"] }
def g__law_line : GFn := { name := "_law_line", ps := ["source", "lot", "way"] }
def g__law_later : GFn := { name := "_law_later", ps := ["lot", "line", "base"] }
def N__law_moves : List Str := ["source", "lot", "line", "way", "found", "part", "end", "far", "some"]
def g__law_moves : GFn := { name := "_law_moves", ps := ["source", "lot", "line", "way"] }
def b__law_moves : Ss :=
  .cons (.asg 4 true (.lst (.nil))) (
    .cons (.forr (.tp (.cons (.nm 5) (.cons (.nm 6) (.nil)))) (.zip (.var 1) (.var 2)) (.cons (.asg 7 false (.bi .min (.cons (.bin .sub (.var 6) (.idxv 5 (.int 0))) (.cons (.int 12) (.nil))))) (
    .cons (.asg 8 false (.lst (.cons (.bin .add (.idxv 5 (.int 0)) (.callio "_law_draw" 0 (.cons (.bin .add (.var 7) (.int 1)) (.nil)))) (.cons (.idxv 5 (.int 0)) (.cons (.var 6) (.cons (.bin .add (.idxv 5 (.int 0)) (.callio "_law_draw" 0 (.cons (.int 9) (.nil)))) (.nil))))))) (
    .cons (.mut .append 4 (.idxv 8 (.var 3))) (
    .nil)))) [5, 6, 7, 8]) (
    .cons (.ret (.mv 4)) (
    .nil)))
def g__law_beat : GFn := { name := "_law_beat", ps := ["source", "top"] }
def N__law_loads : List Str := ["lot", "moves", "side", "found", "part", "at"]
def g__law_loads : GFn := { name := "_law_loads", ps := ["lot", "moves", "side"] }
def b__law_loads : Ss :=
  .cons (.asg 3 true (.dnewT)) (
    .cons (.forr (.tp (.cons (.nm 4) (.cons (.nm 5) (.nil)))) (.zip (.var 0) (.var 1)) (.cons (.dputT 3 (.cons (.var 5) (.cons (.idxv 4 (.var 2)) (.nil))) (.bin .add (.dgetT 3 (.cons (.var 5) (.cons (.idxv 4 (.var 2)) (.nil))) (0)) (.int 1))) (
    .nil)) [4, 5]) (
    .cons (.ret (.mv 3)) (
    .nil)))
def N__law_fitting : List Str := ["source", "lot", "moves", "size_here", "beat", "side", "at", "port", "many"]
def g__law_fitting : GFn := { name := "_law_fitting", ps := ["source", "lot", "moves"] }
def b__law_fitting : Ss :=
  .cons (.asg 3 false (.bin .add (.int 1) (.callio "_law_draw" 0 (.cons (.int 20) (.nil))))) (
    .cons (.asg 4 true (.bin .mul (.lst (.cons (.int 0) (.nil))) (.var 3))) (
    .cons (.forr (.nm 5) (.tup (.tup (.cons (.int 1) (.cons (.int 2) (.nil))))) (.cons (.ford 6 7 8 (.call "_law_loads" (.cons (.var 1) (.cons (.var 2) (.cons (.var 5) (.nil)))) []) (.cons (.asg 6 false (.bin .mod (.bi .int (.cons (.var 6) (.nil))) (.var 3))) (
    .cons (.setv 4 (.var 6) (.bi .min (.cons (.int 9) (.cons (.bi .max (.cons (.idxv 4 (.var 6)) (.cons (.var 8) (.nil)))) (.nil))))) (
    .nil))) [6, 7, 8]) (
    .nil)) [5, 6, 7, 8]) (
    .cons (.asg 6 false (.callio "_law_draw" 0 (.cons (.var 3) (.nil)))) (
    .cons (.setv 4 (.var 6) (.bi .max (.cons (.int 0) (.cons (.bin .sub (.idxv 4 (.var 6)) (.callio "_law_draw" 0 (.cons (.int 2) (.nil)))) (.nil))))) (
    .cons (.ret (.mv 4)) (
    .nil))))))
def g_is_integer : GFn := { name := "is_integer", ps := ["value", "low", "high"], dfl := [.none, .none] }
def g_need_size : GFn := { name := "need_size", ps := ["size"] }
def g_is_cell : GFn := { name := "is_cell", ps := ["size", "value"] }
def g_cells_fault : GFn := { name := "cells_fault", ps := ["size", "value"] }
def g_need_cells : GFn := { name := "need_cells", ps := ["size", "cells"] }
def g_slots_fault : GFn := { name := "slots_fault", ps := ["cells", "value"] }
def g_check_crossings : GFn := { name := "check_crossings", ps := ["cells", "crossings"] }
def g_need_crossings : GFn := { name := "need_crossings", ps := ["size", "cells", "crossings"] }
def g_need_rhythm : GFn := { name := "need_rhythm", ps := ["rhythm"] }
def N_loads_of : List Str := ["cells", "crossings", "side", "found", "cell", "slot", "key"]
def g_loads_of : GFn := { name := "loads_of", ps := ["cells", "crossings", "side"] }
def b_loads_of : Ss :=
  .cons (.asg 3 true (.dnewT)) (
    .cons (.forr (.tp (.cons (.nm 4) (.cons (.nm 5) (.nil)))) (.zip (.var 0) (.var 1)) (.cntT 3 6 (.cons (.var 5) (.cons (.idxv 4 (.var 2)) (.nil))) (
    .nil)) [4, 5, 6]) (
    .cons (.ret (.mv 3)) (
    .nil)))
def N_fits_rhythm : List Str := ["cells", "crossings", "rhythm", "sides", "side", "slot", "port", "many"]
def g_fits_rhythm : GFn := { name := "fits_rhythm", ps := ["cells", "crossings", "rhythm", "sides"] }
def b_fits_rhythm : Ss :=
  .cons (.forr (.nm 4) (.tup (.var 3)) (.cons (.ford 5 6 7 (.call "loads_of" (.cons (.var 0) (.cons (.var 1) (.cons (.var 4) (.nil)))) []) (.cons (.iff (.cmp .gt (.var 7) (.idxv 2 (.bin .mod (.var 5) (.bi .len (.cons (.var 2) (.nil)))))) (.cons (.ret (.bl false)) (
    .nil)) (.nil)) (
    .nil)) [5, 6, 7]) (
    .nil)) [4, 5, 6, 7]) (
    .cons (.ret (.bl true)) (
    .nil))
def N_keeps_rhythm : List Str := ["size", "cells", "crossings", "rhythm"]
def g_keeps_rhythm : GFn := { name := "keeps_rhythm", ps := ["size", "cells", "crossings", "rhythm"], kws := [(["rhythm", "crossings", "cells", "size"], [3, 2, 1, 0])] }
def b_keeps_rhythm : Ss :=
  .cons (.expr (.call "need_crossings" (.cons (.var 0) (.cons (.var 1) (.cons (.var 2) (.nil)))) [])) (
    .cons (.expr (.call "need_rhythm" (.cons (.var 3) (.nil)) [])) (
    .cons (.ret (.call "fits_rhythm" (.cons (.var 1) (.cons (.var 2) (.cons (.var 3) (.cons (.tup (.cons (.int 1) (.cons (.int 2) (.nil)))) (.nil))))) [])) (
    .nil)))
def N__law_told_right : List Str := ["wide", "lot", "moves", "beat", "kept", "due", "side", "at", "port", "many", "told"]
def g__law_told_right : GFn := { name := "_law_told_right", ps := ["wide", "lot", "moves", "beat"] }
def b__law_told_right : Ss :=
  .cons (.par [(4, false), (5, false)] (.cons (.bi .repr (.cons (.lst (.cons (.var 1) (.cons (.var 2) (.cons (.var 3) (.nil))))) (.nil))) (.cons (.bl true) (.nil)))) (
    .cons (.forr (.nm 6) (.tup (.tup (.cons (.int 1) (.cons (.int 2) (.nil))))) (.cons (.ford 7 8 9 (.call "_law_loads" (.cons (.var 1) (.cons (.var 2) (.cons (.var 6) (.nil)))) []) (.cons (.iff (.cmp .gt (.var 9) (.idxv 3 (.bin .mod (.bi .int (.cons (.var 7) (.nil))) (.bi .len (.cons (.var 3) (.nil)))))) (.cons (.asg 5 false (.bl false)) (
    .nil)) (.nil)) (
    .nil)) [7, 8, 9]) (
    .nil)) [6, 7, 8, 9]) (
    .cons (.asg 10 true (.lst (.cons (.call "keeps_rhythm" (.cons (.var 0) (.cons (.var 1) (.cons (.var 2) (.cons (.var 3) (.nil))))) []) (.cons (.callk "keeps_rhythm" (.cons (.var 3) (.cons (.var 2) (.cons (.var 1) (.cons (.var 0) (.nil))))) ["rhythm", "crossings", "cells", "size"] [3, 2, 1, 0]) (.nil))))) (
    .cons (.mut .append 10 (.call "keeps_rhythm" (.cons (.var 0) (.cons (.var 1) (.cons (.var 2) (.cons (.bin .add (.var 3) (.var 3)) (.nil))))) [])) (
    .frz 10 (.cons (.ret (.ands (.cons (.cmp .eq (.bi .repr (.cons (.var 10) (.nil))) (.bi .repr (.cons (.bin .mul (.lst (.cons (.var 5) (.nil))) (.int 3)) (.nil)))) (.cons (.cmp .eq (.bi .repr (.cons (.lst (.cons (.var 1) (.cons (.var 2) (.cons (.var 3) (.nil))))) (.nil))) (.var 4)) (.nil))))) (
    .nil))))))
def N_law : List Str := ["script", "k", "cell", "source", "wide", "lot", "line", "base", "later", "ends", "way", "moves", "beat", "told"]
def g_law : GFn := { name := "law", ps := ["script"] }
def b_law : Ss :=
  .cons (.forr (.tp (.cons (.nm 1) (.cons (.nm 2) (.nil)))) (.enum (.sl (.bin .add (.var 0) (.lst (.cons (.int 0) (.nil)))) (.no) (.so (.bi .max (.cons (.int 1) (.cons (.bi .min (.cons (.bi .len (.cons (.var 0) (.nil))) (.cons (.int 8) (.nil)))) (.nil))))))) (.cons (.asg 3 true (.call "_law_source" (.cons (.var 2) (.cons (.var 1) (.nil))) [])) (
    .cons (.asg 4 false (.bin .add (.int 1) (.callio "_law_draw" 3 (.cons (.idx (.lst (.cons (.int 4) (.cons (.int 8) (.nil)))) (.bi .int (.cons (.cmp .ne (.var 0) (.lst (.nil))) (.nil)))) (.nil))))) (
    .cons (.asg 5 false (.callio "_law_lot" 3 (.cons (.var 4) (.cons (.callio "_law_draw" 3 (.cons (.int 8) (.nil))) (.nil))))) (
    .cons (.asg 6 false (.callio "_law_line" 3 (.cons (.var 5) (.cons (.callio "_law_draw" 3 (.cons (.int 4) (.nil))) (.nil))))) (
    .cons (.forr (.nm 7) (.tup (.tup (.cons (.int 0) (.cons (.callio "_law_draw" 3 (.cons (.bin .sub (.bin .pow (.int 10) (.int 30)) (.int 20)) (.nil))) (.nil))))) (.cons (.asgT (.cons (.nm 8) (.cons (.nm 9) (.nil))) (.call "_law_later" (.cons (.var 5) (.cons (.var 6) (.cons (.var 7) (.nil)))) [])) (
    .cons (.forr (.nm 10) (.rng1 (.int 4)) (.cons (.asg 11 false (.callio "_law_moves" 3 (.cons (.var 8) (.cons (.var 9) (.cons (.var 10) (.nil)))))) (
    .cons (.forr (.nm 12) (.tup (.tup (.cons (.callio "_law_beat" 3 (.cons (.int 4) (.nil))) (.cons (.callio "_law_fitting" 3 (.cons (.var 8) (.cons (.var 11) (.nil)))) (.cons (.bin .mul (.lst (.cons (.int 9) (.nil))) (.int 20)) (.cons (.lst (.cons (.int 1) (.cons (.int 0) (.nil)))) (.nil))))))) (.cons (.iff (.not (.call "_law_told_right" (.cons (.var 4) (.cons (.var 8) (.cons (.var 11) (.cons (.var 12) (.nil))))) [])) (.cons (.ret (.bl false)) (
    .nil)) (.nil)) (
    .nil)) [12]) (
    .nil))) [10, 11, 12]) (
    .nil))) [7, 8, 9, 10, 11, 12]) (
    .nil)))))) [1, 2, 3, 4, 5, 6, 7, 8, 9, 10, 11, 12]) (
    .cons (.asg 5 false (.lst (.cons (.tup (.cons (.int 0) (.cons (.int 0) (.cons (.int 0) (.nil))))) (.cons (.tup (.cons (.int 0) (.cons (.int 1) (.cons (.int 0) (.nil))))) (.cons (.tup (.cons (.int 1) (.cons (.int 1) (.cons (.int 1) (.nil))))) (.nil)))))) (
    .cons (.asg 13 false (.lc (.call "keeps_rhythm" (.cons (.int 2) (.cons (.var 5) (.cons (.lst (.cons (.int 0) (.cons (.int 0) (.cons (.int 1) (.nil))))) (.cons (.var 12) (.nil))))) []) (.nm 12) (.tup (.tup (.cons (.lst (.cons (.int 2) (.cons (.int 1) (.nil)))) (.cons (.lst (.cons (.int 1) (.cons (.int 2) (.nil)))) (.cons (.lst (.cons (.int 2) (.nil))) (.cons (.lst (.cons (.int 2) (.cons (.int 0) (.nil)))) (.nil))))))) (.nil))) (
    .cons (.ret (.cmp .eq (.var 13) (.lst (.cons (.bl true) (.cons (.bl false) (.cons (.bl true) (.cons (.bl false) (.nil)))))))) (
    .nil))))
end K13

namespace K13
open PySem PySem.Spec PyProof.Rows L2 DL
abbrev lawR : PySem.W.OpenLaw := PySem.Challenge.rw_idealtwin_k13_rhythms_kept
def top (i : Nat) : Stmt := PySem.Challenge.pw_idealtwin_k13_rhythms_kept.main.body.getD i (.Pass ⟨0, 0, 0, 0⟩)
def nums : List (Str × Int) := [("MOST_CELLS", 60), ("MOST_LEAVING", 9999999999999999999999999999999), ("MOST_LENGTH", 40), ("MOST_PAIRINGS", 9), ("MOST_SIZE", 8), ("MOST_SLOT", 999999999999999999999999999999)]
def bis : List Str := ["abs", "bool", "enumerate", "int", "isinstance", "len", "list", "max", "min", "range", "repr", "sum", "tuple", "zip"]
def fns : List GFn := [g__law_source, g__law_draw, g__law_lot, g__law_line, g__law_later, g__law_moves, g__law_beat, g__law_loads, g__law_fitting, g_is_integer, g_need_size, g_is_cell, g_cells_fault, g_need_cells, g_slots_fault, g_check_crossings, g_need_crossings, g_need_rhythm, g_loads_of, g_fits_rhythm, g_keeps_rhythm, g__law_told_right, g_law]
def G (i : Nat) : GEnv := { nums := nums, bis := bis, fns := fns.take i }
theorem chk__law_source : chkSs (G 0) CA.N__law_source (defScope (top 27)) CA.b__law_source (defBody (top 27)) = true := by decide +kernel
theorem sc__law_source : FnScope CA.N__law_source g__law_source.ps (defScope (top 27)) := C8.fnScope_by (by decide +kernel)
theorem chk__law_draw : chkSs (G 1) CA.N__law_draw (defScope (top 28)) CA.b__law_draw (defBody (top 28)) = true := by decide +kernel
theorem sc__law_draw : FnScope CA.N__law_draw g__law_draw.ps (defScope (top 28)) := C8.fnScope_by (by decide +kernel)
theorem chk__law_lot : chkSs (G 2) CA.N__law_lot (defScope (top 29)) CA.b__law_lot (defBody (top 29)) = true := by decide +kernel
theorem sc__law_lot : FnScope CA.N__law_lot g__law_lot.ps (defScope (top 29)) := C8.fnScope_by (by decide +kernel)
theorem chk__law_line : chkSs (G 3) CA.N__law_line (defScope (top 30)) CA.b__law_line (defBody (top 30)) = true := by decide +kernel
theorem sc__law_line : FnScope CA.N__law_line g__law_line.ps (defScope (top 30)) := C8.fnScope_by (by decide +kernel)
theorem chk__law_later : chkSs (G 4) CA.N__law_later (defScope (top 31)) CA.b__law_later (defBody (top 31)) = true := by decide +kernel
theorem sc__law_later : FnScope CA.N__law_later g__law_later.ps (defScope (top 31)) := C8.fnScope_by (by decide +kernel)
theorem chk__law_moves : chkSs (G 5) N__law_moves (defScope (top 34)) b__law_moves (defBody (top 34)) = true := by decide +kernel
theorem sc__law_moves : FnScope N__law_moves g__law_moves.ps (defScope (top 34)) := C8.fnScope_by (by decide +kernel)
theorem chk__law_beat : chkSs (G 6) CR.N__law_beat (defScope (top 32)) CR.b__law_beat (defBody (top 32)) = true := by decide +kernel
theorem sc__law_beat : FnScope CR.N__law_beat g__law_beat.ps (defScope (top 32)) := C8.fnScope_by (by decide +kernel)
theorem chk__law_loads : chkSs (G 7) N__law_loads (defScope (top 33)) b__law_loads (defBody (top 33)) = true := by decide +kernel
theorem sc__law_loads : FnScope N__law_loads g__law_loads.ps (defScope (top 33)) := C8.fnScope_by (by decide +kernel)
theorem chk__law_fitting : chkSs (G 8) N__law_fitting (defScope (top 36)) b__law_fitting (defBody (top 36)) = true := by decide +kernel
theorem sc__law_fitting : FnScope N__law_fitting g__law_fitting.ps (defScope (top 36)) := C8.fnScope_by (by decide +kernel)
theorem chk_is_integer : chkSs (G 9) CA.N_is_integer (defScope (top 11)) CA.b_is_integer (defBody (top 11)) = true := by decide +kernel
theorem sc_is_integer : FnScope CA.N_is_integer g_is_integer.ps (defScope (top 11)) := C8.fnScope_by (by decide +kernel)
theorem chk_need_size : chkSs (G 10) CA.N_need_size (defScope (top 12)) CA.b_need_size (defBody (top 12)) = true := by decide +kernel
theorem sc_need_size : FnScope CA.N_need_size g_need_size.ps (defScope (top 12)) := C8.fnScope_by (by decide +kernel)
theorem chk_is_cell : chkSs (G 11) CA.N_is_cell (defScope (top 13)) CA.b_is_cell (defBody (top 13)) = true := by decide +kernel
theorem sc_is_cell : FnScope CA.N_is_cell g_is_cell.ps (defScope (top 13)) := C8.fnScope_by (by decide +kernel)
theorem chk_cells_fault : chkSs (G 12) CA.N_cells_fault (defScope (top 14)) CA.b_cells_fault (defBody (top 14)) = true := by decide +kernel
theorem sc_cells_fault : FnScope CA.N_cells_fault g_cells_fault.ps (defScope (top 14)) := C8.fnScope_by (by decide +kernel)
theorem chk_need_cells : chkSs (G 13) CA.N_need_cells (defScope (top 15)) CA.b_need_cells (defBody (top 15)) = true := by decide +kernel
theorem sc_need_cells : FnScope CA.N_need_cells g_need_cells.ps (defScope (top 15)) := C8.fnScope_by (by decide +kernel)
theorem chk_slots_fault : chkSs (G 14) CA.N_slots_fault (defScope (top 16)) CA.b_slots_fault (defBody (top 16)) = true := by decide +kernel
theorem sc_slots_fault : FnScope CA.N_slots_fault g_slots_fault.ps (defScope (top 16)) := C8.fnScope_by (by decide +kernel)
theorem chk_check_crossings : chkSs (G 15) CA.N_check_crossings (defScope (top 17)) CA.b_check_crossings (defBody (top 17)) = true := by decide +kernel
theorem sc_check_crossings : FnScope CA.N_check_crossings g_check_crossings.ps (defScope (top 17)) := C8.fnScope_by (by decide +kernel)
theorem chk_need_crossings : chkSs (G 16) CA.N_need_crossings (defScope (top 18)) CA.b_need_crossings (defBody (top 18)) = true := by decide +kernel
theorem sc_need_crossings : FnScope CA.N_need_crossings g_need_crossings.ps (defScope (top 18)) := C8.fnScope_by (by decide +kernel)
theorem chk_need_rhythm : chkSs (G 17) CA.N_need_rhythm (defScope (top 22)) CA.b_need_rhythm (defBody (top 22)) = true := by decide +kernel
theorem sc_need_rhythm : FnScope CA.N_need_rhythm g_need_rhythm.ps (defScope (top 22)) := C8.fnScope_by (by decide +kernel)
theorem chk_loads_of : chkSs (G 18) N_loads_of (defScope (top 23)) b_loads_of (defBody (top 23)) = true := by decide +kernel
theorem sc_loads_of : FnScope N_loads_of g_loads_of.ps (defScope (top 23)) := C8.fnScope_by (by decide +kernel)
theorem chk_fits_rhythm : chkSs (G 19) N_fits_rhythm (defScope (top 24)) b_fits_rhythm (defBody (top 24)) = true := by decide +kernel
theorem sc_fits_rhythm : FnScope N_fits_rhythm g_fits_rhythm.ps (defScope (top 24)) := C8.fnScope_by (by decide +kernel)
theorem chk_keeps_rhythm : chkSs (G 20) N_keeps_rhythm (defScope (top 25)) b_keeps_rhythm (defBody (top 25)) = true := by decide +kernel
theorem sc_keeps_rhythm : FnScope N_keeps_rhythm g_keeps_rhythm.ps (defScope (top 25)) := C8.fnScope_by (by decide +kernel)
theorem chk__law_told_right : chkSs (G 21) N__law_told_right (defScope (top 35)) b__law_told_right (defBody (top 35)) = true := by decide +kernel
theorem sc__law_told_right : FnScope N__law_told_right g__law_told_right.ps (defScope (top 35)) := C8.fnScope_by (by decide +kernel)
theorem chk_law : chkSs (G 22) N_law (defScope (top 37)) b_law (defBody (top 37)) = true := by decide +kernel
theorem sc_law : FnScope N_law g_law.ps (defScope (top 37)) := C8.fnScope_by (by decide +kernel)
end K13

namespace K13
open PySem PySem.Spec PyProof.Rows L2 DL
def dd__law_source : He.DefD := ⟨("_law_source", none), "_law_source", "_law_source", defArgs (top 27), defBody (top 27), defScope (top 27), [], []⟩
def dd__law_draw : He.DefD := ⟨("_law_draw", none), "_law_draw", "_law_draw", defArgs (top 28), defBody (top 28), defScope (top 28), [], []⟩
def dd__law_lot : He.DefD := ⟨("_law_lot", none), "_law_lot", "_law_lot", defArgs (top 29), defBody (top 29), defScope (top 29), [], []⟩
def dd__law_line : He.DefD := ⟨("_law_line", none), "_law_line", "_law_line", defArgs (top 30), defBody (top 30), defScope (top 30), [], []⟩
def dd__law_later : He.DefD := ⟨("_law_later", none), "_law_later", "_law_later", defArgs (top 31), defBody (top 31), defScope (top 31), [], []⟩
def dd__law_moves : He.DefD := ⟨("_law_moves", none), "_law_moves", "_law_moves", defArgs (top 34), defBody (top 34), defScope (top 34), [], []⟩
def dd__law_beat : He.DefD := ⟨("_law_beat", none), "_law_beat", "_law_beat", defArgs (top 32), defBody (top 32), defScope (top 32), [], []⟩
def dd__law_loads : He.DefD := ⟨("_law_loads", none), "_law_loads", "_law_loads", defArgs (top 33), defBody (top 33), defScope (top 33), [], []⟩
def dd__law_fitting : He.DefD := ⟨("_law_fitting", none), "_law_fitting", "_law_fitting", defArgs (top 36), defBody (top 36), defScope (top 36), [], []⟩
def dd_is_integer : He.DefD := ⟨("is_integer", none), "is_integer", "is_integer", defArgs (top 11), defBody (top 11), defScope (top 11), [.non, .non], []⟩
def dd_need_size : He.DefD := ⟨("need_size", none), "need_size", "need_size", defArgs (top 12), defBody (top 12), defScope (top 12), [], []⟩
def dd_is_cell : He.DefD := ⟨("is_cell", none), "is_cell", "is_cell", defArgs (top 13), defBody (top 13), defScope (top 13), [], []⟩
def dd_cells_fault : He.DefD := ⟨("cells_fault", none), "cells_fault", "cells_fault", defArgs (top 14), defBody (top 14), defScope (top 14), [], []⟩
def dd_need_cells : He.DefD := ⟨("need_cells", none), "need_cells", "need_cells", defArgs (top 15), defBody (top 15), defScope (top 15), [], []⟩
def dd_slots_fault : He.DefD := ⟨("slots_fault", none), "slots_fault", "slots_fault", defArgs (top 16), defBody (top 16), defScope (top 16), [], []⟩
def dd_check_crossings : He.DefD := ⟨("check_crossings", none), "check_crossings", "check_crossings", defArgs (top 17), defBody (top 17), defScope (top 17), [], []⟩
def dd_need_crossings : He.DefD := ⟨("need_crossings", none), "need_crossings", "need_crossings", defArgs (top 18), defBody (top 18), defScope (top 18), [], []⟩
def dd_need_rhythm : He.DefD := ⟨("need_rhythm", none), "need_rhythm", "need_rhythm", defArgs (top 22), defBody (top 22), defScope (top 22), [], []⟩
def dd_loads_of : He.DefD := ⟨("loads_of", none), "loads_of", "loads_of", defArgs (top 23), defBody (top 23), defScope (top 23), [], []⟩
def dd_fits_rhythm : He.DefD := ⟨("fits_rhythm", none), "fits_rhythm", "fits_rhythm", defArgs (top 24), defBody (top 24), defScope (top 24), [], []⟩
def dd_keeps_rhythm : He.DefD := ⟨("keeps_rhythm", none), "keeps_rhythm", "keeps_rhythm", defArgs (top 25), defBody (top 25), defScope (top 25), [], []⟩
def dd__law_told_right : He.DefD := ⟨("_law_told_right", none), "_law_told_right", "_law_told_right", defArgs (top 35), defBody (top 35), defScope (top 35), [], []⟩
def dd_law : He.DefD := ⟨("law", none), "law", "law", defArgs (top 37), defBody (top 37), defScope (top 37), [], []⟩
def hfn : List He.DefD := [dd__law_source, dd__law_draw, dd__law_lot, dd__law_line, dd__law_later, dd__law_moves, dd__law_beat, dd__law_loads, dd__law_fitting, dd_is_integer, dd_need_size, dd_is_cell, dd_cells_fault, dd_need_cells, dd_slots_fault, dd_check_crossings, dd_need_crossings, dd_need_rhythm, dd_loads_of, dd_fits_rhythm, dd_keeps_rhythm, dd__law_told_right, dd_law]
def hfa : List He.Fa := [.glo "_law_source", .glo "_law_draw", .glo "_law_lot", .glo "_law_line", .glo "_law_later", .glo "_law_moves", .glo "_law_beat", .glo "_law_loads", .glo "_law_fitting", .glo "is_integer", .glo "need_size", .glo "is_cell", .glo "cells_fault", .glo "need_cells", .glo "slots_fault", .glo "check_crossings", .glo "need_crossings", .glo "need_rhythm", .glo "loads_of", .glo "fits_rhythm", .glo "keeps_rhythm", .glo "_law_told_right", .glo "law", .int "MOST_CELLS" 60, .int "MOST_LEAVING" 9999999999999999999999999999999, .int "MOST_LENGTH" 40, .int "MOST_PAIRINGS" 9, .int "MOST_SIZE" 8, .int "MOST_SLOT" 999999999999999999999999999999, .free "abs", .free "bool", .free "enumerate", .free "int", .free "isinstance", .free "len", .free "list", .free "max", .free "min", .free "range", .free "repr", .free "sum", .free "tuple", .free "zip"]
abbrev hR : PySem.W.OpenRow := PySem.W.OpenLaw.row PySem.Challenge.rw_idealtwin_k13_rhythms_kept
abbrev hk : PySem.W.Hook := He.hookD 4 hfa hfn
def ob (s : PySem.W.SharedT) : He.AlD := He.obsDG 4 hfa hfn (HandSHeadRun.getT s)
theorem ob_eq (s : PySem.W.SharedT) : ob s = hk.obs s.abs := He.obsDG_eq (HandSHeadRun.getT_eq s)
def names0 : List PySem.Str := [PySem.Str.ofString "TwinError", PySem.Str.ofString "InvalidSize", PySem.Str.ofString "InvalidCells", PySem.Str.ofString "InvalidCrossings", PySem.Str.ofString "InvalidRhythm", PySem.Str.ofString "MOST_SIZE", PySem.Str.ofString "MOST_CELLS", PySem.Str.ofString "MOST_SLOT", PySem.Str.ofString "MOST_LEAVING", PySem.Str.ofString "is_integer", PySem.Str.ofString "need_size", PySem.Str.ofString "is_cell", PySem.Str.ofString "cells_fault", PySem.Str.ofString "need_cells", PySem.Str.ofString "slots_fault", PySem.Str.ofString "check_crossings", PySem.Str.ofString "need_crossings", PySem.Str.ofString "MOST_LENGTH", PySem.Str.ofString "MOST_PAIRINGS", PySem.Str.ofString "need_rhythm", PySem.Str.ofString "loads_of", PySem.Str.ofString "fits_rhythm", PySem.Str.ofString "keeps_rhythm", PySem.Str.ofString "_law_source", PySem.Str.ofString "_law_draw", PySem.Str.ofString "_law_lot", PySem.Str.ofString "_law_line", PySem.Str.ofString "_law_later", PySem.Str.ofString "_law_beat", PySem.Str.ofString "_law_loads", PySem.Str.ofString "_law_moves", PySem.Str.ofString "_law_told_right", PySem.Str.ofString "_law_fitting"]
def names : List PySem.Str := names0
theorem run (w : World) : HandSHeadRun.RunEq hR (PySem.W.view hR.prog [37]) hk ob 4000 names w := by
  intro os
  kernel_rfl
end K13

/-! DL20: steps through a reading, head first. -/
namespace DL
open PySem PySem.Spec PyProof.Rows L2
section
variable {Φ : Phi} {env env1 env2 : DEnv} {Q : Kd → D → DEnv → Prop} {R : DEnds} {k k' : Kd} {A B : Prop}
/-- a kind's side conditions -/
theorem nb_z {p : Bool} : Kd.z ≠ Kd.b ∨ p = true := .inl fun z => nomatch z
theorem nb_t {p : Bool} : Kd.t ≠ Kd.b ∨ p = true := .inl fun z => nomatch z
/-! statements -/
theorem r_nil (h : R.nx env) : rdSs Φ .nil env R := h
theorem r_cons {s : DL.S} {ss : Ss} (h : rdS Φ s env { R with nx := fun env1 => rdSs Φ ss env1 R }) : rdSs Φ (.cons s ss) env R := h
theorem r_frz {i : Nat} {ss : Ss} {d : D} (e : env[i]? = some (.own d)) (h : rdSs Φ ss (env.set i (.frz d)) R) : rdSs Φ (.frz i ss) env R := ⟨d, e, h⟩
theorem r_asgF {i : Nat} {e : E} (h : rdE Φ e env fun k d env1 => ∃ env2, asgD env1 i false k d = some env2 ∧ R.nx env2) : rdS Φ (.asg i false e) env R := h
theorem r_asgT {i : Nat} {e : E} (h : rdE Φ e env fun k d env1 => ∃ env2, asgD env1 i true k d = some env2 ∧ R.nx env2) : rdS Φ (.asg i true e) env R := h
theorem r_some {o : Option DEnv} {P : DEnv → Prop} (e : o = some env2) (h : P env2) : ∃ env2, o = some env2 ∧ P env2 := ⟨env2, e, h⟩
theorem r_ret {e : E} (h : rdE Φ e env R.rt) : rdS Φ (.ret e) env R := h
theorem r_retN (h : R.rt .z .none env) : rdS Φ .retN env R := h
theorem r_expr {e : E} (h : rdE Φ e env fun _ _ env1 => R.nx env1) : rdS Φ (.expr e) env R := h
theorem r_iff {c : E} {a b : Ss} (h : rdE Φ c env fun _ x env1 => ∃ t, truthD x = some t ∧ if t = true then rdSs Φ a env1 R else rdSs Φ b env1 R) : rdS Φ (.iff c a b) env R := h
theorem r_brk (h : R.bk env) : rdS Φ .brk env R := h
theorem r_cont (h : R.ct env) : rdS Φ .cont env R := h
theorem r_pas (h : R.nx env) : rdS Φ .pas env R := h
theorem r_setv {i : Nat} {ie e : E} (h0 : (ownD env i).isSome = true) (h : rdE Φ e env fun k d env1 => rdE Φ ie env1 fun _ y env2 => k ≠ .b ∧ ∃ ds n j env3, ownD env2 i = some (.list ds) ∧ y = .int n ∧ ixN ds.length n = some j ∧ putD env2 i (.list (ds.set j d)) = some env3 ∧ R.nx env3) : rdS Φ (.setv i ie e) env R := ⟨h0, h⟩
theorem r_put {k : Kd} {i j : Nat} {n : Int} {ds : List D} {d : D} {P : DEnv → Prop} {env3 : DEnv} (hk : k ≠ .b) (h1 : ownD env2 i = some (.list ds)) (h2 : ixN ds.length n = some j) (h3 : putD env2 i (.list (ds.set j d)) = some env3) (h : P env3) :
    k ≠ .b ∧ ∃ ds n' j env3, ownD env2 i = some (.list ds) ∧ PyData.int n = .int n' ∧ ixN ds.length n' = some j ∧ putD env2 i (.list (ds.set j d)) = some env3 ∧ P env3 := ⟨hk, ds, n, j, env3, h1, rfl, h2, h3, h⟩
theorem r_aug {i : Nat} {o : B2} {e : E} {x : Int} (hx : env[i]? = some (.frz (.int x))) (h : rdE Φ e env fun _ y env1 => ∃ j r env2, y = .int j ∧ augI o x j = some r ∧ setD env1 i (.frz (.int r)) = some env2 ∧ R.nx env2) : rdS Φ (.aug i o e) env R := ⟨x, hx, h⟩
theorem r_augE {i : Nat} {o : B2} {x j r : Int} {P : DEnv → Prop} (h1 : augI o x j = some r) (h2 : setD env1 i (.frz (.int r)) = some env2) (h : P env2) : ∃ j' r env2, PyData.int j = .int j' ∧ augI o x j' = some r ∧ setD env1 i (.frz (.int r)) = some env2 ∧ P env2 := ⟨j, r, env2, rfl, h1, h2, h⟩
theorem r_par {is : List (Nat × Bool)} {es : Es} (h : rdPs Φ es (is.map (·.2)) env fun ds env1 => ∃ env2, setsD env1 is ds = some env2 ∧ R.nx env2) : rdS Φ (.par is es) env R := h
theorem r_psN {P : List D → DEnv → Prop} (h : P [] env) : rdPs Φ .nil [] env P := h
theorem r_psF {P : List D → DEnv → Prop} {e : E} {es : Es} {os : List Bool} (h : rdE Φ e env fun k d env1 => k ≠ .b ∧ rdPs Φ es os env1 fun ds env2 => P (d :: ds) env2) : rdPs Φ (.cons e es) (false :: os) env P := h
theorem r_psT {P : List D → DEnv → Prop} {e : E} {es : Es} {os : List Bool} (h : rdE Φ e env fun k d env1 => k = .t ∧ rdPs Φ es os env1 fun ds env2 => P (d :: ds) env2) : rdPs Φ (.cons e es) (true :: os) env P := h
theorem r_mut {m : Mm} {i : Nat} {e : E} (h0 : ∃ ds0, ownD env i = some (.list ds0)) (h : rdE Φ e env fun k y env1 => k ≠ .b ∧ (m = .extend → k = .t) ∧ ∃ ds ds' env2, ownD env1 i = some (.list ds) ∧ mutD m ds y = some ds' ∧ putD env1 i (.list ds') = some env2 ∧ R.nx env2) : rdS Φ (.mut m i e) env R := ⟨h0, h⟩
theorem r_app {k : Kd} {i : Nat} {ds : List D} {y : D} {P : DEnv → Prop} (hk : k ≠ .b) (h1 : ownD env1 i = some (.list ds)) (h2 : ds.length < sizeLine) (h3 : putD env1 i (.list (ds ++ [y])) = some env2) (h : P env2) :
    k ≠ .b ∧ (Mm.append = Mm.extend → k = .t) ∧ ∃ ds ds' env2, ownD env1 i = some (.list ds) ∧ mutD .append ds y = some ds' ∧ putD env1 i (.list ds') = some env2 ∧ P env2 := ⟨hk, (fun z => nomatch z), ds, ds ++ [y], env2, h1, by simp only [mutD]; rw [if_pos h2], h3, h⟩
/-! tests -/
theorem r_tb {b : Bool} (h1 : b = true → A) (h2 : b = false → B) : ∃ t, truthD (.bool b) = some t ∧ if t = true then A else B := ⟨b, rfl, by
  cases b with
  | true => rw [if_pos rfl]; exact h1 rfl
  | false => rw [if_neg Bool.false_ne_true]; exact h2 rfl⟩
theorem r_tT (h : A) : ∃ t, truthD (.bool true) = some t ∧ if t = true then A else B := ⟨true, rfl, by rw [if_pos rfl]; exact h⟩
theorem r_tF (h : B) : ∃ t, truthD (.bool false) = some t ∧ if t = true then A else B := ⟨false, rfl, by rw [if_neg Bool.false_ne_true]; exact h⟩
theorem r_tn (h : B) : ∃ t, truthD .none = some t ∧ if t = true then A else B := ⟨false, rfl, by rw [if_neg Bool.false_ne_true]; exact h⟩
theorem r_ti {i : Int} (h1 : i ≠ 0 → A) (h2 : i = 0 → B) : ∃ t, truthD (.int i) = some t ∧ if t = true then A else B := ⟨i != 0, rfl, by
  by_cases e : i = 0
  · rw [if_neg (by simp [e])]; exact h2 e
  · rw [if_pos (by simp [e])]; exact h1 e⟩
theorem r_tl {ds : List D} (h1 : ds ≠ [] → A) (h2 : ds = [] → B) : ∃ t, truthD (.list ds) = some t ∧ if t = true then A else B := ⟨!ds.isEmpty, rfl, by
  cases ds with
  | nil => exact h2 rfl
  | cons d ds => exact h1 (fun z => nomatch z)⟩
theorem r_not {b : Bool} {P : Bool → Prop} (h : P b) : ∃ b', truthD (.bool b) = some b' ∧ P b' := ⟨b, rfl, h⟩
/-! expressions -/
theorem e_frz {i : Nat} {d : D} (e : env[i]? = some (.frz d)) (h : Q .z d env) : rdE Φ (.var i) env Q := ⟨.z, d, by unfold varD; rw [e], by
  have z : kdOf .z d = .z := by unfold kdOf; split <;> rfl
  rw [z]; exact h⟩
theorem e_own {i : Nat} {ds : List D} (e : env[i]? = some (.own (.list ds))) (h : Q .b (.list ds) env) : rdE Φ (.var i) env Q := ⟨.b, PyData.list ds, by unfold varD; rw [e], by
  have z : kdOf .b (PyData.list ds) = .b := by unfold kdOf flat; rfl
  rw [z]; exact h⟩
theorem e_io {i : Nat} {ds : List D} (e : env[i]? = some (.io (.list ds))) (h : Q .b (.list ds) env) : rdE Φ (.var i) env Q := ⟨.b, PyData.list ds, by unfold varD; rw [e], by
  have z : kdOf .b (PyData.list ds) = .b := by unfold kdOf flat; rfl
  rw [z]; exact h⟩
theorem e_mv {i : Nat} {d : D} (e : env[i]? = some (.own d)) (h : Q .t d (env.set i .un)) : rdE Φ (.mv i) env Q := ⟨d, e, h⟩
theorem e_int {i : Int} (h : Q .z (.int i) env) : rdE Φ (.int i) env Q := h
theorem e_bl {i : Bool} (h : Q .z (.bool i) env) : rdE Φ (.bl i) env Q := h
theorem e_non (h : Q .z .none env) : rdE Φ .non env Q := h
theorem e_str {x : Str} (h : Q .z (.str x) env) : rdE Φ (.str x) env Q := h
theorem e_gi {x : Str} {i : Int} (h : Q .z (.int i) env) : rdE Φ (.gi x i) env Q := h
theorem e_tup {es : Es} (h : rdEs Φ es env fun k ds env' => ds.length ≤ sizeLine ∧ Q (kdOf k (.tuple ds)) (.tuple ds) env') : rdE Φ (.tup es) env Q := h
theorem g_len {ds : List D} (h1 : ds.length ≤ 1000) (h : A) : ds.length ≤ sizeLine ∧ A := ⟨Nat.le_trans h1 (by decide), h⟩
theorem kdOf_z {d : D} : kdOf .z d = .z := by unfold kdOf; split <;> rfl
theorem kdOf_t {d : D} : kdOf .t d = .z := by unfold kdOf; split <;> rfl
theorem kdOf_int {i : Int} : kdOf k (.int i) = .z := rfl
theorem kdOf_bool {i : Bool} : kdOf k (.bool i) = .z := rfl
theorem kdOf_str {i : Str} : kdOf k (.str i) = .z := rfl
theorem kdOf_none : kdOf k .none = .z := rfl
theorem e_lst {es : Es} (h : rdEs Φ es env fun k ds env' => ds.length ≤ sizeLine ∧ Q (if k = .b then .b else .t) (.list ds) env') : rdE Φ (.lst es) env Q := h
theorem e_bin {o : B2} {a b : E} (h : rdE Φ a env fun k x env1 => rdE Φ b env1 fun k' y env2 => (k ≠ .b ∨ b.pur = true) ∧ ∃ t r, binD o x y = some (t, r) ∧ ((k ≠ .b ∧ k' ≠ .b) ∨ shal r = true) ∧ Q (if t then .t else .z) r env2) : rdE Φ (.bin o a b) env Q := h
theorem b_int {o : B2} {x y : D} {r : Int} {P : Bool → D → Prop} {q : Prop} {p : Prop} (c : p) (e : binD o x y = some (false, .int r)) (h : P false (.int r)) : p ∧ ∃ t r, binD o x y = some (t, r) ∧ (q ∨ shal r = true) ∧ P t r := ⟨c, _, _, e, .inr rfl, h⟩
theorem b_add {i j : Int} {P : Bool → D → Prop} {q p : Prop} (h : P false (.int (i + j))) : (Kd.z ≠ .b ∨ p) ∧ ∃ t r, binD .add (.int i) (.int j) = some (t, r) ∧ (q ∨ shal r = true) ∧ P t r := b_int (.inl fun z => nomatch z) rfl h
theorem b_sub {i j : Int} {P : Bool → D → Prop} {q p : Prop} (h : P false (.int (i - j))) : (Kd.z ≠ .b ∨ p) ∧ ∃ t r, binD .sub (.int i) (.int j) = some (t, r) ∧ (q ∨ shal r = true) ∧ P t r := b_int (.inl fun z => nomatch z) rfl h
theorem b_mul {i j : Int} {P : Bool → D → Prop} {q p : Prop} (c : i.natAbs.log2 + j.natAbs.log2 < 1000000) (h : P false (.int (i * j))) : (Kd.z ≠ .b ∨ p) ∧ ∃ t r, binD .mul (.int i) (.int j) = some (t, r) ∧ (q ∨ shal r = true) ∧ P t r := b_int (.inl fun z => nomatch z) (by simp only [binD]; rw [if_pos c]) h
theorem b_mod {i j : Int} {P : Bool → D → Prop} {q p : Prop} (c : 0 < j) (h : P false (.int (i % j))) : (Kd.z ≠ .b ∨ p) ∧ ∃ t r, binD .mod (.int i) (.int j) = some (t, r) ∧ (q ∨ shal r = true) ∧ P t r := b_int (.inl fun z => nomatch z) (by simp only [binD]; rw [if_pos c]) h
theorem b_div {i j : Int} {P : Bool → D → Prop} {q p : Prop} (c : 0 < j ∧ j.natAbs.log2 < 9000) (h : P false (.int (i / j))) : (Kd.z ≠ .b ∨ p) ∧ ∃ t r, binD .fdiv (.int i) (.int j) = some (t, r) ∧ (q ∨ shal r = true) ∧ P t r := b_int (.inl fun z => nomatch z) (by simp only [binD]; rw [if_pos c]) h
theorem b_pow {i j : Int} {P : Bool → D → Prop} {q p : Prop} (c : 0 ≤ j ∧ j ≤ 1000 ∧ i.natAbs.log2 < 1000) (h : P false (.int (i ^ j.toNat))) : (Kd.z ≠ .b ∨ p) ∧ ∃ t r, binD .pow (.int i) (.int j) = some (t, r) ∧ (q ∨ shal r = true) ∧ P t r := b_int (.inl fun z => nomatch z) (by simp only [binD]; rw [if_pos c]) h
theorem b_cat {xs ys : List D} {P : Bool → D → Prop} {q p r' : Prop} (c : p) (z : q) (l : xs.length + ys.length ≤ sizeLine) (h : P true (.list (xs ++ ys))) : p ∧ ∃ t r, binD .add (.list xs) (.list ys) = some (t, r) ∧ (q ∨ shal r = true) ∧ P t r :=
  ⟨c, true, _, by simp only [binD]; rw [if_pos l], .inl z, h⟩
theorem b_cat2 {xs ys : List D} {P : Bool → D → Prop} {q : Prop} (z : q) (l : xs.length + ys.length ≤ sizeLine) (h : P true (.list (xs ++ ys))) : ∃ t r, binD .add (.list xs) (.list ys) = some (t, r) ∧ (q ∨ shal r = true) ∧ P t r :=
  ⟨true, _, by simp only [binD]; rw [if_pos l], .inl z, h⟩
theorem e_lrng1 {a : E} (h : rdE Φ a env fun _ x env1 => ∃ n, x = .int n ∧ okRng n ∧ n ≤ 1000000 ∧ Q .t (.list (rangeD 0 n.toNat)) env1) : rdE Φ (.lrng1 a) env Q := h
theorem e_lrng2 {a b : E} (h : rdE Φ a env fun _ x env1 => rdE Φ b env1 fun _ y env2 => ∃ n m, x = .int n ∧ y = .int m ∧ m - n ≤ 1000000 ∧ Q .t (.list (rangeD n (m - n).toNat)) env2) : rdE Φ (.lrng2 a b) env Q := h
theorem e_neg {a : E} (h : rdE Φ a env fun _ x env1 => ∃ i, x = .int i ∧ Q .z (.int (-i)) env1) : rdE Φ (.neg a) env Q := h
theorem g_int {i : Int} {P : Int → Prop} (h : P i) : ∃ j, PyData.int i = .int j ∧ P j := ⟨i, rfl, h⟩
theorem g_int2 {i j : Int} {P : Int → Int → Prop} (h : P i j) : ∃ n m, PyData.int i = .int n ∧ PyData.int j = .int m ∧ P n m := ⟨i, j, rfl, rfl, h⟩
theorem g_list {ds : List D} {P : List D → Prop} (h : P ds) : ∃ ds', PyData.list ds = .list ds' ∧ P ds' := ⟨ds, rfl, h⟩
theorem g_tup {ds : List D} {P : List D → Prop} (h : P ds) : ∃ ds', PyData.tuple ds = .tuple ds' ∧ P ds' := ⟨ds, rfl, h⟩
theorem e_cmp {o : C2} {a b : E} (h : rdE Φ a env fun k x env1 => rdE Φ b env1 fun _ y env2 => (k ≠ .b ∨ b.pur = true) ∧ ∃ r, cmpD o x y = some r ∧ Q .z (.bool r) env2) : rdE Φ (.cmp o a b) env Q := h
theorem c_any {o : C2} {x y : D} {r : Bool} {P : Bool → Prop} {p : Prop} (c : p) (e : cmpD o x y = some r) (h : P r) : p ∧ ∃ r, cmpD o x y = some r ∧ P r := ⟨c, r, e, h⟩
theorem c_lt {i j : Int} {P : Bool → Prop} {p : Prop} (h : P (decide (i < j))) : (Kd.z ≠ .b ∨ p) ∧ ∃ r, cmpD .lt (.int i) (.int j) = some r ∧ P r := c_any (.inl fun z => nomatch z) rfl h
theorem c_le {i j : Int} {P : Bool → Prop} {p : Prop} (h : P (decide (i ≤ j))) : (Kd.z ≠ .b ∨ p) ∧ ∃ r, cmpD .le (.int i) (.int j) = some r ∧ P r := c_any (.inl fun z => nomatch z) rfl h
theorem c_gt {i j : Int} {P : Bool → Prop} {p : Prop} (h : P (decide (j < i))) : (Kd.z ≠ .b ∨ p) ∧ ∃ r, cmpD .gt (.int i) (.int j) = some r ∧ P r := c_any (.inl fun z => nomatch z) rfl h
theorem c_ge {i j : Int} {P : Bool → Prop} {p : Prop} (h : P (decide (j ≤ i))) : (Kd.z ≠ .b ∨ p) ∧ ∃ r, cmpD .ge (.int i) (.int j) = some r ∧ P r := c_any (.inl fun z => nomatch z) rfl h
theorem eqv_int (i j : Int) : PyData.eqv (.int i) (.int j) = decide (i = j) := by
  unfold PyData.eqv
  exact Bool.beq_eq_decide_eq i j
theorem c_eq {i j : Int} {P : Bool → Prop} {p : Prop} (h : P (decide (i = j))) : (Kd.z ≠ .b ∨ p) ∧ ∃ r, cmpD .eq (.int i) (.int j) = some r ∧ P r := c_any (.inl fun z => nomatch z) (by simp only [cmpD]; rw [if_pos ⟨rfl, rfl⟩, eqv_int]) h
theorem c_ne {i j : Int} {P : Bool → Prop} {p : Prop} (h : P (!decide (i = j))) : (Kd.z ≠ .b ∨ p) ∧ ∃ r, cmpD .ne (.int i) (.int j) = some r ∧ P r := c_any (.inl fun z => nomatch z) (by simp only [cmpD]; rw [if_pos ⟨rfl, rfl⟩, eqv_int]) h
theorem e_chain {o p : C2} {a b c : E} (h : rdE Φ a env fun k x env1 => rdE Φ b env1 fun k' y env2 => (k ≠ .b ∨ b.pur = true) ∧ (k' ≠ .b ∨ c.pur = true) ∧ ∃ r, cmpD o x y = some r ∧
    if r = true then rdE Φ c env2 fun _ z env3 => ∃ r', cmpD p y z = some r' ∧ Q .z (.bool r') env3 else Q .z (.bool false) env2) : rdE Φ (.chain o p a b c) env Q := h
theorem e_chainE {o : C2} {x y : D} {r : Bool} {p q : Prop} (e : cmpD o x y = some r) (h1 : r = true → A) (h2 : r = false → B) : (Kd.z ≠ .b ∨ p) ∧ (Kd.z ≠ .b ∨ q) ∧ ∃ r, cmpD o x y = some r ∧ if r = true then A else B := ⟨.inl (fun z => nomatch z), .inl (fun z => nomatch z), r, e, by
  cases r with
  | true => rw [if_pos rfl]; exact h1 rfl
  | false => rw [if_neg Bool.false_ne_true]; exact h2 rfl⟩
theorem e_isN {a : E} (h : rdE Φ a env fun _ x env1 => Q .z (.bool (isNonD x)) env1) : rdE Φ (.isN a) env Q := h
theorem e_notN {a : E} (h : rdE Φ a env fun _ x env1 => Q .z (.bool (!isNonD x)) env1) : rdE Φ (.notN a) env Q := h
theorem e_not {a : E} (h : rdE Φ a env fun _ x env1 => ∃ b, truthD x = some b ∧ Q .z (.bool (!b)) env1) : rdE Φ (.not a) env Q := h
theorem e_ands {es : Es} (h : rdAnd Φ es env Q) : rdE Φ (.ands es) env Q := h
theorem e_ors {es : Es} (h : rdOr Φ es env Q) : rdE Φ (.ors es) env Q := h
theorem a_one {e : E} (h : rdE Φ e env Q) : rdAnd Φ (.cons e .nil) env Q := h
theorem a_two {e e2 : E} {es : Es} (h : rdE Φ e env fun k x env1 => ∃ b, truthD x = some b ∧ if b = true then rdAnd Φ (.cons e2 es) env1 Q else Q k x env1) : rdAnd Φ (.cons e (.cons e2 es)) env Q := h
theorem o_one {e : E} (h : rdE Φ e env Q) : rdOr Φ (.cons e .nil) env Q := h
theorem o_two {e e2 : E} {es : Es} (h : rdE Φ e env fun k x env1 => ∃ b, truthD x = some b ∧ if b = true then Q k x env1 else rdOr Φ (.cons e2 es) env1 Q) : rdOr Φ (.cons e (.cons e2 es)) env Q := h
theorem e_ife {c a b : E} (h : rdE Φ c env fun _ x env1 => ∃ t, truthD x = some t ∧ if t = true then rdE Φ a env1 Q else rdE Φ b env1 Q) : rdE Φ (.ife c a b) env Q := h
theorem e_idx {a b : E} (h : rdE Φ a env fun k x env1 => rdE Φ b env1 fun _ y env2 => (k ≠ .b ∨ b.pur = true) ∧ ∃ r, idxD x y = some r ∧ Q (kdOf k r) r env2) : rdE Φ (.idx a b) env Q := h
theorem e_idxE {x y r : D} {P : D → Prop} {p : Prop} (c : p) (e : idxD x y = some r) (h : P r) : p ∧ ∃ r, idxD x y = some r ∧ P r := ⟨c, r, e, h⟩
theorem e_idxv {i : Nat} {b : E} (h0 : (varD env i).isSome = true) (h : rdE Φ b env fun _ y env1 => ∃ k x, varD env1 i = some (k, x) ∧ ∃ r, idxD x y = some r ∧ Q (match x with | .list _ => .z | _ => kdOf k r) r env1) : rdE Φ (.idxv i b) env Q := ⟨h0, h⟩
theorem i_list {i : Nat} {n : Int} {ds : List D} {r : D} {P : Kd → D → D → Prop} (h1 : varD env i = some (k, .list ds)) (e : atI ds n = some r) (h : P k (.list ds) r) : ∃ k x, varD env i = some (k, x) ∧ ∃ r, idxD x (.int n) = some r ∧ P k x r := ⟨k, _, h1, r, e, h⟩
theorem i_tup {i : Nat} {n : Int} {ds : List D} {r : D} {P : Kd → D → D → Prop} (h1 : varD env i = some (k, .tuple ds)) (e : atI ds n = some r) (h : P k (.tuple ds) r) : ∃ k x, varD env i = some (k, x) ∧ ∃ r, idxD x (.int n) = some r ∧ P k x r := ⟨k, _, h1, r, e, h⟩
theorem e_call {f : Str} {es : Es} {dv : List D} (h : rdEs Φ es env fun k ds env1 => (Φ f).io = false ∧ (Φ f).sp (ds ++ dv) fun _ r => (k ≠ .b ∨ flat r = true) ∧ Q (if (Φ f).fr then .t else .z) r env1) : rdE Φ (.call f es dv) env Q := h
theorem e_callk {f : Str} {es : Es} {ks : List Str} {pm : List Nat} (h : rdEs Φ es env fun k ds env1 => ds.length = ks.length ∧ (Φ f).io = false ∧ (Φ f).sp (pick pm ds) fun _ r => (k ≠ .b ∨ flat r = true) ∧ Q (if (Φ f).fr then .t else .z) r env1) : rdE Φ (.callk f es ks pm) env Q := h
theorem e_callio {f : Str} {i : Nat} {es : Es} (h0 : (ownD env i).isSome = true) (h : rdEs Φ es env fun k ds env1 => (Φ f).io = true ∧ k ≠ .b ∧ ∃ ns : List Int, ownD env1 i = some (.list (ns.map .int)) ∧ (Φ f).sp (.list (ns.map .int) :: ds) fun d' r => ∃ env2, putD env1 i d' = some env2 ∧ Q (if (Φ f).fr then .t else .z) r env2) : rdE Φ (.callio f i es) env Q := ⟨h0, h⟩
theorem e_bi {b : Bi} {es : Es} (h : rdEs Φ es env fun k ds env1 => ∃ t r, biD b ds = some (t, r) ∧ (k ≠ .b ∨ (if t = true then shal r else flat r) = true) ∧ Q (if t then .t else .z) r env1) : rdE Φ (.bi b es) env Q := h
theorem bi_F {b : Bi} {ds : List D} {r : D} {P : Bool → D → Prop} {q : Prop} (e : biD b ds = some (false, r)) (c : q ∨ flat r = true) (h : P false r) : ∃ t r, biD b ds = some (t, r) ∧ (q ∨ (if t = true then shal r else flat r) = true) ∧ P t r := ⟨false, r, e, c, h⟩
theorem bi_T {b : Bi} {ds : List D} {r : D} {P : Bool → D → Prop} {q : Prop} (e : biD b ds = some (true, r)) (c : q ∨ shal r = true) (h : P true r) : ∃ t r, biD b ds = some (t, r) ∧ (q ∨ (if t = true then shal r else flat r) = true) ∧ P t r := ⟨true, r, e, c, h⟩
theorem e_ist {b : Bi} {e : E} (h : rdE Φ e env fun _ x env1 => ∃ t r, biD b [x] = some (t, r) ∧ Q .z r env1) : rdE Φ (.ist b e) env Q := h
theorem e_istE {b : Bi} {x r : D} {P : Bool → D → Prop} (e : biD b [x] = some (false, r)) (h : P false r) : ∃ t r, biD b [x] = some (t, r) ∧ P t r := ⟨false, r, e, h⟩
theorem s_nil {P : Kd → List D → DEnv → Prop} (h : P .z [] env) : rdEs Φ .nil env P := h
theorem s_cons {P : Kd → List D → DEnv → Prop} {e : E} {es : Es} (h : rdE Φ e env fun k d env1 => rdEs Φ es env1 fun k' ds env2 => (k ≠ .b ∨ es.pur = true) ∧ P (if k = .b then .b else k') (d :: ds) env2) : rdEs Φ (.cons e es) env P := h
theorem e_sl {a : E} {lo hi : OE} (h : rdE Φ a env fun k x env1 => rdO Φ lo env1 fun l env2 => rdO Φ hi env2 fun h env3 => (k ≠ .b ∨ (lo.pur = true ∧ hi.pur = true)) ∧
    match x with
    | .list ds => (k ≠ .b ∨ flats ds = true) ∧ Q .t (.list (cutD ds l h)) env3
    | .tuple ds => Q (kdOf k (.tuple (cutD ds l h))) (.tuple (cutD ds l h)) env3
    | _ => False) : rdE Φ (.sl a lo hi) env Q := h
theorem o_no {P : Option Int → DEnv → Prop} (h : P none env) : rdO Φ .no env P := h
theorem o_so {P : Option Int → DEnv → Prop} {e : E} (h : rdE Φ e env fun _ x env1 => ∃ i, x = .int i ∧ P (some i) env1) : rdO Φ (.so e) env P := h
/-! what is walked -/
theorem w_lst {P : Kd → List D → DEnv → Prop} {e : E} (h : rdE Φ e env fun k x env1 => ∃ ds, x = .list ds ∧ P k ds env1) : rdI Φ (.lst e) env P := h
theorem w_tup {P : Kd → List D → DEnv → Prop} {e : E} (h : rdE Φ e env fun k x env1 => ∃ ds, x = .tuple ds ∧ P (kdOf k x) ds env1) : rdI Φ (.tup e) env P := h
theorem w_rng1 {P : Kd → List D → DEnv → Prop} {a : E} (h : rdE Φ a env fun _ x env1 => ∃ n, x = .int n ∧ okRng n ∧ P .z (rangeD 0 n.toNat) env1) : rdI Φ (.rng1 a) env P := h
theorem w_rng2 {P : Kd → List D → DEnv → Prop} {a b : E} (h : rdE Φ a env fun _ x env1 => rdE Φ b env1 fun _ y env2 => ∃ n m, x = .int n ∧ y = .int m ∧ P .z (rangeD n (m - n).toNat) env2) : rdI Φ (.rng2 a b) env P := h
theorem w_enum {P : Kd → List D → DEnv → Prop} {e : E} (h : rdE Φ e env fun k x env1 => ∃ ds, x = .list ds ∧ P k (ds.zipIdx.map fun p => .tuple [.int (p.2 : Nat), p.1]) env1) : rdI Φ (.enum e) env P := h
/-! loops -/
theorem r_for {t : T} {it : It} {b : Ss} {wl : List Nat} (h : rdI Φ it env fun k its env1 => k ≠ .b ∧ ∃ W : Nat → DEnv → Prop, W 0 (wipeF env1 wl) ∧
      (∀ j env x, its[j]? = some x → W j env → ∃ env2, tgD t x env = some env2 ∧ rdSs Φ b env2 { nx := fun e => W (j + 1) (wipeF e wl), ct := fun e => W (j + 1) (wipeF e wl), bk := fun e => R.nx (wipeF e wl), rt := R.rt }) ∧ ∀ env, W its.length env → R.nx env) : rdS Φ (.forr t it b wl) env R := h
theorem r_whl {c : E} {b : Ss} {wl : List Nat} (W : Nat → DEnv → Prop) (m : Nat) (h0 : W m (wipeF env wl)) (h : ∀ m env, W m env → rdE Φ c env fun _ x env1 => ∃ t, truthD x = some t ∧
      if t = true then rdSs Φ b env1 { nx := fun e => ∃ m', m' < m ∧ W m' (wipeF e wl), ct := fun e => ∃ m', m' < m ∧ W m' (wipeF e wl), bk := fun e => R.nx (wipeF e wl), rt := R.rt } else R.nx env1) : rdS Φ (.whl c b wl) env R := ⟨W, ⟨m, h0⟩, h⟩
theorem e_sset {a : E} (h : rdE Φ a env fun _ x env1 => ∃ ns ms : List Int, x = .list (ns.map .int) ∧ ns.length ≤ 1000 ∧ ms.Pairwise (· < ·) ∧ (∀ k, k ∈ ms ↔ k ∈ ns) ∧ ms.length < 64 ∧ Q .t (.list (ms.map .int)) env1) : rdE Φ (.sset a) env Q := h
theorem e_dnewT (h : Q .t (dT []) env) : rdE Φ .dnewT env Q := h
theorem e_dinT {neg : Bool} {es : Es} {i : Nat} (h : rdEs Φ es env fun _ ds env1 => ∃ (ks : List Int) (k : Kd) (l : List (List Int × D)), ds = ks.map .int ∧ ks.length ≤ 1000 ∧ varD env1 i = some (k, dT l) ∧ Q .z (.bool (if neg = true then !hasT l ks else hasT l ks)) env1) : rdE Φ (.dinT neg es i) env Q := h
theorem e_dgetT {i : Nat} {es : Es} {n : Int} (h0 : ∃ (k : Kd) (l : List (List Int × D)), varD env i = some (k, dT l)) (h : rdEs Φ es env fun _ ds env1 => ∃ (ks : List Int) (k : Kd) (l : List (List Int × D)) (m : Int), ds = ks.map .int ∧ ks.length ≤ 1000 ∧ varD env1 i = some (k, dT l) ∧ getT l ks n = some m ∧ Q .z (.int m) env1) : rdE Φ (.dgetT i es n) env Q := ⟨h0, h⟩
theorem r_ford {a b c : Nat} {e : E} {bd : Ss} {wl : List Nat} (h : rdE Φ e env fun k x env1 => k = .t ∧ ∃ l : List ((Int × Int) × Int), x = dP l ∧ ∃ W : Nat → DEnv → Prop, W 0 (wipeF env1 wl) ∧
      (∀ j env p, l[j]? = some p → W j env → ∃ env2, tgD (T3 a b c) (.tuple [.tuple [.int p.1.1, .int p.1.2], .int p.2]) env = some env2 ∧ rdSs Φ bd env2 { nx := fun e => W (j + 1) (wipeF e wl), ct := fun e => W (j + 1) (wipeF e wl), bk := fun e => R.nx (wipeF e wl), rt := R.rt }) ∧ ∀ env, W l.length env → R.nx env) : rdS Φ (.ford a b c e bd wl) env R := h
theorem r_cntT {i j : Nat} {es : Es} {ss : Ss} (h : rdEs Φ es env fun _ ds env1 => ∃ (ks : List Int) (l : List (List Int × D)) (m : Int) (env2 env3 : DEnv), ds = ks.map .int ∧ ks.length ≤ 1000 ∧ setD env1 j (.frz (.tuple ds)) = some env2 ∧
      ownD env2 i = some (dT l) ∧ i ≠ j ∧ l.length < sizeLine ∧ getT l ks 0 = some m ∧ putD env2 i (dT (putT l ks (.int (m + 1)))) = some env3 ∧ rdSs Φ ss env3 R) : rdSs Φ (.cntT i j es ss) env R := h
theorem e_rev {a : E} (h : rdE Φ a env fun k x env1 => ∃ ds, x = .list ds ∧ (k ≠ .b ∨ flats ds = true) ∧ Q .t (.list ds.reverse) env1) : rdE Φ (.rev a) env Q := h
theorem e_cat {a : E} {es : Es} (h : rdE Φ a env fun k x env1 => ∃ xs, x = .list xs ∧ (k ≠ .b ∨ flats xs = true) ∧ rdEs Φ es env1 fun k' ds env2 => k' ≠ .b ∧ xs.length + ds.length ≤ 100000 ∧ Q .t (.list (xs ++ ds)) env2) : rdE Φ (.cat a es) env Q := h
theorem e_cat2 {a b : E} (h : rdE Φ a env fun k x env1 => ∃ xs, x = .list xs ∧ (k ≠ .b ∨ flats xs = true) ∧ rdE Φ b env1 fun k' y env2 => ∃ ys, y = .list ys ∧ (k' ≠ .b ∨ flats ys = true) ∧ xs.length + ys.length ≤ 100000 ∧ Q .t (.list (xs ++ ys)) env2) : rdE Φ (.cat2 a b) env Q := h
theorem e_mt {m : Mt} {o : E} {es : Es} (h : rdE Φ o env fun k x env1 => isLst x = true ∧ rdEs Φ es env1 fun _ ds env2 => (k ≠ .b ∨ es.pur = true) ∧ ∃ r, mtD m x ds = some r ∧ Q (kdOf k r) r env2) : rdE Φ (.mt m o es) env Q := h
theorem r_dputT {i : Nat} {es : Es} {v : E} (h0 : (ownD env i).isSome = true) (h : rdE Φ v env fun k d env1 => rdEs Φ es env1 fun _ ds env2 => k ≠ .b ∧ ∃ (ks : List Int) (l : List (List Int × D)) (env3 : DEnv), ds = ks.map .int ∧ ks.length ≤ 1000 ∧ ownD env2 i = some (dT l) ∧ l.length < sizeLine ∧ putD env2 i (dT (putT l ks d)) = some env3 ∧ R.nx env3) : rdS Φ (.dputT i es v) env R := ⟨h0, h⟩
theorem e_lc {elt : E} {t : T} {it : It} {cs : Es} (h : rdI Φ it env fun k its env1 => freeD env1 t.names = true ∧ (k ≠ .b ∨ (flats its = true ∧ elt.pur = true ∧ cs.pur = true)) ∧
      ∃ W : Nat → List D → DEnv → Prop, W 0 [] (wipeD env1 t.names) ∧
        (∀ j acc env x, its[j]? = some x → W j acc env → ∃ env2, tgD t x env = some env2 ∧ rdC Φ cs env2 fun b env3 =>
          if b = true then rdE Φ elt env3 fun k d env4 => k ≠ .b ∧ acc.length < sizeLine ∧ W (j + 1) (acc ++ [d]) (wipeD env4 t.names) else W (j + 1) acc (wipeD env3 t.names)) ∧
        ∀ acc env, W its.length acc env → Q .t (.list acc) (backD env1 env t.names)) : rdE Φ (.lc elt t it cs) env Q := h
theorem c_nil {P : Bool → DEnv → Prop} (h : P true env) : rdC Φ .nil env P := h
/-! names that hold nothing of one's own -/
def Fz (s : Slot) : Prop := s = .un ∨ ∃ d, s = .frz d
theorem fz_un : Fz .un := .inl rfl
theorem fz_frz {d : D} : Fz (.frz d) := .inr ⟨d, rfl⟩
theorem set_fz {i : Nat} {s s' : Slot} (e : env[i]? = some s) (f : Fz s) : setD env i s' = some (env.set i s') := by
  unfold setD
  rw [e]
  rcases f with rfl | ⟨d, rfl⟩ <;> rfl
theorem asg_fz {i : Nat} {s : Slot} {d : D} (e : env[i]? = some s) (f : Fz s) : asgD env i false .z d = some (env.set i (.frz d)) := set_fz e f
theorem asgt_fz {i : Nat} {s : Slot} {d : D} (e : env[i]? = some s) (f : Fz s) : asgD env i false .t d = some (env.set i (.frz d)) := set_fz e f
/-- a name that is none of the changed arguments -/
def Ni (s : Slot) : Prop := ∀ d, s ≠ .io d
theorem ni_un : Ni .un := fun _ z => nomatch z
theorem ni_frz {d : D} : Ni (.frz d) := fun _ z => nomatch z
theorem ni_own {d : D} : Ni (.own d) := fun _ z => nomatch z
theorem set_ni {i : Nat} {s s' : Slot} (e : env[i]? = some s) (f : Ni s) : setD env i s' = some (env.set i s') := by
  unfold setD
  rw [e]
  cases s with
  | io d => exact absurd rfl (f d)
  | _ => rfl
theorem asgo_ni {i : Nat} {s : Slot} {d : D} (e : env[i]? = some s) (f : Ni s) : asgD env i true .t d = some (env.set i (.own d)) := set_ni e f
theorem tg_fz {i : Nat} {s : Slot} {d : D} (e : env[i]? = some s) (f : Fz s) : tgD (.nm i) d env = some (env.set i (.frz d)) := by
  simp only [tgD]
  exact set_fz e f
theorem tg2_fz {i j : Nat} {s s' : Slot} {d d' : D} (hij : i ≠ j) (e : env[i]? = some s) (f : Fz s) (e' : env[j]? = some s') (f' : Fz s') : tgD (.tp (.cons (.nm i) (.cons (.nm j) .nil))) (.tuple [d, d']) env = some ((env.set i (.frz d)).set j (.frz d')) := by
  simp only [tgD, tgsD]
  rw [set_fz e f]
  show ((setD (env.set i (.frz d)) j (.frz d')).bind fun e => some e) = _
  rw [set_fz (by rw [List.getElem?_set_ne hij]; exact e') f']
  rfl
theorem r_tbA {b : Bool} (e : b = true) (h : A) : ∃ t, truthD (.bool b) = some t ∧ if t = true then A else B := r_tb (fun _ => h) fun z => by rw [e] at z; cases z
theorem r_tbB {b : Bool} (e : b = false) (h : B) : ∃ t, truthD (.bool b) = some t ∧ if t = true then A else B := r_tb (fun z => by rw [e] at z; cases z) fun _ => h
theorem isNonD_int {i : Int} : isNonD (.int i) = false := rfl
theorem isNonD_bool {i : Bool} : isNonD (.bool i) = false := rfl
theorem isNonD_str {i : Str} : isNonD (.str i) = false := rfl
theorem isNonD_list {l : List D} : isNonD (.list l) = false := rfl
theorem isNonD_tup {l : List D} : isNonD (.tuple l) = false := rfl
theorem isNonD_none : isNonD .none = true := rfl
theorem r_put2 {i j : Nat} {n : Int} {ds : List D} {d : D} {P : DEnv → Prop} {env3 : DEnv} (h1 : ownD env2 i = some (.list ds)) (h2 : ixN ds.length n = some j) (h3 : putD env2 i (.list (ds.set j d)) = some env3) (h : P env3) :
    ∃ ds n' j env3, ownD env2 i = some (.list ds) ∧ PyData.int n = .int n' ∧ ixN ds.length n' = some j ∧ putD env2 i (.list (ds.set j d)) = some env3 ∧ P env3 := ⟨ds, n, j, env3, h1, rfl, h2, h3, h⟩
theorem log_lt {n k : Nat} (h : n < 2 ^ k) (hk : 0 < k) : n.log2 < k := by
  by_cases h0 : n = 0
  · subst h0
    simpa using hk
  · exact (Nat.log2_lt h0).mpr h
theorem log_small {i j : Int} (ha : i.natAbs < 10000) (hb : j.natAbs < 10000) : i.natAbs.log2 + j.natAbs.log2 < 1000000 := by
  have := Nat.log2_le_self i.natAbs
  have := Nat.log2_le_self j.natAbs
  omega
theorem log_mid1 {i : Int} (a1 : -1000000000000000000000000000000000000000000000000000000000000 ≤ i) (a2 : i ≤ 1000000000000000000000000000000000000000000000000000000000000) : i.natAbs.log2 < 200 := by
  have h : (1000000000000000000000000000000000000000000000000000000000000 : Nat) < 2 ^ 200 := by decide +kernel
  refine log_lt (Nat.lt_of_le_of_lt ?_ h) (by decide)
  omega
theorem log_mid {i j : Int} (a1 : -1000000000000000000000000000000000000000000000000000000000000 ≤ i) (a2 : i ≤ 1000000000000000000000000000000000000000000000000000000000000) (b1 : -1000000000000000000000000000000000000000000000000000000000000 ≤ j) (b2 : j ≤ 1000000000000000000000000000000000000000000000000000000000000) : i.natAbs.log2 + j.natAbs.log2 < 1000000 := by
  have := log_mid1 a1 a2
  have := log_mid1 b1 b2
  omega
theorem pow_mid {i j : Int} (h0 : 0 ≤ j) (h1 : j ≤ 1000) (a1 : -1000000000000000000000000000000000000000000000000000000000000 ≤ i) (a2 : i ≤ 1000000000000000000000000000000000000000000000000000000000000) : 0 ≤ j ∧ j ≤ 1000 ∧ i.natAbs.log2 < 1000 := ⟨h0, h1, by have := log_mid1 a1 a2; omega⟩
theorem div_c {n : Int} (h0 : 0 < n) (h1 : n ≤ 1000) : 0 < n ∧ n.natAbs.log2 < 9000 := ⟨h0, by have := Nat.log2_le_self n.natAbs; omega⟩
theorem nz : Kd.z ≠ Kd.b := fun z => nomatch z
theorem nt : Kd.t ≠ Kd.b := fun z => nomatch z
theorem g_nbz (h : A) : Kd.z ≠ Kd.b ∧ A := ⟨nz, h⟩
theorem g_nbt (h : A) : Kd.t ≠ Kd.b ∧ A := ⟨nt, h⟩
theorem g_oz {p : Prop} (h : A) : (Kd.z ≠ Kd.b ∨ p) ∧ A := ⟨.inl nz, h⟩
theorem g_ot {p : Prop} (h : A) : (Kd.t ≠ Kd.b ∨ p) ∧ A := ⟨.inl nt, h⟩
theorem g_pur {p : Prop} {b : Bool} (e : b = true) (h : A) : (p ∨ b = true) ∧ A := ⟨.inr e, h⟩
theorem g_eqt (h : A) : Kd.t = Kd.t ∧ A := ⟨rfl, h⟩
theorem g_if {b : Bool} (h1 : b = true → A) (h2 : b = false → B) : if b = true then A else B := by
  cases b with
  | true => exact h1 rfl
  | false => exact h2 rfl
theorem g_ifT (h : A) : if true = true then A else B := h
theorem g_ifF (h : B) : if false = true then A else B := h
theorem ixN_ok {n : Nat} {i : Int} (h0 : 0 ≤ i) (h1 : i < n) : ixN n i = some i.toNat := by
  unfold ixN
  rw [if_pos h0, if_pos h1]
theorem g_ex {o : Option Bool} {r : Bool} {P : Bool → Prop} (e : o = some r) (h : P r) : ∃ r, o = some r ∧ P r := ⟨r, e, h⟩
theorem sets2_fz {i j : Nat} {s s' : Slot} {d d' : D} (hij : i ≠ j) (e : env[i]? = some s) (f : Fz s) (e' : env[j]? = some s') (f' : Fz s') : setsD env [(i, false), (j, false)] [d, d'] = some ((env.set i (.frz d)).set j (.frz d')) := by
  simp only [setsD]
  rw [if_neg Bool.false_ne_true, set_fz e f]
  show ((setD (env.set i (.frz d)) j (.frz d')).bind fun e => some e) = _
  rw [set_fz (by rw [List.getElem?_set_ne hij]; exact e') f']
  rfl
theorem g_rng {n : Int} (c : okRng n) (h : A) : okRng n ∧ A := ⟨c, h⟩
/-! plain facts -/
theorem mod_nat {a L : Nat} : ((a : Int) % (L : Int)).toNat = a % L := by
  rw [← Int.natCast_emod]; rfl

theorem atI_ints {ns : List Int} {n : Int} (h0 : 0 ≤ n) (h1 : n < ns.length) : atI (ns.map PyData.int) n = some (.int (ns.getD n.toNat 0)) := by
  unfold atI ixN
  rw [List.length_map, if_pos h0, if_pos h1]
  show (ns.map PyData.int)[n.toNat]? = _
  rw [List.getElem?_map, List.getD_eq_getElem?_getD]
  rw [List.getElem?_eq_getElem (by omega)]
  rfl
theorem ints_get {ns : List Int} {j : Nat} {x : D} (h : (ns.map PyData.int)[j]? = some x) : j < ns.length ∧ x = .int (ns.getD j 0) := by
  rw [List.getElem?_map] at h
  obtain ⟨a, e, rfl⟩ := Option.map_eq_some_iff.mp h
  refine ⟨(List.getElem?_eq_some_iff.mp e).1, ?_⟩
  rw [List.getD_eq_getElem?_getD, e]; rfl
theorem range_get {lo : Int} {n j : Nat} {x : D} (h : (rangeD lo n)[j]? = some x) : j < n ∧ x = .int (lo + j) := by
  have hl : j < n := by
    have := (List.getElem?_eq_some_iff.mp h).1
    rwa [rangeD_length] at this
  rw [rangeD_get hl] at h
  exact ⟨hl, (Option.some.inj h).symm⟩
theorem enum_get {ns : List Int} {j : Nat} {x : D} (h : (((ns.map PyData.int).zipIdx.map fun p => PyData.tuple [.int (p.2 : Nat), p.1]))[j]? = some x) : j < ns.length ∧ x = .tuple [.int (j : Nat), .int (ns.getD j 0)] := by
  rw [List.getElem?_map, List.getElem?_zipIdx] at h
  obtain ⟨a, e, rfl⟩ := Option.map_eq_some_iff.mp h
  obtain ⟨b, e2, rfl⟩ := Option.map_eq_some_iff.mp e
  obtain ⟨h1, rfl⟩ := ints_get e2
  exact ⟨h1, by simp⟩
theorem enum_len {ns : List Int} : (((ns.map PyData.int).zipIdx.map fun p => PyData.tuple [.int (p.2 : Nat), p.1])).length = ns.length := by simp
end
end DL

/-! DL21: plain facts of data. -/
namespace DL
open PySem PySem.Spec PyProof.Rows L2
theorem log_two {i j : Int} {a b : Nat} (ha : i.natAbs < 2 ^ a) (hb : j.natAbs < 2 ^ b) (h : a + b < 1000000) (h0 : 0 < a) (h1 : 0 < b) : i.natAbs.log2 + j.natAbs.log2 < 1000000 := by
  have := log_lt ha h0
  have := log_lt hb h1
  omega
theorem biD_min {ns : List Int} (h : ns ≠ []) : ∃ m, biD .min [.list (ns.map .int)] = some (false, .int m) ∧ m ∈ ns ∧ ∀ y ∈ ns, m ≤ y := by
  cases ns with
  | nil => exact absurd rfl h
  | cons n r =>
    obtain ⟨h1, h2, h3⟩ := minI_ok r n
    refine ⟨minI n r, ?_, ?_, ?_⟩
    · simp only [biD]
      rw [intsOf_map]
      rfl
    · rcases h1 with e | e
      · rw [e]; exact List.mem_cons_self
      · exact List.mem_cons_of_mem _ e
    · intro y hy
      rcases List.mem_cons.mp hy with e | e
      · rw [e]; exact h2
      · exact h3 y e
theorem biD_max {ns : List Int} (h : ns ≠ []) : ∃ m, biD .max [.list (ns.map .int)] = some (false, .int m) ∧ m ∈ ns ∧ ∀ y ∈ ns, y ≤ m := by
  cases ns with
  | nil => exact absurd rfl h
  | cons n r =>
    obtain ⟨h1, h2, h3⟩ := maxI_ok r n
    refine ⟨maxI n r, ?_, ?_, ?_⟩
    · simp only [biD]
      rw [intsOf_map]
      rfl
    · rcases h1 with e | e
      · rw [e]; exact List.mem_cons_self
      · exact List.mem_cons_of_mem _ e
    · intro y hy
      rcases List.mem_cons.mp hy with e | e
      · rw [e]; exact h2
      · exact h3 y e
theorem can_ints : ∀ ns : List Int, PyData.canLayAll0 (ns.map .int) = true
  | [] => by unfold PyData.canLayAll0; rfl
  | n :: ns => by
    show PyData.canLayAll0 (.int n :: ns.map .int) = true
    unfold PyData.canLayAll0
    rw [can_ints ns]
    unfold PyData.canLay0
    rfl
theorem depth_ints : ∀ ns : List Int, PyData.depthAll (ns.map .int) = 0
  | [] => by unfold PyData.depthAll; rfl
  | n :: ns => by
    show PyData.depthAll (.int n :: ns.map .int) = 0
    unfold PyData.depthAll
    rw [depth_ints ns]
    unfold PyData.depth
    rfl
theorem shaped_ints (ns : List Int) : SeqAt.shaped (.list (ns.map .int)) = true := by
  unfold SeqAt.shaped PyData.canLay0 PyData.depth
  rw [can_ints, depth_ints]
  rfl
theorem shaped_int (i : Int) : SeqAt.shaped (.int i) = true := by
  unfold SeqAt.shaped PyData.canLay0 PyData.depth
  rfl
theorem any_ints (i : Int) : ∀ ns : List Int, ((ns.map PyData.int).any fun z => PyData.eqv z (.int i)) = decide (i ∈ ns)
  | [] => rfl
  | n :: ns => by
    rw [List.map_cons, List.any_cons, any_ints i ns, eqv_int]
    by_cases h : n = i
    · subst h; simp
    · have h2 : ¬ i = n := fun z => h z.symm
      simp [h, h2]
theorem inn_ints {i : Int} {ns : List Int} : cmpD .inn (.int i) (.list (ns.map .int)) = some (decide (i ∈ ns)) := by
  simp only [cmpD]
  rw [if_pos ⟨shaped_int i, shaped_ints ns⟩, any_ints]
/-! texts of lists -/
theorem str_app (a b : Str) : (a ++ b).length = a.length + b.length := by
  show (a.cps ++ b.cps).size = _
  exact Array.size_append
theorem text_le : ∀ (ts : List Str) (k : Nat) (acc : Str) (m : Nat), (∀ t ∈ ts, t.length ≤ m) → (textFrom k acc ts).length ≤ acc.length + ts.length * (m + 2)
  | [], k, acc, m, _ => by
    show acc.length ≤ _
    simp
  | t :: r, k, acc, m, h => by
    have h1 := text_le r (k + 1) (acc ++ (if k > 0 then ", " else "" : String) ++ t) m fun u hu => h u (List.mem_cons_of_mem _ hu)
    have h2 := h t List.mem_cons_self
    have h3 : (((if k > 0 then ", " else "" : String) : Str)).length ≤ 2 := by split <;> decide
    rw [str_app, str_app] at h1
    show (textFrom (k + 1) (acc ++ (if k > 0 then ", " else "" : String) ++ t) r).length ≤ _
    rw [List.length_cons, Nat.succ_mul]
    omega
theorem ok_app (a b : Str) : PyData.strOk (a ++ b) = (PyData.strOk a && PyData.strOk b) := by
  show (a.cps ++ b.cps).all _ = _
  exact Array.all_append
theorem ok_text : ∀ (ts : List Str) (k : Nat) (acc : Str), (∀ t ∈ ts, PyData.strOk t = true) → PyData.strOk acc = true → PyData.strOk (textFrom k acc ts) = true
  | [], k, acc, _, h => h
  | t :: r, k, acc, h, ha => by
    show PyData.strOk (textFrom (k + 1) (acc ++ (if k > 0 then ", " else "" : String) ++ t) r) = true
    refine ok_text r (k + 1) _ (fun u hu => h u (List.mem_cons_of_mem _ hu)) ?_
    have h3 : PyData.strOk (((if k > 0 then ", " else "" : String) : Str)) = true := by split <;> decide +kernel
    rw [ok_app, ok_app, ha, h3, h t List.mem_cons_self]
    rfl
theorem digit_ok {x : Int} (h0 : 0 ≤ x) (h1 : x ≤ 9) : PyData.strOk (PyData.shown (.int x)) = true := by
  have h : x = 0 ∨ x = 1 ∨ x = 2 ∨ x = 3 ∨ x = 4 ∨ x = 5 ∨ x = 6 ∨ x = 7 ∨ x = 8 ∨ x = 9 := by omega
  rcases h with rfl | rfl | rfl | rfl | rfl | rfl | rfl | rfl | rfl | rfl <;> decide +kernel
theorem ne_str {x : Str} (h : PyData.strOk x = true) : cmpD .ne (.str x) (.str x) = some false := by
  have s : SeqAt.shaped (.str x) = true := by
    unfold SeqAt.shaped PyData.canLay0 PyData.depth
    rw [h]; rfl
  simp only [cmpD]
  rw [if_pos ⟨s, s⟩]
  unfold PyData.eqv
  rw [beq_self_eq_true]
  rfl
theorem digit_len {x : Int} (h0 : 0 ≤ x) (h1 : x ≤ 9) : (PyData.shown (.int x)).length = 1 := by
  have h : x = 0 ∨ x = 1 ∨ x = 2 ∨ x = 3 ∨ x = 4 ∨ x = 5 ∨ x = 6 ∨ x = 7 ∨ x = 8 ∨ x = 9 := by omega
  rcases h with rfl | rfl | rfl | rfl | rfl | rfl | rfl | rfl | rfl | rfl <;> decide +kernel
theorem shownAll_map (ds : List D) : PyData.shownAll ds = ds.map PyData.shown := by
  induction ds with
  | nil => unfold PyData.shownAll; rfl
  | cons d ds ih => unfold PyData.shownAll; rw [ih]; rfl
theorem showableAll_map (ds : List D) : PyData.showableAll ds = ds.all PyData.showable := by
  induction ds with
  | nil => unfold PyData.showableAll; rfl
  | cons d ds ih => unfold PyData.showableAll; rw [ih]; rfl
theorem nodicts_all (ds : List D) : nodicts ds = ds.all nodict := by
  induction ds with
  | nil => unfold nodicts; rfl
  | cons d ds ih => unfold nodicts; rw [ih]; rfl
theorem repr_digits {ns : List Int} (hl : ns.length ≤ 1000) (h : ∀ x ∈ ns, 0 ≤ x ∧ x ≤ 9) : biD .repr [.list (ns.map .int)] = some (false, .str (PyData.shown (.list (ns.map .int)))) := by
  simp only [biD]
  refine if_pos ⟨?_, ?_, ?_, ?_⟩
  · unfold PyData.showable
    rw [showableAll_map, List.all_eq_true]
    intro d hd
    obtain ⟨x, hx, rfl⟩ := List.mem_map.mp hd
    obtain ⟨a, b⟩ := h x hx
    unfold PyData.showable
    have z : x.natAbs.log2 < 1920 := Nat.lt_of_le_of_lt (Nat.log2_le_self _) (by omega)
    exact decide_eq_true z
  · unfold nodict
    rw [nodicts_all, List.all_eq_true]
    intro d hd
    obtain ⟨x, hx, rfl⟩ := List.mem_map.mp hd
    unfold nodict
    rfl
  · unfold PyData.depth
    rw [depth_ints]
    decide
  · unfold PyData.shown listText
    rw [shownAll_map, str_app]
    have z := text_le ((ns.map PyData.int).map PyData.shown) 0 "[" 1 fun t ht => by
      obtain ⟨d, hd, rfl⟩ := List.mem_map.mp ht
      obtain ⟨x, hx, rfl⟩ := List.mem_map.mp hd
      obtain ⟨a, b⟩ := h x hx
      rw [digit_len a b]
      exact Nat.le_refl _
    rw [List.length_map, List.length_map] at z
    have e1 : (("[" : Str)).length = 1 := by decide
    have e2 : (("]" : Str)).length = 1 := by decide
    have e3 : (1004 : Nat) * 3 ≤ sizeLine := by decide
    show (textFrom 0 "[" ((ns.map PyData.int).map PyData.shown)).length + (("]" : Str)).length ≤ sizeLine
    omega
theorem repr_digits_ok {ns : List Int} (h : ∀ x ∈ ns, 0 ≤ x ∧ x ≤ 9) : PyData.strOk (PyData.shown (.list (ns.map .int))) = true := by
  unfold PyData.shown listText
  rw [shownAll_map, ok_app, ok_text ((ns.map PyData.int).map PyData.shown) 0 "[" (fun t ht => by
      obtain ⟨d, hd, rfl⟩ := List.mem_map.mp ht
      obtain ⟨x, hx, rfl⟩ := List.mem_map.mp hd
      exact digit_ok (h x hx).1 (h x hx).2) (by decide +kernel)]
  decide +kernel
section
variable {Φ : Phi} {env : DEnv} {R : DEnds} {P : Bool → DEnv → Prop}
theorem r_asgTs {ts : Ts} {e : E} (h : rdE Φ e env fun k d env1 => k ≠ .b ∧ ∃ env2, tgD (.tp ts) d env1 = some env2 ∧ R.nx env2) : rdS Φ (.asgT ts e) env R := h
theorem c_one {e : E} (h : rdE Φ e env fun _ x env1 => ∃ b, truthD x = some b ∧ P b env1) : rdC Φ (.cons e .nil) env P := h
theorem tg3_fz {i j l : Nat} {s s' s'' : Slot} {d d' d'' : D} (hij : i ≠ j) (hil : i ≠ l) (hjl : j ≠ l) (e : env[i]? = some s) (f : Fz s) (e' : env[j]? = some s') (f' : Fz s') (e'' : env[l]? = some s'') (f'' : Fz s'') :
    tgD (.tp (.cons (.nm i) (.cons (.nm j) (.cons (.nm l) .nil)))) (.tuple [d, d', d'']) env = some (((env.set i (.frz d)).set j (.frz d')).set l (.frz d'')) := by
  simp only [tgD, tgsD]
  rw [set_fz e f]
  show ((setD (env.set i (.frz d)) j (.frz d')).bind fun e => (setD e l (.frz d'')).bind fun e => some e) = _
  rw [set_fz (by rw [List.getElem?_set_ne hij]; exact e') f']
  show ((setD ((env.set i (.frz d)).set j (.frz d')) l (.frz d'')).bind fun e => some e) = _
  rw [set_fz (by rw [List.getElem?_set_ne hjl, List.getElem?_set_ne hil]; exact e'') f'']
  rfl
theorem enum_map {α : Type} {f : α → D} {as : List α} {j : Nat} {x : D} (h : (((as.map f).zipIdx.map fun p => PyData.tuple [.int (p.2 : Nat), p.1]))[j]? = some x) : ∃ a, as[j]? = some a ∧ x = .tuple [.int (j : Nat), f a] := by
  rw [List.getElem?_map, List.getElem?_zipIdx] at h
  obtain ⟨p, e, rfl⟩ := Option.map_eq_some_iff.mp h
  obtain ⟨b, e2, rfl⟩ := Option.map_eq_some_iff.mp e
  rw [List.getElem?_map] at e2
  obtain ⟨a, e3, rfl⟩ := Option.map_eq_some_iff.mp e2
  exact ⟨a, e3, by simp⟩
theorem map_at {α : Type} {f : α → D} {as : List α} {j : Nat} {x : D} (h : (as.map f)[j]? = some x) : ∃ a, as[j]? = some a ∧ x = f a := by
  rw [List.getElem?_map] at h
  obtain ⟨a, e, rfl⟩ := Option.map_eq_some_iff.mp h
  exact ⟨a, e, rfl⟩
end
section
variable {Φ : Phi} {env env1 env2 : DEnv} {Q : Kd → D → DEnv → Prop} {R : DEnds} {α β : Type}
/-- [g(a) for a in as if p(a)], behind what is walked -/
theorem lc_fin {Qf : List D → DEnv → Prop} {len : Nat} {elt : E} {t : T} {cs : Es} {k : Kd} {its : List D} (as : List α) (f : α → D) (p : α → Bool) (g : α → D) (e : its = as.map f) (h1 : freeD env1 t.names = true) (h2 : k ≠ .b ∨ (flats its = true ∧ elt.pur = true ∧ cs.pur = true)) (h3 : as.length ≤ 100000)
    (h4 : ∀ (j : Nat) (a : α), as[j]? = some a → ∃ env2, tgD t (f a) (wipeD env1 t.names) = some env2 ∧ wipeD env2 t.names = wipeD env1 t.names ∧ (∀ P : Bool → DEnv → Prop, P (p a) env2 → rdC Φ cs env2 P) ∧
      (p a = true → ∀ P : Kd → D → DEnv → Prop, (∀ k, k ≠ .b → P k (g a) env2) → rdE Φ elt env2 P)) (h5 : Qf ((as.filter p).map g) (wipeD env1 t.names)) (hlen : len = as.length := by simp [rangeD_length]) :
    freeD env1 t.names = true ∧ (k ≠ .b ∨ (flats its = true ∧ elt.pur = true ∧ cs.pur = true)) ∧
      ∃ W : Nat → List D → DEnv → Prop, W 0 [] (wipeD env1 t.names) ∧
        (∀ j acc env x, its[j]? = some x → W j acc env → ∃ env2, tgD t x env = some env2 ∧ rdC Φ cs env2 fun b env3 =>
          if b = true then rdE Φ elt env3 fun k d env4 => k ≠ .b ∧ acc.length < sizeLine ∧ W (j + 1) (acc ++ [d]) (wipeD env4 t.names) else W (j + 1) acc (wipeD env3 t.names)) ∧
        ∀ acc env, W len acc env → Qf acc env := by
  subst e hlen
  refine ⟨h1, h2, fun j acc env => acc = ((as.take j).filter p).map g ∧ env = wipeD env1 t.names, ⟨rfl, rfl⟩, ?_, ?_⟩
  · rintro j acc env x hx ⟨rfl, rfl⟩
    obtain ⟨a, ha, rfl⟩ := map_at hx
    obtain ⟨env2, e, hw, hc, he⟩ := h4 j a ha
    refine ⟨env2, e, hc _ ?_⟩
    have tk : ((as.take (j + 1)).filter p).map g = ((as.take j).filter p).map g ++ if p a = true then [g a] else [] := by
      have e : as.take (j + 1) = as.take j ++ [a] := by rw [List.take_add_one, ha]; rfl
      rw [e, List.filter_append, List.map_append]
      cases hp : p a <;> simp [hp]
    cases hp : p a with
    | true =>
      rw [if_pos rfl]
      refine he hp _ fun k hk => ⟨hk, ?_, ?_, hw⟩
      · have hz : sizeLine > 100000 := by decide
        have q1 : ((as.take j).filter p).length ≤ (as.take j).length := List.length_filter_le _ _
        have q2 : (as.take j).length < as.length := by
          have := (List.getElem?_eq_some_iff.mp ha).1
          rw [List.length_take]; omega
        rw [List.length_map]; omega
      · rw [tk, if_pos hp]
    | false =>
      rw [if_neg Bool.false_ne_true]
      exact ⟨by rw [tk, if_neg (by rw [hp]; exact Bool.false_ne_true), List.append_nil], hw⟩
  · rintro acc env ⟨rfl, rfl⟩
    rw [List.take_length]
    exact h5
/-- a loop whose names are told for each turn -/
theorem for_fin {Nx Bk : DEnv → Prop} {Rt : Kd → D → DEnv → Prop} {t : T} {b : Ss} {wl : List Nat} {its : List D} {len : Nat} (as : List α) (f : α → D) (st : Nat → DEnv) (e : its = as.map f) (h0 : wipeF env1 wl = st 0)
    (h1 : ∀ (j : Nat) (a : α), as[j]? = some a → ∃ env2, tgD t (f a) (st j) = some env2 ∧ rdSs Φ b env2 { nx := fun e => wipeF e wl = st (j + 1), ct := fun e => wipeF e wl = st (j + 1), bk := Bk, rt := Rt }) (h2 : Nx (st as.length)) (hlen : len = as.length := by simp [rangeD_length]) :
    ∃ W : Nat → DEnv → Prop, W 0 (wipeF env1 wl) ∧
      (∀ j env x, its[j]? = some x → W j env → ∃ env2, tgD t x env = some env2 ∧ rdSs Φ b env2 { nx := fun e => W (j + 1) (wipeF e wl), ct := fun e => W (j + 1) (wipeF e wl), bk := Bk, rt := Rt }) ∧ ∀ env, W len env → Nx env := by
  subst e hlen
  refine ⟨fun j env => env = st j, h0, ?_, ?_⟩
  · rintro j env x hx rfl
    obtain ⟨a, ha, rfl⟩ := map_at hx
    exact h1 j a ha
  · rintro env rfl
    exact h2
/-- .. with a statement kept from turn to turn -/
theorem for_inv {Nx Bk : DEnv → Prop} {Rt : Kd → D → DEnv → Prop} {t : T} {b : Ss} {wl : List Nat} {its : List D} {len : Nat} (as : List α) (f : α → D) (W : Nat → DEnv → Prop) (e : its = as.map f) (h0 : W 0 (wipeF env1 wl))
    (h1 : ∀ (j : Nat) (a : α) (env : DEnv), as[j]? = some a → W j env → ∃ env2, tgD t (f a) env = some env2 ∧ rdSs Φ b env2 { nx := fun e => W (j + 1) (wipeF e wl), ct := fun e => W (j + 1) (wipeF e wl), bk := Bk, rt := Rt }) (h2 : ∀ env, W as.length env → Nx env) (hlen : len = as.length := by simp [rangeD_length]) :
    ∃ W : Nat → DEnv → Prop, W 0 (wipeF env1 wl) ∧
      (∀ j env x, its[j]? = some x → W j env → ∃ env2, tgD t x env = some env2 ∧ rdSs Φ b env2 { nx := fun e => W (j + 1) (wipeF e wl), ct := fun e => W (j + 1) (wipeF e wl), bk := Bk, rt := Rt }) ∧ ∀ env, W len env → Nx env := by
  subst e hlen
  refine ⟨W, h0, ?_, ?_⟩
  · rintro j env x hx hw
    obtain ⟨a, ha, rfl⟩ := map_at hx
    exact h1 j a env ha hw
  · exact h2
theorem enum_eq {f : α → D} {as : List α} : (as.map f).zipIdx.map (fun p : D × Nat => PyData.tuple [.int (p.2 : Nat), p.1]) = as.zipIdx.map fun p => .tuple [.int (p.2 : Nat), f p.1] := by
  rw [List.zipIdx_map, List.map_map]
  rfl
theorem zip_eq {f : α → D} {g : β → D} {as : List α} {bs : List β} : ((as.map f).zip (bs.map g)).map (fun p : D × D => PyData.tuple [p.1, p.2]) = (as.zip bs).map fun p => .tuple [f p.1, g p.2] := by
  rw [List.zip_map, List.map_map]
  rfl
theorem range_eq {n : Nat} : rangeD 0 n = (List.range n).map fun i => .int (i : Nat) := by
  unfold rangeD
  simp
theorem r_app3 {i : Nat} {ds : List D} {y : D} {p : Prop} {P : DEnv → Prop} (h1 : ownD env1 i = some (.list ds)) (h2 : ds.length < sizeLine) (h3 : putD env1 i (.list (ds ++ [y])) = some env2) (h : P env2) :
    (False → p) ∧ ∃ ds ds' env2, ownD env1 i = some (.list ds) ∧ mutD .append ds y = some ds' ∧ putD env1 i (.list ds') = some env2 ∧ P env2 := ⟨False.elim, ds, ds ++ [y], env2, h1, by simp only [mutD]; rw [if_pos h2], h3, h⟩
theorem r_app4 {i : Nat} {ds : List D} {y : D} {p : Prop} {P : DEnv → Prop} (h1 : ownD env1 i = some (.list ds)) (h2 : ds.length ≤ 100000) (h3 : putD env1 i (.list (ds ++ [y])) = some env2) (h : P env2) :
    (False → p) ∧ ∃ ds ds' env2, ownD env1 i = some (.list ds) ∧ mutD .append ds y = some ds' ∧ putD env1 i (.list ds') = some env2 ∧ P env2 := r_app3 h1 (Nat.lt_of_le_of_lt h2 (by decide)) h3 h
theorem r_rem3 {i : Nat} {ns : List Int} {n : Int} {p : Prop} {P : DEnv → Prop} (h1 : ownD env1 i = some (.list (ns.map .int))) (h2 : n ∈ ns) (h3 : putD env1 i (.list ((ns.erase n).map .int)) = some env2) (h : P env2) :
    (False → p) ∧ ∃ ds ds' env2, ownD env1 i = some (.list ds) ∧ mutD .remove ds (.int n) = some ds' ∧ putD env1 i (.list ds') = some env2 ∧ P env2 := ⟨False.elim, _, (ns.erase n).map .int, env2, h1, by simp only [mutD]; rw [intsOf_map]; simp [h2], h3, h⟩
theorem div_m {n : Int} (h0 : 0 < n) (h1 : n ≤ 1000000000000000000000000000000000000000000000000000000000000) : 0 < n ∧ n.natAbs.log2 < 9000 := ⟨h0, by have := log_mid1 (i := n) (by omega) h1; omega⟩
theorem eq_nil (q : List Int) : cmpD .eq (.list (q.map .int)) (.list []) = some (decide (q = [])) := by
  simp only [cmpD]
  rw [if_pos ⟨shaped_ints q, rfl⟩]
  cases q <;> simp [PyData.eqv, PyData.eqvAll]
theorem ne_nil (q : List Int) : cmpD .ne (.list (q.map .int)) (.list []) = some (!decide (q = [])) := by
  simp only [cmpD]
  rw [if_pos ⟨shaped_ints q, rfl⟩]
  cases q <;> simp [PyData.eqv, PyData.eqvAll]
theorem eqvAll_ints : ∀ a b : List Int, PyData.eqvAll (a.map .int) (b.map .int) = decide (a = b)
  | [], [] => by simp [PyData.eqvAll]
  | [], _ :: _ => by simp [PyData.eqvAll]
  | _ :: _, [] => by simp [PyData.eqvAll]
  | x :: a, y :: b => by
    rw [List.map_cons, List.map_cons]
    unfold PyData.eqvAll
    rw [eqv_int, eqvAll_ints a b]
    by_cases h : x = y <;> by_cases h2 : a = b <;> simp [h, h2]
theorem eq_ints (a b : List Int) : cmpD .eq (.list (a.map .int)) (.list (b.map .int)) = some (decide (a = b)) := by
  simp only [cmpD]
  rw [if_pos ⟨shaped_ints a, shaped_ints b⟩]
  unfold PyData.eqv
  rw [eqvAll_ints]
theorem ne_ints (a b : List Int) : cmpD .ne (.list (a.map .int)) (.list (b.map .int)) = some (!decide (a = b)) := by
  simp only [cmpD]
  rw [if_pos ⟨shaped_ints a, shaped_ints b⟩]
  unfold PyData.eqv
  rw [eqvAll_ints]
theorem at_last {q : List Int} {e : Int} (h : q.getLast? = some e) : atI (q.map PyData.int) (-1) = some (.int e) := by
  have h0 : q ≠ [] := by intro z; rw [z] at h; cases h
  have hl : 0 < q.length := List.length_pos_iff.mpr h0
  unfold atI ixN
  rw [if_neg (by omega), List.length_map, if_pos (by omega)]
  show (q.map PyData.int)[((q.length : Int) + -1).toNat]? = _
  rw [show ((q.length : Int) + -1).toNat = q.length - 1 by omega, List.getElem?_map]
  rw [List.getLast?_eq_getElem?] at h
  rw [h]; rfl
theorem at_last2 {q : List Int} (h : decide (q = []) = false) : atI (q.map PyData.int) (-1) = some (.int (q.getLastD 0)) := by
  have h0 : q ≠ [] := of_decide_eq_false h
  refine at_last ?_
  rw [List.getLastD_eq_getLast?, List.getLast?_eq_some_getLast h0]
  rfl
theorem map_nat {l : List α} {f : α → D} {i : Nat} {a : α} {n : Int} (h : l[i]? = some a) (e : n = (i : Int)) : atI (l.map f) n = some (f a) := by
  have hl := (List.getElem?_eq_some_iff.mp h).1
  subst e
  unfold atI
  rw [ixN_ok (by omega) (by rw [List.length_map]; omega)]
  show (l.map f)[((i : Int)).toNat]? = _
  rw [Int.toNat_natCast, List.getElem?_map, h]; rfl
theorem range_at {n j i : Nat} (h : (List.range n)[j]? = some i) : j < n ∧ i = j := by
  obtain ⟨h1, h2⟩ := List.getElem?_eq_some_iff.mp h
  rw [List.getElem_range] at h2
  rw [List.length_range] at h1
  exact ⟨h1, h2.symm⟩
theorem g_true {A : Prop} (h : A) : True ∧ A := ⟨trivial, h⟩
theorem flats_ints : ∀ ns : List Int, flats (ns.map .int) = true
  | [] => rfl
  | n :: ns => by
    show flats (.int n :: ns.map .int) = true
    unfold flats
    rw [flats_ints ns]
    rfl
theorem getD_mem {ns : List Int} {i : Nat} (h : i < ns.length) : ns.getD i 0 ∈ ns := by
  rw [List.getD_eq_getElem?_getD, List.getElem?_eq_getElem h]
  exact List.getElem_mem h
theorem rep_zeros (i : Int) (m : Nat) : (List.replicate m [PyData.int i]).flatten = (List.replicate m i).map .int := by
  induction m with
  | zero => rfl
  | succ m ih => rw [List.replicate_succ, List.flatten_cons, ih]; rfl
theorem b_zeros {i : Int} {n : Nat} {q : Prop} {P : Bool → D → Prop} (h1 : n ≤ 100000) (h : P true (.list ((List.replicate n i).map .int))) : ∃ t r, binD .mul (.list [.int i]) (.int (n : Int)) = some (t, r) ∧ (q ∨ shal r = true) ∧ P t r := by
  refine ⟨true, _, ?_, .inr ?_, h⟩
  · simp only [binD]
    have hz : sizeLine ≥ 100000 := by decide
    rw [if_pos ⟨by omega, by omega, by rw [Int.toNat_natCast]; simp; omega⟩, Int.toNat_natCast, rep_zeros]
  · exact flats_ints _
theorem rangeD_ints (n : Nat) : rangeD 0 n = ((List.range n).map fun i : Nat => (i : Int)).map .int := by rw [range_eq, List.map_map]; rfl
theorem filter_tt (l : List α) : (l.filter fun _ => true) = l := List.filter_eq_self.mpr fun _ _ => rfl
theorem cut_last (q : List Int) : DL.cutD (q.map .int) (some (-1)) none = q.getLast?.toList.map .int := by
  cases q with
  | nil => rfl
  | cons x r =>
    have e : x :: r = (x :: r).dropLast ++ [(x :: r).getLast (List.cons_ne_nil _ _)] := (List.dropLast_concat_getLast _).symm
    have e2 : (x :: r).getLast? = some ((x :: r).getLast (List.cons_ne_nil _ _)) := List.getLast?_eq_some_getLast _
    rw [e2]
    generalize (x :: r).getLast (List.cons_ne_nil _ _) = y at e
    generalize (x :: r).dropLast = d at e
    rw [e]
    unfold DL.cutD HT.sIx
    simp
    rw [show (-1 + ((d.length : Int) + 1)).toNat = d.length by omega]
    simp
theorem w_zip {P : Kd → List D → DEnv → Prop} {a b : E} (h : rdE Φ a env fun k x env1 => rdE Φ b env1 fun k' y env2 => (k ≠ .b ∨ b.pur = true) ∧ ∃ ds es, x = .list ds ∧ y = .list es ∧ P (if k = .b then .b else k') ((ds.zip es).map fun p => .tuple [p.1, p.2]) env2) : rdI Φ (.zip a b) env P := h
theorem g_list2 {ds es : List D} {P : List D → List D → Prop} (h : P ds es) : ∃ ds' es', PyData.list ds = .list ds' ∧ PyData.list es = .list es' ∧ P ds' es' := ⟨ds, es, rfl, rfl, h⟩
theorem biD_sorted (ns : List Int) : biD .sorted [.list (ns.map .int)] = some (true, .list ((sortI ns).map .int)) := by
  simp only [biD]
  rw [intsOf_map]
  rfl
theorem sortI_of {a b : List Int} (h : a.Perm b) (ha : a.Pairwise (· ≤ ·)) : sortI b = a := (PySem.W.os_sorted_mergeSort h ha).symm
end
end DL

/-! DL24: the texts of data. -/
namespace DL
open PySem PySem.Spec PyProof.Rows L2
mutual
/-- ints of at most sixty digits, truth values, None, lists and tuples of them -/
def okD : D → Bool
  | .none => true
  | .bool _ => true
  | .int i => decide (-(10 ^ 110) < i ∧ i < 10 ^ 110)
  | .str _ => false
  | .list ds => okDs ds
  | .tuple ds => okDs ds
  | .dict _ => false
def okDs : List D → Bool
  | [] => true
  | d :: ds => okD d && okDs ds
end
mutual
def nodes : D → Nat
  | .none => 1
  | .bool _ => 1
  | .int _ => 1
  | .str _ => 1
  | .list ds => nodesAll ds + 1
  | .tuple ds => nodesAll ds + 1
  | .dict _ => 1
def nodesAll : List D → Nat
  | [] => 0
  | d :: ds => nodes d + nodesAll ds
end
theorem int_ok {i : Int} (h : -(10 ^ 110) < i ∧ i < 10 ^ 110) : i.natAbs.log2 < 400 := by
  have e : i.natAbs < 10 ^ 110 := by omega
  have z : (10 : Nat) ^ 110 < 2 ^ 400 := by decide +kernel
  by_cases h0 : i.natAbs = 0
  · rw [h0]; decide
  · exact (Nat.log2_lt h0).mpr (by omega)
theorem int_len {i : Int} (h : -(10 ^ 110) < i ∧ i < 10 ^ 110) : (PyData.shown (.int i)).length ≤ 111 := by
  have e : i.natAbs < 10 ^ 110 := by omega
  have z := int_text_length_le10 (k := 110) (by decide) e
  show (Str.ofString (toString i)).length ≤ 111
  rw [PySem.ofString_length]
  exact z
theorem int_strOk (i : Int) : PyData.strOk (PyData.shown (.int i)) = true := by
  show (Str.ofString (toString i)).cps.all _ = true
  rw [← Array.all_toList, signs_ofString, List.all_eq_true]
  intro k hk
  obtain ⟨ch, hc, rfl⟩ := List.mem_map.mp hk
  rcases int_sign i ch hc with hd | hd
  · have := digit_range hd
    exact decide_eq_true (by omega)
  · rw [hd]; decide
theorem text_len (ts : List Str) (k : Nat) (acc : Str) (n : Nat) (h : (ts.map fun t => t.length + 2).sum ≤ n) : (textFrom k acc ts).length ≤ acc.length + n := by
  have h1 := textFrom_len_le ts k acc
  have h2 : (ts.map fun t => t.length + 2).sum = (ts.map (·.length)).sum + 2 * ts.length := by
    clear h h1
    induction ts with
    | nil => rfl
    | cons t ts ih => simp only [List.map_cons, List.sum_cons, List.length_cons, ih]; omega
  omega
mutual
theorem okD_len : ∀ {d : D}, okD d = true → d.shown.length + 2 ≤ 122 * nodes d
  | .none, _ => by decide
  | .bool b, _ => by cases b <;> decide
  | .int i, h => by
    unfold okD at h
    have := int_len (of_decide_eq_true h)
    unfold nodes
    omega
  | .str _, h => by unfold okD at h; cases h
  | .dict _, h => by unfold okD at h; cases h
  | .list ds, h => by
    unfold okD at h
    have z := okDs_len h
    unfold nodes PyData.shown listText
    have y := text_len (PyData.shownAll ds) 0 "[" _ z
    rw [str_app]
    have e1 : (("[" : Str)).length = 1 := by decide
    have e2 : (("]" : Str)).length = 1 := by decide
    omega
  | .tuple ds, h => by
    unfold okD at h
    have z := okDs_len h
    unfold nodes PyData.shown tupleText
    have e1 : (("(" : Str)).length = 1 := by decide
    have e3 : ∀ c : Bool, ((if c = true then ",)" else ")" : String) : Str).length ≤ 2 := fun c => by split <;> decide
    have e3 := e3 ((PyData.shownAll ds).length == 1)
    have e4 : (Str.join ", " (PyData.shownAll ds)).length ≤ ((PyData.shownAll ds).map fun t => t.length + 2).sum := by
      clear z e3
      generalize PyData.shownAll ds = ts
      induction ts with
      | nil => decide
      | cons t ts ih =>
        cases ts with
        | nil => show t.length ≤ _; simp
        | cons u r =>
          have h1 := join_length_add (t :: u :: r) (List.cons_ne_nil _ _)
          have h2 := join_length_add (u :: r) (List.cons_ne_nil _ _)
          have h3 : piled (t :: u :: r) = t.length + 2 + piled (u :: r) := by simp [piled]
          rw [List.map_cons, List.sum_cons]
          omega
    rw [str_app, str_app]
    omega
theorem okDs_len : ∀ {ds : List D}, okDs ds = true → ((PyData.shownAll ds).map fun t => t.length + 2).sum ≤ 122 * nodesAll ds
  | [], _ => by
    unfold PyData.shownAll nodesAll
    decide
  | d :: ds, h => by
    unfold okDs at h
    obtain ⟨h1, h2⟩ := Bool.and_eq_true_iff.mp h
    have a := okD_len h1
    have b := okDs_len h2
    unfold PyData.shownAll nodesAll
    rw [List.map_cons, List.sum_cons]
    omega
end
theorem ok_join : ∀ ts : List Str, (∀ t ∈ ts, PyData.strOk t = true) → PyData.strOk (Str.join ", " ts) = true
  | [], _ => by decide +kernel
  | [t], h => h t List.mem_cons_self
  | t :: u :: r, h => by
    have ih := ok_join (u :: r) fun x hx => h x (List.mem_cons_of_mem _ hx)
    have e : Str.join ", " (t :: u :: r) = t ++ (", " : Str) ++ Str.join ", " (u :: r) := rfl
    rw [e, ok_app, ok_app, ih, h t List.mem_cons_self]
    decide +kernel
mutual
theorem okD_str : ∀ {d : D}, okD d = true → PyData.strOk d.shown = true
  | .none, _ => by decide +kernel
  | .bool b, _ => by cases b <;> decide +kernel
  | .int i, _ => int_strOk i
  | .str _, h => by unfold okD at h; cases h
  | .dict _, h => by unfold okD at h; cases h
  | .list ds, h => by
    unfold okD at h
    unfold PyData.shown listText
    rw [ok_app, ok_text _ 0 "[" (okDs_str h) (by decide +kernel)]
    decide +kernel
  | .tuple ds, h => by
    unfold okD at h
    unfold PyData.shown tupleText
    have e3 : ∀ c : Bool, PyData.strOk ((if c = true then ",)" else ")" : String) : Str) = true := fun c => by split <;> decide +kernel
    rw [ok_app, ok_app, ok_join _ (okDs_str h), e3]
    decide +kernel
theorem okDs_str : ∀ {ds : List D}, okDs ds = true → ∀ t ∈ PyData.shownAll ds, PyData.strOk t = true
  | [], _, t, ht => by unfold PyData.shownAll at ht; cases ht
  | d :: ds, h, t, ht => by
    unfold okDs at h
    obtain ⟨h1, h2⟩ := Bool.and_eq_true_iff.mp h
    unfold PyData.shownAll at ht
    rcases List.mem_cons.mp ht with e | e
    · rw [e]; exact okD_str h1
    · exact okDs_str h2 t e
end
mutual
theorem okD_show : ∀ {d : D}, okD d = true → d.showable = true ∧ nodict d = true
  | .none, _ => ⟨rfl, rfl⟩
  | .bool b, _ => ⟨rfl, rfl⟩
  | .int i, h => by
    unfold okD at h
    have := int_ok (of_decide_eq_true h)
    exact ⟨decide_eq_true (show i.natAbs.log2 < 1920 by omega), rfl⟩
  | .str _, h => by unfold okD at h; cases h
  | .dict _, h => by unfold okD at h; cases h
  | .list ds, h => by
    unfold okD at h
    unfold PyData.showable nodict
    exact okDs_show h
  | .tuple ds, h => by
    unfold okD at h
    unfold PyData.showable nodict
    exact okDs_show h
theorem okDs_show : ∀ {ds : List D}, okDs ds = true → PyData.showableAll ds = true ∧ nodicts ds = true
  | [], _ => ⟨rfl, rfl⟩
  | d :: ds, h => by
    unfold okDs at h
    obtain ⟨h1, h2⟩ := Bool.and_eq_true_iff.mp h
    obtain ⟨a1, a2⟩ := okD_show h1
    obtain ⟨b1, b2⟩ := okDs_show h2
    unfold PyData.showableAll nodicts
    exact ⟨by rw [a1, b1]; rfl, by rw [a2, b2]; rfl⟩
end
/-- data that may be written out -/
structure Shw (d : D) : Prop where
  ok : okD d = true
  dep : d.depth ≤ 64
  few : nodes d ≤ 130000
theorem Shw.repr {d : D} (h : Shw d) : biD .repr [d] = some (false, .str d.shown) := by
  obtain ⟨a, b⟩ := okD_show h.ok
  have c := okD_len h.ok
  have hz : sizeLine ≥ 122 * 130000 := by decide
  have := h.few
  simp only [biD]
  exact if_pos ⟨a, b, h.dep, by omega⟩
theorem Shw.ne {d : D} (h : Shw d) : cmpD .ne (.str d.shown) (.str d.shown) = some false := ne_str (okD_str h.ok)
theorem eq_str {x : Str} (h : PyData.strOk x = true) : cmpD .eq (.str x) (.str x) = some true := by
  have s : SeqAt.shaped (.str x) = true := by
    unfold SeqAt.shaped PyData.canLay0 PyData.depth
    rw [h]; rfl
  simp only [cmpD]
  rw [if_pos ⟨s, s⟩]
  unfold PyData.eqv
  rw [beq_self_eq_true]
theorem Shw.eq {d : D} (h : Shw d) : cmpD .eq (.str d.shown) (.str d.shown) = some true := eq_str (okD_str h.ok)
/-- how deep, how many, and fit -/
def Sm (d : D) (k n : Nat) : Prop := okD d = true ∧ d.depth ≤ k ∧ nodes d ≤ n
theorem Sm.shw {d : D} {k n : Nat} (h : Sm d k n) (hk : k ≤ 64) (hn : n ≤ 130000) : Shw d := ⟨h.1, Nat.le_trans h.2.1 hk, Nat.le_trans h.2.2 hn⟩
def Sms (ds : List D) (k n : Nat) : Prop := okDs ds = true ∧ PyData.depthAll ds ≤ k ∧ nodesAll ds ≤ n
theorem sm_none : Sm .none 0 1 := ⟨rfl, Nat.le_refl _, Nat.le_refl _⟩
theorem sm_bool (b : Bool) : Sm (.bool b) 0 1 := ⟨rfl, Nat.le_refl _, Nat.le_refl _⟩
theorem sm_big {i : Int} (h : -(10 ^ 110) < i ∧ i < 10 ^ 110) : Sm (.int i) 0 1 := ⟨decide_eq_true h, Nat.le_refl _, Nat.le_refl _⟩
theorem sm_int {i : Int} (h : -(10 ^ 60) < i ∧ i < 10 ^ 60) : Sm (.int i) 0 1 := sm_big (by omega)
theorem sms_nil : Sms [] 0 0 := ⟨rfl, Nat.le_refl _, Nat.le_refl _⟩
theorem sms_cons {d : D} {ds : List D} {k n k' n' : Nat} (h : Sm d k n) (h' : Sms ds k' n') : Sms (d :: ds) (max k k') (n + n') := by
  refine ⟨?_, ?_, ?_⟩
  · unfold okDs; rw [h.1, h'.1]; rfl
  · unfold PyData.depthAll
    have := h.2.1
    have := h'.2.1
    omega
  · unfold nodesAll
    have := h.2.2
    have := h'.2.2
    omega
theorem sm_list {ds : List D} {k n : Nat} (h : Sms ds k n) : Sm (.list ds) (k + 1) (n + 1) := ⟨h.1, Nat.succ_le_succ h.2.1, Nat.succ_le_succ h.2.2⟩
theorem sm_tup {ds : List D} {k n : Nat} (h : Sms ds k n) : Sm (.tuple ds) (k + 1) (n + 1) := ⟨h.1, Nat.succ_le_succ h.2.1, Nat.succ_le_succ h.2.2⟩
theorem sms_map {α : Type} {f : α → D} {l : List α} {k n m : Nat} (h : ∀ a ∈ l, Sm (f a) k n) (hl : l.length ≤ m) : Sms (l.map f) k (n * m) := by
  have key : Sms (l.map f) k (n * l.length) := by
    clear hl
    induction l with
    | nil => exact ⟨rfl, Nat.zero_le _, Nat.zero_le _⟩
    | cons a l ih =>
      have z := sms_cons (h a List.mem_cons_self) (ih fun b hb => h b (List.mem_cons_of_mem _ hb))
      rw [Nat.max_self] at z
      rw [List.map_cons, List.length_cons, Nat.mul_succ, Nat.add_comm]
      exact z
  exact ⟨key.1, key.2.1, Nat.le_trans key.2.2 (Nat.mul_le_mul_left n hl)⟩
theorem ne_same (a : List Int) : cmpD .ne (.list (a.map .int)) (.list (a.map .int)) = some false := by rw [ne_ints]; simp
theorem eq_same (a : List Int) : cmpD .eq (.list (a.map .int)) (.list (a.map .int)) = some true := by rw [eq_ints]; simp
theorem ne_samei (a : Int) : cmpD .ne (.int a) (.int a) = some false := by
  simp only [cmpD]
  rw [if_pos ⟨rfl, rfl⟩, eqv_int]
  simp
theorem b_cat3 {xs ys : List D} {P : Bool → D → Prop} {q : Prop} (z : q) (l : xs.length + ys.length ≤ 100000) (h : P true (.list (xs ++ ys))) : ∃ t r, binD .add (.list xs) (.list ys) = some (t, r) ∧ (q ∨ shal r = true) ∧ P t r :=
  b_cat2 z (Nat.le_trans l (by decide)) h
end DL

/-! DL27: comprehensions with a statement kept from turn to turn; lists of numbers. -/
namespace DL
open PySem PySem.Spec PyProof.Rows L2
theorem lc_inv {α : Type} {Φ : Phi} {env1 : DEnv} {Qf : List D → DEnv → Prop} {len : Nat} {elt : E} {t : T} {cs : Es} {k : Kd} {its : List D} (as : List α) (f : α → D) (W : Nat → List D → DEnv → Prop) (e : its = as.map f) (h1 : freeD env1 t.names = true) (h2 : k ≠ .b ∨ (flats its = true ∧ elt.pur = true ∧ cs.pur = true))
    (h0 : W 0 [] (wipeD env1 t.names))
    (h : ∀ (j : Nat) (a : α) (acc : List D) (env : DEnv), as[j]? = some a → W j acc env → ∃ env2, tgD t (f a) env = some env2 ∧ rdC Φ cs env2 fun b env3 =>
          if b = true then rdE Φ elt env3 fun k d env4 => k ≠ .b ∧ acc.length < sizeLine ∧ W (j + 1) (acc ++ [d]) (wipeD env4 t.names) else W (j + 1) acc (wipeD env3 t.names))
    (h5 : ∀ acc env, W as.length acc env → Qf acc env) (hlen : len = as.length := by simp [rangeD_length]) :
    freeD env1 t.names = true ∧ (k ≠ .b ∨ (flats its = true ∧ elt.pur = true ∧ cs.pur = true)) ∧
      ∃ W : Nat → List D → DEnv → Prop, W 0 [] (wipeD env1 t.names) ∧
        (∀ j acc env x, its[j]? = some x → W j acc env → ∃ env2, tgD t x env = some env2 ∧ rdC Φ cs env2 fun b env3 =>
          if b = true then rdE Φ elt env3 fun k d env4 => k ≠ .b ∧ acc.length < sizeLine ∧ W (j + 1) (acc ++ [d]) (wipeD env4 t.names) else W (j + 1) acc (wipeD env3 t.names)) ∧
        ∀ acc env, W len acc env → Qf acc env := by
  subst e hlen
  refine ⟨h1, h2, W, h0, ?_, h5⟩
  rintro j acc env x hx hw
  obtain ⟨a, ha, rfl⟩ := map_at hx
  exact h j a acc env ha hw
theorem sum_ints (ns : List Int) : biD .sum [.list (ns.map .int)] = some (false, .int ns.sum) := by
  show (intsOf (ns.map .int)).map _ = _
  rw [intsOf_map]
  rfl
theorem rangeD_ints2 (lo : Int) (n : Nat) : rangeD lo n = ((List.range n).map fun i : Nat => lo + (i : Int)).map .int := by
  unfold rangeD
  rw [List.map_map]
  rfl
theorem idx_at {α : Type} {l : List α} {j : Nat} {p : α × Nat} (h : l.zipIdx[j]? = some p) : l[j]? = some p.1 ∧ p.2 = j := by
  rw [List.getElem?_zipIdx] at h
  obtain ⟨c, h1, h2⟩ := Option.map_eq_some_iff.mp h
  subst h2
  exact ⟨h1, by simp⟩
theorem getD_of {l : List Int} {i : Nat} (h : i < l.length) : l[i]? = some (l.getD i 0) := by
  rw [List.getD_eq_getElem?_getD, List.getElem?_eq_getElem h]; rfl
theorem take_next {α : Type} {l : List α} {j : Nat} {c : α} (h : l[j]? = some c) : l.take (j + 1) = l.take j ++ [c] := by
  rw [List.take_add_one, h]; rfl
theorem cut_pre {b : List Int} {m : Int} (h0 : 0 ≤ m) (h1 : m ≤ (b.length : Int)) : DL.cutD (b.map .int) none (some m) = (b.take m.toNat).map .int := by
  unfold DL.cutD
  have e1 : HT.sIx (b.map PyData.int).length 0 none = 0 := rfl
  rw [e1, List.drop_zero, Nat.sub_zero, List.map_take]
  congr 1
  unfold HT.sIx
  rw [List.length_map]
  simp [show ¬ m < 0 by omega]
  omega
end DL

namespace CA
open PySem PySem.Spec PyProof.Rows L2 DL
abbrev oD : Option Int → D
  | none => .none
  | some i => .int i
abbrev dI (ns : List Int) : D := .list (ns.map .int)
abbrev Cell := Int × Int × Int
abbrev dC (c : Cell) : D := .tuple [.int c.1, .int c.2.1, .int c.2.2]
abbrev dL (lot : List Cell) : D := .list (lot.map dC)
abbrev src (a b c : Int) : D := .list [.int a, .int b, .int c]
/-- before, in the order of slots and entries -/
def lt2 (x y : Cell) : Prop := x.1 < y.1 ∨ x.1 = y.1 ∧ x.2.1 < y.2.1
/-- cells as the code wants them -/
structure Lot (wide : Int) (lot : List Cell) : Prop where
  few : lot.length ≤ 60
  at0 : ∀ c ∈ lot, 0 ≤ c.1
  at1 : ∀ c ∈ lot, c.1 < 10 ^ 30
  port0 : ∀ c ∈ lot, 0 ≤ c.2.1
  port1 : ∀ c ∈ lot, c.2.1 < wide
  goal0 : ∀ c ∈ lot, 0 ≤ c.2.2
  goal1 : ∀ c ∈ lot, c.2.2 < wide
  ord : lot.Pairwise lt2
/-- leaving slots: none ahead of its cell, no two alike of one outlet -/
structure RowOk (lot : List Cell) (row : List Int) : Prop where
  len : row.length = lot.length
  low : ∀ (i : Nat) (c : Cell), lot[i]? = some c → c.1 ≤ row.getD i 0
  high : ∀ e ∈ row, e < 10 ^ 31
  one : ∀ (i j : Nat) (c d : Cell), i < j → lot[i]? = some c → lot[j]? = some d → c.2.2 = d.2.2 → row.getD i 0 ≠ row.getD j 0
/-- crossing slots -/
structure Moves (lot : List Cell) (mv : List Int) : Prop where
  len : mv.length = lot.length
  low : ∀ (i : Nat) (c : Cell), lot[i]? = some c → c.1 ≤ mv.getD i 0
  high : ∀ e ∈ mv, e < 10 ^ 31
structure Beat (b : List Int) : Prop where
  some_ : 0 < b.length
  few : b.length ≤ 40
  dig : ∀ x ∈ b, 0 ≤ x ∧ x ≤ 9
/-- an output sends wherever a cell of it is there -/
def Busy (lot : List Cell) (row : List Int) : Prop := ∀ (i : Nat) (c : Cell) (t : Int), lot[i]? = some c → c.1 ≤ t → t ≤ row.getD i 0 → ∃ (j : Nat) (d : Cell), lot[j]? = some d ∧ d.2.2 = c.2.2 ∧ row.getD j 0 = t
def Fifo (lot : List Cell) (row : List Int) : Prop := ∀ (i j : Nat) (c d : Cell), i < j → lot[i]? = some c → lot[j]? = some d → c.2.2 = d.2.2 → row.getD i 0 < row.getD j 0
def Lifo (lot : List Cell) (row : List Int) : Prop := ∀ (i j : Nat) (c d : Cell), i < j → lot[i]? = some c → lot[j]? = some d → c.2.2 = d.2.2 → d.1 ≤ row.getD i 0 → row.getD j 0 < row.getD i 0
def moved (lot : List Cell) (base : Int) : List Cell := lot.map fun c => (c.1 + base, c.2)
def isI (v : D) (lo hi : Option Int) : Bool := match v with
  | .int n => lo.all (fun l => decide (l ≤ n)) && hi.all (fun h => decide (n ≤ h))
  | _ => false
theorem isI_t {n a b : Int} (h1 : a ≤ n) (h2 : n ≤ b) : isI (.int n) (some a) (some b) = true := by
  simp only [isI, Option.all_some, Bool.and_eq_true, decide_eq_true_eq]
  exact ⟨h1, h2⟩
theorem zip_at {α β : Type} {lot : List α} {row : List β} {j : Nat} {c : α} {e : β} (h1 : lot[j]? = some c) (h2 : row[j]? = some e) : (lot.zip row)[j]? = some (c, e) := by
  rw [List.getElem?_zip_eq_some]
  exact ⟨h1, h2⟩
theorem getD_some {l : List Int} {i : Nat} {x : Int} (h : l[i]? = some x) : l.getD i 0 = x := by
  rw [List.getD_eq_getElem?_getD, h]; rfl
theorem some_at {α : Type} {l : List α} {i : Nat} (h : i < l.length) : ∃ x, l[i]? = some x := ⟨_, List.getElem?_eq_getElem h⟩
theorem at_lt {α : Type} {l : List α} {i : Nat} {x : α} (h : l[i]? = some x) : i < l.length := (List.getElem?_eq_some_iff.mp h).1
/-- what is known of leaving slots -/
def known (lot : List Cell) (row : List Int) (j : Nat) : List (List Int × D) := ((lot.zip row).take j).map fun p => ([p.1.2.2, p.2], .bool true)
theorem known_next {lot : List Cell} {row : List Int} (R : RowOk lot row) {j : Nat} {c : Cell} {e : Int} (h1 : lot[j]? = some c) (h2 : row[j]? = some e) :
    hasT (known lot row j) [c.2.2, e] = false ∧ putT (known lot row j) [c.2.2, e] (.bool true) = known lot row (j + 1) := by
  have h : hasT (known lot row j) [c.2.2, e] = false := by
    unfold hasT known
    rw [List.any_eq_false]
    rintro ⟨k, v⟩ hm
    obtain ⟨⟨d, f⟩, hp, hq⟩ := List.mem_map.mp hm
    cases hq
    obtain ⟨i, hi⟩ := List.mem_iff_getElem?.mp hp
    have hij : i < j := by
      have := (List.getElem?_eq_some_iff.mp hi).1
      rw [List.length_take] at this
      omega
    rw [List.getElem?_take_of_lt hij, List.getElem?_zip_eq_some] at hi
    intro z
    have z := of_decide_eq_true z
    simp only [List.cons.injEq, and_true] at z
    refine R.one i j d c hij hi.1 h1 z.1 ?_
    rw [List.getD_eq_getElem?_getD, List.getD_eq_getElem?_getD, hi.2, h2]
    exact z.2
  refine ⟨h, ?_⟩
  unfold putT
  rw [if_neg (by rw [h]; exact Bool.false_ne_true)]
  unfold known
  rw [take_next (zip_at h1 h2), List.map_append]
  rfl
theorem known_len (lot : List Cell) (row : List Int) (j : Nat) : (known lot row j).length ≤ lot.length := by
  unfold known
  rw [List.length_map, List.length_take, List.length_zip]
  omega
theorem cut2 (a p g : Int) : DL.cutD [.int a, .int p, .int g] none (some 2) = [.int a, .int p] := rfl
theorem lex2 {a p a' p' : Int} (h : a < a' ∨ a = a' ∧ p < p') : HT.lexLt [a, p] [a', p'] = true := by
  show (_ : Bool) = true
  rcases h with h | ⟨h, h2⟩
  · simp [HT.lexLt, h]
    left; omega
  · subst h
    simp [HT.lexLt, h2]
    omega
theorem cell_at {lot : List Cell} {i : Nat} {c : Cell} {n : Int} (h : lot[i]? = some c) (e : n = (i : Int)) : atI (lot.map dC) n = some (dC c) := by
  have hl := (List.getElem?_eq_some_iff.mp h).1
  subst e
  unfold atI
  rw [ixN_ok (by omega) (by rw [List.length_map]; omega)]
  show (lot.map dC)[((i : Int)).toNat]? = _
  rw [Int.toNat_natCast, List.getElem?_map, h]; rfl
theorem int_at {ns : List Int} {i : Nat} {x n : Int} (h : ns[i]? = some x) (e : n = (i : Int)) : atI (ns.map PyData.int) n = some (.int x) := map_nat (f := PyData.int) h e
theorem set_getD {l : List Int} {k i : Nat} {x : Int} (h : k < l.length) : (l.set k x).getD i 0 = if i = k then x else l.getD i 0 := by
  rw [List.getD_eq_getElem?_getD, List.getD_eq_getElem?_getD, List.getElem?_set]
  by_cases e : k = i
  · subst e
    simp [h]
  · rw [if_neg e, if_neg fun z => e z.symm]
/-! ### lists of cells -/
theorem ord_at {lot : List Cell} (h : lot.Pairwise lt2) {i j : Nat} {c d : Cell} (hij : i < j) (hi : lot[i]? = some c) (hj : lot[j]? = some d) : lt2 c d := by
  obtain ⟨x1, x2⟩ := List.getElem?_eq_some_iff.mp hi
  obtain ⟨y1, y2⟩ := List.getElem?_eq_some_iff.mp hj
  have z := List.pairwise_iff_getElem.mp h i j x1 y1 hij
  rwa [x2, y2] at z
theorem Lot.le {n : Int} {lot : List Cell} (L : Lot n lot) : lot.Pairwise fun x y => x.1 ≤ y.1 := L.ord.imp fun h => by
  rcases h with h | ⟨h, _⟩ <;> omega
theorem Lot.sub {n : Int} {lot lot2 : List Cell} (L : Lot n lot) (h : lot2.Sublist lot) : Lot n lot2 :=
  ⟨Nat.le_trans h.length_le L.few, fun c hc => L.at0 c (h.subset hc), fun c hc => L.at1 c (h.subset hc), fun c hc => L.port0 c (h.subset hc), fun c hc => L.port1 c (h.subset hc), fun c hc => L.goal0 c (h.subset hc), fun c hc => L.goal1 c (h.subset hc), L.ord.sublist h⟩
theorem moved_mem {lot : List Cell} {base : Int} {c : Cell} (hc : c ∈ moved lot base) : ∃ c0 ∈ lot, c = (c0.1 + base, c0.2) := by
  obtain ⟨c0, h, rfl⟩ := List.mem_map.mp hc
  exact ⟨c0, h, rfl⟩
theorem moved_len (lot : List Cell) (base : Int) : (moved lot base).length = lot.length := by unfold moved; rw [List.length_map]
theorem moved_lot {n base T : Int} {lot : List Cell} (L : Lot n lot) (h9 : ∀ c ∈ lot, c.1 ≤ T) (h0 : 0 ≤ base) (h1 : base + T < 10 ^ 30) : Lot n (moved lot base) := by
  refine ⟨by rw [moved_len]; exact L.few, fun c hc => ?_, fun c hc => ?_, fun c hc => ?_, fun c hc => ?_, fun c hc => ?_, fun c hc => ?_, ?_⟩
  all_goals first
    | (obtain ⟨c0, h2, rfl⟩ := moved_mem hc
       have := h9 c0 h2
       have := L.at0 c0 h2
       have := L.port0 c0 h2
       have := L.port1 c0 h2
       have := L.goal0 c0 h2
       have := L.goal1 c0 h2
       simp only
       omega)
    | skip
  unfold moved
  refine List.Pairwise.map _ (fun a b hab => ?_) L.ord
  unfold lt2 at hab ⊢
  rcases hab with h | ⟨h, h2⟩
  · left; show _ + _ < _ + _; omega
  · right; exact ⟨by show _ + _ = _ + _; omega, h2⟩
theorem moved_at {lot : List Cell} {base : Int} {i : Nat} {c : Cell} (h : (moved lot base)[i]? = some c) : ∃ c0, lot[i]? = some c0 ∧ c = (c0.1 + base, c0.2) := by
  unfold moved at h
  rw [List.getElem?_map] at h
  obtain ⟨c0, h1, h2⟩ := Option.map_eq_some_iff.mp h
  exact ⟨c0, h1, h2.symm⟩
theorem at_moved {lot : List Cell} {base : Int} {i : Nat} {c : Cell} (h : lot[i]? = some c) : (moved lot base)[i]? = some (c.1 + base, c.2) := by
  unfold moved
  rw [List.getElem?_map, h]; rfl
theorem moved_getD {line : List Int} {base : Int} {i : Nat} (h : i < line.length) : (line.map (· + base)).getD i 0 = line.getD i 0 + base := by
  rw [List.getD_eq_getElem?_getD, List.getD_eq_getElem?_getD, List.getElem?_map, List.getElem?_eq_getElem h]
  rfl
theorem RowOk.inn {lot : List Cell} {line : List Int} (R : RowOk lot line) {i : Nat} {c : Cell} (h : lot[i]? = some c) : i < line.length := by rw [R.len]; exact at_lt h
theorem moved_row {lot : List Cell} {line : List Int} (R : RowOk lot line) {base T : Int} (hb : ∀ e ∈ line, e ≤ T) (h0 : 0 ≤ base) (h1 : base + T < 10 ^ 31) : RowOk (moved lot base) (line.map (· + base)) := by
  refine ⟨by rw [moved_len, List.length_map]; exact R.len, fun i c h => ?_, fun e he => ?_, fun i j c d hij hi hj hg => ?_⟩
  · obtain ⟨c0, h2, rfl⟩ := moved_at h
    have := R.low i c0 h2
    rw [moved_getD (R.inn h2)]
    show c0.1 + base ≤ _
    omega
  · obtain ⟨x, hx, rfl⟩ := List.mem_map.mp he
    have := hb x hx
    omega
  · obtain ⟨c0, h2, rfl⟩ := moved_at hi
    obtain ⟨d0, h3, rfl⟩ := moved_at hj
    have := R.one i j c0 d0 hij h2 h3 hg
    rw [moved_getD (R.inn h2), moved_getD (R.inn h3)]
    omega
theorem moved_busy {lot : List Cell} {line : List Int} (R : RowOk lot line) (B : Busy lot line) (base : Int) : Busy (moved lot base) (line.map (· + base)) := by
  intro i c t hi h1 h2
  obtain ⟨c0, h3, rfl⟩ := moved_at hi
  rw [moved_getD (R.inn h3)] at h2
  obtain ⟨j, d, hj, hd, ht⟩ := B i c0 (t - base) h3 (by show c0.1 ≤ _; have : c0.1 + base ≤ t := h1; omega) (by omega)
  exact ⟨j, _, at_moved hj, hd, by rw [moved_getD (R.inn hj)]; omega⟩
theorem moved_fifo {lot : List Cell} {line : List Int} (R : RowOk lot line) (B : Fifo lot line) (base : Int) : Fifo (moved lot base) (line.map (· + base)) := by
  intro i j c d hij hi hj hg
  obtain ⟨c0, h2, rfl⟩ := moved_at hi
  obtain ⟨d0, h3, rfl⟩ := moved_at hj
  have := B i j c0 d0 hij h2 h3 hg
  rw [moved_getD (R.inn h2), moved_getD (R.inn h3)]
  omega
theorem moved_lifo {lot : List Cell} {line : List Int} (R : RowOk lot line) (B : Lifo lot line) (base : Int) : Lifo (moved lot base) (line.map (· + base)) := by
  intro i j c d hij hi hj hg ha
  obtain ⟨c0, h2, rfl⟩ := moved_at hi
  obtain ⟨d0, h3, rfl⟩ := moved_at hj
  rw [moved_getD (R.inn h2)] at ha ⊢
  have := B i j c0 d0 hij h2 h3 hg (by have : d0.1 + base ≤ _ := ha; omega)
  rw [moved_getD (R.inn h3)]
  omega
/-- what `(script + [0])[..]` is -/
theorem cut_ints (ns : List Int) (lo h : Option Int) : ∃ cs : List Int, DL.cutD (ns.map .int ++ [.int 0]) lo h = cs.map .int ∧ cs.length ≤ ns.length + 1 := by
  have e : ns.map PyData.int ++ [PyData.int 0] = (ns ++ [0]).map .int := by simp
  rw [e]
  unfold DL.cutD
  refine ⟨((ns ++ [0]).drop _).take _, by rw [List.map_take, List.map_drop], ?_⟩
  rw [List.length_take, List.length_drop, List.length_append]
  simp
  omega
end CA

namespace CA
open PySem PySem.Spec PyProof.Rows L2 DL
abbrev F_is_integer : FSpec where
  sp := fun ds post => ∃ (v : D) (lo hi : Option Int), ds = [v, oD lo, oD hi] ∧ post .none (.bool (isI v lo hi))
abbrev F_need_size : FSpec where
  sp := fun ds post => ∃ n : Int, ds = [.int n] ∧ 1 ≤ n ∧ n ≤ 8 ∧ post .none .none
abbrev F_is_cell : FSpec where
  sp := fun ds post => ∃ (n : Int) (c : Cell), ds = [.int n, dC c] ∧ 0 ≤ c.1 ∧ c.1 < 10 ^ 30 ∧ 0 ≤ c.2.1 ∧ c.2.1 < n ∧ 0 ≤ c.2.2 ∧ c.2.2 < n ∧ post .none (.bool true)
abbrev F_cells_fault : FSpec where
  sp := fun ds post => ∃ (n : Int) (lot : List Cell), ds = [.int n, dL lot] ∧ Lot n lot ∧ post .none (.tuple [])
abbrev F_need_cells : FSpec where
  sp := fun ds post => ∃ (n : Int) (lot : List Cell), ds = [.int n, dL lot] ∧ 1 ≤ n ∧ n ≤ 8 ∧ Lot n lot ∧ post .none .none
abbrev F_row_fault : FSpec where
  sp := fun ds post => ∃ (lot : List Cell) (row : List Int), ds = [dL lot, dI row] ∧ lot.length ≤ 60 ∧ (∀ c ∈ lot, 0 ≤ c.1) ∧ RowOk lot row ∧ post .none (.tuple [])
abbrev F_need_row : FSpec where
  sp := fun ds post => ∃ (n : Int) (lot : List Cell) (row : List Int), ds = [.int n, dL lot, dI row] ∧ 1 ≤ n ∧ n ≤ 8 ∧ Lot n lot ∧ RowOk lot row ∧ post .none .none
abbrev F_slots_fault : FSpec where
  sp := fun ds post => ∃ (lot : List Cell) (mv : List Int), ds = [dL lot, dI mv] ∧ lot.length ≤ 60 ∧ Moves lot mv ∧ post .none (.tuple [])
abbrev F_check_crossings : FSpec where
  sp := fun ds post => ∃ (lot : List Cell) (mv : List Int), ds = [dL lot, dI mv] ∧ lot.length ≤ 60 ∧ Moves lot mv ∧ post .none .none
abbrev F_need_crossings : FSpec where
  sp := fun ds post => ∃ (n : Int) (lot : List Cell) (mv : List Int), ds = [.int n, dL lot, dI mv] ∧ 1 ≤ n ∧ n ≤ 8 ∧ Lot n lot ∧ Moves lot mv ∧ post .none .none
abbrev F_need_port : FSpec where
  sp := fun ds post => ∃ (n p : Int), ds = [.int n, .int p] ∧ 0 ≤ p ∧ p < n ∧ post .none .none
abbrev F_need_slot : FSpec where
  sp := fun ds post => ∃ (s : Int), ds = [.int s] ∧ 0 ≤ s ∧ s < 10 ^ 31 ∧ post .none .none
abbrev F_need_number : FSpec where
  sp := fun ds post => ∃ (s lo : Int) (hi : Option Int), ds = [.int s, .int lo, oD hi] ∧ isI (.int s) (some lo) hi = true ∧ post .none .none
abbrev F_need_rhythm : FSpec where
  sp := fun ds post => ∃ b : List Int, ds = [dI b] ∧ Beat b ∧ post .none .none
abbrev F__law_source : FSpec where
  fr := true
  sp := fun ds post => ∃ c k : Int, ds = [.int c, .int k] ∧ 0 ≤ k ∧ k ≤ 100 ∧ ∀ a b : Int, 0 ≤ a → 0 ≤ b → b < 10 ^ 48 → post .none (.list [.int a, .int b, .int 0])
abbrev F__law_draw : FSpec where
  io := true
  sp := fun ds post => ∃ a b c n : Int, ds = [.list [.int a, .int b, .int c], .int n] ∧ 0 ≤ a ∧ 0 ≤ b ∧ b < 10 ^ 48 ∧ 0 ≤ c ∧ c < 10 ^ 6 ∧ 0 < n ∧ n ≤ 10 ^ 110 ∧ ∀ a' c' r : Int, 0 ≤ a' → c ≤ c' → c' ≤ c + 1 → 0 ≤ r → r < n → post (.list [.int a', .int b, .int c']) (.int r)
abbrev F__law_lot : FSpec where
  io := true
  fr := true
  sp := fun ds post => ∃ a b c n m : Int, ds = [.list [.int a, .int b, .int c], .int n, .int m] ∧ 0 ≤ a ∧ 0 ≤ b ∧ b < 10 ^ 48 ∧ 0 ≤ c ∧ c < 500000 ∧ 1 ≤ n ∧ n ≤ 8 ∧ 0 ≤ m ∧ m ≤ 40 ∧
    ∀ (a' c' : Int) (lot : List Cell), 0 ≤ a' → c ≤ c' → c' ≤ c + 2 + 30 * m → Lot n lot → (∀ x ∈ lot, x.1 < m) → post (.list [.int a', .int b, .int c']) (dL lot)
abbrev F__law_line : FSpec where
  io := true
  fr := true
  sp := fun ds post => ∃ (a b c w T : Int) (lot : List Cell), ds = [.list [.int a, .int b, .int c], dL lot, .int w] ∧ 0 ≤ a ∧ 0 ≤ b ∧ b < 10 ^ 48 ∧ 0 ≤ c ∧ c < 500000 ∧ lot.length ≤ 200 ∧ (∀ x ∈ lot, 0 ≤ x.1 ∧ x.1 ≤ T ∧ 0 ≤ x.2.2 ∧ x.2.2 < 8) ∧ (lot.Pairwise fun x y => x.1 ≤ y.1) ∧ 0 ≤ T ∧ T ≤ 1000 ∧ 0 ≤ w ∧ w ≤ 3 ∧
    ∀ (a' c' : Int) (line : List Int), 0 ≤ a' → c ≤ c' → c' ≤ c + 16 * (T + 42 + lot.length) → RowOk lot line → (∀ e ∈ line, 0 ≤ e ∧ e ≤ T + 42 + lot.length) → (w ≤ 2 → Busy lot line) → (w = 0 → Fifo lot line) → (w = 1 → Lifo lot line) → post (.list [.int a', .int b, .int c']) (dI line)
abbrev F__law_later : FSpec where
  sp := fun ds post => ∃ (lot : List Cell) (line : List Int) (base : Int), ds = [dL lot, dI line, .int base] ∧ lot.length ≤ 200 ∧ line.length ≤ 200 ∧ post .none (.tuple [dL (moved lot base), dI (line.map (· + base))])
def Ph (L : Phi) : Phi := fun x => if x = "is_integer" then F_is_integer else if x = "need_size" then F_need_size else if x = "is_cell" then F_is_cell else if x = "cells_fault" then F_cells_fault else if x = "need_cells" then F_need_cells else if x = "row_fault" then F_row_fault else if x = "need_row" then F_need_row else if x = "slots_fault" then F_slots_fault else if x = "check_crossings" then F_check_crossings else if x = "need_crossings" then F_need_crossings else if x = "need_port" then F_need_port else if x = "need_slot" then F_need_slot else if x = "need_number" then F_need_number else if x = "need_rhythm" then F_need_rhythm else if x = "_law_source" then F__law_source else if x = "_law_draw" then F__law_draw else if x = "_law_lot" then F__law_lot else if x = "_law_line" then F__law_line else if x = "_law_later" then F__law_later else L x
theorem Ph_is_integer (L : Phi) : Ph L "is_integer" = F_is_integer := rfl
theorem Ph_need_size (L : Phi) : Ph L "need_size" = F_need_size := rfl
theorem Ph_is_cell (L : Phi) : Ph L "is_cell" = F_is_cell := rfl
theorem Ph_cells_fault (L : Phi) : Ph L "cells_fault" = F_cells_fault := rfl
theorem Ph_need_cells (L : Phi) : Ph L "need_cells" = F_need_cells := rfl
theorem Ph_row_fault (L : Phi) : Ph L "row_fault" = F_row_fault := rfl
theorem Ph_need_row (L : Phi) : Ph L "need_row" = F_need_row := rfl
theorem Ph_slots_fault (L : Phi) : Ph L "slots_fault" = F_slots_fault := rfl
theorem Ph_check_crossings (L : Phi) : Ph L "check_crossings" = F_check_crossings := rfl
theorem Ph_need_crossings (L : Phi) : Ph L "need_crossings" = F_need_crossings := rfl
theorem Ph_need_port (L : Phi) : Ph L "need_port" = F_need_port := rfl
theorem Ph_need_slot (L : Phi) : Ph L "need_slot" = F_need_slot := rfl
theorem Ph_need_number (L : Phi) : Ph L "need_number" = F_need_number := rfl
theorem Ph_need_rhythm (L : Phi) : Ph L "need_rhythm" = F_need_rhythm := rfl
theorem Ph__law_source (L : Phi) : Ph L "_law_source" = F__law_source := rfl
theorem Ph__law_draw (L : Phi) : Ph L "_law_draw" = F__law_draw := rfl
theorem Ph__law_lot (L : Phi) : Ph L "_law_lot" = F__law_lot := rfl
theorem Ph__law_line (L : Phi) : Ph L "_law_line" = F__law_line := rfl
theorem Ph__law_later (L : Phi) : Ph L "_law_later" = F__law_later := rfl
theorem fr_is_integer (L : Phi) : (if (Ph L "is_integer").fr = true then Kd.t else Kd.z) = Kd.z := rfl
theorem fr_need_size (L : Phi) : (if (Ph L "need_size").fr = true then Kd.t else Kd.z) = Kd.z := rfl
theorem fr_is_cell (L : Phi) : (if (Ph L "is_cell").fr = true then Kd.t else Kd.z) = Kd.z := rfl
theorem fr_cells_fault (L : Phi) : (if (Ph L "cells_fault").fr = true then Kd.t else Kd.z) = Kd.z := rfl
theorem fr_need_cells (L : Phi) : (if (Ph L "need_cells").fr = true then Kd.t else Kd.z) = Kd.z := rfl
theorem fr_row_fault (L : Phi) : (if (Ph L "row_fault").fr = true then Kd.t else Kd.z) = Kd.z := rfl
theorem fr_need_row (L : Phi) : (if (Ph L "need_row").fr = true then Kd.t else Kd.z) = Kd.z := rfl
theorem fr_slots_fault (L : Phi) : (if (Ph L "slots_fault").fr = true then Kd.t else Kd.z) = Kd.z := rfl
theorem fr_check_crossings (L : Phi) : (if (Ph L "check_crossings").fr = true then Kd.t else Kd.z) = Kd.z := rfl
theorem fr_need_crossings (L : Phi) : (if (Ph L "need_crossings").fr = true then Kd.t else Kd.z) = Kd.z := rfl
theorem fr_need_port (L : Phi) : (if (Ph L "need_port").fr = true then Kd.t else Kd.z) = Kd.z := rfl
theorem fr_need_slot (L : Phi) : (if (Ph L "need_slot").fr = true then Kd.t else Kd.z) = Kd.z := rfl
theorem fr_need_number (L : Phi) : (if (Ph L "need_number").fr = true then Kd.t else Kd.z) = Kd.z := rfl
theorem fr_need_rhythm (L : Phi) : (if (Ph L "need_rhythm").fr = true then Kd.t else Kd.z) = Kd.z := rfl
theorem fr__law_source (L : Phi) : (if (Ph L "_law_source").fr = true then Kd.t else Kd.z) = Kd.t := rfl
theorem fr__law_draw (L : Phi) : (if (Ph L "_law_draw").fr = true then Kd.t else Kd.z) = Kd.z := rfl
theorem fr__law_lot (L : Phi) : (if (Ph L "_law_lot").fr = true then Kd.t else Kd.z) = Kd.t := rfl
theorem fr__law_line (L : Phi) : (if (Ph L "_law_line").fr = true then Kd.t else Kd.z) = Kd.t := rfl
theorem fr__law_later (L : Phi) : (if (Ph L "_law_later").fr = true then Kd.t else Kd.z) = Kd.z := rfl
end CA
namespace CA
open PySem PySem.Spec PyProof.Rows L2 DL
section
variable {L : Phi} {P : D → D → Prop} {ds : List D}
theorem st_is_integer {v : D} (lo hi : Option Int) (e : ds = [v, oD lo, oD hi]) (h : P .none (.bool (isI v lo hi))) : (Ph L "is_integer").io = false ∧ (Ph L "is_integer").sp ds P := ⟨rfl, v, lo, hi, e, h⟩
theorem st_isI2 {v : D} {a b : Int} (e : ds = [v, .int a, .int b]) (h : P .none (.bool (isI v (some a) (some b)))) : (Ph L "is_integer").io = false ∧ (Ph L "is_integer").sp ds P := ⟨rfl, v, some a, some b, e, h⟩
theorem st_isI1 {v : D} {a : Int} (e : ds = [v, .int a, .none]) (h : P .none (.bool (isI v (some a) none))) : (Ph L "is_integer").io = false ∧ (Ph L "is_integer").sp ds P := ⟨rfl, v, some a, none, e, h⟩
theorem st_isI0 {v : D} (e : ds = [v, .none, .none]) (h : P .none (.bool (isI v none none))) : (Ph L "is_integer").io = false ∧ (Ph L "is_integer").sp ds P := ⟨rfl, v, none, none, e, h⟩
theorem st_isI_t {n a b : Int} (e : ds = [.int n, .int a, .int b]) (h1 : a ≤ n) (h2 : n ≤ b) (h : P .none (.bool true)) : (Ph L "is_integer").io = false ∧ (Ph L "is_integer").sp ds P := ⟨rfl, .int n, some a, some b, e, by rw [isI_t h1 h2]; exact h⟩
theorem st_need_size {n : Int} (e : ds = [.int n]) (h1 : 1 ≤ n) (h2 : n ≤ 8) (h : P .none .none) : (Ph L "need_size").io = false ∧ (Ph L "need_size").sp ds P := ⟨rfl, n, e, h1, h2, h⟩
theorem st_is_cell {n : Int} {c : Cell} (e : ds = [.int n, dC c]) (h1 : 0 ≤ c.1 ∧ c.1 < 10 ^ 30 ∧ 0 ≤ c.2.1 ∧ c.2.1 < n ∧ 0 ≤ c.2.2 ∧ c.2.2 < n) (h : P .none (.bool true)) : (Ph L "is_cell").io = false ∧ (Ph L "is_cell").sp ds P :=
  ⟨rfl, n, c, e, h1.1, h1.2.1, h1.2.2.1, h1.2.2.2.1, h1.2.2.2.2.1, h1.2.2.2.2.2, h⟩
theorem st_cells_fault {n : Int} {lot : List Cell} (e : ds = [.int n, dL lot]) (h1 : Lot n lot) (h : P .none (.tuple [])) : (Ph L "cells_fault").io = false ∧ (Ph L "cells_fault").sp ds P := ⟨rfl, n, lot, e, h1, h⟩
theorem st_need_cells {n : Int} {lot : List Cell} (e : ds = [.int n, dL lot]) (h1 : 1 ≤ n) (h2 : n ≤ 8) (h3 : Lot n lot) (h : P .none .none) : (Ph L "need_cells").io = false ∧ (Ph L "need_cells").sp ds P := ⟨rfl, n, lot, e, h1, h2, h3, h⟩
theorem st_row_fault {lot : List Cell} {row : List Int} (e : ds = [dL lot, dI row]) (h1 : lot.length ≤ 60) (h2 : ∀ c ∈ lot, 0 ≤ c.1) (h3 : RowOk lot row) (h : P .none (.tuple [])) : (Ph L "row_fault").io = false ∧ (Ph L "row_fault").sp ds P := ⟨rfl, lot, row, e, h1, h2, h3, h⟩
theorem st_need_row {n : Int} {lot : List Cell} {row : List Int} (e : ds = [.int n, dL lot, dI row]) (h1 : 1 ≤ n) (h2 : n ≤ 8) (h3 : Lot n lot) (h4 : RowOk lot row) (h : P .none .none) : (Ph L "need_row").io = false ∧ (Ph L "need_row").sp ds P := ⟨rfl, n, lot, row, e, h1, h2, h3, h4, h⟩
theorem st_slots_fault {lot : List Cell} {row : List Int} (e : ds = [dL lot, dI row]) (h1 : lot.length ≤ 60) (h3 : Moves lot row) (h : P .none (.tuple [])) : (Ph L "slots_fault").io = false ∧ (Ph L "slots_fault").sp ds P := ⟨rfl, lot, row, e, h1, h3, h⟩
theorem st_check_crossings {lot : List Cell} {row : List Int} (e : ds = [dL lot, dI row]) (h1 : lot.length ≤ 60) (h3 : Moves lot row) (h : P .none .none) : (Ph L "check_crossings").io = false ∧ (Ph L "check_crossings").sp ds P := ⟨rfl, lot, row, e, h1, h3, h⟩
theorem st_need_crossings {n : Int} {lot : List Cell} {row : List Int} (e : ds = [.int n, dL lot, dI row]) (h1 : 1 ≤ n) (h2 : n ≤ 8) (h3 : Lot n lot) (h4 : Moves lot row) (h : P .none .none) : (Ph L "need_crossings").io = false ∧ (Ph L "need_crossings").sp ds P := ⟨rfl, n, lot, row, e, h1, h2, h3, h4, h⟩
theorem st_need_port {n p : Int} (e : ds = [.int n, .int p]) (h1 : 0 ≤ p) (h2 : p < n) (h : P .none .none) : (Ph L "need_port").io = false ∧ (Ph L "need_port").sp ds P := ⟨rfl, n, p, e, h1, h2, h⟩
theorem st_need_slot {s : Int} (e : ds = [.int s]) (h1 : 0 ≤ s) (h2 : s < 10 ^ 31) (h : P .none .none) : (Ph L "need_slot").io = false ∧ (Ph L "need_slot").sp ds P := ⟨rfl, s, e, h1, h2, h⟩
theorem st_need_number1 {s lo : Int} (e : ds = [.int s, .int lo, .none]) (h1 : lo ≤ s) (h : P .none .none) : (Ph L "need_number").io = false ∧ (Ph L "need_number").sp ds P := ⟨rfl, s, lo, none, e, by simp [isI]; exact h1, h⟩
theorem st_need_number2 {s lo hi : Int} (e : ds = [.int s, .int lo, .int hi]) (h1 : lo ≤ s) (h2 : s ≤ hi) (h : P .none .none) : (Ph L "need_number").io = false ∧ (Ph L "need_number").sp ds P := ⟨rfl, s, lo, some hi, e, isI_t h1 h2, h⟩
theorem st_need_rhythm {b : List Int} (e : ds = [dI b]) (h1 : Beat b) (h : P .none .none) : (Ph L "need_rhythm").io = false ∧ (Ph L "need_rhythm").sp ds P := ⟨rfl, b, e, h1, h⟩
theorem st__law_later {lot : List Cell} {line : List Int} {base : Int} (e : ds = [dL lot, dI line, .int base]) (h1 : lot.length ≤ 200) (h2 : line.length ≤ 200) (h : P .none (.tuple [dL (moved lot base), dI (line.map (· + base))])) : (Ph L "_law_later").io = false ∧ (Ph L "_law_later").sp ds P := ⟨rfl, lot, line, base, e, h1, h2, h⟩
theorem st__law_source {c k : Int} (e : ds = [.int c, .int k]) (h1 : 0 ≤ k) (h2 : k ≤ 100) (h : ∀ a b : Int, 0 ≤ a → 0 ≤ b → b < 10 ^ 48 → P .none (.list [.int a, .int b, .int 0])) : (Ph L "_law_source").io = false ∧ (Ph L "_law_source").sp ds P := ⟨rfl, c, k, e, h1, h2, h⟩
theorem draw_step {env : DEnv} {i : Nat} {a b c n : Int} (hs : ownD env i = some (.list [.int a, .int b, .int c])) (ha : 0 ≤ a) (hb : 0 ≤ b ∧ b < 10 ^ 48) (hc0 : 0 ≤ c) (hc : c < 10 ^ 6) (hn : 0 < n) (hn2 : n ≤ 10 ^ 110)
    (h : ∀ a' c' r : Int, 0 ≤ a' → c ≤ c' → c' ≤ c + 1 → 0 ≤ r → r < n → P (.list [.int a', .int b, .int c']) (.int r)) :
    (Ph L "_law_draw").io = true ∧ Kd.z ≠ Kd.b ∧ ∃ ns : List Int, ownD env i = some (.list (ns.map .int)) ∧ (Ph L "_law_draw").sp (.list (ns.map .int) :: [.int n]) P :=
  ⟨rfl, nz, [a, b, c], hs, a, b, c, n, rfl, ha, hb.1, hb.2, hc0, hc, hn, hn2, h⟩
theorem lot_step {env : DEnv} {i : Nat} {a b c n m : Int} (hs : ownD env i = some (.list [.int a, .int b, .int c])) (ha : 0 ≤ a) (hb : 0 ≤ b ∧ b < 10 ^ 48) (hc0 : 0 ≤ c) (hc : c < 500000) (hn : 1 ≤ n) (hn2 : n ≤ 8) (hm : 0 ≤ m) (hm2 : m ≤ 40)
    (h : ∀ (a' c' : Int) (lot : List Cell), 0 ≤ a' → c ≤ c' → c' ≤ c + 2 + 30 * m → Lot n lot → (∀ x ∈ lot, x.1 < m) → P (.list [.int a', .int b, .int c']) (dL lot)) :
    (Ph L "_law_lot").io = true ∧ Kd.z ≠ Kd.b ∧ ∃ ns : List Int, ownD env i = some (.list (ns.map .int)) ∧ (Ph L "_law_lot").sp (.list (ns.map .int) :: [.int n, .int m]) P :=
  ⟨rfl, nz, [a, b, c], hs, a, b, c, n, m, rfl, ha, hb.1, hb.2, hc0, hc, hn, hn2, hm, hm2, h⟩
/-- a line for cells as the code wants them -/
theorem line_step {env : DEnv} {i : Nat} {a b c n w : Int} {lot : List Cell} (T : Int) (hs : ownD env i = some (.list [.int a, .int b, .int c])) (ha : 0 ≤ a) (hb : 0 ≤ b ∧ b < 10 ^ 48) (hc0 : 0 ≤ c) (hc : c < 500000) (Lo : Lot n lot) (hn : n ≤ 8) (hT : ∀ x ∈ lot, x.1 ≤ T) (hT0 : 0 ≤ T) (hT1 : T ≤ 1000) (hw : 0 ≤ w) (hw2 : w ≤ 3)
    (h : ∀ (a' c' : Int) (line : List Int), 0 ≤ a' → c ≤ c' → c' ≤ c + 16 * (T + 42 + 60) → RowOk lot line → (∀ e ∈ line, 0 ≤ e ∧ e ≤ T + 42 + 60) → (w ≤ 2 → Busy lot line) → (w = 0 → Fifo lot line) → (w = 1 → Lifo lot line) → P (.list [.int a', .int b, .int c']) (dI line)) :
    (Ph L "_law_line").io = true ∧ Kd.z ≠ Kd.b ∧ ∃ ns : List Int, ownD env i = some (.list (ns.map .int)) ∧ (Ph L "_law_line").sp (.list (ns.map .int) :: [dL lot, .int w]) P := by
  have few := Lo.few
  refine ⟨rfl, nz, [a, b, c], hs, a, b, c, w, T, lot, rfl, ha, hb.1, hb.2, hc0, hc, by omega, fun x hx => ?_, Lo.le, hT0, hT1, hw, hw2, fun a' c' line h1 h2 h3 h4 h5 h6 h7 h8 => h a' c' line h1 h2 (by omega) h4 (fun e he => ?_) h6 h7 h8⟩
  · have := Lo.at0 x hx
    have := hT x hx
    have := Lo.goal0 x hx
    have := Lo.goal1 x hx
    omega
  · have := h5 e he
    omega
end
end CA

namespace CA
open PySem PySem.Spec PyProof.Rows L2 DL
set_option hygiene false
local macro_rules | `(tactic| and_intros) => `(tactic| (repeat' (first|((with_reducible show rdE _ _ _ _); (first|(with_reducible refine e_int ?_)|(with_reducible refine e_bl ?_)|(with_reducible refine e_non ?_)|(with_reducible refine e_str ?_)|(with_reducible refine e_gi ?_)|(with_reducible refine e_tup ?_)|(with_reducible refine e_lst ?_)|(with_reducible refine e_bin ?_)|(with_reducible refine e_neg ?_)|(with_reducible refine e_cmp ?_)|(with_reducible refine e_chain ?_)|(with_reducible refine e_not ?_)|(with_reducible refine e_ands ?_)|(with_reducible refine e_ors ?_)|(with_reducible refine e_ife ?_)|(with_reducible refine e_idx ?_)|(with_reducible refine e_call ?_)|(with_reducible refine e_callk ?_)|(with_reducible refine e_bi ?_)|(with_reducible refine e_ist ?_)|(with_reducible refine e_lrng1 ?_)|(with_reducible refine e_lrng2 ?_)|(with_reducible refine e_sset ?_)|(with_reducible refine e_dnewT ?_)|(with_reducible refine e_dinT ?_)|(with_reducible refine e_rev ?_)|(with_reducible refine e_cat ?_)|(with_reducible refine e_cat2 ?_)|(with_reducible refine e_mt ?_)|(with_reducible refine e_sl ?_)|((first|(with_reducible refine e_isN ?_)|(with_reducible refine e_notN ?_)) <;> try simp only [fr_is_integer, fr_need_size, fr_is_cell, fr_cells_fault, fr_need_cells, fr_row_fault, fr_need_row, fr_slots_fault, fr_check_crossings, fr_need_crossings, fr_need_port, fr_need_slot, fr_need_number, fr_need_rhythm, fr__law_source, fr__law_draw, fr__law_lot, fr__law_line, fr__law_later, reduceCtorEq, Bool.false_eq_true, if_false, if_true, kdOf_z, kdOf_t, kdOf_int, kdOf_bool, kdOf_str, kdOf_none, List.length_map, backD_wipe, Int.toNat_natCast, Int.reduceEq, Int.reduceLT, Int.reduceLE, decide_true, decide_false, Int.reduceSub, Int.reduceNeg, Int.reduceToNat, Int.reducePow, Int.reduceAdd, Int.reduceMul, Bool.not_true, Bool.not_false, isNonD_int, isNonD_bool, isNonD_str, isNonD_list, isNonD_tup, isNonD_none, List.set_cons_zero, List.set_cons_succ])|((with_reducible show rdE _ (.var _) _ _); refine e_frz rfl ?_)|((with_reducible show rdE _ (.var _) _ _); refine e_own rfl ?_)|((with_reducible show rdE _ (.var _) _ _); refine e_io rfl ?_)|((with_reducible show rdE _ (.mv _) _ _); refine e_mv rfl ?_)|((with_reducible show rdE _ (.idxv _ _) _ _); refine e_idxv rfl ?_)|((with_reducible show rdE _ (.callio _ _ _) _ _); refine e_callio rfl ?_)))|((with_reducible show rdSs _ _ _ _); (first|(with_reducible refine r_cons ?_)|(with_reducible refine r_nil ?_)))|((with_reducible show rdS _ _ _ _); (first|(with_reducible refine r_asgF ?_)|(with_reducible refine r_asgT ?_)|(with_reducible refine r_ret ?_)|(with_reducible refine r_retN ?_)|(with_reducible refine r_expr ?_)|(with_reducible refine r_iff ?_)|(with_reducible refine r_brk ?_)|(with_reducible refine r_cont ?_)|(with_reducible refine r_pas ?_)|(with_reducible refine r_asgTs ?_)|((with_reducible show rdS _ (.setv _ _ _) _ _); refine r_setv rfl ?_)|((with_reducible show rdS _ (.mut _ _ _) _ _); refine r_mut ⟨_, rfl⟩ ?_)|((with_reducible show rdS _ (.dputT _ _ _) _ _); refine r_dputT rfl ?_)|((with_reducible show rdS _ (.aug _ _ _) _ _); refine r_aug rfl ?_)|(with_reducible refine r_par ?_)))|((with_reducible show rdEs _ _ _ _); (first|(with_reducible refine s_nil ?_)|(with_reducible refine s_cons ?_)))|((with_reducible show rdAnd _ _ _ _); (first|(with_reducible refine a_two ?_)|(with_reducible refine a_one ?_)))|((with_reducible show rdOr _ _ _ _); (first|(with_reducible refine o_two ?_)|(with_reducible refine o_one ?_)))|((with_reducible show rdI _ _ _ _); (first|(with_reducible refine w_lst ?_)|(with_reducible refine w_tup ?_)|(with_reducible refine w_rng1 ?_)|(with_reducible refine w_rng2 ?_)|(with_reducible refine w_enum ?_)|(with_reducible refine w_zip ?_)))|((with_reducible show rdC _ _ _ _); (first|(with_reducible refine c_nil ?_)|(with_reducible refine c_one ?_)))|((with_reducible show rdO _ _ _ _); (first|(with_reducible refine o_no ?_)|(with_reducible refine o_so ?_)))|((with_reducible show rdPs _ _ _ _ _); (first|(with_reducible refine r_psN ?_)|(with_reducible refine r_psF ?_)|(with_reducible refine r_psT ?_)|((with_reducible show rdPs _ _ (List.map _ _) _ _); simp only [List.map_cons, List.map_nil])))|((with_reducible show ∃ t, truthD _ = some t ∧ _); (first|(with_reducible refine r_tn ?_)|((with_reducible show ∃ t, truthD _ = some t ∧ _); simp only [isNonD_int, isNonD_bool, isNonD_str, isNonD_list, isNonD_tup, isNonD_none, Bool.not_true, Bool.not_false])|(with_reducible refine r_tT ?_)|(with_reducible refine r_tF ?_)|(with_reducible refine r_tbA (by assumption) ?_)|(with_reducible refine r_tbB (by assumption) ?_)|(with_reducible refine r_tb (fun hb => ?_) (fun hb => ?_))|((with_reducible refine r_not ?_); try simp only [Bool.not_true, Bool.not_false])))|((with_reducible show ∃ r, cmpD _ _ _ = some r ∧ _); (first|((first|(with_reducible refine g_ex (by assumption) ?_)) <;> try simp only [fr_is_integer, fr_need_size, fr_is_cell, fr_cells_fault, fr_need_cells, fr_row_fault, fr_need_row, fr_slots_fault, fr_check_crossings, fr_need_crossings, fr_need_port, fr_need_slot, fr_need_number, fr_need_rhythm, fr__law_source, fr__law_draw, fr__law_lot, fr__law_line, fr__law_later, reduceCtorEq, Bool.false_eq_true, if_false, if_true, kdOf_z, kdOf_t, kdOf_int, kdOf_bool, kdOf_str, kdOf_none, List.length_map, backD_wipe, Int.toNat_natCast, Int.reduceEq, Int.reduceLT, Int.reduceLE, decide_true, decide_false, Int.reduceSub, Int.reduceNeg, Int.reduceToNat, Int.reducePow, Int.reduceAdd, Int.reduceMul, Bool.not_true, Bool.not_false, isNonD_int, isNonD_bool, isNonD_str, isNonD_list, isNonD_tup, isNonD_none, List.set_cons_zero, List.set_cons_succ])|(with_reducible refine g_ex (ne_same _) ?_)|(with_reducible refine g_ex (eq_same _) ?_)|(with_reducible refine g_ex (ne_samei _) ?_)|(with_reducible refine g_ex (Shw.ne (by assumption)) ?_)|(with_reducible refine g_ex (Shw.eq (by assumption)) ?_)|(refine g_ex inn_ints ?_)|(refine g_ex (ne_nil _) ?_)|(with_reducible refine g_ex CA.nin_ints ?_)|(with_reducible refine g_ex (CA.ne_nilP _) ?_)|(with_reducible refine g_ex CA.inn_pairs2 ?_)|(with_reducible refine g_ex CA.nin_pairs2 ?_)|(refine g_ex (eq_nil _) ?_)|(refine g_ex (eq_ints _ _) ?_)|(refine g_ex (ne_ints _ _) ?_)|(refine g_ex rfl ?_)))|((with_reducible show ∃ t r, biD _ _ = some (t, r) ∧ _); (first|((first|(refine e_istE rfl ?_)|((with_reducible refine bi_F (by assumption) (Or.inl nz) ?_))|((with_reducible refine bi_F (sum_ints _) (Or.inl nz) ?_))|((with_reducible refine bi_F (sum_ints _) (Or.inl nt) ?_))|((with_reducible refine bi_T (biD_sorted _) (Or.inl nz) ?_))|((with_reducible show ∃ t r, biD .max [.list _] = some (t, r) ∧ _); refine bi_F (CA.biD_max _ _) (Or.inl nz) ?_)|((with_reducible show ∃ t r, biD .any [.list (List.map PyData.bool _)] = some (t, r) ∧ _); refine bi_F (CA.biD_any _) (.inr rfl) ?_)|((with_reducible refine bi_T (biD_sorted _) (Or.inl nt) ?_))|((with_reducible refine bi_F (Shw.repr (by assumption)) (Or.inl nz) ?_))|((with_reducible refine bi_F (Shw.repr (by assumption)) (Or.inl nt) ?_))|((with_reducible refine bi_F (Shw.repr (by assumption)) (.inr rfl) ?_))|(refine bi_F rfl (Or.inl nz) ?_)|(refine bi_F rfl (Or.inl nt) ?_)|(refine bi_F rfl (.inr rfl) ?_)) <;> try simp only [fr_is_integer, fr_need_size, fr_is_cell, fr_cells_fault, fr_need_cells, fr_row_fault, fr_need_row, fr_slots_fault, fr_check_crossings, fr_need_crossings, fr_need_port, fr_need_slot, fr_need_number, fr_need_rhythm, fr__law_source, fr__law_draw, fr__law_lot, fr__law_line, fr__law_later, reduceCtorEq, Bool.false_eq_true, if_false, if_true, kdOf_z, kdOf_t, kdOf_int, kdOf_bool, kdOf_str, kdOf_none, List.length_map, backD_wipe, Int.toNat_natCast, Int.reduceEq, Int.reduceLT, Int.reduceLE, decide_true, decide_false, Int.reduceSub, Int.reduceNeg, Int.reduceToNat, Int.reducePow, Int.reduceAdd, Int.reduceMul, Bool.not_true, Bool.not_false, isNonD_int, isNonD_bool, isNonD_str, isNonD_list, isNonD_tup, isNonD_none, List.set_cons_zero, List.set_cons_succ])))|((with_reducible show Exists _); (first|(with_reducible refine g_int ?_)|(with_reducible refine g_int2 ?_)|(with_reducible refine g_list ?_)|(with_reducible refine g_list2 ?_)|(with_reducible refine g_tup ?_)|((first|((with_reducible show ∃ t r, binD .add (.list _) (.list _) = some (t, r) ∧ _); refine b_cat3 (by constructor <;> (first|exact nz|exact nt)) (by simp [rangeD_length]; omega) ?_)|((with_reducible show ∃ t r, binD .mul (.list [.int _]) (.int _) = some (t, r) ∧ _); refine b_zeros (by omega) ?_)) <;> try simp only [fr_is_integer, fr_need_size, fr_is_cell, fr_cells_fault, fr_need_cells, fr_row_fault, fr_need_row, fr_slots_fault, fr_check_crossings, fr_need_crossings, fr_need_port, fr_need_slot, fr_need_number, fr_need_rhythm, fr__law_source, fr__law_draw, fr__law_lot, fr__law_line, fr__law_later, reduceCtorEq, Bool.false_eq_true, if_false, if_true, kdOf_z, kdOf_t, kdOf_int, kdOf_bool, kdOf_str, kdOf_none, List.length_map, backD_wipe, Int.toNat_natCast, Int.reduceEq, Int.reduceLT, Int.reduceLE, decide_true, decide_false, Int.reduceSub, Int.reduceNeg, Int.reduceToNat, Int.reducePow, Int.reduceAdd, Int.reduceMul, Bool.not_true, Bool.not_false, isNonD_int, isNonD_bool, isNonD_str, isNonD_list, isNonD_tup, isNonD_none, List.set_cons_zero, List.set_cons_succ])|((with_reducible show ∃ env2, tgD (.tp (.cons _ (.cons _ .nil))) _ _ = some env2 ∧ _); refine r_some (tg2_fz (by decide) rfl (by first|exact fz_un|exact fz_frz|assumption) rfl (by first|exact fz_un|exact fz_frz|assumption)) ?_)|(refine r_some rfl ?_)|(refine r_some (asg_fz rfl (by assumption)) ?_)|(refine r_some (asgt_fz rfl (by assumption)) ?_)|(refine r_some (asgo_ni rfl (by assumption)) ?_)|(refine r_augE rfl rfl ?_)|(refine r_put2 rfl rfl rfl ?_)|((first|(refine i_list rfl rfl ?_)|(refine i_list rfl (at_last (by assumption)) ?_)|(refine i_list rfl (at_last2 (by assumption)) ?_)|(refine i_list rfl (map_nat (by assumption) (by omega)) ?_)|(refine i_list rfl (atI_ints (by omega) (by omega)) ?_)|(refine i_list rfl (atI_ints ?_ ?_) ?_)|(refine i_tup rfl rfl ?_)) <;> try simp only [fr_is_integer, fr_need_size, fr_is_cell, fr_cells_fault, fr_need_cells, fr_row_fault, fr_need_row, fr_slots_fault, fr_check_crossings, fr_need_crossings, fr_need_port, fr_need_slot, fr_need_number, fr_need_rhythm, fr__law_source, fr__law_draw, fr__law_lot, fr__law_line, fr__law_later, reduceCtorEq, Bool.false_eq_true, if_false, if_true, kdOf_z, kdOf_t, kdOf_int, kdOf_bool, kdOf_str, kdOf_none, List.length_map, backD_wipe, Int.toNat_natCast, Int.reduceEq, Int.reduceLT, Int.reduceLE, decide_true, decide_false, Int.reduceSub, Int.reduceNeg, Int.reduceToNat, Int.reducePow, Int.reduceAdd, Int.reduceMul, Bool.not_true, Bool.not_false, isNonD_int, isNonD_bool, isNonD_str, isNonD_list, isNonD_tup, isNonD_none, List.set_cons_zero, List.set_cons_succ])))|((with_reducible show _ ∧ _); (first|((with_reducible show (CA.Ph _ _).io = false ∧ _); (first|((with_reducible show (CA.Ph _ "is_integer").io = false ∧ _); first|(refine CA.st_isI_t rfl (by first|assumption|omega) (by first|assumption|omega) ?_)|(refine CA.st_isI2 rfl  ?_)|(refine CA.st_isI1 rfl  ?_)|(refine CA.st_isI0 rfl  ?_))|((with_reducible show (CA.Ph _ "need_size").io = false ∧ _); first|(refine CA.st_need_size rfl (by first|assumption|omega) (by first|assumption|omega) ?_))|((with_reducible show (CA.Ph _ "need_port").io = false ∧ _); first|(refine CA.st_need_port rfl (by first|assumption|omega) (by first|assumption|omega) ?_))|((with_reducible show (CA.Ph _ "need_slot").io = false ∧ _); first|(refine CA.st_need_slot rfl (by first|assumption|omega) (by first|assumption|omega) ?_))|((with_reducible show (CA.Ph _ "need_number").io = false ∧ _); first|(refine CA.st_need_number2 rfl (by first|assumption|omega) (by first|assumption|omega) ?_)|(refine CA.st_need_number1 rfl (by first|assumption|omega) ?_))|((with_reducible show (CA.Ph _ "cells_fault").io = false ∧ _); first|(refine CA.st_cells_fault rfl (by first|assumption|omega) ?_))|((with_reducible show (CA.Ph _ "need_cells").io = false ∧ _); first|(refine CA.st_need_cells rfl (by first|assumption|omega) (by first|assumption|omega) (by first|assumption|omega) ?_))|((with_reducible show (CA.Ph _ "row_fault").io = false ∧ _); first|(refine CA.st_row_fault rfl (by first|assumption|omega) (by first|assumption|omega) (by first|assumption|omega) ?_))|((with_reducible show (CA.Ph _ "need_row").io = false ∧ _); first|(refine CA.st_need_row rfl (by first|assumption|omega) (by first|assumption|omega) (by first|assumption|omega) (by first|assumption|omega) ?_))|((with_reducible show (CA.Ph _ "slots_fault").io = false ∧ _); first|(refine CA.st_slots_fault rfl (by first|assumption|omega) (by first|assumption|omega) ?_))|((with_reducible show (CA.Ph _ "check_crossings").io = false ∧ _); first|(refine CA.st_check_crossings rfl (by first|assumption|omega) (by first|assumption|omega) ?_))|((with_reducible show (CA.Ph _ "need_crossings").io = false ∧ _); first|(refine CA.st_need_crossings rfl (by first|assumption|omega) (by first|assumption|omega) (by first|assumption|omega) (by first|assumption|omega) ?_))|((with_reducible show (CA.Ph _ "need_rhythm").io = false ∧ _); first|(refine CA.st_need_rhythm rfl (by first|assumption|omega) ?_))|((with_reducible show (CA.Ph _ "_law_later").io = false ∧ _); first|(refine CA.st__law_later rfl (by first|assumption|omega) (by first|assumption|omega) ?_))|((with_reducible show (CA.Ph _ "pairings_in").io = false ∧ _); first|(refine CR.st_pairings_in rfl (by first|assumption|omega) (by first|assumption|omega) (by first|assumption|omega) (by first|assumption|omega) ?_))|((with_reducible show (CA.Ph _ "unsure").io = false ∧ _); first|(refine CR.st_unsure rfl (by first|assumption|omega) (by first|assumption|omega) (by first|assumption|omega) (by first|assumption|omega) (by first|assumption|omega) ?_))|((with_reducible show (CA.Ph _ "cells_to").io = false ∧ _); first|(refine CB.st_cells_to rfl (by first|assumption|omega) ?_))|((with_reducible show (CA.Ph _ "sending_slots").io = false ∧ _); first|(refine CB.st_sending_slots rfl (by first|assumption|omega) ?_))|((with_reducible show (CA.Ph _ "outlets_of").io = false ∧ _); first|(refine CB.st_outlets_of rfl (by first|assumption|omega) (by first|assumption|omega) ?_))|((with_reducible show (CA.Ph _ "is_busy_row").io = false ∧ _); first|(refine CB.st_is_busy_row rfl (by first|assumption|omega) (by first|assumption|omega) (by first|assumption|omega) (by first|assumption|omega) ?_))|((with_reducible show (CA.Ph _ "need_busy").io = false ∧ _); first|(refine CB.st_need_busy rfl (by first|assumption|omega) (by first|assumption|omega) (by first|assumption|omega) (by first|assumption|omega) (by first|assumption|omega) ?_))|((with_reducible show (CA.Ph _ "own_slots").io = false ∧ _); first|(refine CB.st_own_slots rfl (by first|assumption|omega) ?_))|((with_reducible show (CA.Ph _ "first_row").io = false ∧ _); first|(refine CB.st_first_row rfl (by first|assumption|omega) (by first|assumption|omega) (by first|assumption|omega) (by first|assumption|omega) ?_))|((with_reducible show (CA.Ph _ "_law_there").io = false ∧ _); first|(refine CB.st__law_there rfl (by first|assumption|omega) (by first|assumption|omega) (by first|assumption|omega) (by first|assumption|omega) ?_))|((with_reducible show (CA.Ph _ "resting").io = false ∧ _); first|(refine K02.st_resting rfl (by first|assumption|omega) (by first|assumption|omega) (by first|assumption|omega) (by first|assumption|omega) (by first|assumption|omega) ?_))|((with_reducible show (CA.Ph _ "is_busy").io = false ∧ _); first|(refine K02.st_is_busy rfl (by first|assumption|omega) (by first|assumption|omega) (by first|assumption|omega) (by first|assumption|omega) (by first|assumption|omega) ?_))|((with_reducible show (CA.Ph _ "stays").io = false ∧ _); first|(refine K02.st_stays rfl (by first|assumption|omega) (by first|assumption|omega) (by first|assumption|omega) (by first|assumption|omega) ?_))|((with_reducible show (CA.Ph _ "_law_rest").io = false ∧ _); first|(refine K02.st__law_rest rfl (by first|assumption|omega) (by first|assumption|omega) (by first|assumption|omega) (by first|assumption|omega) (by first|assumption|omega) (by first|assumption|omega) (by first|assumption|omega) (by first|assumption|omega) ?_))|((with_reducible show (CA.Ph _ "_law_told_right").io = false ∧ _); first|(refine K02.st__law_told_right rfl (by first|assumption|omega) (by first|assumption|omega) (by first|assumption|omega) (by first|assumption|omega) (by first|assumption|omega) ?_))|((with_reducible show (CA.Ph _ "law").io = false ∧ _); first|(refine K02.st_law rfl (by first|assumption|omega) ?_))))|((with_reducible show (False → _) ∧ ∃ ds ds' env2, ownD _ _ = some (.list ds) ∧ mutD .append ds _ = some ds' ∧ _); refine r_app4 rfl (by simp; omega) rfl ?_)|((with_reducible show (False → _) ∧ ∃ ds ds' env2, ownD _ _ = some (.list ds) ∧ mutD .append ds _ = some ds' ∧ _); refine r_app4 rfl ?_ rfl ?_)|((first|(with_reducible refine c_lt ?_)|(with_reducible refine c_le ?_)|(with_reducible refine c_gt ?_)|(with_reducible refine c_ge ?_)|(with_reducible refine c_eq ?_)|(with_reducible refine c_ne ?_)|(with_reducible refine b_add ?_)|(with_reducible refine b_sub ?_)|(refine g_rng (by unfold okRng; omega) ?_)|((with_reducible show (Kd.z ≠ _ ∨ _) ∧ ∃ t r, binD _ (.int _) (.int _) = some (t, r) ∧ _); refine b_mul (log_small (by omega) (by omega)) ?_)|((with_reducible show (Kd.z ≠ _ ∨ _) ∧ ∃ t r, binD _ (.int _) (.int _) = some (t, r) ∧ _); refine b_mul (log_mid (by omega) (by omega) (by omega) (by omega)) ?_)|((with_reducible show (Kd.z ≠ _ ∨ _) ∧ ∃ t r, binD _ (.int _) (.int _) = some (t, r) ∧ _); refine b_mod (by omega) ?_)|((with_reducible show (Kd.z ≠ _ ∨ _) ∧ ∃ t r, binD _ (.int _) (.int _) = some (t, r) ∧ _); refine b_div (div_c (by omega) (by omega)) ?_)|((with_reducible show (Kd.z ≠ _ ∨ _) ∧ ∃ t r, binD _ (.int _) (.int _) = some (t, r) ∧ _); refine b_div ⟨by omega, by decide⟩ ?_)|((with_reducible show (Kd.z ≠ _ ∨ _) ∧ ∃ t r, binD _ (.int _) (.int _) = some (t, r) ∧ _); refine b_div (div_m (by omega) (by omega)) ?_)|((with_reducible show (Kd.z ≠ _ ∨ _) ∧ ∃ t r, binD _ (.int _) (.int _) = some (t, r) ∧ _); refine b_pow (by decide) ?_)|((with_reducible show (Kd.z ≠ _ ∨ _) ∧ ∃ t r, binD _ (.int _) (.int _) = some (t, r) ∧ _); refine b_pow (pow_mid (by omega) (by omega) (by omega) (by omega)) ?_)|((with_reducible refine b_mul ?_ ?_))|((with_reducible refine b_mod ?_ ?_))|((with_reducible refine b_div ?_ ?_))|((with_reducible refine b_pow ?_ ?_))|((with_reducible refine g_rng ?_ ?_))) <;> try simp only [fr_is_integer, fr_need_size, fr_is_cell, fr_cells_fault, fr_need_cells, fr_row_fault, fr_need_row, fr_slots_fault, fr_check_crossings, fr_need_crossings, fr_need_port, fr_need_slot, fr_need_number, fr_need_rhythm, fr__law_source, fr__law_draw, fr__law_lot, fr__law_line, fr__law_later, reduceCtorEq, Bool.false_eq_true, if_false, if_true, kdOf_z, kdOf_t, kdOf_int, kdOf_bool, kdOf_str, kdOf_none, List.length_map, backD_wipe, Int.toNat_natCast, Int.reduceEq, Int.reduceLT, Int.reduceLE, decide_true, decide_false, Int.reduceSub, Int.reduceNeg, Int.reduceToNat, Int.reducePow, Int.reduceAdd, Int.reduceMul, Bool.not_true, Bool.not_false, isNonD_int, isNonD_bool, isNonD_str, isNonD_list, isNonD_tup, isNonD_none, List.set_cons_zero, List.set_cons_succ])|(refine e_chainE rfl (fun hb => ?_) (fun hb => ?_))|(with_reducible refine g_true ?_)|((first|(refine e_idxE (Or.inl nt) rfl ?_)|(refine e_idxE (Or.inl nz) rfl ?_)|(refine g_len (Nat.le_of_ble_eq_true rfl) ?_)|(with_reducible refine g_nbz ?_)|(with_reducible refine g_nbt ?_)|(with_reducible refine g_oz ?_)|(with_reducible refine g_ot ?_)|(with_reducible refine g_eqt ?_)|((with_reducible show (_ ∨ _ = true ∧ _ = true) ∧ _); refine And.intro (.inr ⟨rfl, rfl⟩) ?_)|((with_reducible show (_ ∨ flats (List.map PyData.int _) = true) ∧ _); refine And.intro (.inr (flats_ints _)) ?_)|(refine g_pur rfl ?_)) <;> try simp only [fr_is_integer, fr_need_size, fr_is_cell, fr_cells_fault, fr_need_cells, fr_row_fault, fr_need_row, fr_slots_fault, fr_check_crossings, fr_need_crossings, fr_need_port, fr_need_slot, fr_need_number, fr_need_rhythm, fr__law_source, fr__law_draw, fr__law_lot, fr__law_line, fr__law_later, reduceCtorEq, Bool.false_eq_true, if_false, if_true, kdOf_z, kdOf_t, kdOf_int, kdOf_bool, kdOf_str, kdOf_none, List.length_map, backD_wipe, Int.toNat_natCast, Int.reduceEq, Int.reduceLT, Int.reduceLE, decide_true, decide_false, Int.reduceSub, Int.reduceNeg, Int.reduceToNat, Int.reducePow, Int.reduceAdd, Int.reduceMul, Bool.not_true, Bool.not_false, isNonD_int, isNonD_bool, isNonD_str, isNonD_list, isNonD_tup, isNonD_none, List.set_cons_zero, List.set_cons_succ])|((with_reducible show _ ≤ 1000000 ∧ _); refine And.intro (by omega) ?_)|((with_reducible show _ ≤ 100000 ∧ _); refine And.intro (by (try simp); omega) ?_)|((first|((with_reducible show (CA.Ph _ "_law_draw").io = true ∧ _); refine CA.draw_step rfl (by assumption) ⟨by assumption, by assumption⟩ (by omega) (by omega) (by omega) (by omega) fun a c r ha hc hc' hr hr' => ⟨_, rfl, ?_⟩)) <;> try simp only [fr_is_integer, fr_need_size, fr_is_cell, fr_cells_fault, fr_need_cells, fr_row_fault, fr_need_row, fr_slots_fault, fr_check_crossings, fr_need_crossings, fr_need_port, fr_need_slot, fr_need_number, fr_need_rhythm, fr__law_source, fr__law_draw, fr__law_lot, fr__law_line, fr__law_later, reduceCtorEq, Bool.false_eq_true, if_false, if_true, kdOf_z, kdOf_t, kdOf_int, kdOf_bool, kdOf_str, kdOf_none, List.length_map, backD_wipe, Int.toNat_natCast, Int.reduceEq, Int.reduceLT, Int.reduceLE, decide_true, decide_false, Int.reduceSub, Int.reduceNeg, Int.reduceToNat, Int.reducePow, Int.reduceAdd, Int.reduceMul, Bool.not_true, Bool.not_false, isNonD_int, isNonD_bool, isNonD_str, isNonD_list, isNonD_tup, isNonD_none, List.set_cons_zero, List.set_cons_succ])|((with_reducible show _ = _ ∧ (CA.Ph _ _).io = false ∧ _); refine And.intro rfl ?_; simp only [DL.pick, List.filterMap_cons, List.filterMap_nil, List.getElem?_cons_zero, List.getElem?_cons_succ])))|(with_reducible refine g_ifT ?_)|(with_reducible refine g_ifF ?_)|(with_reducible refine g_if (fun hb => ?_) (fun hb => ?_)))))
local macro_rules | `(tactic| nofun) => `(tactic| try simp only [fr_is_integer, fr_need_size, fr_is_cell, fr_cells_fault, fr_need_cells, fr_row_fault, fr_need_row, fr_slots_fault, fr_check_crossings, fr_need_crossings, fr_need_port, fr_need_slot, fr_need_number, fr_need_rhythm, fr__law_source, fr__law_draw, fr__law_lot, fr__law_line, fr__law_later, reduceCtorEq, Bool.false_eq_true, if_false, if_true, kdOf_z, kdOf_t, kdOf_int, kdOf_bool, kdOf_str, kdOf_none, List.length_map, backD_wipe, Int.toNat_natCast, Int.reduceEq, Int.reduceLT, Int.reduceLE, decide_true, decide_false, Int.reduceSub, Int.reduceNeg, Int.reduceToNat, Int.reducePow, Int.reduceAdd, Int.reduceMul, Bool.not_true, Bool.not_false, isNonD_int, isNonD_bool, isNonD_str, isNonD_list, isNonD_tup, isNonD_none, List.set_cons_zero, List.set_cons_succ])
theorem law_is_integer (L : Phi) : ∀ ds post, F_is_integer.sp ds post → ds.length = k_is_integer ∧ rdSs (Ph L) b_is_integer (env0 F_is_integer.io N_is_integer.length ds) (fnEnds F_is_integer post) := by
  rintro ds post ⟨v, lo, hi, rfl, hp⟩
  refine ⟨rfl, ?_⟩
  show rdSs (Ph L) b_is_integer [.frz v, .frz (oD lo), .frz (oD hi)] _
  cases v
  case int n =>
    cases lo <;> cases hi <;> simp only [oD] <;> unfold b_is_integer
    all_goals and_intros
    all_goals exact ⟨.inl nz, .none, fun z => absurd z (by decide), by simpa [isI, *] using hp⟩
  all_goals unfold b_is_integer
  all_goals and_intros
  all_goals (first | exact ⟨.none, fun z => absurd z (by decide), hp⟩ | exact ⟨rfl, .none, fun z => absurd z (by decide), hp⟩ | exact ⟨.inl nz, .none, fun z => absurd z (by decide), hp⟩ | exact ⟨.inr rfl, .none, fun z => absurd z (by decide), hp⟩)
theorem law_need_size (L : Phi) : ∀ ds post, F_need_size.sp ds post → ds.length = k_need_size ∧ rdSs (Ph L) b_need_size (env0 F_need_size.io N_need_size.length ds) (fnEnds F_need_size post) := by
  rintro ds post ⟨n, rfl, h1, h2, hp⟩
  refine ⟨rfl, ?_⟩
  show rdSs (Ph L) b_need_size [.frz (.int n)] _
  unfold b_need_size
  and_intros
  (first | exact ⟨.none, fun z => absurd z (by decide), hp⟩ | exact ⟨rfl, .none, fun z => absurd z (by decide), hp⟩ | exact ⟨.inl nz, .none, fun z => absurd z (by decide), hp⟩ | exact ⟨.inr rfl, .none, fun z => absurd z (by decide), hp⟩)
theorem law_need_port (L : Phi) : ∀ ds post, F_need_port.sp ds post → ds.length = k_need_port ∧ rdSs (Ph L) b_need_port (env0 F_need_port.io N_need_port.length ds) (fnEnds F_need_port post) := by
  rintro ds post ⟨n, p, rfl, h1, h2, hp⟩
  refine ⟨rfl, ?_⟩
  show rdSs (Ph L) b_need_port [.frz (.int n), .frz (.int p)] _
  unfold b_need_port
  and_intros
  (first | exact ⟨.none, fun z => absurd z (by decide), hp⟩ | exact ⟨rfl, .none, fun z => absurd z (by decide), hp⟩ | exact ⟨.inl nz, .none, fun z => absurd z (by decide), hp⟩ | exact ⟨.inr rfl, .none, fun z => absurd z (by decide), hp⟩)
theorem law_need_slot (L : Phi) : ∀ ds post, F_need_slot.sp ds post → ds.length = k_need_slot ∧ rdSs (Ph L) b_need_slot (env0 F_need_slot.io N_need_slot.length ds) (fnEnds F_need_slot post) := by
  rintro ds post ⟨n, rfl, h1, h2, hp⟩
  refine ⟨rfl, ?_⟩
  show rdSs (Ph L) b_need_slot [.frz (.int n)] _
  unfold b_need_slot
  and_intros
  (first | exact ⟨.none, fun z => absurd z (by decide), hp⟩ | exact ⟨rfl, .none, fun z => absurd z (by decide), hp⟩ | exact ⟨.inl nz, .none, fun z => absurd z (by decide), hp⟩ | exact ⟨.inr rfl, .none, fun z => absurd z (by decide), hp⟩)
theorem law_need_number (L : Phi) : ∀ ds post, F_need_number.sp ds post → ds.length = k_need_number ∧ rdSs (Ph L) b_need_number (env0 F_need_number.io N_need_number.length ds) (fnEnds F_need_number post) := by
  rintro ds post ⟨n, lo, hi, rfl, h1, hp⟩
  refine ⟨rfl, ?_⟩
  show rdSs (Ph L) b_need_number [.frz (.int n), .frz (.int lo), .frz (oD hi)] _
  unfold b_need_number
  cases hi
  all_goals and_intros
  all_goals first
    | (rw [h1] at hb; cases hb; done)
    | (first | exact ⟨.none, fun z => absurd z (by decide), hp⟩ | exact ⟨rfl, .none, fun z => absurd z (by decide), hp⟩ | exact ⟨.inl nz, .none, fun z => absurd z (by decide), hp⟩ | exact ⟨.inr rfl, .none, fun z => absurd z (by decide), hp⟩)
theorem law_is_cell (L : Phi) : ∀ ds post, F_is_cell.sp ds post → ds.length = k_is_cell ∧ rdSs (Ph L) b_is_cell (env0 F_is_cell.io N_is_cell.length ds) (fnEnds F_is_cell post) := by
  rintro ds post ⟨n, ⟨a, p, g⟩, rfl, h1, h2, h3, h4, h5, h6, hp⟩
  refine ⟨rfl, ?_⟩
  show rdSs (Ph L) b_is_cell [.frz (.int n), .frz (.tuple [.int a, .int p, .int g]), .un, .un, .un] _
  unfold b_is_cell
  simp only at h1 h2 h3 h4 h5 h6
  and_intros
  all_goals first
    | (first | exact ⟨.none, fun z => absurd z (by decide), hp⟩ | exact ⟨rfl, .none, fun z => absurd z (by decide), hp⟩ | exact ⟨.inl nz, .none, fun z => absurd z (by decide), hp⟩ | exact ⟨.inr rfl, .none, fun z => absurd z (by decide), hp⟩)
    | (simp at hb; done)
theorem law_need_cells (L : Phi) : ∀ ds post, F_need_cells.sp ds post → ds.length = k_need_cells ∧ rdSs (Ph L) b_need_cells (env0 F_need_cells.io N_need_cells.length ds) (fnEnds F_need_cells post) := by
  rintro ds post ⟨n, lot, rfl, h1, h2, hl, hp⟩
  refine ⟨rfl, ?_⟩
  show rdSs (Ph L) b_need_cells [.frz (.int n), .frz (dL lot), .un] _
  unfold b_need_cells
  and_intros
  · simp [PyData.eqv, PyData.eqvAll] at hb
  · (first | exact ⟨.none, fun z => absurd z (by decide), hp⟩ | exact ⟨rfl, .none, fun z => absurd z (by decide), hp⟩ | exact ⟨.inl nz, .none, fun z => absurd z (by decide), hp⟩ | exact ⟨.inr rfl, .none, fun z => absurd z (by decide), hp⟩)
theorem law_cells_fault (L : Phi) : ∀ ds post, F_cells_fault.sp ds post → ds.length = k_cells_fault ∧ rdSs (Ph L) b_cells_fault (env0 F_cells_fault.io N_cells_fault.length ds) (fnEnds F_cells_fault post) := by
  rintro ds post ⟨n, lot, rfl, hl, hp⟩
  refine ⟨rfl, ?_⟩
  show rdSs (Ph L) b_cells_fault [.frz (.int n), .frz (dL lot), .un, .un] _
  unfold b_cells_fault
  and_intros
  · have := hl.few
    simp at hb; omega
  · refine r_for ?_
    and_intros
    refine for_fin lot.zipIdx (fun p => .tuple [.int (p.2 : Nat), dC p.1]) (fun _ => [.frz (.int n), .frz (dL lot), .un, .un]) enum_eq ?_ ?_ ?_
    · rfl
    · rintro j ⟨⟨a, p, g⟩, i⟩ hj
      obtain ⟨hj, rfl⟩ : lot[j]? = some (a, p, g) ∧ i = j := by
        rw [List.getElem?_zipIdx] at hj
        obtain ⟨c, h1, h2⟩ := Option.map_eq_some_iff.mp hj
        have h3 := congrArg Prod.fst h2
        have h4 := congrArg Prod.snd h2
        simp at h3 h4
        exact ⟨by rw [h1, h3], h4.symm⟩
      have hm : (a, p, g) ∈ lot := List.mem_of_getElem? hj
      refine ⟨_, tg2_fz (by decide) rfl fz_un rfl fz_un, ?_⟩
      and_intros
      refine st_is_cell (c := (a, p, g)) rfl ⟨hl.at0 _ hm, hl.at1 _ hm, hl.port0 _ hm, hl.port1 _ hm, hl.goal0 _ hm, hl.goal1 _ hm⟩ ?_
      and_intros
      · have h0 : 0 < i := by simpa using hb
        obtain ⟨⟨a', p', g'⟩, hi⟩ : ∃ c, lot[i - 1]? = some c := ⟨_, List.getElem?_eq_getElem (by have := (List.getElem?_eq_some_iff.mp hj).1; omega)⟩
        have lt : a' < a ∨ a' = a ∧ p' < p := ord_at hl.ord (i := i - 1) (j := i) (by omega) hi hj
        refine i_list rfl (cell_at hi (by omega)) ?_
        nofun
        and_intros
        · rw [lex2 lt] at hb; cases hb
        · rfl
      · rfl
    · and_intros
      (first | exact ⟨.none, fun z => absurd z (by decide), hp⟩ | exact ⟨rfl, .none, fun z => absurd z (by decide), hp⟩ | exact ⟨.inl nz, .none, fun z => absurd z (by decide), hp⟩ | exact ⟨.inr rfl, .none, fun z => absurd z (by decide), hp⟩)
theorem law_slots_fault (L : Phi) : ∀ ds post, F_slots_fault.sp ds post → ds.length = k_slots_fault ∧ rdSs (Ph L) b_slots_fault (env0 F_slots_fault.io N_slots_fault.length ds) (fnEnds F_slots_fault post) := by
  rintro ds post ⟨lot, row, rfl, hl, R, hp⟩
  refine ⟨rfl, ?_⟩
  show rdSs (Ph L) b_slots_fault [.frz (dL lot), .frz (dI row), .un, .un] _
  unfold b_slots_fault
  have hle := R.len
  and_intros
  · simp [hle] at hb
  · refine r_for ?_
    and_intros
    refine for_fin row.zipIdx (fun p => .tuple [.int (p.2 : Nat), .int p.1]) (fun j => [.frz (dL lot), .frz (dI row), .un, .un]) enum_eq ?_ ?_ ?_
    · rfl
    · rintro j ⟨e, i⟩ hj
      obtain ⟨hj, rfl⟩ := idx_at hj
      simp only at hj
      have hi := at_lt hj
      obtain ⟨⟨a, p, g⟩, hc⟩ : ∃ c, lot[i]? = some c := some_at (by omega)
      refine ⟨_, tg2_fz (by decide) rfl fz_un rfl fz_un, ?_⟩
      have lo := R.low i _ hc
      rw [getD_some hj] at lo
      have hi := R.high e (List.mem_of_getElem? hj)
      simp only at lo
      and_intros
      rfl
    · and_intros
      (first | exact ⟨.none, fun z => absurd z (by decide), hp⟩ | exact ⟨rfl, .none, fun z => absurd z (by decide), hp⟩ | exact ⟨.inl nz, .none, fun z => absurd z (by decide), hp⟩ | exact ⟨.inr rfl, .none, fun z => absurd z (by decide), hp⟩)
theorem law_check_crossings (L : Phi) : ∀ ds post, F_check_crossings.sp ds post → ds.length = k_check_crossings ∧ rdSs (Ph L) b_check_crossings (env0 F_check_crossings.io N_check_crossings.length ds) (fnEnds F_check_crossings post) := by
  rintro ds post ⟨lot, row, rfl, h1, R, hp⟩
  refine ⟨rfl, ?_⟩
  show rdSs (Ph L) b_check_crossings [.frz (dL lot), .frz (dI row), .un] _
  unfold b_check_crossings
  and_intros
  · simp [PyData.eqv, PyData.eqvAll] at hb
  · (first | exact ⟨.none, fun z => absurd z (by decide), hp⟩ | exact ⟨rfl, .none, fun z => absurd z (by decide), hp⟩ | exact ⟨.inl nz, .none, fun z => absurd z (by decide), hp⟩ | exact ⟨.inr rfl, .none, fun z => absurd z (by decide), hp⟩)
theorem law_need_crossings (L : Phi) : ∀ ds post, F_need_crossings.sp ds post → ds.length = k_need_crossings ∧ rdSs (Ph L) b_need_crossings (env0 F_need_crossings.io N_need_crossings.length ds) (fnEnds F_need_crossings post) := by
  rintro ds post ⟨n, lot, row, rfl, h1, h2, Lo, R, hp⟩
  refine ⟨rfl, ?_⟩
  have few := Lo.few
  show rdSs (Ph L) b_need_crossings [.frz (.int n), .frz (dL lot), .frz (dI row)] _
  unfold b_need_crossings
  and_intros
  (first | exact ⟨.none, fun z => absurd z (by decide), hp⟩ | exact ⟨rfl, .none, fun z => absurd z (by decide), hp⟩ | exact ⟨.inl nz, .none, fun z => absurd z (by decide), hp⟩ | exact ⟨.inr rfl, .none, fun z => absurd z (by decide), hp⟩)
theorem law_row_fault (L : Phi) : ∀ ds post, F_row_fault.sp ds post → ds.length = k_row_fault ∧ rdSs (Ph L) b_row_fault (env0 F_row_fault.io N_row_fault.length ds) (fnEnds F_row_fault post) := by
  rintro ds post ⟨lot, row, rfl, hl, h0, R, hp⟩
  refine ⟨rfl, ?_⟩
  show rdSs (Ph L) b_row_fault [.frz (dL lot), .frz (dI row), .un, .un, .un, .un, .un, .un] _
  unfold b_row_fault
  have hle := R.len
  and_intros
  · simp [hle] at hb
  · refine r_for ?_
    and_intros
    refine for_fin row.zipIdx (fun p => .tuple [.int (p.2 : Nat), .int p.1]) (fun j => [.frz (dL lot), .frz (dI row), .own (dT (known lot row j)), .un, .un, .un, .un, .un]) enum_eq ?_ ?_ ?_
    · rfl
    · rintro j ⟨e, i⟩ hj
      obtain ⟨hj, rfl⟩ := idx_at hj
      simp only at hj
      have hi := at_lt hj
      obtain ⟨⟨a, p, g⟩, hc⟩ : ∃ c, lot[i]? = some c := some_at (by omega)
      refine ⟨_, tg2_fz (by decide) rfl fz_un rfl fz_un, ?_⟩
      obtain ⟨k1, k2⟩ := known_next R hc hj
      have kl := known_len lot row i
      have lo := R.low i _ hc
      rw [getD_some hj] at lo
      simp only at lo
      have hi := R.high e (List.mem_of_getElem? hj)
      have hz : sizeLine > 100 := by decide
      and_intros
      refine ⟨[g, e], _, known lot row i, rfl, Nat.le_of_ble_eq_true rfl, rfl, ?_⟩
      rw [k1]
      nofun
      and_intros
      refine ⟨[g, e], known lot row i, _, rfl, Nat.le_of_ble_eq_true rfl, rfl, by omega, rfl, ?_⟩
      rw [k2]
      rfl
    · and_intros
      (first | exact ⟨.none, fun z => absurd z (by decide), hp⟩ | exact ⟨rfl, .none, fun z => absurd z (by decide), hp⟩ | exact ⟨.inl nz, .none, fun z => absurd z (by decide), hp⟩ | exact ⟨.inr rfl, .none, fun z => absurd z (by decide), hp⟩)
theorem law_need_row (L : Phi) : ∀ ds post, F_need_row.sp ds post → ds.length = k_need_row ∧ rdSs (Ph L) b_need_row (env0 F_need_row.io N_need_row.length ds) (fnEnds F_need_row post) := by
  rintro ds post ⟨n, lot, row, rfl, h1, h2, Lo, R, hp⟩
  refine ⟨rfl, ?_⟩
  have few := Lo.few
  show rdSs (Ph L) b_need_row [.frz (.int n), .frz (dL lot), .frz (dI row), .un] _
  unfold b_need_row
  and_intros
  refine st_row_fault rfl few Lo.at0 R ?_
  and_intros
  · simp [PyData.eqv, PyData.eqvAll] at hb
  · (first | exact ⟨.none, fun z => absurd z (by decide), hp⟩ | exact ⟨rfl, .none, fun z => absurd z (by decide), hp⟩ | exact ⟨.inl nz, .none, fun z => absurd z (by decide), hp⟩ | exact ⟨.inr rfl, .none, fun z => absurd z (by decide), hp⟩)
theorem law_need_rhythm (L : Phi) : ∀ ds post, F_need_rhythm.sp ds post → ds.length = k_need_rhythm ∧ rdSs (Ph L) b_need_rhythm (env0 F_need_rhythm.io N_need_rhythm.length ds) (fnEnds F_need_rhythm post) := by
  rintro ds post ⟨b, rfl, B, hp⟩
  refine ⟨rfl, ?_⟩
  show rdSs (Ph L) b_need_rhythm [.frz (dI b), .un, .un] _
  unfold b_need_rhythm
  have b1 := B.some_
  have b2 := B.few
  and_intros
  all_goals try (first | omega | (simp at hb; omega))
  · refine r_for ?_
    and_intros
    refine for_fin b.zipIdx (fun p => .tuple [.int (p.2 : Nat), .int p.1]) (fun _ => [.frz (dI b), .un, .un]) enum_eq ?_ ?_ ?_
    · rfl
    · rintro j ⟨x, i⟩ hj
      obtain ⟨hj, rfl⟩ := idx_at hj
      simp only at hj
      obtain ⟨x0, x1⟩ := B.dig x (List.mem_of_getElem? hj)
      refine ⟨_, tg2_fz (by decide) rfl fz_un rfl fz_un, ?_⟩
      and_intros
      rfl
    · and_intros
      (first | exact ⟨.none, fun z => absurd z (by decide), hp⟩ | exact ⟨rfl, .none, fun z => absurd z (by decide), hp⟩ | exact ⟨.inl nz, .none, fun z => absurd z (by decide), hp⟩ | exact ⟨.inr rfl, .none, fun z => absurd z (by decide), hp⟩)
end CA

namespace CA
open PySem PySem.Spec PyProof.Rows L2 DL
set_option hygiene false
local macro_rules | `(tactic| and_intros) => `(tactic| (repeat' (first|((with_reducible show rdE _ _ _ _); (first|(with_reducible refine e_int ?_)|(with_reducible refine e_bl ?_)|(with_reducible refine e_non ?_)|(with_reducible refine e_str ?_)|(with_reducible refine e_gi ?_)|(with_reducible refine e_tup ?_)|(with_reducible refine e_lst ?_)|(with_reducible refine e_bin ?_)|(with_reducible refine e_neg ?_)|(with_reducible refine e_cmp ?_)|(with_reducible refine e_chain ?_)|(with_reducible refine e_not ?_)|(with_reducible refine e_ands ?_)|(with_reducible refine e_ors ?_)|(with_reducible refine e_ife ?_)|(with_reducible refine e_idx ?_)|(with_reducible refine e_call ?_)|(with_reducible refine e_callk ?_)|(with_reducible refine e_bi ?_)|(with_reducible refine e_ist ?_)|(with_reducible refine e_lrng1 ?_)|(with_reducible refine e_lrng2 ?_)|(with_reducible refine e_sset ?_)|(with_reducible refine e_dnewT ?_)|(with_reducible refine e_dinT ?_)|(with_reducible refine e_rev ?_)|(with_reducible refine e_cat ?_)|(with_reducible refine e_cat2 ?_)|(with_reducible refine e_mt ?_)|(with_reducible refine e_sl ?_)|((first|(with_reducible refine e_isN ?_)|(with_reducible refine e_notN ?_)) <;> try simp only [fr_is_integer, fr_need_size, fr_is_cell, fr_cells_fault, fr_need_cells, fr_row_fault, fr_need_row, fr_slots_fault, fr_check_crossings, fr_need_crossings, fr_need_port, fr_need_slot, fr_need_number, fr_need_rhythm, fr__law_source, fr__law_draw, fr__law_lot, fr__law_line, fr__law_later, reduceCtorEq, Bool.false_eq_true, if_false, if_true, kdOf_z, kdOf_t, kdOf_int, kdOf_bool, kdOf_str, kdOf_none, List.length_map, backD_wipe, Int.toNat_natCast, Int.reduceEq, Int.reduceLT, Int.reduceLE, decide_true, decide_false, Int.reduceSub, Int.reduceNeg, Int.reduceToNat, Int.reducePow, Int.reduceAdd, Int.reduceMul, Bool.not_true, Bool.not_false, isNonD_int, isNonD_bool, isNonD_str, isNonD_list, isNonD_tup, isNonD_none, List.set_cons_zero, List.set_cons_succ])|((with_reducible show rdE _ (.var _) _ _); refine e_frz rfl ?_)|((with_reducible show rdE _ (.var _) _ _); refine e_own rfl ?_)|((with_reducible show rdE _ (.var _) _ _); refine e_io rfl ?_)|((with_reducible show rdE _ (.mv _) _ _); refine e_mv rfl ?_)|((with_reducible show rdE _ (.idxv _ _) _ _); refine e_idxv rfl ?_)|((with_reducible show rdE _ (.callio _ _ _) _ _); refine e_callio rfl ?_)))|((with_reducible show rdSs _ _ _ _); (first|(with_reducible refine r_cons ?_)|(with_reducible refine r_nil ?_)))|((with_reducible show rdS _ _ _ _); (first|(with_reducible refine r_asgF ?_)|(with_reducible refine r_asgT ?_)|(with_reducible refine r_ret ?_)|(with_reducible refine r_retN ?_)|(with_reducible refine r_expr ?_)|(with_reducible refine r_iff ?_)|(with_reducible refine r_brk ?_)|(with_reducible refine r_cont ?_)|(with_reducible refine r_pas ?_)|(with_reducible refine r_asgTs ?_)|((with_reducible show rdS _ (.setv _ _ _) _ _); refine r_setv rfl ?_)|((with_reducible show rdS _ (.mut _ _ _) _ _); refine r_mut ⟨_, rfl⟩ ?_)|((with_reducible show rdS _ (.dputT _ _ _) _ _); refine r_dputT rfl ?_)|((with_reducible show rdS _ (.aug _ _ _) _ _); refine r_aug rfl ?_)|(with_reducible refine r_par ?_)))|((with_reducible show rdEs _ _ _ _); (first|(with_reducible refine s_nil ?_)|(with_reducible refine s_cons ?_)))|((with_reducible show rdAnd _ _ _ _); (first|(with_reducible refine a_two ?_)|(with_reducible refine a_one ?_)))|((with_reducible show rdOr _ _ _ _); (first|(with_reducible refine o_two ?_)|(with_reducible refine o_one ?_)))|((with_reducible show rdI _ _ _ _); (first|(with_reducible refine w_lst ?_)|(with_reducible refine w_tup ?_)|(with_reducible refine w_rng1 ?_)|(with_reducible refine w_rng2 ?_)|(with_reducible refine w_enum ?_)|(with_reducible refine w_zip ?_)))|((with_reducible show rdC _ _ _ _); (first|(with_reducible refine c_nil ?_)|(with_reducible refine c_one ?_)))|((with_reducible show rdO _ _ _ _); (first|(with_reducible refine o_no ?_)|(with_reducible refine o_so ?_)))|((with_reducible show rdPs _ _ _ _ _); (first|(with_reducible refine r_psN ?_)|(with_reducible refine r_psF ?_)|(with_reducible refine r_psT ?_)|((with_reducible show rdPs _ _ (List.map _ _) _ _); simp only [List.map_cons, List.map_nil])))|((with_reducible show ∃ t, truthD _ = some t ∧ _); (first|(with_reducible refine r_tn ?_)|((with_reducible show ∃ t, truthD _ = some t ∧ _); simp only [isNonD_int, isNonD_bool, isNonD_str, isNonD_list, isNonD_tup, isNonD_none, Bool.not_true, Bool.not_false])|(with_reducible refine r_tT ?_)|(with_reducible refine r_tF ?_)|(with_reducible refine r_tbA (by assumption) ?_)|(with_reducible refine r_tbB (by assumption) ?_)|(with_reducible refine r_tb (fun hb => ?_) (fun hb => ?_))|((with_reducible refine r_not ?_); try simp only [Bool.not_true, Bool.not_false])))|((with_reducible show ∃ r, cmpD _ _ _ = some r ∧ _); (first|((first|(with_reducible refine g_ex (by assumption) ?_)) <;> try simp only [fr_is_integer, fr_need_size, fr_is_cell, fr_cells_fault, fr_need_cells, fr_row_fault, fr_need_row, fr_slots_fault, fr_check_crossings, fr_need_crossings, fr_need_port, fr_need_slot, fr_need_number, fr_need_rhythm, fr__law_source, fr__law_draw, fr__law_lot, fr__law_line, fr__law_later, reduceCtorEq, Bool.false_eq_true, if_false, if_true, kdOf_z, kdOf_t, kdOf_int, kdOf_bool, kdOf_str, kdOf_none, List.length_map, backD_wipe, Int.toNat_natCast, Int.reduceEq, Int.reduceLT, Int.reduceLE, decide_true, decide_false, Int.reduceSub, Int.reduceNeg, Int.reduceToNat, Int.reducePow, Int.reduceAdd, Int.reduceMul, Bool.not_true, Bool.not_false, isNonD_int, isNonD_bool, isNonD_str, isNonD_list, isNonD_tup, isNonD_none, List.set_cons_zero, List.set_cons_succ])|(with_reducible refine g_ex (ne_same _) ?_)|(with_reducible refine g_ex (eq_same _) ?_)|(with_reducible refine g_ex (ne_samei _) ?_)|(with_reducible refine g_ex (Shw.ne (by assumption)) ?_)|(with_reducible refine g_ex (Shw.eq (by assumption)) ?_)|(refine g_ex inn_ints ?_)|(refine g_ex (ne_nil _) ?_)|(with_reducible refine g_ex CA.nin_ints ?_)|(with_reducible refine g_ex (CA.ne_nilP _) ?_)|(with_reducible refine g_ex CA.inn_pairs2 ?_)|(with_reducible refine g_ex CA.nin_pairs2 ?_)|(refine g_ex (eq_nil _) ?_)|(refine g_ex (eq_ints _ _) ?_)|(refine g_ex (ne_ints _ _) ?_)|(refine g_ex rfl ?_)))|((with_reducible show ∃ t r, biD _ _ = some (t, r) ∧ _); (first|((first|(refine e_istE rfl ?_)|((with_reducible refine bi_F (by assumption) (Or.inl nz) ?_))|((with_reducible refine bi_F (sum_ints _) (Or.inl nz) ?_))|((with_reducible refine bi_F (sum_ints _) (Or.inl nt) ?_))|((with_reducible refine bi_T (biD_sorted _) (Or.inl nz) ?_))|((with_reducible show ∃ t r, biD .max [.list _] = some (t, r) ∧ _); refine bi_F (CA.biD_max _ _) (Or.inl nz) ?_)|((with_reducible show ∃ t r, biD .any [.list (List.map PyData.bool _)] = some (t, r) ∧ _); refine bi_F (CA.biD_any _) (.inr rfl) ?_)|((with_reducible refine bi_T (biD_sorted _) (Or.inl nt) ?_))|((with_reducible refine bi_F (Shw.repr (by assumption)) (Or.inl nz) ?_))|((with_reducible refine bi_F (Shw.repr (by assumption)) (Or.inl nt) ?_))|((with_reducible refine bi_F (Shw.repr (by assumption)) (.inr rfl) ?_))|(refine bi_F rfl (Or.inl nz) ?_)|(refine bi_F rfl (Or.inl nt) ?_)|(refine bi_F rfl (.inr rfl) ?_)) <;> try simp only [fr_is_integer, fr_need_size, fr_is_cell, fr_cells_fault, fr_need_cells, fr_row_fault, fr_need_row, fr_slots_fault, fr_check_crossings, fr_need_crossings, fr_need_port, fr_need_slot, fr_need_number, fr_need_rhythm, fr__law_source, fr__law_draw, fr__law_lot, fr__law_line, fr__law_later, reduceCtorEq, Bool.false_eq_true, if_false, if_true, kdOf_z, kdOf_t, kdOf_int, kdOf_bool, kdOf_str, kdOf_none, List.length_map, backD_wipe, Int.toNat_natCast, Int.reduceEq, Int.reduceLT, Int.reduceLE, decide_true, decide_false, Int.reduceSub, Int.reduceNeg, Int.reduceToNat, Int.reducePow, Int.reduceAdd, Int.reduceMul, Bool.not_true, Bool.not_false, isNonD_int, isNonD_bool, isNonD_str, isNonD_list, isNonD_tup, isNonD_none, List.set_cons_zero, List.set_cons_succ])))|((with_reducible show Exists _); (first|(with_reducible refine g_int ?_)|(with_reducible refine g_int2 ?_)|(with_reducible refine g_list ?_)|(with_reducible refine g_list2 ?_)|(with_reducible refine g_tup ?_)|((first|((with_reducible show ∃ t r, binD .add (.list _) (.list _) = some (t, r) ∧ _); refine b_cat3 (by constructor <;> (first|exact nz|exact nt)) (by simp [rangeD_length]; omega) ?_)|((with_reducible show ∃ t r, binD .mul (.list [.int _]) (.int _) = some (t, r) ∧ _); refine b_zeros (by omega) ?_)) <;> try simp only [fr_is_integer, fr_need_size, fr_is_cell, fr_cells_fault, fr_need_cells, fr_row_fault, fr_need_row, fr_slots_fault, fr_check_crossings, fr_need_crossings, fr_need_port, fr_need_slot, fr_need_number, fr_need_rhythm, fr__law_source, fr__law_draw, fr__law_lot, fr__law_line, fr__law_later, reduceCtorEq, Bool.false_eq_true, if_false, if_true, kdOf_z, kdOf_t, kdOf_int, kdOf_bool, kdOf_str, kdOf_none, List.length_map, backD_wipe, Int.toNat_natCast, Int.reduceEq, Int.reduceLT, Int.reduceLE, decide_true, decide_false, Int.reduceSub, Int.reduceNeg, Int.reduceToNat, Int.reducePow, Int.reduceAdd, Int.reduceMul, Bool.not_true, Bool.not_false, isNonD_int, isNonD_bool, isNonD_str, isNonD_list, isNonD_tup, isNonD_none, List.set_cons_zero, List.set_cons_succ])|((with_reducible show ∃ env2, tgD (.tp (.cons _ (.cons _ .nil))) _ _ = some env2 ∧ _); refine r_some (tg2_fz (by decide) rfl (by first|exact fz_un|exact fz_frz|assumption) rfl (by first|exact fz_un|exact fz_frz|assumption)) ?_)|(refine r_some rfl ?_)|(refine r_some (asg_fz rfl (by assumption)) ?_)|(refine r_some (asgt_fz rfl (by assumption)) ?_)|(refine r_some (asgo_ni rfl (by assumption)) ?_)|(refine r_augE rfl rfl ?_)|(refine r_put2 rfl rfl rfl ?_)|((first|(refine i_list rfl rfl ?_)|(refine i_list rfl (at_last (by assumption)) ?_)|(refine i_list rfl (at_last2 (by assumption)) ?_)|(refine i_list rfl (map_nat (by assumption) (by omega)) ?_)|(refine i_list rfl (atI_ints (by omega) (by omega)) ?_)|(refine i_list rfl (atI_ints ?_ ?_) ?_)|(refine i_tup rfl rfl ?_)|((with_reducible show ∃ r, idxD (.list [.int _, .int _]) (.int _) = some r ∧ _); refine CA.pickI2 (by assumption) (by assumption) fun m hm => ?_)|((with_reducible show ∃ r, idxD (.list [.int _, .int _, .int _]) (.int _) = some r ∧ _); refine CA.pickI3 (by assumption) (by assumption) fun m hm => ?_)) <;> try simp only [fr_is_integer, fr_need_size, fr_is_cell, fr_cells_fault, fr_need_cells, fr_row_fault, fr_need_row, fr_slots_fault, fr_check_crossings, fr_need_crossings, fr_need_port, fr_need_slot, fr_need_number, fr_need_rhythm, fr__law_source, fr__law_draw, fr__law_lot, fr__law_line, fr__law_later, reduceCtorEq, Bool.false_eq_true, if_false, if_true, kdOf_z, kdOf_t, kdOf_int, kdOf_bool, kdOf_str, kdOf_none, List.length_map, backD_wipe, Int.toNat_natCast, Int.reduceEq, Int.reduceLT, Int.reduceLE, decide_true, decide_false, Int.reduceSub, Int.reduceNeg, Int.reduceToNat, Int.reducePow, Int.reduceAdd, Int.reduceMul, Bool.not_true, Bool.not_false, isNonD_int, isNonD_bool, isNonD_str, isNonD_list, isNonD_tup, isNonD_none, List.set_cons_zero, List.set_cons_succ])))|((with_reducible show _ ∧ _); (first|((with_reducible show (CA.Ph _ _).io = false ∧ _); (first|((with_reducible show (CA.Ph _ "is_integer").io = false ∧ _); first|(refine CA.st_isI_t rfl (by first|assumption|omega) (by first|assumption|omega) ?_)|(refine CA.st_isI2 rfl  ?_)|(refine CA.st_isI1 rfl  ?_)|(refine CA.st_isI0 rfl  ?_))|((with_reducible show (CA.Ph _ "need_size").io = false ∧ _); first|(refine CA.st_need_size rfl (by first|assumption|omega) (by first|assumption|omega) ?_))|((with_reducible show (CA.Ph _ "need_port").io = false ∧ _); first|(refine CA.st_need_port rfl (by first|assumption|omega) (by first|assumption|omega) ?_))|((with_reducible show (CA.Ph _ "need_slot").io = false ∧ _); first|(refine CA.st_need_slot rfl (by first|assumption|omega) (by first|assumption|omega) ?_))|((with_reducible show (CA.Ph _ "need_number").io = false ∧ _); first|(refine CA.st_need_number2 rfl (by first|assumption|omega) (by first|assumption|omega) ?_)|(refine CA.st_need_number1 rfl (by first|assumption|omega) ?_))|((with_reducible show (CA.Ph _ "cells_fault").io = false ∧ _); first|(refine CA.st_cells_fault rfl (by first|assumption|omega) ?_))|((with_reducible show (CA.Ph _ "need_cells").io = false ∧ _); first|(refine CA.st_need_cells rfl (by first|assumption|omega) (by first|assumption|omega) (by first|assumption|omega) ?_))|((with_reducible show (CA.Ph _ "row_fault").io = false ∧ _); first|(refine CA.st_row_fault rfl (by first|assumption|omega) (by first|assumption|omega) (by first|assumption|omega) ?_))|((with_reducible show (CA.Ph _ "need_row").io = false ∧ _); first|(refine CA.st_need_row rfl (by first|assumption|omega) (by first|assumption|omega) (by first|assumption|omega) (by first|assumption|omega) ?_))|((with_reducible show (CA.Ph _ "slots_fault").io = false ∧ _); first|(refine CA.st_slots_fault rfl (by first|assumption|omega) (by first|assumption|omega) ?_))|((with_reducible show (CA.Ph _ "check_crossings").io = false ∧ _); first|(refine CA.st_check_crossings rfl (by first|assumption|omega) (by first|assumption|omega) ?_))|((with_reducible show (CA.Ph _ "need_crossings").io = false ∧ _); first|(refine CA.st_need_crossings rfl (by first|assumption|omega) (by first|assumption|omega) (by first|assumption|omega) (by first|assumption|omega) ?_))|((with_reducible show (CA.Ph _ "need_rhythm").io = false ∧ _); first|(refine CA.st_need_rhythm rfl (by first|assumption|omega) ?_))|((with_reducible show (CA.Ph _ "_law_later").io = false ∧ _); first|(refine CA.st__law_later rfl (by first|assumption|omega) (by first|assumption|omega) ?_))|((with_reducible show (CA.Ph _ "pairings_in").io = false ∧ _); first|(refine CR.st_pairings_in rfl (by first|assumption|omega) (by first|assumption|omega) (by first|assumption|omega) (by first|assumption|omega) ?_))|((with_reducible show (CA.Ph _ "unsure").io = false ∧ _); first|(refine CR.st_unsure rfl (by first|assumption|omega) (by first|assumption|omega) (by first|assumption|omega) (by first|assumption|omega) (by first|assumption|omega) ?_))|((with_reducible show (CA.Ph _ "cells_to").io = false ∧ _); first|(refine CB.st_cells_to rfl (by first|assumption|omega) ?_))|((with_reducible show (CA.Ph _ "sending_slots").io = false ∧ _); first|(refine CB.st_sending_slots rfl (by first|assumption|omega) ?_))|((with_reducible show (CA.Ph _ "outlets_of").io = false ∧ _); first|(refine CB.st_outlets_of rfl (by first|assumption|omega) (by first|assumption|omega) ?_))|((with_reducible show (CA.Ph _ "is_busy_row").io = false ∧ _); first|(refine CB.st_is_busy_row rfl (by first|assumption|omega) (by first|assumption|omega) (by first|assumption|omega) (by first|assumption|omega) ?_))|((with_reducible show (CA.Ph _ "need_busy").io = false ∧ _); first|(refine CB.st_need_busy rfl (by first|assumption|omega) (by first|assumption|omega) (by first|assumption|omega) (by first|assumption|omega) (by first|assumption|omega) ?_))|((with_reducible show (CA.Ph _ "own_slots").io = false ∧ _); first|(refine CB.st_own_slots rfl (by first|assumption|omega) ?_))|((with_reducible show (CA.Ph _ "first_row").io = false ∧ _); first|(refine CB.st_first_row rfl (by first|assumption|omega) (by first|assumption|omega) (by first|assumption|omega) (by first|assumption|omega) ?_))|((with_reducible show (CA.Ph _ "_law_there").io = false ∧ _); first|(refine CB.st__law_there rfl (by first|assumption|omega) (by first|assumption|omega) (by first|assumption|omega) (by first|assumption|omega) ?_)|(refine CP.st__law_there rfl (by first|assumption|omega) (by first|assumption|omega) (by first|assumption|omega) (by first|assumption|omega) ?_))|((with_reducible show (CA.Ph _ "cells_from").io = false ∧ _); first|(refine CP.st_cells_from rfl (by first|assumption|omega) ?_))|((with_reducible show (CA.Ph _ "first_unpressed").io = false ∧ _); first|(refine CP.st_first_unpressed rfl (by first|assumption|omega) (by first|assumption|omega) (by first|assumption|omega) (by first|assumption|omega) ?_))|((with_reducible show (CA.Ph _ "is_pressed").io = false ∧ _); first|(refine CP.st_is_pressed rfl (by first|assumption|omega) (by first|assumption|omega) (by first|assumption|omega) (by first|assumption|omega) (by first|assumption|omega) ?_))|((with_reducible show (CA.Ph _ "choices_of").io = false ∧ _); first|(refine CC.st_choices_of rfl (by first|assumption|omega) (by first|assumption|omega) (by first|assumption|omega) ?_))|((with_reducible show (CA.Ph _ "product_of").io = false ∧ _); first|(refine CC.st_product_of rfl (by first|assumption|omega) (by first|assumption|omega) ?_))|((with_reducible show (CA.Ph _ "served_count").io = false ∧ _); first|(refine CC.st_served_count rfl (by first|assumption|omega) (by first|assumption|omega) (by first|assumption|omega) (by first|assumption|omega) ?_))|((with_reducible show (CA.Ph _ "_law_all_busy").io = false ∧ _); first|(refine CL.st__law_all_busy rfl (by first|assumption|omega) (by first|assumption|omega) (by first|assumption|omega) ?_))|((with_reducible show (CA.Ph _ "_law_is_served").io = false ∧ _); first|(refine CL.st__law_is_served rfl (by first|assumption|omega) (by first|assumption|omega) ?_))|((with_reducible show (CA.Ph _ "row_with").io = false ∧ _); first|(refine CW.st_row_with rfl (by first|assumption|omega) (by first|assumption|omega) (by first|assumption|omega) (by first|assumption|omega) (by first|assumption|omega) ?_))|((with_reducible show (CA.Ph _ "index_with").io = false ∧ _); first|(refine CW.st_index_with rfl (by first|assumption|omega) (by first|assumption|omega) (by first|assumption|omega) (by first|assumption|omega) (by first|assumption|omega) ?_))|((with_reducible show (CA.Ph _ "frame_fault").io = false ∧ _); first|(refine K49.st_frame_fault rfl (by first|assumption|omega) (by first|assumption|omega) (by first|assumption|omega) (by first|assumption|omega) ?_))|((with_reducible show (CA.Ph _ "need_frame").io = false ∧ _); first|(refine K49.st_need_frame rfl (by first|assumption|omega) (by first|assumption|omega) (by first|assumption|omega) (by first|assumption|omega) (by first|assumption|omega) (by first|assumption|omega) ?_))|((with_reducible show (CA.Ph _ "sent_slots").io = false ∧ _); first|(refine K49.st_sent_slots rfl (by first|assumption|omega) ?_))|((with_reducible show (CA.Ph _ "two_rounds").io = false ∧ _); first|(refine K49.st_two_rounds rfl (by first|assumption|omega) ?_))|((with_reducible show (CA.Ph _ "step_of").io = false ∧ _); first|(refine K49.st_step_of rfl (by first|assumption|omega) ?_))|((with_reducible show (CA.Ph _ "left_over").io = false ∧ _); first|(refine K49.st_left_over rfl (by first|assumption|omega) (by first|assumption|omega) (by first|assumption|omega) (by first|assumption|omega) (by first|assumption|omega) (by first|assumption|omega) (by first|assumption|omega) (by first|assumption|omega) (by first|assumption|omega) (by first|assumption|omega) ?_))|((with_reducible show (CA.Ph _ "_law_turns").io = false ∧ _); first|(refine K49.st__law_turns rfl (by first|assumption|omega) (by first|assumption|omega) (by first|assumption|omega) (by first|assumption|omega) ?_))|((with_reducible show (CA.Ph _ "law").io = false ∧ _); first|(refine K49.st_law rfl (by first|assumption|omega) ?_))))|((with_reducible show (False → _) ∧ ∃ ds ds' env2, ownD _ _ = some (.list ds) ∧ mutD .append ds _ = some ds' ∧ _); refine r_app4 rfl (by simp; omega) rfl ?_)|((with_reducible show (False → _) ∧ ∃ ds ds' env2, ownD _ _ = some (.list ds) ∧ mutD .append ds _ = some ds' ∧ _); refine r_app4 rfl ?_ rfl ?_)|((first|(with_reducible refine c_lt ?_)|(with_reducible refine c_le ?_)|(with_reducible refine c_gt ?_)|(with_reducible refine c_ge ?_)|(with_reducible refine c_eq ?_)|(with_reducible refine c_ne ?_)|(with_reducible refine b_add ?_)|(with_reducible refine b_sub ?_)|(refine g_rng (by unfold okRng; omega) ?_)|((with_reducible show (Kd.z ≠ _ ∨ _) ∧ ∃ t r, binD _ (.int _) (.int _) = some (t, r) ∧ _); refine b_mul (log_small (by omega) (by omega)) ?_)|((with_reducible show (Kd.z ≠ _ ∨ _) ∧ ∃ t r, binD _ (.int _) (.int _) = some (t, r) ∧ _); refine b_mul (log_mid (by omega) (by omega) (by omega) (by omega)) ?_)|((with_reducible show (Kd.z ≠ _ ∨ _) ∧ ∃ t r, binD _ (.int _) (.int _) = some (t, r) ∧ _); refine b_mod (by omega) ?_)|((with_reducible show (Kd.z ≠ _ ∨ _) ∧ ∃ t r, binD _ (.int _) (.int _) = some (t, r) ∧ _); refine b_div (div_c (by omega) (by omega)) ?_)|((with_reducible show (Kd.z ≠ _ ∨ _) ∧ ∃ t r, binD _ (.int _) (.int _) = some (t, r) ∧ _); refine b_div ⟨by omega, by decide⟩ ?_)|((with_reducible show (Kd.z ≠ _ ∨ _) ∧ ∃ t r, binD _ (.int _) (.int _) = some (t, r) ∧ _); refine b_div (div_m (by omega) (by omega)) ?_)|((with_reducible show (Kd.z ≠ _ ∨ _) ∧ ∃ t r, binD _ (.int _) (.int _) = some (t, r) ∧ _); refine b_pow (by decide) ?_)|((with_reducible show (Kd.z ≠ _ ∨ _) ∧ ∃ t r, binD _ (.int _) (.int _) = some (t, r) ∧ _); refine b_pow (pow_mid (by omega) (by omega) (by omega) (by omega)) ?_)|((with_reducible refine b_mul ?_ ?_))|((with_reducible refine b_mod ?_ ?_))|((with_reducible refine b_div ?_ ?_))|((with_reducible refine b_pow ?_ ?_))|((with_reducible refine g_rng ?_ ?_))) <;> try simp only [fr_is_integer, fr_need_size, fr_is_cell, fr_cells_fault, fr_need_cells, fr_row_fault, fr_need_row, fr_slots_fault, fr_check_crossings, fr_need_crossings, fr_need_port, fr_need_slot, fr_need_number, fr_need_rhythm, fr__law_source, fr__law_draw, fr__law_lot, fr__law_line, fr__law_later, reduceCtorEq, Bool.false_eq_true, if_false, if_true, kdOf_z, kdOf_t, kdOf_int, kdOf_bool, kdOf_str, kdOf_none, List.length_map, backD_wipe, Int.toNat_natCast, Int.reduceEq, Int.reduceLT, Int.reduceLE, decide_true, decide_false, Int.reduceSub, Int.reduceNeg, Int.reduceToNat, Int.reducePow, Int.reduceAdd, Int.reduceMul, Bool.not_true, Bool.not_false, isNonD_int, isNonD_bool, isNonD_str, isNonD_list, isNonD_tup, isNonD_none, List.set_cons_zero, List.set_cons_succ])|(refine e_chainE rfl (fun hb => ?_) (fun hb => ?_))|(with_reducible refine g_true ?_)|((first|(refine e_idxE (Or.inl nt) rfl ?_)|(refine e_idxE (Or.inl nz) rfl ?_)|(refine g_len (Nat.le_of_ble_eq_true rfl) ?_)|(with_reducible refine g_nbz ?_)|(with_reducible refine g_nbt ?_)|(with_reducible refine g_oz ?_)|(with_reducible refine g_ot ?_)|(with_reducible refine g_eqt ?_)|((with_reducible show (_ ∨ _ = true ∧ _ = true) ∧ _); refine And.intro (.inr ⟨rfl, rfl⟩) ?_)|((with_reducible show (_ ∨ flats (List.map PyData.int _) = true) ∧ _); refine And.intro (.inr (flats_ints _)) ?_)|(refine g_pur rfl ?_)) <;> try simp only [fr_is_integer, fr_need_size, fr_is_cell, fr_cells_fault, fr_need_cells, fr_row_fault, fr_need_row, fr_slots_fault, fr_check_crossings, fr_need_crossings, fr_need_port, fr_need_slot, fr_need_number, fr_need_rhythm, fr__law_source, fr__law_draw, fr__law_lot, fr__law_line, fr__law_later, reduceCtorEq, Bool.false_eq_true, if_false, if_true, kdOf_z, kdOf_t, kdOf_int, kdOf_bool, kdOf_str, kdOf_none, List.length_map, backD_wipe, Int.toNat_natCast, Int.reduceEq, Int.reduceLT, Int.reduceLE, decide_true, decide_false, Int.reduceSub, Int.reduceNeg, Int.reduceToNat, Int.reducePow, Int.reduceAdd, Int.reduceMul, Bool.not_true, Bool.not_false, isNonD_int, isNonD_bool, isNonD_str, isNonD_list, isNonD_tup, isNonD_none, List.set_cons_zero, List.set_cons_succ])|((with_reducible show _ ≤ 1000000 ∧ _); refine And.intro (by omega) ?_)|((with_reducible show _ ≤ 100000 ∧ _); refine And.intro (by (try simp); omega) ?_)|((first|((with_reducible show (CA.Ph _ "_law_draw").io = true ∧ _); refine CA.draw_step rfl (by assumption) ⟨by assumption, by assumption⟩ (by omega) (by omega) (by omega) (by omega) fun a c r ha hc hc' hr hr' => ⟨_, rfl, ?_⟩)) <;> try simp only [fr_is_integer, fr_need_size, fr_is_cell, fr_cells_fault, fr_need_cells, fr_row_fault, fr_need_row, fr_slots_fault, fr_check_crossings, fr_need_crossings, fr_need_port, fr_need_slot, fr_need_number, fr_need_rhythm, fr__law_source, fr__law_draw, fr__law_lot, fr__law_line, fr__law_later, reduceCtorEq, Bool.false_eq_true, if_false, if_true, kdOf_z, kdOf_t, kdOf_int, kdOf_bool, kdOf_str, kdOf_none, List.length_map, backD_wipe, Int.toNat_natCast, Int.reduceEq, Int.reduceLT, Int.reduceLE, decide_true, decide_false, Int.reduceSub, Int.reduceNeg, Int.reduceToNat, Int.reducePow, Int.reduceAdd, Int.reduceMul, Bool.not_true, Bool.not_false, isNonD_int, isNonD_bool, isNonD_str, isNonD_list, isNonD_tup, isNonD_none, List.set_cons_zero, List.set_cons_succ])|((with_reducible show _ = _ ∧ (CA.Ph _ _).io = false ∧ _); refine And.intro rfl ?_; simp only [DL.pick, List.filterMap_cons, List.filterMap_nil, List.getElem?_cons_zero, List.getElem?_cons_succ])))|(with_reducible refine g_ifT ?_)|(with_reducible refine g_ifF ?_)|(with_reducible refine g_if (fun hb => ?_) (fun hb => ?_)))))
local macro_rules | `(tactic| nofun) => `(tactic| try simp only [fr_is_integer, fr_need_size, fr_is_cell, fr_cells_fault, fr_need_cells, fr_row_fault, fr_need_row, fr_slots_fault, fr_check_crossings, fr_need_crossings, fr_need_port, fr_need_slot, fr_need_number, fr_need_rhythm, fr__law_source, fr__law_draw, fr__law_lot, fr__law_line, fr__law_later, reduceCtorEq, Bool.false_eq_true, if_false, if_true, kdOf_z, kdOf_t, kdOf_int, kdOf_bool, kdOf_str, kdOf_none, List.length_map, backD_wipe, Int.toNat_natCast, Int.reduceEq, Int.reduceLT, Int.reduceLE, decide_true, decide_false, Int.reduceSub, Int.reduceNeg, Int.reduceToNat, Int.reducePow, Int.reduceAdd, Int.reduceMul, Bool.not_true, Bool.not_false, isNonD_int, isNonD_bool, isNonD_str, isNonD_list, isNonD_tup, isNonD_none, List.set_cons_zero, List.set_cons_succ])
theorem law__law_source (L : Phi) : ∀ ds post, F__law_source.sp ds post → ds.length = k__law_source ∧ rdSs (Ph L) b__law_source (env0 F__law_source.io N__law_source.length ds) (fnEnds F__law_source post) := by
  rintro ds post ⟨c, k, rfl, hk0, hk1, hp⟩
  refine ⟨rfl, ?_⟩
  show rdSs (Ph L) b__law_source [.frz (.int c), .frz (.int k), .un] _
  unfold b__law_source
  and_intros
  have e : 0 ≤ DL.b2i (decide (c < 0)) ∧ DL.b2i (decide (c < 0)) ≤ 1 := by unfold DL.b2i; split <;> omega
  obtain ⟨e1, e2⟩ := e
  generalize (if c < 0 then -c else c) = g
  refine ⟨rfl, .none, fun z => absurd z (by decide), hp _ _ ?_ ?_ ?_⟩
  · split <;> omega
  · omega
  · omega
theorem law__law_draw (L : Phi) : ∀ ds post, F__law_draw.sp ds post → ds.length = k__law_draw ∧ rdSs (Ph L) b__law_draw (env0 F__law_draw.io N__law_draw.length ds) (fnEnds F__law_draw post) := by
  rintro ds post ⟨a, b, c, n, rfl, ha, hb0, hb1, hc0, hc1, hn0, hn1, hp⟩
  refine ⟨rfl, ?_⟩
  show rdSs (Ph L) b__law_draw [.io (.list [.int a, .int b, .int c]), .frz (.int n), .un, .un] _
  unfold b__law_draw
  and_intros
  · refine ⟨hn0, Nat.lt_of_lt_of_le (log_lt (k := 400) ?_ (by decide)) (by decide)⟩
    have p4 : (10 : Int) ^ 110 < 2 ^ 400 := by decide +kernel
    omega
  · exact ⟨.inl nz, .list [.int (a / n), .int b, .int c], fun _ => ⟨[a / n, b, c], rfl, rfl⟩, hp _ _ _ (Int.ediv_nonneg ha (by omega)) (by omega) (by omega) (Int.emod_nonneg _ (by omega)) (Int.emod_lt_of_pos _ hn0)⟩
  · have m0 : 0 ≤ (b + 800011 * (c + 1)) ^ 3 % 100000000000000000000000000000000000133 := by omega
    have m1 : (b + 800011 * (c + 1)) ^ 3 % 100000000000000000000000000000000000133 < 100000000000000000000000000000000000133 := by omega
    generalize (b + 800011 * (c + 1)) ^ 3 % 100000000000000000000000000000000000133 = m at m0 m1
    have q0 : 0 ≤ m * (c + 1) := Int.mul_nonneg m0 (by omega)
    have q1 : m * (c + 1) ≤ m * 10000000 := Int.mul_le_mul_of_nonneg_left (by omega) m0
    exact (pow_mid (j := 3) (by omega) (by omega) (by omega) (by omega)).2.2
  · exact ⟨.inl nz, .list [.int a, .int b, .int (c + 1)], fun _ => ⟨[a, b, c + 1], rfl, rfl⟩, hp _ _ _ ha (by omega) (by omega) (Int.emod_nonneg _ (by omega)) (Int.emod_lt_of_pos _ hn0)⟩
theorem law__law_later (L : Phi) : ∀ ds post, F__law_later.sp ds post → ds.length = k__law_later ∧ rdSs (Ph L) b__law_later (env0 F__law_later.io N__law_later.length ds) (fnEnds F__law_later post) := by
  rintro ds post ⟨lot, line, base, rfl, hl, hl2, hp⟩
  refine ⟨rfl, ?_⟩
  show rdSs (Ph L) b__law_later [.frz (dL lot), .frz (dI line), .frz (.int base), .un, .un, .un] _
  unfold b__law_later
  and_intros
  refine e_lc ?_
  and_intros
  refine lc_fin lot dC (fun _ => true) (fun c => dC (c.1 + base, c.2)) rfl ?_ ?_ (by omega) ?_ ?_
  · rfl
  · exact .inl nz
  · rintro j ⟨a, p, g⟩ hj
    refine ⟨_, tg3_fz (by decide) (by decide) (by decide) rfl fz_un rfl fz_un rfl fz_un, rfl, fun P h => ?_, fun _ P h => ?_⟩
    · and_intros
      exact h
    · and_intros
      exact h _ nz
  nofun
  and_intros
  refine e_lc ?_
  and_intros
  refine lc_fin line .int (fun _ => true) (fun e => .int (e + base)) rfl ?_ ?_ (by omega) ?_ ?_
  · rfl
  · exact .inl nz
  · rintro j e hj
    refine ⟨_, tg_fz rfl fz_un, rfl, fun P h => ?_, fun _ P h => ?_⟩
    · and_intros
      exact h
    · and_intros
      exact h _ nz
  nofun
  and_intros
  have e1 : (lot.filter fun _ => true).map (fun c => dC (c.1 + base, c.2)) = (moved lot base).map dC := by
    rw [filter_tt]; unfold moved; rw [List.map_map]; rfl
  have e2 : (line.filter fun _ => true).map (fun e => PyData.int (e + base)) = (line.map (· + base)).map .int := by
    rw [filter_tt, List.map_map]; rfl
  rw [e1, e2]
  (first | exact ⟨.none, fun z => absurd z (by decide), hp⟩ | exact ⟨rfl, .none, fun z => absurd z (by decide), hp⟩ | exact ⟨.inl nz, .none, fun z => absurd z (by decide), hp⟩ | exact ⟨.inr rfl, .none, fun z => absurd z (by decide), hp⟩)
end CA

namespace CA
open PySem PySem.Spec PyProof.Rows L2 DL
set_option hygiene false
local macro_rules | `(tactic| and_intros) => `(tactic| (repeat' (first|((with_reducible show rdE _ _ _ _); (first|(with_reducible refine e_int ?_)|(with_reducible refine e_bl ?_)|(with_reducible refine e_non ?_)|(with_reducible refine e_str ?_)|(with_reducible refine e_gi ?_)|(with_reducible refine e_tup ?_)|(with_reducible refine e_lst ?_)|(with_reducible refine e_bin ?_)|(with_reducible refine e_neg ?_)|(with_reducible refine e_cmp ?_)|(with_reducible refine e_chain ?_)|(with_reducible refine e_not ?_)|(with_reducible refine e_ands ?_)|(with_reducible refine e_ors ?_)|(with_reducible refine e_ife ?_)|(with_reducible refine e_idx ?_)|(with_reducible refine e_call ?_)|(with_reducible refine e_callk ?_)|(with_reducible refine e_bi ?_)|(with_reducible refine e_ist ?_)|(with_reducible refine e_lrng1 ?_)|(with_reducible refine e_lrng2 ?_)|(with_reducible refine e_sset ?_)|(with_reducible refine e_dnewT ?_)|(with_reducible refine e_dinT ?_)|(with_reducible refine e_rev ?_)|(with_reducible refine e_cat ?_)|(with_reducible refine e_cat2 ?_)|(with_reducible refine e_mt ?_)|(with_reducible refine e_sl ?_)|((first|(with_reducible refine e_isN ?_)|(with_reducible refine e_notN ?_)) <;> try simp only [fr_is_integer, fr_need_size, fr_is_cell, fr_cells_fault, fr_need_cells, fr_row_fault, fr_need_row, fr_slots_fault, fr_check_crossings, fr_need_crossings, fr_need_port, fr_need_slot, fr_need_number, fr_need_rhythm, fr__law_source, fr__law_draw, fr__law_lot, fr__law_line, fr__law_later, reduceCtorEq, Bool.false_eq_true, if_false, if_true, kdOf_z, kdOf_t, kdOf_int, kdOf_bool, kdOf_str, kdOf_none, List.length_map, backD_wipe, Int.toNat_natCast, Int.reduceEq, Int.reduceLT, Int.reduceLE, decide_true, decide_false, Int.reduceSub, Int.reduceNeg, Int.reduceToNat, Int.reducePow, Int.reduceAdd, Int.reduceMul, Bool.not_true, Bool.not_false, isNonD_int, isNonD_bool, isNonD_str, isNonD_list, isNonD_tup, isNonD_none])|((with_reducible show rdE _ (.var _) _ _); refine e_frz rfl ?_)|((with_reducible show rdE _ (.var _) _ _); refine e_own rfl ?_)|((with_reducible show rdE _ (.var _) _ _); refine e_io rfl ?_)|((with_reducible show rdE _ (.mv _) _ _); refine e_mv rfl ?_)|((with_reducible show rdE _ (.idxv _ _) _ _); refine e_idxv rfl ?_)|((with_reducible show rdE _ (.callio _ _ _) _ _); refine e_callio rfl ?_)))|((with_reducible show rdSs _ _ _ _); (first|(with_reducible refine r_cons ?_)|(with_reducible refine r_nil ?_)))|((with_reducible show rdS _ _ _ _); (first|(with_reducible refine r_asgF ?_)|(with_reducible refine r_asgT ?_)|(with_reducible refine r_ret ?_)|(with_reducible refine r_retN ?_)|(with_reducible refine r_expr ?_)|(with_reducible refine r_iff ?_)|(with_reducible refine r_brk ?_)|(with_reducible refine r_cont ?_)|(with_reducible refine r_pas ?_)|(with_reducible refine r_asgTs ?_)|((with_reducible show rdS _ (.setv _ _ _) _ _); refine r_setv rfl ?_)|((with_reducible show rdS _ (.mut _ _ _) _ _); refine r_mut ⟨_, rfl⟩ ?_)|((with_reducible show rdS _ (.dputT _ _ _) _ _); refine r_dputT rfl ?_)|((with_reducible show rdS _ (.aug _ _ _) _ _); refine r_aug rfl ?_)|(with_reducible refine r_par ?_)))|((with_reducible show rdEs _ _ _ _); (first|(with_reducible refine s_nil ?_)|(with_reducible refine s_cons ?_)))|((with_reducible show rdAnd _ _ _ _); (first|(with_reducible refine a_two ?_)|(with_reducible refine a_one ?_)))|((with_reducible show rdOr _ _ _ _); (first|(with_reducible refine o_two ?_)|(with_reducible refine o_one ?_)))|((with_reducible show rdI _ _ _ _); (first|(with_reducible refine w_lst ?_)|(with_reducible refine w_tup ?_)|(with_reducible refine w_rng1 ?_)|(with_reducible refine w_rng2 ?_)|(with_reducible refine w_enum ?_)|(with_reducible refine w_zip ?_)))|((with_reducible show rdC _ _ _ _); (first|(with_reducible refine c_nil ?_)|(with_reducible refine c_one ?_)))|((with_reducible show rdO _ _ _ _); (first|(with_reducible refine o_no ?_)|(with_reducible refine o_so ?_)))|((with_reducible show rdPs _ _ _ _ _); (first|(with_reducible refine r_psN ?_)|(with_reducible refine r_psF ?_)|(with_reducible refine r_psT ?_)|((with_reducible show rdPs _ _ (List.map _ _) _ _); simp only [List.map_cons, List.map_nil])))|((with_reducible show ∃ t, truthD _ = some t ∧ _); (first|(with_reducible refine r_tn ?_)|((with_reducible show ∃ t, truthD _ = some t ∧ _); simp only [isNonD_int, isNonD_bool, isNonD_str, isNonD_list, isNonD_tup, isNonD_none, Bool.not_true, Bool.not_false])|(with_reducible refine r_tT ?_)|(with_reducible refine r_tF ?_)|(with_reducible refine r_tbA (by assumption) ?_)|(with_reducible refine r_tbB (by assumption) ?_)|(with_reducible refine r_tb (fun hb => ?_) (fun hb => ?_))|((with_reducible refine r_not ?_); try simp only [Bool.not_true, Bool.not_false])))|((with_reducible show ∃ r, cmpD _ _ _ = some r ∧ _); (first|((first|(with_reducible refine g_ex (by assumption) ?_)) <;> try simp only [fr_is_integer, fr_need_size, fr_is_cell, fr_cells_fault, fr_need_cells, fr_row_fault, fr_need_row, fr_slots_fault, fr_check_crossings, fr_need_crossings, fr_need_port, fr_need_slot, fr_need_number, fr_need_rhythm, fr__law_source, fr__law_draw, fr__law_lot, fr__law_line, fr__law_later, reduceCtorEq, Bool.false_eq_true, if_false, if_true, kdOf_z, kdOf_t, kdOf_int, kdOf_bool, kdOf_str, kdOf_none, List.length_map, backD_wipe, Int.toNat_natCast, Int.reduceEq, Int.reduceLT, Int.reduceLE, decide_true, decide_false, Int.reduceSub, Int.reduceNeg, Int.reduceToNat, Int.reducePow, Int.reduceAdd, Int.reduceMul, Bool.not_true, Bool.not_false, isNonD_int, isNonD_bool, isNonD_str, isNonD_list, isNonD_tup, isNonD_none])|(with_reducible refine g_ex (ne_same _) ?_)|(with_reducible refine g_ex (eq_same _) ?_)|(with_reducible refine g_ex (ne_samei _) ?_)|(with_reducible refine g_ex (Shw.ne (by assumption)) ?_)|(with_reducible refine g_ex (Shw.eq (by assumption)) ?_)|(refine g_ex inn_ints ?_)|(refine g_ex (ne_nil _) ?_)|(refine g_ex (eq_nil _) ?_)|(refine g_ex (eq_ints _ _) ?_)|(refine g_ex (ne_ints _ _) ?_)|(refine g_ex rfl ?_)))|((with_reducible show ∃ t r, biD _ _ = some (t, r) ∧ _); (first|((first|(refine e_istE rfl ?_)|((with_reducible refine bi_F (by assumption) (Or.inl nz) ?_))|((with_reducible refine bi_F (sum_ints _) (Or.inl nz) ?_))|((with_reducible refine bi_F (sum_ints _) (Or.inl nt) ?_))|((with_reducible refine bi_T (biD_sorted _) (Or.inl nz) ?_))|((with_reducible refine bi_T (biD_sorted _) (Or.inl nt) ?_))|((with_reducible refine bi_F (Shw.repr (by assumption)) (Or.inl nz) ?_))|((with_reducible refine bi_F (Shw.repr (by assumption)) (Or.inl nt) ?_))|((with_reducible refine bi_F (Shw.repr (by assumption)) (.inr rfl) ?_))|(refine bi_F rfl (Or.inl nz) ?_)|(refine bi_F rfl (Or.inl nt) ?_)|(refine bi_F rfl (.inr rfl) ?_)) <;> try simp only [fr_is_integer, fr_need_size, fr_is_cell, fr_cells_fault, fr_need_cells, fr_row_fault, fr_need_row, fr_slots_fault, fr_check_crossings, fr_need_crossings, fr_need_port, fr_need_slot, fr_need_number, fr_need_rhythm, fr__law_source, fr__law_draw, fr__law_lot, fr__law_line, fr__law_later, reduceCtorEq, Bool.false_eq_true, if_false, if_true, kdOf_z, kdOf_t, kdOf_int, kdOf_bool, kdOf_str, kdOf_none, List.length_map, backD_wipe, Int.toNat_natCast, Int.reduceEq, Int.reduceLT, Int.reduceLE, decide_true, decide_false, Int.reduceSub, Int.reduceNeg, Int.reduceToNat, Int.reducePow, Int.reduceAdd, Int.reduceMul, Bool.not_true, Bool.not_false, isNonD_int, isNonD_bool, isNonD_str, isNonD_list, isNonD_tup, isNonD_none])))|((with_reducible show Exists _); (first|(with_reducible refine g_int ?_)|(with_reducible refine g_int2 ?_)|(with_reducible refine g_list ?_)|(with_reducible refine g_list2 ?_)|(with_reducible refine g_tup ?_)|((first|((with_reducible show ∃ t r, binD .add (.list _) (.list _) = some (t, r) ∧ _); refine b_cat3 (by constructor <;> (first|exact nz|exact nt)) (by simp [rangeD_length]; omega) ?_)|((with_reducible show ∃ t r, binD .mul (.list [.int _]) (.int _) = some (t, r) ∧ _); refine b_zeros (by omega) ?_)) <;> try simp only [fr_is_integer, fr_need_size, fr_is_cell, fr_cells_fault, fr_need_cells, fr_row_fault, fr_need_row, fr_slots_fault, fr_check_crossings, fr_need_crossings, fr_need_port, fr_need_slot, fr_need_number, fr_need_rhythm, fr__law_source, fr__law_draw, fr__law_lot, fr__law_line, fr__law_later, reduceCtorEq, Bool.false_eq_true, if_false, if_true, kdOf_z, kdOf_t, kdOf_int, kdOf_bool, kdOf_str, kdOf_none, List.length_map, backD_wipe, Int.toNat_natCast, Int.reduceEq, Int.reduceLT, Int.reduceLE, decide_true, decide_false, Int.reduceSub, Int.reduceNeg, Int.reduceToNat, Int.reducePow, Int.reduceAdd, Int.reduceMul, Bool.not_true, Bool.not_false, isNonD_int, isNonD_bool, isNonD_str, isNonD_list, isNonD_tup, isNonD_none])|((with_reducible show ∃ env2, tgD (.tp (.cons _ (.cons _ .nil))) _ _ = some env2 ∧ _); refine r_some (tg2_fz (by decide) rfl (by first|exact fz_un|exact fz_frz|assumption) rfl (by first|exact fz_un|exact fz_frz|assumption)) ?_)|(refine r_some rfl ?_)|(refine r_some (asg_fz rfl (by assumption)) ?_)|(refine r_some (asgt_fz rfl (by assumption)) ?_)|(refine r_some (asgo_ni rfl (by assumption)) ?_)|(refine r_augE rfl rfl ?_)|(refine r_put2 rfl rfl rfl ?_)|((first|(refine i_list rfl rfl ?_)|(refine i_list rfl (at_last (by assumption)) ?_)|(refine i_list rfl (at_last2 (by assumption)) ?_)|(refine i_list rfl (map_nat (by assumption) (by omega)) ?_)|(refine i_list rfl (atI_ints (by omega) (by omega)) ?_)|(refine i_list rfl (atI_ints ?_ ?_) ?_)|(refine i_tup rfl rfl ?_)) <;> try simp only [fr_is_integer, fr_need_size, fr_is_cell, fr_cells_fault, fr_need_cells, fr_row_fault, fr_need_row, fr_slots_fault, fr_check_crossings, fr_need_crossings, fr_need_port, fr_need_slot, fr_need_number, fr_need_rhythm, fr__law_source, fr__law_draw, fr__law_lot, fr__law_line, fr__law_later, reduceCtorEq, Bool.false_eq_true, if_false, if_true, kdOf_z, kdOf_t, kdOf_int, kdOf_bool, kdOf_str, kdOf_none, List.length_map, backD_wipe, Int.toNat_natCast, Int.reduceEq, Int.reduceLT, Int.reduceLE, decide_true, decide_false, Int.reduceSub, Int.reduceNeg, Int.reduceToNat, Int.reducePow, Int.reduceAdd, Int.reduceMul, Bool.not_true, Bool.not_false, isNonD_int, isNonD_bool, isNonD_str, isNonD_list, isNonD_tup, isNonD_none])))|((with_reducible show _ ∧ _); (first|((with_reducible show (CA.Ph _ _).io = false ∧ _); (first|((with_reducible show (CA.Ph _ "is_integer").io = false ∧ _); first|(refine CA.st_isI_t rfl (by first|assumption|omega) (by first|assumption|omega) ?_)|(refine CA.st_isI2 rfl  ?_)|(refine CA.st_isI1 rfl  ?_)|(refine CA.st_isI0 rfl  ?_))|((with_reducible show (CA.Ph _ "need_size").io = false ∧ _); first|(refine CA.st_need_size rfl (by first|assumption|omega) (by first|assumption|omega) ?_))|((with_reducible show (CA.Ph _ "need_port").io = false ∧ _); first|(refine CA.st_need_port rfl (by first|assumption|omega) (by first|assumption|omega) ?_))|((with_reducible show (CA.Ph _ "need_slot").io = false ∧ _); first|(refine CA.st_need_slot rfl (by first|assumption|omega) (by first|assumption|omega) ?_))|((with_reducible show (CA.Ph _ "need_number").io = false ∧ _); first|(refine CA.st_need_number2 rfl (by first|assumption|omega) (by first|assumption|omega) ?_)|(refine CA.st_need_number1 rfl (by first|assumption|omega) ?_))|((with_reducible show (CA.Ph _ "cells_fault").io = false ∧ _); first|(refine CA.st_cells_fault rfl (by first|assumption|omega) ?_))|((with_reducible show (CA.Ph _ "need_cells").io = false ∧ _); first|(refine CA.st_need_cells rfl (by first|assumption|omega) (by first|assumption|omega) (by first|assumption|omega) ?_))|((with_reducible show (CA.Ph _ "row_fault").io = false ∧ _); first|(refine CA.st_row_fault rfl (by first|assumption|omega) (by first|assumption|omega) (by first|assumption|omega) ?_))|((with_reducible show (CA.Ph _ "need_row").io = false ∧ _); first|(refine CA.st_need_row rfl (by first|assumption|omega) (by first|assumption|omega) (by first|assumption|omega) (by first|assumption|omega) ?_))|((with_reducible show (CA.Ph _ "slots_fault").io = false ∧ _); first|(refine CA.st_slots_fault rfl (by first|assumption|omega) (by first|assumption|omega) ?_))|((with_reducible show (CA.Ph _ "check_crossings").io = false ∧ _); first|(refine CA.st_check_crossings rfl (by first|assumption|omega) (by first|assumption|omega) ?_))|((with_reducible show (CA.Ph _ "need_crossings").io = false ∧ _); first|(refine CA.st_need_crossings rfl (by first|assumption|omega) (by first|assumption|omega) (by first|assumption|omega) (by first|assumption|omega) ?_))|((with_reducible show (CA.Ph _ "need_rhythm").io = false ∧ _); first|(refine CA.st_need_rhythm rfl (by first|assumption|omega) ?_))|((with_reducible show (CA.Ph _ "_law_later").io = false ∧ _); first|(refine CA.st__law_later rfl (by first|assumption|omega) (by first|assumption|omega) ?_))))|((with_reducible show (False → _) ∧ ∃ ds ds' env2, ownD _ _ = some (.list ds) ∧ mutD .append ds _ = some ds' ∧ _); refine r_app4 rfl (by simp; omega) rfl ?_)|((with_reducible show (False → _) ∧ ∃ ds ds' env2, ownD _ _ = some (.list ds) ∧ mutD .append ds _ = some ds' ∧ _); refine r_app4 rfl ?_ rfl ?_)|((first|(with_reducible refine c_lt ?_)|(with_reducible refine c_le ?_)|(with_reducible refine c_gt ?_)|(with_reducible refine c_ge ?_)|(with_reducible refine c_eq ?_)|(with_reducible refine c_ne ?_)|(with_reducible refine b_add ?_)|(with_reducible refine b_sub ?_)|(refine g_rng (by unfold okRng; omega) ?_)|((with_reducible show (Kd.z ≠ _ ∨ _) ∧ ∃ t r, binD _ (.int _) (.int _) = some (t, r) ∧ _); refine b_mul (log_small (by omega) (by omega)) ?_)|((with_reducible show (Kd.z ≠ _ ∨ _) ∧ ∃ t r, binD _ (.int _) (.int _) = some (t, r) ∧ _); refine b_mul (log_mid (by omega) (by omega) (by omega) (by omega)) ?_)|((with_reducible show (Kd.z ≠ _ ∨ _) ∧ ∃ t r, binD _ (.int _) (.int _) = some (t, r) ∧ _); refine b_mod (by omega) ?_)|((with_reducible show (Kd.z ≠ _ ∨ _) ∧ ∃ t r, binD _ (.int _) (.int _) = some (t, r) ∧ _); refine b_div (div_c (by omega) (by omega)) ?_)|((with_reducible show (Kd.z ≠ _ ∨ _) ∧ ∃ t r, binD _ (.int _) (.int _) = some (t, r) ∧ _); refine b_div ⟨by omega, by decide⟩ ?_)|((with_reducible show (Kd.z ≠ _ ∨ _) ∧ ∃ t r, binD _ (.int _) (.int _) = some (t, r) ∧ _); refine b_div (div_m (by omega) (by omega)) ?_)|((with_reducible show (Kd.z ≠ _ ∨ _) ∧ ∃ t r, binD _ (.int _) (.int _) = some (t, r) ∧ _); refine b_pow (by decide) ?_)|((with_reducible show (Kd.z ≠ _ ∨ _) ∧ ∃ t r, binD _ (.int _) (.int _) = some (t, r) ∧ _); refine b_pow (pow_mid (by omega) (by omega) (by omega) (by omega)) ?_)|((with_reducible refine b_mul ?_ ?_))|((with_reducible refine b_mod ?_ ?_))|((with_reducible refine b_div ?_ ?_))|((with_reducible refine b_pow ?_ ?_))|((with_reducible refine g_rng ?_ ?_))) <;> try simp only [fr_is_integer, fr_need_size, fr_is_cell, fr_cells_fault, fr_need_cells, fr_row_fault, fr_need_row, fr_slots_fault, fr_check_crossings, fr_need_crossings, fr_need_port, fr_need_slot, fr_need_number, fr_need_rhythm, fr__law_source, fr__law_draw, fr__law_lot, fr__law_line, fr__law_later, reduceCtorEq, Bool.false_eq_true, if_false, if_true, kdOf_z, kdOf_t, kdOf_int, kdOf_bool, kdOf_str, kdOf_none, List.length_map, backD_wipe, Int.toNat_natCast, Int.reduceEq, Int.reduceLT, Int.reduceLE, decide_true, decide_false, Int.reduceSub, Int.reduceNeg, Int.reduceToNat, Int.reducePow, Int.reduceAdd, Int.reduceMul, Bool.not_true, Bool.not_false, isNonD_int, isNonD_bool, isNonD_str, isNonD_list, isNonD_tup, isNonD_none])|(refine e_chainE rfl (fun hb => ?_) (fun hb => ?_))|(with_reducible refine g_true ?_)|((first|(refine e_idxE (Or.inl nt) rfl ?_)|(refine e_idxE (Or.inl nz) rfl ?_)|(refine g_len (Nat.le_of_ble_eq_true rfl) ?_)|(with_reducible refine g_nbz ?_)|(with_reducible refine g_nbt ?_)|(with_reducible refine g_oz ?_)|(with_reducible refine g_ot ?_)|(with_reducible refine g_eqt ?_)|((with_reducible show (_ ∨ _ = true ∧ _ = true) ∧ _); refine And.intro (.inr ⟨rfl, rfl⟩) ?_)|((with_reducible show (_ ∨ flats (List.map PyData.int _) = true) ∧ _); refine And.intro (.inr (flats_ints _)) ?_)|(refine g_pur rfl ?_)) <;> try simp only [fr_is_integer, fr_need_size, fr_is_cell, fr_cells_fault, fr_need_cells, fr_row_fault, fr_need_row, fr_slots_fault, fr_check_crossings, fr_need_crossings, fr_need_port, fr_need_slot, fr_need_number, fr_need_rhythm, fr__law_source, fr__law_draw, fr__law_lot, fr__law_line, fr__law_later, reduceCtorEq, Bool.false_eq_true, if_false, if_true, kdOf_z, kdOf_t, kdOf_int, kdOf_bool, kdOf_str, kdOf_none, List.length_map, backD_wipe, Int.toNat_natCast, Int.reduceEq, Int.reduceLT, Int.reduceLE, decide_true, decide_false, Int.reduceSub, Int.reduceNeg, Int.reduceToNat, Int.reducePow, Int.reduceAdd, Int.reduceMul, Bool.not_true, Bool.not_false, isNonD_int, isNonD_bool, isNonD_str, isNonD_list, isNonD_tup, isNonD_none])|((with_reducible show _ ≤ 1000000 ∧ _); refine And.intro (by omega) ?_)|((with_reducible show _ ≤ 100000 ∧ _); refine And.intro (by (try simp); omega) ?_)|((first|((with_reducible show (CA.Ph _ "_law_draw").io = true ∧ _); refine CA.draw_step rfl (by assumption) ⟨by assumption, by assumption⟩ (by omega) (by omega) (by omega) (by omega) fun a c r ha hc hc' hr hr' => ⟨_, rfl, ?_⟩)) <;> try simp only [fr_is_integer, fr_need_size, fr_is_cell, fr_cells_fault, fr_need_cells, fr_row_fault, fr_need_row, fr_slots_fault, fr_check_crossings, fr_need_crossings, fr_need_port, fr_need_slot, fr_need_number, fr_need_rhythm, fr__law_source, fr__law_draw, fr__law_lot, fr__law_line, fr__law_later, reduceCtorEq, Bool.false_eq_true, if_false, if_true, kdOf_z, kdOf_t, kdOf_int, kdOf_bool, kdOf_str, kdOf_none, List.length_map, backD_wipe, Int.toNat_natCast, Int.reduceEq, Int.reduceLT, Int.reduceLE, decide_true, decide_false, Int.reduceSub, Int.reduceNeg, Int.reduceToNat, Int.reducePow, Int.reduceAdd, Int.reduceMul, Bool.not_true, Bool.not_false, isNonD_int, isNonD_bool, isNonD_str, isNonD_list, isNonD_tup, isNonD_none])|((with_reducible show _ = _ ∧ (CA.Ph _ _).io = false ∧ _); refine And.intro rfl ?_; simp only [DL.pick, List.filterMap_cons, List.filterMap_nil, List.getElem?_cons_zero, List.getElem?_cons_succ])))|(with_reducible refine g_ifT ?_)|(with_reducible refine g_ifF ?_)|(with_reducible refine g_if (fun hb => ?_) (fun hb => ?_)))))
local macro_rules | `(tactic| nofun) => `(tactic| try simp only [fr_is_integer, fr_need_size, fr_is_cell, fr_cells_fault, fr_need_cells, fr_row_fault, fr_need_row, fr_slots_fault, fr_check_crossings, fr_need_crossings, fr_need_port, fr_need_slot, fr_need_number, fr_need_rhythm, fr__law_source, fr__law_draw, fr__law_lot, fr__law_line, fr__law_later, reduceCtorEq, Bool.false_eq_true, if_false, if_true, kdOf_z, kdOf_t, kdOf_int, kdOf_bool, kdOf_str, kdOf_none, List.length_map, backD_wipe, Int.toNat_natCast, Int.reduceEq, Int.reduceLT, Int.reduceLE, decide_true, decide_false, Int.reduceSub, Int.reduceNeg, Int.reduceToNat, Int.reducePow, Int.reduceAdd, Int.reduceMul, Bool.not_true, Bool.not_false, isNonD_int, isNonD_bool, isNonD_str, isNonD_list, isNonD_tup, isNonD_none])
/-- cells so far: slots up to at_, in it ports below i -/
structure Pre (n : Int) (lot : List Cell) (at_ i : Int) : Prop where
  ok : ∀ c ∈ lot, 0 ≤ c.1 ∧ 0 ≤ c.2.1 ∧ c.2.1 < n ∧ 0 ≤ c.2.2 ∧ c.2.2 < n ∧ (c.1 < at_ ∨ c.1 = at_ ∧ c.2.1 < i)
  ord : lot.Pairwise lt2
theorem pre_nil (n : Int) : Pre n [] 0 0 := ⟨fun _ h => absurd h List.not_mem_nil, List.Pairwise.nil⟩
theorem pre_snoc {n : Int} {lot : List Cell} {at_ i x : Int} (h : Pre n lot at_ i) (h0 : 0 ≤ at_) (h1 : 0 ≤ i) (h2 : i < n) (h3 : 0 ≤ x) (h4 : x < n) : Pre n (lot ++ [(at_, i, x)]) at_ (i + 1) := by
  refine ⟨fun c hc => ?_, List.pairwise_append.mpr ⟨h.ord, List.pairwise_singleton _ _, fun a ha b hb => ?_⟩⟩
  · rcases List.mem_append.mp hc with z | z
    · have := h.ok c z; omega
    · have e : c = (at_, i, x) := by simpa using z
      rw [e]
      exact ⟨h0, h1, h2, h3, h4, .inr ⟨rfl, by show i < i + 1; omega⟩⟩
  · have e : b = (at_, i, x) := by simpa using hb
    subst e
    exact (h.ok a ha).2.2.2.2.2
theorem pre_up {n : Int} {lot : List Cell} {at_ i : Int} (h : Pre n lot at_ i) : Pre n lot at_ (i + 1) := ⟨fun c hc => by have := h.ok c hc; omega, h.ord⟩
theorem pre_next {n : Int} {lot : List Cell} {at_ : Int} (h : Pre n lot at_ n) : Pre n lot (at_ + 1) 0 := ⟨fun c hc => by have := h.ok c hc; omega, h.ord⟩
theorem pre_lot {n m : Int} {lot : List Cell} (h : Pre n lot m 0) (hm : m ≤ 40) : Lot n (lot.take 60) ∧ ∀ c ∈ lot.take 60, c.1 < m := by
  have sub : ∀ c ∈ lot.take 60, c ∈ lot := fun c hc => List.mem_of_mem_take hc
  refine ⟨⟨by rw [List.length_take]; omega, fun c hc => ?_, fun c hc => ?_, fun c hc => ?_, fun c hc => ?_, fun c hc => ?_, fun c hc => ?_, h.ord.sublist (List.take_sublist _ _)⟩, fun c hc => ?_⟩ <;> (have := h.ok c (sub c hc); omega)
theorem cut60 (lot : List Cell) : DL.cutD (lot.map dC) none (some 60) = (lot.take 60).map dC := by
  unfold DL.cutD
  rw [List.map_take]
  have e1 : HT.sIx (lot.map dC).length 0 none = 0 := rfl
  rw [e1, List.drop_zero, Nat.sub_zero]
  have e2 : HT.sIx (lot.map dC).length (lot.map dC).length (some 60) = min 60 (lot.map dC).length := by
    unfold HT.sIx
    simp
  rw [e2]
  by_cases z : 60 ≤ (lot.map dC).length
  · rw [Nat.min_eq_left z]
  · rw [Nat.min_eq_right (by omega), List.take_of_length_le (by omega), List.take_of_length_le (by omega)]
theorem law__law_lot (L : Phi) : ∀ ds post, F__law_lot.sp ds post → ds.length = k__law_lot ∧ rdSs (Ph L) b__law_lot (env0 F__law_lot.io N__law_lot.length ds) (fnEnds F__law_lot post) := by
  rintro ds post ⟨s0, b, k0, n, m, rfl, hs0, hb0, hb1, hk0, hk1, hn0, hn1, hm0, hm1, hp⟩
  refine ⟨rfl, ?_⟩
  obtain ⟨N, rfl⟩ : ∃ N : Nat, n = (N : Int) := ⟨n.toNat, by omega⟩
  obtain ⟨M, rfl⟩ : ∃ M : Nat, m = (M : Int) := ⟨m.toNat, by omega⟩
  show rdSs (Ph L) b__law_lot [.io (.list [.int s0, .int b, .int k0]), .frz (.int N), .frz (.int M), .un, .un, .un, .un, .un, .un, .un] _
  unfold b__law_lot
  and_intros
  rename_i a1 c1 w ha1 hc1 hc1' hw0 hw1
  refine r_for ?_
  and_intros
  refine for_inv (List.range M) (fun i => .int (i : Nat)) (fun j env => ∃ (a' c' : Int) (lot : List Cell), 0 ≤ a' ∧ k0 ≤ c' ∧ c' ≤ k0 + 2 + 30 * j ∧ Pre N lot j 0 ∧ lot.length ≤ 8 * j ∧ env = [.io (src a' b c'), .frz (.int N), .frz (.int M), .frz (.int w), .frz (.int r), .own (dL lot), .un, .un, .un, .un]) ?_ ?_ ?_ ?_
  · exact range_eq
  · exact ⟨a, c, [], ha, by omega, by omega, pre_nil _, by simp, rfl⟩
  · rintro j i env hj ⟨a2, c2, lot, ha2, hc2, hc2', hpre, hlen, rfl⟩
    obtain ⟨hj, rfl⟩ := range_at hj
    refine ⟨_, tg_fz rfl fz_un, ?_⟩
    have inner : ∀ (f : Bool) (a3 c3 : Int), 0 ≤ a3 → k0 ≤ c3 → c3 ≤ k0 + 3 + 30 * i → ∀ (Nx : DEnv → Prop) (Rt : Kd → D → DEnv → Prop) (Bk Ct : DEnv → Prop),
        (∀ (a4 c4 : Int) (lot2 : List Cell), 0 ≤ a4 → k0 ≤ c4 → c4 ≤ k0 + 3 + 30 * i + 3 * N → Pre N lot2 i N → lot2.length ≤ 8 * i + N → Nx [.io (src a4 b c4), .frz (.int N), .frz (.int M), .frz (.int w), .frz (.int r), .own (dL lot2), .frz (.int (i : Nat)), .frz (.bool f), .un, .un]) →
        rdS (Ph L) (match b__law_lot with | .cons _ (.cons (.forr _ _ (.cons _ (.cons s _)) _) _) => s | _ => .pas) [.io (src a3 b c3), .frz (.int N), .frz (.int M), .frz (.int w), .frz (.int r), .own (dL lot), .frz (.int (i : Nat)), .frz (.bool f), .un, .un] { nx := Nx, rt := Rt, bk := Bk, ct := Ct } := by
      intro f a3 c3 ha3 hc3 hc3' Nx Rt Bk Ct fin
      unfold b__law_lot
      show rdS (Ph L) (.forr _ _ _ _) _ _
      refine r_for ?_
      and_intros
      refine for_inv (List.range N) (fun i => .int (i : Nat)) (fun t env => ∃ (a' c' : Int) (lot2 : List Cell), 0 ≤ a' ∧ k0 ≤ c' ∧ c' ≤ k0 + 3 + 30 * i + 3 * t ∧ Pre N lot2 i t ∧ lot2.length ≤ 8 * i + t ∧
        env = [.io (src a' b c'), .frz (.int N), .frz (.int M), .frz (.int w), .frz (.int r), .own (dL lot2), .frz (.int (i : Nat)), .frz (.bool f), .un, .un]) ?_ ?_ ?_ ?_
      · exact range_eq
      · exact ⟨a3, c3, lot, ha3, by omega, by omega, hpre, by omega, rfl⟩
      · rintro j2 t env ht ⟨a4, c4, lot2, ha4, hc4, hc4', hpre4, hlen4, rfl⟩
        obtain ⟨ht, rfl⟩ := range_at ht
        refine ⟨_, tg_fz rfl fz_un, ?_⟩
        have hz : sizeLine > 1000 := by decide
        have leaf0 : ∀ a5 c5 : Int, 0 ≤ a5 → c4 ≤ c5 → c5 ≤ c4 + 3 → ∃ (a' c' : Int) (lot2' : List Cell), 0 ≤ a' ∧ k0 ≤ c' ∧ c' ≤ k0 + 3 + 30 * i + 3 * ((t + 1 : Nat) : Int) ∧ Pre N lot2' i ((t + 1 : Nat) : Int) ∧ lot2'.length ≤ 8 * i + (t + 1) ∧
            [Slot.io (src a5 b c5), .frz (.int N), .frz (.int M), .frz (.int w), .frz (.int r), .own (dL lot2), .frz (.int (i : Nat)), .frz (.bool f), .un, .un] = [.io (src a' b c'), .frz (.int N), .frz (.int M), .frz (.int w), .frz (.int r), .own (dL lot2'), .frz (.int (i : Nat)), .frz (.bool f), .un, .un] := fun a5 c5 h1 h2 h3 =>
          ⟨a5, c5, lot2, h1, by omega, by omega, pre_up hpre4, by omega, rfl⟩
        have leaf1 : ∀ a5 c5 x : Int, 0 ≤ a5 → c4 ≤ c5 → c5 ≤ c4 + 3 → 0 ≤ x → x < N → ∃ (a' c' : Int) (lot2' : List Cell), 0 ≤ a' ∧ k0 ≤ c' ∧ c' ≤ k0 + 3 + 30 * i + 3 * ((t + 1 : Nat) : Int) ∧ Pre N lot2' i ((t + 1 : Nat) : Int) ∧ lot2'.length ≤ 8 * i + (t + 1) ∧
            [Slot.io (src a5 b c5), .frz (.int N), .frz (.int M), .frz (.int w), .frz (.int r), .own (.list (lot2.map dC ++ [.tuple [.int (i : Nat), .int (t : Nat), .int x]])), .frz (.int (i : Nat)), .frz (.bool f), .un, .un] = [.io (src a' b c'), .frz (.int N), .frz (.int M), .frz (.int w), .frz (.int r), .own (dL lot2'), .frz (.int (i : Nat)), .frz (.bool f), .un, .un] := fun a5 c5 x h1 h2 h3 h4 h5 =>
          ⟨a5, c5, lot2 ++ [((i : Int), (t : Int), x)], h1, by omega, by omega, pre_snoc hpre4 (by omega) (by omega) (by omega) h4 h5, by simp; omega, by simp [dL, dC]⟩
        have hw : w = 0 ∨ w = 1 ∨ w = 2 ∨ w = 3 := by omega
        rcases hw with rfl | rfl | rfl | rfl
        all_goals and_intros
        all_goals first
          | exact leaf0 _ _ (by assumption) (by omega) (by omega)
          | exact leaf1 _ _ _ (by assumption) (by omega) (by omega) (by assumption) (by assumption)
      · rintro env ⟨a4, c4, lot2, ha4, hc4, hc4', hpre4, hlen4, rfl⟩
        rw [List.length_range] at hpre4 hc4' hlen4
        exact fin a4 c4 lot2 ha4 hc4 hc4' hpre4 hlen4
    have hw : w = 0 ∨ w = 1 ∨ w = 2 ∨ w = 3 := by omega
    rcases hw with rfl | rfl | rfl | rfl
    all_goals and_intros
    all_goals refine inner _ _ _ (by assumption) (by omega) (by omega) _ _ _ _ fun a4 c4 lot2 h1 h2 h3 h4 h5 => ?_
    all_goals and_intros
    all_goals exact ⟨a4, c4, lot2, h1, h2, by omega, pre_next h4, by omega, rfl⟩
  · rintro env ⟨a2, c2, lot, ha2, hc2, hc2', hpre, hlen, rfl⟩
    rw [List.length_range] at hpre hc2' hlen
    have := pre_lot hpre (by omega)
    refine r_frz rfl ?_
    and_intros
    rw [cut60]
    refine ⟨rfl, src a2 b c2, fun _ => ⟨[a2, b, c2], rfl, rfl⟩, hp _ _ _ ha2 (by omega) (by omega) this.1 this.2⟩
end CA

namespace CA
open PySem PySem.Spec PyProof.Rows L2 DL
set_option hygiene false
local macro_rules | `(tactic| and_intros) => `(tactic| (repeat' (first|((with_reducible show rdE _ _ _ _); (first|(with_reducible refine e_int ?_)|(with_reducible refine e_bl ?_)|(with_reducible refine e_non ?_)|(with_reducible refine e_str ?_)|(with_reducible refine e_gi ?_)|(with_reducible refine e_tup ?_)|(with_reducible refine e_lst ?_)|(with_reducible refine e_bin ?_)|(with_reducible refine e_neg ?_)|(with_reducible refine e_cmp ?_)|(with_reducible refine e_chain ?_)|(with_reducible refine e_not ?_)|(with_reducible refine e_ands ?_)|(with_reducible refine e_ors ?_)|(with_reducible refine e_ife ?_)|(with_reducible refine e_idx ?_)|(with_reducible refine e_call ?_)|(with_reducible refine e_callk ?_)|(with_reducible refine e_bi ?_)|(with_reducible refine e_ist ?_)|(with_reducible refine e_lrng1 ?_)|(with_reducible refine e_lrng2 ?_)|(with_reducible refine e_sset ?_)|(with_reducible refine e_dnewT ?_)|(with_reducible refine e_dinT ?_)|(with_reducible refine e_rev ?_)|(with_reducible refine e_cat ?_)|(with_reducible refine e_cat2 ?_)|(with_reducible refine e_mt ?_)|(with_reducible refine e_sl ?_)|((first|(with_reducible refine e_isN ?_)|(with_reducible refine e_notN ?_)) <;> try simp only [fr_is_integer, fr_need_size, fr_is_cell, fr_cells_fault, fr_need_cells, fr_row_fault, fr_need_row, fr_slots_fault, fr_check_crossings, fr_need_crossings, fr_need_port, fr_need_slot, fr_need_number, fr_need_rhythm, fr__law_source, fr__law_draw, fr__law_lot, fr__law_line, fr__law_later, reduceCtorEq, Bool.false_eq_true, if_false, if_true, kdOf_z, kdOf_t, kdOf_int, kdOf_bool, kdOf_str, kdOf_none, List.length_map, backD_wipe, Int.toNat_natCast, Int.reduceEq, Int.reduceLT, Int.reduceLE, decide_true, decide_false, Int.reduceSub, Int.reduceNeg, Int.reduceToNat, Int.reducePow, Int.reduceAdd, Int.reduceMul, Bool.not_true, Bool.not_false, isNonD_int, isNonD_bool, isNonD_str, isNonD_list, isNonD_tup, isNonD_none])|((with_reducible show rdE _ (.var _) _ _); refine e_frz rfl ?_)|((with_reducible show rdE _ (.var _) _ _); refine e_own rfl ?_)|((with_reducible show rdE _ (.var _) _ _); refine e_io rfl ?_)|((with_reducible show rdE _ (.mv _) _ _); refine e_mv rfl ?_)|((with_reducible show rdE _ (.idxv _ _) _ _); refine e_idxv rfl ?_)|((with_reducible show rdE _ (.callio _ _ _) _ _); refine e_callio rfl ?_)))|((with_reducible show rdSs _ _ _ _); (first|(with_reducible refine r_cons ?_)|(with_reducible refine r_nil ?_)))|((with_reducible show rdS _ _ _ _); (first|(with_reducible refine r_asgF ?_)|(with_reducible refine r_asgT ?_)|(with_reducible refine r_ret ?_)|(with_reducible refine r_retN ?_)|(with_reducible refine r_expr ?_)|(with_reducible refine r_iff ?_)|(with_reducible refine r_brk ?_)|(with_reducible refine r_cont ?_)|(with_reducible refine r_pas ?_)|(with_reducible refine r_asgTs ?_)|((with_reducible show rdS _ (.setv _ _ _) _ _); refine r_setv rfl ?_)|((with_reducible show rdS _ (.mut _ _ _) _ _); refine r_mut ⟨_, rfl⟩ ?_)|((with_reducible show rdS _ (.dputT _ _ _) _ _); refine r_dputT rfl ?_)|((with_reducible show rdS _ (.aug _ _ _) _ _); refine r_aug rfl ?_)|(with_reducible refine r_par ?_)))|((with_reducible show rdEs _ _ _ _); (first|(with_reducible refine s_nil ?_)|(with_reducible refine s_cons ?_)))|((with_reducible show rdAnd _ _ _ _); (first|(with_reducible refine a_two ?_)|(with_reducible refine a_one ?_)))|((with_reducible show rdOr _ _ _ _); (first|(with_reducible refine o_two ?_)|(with_reducible refine o_one ?_)))|((with_reducible show rdI _ _ _ _); (first|(with_reducible refine w_lst ?_)|(with_reducible refine w_tup ?_)|(with_reducible refine w_rng1 ?_)|(with_reducible refine w_rng2 ?_)|(with_reducible refine w_enum ?_)|(with_reducible refine w_zip ?_)))|((with_reducible show rdC _ _ _ _); (first|(with_reducible refine c_nil ?_)|(with_reducible refine c_one ?_)))|((with_reducible show rdO _ _ _ _); (first|(with_reducible refine o_no ?_)|(with_reducible refine o_so ?_)))|((with_reducible show rdPs _ _ _ _ _); (first|(with_reducible refine r_psN ?_)|(with_reducible refine r_psF ?_)|(with_reducible refine r_psT ?_)|((with_reducible show rdPs _ _ (List.map _ _) _ _); simp only [List.map_cons, List.map_nil])))|((with_reducible show ∃ t, truthD _ = some t ∧ _); (first|(with_reducible refine r_tn ?_)|((with_reducible show ∃ t, truthD _ = some t ∧ _); simp only [isNonD_int, isNonD_bool, isNonD_str, isNonD_list, isNonD_tup, isNonD_none, Bool.not_true, Bool.not_false])|(with_reducible refine r_tT ?_)|(with_reducible refine r_tF ?_)|(with_reducible refine r_tbA (by assumption) ?_)|(with_reducible refine r_tbB (by assumption) ?_)|(with_reducible refine r_tb (fun hb => ?_) (fun hb => ?_))|((with_reducible refine r_not ?_); try simp only [Bool.not_true, Bool.not_false])))|((with_reducible show ∃ r, cmpD _ _ _ = some r ∧ _); (first|((first|(with_reducible refine g_ex (by assumption) ?_)) <;> try simp only [fr_is_integer, fr_need_size, fr_is_cell, fr_cells_fault, fr_need_cells, fr_row_fault, fr_need_row, fr_slots_fault, fr_check_crossings, fr_need_crossings, fr_need_port, fr_need_slot, fr_need_number, fr_need_rhythm, fr__law_source, fr__law_draw, fr__law_lot, fr__law_line, fr__law_later, reduceCtorEq, Bool.false_eq_true, if_false, if_true, kdOf_z, kdOf_t, kdOf_int, kdOf_bool, kdOf_str, kdOf_none, List.length_map, backD_wipe, Int.toNat_natCast, Int.reduceEq, Int.reduceLT, Int.reduceLE, decide_true, decide_false, Int.reduceSub, Int.reduceNeg, Int.reduceToNat, Int.reducePow, Int.reduceAdd, Int.reduceMul, Bool.not_true, Bool.not_false, isNonD_int, isNonD_bool, isNonD_str, isNonD_list, isNonD_tup, isNonD_none])|(with_reducible refine g_ex (ne_same _) ?_)|(with_reducible refine g_ex (eq_same _) ?_)|(with_reducible refine g_ex (ne_samei _) ?_)|(with_reducible refine g_ex (Shw.ne (by assumption)) ?_)|(with_reducible refine g_ex (Shw.eq (by assumption)) ?_)|(refine g_ex inn_ints ?_)|(refine g_ex (ne_nil _) ?_)|(refine g_ex (eq_nil _) ?_)|(refine g_ex (eq_ints _ _) ?_)|(refine g_ex (ne_ints _ _) ?_)|(refine g_ex rfl ?_)))|((with_reducible show ∃ t r, biD _ _ = some (t, r) ∧ _); (first|((first|(refine e_istE rfl ?_)|((with_reducible refine bi_F (by assumption) (Or.inl nz) ?_))|((with_reducible refine bi_F (sum_ints _) (Or.inl nz) ?_))|((with_reducible refine bi_F (sum_ints _) (Or.inl nt) ?_))|((with_reducible refine bi_T (biD_sorted _) (Or.inl nz) ?_))|((with_reducible refine bi_T (biD_sorted _) (Or.inl nt) ?_))|((with_reducible refine bi_F (Shw.repr (by assumption)) (Or.inl nz) ?_))|((with_reducible refine bi_F (Shw.repr (by assumption)) (Or.inl nt) ?_))|((with_reducible refine bi_F (Shw.repr (by assumption)) (.inr rfl) ?_))|(refine bi_F rfl (Or.inl nz) ?_)|(refine bi_F rfl (Or.inl nt) ?_)|(refine bi_F rfl (.inr rfl) ?_)) <;> try simp only [fr_is_integer, fr_need_size, fr_is_cell, fr_cells_fault, fr_need_cells, fr_row_fault, fr_need_row, fr_slots_fault, fr_check_crossings, fr_need_crossings, fr_need_port, fr_need_slot, fr_need_number, fr_need_rhythm, fr__law_source, fr__law_draw, fr__law_lot, fr__law_line, fr__law_later, reduceCtorEq, Bool.false_eq_true, if_false, if_true, kdOf_z, kdOf_t, kdOf_int, kdOf_bool, kdOf_str, kdOf_none, List.length_map, backD_wipe, Int.toNat_natCast, Int.reduceEq, Int.reduceLT, Int.reduceLE, decide_true, decide_false, Int.reduceSub, Int.reduceNeg, Int.reduceToNat, Int.reducePow, Int.reduceAdd, Int.reduceMul, Bool.not_true, Bool.not_false, isNonD_int, isNonD_bool, isNonD_str, isNonD_list, isNonD_tup, isNonD_none])))|((with_reducible show Exists _); (first|(with_reducible refine g_int ?_)|(with_reducible refine g_int2 ?_)|(with_reducible refine g_list ?_)|(with_reducible refine g_list2 ?_)|(with_reducible refine g_tup ?_)|((first|((with_reducible show ∃ t r, binD .add (.list _) (.list _) = some (t, r) ∧ _); refine b_cat3 (by constructor <;> (first|exact nz|exact nt)) (by simp [rangeD_length]; omega) ?_)|((with_reducible show ∃ t r, binD .mul (.list [.int _]) (.int _) = some (t, r) ∧ _); refine b_zeros (by omega) ?_)) <;> try simp only [fr_is_integer, fr_need_size, fr_is_cell, fr_cells_fault, fr_need_cells, fr_row_fault, fr_need_row, fr_slots_fault, fr_check_crossings, fr_need_crossings, fr_need_port, fr_need_slot, fr_need_number, fr_need_rhythm, fr__law_source, fr__law_draw, fr__law_lot, fr__law_line, fr__law_later, reduceCtorEq, Bool.false_eq_true, if_false, if_true, kdOf_z, kdOf_t, kdOf_int, kdOf_bool, kdOf_str, kdOf_none, List.length_map, backD_wipe, Int.toNat_natCast, Int.reduceEq, Int.reduceLT, Int.reduceLE, decide_true, decide_false, Int.reduceSub, Int.reduceNeg, Int.reduceToNat, Int.reducePow, Int.reduceAdd, Int.reduceMul, Bool.not_true, Bool.not_false, isNonD_int, isNonD_bool, isNonD_str, isNonD_list, isNonD_tup, isNonD_none])|((with_reducible show ∃ env2, tgD (.tp (.cons _ (.cons _ .nil))) _ _ = some env2 ∧ _); refine r_some (tg2_fz (by decide) rfl (by first|exact fz_un|exact fz_frz|assumption) rfl (by first|exact fz_un|exact fz_frz|assumption)) ?_)|(refine r_some rfl ?_)|(refine r_some (asg_fz rfl (by assumption)) ?_)|(refine r_some (asgt_fz rfl (by assumption)) ?_)|(refine r_some (asgo_ni rfl (by assumption)) ?_)|(refine r_augE rfl rfl ?_)|(refine r_put2 rfl rfl rfl ?_)|((first|(refine i_list rfl rfl ?_)|(refine i_list rfl (at_last (by assumption)) ?_)|(refine i_list rfl (at_last2 (by assumption)) ?_)|(refine i_list rfl (map_nat (by assumption) (by omega)) ?_)|(refine i_list rfl (atI_ints (by omega) (by omega)) ?_)|(refine i_list rfl (atI_ints ?_ ?_) ?_)|(refine i_tup rfl rfl ?_)) <;> try simp only [fr_is_integer, fr_need_size, fr_is_cell, fr_cells_fault, fr_need_cells, fr_row_fault, fr_need_row, fr_slots_fault, fr_check_crossings, fr_need_crossings, fr_need_port, fr_need_slot, fr_need_number, fr_need_rhythm, fr__law_source, fr__law_draw, fr__law_lot, fr__law_line, fr__law_later, reduceCtorEq, Bool.false_eq_true, if_false, if_true, kdOf_z, kdOf_t, kdOf_int, kdOf_bool, kdOf_str, kdOf_none, List.length_map, backD_wipe, Int.toNat_natCast, Int.reduceEq, Int.reduceLT, Int.reduceLE, decide_true, decide_false, Int.reduceSub, Int.reduceNeg, Int.reduceToNat, Int.reducePow, Int.reduceAdd, Int.reduceMul, Bool.not_true, Bool.not_false, isNonD_int, isNonD_bool, isNonD_str, isNonD_list, isNonD_tup, isNonD_none])))|((with_reducible show _ ∧ _); (first|((with_reducible show (CA.Ph _ _).io = false ∧ _); (first|((with_reducible show (CA.Ph _ "is_integer").io = false ∧ _); first|(refine CA.st_isI_t rfl (by first|assumption|omega) (by first|assumption|omega) ?_)|(refine CA.st_isI2 rfl  ?_)|(refine CA.st_isI1 rfl  ?_)|(refine CA.st_isI0 rfl  ?_))|((with_reducible show (CA.Ph _ "need_size").io = false ∧ _); first|(refine CA.st_need_size rfl (by first|assumption|omega) (by first|assumption|omega) ?_))|((with_reducible show (CA.Ph _ "need_port").io = false ∧ _); first|(refine CA.st_need_port rfl (by first|assumption|omega) (by first|assumption|omega) ?_))|((with_reducible show (CA.Ph _ "need_slot").io = false ∧ _); first|(refine CA.st_need_slot rfl (by first|assumption|omega) (by first|assumption|omega) ?_))|((with_reducible show (CA.Ph _ "need_number").io = false ∧ _); first|(refine CA.st_need_number2 rfl (by first|assumption|omega) (by first|assumption|omega) ?_)|(refine CA.st_need_number1 rfl (by first|assumption|omega) ?_))|((with_reducible show (CA.Ph _ "cells_fault").io = false ∧ _); first|(refine CA.st_cells_fault rfl (by first|assumption|omega) ?_))|((with_reducible show (CA.Ph _ "need_cells").io = false ∧ _); first|(refine CA.st_need_cells rfl (by first|assumption|omega) (by first|assumption|omega) (by first|assumption|omega) ?_))|((with_reducible show (CA.Ph _ "row_fault").io = false ∧ _); first|(refine CA.st_row_fault rfl (by first|assumption|omega) (by first|assumption|omega) (by first|assumption|omega) ?_))|((with_reducible show (CA.Ph _ "need_row").io = false ∧ _); first|(refine CA.st_need_row rfl (by first|assumption|omega) (by first|assumption|omega) (by first|assumption|omega) (by first|assumption|omega) ?_))|((with_reducible show (CA.Ph _ "slots_fault").io = false ∧ _); first|(refine CA.st_slots_fault rfl (by first|assumption|omega) (by first|assumption|omega) ?_))|((with_reducible show (CA.Ph _ "check_crossings").io = false ∧ _); first|(refine CA.st_check_crossings rfl (by first|assumption|omega) (by first|assumption|omega) ?_))|((with_reducible show (CA.Ph _ "need_crossings").io = false ∧ _); first|(refine CA.st_need_crossings rfl (by first|assumption|omega) (by first|assumption|omega) (by first|assumption|omega) (by first|assumption|omega) ?_))|((with_reducible show (CA.Ph _ "need_rhythm").io = false ∧ _); first|(refine CA.st_need_rhythm rfl (by first|assumption|omega) ?_))|((with_reducible show (CA.Ph _ "_law_later").io = false ∧ _); first|(refine CA.st__law_later rfl (by first|assumption|omega) (by first|assumption|omega) ?_))))|((with_reducible show (False → _) ∧ ∃ ds ds' env2, ownD _ _ = some (.list ds) ∧ mutD .append ds _ = some ds' ∧ _); refine r_app4 rfl (by simp; omega) rfl ?_)|((with_reducible show (False → _) ∧ ∃ ds ds' env2, ownD _ _ = some (.list ds) ∧ mutD .append ds _ = some ds' ∧ _); refine r_app4 rfl ?_ rfl ?_)|((first|(with_reducible refine c_lt ?_)|(with_reducible refine c_le ?_)|(with_reducible refine c_gt ?_)|(with_reducible refine c_ge ?_)|(with_reducible refine c_eq ?_)|(with_reducible refine c_ne ?_)|(with_reducible refine b_add ?_)|(with_reducible refine b_sub ?_)|(refine g_rng (by unfold okRng; omega) ?_)|((with_reducible show (Kd.z ≠ _ ∨ _) ∧ ∃ t r, binD _ (.int _) (.int _) = some (t, r) ∧ _); refine b_mul (log_small (by omega) (by omega)) ?_)|((with_reducible show (Kd.z ≠ _ ∨ _) ∧ ∃ t r, binD _ (.int _) (.int _) = some (t, r) ∧ _); refine b_mul (log_mid (by omega) (by omega) (by omega) (by omega)) ?_)|((with_reducible show (Kd.z ≠ _ ∨ _) ∧ ∃ t r, binD _ (.int _) (.int _) = some (t, r) ∧ _); refine b_mod (by omega) ?_)|((with_reducible show (Kd.z ≠ _ ∨ _) ∧ ∃ t r, binD _ (.int _) (.int _) = some (t, r) ∧ _); refine b_div (div_c (by omega) (by omega)) ?_)|((with_reducible show (Kd.z ≠ _ ∨ _) ∧ ∃ t r, binD _ (.int _) (.int _) = some (t, r) ∧ _); refine b_div ⟨by omega, by decide⟩ ?_)|((with_reducible show (Kd.z ≠ _ ∨ _) ∧ ∃ t r, binD _ (.int _) (.int _) = some (t, r) ∧ _); refine b_div (div_m (by omega) (by omega)) ?_)|((with_reducible show (Kd.z ≠ _ ∨ _) ∧ ∃ t r, binD _ (.int _) (.int _) = some (t, r) ∧ _); refine b_pow (by decide) ?_)|((with_reducible show (Kd.z ≠ _ ∨ _) ∧ ∃ t r, binD _ (.int _) (.int _) = some (t, r) ∧ _); refine b_pow (pow_mid (by omega) (by omega) (by omega) (by omega)) ?_)|((with_reducible refine b_mul ?_ ?_))|((with_reducible refine b_mod ?_ ?_))|((with_reducible refine b_div ?_ ?_))|((with_reducible refine b_pow ?_ ?_))|((with_reducible refine g_rng ?_ ?_))) <;> try simp only [fr_is_integer, fr_need_size, fr_is_cell, fr_cells_fault, fr_need_cells, fr_row_fault, fr_need_row, fr_slots_fault, fr_check_crossings, fr_need_crossings, fr_need_port, fr_need_slot, fr_need_number, fr_need_rhythm, fr__law_source, fr__law_draw, fr__law_lot, fr__law_line, fr__law_later, reduceCtorEq, Bool.false_eq_true, if_false, if_true, kdOf_z, kdOf_t, kdOf_int, kdOf_bool, kdOf_str, kdOf_none, List.length_map, backD_wipe, Int.toNat_natCast, Int.reduceEq, Int.reduceLT, Int.reduceLE, decide_true, decide_false, Int.reduceSub, Int.reduceNeg, Int.reduceToNat, Int.reducePow, Int.reduceAdd, Int.reduceMul, Bool.not_true, Bool.not_false, isNonD_int, isNonD_bool, isNonD_str, isNonD_list, isNonD_tup, isNonD_none])|(refine e_chainE rfl (fun hb => ?_) (fun hb => ?_))|(with_reducible refine g_true ?_)|((first|(refine e_idxE (Or.inl nt) rfl ?_)|(refine e_idxE (Or.inl nz) rfl ?_)|(refine g_len (Nat.le_of_ble_eq_true rfl) ?_)|(with_reducible refine g_nbz ?_)|(with_reducible refine g_nbt ?_)|(with_reducible refine g_oz ?_)|(with_reducible refine g_ot ?_)|(with_reducible refine g_eqt ?_)|((with_reducible show (_ ∨ _ = true ∧ _ = true) ∧ _); refine And.intro (.inr ⟨rfl, rfl⟩) ?_)|((with_reducible show (_ ∨ flats (List.map PyData.int _) = true) ∧ _); refine And.intro (.inr (flats_ints _)) ?_)|(refine g_pur rfl ?_)) <;> try simp only [fr_is_integer, fr_need_size, fr_is_cell, fr_cells_fault, fr_need_cells, fr_row_fault, fr_need_row, fr_slots_fault, fr_check_crossings, fr_need_crossings, fr_need_port, fr_need_slot, fr_need_number, fr_need_rhythm, fr__law_source, fr__law_draw, fr__law_lot, fr__law_line, fr__law_later, reduceCtorEq, Bool.false_eq_true, if_false, if_true, kdOf_z, kdOf_t, kdOf_int, kdOf_bool, kdOf_str, kdOf_none, List.length_map, backD_wipe, Int.toNat_natCast, Int.reduceEq, Int.reduceLT, Int.reduceLE, decide_true, decide_false, Int.reduceSub, Int.reduceNeg, Int.reduceToNat, Int.reducePow, Int.reduceAdd, Int.reduceMul, Bool.not_true, Bool.not_false, isNonD_int, isNonD_bool, isNonD_str, isNonD_list, isNonD_tup, isNonD_none])|((with_reducible show _ ≤ 1000000 ∧ _); refine And.intro (by omega) ?_)|((with_reducible show _ ≤ 100000 ∧ _); refine And.intro (by (try simp); omega) ?_)|((first|((with_reducible show (CA.Ph _ "_law_draw").io = true ∧ _); refine CA.draw_step rfl (by assumption) ⟨by assumption, by assumption⟩ (by omega) (by omega) (by omega) (by omega) fun a c r ha hc hc' hr hr' => ⟨_, rfl, ?_⟩)) <;> try simp only [fr_is_integer, fr_need_size, fr_is_cell, fr_cells_fault, fr_need_cells, fr_row_fault, fr_need_row, fr_slots_fault, fr_check_crossings, fr_need_crossings, fr_need_port, fr_need_slot, fr_need_number, fr_need_rhythm, fr__law_source, fr__law_draw, fr__law_lot, fr__law_line, fr__law_later, reduceCtorEq, Bool.false_eq_true, if_false, if_true, kdOf_z, kdOf_t, kdOf_int, kdOf_bool, kdOf_str, kdOf_none, List.length_map, backD_wipe, Int.toNat_natCast, Int.reduceEq, Int.reduceLT, Int.reduceLE, decide_true, decide_false, Int.reduceSub, Int.reduceNeg, Int.reduceToNat, Int.reducePow, Int.reduceAdd, Int.reduceMul, Bool.not_true, Bool.not_false, isNonD_int, isNonD_bool, isNonD_str, isNonD_list, isNonD_tup, isNonD_none])|((with_reducible show _ = _ ∧ (CA.Ph _ _).io = false ∧ _); refine And.intro rfl ?_; simp only [DL.pick, List.filterMap_cons, List.filterMap_nil, List.getElem?_cons_zero, List.getElem?_cons_succ])))|(with_reducible refine g_ifT ?_)|(with_reducible refine g_ifF ?_)|(with_reducible refine g_if (fun hb => ?_) (fun hb => ?_)))))
local macro_rules | `(tactic| nofun) => `(tactic| try simp only [fr_is_integer, fr_need_size, fr_is_cell, fr_cells_fault, fr_need_cells, fr_row_fault, fr_need_row, fr_slots_fault, fr_check_crossings, fr_need_crossings, fr_need_port, fr_need_slot, fr_need_number, fr_need_rhythm, fr__law_source, fr__law_draw, fr__law_lot, fr__law_line, fr__law_later, reduceCtorEq, Bool.false_eq_true, if_false, if_true, kdOf_z, kdOf_t, kdOf_int, kdOf_bool, kdOf_str, kdOf_none, List.length_map, backD_wipe, Int.toNat_natCast, Int.reduceEq, Int.reduceLT, Int.reduceLE, decide_true, decide_false, Int.reduceSub, Int.reduceNeg, Int.reduceToNat, Int.reducePow, Int.reduceAdd, Int.reduceMul, Bool.not_true, Bool.not_false, isNonD_int, isNonD_bool, isNonD_str, isNonD_list, isNonD_tup, isNonD_none])
/-- where the writing of a line stands: at_ is the slot, γ the next output -/
structure RInv (w : Int) (lot : List Cell) (line left : List Int) (at_ γ : Int) : Prop where
  len : line.length = lot.length
  asc : left.Pairwise (· < ·)
  inn : ∀ k ∈ left, ∃ i : Nat, k = (i : Int) ∧ i < lot.length
  low : ∀ e ∈ line, 0 ≤ e ∧ e ≤ at_
  ok : ∀ (i : Nat) (c : Cell), lot[i]? = some c → (i : Int) ∉ left → c.1 ≤ line.getD i 0 ∧ line.getD i 0 < (if c.2.2 < γ then at_ + 1 else at_)
  one : ∀ (i j : Nat) (c d : Cell), i ≠ j → lot[i]? = some c → lot[j]? = some d → c.2.2 = d.2.2 → (i : Int) ∉ left → (j : Int) ∉ left → line.getD i 0 ≠ line.getD j 0
  busy : w ≤ 2 → ∀ (i : Nat) (c : Cell) (t : Int), lot[i]? = some c → c.1 ≤ t → t < (if c.2.2 < γ then at_ + 1 else at_) → ((i : Int) ∈ left ∨ t ≤ line.getD i 0) → ∃ (j : Nat) (d : Cell), lot[j]? = some d ∧ d.2.2 = c.2.2 ∧ (j : Int) ∉ left ∧ line.getD j 0 = t
  fifo : w = 0 → ∀ (i j : Nat) (c d : Cell), i < j → lot[i]? = some c → lot[j]? = some d → c.2.2 = d.2.2 → (j : Int) ∉ left → (i : Int) ∉ left ∧ line.getD i 0 < line.getD j 0
  lifo : w = 1 → ∀ (i j : Nat) (c d : Cell), i < j → lot[i]? = some c → lot[j]? = some d → c.2.2 = d.2.2 → (i : Int) ∉ left → d.1 ≤ line.getD i 0 → (j : Int) ∉ left ∧ line.getD j 0 < line.getD i 0
theorem rinv_start (w : Int) (lot : List Cell) (h0 : ∀ c ∈ lot, 0 ≤ c.1 ∧ 0 ≤ c.2.2) : RInv w lot (List.replicate lot.length 0) ((List.range lot.length).map fun i : Nat => (i : Int)) 0 0 := by
  have all : ∀ (i : Nat) (c : Cell), lot[i]? = some c → (i : Int) ∈ (List.range lot.length).map fun i : Nat => (i : Int) := fun i c h => List.mem_map.mpr ⟨i, List.mem_range.mpr (at_lt h), rfl⟩
  refine ⟨by simp, ?_, fun k hk => ?_, fun e he => by rw [List.eq_of_mem_replicate he]; omega, fun i c h z => absurd (all i c h) z, fun i j c d _ h _ _ z => absurd (all i c h) z, fun _ i c t h h1 h2 _ => ?_, fun _ i j c d _ _ h _ z => absurd (all j d h) z, fun _ i j c d _ h _ _ z => absurd (all i c h) z⟩
  · exact List.pairwise_map.mpr (List.pairwise_lt_range.imp fun h => by omega)
  · obtain ⟨i, hi, rfl⟩ := List.mem_map.mp hk
    exact ⟨i, rfl, List.mem_range.mp hi⟩
  · have := h0 c (List.mem_of_getElem? h)
    rw [if_neg (by omega)] at h2
    omega
theorem nd_of_asc {l : List Int} (h : l.Pairwise (· < ·)) : l.Nodup := h.imp fun h z => by omega
theorem rinv_send {w : Int} {lot : List Cell} {line left : List Int} {at_ γ : Int} {c : Cell} {k : Nat} (h : RInv w lot line left at_ γ) (hs : lot.Pairwise fun x y => x.1 ≤ y.1) (hk : lot[k]? = some c) (hg : c.2.2 = γ) (ha : c.1 ≤ at_) (h0 : 0 ≤ at_) (hm : (k : Int) ∈ left)
    (hf : w = 0 → ∀ (i : Nat) (d : Cell), i < k → lot[i]? = some d → d.2.2 = γ → (i : Int) ∈ left → at_ < d.1) (hl : w = 1 → ∀ (i : Nat) (d : Cell), k < i → lot[i]? = some d → d.2.2 = γ → (i : Int) ∈ left → at_ < d.1) :
    RInv w lot (line.set k at_) (left.erase (k : Int)) at_ (γ + 1) := by
  have kl : k < line.length := by rw [h.len]; exact at_lt hk
  have nd := nd_of_asc h.asc
  have out : ∀ i : Nat, i ≠ k → (i : Int) ∉ left.erase (k : Int) → (i : Int) ∉ left := fun i hi z y => z ((List.mem_erase_of_ne (by omega)).mpr y)
  have outk : (k : Int) ∉ left.erase (k : Int) := fun z => ((nd.mem_erase_iff).mp z).1 rfl
  have sub : ∀ i : Nat, (i : Int) ∉ left → (i : Int) ∉ left.erase (k : Int) := fun i z y => z (List.mem_of_mem_erase y)
  have ne : ∀ i : Nat, (i : Int) ∉ left → i ≠ k := fun i z e => z (e ▸ hm)
  refine ⟨by rw [List.length_set]; exact h.len, h.asc.sublist List.erase_sublist, fun j hj => h.inn j (List.mem_of_mem_erase hj), fun e he => ?_, fun i d hi z => ?_, fun i j d d' hij hi hj hd zi zj => ?_, fun hw i d t hi h1 h2 h3 => ?_, fun hw i j d d' hij hi hj hd zj => ?_, fun hw i j d d' hij hi hj hd zi ht => ?_⟩
  · rcases List.mem_or_eq_of_mem_set he with z | z
    · exact h.low e z
    · omega
  · rw [set_getD kl]
    by_cases e : i = k
    · subst e
      rw [hk] at hi; cases hi
      rw [if_pos rfl, if_pos (by omega)]
      omega
    · rw [if_neg e]
      obtain ⟨y1, y2⟩ := h.ok i d hi (out i e z)
      refine ⟨y1, ?_⟩
      split <;> split at y2 <;> omega
  · rw [set_getD kl, set_getD kl]
    by_cases e : i = k
    · subst e
      rw [hk] at hi; cases hi
      rw [if_pos rfl, if_neg fun z => hij z.symm]
      have y := (h.ok j d' hj (out j (fun z => hij z.symm) zj)).2
      rw [if_neg (by omega)] at y
      omega
    · rw [if_neg e]
      by_cases e2 : j = k
      · subst e2
        rw [hk] at hj; cases hj
        rw [if_pos rfl]
        have y := (h.ok i d hi (out i e zi)).2
        rw [if_neg (by omega)] at y
        omega
      · rw [if_neg e2]
        exact h.one i j d d' hij hi hj hd (out i e zi) (out j e2 zj)
  · by_cases hc : d.2.2 = γ ∧ t = at_
    · exact ⟨k, c, hk, by omega, outk, by rw [set_getD kl, if_pos rfl]; exact hc.2.symm⟩
    · have h4 : (i : Int) ∈ left ∨ t ≤ line.getD i 0 := by
        by_cases e : i = k
        · left; rw [e]; exact hm
        · rcases h3 with z | z
          · exact .inl (List.mem_of_mem_erase z)
          · rw [set_getD kl, if_neg e] at z
            exact .inr z
      obtain ⟨j, d2, hj, hd, zj, e⟩ := h.busy hw i d t hi h1 (by split at h2 <;> split <;> omega) h4
      exact ⟨j, d2, hj, hd, sub j zj, by rw [set_getD kl, if_neg (ne j zj)]; exact e⟩
  · rw [set_getD kl, set_getD kl]
    by_cases e : j = k
    · subst e
      rw [hk] at hj; cases hj
      have zi : (i : Int) ∉ left := fun z => by
        have z1 := hf hw i d hij hi (by omega) z
        obtain ⟨x1, x2⟩ := List.getElem?_eq_some_iff.mp hi
        obtain ⟨y1, y2⟩ := List.getElem?_eq_some_iff.mp hk
        have z2 := List.pairwise_iff_getElem.mp hs i j x1 y1 hij
        rw [x2, y2] at z2
        omega
      have y := (h.ok i d hi zi).2
      rw [if_neg (by omega)] at y
      rw [if_neg (by omega), if_pos rfl]
      exact ⟨sub i zi, y⟩
    · obtain ⟨z1, z2⟩ := h.fifo hw i j d d' hij hi hj hd (out j e zj)
      rw [if_neg (ne i z1), if_neg e]
      exact ⟨sub i z1, z2⟩
  · rw [set_getD kl] at ht ⊢
    rw [set_getD kl]
    by_cases e : i = k
    · subst e
      rw [hk] at hi; cases hi
      rw [if_pos rfl] at ht
      have zj : (j : Int) ∉ left := fun z => by
        have := hl hw j d' hij hj (by omega) z
        omega
      have y := (h.ok j d' hj zj).2
      rw [if_neg (by omega)] at y
      rw [if_neg (by omega), if_pos rfl]
      exact ⟨sub j zj, y⟩
    · rw [if_neg e] at ht ⊢
      obtain ⟨z1, z2⟩ := h.lifo hw i j d d' hij hi hj hd (out i e zi) ht
      rw [if_neg (ne j z1)]
      exact ⟨sub j z1, z2⟩
theorem rinv_rest {w : Int} {lot : List Cell} {line left : List Int} {at_ γ : Int} (h : RInv w lot line left at_ γ) (hn : w ≤ 2 → ∀ (i : Nat) (d : Cell), lot[i]? = some d → d.2.2 = γ → (i : Int) ∈ left → at_ < d.1) : RInv w lot line left at_ (γ + 1) :=
  ⟨h.len, h.asc, h.inn, h.low, fun i c hi z => by
    obtain ⟨y1, y2⟩ := h.ok i c hi z
    refine ⟨y1, ?_⟩
    split <;> split at y2 <;> omega, h.one, fun hw i c t hi h1 h2 h3 => by
    refine h.busy hw i c t hi h1 ?_ h3
    by_cases hc : c.2.2 = γ ∧ t = at_
    · exfalso
      by_cases z : (i : Int) ∈ left
      · have := hn hw i c hi hc.1 z
        omega
      · have y := (h.ok i c hi z).2
        rw [if_neg (by omega)] at y
        rcases h3 with q | q
        · exact z q
        · omega
    · split at h2 <;> split <;> omega, h.fifo, h.lifo⟩
theorem rinv_next {w : Int} {lot : List Cell} {line left : List Int} {at_ γ : Int} (h : RInv w lot line left at_ γ) (hg : ∀ c ∈ lot, 0 ≤ c.2.2 ∧ c.2.2 < γ) : RInv w lot line left (at_ + 1) 0 :=
  ⟨h.len, h.asc, h.inn, fun e he => by have := h.low e he; omega, fun i c hi z => by
    obtain ⟨y1, y2⟩ := h.ok i c hi z
    refine ⟨y1, ?_⟩
    split <;> split at y2 <;> omega, h.one, fun hw i c t hi h1 h2 h3 => h.busy hw i c t hi h1 (by
      have := hg c (List.mem_of_getElem? hi)
      rw [if_pos (by omega)]
      rw [if_neg (by omega)] at h2
      exact h2) h3, h.fifo, h.lifo⟩
theorem rinv_end {w : Int} {lot : List Cell} {line : List Int} {at_ : Int} (h : RInv w lot line [] at_ 0) (hh : at_ < 10 ^ 31) (h0 : ∀ c ∈ lot, 0 ≤ c.2.2) : RowOk lot line ∧ (w ≤ 2 → Busy lot line) ∧ (w = 0 → Fifo lot line) ∧ (w = 1 → Lifo lot line) := by
  refine ⟨⟨h.len, fun i c hi => (h.ok i c hi List.not_mem_nil).1, fun e he => by have := h.low e he; omega, fun i j c d hij hi hj hd => h.one i j c d (by omega) hi hj hd List.not_mem_nil List.not_mem_nil⟩, fun hw i c t hi h1 h2 => ?_, fun hw i j c d hij hi hj hd => (h.fifo hw i j c d hij hi hj hd List.not_mem_nil).2, fun hw i j c d hij hi hj hd ht => (h.lifo hw i j c d hij hi hj hd List.not_mem_nil ht).2⟩
  have z := h.ok i c hi List.not_mem_nil
  have := h0 c (List.mem_of_getElem? hi)
  rw [if_neg (by omega)] at z
  obtain ⟨j, d, hj, hd, _, e⟩ := h.busy hw i c t hi h1 (by rw [if_neg (by omega)]; omega) (.inr h2)
  exact ⟨j, d, hj, hd, e⟩
/-- who waits for the output γ -/
def wait (lot : List Cell) (left : List Int) (γ at_ : Int) : List Int := left.filter fun k => match lot[k.toNat]? with | some c => decide (c.2.2 = γ) && decide (c.1 ≤ at_) | none => false
theorem wait_len (lot : List Cell) (left : List Int) (γ at_ : Int) : (wait lot left γ at_).length ≤ left.length := List.length_filter_le _ _
theorem wait_in {lot : List Cell} {left : List Int} {γ at_ k : Int} (h : k ∈ wait lot left γ at_) : k ∈ left ∧ ∃ c, lot[k.toNat]? = some c ∧ c.2.2 = γ ∧ c.1 ≤ at_ := by
  obtain ⟨h1, h2⟩ := List.mem_filter.mp h
  refine ⟨h1, ?_⟩
  split at h2
  · rename_i c e
    obtain ⟨h3, h4⟩ := Bool.and_eq_true_iff.mp h2
    exact ⟨c, e, of_decide_eq_true h3, of_decide_eq_true h4⟩
  · cases h2
theorem in_wait {lot : List Cell} {left : List Int} {γ at_ : Int} {i : Nat} {c : Cell} (h : (i : Int) ∈ left) (hc : lot[i]? = some c) (hg : c.2.2 = γ) (ha : c.1 ≤ at_) : (i : Int) ∈ wait lot left γ at_ :=
  List.mem_filter.mpr ⟨h, by rw [Int.toNat_natCast, hc]; simp [hg, ha]⟩
theorem asc_first {l : List Int} (h : l.Pairwise (· < ·)) {x : Int} (hx : x ∈ l) : l.getD 0 0 ≤ x := by
  cases l with
  | nil => cases hx
  | cons a r =>
    rcases List.mem_cons.mp hx with z | z
    · rw [z]; exact Int.le_refl _
    · have := (List.pairwise_cons.mp h).1 x z
      show a ≤ x
      omega
theorem asc_last {l : List Int} (h : l.Pairwise (· < ·)) {x : Int} (hx : x ∈ l) : x ≤ l.getD (l.length - 1) 0 := by
  obtain ⟨i, hi⟩ := List.mem_iff_getElem?.mp hx
  have hl := at_lt hi
  rw [List.getD_eq_getElem?_getD, List.getElem?_eq_getElem (by omega)]
  obtain ⟨y1, y2⟩ := List.getElem?_eq_some_iff.mp hi
  show x ≤ l[l.length - 1]
  by_cases e : i = l.length - 1
  · subst e; rw [y2]; exact Int.le_refl _
  · have := List.pairwise_iff_getElem.mp h i (l.length - 1) hl (by omega) (by omega)
    rw [y2] at this
    omega
theorem law__law_line (L : Phi) : ∀ ds post, F__law_line.sp ds post → ds.length = k__law_line ∧ rdSs (Ph L) b__law_line (env0 F__law_line.io N__law_line.length ds) (fnEnds F__law_line post) := by
  rintro ds post ⟨s0, b, k0, w, T, lot, rfl, hs0, hb0, hb1, hk0, hk1, few, hc, hs, hT0, hT1, hw0, hw1, hp⟩
  refine ⟨rfl, ?_⟩
  show rdSs (Ph L) b__law_line [.io (.list [.int s0, .int b, .int k0]), .frz (dL lot), .frz (.int w), .un, .un, .un, .un, .un, .un] _
  unfold b__law_line
  and_intros
  rw [rangeD_ints]
  refine r_whl (fun μ env => ∃ (a' c' : Int) (line left : List Int) (at_ : Int), 0 ≤ a' ∧ k0 ≤ c' ∧ c' ≤ k0 + 16 * at_ ∧ RInv w lot line left at_ 0 ∧ 0 ≤ at_ ∧ left.length ≤ lot.length ∧ (at_ ≤ T + 41 ∨ at_ + left.length ≤ T + 41 + lot.length) ∧ left.length + (T + 41 - at_).toNat = μ ∧
    env = [.io (src a' b c'), .frz (dL lot), .frz (.int w), .own (dI line), .own (dI left), .frz (.int at_), .un, .un, .un]) (lot.length + (T + 41).toNat) ?_ ?_
  · exact ⟨s0, k0, _, _, 0, hs0, by omega, by omega, rinv_start w lot fun c h => ⟨(hc c h).1, (hc c h).2.2.1⟩, by omega, by simp, .inl (by omega), by simp, rfl⟩
  · rintro μ env ⟨a1, c1, line, left, at_, ha1, hc1, hc1', LI, h0, hll, h1, hμ, rfl⟩
    have inl : ∀ k ∈ left, ∃ (i : Nat) (c : Cell), k = (i : Int) ∧ lot[i]? = some c := fun k hk => by
      obtain ⟨i, e, hi⟩ := LI.inn k hk
      exact ⟨i, lot[i], e, List.getElem?_eq_getElem hi⟩
    and_intros
    · -- a round
      refine r_for ?_
      and_intros
      refine for_inv (List.range 8) (fun i => .int (i : Nat)) (fun γ env => ∃ (a' c' : Int) (line2 left2 : List Int), 0 ≤ a' ∧ k0 ≤ c' ∧ c' ≤ k0 + 16 * at_ + 2 * γ ∧ RInv w lot line2 left2 at_ γ ∧ left2.length ≤ left.length ∧
        (left2.length < left.length ∨ (left2 = left ∧ (T + 40 < at_ → ∀ k ∈ left, ∀ c, lot[k.toNat]? = some c → c.2.2 < γ → at_ < c.1))) ∧
        env = [.io (src a' b c'), .frz (dL lot), .frz (.int w), .own (dI line2), .own (dI left2), .frz (.int at_), .un, .un, .un]) ?_ ?_ ?_ ?_
      · exact range_eq
      · exact ⟨a1, c1, line, left, ha1, hc1, by omega, LI, Nat.le_refl _, .inr ⟨rfl, fun _ k hk c hc' hg => by
          have := (hc c (List.mem_of_getElem? hc')).2.2.1
          omega⟩, rfl⟩
      · rintro j γ env hj ⟨a2, c2, line2, left2, ha2, hc2, hc2', LI2, hle, hmon, rfl⟩
        obtain ⟨hj, rfl⟩ := range_at hj
        refine ⟨_, tg_fz rfl fz_un, ?_⟩
        and_intros
        refine e_lc ?_
        and_intros
        refine lc_fin left2 .int (fun k => match lot[k.toNat]? with | some c => decide (c.2.2 = (γ : Int)) && decide (c.1 ≤ at_) | none => false) .int ?_ ?_ ?_ ?_ ?_ ?_
        · rfl
        · rfl
        · exact .inr ⟨flats_ints _, rfl, rfl⟩
        · omega
        · rintro j k hk
          obtain ⟨i, hki, hil⟩ := LI2.inn k (List.mem_of_getElem? hk)
          subst hki
          obtain ⟨c, hc⟩ : ∃ c, lot[i]? = some c := ⟨_, List.getElem?_eq_getElem hil⟩
          refine ⟨_, tg_fz rfl fz_un, rfl, fun P h => ?_, fun _ P h => ?_⟩
          · rw [Int.toNat_natCast, hc] at h
            and_intros
            all_goals simpa only [*, Bool.true_and, Bool.false_and] using h
          · and_intros
            exact h _ nz
        show _
        have wd : left2.filter (fun k => match lot[k.toNat]? with | some c => decide (c.2.2 = (γ : Int)) && decide (c.1 ≤ at_) | none => false) = wait lot left2 γ at_ := rfl
        rw [wd]
        have wl := wait_len lot left2 γ at_
        have wasc : (wait lot left2 γ at_).Pairwise (· < ·) := LI2.asc.filter _
        have win : ∀ k ∈ wait lot left2 γ at_, ∃ (i : Nat) (c : Cell), k = (i : Int) ∧ lot[i]? = some c ∧ c.2.2 = γ ∧ c.1 ≤ at_ ∧ (i : Int) ∈ left2 ∧ i < line2.length := fun k hk => by
          obtain ⟨h1, c, h2, h3, h4⟩ := wait_in hk
          obtain ⟨i, rfl, hi⟩ := LI2.inn k h1
          rw [Int.toNat_natCast] at h2
          exact ⟨i, c, rfl, h2, h3, h4, h1, by rw [LI2.len]; exact hi⟩
        have wall : ∀ (i : Nat) (c : Cell), (i : Int) ∈ left2 → lot[i]? = some c → c.2.2 = γ → c.1 ≤ at_ → (i : Int) ∈ wait lot left2 γ at_ := fun i c h1 h2 h3 h4 => in_wait h1 h2 h3 h4
        generalize wait lot left2 γ at_ = ws at wl wasc win wall
        -- nobody is sent
        have rest : ∀ a5 c5 : Int, 0 ≤ a5 → c2 ≤ c5 → c5 ≤ c2 + 1 → (ws = [] ∨ at_ ≤ 40 ∧ 3 ≤ w) → ∃ (a' c' : Int) (line2' left2' : List Int), 0 ≤ a' ∧ k0 ≤ c' ∧ c' ≤ k0 + 16 * at_ + 2 * ((γ + 1 : Nat) : Int) ∧ RInv w lot line2' left2' at_ ((γ + 1 : Nat) : Int) ∧ left2'.length ≤ left.length ∧
            (left2'.length < left.length ∨ (left2' = left ∧ (T + 40 < at_ → ∀ k ∈ left, ∀ c, lot[k.toNat]? = some c → c.2.2 < ((γ + 1 : Nat) : Int) → at_ < c.1))) ∧
            [DL.Slot.io (src a5 b c5), .frz (dL lot), .frz (.int w), .own (dI line2), .own (dI left2), .frz (.int at_), .un, .un, .un] = [.io (src a' b c'), .frz (dL lot), .frz (.int w), .own (dI line2'), .own (dI left2'), .frz (.int at_), .un, .un, .un] := fun a5 c5 h1 h2 h3 h4 => by
          have no : ws = [] → ∀ (i : Nat) (d : Cell), lot[i]? = some d → d.2.2 = γ → (i : Int) ∈ left2 → at_ < d.1 := fun z i d hd hg hm => by
            refine Int.lt_of_not_ge fun q => ?_
            have := wall i d hm hd hg q
            rw [z] at this
            cases this
          refine ⟨a5, c5, line2, left2, h1, by omega, by omega, rinv_rest LI2 fun hw => ?_, hle, hmon.imp (fun z => z) fun ⟨e, z⟩ => ⟨e, fun h40 k hk c hc hg => ?_⟩, rfl⟩
          · rcases h4 with h4 | h4
            · exact no h4
            · omega
          · by_cases y : c.2.2 < γ
            · exact z h40 k hk c hc y
            · rcases h4 with h4 | h4
              · obtain ⟨i, c', rfl, _⟩ := inl k hk
                rw [Int.toNat_natCast] at hc
                exact no h4 i c hc (by omega) (by rw [e]; exact hk)
              · omega
        by_cases hws : ws = []
        · have e0 : cmpD .ne (.list (ws.map .int)) (.list []) = some false := by rw [ne_nil]; simp [hws]
          nofun
          and_intros
          exact rest a2 c2 ha2 (by omega) (by omega) (.inl hws)
        · have e0 : cmpD .ne (.list (ws.map .int)) (.list []) = some true := by rw [ne_nil]; simp [hws]
          have wpos : 0 < ws.length := List.length_pos_iff.mpr hws
          -- somebody is sent
          have send : ∀ (k : Int) (a5 c5 : Int), k ∈ ws → 0 ≤ a5 → c2 ≤ c5 → c5 ≤ c2 + 2 → (w = 0 → ∀ m ∈ ws, k ≤ m) → (w = 1 → ∀ m ∈ ws, m ≤ k) → ∃ i : Nat, k = (i : Int) ∧ i < line2.length ∧ (i : Int) ∈ left2 ∧ ∃ (a' c' : Int) (line2' left2' : List Int), 0 ≤ a' ∧ k0 ≤ c' ∧ c' ≤ k0 + 16 * at_ + 2 * ((γ + 1 : Nat) : Int) ∧ RInv w lot line2' left2' at_ ((γ + 1 : Nat) : Int) ∧ left2'.length ≤ left.length ∧
              (left2'.length < left.length ∨ (left2' = left ∧ (T + 40 < at_ → ∀ k ∈ left, ∀ c, lot[k.toNat]? = some c → c.2.2 < ((γ + 1 : Nat) : Int) → at_ < c.1))) ∧
              [DL.Slot.io (src a5 b c5), .frz (dL lot), .frz (.int w), .own (dI (line2.set i at_)), .own (dI (left2.erase (i : Int))), .frz (.int at_), .un, .un, .un] = [.io (src a' b c'), .frz (dL lot), .frz (.int w), .own (dI line2'), .own (dI left2'), .frz (.int at_), .un, .un, .un] := fun k a5 c5 hk h1 h2 h3 hf hl => by
            obtain ⟨i, c', rfl, hc', hg, ha', hil, hli⟩ := win k hk
            have el := List.length_erase_of_mem hil
            have ep := List.length_pos_of_mem hil
            refine ⟨i, rfl, hli, hil, a5, c5, line2.set i at_, left2.erase i, h1, by omega, by omega, rinv_send LI2 hs hc' hg ha' h0 hil (fun hw m d hm hd hg hml => ?_) (fun hw m d hm hd hg hml => ?_), by omega, .inl (by omega), rfl⟩
            · refine Int.lt_of_not_ge fun q => ?_
              have := hf hw m (wall m d hml hd hg q)
              omega
            · refine Int.lt_of_not_ge fun q => ?_
              have := hl hw m (wall m d hml hd hg q)
              omega
          have hk0 : ws.getD 0 0 ∈ ws := DL.getD_mem (by omega)
          have hkl : ws.getD (ws.length - 1) 0 ∈ ws := DL.getD_mem (by omega)
          have ww : w = 0 ∨ w = 1 ∨ w = 2 ∨ w = 3 := by omega
          rcases ww with rfl | rfl | rfl | rfl
          · nofun
            and_intros
            obtain ⟨i, ei, hli, hil, z⟩ := send (ws.getD 0 0) a c hk0 ha (by omega) (by omega) (fun _ m hm => asc_first wasc hm) (fun h => by omega)
            rw [ei]
            refine r_put2 rfl (ixN_ok (by omega) (by rw [List.length_map]; omega)) rfl ?_
            rw [Int.toNat_natCast, ← List.map_set]
            and_intros
            refine r_rem3 rfl hil rfl ?_
            and_intros
            exact z
          · nofun
            and_intros
            rw [show ((ws.length : Int) - 1).toNat = ws.length - 1 by omega]
            obtain ⟨i, ei, hli, hil, z⟩ := send (ws.getD (ws.length - 1) 0) a c hkl ha (by omega) (by omega) (fun h => by omega) (fun _ m hm => asc_last wasc hm)
            rw [ei]
            refine r_put2 rfl (ixN_ok (by omega) (by rw [List.length_map]; omega)) rfl ?_
            rw [Int.toNat_natCast, ← List.map_set]
            and_intros
            refine r_rem3 rfl hil rfl ?_
            and_intros
            exact z
          · nofun
            and_intros
            obtain ⟨i, ei, hli, hil, z⟩ := send (ws.getD r.toNat 0) a c (DL.getD_mem (by omega)) ha (by omega) (by omega) (fun h => by omega) (fun h => by omega)
            rw [ei]
            refine r_put2 rfl (ixN_ok (by omega) (by rw [List.length_map]; omega)) rfl ?_
            rw [Int.toNat_natCast, ← List.map_set]
            and_intros
            refine r_rem3 rfl hil rfl ?_
            and_intros
            exact z
          · nofun
            and_intros
            · obtain ⟨i, ei, hli, hil, z⟩ := send (ws.getD r.toNat 0) a c (DL.getD_mem (by omega)) ha (by omega) (by omega) (fun h => by omega) (fun h => by omega)
              rw [ei]
              refine r_put2 rfl (ixN_ok (by omega) (by rw [List.length_map]; omega)) rfl ?_
              rw [Int.toNat_natCast, ← List.map_set]
              and_intros
              refine r_rem3 rfl hil rfl ?_
              and_intros
              exact z
            · obtain ⟨i, ei, hli, hil, z⟩ := send (ws.getD r.toNat 0) a c (DL.getD_mem (by omega)) ha (by omega) (by omega) (fun h => by omega) (fun h => by omega)
              rw [ei]
              refine r_put2 rfl (ixN_ok (by omega) (by rw [List.length_map]; omega)) rfl ?_
              rw [Int.toNat_natCast, ← List.map_set]
              and_intros
              refine r_rem3 rfl hil rfl ?_
              and_intros
              exact z
            · rename decide ((40 : Int) < at_) = false => h40
              have := of_decide_eq_false h40
              exact rest _ _ (by assumption) (by omega) (by omega) (.inr (by omega))
      · rintro env ⟨a2, c2, line2, left2, ha2, hc2, hc2', LI2, hle, hmon, rfl⟩
        and_intros
        have hne : left ≠ [] := by simpa using hb
        rw [List.length_range] at LI2 hmon hc2'
        have dec : T + 41 ≤ at_ → left2.length < left.length := fun h10 => by
          rcases hmon with z | ⟨e, z⟩
          · exact z
          · obtain ⟨k, hk⟩ := List.exists_mem_of_ne_nil _ hne
            obtain ⟨i, c, rfl, hc'⟩ := inl k hk
            have y := z (by omega) _ hk c (by rw [Int.toNat_natCast]; exact hc') (hc c (List.mem_of_getElem? hc')).2.2.2
            have := (hc c (List.mem_of_getElem? hc')).2.1
            omega
        exact ⟨_, by omega, a2, c2, line2, left2, at_ + 1, ha2, hc2, by omega, rinv_next LI2 fun c h => ⟨(hc c h).2.2.1, (hc c h).2.2.2⟩, by omega, by omega, by omega, rfl, rfl⟩
    · have hne : left = [] := by simpa using hb
      subst hne
      simp only [List.length_nil] at h1
      obtain ⟨e1, e2, e3, e4⟩ := rinv_end LI (by omega) fun c h => (hc c h).2.2.1
      exact ⟨rfl, src a1 b c1, fun _ => ⟨[a1, b, c1], rfl, rfl⟩, hp _ _ _ ha1 hc1 (by omega) e1 (fun e he => by have := LI.low e he; omega) e2 e3 e4⟩
end CA

namespace CA
open PySem PySem.Spec PyProof.Rows L2 DL
set_option hygiene false
local macro_rules | `(tactic| and_intros) => `(tactic| (repeat' (first|((with_reducible show rdE _ _ _ _); (first|(with_reducible refine e_int ?_)|(with_reducible refine e_bl ?_)|(with_reducible refine e_non ?_)|(with_reducible refine e_str ?_)|(with_reducible refine e_gi ?_)|(with_reducible refine e_tup ?_)|(with_reducible refine e_lst ?_)|(with_reducible refine e_bin ?_)|(with_reducible refine e_neg ?_)|(with_reducible refine e_cmp ?_)|(with_reducible refine e_chain ?_)|(with_reducible refine e_not ?_)|(with_reducible refine e_ands ?_)|(with_reducible refine e_ors ?_)|(with_reducible refine e_ife ?_)|(with_reducible refine e_idx ?_)|(with_reducible refine e_call ?_)|(with_reducible refine e_callk ?_)|(with_reducible refine e_bi ?_)|(with_reducible refine e_ist ?_)|(with_reducible refine e_lrng1 ?_)|(with_reducible refine e_lrng2 ?_)|(with_reducible refine e_sset ?_)|(with_reducible refine e_dnewT ?_)|(with_reducible refine e_dinT ?_)|(with_reducible refine e_rev ?_)|(with_reducible refine e_cat ?_)|(with_reducible refine e_cat2 ?_)|(with_reducible refine e_mt ?_)|(with_reducible refine e_sl ?_)|((first|(with_reducible refine e_isN ?_)|(with_reducible refine e_notN ?_)) <;> try simp only [fr_is_integer, fr_need_size, fr_is_cell, fr_cells_fault, fr_need_cells, fr_row_fault, fr_need_row, fr_slots_fault, fr_check_crossings, fr_need_crossings, fr_need_port, fr_need_slot, fr_need_number, fr_need_rhythm, fr__law_source, fr__law_draw, fr__law_lot, fr__law_line, fr__law_later, reduceCtorEq, Bool.false_eq_true, if_false, if_true, kdOf_z, kdOf_t, kdOf_int, kdOf_bool, kdOf_str, kdOf_none, List.length_map, backD_wipe, Int.toNat_natCast, Int.reduceEq, Int.reduceLT, Int.reduceLE, decide_true, decide_false, Int.reduceSub, Int.reduceNeg, Int.reduceToNat, Int.reducePow, Int.reduceAdd, Int.reduceMul, Bool.not_true, Bool.not_false, isNonD_int, isNonD_bool, isNonD_str, isNonD_list, isNonD_tup, isNonD_none, List.set_cons_zero, List.set_cons_succ])|((with_reducible show rdE _ (.var _) _ _); refine e_frz rfl ?_)|((with_reducible show rdE _ (.var _) _ _); refine e_own rfl ?_)|((with_reducible show rdE _ (.var _) _ _); refine e_io rfl ?_)|((with_reducible show rdE _ (.mv _) _ _); refine e_mv rfl ?_)|((with_reducible show rdE _ (.idxv _ _) _ _); refine e_idxv rfl ?_)|((with_reducible show rdE _ (.callio _ _ _) _ _); refine e_callio rfl ?_)))|((with_reducible show rdSs _ _ _ _); (first|(with_reducible refine r_cons ?_)|(with_reducible refine r_nil ?_)))|((with_reducible show rdS _ _ _ _); (first|(with_reducible refine r_asgF ?_)|(with_reducible refine r_asgT ?_)|(with_reducible refine r_ret ?_)|(with_reducible refine r_retN ?_)|(with_reducible refine r_expr ?_)|(with_reducible refine r_iff ?_)|(with_reducible refine r_brk ?_)|(with_reducible refine r_cont ?_)|(with_reducible refine r_pas ?_)|(with_reducible refine r_asgTs ?_)|((with_reducible show rdS _ (.setv _ _ _) _ _); refine r_setv rfl ?_)|((with_reducible show rdS _ (.mut _ _ _) _ _); refine r_mut ⟨_, rfl⟩ ?_)|((with_reducible show rdS _ (.dputT _ _ _) _ _); refine r_dputT rfl ?_)|((with_reducible show rdS _ (.aug _ _ _) _ _); refine r_aug rfl ?_)|(with_reducible refine r_par ?_)))|((with_reducible show rdEs _ _ _ _); (first|(with_reducible refine s_nil ?_)|(with_reducible refine s_cons ?_)))|((with_reducible show rdAnd _ _ _ _); (first|(with_reducible refine a_two ?_)|(with_reducible refine a_one ?_)))|((with_reducible show rdOr _ _ _ _); (first|(with_reducible refine o_two ?_)|(with_reducible refine o_one ?_)))|((with_reducible show rdI _ _ _ _); (first|(with_reducible refine w_lst ?_)|(with_reducible refine w_tup ?_)|(with_reducible refine w_rng1 ?_)|(with_reducible refine w_rng2 ?_)|(with_reducible refine w_enum ?_)|(with_reducible refine w_zip ?_)))|((with_reducible show rdC _ _ _ _); (first|(with_reducible refine c_nil ?_)|(with_reducible refine c_one ?_)))|((with_reducible show rdO _ _ _ _); (first|(with_reducible refine o_no ?_)|(with_reducible refine o_so ?_)))|((with_reducible show rdPs _ _ _ _ _); (first|(with_reducible refine r_psN ?_)|(with_reducible refine r_psF ?_)|(with_reducible refine r_psT ?_)|((with_reducible show rdPs _ _ (List.map _ _) _ _); simp only [List.map_cons, List.map_nil])))|((with_reducible show ∃ t, truthD _ = some t ∧ _); (first|(with_reducible refine r_tn ?_)|((with_reducible show ∃ t, truthD _ = some t ∧ _); simp only [isNonD_int, isNonD_bool, isNonD_str, isNonD_list, isNonD_tup, isNonD_none, Bool.not_true, Bool.not_false])|(with_reducible refine r_tT ?_)|(with_reducible refine r_tF ?_)|(with_reducible refine r_tbA (by assumption) ?_)|(with_reducible refine r_tbB (by assumption) ?_)|(with_reducible refine r_tb (fun hb => ?_) (fun hb => ?_))|((with_reducible refine r_not ?_); try simp only [Bool.not_true, Bool.not_false])))|((with_reducible show ∃ r, cmpD _ _ _ = some r ∧ _); (first|((first|(with_reducible refine g_ex (by assumption) ?_)) <;> try simp only [fr_is_integer, fr_need_size, fr_is_cell, fr_cells_fault, fr_need_cells, fr_row_fault, fr_need_row, fr_slots_fault, fr_check_crossings, fr_need_crossings, fr_need_port, fr_need_slot, fr_need_number, fr_need_rhythm, fr__law_source, fr__law_draw, fr__law_lot, fr__law_line, fr__law_later, reduceCtorEq, Bool.false_eq_true, if_false, if_true, kdOf_z, kdOf_t, kdOf_int, kdOf_bool, kdOf_str, kdOf_none, List.length_map, backD_wipe, Int.toNat_natCast, Int.reduceEq, Int.reduceLT, Int.reduceLE, decide_true, decide_false, Int.reduceSub, Int.reduceNeg, Int.reduceToNat, Int.reducePow, Int.reduceAdd, Int.reduceMul, Bool.not_true, Bool.not_false, isNonD_int, isNonD_bool, isNonD_str, isNonD_list, isNonD_tup, isNonD_none, List.set_cons_zero, List.set_cons_succ])|(with_reducible refine g_ex (ne_same _) ?_)|(with_reducible refine g_ex (eq_same _) ?_)|(with_reducible refine g_ex (ne_samei _) ?_)|(with_reducible refine g_ex (Shw.ne (by assumption)) ?_)|(with_reducible refine g_ex (Shw.eq (by assumption)) ?_)|(refine g_ex inn_ints ?_)|(refine g_ex (ne_nil _) ?_)|(refine g_ex (eq_nil _) ?_)|(refine g_ex (eq_ints _ _) ?_)|(refine g_ex (ne_ints _ _) ?_)|(refine g_ex rfl ?_)))|((with_reducible show ∃ t r, biD _ _ = some (t, r) ∧ _); (first|((first|(refine e_istE rfl ?_)|((with_reducible refine bi_F (by assumption) (Or.inl nz) ?_))|((with_reducible refine bi_F (sum_ints _) (Or.inl nz) ?_))|((with_reducible refine bi_F (sum_ints _) (Or.inl nt) ?_))|((with_reducible refine bi_T (biD_sorted _) (Or.inl nz) ?_))|((with_reducible refine bi_T (biD_sorted _) (Or.inl nt) ?_))|((with_reducible refine bi_F (Shw.repr (by assumption)) (Or.inl nz) ?_))|((with_reducible refine bi_F (Shw.repr (by assumption)) (Or.inl nt) ?_))|((with_reducible refine bi_F (Shw.repr (by assumption)) (.inr rfl) ?_))|(refine bi_F rfl (Or.inl nz) ?_)|(refine bi_F rfl (Or.inl nt) ?_)|(refine bi_F rfl (.inr rfl) ?_)) <;> try simp only [fr_is_integer, fr_need_size, fr_is_cell, fr_cells_fault, fr_need_cells, fr_row_fault, fr_need_row, fr_slots_fault, fr_check_crossings, fr_need_crossings, fr_need_port, fr_need_slot, fr_need_number, fr_need_rhythm, fr__law_source, fr__law_draw, fr__law_lot, fr__law_line, fr__law_later, reduceCtorEq, Bool.false_eq_true, if_false, if_true, kdOf_z, kdOf_t, kdOf_int, kdOf_bool, kdOf_str, kdOf_none, List.length_map, backD_wipe, Int.toNat_natCast, Int.reduceEq, Int.reduceLT, Int.reduceLE, decide_true, decide_false, Int.reduceSub, Int.reduceNeg, Int.reduceToNat, Int.reducePow, Int.reduceAdd, Int.reduceMul, Bool.not_true, Bool.not_false, isNonD_int, isNonD_bool, isNonD_str, isNonD_list, isNonD_tup, isNonD_none, List.set_cons_zero, List.set_cons_succ])))|((with_reducible show Exists _); (first|(with_reducible refine g_int ?_)|(with_reducible refine g_int2 ?_)|(with_reducible refine g_list ?_)|(with_reducible refine g_list2 ?_)|(with_reducible refine g_tup ?_)|((first|((with_reducible show ∃ t r, binD .add (.list _) (.list _) = some (t, r) ∧ _); refine b_cat3 (by constructor <;> (first|exact nz|exact nt)) (by simp [rangeD_length]; omega) ?_)|((with_reducible show ∃ t r, binD .mul (.list [.int _]) (.int _) = some (t, r) ∧ _); refine b_zeros (by omega) ?_)) <;> try simp only [fr_is_integer, fr_need_size, fr_is_cell, fr_cells_fault, fr_need_cells, fr_row_fault, fr_need_row, fr_slots_fault, fr_check_crossings, fr_need_crossings, fr_need_port, fr_need_slot, fr_need_number, fr_need_rhythm, fr__law_source, fr__law_draw, fr__law_lot, fr__law_line, fr__law_later, reduceCtorEq, Bool.false_eq_true, if_false, if_true, kdOf_z, kdOf_t, kdOf_int, kdOf_bool, kdOf_str, kdOf_none, List.length_map, backD_wipe, Int.toNat_natCast, Int.reduceEq, Int.reduceLT, Int.reduceLE, decide_true, decide_false, Int.reduceSub, Int.reduceNeg, Int.reduceToNat, Int.reducePow, Int.reduceAdd, Int.reduceMul, Bool.not_true, Bool.not_false, isNonD_int, isNonD_bool, isNonD_str, isNonD_list, isNonD_tup, isNonD_none, List.set_cons_zero, List.set_cons_succ])|((with_reducible show ∃ env2, tgD (.tp (.cons _ (.cons _ .nil))) _ _ = some env2 ∧ _); refine r_some (tg2_fz (by decide) rfl (by first|exact fz_un|exact fz_frz|assumption) rfl (by first|exact fz_un|exact fz_frz|assumption)) ?_)|(refine r_some rfl ?_)|(refine r_some (asg_fz rfl (by assumption)) ?_)|(refine r_some (asgt_fz rfl (by assumption)) ?_)|(refine r_some (asgo_ni rfl (by assumption)) ?_)|(refine r_augE rfl rfl ?_)|(refine r_put2 rfl rfl rfl ?_)|((first|(refine i_list rfl rfl ?_)|(refine i_list rfl (at_last (by assumption)) ?_)|(refine i_list rfl (at_last2 (by assumption)) ?_)|(refine i_list rfl (map_nat (by assumption) (by omega)) ?_)|(refine i_list rfl (atI_ints (by omega) (by omega)) ?_)|(refine i_list rfl (atI_ints ?_ ?_) ?_)|(refine i_tup rfl rfl ?_)) <;> try simp only [fr_is_integer, fr_need_size, fr_is_cell, fr_cells_fault, fr_need_cells, fr_row_fault, fr_need_row, fr_slots_fault, fr_check_crossings, fr_need_crossings, fr_need_port, fr_need_slot, fr_need_number, fr_need_rhythm, fr__law_source, fr__law_draw, fr__law_lot, fr__law_line, fr__law_later, reduceCtorEq, Bool.false_eq_true, if_false, if_true, kdOf_z, kdOf_t, kdOf_int, kdOf_bool, kdOf_str, kdOf_none, List.length_map, backD_wipe, Int.toNat_natCast, Int.reduceEq, Int.reduceLT, Int.reduceLE, decide_true, decide_false, Int.reduceSub, Int.reduceNeg, Int.reduceToNat, Int.reducePow, Int.reduceAdd, Int.reduceMul, Bool.not_true, Bool.not_false, isNonD_int, isNonD_bool, isNonD_str, isNonD_list, isNonD_tup, isNonD_none, List.set_cons_zero, List.set_cons_succ])))|((with_reducible show _ ∧ _); (first|((with_reducible show (CA.Ph _ _).io = false ∧ _); (first|((with_reducible show (CA.Ph _ "is_integer").io = false ∧ _); first|(refine CA.st_isI_t rfl (by first|assumption|omega) (by first|assumption|omega) ?_)|(refine CA.st_isI2 rfl  ?_)|(refine CA.st_isI1 rfl  ?_)|(refine CA.st_isI0 rfl  ?_))|((with_reducible show (CA.Ph _ "need_size").io = false ∧ _); first|(refine CA.st_need_size rfl (by first|assumption|omega) (by first|assumption|omega) ?_))|((with_reducible show (CA.Ph _ "need_port").io = false ∧ _); first|(refine CA.st_need_port rfl (by first|assumption|omega) (by first|assumption|omega) ?_))|((with_reducible show (CA.Ph _ "need_slot").io = false ∧ _); first|(refine CA.st_need_slot rfl (by first|assumption|omega) (by first|assumption|omega) ?_))|((with_reducible show (CA.Ph _ "need_number").io = false ∧ _); first|(refine CA.st_need_number2 rfl (by first|assumption|omega) (by first|assumption|omega) ?_)|(refine CA.st_need_number1 rfl (by first|assumption|omega) ?_))|((with_reducible show (CA.Ph _ "cells_fault").io = false ∧ _); first|(refine CA.st_cells_fault rfl (by first|assumption|omega) ?_))|((with_reducible show (CA.Ph _ "need_cells").io = false ∧ _); first|(refine CA.st_need_cells rfl (by first|assumption|omega) (by first|assumption|omega) (by first|assumption|omega) ?_))|((with_reducible show (CA.Ph _ "row_fault").io = false ∧ _); first|(refine CA.st_row_fault rfl (by first|assumption|omega) (by first|assumption|omega) (by first|assumption|omega) ?_))|((with_reducible show (CA.Ph _ "need_row").io = false ∧ _); first|(refine CA.st_need_row rfl (by first|assumption|omega) (by first|assumption|omega) (by first|assumption|omega) (by first|assumption|omega) ?_))|((with_reducible show (CA.Ph _ "slots_fault").io = false ∧ _); first|(refine CA.st_slots_fault rfl (by first|assumption|omega) (by first|assumption|omega) ?_))|((with_reducible show (CA.Ph _ "check_crossings").io = false ∧ _); first|(refine CA.st_check_crossings rfl (by first|assumption|omega) (by first|assumption|omega) ?_))|((with_reducible show (CA.Ph _ "need_crossings").io = false ∧ _); first|(refine CA.st_need_crossings rfl (by first|assumption|omega) (by first|assumption|omega) (by first|assumption|omega) (by first|assumption|omega) ?_))|((with_reducible show (CA.Ph _ "need_rhythm").io = false ∧ _); first|(refine CA.st_need_rhythm rfl (by first|assumption|omega) ?_))|((with_reducible show (CA.Ph _ "_law_later").io = false ∧ _); first|(refine CA.st__law_later rfl (by first|assumption|omega) (by first|assumption|omega) ?_))|((with_reducible show (CA.Ph _ "pairings_in").io = false ∧ _); first|(refine CR.st_pairings_in rfl (by first|assumption|omega) (by first|assumption|omega) (by first|assumption|omega) (by first|assumption|omega) ?_))|((with_reducible show (CA.Ph _ "unsure").io = false ∧ _); first|(refine CR.st_unsure rfl (by first|assumption|omega) (by first|assumption|omega) (by first|assumption|omega) (by first|assumption|omega) (by first|assumption|omega) ?_))|((with_reducible show (CA.Ph _ "_law_right").io = false ∧ _); first|(refine K28.st__law_right rfl (by first|assumption|omega) (by first|assumption|omega) (by first|assumption|omega) (by first|assumption|omega) (by first|assumption|omega) (by first|assumption|omega) ?_))|((with_reducible show (CA.Ph _ "law").io = false ∧ _); first|(refine K28.st_law rfl (by first|assumption|omega) ?_))))|((with_reducible show (False → _) ∧ ∃ ds ds' env2, ownD _ _ = some (.list ds) ∧ mutD .append ds _ = some ds' ∧ _); refine r_app4 rfl (by simp; omega) rfl ?_)|((with_reducible show (False → _) ∧ ∃ ds ds' env2, ownD _ _ = some (.list ds) ∧ mutD .append ds _ = some ds' ∧ _); refine r_app4 rfl ?_ rfl ?_)|((first|(with_reducible refine c_lt ?_)|(with_reducible refine c_le ?_)|(with_reducible refine c_gt ?_)|(with_reducible refine c_ge ?_)|(with_reducible refine c_eq ?_)|(with_reducible refine c_ne ?_)|(with_reducible refine b_add ?_)|(with_reducible refine b_sub ?_)|(refine g_rng (by unfold okRng; omega) ?_)|((with_reducible show (Kd.z ≠ _ ∨ _) ∧ ∃ t r, binD _ (.int _) (.int _) = some (t, r) ∧ _); refine b_mul (log_small (by omega) (by omega)) ?_)|((with_reducible show (Kd.z ≠ _ ∨ _) ∧ ∃ t r, binD _ (.int _) (.int _) = some (t, r) ∧ _); refine b_mul (log_mid (by omega) (by omega) (by omega) (by omega)) ?_)|((with_reducible show (Kd.z ≠ _ ∨ _) ∧ ∃ t r, binD _ (.int _) (.int _) = some (t, r) ∧ _); refine b_mod (by omega) ?_)|((with_reducible show (Kd.z ≠ _ ∨ _) ∧ ∃ t r, binD _ (.int _) (.int _) = some (t, r) ∧ _); refine b_div (div_c (by omega) (by omega)) ?_)|((with_reducible show (Kd.z ≠ _ ∨ _) ∧ ∃ t r, binD _ (.int _) (.int _) = some (t, r) ∧ _); refine b_div ⟨by omega, by decide⟩ ?_)|((with_reducible show (Kd.z ≠ _ ∨ _) ∧ ∃ t r, binD _ (.int _) (.int _) = some (t, r) ∧ _); refine b_div (div_m (by omega) (by omega)) ?_)|((with_reducible show (Kd.z ≠ _ ∨ _) ∧ ∃ t r, binD _ (.int _) (.int _) = some (t, r) ∧ _); refine b_pow (by decide) ?_)|((with_reducible show (Kd.z ≠ _ ∨ _) ∧ ∃ t r, binD _ (.int _) (.int _) = some (t, r) ∧ _); refine b_pow (pow_mid (by omega) (by omega) (by omega) (by omega)) ?_)|((with_reducible refine b_mul ?_ ?_))|((with_reducible refine b_mod ?_ ?_))|((with_reducible refine b_div ?_ ?_))|((with_reducible refine b_pow ?_ ?_))|((with_reducible refine g_rng ?_ ?_))) <;> try simp only [fr_is_integer, fr_need_size, fr_is_cell, fr_cells_fault, fr_need_cells, fr_row_fault, fr_need_row, fr_slots_fault, fr_check_crossings, fr_need_crossings, fr_need_port, fr_need_slot, fr_need_number, fr_need_rhythm, fr__law_source, fr__law_draw, fr__law_lot, fr__law_line, fr__law_later, reduceCtorEq, Bool.false_eq_true, if_false, if_true, kdOf_z, kdOf_t, kdOf_int, kdOf_bool, kdOf_str, kdOf_none, List.length_map, backD_wipe, Int.toNat_natCast, Int.reduceEq, Int.reduceLT, Int.reduceLE, decide_true, decide_false, Int.reduceSub, Int.reduceNeg, Int.reduceToNat, Int.reducePow, Int.reduceAdd, Int.reduceMul, Bool.not_true, Bool.not_false, isNonD_int, isNonD_bool, isNonD_str, isNonD_list, isNonD_tup, isNonD_none, List.set_cons_zero, List.set_cons_succ])|(refine e_chainE rfl (fun hb => ?_) (fun hb => ?_))|(with_reducible refine g_true ?_)|((first|(refine e_idxE (Or.inl nt) rfl ?_)|(refine e_idxE (Or.inl nz) rfl ?_)|(refine g_len (Nat.le_of_ble_eq_true rfl) ?_)|(with_reducible refine g_nbz ?_)|(with_reducible refine g_nbt ?_)|(with_reducible refine g_oz ?_)|(with_reducible refine g_ot ?_)|(with_reducible refine g_eqt ?_)|((with_reducible show (_ ∨ _ = true ∧ _ = true) ∧ _); refine And.intro (.inr ⟨rfl, rfl⟩) ?_)|((with_reducible show (_ ∨ flats (List.map PyData.int _) = true) ∧ _); refine And.intro (.inr (flats_ints _)) ?_)|(refine g_pur rfl ?_)) <;> try simp only [fr_is_integer, fr_need_size, fr_is_cell, fr_cells_fault, fr_need_cells, fr_row_fault, fr_need_row, fr_slots_fault, fr_check_crossings, fr_need_crossings, fr_need_port, fr_need_slot, fr_need_number, fr_need_rhythm, fr__law_source, fr__law_draw, fr__law_lot, fr__law_line, fr__law_later, reduceCtorEq, Bool.false_eq_true, if_false, if_true, kdOf_z, kdOf_t, kdOf_int, kdOf_bool, kdOf_str, kdOf_none, List.length_map, backD_wipe, Int.toNat_natCast, Int.reduceEq, Int.reduceLT, Int.reduceLE, decide_true, decide_false, Int.reduceSub, Int.reduceNeg, Int.reduceToNat, Int.reducePow, Int.reduceAdd, Int.reduceMul, Bool.not_true, Bool.not_false, isNonD_int, isNonD_bool, isNonD_str, isNonD_list, isNonD_tup, isNonD_none, List.set_cons_zero, List.set_cons_succ])|((with_reducible show _ ≤ 1000000 ∧ _); refine And.intro (by omega) ?_)|((with_reducible show _ ≤ 100000 ∧ _); refine And.intro (by (try simp); omega) ?_)|((first|((with_reducible show (CA.Ph _ "_law_draw").io = true ∧ _); refine CA.draw_step rfl (by assumption) ⟨by assumption, by assumption⟩ (by omega) (by omega) (by omega) (by omega) fun a c r ha hc hc' hr hr' => ⟨_, rfl, ?_⟩)) <;> try simp only [fr_is_integer, fr_need_size, fr_is_cell, fr_cells_fault, fr_need_cells, fr_row_fault, fr_need_row, fr_slots_fault, fr_check_crossings, fr_need_crossings, fr_need_port, fr_need_slot, fr_need_number, fr_need_rhythm, fr__law_source, fr__law_draw, fr__law_lot, fr__law_line, fr__law_later, reduceCtorEq, Bool.false_eq_true, if_false, if_true, kdOf_z, kdOf_t, kdOf_int, kdOf_bool, kdOf_str, kdOf_none, List.length_map, backD_wipe, Int.toNat_natCast, Int.reduceEq, Int.reduceLT, Int.reduceLE, decide_true, decide_false, Int.reduceSub, Int.reduceNeg, Int.reduceToNat, Int.reducePow, Int.reduceAdd, Int.reduceMul, Bool.not_true, Bool.not_false, isNonD_int, isNonD_bool, isNonD_str, isNonD_list, isNonD_tup, isNonD_none, List.set_cons_zero, List.set_cons_succ])|((with_reducible show _ = _ ∧ (CA.Ph _ _).io = false ∧ _); refine And.intro rfl ?_; simp only [DL.pick, List.filterMap_cons, List.filterMap_nil, List.getElem?_cons_zero, List.getElem?_cons_succ])))|(with_reducible refine g_ifT ?_)|(with_reducible refine g_ifF ?_)|(with_reducible refine g_if (fun hb => ?_) (fun hb => ?_)))))
local macro_rules | `(tactic| nofun) => `(tactic| try simp only [fr_is_integer, fr_need_size, fr_is_cell, fr_cells_fault, fr_need_cells, fr_row_fault, fr_need_row, fr_slots_fault, fr_check_crossings, fr_need_crossings, fr_need_port, fr_need_slot, fr_need_number, fr_need_rhythm, fr__law_source, fr__law_draw, fr__law_lot, fr__law_line, fr__law_later, reduceCtorEq, Bool.false_eq_true, if_false, if_true, kdOf_z, kdOf_t, kdOf_int, kdOf_bool, kdOf_str, kdOf_none, List.length_map, backD_wipe, Int.toNat_natCast, Int.reduceEq, Int.reduceLT, Int.reduceLE, decide_true, decide_false, Int.reduceSub, Int.reduceNeg, Int.reduceToNat, Int.reducePow, Int.reduceAdd, Int.reduceMul, Bool.not_true, Bool.not_false, isNonD_int, isNonD_bool, isNonD_str, isNonD_list, isNonD_tup, isNonD_none, List.set_cons_zero, List.set_cons_succ])
theorem sm_dI {l : List Int} (h : ∀ x ∈ l, -(10 ^ 60) < x ∧ x < 10 ^ 60) {m : Nat} (hl : l.length ≤ m) : Sm (dI l) 1 (1 * m + 1) := sm_list (sms_map (fun x hx => sm_int (h x hx)) hl)
theorem sm_dC {c : Cell} (h1 : -(10 ^ 60) < c.1 ∧ c.1 < 10 ^ 60) (h2 : -(10 ^ 60) < c.2.1 ∧ c.2.1 < 10 ^ 60) (h3 : -(10 ^ 60) < c.2.2 ∧ c.2.2 < 10 ^ 60) : Sm (dC c) 1 4 := sm_tup (sms_cons (sm_int h1) (sms_cons (sm_int h2) (sms_cons (sm_int h3) sms_nil)))
theorem sm_dL {n : Int} {lot : List Cell} (L : Lot n lot) (hn : n ≤ 8) : Sm (dL lot) 2 241 := sm_list (sms_map (k := 1) (n := 4) (m := 60) (fun c hc => by
  have := L.at0 c hc
  have := L.at1 c hc
  have := L.port0 c hc
  have := L.port1 c hc
  have := L.goal0 c hc
  have := L.goal1 c hc
  exact sm_dC (by omega) (by omega) (by omega)) L.few)
theorem RowOk.ge {n : Int} {lot : List Cell} {row : List Int} (R : RowOk lot row) (L : Lot n lot) : ∀ e ∈ row, 0 ≤ e := fun e he => by
  obtain ⟨i, hi⟩ := List.mem_iff_getElem?.mp he
  have := at_lt hi
  obtain ⟨c, hc⟩ : ∃ c, lot[i]? = some c := some_at (by rw [← R.len]; exact this)
  have h1 := R.low i c hc
  have h2 := L.at0 c (List.mem_of_getElem? hc)
  rw [getD_some hi] at h1
  omega
theorem sm_row {n : Int} {lot : List Cell} {row : List Int} (L : Lot n lot) (R : RowOk lot row) : Sm (dI row) 1 61 := sm_dI (m := 60) (fun e he => by
  have := R.ge L e he
  have := R.high e he
  omega) (by rw [R.len]; exact L.few)
theorem Moves.ge {n : Int} {lot : List Cell} {row : List Int} (R : Moves lot row) (L : Lot n lot) : ∀ e ∈ row, 0 ≤ e := fun e he => by
  obtain ⟨i, hi⟩ := List.mem_iff_getElem?.mp he
  have := at_lt hi
  obtain ⟨c, hc⟩ : ∃ c, lot[i]? = some c := some_at (by rw [← R.len]; exact this)
  have h1 := R.low i c hc
  have h2 := L.at0 c (List.mem_of_getElem? hc)
  rw [getD_some hi] at h1
  omega
theorem sm_moves {n : Int} {lot : List Cell} {row : List Int} (L : Lot n lot) (R : Moves lot row) : Sm (dI row) 1 61 := sm_dI (m := 60) (fun e he => by
  have := R.ge L e he
  have := R.high e he
  omega) (by rw [R.len]; exact L.few)
theorem sm_beat {b : List Int} (B : Beat b) : Sm (dI b) 1 41 := sm_dI (m := 40) (fun e he => by have := B.dig e he; omega) B.few
theorem RowOk.moves {lot : List Cell} {row : List Int} (R : RowOk lot row) : Moves lot row := ⟨R.len, R.low, R.high⟩
theorem lot_nil (n : Int) : Lot n [] := ⟨by decide, nofun', nofun', nofun', nofun', nofun', nofun', List.Pairwise.nil⟩
where nofun' {p : Cell → Prop} : ∀ c ∈ ([] : List Cell), p c := fun _ h => absurd h List.not_mem_nil
/-! ### written cells and rows -/
def lotB (n : Int) (lot : List Cell) : Bool := decide (lot.length ≤ 60) && lot.all (fun c => decide (0 ≤ c.1 ∧ c.1 < 10 ^ 30 ∧ 0 ≤ c.2.1 ∧ c.2.1 < n ∧ 0 ≤ c.2.2 ∧ c.2.2 < n)) && decide (lot.Pairwise fun x y => x.1 < y.1 ∨ x.1 = y.1 ∧ x.2.1 < y.2.1)
theorem lot_of {n : Int} {lot : List Cell} (h : lotB n lot = true) : Lot n lot := by
  unfold lotB at h
  simp only [Bool.and_eq_true, decide_eq_true_eq, List.all_eq_true] at h
  obtain ⟨⟨h1, h2⟩, h3⟩ := h
  exact ⟨h1, fun c hc => (h2 c hc).1, fun c hc => (h2 c hc).2.1, fun c hc => (h2 c hc).2.2.1, fun c hc => (h2 c hc).2.2.2.1, fun c hc => (h2 c hc).2.2.2.2.1, fun c hc => (h2 c hc).2.2.2.2.2, h3⟩
def rowB (lot : List Cell) (row : List Int) : Bool := decide (row.length = lot.length) && (lot.zip row).all (fun p => decide (p.1.1 ≤ p.2 ∧ p.2 < 10 ^ 31)) && decide ((lot.zip row).Pairwise fun p q => p.1.2.2 = q.1.2.2 → p.2 ≠ q.2)
theorem row_of {lot : List Cell} {row : List Int} (h : rowB lot row = true) : RowOk lot row := by
  unfold rowB at h
  simp only [Bool.and_eq_true, decide_eq_true_eq, List.all_eq_true] at h
  obtain ⟨⟨h1, h2⟩, h3⟩ := h
  have at_ : ∀ {i : Nat} {c : Cell}, lot[i]? = some c → ∃ e, row[i]? = some e ∧ row.getD i 0 = e ∧ (lot.zip row)[i]? = some (c, e) := fun {i c} hc => by
    obtain ⟨e, he⟩ : ∃ e, row[i]? = some e := some_at (by rw [h1]; exact at_lt hc)
    exact ⟨e, he, getD_some he, zip_at hc he⟩
  refine ⟨h1, fun i c hc => ?_, fun e he => ?_, fun i j c d hij hi hj hg => ?_⟩
  · obtain ⟨e, _, e2, e3⟩ := at_ hc
    rw [e2]
    exact (h2 _ (List.mem_of_getElem? e3)).1
  · obtain ⟨i, hi⟩ := List.mem_iff_getElem?.mp he
    obtain ⟨c, hc⟩ : ∃ c, lot[i]? = some c := some_at (by rw [← h1]; exact at_lt hi)
    exact (h2 _ (List.mem_of_getElem? (zip_at hc hi))).2
  · obtain ⟨e, _, e2, e3⟩ := at_ hi
    obtain ⟨f, _, f2, f3⟩ := at_ hj
    rw [e2, f2]
    obtain ⟨x1, x2⟩ := List.getElem?_eq_some_iff.mp e3
    obtain ⟨y1, y2⟩ := List.getElem?_eq_some_iff.mp f3
    have z := List.pairwise_iff_getElem.mp h3 i j x1 y1 hij
    rw [x2, y2] at z
    exact z hg
def movesB (lot : List Cell) (row : List Int) : Bool := decide (row.length = lot.length) && (lot.zip row).all (fun p => decide (p.1.1 ≤ p.2 ∧ p.2 < 10 ^ 31))
theorem moves_of {lot : List Cell} {row : List Int} (h : movesB lot row = true) : Moves lot row := by
  unfold movesB at h
  simp only [Bool.and_eq_true, decide_eq_true_eq, List.all_eq_true] at h
  obtain ⟨h1, h2⟩ := h
  refine ⟨h1, fun i c hc => ?_, fun e he => ?_⟩
  · obtain ⟨e, he⟩ : ∃ e, row[i]? = some e := some_at (by rw [h1]; exact at_lt hc)
    rw [getD_some he]
    exact (h2 _ (List.mem_of_getElem? (zip_at hc he))).1
  · obtain ⟨i, hi⟩ := List.mem_iff_getElem?.mp he
    obtain ⟨c, hc⟩ : ∃ c, lot[i]? = some c := some_at (by rw [← h1]; exact at_lt hi)
    exact (h2 _ (List.mem_of_getElem? (zip_at hc hi))).2
def beatB (b : List Int) : Bool := decide (0 < b.length ∧ b.length ≤ 40) && b.all fun x => decide (0 ≤ x ∧ x ≤ 9)
theorem beat_of {b : List Int} (h : beatB b = true) : Beat b := by
  unfold beatB at h
  simp only [Bool.and_eq_true, decide_eq_true_eq, List.all_eq_true] at h
  exact ⟨h.1.1, h.1.2, h.2⟩
/-- a statement with ways of its own: what holds behind each -/
theorem r_join {Φ : Phi} {s : S} {env : DEnv} {R : DEnds} (J : DEnv → Prop) (h1 : ∀ nx : DEnv → Prop, (∀ e, J e → nx e) → rdS Φ s env { nx := nx, rt := R.rt, bk := R.bk, ct := R.ct }) (h2 : ∀ e, J e → R.nx e) : rdS Φ s env R := h1 R.nx h2
/-- [x, y][int(b)] -/
theorem pick2 {x y : Int} {e : Bool} {P : D → Prop} (h : ∀ m : Int, (m = x ∨ m = y) → P (.int m)) : ∃ r, idxD (.list [.int x, .int y]) (.int (DL.b2i e)) = some r ∧ P r := by
  cases e
  · exact ⟨.int x, rfl, h x (.inl rfl)⟩
  · exact ⟨.int y, rfl, h y (.inr rfl)⟩
end CA

namespace CA
open PySem PySem.Spec PyProof.Rows L2 DL
/-! pairs as data -/
theorem can_pairs : ∀ ps : List (Int × Int), PyData.canLayAll0 (ps.map pD) = true
  | [] => rfl
  | p :: ps => by
    rw [List.map_cons]
    unfold PyData.canLayAll0
    rw [can_pairs ps]; rfl
theorem shaped_pair (p : Int × Int) : SeqAt.shaped (pD p) = true := by
  unfold pD SeqAt.shaped
  simp [PyData.canLay0, PyData.canLayAll0, PyData.depth, PyData.depthAll]
theorem shaped_pairs (ps : List (Int × Int)) : SeqAt.shaped (.list (ps.map pD)) = true := by
  have := depth_pairs ps
  unfold SeqAt.shaped PyData.canLay0 PyData.depth
  rw [can_pairs]
  simp
  omega
theorem eqv_pair (p q : Int × Int) : PyData.eqv (pD p) (pD q) = decide (p = q) := by
  obtain ⟨a, b⟩ := p
  obtain ⟨c, d⟩ := q
  unfold pD PyData.eqv
  unfold PyData.eqvAll PyData.eqvAll PyData.eqvAll
  rw [eqv_int, eqv_int]
  by_cases h : a = c <;> by_cases h2 : b = d <;> simp [h, h2]
theorem inn_pairs {p : Int × Int} {ps : List (Int × Int)} : cmpD .inn (pD p) (.list (ps.map pD)) = some (decide (p ∈ ps)) := by
  simp only [cmpD]
  rw [if_pos ⟨shaped_pair p, shaped_pairs ps⟩]
  congr 1
  induction ps with
  | nil => rfl
  | cons q ps ih =>
    rw [List.map_cons, List.any_cons, ih, eqv_pair]
    by_cases h : q = p
    · subst h; simp
    · simp [h, show ¬ p = q from fun z => h z.symm]
theorem nin_pairs {p : Int × Int} {ps : List (Int × Int)} : cmpD .nin (pD p) (.list (ps.map pD)) = some (!decide (p ∈ ps)) := by
  have h := inn_pairs (p := p) (ps := ps)
  simp only [cmpD] at h ⊢
  rw [if_pos ⟨shaped_pair p, shaped_pairs ps⟩] at h ⊢
  rw [Option.some.inj h]
theorem inn_pairs2 {a b : Int} {ps : List (Int × Int)} : cmpD .inn (.tuple [.int a, .int b]) (.list (ps.map pD)) = some (decide ((a, b) ∈ ps)) := inn_pairs (p := (a, b))
theorem nin_pairs2 {a b : Int} {ps : List (Int × Int)} : cmpD .nin (.tuple [.int a, .int b]) (.list (ps.map pD)) = some (!decide ((a, b) ∈ ps)) := nin_pairs (p := (a, b))
theorem nin_ints {i : Int} {ns : List Int} : cmpD .nin (.int i) (.list (ns.map .int)) = some (!decide (i ∈ ns)) := by
  have h := inn_ints (i := i) (ns := ns)
  simp only [cmpD] at h ⊢
  rw [if_pos ⟨shaped_int i, shaped_ints ns⟩] at h ⊢
  rw [Option.some.inj h]
theorem ne_nilP (ps : List (Int × Int)) : cmpD .ne (.list (ps.map pD)) (.list []) = some (!decide (ps = [])) := by
  simp only [cmpD]
  rw [if_pos ⟨shaped_pairs ps, rfl⟩]
  cases ps <;> simp [PyData.eqv, PyData.eqvAll]
theorem pairsOf_map : ∀ ps : List (Int × Int), pairsOf (ps.map pD) = some ps
  | [] => rfl
  | p :: ps => by
    show (pairsOf (ps.map pD)).map (p :: ·) = _
    rw [pairsOf_map ps]; rfl
theorem biD_minP (p : Int × Int) (ps : List (Int × Int)) : biD .min [.list ((p :: ps).map pD)] = some (false, pD (minP p ps)) := by
  have h := pairsOf_map (p :: ps)
  simp only [biD]
  rw [h]
  rfl
theorem biD_any (bs : List Bool) : biD .any [.list (bs.map .bool)] = some (false, .bool (bs.any id)) := by
  have h : boolsOf (bs.map .bool) = some bs := by
    induction bs with
    | nil => rfl
    | cons b bs ih =>
      show (boolsOf (bs.map .bool)).map (b :: ·) = _
      rw [ih]; rfl
  simp only [biD]
  rw [h]; rfl
theorem maxI_foldl : ∀ (r : List Int) (n : Int), (∀ x ∈ r, x ≤ maxI n r) ∧ n ≤ maxI n r ∧ (maxI n r = n ∨ maxI n r ∈ r) := fun r n => ⟨(maxI_ok r n).2.2, (maxI_ok r n).2.1, (maxI_ok r n).1⟩
theorem biD_max (n : Int) (ns : List Int) : biD .max [.list (.int n :: ns.map .int)] = some (false, .int (maxI n ns)) := by
  have h : intsOf (.int n :: ns.map .int) = some (n :: ns) := intsOf_map (n :: ns)
  simp only [biD]
  rw [h]; rfl
def lt2p (a b : Int × Int) : Prop := a.1 < b.1 ∨ a.1 = b.1 ∧ a.2 < b.2
theorem minP_ok : ∀ (ps : List (Int × Int)) (p : Int × Int), minP p ps ∈ p :: ps ∧ ∀ q ∈ p :: ps, ¬ lt2p q (minP p ps)
  | [], p => ⟨List.mem_cons_self, fun q hq => by
    have e : q = p := by simpa using hq
    subst e
    show ¬ lt2p q q
    unfold lt2p
    omega⟩
  | y :: ps, p => by
    have e : minP p (y :: ps) = minP (if lt2P y p = true then y else p) ps := rfl
    rw [e]
    obtain ⟨h1, h2⟩ := minP_ok ps (if lt2P y p = true then y else p)
    generalize minP (if lt2P y p = true then y else p) ps = m at h1 h2
    have tr : ∀ a b c : Int × Int, lt2p a b → lt2p b c → lt2p a c := fun a b c => by unfold lt2p; omega
    have tt : ∀ a b : Int × Int, ¬ lt2p a b → ¬ lt2p b a → a = b := fun a b h h' => Prod.ext (by unfold lt2p at h h'; omega) (by unfold lt2p at h h'; omega)
    by_cases hy : lt2P y p = true
    · have ly : lt2p y p := of_decide_eq_true (p := (y.1 < p.1 ∨ (y.1 = p.1 ∧ y.2 < p.2))) hy
      rw [if_pos hy] at h1 h2
      refine ⟨List.mem_cons_of_mem _ h1, fun q hq => ?_⟩
      rcases List.mem_cons.mp hq with z | z
      · subst z
        exact fun z => h2 y List.mem_cons_self (tr _ _ _ ly z)
      · exact h2 q z
    · have ly : ¬ lt2p y p := fun z => hy (decide_eq_true (p := (y.1 < p.1 ∨ (y.1 = p.1 ∧ y.2 < p.2))) z)
      rw [if_neg hy] at h1 h2
      refine ⟨?_, fun q hq => ?_⟩
      · rcases List.mem_cons.mp h1 with z | z
        · rw [z]; exact List.mem_cons_self
        · exact List.mem_cons_of_mem _ (List.mem_cons_of_mem _ z)
      · rcases List.mem_cons.mp hq with z | z
        · exact z ▸ h2 p List.mem_cons_self
        · rcases List.mem_cons.mp z with z | z
          · subst z
            intro z2
            by_cases z3 : lt2p p q
            · exact h2 p List.mem_cons_self (tr _ _ _ z3 z2)
            · have := tt _ _ z3 ly
              subst this
              exact h2 p List.mem_cons_self z2
          · exact h2 q (List.mem_cons_of_mem _ z)
/-- [x, y][i], [x, y, z][i] for a drawn i -/
theorem pickI2 {x y i : Int} {P : D → Prop} (h0 : 0 ≤ i) (h1 : i < 2) (h : ∀ m : Int, (m = x ∨ m = y) → P (.int m)) : ∃ r, idxD (.list [.int x, .int y]) (.int i) = some r ∧ P r := by
  have : i = 0 ∨ i = 1 := by omega
  rcases this with rfl | rfl
  · exact ⟨.int x, rfl, h x (.inl rfl)⟩
  · exact ⟨.int y, rfl, h y (.inr rfl)⟩
theorem pickI3 {x y z i : Int} {P : D → Prop} (h0 : 0 ≤ i) (h1 : i < 3) (h : ∀ m : Int, (m = x ∨ m = y ∨ m = z) → P (.int m)) : ∃ r, idxD (.list [.int x, .int y, .int z]) (.int i) = some r ∧ P r := by
  have : i = 0 ∨ i = 1 ∨ i = 2 := by omega
  rcases this with rfl | rfl | rfl
  · exact ⟨.int x, rfl, h x (.inl rfl)⟩
  · exact ⟨.int y, rfl, h y (.inr (.inl rfl))⟩
  · exact ⟨.int z, rfl, h z (.inr (.inr rfl))⟩
theorem bool_of (P : Prop) : ∃ b : Bool, b = true ↔ P := by
  by_cases h : P
  · exact ⟨true, fun _ => h, fun _ => rfl⟩
  · exact ⟨false, fun z => (by cases z), fun z => absurd z h⟩
theorem least_nat {P : Nat → Prop} (h : ∃ n, P n) : ∃ n, P n ∧ ∀ m, m < n → ¬ P m := by
  refine Classical.byContradiction fun z => ?_
  have all : ∀ n m, m < n → ¬ P m := by
    intro n
    induction n with
    | zero => exact fun m h => absurd h (Nat.not_lt_zero _)
    | succ n ih =>
      intro m hm hp
      by_cases e : m < n
      · exact ih m e hp
      · exact z ⟨m, hp, fun k hk => ih k (by omega)⟩
  obtain ⟨n, hn⟩ := h
  exact all (n + 1) n (Nat.lt_succ_self n) hn
/-- the least of pairs from 0 on -/
theorem least_pair {P : Int → Int → Prop} (h0 : ∀ t g, P t g → 0 ≤ t ∧ 0 ≤ g) (h : ∃ t g, P t g) : ∃ p : Int × Int, P p.1 p.2 ∧ ∀ t g, P t g → ¬ lt2p (t, g) p := by
  obtain ⟨t, g, h1⟩ := h
  obtain ⟨n, ⟨g1, h2⟩, h3⟩ := least_nat (P := fun n => ∃ g, P (n : Int) g) ⟨t.toNat, g, by rw [Int.toNat_of_nonneg (h0 t g h1).1]; exact h1⟩
  obtain ⟨m, h4, h5⟩ := least_nat (P := fun m => P (n : Int) (m : Int)) ⟨g1.toNat, by show P _ _; rw [Int.toNat_of_nonneg (h0 _ _ h2).2]; exact h2⟩
  refine ⟨((n : Int), (m : Int)), h4, fun t g hp z => ?_⟩
  obtain ⟨a1, a2⟩ := h0 t g hp
  rcases z with z | ⟨z1, z2⟩
  · have z : t < (n : Int) := z
    exact h3 t.toNat (by omega) ⟨g, by rw [Int.toNat_of_nonneg a1]; exact hp⟩
  · have z1 : t = (n : Int) := z1
    have z2 : g < (m : Int) := z2
    exact h5 g.toNat (by omega) (by show P _ _; rw [Int.toNat_of_nonneg a2, ← z1]; exact hp)
end CA

namespace CR
open PySem PySem.Spec PyProof.Rows L2 DL CA
/-- pairings ahead of the slot t -/
def acc (b : List Int) (t : Int) : Int := t / (b.length : Int) * b.sum + (b.take (t % (b.length : Int)).toNat).sum
def pin (b : List Int) (first last : Int) : Int := acc b (last + 1) - acc b first
def uns (lot : List Cell) (row b : List Int) : List Int := ((lot.zip row).zipIdx.filter fun p => decide (pin b p.1.1.1 p.1.2 < 2 * (p.1.2 - p.1.1.1) + 1)).map fun p => ((p.2 : Nat) : Int)
abbrev F_pairings_in : FSpec where
  sp := fun ds post => ∃ (b : List Int) (x y : Int), ds = [dI b, .int x, .int y] ∧ Beat b ∧ 0 ≤ x ∧ x ≤ y ∧ y < 10 ^ 31 ∧ post .none (.int (pin b x y))
abbrev F_unsure : FSpec where
  fr := true
  sp := fun ds post => ∃ (n : Int) (lot : List Cell) (row b : List Int), ds = [.int n, dL lot, dI row, dI b] ∧ 1 ≤ n ∧ n ≤ 8 ∧ Lot n lot ∧ RowOk lot row ∧ Beat b ∧ post .none (dI (uns lot row b))
abbrev F__law_beat : FSpec where
  io := true
  sp := fun ds post => ∃ (a b c t : Int), ds = [.list [.int a, .int b, .int c], .int t] ∧ 0 ≤ a ∧ 0 ≤ b ∧ b < 10 ^ 48 ∧ 0 ≤ c ∧ c < 500000 ∧ 1 ≤ t ∧ t ≤ 9 ∧
    ∀ (a' c' : Int) (beat : List Int), 0 ≤ a' → c ≤ c' → c' ≤ c + 10 → Beat beat → beat.length ≤ 6 → (∀ x ∈ beat, x ≤ t) → 0 < beat.sum → post (.list [.int a', .int b, .int c']) (dI beat)
def Ph (L : Phi) : Phi := fun x => if x = "pairings_in" then F_pairings_in else if x = "unsure" then F_unsure else if x = "_law_beat" then F__law_beat else L x
theorem Ph_pairings_in (L : Phi) : (CA.Ph (CR.Ph L)) "pairings_in" = F_pairings_in := rfl
theorem fr_pairings_in (L : Phi) : (if ((CA.Ph (CR.Ph L)) "pairings_in").fr = true then Kd.t else Kd.z) = Kd.z := rfl
theorem st_pairings_in {L : Phi} {P : D → D → Prop} {ds : List D} {b : List Int} {x y : Int} (e : ds = [dI b, .int x, .int y]) (h0 : Beat b) (h1 : 0 ≤ x) (h2 : x ≤ y) (h3 : y < 10 ^ 31) (h : P .none (.int (pin b x y))) : ((CA.Ph (CR.Ph L)) "pairings_in").io = false ∧ ((CA.Ph (CR.Ph L)) "pairings_in").sp ds P := ⟨rfl, b, x, y, e, h0, h1, h2, h3, h⟩
theorem Ph_unsure (L : Phi) : (CA.Ph (CR.Ph L)) "unsure" = F_unsure := rfl
theorem fr_unsure (L : Phi) : (if ((CA.Ph (CR.Ph L)) "unsure").fr = true then Kd.t else Kd.z) = Kd.t := rfl
theorem st_unsure {L : Phi} {P : D → D → Prop} {ds : List D} {n : Int} {lot : List Cell} {row b : List Int} (e : ds = [.int n, dL lot, dI row, dI b]) (h0 : 1 ≤ n) (h1 : n ≤ 8) (h2 : Lot n lot) (h3 : RowOk lot row) (h4 : Beat b) (h : P .none (dI (uns lot row b))) : ((CA.Ph (CR.Ph L)) "unsure").io = false ∧ ((CA.Ph (CR.Ph L)) "unsure").sp ds P := ⟨rfl, n, lot, row, b, e, h0, h1, h2, h3, h4, h⟩
theorem Ph__law_beat (L : Phi) : (CA.Ph (CR.Ph L)) "_law_beat" = F__law_beat := rfl
theorem fr__law_beat (L : Phi) : (if ((CA.Ph (CR.Ph L)) "_law_beat").fr = true then Kd.t else Kd.z) = Kd.z := rfl
theorem io__law_beat {L : Phi} {P : D → D → Prop} {dr : List D} {env : DEnv} {i : Nat} {a b c t : Int} (hs : ownD env i = some (.list [.int a, .int b, .int c])) (e : dr = [.int t]) (h0 : 0 ≤ a) (h1 : 0 ≤ b) (h2 : b < 10 ^ 48) (h3 : 0 ≤ c) (h4 : c < 500000) (h5 : 1 ≤ t) (h6 : t ≤ 9) (h : ∀ (a' c' : Int) (beat : List Int), 0 ≤ a' → c ≤ c' → c' ≤ c + 10 → Beat beat → beat.length ≤ 6 → (∀ x ∈ beat, x ≤ t) → 0 < beat.sum → P (.list [.int a', .int b, .int c']) (dI beat)) : ((CA.Ph (CR.Ph L)) "_law_beat").io = true ∧ Kd.z ≠ Kd.b ∧ ∃ ns : List Int, ownD env i = some (.list (ns.map .int)) ∧ ((CA.Ph (CR.Ph L)) "_law_beat").sp (.list (ns.map .int) :: dr) P := ⟨rfl, nz, [a, b, c], hs, a, b, c, t, by rw [e]; rfl, h0, h1, h2, h3, h4, h5, h6, h⟩
end CR

namespace CR
open PySem PySem.Spec PyProof.Rows L2 DL CA
set_option hygiene false
local macro_rules | `(tactic| and_intros) => `(tactic| (repeat' (first|((with_reducible show rdE _ _ _ _); (first|(with_reducible refine e_int ?_)|(with_reducible refine e_bl ?_)|(with_reducible refine e_non ?_)|(with_reducible refine e_str ?_)|(with_reducible refine e_gi ?_)|(with_reducible refine e_tup ?_)|(with_reducible refine e_lst ?_)|(with_reducible refine e_bin ?_)|(with_reducible refine e_neg ?_)|(with_reducible refine e_cmp ?_)|(with_reducible refine e_chain ?_)|(with_reducible refine e_not ?_)|(with_reducible refine e_ands ?_)|(with_reducible refine e_ors ?_)|(with_reducible refine e_ife ?_)|(with_reducible refine e_idx ?_)|(with_reducible refine e_call ?_)|(with_reducible refine e_callk ?_)|(with_reducible refine e_bi ?_)|(with_reducible refine e_ist ?_)|(with_reducible refine e_lrng1 ?_)|(with_reducible refine e_lrng2 ?_)|(with_reducible refine e_sset ?_)|(with_reducible refine e_dnewT ?_)|(with_reducible refine e_dinT ?_)|(with_reducible refine e_rev ?_)|(with_reducible refine e_cat ?_)|(with_reducible refine e_cat2 ?_)|(with_reducible refine e_mt ?_)|(with_reducible refine e_sl ?_)|((first|(with_reducible refine e_isN ?_)|(with_reducible refine e_notN ?_)) <;> try simp only [CA.fr_is_integer, CA.fr_need_size, CA.fr_is_cell, CA.fr_cells_fault, CA.fr_need_cells, CA.fr_row_fault, CA.fr_need_row, CA.fr_slots_fault, CA.fr_check_crossings, CA.fr_need_crossings, CA.fr_need_port, CA.fr_need_slot, CA.fr_need_number, CA.fr_need_rhythm, CA.fr__law_source, CA.fr__law_draw, CA.fr__law_lot, CA.fr__law_line, CA.fr__law_later, fr_pairings_in, fr_unsure, fr__law_beat, reduceCtorEq, Bool.false_eq_true, if_false, if_true, kdOf_z, kdOf_t, kdOf_int, kdOf_bool, kdOf_str, kdOf_none, List.length_map, backD_wipe, Int.toNat_natCast, Int.reduceEq, Int.reduceLT, Int.reduceLE, decide_true, decide_false, Int.reduceSub, Int.reduceNeg, Int.reduceToNat, Int.reducePow, Int.reduceAdd, Int.reduceMul, Bool.not_true, Bool.not_false, isNonD_int, isNonD_bool, isNonD_str, isNonD_list, isNonD_tup, isNonD_none])|((with_reducible show rdE _ (.var _) _ _); refine e_frz rfl ?_)|((with_reducible show rdE _ (.var _) _ _); refine e_own rfl ?_)|((with_reducible show rdE _ (.var _) _ _); refine e_io rfl ?_)|((with_reducible show rdE _ (.mv _) _ _); refine e_mv rfl ?_)|((with_reducible show rdE _ (.idxv _ _) _ _); refine e_idxv rfl ?_)|((with_reducible show rdE _ (.callio _ _ _) _ _); refine e_callio rfl ?_)))|((with_reducible show rdSs _ _ _ _); (first|(with_reducible refine r_cons ?_)|(with_reducible refine r_nil ?_)))|((with_reducible show rdS _ _ _ _); (first|(with_reducible refine r_asgF ?_)|(with_reducible refine r_asgT ?_)|(with_reducible refine r_ret ?_)|(with_reducible refine r_retN ?_)|(with_reducible refine r_expr ?_)|(with_reducible refine r_iff ?_)|(with_reducible refine r_brk ?_)|(with_reducible refine r_cont ?_)|(with_reducible refine r_pas ?_)|(with_reducible refine r_asgTs ?_)|((with_reducible show rdS _ (.setv _ _ _) _ _); refine r_setv rfl ?_)|((with_reducible show rdS _ (.mut _ _ _) _ _); refine r_mut ⟨_, rfl⟩ ?_)|((with_reducible show rdS _ (.dputT _ _ _) _ _); refine r_dputT rfl ?_)|((with_reducible show rdS _ (.aug _ _ _) _ _); refine r_aug rfl ?_)|(with_reducible refine r_par ?_)))|((with_reducible show rdEs _ _ _ _); (first|(with_reducible refine s_nil ?_)|(with_reducible refine s_cons ?_)))|((with_reducible show rdAnd _ _ _ _); (first|(with_reducible refine a_two ?_)|(with_reducible refine a_one ?_)))|((with_reducible show rdOr _ _ _ _); (first|(with_reducible refine o_two ?_)|(with_reducible refine o_one ?_)))|((with_reducible show rdI _ _ _ _); (first|(with_reducible refine w_lst ?_)|(with_reducible refine w_tup ?_)|(with_reducible refine w_rng1 ?_)|(with_reducible refine w_rng2 ?_)|(with_reducible refine w_enum ?_)|(with_reducible refine w_zip ?_)))|((with_reducible show rdC _ _ _ _); (first|(with_reducible refine c_nil ?_)|(with_reducible refine c_one ?_)))|((with_reducible show rdO _ _ _ _); (first|(with_reducible refine o_no ?_)|(with_reducible refine o_so ?_)))|((with_reducible show rdPs _ _ _ _ _); (first|(with_reducible refine r_psN ?_)|(with_reducible refine r_psF ?_)|(with_reducible refine r_psT ?_)|((with_reducible show rdPs _ _ (List.map _ _) _ _); simp only [List.map_cons, List.map_nil])))|((with_reducible show ∃ t, truthD _ = some t ∧ _); (first|(with_reducible refine r_tn ?_)|((with_reducible show ∃ t, truthD _ = some t ∧ _); simp only [isNonD_int, isNonD_bool, isNonD_str, isNonD_list, isNonD_tup, isNonD_none, Bool.not_true, Bool.not_false])|(with_reducible refine r_tT ?_)|(with_reducible refine r_tF ?_)|(with_reducible refine r_tbA (by assumption) ?_)|(with_reducible refine r_tbB (by assumption) ?_)|(with_reducible refine r_tb (fun hb => ?_) (fun hb => ?_))|((with_reducible refine r_not ?_); try simp only [Bool.not_true, Bool.not_false])))|((with_reducible show ∃ r, cmpD _ _ _ = some r ∧ _); (first|((first|(with_reducible refine g_ex (by assumption) ?_)) <;> try simp only [CA.fr_is_integer, CA.fr_need_size, CA.fr_is_cell, CA.fr_cells_fault, CA.fr_need_cells, CA.fr_row_fault, CA.fr_need_row, CA.fr_slots_fault, CA.fr_check_crossings, CA.fr_need_crossings, CA.fr_need_port, CA.fr_need_slot, CA.fr_need_number, CA.fr_need_rhythm, CA.fr__law_source, CA.fr__law_draw, CA.fr__law_lot, CA.fr__law_line, CA.fr__law_later, fr_pairings_in, fr_unsure, fr__law_beat, reduceCtorEq, Bool.false_eq_true, if_false, if_true, kdOf_z, kdOf_t, kdOf_int, kdOf_bool, kdOf_str, kdOf_none, List.length_map, backD_wipe, Int.toNat_natCast, Int.reduceEq, Int.reduceLT, Int.reduceLE, decide_true, decide_false, Int.reduceSub, Int.reduceNeg, Int.reduceToNat, Int.reducePow, Int.reduceAdd, Int.reduceMul, Bool.not_true, Bool.not_false, isNonD_int, isNonD_bool, isNonD_str, isNonD_list, isNonD_tup, isNonD_none])|(with_reducible refine g_ex (ne_same _) ?_)|(with_reducible refine g_ex (eq_same _) ?_)|(with_reducible refine g_ex (ne_samei _) ?_)|(with_reducible refine g_ex (Shw.ne (by assumption)) ?_)|(with_reducible refine g_ex (Shw.eq (by assumption)) ?_)|(refine g_ex inn_ints ?_)|(refine g_ex (ne_nil _) ?_)|(refine g_ex (eq_nil _) ?_)|(refine g_ex (eq_ints _ _) ?_)|(refine g_ex (ne_ints _ _) ?_)|(refine g_ex rfl ?_)))|((with_reducible show ∃ t r, biD _ _ = some (t, r) ∧ _); (first|((first|(refine e_istE rfl ?_)|((with_reducible refine bi_F (by assumption) (Or.inl nz) ?_))|((with_reducible refine bi_F (sum_ints _) (Or.inl nz) ?_))|((with_reducible refine bi_F (sum_ints _) (Or.inl nt) ?_))|((with_reducible refine bi_T (biD_sorted _) (Or.inl nz) ?_))|((with_reducible refine bi_T (biD_sorted _) (Or.inl nt) ?_))|((with_reducible refine bi_F (Shw.repr (by assumption)) (Or.inl nz) ?_))|((with_reducible refine bi_F (Shw.repr (by assumption)) (Or.inl nt) ?_))|((with_reducible refine bi_F (Shw.repr (by assumption)) (.inr rfl) ?_))|(refine bi_F rfl (Or.inl nz) ?_)|(refine bi_F rfl (Or.inl nt) ?_)|(refine bi_F rfl (.inr rfl) ?_)) <;> try simp only [CA.fr_is_integer, CA.fr_need_size, CA.fr_is_cell, CA.fr_cells_fault, CA.fr_need_cells, CA.fr_row_fault, CA.fr_need_row, CA.fr_slots_fault, CA.fr_check_crossings, CA.fr_need_crossings, CA.fr_need_port, CA.fr_need_slot, CA.fr_need_number, CA.fr_need_rhythm, CA.fr__law_source, CA.fr__law_draw, CA.fr__law_lot, CA.fr__law_line, CA.fr__law_later, fr_pairings_in, fr_unsure, fr__law_beat, reduceCtorEq, Bool.false_eq_true, if_false, if_true, kdOf_z, kdOf_t, kdOf_int, kdOf_bool, kdOf_str, kdOf_none, List.length_map, backD_wipe, Int.toNat_natCast, Int.reduceEq, Int.reduceLT, Int.reduceLE, decide_true, decide_false, Int.reduceSub, Int.reduceNeg, Int.reduceToNat, Int.reducePow, Int.reduceAdd, Int.reduceMul, Bool.not_true, Bool.not_false, isNonD_int, isNonD_bool, isNonD_str, isNonD_list, isNonD_tup, isNonD_none])))|((with_reducible show Exists _); (first|(with_reducible refine g_int ?_)|(with_reducible refine g_int2 ?_)|(with_reducible refine g_list ?_)|(with_reducible refine g_list2 ?_)|(with_reducible refine g_tup ?_)|((first|((with_reducible show ∃ t r, binD .add (.list _) (.list _) = some (t, r) ∧ _); refine b_cat3 (by constructor <;> (first|exact nz|exact nt)) (by simp [rangeD_length]; omega) ?_)|((with_reducible show ∃ t r, binD .mul (.list [.int _]) (.int _) = some (t, r) ∧ _); refine b_zeros (by omega) ?_)) <;> try simp only [CA.fr_is_integer, CA.fr_need_size, CA.fr_is_cell, CA.fr_cells_fault, CA.fr_need_cells, CA.fr_row_fault, CA.fr_need_row, CA.fr_slots_fault, CA.fr_check_crossings, CA.fr_need_crossings, CA.fr_need_port, CA.fr_need_slot, CA.fr_need_number, CA.fr_need_rhythm, CA.fr__law_source, CA.fr__law_draw, CA.fr__law_lot, CA.fr__law_line, CA.fr__law_later, fr_pairings_in, fr_unsure, fr__law_beat, reduceCtorEq, Bool.false_eq_true, if_false, if_true, kdOf_z, kdOf_t, kdOf_int, kdOf_bool, kdOf_str, kdOf_none, List.length_map, backD_wipe, Int.toNat_natCast, Int.reduceEq, Int.reduceLT, Int.reduceLE, decide_true, decide_false, Int.reduceSub, Int.reduceNeg, Int.reduceToNat, Int.reducePow, Int.reduceAdd, Int.reduceMul, Bool.not_true, Bool.not_false, isNonD_int, isNonD_bool, isNonD_str, isNonD_list, isNonD_tup, isNonD_none])|((with_reducible show ∃ env2, tgD (.tp (.cons _ (.cons _ .nil))) _ _ = some env2 ∧ _); refine r_some (tg2_fz (by decide) rfl (by first|exact fz_un|exact fz_frz|assumption) rfl (by first|exact fz_un|exact fz_frz|assumption)) ?_)|(refine r_some rfl ?_)|(refine r_some (asg_fz rfl (by assumption)) ?_)|(refine r_some (asgt_fz rfl (by assumption)) ?_)|(refine r_some (asgo_ni rfl (by assumption)) ?_)|(refine r_augE rfl rfl ?_)|(refine r_put2 rfl rfl rfl ?_)|((first|(refine i_list rfl rfl ?_)|(refine i_list rfl (at_last (by assumption)) ?_)|(refine i_list rfl (at_last2 (by assumption)) ?_)|(refine i_list rfl (map_nat (by assumption) (by omega)) ?_)|(refine i_list rfl (atI_ints (by omega) (by omega)) ?_)|(refine i_list rfl (atI_ints ?_ ?_) ?_)|(refine i_tup rfl rfl ?_)) <;> try simp only [CA.fr_is_integer, CA.fr_need_size, CA.fr_is_cell, CA.fr_cells_fault, CA.fr_need_cells, CA.fr_row_fault, CA.fr_need_row, CA.fr_slots_fault, CA.fr_check_crossings, CA.fr_need_crossings, CA.fr_need_port, CA.fr_need_slot, CA.fr_need_number, CA.fr_need_rhythm, CA.fr__law_source, CA.fr__law_draw, CA.fr__law_lot, CA.fr__law_line, CA.fr__law_later, fr_pairings_in, fr_unsure, fr__law_beat, reduceCtorEq, Bool.false_eq_true, if_false, if_true, kdOf_z, kdOf_t, kdOf_int, kdOf_bool, kdOf_str, kdOf_none, List.length_map, backD_wipe, Int.toNat_natCast, Int.reduceEq, Int.reduceLT, Int.reduceLE, decide_true, decide_false, Int.reduceSub, Int.reduceNeg, Int.reduceToNat, Int.reducePow, Int.reduceAdd, Int.reduceMul, Bool.not_true, Bool.not_false, isNonD_int, isNonD_bool, isNonD_str, isNonD_list, isNonD_tup, isNonD_none])))|((with_reducible show _ ∧ _); (first|((with_reducible show (CA.Ph _ _).io = false ∧ _); (first|((with_reducible show (CA.Ph _ "is_integer").io = false ∧ _); first|(refine CA.st_isI_t rfl (by first|assumption|omega) (by first|assumption|omega) ?_)|(refine CA.st_isI2 rfl  ?_)|(refine CA.st_isI1 rfl  ?_)|(refine CA.st_isI0 rfl  ?_))|((with_reducible show (CA.Ph _ "need_size").io = false ∧ _); first|(refine CA.st_need_size rfl (by first|assumption|omega) (by first|assumption|omega) ?_))|((with_reducible show (CA.Ph _ "need_port").io = false ∧ _); first|(refine CA.st_need_port rfl (by first|assumption|omega) (by first|assumption|omega) ?_))|((with_reducible show (CA.Ph _ "need_slot").io = false ∧ _); first|(refine CA.st_need_slot rfl (by first|assumption|omega) (by first|assumption|omega) ?_))|((with_reducible show (CA.Ph _ "need_number").io = false ∧ _); first|(refine CA.st_need_number2 rfl (by first|assumption|omega) (by first|assumption|omega) ?_)|(refine CA.st_need_number1 rfl (by first|assumption|omega) ?_))|((with_reducible show (CA.Ph _ "cells_fault").io = false ∧ _); first|(refine CA.st_cells_fault rfl (by first|assumption|omega) ?_))|((with_reducible show (CA.Ph _ "need_cells").io = false ∧ _); first|(refine CA.st_need_cells rfl (by first|assumption|omega) (by first|assumption|omega) (by first|assumption|omega) ?_))|((with_reducible show (CA.Ph _ "row_fault").io = false ∧ _); first|(refine CA.st_row_fault rfl (by first|assumption|omega) (by first|assumption|omega) (by first|assumption|omega) ?_))|((with_reducible show (CA.Ph _ "need_row").io = false ∧ _); first|(refine CA.st_need_row rfl (by first|assumption|omega) (by first|assumption|omega) (by first|assumption|omega) (by first|assumption|omega) ?_))|((with_reducible show (CA.Ph _ "slots_fault").io = false ∧ _); first|(refine CA.st_slots_fault rfl (by first|assumption|omega) (by first|assumption|omega) ?_))|((with_reducible show (CA.Ph _ "check_crossings").io = false ∧ _); first|(refine CA.st_check_crossings rfl (by first|assumption|omega) (by first|assumption|omega) ?_))|((with_reducible show (CA.Ph _ "need_crossings").io = false ∧ _); first|(refine CA.st_need_crossings rfl (by first|assumption|omega) (by first|assumption|omega) (by first|assumption|omega) (by first|assumption|omega) ?_))|((with_reducible show (CA.Ph _ "need_rhythm").io = false ∧ _); first|(refine CA.st_need_rhythm rfl (by first|assumption|omega) ?_))|((with_reducible show (CA.Ph _ "_law_later").io = false ∧ _); first|(refine CA.st__law_later rfl (by first|assumption|omega) (by first|assumption|omega) ?_))|((with_reducible show (CA.Ph _ "pairings_in").io = false ∧ _); first|(refine CR.st_pairings_in rfl (by first|assumption|omega) (by first|assumption|omega) (by first|assumption|omega) (by first|assumption|omega) ?_))|((with_reducible show (CA.Ph _ "unsure").io = false ∧ _); first|(refine CR.st_unsure rfl (by first|assumption|omega) (by first|assumption|omega) (by first|assumption|omega) (by first|assumption|omega) (by first|assumption|omega) ?_))))|((with_reducible show (False → _) ∧ ∃ ds ds' env2, ownD _ _ = some (.list ds) ∧ mutD .append ds _ = some ds' ∧ _); refine r_app4 rfl (by simp; omega) rfl ?_)|((with_reducible show (False → _) ∧ ∃ ds ds' env2, ownD _ _ = some (.list ds) ∧ mutD .append ds _ = some ds' ∧ _); refine r_app4 rfl ?_ rfl ?_)|((first|(with_reducible refine c_lt ?_)|(with_reducible refine c_le ?_)|(with_reducible refine c_gt ?_)|(with_reducible refine c_ge ?_)|(with_reducible refine c_eq ?_)|(with_reducible refine c_ne ?_)|(with_reducible refine b_add ?_)|(with_reducible refine b_sub ?_)|(refine g_rng (by unfold okRng; omega) ?_)|((with_reducible show (Kd.z ≠ _ ∨ _) ∧ ∃ t r, binD _ (.int _) (.int _) = some (t, r) ∧ _); refine b_mul (log_small (by omega) (by omega)) ?_)|((with_reducible show (Kd.z ≠ _ ∨ _) ∧ ∃ t r, binD _ (.int _) (.int _) = some (t, r) ∧ _); refine b_mul (log_mid (by omega) (by omega) (by omega) (by omega)) ?_)|((with_reducible show (Kd.z ≠ _ ∨ _) ∧ ∃ t r, binD _ (.int _) (.int _) = some (t, r) ∧ _); refine b_mod (by omega) ?_)|((with_reducible show (Kd.z ≠ _ ∨ _) ∧ ∃ t r, binD _ (.int _) (.int _) = some (t, r) ∧ _); refine b_div (div_c (by omega) (by omega)) ?_)|((with_reducible show (Kd.z ≠ _ ∨ _) ∧ ∃ t r, binD _ (.int _) (.int _) = some (t, r) ∧ _); refine b_div ⟨by omega, by decide⟩ ?_)|((with_reducible show (Kd.z ≠ _ ∨ _) ∧ ∃ t r, binD _ (.int _) (.int _) = some (t, r) ∧ _); refine b_div (div_m (by omega) (by omega)) ?_)|((with_reducible show (Kd.z ≠ _ ∨ _) ∧ ∃ t r, binD _ (.int _) (.int _) = some (t, r) ∧ _); refine b_pow (by decide) ?_)|((with_reducible show (Kd.z ≠ _ ∨ _) ∧ ∃ t r, binD _ (.int _) (.int _) = some (t, r) ∧ _); refine b_pow (pow_mid (by omega) (by omega) (by omega) (by omega)) ?_)|((with_reducible refine b_mul ?_ ?_))|((with_reducible refine b_mod ?_ ?_))|((with_reducible refine b_div ?_ ?_))|((with_reducible refine b_pow ?_ ?_))|((with_reducible refine g_rng ?_ ?_))) <;> try simp only [CA.fr_is_integer, CA.fr_need_size, CA.fr_is_cell, CA.fr_cells_fault, CA.fr_need_cells, CA.fr_row_fault, CA.fr_need_row, CA.fr_slots_fault, CA.fr_check_crossings, CA.fr_need_crossings, CA.fr_need_port, CA.fr_need_slot, CA.fr_need_number, CA.fr_need_rhythm, CA.fr__law_source, CA.fr__law_draw, CA.fr__law_lot, CA.fr__law_line, CA.fr__law_later, fr_pairings_in, fr_unsure, fr__law_beat, reduceCtorEq, Bool.false_eq_true, if_false, if_true, kdOf_z, kdOf_t, kdOf_int, kdOf_bool, kdOf_str, kdOf_none, List.length_map, backD_wipe, Int.toNat_natCast, Int.reduceEq, Int.reduceLT, Int.reduceLE, decide_true, decide_false, Int.reduceSub, Int.reduceNeg, Int.reduceToNat, Int.reducePow, Int.reduceAdd, Int.reduceMul, Bool.not_true, Bool.not_false, isNonD_int, isNonD_bool, isNonD_str, isNonD_list, isNonD_tup, isNonD_none])|(refine e_chainE rfl (fun hb => ?_) (fun hb => ?_))|(with_reducible refine g_true ?_)|((first|(refine e_idxE (Or.inl nt) rfl ?_)|(refine e_idxE (Or.inl nz) rfl ?_)|(refine g_len (Nat.le_of_ble_eq_true rfl) ?_)|(with_reducible refine g_nbz ?_)|(with_reducible refine g_nbt ?_)|(with_reducible refine g_oz ?_)|(with_reducible refine g_ot ?_)|(with_reducible refine g_eqt ?_)|((with_reducible show (_ ∨ _ = true ∧ _ = true) ∧ _); refine And.intro (.inr ⟨rfl, rfl⟩) ?_)|((with_reducible show (_ ∨ flats (List.map PyData.int _) = true) ∧ _); refine And.intro (.inr (flats_ints _)) ?_)|(refine g_pur rfl ?_)) <;> try simp only [CA.fr_is_integer, CA.fr_need_size, CA.fr_is_cell, CA.fr_cells_fault, CA.fr_need_cells, CA.fr_row_fault, CA.fr_need_row, CA.fr_slots_fault, CA.fr_check_crossings, CA.fr_need_crossings, CA.fr_need_port, CA.fr_need_slot, CA.fr_need_number, CA.fr_need_rhythm, CA.fr__law_source, CA.fr__law_draw, CA.fr__law_lot, CA.fr__law_line, CA.fr__law_later, fr_pairings_in, fr_unsure, fr__law_beat, reduceCtorEq, Bool.false_eq_true, if_false, if_true, kdOf_z, kdOf_t, kdOf_int, kdOf_bool, kdOf_str, kdOf_none, List.length_map, backD_wipe, Int.toNat_natCast, Int.reduceEq, Int.reduceLT, Int.reduceLE, decide_true, decide_false, Int.reduceSub, Int.reduceNeg, Int.reduceToNat, Int.reducePow, Int.reduceAdd, Int.reduceMul, Bool.not_true, Bool.not_false, isNonD_int, isNonD_bool, isNonD_str, isNonD_list, isNonD_tup, isNonD_none])|((with_reducible show _ ≤ 1000000 ∧ _); refine And.intro (by omega) ?_)|((with_reducible show _ ≤ 100000 ∧ _); refine And.intro (by (try simp); omega) ?_)|((first|((with_reducible show (CA.Ph _ "_law_draw").io = true ∧ _); refine CA.draw_step rfl (by assumption) ⟨by assumption, by assumption⟩ (by omega) (by omega) (by omega) (by omega) fun a c r ha hc hc' hr hr' => ⟨_, rfl, ?_⟩)) <;> try simp only [CA.fr_is_integer, CA.fr_need_size, CA.fr_is_cell, CA.fr_cells_fault, CA.fr_need_cells, CA.fr_row_fault, CA.fr_need_row, CA.fr_slots_fault, CA.fr_check_crossings, CA.fr_need_crossings, CA.fr_need_port, CA.fr_need_slot, CA.fr_need_number, CA.fr_need_rhythm, CA.fr__law_source, CA.fr__law_draw, CA.fr__law_lot, CA.fr__law_line, CA.fr__law_later, fr_pairings_in, fr_unsure, fr__law_beat, reduceCtorEq, Bool.false_eq_true, if_false, if_true, kdOf_z, kdOf_t, kdOf_int, kdOf_bool, kdOf_str, kdOf_none, List.length_map, backD_wipe, Int.toNat_natCast, Int.reduceEq, Int.reduceLT, Int.reduceLE, decide_true, decide_false, Int.reduceSub, Int.reduceNeg, Int.reduceToNat, Int.reducePow, Int.reduceAdd, Int.reduceMul, Bool.not_true, Bool.not_false, isNonD_int, isNonD_bool, isNonD_str, isNonD_list, isNonD_tup, isNonD_none])|((with_reducible show _ = _ ∧ (CA.Ph _ _).io = false ∧ _); refine And.intro rfl ?_; simp only [DL.pick, List.filterMap_cons, List.filterMap_nil, List.getElem?_cons_zero, List.getElem?_cons_succ])))|(with_reducible refine g_ifT ?_)|(with_reducible refine g_ifF ?_)|(with_reducible refine g_if (fun hb => ?_) (fun hb => ?_)))))
local macro_rules | `(tactic| nofun) => `(tactic| try simp only [CA.fr_is_integer, CA.fr_need_size, CA.fr_is_cell, CA.fr_cells_fault, CA.fr_need_cells, CA.fr_row_fault, CA.fr_need_row, CA.fr_slots_fault, CA.fr_check_crossings, CA.fr_need_crossings, CA.fr_need_port, CA.fr_need_slot, CA.fr_need_number, CA.fr_need_rhythm, CA.fr__law_source, CA.fr__law_draw, CA.fr__law_lot, CA.fr__law_line, CA.fr__law_later, fr_pairings_in, fr_unsure, fr__law_beat, reduceCtorEq, Bool.false_eq_true, if_false, if_true, kdOf_z, kdOf_t, kdOf_int, kdOf_bool, kdOf_str, kdOf_none, List.length_map, backD_wipe, Int.toNat_natCast, Int.reduceEq, Int.reduceLT, Int.reduceLE, decide_true, decide_false, Int.reduceSub, Int.reduceNeg, Int.reduceToNat, Int.reducePow, Int.reduceAdd, Int.reduceMul, Bool.not_true, Bool.not_false, isNonD_int, isNonD_bool, isNonD_str, isNonD_list, isNonD_tup, isNonD_none])
theorem take_sum {b : List Int} {m : Nat} (h : m < b.length) : (b.take (m + 1)).sum = (b.take m).sum + b.getD m 0 := by
  rw [take_next (getD_of h), List.sum_append]
  simp
theorem acc_step {b : List Int} (hb : 0 < b.length) (t : Int) : acc b (t + 1) = acc b t + b.getD (t % (b.length : Int)).toNat 0 := by
  unfold acc
  have hL : (0 : Int) < (b.length : Int) := by omega
  have m0 := Int.emod_nonneg t (show (b.length : Int) ≠ 0 by omega)
  have m1 := Int.emod_lt_of_pos t hL
  have e0 := Int.emod_add_mul_ediv t (b.length : Int)
  by_cases h : t % (b.length : Int) + 1 < (b.length : Int)
  · obtain ⟨h1, h2⟩ := (Int.ediv_emod_unique hL).mpr (show (t % (b.length : Int) + 1) + (b.length : Int) * (t / (b.length : Int)) = t + 1 ∧ 0 ≤ t % (b.length : Int) + 1 ∧ t % (b.length : Int) + 1 < (b.length : Int) by omega)
    rw [h1, h2, show (t % (b.length : Int) + 1).toNat = (t % (b.length : Int)).toNat + 1 by omega, take_sum (by omega)]
    omega
  · have h3 : (b.length : Int) * (t / (b.length : Int) + 1) = (b.length : Int) * (t / (b.length : Int)) + (b.length : Int) := by rw [Int.mul_add, Int.mul_one]
    obtain ⟨h1, h2⟩ := (Int.ediv_emod_unique hL).mpr (show 0 + (b.length : Int) * (t / (b.length : Int) + 1) = t + 1 ∧ (0 : Int) ≤ 0 ∧ 0 < (b.length : Int) by omega)
    rw [h1, h2]
    have h4 : b.sum = (b.take (t % (b.length : Int)).toNat).sum + b.getD (t % (b.length : Int)).toNat 0 := by
      rw [← take_sum (by omega), List.take_of_length_le (by omega)]
    have h5 : (t / (b.length : Int) + 1) * b.sum = t / (b.length : Int) * b.sum + b.sum := by rw [Int.add_mul, Int.one_mul]
    rw [h5]
    rw [show ((0 : Int).toNat) = 0 from rfl, List.take_zero, List.sum_nil, h4]
    omega
/-- pairings slot by slot -/
theorem acc_walk {b : List Int} (hb : 0 < b.length) (x : Int) : ∀ n : Nat, (((List.range n).map fun i : Nat => x + (i : Int)).map fun t => b.getD (t % (b.length : Int)).toNat 0).sum = acc b (x + n) - acc b x
  | 0 => by simp
  | n + 1 => by
    have ih := acc_walk hb x n
    have st := acc_step hb (x + (n : Int))
    rw [List.range_succ, List.map_append, List.map_append, List.sum_append, ih]
    rw [show x + ((n + 1 : Nat) : Int) = x + (n : Int) + 1 by omega, st]
    simp
    omega
theorem sum_dig : ∀ l : List Int, (∀ x ∈ l, 0 ≤ x ∧ x ≤ 9) → 0 ≤ l.sum ∧ l.sum ≤ 9 * (l.length : Int)
  | [], _ => ⟨Int.le_refl _, Int.le_refl _⟩
  | x :: l, h => by
    have h1 := h x List.mem_cons_self
    have h2 := sum_dig l fun y hy => h y (List.mem_cons_of_mem _ hy)
    rw [List.sum_cons, List.length_cons]
    omega
theorem beat_sum {b : List Int} (B : Beat b) : 0 ≤ b.sum ∧ b.sum ≤ 360 := by
  have := sum_dig b B.dig
  have := B.few
  omega
theorem cut_to (b : List Int) {m : Int} (h0 : 0 ≤ m) (h1 : m ≤ b.length) : DL.cutD (b.map PyData.int) none (some m) = (b.take m.toNat).map .int := by
  unfold DL.cutD
  have e1 : HT.sIx (b.map PyData.int).length 0 none = 0 := rfl
  rw [e1, List.drop_zero, Nat.sub_zero]
  have e2 : HT.sIx (b.map PyData.int).length (b.map PyData.int).length (some m) = m.toNat := by
    unfold HT.sIx
    simp only [List.length_map]
    rw [if_neg (by omega), Nat.min_eq_left (by omega)]
  rw [e2, List.map_take]
theorem law_pairings_in (L : Phi) : ∀ ds post, F_pairings_in.sp ds post → ds.length = k_pairings_in ∧ rdSs (CA.Ph (CR.Ph L)) b_pairings_in (env0 F_pairings_in.io N_pairings_in.length ds) (fnEnds F_pairings_in post) := by
  rintro ds post ⟨b, x, y, rfl, B, hx, hxy, hy, hp⟩
  refine ⟨rfl, ?_⟩
  show rdSs (CA.Ph (CR.Ph L)) b_pairings_in [.frz (dI b), .frz (.int x), .frz (.int y), .un, .un, .un, .un] _
  unfold b_pairings_in
  have b1 := B.some_
  have b2 := B.few
  obtain ⟨s0, s1⟩ := beat_sum B
  and_intros
  refine r_for ?_
  and_intros
  refine for_fin [x, y + 1] .int (fun j => [.frz (dI b), .frz (.int x), .frz (.int y), .frz (.int b.sum), .frz (.int (b.length : Nat)), .own (dI (([x, y + 1].take j).map (acc b))), .un]) rfl ?_ ?_ ?_
  · rfl
  · rintro j s hj
    have hs : 0 ≤ s ∧ s ≤ 10 ^ 31 := by
      have := List.mem_of_getElem? hj
      simp only [List.mem_cons, List.not_mem_nil, or_false] at this
      omega
    refine ⟨_, tg_fz rfl fz_un, ?_⟩
    have tk := take_next hj
    have tl : ([x, y + 1].take j).length ≤ 2 := by rw [List.length_take]; simp; omega
    rw [tk, List.map_append]
    generalize ([x, y + 1].take j) = done at tl ⊢
    have q0 : 0 ≤ s / (b.length : Int) := Int.ediv_nonneg hs.1 (by omega)
    have q1 : s / (b.length : Int) ≤ s := Int.ediv_le_self _ hs.1
    have m0 := Int.emod_nonneg s (show (b.length : Int) ≠ 0 by omega)
    have m1 := Int.emod_lt_of_pos s (show (0 : Int) < (b.length : Int) by omega)
    have ct := cut_to b (m := s % (b.length : Int)) m0 (by omega)
    and_intros
    rw [ct]
    and_intros
    (simp only [dI, dL, List.map_append, List.map_cons, List.map_nil, List.map_map, List.append_nil]; rfl)
  · refine r_frz rfl ?_
    and_intros
    (first | exact ⟨.none, fun z => absurd z (by decide), hp⟩ | exact ⟨rfl, .none, fun z => absurd z (by decide), hp⟩ | exact ⟨.inl nz, .none, fun z => absurd z (by decide), hp⟩ | exact ⟨.inr rfl, .none, fun z => absurd z (by decide), hp⟩)
theorem law_unsure (L : Phi) : ∀ ds post, F_unsure.sp ds post → ds.length = k_unsure ∧ rdSs (CA.Ph (CR.Ph L)) b_unsure (env0 F_unsure.io N_unsure.length ds) (fnEnds F_unsure post) := by
  rintro ds post ⟨n, lot, row, b, rfl, h1, h2, Lo, R, B, hp⟩
  have few := Lo.few
  have hle := R.len
  refine ⟨rfl, ?_⟩
  show rdSs (CA.Ph (CR.Ph L)) b_unsure [.frz (.int n), .frz (dL lot), .frz (dI row), .frz (dI b), .un, .un, .un] _
  unfold b_unsure
  and_intros
  refine r_for ?_
  and_intros
  have elen : ((lot.zip row).zipIdx).length = lot.length := by simp [hle]
  refine for_fin (lot.zip row).zipIdx (fun p => .tuple [.int (p.2 : Nat), dC p.1.1]) (fun j => [.frz (.int n), .frz (dL lot), .frz (dI row), .frz (dI b), .own (dI ((((lot.zip row).zipIdx.take j).filter fun p => decide (pin b p.1.1.1 p.1.2 < 2 * (p.1.2 - p.1.1.1) + 1)).map fun p => ((p.2 : Nat) : Int))), .un, .un]) ?_ ?_ ?_ ?_ ?_
  · rw [enum_eq]
    refine List.ext_getElem (by simp [hle]) fun i h1 h2 => ?_
    simp
  · rfl
  · rintro j ⟨⟨⟨a, p, g⟩, e⟩, i⟩ hj
    have tk := take_next hj
    obtain ⟨hj, rfl⟩ := idx_at hj
    simp only at hj tk ⊢
    rw [List.getElem?_zip_eq_some] at hj
    obtain ⟨hc, he⟩ := hj
    refine ⟨_, tg2_fz (by decide) rfl fz_un rfl fz_un, ?_⟩
    have lo := R.low i _ hc
    rw [getD_some he] at lo
    simp only at lo
    have a0 := Lo.at0 _ (List.mem_of_getElem? hc)
    simp only at a0
    have hi := R.high e (List.mem_of_getElem? he)
    have hl := at_lt hc
    have fl : (((lot.zip row).zipIdx.take i).filter fun p => decide (pin b p.1.1.1 p.1.2 < 2 * (p.1.2 - p.1.1.1) + 1)).length ≤ 60 := by
      refine Nat.le_trans (List.length_filter_le _ _) ?_
      rw [List.length_take]
      omega
    rw [tk, List.filter_append, List.map_append]
    generalize (((lot.zip row).zipIdx.take i).filter fun p => decide (pin b p.1.1.1 p.1.2 < 2 * (p.1.2 - p.1.1.1) + 1)) = done at fl ⊢
    and_intros
    all_goals (show wipeF _ _ = _; simp only [List.filter_cons, List.filter_nil, hb, if_true, if_false, Bool.false_eq_true]; (simp only [dI, dL, List.map_append, List.map_cons, List.map_nil, List.map_map, List.append_nil]; rfl))
  · and_intros
    rw [List.take_length]
    (first | exact ⟨.none, fun z => absurd z (by decide), hp⟩ | exact ⟨rfl, .none, fun z => absurd z (by decide), hp⟩ | exact ⟨.inl nz, .none, fun z => absurd z (by decide), hp⟩ | exact ⟨.inr rfl, .none, fun z => absurd z (by decide), hp⟩)
  · simp [hle]
theorem law__law_beat (L : Phi) : ∀ ds post, F__law_beat.sp ds post → ds.length = k__law_beat ∧ rdSs (CA.Ph (CR.Ph L)) b__law_beat (env0 F__law_beat.io N__law_beat.length ds) (fnEnds F__law_beat post) := by
  rintro ds post ⟨a, b, c, t, rfl, ha, hb0, hb1, hc0, hc1, ht0, ht1, hp⟩
  refine ⟨rfl, ?_⟩
  show rdSs (CA.Ph (CR.Ph L)) b__law_beat [.io (.list [.int a, .int b, .int c]), .frz (.int t), .un, .un] _
  unfold b__law_beat
  and_intros
  refine e_lc ?_
  and_intros
  refine lc_inv (List.range (1 + r).toNat) (fun i => .int (i : Nat)) (fun j acc env => ∃ (a' c2 : Int) (ns : List Int), 0 ≤ a' ∧ c ≤ c2 ∧ c2 ≤ c + j ∧ acc = ns.map .int ∧ ns.length = j ∧ (∀ x ∈ ns, 0 ≤ x ∧ x ≤ t) ∧ env = [.io (src a' b c2), .frz (.int t), .un, .un]) range_eq ?_ ?_ ?_ ?_ ?_
  · rfl
  · exact .inl nz
  · exact ⟨a, c, [], ha, by omega, by omega, rfl, rfl, fun x h => absurd h List.not_mem_nil, rfl⟩
  · rintro j i acc env hj ⟨a2, c2, ns, ha2, hc2, hc2', rfl, hl, hns, rfl⟩
    obtain ⟨hj, rfl⟩ := range_at hj
    refine ⟨_, tg_fz rfl fz_un, ?_⟩
    have hz : sizeLine > 1000 := by decide
    and_intros
    refine ⟨by omega, _, _, ns ++ [r], by assumption, by omega, ?_, by simp, by simp; omega, fun x hx => ?_, rfl⟩
    · omega
    · rcases List.mem_append.mp hx with z | z
      · exact hns x z
      · have : x = r := by simpa using z
        omega
  · rintro acc env ⟨a2, c2, ns, ha2, hc2, hc2', rfl, hl, hns, rfl⟩
    rw [List.length_range] at hl hc2'
    have nn := sum_dig ns fun x hx => by have := hns x hx; omega
    and_intros
    · have hb := of_decide_eq_true hb
      refine ⟨.inl nz, src a2 b c2, fun _ => ⟨[a2, b, c2], rfl, rfl⟩, hp a2 c2 ns ha2 (by omega) (by omega) ⟨?_, by omega, fun x hx => by have := hns x hx; omega⟩ (by omega) (fun x hx => (hns x hx).2) hb⟩
      cases ns with
      | nil => simp at hb
      | cons x l => simp
    · exact ⟨.inl nt, src a2 b c2, fun _ => ⟨[a2, b, c2], rfl, rfl⟩, hp a2 c2 (1 :: ns) ha2 (by omega) (by omega) ⟨by simp, by simp; omega, fun x hx => by
        rcases List.mem_cons.mp hx with z | z
        · omega
        · have := hns x z; omega⟩ (by simp; omega) (fun x hx => by
        rcases List.mem_cons.mp hx with z | z
        · omega
        · exact (hns x z).2) (by rw [List.sum_cons]; omega)⟩
end CR

namespace K13
open PySem PySem.Spec PyProof.Rows L2 DL CA CR
/-- counts under pairs -/
def getP (l : List ((Int × Int) × Int)) (k : Int × Int) : Int := match l.find? fun p => decide (p.1 = k) with
  | none => 0
  | some p => p.2
def inc (l : List ((Int × Int) × Int)) (k : Int × Int) : List ((Int × Int) × Int) := if (l.any fun p => decide (p.1 = k)) = true then l.map (fun p => if p.1 = k then (p.1, getP l k + 1) else p) else l ++ [(k, getP l k + 1)]
def port (s : Int) (c : Cell) : Int := if s = 1 then c.2.1 else c.2.2
/-- how many cells of a port have a slot -/
def ldl (s : Int) (ps : List (Cell × Int)) : List ((Int × Int) × Int) := ps.foldl (fun l p => inc l (p.2, port s p.1)) []
def ld (lot : List Cell) (mv : List Int) (s : Int) : List ((Int × Int) × Int) := ldl s (lot.zip mv)
def okP (b : List Int) (p : (Int × Int) × Int) : Bool := !decide (b.getD (p.1.1 % (b.length : Int)).toNat 0 < p.2)
def okS (lot : List Cell) (mv b : List Int) (s : Int) : Bool := (ld lot mv s).all (okP b)
def fit (lot : List Cell) (mv b : List Int) : Bool := okS lot mv b 1 && okS lot mv b 2
abbrev F__law_loads : FSpec where
  fr := true
  sp := fun ds post => ∃ (lot : List Cell) (mv : List Int) (s : Int), ds = [dL lot, dI mv, .int s] ∧ lot.length ≤ 60 ∧ mv.length = lot.length ∧ (s = 1 ∨ s = 2) ∧ post .none (dP (ld lot mv s))
abbrev F_loads_of : FSpec where
  fr := true
  sp := fun ds post => ∃ (lot : List Cell) (mv : List Int) (s : Int), ds = [dL lot, dI mv, .int s] ∧ lot.length ≤ 60 ∧ mv.length = lot.length ∧ (s = 1 ∨ s = 2) ∧ post .none (dP (ld lot mv s))
abbrev F_fits_rhythm : FSpec where
  sp := fun ds post => ∃ (lot : List Cell) (mv b : List Int), ds = [dL lot, dI mv, dI b, .tuple [.int 1, .int 2]] ∧ lot.length ≤ 60 ∧ mv.length = lot.length ∧ 0 < b.length ∧ post .none (.bool (fit lot mv b))
abbrev F_keeps_rhythm : FSpec where
  sp := fun ds post => ∃ (n : Int) (lot : List Cell) (mv b : List Int), ds = [.int n, dL lot, dI mv, dI b] ∧ 1 ≤ n ∧ n ≤ 8 ∧ Lot n lot ∧ Moves lot mv ∧ Beat b ∧ post .none (.bool (fit lot mv b))
abbrev F__law_told_right : FSpec where
  sp := fun ds post => ∃ (n : Int) (lot : List Cell) (mv b : List Int), ds = [.int n, dL lot, dI mv, dI b] ∧ 1 ≤ n ∧ n ≤ 8 ∧ Lot n lot ∧ Moves lot mv ∧ Beat b ∧ b.length ≤ 20 ∧ post .none (.bool true)
abbrev F__law_moves : FSpec where
  io := true
  fr := true
  sp := fun ds post => ∃ (a b c n : Int) (lot : List Cell) (line : List Int) (w : Int), ds = [.list [.int a, .int b, .int c], dL lot, dI line, .int w] ∧ 0 ≤ a ∧ 0 ≤ b ∧ b < 10 ^ 48 ∧ 0 ≤ c ∧ c < 500000 ∧ Lot n lot ∧ RowOk lot line ∧ 0 ≤ w ∧ w ≤ 3 ∧
    ∀ (a' c' : Int) (mv : List Int), 0 ≤ a' → c ≤ c' → c' ≤ c + 120 → Moves lot mv → post (.list [.int a', .int b, .int c']) (dI mv)
abbrev F__law_fitting : FSpec where
  io := true
  fr := true
  sp := fun ds post => ∃ (a b c : Int) (lot : List Cell) (mv : List Int), ds = [.list [.int a, .int b, .int c], dL lot, dI mv] ∧ 0 ≤ a ∧ 0 ≤ b ∧ b < 10 ^ 48 ∧ 0 ≤ c ∧ c < 500000 ∧ lot.length ≤ 60 ∧ mv.length = lot.length ∧
    ∀ (a' c' : Int) (bt : List Int), 0 ≤ a' → c ≤ c' → c' ≤ c + 10 → Beat bt → bt.length ≤ 20 → post (.list [.int a', .int b, .int c']) (dI bt)
abbrev F_law : FSpec where
  sp := fun ds post => ∃ ns : List Int, ds = [dI ns] ∧ ns.length ≤ 63 ∧ post .none (.bool true)
def Lk : Phi := fun x => if x = "_law_loads" then F__law_loads else if x = "loads_of" then F_loads_of else if x = "fits_rhythm" then F_fits_rhythm else if x = "keeps_rhythm" then F_keeps_rhythm else if x = "_law_told_right" then F__law_told_right else if x = "_law_moves" then F__law_moves else if x = "_law_fitting" then F__law_fitting else if x = "law" then F_law else { sp := fun _ _ => False }
abbrev Ph : Phi := (CA.Ph (CR.Ph Lk))
theorem Ph__law_loads : (CA.Ph (CR.Ph Lk)) "_law_loads" = F__law_loads := rfl
theorem fr__law_loads : (if ((CA.Ph (CR.Ph Lk)) "_law_loads").fr = true then Kd.t else Kd.z) = Kd.t := rfl
theorem st__law_loads {P : D → D → Prop} {ds : List D} {lot : List Cell} {mv : List Int} {s : Int} (e : ds = [dL lot, dI mv, .int s]) (h0 : lot.length ≤ 60) (h1 : mv.length = lot.length) (h2 : (s = 1 ∨ s = 2)) (h : P .none (dP (ld lot mv s))) : ((CA.Ph (CR.Ph Lk)) "_law_loads").io = false ∧ ((CA.Ph (CR.Ph Lk)) "_law_loads").sp ds P := ⟨rfl, lot, mv, s, e, h0, h1, h2, h⟩
theorem Ph_loads_of : (CA.Ph (CR.Ph Lk)) "loads_of" = F_loads_of := rfl
theorem fr_loads_of : (if ((CA.Ph (CR.Ph Lk)) "loads_of").fr = true then Kd.t else Kd.z) = Kd.t := rfl
theorem st_loads_of {P : D → D → Prop} {ds : List D} {lot : List Cell} {mv : List Int} {s : Int} (e : ds = [dL lot, dI mv, .int s]) (h0 : lot.length ≤ 60) (h1 : mv.length = lot.length) (h2 : (s = 1 ∨ s = 2)) (h : P .none (dP (ld lot mv s))) : ((CA.Ph (CR.Ph Lk)) "loads_of").io = false ∧ ((CA.Ph (CR.Ph Lk)) "loads_of").sp ds P := ⟨rfl, lot, mv, s, e, h0, h1, h2, h⟩
theorem Ph_fits_rhythm : (CA.Ph (CR.Ph Lk)) "fits_rhythm" = F_fits_rhythm := rfl
theorem fr_fits_rhythm : (if ((CA.Ph (CR.Ph Lk)) "fits_rhythm").fr = true then Kd.t else Kd.z) = Kd.z := rfl
theorem st_fits_rhythm {P : D → D → Prop} {ds : List D} {lot : List Cell} {mv b : List Int} (e : ds = [dL lot, dI mv, dI b, .tuple [.int 1, .int 2]]) (h0 : lot.length ≤ 60) (h1 : mv.length = lot.length) (h2 : 0 < b.length) (h : P .none (.bool (fit lot mv b))) : ((CA.Ph (CR.Ph Lk)) "fits_rhythm").io = false ∧ ((CA.Ph (CR.Ph Lk)) "fits_rhythm").sp ds P := ⟨rfl, lot, mv, b, e, h0, h1, h2, h⟩
theorem Ph_keeps_rhythm : (CA.Ph (CR.Ph Lk)) "keeps_rhythm" = F_keeps_rhythm := rfl
theorem fr_keeps_rhythm : (if ((CA.Ph (CR.Ph Lk)) "keeps_rhythm").fr = true then Kd.t else Kd.z) = Kd.z := rfl
theorem st_keeps_rhythm {P : D → D → Prop} {ds : List D} {n : Int} {lot : List Cell} {mv b : List Int} (e : ds = [.int n, dL lot, dI mv, dI b]) (h0 : 1 ≤ n) (h1 : n ≤ 8) (h2 : Lot n lot) (h3 : Moves lot mv) (h4 : Beat b) (h : P .none (.bool (fit lot mv b))) : ((CA.Ph (CR.Ph Lk)) "keeps_rhythm").io = false ∧ ((CA.Ph (CR.Ph Lk)) "keeps_rhythm").sp ds P := ⟨rfl, n, lot, mv, b, e, h0, h1, h2, h3, h4, h⟩
theorem Ph__law_told_right : (CA.Ph (CR.Ph Lk)) "_law_told_right" = F__law_told_right := rfl
theorem fr__law_told_right : (if ((CA.Ph (CR.Ph Lk)) "_law_told_right").fr = true then Kd.t else Kd.z) = Kd.z := rfl
theorem st__law_told_right {P : D → D → Prop} {ds : List D} {n : Int} {lot : List Cell} {mv b : List Int} (e : ds = [.int n, dL lot, dI mv, dI b]) (h0 : 1 ≤ n) (h1 : n ≤ 8) (h2 : Lot n lot) (h3 : Moves lot mv) (h4 : Beat b) (h5 : b.length ≤ 20) (h : P .none (.bool true)) : ((CA.Ph (CR.Ph Lk)) "_law_told_right").io = false ∧ ((CA.Ph (CR.Ph Lk)) "_law_told_right").sp ds P := ⟨rfl, n, lot, mv, b, e, h0, h1, h2, h3, h4, h5, h⟩
theorem Ph__law_moves : (CA.Ph (CR.Ph Lk)) "_law_moves" = F__law_moves := rfl
theorem fr__law_moves : (if ((CA.Ph (CR.Ph Lk)) "_law_moves").fr = true then Kd.t else Kd.z) = Kd.t := rfl
theorem io__law_moves {P : D → D → Prop} {dr : List D} {env : DEnv} {i : Nat} {a b c n : Int} {lot : List Cell} {line : List Int} {w : Int} (hs : ownD env i = some (.list [.int a, .int b, .int c])) (e : dr = [dL lot, dI line, .int w]) (h0 : 0 ≤ a) (h1 : 0 ≤ b) (h2 : b < 10 ^ 48) (h3 : 0 ≤ c) (h4 : c < 500000) (h5 : Lot n lot) (h6 : RowOk lot line) (h7 : 0 ≤ w) (h8 : w ≤ 3) (h : ∀ (a' c' : Int) (mv : List Int), 0 ≤ a' → c ≤ c' → c' ≤ c + 120 → Moves lot mv → P (.list [.int a', .int b, .int c']) (dI mv)) : ((CA.Ph (CR.Ph Lk)) "_law_moves").io = true ∧ Kd.z ≠ Kd.b ∧ ∃ ns : List Int, ownD env i = some (.list (ns.map .int)) ∧ ((CA.Ph (CR.Ph Lk)) "_law_moves").sp (.list (ns.map .int) :: dr) P := ⟨rfl, nz, [a, b, c], hs, a, b, c, n, lot, line, w, by rw [e]; rfl, h0, h1, h2, h3, h4, h5, h6, h7, h8, h⟩
theorem Ph__law_fitting : (CA.Ph (CR.Ph Lk)) "_law_fitting" = F__law_fitting := rfl
theorem fr__law_fitting : (if ((CA.Ph (CR.Ph Lk)) "_law_fitting").fr = true then Kd.t else Kd.z) = Kd.t := rfl
theorem io__law_fitting {P : D → D → Prop} {dr : List D} {env : DEnv} {i : Nat} {a b c : Int} {lot : List Cell} {mv : List Int} (hs : ownD env i = some (.list [.int a, .int b, .int c])) (e : dr = [dL lot, dI mv]) (h0 : 0 ≤ a) (h1 : 0 ≤ b) (h2 : b < 10 ^ 48) (h3 : 0 ≤ c) (h4 : c < 500000) (h5 : lot.length ≤ 60) (h6 : mv.length = lot.length) (h : ∀ (a' c' : Int) (bt : List Int), 0 ≤ a' → c ≤ c' → c' ≤ c + 10 → Beat bt → bt.length ≤ 20 → P (.list [.int a', .int b, .int c']) (dI bt)) : ((CA.Ph (CR.Ph Lk)) "_law_fitting").io = true ∧ Kd.z ≠ Kd.b ∧ ∃ ns : List Int, ownD env i = some (.list (ns.map .int)) ∧ ((CA.Ph (CR.Ph Lk)) "_law_fitting").sp (.list (ns.map .int) :: dr) P := ⟨rfl, nz, [a, b, c], hs, a, b, c, lot, mv, by rw [e]; rfl, h0, h1, h2, h3, h4, h5, h6, h⟩
theorem Ph_law : (CA.Ph (CR.Ph Lk)) "law" = F_law := rfl
theorem fr_law : (if ((CA.Ph (CR.Ph Lk)) "law").fr = true then Kd.t else Kd.z) = Kd.z := rfl
theorem st_law {P : D → D → Prop} {ds : List D} {ns : List Int} (e : ds = [dI ns]) (h0 : ns.length ≤ 63) (h : P .none (.bool true)) : ((CA.Ph (CR.Ph Lk)) "law").io = false ∧ ((CA.Ph (CR.Ph Lk)) "law").sp ds P := ⟨rfl, ns, e, h0, h⟩
end K13

namespace K13
open PySem PySem.Spec PyProof.Rows L2 DL CA CR
set_option hygiene false
local macro_rules | `(tactic| and_intros) => `(tactic| (repeat' (first|((with_reducible show rdE _ _ _ _); (first|(with_reducible refine e_int ?_)|(with_reducible refine e_bl ?_)|(with_reducible refine e_non ?_)|(with_reducible refine e_str ?_)|(with_reducible refine e_gi ?_)|(with_reducible refine e_tup ?_)|(with_reducible refine e_lst ?_)|(with_reducible refine e_bin ?_)|(with_reducible refine e_neg ?_)|(with_reducible refine e_cmp ?_)|(with_reducible refine e_chain ?_)|(with_reducible refine e_not ?_)|(with_reducible refine e_ands ?_)|(with_reducible refine e_ors ?_)|(with_reducible refine e_ife ?_)|(with_reducible refine e_idx ?_)|(with_reducible refine e_call ?_)|(with_reducible refine e_callk ?_)|(with_reducible refine e_bi ?_)|(with_reducible refine e_ist ?_)|(with_reducible refine e_lrng1 ?_)|(with_reducible refine e_lrng2 ?_)|(with_reducible refine e_sset ?_)|(with_reducible refine e_dnewT ?_)|(with_reducible refine e_dinT ?_)|(with_reducible refine e_rev ?_)|(with_reducible refine e_cat ?_)|(with_reducible refine e_cat2 ?_)|(with_reducible refine e_mt ?_)|(with_reducible refine e_sl ?_)|((first|(with_reducible refine e_isN ?_)|(with_reducible refine e_notN ?_)) <;> try simp only [CA.fr_is_integer, CA.fr_need_size, CA.fr_is_cell, CA.fr_cells_fault, CA.fr_need_cells, CA.fr_row_fault, CA.fr_need_row, CA.fr_slots_fault, CA.fr_check_crossings, CA.fr_need_crossings, CA.fr_need_port, CA.fr_need_slot, CA.fr_need_number, CA.fr_need_rhythm, CA.fr__law_source, CA.fr__law_draw, CA.fr__law_lot, CA.fr__law_line, CA.fr__law_later, CR.fr_pairings_in, CR.fr_unsure, CR.fr__law_beat, fr__law_loads, fr_loads_of, fr_fits_rhythm, fr_keeps_rhythm, fr__law_told_right, fr__law_moves, fr__law_fitting, fr_law, reduceCtorEq, Bool.false_eq_true, if_false, if_true, kdOf_z, kdOf_t, kdOf_int, kdOf_bool, kdOf_str, kdOf_none, List.length_map, backD_wipe, Int.toNat_natCast, Int.reduceEq, Int.reduceLT, Int.reduceLE, decide_true, decide_false, Int.reduceSub, Int.reduceNeg, Int.reduceToNat, Int.reducePow, Int.reduceAdd, Int.reduceMul, Bool.not_true, Bool.not_false, isNonD_int, isNonD_bool, isNonD_str, isNonD_list, isNonD_tup, isNonD_none, List.set_cons_zero, List.set_cons_succ])|((with_reducible show rdE _ (.var _) _ _); refine e_frz rfl ?_)|((with_reducible show rdE _ (.var _) _ _); refine e_own rfl ?_)|((with_reducible show rdE _ (.var _) _ _); refine e_io rfl ?_)|((with_reducible show rdE _ (.mv _) _ _); refine e_mv rfl ?_)|((with_reducible show rdE _ (.idxv _ _) _ _); refine e_idxv rfl ?_)|((with_reducible show rdE _ (.callio _ _ _) _ _); refine e_callio rfl ?_)))|((with_reducible show rdSs _ _ _ _); (first|(with_reducible refine r_cons ?_)|(with_reducible refine r_nil ?_)))|((with_reducible show rdS _ _ _ _); (first|(with_reducible refine r_asgF ?_)|(with_reducible refine r_asgT ?_)|(with_reducible refine r_ret ?_)|(with_reducible refine r_retN ?_)|(with_reducible refine r_expr ?_)|(with_reducible refine r_iff ?_)|(with_reducible refine r_brk ?_)|(with_reducible refine r_cont ?_)|(with_reducible refine r_pas ?_)|(with_reducible refine r_asgTs ?_)|((with_reducible show rdS _ (.setv _ _ _) _ _); refine r_setv rfl ?_)|((with_reducible show rdS _ (.mut _ _ _) _ _); refine r_mut ⟨_, rfl⟩ ?_)|((with_reducible show rdS _ (.dputT _ _ _) _ _); refine r_dputT rfl ?_)|((with_reducible show rdS _ (.aug _ _ _) _ _); refine r_aug rfl ?_)|(with_reducible refine r_par ?_)))|((with_reducible show rdEs _ _ _ _); (first|(with_reducible refine s_nil ?_)|(with_reducible refine s_cons ?_)))|((with_reducible show rdAnd _ _ _ _); (first|(with_reducible refine a_two ?_)|(with_reducible refine a_one ?_)))|((with_reducible show rdOr _ _ _ _); (first|(with_reducible refine o_two ?_)|(with_reducible refine o_one ?_)))|((with_reducible show rdI _ _ _ _); (first|(with_reducible refine w_lst ?_)|(with_reducible refine w_tup ?_)|(with_reducible refine w_rng1 ?_)|(with_reducible refine w_rng2 ?_)|(with_reducible refine w_enum ?_)|(with_reducible refine w_zip ?_)))|((with_reducible show rdC _ _ _ _); (first|(with_reducible refine c_nil ?_)|(with_reducible refine c_one ?_)))|((with_reducible show rdO _ _ _ _); (first|(with_reducible refine o_no ?_)|(with_reducible refine o_so ?_)))|((with_reducible show rdPs _ _ _ _ _); (first|(with_reducible refine r_psN ?_)|(with_reducible refine r_psF ?_)|(with_reducible refine r_psT ?_)|((with_reducible show rdPs _ _ (List.map _ _) _ _); simp only [List.map_cons, List.map_nil])))|((with_reducible show ∃ t, truthD _ = some t ∧ _); (first|(with_reducible refine r_tn ?_)|((with_reducible show ∃ t, truthD _ = some t ∧ _); simp only [isNonD_int, isNonD_bool, isNonD_str, isNonD_list, isNonD_tup, isNonD_none, Bool.not_true, Bool.not_false])|(with_reducible refine r_tT ?_)|(with_reducible refine r_tF ?_)|(with_reducible refine r_tbA (by assumption) ?_)|(with_reducible refine r_tbB (by assumption) ?_)|(with_reducible refine r_tb (fun hb => ?_) (fun hb => ?_))|((with_reducible refine r_not ?_); try simp only [Bool.not_true, Bool.not_false])))|((with_reducible show ∃ r, cmpD _ _ _ = some r ∧ _); (first|((first|(with_reducible refine g_ex (by assumption) ?_)) <;> try simp only [CA.fr_is_integer, CA.fr_need_size, CA.fr_is_cell, CA.fr_cells_fault, CA.fr_need_cells, CA.fr_row_fault, CA.fr_need_row, CA.fr_slots_fault, CA.fr_check_crossings, CA.fr_need_crossings, CA.fr_need_port, CA.fr_need_slot, CA.fr_need_number, CA.fr_need_rhythm, CA.fr__law_source, CA.fr__law_draw, CA.fr__law_lot, CA.fr__law_line, CA.fr__law_later, CR.fr_pairings_in, CR.fr_unsure, CR.fr__law_beat, fr__law_loads, fr_loads_of, fr_fits_rhythm, fr_keeps_rhythm, fr__law_told_right, fr__law_moves, fr__law_fitting, fr_law, reduceCtorEq, Bool.false_eq_true, if_false, if_true, kdOf_z, kdOf_t, kdOf_int, kdOf_bool, kdOf_str, kdOf_none, List.length_map, backD_wipe, Int.toNat_natCast, Int.reduceEq, Int.reduceLT, Int.reduceLE, decide_true, decide_false, Int.reduceSub, Int.reduceNeg, Int.reduceToNat, Int.reducePow, Int.reduceAdd, Int.reduceMul, Bool.not_true, Bool.not_false, isNonD_int, isNonD_bool, isNonD_str, isNonD_list, isNonD_tup, isNonD_none, List.set_cons_zero, List.set_cons_succ])|(with_reducible refine g_ex (ne_same _) ?_)|(with_reducible refine g_ex (eq_same _) ?_)|(with_reducible refine g_ex (ne_samei _) ?_)|(with_reducible refine g_ex (Shw.ne (by assumption)) ?_)|(with_reducible refine g_ex (Shw.eq (by assumption)) ?_)|(refine g_ex inn_ints ?_)|(refine g_ex (ne_nil _) ?_)|(with_reducible refine g_ex CA.nin_ints ?_)|(with_reducible refine g_ex (CA.ne_nilP _) ?_)|(with_reducible refine g_ex CA.inn_pairs2 ?_)|(with_reducible refine g_ex CA.nin_pairs2 ?_)|(refine g_ex (eq_nil _) ?_)|(refine g_ex (eq_ints _ _) ?_)|(refine g_ex (ne_ints _ _) ?_)|(refine g_ex rfl ?_)))|((with_reducible show ∃ t r, biD _ _ = some (t, r) ∧ _); (first|((first|(refine e_istE rfl ?_)|((with_reducible refine bi_F (by assumption) (Or.inl nz) ?_))|((with_reducible refine bi_F (sum_ints _) (Or.inl nz) ?_))|((with_reducible refine bi_F (sum_ints _) (Or.inl nt) ?_))|((with_reducible refine bi_T (biD_sorted _) (Or.inl nz) ?_))|((with_reducible show ∃ t r, biD .max [.list _] = some (t, r) ∧ _); refine bi_F (CA.biD_max _ _) (Or.inl nz) ?_)|((with_reducible show ∃ t r, biD .any [.list (List.map PyData.bool _)] = some (t, r) ∧ _); refine bi_F (CA.biD_any _) (.inr rfl) ?_)|((with_reducible refine bi_T (biD_sorted _) (Or.inl nt) ?_))|((with_reducible refine bi_F (Shw.repr (by assumption)) (Or.inl nz) ?_))|((with_reducible refine bi_F (Shw.repr (by assumption)) (Or.inl nt) ?_))|((with_reducible refine bi_F (Shw.repr (by assumption)) (.inr rfl) ?_))|(refine bi_F rfl (Or.inl nz) ?_)|(refine bi_F rfl (Or.inl nt) ?_)|(refine bi_F rfl (.inr rfl) ?_)) <;> try simp only [CA.fr_is_integer, CA.fr_need_size, CA.fr_is_cell, CA.fr_cells_fault, CA.fr_need_cells, CA.fr_row_fault, CA.fr_need_row, CA.fr_slots_fault, CA.fr_check_crossings, CA.fr_need_crossings, CA.fr_need_port, CA.fr_need_slot, CA.fr_need_number, CA.fr_need_rhythm, CA.fr__law_source, CA.fr__law_draw, CA.fr__law_lot, CA.fr__law_line, CA.fr__law_later, CR.fr_pairings_in, CR.fr_unsure, CR.fr__law_beat, fr__law_loads, fr_loads_of, fr_fits_rhythm, fr_keeps_rhythm, fr__law_told_right, fr__law_moves, fr__law_fitting, fr_law, reduceCtorEq, Bool.false_eq_true, if_false, if_true, kdOf_z, kdOf_t, kdOf_int, kdOf_bool, kdOf_str, kdOf_none, List.length_map, backD_wipe, Int.toNat_natCast, Int.reduceEq, Int.reduceLT, Int.reduceLE, decide_true, decide_false, Int.reduceSub, Int.reduceNeg, Int.reduceToNat, Int.reducePow, Int.reduceAdd, Int.reduceMul, Bool.not_true, Bool.not_false, isNonD_int, isNonD_bool, isNonD_str, isNonD_list, isNonD_tup, isNonD_none, List.set_cons_zero, List.set_cons_succ])))|((with_reducible show Exists _); (first|(with_reducible refine g_int ?_)|(with_reducible refine g_int2 ?_)|(with_reducible refine g_list ?_)|(with_reducible refine g_list2 ?_)|(with_reducible refine g_tup ?_)|((first|((with_reducible show ∃ t r, binD .add (.list _) (.list _) = some (t, r) ∧ _); refine b_cat3 (by constructor <;> (first|exact nz|exact nt)) (by simp [rangeD_length]; omega) ?_)|((with_reducible show ∃ t r, binD .mul (.list [.int _]) (.int _) = some (t, r) ∧ _); refine b_zeros (by omega) ?_)) <;> try simp only [CA.fr_is_integer, CA.fr_need_size, CA.fr_is_cell, CA.fr_cells_fault, CA.fr_need_cells, CA.fr_row_fault, CA.fr_need_row, CA.fr_slots_fault, CA.fr_check_crossings, CA.fr_need_crossings, CA.fr_need_port, CA.fr_need_slot, CA.fr_need_number, CA.fr_need_rhythm, CA.fr__law_source, CA.fr__law_draw, CA.fr__law_lot, CA.fr__law_line, CA.fr__law_later, CR.fr_pairings_in, CR.fr_unsure, CR.fr__law_beat, fr__law_loads, fr_loads_of, fr_fits_rhythm, fr_keeps_rhythm, fr__law_told_right, fr__law_moves, fr__law_fitting, fr_law, reduceCtorEq, Bool.false_eq_true, if_false, if_true, kdOf_z, kdOf_t, kdOf_int, kdOf_bool, kdOf_str, kdOf_none, List.length_map, backD_wipe, Int.toNat_natCast, Int.reduceEq, Int.reduceLT, Int.reduceLE, decide_true, decide_false, Int.reduceSub, Int.reduceNeg, Int.reduceToNat, Int.reducePow, Int.reduceAdd, Int.reduceMul, Bool.not_true, Bool.not_false, isNonD_int, isNonD_bool, isNonD_str, isNonD_list, isNonD_tup, isNonD_none, List.set_cons_zero, List.set_cons_succ])|((with_reducible show ∃ env2, tgD (.tp (.cons _ (.cons _ .nil))) _ _ = some env2 ∧ _); refine r_some (tg2_fz (by decide) rfl (by first|exact fz_un|exact fz_frz|assumption) rfl (by first|exact fz_un|exact fz_frz|assumption)) ?_)|(refine r_some rfl ?_)|(refine r_some (asg_fz rfl (by assumption)) ?_)|(refine r_some (asgt_fz rfl (by assumption)) ?_)|(refine r_some (asgo_ni rfl (by assumption)) ?_)|(refine r_augE rfl rfl ?_)|(refine r_put2 rfl rfl rfl ?_)|((first|(refine i_list rfl rfl ?_)|(refine i_list rfl (at_last (by assumption)) ?_)|(refine i_list rfl (at_last2 (by assumption)) ?_)|(refine i_list rfl (map_nat (by assumption) (by omega)) ?_)|(refine i_list rfl (atI_ints (by omega) (by omega)) ?_)|(refine i_list rfl (atI_ints ?_ ?_) ?_)|(refine i_tup rfl rfl ?_)|((with_reducible show ∃ r, idxD (.list [.int _, .int _]) (.int (DL.b2i _)) = some r ∧ _); refine CA.pick2 fun m hm => ?_)|((with_reducible show ∃ r, idxD (.list [.int _, .int _]) (.int _) = some r ∧ _); refine CA.pickI2 (by assumption) (by assumption) fun m hm => ?_)|((with_reducible show ∃ r, idxD (.list [.int _, .int _, .int _]) (.int _) = some r ∧ _); refine CA.pickI3 (by assumption) (by assumption) fun m hm => ?_)) <;> try simp only [CA.fr_is_integer, CA.fr_need_size, CA.fr_is_cell, CA.fr_cells_fault, CA.fr_need_cells, CA.fr_row_fault, CA.fr_need_row, CA.fr_slots_fault, CA.fr_check_crossings, CA.fr_need_crossings, CA.fr_need_port, CA.fr_need_slot, CA.fr_need_number, CA.fr_need_rhythm, CA.fr__law_source, CA.fr__law_draw, CA.fr__law_lot, CA.fr__law_line, CA.fr__law_later, CR.fr_pairings_in, CR.fr_unsure, CR.fr__law_beat, fr__law_loads, fr_loads_of, fr_fits_rhythm, fr_keeps_rhythm, fr__law_told_right, fr__law_moves, fr__law_fitting, fr_law, reduceCtorEq, Bool.false_eq_true, if_false, if_true, kdOf_z, kdOf_t, kdOf_int, kdOf_bool, kdOf_str, kdOf_none, List.length_map, backD_wipe, Int.toNat_natCast, Int.reduceEq, Int.reduceLT, Int.reduceLE, decide_true, decide_false, Int.reduceSub, Int.reduceNeg, Int.reduceToNat, Int.reducePow, Int.reduceAdd, Int.reduceMul, Bool.not_true, Bool.not_false, isNonD_int, isNonD_bool, isNonD_str, isNonD_list, isNonD_tup, isNonD_none, List.set_cons_zero, List.set_cons_succ])))|((with_reducible show _ ∧ _); (first|((with_reducible show (CA.Ph _ _).io = false ∧ _); (first|((with_reducible show (CA.Ph _ "is_integer").io = false ∧ _); first|(refine CA.st_isI_t rfl (by first|assumption|omega) (by first|assumption|omega) ?_)|(refine CA.st_isI2 rfl  ?_)|(refine CA.st_isI1 rfl  ?_)|(refine CA.st_isI0 rfl  ?_))|((with_reducible show (CA.Ph _ "need_size").io = false ∧ _); first|(refine CA.st_need_size rfl (by first|assumption|omega) (by first|assumption|omega) ?_))|((with_reducible show (CA.Ph _ "need_port").io = false ∧ _); first|(refine CA.st_need_port rfl (by first|assumption|omega) (by first|assumption|omega) ?_))|((with_reducible show (CA.Ph _ "need_slot").io = false ∧ _); first|(refine CA.st_need_slot rfl (by first|assumption|omega) (by first|assumption|omega) ?_))|((with_reducible show (CA.Ph _ "need_number").io = false ∧ _); first|(refine CA.st_need_number2 rfl (by first|assumption|omega) (by first|assumption|omega) ?_)|(refine CA.st_need_number1 rfl (by first|assumption|omega) ?_))|((with_reducible show (CA.Ph _ "cells_fault").io = false ∧ _); first|(refine CA.st_cells_fault rfl (by first|assumption|omega) ?_))|((with_reducible show (CA.Ph _ "need_cells").io = false ∧ _); first|(refine CA.st_need_cells rfl (by first|assumption|omega) (by first|assumption|omega) (by first|assumption|omega) ?_))|((with_reducible show (CA.Ph _ "row_fault").io = false ∧ _); first|(refine CA.st_row_fault rfl (by first|assumption|omega) (by first|assumption|omega) (by first|assumption|omega) ?_))|((with_reducible show (CA.Ph _ "need_row").io = false ∧ _); first|(refine CA.st_need_row rfl (by first|assumption|omega) (by first|assumption|omega) (by first|assumption|omega) (by first|assumption|omega) ?_))|((with_reducible show (CA.Ph _ "slots_fault").io = false ∧ _); first|(refine CA.st_slots_fault rfl (by first|assumption|omega) (by first|assumption|omega) ?_))|((with_reducible show (CA.Ph _ "check_crossings").io = false ∧ _); first|(refine CA.st_check_crossings rfl (by first|assumption|omega) (by first|assumption|omega) ?_))|((with_reducible show (CA.Ph _ "need_crossings").io = false ∧ _); first|(refine CA.st_need_crossings rfl (by first|assumption|omega) (by first|assumption|omega) (by first|assumption|omega) (by first|assumption|omega) ?_))|((with_reducible show (CA.Ph _ "need_rhythm").io = false ∧ _); first|(refine CA.st_need_rhythm rfl (by first|assumption|omega) ?_))|((with_reducible show (CA.Ph _ "_law_later").io = false ∧ _); first|(refine CA.st__law_later rfl (by first|assumption|omega) (by first|assumption|omega) ?_))|((with_reducible show (CA.Ph _ "pairings_in").io = false ∧ _); first|(refine CR.st_pairings_in rfl (by first|assumption|omega) (by first|assumption|omega) (by first|assumption|omega) (by first|assumption|omega) ?_))|((with_reducible show (CA.Ph _ "unsure").io = false ∧ _); first|(refine CR.st_unsure rfl (by first|assumption|omega) (by first|assumption|omega) (by first|assumption|omega) (by first|assumption|omega) (by first|assumption|omega) ?_))|((with_reducible show (CA.Ph _ "cells_to").io = false ∧ _); first|(refine CB.st_cells_to rfl (by first|assumption|omega) ?_))|((with_reducible show (CA.Ph _ "sending_slots").io = false ∧ _); first|(refine CB.st_sending_slots rfl (by first|assumption|omega) ?_))|((with_reducible show (CA.Ph _ "outlets_of").io = false ∧ _); first|(refine CB.st_outlets_of rfl (by first|assumption|omega) (by first|assumption|omega) ?_))|((with_reducible show (CA.Ph _ "is_busy_row").io = false ∧ _); first|(refine CB.st_is_busy_row rfl (by first|assumption|omega) (by first|assumption|omega) (by first|assumption|omega) (by first|assumption|omega) ?_))|((with_reducible show (CA.Ph _ "need_busy").io = false ∧ _); first|(refine CB.st_need_busy rfl (by first|assumption|omega) (by first|assumption|omega) (by first|assumption|omega) (by first|assumption|omega) (by first|assumption|omega) ?_))|((with_reducible show (CA.Ph _ "own_slots").io = false ∧ _); first|(refine CB.st_own_slots rfl (by first|assumption|omega) ?_))|((with_reducible show (CA.Ph _ "first_row").io = false ∧ _); first|(refine CB.st_first_row rfl (by first|assumption|omega) (by first|assumption|omega) (by first|assumption|omega) (by first|assumption|omega) ?_))|((with_reducible show (CA.Ph _ "_law_there").io = false ∧ _); first|(refine CB.st__law_there rfl (by first|assumption|omega) (by first|assumption|omega) (by first|assumption|omega) (by first|assumption|omega) ?_)|(refine CP.st__law_there rfl (by first|assumption|omega) (by first|assumption|omega) (by first|assumption|omega) (by first|assumption|omega) ?_))|((with_reducible show (CA.Ph _ "cells_from").io = false ∧ _); first|(refine CP.st_cells_from rfl (by first|assumption|omega) ?_))|((with_reducible show (CA.Ph _ "first_unpressed").io = false ∧ _); first|(refine CP.st_first_unpressed rfl (by first|assumption|omega) (by first|assumption|omega) (by first|assumption|omega) (by first|assumption|omega) ?_))|((with_reducible show (CA.Ph _ "is_pressed").io = false ∧ _); first|(refine CP.st_is_pressed rfl (by first|assumption|omega) (by first|assumption|omega) (by first|assumption|omega) (by first|assumption|omega) (by first|assumption|omega) ?_))|((with_reducible show (CA.Ph _ "choices_of").io = false ∧ _); first|(refine CC.st_choices_of rfl (by first|assumption|omega) (by first|assumption|omega) (by first|assumption|omega) ?_))|((with_reducible show (CA.Ph _ "product_of").io = false ∧ _); first|(refine CC.st_product_of rfl (by first|assumption|omega) (by first|assumption|omega) ?_))|((with_reducible show (CA.Ph _ "served_count").io = false ∧ _); first|(refine CC.st_served_count rfl (by first|assumption|omega) (by first|assumption|omega) (by first|assumption|omega) (by first|assumption|omega) ?_))|((with_reducible show (CA.Ph _ "_law_all_busy").io = false ∧ _); first|(refine CL.st__law_all_busy rfl (by first|assumption|omega) (by first|assumption|omega) (by first|assumption|omega) ?_))|((with_reducible show (CA.Ph _ "_law_is_served").io = false ∧ _); first|(refine CL.st__law_is_served rfl (by first|assumption|omega) (by first|assumption|omega) ?_))|((with_reducible show (CA.Ph _ "row_with").io = false ∧ _); first|(refine CW.st_row_with rfl (by first|assumption|omega) (by first|assumption|omega) (by first|assumption|omega) (by first|assumption|omega) (by first|assumption|omega) ?_))|((with_reducible show (CA.Ph _ "index_with").io = false ∧ _); first|(refine CW.st_index_with rfl (by first|assumption|omega) (by first|assumption|omega) (by first|assumption|omega) (by first|assumption|omega) (by first|assumption|omega) ?_))|((with_reducible show (CA.Ph _ "need_long").io = false ∧ _); first|(refine CN.st_need_long rfl (by first|assumption|omega) (by first|assumption|omega) (by first|assumption|omega) (by first|assumption|omega) (by first|assumption|omega) ?_))|((with_reducible show (CA.Ph _ "narrow_slot").io = false ∧ _); first|(refine CN.st_narrow_slot rfl (by first|assumption|omega) ?_))|((with_reducible show (CA.Ph _ "has_windows").io = false ∧ _); first|(refine CN.st_has_windows rfl (by first|assumption|omega) (by first|assumption|omega) ?_))|((with_reducible show (CA.Ph _ "rhythm_word").io = false ∧ _); first|(refine CN.st_rhythm_word rfl (by first|assumption|omega) (by first|assumption|omega) (by first|assumption|omega) (by first|assumption|omega) (by first|assumption|omega) ?_))|((with_reducible show (CA.Ph _ "_law_loads").io = false ∧ _); first|(refine K13.st__law_loads rfl (by first|assumption|omega) (by first|assumption|omega) (by first|assumption|omega) ?_))|((with_reducible show (CA.Ph _ "loads_of").io = false ∧ _); first|(refine K13.st_loads_of rfl (by first|assumption|omega) (by first|assumption|omega) (by first|assumption|omega) ?_))|((with_reducible show (CA.Ph _ "fits_rhythm").io = false ∧ _); first|(refine K13.st_fits_rhythm rfl (by first|assumption|omega) (by first|assumption|omega) (by first|assumption|omega) ?_))|((with_reducible show (CA.Ph _ "keeps_rhythm").io = false ∧ _); first|(refine K13.st_keeps_rhythm rfl (by first|assumption|omega) (by first|assumption|omega) (by first|assumption|omega) (by first|assumption|omega) (by first|assumption|omega) ?_))|((with_reducible show (CA.Ph _ "_law_told_right").io = false ∧ _); first|(refine K13.st__law_told_right rfl (by first|assumption|omega) (by first|assumption|omega) (by first|assumption|omega) (by first|assumption|omega) (by first|assumption|omega) (by first|assumption|omega) ?_))|((with_reducible show (CA.Ph _ "law").io = false ∧ _); first|(refine K13.st_law rfl (by first|assumption|omega) ?_))))|((with_reducible show (False → _) ∧ ∃ ds ds' env2, ownD _ _ = some (.list ds) ∧ mutD .append ds _ = some ds' ∧ _); refine r_app4 rfl (by simp; omega) rfl ?_)|((with_reducible show (False → _) ∧ ∃ ds ds' env2, ownD _ _ = some (.list ds) ∧ mutD .append ds _ = some ds' ∧ _); refine r_app4 rfl ?_ rfl ?_)|((first|(with_reducible refine c_lt ?_)|(with_reducible refine c_le ?_)|(with_reducible refine c_gt ?_)|(with_reducible refine c_ge ?_)|(with_reducible refine c_eq ?_)|(with_reducible refine c_ne ?_)|(with_reducible refine b_add ?_)|(with_reducible refine b_sub ?_)|(refine g_rng (by unfold okRng; omega) ?_)|((with_reducible show (Kd.z ≠ _ ∨ _) ∧ ∃ t r, binD _ (.int _) (.int _) = some (t, r) ∧ _); refine b_mul (log_small (by omega) (by omega)) ?_)|((with_reducible show (Kd.z ≠ _ ∨ _) ∧ ∃ t r, binD _ (.int _) (.int _) = some (t, r) ∧ _); refine b_mul (log_mid (by omega) (by omega) (by omega) (by omega)) ?_)|((with_reducible show (Kd.z ≠ _ ∨ _) ∧ ∃ t r, binD _ (.int _) (.int _) = some (t, r) ∧ _); refine b_mod (by omega) ?_)|((with_reducible show (Kd.z ≠ _ ∨ _) ∧ ∃ t r, binD _ (.int _) (.int _) = some (t, r) ∧ _); refine b_div (div_c (by omega) (by omega)) ?_)|((with_reducible show (Kd.z ≠ _ ∨ _) ∧ ∃ t r, binD _ (.int _) (.int _) = some (t, r) ∧ _); refine b_div ⟨by omega, by decide⟩ ?_)|((with_reducible show (Kd.z ≠ _ ∨ _) ∧ ∃ t r, binD _ (.int _) (.int _) = some (t, r) ∧ _); refine b_div (div_m (by omega) (by omega)) ?_)|((with_reducible show (Kd.z ≠ _ ∨ _) ∧ ∃ t r, binD _ (.int _) (.int _) = some (t, r) ∧ _); refine b_pow (by decide) ?_)|((with_reducible show (Kd.z ≠ _ ∨ _) ∧ ∃ t r, binD _ (.int _) (.int _) = some (t, r) ∧ _); refine b_pow (pow_mid (by omega) (by omega) (by omega) (by omega)) ?_)|((with_reducible refine b_mul ?_ ?_))|((with_reducible refine b_mod ?_ ?_))|((with_reducible refine b_div ?_ ?_))|((with_reducible refine b_pow ?_ ?_))|((with_reducible refine g_rng ?_ ?_))) <;> try simp only [CA.fr_is_integer, CA.fr_need_size, CA.fr_is_cell, CA.fr_cells_fault, CA.fr_need_cells, CA.fr_row_fault, CA.fr_need_row, CA.fr_slots_fault, CA.fr_check_crossings, CA.fr_need_crossings, CA.fr_need_port, CA.fr_need_slot, CA.fr_need_number, CA.fr_need_rhythm, CA.fr__law_source, CA.fr__law_draw, CA.fr__law_lot, CA.fr__law_line, CA.fr__law_later, CR.fr_pairings_in, CR.fr_unsure, CR.fr__law_beat, fr__law_loads, fr_loads_of, fr_fits_rhythm, fr_keeps_rhythm, fr__law_told_right, fr__law_moves, fr__law_fitting, fr_law, reduceCtorEq, Bool.false_eq_true, if_false, if_true, kdOf_z, kdOf_t, kdOf_int, kdOf_bool, kdOf_str, kdOf_none, List.length_map, backD_wipe, Int.toNat_natCast, Int.reduceEq, Int.reduceLT, Int.reduceLE, decide_true, decide_false, Int.reduceSub, Int.reduceNeg, Int.reduceToNat, Int.reducePow, Int.reduceAdd, Int.reduceMul, Bool.not_true, Bool.not_false, isNonD_int, isNonD_bool, isNonD_str, isNonD_list, isNonD_tup, isNonD_none, List.set_cons_zero, List.set_cons_succ])|(refine e_chainE rfl (fun hb => ?_) (fun hb => ?_))|(with_reducible refine g_true ?_)|((first|(refine e_idxE (Or.inl nt) rfl ?_)|(refine e_idxE (Or.inl nz) rfl ?_)|(refine g_len (Nat.le_of_ble_eq_true rfl) ?_)|(with_reducible refine g_nbz ?_)|(with_reducible refine g_nbt ?_)|(with_reducible refine g_oz ?_)|(with_reducible refine g_ot ?_)|(with_reducible refine g_eqt ?_)|((with_reducible show (_ ∨ _ = true ∧ _ = true) ∧ _); refine And.intro (.inr ⟨rfl, rfl⟩) ?_)|((with_reducible show (_ ∨ flats (List.map PyData.int _) = true) ∧ _); refine And.intro (.inr (flats_ints _)) ?_)|(refine g_pur rfl ?_)) <;> try simp only [CA.fr_is_integer, CA.fr_need_size, CA.fr_is_cell, CA.fr_cells_fault, CA.fr_need_cells, CA.fr_row_fault, CA.fr_need_row, CA.fr_slots_fault, CA.fr_check_crossings, CA.fr_need_crossings, CA.fr_need_port, CA.fr_need_slot, CA.fr_need_number, CA.fr_need_rhythm, CA.fr__law_source, CA.fr__law_draw, CA.fr__law_lot, CA.fr__law_line, CA.fr__law_later, CR.fr_pairings_in, CR.fr_unsure, CR.fr__law_beat, fr__law_loads, fr_loads_of, fr_fits_rhythm, fr_keeps_rhythm, fr__law_told_right, fr__law_moves, fr__law_fitting, fr_law, reduceCtorEq, Bool.false_eq_true, if_false, if_true, kdOf_z, kdOf_t, kdOf_int, kdOf_bool, kdOf_str, kdOf_none, List.length_map, backD_wipe, Int.toNat_natCast, Int.reduceEq, Int.reduceLT, Int.reduceLE, decide_true, decide_false, Int.reduceSub, Int.reduceNeg, Int.reduceToNat, Int.reducePow, Int.reduceAdd, Int.reduceMul, Bool.not_true, Bool.not_false, isNonD_int, isNonD_bool, isNonD_str, isNonD_list, isNonD_tup, isNonD_none, List.set_cons_zero, List.set_cons_succ])|((with_reducible show _ ≤ 1000000 ∧ _); refine And.intro (by omega) ?_)|((with_reducible show _ ≤ 100000 ∧ _); refine And.intro (by (try simp); omega) ?_)|((first|((with_reducible show (CA.Ph _ "_law_draw").io = true ∧ _); refine CA.draw_step rfl (by assumption) ⟨by assumption, by assumption⟩ (by omega) (by omega) (by omega) (by omega) fun a c r ha hc hc' hr hr' => ⟨_, rfl, ?_⟩)|((with_reducible show (CA.Ph _ "_law_lot").io = true ∧ _); refine CA.lot_step rfl (by assumption) ⟨by assumption, by assumption⟩ (by omega) (by omega) (by omega) (by omega) (by omega) (by omega) fun a c lot ha hc hc' hlot hlt => ⟨_, rfl, ?_⟩)|((with_reducible show (CA.Ph _ "_law_line").io = true ∧ _); refine CA.line_step 30 rfl (by assumption) ⟨by assumption, by assumption⟩ (by omega) (by omega) (by assumption) (by omega) (fun x hx => by have := hlt x hx; omega) (by omega) (by omega) (by omega) (by omega) fun a c line ha hc hc' hrow hlow hbusy hfifo hlifo => ⟨_, rfl, ?_⟩)|((with_reducible show (CA.Ph _ "_law_beat").io = true ∧ _); refine CR.io__law_beat rfl rfl (by assumption) (by assumption) (by assumption) (by omega) (by omega) (by omega) (by omega) fun a c beat ha hc hc' hbeat hbl hbt hbs => ⟨_, rfl, ?_⟩)) <;> try simp only [CA.fr_is_integer, CA.fr_need_size, CA.fr_is_cell, CA.fr_cells_fault, CA.fr_need_cells, CA.fr_row_fault, CA.fr_need_row, CA.fr_slots_fault, CA.fr_check_crossings, CA.fr_need_crossings, CA.fr_need_port, CA.fr_need_slot, CA.fr_need_number, CA.fr_need_rhythm, CA.fr__law_source, CA.fr__law_draw, CA.fr__law_lot, CA.fr__law_line, CA.fr__law_later, CR.fr_pairings_in, CR.fr_unsure, CR.fr__law_beat, fr__law_loads, fr_loads_of, fr_fits_rhythm, fr_keeps_rhythm, fr__law_told_right, fr__law_moves, fr__law_fitting, fr_law, reduceCtorEq, Bool.false_eq_true, if_false, if_true, kdOf_z, kdOf_t, kdOf_int, kdOf_bool, kdOf_str, kdOf_none, List.length_map, backD_wipe, Int.toNat_natCast, Int.reduceEq, Int.reduceLT, Int.reduceLE, decide_true, decide_false, Int.reduceSub, Int.reduceNeg, Int.reduceToNat, Int.reducePow, Int.reduceAdd, Int.reduceMul, Bool.not_true, Bool.not_false, isNonD_int, isNonD_bool, isNonD_str, isNonD_list, isNonD_tup, isNonD_none, List.set_cons_zero, List.set_cons_succ])|((with_reducible show _ = _ ∧ (CA.Ph _ _).io = false ∧ _); refine And.intro rfl ?_; simp only [DL.pick, List.filterMap_cons, List.filterMap_nil, List.getElem?_cons_zero, List.getElem?_cons_succ])))|(with_reducible refine g_ifT ?_)|(with_reducible refine g_ifF ?_)|(with_reducible refine g_if (fun hb => ?_) (fun hb => ?_)))))
local macro_rules | `(tactic| nofun) => `(tactic| try simp only [CA.fr_is_integer, CA.fr_need_size, CA.fr_is_cell, CA.fr_cells_fault, CA.fr_need_cells, CA.fr_row_fault, CA.fr_need_row, CA.fr_slots_fault, CA.fr_check_crossings, CA.fr_need_crossings, CA.fr_need_port, CA.fr_need_slot, CA.fr_need_number, CA.fr_need_rhythm, CA.fr__law_source, CA.fr__law_draw, CA.fr__law_lot, CA.fr__law_line, CA.fr__law_later, CR.fr_pairings_in, CR.fr_unsure, CR.fr__law_beat, fr__law_loads, fr_loads_of, fr_fits_rhythm, fr_keeps_rhythm, fr__law_told_right, fr__law_moves, fr__law_fitting, fr_law, reduceCtorEq, Bool.false_eq_true, if_false, if_true, kdOf_z, kdOf_t, kdOf_int, kdOf_bool, kdOf_str, kdOf_none, List.length_map, backD_wipe, Int.toNat_natCast, Int.reduceEq, Int.reduceLT, Int.reduceLE, decide_true, decide_false, Int.reduceSub, Int.reduceNeg, Int.reduceToNat, Int.reducePow, Int.reduceAdd, Int.reduceMul, Bool.not_true, Bool.not_false, isNonD_int, isNonD_bool, isNonD_str, isNonD_list, isNonD_tup, isNonD_none, List.set_cons_zero, List.set_cons_succ])
def tl (l : List ((Int × Int) × Int)) : List (List Int × D) := l.map fun p => ([p.1.1, p.1.2], .int p.2)
theorem dP_tl (l : List ((Int × Int) × Int)) : dP l = dT (tl l) := rfl
theorem key_eq (p : (Int × Int) × Int) (a b : Int) : ([p.1.1, p.1.2] = [a, b]) ↔ p.1 = (a, b) := by
  obtain ⟨⟨x, y⟩, m⟩ := p
  simp
theorem tl_has (l : List ((Int × Int) × Int)) (a b : Int) : hasT (tl l) [a, b] = l.any fun p => decide (p.1 = (a, b)) := by
  unfold hasT tl
  rw [List.any_map]
  congr 1
  funext p
  exact decide_eq_decide.mpr (key_eq p a b)
theorem tl_get (l : List ((Int × Int) × Int)) (a b : Int) : getT (tl l) [a, b] 0 = some (getP l (a, b)) := by
  induction l with
  | nil => rfl
  | cons p l ih =>
    unfold getT getP tl at ih ⊢
    rw [List.map_cons, List.find?_cons, List.find?_cons]
    by_cases e : p.1 = (a, b)
    · rw [decide_eq_true ((key_eq p a b).mpr e), decide_eq_true e]
    · rw [decide_eq_false fun z => e ((key_eq p a b).mp z), decide_eq_false e]
      exact ih
theorem tl_put (l : List ((Int × Int) × Int)) (a b : Int) : putT (tl l) [a, b] (.int (getP l (a, b) + 1)) = tl (inc l (a, b)) := by
  unfold putT inc
  rw [tl_has]
  split
  · unfold tl
    rw [List.map_map, List.map_map]
    refine List.map_congr_left fun p _ => ?_
    show (if [p.1.1, p.1.2] = [a, b] then _ else _) = (_ : List Int × D)
    by_cases e : p.1 = (a, b)
    · rw [if_pos ((key_eq p a b).mpr e)]
      show _ = (fun p : (Int × Int) × Int => (([p.1.1, p.1.2] : List Int), PyData.int p.2)) (if p.1 = (a, b) then _ else _)
      rw [if_pos e]
    · rw [if_neg fun z => e ((key_eq p a b).mp z)]
      show _ = (fun p : (Int × Int) × Int => (([p.1.1, p.1.2] : List Int), PyData.int p.2)) (if p.1 = (a, b) then _ else _)
      rw [if_neg e]
  · unfold tl
    rw [List.map_append]
    rfl
theorem inc_len (l : List ((Int × Int) × Int)) (k : Int × Int) : (inc l k).length ≤ l.length + 1 := by
  unfold inc
  split
  · rw [List.length_map]; omega
  · simp
theorem ldl_next (s : Int) (ps : List (Cell × Int)) (p : Cell × Int) : ldl s (ps ++ [p]) = inc (ldl s ps) (p.2, port s p.1) := by
  unfold ldl
  rw [List.foldl_append]
  rfl
theorem ldl_len (s : Int) (ps : List (Cell × Int)) : (ldl s ps).length ≤ ps.length := by
  suffices h : ∀ (ps : List (Cell × Int)) (l : List ((Int × Int) × Int)), (ps.foldl (fun l p => inc l (p.2, port s p.1)) l).length ≤ l.length + ps.length by
    have := h ps []
    simpa [ldl] using this
  intro ps
  induction ps with
  | nil => intro l; simp
  | cons p ps ih =>
    intro l
    have h1 := ih (inc l (p.2, port s p.1))
    have h2 := inc_len l (p.2, port s p.1)
    rw [List.foldl_cons, List.length_cons]
    omega
theorem law__law_loads : ∀ ds post, F__law_loads.sp ds post → ds.length = g__law_loads.ps.length ∧ rdSs Ph b__law_loads (env0 F__law_loads.io N__law_loads.length ds) (fnEnds F__law_loads post) := by
  rintro ds post ⟨lot, mv, s, rfl, few, hl, hs, hp⟩
  refine ⟨rfl, ?_⟩
  show rdSs Ph b__law_loads [.frz (dL lot), .frz (dI mv), .frz (.int s), .un, .un, .un] _
  unfold b__law_loads
  and_intros
  refine r_for ?_
  and_intros
  have elen : (lot.zip mv).length = lot.length := by simp [hl]
  refine for_fin (lot.zip mv) (fun p => .tuple [dC p.1, .int p.2]) (fun j => [.frz (dL lot), .frz (dI mv), .frz (.int s), .own (dT (tl (ldl s ((lot.zip mv).take j)))), .un, .un]) zip_eq rfl ?_ ?_ (by simp)
  · rintro j ⟨⟨a, p, g⟩, e⟩ hj
    have tk := take_next hj
    refine ⟨_, tg2_fz (by decide) rfl fz_un rfl fz_un, ?_⟩
    have kl := ldl_len s ((lot.zip mv).take j)
    rw [List.length_take] at kl
    have hz : sizeLine > 1000 := by decide
    rw [tk, ldl_next]
    generalize ldl s ((lot.zip mv).take j) = l at kl ⊢
    have lt : (tl l).length ≤ 60 := by unfold tl; rw [List.length_map]; omega
    rcases hs with rfl | rfl
    · and_intros
      refine e_dgetT ⟨_, _, rfl⟩ ?_
      and_intros
      refine ⟨[e, p], _, tl l, _, rfl, Nat.le_of_ble_eq_true rfl, rfl, tl_get l e p, ?_⟩
      and_intros
      refine ⟨[e, p], tl l, _, rfl, Nat.le_of_ble_eq_true rfl, rfl, by omega, rfl, ?_⟩
      rw [tl_put]
      and_intros
      rfl
    · and_intros
      refine e_dgetT ⟨_, _, rfl⟩ ?_
      and_intros
      refine ⟨[e, g], _, tl l, _, rfl, Nat.le_of_ble_eq_true rfl, rfl, tl_get l e g, ?_⟩
      and_intros
      refine ⟨[e, g], tl l, _, rfl, Nat.le_of_ble_eq_true rfl, rfl, by omega, rfl, ?_⟩
      rw [tl_put]
      and_intros
      rfl
  · rw [List.take_length]
    and_intros
    (first | exact ⟨.none, fun z => absurd z (by decide), hp⟩ | exact ⟨rfl, .none, fun z => absurd z (by decide), hp⟩ | exact ⟨.inl nz, .none, fun z => absurd z (by decide), hp⟩ | exact ⟨.inr rfl, .none, fun z => absurd z (by decide), hp⟩)
theorem law_loads_of : ∀ ds post, F_loads_of.sp ds post → ds.length = g_loads_of.ps.length ∧ rdSs Ph b_loads_of (env0 F_loads_of.io N_loads_of.length ds) (fnEnds F_loads_of post) := by
  rintro ds post ⟨lot, mv, s, rfl, few, hl, hs, hp⟩
  refine ⟨rfl, ?_⟩
  show rdSs Ph b_loads_of [.frz (dL lot), .frz (dI mv), .frz (.int s), .un, .un, .un, .un] _
  unfold b_loads_of
  and_intros
  refine r_for ?_
  and_intros
  have elen : (lot.zip mv).length = lot.length := by simp [hl]
  refine for_fin (lot.zip mv) (fun p => .tuple [dC p.1, .int p.2]) (fun j => [.frz (dL lot), .frz (dI mv), .frz (.int s), .own (dT (tl (ldl s ((lot.zip mv).take j)))), .un, .un, .un]) zip_eq rfl ?_ ?_ (by simp)
  · rintro j ⟨⟨a, p, g⟩, e⟩ hj
    have tk := take_next hj
    refine ⟨_, tg2_fz (by decide) rfl fz_un rfl fz_un, ?_⟩
    have kl := ldl_len s ((lot.zip mv).take j)
    rw [List.length_take] at kl
    have hz : sizeLine > 1000 := by decide
    rw [tk, ldl_next]
    generalize ldl s ((lot.zip mv).take j) = l at kl ⊢
    have lt : (tl l).length ≤ 60 := by unfold tl; rw [List.length_map]; omega
    rcases hs with rfl | rfl
    · refine r_cntT ?_
      and_intros
      refine ⟨[e, p], tl l, _, _, _, rfl, Nat.le_of_ble_eq_true rfl, rfl, rfl, by decide, by omega, tl_get l e p, rfl, ?_⟩
      rw [tl_put]
      and_intros
      rfl
    · refine r_cntT ?_
      and_intros
      refine ⟨[e, g], tl l, _, _, _, rfl, Nat.le_of_ble_eq_true rfl, rfl, rfl, by decide, by omega, tl_get l e g, rfl, ?_⟩
      rw [tl_put]
      and_intros
      rfl
  · rw [List.take_length]
    and_intros
    (first | exact ⟨.none, fun z => absurd z (by decide), hp⟩ | exact ⟨rfl, .none, fun z => absurd z (by decide), hp⟩ | exact ⟨.inl nz, .none, fun z => absurd z (by decide), hp⟩ | exact ⟨.inr rfl, .none, fun z => absurd z (by decide), hp⟩)
end K13

namespace K13
open PySem PySem.Spec PyProof.Rows L2 DL CA CR
set_option hygiene false
local macro_rules | `(tactic| and_intros) => `(tactic| (repeat' (first|((with_reducible show rdE _ _ _ _); (first|(with_reducible refine e_int ?_)|(with_reducible refine e_bl ?_)|(with_reducible refine e_non ?_)|(with_reducible refine e_str ?_)|(with_reducible refine e_gi ?_)|(with_reducible refine e_tup ?_)|(with_reducible refine e_lst ?_)|(with_reducible refine e_bin ?_)|(with_reducible refine e_neg ?_)|(with_reducible refine e_cmp ?_)|(with_reducible refine e_chain ?_)|(with_reducible refine e_not ?_)|(with_reducible refine e_ands ?_)|(with_reducible refine e_ors ?_)|(with_reducible refine e_ife ?_)|(with_reducible refine e_idx ?_)|(with_reducible refine e_call ?_)|(with_reducible refine e_callk ?_)|(with_reducible refine e_bi ?_)|(with_reducible refine e_ist ?_)|(with_reducible refine e_lrng1 ?_)|(with_reducible refine e_lrng2 ?_)|(with_reducible refine e_sset ?_)|(with_reducible refine e_dnewT ?_)|(with_reducible refine e_dinT ?_)|(with_reducible refine e_rev ?_)|(with_reducible refine e_cat ?_)|(with_reducible refine e_cat2 ?_)|(with_reducible refine e_mt ?_)|(with_reducible refine e_sl ?_)|((first|(with_reducible refine e_isN ?_)|(with_reducible refine e_notN ?_)) <;> try simp only [CA.fr_is_integer, CA.fr_need_size, CA.fr_is_cell, CA.fr_cells_fault, CA.fr_need_cells, CA.fr_row_fault, CA.fr_need_row, CA.fr_slots_fault, CA.fr_check_crossings, CA.fr_need_crossings, CA.fr_need_port, CA.fr_need_slot, CA.fr_need_number, CA.fr_need_rhythm, CA.fr__law_source, CA.fr__law_draw, CA.fr__law_lot, CA.fr__law_line, CA.fr__law_later, CR.fr_pairings_in, CR.fr_unsure, CR.fr__law_beat, fr__law_loads, fr_loads_of, fr_fits_rhythm, fr_keeps_rhythm, fr__law_told_right, fr__law_moves, fr__law_fitting, fr_law, reduceCtorEq, Bool.false_eq_true, if_false, if_true, kdOf_z, kdOf_t, kdOf_int, kdOf_bool, kdOf_str, kdOf_none, List.length_map, backD_wipe, Int.toNat_natCast, Int.reduceEq, Int.reduceLT, Int.reduceLE, decide_true, decide_false, Int.reduceSub, Int.reduceNeg, Int.reduceToNat, Int.reducePow, Int.reduceAdd, Int.reduceMul, Bool.not_true, Bool.not_false, isNonD_int, isNonD_bool, isNonD_str, isNonD_list, isNonD_tup, isNonD_none, List.set_cons_zero, List.set_cons_succ])|((with_reducible show rdE _ (.var _) _ _); refine e_frz rfl ?_)|((with_reducible show rdE _ (.var _) _ _); refine e_own rfl ?_)|((with_reducible show rdE _ (.var _) _ _); refine e_io rfl ?_)|((with_reducible show rdE _ (.mv _) _ _); refine e_mv rfl ?_)|((with_reducible show rdE _ (.idxv _ _) _ _); refine e_idxv rfl ?_)|((with_reducible show rdE _ (.callio _ _ _) _ _); refine e_callio rfl ?_)))|((with_reducible show rdSs _ _ _ _); (first|(with_reducible refine r_cons ?_)|(with_reducible refine r_nil ?_)))|((with_reducible show rdS _ _ _ _); (first|(with_reducible refine r_asgF ?_)|(with_reducible refine r_asgT ?_)|(with_reducible refine r_ret ?_)|(with_reducible refine r_retN ?_)|(with_reducible refine r_expr ?_)|(with_reducible refine r_iff ?_)|(with_reducible refine r_brk ?_)|(with_reducible refine r_cont ?_)|(with_reducible refine r_pas ?_)|(with_reducible refine r_asgTs ?_)|((with_reducible show rdS _ (.setv _ _ _) _ _); refine r_setv rfl ?_)|((with_reducible show rdS _ (.mut _ _ _) _ _); refine r_mut ⟨_, rfl⟩ ?_)|((with_reducible show rdS _ (.dputT _ _ _) _ _); refine r_dputT rfl ?_)|((with_reducible show rdS _ (.aug _ _ _) _ _); refine r_aug rfl ?_)|(with_reducible refine r_par ?_)))|((with_reducible show rdEs _ _ _ _); (first|(with_reducible refine s_nil ?_)|(with_reducible refine s_cons ?_)))|((with_reducible show rdAnd _ _ _ _); (first|(with_reducible refine a_two ?_)|(with_reducible refine a_one ?_)))|((with_reducible show rdOr _ _ _ _); (first|(with_reducible refine o_two ?_)|(with_reducible refine o_one ?_)))|((with_reducible show rdI _ _ _ _); (first|(with_reducible refine w_lst ?_)|(with_reducible refine w_tup ?_)|(with_reducible refine w_rng1 ?_)|(with_reducible refine w_rng2 ?_)|(with_reducible refine w_enum ?_)|(with_reducible refine w_zip ?_)))|((with_reducible show rdC _ _ _ _); (first|(with_reducible refine c_nil ?_)|(with_reducible refine c_one ?_)))|((with_reducible show rdO _ _ _ _); (first|(with_reducible refine o_no ?_)|(with_reducible refine o_so ?_)))|((with_reducible show rdPs _ _ _ _ _); (first|(with_reducible refine r_psN ?_)|(with_reducible refine r_psF ?_)|(with_reducible refine r_psT ?_)|((with_reducible show rdPs _ _ (List.map _ _) _ _); simp only [List.map_cons, List.map_nil])))|((with_reducible show ∃ t, truthD _ = some t ∧ _); (first|(with_reducible refine r_tn ?_)|((with_reducible show ∃ t, truthD _ = some t ∧ _); simp only [isNonD_int, isNonD_bool, isNonD_str, isNonD_list, isNonD_tup, isNonD_none, Bool.not_true, Bool.not_false])|(with_reducible refine r_tT ?_)|(with_reducible refine r_tF ?_)|(with_reducible refine r_tbA (by assumption) ?_)|(with_reducible refine r_tbB (by assumption) ?_)|(with_reducible refine r_tb (fun hb => ?_) (fun hb => ?_))|((with_reducible refine r_not ?_); try simp only [Bool.not_true, Bool.not_false])))|((with_reducible show ∃ r, cmpD _ _ _ = some r ∧ _); (first|((first|(with_reducible refine g_ex (by assumption) ?_)) <;> try simp only [CA.fr_is_integer, CA.fr_need_size, CA.fr_is_cell, CA.fr_cells_fault, CA.fr_need_cells, CA.fr_row_fault, CA.fr_need_row, CA.fr_slots_fault, CA.fr_check_crossings, CA.fr_need_crossings, CA.fr_need_port, CA.fr_need_slot, CA.fr_need_number, CA.fr_need_rhythm, CA.fr__law_source, CA.fr__law_draw, CA.fr__law_lot, CA.fr__law_line, CA.fr__law_later, CR.fr_pairings_in, CR.fr_unsure, CR.fr__law_beat, fr__law_loads, fr_loads_of, fr_fits_rhythm, fr_keeps_rhythm, fr__law_told_right, fr__law_moves, fr__law_fitting, fr_law, reduceCtorEq, Bool.false_eq_true, if_false, if_true, kdOf_z, kdOf_t, kdOf_int, kdOf_bool, kdOf_str, kdOf_none, List.length_map, backD_wipe, Int.toNat_natCast, Int.reduceEq, Int.reduceLT, Int.reduceLE, decide_true, decide_false, Int.reduceSub, Int.reduceNeg, Int.reduceToNat, Int.reducePow, Int.reduceAdd, Int.reduceMul, Bool.not_true, Bool.not_false, isNonD_int, isNonD_bool, isNonD_str, isNonD_list, isNonD_tup, isNonD_none, List.set_cons_zero, List.set_cons_succ])|(with_reducible refine g_ex (ne_same _) ?_)|(with_reducible refine g_ex (eq_same _) ?_)|(with_reducible refine g_ex (ne_samei _) ?_)|(with_reducible refine g_ex (Shw.ne (by assumption)) ?_)|(with_reducible refine g_ex (Shw.eq (by assumption)) ?_)|(refine g_ex inn_ints ?_)|(refine g_ex (ne_nil _) ?_)|(with_reducible refine g_ex CA.nin_ints ?_)|(with_reducible refine g_ex (CA.ne_nilP _) ?_)|(with_reducible refine g_ex CA.inn_pairs2 ?_)|(with_reducible refine g_ex CA.nin_pairs2 ?_)|(refine g_ex (eq_nil _) ?_)|(refine g_ex (eq_ints _ _) ?_)|(refine g_ex (ne_ints _ _) ?_)|(refine g_ex rfl ?_)))|((with_reducible show ∃ t r, biD _ _ = some (t, r) ∧ _); (first|((first|(refine e_istE rfl ?_)|((with_reducible refine bi_F (by assumption) (Or.inl nz) ?_))|((with_reducible refine bi_F (sum_ints _) (Or.inl nz) ?_))|((with_reducible refine bi_F (sum_ints _) (Or.inl nt) ?_))|((with_reducible refine bi_T (biD_sorted _) (Or.inl nz) ?_))|((with_reducible show ∃ t r, biD .max [.list _] = some (t, r) ∧ _); refine bi_F (CA.biD_max _ _) (Or.inl nz) ?_)|((with_reducible show ∃ t r, biD .any [.list (List.map PyData.bool _)] = some (t, r) ∧ _); refine bi_F (CA.biD_any _) (.inr rfl) ?_)|((with_reducible refine bi_T (biD_sorted _) (Or.inl nt) ?_))|((with_reducible refine bi_F (Shw.repr (by assumption)) (Or.inl nz) ?_))|((with_reducible refine bi_F (Shw.repr (by assumption)) (Or.inl nt) ?_))|((with_reducible refine bi_F (Shw.repr (by assumption)) (.inr rfl) ?_))|(refine bi_F rfl (Or.inl nz) ?_)|(refine bi_F rfl (Or.inl nt) ?_)|(refine bi_F rfl (.inr rfl) ?_)) <;> try simp only [CA.fr_is_integer, CA.fr_need_size, CA.fr_is_cell, CA.fr_cells_fault, CA.fr_need_cells, CA.fr_row_fault, CA.fr_need_row, CA.fr_slots_fault, CA.fr_check_crossings, CA.fr_need_crossings, CA.fr_need_port, CA.fr_need_slot, CA.fr_need_number, CA.fr_need_rhythm, CA.fr__law_source, CA.fr__law_draw, CA.fr__law_lot, CA.fr__law_line, CA.fr__law_later, CR.fr_pairings_in, CR.fr_unsure, CR.fr__law_beat, fr__law_loads, fr_loads_of, fr_fits_rhythm, fr_keeps_rhythm, fr__law_told_right, fr__law_moves, fr__law_fitting, fr_law, reduceCtorEq, Bool.false_eq_true, if_false, if_true, kdOf_z, kdOf_t, kdOf_int, kdOf_bool, kdOf_str, kdOf_none, List.length_map, backD_wipe, Int.toNat_natCast, Int.reduceEq, Int.reduceLT, Int.reduceLE, decide_true, decide_false, Int.reduceSub, Int.reduceNeg, Int.reduceToNat, Int.reducePow, Int.reduceAdd, Int.reduceMul, Bool.not_true, Bool.not_false, isNonD_int, isNonD_bool, isNonD_str, isNonD_list, isNonD_tup, isNonD_none, List.set_cons_zero, List.set_cons_succ])))|((with_reducible show Exists _); (first|(with_reducible refine g_int ?_)|(with_reducible refine g_int2 ?_)|(with_reducible refine g_list ?_)|(with_reducible refine g_list2 ?_)|(with_reducible refine g_tup ?_)|((first|((with_reducible show ∃ t r, binD .add (.list _) (.list _) = some (t, r) ∧ _); refine b_cat3 (by constructor <;> (first|exact nz|exact nt)) (by simp [rangeD_length]; omega) ?_)|((with_reducible show ∃ t r, binD .mul (.list [.int _]) (.int _) = some (t, r) ∧ _); refine b_zeros (by omega) ?_)) <;> try simp only [CA.fr_is_integer, CA.fr_need_size, CA.fr_is_cell, CA.fr_cells_fault, CA.fr_need_cells, CA.fr_row_fault, CA.fr_need_row, CA.fr_slots_fault, CA.fr_check_crossings, CA.fr_need_crossings, CA.fr_need_port, CA.fr_need_slot, CA.fr_need_number, CA.fr_need_rhythm, CA.fr__law_source, CA.fr__law_draw, CA.fr__law_lot, CA.fr__law_line, CA.fr__law_later, CR.fr_pairings_in, CR.fr_unsure, CR.fr__law_beat, fr__law_loads, fr_loads_of, fr_fits_rhythm, fr_keeps_rhythm, fr__law_told_right, fr__law_moves, fr__law_fitting, fr_law, reduceCtorEq, Bool.false_eq_true, if_false, if_true, kdOf_z, kdOf_t, kdOf_int, kdOf_bool, kdOf_str, kdOf_none, List.length_map, backD_wipe, Int.toNat_natCast, Int.reduceEq, Int.reduceLT, Int.reduceLE, decide_true, decide_false, Int.reduceSub, Int.reduceNeg, Int.reduceToNat, Int.reducePow, Int.reduceAdd, Int.reduceMul, Bool.not_true, Bool.not_false, isNonD_int, isNonD_bool, isNonD_str, isNonD_list, isNonD_tup, isNonD_none, List.set_cons_zero, List.set_cons_succ])|((with_reducible show ∃ env2, tgD (.tp (.cons _ (.cons _ .nil))) _ _ = some env2 ∧ _); refine r_some (tg2_fz (by decide) rfl (by first|exact fz_un|exact fz_frz|assumption) rfl (by first|exact fz_un|exact fz_frz|assumption)) ?_)|(refine r_some rfl ?_)|(refine r_some (asg_fz rfl (by assumption)) ?_)|(refine r_some (asgt_fz rfl (by assumption)) ?_)|(refine r_some (asgo_ni rfl (by assumption)) ?_)|(refine r_augE rfl rfl ?_)|(refine r_put2 rfl rfl rfl ?_)|((first|(refine i_list rfl rfl ?_)|(refine i_list rfl (at_last (by assumption)) ?_)|(refine i_list rfl (at_last2 (by assumption)) ?_)|(refine i_list rfl (map_nat (by assumption) (by omega)) ?_)|(refine i_list rfl (atI_ints (by omega) (by omega)) ?_)|(refine i_list rfl (atI_ints ?_ ?_) ?_)|(refine i_tup rfl rfl ?_)|((with_reducible show ∃ r, idxD (.list [.int _, .int _]) (.int (DL.b2i _)) = some r ∧ _); refine CA.pick2 fun m hm => ?_)|((with_reducible show ∃ r, idxD (.list [.int _, .int _]) (.int _) = some r ∧ _); refine CA.pickI2 (by assumption) (by assumption) fun m hm => ?_)|((with_reducible show ∃ r, idxD (.list [.int _, .int _, .int _]) (.int _) = some r ∧ _); refine CA.pickI3 (by assumption) (by assumption) fun m hm => ?_)) <;> try simp only [CA.fr_is_integer, CA.fr_need_size, CA.fr_is_cell, CA.fr_cells_fault, CA.fr_need_cells, CA.fr_row_fault, CA.fr_need_row, CA.fr_slots_fault, CA.fr_check_crossings, CA.fr_need_crossings, CA.fr_need_port, CA.fr_need_slot, CA.fr_need_number, CA.fr_need_rhythm, CA.fr__law_source, CA.fr__law_draw, CA.fr__law_lot, CA.fr__law_line, CA.fr__law_later, CR.fr_pairings_in, CR.fr_unsure, CR.fr__law_beat, fr__law_loads, fr_loads_of, fr_fits_rhythm, fr_keeps_rhythm, fr__law_told_right, fr__law_moves, fr__law_fitting, fr_law, reduceCtorEq, Bool.false_eq_true, if_false, if_true, kdOf_z, kdOf_t, kdOf_int, kdOf_bool, kdOf_str, kdOf_none, List.length_map, backD_wipe, Int.toNat_natCast, Int.reduceEq, Int.reduceLT, Int.reduceLE, decide_true, decide_false, Int.reduceSub, Int.reduceNeg, Int.reduceToNat, Int.reducePow, Int.reduceAdd, Int.reduceMul, Bool.not_true, Bool.not_false, isNonD_int, isNonD_bool, isNonD_str, isNonD_list, isNonD_tup, isNonD_none, List.set_cons_zero, List.set_cons_succ])))|((with_reducible show _ ∧ _); (first|((with_reducible show (CA.Ph _ _).io = false ∧ _); (first|((with_reducible show (CA.Ph _ "is_integer").io = false ∧ _); first|(refine CA.st_isI_t rfl (by first|assumption|omega) (by first|assumption|omega) ?_)|(refine CA.st_isI2 rfl  ?_)|(refine CA.st_isI1 rfl  ?_)|(refine CA.st_isI0 rfl  ?_))|((with_reducible show (CA.Ph _ "need_size").io = false ∧ _); first|(refine CA.st_need_size rfl (by first|assumption|omega) (by first|assumption|omega) ?_))|((with_reducible show (CA.Ph _ "need_port").io = false ∧ _); first|(refine CA.st_need_port rfl (by first|assumption|omega) (by first|assumption|omega) ?_))|((with_reducible show (CA.Ph _ "need_slot").io = false ∧ _); first|(refine CA.st_need_slot rfl (by first|assumption|omega) (by first|assumption|omega) ?_))|((with_reducible show (CA.Ph _ "need_number").io = false ∧ _); first|(refine CA.st_need_number2 rfl (by first|assumption|omega) (by first|assumption|omega) ?_)|(refine CA.st_need_number1 rfl (by first|assumption|omega) ?_))|((with_reducible show (CA.Ph _ "cells_fault").io = false ∧ _); first|(refine CA.st_cells_fault rfl (by first|assumption|omega) ?_))|((with_reducible show (CA.Ph _ "need_cells").io = false ∧ _); first|(refine CA.st_need_cells rfl (by first|assumption|omega) (by first|assumption|omega) (by first|assumption|omega) ?_))|((with_reducible show (CA.Ph _ "row_fault").io = false ∧ _); first|(refine CA.st_row_fault rfl (by first|assumption|omega) (by first|assumption|omega) (by first|assumption|omega) ?_))|((with_reducible show (CA.Ph _ "need_row").io = false ∧ _); first|(refine CA.st_need_row rfl (by first|assumption|omega) (by first|assumption|omega) (by first|assumption|omega) (by first|assumption|omega) ?_))|((with_reducible show (CA.Ph _ "slots_fault").io = false ∧ _); first|(refine CA.st_slots_fault rfl (by first|assumption|omega) (by first|assumption|omega) ?_))|((with_reducible show (CA.Ph _ "check_crossings").io = false ∧ _); first|(refine CA.st_check_crossings rfl (by first|assumption|omega) (by first|assumption|omega) ?_))|((with_reducible show (CA.Ph _ "need_crossings").io = false ∧ _); first|(refine CA.st_need_crossings rfl (by first|assumption|omega) (by first|assumption|omega) (by first|assumption|omega) (by first|assumption|omega) ?_))|((with_reducible show (CA.Ph _ "need_rhythm").io = false ∧ _); first|(refine CA.st_need_rhythm rfl (by first|assumption|omega) ?_))|((with_reducible show (CA.Ph _ "_law_later").io = false ∧ _); first|(refine CA.st__law_later rfl (by first|assumption|omega) (by first|assumption|omega) ?_))|((with_reducible show (CA.Ph _ "pairings_in").io = false ∧ _); first|(refine CR.st_pairings_in rfl (by first|assumption|omega) (by first|assumption|omega) (by first|assumption|omega) (by first|assumption|omega) ?_))|((with_reducible show (CA.Ph _ "unsure").io = false ∧ _); first|(refine CR.st_unsure rfl (by first|assumption|omega) (by first|assumption|omega) (by first|assumption|omega) (by first|assumption|omega) (by first|assumption|omega) ?_))|((with_reducible show (CA.Ph _ "cells_to").io = false ∧ _); first|(refine CB.st_cells_to rfl (by first|assumption|omega) ?_))|((with_reducible show (CA.Ph _ "sending_slots").io = false ∧ _); first|(refine CB.st_sending_slots rfl (by first|assumption|omega) ?_))|((with_reducible show (CA.Ph _ "outlets_of").io = false ∧ _); first|(refine CB.st_outlets_of rfl (by first|assumption|omega) (by first|assumption|omega) ?_))|((with_reducible show (CA.Ph _ "is_busy_row").io = false ∧ _); first|(refine CB.st_is_busy_row rfl (by first|assumption|omega) (by first|assumption|omega) (by first|assumption|omega) (by first|assumption|omega) ?_))|((with_reducible show (CA.Ph _ "need_busy").io = false ∧ _); first|(refine CB.st_need_busy rfl (by first|assumption|omega) (by first|assumption|omega) (by first|assumption|omega) (by first|assumption|omega) (by first|assumption|omega) ?_))|((with_reducible show (CA.Ph _ "own_slots").io = false ∧ _); first|(refine CB.st_own_slots rfl (by first|assumption|omega) ?_))|((with_reducible show (CA.Ph _ "first_row").io = false ∧ _); first|(refine CB.st_first_row rfl (by first|assumption|omega) (by first|assumption|omega) (by first|assumption|omega) (by first|assumption|omega) ?_))|((with_reducible show (CA.Ph _ "_law_there").io = false ∧ _); first|(refine CB.st__law_there rfl (by first|assumption|omega) (by first|assumption|omega) (by first|assumption|omega) (by first|assumption|omega) ?_)|(refine CP.st__law_there rfl (by first|assumption|omega) (by first|assumption|omega) (by first|assumption|omega) (by first|assumption|omega) ?_))|((with_reducible show (CA.Ph _ "cells_from").io = false ∧ _); first|(refine CP.st_cells_from rfl (by first|assumption|omega) ?_))|((with_reducible show (CA.Ph _ "first_unpressed").io = false ∧ _); first|(refine CP.st_first_unpressed rfl (by first|assumption|omega) (by first|assumption|omega) (by first|assumption|omega) (by first|assumption|omega) ?_))|((with_reducible show (CA.Ph _ "is_pressed").io = false ∧ _); first|(refine CP.st_is_pressed rfl (by first|assumption|omega) (by first|assumption|omega) (by first|assumption|omega) (by first|assumption|omega) (by first|assumption|omega) ?_))|((with_reducible show (CA.Ph _ "choices_of").io = false ∧ _); first|(refine CC.st_choices_of rfl (by first|assumption|omega) (by first|assumption|omega) (by first|assumption|omega) ?_))|((with_reducible show (CA.Ph _ "product_of").io = false ∧ _); first|(refine CC.st_product_of rfl (by first|assumption|omega) (by first|assumption|omega) ?_))|((with_reducible show (CA.Ph _ "served_count").io = false ∧ _); first|(refine CC.st_served_count rfl (by first|assumption|omega) (by first|assumption|omega) (by first|assumption|omega) (by first|assumption|omega) ?_))|((with_reducible show (CA.Ph _ "_law_all_busy").io = false ∧ _); first|(refine CL.st__law_all_busy rfl (by first|assumption|omega) (by first|assumption|omega) (by first|assumption|omega) ?_))|((with_reducible show (CA.Ph _ "_law_is_served").io = false ∧ _); first|(refine CL.st__law_is_served rfl (by first|assumption|omega) (by first|assumption|omega) ?_))|((with_reducible show (CA.Ph _ "row_with").io = false ∧ _); first|(refine CW.st_row_with rfl (by first|assumption|omega) (by first|assumption|omega) (by first|assumption|omega) (by first|assumption|omega) (by first|assumption|omega) ?_))|((with_reducible show (CA.Ph _ "index_with").io = false ∧ _); first|(refine CW.st_index_with rfl (by first|assumption|omega) (by first|assumption|omega) (by first|assumption|omega) (by first|assumption|omega) (by first|assumption|omega) ?_))|((with_reducible show (CA.Ph _ "need_long").io = false ∧ _); first|(refine CN.st_need_long rfl (by first|assumption|omega) (by first|assumption|omega) (by first|assumption|omega) (by first|assumption|omega) (by first|assumption|omega) ?_))|((with_reducible show (CA.Ph _ "narrow_slot").io = false ∧ _); first|(refine CN.st_narrow_slot rfl (by first|assumption|omega) ?_))|((with_reducible show (CA.Ph _ "has_windows").io = false ∧ _); first|(refine CN.st_has_windows rfl (by first|assumption|omega) (by first|assumption|omega) ?_))|((with_reducible show (CA.Ph _ "rhythm_word").io = false ∧ _); first|(refine CN.st_rhythm_word rfl (by first|assumption|omega) (by first|assumption|omega) (by first|assumption|omega) (by first|assumption|omega) (by first|assumption|omega) ?_))|((with_reducible show (CA.Ph _ "_law_loads").io = false ∧ _); first|(refine K13.st__law_loads rfl (by first|assumption|omega) (by first|assumption|omega) (by first|assumption|omega) ?_))|((with_reducible show (CA.Ph _ "loads_of").io = false ∧ _); first|(refine K13.st_loads_of rfl (by first|assumption|omega) (by first|assumption|omega) (by first|assumption|omega) ?_))|((with_reducible show (CA.Ph _ "fits_rhythm").io = false ∧ _); first|(refine K13.st_fits_rhythm rfl (by first|assumption|omega) (by first|assumption|omega) (by first|assumption|omega) ?_))|((with_reducible show (CA.Ph _ "keeps_rhythm").io = false ∧ _); first|(refine K13.st_keeps_rhythm rfl (by first|assumption|omega) (by first|assumption|omega) (by first|assumption|omega) (by first|assumption|omega) (by first|assumption|omega) ?_))|((with_reducible show (CA.Ph _ "_law_told_right").io = false ∧ _); first|(refine K13.st__law_told_right rfl (by first|assumption|omega) (by first|assumption|omega) (by first|assumption|omega) (by first|assumption|omega) (by first|assumption|omega) (by first|assumption|omega) ?_))|((with_reducible show (CA.Ph _ "law").io = false ∧ _); first|(refine K13.st_law rfl (by first|assumption|omega) ?_))))|((with_reducible show (False → _) ∧ ∃ ds ds' env2, ownD _ _ = some (.list ds) ∧ mutD .append ds _ = some ds' ∧ _); refine r_app4 rfl (by simp; omega) rfl ?_)|((with_reducible show (False → _) ∧ ∃ ds ds' env2, ownD _ _ = some (.list ds) ∧ mutD .append ds _ = some ds' ∧ _); refine r_app4 rfl ?_ rfl ?_)|((first|(with_reducible refine c_lt ?_)|(with_reducible refine c_le ?_)|(with_reducible refine c_gt ?_)|(with_reducible refine c_ge ?_)|(with_reducible refine c_eq ?_)|(with_reducible refine c_ne ?_)|(with_reducible refine b_add ?_)|(with_reducible refine b_sub ?_)|(refine g_rng (by unfold okRng; omega) ?_)|((with_reducible show (Kd.z ≠ _ ∨ _) ∧ ∃ t r, binD _ (.int _) (.int _) = some (t, r) ∧ _); refine b_mul (log_small (by omega) (by omega)) ?_)|((with_reducible show (Kd.z ≠ _ ∨ _) ∧ ∃ t r, binD _ (.int _) (.int _) = some (t, r) ∧ _); refine b_mul (log_mid (by omega) (by omega) (by omega) (by omega)) ?_)|((with_reducible show (Kd.z ≠ _ ∨ _) ∧ ∃ t r, binD _ (.int _) (.int _) = some (t, r) ∧ _); refine b_mod (by omega) ?_)|((with_reducible show (Kd.z ≠ _ ∨ _) ∧ ∃ t r, binD _ (.int _) (.int _) = some (t, r) ∧ _); refine b_div (div_c (by omega) (by omega)) ?_)|((with_reducible show (Kd.z ≠ _ ∨ _) ∧ ∃ t r, binD _ (.int _) (.int _) = some (t, r) ∧ _); refine b_div ⟨by omega, by decide⟩ ?_)|((with_reducible show (Kd.z ≠ _ ∨ _) ∧ ∃ t r, binD _ (.int _) (.int _) = some (t, r) ∧ _); refine b_div (div_m (by omega) (by omega)) ?_)|((with_reducible show (Kd.z ≠ _ ∨ _) ∧ ∃ t r, binD _ (.int _) (.int _) = some (t, r) ∧ _); refine b_pow (by decide) ?_)|((with_reducible show (Kd.z ≠ _ ∨ _) ∧ ∃ t r, binD _ (.int _) (.int _) = some (t, r) ∧ _); refine b_pow (pow_mid (by omega) (by omega) (by omega) (by omega)) ?_)|((with_reducible refine b_mul ?_ ?_))|((with_reducible refine b_mod ?_ ?_))|((with_reducible refine b_div ?_ ?_))|((with_reducible refine b_pow ?_ ?_))|((with_reducible refine g_rng ?_ ?_))) <;> try simp only [CA.fr_is_integer, CA.fr_need_size, CA.fr_is_cell, CA.fr_cells_fault, CA.fr_need_cells, CA.fr_row_fault, CA.fr_need_row, CA.fr_slots_fault, CA.fr_check_crossings, CA.fr_need_crossings, CA.fr_need_port, CA.fr_need_slot, CA.fr_need_number, CA.fr_need_rhythm, CA.fr__law_source, CA.fr__law_draw, CA.fr__law_lot, CA.fr__law_line, CA.fr__law_later, CR.fr_pairings_in, CR.fr_unsure, CR.fr__law_beat, fr__law_loads, fr_loads_of, fr_fits_rhythm, fr_keeps_rhythm, fr__law_told_right, fr__law_moves, fr__law_fitting, fr_law, reduceCtorEq, Bool.false_eq_true, if_false, if_true, kdOf_z, kdOf_t, kdOf_int, kdOf_bool, kdOf_str, kdOf_none, List.length_map, backD_wipe, Int.toNat_natCast, Int.reduceEq, Int.reduceLT, Int.reduceLE, decide_true, decide_false, Int.reduceSub, Int.reduceNeg, Int.reduceToNat, Int.reducePow, Int.reduceAdd, Int.reduceMul, Bool.not_true, Bool.not_false, isNonD_int, isNonD_bool, isNonD_str, isNonD_list, isNonD_tup, isNonD_none, List.set_cons_zero, List.set_cons_succ])|(refine e_chainE rfl (fun hb => ?_) (fun hb => ?_))|(with_reducible refine g_true ?_)|((first|(refine e_idxE (Or.inl nt) rfl ?_)|(refine e_idxE (Or.inl nz) rfl ?_)|(refine g_len (Nat.le_of_ble_eq_true rfl) ?_)|(with_reducible refine g_nbz ?_)|(with_reducible refine g_nbt ?_)|(with_reducible refine g_oz ?_)|(with_reducible refine g_ot ?_)|(with_reducible refine g_eqt ?_)|((with_reducible show (_ ∨ _ = true ∧ _ = true) ∧ _); refine And.intro (.inr ⟨rfl, rfl⟩) ?_)|((with_reducible show (_ ∨ flats (List.map PyData.int _) = true) ∧ _); refine And.intro (.inr (flats_ints _)) ?_)|(refine g_pur rfl ?_)) <;> try simp only [CA.fr_is_integer, CA.fr_need_size, CA.fr_is_cell, CA.fr_cells_fault, CA.fr_need_cells, CA.fr_row_fault, CA.fr_need_row, CA.fr_slots_fault, CA.fr_check_crossings, CA.fr_need_crossings, CA.fr_need_port, CA.fr_need_slot, CA.fr_need_number, CA.fr_need_rhythm, CA.fr__law_source, CA.fr__law_draw, CA.fr__law_lot, CA.fr__law_line, CA.fr__law_later, CR.fr_pairings_in, CR.fr_unsure, CR.fr__law_beat, fr__law_loads, fr_loads_of, fr_fits_rhythm, fr_keeps_rhythm, fr__law_told_right, fr__law_moves, fr__law_fitting, fr_law, reduceCtorEq, Bool.false_eq_true, if_false, if_true, kdOf_z, kdOf_t, kdOf_int, kdOf_bool, kdOf_str, kdOf_none, List.length_map, backD_wipe, Int.toNat_natCast, Int.reduceEq, Int.reduceLT, Int.reduceLE, decide_true, decide_false, Int.reduceSub, Int.reduceNeg, Int.reduceToNat, Int.reducePow, Int.reduceAdd, Int.reduceMul, Bool.not_true, Bool.not_false, isNonD_int, isNonD_bool, isNonD_str, isNonD_list, isNonD_tup, isNonD_none, List.set_cons_zero, List.set_cons_succ])|((with_reducible show _ ≤ 1000000 ∧ _); refine And.intro (by omega) ?_)|((with_reducible show _ ≤ 100000 ∧ _); refine And.intro (by (try simp); omega) ?_)|((first|((with_reducible show (CA.Ph _ "_law_draw").io = true ∧ _); refine CA.draw_step rfl (by assumption) ⟨by assumption, by assumption⟩ (by omega) (by omega) (by omega) (by omega) fun a c r ha hc hc' hr hr' => ⟨_, rfl, ?_⟩)|((with_reducible show (CA.Ph _ "_law_lot").io = true ∧ _); refine CA.lot_step rfl (by assumption) ⟨by assumption, by assumption⟩ (by omega) (by omega) (by omega) (by omega) (by omega) (by omega) fun a c lot ha hc hc' hlot hlt => ⟨_, rfl, ?_⟩)|((with_reducible show (CA.Ph _ "_law_line").io = true ∧ _); refine CA.line_step 30 rfl (by assumption) ⟨by assumption, by assumption⟩ (by omega) (by omega) (by assumption) (by omega) (fun x hx => by have := hlt x hx; omega) (by omega) (by omega) (by omega) (by omega) fun a c line ha hc hc' hrow hlow hbusy hfifo hlifo => ⟨_, rfl, ?_⟩)|((with_reducible show (CA.Ph _ "_law_beat").io = true ∧ _); refine CR.io__law_beat rfl rfl (by assumption) (by assumption) (by assumption) (by omega) (by omega) (by omega) (by omega) fun a c beat ha hc hc' hbeat hbl hbt hbs => ⟨_, rfl, ?_⟩)) <;> try simp only [CA.fr_is_integer, CA.fr_need_size, CA.fr_is_cell, CA.fr_cells_fault, CA.fr_need_cells, CA.fr_row_fault, CA.fr_need_row, CA.fr_slots_fault, CA.fr_check_crossings, CA.fr_need_crossings, CA.fr_need_port, CA.fr_need_slot, CA.fr_need_number, CA.fr_need_rhythm, CA.fr__law_source, CA.fr__law_draw, CA.fr__law_lot, CA.fr__law_line, CA.fr__law_later, CR.fr_pairings_in, CR.fr_unsure, CR.fr__law_beat, fr__law_loads, fr_loads_of, fr_fits_rhythm, fr_keeps_rhythm, fr__law_told_right, fr__law_moves, fr__law_fitting, fr_law, reduceCtorEq, Bool.false_eq_true, if_false, if_true, kdOf_z, kdOf_t, kdOf_int, kdOf_bool, kdOf_str, kdOf_none, List.length_map, backD_wipe, Int.toNat_natCast, Int.reduceEq, Int.reduceLT, Int.reduceLE, decide_true, decide_false, Int.reduceSub, Int.reduceNeg, Int.reduceToNat, Int.reducePow, Int.reduceAdd, Int.reduceMul, Bool.not_true, Bool.not_false, isNonD_int, isNonD_bool, isNonD_str, isNonD_list, isNonD_tup, isNonD_none, List.set_cons_zero, List.set_cons_succ])|((with_reducible show _ = _ ∧ (CA.Ph _ _).io = false ∧ _); refine And.intro rfl ?_; simp only [DL.pick, List.filterMap_cons, List.filterMap_nil, List.getElem?_cons_zero, List.getElem?_cons_succ])))|(with_reducible refine g_ifT ?_)|(with_reducible refine g_ifF ?_)|(with_reducible refine g_if (fun hb => ?_) (fun hb => ?_)))))
local macro_rules | `(tactic| nofun) => `(tactic| try simp only [CA.fr_is_integer, CA.fr_need_size, CA.fr_is_cell, CA.fr_cells_fault, CA.fr_need_cells, CA.fr_row_fault, CA.fr_need_row, CA.fr_slots_fault, CA.fr_check_crossings, CA.fr_need_crossings, CA.fr_need_port, CA.fr_need_slot, CA.fr_need_number, CA.fr_need_rhythm, CA.fr__law_source, CA.fr__law_draw, CA.fr__law_lot, CA.fr__law_line, CA.fr__law_later, CR.fr_pairings_in, CR.fr_unsure, CR.fr__law_beat, fr__law_loads, fr_loads_of, fr_fits_rhythm, fr_keeps_rhythm, fr__law_told_right, fr__law_moves, fr__law_fitting, fr_law, reduceCtorEq, Bool.false_eq_true, if_false, if_true, kdOf_z, kdOf_t, kdOf_int, kdOf_bool, kdOf_str, kdOf_none, List.length_map, backD_wipe, Int.toNat_natCast, Int.reduceEq, Int.reduceLT, Int.reduceLE, decide_true, decide_false, Int.reduceSub, Int.reduceNeg, Int.reduceToNat, Int.reducePow, Int.reduceAdd, Int.reduceMul, Bool.not_true, Bool.not_false, isNonD_int, isNonD_bool, isNonD_str, isNonD_list, isNonD_tup, isNonD_none, List.set_cons_zero, List.set_cons_succ])
theorem all_take {α : Type} (f : α → Bool) {l : List α} (j : Nat) {a : α} (h : l[j]? = some a) : (l.take (j + 1)).all f = ((l.take j).all f && f a) := by
  rw [take_next h, List.all_append]
  simp
theorem all_no {α : Type} (f : α → Bool) {l : List α} {a : α} (h : a ∈ l) (hf : f a = false) : l.all f = false := by
  cases q : l.all f with
  | false => rfl
  | true => rw [List.all_eq_true.mp q a h] at hf; cases hf
theorem fit_app (lot : List Cell) (mv b : List Int) (h0 : 0 < b.length) : fit lot mv (b ++ b) = fit lot mv b := by
  have key : ∀ p, okP (b ++ b) p = okP b p := fun p => by
    unfold okP
    rw [List.length_append]
    have e0 := Int.emod_nonneg p.1.1 (show ((b.length + b.length : Nat) : Int) ≠ 0 by omega)
    have e1 := Int.emod_lt_of_pos p.1.1 (show (0 : Int) < ((b.length + b.length : Nat) : Int) by omega)
    have f0 := Int.emod_nonneg p.1.1 (show (b.length : Int) ≠ 0 by omega)
    have f1 := Int.emod_lt_of_pos p.1.1 (show (0 : Int) < (b.length : Int) by omega)
    have g : p.1.1 % (b.length : Int) = (p.1.1 % ((b.length + b.length : Nat) : Int)) % (b.length : Int) := (Int.emod_emod_of_dvd _ ⟨2, by omega⟩).symm
    generalize p.1.1 % ((b.length + b.length : Nat) : Int) = r at e0 e1 g ⊢
    rw [g]
    by_cases q : r < (b.length : Int)
    · rw [Int.emod_eq_of_lt e0 q, List.getD_eq_getElem?_getD, List.getElem?_append_left (by omega), ← List.getD_eq_getElem?_getD]
    · have e : r % (b.length : Int) = r - (b.length : Int) := by
        rw [← Int.sub_emod_right, Int.emod_eq_of_lt (by omega) (by omega)]
      rw [e, List.getD_eq_getElem?_getD, List.getElem?_append_right (by omega), ← List.getD_eq_getElem?_getD]
      rw [show (r - (b.length : Int)).toNat = r.toNat - b.length by omega]
  unfold fit okS
  rw [show okP (b ++ b) = okP b from funext key]
theorem law_fits_rhythm : ∀ ds post, F_fits_rhythm.sp ds post → ds.length = g_fits_rhythm.ps.length ∧ rdSs Ph b_fits_rhythm (env0 F_fits_rhythm.io N_fits_rhythm.length ds) (fnEnds F_fits_rhythm post) := by
  rintro ds post ⟨lot, mv, b, rfl, few, hl, hb, hp⟩
  refine ⟨rfl, ?_⟩
  show rdSs Ph b_fits_rhythm [.frz (dL lot), .frz (dI mv), .frz (dI b), .frz (.tuple [.int 1, .int 2]), .un, .un, .un, .un] _
  unfold b_fits_rhythm
  and_intros
  refine r_for ?_
  and_intros
  refine ⟨nz, ?_⟩
  refine for_inv [(1 : Int), 2] .int (fun j env => (([(1 : Int), 2].take j).all (okS lot mv b) = true) ∧ env = [.frz (dL lot), .frz (dI mv), .frz (dI b), .frz (.tuple [.int 1, .int 2]), .un, .un, .un, .un]) rfl ?_ ?_ ?_ rfl
  · exact ⟨rfl, rfl⟩
  · rintro j s env hj ⟨hd, rfl⟩
    have hs : s = 1 ∨ s = 2 := by simpa using List.mem_of_getElem? hj
    refine ⟨_, tg_fz rfl fz_un, ?_⟩
    refine r_cons (r_ford ?_)
    and_intros
    refine ⟨ld lot mv s, rfl, fun i env => (((ld lot mv s).take i).all (okP b) = true) ∧ env = [.frz (dL lot), .frz (dI mv), .frz (dI b), .frz (.tuple [.int 1, .int 2]), .frz (.int s), .un, .un, .un], ⟨rfl, rfl⟩, ?_, ?_⟩
    · rintro i env ⟨⟨x, y⟩, m⟩ hi ⟨hok, rfl⟩
      refine ⟨_, rfl, ?_⟩
      have m0 := Int.emod_nonneg x (show (b.length : Int) ≠ 0 by omega)
      have m1 := Int.emod_lt_of_pos x (show (0 : Int) < (b.length : Int) by omega)
      and_intros
      · have z : okP b ((x, y), m) = false := by unfold okP; rw [hb]; rfl
        have z2 : okS lot mv b s = false := all_no _ (List.mem_of_getElem? hi) z
        have z3 : fit lot mv b = false := by unfold fit; rcases hs with rfl | rfl <;> rw [z2] <;> simp
        exact ⟨.inl nz, .none, fun z => absurd z (by decide), z3 ▸ hp⟩
      · refine ⟨?_, rfl⟩
        rw [all_take _ i hi, hok]
        unfold okP
        rw [hb]; rfl
    · rintro env ⟨hok, rfl⟩
      rw [List.take_length] at hok
      and_intros
      exact ⟨by rw [all_take _ j hj, hd]; exact hok, rfl⟩
  · rintro env ⟨hd, rfl⟩
    have z : fit lot mv b = true := by simpa [fit] using hd
    and_intros
    exact ⟨.inl nz, .none, fun z => absurd z (by decide), z ▸ hp⟩
theorem law_keeps_rhythm : ∀ ds post, F_keeps_rhythm.sp ds post → ds.length = g_keeps_rhythm.ps.length ∧ rdSs Ph b_keeps_rhythm (env0 F_keeps_rhythm.io N_keeps_rhythm.length ds) (fnEnds F_keeps_rhythm post) := by
  rintro ds post ⟨n, lot, mv, b, rfl, h1, h2, Lo, M, B, hp⟩
  refine ⟨rfl, ?_⟩
  show rdSs Ph b_keeps_rhythm [.frz (.int n), .frz (dL lot), .frz (dI mv), .frz (dI b)] _
  unfold b_keeps_rhythm
  have few := Lo.few
  have ml := M.len
  have b1 := B.some_
  and_intros
  (first | exact ⟨.none, fun z => absurd z (by decide), hp⟩ | exact ⟨rfl, .none, fun z => absurd z (by decide), hp⟩ | exact ⟨.inl nz, .none, fun z => absurd z (by decide), hp⟩ | exact ⟨.inr rfl, .none, fun z => absurd z (by decide), hp⟩)
set_option maxHeartbeats 4000000 in
theorem law__law_told_right : ∀ ds post, F__law_told_right.sp ds post → ds.length = g__law_told_right.ps.length ∧ rdSs Ph b__law_told_right (env0 F__law_told_right.io N__law_told_right.length ds) (fnEnds F__law_told_right post) := by
  rintro ds post ⟨n, lot, mv, b, rfl, h1, h2, Lo, M, B, b20, hp⟩
  have few := Lo.few
  have ml := M.len
  have b1 := B.some_
  have sw : Shw (.list [dL lot, dI mv, dI b]) := (sm_list (sms_cons (sm_dL Lo h2) (sms_cons (sm_moves Lo M) (sms_cons (sm_beat B) sms_nil)))).shw (by decide) (by decide)
  have sb : ∀ f : Bool, Shw (.list [.bool f, .bool f, .bool f]) := fun f => by
    cases f <;> exact (sm_list (sms_cons (sm_bool _) (sms_cons (sm_bool _) (sms_cons (sm_bool _) sms_nil)))).shw (by decide) (by decide)
  refine ⟨rfl, ?_⟩
  show rdSs Ph b__law_told_right [.frz (.int n), .frz (dL lot), .frz (dI mv), .frz (dI b), .un, .un, .un, .un, .un, .un, .un] _
  unfold b__law_told_right
  and_intros
  refine r_for ?_
  and_intros
  refine for_inv [(1 : Int), 2] .int (fun j env => env = [.frz (.int n), .frz (dL lot), .frz (dI mv), .frz (dI b), .frz (.str (PyData.shown (.list [dL lot, dI mv, dI b]))), .frz (.bool (([(1 : Int), 2].take j).all (okS lot mv b))), .un, .un, .un, .un, .un]) rfl ?_ ?_ ?_ rfl
  · rfl
  · rintro j s env hj rfl
    have hs : s = 1 ∨ s = 2 := by simpa using List.mem_of_getElem? hj
    refine ⟨_, tg_fz rfl fz_un, ?_⟩
    refine r_cons (r_ford ?_)
    and_intros
    refine ⟨ld lot mv s, rfl, fun i env => env = [.frz (.int n), .frz (dL lot), .frz (dI mv), .frz (dI b), .frz (.str (PyData.shown (.list [dL lot, dI mv, dI b]))), .frz (.bool (([(1 : Int), 2].take j).all (okS lot mv b) && ((ld lot mv s).take i).all (okP b))), .frz (.int s), .un, .un, .un, .un], ?_, ?_, ?_⟩
    · show wipeF _ _ = _
      rw [List.take_zero, List.all_nil, Bool.and_true]; rfl
    · rintro i env ⟨⟨x, y⟩, m⟩ hi rfl
      refine ⟨_, rfl, ?_⟩
      have m0 := Int.emod_nonneg x (show (b.length : Int) ≠ 0 by omega)
      have m1 := Int.emod_lt_of_pos x (show (0 : Int) < (b.length : Int) by omega)
      and_intros
      · have z : okP b ((x, y), m) = false := by unfold okP; rw [hb]; rfl
        show wipeF _ _ = _
        rw [all_take _ i hi, z, Bool.and_false, Bool.and_false]
        rfl
      · have z : okP b ((x, y), m) = true := by unfold okP; rw [hb]; rfl
        show wipeF _ _ = _
        rw [all_take _ i hi, z, Bool.and_true]
        rfl
    · rintro env rfl
      rw [List.take_length]
      and_intros
      show wipeF _ _ = _
      rw [all_take _ j hj]
      rfl
  · rintro env rfl
    have z : ([(1 : Int), 2].take [(1 : Int), 2].length).all (okS lot mv b) = fit lot mv b := by simp [fit]
    rw [z]
    and_intros
    rw [← List.map_append]
    have fa := fit_app lot mv b b1
    have B2 : Beat (b ++ b) := ⟨by rw [List.length_append]; omega, by rw [List.length_append]; omega, fun x hx => by
      rcases List.mem_append.mp hx with z | z <;> exact B.dig x z⟩
    and_intros
    · exact Nat.le_of_ble_eq_true rfl
    rw [fa]
    generalize fit lot mv b = f
    have sf := sb f
    have e3 : ([PyData.bool f, .bool f] ++ [.bool f]) = [.bool f, .bool f, .bool f] := rfl
    rw [e3]
    refine r_frz rfl ?_
    and_intros
    refine ⟨true, .list [.bool f, .bool f, .bool f], by rfl, .inl ⟨nt, nz⟩, ?_⟩
    and_intros
    (first | exact ⟨.none, fun z => absurd z (by decide), hp⟩ | exact ⟨rfl, .none, fun z => absurd z (by decide), hp⟩ | exact ⟨.inl nz, .none, fun z => absurd z (by decide), hp⟩ | exact ⟨.inr rfl, .none, fun z => absurd z (by decide), hp⟩)
end K13

namespace K13
open PySem PySem.Spec PyProof.Rows L2 DL CA CR
set_option hygiene false
local macro_rules | `(tactic| and_intros) => `(tactic| (repeat' (first|((with_reducible show rdE _ _ _ _); (first|(with_reducible refine e_int ?_)|(with_reducible refine e_bl ?_)|(with_reducible refine e_non ?_)|(with_reducible refine e_str ?_)|(with_reducible refine e_gi ?_)|(with_reducible refine e_tup ?_)|(with_reducible refine e_lst ?_)|(with_reducible refine e_bin ?_)|(with_reducible refine e_neg ?_)|(with_reducible refine e_cmp ?_)|(with_reducible refine e_chain ?_)|(with_reducible refine e_not ?_)|(with_reducible refine e_ands ?_)|(with_reducible refine e_ors ?_)|(with_reducible refine e_ife ?_)|(with_reducible refine e_idx ?_)|(with_reducible refine e_call ?_)|(with_reducible refine e_callk ?_)|(with_reducible refine e_bi ?_)|(with_reducible refine e_ist ?_)|(with_reducible refine e_lrng1 ?_)|(with_reducible refine e_lrng2 ?_)|(with_reducible refine e_sset ?_)|(with_reducible refine e_dnewT ?_)|(with_reducible refine e_dinT ?_)|(with_reducible refine e_rev ?_)|(with_reducible refine e_cat ?_)|(with_reducible refine e_cat2 ?_)|(with_reducible refine e_mt ?_)|(with_reducible refine e_sl ?_)|((first|(with_reducible refine e_isN ?_)|(with_reducible refine e_notN ?_)) <;> try simp only [CA.fr_is_integer, CA.fr_need_size, CA.fr_is_cell, CA.fr_cells_fault, CA.fr_need_cells, CA.fr_row_fault, CA.fr_need_row, CA.fr_slots_fault, CA.fr_check_crossings, CA.fr_need_crossings, CA.fr_need_port, CA.fr_need_slot, CA.fr_need_number, CA.fr_need_rhythm, CA.fr__law_source, CA.fr__law_draw, CA.fr__law_lot, CA.fr__law_line, CA.fr__law_later, CR.fr_pairings_in, CR.fr_unsure, CR.fr__law_beat, fr__law_loads, fr_loads_of, fr_fits_rhythm, fr_keeps_rhythm, fr__law_told_right, fr__law_moves, fr__law_fitting, fr_law, reduceCtorEq, Bool.false_eq_true, if_false, if_true, kdOf_z, kdOf_t, kdOf_int, kdOf_bool, kdOf_str, kdOf_none, List.length_map, backD_wipe, Int.toNat_natCast, Int.reduceEq, Int.reduceLT, Int.reduceLE, decide_true, decide_false, Int.reduceSub, Int.reduceNeg, Int.reduceToNat, Int.reducePow, Int.reduceAdd, Int.reduceMul, Bool.not_true, Bool.not_false, isNonD_int, isNonD_bool, isNonD_str, isNonD_list, isNonD_tup, isNonD_none, List.set_cons_zero, List.set_cons_succ])|((with_reducible show rdE _ (.var _) _ _); refine e_frz rfl ?_)|((with_reducible show rdE _ (.var _) _ _); refine e_own rfl ?_)|((with_reducible show rdE _ (.var _) _ _); refine e_io rfl ?_)|((with_reducible show rdE _ (.mv _) _ _); refine e_mv rfl ?_)|((with_reducible show rdE _ (.idxv _ _) _ _); refine e_idxv rfl ?_)|((with_reducible show rdE _ (.callio _ _ _) _ _); refine e_callio rfl ?_)))|((with_reducible show rdSs _ _ _ _); (first|(with_reducible refine r_cons ?_)|(with_reducible refine r_nil ?_)))|((with_reducible show rdS _ _ _ _); (first|(with_reducible refine r_asgF ?_)|(with_reducible refine r_asgT ?_)|(with_reducible refine r_ret ?_)|(with_reducible refine r_retN ?_)|(with_reducible refine r_expr ?_)|(with_reducible refine r_iff ?_)|(with_reducible refine r_brk ?_)|(with_reducible refine r_cont ?_)|(with_reducible refine r_pas ?_)|(with_reducible refine r_asgTs ?_)|((with_reducible show rdS _ (.setv _ _ _) _ _); refine r_setv rfl ?_)|((with_reducible show rdS _ (.mut _ _ _) _ _); refine r_mut ⟨_, rfl⟩ ?_)|((with_reducible show rdS _ (.dputT _ _ _) _ _); refine r_dputT rfl ?_)|((with_reducible show rdS _ (.aug _ _ _) _ _); refine r_aug rfl ?_)|(with_reducible refine r_par ?_)))|((with_reducible show rdEs _ _ _ _); (first|(with_reducible refine s_nil ?_)|(with_reducible refine s_cons ?_)))|((with_reducible show rdAnd _ _ _ _); (first|(with_reducible refine a_two ?_)|(with_reducible refine a_one ?_)))|((with_reducible show rdOr _ _ _ _); (first|(with_reducible refine o_two ?_)|(with_reducible refine o_one ?_)))|((with_reducible show rdI _ _ _ _); (first|(with_reducible refine w_lst ?_)|(with_reducible refine w_tup ?_)|(with_reducible refine w_rng1 ?_)|(with_reducible refine w_rng2 ?_)|(with_reducible refine w_enum ?_)|(with_reducible refine w_zip ?_)))|((with_reducible show rdC _ _ _ _); (first|(with_reducible refine c_nil ?_)|(with_reducible refine c_one ?_)))|((with_reducible show rdO _ _ _ _); (first|(with_reducible refine o_no ?_)|(with_reducible refine o_so ?_)))|((with_reducible show rdPs _ _ _ _ _); (first|(with_reducible refine r_psN ?_)|(with_reducible refine r_psF ?_)|(with_reducible refine r_psT ?_)|((with_reducible show rdPs _ _ (List.map _ _) _ _); simp only [List.map_cons, List.map_nil])))|((with_reducible show ∃ t, truthD _ = some t ∧ _); (first|(with_reducible refine r_tn ?_)|((with_reducible show ∃ t, truthD _ = some t ∧ _); simp only [isNonD_int, isNonD_bool, isNonD_str, isNonD_list, isNonD_tup, isNonD_none, Bool.not_true, Bool.not_false])|(with_reducible refine r_tT ?_)|(with_reducible refine r_tF ?_)|(with_reducible refine r_tbA (by assumption) ?_)|(with_reducible refine r_tbB (by assumption) ?_)|(with_reducible refine r_tb (fun hb => ?_) (fun hb => ?_))|((with_reducible refine r_not ?_); try simp only [Bool.not_true, Bool.not_false])))|((with_reducible show ∃ r, cmpD _ _ _ = some r ∧ _); (first|((first|(with_reducible refine g_ex (by assumption) ?_)) <;> try simp only [CA.fr_is_integer, CA.fr_need_size, CA.fr_is_cell, CA.fr_cells_fault, CA.fr_need_cells, CA.fr_row_fault, CA.fr_need_row, CA.fr_slots_fault, CA.fr_check_crossings, CA.fr_need_crossings, CA.fr_need_port, CA.fr_need_slot, CA.fr_need_number, CA.fr_need_rhythm, CA.fr__law_source, CA.fr__law_draw, CA.fr__law_lot, CA.fr__law_line, CA.fr__law_later, CR.fr_pairings_in, CR.fr_unsure, CR.fr__law_beat, fr__law_loads, fr_loads_of, fr_fits_rhythm, fr_keeps_rhythm, fr__law_told_right, fr__law_moves, fr__law_fitting, fr_law, reduceCtorEq, Bool.false_eq_true, if_false, if_true, kdOf_z, kdOf_t, kdOf_int, kdOf_bool, kdOf_str, kdOf_none, List.length_map, backD_wipe, Int.toNat_natCast, Int.reduceEq, Int.reduceLT, Int.reduceLE, decide_true, decide_false, Int.reduceSub, Int.reduceNeg, Int.reduceToNat, Int.reducePow, Int.reduceAdd, Int.reduceMul, Bool.not_true, Bool.not_false, isNonD_int, isNonD_bool, isNonD_str, isNonD_list, isNonD_tup, isNonD_none, List.set_cons_zero, List.set_cons_succ])|(with_reducible refine g_ex (ne_same _) ?_)|(with_reducible refine g_ex (eq_same _) ?_)|(with_reducible refine g_ex (ne_samei _) ?_)|(with_reducible refine g_ex (Shw.ne (by assumption)) ?_)|(with_reducible refine g_ex (Shw.eq (by assumption)) ?_)|(refine g_ex inn_ints ?_)|(refine g_ex (ne_nil _) ?_)|(with_reducible refine g_ex CA.nin_ints ?_)|(with_reducible refine g_ex (CA.ne_nilP _) ?_)|(with_reducible refine g_ex CA.inn_pairs2 ?_)|(with_reducible refine g_ex CA.nin_pairs2 ?_)|(refine g_ex (eq_nil _) ?_)|(refine g_ex (eq_ints _ _) ?_)|(refine g_ex (ne_ints _ _) ?_)|(refine g_ex rfl ?_)))|((with_reducible show ∃ t r, biD _ _ = some (t, r) ∧ _); (first|((first|(refine e_istE rfl ?_)|((with_reducible refine bi_F (by assumption) (Or.inl nz) ?_))|((with_reducible refine bi_F (sum_ints _) (Or.inl nz) ?_))|((with_reducible refine bi_F (sum_ints _) (Or.inl nt) ?_))|((with_reducible refine bi_T (biD_sorted _) (Or.inl nz) ?_))|((with_reducible show ∃ t r, biD .max [.list _] = some (t, r) ∧ _); refine bi_F (CA.biD_max _ _) (Or.inl nz) ?_)|((with_reducible show ∃ t r, biD .any [.list (List.map PyData.bool _)] = some (t, r) ∧ _); refine bi_F (CA.biD_any _) (.inr rfl) ?_)|((with_reducible refine bi_T (biD_sorted _) (Or.inl nt) ?_))|((with_reducible refine bi_F (Shw.repr (by assumption)) (Or.inl nz) ?_))|((with_reducible refine bi_F (Shw.repr (by assumption)) (Or.inl nt) ?_))|((with_reducible refine bi_F (Shw.repr (by assumption)) (.inr rfl) ?_))|(refine bi_F rfl (Or.inl nz) ?_)|(refine bi_F rfl (Or.inl nt) ?_)|(refine bi_F rfl (.inr rfl) ?_)) <;> try simp only [CA.fr_is_integer, CA.fr_need_size, CA.fr_is_cell, CA.fr_cells_fault, CA.fr_need_cells, CA.fr_row_fault, CA.fr_need_row, CA.fr_slots_fault, CA.fr_check_crossings, CA.fr_need_crossings, CA.fr_need_port, CA.fr_need_slot, CA.fr_need_number, CA.fr_need_rhythm, CA.fr__law_source, CA.fr__law_draw, CA.fr__law_lot, CA.fr__law_line, CA.fr__law_later, CR.fr_pairings_in, CR.fr_unsure, CR.fr__law_beat, fr__law_loads, fr_loads_of, fr_fits_rhythm, fr_keeps_rhythm, fr__law_told_right, fr__law_moves, fr__law_fitting, fr_law, reduceCtorEq, Bool.false_eq_true, if_false, if_true, kdOf_z, kdOf_t, kdOf_int, kdOf_bool, kdOf_str, kdOf_none, List.length_map, backD_wipe, Int.toNat_natCast, Int.reduceEq, Int.reduceLT, Int.reduceLE, decide_true, decide_false, Int.reduceSub, Int.reduceNeg, Int.reduceToNat, Int.reducePow, Int.reduceAdd, Int.reduceMul, Bool.not_true, Bool.not_false, isNonD_int, isNonD_bool, isNonD_str, isNonD_list, isNonD_tup, isNonD_none, List.set_cons_zero, List.set_cons_succ])))|((with_reducible show Exists _); (first|(with_reducible refine g_int ?_)|(with_reducible refine g_int2 ?_)|(with_reducible refine g_list ?_)|(with_reducible refine g_list2 ?_)|(with_reducible refine g_tup ?_)|((first|((with_reducible show ∃ t r, binD .add (.list _) (.list _) = some (t, r) ∧ _); refine b_cat3 (by constructor <;> (first|exact nz|exact nt)) (by simp [rangeD_length]; omega) ?_)|((with_reducible show ∃ t r, binD .mul (.list [.int _]) (.int _) = some (t, r) ∧ _); refine b_zeros (by omega) ?_)) <;> try simp only [CA.fr_is_integer, CA.fr_need_size, CA.fr_is_cell, CA.fr_cells_fault, CA.fr_need_cells, CA.fr_row_fault, CA.fr_need_row, CA.fr_slots_fault, CA.fr_check_crossings, CA.fr_need_crossings, CA.fr_need_port, CA.fr_need_slot, CA.fr_need_number, CA.fr_need_rhythm, CA.fr__law_source, CA.fr__law_draw, CA.fr__law_lot, CA.fr__law_line, CA.fr__law_later, CR.fr_pairings_in, CR.fr_unsure, CR.fr__law_beat, fr__law_loads, fr_loads_of, fr_fits_rhythm, fr_keeps_rhythm, fr__law_told_right, fr__law_moves, fr__law_fitting, fr_law, reduceCtorEq, Bool.false_eq_true, if_false, if_true, kdOf_z, kdOf_t, kdOf_int, kdOf_bool, kdOf_str, kdOf_none, List.length_map, backD_wipe, Int.toNat_natCast, Int.reduceEq, Int.reduceLT, Int.reduceLE, decide_true, decide_false, Int.reduceSub, Int.reduceNeg, Int.reduceToNat, Int.reducePow, Int.reduceAdd, Int.reduceMul, Bool.not_true, Bool.not_false, isNonD_int, isNonD_bool, isNonD_str, isNonD_list, isNonD_tup, isNonD_none, List.set_cons_zero, List.set_cons_succ])|((with_reducible show ∃ env2, tgD (.tp (.cons _ (.cons _ .nil))) _ _ = some env2 ∧ _); refine r_some (tg2_fz (by decide) rfl (by first|exact fz_un|exact fz_frz|assumption) rfl (by first|exact fz_un|exact fz_frz|assumption)) ?_)|(refine r_some rfl ?_)|(refine r_some (asg_fz rfl (by assumption)) ?_)|(refine r_some (asgt_fz rfl (by assumption)) ?_)|(refine r_some (asgo_ni rfl (by assumption)) ?_)|(refine r_augE rfl rfl ?_)|(refine r_put2 rfl rfl rfl ?_)|((first|(refine i_list rfl rfl ?_)|(refine i_list rfl (at_last (by assumption)) ?_)|(refine i_list rfl (at_last2 (by assumption)) ?_)|(refine i_list rfl (map_nat (by assumption) (by omega)) ?_)|(refine i_list rfl (atI_ints (by omega) (by omega)) ?_)|(refine i_list rfl (atI_ints ?_ ?_) ?_)|(refine i_tup rfl rfl ?_)|((with_reducible show ∃ r, idxD (.list [.int _, .int _]) (.int (DL.b2i _)) = some r ∧ _); refine CA.pick2 fun m hm => ?_)|((with_reducible show ∃ r, idxD (.list [.int _, .int _]) (.int _) = some r ∧ _); refine CA.pickI2 (by assumption) (by assumption) fun m hm => ?_)|((with_reducible show ∃ r, idxD (.list [.int _, .int _, .int _]) (.int _) = some r ∧ _); refine CA.pickI3 (by assumption) (by assumption) fun m hm => ?_)) <;> try simp only [CA.fr_is_integer, CA.fr_need_size, CA.fr_is_cell, CA.fr_cells_fault, CA.fr_need_cells, CA.fr_row_fault, CA.fr_need_row, CA.fr_slots_fault, CA.fr_check_crossings, CA.fr_need_crossings, CA.fr_need_port, CA.fr_need_slot, CA.fr_need_number, CA.fr_need_rhythm, CA.fr__law_source, CA.fr__law_draw, CA.fr__law_lot, CA.fr__law_line, CA.fr__law_later, CR.fr_pairings_in, CR.fr_unsure, CR.fr__law_beat, fr__law_loads, fr_loads_of, fr_fits_rhythm, fr_keeps_rhythm, fr__law_told_right, fr__law_moves, fr__law_fitting, fr_law, reduceCtorEq, Bool.false_eq_true, if_false, if_true, kdOf_z, kdOf_t, kdOf_int, kdOf_bool, kdOf_str, kdOf_none, List.length_map, backD_wipe, Int.toNat_natCast, Int.reduceEq, Int.reduceLT, Int.reduceLE, decide_true, decide_false, Int.reduceSub, Int.reduceNeg, Int.reduceToNat, Int.reducePow, Int.reduceAdd, Int.reduceMul, Bool.not_true, Bool.not_false, isNonD_int, isNonD_bool, isNonD_str, isNonD_list, isNonD_tup, isNonD_none, List.set_cons_zero, List.set_cons_succ])))|((with_reducible show _ ∧ _); (first|((with_reducible show (CA.Ph _ _).io = false ∧ _); (first|((with_reducible show (CA.Ph _ "is_integer").io = false ∧ _); first|(refine CA.st_isI_t rfl (by first|assumption|omega) (by first|assumption|omega) ?_)|(refine CA.st_isI2 rfl  ?_)|(refine CA.st_isI1 rfl  ?_)|(refine CA.st_isI0 rfl  ?_))|((with_reducible show (CA.Ph _ "need_size").io = false ∧ _); first|(refine CA.st_need_size rfl (by first|assumption|omega) (by first|assumption|omega) ?_))|((with_reducible show (CA.Ph _ "need_port").io = false ∧ _); first|(refine CA.st_need_port rfl (by first|assumption|omega) (by first|assumption|omega) ?_))|((with_reducible show (CA.Ph _ "need_slot").io = false ∧ _); first|(refine CA.st_need_slot rfl (by first|assumption|omega) (by first|assumption|omega) ?_))|((with_reducible show (CA.Ph _ "need_number").io = false ∧ _); first|(refine CA.st_need_number2 rfl (by first|assumption|omega) (by first|assumption|omega) ?_)|(refine CA.st_need_number1 rfl (by first|assumption|omega) ?_))|((with_reducible show (CA.Ph _ "cells_fault").io = false ∧ _); first|(refine CA.st_cells_fault rfl (by first|assumption|omega) ?_))|((with_reducible show (CA.Ph _ "need_cells").io = false ∧ _); first|(refine CA.st_need_cells rfl (by first|assumption|omega) (by first|assumption|omega) (by first|assumption|omega) ?_))|((with_reducible show (CA.Ph _ "row_fault").io = false ∧ _); first|(refine CA.st_row_fault rfl (by first|assumption|omega) (by first|assumption|omega) (by first|assumption|omega) ?_))|((with_reducible show (CA.Ph _ "need_row").io = false ∧ _); first|(refine CA.st_need_row rfl (by first|assumption|omega) (by first|assumption|omega) (by first|assumption|omega) (by first|assumption|omega) ?_))|((with_reducible show (CA.Ph _ "slots_fault").io = false ∧ _); first|(refine CA.st_slots_fault rfl (by first|assumption|omega) (by first|assumption|omega) ?_))|((with_reducible show (CA.Ph _ "check_crossings").io = false ∧ _); first|(refine CA.st_check_crossings rfl (by first|assumption|omega) (by first|assumption|omega) ?_))|((with_reducible show (CA.Ph _ "need_crossings").io = false ∧ _); first|(refine CA.st_need_crossings rfl (by first|assumption|omega) (by first|assumption|omega) (by first|assumption|omega) (by first|assumption|omega) ?_))|((with_reducible show (CA.Ph _ "need_rhythm").io = false ∧ _); first|(refine CA.st_need_rhythm rfl (by first|assumption|omega) ?_))|((with_reducible show (CA.Ph _ "_law_later").io = false ∧ _); first|(refine CA.st__law_later rfl (by first|assumption|omega) (by first|assumption|omega) ?_))|((with_reducible show (CA.Ph _ "pairings_in").io = false ∧ _); first|(refine CR.st_pairings_in rfl (by first|assumption|omega) (by first|assumption|omega) (by first|assumption|omega) (by first|assumption|omega) ?_))|((with_reducible show (CA.Ph _ "unsure").io = false ∧ _); first|(refine CR.st_unsure rfl (by first|assumption|omega) (by first|assumption|omega) (by first|assumption|omega) (by first|assumption|omega) (by first|assumption|omega) ?_))|((with_reducible show (CA.Ph _ "cells_to").io = false ∧ _); first|(refine CB.st_cells_to rfl (by first|assumption|omega) ?_))|((with_reducible show (CA.Ph _ "sending_slots").io = false ∧ _); first|(refine CB.st_sending_slots rfl (by first|assumption|omega) ?_))|((with_reducible show (CA.Ph _ "outlets_of").io = false ∧ _); first|(refine CB.st_outlets_of rfl (by first|assumption|omega) (by first|assumption|omega) ?_))|((with_reducible show (CA.Ph _ "is_busy_row").io = false ∧ _); first|(refine CB.st_is_busy_row rfl (by first|assumption|omega) (by first|assumption|omega) (by first|assumption|omega) (by first|assumption|omega) ?_))|((with_reducible show (CA.Ph _ "need_busy").io = false ∧ _); first|(refine CB.st_need_busy rfl (by first|assumption|omega) (by first|assumption|omega) (by first|assumption|omega) (by first|assumption|omega) (by first|assumption|omega) ?_))|((with_reducible show (CA.Ph _ "own_slots").io = false ∧ _); first|(refine CB.st_own_slots rfl (by first|assumption|omega) ?_))|((with_reducible show (CA.Ph _ "first_row").io = false ∧ _); first|(refine CB.st_first_row rfl (by first|assumption|omega) (by first|assumption|omega) (by first|assumption|omega) (by first|assumption|omega) ?_))|((with_reducible show (CA.Ph _ "_law_there").io = false ∧ _); first|(refine CB.st__law_there rfl (by first|assumption|omega) (by first|assumption|omega) (by first|assumption|omega) (by first|assumption|omega) ?_)|(refine CP.st__law_there rfl (by first|assumption|omega) (by first|assumption|omega) (by first|assumption|omega) (by first|assumption|omega) ?_))|((with_reducible show (CA.Ph _ "cells_from").io = false ∧ _); first|(refine CP.st_cells_from rfl (by first|assumption|omega) ?_))|((with_reducible show (CA.Ph _ "first_unpressed").io = false ∧ _); first|(refine CP.st_first_unpressed rfl (by first|assumption|omega) (by first|assumption|omega) (by first|assumption|omega) (by first|assumption|omega) ?_))|((with_reducible show (CA.Ph _ "is_pressed").io = false ∧ _); first|(refine CP.st_is_pressed rfl (by first|assumption|omega) (by first|assumption|omega) (by first|assumption|omega) (by first|assumption|omega) (by first|assumption|omega) ?_))|((with_reducible show (CA.Ph _ "choices_of").io = false ∧ _); first|(refine CC.st_choices_of rfl (by first|assumption|omega) (by first|assumption|omega) (by first|assumption|omega) ?_))|((with_reducible show (CA.Ph _ "product_of").io = false ∧ _); first|(refine CC.st_product_of rfl (by first|assumption|omega) (by first|assumption|omega) ?_))|((with_reducible show (CA.Ph _ "served_count").io = false ∧ _); first|(refine CC.st_served_count rfl (by first|assumption|omega) (by first|assumption|omega) (by first|assumption|omega) (by first|assumption|omega) ?_))|((with_reducible show (CA.Ph _ "_law_all_busy").io = false ∧ _); first|(refine CL.st__law_all_busy rfl (by first|assumption|omega) (by first|assumption|omega) (by first|assumption|omega) ?_))|((with_reducible show (CA.Ph _ "_law_is_served").io = false ∧ _); first|(refine CL.st__law_is_served rfl (by first|assumption|omega) (by first|assumption|omega) ?_))|((with_reducible show (CA.Ph _ "row_with").io = false ∧ _); first|(refine CW.st_row_with rfl (by first|assumption|omega) (by first|assumption|omega) (by first|assumption|omega) (by first|assumption|omega) (by first|assumption|omega) ?_))|((with_reducible show (CA.Ph _ "index_with").io = false ∧ _); first|(refine CW.st_index_with rfl (by first|assumption|omega) (by first|assumption|omega) (by first|assumption|omega) (by first|assumption|omega) (by first|assumption|omega) ?_))|((with_reducible show (CA.Ph _ "need_long").io = false ∧ _); first|(refine CN.st_need_long rfl (by first|assumption|omega) (by first|assumption|omega) (by first|assumption|omega) (by first|assumption|omega) (by first|assumption|omega) ?_))|((with_reducible show (CA.Ph _ "narrow_slot").io = false ∧ _); first|(refine CN.st_narrow_slot rfl (by first|assumption|omega) ?_))|((with_reducible show (CA.Ph _ "has_windows").io = false ∧ _); first|(refine CN.st_has_windows rfl (by first|assumption|omega) (by first|assumption|omega) ?_))|((with_reducible show (CA.Ph _ "rhythm_word").io = false ∧ _); first|(refine CN.st_rhythm_word rfl (by first|assumption|omega) (by first|assumption|omega) (by first|assumption|omega) (by first|assumption|omega) (by first|assumption|omega) ?_))|((with_reducible show (CA.Ph _ "_law_loads").io = false ∧ _); first|(refine K13.st__law_loads rfl (by first|assumption|omega) (by first|assumption|omega) (by first|assumption|omega) ?_))|((with_reducible show (CA.Ph _ "loads_of").io = false ∧ _); first|(refine K13.st_loads_of rfl (by first|assumption|omega) (by first|assumption|omega) (by first|assumption|omega) ?_))|((with_reducible show (CA.Ph _ "fits_rhythm").io = false ∧ _); first|(refine K13.st_fits_rhythm rfl (by first|assumption|omega) (by first|assumption|omega) (by first|assumption|omega) ?_))|((with_reducible show (CA.Ph _ "keeps_rhythm").io = false ∧ _); first|(refine K13.st_keeps_rhythm rfl (by first|assumption|omega) (by first|assumption|omega) (by first|assumption|omega) (by first|assumption|omega) (by first|assumption|omega) ?_))|((with_reducible show (CA.Ph _ "_law_told_right").io = false ∧ _); first|(refine K13.st__law_told_right rfl (by first|assumption|omega) (by first|assumption|omega) (by first|assumption|omega) (by first|assumption|omega) (by first|assumption|omega) (by first|assumption|omega) ?_))|((with_reducible show (CA.Ph _ "law").io = false ∧ _); first|(refine K13.st_law rfl (by first|assumption|omega) ?_))))|((with_reducible show (False → _) ∧ ∃ ds ds' env2, ownD _ _ = some (.list ds) ∧ mutD .append ds _ = some ds' ∧ _); refine r_app4 rfl (by simp; omega) rfl ?_)|((with_reducible show (False → _) ∧ ∃ ds ds' env2, ownD _ _ = some (.list ds) ∧ mutD .append ds _ = some ds' ∧ _); refine r_app4 rfl ?_ rfl ?_)|((first|(with_reducible refine c_lt ?_)|(with_reducible refine c_le ?_)|(with_reducible refine c_gt ?_)|(with_reducible refine c_ge ?_)|(with_reducible refine c_eq ?_)|(with_reducible refine c_ne ?_)|(with_reducible refine b_add ?_)|(with_reducible refine b_sub ?_)|(refine g_rng (by unfold okRng; omega) ?_)|((with_reducible show (Kd.z ≠ _ ∨ _) ∧ ∃ t r, binD _ (.int _) (.int _) = some (t, r) ∧ _); refine b_mul (log_small (by omega) (by omega)) ?_)|((with_reducible show (Kd.z ≠ _ ∨ _) ∧ ∃ t r, binD _ (.int _) (.int _) = some (t, r) ∧ _); refine b_mul (log_mid (by omega) (by omega) (by omega) (by omega)) ?_)|((with_reducible show (Kd.z ≠ _ ∨ _) ∧ ∃ t r, binD _ (.int _) (.int _) = some (t, r) ∧ _); refine b_mod (by omega) ?_)|((with_reducible show (Kd.z ≠ _ ∨ _) ∧ ∃ t r, binD _ (.int _) (.int _) = some (t, r) ∧ _); refine b_div (div_c (by omega) (by omega)) ?_)|((with_reducible show (Kd.z ≠ _ ∨ _) ∧ ∃ t r, binD _ (.int _) (.int _) = some (t, r) ∧ _); refine b_div ⟨by omega, by decide⟩ ?_)|((with_reducible show (Kd.z ≠ _ ∨ _) ∧ ∃ t r, binD _ (.int _) (.int _) = some (t, r) ∧ _); refine b_div (div_m (by omega) (by omega)) ?_)|((with_reducible show (Kd.z ≠ _ ∨ _) ∧ ∃ t r, binD _ (.int _) (.int _) = some (t, r) ∧ _); refine b_pow (by decide) ?_)|((with_reducible show (Kd.z ≠ _ ∨ _) ∧ ∃ t r, binD _ (.int _) (.int _) = some (t, r) ∧ _); refine b_pow (pow_mid (by omega) (by omega) (by omega) (by omega)) ?_)|((with_reducible refine b_mul ?_ ?_))|((with_reducible refine b_mod ?_ ?_))|((with_reducible refine b_div ?_ ?_))|((with_reducible refine b_pow ?_ ?_))|((with_reducible refine g_rng ?_ ?_))) <;> try simp only [CA.fr_is_integer, CA.fr_need_size, CA.fr_is_cell, CA.fr_cells_fault, CA.fr_need_cells, CA.fr_row_fault, CA.fr_need_row, CA.fr_slots_fault, CA.fr_check_crossings, CA.fr_need_crossings, CA.fr_need_port, CA.fr_need_slot, CA.fr_need_number, CA.fr_need_rhythm, CA.fr__law_source, CA.fr__law_draw, CA.fr__law_lot, CA.fr__law_line, CA.fr__law_later, CR.fr_pairings_in, CR.fr_unsure, CR.fr__law_beat, fr__law_loads, fr_loads_of, fr_fits_rhythm, fr_keeps_rhythm, fr__law_told_right, fr__law_moves, fr__law_fitting, fr_law, reduceCtorEq, Bool.false_eq_true, if_false, if_true, kdOf_z, kdOf_t, kdOf_int, kdOf_bool, kdOf_str, kdOf_none, List.length_map, backD_wipe, Int.toNat_natCast, Int.reduceEq, Int.reduceLT, Int.reduceLE, decide_true, decide_false, Int.reduceSub, Int.reduceNeg, Int.reduceToNat, Int.reducePow, Int.reduceAdd, Int.reduceMul, Bool.not_true, Bool.not_false, isNonD_int, isNonD_bool, isNonD_str, isNonD_list, isNonD_tup, isNonD_none, List.set_cons_zero, List.set_cons_succ])|(refine e_chainE rfl (fun hb => ?_) (fun hb => ?_))|(with_reducible refine g_true ?_)|((first|(refine e_idxE (Or.inl nt) rfl ?_)|(refine e_idxE (Or.inl nz) rfl ?_)|(refine g_len (Nat.le_of_ble_eq_true rfl) ?_)|(with_reducible refine g_nbz ?_)|(with_reducible refine g_nbt ?_)|(with_reducible refine g_oz ?_)|(with_reducible refine g_ot ?_)|(with_reducible refine g_eqt ?_)|((with_reducible show (_ ∨ _ = true ∧ _ = true) ∧ _); refine And.intro (.inr ⟨rfl, rfl⟩) ?_)|((with_reducible show (_ ∨ flats (List.map PyData.int _) = true) ∧ _); refine And.intro (.inr (flats_ints _)) ?_)|(refine g_pur rfl ?_)) <;> try simp only [CA.fr_is_integer, CA.fr_need_size, CA.fr_is_cell, CA.fr_cells_fault, CA.fr_need_cells, CA.fr_row_fault, CA.fr_need_row, CA.fr_slots_fault, CA.fr_check_crossings, CA.fr_need_crossings, CA.fr_need_port, CA.fr_need_slot, CA.fr_need_number, CA.fr_need_rhythm, CA.fr__law_source, CA.fr__law_draw, CA.fr__law_lot, CA.fr__law_line, CA.fr__law_later, CR.fr_pairings_in, CR.fr_unsure, CR.fr__law_beat, fr__law_loads, fr_loads_of, fr_fits_rhythm, fr_keeps_rhythm, fr__law_told_right, fr__law_moves, fr__law_fitting, fr_law, reduceCtorEq, Bool.false_eq_true, if_false, if_true, kdOf_z, kdOf_t, kdOf_int, kdOf_bool, kdOf_str, kdOf_none, List.length_map, backD_wipe, Int.toNat_natCast, Int.reduceEq, Int.reduceLT, Int.reduceLE, decide_true, decide_false, Int.reduceSub, Int.reduceNeg, Int.reduceToNat, Int.reducePow, Int.reduceAdd, Int.reduceMul, Bool.not_true, Bool.not_false, isNonD_int, isNonD_bool, isNonD_str, isNonD_list, isNonD_tup, isNonD_none, List.set_cons_zero, List.set_cons_succ])|((with_reducible show _ ≤ 1000000 ∧ _); refine And.intro (by omega) ?_)|((with_reducible show _ ≤ 100000 ∧ _); refine And.intro (by (try simp); omega) ?_)|((first|((with_reducible show (CA.Ph _ "_law_draw").io = true ∧ _); refine CA.draw_step rfl (by assumption) ⟨by assumption, by assumption⟩ (by omega) (by omega) (by omega) (by omega) fun a c r ha hc hc' hr hr' => ⟨_, rfl, ?_⟩)|((with_reducible show (CA.Ph _ "_law_lot").io = true ∧ _); refine CA.lot_step rfl (by assumption) ⟨by assumption, by assumption⟩ (by omega) (by omega) (by omega) (by omega) (by omega) (by omega) fun a c lot ha hc hc' hlot hlt => ⟨_, rfl, ?_⟩)|((with_reducible show (CA.Ph _ "_law_line").io = true ∧ _); refine CA.line_step 30 rfl (by assumption) ⟨by assumption, by assumption⟩ (by omega) (by omega) (by assumption) (by omega) (fun x hx => by have := hlt x hx; omega) (by omega) (by omega) (by omega) (by omega) fun a c line ha hc hc' hrow hlow hbusy hfifo hlifo => ⟨_, rfl, ?_⟩)|((with_reducible show (CA.Ph _ "_law_beat").io = true ∧ _); refine CR.io__law_beat rfl rfl (by assumption) (by assumption) (by assumption) (by omega) (by omega) (by omega) (by omega) fun a c beat ha hc hc' hbeat hbl hbt hbs => ⟨_, rfl, ?_⟩)) <;> try simp only [CA.fr_is_integer, CA.fr_need_size, CA.fr_is_cell, CA.fr_cells_fault, CA.fr_need_cells, CA.fr_row_fault, CA.fr_need_row, CA.fr_slots_fault, CA.fr_check_crossings, CA.fr_need_crossings, CA.fr_need_port, CA.fr_need_slot, CA.fr_need_number, CA.fr_need_rhythm, CA.fr__law_source, CA.fr__law_draw, CA.fr__law_lot, CA.fr__law_line, CA.fr__law_later, CR.fr_pairings_in, CR.fr_unsure, CR.fr__law_beat, fr__law_loads, fr_loads_of, fr_fits_rhythm, fr_keeps_rhythm, fr__law_told_right, fr__law_moves, fr__law_fitting, fr_law, reduceCtorEq, Bool.false_eq_true, if_false, if_true, kdOf_z, kdOf_t, kdOf_int, kdOf_bool, kdOf_str, kdOf_none, List.length_map, backD_wipe, Int.toNat_natCast, Int.reduceEq, Int.reduceLT, Int.reduceLE, decide_true, decide_false, Int.reduceSub, Int.reduceNeg, Int.reduceToNat, Int.reducePow, Int.reduceAdd, Int.reduceMul, Bool.not_true, Bool.not_false, isNonD_int, isNonD_bool, isNonD_str, isNonD_list, isNonD_tup, isNonD_none, List.set_cons_zero, List.set_cons_succ])|((with_reducible show _ = _ ∧ (CA.Ph _ _).io = false ∧ _); refine And.intro rfl ?_; simp only [DL.pick, List.filterMap_cons, List.filterMap_nil, List.getElem?_cons_zero, List.getElem?_cons_succ])))|(with_reducible refine g_ifT ?_)|(with_reducible refine g_ifF ?_)|(with_reducible refine g_if (fun hb => ?_) (fun hb => ?_)))))
local macro_rules | `(tactic| nofun) => `(tactic| try simp only [CA.fr_is_integer, CA.fr_need_size, CA.fr_is_cell, CA.fr_cells_fault, CA.fr_need_cells, CA.fr_row_fault, CA.fr_need_row, CA.fr_slots_fault, CA.fr_check_crossings, CA.fr_need_crossings, CA.fr_need_port, CA.fr_need_slot, CA.fr_need_number, CA.fr_need_rhythm, CA.fr__law_source, CA.fr__law_draw, CA.fr__law_lot, CA.fr__law_line, CA.fr__law_later, CR.fr_pairings_in, CR.fr_unsure, CR.fr__law_beat, fr__law_loads, fr_loads_of, fr_fits_rhythm, fr_keeps_rhythm, fr__law_told_right, fr__law_moves, fr__law_fitting, fr_law, reduceCtorEq, Bool.false_eq_true, if_false, if_true, kdOf_z, kdOf_t, kdOf_int, kdOf_bool, kdOf_str, kdOf_none, List.length_map, backD_wipe, Int.toNat_natCast, Int.reduceEq, Int.reduceLT, Int.reduceLE, decide_true, decide_false, Int.reduceSub, Int.reduceNeg, Int.reduceToNat, Int.reducePow, Int.reduceAdd, Int.reduceMul, Bool.not_true, Bool.not_false, isNonD_int, isNonD_bool, isNonD_str, isNonD_list, isNonD_tup, isNonD_none, List.set_cons_zero, List.set_cons_succ])
/-- crossing slots so far -/
structure Mv (lot : List Cell) (mv : List Int) (j : Nat) : Prop where
  len : mv.length = j
  low : ∀ (i : Nat) (c : Cell), i < j → lot[i]? = some c → c.1 ≤ mv.getD i 0
  high : ∀ e ∈ mv, e < 10 ^ 31
theorem mv_nil (lot : List Cell) : Mv lot [] 0 := ⟨rfl, fun i c h => absurd h (Nat.not_lt_zero i), nofun⟩
theorem mv_snoc {lot : List Cell} {mv : List Int} {j : Nat} {c : Cell} {e : Int} (M : Mv lot mv j) (hc : lot[j]? = some c) (h0 : c.1 ≤ e) (h1 : e < 10 ^ 31) : Mv lot (mv ++ [e]) (j + 1) := by
  have hl := M.len
  refine ⟨by simp [hl], fun i d hi hd => ?_, fun x hx => ?_⟩
  · by_cases q : i < j
    · rw [List.getD_eq_getElem?_getD, List.getElem?_append_left (by omega), ← List.getD_eq_getElem?_getD]
      exact M.low i d q hd
    · have : i = j := by omega
      subst this
      rw [hc] at hd
      cases hd
      rw [List.getD_eq_getElem?_getD, ← hl, List.getElem?_concat_length]
      exact h0
  · rcases List.mem_append.mp hx with z | z
    · exact M.high x z
    · rw [List.mem_singleton.mp z]; exact h1
theorem pickI4 {x y z u i : Int} {P : D → Prop} (h0 : 0 ≤ i) (h1 : i < 4) (h : ∀ m : Int, (m = x ∨ m = y ∨ m = z ∨ m = u) → P (.int m)) : ∃ r, idxD (.list [.int x, .int y, .int z, .int u]) (.int i) = some r ∧ P r := by
  have : i = 0 ∨ i = 1 ∨ i = 2 ∨ i = 3 := by omega
  rcases this with rfl | rfl | rfl | rfl
  · exact ⟨.int x, rfl, h x (.inl rfl)⟩
  · exact ⟨.int y, rfl, h y (.inr (.inl rfl))⟩
  · exact ⟨.int z, rfl, h z (.inr (.inr (.inl rfl)))⟩
  · exact ⟨.int u, rfl, h u (.inr (.inr (.inr rfl)))⟩
theorem law__law_moves : ∀ ds post, F__law_moves.sp ds post → ds.length = g__law_moves.ps.length ∧ rdSs Ph b__law_moves (env0 F__law_moves.io N__law_moves.length ds) (fnEnds F__law_moves post) := by
  rintro ds post ⟨a0, b, c0, n, lot, line, w, rfl, ha0, hb0, hb1, hc0, hc1, Lo, R, hw0, hw1, hp⟩
  have few := Lo.few
  have hle := R.len
  refine ⟨rfl, ?_⟩
  show rdSs Ph b__law_moves [.io (.list [.int a0, .int b, .int c0]), .frz (dL lot), .frz (dI line), .frz (.int w), .un, .un, .un, .un, .un] _
  unfold b__law_moves
  and_intros
  refine r_for ?_
  and_intros
  have elen : (lot.zip line).length = lot.length := by simp [hle]
  refine for_inv (lot.zip line) (fun p => .tuple [dC p.1, .int p.2]) (fun j env => ∃ (a2 c2 : Int) (mv : List Int), 0 ≤ a2 ∧ c0 ≤ c2 ∧ c2 ≤ c0 + 2 * j ∧ Mv lot mv j ∧ env = [.io (src a2 b c2), .frz (dL lot), .frz (dI line), .frz (.int w), .own (dI mv), .un, .un, .un, .un]) zip_eq ?_ ?_ ?_ (by simp)
  · exact ⟨a0, c0, [], ha0, by omega, by omega, mv_nil _, rfl⟩
  · rintro j ⟨⟨x, p, g⟩, e⟩ env hj ⟨a2, c2, mv, ha2, hc2, hc2', M, rfl⟩
    rw [List.getElem?_zip_eq_some] at hj
    obtain ⟨hc, he⟩ := hj
    have hcell : lot[j]? = some (x, p, g) := hc
    have hjl := at_lt hc
    refine ⟨_, tg2_fz (by decide) rfl fz_un rfl fz_un, ?_⟩
    have lo := R.low j _ hc
    rw [getD_some he] at lo
    simp only at lo
    have x0 := Lo.at0 _ (List.mem_of_getElem? hc)
    have x1 := Lo.at1 _ (List.mem_of_getElem? hc)
    simp only at x0 x1
    have hi := R.high e (List.mem_of_getElem? he)
    have hz : sizeLine > 1000 := by decide
    have ml := M.len
    and_intros
    refine ⟨_, _, rfl, pickI4 hw0 (by omega) fun m hm => ?_⟩
    and_intros
    refine ⟨a, c, mv ++ [m], ha, by omega, by omega, mv_snoc M hcell ?_ ?_, ?_⟩
    · show x ≤ m
      omega
    · omega
    · show wipeF _ _ = _
      simp only [dI, List.map_append, List.map_cons, List.map_nil]
      rfl
  · rintro env ⟨a2, c2, mv, ha2, hc2, hc2', M, rfl⟩
    rw [elen] at hc2' M
    and_intros
    exact ⟨rfl, src a2 b c2, fun _ => ⟨[a2, b, c2], rfl, rfl⟩, hp a2 c2 mv ha2 (by omega) (by omega) ⟨M.len, fun i c h => M.low i c (at_lt h) h, M.high⟩⟩
theorem law__law_fitting : ∀ ds post, F__law_fitting.sp ds post → ds.length = g__law_fitting.ps.length ∧ rdSs Ph b__law_fitting (env0 F__law_fitting.io N__law_fitting.length ds) (fnEnds F__law_fitting post) := by
  rintro ds post ⟨a0, b, c0, lot, mv, rfl, ha0, hb0, hb1, hc0, hc1, few, hl, hp⟩
  refine ⟨rfl, ?_⟩
  show rdSs Ph b__law_fitting [.io (.list [.int a0, .int b, .int c0]), .frz (dL lot), .frz (dI mv), .un, .un, .un, .un, .un, .un] _
  unfold b__law_fitting
  refine r_cons (r_join (fun e => ∃ (a1 c1 : Int) (m : Nat), 0 ≤ a1 ∧ c0 ≤ c1 ∧ c1 ≤ c0 + 1 ∧ 1 ≤ m ∧ m ≤ 20 ∧ e = [.io (src a1 b c1), .frz (dL lot), .frz (dI mv), .frz (.int (m : Nat)), .un, .un, .un, .un, .un]) ?_ ?_)
  · intro nx hnx
    and_intros
    exact hnx _ ⟨a, c, (1 + r).toNat, ha, by omega, by omega, by omega, by omega, by rw [Int.toNat_of_nonneg (by omega)]; rfl⟩
  rintro e ⟨a1, c1, m, ha1, hc1, hc1', m1, m20, rfl⟩
  show rdSs _ _ _ _
  and_intros
  refine r_for ?_
  and_intros
  refine for_inv [(1 : Int), 2] .int (fun j env => ∃ bt : List Int, bt.length = m ∧ (∀ x ∈ bt, 0 ≤ x ∧ x ≤ 9) ∧ env = [.io (src a1 b c1), .frz (dL lot), .frz (dI mv), .frz (.int (m : Nat)), .own (dI bt), .un, .un, .un, .un]) rfl ?_ ?_ ?_ rfl
  · exact ⟨List.replicate m 0, List.length_replicate, fun x hx => by rw [List.eq_of_mem_replicate hx]; decide, rfl⟩
  · rintro j s env hj ⟨bt, bl, bd, rfl⟩
    have hs : s = 1 ∨ s = 2 := by simpa using List.mem_of_getElem? hj
    refine ⟨_, tg_fz rfl fz_un, ?_⟩
    refine r_cons (r_ford ?_)
    and_intros
    refine ⟨ld lot mv s, rfl, fun i env => ∃ bt : List Int, bt.length = m ∧ (∀ x ∈ bt, 0 ≤ x ∧ x ≤ 9) ∧ env = [.io (src a1 b c1), .frz (dL lot), .frz (dI mv), .frz (.int (m : Nat)), .own (dI bt), .frz (.int s), .un, .un, .un], ⟨bt, bl, bd, rfl⟩, ?_, ?_⟩
    · rintro i env ⟨⟨x, y⟩, q⟩ hi ⟨bt, bl, bd, rfl⟩
      refine ⟨_, rfl, ?_⟩
      have m0 := Int.emod_nonneg x (show (m : Int) ≠ 0 by omega)
      have m1 := Int.emod_lt_of_pos x (show (0 : Int) < (m : Int) by omega)
      have hg := bd _ (getD_mem (ns := bt) (i := (x % (m : Int)).toNat) (by omega))
      and_intros
      refine r_put2 rfl (ixN_ok m0 (by rw [List.length_map, bl]; exact m1)) rfl ?_
      rw [← List.map_set]
      generalize bt.getD (x % (m : Int)).toNat 0 = g at hg
      refine ⟨_, by rw [List.length_set]; exact bl, fun z hz => ?_, rfl⟩
      rcases List.mem_or_eq_of_mem_set hz with h | h
      · exact bd z h
      · rw [h]
        constructor <;> (repeat' split) <;> omega
    · rintro env ⟨bt, bl, bd, rfl⟩
      and_intros
      exact ⟨bt, bl, bd, rfl⟩
  · rintro env ⟨bt, bl, bd, rfl⟩
    and_intros
    rename_i a9 c9 r1 ha9 hc9 hc9' hr9 hr9'
    have hg := bd _ (getD_mem (ns := bt) (i := r1.toNat) (by omega))
    refine r_put2 rfl (ixN_ok hr9 (by rw [List.length_map, bl]; exact hr9')) rfl ?_
    rw [← List.map_set]
    generalize bt.getD r1.toNat 0 = g at hg
    and_intros
    refine ⟨rfl, src a b c, fun _ => ⟨[a, b, c], rfl, rfl⟩, hp a c _ ha (by omega) (by omega) ⟨by rw [List.length_set]; omega, by rw [List.length_set]; omega, fun z hz => ?_⟩ (by rw [List.length_set]; omega)⟩
    rcases List.mem_or_eq_of_mem_set hz with h | h
    · exact bd z h
    · rw [h]
      constructor <;> (repeat' split) <;> omega
end K13

namespace K13
open PySem PySem.Spec PyProof.Rows L2 DL CA CR
set_option hygiene false
local macro_rules | `(tactic| and_intros) => `(tactic| (repeat' (first|((with_reducible show rdE _ _ _ _); (first|(with_reducible refine e_int ?_)|(with_reducible refine e_bl ?_)|(with_reducible refine e_non ?_)|(with_reducible refine e_str ?_)|(with_reducible refine e_gi ?_)|(with_reducible refine e_tup ?_)|(with_reducible refine e_lst ?_)|(with_reducible refine e_bin ?_)|(with_reducible refine e_neg ?_)|(with_reducible refine e_cmp ?_)|(with_reducible refine e_chain ?_)|(with_reducible refine e_not ?_)|(with_reducible refine e_ands ?_)|(with_reducible refine e_ors ?_)|(with_reducible refine e_ife ?_)|(with_reducible refine e_idx ?_)|(with_reducible refine e_call ?_)|(with_reducible refine e_callk ?_)|(with_reducible refine e_bi ?_)|(with_reducible refine e_ist ?_)|(with_reducible refine e_lrng1 ?_)|(with_reducible refine e_lrng2 ?_)|(with_reducible refine e_sset ?_)|(with_reducible refine e_dnewT ?_)|(with_reducible refine e_dinT ?_)|(with_reducible refine e_rev ?_)|(with_reducible refine e_cat ?_)|(with_reducible refine e_cat2 ?_)|(with_reducible refine e_mt ?_)|(with_reducible refine e_sl ?_)|((first|(with_reducible refine e_isN ?_)|(with_reducible refine e_notN ?_)) <;> try simp only [CA.fr_is_integer, CA.fr_need_size, CA.fr_is_cell, CA.fr_cells_fault, CA.fr_need_cells, CA.fr_row_fault, CA.fr_need_row, CA.fr_slots_fault, CA.fr_check_crossings, CA.fr_need_crossings, CA.fr_need_port, CA.fr_need_slot, CA.fr_need_number, CA.fr_need_rhythm, CA.fr__law_source, CA.fr__law_draw, CA.fr__law_lot, CA.fr__law_line, CA.fr__law_later, CR.fr_pairings_in, CR.fr_unsure, CR.fr__law_beat, fr__law_loads, fr_loads_of, fr_fits_rhythm, fr_keeps_rhythm, fr__law_told_right, fr__law_moves, fr__law_fitting, fr_law, reduceCtorEq, Bool.false_eq_true, if_false, if_true, kdOf_z, kdOf_t, kdOf_int, kdOf_bool, kdOf_str, kdOf_none, List.length_map, backD_wipe, Int.toNat_natCast, Int.reduceEq, Int.reduceLT, Int.reduceLE, decide_true, decide_false, Int.reduceSub, Int.reduceNeg, Int.reduceToNat, Int.reducePow, Int.reduceAdd, Int.reduceMul, Bool.not_true, Bool.not_false, isNonD_int, isNonD_bool, isNonD_str, isNonD_list, isNonD_tup, isNonD_none, List.set_cons_zero, List.set_cons_succ])|((with_reducible show rdE _ (.var _) _ _); refine e_frz rfl ?_)|((with_reducible show rdE _ (.var _) _ _); refine e_own rfl ?_)|((with_reducible show rdE _ (.var _) _ _); refine e_io rfl ?_)|((with_reducible show rdE _ (.mv _) _ _); refine e_mv rfl ?_)|((with_reducible show rdE _ (.idxv _ _) _ _); refine e_idxv rfl ?_)|((with_reducible show rdE _ (.callio _ _ _) _ _); refine e_callio rfl ?_)))|((with_reducible show rdSs _ _ _ _); (first|(with_reducible refine r_cons ?_)|(with_reducible refine r_nil ?_)))|((with_reducible show rdS _ _ _ _); (first|(with_reducible refine r_asgF ?_)|(with_reducible refine r_asgT ?_)|(with_reducible refine r_ret ?_)|(with_reducible refine r_retN ?_)|(with_reducible refine r_expr ?_)|(with_reducible refine r_iff ?_)|(with_reducible refine r_brk ?_)|(with_reducible refine r_cont ?_)|(with_reducible refine r_pas ?_)|(with_reducible refine r_asgTs ?_)|((with_reducible show rdS _ (.setv _ _ _) _ _); refine r_setv rfl ?_)|((with_reducible show rdS _ (.mut _ _ _) _ _); refine r_mut ⟨_, rfl⟩ ?_)|((with_reducible show rdS _ (.dputT _ _ _) _ _); refine r_dputT rfl ?_)|((with_reducible show rdS _ (.aug _ _ _) _ _); refine r_aug rfl ?_)|(with_reducible refine r_par ?_)))|((with_reducible show rdEs _ _ _ _); (first|(with_reducible refine s_nil ?_)|(with_reducible refine s_cons ?_)))|((with_reducible show rdAnd _ _ _ _); (first|(with_reducible refine a_two ?_)|(with_reducible refine a_one ?_)))|((with_reducible show rdOr _ _ _ _); (first|(with_reducible refine o_two ?_)|(with_reducible refine o_one ?_)))|((with_reducible show rdI _ _ _ _); (first|(with_reducible refine w_lst ?_)|(with_reducible refine w_tup ?_)|(with_reducible refine w_rng1 ?_)|(with_reducible refine w_rng2 ?_)|(with_reducible refine w_enum ?_)|(with_reducible refine w_zip ?_)))|((with_reducible show rdC _ _ _ _); (first|(with_reducible refine c_nil ?_)|(with_reducible refine c_one ?_)))|((with_reducible show rdO _ _ _ _); (first|(with_reducible refine o_no ?_)|(with_reducible refine o_so ?_)))|((with_reducible show rdPs _ _ _ _ _); (first|(with_reducible refine r_psN ?_)|(with_reducible refine r_psF ?_)|(with_reducible refine r_psT ?_)|((with_reducible show rdPs _ _ (List.map _ _) _ _); simp only [List.map_cons, List.map_nil])))|((with_reducible show ∃ t, truthD _ = some t ∧ _); (first|(with_reducible refine r_tn ?_)|((with_reducible show ∃ t, truthD _ = some t ∧ _); simp only [isNonD_int, isNonD_bool, isNonD_str, isNonD_list, isNonD_tup, isNonD_none, Bool.not_true, Bool.not_false])|(with_reducible refine r_tT ?_)|(with_reducible refine r_tF ?_)|(with_reducible refine r_tbA (by assumption) ?_)|(with_reducible refine r_tbB (by assumption) ?_)|(with_reducible refine r_tb (fun hb => ?_) (fun hb => ?_))|((with_reducible refine r_not ?_); try simp only [Bool.not_true, Bool.not_false])))|((with_reducible show ∃ r, cmpD _ _ _ = some r ∧ _); (first|((first|(with_reducible refine g_ex (by assumption) ?_)) <;> try simp only [CA.fr_is_integer, CA.fr_need_size, CA.fr_is_cell, CA.fr_cells_fault, CA.fr_need_cells, CA.fr_row_fault, CA.fr_need_row, CA.fr_slots_fault, CA.fr_check_crossings, CA.fr_need_crossings, CA.fr_need_port, CA.fr_need_slot, CA.fr_need_number, CA.fr_need_rhythm, CA.fr__law_source, CA.fr__law_draw, CA.fr__law_lot, CA.fr__law_line, CA.fr__law_later, CR.fr_pairings_in, CR.fr_unsure, CR.fr__law_beat, fr__law_loads, fr_loads_of, fr_fits_rhythm, fr_keeps_rhythm, fr__law_told_right, fr__law_moves, fr__law_fitting, fr_law, reduceCtorEq, Bool.false_eq_true, if_false, if_true, kdOf_z, kdOf_t, kdOf_int, kdOf_bool, kdOf_str, kdOf_none, List.length_map, backD_wipe, Int.toNat_natCast, Int.reduceEq, Int.reduceLT, Int.reduceLE, decide_true, decide_false, Int.reduceSub, Int.reduceNeg, Int.reduceToNat, Int.reducePow, Int.reduceAdd, Int.reduceMul, Bool.not_true, Bool.not_false, isNonD_int, isNonD_bool, isNonD_str, isNonD_list, isNonD_tup, isNonD_none, List.set_cons_zero, List.set_cons_succ])|(with_reducible refine g_ex (ne_same _) ?_)|(with_reducible refine g_ex (eq_same _) ?_)|(with_reducible refine g_ex (ne_samei _) ?_)|(with_reducible refine g_ex (Shw.ne (by assumption)) ?_)|(with_reducible refine g_ex (Shw.eq (by assumption)) ?_)|(refine g_ex inn_ints ?_)|(refine g_ex (ne_nil _) ?_)|(with_reducible refine g_ex CA.nin_ints ?_)|(with_reducible refine g_ex (CA.ne_nilP _) ?_)|(with_reducible refine g_ex CA.inn_pairs2 ?_)|(with_reducible refine g_ex CA.nin_pairs2 ?_)|(refine g_ex (eq_nil _) ?_)|(refine g_ex (eq_ints _ _) ?_)|(refine g_ex (ne_ints _ _) ?_)|(refine g_ex rfl ?_)))|((with_reducible show ∃ t r, biD _ _ = some (t, r) ∧ _); (first|((first|(refine e_istE rfl ?_)|((with_reducible refine bi_F (by assumption) (Or.inl nz) ?_))|((with_reducible refine bi_F (sum_ints _) (Or.inl nz) ?_))|((with_reducible refine bi_F (sum_ints _) (Or.inl nt) ?_))|((with_reducible refine bi_T (biD_sorted _) (Or.inl nz) ?_))|((with_reducible show ∃ t r, biD .max [.list _] = some (t, r) ∧ _); refine bi_F (CA.biD_max _ _) (Or.inl nz) ?_)|((with_reducible show ∃ t r, biD .any [.list (List.map PyData.bool _)] = some (t, r) ∧ _); refine bi_F (CA.biD_any _) (.inr rfl) ?_)|((with_reducible refine bi_T (biD_sorted _) (Or.inl nt) ?_))|((with_reducible refine bi_F (Shw.repr (by assumption)) (Or.inl nz) ?_))|((with_reducible refine bi_F (Shw.repr (by assumption)) (Or.inl nt) ?_))|((with_reducible refine bi_F (Shw.repr (by assumption)) (.inr rfl) ?_))|(refine bi_F rfl (Or.inl nz) ?_)|(refine bi_F rfl (Or.inl nt) ?_)|(refine bi_F rfl (.inr rfl) ?_)) <;> try simp only [CA.fr_is_integer, CA.fr_need_size, CA.fr_is_cell, CA.fr_cells_fault, CA.fr_need_cells, CA.fr_row_fault, CA.fr_need_row, CA.fr_slots_fault, CA.fr_check_crossings, CA.fr_need_crossings, CA.fr_need_port, CA.fr_need_slot, CA.fr_need_number, CA.fr_need_rhythm, CA.fr__law_source, CA.fr__law_draw, CA.fr__law_lot, CA.fr__law_line, CA.fr__law_later, CR.fr_pairings_in, CR.fr_unsure, CR.fr__law_beat, fr__law_loads, fr_loads_of, fr_fits_rhythm, fr_keeps_rhythm, fr__law_told_right, fr__law_moves, fr__law_fitting, fr_law, reduceCtorEq, Bool.false_eq_true, if_false, if_true, kdOf_z, kdOf_t, kdOf_int, kdOf_bool, kdOf_str, kdOf_none, List.length_map, backD_wipe, Int.toNat_natCast, Int.reduceEq, Int.reduceLT, Int.reduceLE, decide_true, decide_false, Int.reduceSub, Int.reduceNeg, Int.reduceToNat, Int.reducePow, Int.reduceAdd, Int.reduceMul, Bool.not_true, Bool.not_false, isNonD_int, isNonD_bool, isNonD_str, isNonD_list, isNonD_tup, isNonD_none, List.set_cons_zero, List.set_cons_succ])))|((with_reducible show Exists _); (first|(with_reducible refine g_int ?_)|(with_reducible refine g_int2 ?_)|(with_reducible refine g_list ?_)|(with_reducible refine g_list2 ?_)|(with_reducible refine g_tup ?_)|((first|((with_reducible show ∃ t r, binD .add (.list _) (.list _) = some (t, r) ∧ _); refine b_cat3 (by constructor <;> (first|exact nz|exact nt)) (by simp [rangeD_length]; omega) ?_)|((with_reducible show ∃ t r, binD .mul (.list [.int _]) (.int _) = some (t, r) ∧ _); refine b_zeros (by omega) ?_)) <;> try simp only [CA.fr_is_integer, CA.fr_need_size, CA.fr_is_cell, CA.fr_cells_fault, CA.fr_need_cells, CA.fr_row_fault, CA.fr_need_row, CA.fr_slots_fault, CA.fr_check_crossings, CA.fr_need_crossings, CA.fr_need_port, CA.fr_need_slot, CA.fr_need_number, CA.fr_need_rhythm, CA.fr__law_source, CA.fr__law_draw, CA.fr__law_lot, CA.fr__law_line, CA.fr__law_later, CR.fr_pairings_in, CR.fr_unsure, CR.fr__law_beat, fr__law_loads, fr_loads_of, fr_fits_rhythm, fr_keeps_rhythm, fr__law_told_right, fr__law_moves, fr__law_fitting, fr_law, reduceCtorEq, Bool.false_eq_true, if_false, if_true, kdOf_z, kdOf_t, kdOf_int, kdOf_bool, kdOf_str, kdOf_none, List.length_map, backD_wipe, Int.toNat_natCast, Int.reduceEq, Int.reduceLT, Int.reduceLE, decide_true, decide_false, Int.reduceSub, Int.reduceNeg, Int.reduceToNat, Int.reducePow, Int.reduceAdd, Int.reduceMul, Bool.not_true, Bool.not_false, isNonD_int, isNonD_bool, isNonD_str, isNonD_list, isNonD_tup, isNonD_none, List.set_cons_zero, List.set_cons_succ])|((with_reducible show ∃ env2, tgD (.tp (.cons _ (.cons _ .nil))) _ _ = some env2 ∧ _); refine r_some (tg2_fz (by decide) rfl (by first|exact fz_un|exact fz_frz|assumption) rfl (by first|exact fz_un|exact fz_frz|assumption)) ?_)|(refine r_some rfl ?_)|(refine r_some (asg_fz rfl (by assumption)) ?_)|(refine r_some (asgt_fz rfl (by assumption)) ?_)|(refine r_some (asgo_ni rfl (by assumption)) ?_)|(refine r_augE rfl rfl ?_)|(refine r_put2 rfl rfl rfl ?_)|((first|(refine i_list rfl rfl ?_)|(refine i_list rfl (at_last (by assumption)) ?_)|(refine i_list rfl (at_last2 (by assumption)) ?_)|(refine i_list rfl (map_nat (by assumption) (by omega)) ?_)|(refine i_list rfl (atI_ints (by omega) (by omega)) ?_)|(refine i_list rfl (atI_ints ?_ ?_) ?_)|(refine i_tup rfl rfl ?_)|((with_reducible show ∃ r, idxD (.list [.int _, .int _]) (.int (DL.b2i _)) = some r ∧ _); refine CA.pick2 fun m hm => ?_)|((with_reducible show ∃ r, idxD (.list [.int _, .int _]) (.int _) = some r ∧ _); refine CA.pickI2 (by assumption) (by assumption) fun m hm => ?_)|((with_reducible show ∃ r, idxD (.list [.int _, .int _, .int _]) (.int _) = some r ∧ _); refine CA.pickI3 (by assumption) (by assumption) fun m hm => ?_)) <;> try simp only [CA.fr_is_integer, CA.fr_need_size, CA.fr_is_cell, CA.fr_cells_fault, CA.fr_need_cells, CA.fr_row_fault, CA.fr_need_row, CA.fr_slots_fault, CA.fr_check_crossings, CA.fr_need_crossings, CA.fr_need_port, CA.fr_need_slot, CA.fr_need_number, CA.fr_need_rhythm, CA.fr__law_source, CA.fr__law_draw, CA.fr__law_lot, CA.fr__law_line, CA.fr__law_later, CR.fr_pairings_in, CR.fr_unsure, CR.fr__law_beat, fr__law_loads, fr_loads_of, fr_fits_rhythm, fr_keeps_rhythm, fr__law_told_right, fr__law_moves, fr__law_fitting, fr_law, reduceCtorEq, Bool.false_eq_true, if_false, if_true, kdOf_z, kdOf_t, kdOf_int, kdOf_bool, kdOf_str, kdOf_none, List.length_map, backD_wipe, Int.toNat_natCast, Int.reduceEq, Int.reduceLT, Int.reduceLE, decide_true, decide_false, Int.reduceSub, Int.reduceNeg, Int.reduceToNat, Int.reducePow, Int.reduceAdd, Int.reduceMul, Bool.not_true, Bool.not_false, isNonD_int, isNonD_bool, isNonD_str, isNonD_list, isNonD_tup, isNonD_none, List.set_cons_zero, List.set_cons_succ])))|((with_reducible show _ ∧ _); (first|((with_reducible show (CA.Ph _ _).io = false ∧ _); (first|((with_reducible show (CA.Ph _ "is_integer").io = false ∧ _); first|(refine CA.st_isI_t rfl (by first|assumption|omega) (by first|assumption|omega) ?_)|(refine CA.st_isI2 rfl  ?_)|(refine CA.st_isI1 rfl  ?_)|(refine CA.st_isI0 rfl  ?_))|((with_reducible show (CA.Ph _ "need_size").io = false ∧ _); first|(refine CA.st_need_size rfl (by first|assumption|omega) (by first|assumption|omega) ?_))|((with_reducible show (CA.Ph _ "need_port").io = false ∧ _); first|(refine CA.st_need_port rfl (by first|assumption|omega) (by first|assumption|omega) ?_))|((with_reducible show (CA.Ph _ "need_slot").io = false ∧ _); first|(refine CA.st_need_slot rfl (by first|assumption|omega) (by first|assumption|omega) ?_))|((with_reducible show (CA.Ph _ "need_number").io = false ∧ _); first|(refine CA.st_need_number2 rfl (by first|assumption|omega) (by first|assumption|omega) ?_)|(refine CA.st_need_number1 rfl (by first|assumption|omega) ?_))|((with_reducible show (CA.Ph _ "cells_fault").io = false ∧ _); first|(refine CA.st_cells_fault rfl (by first|assumption|omega) ?_))|((with_reducible show (CA.Ph _ "need_cells").io = false ∧ _); first|(refine CA.st_need_cells rfl (by first|assumption|omega) (by first|assumption|omega) (by first|assumption|omega) ?_))|((with_reducible show (CA.Ph _ "row_fault").io = false ∧ _); first|(refine CA.st_row_fault rfl (by first|assumption|omega) (by first|assumption|omega) (by first|assumption|omega) ?_))|((with_reducible show (CA.Ph _ "need_row").io = false ∧ _); first|(refine CA.st_need_row rfl (by first|assumption|omega) (by first|assumption|omega) (by first|assumption|omega) (by first|assumption|omega) ?_))|((with_reducible show (CA.Ph _ "slots_fault").io = false ∧ _); first|(refine CA.st_slots_fault rfl (by first|assumption|omega) (by first|assumption|omega) ?_))|((with_reducible show (CA.Ph _ "check_crossings").io = false ∧ _); first|(refine CA.st_check_crossings rfl (by first|assumption|omega) (by first|assumption|omega) ?_))|((with_reducible show (CA.Ph _ "need_crossings").io = false ∧ _); first|(refine CA.st_need_crossings rfl (by first|assumption|omega) (by first|assumption|omega) (by first|assumption|omega) (by first|assumption|omega) ?_))|((with_reducible show (CA.Ph _ "need_rhythm").io = false ∧ _); first|(refine CA.st_need_rhythm rfl (by first|assumption|omega) ?_))|((with_reducible show (CA.Ph _ "_law_later").io = false ∧ _); first|(refine CA.st__law_later rfl (by first|assumption|omega) (by first|assumption|omega) ?_))|((with_reducible show (CA.Ph _ "pairings_in").io = false ∧ _); first|(refine CR.st_pairings_in rfl (by first|assumption|omega) (by first|assumption|omega) (by first|assumption|omega) (by first|assumption|omega) ?_))|((with_reducible show (CA.Ph _ "unsure").io = false ∧ _); first|(refine CR.st_unsure rfl (by first|assumption|omega) (by first|assumption|omega) (by first|assumption|omega) (by first|assumption|omega) (by first|assumption|omega) ?_))|((with_reducible show (CA.Ph _ "cells_to").io = false ∧ _); first|(refine CB.st_cells_to rfl (by first|assumption|omega) ?_))|((with_reducible show (CA.Ph _ "sending_slots").io = false ∧ _); first|(refine CB.st_sending_slots rfl (by first|assumption|omega) ?_))|((with_reducible show (CA.Ph _ "outlets_of").io = false ∧ _); first|(refine CB.st_outlets_of rfl (by first|assumption|omega) (by first|assumption|omega) ?_))|((with_reducible show (CA.Ph _ "is_busy_row").io = false ∧ _); first|(refine CB.st_is_busy_row rfl (by first|assumption|omega) (by first|assumption|omega) (by first|assumption|omega) (by first|assumption|omega) ?_))|((with_reducible show (CA.Ph _ "need_busy").io = false ∧ _); first|(refine CB.st_need_busy rfl (by first|assumption|omega) (by first|assumption|omega) (by first|assumption|omega) (by first|assumption|omega) (by first|assumption|omega) ?_))|((with_reducible show (CA.Ph _ "own_slots").io = false ∧ _); first|(refine CB.st_own_slots rfl (by first|assumption|omega) ?_))|((with_reducible show (CA.Ph _ "first_row").io = false ∧ _); first|(refine CB.st_first_row rfl (by first|assumption|omega) (by first|assumption|omega) (by first|assumption|omega) (by first|assumption|omega) ?_))|((with_reducible show (CA.Ph _ "_law_there").io = false ∧ _); first|(refine CB.st__law_there rfl (by first|assumption|omega) (by first|assumption|omega) (by first|assumption|omega) (by first|assumption|omega) ?_)|(refine CP.st__law_there rfl (by first|assumption|omega) (by first|assumption|omega) (by first|assumption|omega) (by first|assumption|omega) ?_))|((with_reducible show (CA.Ph _ "cells_from").io = false ∧ _); first|(refine CP.st_cells_from rfl (by first|assumption|omega) ?_))|((with_reducible show (CA.Ph _ "first_unpressed").io = false ∧ _); first|(refine CP.st_first_unpressed rfl (by first|assumption|omega) (by first|assumption|omega) (by first|assumption|omega) (by first|assumption|omega) ?_))|((with_reducible show (CA.Ph _ "is_pressed").io = false ∧ _); first|(refine CP.st_is_pressed rfl (by first|assumption|omega) (by first|assumption|omega) (by first|assumption|omega) (by first|assumption|omega) (by first|assumption|omega) ?_))|((with_reducible show (CA.Ph _ "choices_of").io = false ∧ _); first|(refine CC.st_choices_of rfl (by first|assumption|omega) (by first|assumption|omega) (by first|assumption|omega) ?_))|((with_reducible show (CA.Ph _ "product_of").io = false ∧ _); first|(refine CC.st_product_of rfl (by first|assumption|omega) (by first|assumption|omega) ?_))|((with_reducible show (CA.Ph _ "served_count").io = false ∧ _); first|(refine CC.st_served_count rfl (by first|assumption|omega) (by first|assumption|omega) (by first|assumption|omega) (by first|assumption|omega) ?_))|((with_reducible show (CA.Ph _ "_law_all_busy").io = false ∧ _); first|(refine CL.st__law_all_busy rfl (by first|assumption|omega) (by first|assumption|omega) (by first|assumption|omega) ?_))|((with_reducible show (CA.Ph _ "_law_is_served").io = false ∧ _); first|(refine CL.st__law_is_served rfl (by first|assumption|omega) (by first|assumption|omega) ?_))|((with_reducible show (CA.Ph _ "row_with").io = false ∧ _); first|(refine CW.st_row_with rfl (by first|assumption|omega) (by first|assumption|omega) (by first|assumption|omega) (by first|assumption|omega) (by first|assumption|omega) ?_))|((with_reducible show (CA.Ph _ "index_with").io = false ∧ _); first|(refine CW.st_index_with rfl (by first|assumption|omega) (by first|assumption|omega) (by first|assumption|omega) (by first|assumption|omega) (by first|assumption|omega) ?_))|((with_reducible show (CA.Ph _ "need_long").io = false ∧ _); first|(refine CN.st_need_long rfl (by first|assumption|omega) (by first|assumption|omega) (by first|assumption|omega) (by first|assumption|omega) (by first|assumption|omega) ?_))|((with_reducible show (CA.Ph _ "narrow_slot").io = false ∧ _); first|(refine CN.st_narrow_slot rfl (by first|assumption|omega) ?_))|((with_reducible show (CA.Ph _ "has_windows").io = false ∧ _); first|(refine CN.st_has_windows rfl (by first|assumption|omega) (by first|assumption|omega) ?_))|((with_reducible show (CA.Ph _ "rhythm_word").io = false ∧ _); first|(refine CN.st_rhythm_word rfl (by first|assumption|omega) (by first|assumption|omega) (by first|assumption|omega) (by first|assumption|omega) (by first|assumption|omega) ?_))|((with_reducible show (CA.Ph _ "_law_loads").io = false ∧ _); first|(refine K13.st__law_loads rfl (by first|assumption|omega) (by first|assumption|omega) (by first|assumption|omega) ?_))|((with_reducible show (CA.Ph _ "loads_of").io = false ∧ _); first|(refine K13.st_loads_of rfl (by first|assumption|omega) (by first|assumption|omega) (by first|assumption|omega) ?_))|((with_reducible show (CA.Ph _ "fits_rhythm").io = false ∧ _); first|(refine K13.st_fits_rhythm rfl (by first|assumption|omega) (by first|assumption|omega) (by first|assumption|omega) ?_))|((with_reducible show (CA.Ph _ "keeps_rhythm").io = false ∧ _); first|(refine K13.st_keeps_rhythm rfl (by first|assumption|omega) (by first|assumption|omega) (by first|assumption|omega) (by first|assumption|omega) (by first|assumption|omega) ?_))|((with_reducible show (CA.Ph _ "_law_told_right").io = false ∧ _); first|(refine K13.st__law_told_right rfl (by first|assumption|omega) (by first|assumption|omega) (by first|assumption|omega) (by first|assumption|omega) (by first|assumption|omega) (by first|assumption|omega) ?_))|((with_reducible show (CA.Ph _ "law").io = false ∧ _); first|(refine K13.st_law rfl (by first|assumption|omega) ?_))))|((with_reducible show (False → _) ∧ ∃ ds ds' env2, ownD _ _ = some (.list ds) ∧ mutD .append ds _ = some ds' ∧ _); refine r_app4 rfl (by simp; omega) rfl ?_)|((with_reducible show (False → _) ∧ ∃ ds ds' env2, ownD _ _ = some (.list ds) ∧ mutD .append ds _ = some ds' ∧ _); refine r_app4 rfl ?_ rfl ?_)|((first|(with_reducible refine c_lt ?_)|(with_reducible refine c_le ?_)|(with_reducible refine c_gt ?_)|(with_reducible refine c_ge ?_)|(with_reducible refine c_eq ?_)|(with_reducible refine c_ne ?_)|(with_reducible refine b_add ?_)|(with_reducible refine b_sub ?_)|(refine g_rng (by unfold okRng; omega) ?_)|((with_reducible show (Kd.z ≠ _ ∨ _) ∧ ∃ t r, binD _ (.int _) (.int _) = some (t, r) ∧ _); refine b_mul (log_small (by omega) (by omega)) ?_)|((with_reducible show (Kd.z ≠ _ ∨ _) ∧ ∃ t r, binD _ (.int _) (.int _) = some (t, r) ∧ _); refine b_mul (log_mid (by omega) (by omega) (by omega) (by omega)) ?_)|((with_reducible show (Kd.z ≠ _ ∨ _) ∧ ∃ t r, binD _ (.int _) (.int _) = some (t, r) ∧ _); refine b_mod (by omega) ?_)|((with_reducible show (Kd.z ≠ _ ∨ _) ∧ ∃ t r, binD _ (.int _) (.int _) = some (t, r) ∧ _); refine b_div (div_c (by omega) (by omega)) ?_)|((with_reducible show (Kd.z ≠ _ ∨ _) ∧ ∃ t r, binD _ (.int _) (.int _) = some (t, r) ∧ _); refine b_div ⟨by omega, by decide⟩ ?_)|((with_reducible show (Kd.z ≠ _ ∨ _) ∧ ∃ t r, binD _ (.int _) (.int _) = some (t, r) ∧ _); refine b_div (div_m (by omega) (by omega)) ?_)|((with_reducible show (Kd.z ≠ _ ∨ _) ∧ ∃ t r, binD _ (.int _) (.int _) = some (t, r) ∧ _); refine b_pow (by decide) ?_)|((with_reducible show (Kd.z ≠ _ ∨ _) ∧ ∃ t r, binD _ (.int _) (.int _) = some (t, r) ∧ _); refine b_pow (pow_mid (by omega) (by omega) (by omega) (by omega)) ?_)|((with_reducible refine b_mul ?_ ?_))|((with_reducible refine b_mod ?_ ?_))|((with_reducible refine b_div ?_ ?_))|((with_reducible refine b_pow ?_ ?_))|((with_reducible refine g_rng ?_ ?_))) <;> try simp only [CA.fr_is_integer, CA.fr_need_size, CA.fr_is_cell, CA.fr_cells_fault, CA.fr_need_cells, CA.fr_row_fault, CA.fr_need_row, CA.fr_slots_fault, CA.fr_check_crossings, CA.fr_need_crossings, CA.fr_need_port, CA.fr_need_slot, CA.fr_need_number, CA.fr_need_rhythm, CA.fr__law_source, CA.fr__law_draw, CA.fr__law_lot, CA.fr__law_line, CA.fr__law_later, CR.fr_pairings_in, CR.fr_unsure, CR.fr__law_beat, fr__law_loads, fr_loads_of, fr_fits_rhythm, fr_keeps_rhythm, fr__law_told_right, fr__law_moves, fr__law_fitting, fr_law, reduceCtorEq, Bool.false_eq_true, if_false, if_true, kdOf_z, kdOf_t, kdOf_int, kdOf_bool, kdOf_str, kdOf_none, List.length_map, backD_wipe, Int.toNat_natCast, Int.reduceEq, Int.reduceLT, Int.reduceLE, decide_true, decide_false, Int.reduceSub, Int.reduceNeg, Int.reduceToNat, Int.reducePow, Int.reduceAdd, Int.reduceMul, Bool.not_true, Bool.not_false, isNonD_int, isNonD_bool, isNonD_str, isNonD_list, isNonD_tup, isNonD_none, List.set_cons_zero, List.set_cons_succ])|(refine e_chainE rfl (fun hb => ?_) (fun hb => ?_))|(with_reducible refine g_true ?_)|((first|(refine e_idxE (Or.inl nt) rfl ?_)|(refine e_idxE (Or.inl nz) rfl ?_)|(refine g_len (Nat.le_of_ble_eq_true rfl) ?_)|(with_reducible refine g_nbz ?_)|(with_reducible refine g_nbt ?_)|(with_reducible refine g_oz ?_)|(with_reducible refine g_ot ?_)|(with_reducible refine g_eqt ?_)|((with_reducible show (_ ∨ _ = true ∧ _ = true) ∧ _); refine And.intro (.inr ⟨rfl, rfl⟩) ?_)|((with_reducible show (_ ∨ flats (List.map PyData.int _) = true) ∧ _); refine And.intro (.inr (flats_ints _)) ?_)|(refine g_pur rfl ?_)) <;> try simp only [CA.fr_is_integer, CA.fr_need_size, CA.fr_is_cell, CA.fr_cells_fault, CA.fr_need_cells, CA.fr_row_fault, CA.fr_need_row, CA.fr_slots_fault, CA.fr_check_crossings, CA.fr_need_crossings, CA.fr_need_port, CA.fr_need_slot, CA.fr_need_number, CA.fr_need_rhythm, CA.fr__law_source, CA.fr__law_draw, CA.fr__law_lot, CA.fr__law_line, CA.fr__law_later, CR.fr_pairings_in, CR.fr_unsure, CR.fr__law_beat, fr__law_loads, fr_loads_of, fr_fits_rhythm, fr_keeps_rhythm, fr__law_told_right, fr__law_moves, fr__law_fitting, fr_law, reduceCtorEq, Bool.false_eq_true, if_false, if_true, kdOf_z, kdOf_t, kdOf_int, kdOf_bool, kdOf_str, kdOf_none, List.length_map, backD_wipe, Int.toNat_natCast, Int.reduceEq, Int.reduceLT, Int.reduceLE, decide_true, decide_false, Int.reduceSub, Int.reduceNeg, Int.reduceToNat, Int.reducePow, Int.reduceAdd, Int.reduceMul, Bool.not_true, Bool.not_false, isNonD_int, isNonD_bool, isNonD_str, isNonD_list, isNonD_tup, isNonD_none, List.set_cons_zero, List.set_cons_succ])|((with_reducible show _ ≤ 1000000 ∧ _); refine And.intro (by omega) ?_)|((with_reducible show _ ≤ 100000 ∧ _); refine And.intro (by (try simp); omega) ?_)|((first|((with_reducible show (CA.Ph _ "_law_draw").io = true ∧ _); refine CA.draw_step rfl (by assumption) ⟨by assumption, by assumption⟩ (by omega) (by omega) (by omega) (by omega) fun a c r ha hc hc' hr hr' => ⟨_, rfl, ?_⟩)|((with_reducible show (CA.Ph _ "_law_lot").io = true ∧ _); refine CA.lot_step rfl (by assumption) ⟨by assumption, by assumption⟩ (by omega) (by omega) (by omega) (by omega) (by omega) (by omega) fun a c lot ha hc hc' hlot hlt => ⟨_, rfl, ?_⟩)|((with_reducible show (CA.Ph _ "_law_line").io = true ∧ _); refine CA.line_step 30 rfl (by assumption) ⟨by assumption, by assumption⟩ (by omega) (by omega) (by assumption) (by omega) (fun x hx => by have := hlt x hx; omega) (by omega) (by omega) (by omega) (by omega) fun a c line ha hc hc' hrow hlow hbusy hfifo hlifo => ⟨_, rfl, ?_⟩)|((with_reducible show (CA.Ph _ "_law_beat").io = true ∧ _); refine CR.io__law_beat rfl rfl (by assumption) (by assumption) (by assumption) (by omega) (by omega) (by omega) (by omega) fun a c beat ha hc hc' hbeat hbl hbt hbs => ⟨_, rfl, ?_⟩)) <;> try simp only [CA.fr_is_integer, CA.fr_need_size, CA.fr_is_cell, CA.fr_cells_fault, CA.fr_need_cells, CA.fr_row_fault, CA.fr_need_row, CA.fr_slots_fault, CA.fr_check_crossings, CA.fr_need_crossings, CA.fr_need_port, CA.fr_need_slot, CA.fr_need_number, CA.fr_need_rhythm, CA.fr__law_source, CA.fr__law_draw, CA.fr__law_lot, CA.fr__law_line, CA.fr__law_later, CR.fr_pairings_in, CR.fr_unsure, CR.fr__law_beat, fr__law_loads, fr_loads_of, fr_fits_rhythm, fr_keeps_rhythm, fr__law_told_right, fr__law_moves, fr__law_fitting, fr_law, reduceCtorEq, Bool.false_eq_true, if_false, if_true, kdOf_z, kdOf_t, kdOf_int, kdOf_bool, kdOf_str, kdOf_none, List.length_map, backD_wipe, Int.toNat_natCast, Int.reduceEq, Int.reduceLT, Int.reduceLE, decide_true, decide_false, Int.reduceSub, Int.reduceNeg, Int.reduceToNat, Int.reducePow, Int.reduceAdd, Int.reduceMul, Bool.not_true, Bool.not_false, isNonD_int, isNonD_bool, isNonD_str, isNonD_list, isNonD_tup, isNonD_none, List.set_cons_zero, List.set_cons_succ])|((with_reducible show _ = _ ∧ (CA.Ph _ _).io = false ∧ _); refine And.intro rfl ?_; simp only [DL.pick, List.filterMap_cons, List.filterMap_nil, List.getElem?_cons_zero, List.getElem?_cons_succ])))|(with_reducible refine g_ifT ?_)|(with_reducible refine g_ifF ?_)|(with_reducible refine g_if (fun hb => ?_) (fun hb => ?_)))))
local macro_rules | `(tactic| nofun) => `(tactic| try simp only [CA.fr_is_integer, CA.fr_need_size, CA.fr_is_cell, CA.fr_cells_fault, CA.fr_need_cells, CA.fr_row_fault, CA.fr_need_row, CA.fr_slots_fault, CA.fr_check_crossings, CA.fr_need_crossings, CA.fr_need_port, CA.fr_need_slot, CA.fr_need_number, CA.fr_need_rhythm, CA.fr__law_source, CA.fr__law_draw, CA.fr__law_lot, CA.fr__law_line, CA.fr__law_later, CR.fr_pairings_in, CR.fr_unsure, CR.fr__law_beat, fr__law_loads, fr_loads_of, fr_fits_rhythm, fr_keeps_rhythm, fr__law_told_right, fr__law_moves, fr__law_fitting, fr_law, reduceCtorEq, Bool.false_eq_true, if_false, if_true, kdOf_z, kdOf_t, kdOf_int, kdOf_bool, kdOf_str, kdOf_none, List.length_map, backD_wipe, Int.toNat_natCast, Int.reduceEq, Int.reduceLT, Int.reduceLE, decide_true, decide_false, Int.reduceSub, Int.reduceNeg, Int.reduceToNat, Int.reducePow, Int.reduceAdd, Int.reduceMul, Bool.not_true, Bool.not_false, isNonD_int, isNonD_bool, isNonD_str, isNonD_list, isNonD_tup, isNonD_none, List.set_cons_zero, List.set_cons_succ])
theorem moved_moves {lot : List Cell} {n : Int} {mv : List Int} (M : Moves lot mv) : Moves lot mv := M
theorem beats4 {b1 b2 b : List Int} {j : Nat} (h : [b1, b2, List.replicate 20 9, [1, 0]][j]? = some b) (B1 : Beat b1) (l1 : b1.length ≤ 20) (B2 : Beat b2) (l2 : b2.length ≤ 20) : Beat b ∧ b.length ≤ 20 := by
  have := List.mem_of_getElem? h
  simp only [List.mem_cons, List.not_mem_nil, or_false] at this
  rcases this with rfl | rfl | rfl | rfl
  · exact ⟨B1, l1⟩
  · exact ⟨B2, l2⟩
  · exact ⟨beat_of (by decide), by decide⟩
  · exact ⟨beat_of (by decide), by decide⟩
def lot3 : List Cell := [(0, 0, 0), (0, 1, 0), (1, 1, 1)]
theorem lot3_ok : Lot 2 lot3 := lot_of (by decide +kernel)
theorem mv3_ok : Moves lot3 [0, 0, 1] := ⟨rfl, fun i c h => by
  have hl := at_lt h
  have : i = 0 ∨ i = 1 ∨ i = 2 := by simp [lot3] at hl; omega
  rcases this with rfl | rfl | rfl <;> (cases h; decide), by decide⟩
set_option maxHeartbeats 8000000 in
theorem law_law : ∀ ds post, F_law.sp ds post → ds.length = g_law.ps.length ∧ rdSs Ph b_law (env0 F_law.io N_law.length ds) (fnEnds F_law post) := by
  rintro ds post ⟨ns, rfl, hl, hp⟩
  refine ⟨rfl, ?_⟩
  show rdSs Ph b_law [.frz (dI ns), .un, .un, .un, .un, .un, .un, .un, .un, .un, .un, .un, .un, .un] _
  unfold b_law
  refine r_cons ?_
  refine r_for ?_
  and_intros
  obtain ⟨cs, hcs, hcl⟩ := cut_ints ns none (some (if (if 8 < (ns.length : Int) then 8 else (ns.length : Int)) > 1 then if 8 < (ns.length : Int) then 8 else (ns.length : Int) else 1))
  rw [hcs]
  refine for_inv cs.zipIdx (fun p => .tuple [.int (p.2 : Nat), .int p.1]) (fun j env => env = [.frz (dI ns), .un, .un, .un, .un, .un, .un, .un, .un, .un, .un, .un, .un, .un]) enum_eq ?_ ?_ ?_
  · rfl
  · rintro j ⟨cell, k⟩ env hj rfl
    have hk : k ≤ 63 := by
      have h1 := List.mem_zipIdx_iff_getElem?.mp (List.mem_of_getElem? hj)
      have := at_lt h1
      simp only at this
      omega
    refine ⟨_, tg2_fz (by decide) rfl fz_un rfl fz_un, ?_⟩
    and_intros
    refine CA.st__law_source rfl (by omega) (by omega) fun a b ha hb0 hb1 => ?_
    and_intros
    rename_i a3 c3 wd ha3 hc3 hc3' hwd hwd' a2 c2 m7 ha2 hc2 hc2' hm hm' a1 c1 ha1 hc1 hc1' a0 c0 ha0 hc0 hc0'
    have few := hlot.few
    have hle := hrow.len
    refine r_for ?_
    and_intros
    refine for_inv [(0 : Int), r] .int (fun j env => ∃ (a' c' : Int), 0 ≤ a' ∧ 0 ≤ c' ∧ c' ≤ 4000 + 1000 * j ∧ env = [.frz (dI ns), .frz (.int (k : Nat)), .frz (.int cell), .own (src a' b c'), .frz (.int (1 + wd)), .frz (dL lot), .frz (dI line), .un, .un, .un, .un, .un, .un, .un]) rfl ?_ ?_ ?_ rfl
    · exact ⟨a, c, ha, by omega, by omega, rfl⟩
    · rintro j x env hj ⟨a5, c5, ha5, hc5, hc5', rfl⟩
      have hx : 0 ≤ x ∧ x < 10 ^ 30 - 20 := by
        have := List.mem_of_getElem? hj
        simp only [List.mem_cons, List.not_mem_nil, or_false] at this
        rcases this with rfl | rfl <;> omega
      have hj2 : j < 2 := by have := at_lt hj; simpa using this
      refine ⟨_, tg_fz rfl fz_un, ?_⟩
      and_intros
      have Lo2 : Lot (1 + wd) (moved lot x) := moved_lot (T := 8) hlot (fun x hx => by have := hlt x hx; omega) (by omega) (by omega)
      have R2 : RowOk (moved lot x) (line.map (· + x)) := moved_row (T := 132) hrow (fun e he => by have := hlow e he; omega) (by omega) (by omega)
      generalize moved lot x = lot2 at Lo2 R2 ⊢
      generalize line.map (· + x) = line2 at R2 ⊢
      refine r_for ?_
      and_intros
      refine for_inv (List.range 4) (fun i => .int (i : Nat)) (fun i env => ∃ (a' c' : Int), 0 ≤ a' ∧ 0 ≤ c' ∧ c' ≤ 4000 + 1000 * j + 200 * i ∧ env = [.frz (dI ns), .frz (.int (k : Nat)), .frz (.int cell), .own (src a' b c'), .frz (.int (1 + wd)), .frz (dL lot), .frz (dI line), .frz (.int x), .frz (dL lot2), .frz (dI line2), .un, .un, .un, .un]) range_eq ?_ ?_ ?_
      · exact ⟨a5, c5, ha5, hc5, by omega, rfl⟩
      · rintro i i' env hi ⟨a6, c6, ha6, hc6, hc6', rfl⟩
        obtain ⟨hi, rfl⟩ := range_at hi
        refine ⟨_, tg_fz rfl fz_un, ?_⟩
        and_intros
        refine io__law_moves (n := 1 + wd) rfl rfl ha6 hb0 hb1 (by omega) (by omega) Lo2 R2 (by omega) (by omega) fun a7 c7 mv ha7 hc7 hc7' M => ⟨_, rfl, ?_⟩
        nofun
        and_intros
        refine r_for ?_
        and_intros
        refine io__law_fitting rfl rfl ha hb0 hb1 (by omega) (by omega) Lo2.few M.len fun a8 c8 bt ha8 hc8 hc8' Bt bt20 => ⟨_, rfl, ?_⟩
        nofun
        and_intros
        refine b_zeros (n := 20) (by decide) ?_
        and_intros
        refine for_inv [beat, bt, List.replicate 20 9, [1, 0]] dI (fun _ env => env = [.frz (dI ns), .frz (.int (k : Nat)), .frz (.int cell), .own (src a8 b c8), .frz (.int (1 + wd)), .frz (dL lot), .frz (dI line), .frz (.int x), .frz (dL lot2), .frz (dI line2), .frz (.int (i' : Nat)), .frz (dI mv), .un, .un]) rfl ?_ ?_ ?_ rfl
        · rfl
        · rintro q bb env hq rfl
          obtain ⟨Bb, bb20⟩ := beats4 hq hbeat (by omega) Bt bt20
          refine ⟨_, tg_fz rfl fz_un, ?_⟩
          and_intros
          rfl
        · rintro env rfl
          and_intros
          exact ⟨a8, c8, ha8, by omega, by omega, rfl⟩
      · rintro env ⟨a6, c6, ha6, hc6, hc6', rfl⟩
        rw [List.length_range] at hc6'
        and_intros
        exact ⟨a6, c6, ha6, hc6, by omega, rfl⟩
    · rintro env ⟨a5, c5, ha5, hc5, hc5', rfl⟩
      and_intros
      rfl
  · rintro env rfl
    and_intros
    refine e_lc ?_
    and_intros
    refine lc_fin [[2, 1], [1, 2], [2], [2, 0]] dI (fun _ => true) (fun b => .bool (fit lot3 [0, 0, 1] b)) rfl rfl ?_ (by decide) ?_ ?_ rfl
    · exact .inl nz
    · rintro j b hb
      have hbt : Beat b := by
        have := List.mem_of_getElem? hb
        simp only [List.mem_cons, List.not_mem_nil, or_false] at this
        rcases this with rfl | rfl | rfl | rfl <;> exact beat_of (by decide)
      refine ⟨_, tg_fz rfl fz_un, rfl, fun P h => ?_, fun _ P h => ?_⟩
      · and_intros
        exact h
      · and_intros
        refine st_keeps_rhythm (lot := lot3) (mv := [0, 0, 1]) rfl (by decide) (by decide) lot3_ok mv3_ok hbt ?_
        and_intros
        exact h _ nz
    · have w : (List.filter (fun _ => true) [[2, 1], [1, 2], [2], [2, 0]]).map (fun b => PyData.bool (fit lot3 [0, 0, 1] b)) = [.bool true, .bool false, .bool true, .bool false] := by
        have w1 : fit lot3 [0, 0, 1] [2, 1] = true := by decide +kernel
        have w2 : fit lot3 [0, 0, 1] [1, 2] = false := by decide +kernel
        have w3 : fit lot3 [0, 0, 1] [2] = true := by decide +kernel
        have w4 : fit lot3 [0, 0, 1] [2, 0] = false := by decide +kernel
        rw [filter_tt]
        simp only [List.map_cons, List.map_nil, w1, w2, w3, w4]
      rw [w]
      and_intros
      rw [show (PyData.list [PyData.bool true, PyData.bool false, PyData.bool true, PyData.bool false]).eqv (PyData.list [PyData.bool true, PyData.bool false, PyData.bool true, PyData.bool false]) = true by decide +kernel]
      (first | exact ⟨.none, fun z => absurd z (by decide), hp⟩ | exact ⟨rfl, .none, fun z => absurd z (by decide), hp⟩ | exact ⟨.inl nz, .none, fun z => absurd z (by decide), hp⟩ | exact ⟨.inr rfl, .none, fun z => absurd z (by decide), hp⟩)
end K13

namespace K13
open PySem PySem.Spec PyProof.Rows L2 DL
theorem bd__law_source {K : Frag} {f : Addr} {fd : FuncData} (F : FunD K "_law_source" "_law_source" (defArgs (top 27)) (defBody (top 27)) (defScope (top 27)) [] [] f fd) : ∀ j, j ≤ g__law_source.dfl.length → ∃ ds, Vals ((g__law_source.dfl.drop j).map dV) ds ∧ Binds K fd g__law_source.ps ds :=
  bd0 F fun _ _ _ _ _ _ us hl => match us, hl with | [_, _], _ => rfl
theorem bd__law_draw {K : Frag} {f : Addr} {fd : FuncData} (F : FunD K "_law_draw" "_law_draw" (defArgs (top 28)) (defBody (top 28)) (defScope (top 28)) [] [] f fd) : ∀ j, j ≤ g__law_draw.dfl.length → ∃ ds, Vals ((g__law_draw.dfl.drop j).map dV) ds ∧ Binds K fd g__law_draw.ps ds :=
  bd0 F fun _ _ _ _ _ _ us hl => match us, hl with | [_, _], _ => rfl
theorem bd__law_lot {K : Frag} {f : Addr} {fd : FuncData} (F : FunD K "_law_lot" "_law_lot" (defArgs (top 29)) (defBody (top 29)) (defScope (top 29)) [] [] f fd) : ∀ j, j ≤ g__law_lot.dfl.length → ∃ ds, Vals ((g__law_lot.dfl.drop j).map dV) ds ∧ Binds K fd g__law_lot.ps ds :=
  bd0 F fun _ _ _ _ _ _ us hl => match us, hl with | [_, _, _], _ => rfl
theorem bd__law_line {K : Frag} {f : Addr} {fd : FuncData} (F : FunD K "_law_line" "_law_line" (defArgs (top 30)) (defBody (top 30)) (defScope (top 30)) [] [] f fd) : ∀ j, j ≤ g__law_line.dfl.length → ∃ ds, Vals ((g__law_line.dfl.drop j).map dV) ds ∧ Binds K fd g__law_line.ps ds :=
  bd0 F fun _ _ _ _ _ _ us hl => match us, hl with | [_, _, _], _ => rfl
theorem bd__law_later {K : Frag} {f : Addr} {fd : FuncData} (F : FunD K "_law_later" "_law_later" (defArgs (top 31)) (defBody (top 31)) (defScope (top 31)) [] [] f fd) : ∀ j, j ≤ g__law_later.dfl.length → ∃ ds, Vals ((g__law_later.dfl.drop j).map dV) ds ∧ Binds K fd g__law_later.ps ds :=
  bd0 F fun _ _ _ _ _ _ us hl => match us, hl with | [_, _, _], _ => rfl
theorem bd__law_moves {K : Frag} {f : Addr} {fd : FuncData} (F : FunD K "_law_moves" "_law_moves" (defArgs (top 34)) (defBody (top 34)) (defScope (top 34)) [] [] f fd) : ∀ j, j ≤ g__law_moves.dfl.length → ∃ ds, Vals ((g__law_moves.dfl.drop j).map dV) ds ∧ Binds K fd g__law_moves.ps ds :=
  bd0 F fun _ _ _ _ _ _ us hl => match us, hl with | [_, _, _, _], _ => rfl
theorem bd__law_beat {K : Frag} {f : Addr} {fd : FuncData} (F : FunD K "_law_beat" "_law_beat" (defArgs (top 32)) (defBody (top 32)) (defScope (top 32)) [] [] f fd) : ∀ j, j ≤ g__law_beat.dfl.length → ∃ ds, Vals ((g__law_beat.dfl.drop j).map dV) ds ∧ Binds K fd g__law_beat.ps ds :=
  bd0 F fun _ _ _ _ _ _ us hl => match us, hl with | [_, _], _ => rfl
theorem bd__law_loads {K : Frag} {f : Addr} {fd : FuncData} (F : FunD K "_law_loads" "_law_loads" (defArgs (top 33)) (defBody (top 33)) (defScope (top 33)) [] [] f fd) : ∀ j, j ≤ g__law_loads.dfl.length → ∃ ds, Vals ((g__law_loads.dfl.drop j).map dV) ds ∧ Binds K fd g__law_loads.ps ds :=
  bd0 F fun _ _ _ _ _ _ us hl => match us, hl with | [_, _, _], _ => rfl
theorem bd__law_fitting {K : Frag} {f : Addr} {fd : FuncData} (F : FunD K "_law_fitting" "_law_fitting" (defArgs (top 36)) (defBody (top 36)) (defScope (top 36)) [] [] f fd) : ∀ j, j ≤ g__law_fitting.dfl.length → ∃ ds, Vals ((g__law_fitting.dfl.drop j).map dV) ds ∧ Binds K fd g__law_fitting.ps ds :=
  bd0 F fun _ _ _ _ _ _ us hl => match us, hl with | [_, _, _], _ => rfl
theorem bd_is_integer {K : Frag} {f : Addr} {fd : FuncData} (F : FunD K "is_integer" "is_integer" (defArgs (top 11)) (defBody (top 11)) (defScope (top 11)) [V.non, V.non] [] f fd) : ∀ j, j ≤ g_is_integer.dfl.length → ∃ ds, Vals ((g_is_integer.dfl.drop j).map dV) ds ∧ Binds K fd g_is_integer.ps ds
  | 0, _ => F.binds1 1 0 (List.cons_ne_nil _ _) rfl fun _ _ _ _ _ _ _ us its hl hi => match us, its, hl, hi with | [_], [_, _], _, _ => ⟨_, rfl, rfl⟩
  | 1, _ => F.binds1 2 1 (List.cons_ne_nil _ _) rfl fun _ _ _ _ _ _ _ us its hl hi => match us, its, hl, hi with | [_, _], [_, _], _, _ => ⟨_, rfl, rfl⟩
  | 2, _ => F.binds1 3 2 (List.cons_ne_nil _ _) rfl fun _ _ _ _ _ _ _ us its hl hi => match us, its, hl, hi with | [_, _, _], [_, _], _, _ => ⟨_, rfl, rfl⟩
  | j + 3, h => absurd h (by show ¬ (j + 3 ≤ 2); omega)
theorem bd_need_size {K : Frag} {f : Addr} {fd : FuncData} (F : FunD K "need_size" "need_size" (defArgs (top 12)) (defBody (top 12)) (defScope (top 12)) [] [] f fd) : ∀ j, j ≤ g_need_size.dfl.length → ∃ ds, Vals ((g_need_size.dfl.drop j).map dV) ds ∧ Binds K fd g_need_size.ps ds :=
  bd0 F fun _ _ _ _ _ _ us hl => match us, hl with | [_], _ => rfl
theorem bd_is_cell {K : Frag} {f : Addr} {fd : FuncData} (F : FunD K "is_cell" "is_cell" (defArgs (top 13)) (defBody (top 13)) (defScope (top 13)) [] [] f fd) : ∀ j, j ≤ g_is_cell.dfl.length → ∃ ds, Vals ((g_is_cell.dfl.drop j).map dV) ds ∧ Binds K fd g_is_cell.ps ds :=
  bd0 F fun _ _ _ _ _ _ us hl => match us, hl with | [_, _], _ => rfl
theorem bd_cells_fault {K : Frag} {f : Addr} {fd : FuncData} (F : FunD K "cells_fault" "cells_fault" (defArgs (top 14)) (defBody (top 14)) (defScope (top 14)) [] [] f fd) : ∀ j, j ≤ g_cells_fault.dfl.length → ∃ ds, Vals ((g_cells_fault.dfl.drop j).map dV) ds ∧ Binds K fd g_cells_fault.ps ds :=
  bd0 F fun _ _ _ _ _ _ us hl => match us, hl with | [_, _], _ => rfl
theorem bd_need_cells {K : Frag} {f : Addr} {fd : FuncData} (F : FunD K "need_cells" "need_cells" (defArgs (top 15)) (defBody (top 15)) (defScope (top 15)) [] [] f fd) : ∀ j, j ≤ g_need_cells.dfl.length → ∃ ds, Vals ((g_need_cells.dfl.drop j).map dV) ds ∧ Binds K fd g_need_cells.ps ds :=
  bd0 F fun _ _ _ _ _ _ us hl => match us, hl with | [_, _], _ => rfl
theorem bd_slots_fault {K : Frag} {f : Addr} {fd : FuncData} (F : FunD K "slots_fault" "slots_fault" (defArgs (top 16)) (defBody (top 16)) (defScope (top 16)) [] [] f fd) : ∀ j, j ≤ g_slots_fault.dfl.length → ∃ ds, Vals ((g_slots_fault.dfl.drop j).map dV) ds ∧ Binds K fd g_slots_fault.ps ds :=
  bd0 F fun _ _ _ _ _ _ us hl => match us, hl with | [_, _], _ => rfl
theorem bd_check_crossings {K : Frag} {f : Addr} {fd : FuncData} (F : FunD K "check_crossings" "check_crossings" (defArgs (top 17)) (defBody (top 17)) (defScope (top 17)) [] [] f fd) : ∀ j, j ≤ g_check_crossings.dfl.length → ∃ ds, Vals ((g_check_crossings.dfl.drop j).map dV) ds ∧ Binds K fd g_check_crossings.ps ds :=
  bd0 F fun _ _ _ _ _ _ us hl => match us, hl with | [_, _], _ => rfl
theorem bd_need_crossings {K : Frag} {f : Addr} {fd : FuncData} (F : FunD K "need_crossings" "need_crossings" (defArgs (top 18)) (defBody (top 18)) (defScope (top 18)) [] [] f fd) : ∀ j, j ≤ g_need_crossings.dfl.length → ∃ ds, Vals ((g_need_crossings.dfl.drop j).map dV) ds ∧ Binds K fd g_need_crossings.ps ds :=
  bd0 F fun _ _ _ _ _ _ us hl => match us, hl with | [_, _, _], _ => rfl
theorem bd_need_rhythm {K : Frag} {f : Addr} {fd : FuncData} (F : FunD K "need_rhythm" "need_rhythm" (defArgs (top 22)) (defBody (top 22)) (defScope (top 22)) [] [] f fd) : ∀ j, j ≤ g_need_rhythm.dfl.length → ∃ ds, Vals ((g_need_rhythm.dfl.drop j).map dV) ds ∧ Binds K fd g_need_rhythm.ps ds :=
  bd0 F fun _ _ _ _ _ _ us hl => match us, hl with | [_], _ => rfl
theorem bd_loads_of {K : Frag} {f : Addr} {fd : FuncData} (F : FunD K "loads_of" "loads_of" (defArgs (top 23)) (defBody (top 23)) (defScope (top 23)) [] [] f fd) : ∀ j, j ≤ g_loads_of.dfl.length → ∃ ds, Vals ((g_loads_of.dfl.drop j).map dV) ds ∧ Binds K fd g_loads_of.ps ds :=
  bd0 F fun _ _ _ _ _ _ us hl => match us, hl with | [_, _, _], _ => rfl
theorem bd_fits_rhythm {K : Frag} {f : Addr} {fd : FuncData} (F : FunD K "fits_rhythm" "fits_rhythm" (defArgs (top 24)) (defBody (top 24)) (defScope (top 24)) [] [] f fd) : ∀ j, j ≤ g_fits_rhythm.dfl.length → ∃ ds, Vals ((g_fits_rhythm.dfl.drop j).map dV) ds ∧ Binds K fd g_fits_rhythm.ps ds :=
  bd0 F fun _ _ _ _ _ _ us hl => match us, hl with | [_, _, _, _], _ => rfl
theorem bd_keeps_rhythm {K : Frag} {f : Addr} {fd : FuncData} (F : FunD K "keeps_rhythm" "keeps_rhythm" (defArgs (top 25)) (defBody (top 25)) (defScope (top 25)) [] [] f fd) : ∀ j, j ≤ g_keeps_rhythm.dfl.length → ∃ ds, Vals ((g_keeps_rhythm.dfl.drop j).map dV) ds ∧ Binds K fd g_keeps_rhythm.ps ds :=
  bd0 F fun _ _ _ _ _ _ us hl => match us, hl with | [_, _, _, _], _ => rfl
theorem kw_keeps_rhythm {K : Frag} {f : Addr} {fd : FuncData} (F : FunD K "keeps_rhythm" "keeps_rhythm" (defArgs (top 25)) (defBody (top 25)) (defScope (top 25)) [] [] f fd) : ∀ p ∈ g_keeps_rhythm.kws, ∀ (s : Shared) (ws : List Value), K.In s.heap → ws.length = p.1.length → BindsTo s fd ⟨[], p.1.zip ws⟩ (g_keeps_rhythm.ps.zip (pick p.2 ws)) := fun p hp s ws _ hl => by
  simp only [g_keeps_rhythm, List.mem_cons, List.not_mem_nil, or_false] at hp
  subst hp
  exact match ws, hl with | [_, _, _, _], _ => kwA F (fun _ _ _ _ _ _ => rfl) s
theorem bd__law_told_right {K : Frag} {f : Addr} {fd : FuncData} (F : FunD K "_law_told_right" "_law_told_right" (defArgs (top 35)) (defBody (top 35)) (defScope (top 35)) [] [] f fd) : ∀ j, j ≤ g__law_told_right.dfl.length → ∃ ds, Vals ((g__law_told_right.dfl.drop j).map dV) ds ∧ Binds K fd g__law_told_right.ps ds :=
  bd0 F fun _ _ _ _ _ _ us hl => match us, hl with | [_, _, _, _], _ => rfl
theorem bd_law {K : Frag} {f : Addr} {fd : FuncData} (F : FunD K "law" "law" (defArgs (top 37)) (defBody (top 37)) (defScope (top 37)) [] [] f fd) : ∀ j, j ≤ g_law.dfl.length → ∃ ds, Vals ((g_law.dfl.drop j).map dV) ds ∧ Binds K fd g_law.ps ds :=
  bd0 F fun _ _ _ _ _ _ us hl => match us, hl with | [_], _ => rfl
theorem made {P : Program} {w : World} {K : Frag} {h : Heap} {mg : Str → Option Value} (X : K.In h) (Gh : h.Ns mainGlobals mg) (c : He.SaysD hfa hfn K) :
    ∃ fd : FuncData, (∀ (s : Shared) (u : Value), BindsTo s fd ⟨[u], []⟩ [("script", u)]) ∧ ∀ base : Heap, FnG P w K mg base 23 (He.fAd K ("law", none)) fd ["script"] (spOf K F_law) := by
  obtain ⟨fd0, F0'⟩ := c.def_ 0 (d := dd__law_source) rfl
  have F0 : FunD K "_law_source" "_law_source" (defArgs (top 27)) (defBody (top 27)) (defScope (top 27)) [] [] (He.fAd K ("_law_source", none)) fd0 := F0'
  have m0 : mg "_law_source" = some (.ref (He.fAd K ("_law_source", none))) := He.glo_ok X Gh (c.fact 0 (f := .glo "_law_source") rfl)
  obtain ⟨fd1, F1'⟩ := c.def_ 1 (d := dd__law_draw) rfl
  have F1 : FunD K "_law_draw" "_law_draw" (defArgs (top 28)) (defBody (top 28)) (defScope (top 28)) [] [] (He.fAd K ("_law_draw", none)) fd1 := F1'
  have m1 : mg "_law_draw" = some (.ref (He.fAd K ("_law_draw", none))) := He.glo_ok X Gh (c.fact 1 (f := .glo "_law_draw") rfl)
  obtain ⟨fd2, F2'⟩ := c.def_ 2 (d := dd__law_lot) rfl
  have F2 : FunD K "_law_lot" "_law_lot" (defArgs (top 29)) (defBody (top 29)) (defScope (top 29)) [] [] (He.fAd K ("_law_lot", none)) fd2 := F2'
  have m2 : mg "_law_lot" = some (.ref (He.fAd K ("_law_lot", none))) := He.glo_ok X Gh (c.fact 2 (f := .glo "_law_lot") rfl)
  obtain ⟨fd3, F3'⟩ := c.def_ 3 (d := dd__law_line) rfl
  have F3 : FunD K "_law_line" "_law_line" (defArgs (top 30)) (defBody (top 30)) (defScope (top 30)) [] [] (He.fAd K ("_law_line", none)) fd3 := F3'
  have m3 : mg "_law_line" = some (.ref (He.fAd K ("_law_line", none))) := He.glo_ok X Gh (c.fact 3 (f := .glo "_law_line") rfl)
  obtain ⟨fd4, F4'⟩ := c.def_ 4 (d := dd__law_later) rfl
  have F4 : FunD K "_law_later" "_law_later" (defArgs (top 31)) (defBody (top 31)) (defScope (top 31)) [] [] (He.fAd K ("_law_later", none)) fd4 := F4'
  have m4 : mg "_law_later" = some (.ref (He.fAd K ("_law_later", none))) := He.glo_ok X Gh (c.fact 4 (f := .glo "_law_later") rfl)
  obtain ⟨fd5, F5'⟩ := c.def_ 5 (d := dd__law_moves) rfl
  have F5 : FunD K "_law_moves" "_law_moves" (defArgs (top 34)) (defBody (top 34)) (defScope (top 34)) [] [] (He.fAd K ("_law_moves", none)) fd5 := F5'
  have m5 : mg "_law_moves" = some (.ref (He.fAd K ("_law_moves", none))) := He.glo_ok X Gh (c.fact 5 (f := .glo "_law_moves") rfl)
  obtain ⟨fd6, F6'⟩ := c.def_ 6 (d := dd__law_beat) rfl
  have F6 : FunD K "_law_beat" "_law_beat" (defArgs (top 32)) (defBody (top 32)) (defScope (top 32)) [] [] (He.fAd K ("_law_beat", none)) fd6 := F6'
  have m6 : mg "_law_beat" = some (.ref (He.fAd K ("_law_beat", none))) := He.glo_ok X Gh (c.fact 6 (f := .glo "_law_beat") rfl)
  obtain ⟨fd7, F7'⟩ := c.def_ 7 (d := dd__law_loads) rfl
  have F7 : FunD K "_law_loads" "_law_loads" (defArgs (top 33)) (defBody (top 33)) (defScope (top 33)) [] [] (He.fAd K ("_law_loads", none)) fd7 := F7'
  have m7 : mg "_law_loads" = some (.ref (He.fAd K ("_law_loads", none))) := He.glo_ok X Gh (c.fact 7 (f := .glo "_law_loads") rfl)
  obtain ⟨fd8, F8'⟩ := c.def_ 8 (d := dd__law_fitting) rfl
  have F8 : FunD K "_law_fitting" "_law_fitting" (defArgs (top 36)) (defBody (top 36)) (defScope (top 36)) [] [] (He.fAd K ("_law_fitting", none)) fd8 := F8'
  have m8 : mg "_law_fitting" = some (.ref (He.fAd K ("_law_fitting", none))) := He.glo_ok X Gh (c.fact 8 (f := .glo "_law_fitting") rfl)
  obtain ⟨fd9, F9'⟩ := c.def_ 9 (d := dd_is_integer) rfl
  have F9 : FunD K "is_integer" "is_integer" (defArgs (top 11)) (defBody (top 11)) (defScope (top 11)) [V.non, V.non] [] (He.fAd K ("is_integer", none)) fd9 := F9'
  have m9 : mg "is_integer" = some (.ref (He.fAd K ("is_integer", none))) := He.glo_ok X Gh (c.fact 9 (f := .glo "is_integer") rfl)
  obtain ⟨fd10, F10'⟩ := c.def_ 10 (d := dd_need_size) rfl
  have F10 : FunD K "need_size" "need_size" (defArgs (top 12)) (defBody (top 12)) (defScope (top 12)) [] [] (He.fAd K ("need_size", none)) fd10 := F10'
  have m10 : mg "need_size" = some (.ref (He.fAd K ("need_size", none))) := He.glo_ok X Gh (c.fact 10 (f := .glo "need_size") rfl)
  obtain ⟨fd11, F11'⟩ := c.def_ 11 (d := dd_is_cell) rfl
  have F11 : FunD K "is_cell" "is_cell" (defArgs (top 13)) (defBody (top 13)) (defScope (top 13)) [] [] (He.fAd K ("is_cell", none)) fd11 := F11'
  have m11 : mg "is_cell" = some (.ref (He.fAd K ("is_cell", none))) := He.glo_ok X Gh (c.fact 11 (f := .glo "is_cell") rfl)
  obtain ⟨fd12, F12'⟩ := c.def_ 12 (d := dd_cells_fault) rfl
  have F12 : FunD K "cells_fault" "cells_fault" (defArgs (top 14)) (defBody (top 14)) (defScope (top 14)) [] [] (He.fAd K ("cells_fault", none)) fd12 := F12'
  have m12 : mg "cells_fault" = some (.ref (He.fAd K ("cells_fault", none))) := He.glo_ok X Gh (c.fact 12 (f := .glo "cells_fault") rfl)
  obtain ⟨fd13, F13'⟩ := c.def_ 13 (d := dd_need_cells) rfl
  have F13 : FunD K "need_cells" "need_cells" (defArgs (top 15)) (defBody (top 15)) (defScope (top 15)) [] [] (He.fAd K ("need_cells", none)) fd13 := F13'
  have m13 : mg "need_cells" = some (.ref (He.fAd K ("need_cells", none))) := He.glo_ok X Gh (c.fact 13 (f := .glo "need_cells") rfl)
  obtain ⟨fd14, F14'⟩ := c.def_ 14 (d := dd_slots_fault) rfl
  have F14 : FunD K "slots_fault" "slots_fault" (defArgs (top 16)) (defBody (top 16)) (defScope (top 16)) [] [] (He.fAd K ("slots_fault", none)) fd14 := F14'
  have m14 : mg "slots_fault" = some (.ref (He.fAd K ("slots_fault", none))) := He.glo_ok X Gh (c.fact 14 (f := .glo "slots_fault") rfl)
  obtain ⟨fd15, F15'⟩ := c.def_ 15 (d := dd_check_crossings) rfl
  have F15 : FunD K "check_crossings" "check_crossings" (defArgs (top 17)) (defBody (top 17)) (defScope (top 17)) [] [] (He.fAd K ("check_crossings", none)) fd15 := F15'
  have m15 : mg "check_crossings" = some (.ref (He.fAd K ("check_crossings", none))) := He.glo_ok X Gh (c.fact 15 (f := .glo "check_crossings") rfl)
  obtain ⟨fd16, F16'⟩ := c.def_ 16 (d := dd_need_crossings) rfl
  have F16 : FunD K "need_crossings" "need_crossings" (defArgs (top 18)) (defBody (top 18)) (defScope (top 18)) [] [] (He.fAd K ("need_crossings", none)) fd16 := F16'
  have m16 : mg "need_crossings" = some (.ref (He.fAd K ("need_crossings", none))) := He.glo_ok X Gh (c.fact 16 (f := .glo "need_crossings") rfl)
  obtain ⟨fd17, F17'⟩ := c.def_ 17 (d := dd_need_rhythm) rfl
  have F17 : FunD K "need_rhythm" "need_rhythm" (defArgs (top 22)) (defBody (top 22)) (defScope (top 22)) [] [] (He.fAd K ("need_rhythm", none)) fd17 := F17'
  have m17 : mg "need_rhythm" = some (.ref (He.fAd K ("need_rhythm", none))) := He.glo_ok X Gh (c.fact 17 (f := .glo "need_rhythm") rfl)
  obtain ⟨fd18, F18'⟩ := c.def_ 18 (d := dd_loads_of) rfl
  have F18 : FunD K "loads_of" "loads_of" (defArgs (top 23)) (defBody (top 23)) (defScope (top 23)) [] [] (He.fAd K ("loads_of", none)) fd18 := F18'
  have m18 : mg "loads_of" = some (.ref (He.fAd K ("loads_of", none))) := He.glo_ok X Gh (c.fact 18 (f := .glo "loads_of") rfl)
  obtain ⟨fd19, F19'⟩ := c.def_ 19 (d := dd_fits_rhythm) rfl
  have F19 : FunD K "fits_rhythm" "fits_rhythm" (defArgs (top 24)) (defBody (top 24)) (defScope (top 24)) [] [] (He.fAd K ("fits_rhythm", none)) fd19 := F19'
  have m19 : mg "fits_rhythm" = some (.ref (He.fAd K ("fits_rhythm", none))) := He.glo_ok X Gh (c.fact 19 (f := .glo "fits_rhythm") rfl)
  obtain ⟨fd20, F20'⟩ := c.def_ 20 (d := dd_keeps_rhythm) rfl
  have F20 : FunD K "keeps_rhythm" "keeps_rhythm" (defArgs (top 25)) (defBody (top 25)) (defScope (top 25)) [] [] (He.fAd K ("keeps_rhythm", none)) fd20 := F20'
  have m20 : mg "keeps_rhythm" = some (.ref (He.fAd K ("keeps_rhythm", none))) := He.glo_ok X Gh (c.fact 20 (f := .glo "keeps_rhythm") rfl)
  obtain ⟨fd21, F21'⟩ := c.def_ 21 (d := dd__law_told_right) rfl
  have F21 : FunD K "_law_told_right" "_law_told_right" (defArgs (top 35)) (defBody (top 35)) (defScope (top 35)) [] [] (He.fAd K ("_law_told_right", none)) fd21 := F21'
  have m21 : mg "_law_told_right" = some (.ref (He.fAd K ("_law_told_right", none))) := He.glo_ok X Gh (c.fact 21 (f := .glo "_law_told_right") rfl)
  obtain ⟨fd22, F22'⟩ := c.def_ 22 (d := dd_law) rfl
  have F22 : FunD K "law" "law" (defArgs (top 37)) (defBody (top 37)) (defScope (top 37)) [] [] (He.fAd K ("law", none)) fd22 := F22'
  have m22 : mg "law" = some (.ref (He.fAd K ("law", none))) := He.glo_ok X Gh (c.fact 22 (f := .glo "law") rfl)
  refine ⟨fd22, fun s u => F22.bindsA (ps := ["script"]) (fun _ _ _ _ _ _ us hl => match us, hl with | [_], _ => rfl) s [u] rfl, fun base => ?_⟩
  have g0 : GOkP P w K mg base (G 0) Ph 0 := ⟨fun p hp => by
      simp only [G, nums, List.mem_cons, List.not_mem_nil, or_false] at hp
      rcases hp with rfl | rfl | rfl | rfl | rfl | rfl
      · exact He.int_ok X Gh (c.fact 23 rfl)
      · exact He.int_ok X Gh (c.fact 24 rfl)
      · exact He.int_ok X Gh (c.fact 25 rfl)
      · exact He.int_ok X Gh (c.fact 26 rfl)
      · exact He.int_ok X Gh (c.fact 27 rfl)
      · exact He.int_ok X Gh (c.fact 28 rfl)
    , fun x hx => by
      simp only [G, bis, List.mem_cons, List.not_mem_nil, or_false] at hx
      rcases hx with rfl | rfl | rfl | rfl | rfl | rfl | rfl | rfl | rfl | rfl | rfl | rfl | rfl | rfl
      · exact He.free_ok X Gh (c.fact 29 rfl)
      · exact He.free_ok X Gh (c.fact 30 rfl)
      · exact He.free_ok X Gh (c.fact 31 rfl)
      · exact He.free_ok X Gh (c.fact 32 rfl)
      · exact He.free_ok X Gh (c.fact 33 rfl)
      · exact He.free_ok X Gh (c.fact 34 rfl)
      · exact He.free_ok X Gh (c.fact 35 rfl)
      · exact He.free_ok X Gh (c.fact 36 rfl)
      · exact He.free_ok X Gh (c.fact 37 rfl)
      · exact He.free_ok X Gh (c.fact 38 rfl)
      · exact He.free_ok X Gh (c.fact 39 rfl)
      · exact He.free_ok X Gh (c.fact 40 rfl)
      · exact He.free_ok X Gh (c.fact 41 rfl)
      · exact He.free_ok X Gh (c.fact 42 rfl)
    , fun f hf => absurd (show f ∈ ([] : List GFn) from hf) List.not_mem_nil⟩
  have r0 : FnG P w K mg base 1 (He.fAd K ("_law_source", none)) fd0 g__law_source.ps (spOf K CA.F__law_source) := fnG_of F0 sc__law_source g0 chk__law_source (CA.law__law_source _)
  have g1 : GOkP P w K mg base (G 1) Ph 1 := GOkP.add (f := g__law_source) g0 r0 m0 F0.kp (bd__law_source F0) (fun p hp => no_kws hp)
  have r1 : FnG P w K mg base 2 (He.fAd K ("_law_draw", none)) fd1 g__law_draw.ps (spOf K CA.F__law_draw) := fnG_of F1 sc__law_draw g1 chk__law_draw (CA.law__law_draw _)
  have g2 : GOkP P w K mg base (G 2) Ph 2 := GOkP.add (f := g__law_draw) g1 r1 m1 F1.kp (bd__law_draw F1) (fun p hp => no_kws hp)
  have r2 : FnG P w K mg base 3 (He.fAd K ("_law_lot", none)) fd2 g__law_lot.ps (spOf K CA.F__law_lot) := fnG_of F2 sc__law_lot g2 chk__law_lot (CA.law__law_lot _)
  have g3 : GOkP P w K mg base (G 3) Ph 3 := GOkP.add (f := g__law_lot) g2 r2 m2 F2.kp (bd__law_lot F2) (fun p hp => no_kws hp)
  have r3 : FnG P w K mg base 4 (He.fAd K ("_law_line", none)) fd3 g__law_line.ps (spOf K CA.F__law_line) := fnG_of F3 sc__law_line g3 chk__law_line (CA.law__law_line _)
  have g4 : GOkP P w K mg base (G 4) Ph 4 := GOkP.add (f := g__law_line) g3 r3 m3 F3.kp (bd__law_line F3) (fun p hp => no_kws hp)
  have r4 : FnG P w K mg base 5 (He.fAd K ("_law_later", none)) fd4 g__law_later.ps (spOf K CA.F__law_later) := fnG_of F4 sc__law_later g4 chk__law_later (CA.law__law_later _)
  have g5 : GOkP P w K mg base (G 5) Ph 5 := GOkP.add (f := g__law_later) g4 r4 m4 F4.kp (bd__law_later F4) (fun p hp => no_kws hp)
  have r5 : FnG P w K mg base 6 (He.fAd K ("_law_moves", none)) fd5 g__law_moves.ps (spOf K F__law_moves) := fnG_of F5 sc__law_moves g5 chk__law_moves law__law_moves
  have g6 : GOkP P w K mg base (G 6) Ph 6 := GOkP.add (f := g__law_moves) g5 r5 m5 F5.kp (bd__law_moves F5) (fun p hp => no_kws hp)
  have r6 : FnG P w K mg base 7 (He.fAd K ("_law_beat", none)) fd6 g__law_beat.ps (spOf K CR.F__law_beat) := fnG_of F6 sc__law_beat g6 chk__law_beat (CR.law__law_beat _)
  have g7 : GOkP P w K mg base (G 7) Ph 7 := GOkP.add (f := g__law_beat) g6 r6 m6 F6.kp (bd__law_beat F6) (fun p hp => no_kws hp)
  have r7 : FnG P w K mg base 8 (He.fAd K ("_law_loads", none)) fd7 g__law_loads.ps (spOf K F__law_loads) := fnG_of F7 sc__law_loads g7 chk__law_loads law__law_loads
  have g8 : GOkP P w K mg base (G 8) Ph 8 := GOkP.add (f := g__law_loads) g7 r7 m7 F7.kp (bd__law_loads F7) (fun p hp => no_kws hp)
  have r8 : FnG P w K mg base 9 (He.fAd K ("_law_fitting", none)) fd8 g__law_fitting.ps (spOf K F__law_fitting) := fnG_of F8 sc__law_fitting g8 chk__law_fitting law__law_fitting
  have g9 : GOkP P w K mg base (G 9) Ph 9 := GOkP.add (f := g__law_fitting) g8 r8 m8 F8.kp (bd__law_fitting F8) (fun p hp => no_kws hp)
  have r9 : FnG P w K mg base 10 (He.fAd K ("is_integer", none)) fd9 g_is_integer.ps (spOf K CA.F_is_integer) := fnG_of F9 sc_is_integer g9 chk_is_integer (CA.law_is_integer _)
  have g10 : GOkP P w K mg base (G 10) Ph 10 := GOkP.add (f := g_is_integer) g9 r9 m9 F9.kp (bd_is_integer F9) (fun p hp => no_kws hp)
  have r10 : FnG P w K mg base 11 (He.fAd K ("need_size", none)) fd10 g_need_size.ps (spOf K CA.F_need_size) := fnG_of F10 sc_need_size g10 chk_need_size (CA.law_need_size _)
  have g11 : GOkP P w K mg base (G 11) Ph 11 := GOkP.add (f := g_need_size) g10 r10 m10 F10.kp (bd_need_size F10) (fun p hp => no_kws hp)
  have r11 : FnG P w K mg base 12 (He.fAd K ("is_cell", none)) fd11 g_is_cell.ps (spOf K CA.F_is_cell) := fnG_of F11 sc_is_cell g11 chk_is_cell (CA.law_is_cell _)
  have g12 : GOkP P w K mg base (G 12) Ph 12 := GOkP.add (f := g_is_cell) g11 r11 m11 F11.kp (bd_is_cell F11) (fun p hp => no_kws hp)
  have r12 : FnG P w K mg base 13 (He.fAd K ("cells_fault", none)) fd12 g_cells_fault.ps (spOf K CA.F_cells_fault) := fnG_of F12 sc_cells_fault g12 chk_cells_fault (CA.law_cells_fault _)
  have g13 : GOkP P w K mg base (G 13) Ph 13 := GOkP.add (f := g_cells_fault) g12 r12 m12 F12.kp (bd_cells_fault F12) (fun p hp => no_kws hp)
  have r13 : FnG P w K mg base 14 (He.fAd K ("need_cells", none)) fd13 g_need_cells.ps (spOf K CA.F_need_cells) := fnG_of F13 sc_need_cells g13 chk_need_cells (CA.law_need_cells _)
  have g14 : GOkP P w K mg base (G 14) Ph 14 := GOkP.add (f := g_need_cells) g13 r13 m13 F13.kp (bd_need_cells F13) (fun p hp => no_kws hp)
  have r14 : FnG P w K mg base 15 (He.fAd K ("slots_fault", none)) fd14 g_slots_fault.ps (spOf K CA.F_slots_fault) := fnG_of F14 sc_slots_fault g14 chk_slots_fault (CA.law_slots_fault _)
  have g15 : GOkP P w K mg base (G 15) Ph 15 := GOkP.add (f := g_slots_fault) g14 r14 m14 F14.kp (bd_slots_fault F14) (fun p hp => no_kws hp)
  have r15 : FnG P w K mg base 16 (He.fAd K ("check_crossings", none)) fd15 g_check_crossings.ps (spOf K CA.F_check_crossings) := fnG_of F15 sc_check_crossings g15 chk_check_crossings (CA.law_check_crossings _)
  have g16 : GOkP P w K mg base (G 16) Ph 16 := GOkP.add (f := g_check_crossings) g15 r15 m15 F15.kp (bd_check_crossings F15) (fun p hp => no_kws hp)
  have r16 : FnG P w K mg base 17 (He.fAd K ("need_crossings", none)) fd16 g_need_crossings.ps (spOf K CA.F_need_crossings) := fnG_of F16 sc_need_crossings g16 chk_need_crossings (CA.law_need_crossings _)
  have g17 : GOkP P w K mg base (G 17) Ph 17 := GOkP.add (f := g_need_crossings) g16 r16 m16 F16.kp (bd_need_crossings F16) (fun p hp => no_kws hp)
  have r17 : FnG P w K mg base 18 (He.fAd K ("need_rhythm", none)) fd17 g_need_rhythm.ps (spOf K CA.F_need_rhythm) := fnG_of F17 sc_need_rhythm g17 chk_need_rhythm (CA.law_need_rhythm _)
  have g18 : GOkP P w K mg base (G 18) Ph 18 := GOkP.add (f := g_need_rhythm) g17 r17 m17 F17.kp (bd_need_rhythm F17) (fun p hp => no_kws hp)
  have r18 : FnG P w K mg base 19 (He.fAd K ("loads_of", none)) fd18 g_loads_of.ps (spOf K F_loads_of) := fnG_of F18 sc_loads_of g18 chk_loads_of law_loads_of
  have g19 : GOkP P w K mg base (G 19) Ph 19 := GOkP.add (f := g_loads_of) g18 r18 m18 F18.kp (bd_loads_of F18) (fun p hp => no_kws hp)
  have r19 : FnG P w K mg base 20 (He.fAd K ("fits_rhythm", none)) fd19 g_fits_rhythm.ps (spOf K F_fits_rhythm) := fnG_of F19 sc_fits_rhythm g19 chk_fits_rhythm law_fits_rhythm
  have g20 : GOkP P w K mg base (G 20) Ph 20 := GOkP.add (f := g_fits_rhythm) g19 r19 m19 F19.kp (bd_fits_rhythm F19) (fun p hp => no_kws hp)
  have r20 : FnG P w K mg base 21 (He.fAd K ("keeps_rhythm", none)) fd20 g_keeps_rhythm.ps (spOf K F_keeps_rhythm) := fnG_of F20 sc_keeps_rhythm g20 chk_keeps_rhythm law_keeps_rhythm
  have g21 : GOkP P w K mg base (G 21) Ph 21 := GOkP.add (f := g_keeps_rhythm) g20 r20 m20 F20.kp (bd_keeps_rhythm F20) (kw_keeps_rhythm F20)
  have r21 : FnG P w K mg base 22 (He.fAd K ("_law_told_right", none)) fd21 g__law_told_right.ps (spOf K F__law_told_right) := fnG_of F21 sc__law_told_right g21 chk__law_told_right law__law_told_right
  have g22 : GOkP P w K mg base (G 22) Ph 22 := GOkP.add (f := g__law_told_right) g21 r21 m21 F21.kp (bd__law_told_right F21) (fun p hp => no_kws hp)
  have r22 : FnG P w K mg base 23 (He.fAd K ("law", none)) fd22 g_law.ps (spOf K F_law) := fnG_of F22 sc_law g22 chk_law law_law
  exact r22
end K13
open PySem PySem.W PySem.Calls PyProof.Rows
theorem PySem.Challenge.cw_idealtwin_k13_rhythms_kept_holds : PySem.Challenge.rw_idealtwin_k13_rhythms_kept.Holds := by
  w_on; o_law
  refine HandSHeadRun.head_any (r := OpenLaw.row PySem.Challenge.rw_idealtwin_k13_rhythms_kept) (q := view (OpenLaw.row PySem.Challenge.rw_idealtwin_k13_rhythms_kept).prog [37]) (H := K13.hk) (ob := K13.ob) (M := 4000) (loose := K13.names) (d := HandSHeadRun.topDef (OpenLaw.row PySem.Challenge.rw_idealtwin_k13_rhythms_kept).prog 37) (kwd := []) K13.ob_eq
    (by kernel_rfl) (fun s => by kernel_rfl) K13.run (by kernel_rfl) (by kernel_rfl) (by kernel_rfl) (by rfl) (by first | assumption | decide +kernel) (by decide +kernel) ⟨rfl, rfl, rfl, rfl, rfl, by decide +kernel⟩ ?hw ?hc
  case hw => w_witness2
  case hc =>
    refine DL.walk_dl (l := PySem.Challenge.rw_idealtwin_k13_rhythms_kept) (n := 63) (k := 23) (x := "script") (F := K13.F_law) rfl (by decide) (by kernel_rfl) ⟨rfl, by decide, by decide⟩ rfl rfl (fun ns h => ⟨ns, rfl, h, rfl⟩) ?_
    intro w mg fa h Y Gh hmg0
    obtain ⟨K, KX, c⟩ := Y
    have hmg : mg ("law" : PySem.Str) = some (.ref fa) := by
      have e : (HandSHeadRun.topDef (OpenLaw.row PySem.Challenge.rw_idealtwin_k13_rhythms_kept).prog 37).name = ("law" : PySem.Str) := by kernel_rfl
      rw [← e]
      exact hmg0
    obtain ⟨fd, hb, hF⟩ := K13.made (P := (PySem.Challenge.rw_idealtwin_k13_rhythms_kept).prog) (w := w) KX Gh c
    have e2 := hmg.symm.trans (He.glo_ok KX Gh (c.fact 22 (f := .glo "law") rfl))
    cases e2
    exact ⟨K, fd, KX, hb, fun base _ _ => hF base⟩


